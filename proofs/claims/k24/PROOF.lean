import PyProof.Rows.All
import Wide.All
import OpenK.AllK
import Wide.FinOn
import HandS.ForExc
import HandS.Comp
import HandS.Defaults
import HandS.IsInst
import HandS.Wide
import HandS.EndBits
import HandS.TryMany
import HandS.ExcField
import HandS.ExcInit
import HandS.Evl
import HandS.Gcd
import HandS.Nested
import HandS.FStr
import KE.KExcSuper
import HandS.ExcIs
import HandS.Walk
import HandS.Zip
import HandS.Dict
import HandS.DictComp
import HandS.WordsDict
import HandS.More
import HandS.SetFor
import HandS.Text
import HandS.Iter
import KE.IntTextLaws
import KE.KxField
import HandS.WideBits
import HandS.Style
import HandS.StrMore
import PyProof.Rows.StrPadFill
import PyProof.Rows.StrCut
import PySem.Challenge.RW_lendbook_k24_tokens_of_texts
set_option Elab.async false
set_option linter.all false
set_option maxRecDepth 100000
set_option maxHeartbeats 4000000
/-! own small rules over the hand layer -/
namespace LB
open PySem PySem.Spec PyProof.Rows L2
theorem bt_int : bootBuiltins "int" = some (.type "int") := by decide +kernel
theorem bt_bool : bootBuiltins "bool" = some (.type "bool") := by decide +kernel
theorem bt_str : bootBuiltins "str" = some (.type "str") := by decide +kernel
theorem bt_list : bootBuiltins "list" = some (.type "list") := by decide +kernel
theorem bt_tuple : bootBuiltins "tuple" = some (.type "tuple") := by decide +kernel
theorem bt_dict : bootBuiltins "dict" = some (.type "dict") := by decide +kernel
theorem bt_set : bootBuiltins "set" = some (.type "set") := by decide +kernel
theorem bt_range : bootBuiltins "range" = some (.type "range") := by decide +kernel
theorem bt_len : bootBuiltins "len" = some (.builtin "len") := by decide +kernel
theorem bt_abs : bootBuiltins "abs" = some (.builtin "abs") := by decide +kernel
theorem bt_isinstance : bootBuiltins "isinstance" = some (.builtin "isinstance") := by decide +kernel
theorem bt_sum : bootBuiltins "sum" = some (.builtin "sum") := by decide +kernel
theorem bt_min : bootBuiltins "min" = some (.builtin "min") := by decide +kernel
theorem bt_max : bootBuiltins "max" = some (.builtin "max") := by decide +kernel
theorem bt_sorted : bootBuiltins "sorted" = some (.builtin "sorted") := by decide +kernel
theorem bt_divmod : bootBuiltins "divmod" = some (.builtin "divmod") := by decide +kernel
theorem bt_any : bootBuiltins "any" = some (.builtin "any") := by decide +kernel
theorem bt_ValueError : bootBuiltins "ValueError" = some (.type "ValueError") := by decide +kernel
theorem bt_all : bootBuiltins "all" = some (.builtin "all") := by decide +kernel

/-! ### sizes of ints: i lies within n bits -/
structure Sz (n : Nat) (i : Int) : Prop where
  lt : i.natAbs < 2 ^ n
theorem Sz.log {n : Nat} {i : Int} (h : Sz n i) : i.natAbs.log2 ≤ n := by
  by_cases h0 : i.natAbs = 0
  · rw [h0]; exact Nat.zero_le _
  · exact Nat.le_of_lt ((Nat.log2_lt h0).mpr h.lt)
theorem Sz.zero (n : Nat) : Sz n 0 := ⟨Nat.pow_pos (by decide)⟩
theorem Sz.mono {m n : Nat} {i : Int} (h : Sz m i) (l : m ≤ n) : Sz n i := ⟨Nat.lt_of_lt_of_le h.lt (Nat.pow_le_pow_right (by decide) l)⟩
theorem Sz.add {m n : Nat} {i j : Int} (a : Sz m i) (b : Sz n j) : Sz (m + n + 1) (i + j) := by
  refine ⟨Nat.lt_of_le_of_lt (Int.natAbs_add_le i j) ?_⟩
  have h1 := (a.mono (Nat.le_add_right m n)).lt
  have h2 := (b.mono (Nat.le_add_left n m)).lt
  rw [Nat.pow_succ]
  omega
theorem Sz.neg {n : Nat} {i : Int} (a : Sz n i) : Sz n (-i) := ⟨by rw [Int.natAbs_neg]; exact a.lt⟩
theorem Sz.sub {m n : Nat} {i j : Int} (a : Sz m i) (b : Sz n j) : Sz (m + n + 1) (i - j) := by
  rw [Int.sub_eq_add_neg]
  exact a.add b.neg
theorem Sz.mul {m n : Nat} {i j : Int} (a : Sz m i) (b : Sz n j) : Sz (m + n) (i * j) := by
  refine ⟨?_⟩
  rw [Int.natAbs_mul, Nat.pow_add]
  exact Nat.mul_lt_mul'' a.lt b.lt
theorem Sz.le {n : Nat} {i j : Int} (a : Sz n j) (h : i.natAbs ≤ j.natAbs) : Sz n i := ⟨Nat.lt_of_le_of_lt h a.lt⟩
theorem Sz.div {n : Nat} {i j : Int} (a : Sz n i) : Sz n (i / j) := a.le (Int.natAbs_ediv_le_natAbs i j)
theorem Sz.mod {n : Nat} {i j : Int} (b : Sz n j) (h : 0 < j) : Sz n (i % j) := b.le (by
  have h1 := Int.emod_nonneg i (b := j) (by omega)
  have h2 := Int.emod_lt_of_pos i h
  omega)
theorem Sz.nn {n : Nat} {i j : Int} (b : Sz n j) (h0 : 0 ≤ i) (h : i ≤ j) : Sz n i := b.le (by omega)
theorem Sz.absv {n : Nat} {i : Int} (a : Sz n i) : Sz n (if i < 0 then -i else i) := by
  by_cases h : i < 0
  · rw [if_pos h]; exact a.neg
  · rw [if_neg h]; exact a
theorem Sz.bits {z : Int} {n : Nat} (h : Builtin.Int.intBits z ≤ n) : Sz n z := by
  refine ⟨?_⟩
  unfold Builtin.Int.intBits at h
  by_cases h0 : z = 0
  · subst h0
    exact Nat.pos_of_ne_zero (by simp)
  · have h1 : ¬ z.natAbs = 0 := by omega
    have h2 : z.natAbs.log2 + 1 ≤ n := by
      split at h
      · rename_i e
        first
          | exact absurd (by simpa using e) h0
          | omega
      · exact h
    exact (Nat.log2_lt h1).mp (by omega)

/-! ### products and quotients of any size -/
/-- a product that fits -/
def CM (i j : Int) : Prop := i.natAbs.log2 + j.natAbs.log2 < 134000000
theorem CM.ok {i j : Int} (h : CM i j) : IntMulOk i j := by
  have b : ∀ x : Int, Builtin.Int.intBits x ≤ x.natAbs.log2 + 1 := fun x => by
    unfold Builtin.Int.intBits
    split <;> omega
  have h1 := b i
  have h2 := b j
  have h3 : i.natAbs.log2 + j.natAbs.log2 < 134000000 := h
  have e := bitsLine_eq
  intro z
  have z2 := (Bool.and_eq_true_iff.mp z).2
  unfold Builtin.Int.intTooBig at z2
  have z3 := of_decide_eq_true z2
  rw [e] at z3
  omega
theorem CM.of {m n : Nat} {i j : Int} (a : Sz m i) (b : Sz n j) (h : m + n < 134000000 := by decide) : CM i j := by
  have h1 := a.log
  have h2 := b.log
  unfold CM
  omega
/-- a positive divisor of less than 9000 bits -/
def CD (_ j : Int) : Prop := 0 < j ∧ j.natAbs.log2 < 9000
theorem CD.of {n : Nat} {i j : Int} (h : 0 < j) (b : Sz n j) (hn : n < 9000 := by decide) : CD i j := ⟨h, Nat.lt_of_le_of_lt b.log hn⟩
theorem CM.of2 {m n : Nat} {i j : Int} (a : Sz m i) (b : Sz n j) (h : m + n < 134000000) : CM i j := CM.of a b h
theorem CD.of2 {n : Nat} {i j : Int} (b : Sz n j) (h : 0 < j) (hn : n < 9000) : CD i j := CD.of h b hn
theorem log2_mono {m n : Nat} (h : m ≤ n) : m.log2 ≤ n.log2 := by
  by_cases h0 : m = 0
  · rw [h0]; exact Nat.zero_le _
  · exact (Nat.le_log2 (by omega)).mpr (Nat.le_trans (Nat.log2_self_le h0) h)
theorem CM.rest {t b : Int} (c : CD t b) : CM 2 (t - t / b * b) := by
  obtain ⟨c1, c2⟩ := c
  have e : t - t / b * b = t % b := by
    have := Int.mul_ediv_add_emod t b
    rw [Int.mul_comm b] at this
    omega
  have h1 := Int.emod_nonneg t (b := b) (by omega)
  have h2 := Int.emod_lt_of_pos t c1
  have h3 := log2_mono (m := (t % b).natAbs) (n := b.natAbs) (by omega)
  show Nat.log2 2 + _ < _
  have h4 : Nat.log2 2 = 1 := by decide +kernel
  rw [e]
  omega
section
variable {X : Cx}
theorem op_mulB : OpR X (binaryOp .Mult) (rI CM fun i j => .int (i * j)) := opI fun _ _ _ _ _ _ _ hc q => mul_int q hc.ok
theorem op_fdivB : OpR X (binaryOp .FloorDiv) (rI CD fun i j => .int (i / j)) := op_fdivW
end

/-! ### the script's cells -/
def cell (ns : List Int) (i : Nat) : Int := ns.getD i 0
def Bits (ns : List Int) : Prop := ∀ z ∈ ns, Builtin.Int.intBits z ≤ 1048576
theorem cell_sz {ns : List Int} (h : Bits ns) (i : Nat) : Sz 1048576 (cell ns i) := by
  unfold cell
  rw [List.getD_eq_getElem?_getD]
  cases e : ns[i]? with
  | none => exact Sz.zero _
  | some z => exact Sz.bits (h z (List.mem_of_getElem? e))

theorem atI_map_cell {ns : List Int} {j : Nat} (h : j < ns.length) : atI (ns.map V.int) ((j : Nat) : Int) = some (V.int (cell ns j)) := by
  refine atI_nat ?_
  rw [List.getElem?_map, List.getElem?_eq_getElem h]
  unfold cell
  rw [List.getD_eq_getElem?_getD, List.getElem?_eq_getElem h]
  rfl
/-- the answer of isinstance(x, int) and not isinstance(x, bool), by the kind of x -/
def wholeV : V → Option Bool
  | .int _ => some true
  | .bl _ => some false
  | .str _ => some false
  | .non => some false
  | _ => none

/-! ### heaps that grow -/
theorem same_new {H H' : Hp} {p : Addr} {o : HO} (s : Same H H') (h : H' p = none) : Same H (upd H' p o) := fun b u e => by
  rw [upd_ne (ne_of_none (s b u e) h)]
  exact s b u e
theorem same_tup {K : PySem.W.Frag} {H H' : Hp} {a : Addr} {xs : List V} (e : Same H H') (h : SqT K H a xs) : SqT K H' a xs := Evl.ex_t e h
theorem same_lst {K : PySem.W.Frag} {H H' : Hp} {a : Addr} {xs : List V} (e : Same H H') (h : SqL K H a xs) : SqL K H' a xs := Evl.ex_l e h
theorem t_of {K : PySem.W.Frag} {H : Hp} {a : Addr} {xs : List V} (h : H a = some (.tup xs)) : SqT K H a xs := Or.inl (Or.inl h)
theorem l_of {K : PySem.W.Frag} {H : Hp} {a : Addr} {xs : List V} (h : H a = some (.lst xs)) : SqL K H a xs := Or.inl (Or.inl h)
theorem lst_upd {K : PySem.W.Frag} {H : Hp} {a p : Addr} {o : HO} {xs : List V} (e : H p = none) (h : SqL K H a xs) : SqL K (upd H p o) a xs := same_lst (same_new (Same.refl H) e) h
theorem tup_upd {K : PySem.W.Frag} {H : Hp} {a p : Addr} {o : HO} {xs : List V} (e : H p = none) (h : SqT K H a xs) : SqT K (upd H p o) a xs := same_tup (same_new (Same.refl H) e) h
/-- a law's promise: a list of at most 63 ints of at most 2^20 bits each is handed in, True comes out -/
def sp_law (K : PySem.W.Frag) : Sp := fun vs H Q _ => ∃ (a : Addr) (ns : List Int), vs = [.ref a] ∧ SqL K H a (ns.map V.int) ∧ ns.length ≤ 63 ∧ Bits ns ∧ ∀ H', Q (.bl true) H'
theorem passX {X : Cx} : Passes (L2.CX X.prog X.w) X E0 := fun _ _ _ _ _ _ _ h => by
  obtain ⟨_, _, _, _, _, _, _, _, _, _, _, _, z⟩ := h
  exact z.elim
theorem passXS {X : Cx} (σ : L2.St) : PassesAt (L2.CX X.prog X.w) X σ ((fun _ => E0 : L2.St → XK) σ) := fun _ _ _ _ _ _ h => by
  obtain ⟨_, _, _, _, _, _, _, _, _, _, _, _, z⟩ := h
  exact z.elim
theorem walk {l : PySem.W.OpenLaw} {k : Nat} {q : Program} {loose : List Str} {XP : (Str → Option Value) → Heap → Prop} {YP : World → Heap → Prop} {d : DefRec} {K : Params → PySem.W.Frag} (hn : l.most = some 63) (hdf : d.params.defaults = [])
    (hr : Room k callerA) (hY : ∀ (w : World) (h : Heap), YP w h → (K w.params).In h)
    (F : ∀ (w : World) (mg : Str → Option Value) (fa : Addr) (h : Heap), (K w.params).In h → h.Ns mainGlobals mg → mg d.name = some (.ref fa) →
      ∃ fd : FuncData, (∀ (s : Shared) (u : Value), BindsTo s fd ⟨[u], []⟩ [("script", u)]) ∧ ∀ base : Heap, (K w.params).In base → base.Ns mainGlobals mg → FnOk l.prog w (K w.params) mg base (L2.CX l.prog w) k fa fd ["script"] (sp_law (K w.params))) :
    PySem.W.WalkO q loose XP YP l.row.toRowW d [] (fun f vs => PySem.call f vs) :=
  L2.walk_ofB (n := 63) (k := k) (x := "script") (CX := fun w => L2.CX l.prog w) (sp := fun w => sp_law (K w.params)) hn (by decide) hdf hr hY F (fun _ _ a ns hl hb _ hS => ⟨a, ns, rfl, hS, hl, hb, fun _ => rfl⟩) fun _ _ _ _ _ h => by
    obtain ⟨_, _, _, _, _, _, _, _, _, _, _, _, z⟩ := h
    exact z.elim
/-- a def without defaults, as the top leaves it -/
theorem fun_of {K : PySem.W.Frag} {x qual : Str} {pa : Arguments} {bd : List Stmt} {sc : Scope} {f : Addr} {oc : Value} {od an : Option Addr} {osl : Array (Option Value)} {kV doc pm cdv ct : Value}
    (l : K.lookup f = some ⟨oc, od, .func (PySem.W.fnOf x qual pa bd sc .none kV doc pm an cdv ct), osl⟩) (c : PySem.W.codeIn K cdv qual = true) (k : PySem.W.keepIn K (.ref f) = true) :
    FunD K x qual pa bd sc [] [] f (PySem.W.fnOf x qual pa bd sc .none kV doc pm an cdv ct) := ⟨⟨oc, od, .none, kV, doc, pm, an, cdv, ct, osl, rfl, l, c, .inl ⟨rfl, rfl⟩, .inl rfl⟩, k⟩
/-! ### items by their place -/
section
variable {K : PySem.W.Frag} {H : Hp} {p : Addr} {xs : List V} {i : Int} {v : V} {Q : VK}
theorem ixT_go (h : SqT K H p xs) (e : atI xs i = some v) (q : Q v H) : rIxT K (.ref p) (.int i) H Q := ⟨p, xs, i, v, rfl, rfl, h, e, q⟩
theorem ixL_go (h : SqL K H p xs) (e : atI xs i = some v) (q : Q v H) : rIxL K (.ref p) (.int i) H Q := ⟨p, xs, i, v, rfl, rfl, h, e, q⟩
theorem ixUT_go (h : SqT K H p xs) (e : atI xs i = some v) (q : Q v H) : rIx K (.ref p) (.int i) H Q := .inr (.inl (ixT_go h e q))
theorem ixUL_go (h : SqL K H p xs) (e : atI xs i = some v) (q : Q v H) : rIx K (.ref p) (.int i) H Q := .inl (ixL_go h e q)
end
/-! ### ways -/
theorem iteD {p A B : Prop} [Decidable p] (h1 : p → A) (h2 : ¬ p → B) : if decide p = true then A else B := by
  by_cases h : p
  · rw [decide_eq_true h]; exact iteT (h1 h)
  · rw [decide_eq_false h]; exact iteF (h2 h)
theorem iteDN {p A B : Prop} [Decidable p] (h1 : ¬ p → A) (h2 : p → B) : if (!decide p) = true then A else B := by
  by_cases h : p
  · rw [decide_eq_true h]; exact iteF (h2 h)
  · rw [decide_eq_false h]; exact iteT (h1 h)
theorem iteI {x y : Int} {A B : Prop} (h1 : x = y → A) (h2 : x ≠ y → B) : if decide (V.int x = V.int y) = true then A else B :=
  iteD (fun h => h1 (V.int.inj h)) fun h => h2 fun e => h (congrArg V.int e)
theorem iteIN {x y : Int} {A B : Prop} (h1 : x ≠ y → A) (h2 : x = y → B) : if (!decide (V.int x = V.int y)) = true then A else B :=
  iteDN (fun h => h1 fun e => h (congrArg V.int e)) fun h => h2 (V.int.inj h)
theorem iteS {x y : Str} {A B : Prop} (h1 : x = y → A) (h2 : x ≠ y → B) : if decide (V.str x = V.str y) = true then A else B :=
  iteD (fun h => h1 (V.str.inj h)) fun h => h2 fun e => h (congrArg V.str e)
theorem iteSN {x y : Str} {A B : Prop} (h1 : x ≠ y → A) (h2 : x = y → B) : if (!decide (V.str x = V.str y)) = true then A else B :=
  iteDN (fun h => h1 fun e => h (congrArg V.str e)) fun h => h2 (V.str.inj h)
theorem iteLen {xs : List V} {y : Int} {A B : Prop} (e : ((xs.length : Nat) : Int) = y) (h : A) : if decide (V.int ((xs.length : Nat) : Int) = V.int y) = true then A else B := by
  subst e
  rw [decide_eq_true rfl]
  exact iteT h
theorem iteLenN {xs : List V} {y : Int} {A B : Prop} (e : ((xs.length : Nat) : Int) = y) (h : B) : if (!decide (V.int ((xs.length : Nat) : Int) = V.int y)) = true then A else B := by
  subst e
  rw [decide_eq_true rfl]
  exact iteF h
theorem iteB {b : Bool} {A B : Prop} (h1 : b = true → A) (h2 : b = false → B) : if b = true then A else B := by
  cases b
  · exact iteF (h2 rfl)
  · exact iteT (h1 rfl)
theorem iteBN {b : Bool} {A B : Prop} (h1 : b = false → A) (h2 : b = true → B) : if (!b) = true then A else B := by
  cases b
  · exact iteT (h1 rfl)
  · exact iteF (h2 rfl)
theorem q_int {Q : VK} {x y : Int} {H : Hp} (q : Q (.int x) H) (e : x = y) : Q (.int y) H := e ▸ q
theorem q_bl {Q : VK} {x y : Bool} {H : Hp} (q : Q (.bl x) H) (e : x = y) : Q (.bl y) H := e ▸ q
/-- a statement whose ways meet: P holds behind each of them -/
def tCut (t : TS) : TS := fun D σ H => ∃ W : L2.St → Hp → Prop, t { D with nx := W } σ H ∧ ∀ σ' H', W σ' H' → D.nx σ' H'
theorem ps_cut {X : Cx} {st : Stmt} {t : TS} (h : PS X st t) : PS X st (tCut t) := by
  refine ⟨fun pins s σ H D I hw => ?_⟩
  obtain ⟨W, h1, h2⟩ := hw
  refine thn (h.run pins s σ H _ I h1) fun f s' q => ?_
  cases f with
  | next =>
    obtain ⟨σ', H', I', q'⟩ := q
    exact ⟨σ', H', I', h2 σ' H' q'⟩
  | brk => exact q
  | cont => exact q
  | ret u => exact q
/-! ### what the top has written -/
def relB : V → Value → Bool
  | .non, .none => true
  | .bl b, .bool c => b == c
  | .int i, .int j _ => i == j
  | .str x, .str y _ => x == y
  | .ref a, .ref b => a == b
  | .ty n, .type m => n == m
  | _, _ => false
theorem relB_ok : ∀ {v : V} {u : Value}, relB v u = true → RelV v u
  | .non, .none, _ => rfl
  | .bl b, .bool c, h => by
    have e : b = c := by simpa [relB] using h
    rw [e]; exact rfl
  | .int i, .int j t, h => by
    have e : i = j := by simpa [relB] using h
    rw [e]; exact ⟨t, rfl⟩
  | .str x, .str y t, h => by
    have e : x = y := by simpa [relB] using h
    rw [e]; exact ⟨t, rfl⟩
  | .ref a, .ref b, h => by
    have e : a = b := by simpa [relB] using h
    rw [e]; exact rfl
  | .ty n, .type m, h => by
    have e : n = m := by simpa [relB] using h
    rw [e]; exact rfl
def valsB : List V → List Value → Bool
  | [], [] => true
  | v :: vs, u :: us => relB v u && valsB vs us
  | _, _ => false
theorem valsB_ok : ∀ {vs : List V} {us : List Value}, valsB vs us = true → Vals vs us
  | [], [], _ => .nil
  | v :: vs, u :: us, h => by
    have h2 := Bool.and_eq_true_iff.mp h
    exact .cons (relB_ok h2.1) (valsB_ok h2.2)
  | [], _ :: _, h => by cases h
  | _ :: _, [], h => by cases h
theorem tup_of {K : PySem.W.Frag} {H : Hp} {a : Addr} {od : Option Addr} {its : Array Value} {n : Nat} {sl : Array (Option Value)} {xs : List V} (l : K.lookup a = some ⟨.type "tuple", od, .seq its n, sl⟩) (v : valsB xs its.toList = true) (h : xs.length ≤ 1000 := by decide) : SqT K H a xs := by
  have r := valsB_ok v
  refine .inr ⟨_, its, n, l, rfl, rfl, ?_, r⟩
  have e : its.size = xs.length := by rw [r.length]; simp
  rw [e, sizeLine_eq]
  omega
/-- a def with defaults -/
theorem fun_ofD {K : PySem.W.Frag} {x qual : Str} {pa : Arguments} {bd : List Stmt} {sc : Scope} {f t : Addr} {oc : Value} {od an odt : Option Addr} {osl slt : Array (Option Value)} {kV doc pm cdv ct : Value} {its : Array Value} {n : Nat} {dvs : List V}
    (l : K.lookup f = some ⟨oc, od, .func (PySem.W.fnOf x qual pa bd sc (.ref t) kV doc pm an cdv ct), osl⟩) (c : PySem.W.codeIn K cdv qual = true) (k : PySem.W.keepIn K (.ref f) = true)
    (lt : K.lookup t = some ⟨.type "tuple", odt, .seq its n, slt⟩) (v : valsB dvs its.toList = true) (hd : dvs ≠ [] := by intro z; cases z) :
    FunD K x qual pa bd sc dvs [] f (PySem.W.fnOf x qual pa bd sc (.ref t) kV doc pm an cdv ct) := ⟨⟨oc, od, _, kV, doc, pm, an, cdv, ct, osl, rfl, l, c, .inr ⟨hd, t, _, its.toList, n, rfl, lt, by simp, valsB_ok v⟩, .inl rfl⟩, k⟩
section
variable {X : Cx} {CX : CXT} {k : Nat} {f : Addr} {fd : FuncData} {ps : List Str} {sp : Sp} {E : L2.St → XK} {x : Str} {p pos : Pos} {e : Expr} {es : List Expr} {t : TA} {dvs : List V}
def tCallD (sp : Sp) (dvs : List V) (E : L2.St → XK) (t : TA) : TE := fun σ H Q => t σ H fun vs H1 => sp (vs ++ dvs) H1 Q (E σ)
/-- f(e, ..), the defaults dvs fill up -/
theorem pe_callSD (F : FnOk X.prog X.w X.K X.mg X.base CX k f fd ps sp) (hr : Room k X.A) (hg : Gl X x) (hm : X.mg x = some (.ref f)) (hk : PySem.W.keepIn X.K (.ref f) = true) (hb : ∃ ds, Vals dvs ds ∧ Binds X.K fd ps ds) (hx : ∀ σ, PassesAt CX X σ (E σ))
    (ha : PA X (e :: es) t) (hdb : (x == ("__debug__" : Str)) = false := by decide) (he : starEach (e :: es) X.env = (false, eval e X.env) :: starEach es X.env := by rfl) (hpl : (backTo pos (starEach es X.env)).any (·.1) = false := by rfl) :
    PE X (.Call (.Name x p) (e :: es) [] pos) (tCallD sp dvs E t) := by
  obtain ⟨ds, hd, hb⟩ := hb
  refine ⟨fun pins s σ H Q I h => ?_⟩
  refine wpAny_Call_Name_kw (ld_glob I hg hm ?_ hdb)
  refine PySem.W.callWith_K (h₀ := X.base) I.ok.mod.kin hk (thn (ha.run pos pins s σ H _ I h) fun us s1 hh => ?_) he hpl
  obtain ⟨vs, H1, I1, r, q⟩ := hh
  have r2 : Vals (vs ++ dvs) (us ++ ds) := r.append hd
  refine ⟨I1.kIn, ?_⟩
  show wpAny _ _ (call (.ref f) us) _ _ _
  refine wpAny_call (codeAny_mono (F.run X.A X.stack s1 H1 ⟨us, []⟩ (us ++ ds) (vs ++ dvs) Q (E σ) hr I1.env0 (hb s1 us I1.kIn (r2.length.symm.trans (F.len _ _ _ _ q))) r2 q) fun rr s' hq => ?_)
  cases rr with
  | error e => exact hx σ pins H1 s1 e s' I1 hq
  | ok fl =>
    cases fl with
    | ret u => exact I1.after hq
    | next => exact False.elim hq
    | brk => exact False.elim hq
    | cont => exact False.elim hq
end
/-- one that stays behind a wall: nothing steps into it -/
structure Wall (p : Prop) : Prop where
  get : True → p
theorem wall {p : Prop} (h : p) : Wall p := ⟨fun _ => h⟩
theorem Wall.in_ {p q : Prop} (h : p → q) : Wall p → q := fun k => h (k.get trivial)
/-! ### == of flat lists and tuples -/
def pd : V → PyData
  | .bl b => .bool b
  | .int i => .int i
  | .str x => .str x
  | _ => .none
def okS (x : Str) : Bool := x.cps.toList.all fun c => Nat.blt c 0x110000
theorem okS_ok {x : Str} (h : okS x = true) : PyData.strOk x = true := by
  unfold PyData.strOk
  unfold okS at h
  rw [Array.all_toList] at h
  rw [← h]
  congr 1
  funext c
  show decide (c < 1114112) = Nat.blt c 1114112
  rw [Bool.eq_iff_iff, decide_eq_true_iff, Nat.blt_eq]
def flatS : V → Bool
  | .non => true
  | .bl _ => true
  | .int _ => true
  | .str x => okS x
  | _ => false
def eqL : List V → List V → Bool
  | [], [] => true
  | x :: xs, y :: ys => eqV x y && eqL xs ys
  | _, _ => false
theorem eqL_self : ∀ {xs : List V}, xs.all flatS = true → eqL xs xs = true
  | [], _ => rfl
  | x :: xs, h => by
    have h2 := Bool.and_eq_true_iff.mp (List.all_cons .. ▸ h)
    refine Bool.and_eq_true_iff.mpr ⟨?_, eqL_self h2.2⟩
    cases x <;> first | (exact absurd (show false = true from h2.1) Bool.false_ne_true) | simp [eqV]
theorem dp_pd {K : PySem.W.Frag} {H : Hp} : ∀ {x : V}, flatS x = true → Dp K H x (pd x)
  | .non, _ => .non
  | .bl b, _ => .bl b
  | .int i, _ => .int i
  | .str x, _ => .str x
  | .byt _, h => absurd (show false = true from h) Bool.false_ne_true
  | .flt _, h => absurd (show false = true from h) Bool.false_ne_true
  | .ref _, h => absurd (show false = true from h) Bool.false_ne_true
  | .ty _, h => absurd (show false = true from h) Bool.false_ne_true
theorem dpAll_pd {K : PySem.W.Frag} {H : Hp} : ∀ {xs : List V}, xs.all flatS = true → DpAll K H xs (xs.map pd)
  | [], _ => .nil
  | x :: xs, h => by
    have h2 := Bool.and_eq_true_iff.mp (List.all_cons .. ▸ h)
    exact .cons (dp_pd h2.1) (dpAll_pd h2.2)
theorem lay_pd : ∀ {x : V}, flatS x = true → (pd x).canLay0 = true ∧ (pd x).depth = 0 := fun {x} h => by
  cases x <;> first | (exact absurd (show false = true from h) Bool.false_ne_true) | (refine ⟨?_, ?_⟩ <;> simp only [pd, PyData.canLay0, PyData.depth]) 
  all_goals exact okS_ok h
theorem layAll_pd : ∀ {xs : List V}, xs.all flatS = true → PyData.canLayAll0 (xs.map pd) = true ∧ PyData.depthAll (xs.map pd) = 0
  | [], _ => ⟨by simp only [List.map, PyData.canLayAll0], by simp only [List.map, PyData.depthAll]⟩
  | x :: xs, h => by
    have h2 := Bool.and_eq_true_iff.mp (List.all_cons .. ▸ h)
    have a := lay_pd h2.1
    have b := layAll_pd h2.2
    simp only [List.map, PyData.canLayAll0, PyData.depthAll, a.1, a.2, b.1, b.2]
    decide
theorem shaped_pd {xs : List V} (h : xs.all flatS = true) : SeqAt.shaped (.tuple (xs.map pd)) = true ∧ SeqAt.shaped (.list (xs.map pd)) = true := by
  have a := layAll_pd h
  unfold SeqAt.shaped
  simp only [PyData.canLay0, PyData.depth, a.1, a.2]
  decide
theorem eqv_pd : ∀ {x y : V}, flatS x = true → flatS y = true → PyData.eqv (pd x) (pd y) = eqV x y := fun {x y} hx hy => by
  cases x <;> first | (exact absurd (show false = true from hx) Bool.false_ne_true) | skip
  all_goals cases y <;> first | (exact absurd (show false = true from hy) Bool.false_ne_true) | (simp only [pd, PyData.eqv, eqV])
theorem eqvAll_pd : ∀ {xs ys : List V}, xs.all flatS = true → ys.all flatS = true → PyData.eqvAll (xs.map pd) (ys.map pd) = eqL xs ys
  | [], [], _, _ => by simp only [List.map, PyData.eqvAll, eqL]
  | [], _ :: _, _, _ => by simp only [List.map, PyData.eqvAll, eqL]
  | _ :: _, [], _, _ => by simp only [List.map, PyData.eqvAll, eqL]
  | x :: xs, y :: ys, h, k => by
    have h2 := Bool.and_eq_true_iff.mp (List.all_cons .. ▸ h)
    have k2 := Bool.and_eq_true_iff.mp (List.all_cons .. ▸ k)
    simp only [List.map, PyData.eqvAll, eqL, eqv_pd h2.1 k2.1, eqvAll_pd h2.2 k2.2]
section
variable {K : PySem.W.Frag} {H : Hp} {a b : Addr} {xs ys : List V} {Q : VK}
theorem eqD_T (h1 : SqT K H a xs) (h2 : SqT K H b ys) (f1 : xs.all flatS = true) (f2 : ys.all flatS = true) (q : Q (.bl (eqL xs ys)) H) : rEqD K (.ref a) (.ref b) H Q := by
  refine ⟨_, _, .tup h1 (dpAll_pd f1), .tup h2 (dpAll_pd f2), (shaped_pd f1).1, (shaped_pd f2).1, ?_⟩
  simp only [PyData.eqv, eqvAll_pd f1 f2]
  exact q
theorem neD_T (h1 : SqT K H a xs) (h2 : SqT K H b ys) (f1 : xs.all flatS = true) (f2 : ys.all flatS = true) (q : Q (.bl (!eqL xs ys)) H) : rNeD K (.ref a) (.ref b) H Q := by
  refine ⟨_, _, .tup h1 (dpAll_pd f1), .tup h2 (dpAll_pd f2), (shaped_pd f1).1, (shaped_pd f2).1, ?_⟩
  simp only [PyData.eqv, eqvAll_pd f1 f2]
  exact q
theorem eqD_L (h1 : SqL K H a xs) (h2 : SqL K H b ys) (f1 : xs.all flatS = true) (f2 : ys.all flatS = true) (q : Q (.bl (eqL xs ys)) H) : rEqD K (.ref a) (.ref b) H Q := by
  refine ⟨_, _, .lst h1 (dpAll_pd f1), .lst h2 (dpAll_pd f2), (shaped_pd f1).2, (shaped_pd f2).2, ?_⟩
  simp only [PyData.eqv, eqvAll_pd f1 f2]
  exact q
theorem neD_L (h1 : SqL K H a xs) (h2 : SqL K H b ys) (f1 : xs.all flatS = true) (f2 : ys.all flatS = true) (q : Q (.bl (!eqL xs ys)) H) : rNeD K (.ref a) (.ref b) H Q := by
  refine ⟨_, _, .lst h1 (dpAll_pd f1), .lst h2 (dpAll_pd f2), (shaped_pd f1).2, (shaped_pd f2).2, ?_⟩
  simp only [PyData.eqv, eqvAll_pd f1 f2]
  exact q
/-- the same items: equal -/
theorem eqD_TT (h1 : SqT K H a xs) (h2 : SqT K H b ys) (e : xs = ys) (f : xs.all flatS = true) (q : Q (.bl true) H) : rEqD K (.ref a) (.ref b) H Q := by
  subst e
  exact eqD_T h1 h2 f f ((eqL_self f).symm ▸ q)
theorem neD_TT (h1 : SqT K H a xs) (h2 : SqT K H b ys) (e : xs = ys) (f : xs.all flatS = true) (q : Q (.bl false) H) : rNeD K (.ref a) (.ref b) H Q := by
  subst e
  exact neD_T h1 h2 f f (by rw [eqL_self f]; exact q)
theorem eqD_LL (h1 : SqL K H a xs) (h2 : SqL K H b ys) (e : xs = ys) (f : xs.all flatS = true) (q : Q (.bl true) H) : rEqD K (.ref a) (.ref b) H Q := by
  subst e
  exact eqD_L h1 h2 f f ((eqL_self f).symm ▸ q)
theorem neD_LL (h1 : SqL K H a xs) (h2 : SqL K H b ys) (e : xs = ys) (f : xs.all flatS = true) (q : Q (.bl false) H) : rNeD K (.ref a) (.ref b) H Q := by
  subst e
  exact neD_L h1 h2 f f (by rw [eqL_self f]; exact q)
end
/-! ### isinstance -/
theorem tyx_t {K : PySem.W.Frag} {H : Hp} {a : Addr} {xs : List V} (h : SqT K H a xs) : TyX K H (.ref a) (.type "tuple") := by
  rcases h with (h | ⟨o, h⟩) | ⟨o, its, n, h1, h2, _⟩
  · exact .base (.tup h)
  · exact .fTuple h
  · exact .kTuple h1 h2
theorem tyx_l {K : PySem.W.Frag} {H : Hp} {a : Addr} {xs : List V} (h : SqL K H a xs) : TyX K H (.ref a) (.type "list") := by
  rcases h with (h | ⟨o, h⟩) | ⟨o, its, n, h1, h2, _⟩
  · exact .base (.lst h)
  · exact .base (.frz h)
  · exact .kList h1 h2
@[irreducible] def rIs (K : PySem.W.Frag) : List V → Hp → VK → Prop := fun xs H Q => rIsi K xs H Q
theorem call_is {X : Cx} : CallR X (.builtin "isinstance") (rIs X.K) := fun pins s σ H xs us Q I r h => call_isi pins s σ H xs us Q I r (by unfold rIs at h; exact h)
theorem isi_go {K : PySem.W.Frag} {H : Hp} {x : V} {a b : String} {r : Bool} {Q : VK} (h : TyX K H x (.type a)) (k : kitB a b = some r) (q : Q (.bl r) H) : rIs K [x, .ty b] H Q := by
  unfold rIs
  exact ⟨_, _, _, _, r, rfl, .ty _, h, kit_ty k, q⟩
theorem not_pos {b : Bool} (h : b = false) : (!b) = true := by rw [h]; rfl
def any1 : List V → Prop := fun _ => True
/-! ### len -/
@[irreducible] def rLn (K : PySem.W.Frag) : List V → Hp → VK → Prop := fun xs H Q => ∃ p ys, xs = [.ref p] ∧ (SqL K H p ys ∨ SqT K H p ys) ∧ Q (.int ys.length) H
theorem call_ln {X : Cx} : CallR X (.builtin "len") (rLn X.K) := fun pins s σ H xs us Q I r h => call_len_seq pins s σ H xs us Q I r (by unfold rLn at h; exact h)
section
variable {K : PySem.W.Frag} {H : Hp} {p : Addr} {ys : List V} {Q : VK}
theorem ln_t (h : SqT K H p ys) (q : Q (.int ys.length) H) : rLn K [.ref p] H Q := by
  unfold rLn
  exact ⟨_, _, rfl, .inr h, q⟩
theorem ln_l (h : SqL K H p ys) (q : Q (.int ys.length) H) : rLn K [.ref p] H Q := by
  unfold rLn
  exact ⟨_, _, rfl, .inl h, q⟩
end
theorem same_set {H H' : Hp} {p : Addr} {o : HO} (s : Same H H') (h : H p = none) : Same H (upd H' p o) := fun b u e => by
  have hb : b ≠ p := fun z => by
    rw [z, h] at e
    cases e
  rw [upd_ne hb]
  exact s b u e
theorem map_len {α : Type} {f : α → V} {xs : List α} : (((xs.map f).length : Nat) : Int) = ((xs.length : Nat) : Int) := by rw [List.length_map]
theorem range_snoc {f : Nat → Int} {i : Nat} {y : Int} (e : f i = y) : ((List.range i).map f).map V.int ++ [V.int y] = ((List.range (i + 1)).map f).map V.int := by
  subst e
  rw [List.range_succ, List.map_append, List.map_append]
  rfl
theorem atI_map {ns : List Int} {j : Nat} (h : j < ns.length) : atI (ns.map V.int) (0 + ((j : Nat) : Int)) = some (V.int (ns.getD j 0)) := by
  rw [Int.zero_add]
  exact atI_map_cell h
/-! ### methods of lists -/
@[irreducible] def rApp : V → List V → Hp → VK → Prop := fun x vs H Q => rAppend x vs H Q
theorem mt_app {X : Cx} : MtM X "list.append" rApp := fun pins s σ H x vs v us Q I rx rv h => mt_append pins s σ H x vs v us Q I rx rv (by unfold rApp at h; exact h)
theorem app_go {H : Hp} {l : Addr} {xs : List V} {y : V} {Q : VK} (e : H l = some (.lst xs)) (hl : xs.length < sizeLine) (q : Q .non (upd H l (.lst (xs ++ [y])))) : rApp (.ref l) [y] H Q := by
  unfold rApp
  exact ⟨l, xs, y, rfl, rfl, e, hl, q⟩
theorem ty_l {K : PySem.W.Frag} {H : Hp} {p : Addr} {xs : List V} (h : SqL K H p xs) : tyV K "list" (.ref p) H := .inl ⟨rfl, _, h⟩
theorem ty_s {K : PySem.W.Frag} {H : Hp} {z : Str} : tyV K "str" (.str z) H := rfl
theorem ty_d {K : PySem.W.Frag} {H : Hp} {p : Addr} {kvs : List (Key × V)} (h : H p = some (.dK kvs)) : tyV K "dict" (.ref p) H := .inr (.inr (.inl ⟨rfl, .inl ⟨_, h⟩⟩))
/-! ### a call that writes all parameters, the last ones by name -/
section
variable {K : PySem.W.Frag} {x qual : Str} {params : Arguments} {body : List Stmt} {scope : Scope} {dvs : List V} {kws : List (Str × V)} {f : Addr} {fd : FuncData} {ps : List Str}
theorem kb_all (F : FunD K x qual params body scope dvs kws f fd) (n : Nat) (ks : List Str) (hd : dvs ≠ [])
    (h : ∀ (T : Addr) (kV doc pm : Value) (an : Option Addr) (cdv ct : Value) (us its ws : List Value), us.length = n → its.length = dvs.length → ws.length = ks.length →
      ∃ k, bindArgs (PySem.W.fnOf x qual params body scope (.ref T) kV doc pm an cdv ct) ⟨us, ks.zip ws⟩ = seqItems? (.ref T) >>= k ∧ k (some its.toArray) = pure (ps.zip (us ++ ws))) :
    KBn K fd ps n ks (fun us ws => us ++ ws) (fun vs zs => vs ++ zs) := by
  obtain ⟨oc, od, dV, kV, doc, pm, an, cdv, ct, osl, rfl, lk, hcd, hD, hK⟩ := F.ex
  rcases hD with ⟨e, _⟩ | ⟨_, t, o, its, m, rfl, lT, oT, rT⟩
  · exact absurd e hd
  · refine ⟨fun s us ws X l1 l2 => ?_, fun r1 r2 => r1.append r2⟩
    obtain ⟨k, e1, e2⟩ := h t kV doc pm an cdv ct us its ws l1 rT.length.symm l2
    refine BindsTo.of_looks fun M => ?_
    rw [e1]
    exact looks_items X lT oT (.of_pure e2)
end
/-! ### a, b, c = pair -/
theorem gTup_go {K : PySem.W.Frag} {n : Nat} {t : TGs} {a : Addr} {xs : List V} {σ : L2.St} {H : Hp} {Q : L2.St → Hp → Prop} (h : SqT K H a xs) (l : xs.length = n) (q : t xs σ H Q) : gTup K n t (.ref a) σ H Q := ⟨a, xs, rfl, h, l, q⟩
theorem gCons_go {t : TG} {u : TGs} {v : V} {r : List V} {σ : L2.St} {H : Hp} {Q : L2.St → Hp → Prop} (q : t v σ H fun σ' H' => u r σ' H' Q) : gCons t u (v :: r) σ H Q := ⟨v, r, rfl, q⟩
theorem gNil_go {σ : L2.St} {H : Hp} {Q : L2.St → Hp → Prop} (q : Q σ H) : gNil [] σ H Q := ⟨rfl, q⟩
/-! ### min and max of two -/
@[irreducible] def rMn : List V → Hp → VK → Prop := fun xs H Q => ∃ i j, xs = [.int i, .int j] ∧ Q (.int (if j < i then j else i)) H
@[irreducible] def rMx : List V → Hp → VK → Prop := fun xs H Q => ∃ i j, xs = [.int i, .int j] ∧ Q (.int (if i < j then j else i)) H
theorem call_mn {X : Cx} (hc : X.calm = true) : CallR X (.builtin "min") rMn := fun pins s σ H xs us Q I r h => call_min2 hc pins s σ H xs us Q I r (by unfold rMn at h; exact h)
theorem call_mx {X : Cx} (hc : X.calm = true) : CallR X (.builtin "max") rMx := fun pins s σ H xs us Q I r h => call_max2 hc pins s σ H xs us Q I r (by unfold rMx at h; exact h)
theorem mn_go {i j : Int} {H : Hp} {Q : VK} (q : Q (.int (if j < i then j else i)) H) : rMn [.int i, .int j] H Q := by
  unfold rMn
  exact ⟨i, j, rfl, q⟩
theorem mx_go {i j : Int} {H : Hp} {Q : VK} (q : Q (.int (if i < j then j else i)) H) : rMx [.int i, .int j] H Q := by
  unfold rMx
  exact ⟨i, j, rfl, q⟩
theorem atI_ex (xs : List Int) {i : Int} (h0 : 0 ≤ i) (h1 : i < (xs.length : Nat)) : ∃ z, z ∈ xs ∧ atI (xs.map V.int) i = some (V.int z) := by
  obtain ⟨n, rfl⟩ : ∃ n : Nat, i = n := ⟨i.toNat, by omega⟩
  have hn : n < xs.length := by omega
  refine ⟨xs[n], List.getElem_mem hn, ?_⟩
  refine atI_nat ?_
  rw [List.getElem?_map, List.getElem?_eq_getElem hn]
  rfl
/-! ### x in xs, flat -/
@[irreducible] def rInS (K : PySem.W.Frag) (neg : Bool) : R2 := fun x y H Q => rIn K neg x y H Q
theorem op_inS {X : Cx} : OpR X (compareOp .In) (rInS X.K false) := fun pins s σ H x y v u Q I rx ry h => op_in_seq pins s σ H x y v u Q I rx ry (by unfold rInS at h; exact h)
theorem op_notInS {X : Cx} : OpR X (compareOp .NotIn) (rInS X.K true) := fun pins s σ H x y v u Q I rx ry h => op_notIn_seq pins s σ H x y v u Q I rx ry (by unfold rInS at h; exact h)
section
variable {K : PySem.W.Frag} {H : Hp} {p : Addr} {x : V} {xs : List V} {Q : VK}
theorem inT_go (h : SqT K H p xs) (fx : flatV x = true) (fs : xs.all flatV = true) (q : Q (.bl (inV x xs)) H) : rInS K false x (.ref p) H Q := by
  unfold rInS
  exact ⟨p, xs, rfl, .inr h, fx, fs, q⟩
theorem inL_go (h : SqL K H p xs) (fx : flatV x = true) (fs : xs.all flatV = true) (q : Q (.bl (inV x xs)) H) : rInS K false x (.ref p) H Q := by
  unfold rInS
  exact ⟨p, xs, rfl, .inl h, fx, fs, q⟩
theorem niT_go (h : SqT K H p xs) (fx : flatV x = true) (fs : xs.all flatV = true) (q : Q (.bl (!inV x xs)) H) : rInS K true x (.ref p) H Q := by
  unfold rInS
  exact ⟨p, xs, rfl, .inr h, fx, fs, q⟩
theorem niL_go (h : SqL K H p xs) (fx : flatV x = true) (fs : xs.all flatV = true) (q : Q (.bl (!inV x xs)) H) : rInS K true x (.ref p) H Q := by
  unfold rInS
  exact ⟨p, xs, rfl, .inl h, fx, fs, q⟩
end
/-! ### == of two pairs (text, tuple) -/
theorem eqD_nest {K : PySem.W.Frag} {H : Hp} {a b p q : Addr} {s : Str} {xs : List V} {Q : VK} (h1 : SqT K H a [.str s, .ref p]) (h2 : SqT K H b [.str s, .ref q]) (hp : SqT K H p xs) (hq : SqT K H q xs) (hs : okS s = true) (f : xs.all flatS = true) (k : Q (.bl true) H) : rEqD K (.ref a) (.ref b) H Q := by
  have e := layAll_pd f
  have sh : SeqAt.shaped (.tuple [.str s, .tuple (xs.map pd)]) = true := by
    unfold SeqAt.shaped
    simp only [PyData.canLay0, PyData.canLayAll0, PyData.depth, PyData.depthAll, e.1, e.2, okS_ok hs]
    decide
  refine ⟨_, _, .tup h1 (.cons (.str s) (.cons (.tup hp (dpAll_pd f)) .nil)), .tup h2 (.cons (.str s) (.cons (.tup hq (dpAll_pd f)) .nil)), sh, sh, ?_⟩
  rw [SeqAt.eqv_refl _ (SeqAt.canLay_of_shaped sh)]
  exact k
/-! ### xs[i] = v -/
@[irreducible] def rSetLi : V → V → V → Hp → (Hp → Prop) → Prop := fun o i v H Q => rSetL o i v H Q
theorem set_li {X : Cx} : PSet X rSetLi := fun pins s σ H o i v ov iv u Q I ro ri rv h => set_list pins s σ H o i v ov iv u Q I ro ri rv (by unfold rSetLi at h; exact h)
theorem setL_go {H : Hp} {p : Addr} {xs : List V} {k : Int} {j : Nat} {v : V} {Q : Hp → Prop} (h : H p = some (.lst xs)) (e : ixN xs.length k = some j) (q : Q (upd H p (.lst (xs.set j v)))) : rSetLi (.ref p) (.int k) v H Q := by
  unfold rSetLi
  exact ⟨p, xs, k, j, rfl, rfl, h, e, q⟩
/-! ### slices -/
section
variable {K : PySem.W.Frag} {H : Hp} {p : Addr} {xs : List V} {lo hi : Option Int} {Q : VK}
theorem slL_go (h : SqL K H p xs) (q : ∀ r, H r = none → Q (.ref r) (upd H r (.lst (cutV xs lo hi)))) : rSlL K (.ref p) lo hi H Q := ⟨p, xs, rfl, h, q⟩
end
/-! ### comprehensions over a list -/
theorem upd_upd {H : Hp} {a : Addr} {o o' : HO} : upd (upd H a o) a o' = upd H a o' := by
  funext b
  by_cases e : b = a
  · subst e
    rw [upd_same, upd_same]
  · rw [upd_ne e, upd_ne e, upd_ne e]
theorem hp_upd {H : Hp} {a p : Addr} {o o' : HO} (e : H p = none) (h : H a = some o) : upd H p o' a = some o := (upd_ne (ne_of_none h e)).trans h
section
variable {K : PySem.W.Frag} {a D : Addr} {g : TG} {tt : TT} {te : TE} {vs : List Nat} {σ : L2.St} {H1 : Hp} {Qd : Hp → Prop}
/-- [x for x in ns if p x] -/
theorem lc_fil {ns : List Int} (p : Int → Bool) (hD : H1 D = none) (hl : SqL K H1 a (ns.map V.int)) (hn : ns.length < sizeLine)
    (hs : ∀ z H (N : Hp → Prop) acc, H D = some (.lst acc) → acc.length < sizeLine → (p z = true → N (upd H D (.lst (acc ++ [.int z])))) → (p z = false → N H) →
      g (.int z) (wipe σ vs) H fun σ2 H2 => wipe σ2 vs = wipe σ vs ∧ tt σ2 H2 fun b H3 => if b = true then te σ2 H3 fun y H4 => ∃ acc, H4 D = some (.lst acc) ∧ acc.length < sizeLine ∧ N (upd H4 D (.lst (acc ++ [y]))) else N H3)
    (hd : Qd (upd H1 D (.lst ((ns.filter p).map V.int)))) :
    ∃ W : Nat → Nat → Hp → Prop, (∃ m, W 0 m (upd H1 D (.lst []))) ∧ ∀ i m H, W i m H →
      ((Itl K a).stop i H ∧ Qd H) ∨ ((Itl K a).go i H ∧ ∃ Nx : Hp → Prop, (∀ H', Nx H' → ∃ m', m' < m ∧ W (i + 1) m' H') ∧ ∀ x H', (Itl K a).yld i H x H' → g x (wipe σ vs) H' fun σ2 H2 => wipe σ2 vs = wipe σ vs ∧ tt σ2 H2 fun b H3 =>
        if b = true then te σ2 H3 fun y H4 => ∃ acc, H4 D = some (.lst acc) ∧ acc.length < sizeLine ∧ Nx (upd H4 D (.lst (acc ++ [y]))) else Nx H3) := by
  refine lc_list (xs := ns.map V.int) (fun i H => H = upd H1 D (.lst (((ns.take i).filter p).map V.int))) rfl (fun i H _ e => e ▸ lst_upd hD hl) ?_ ?_
  · rintro i x H hx rfl
    rw [List.getElem?_map] at hx
    cases hz : ns[i]? with
    | none => rw [hz] at hx; cases hx
    | some z =>
      rw [hz] at hx
      cases hx
      have ht : ns.take (i + 1) = ns.take i ++ [z] := by rw [List.take_add_one, hz]; rfl
      refine hs z _ _ _ upd_same ?_ (fun c => ?_) (fun c => ?_)
      · rw [List.length_map]
        refine Nat.lt_of_le_of_lt (List.length_filter_le _ _) (Nat.lt_of_le_of_lt ?_ hn)
        rw [List.length_take]
        exact Nat.min_le_right _ _
      · rw [ht, List.filter_append, List.map_append, upd_upd]
        simp [c]
      · rw [ht, List.filter_append]
        simp [c]
  · rintro H rfl
    rw [List.length_map, List.take_length]
    exact hd
/-- [f x for x in xs] -/
theorem lc_mp {xs : List V} (f : V → V) (hD : H1 D = none) (hl : SqL K H1 a xs) (hn : xs.length < sizeLine)
    (hs : ∀ (i : Nat) (x : V) (H : Hp) (N : Hp → Prop) (acc : List V), xs[i]? = some x → Same H1 H → H D = some (.lst acc) → acc.length < sizeLine → (∀ H', Same H1 H' → H' D = some (.lst (acc ++ [f x])) → N H') →
      g x (wipe σ vs) H fun σ2 H2 => wipe σ2 vs = wipe σ vs ∧ tt σ2 H2 fun b H3 => if b = true then te σ2 H3 fun y H4 => ∃ acc, H4 D = some (.lst acc) ∧ acc.length < sizeLine ∧ N (upd H4 D (.lst (acc ++ [y]))) else N H3)
    (hd : ∀ H', Same H1 H' → H' D = some (.lst (xs.map f)) → Qd H') :
    ∃ W : Nat → Nat → Hp → Prop, (∃ m, W 0 m (upd H1 D (.lst []))) ∧ ∀ i m H, W i m H →
      ((Itl K a).stop i H ∧ Qd H) ∨ ((Itl K a).go i H ∧ ∃ Nx : Hp → Prop, (∀ H', Nx H' → ∃ m', m' < m ∧ W (i + 1) m' H') ∧ ∀ x H', (Itl K a).yld i H x H' → g x (wipe σ vs) H' fun σ2 H2 => wipe σ2 vs = wipe σ vs ∧ tt σ2 H2 fun b H3 =>
        if b = true then te σ2 H3 fun y H4 => ∃ acc, H4 D = some (.lst acc) ∧ acc.length < sizeLine ∧ Nx (upd H4 D (.lst (acc ++ [y]))) else Nx H3) := by
  refine lc_list (xs := xs) (fun i H => Same H1 H ∧ H D = some (.lst ((xs.take i).map f))) ⟨same_new (Same.refl _) hD, upd_same⟩ (fun i H _ e => same_lst e.1 hl) ?_ ?_
  · rintro i x H hx ⟨s, e⟩
    have ht : xs.take (i + 1) = xs.take i ++ [x] := by rw [List.take_add_one, hx]; rfl
    refine hs i x _ _ _ hx s e ?_ fun H' s' e' => ?_
    · rw [List.length_map, List.length_take]
      exact Nat.lt_of_le_of_lt (Nat.min_le_right _ _) hn
    · refine ⟨s', ?_⟩
      rw [ht, List.map_append]
      exact e'
  · rintro H ⟨s, e⟩
    rw [List.take_length] at e
    exact hd H s e
end
/-! ### comprehensions over a range -/
section
variable {D : Addr} {g : TG} {tt : TT} {te : TE} {vs : List Nat} {σ : L2.St} {H1 : Hp} {Qd : Hp → Prop}
theorem lc_rgm {n : Nat} (f : Nat → V) (hD : H1 D = none) (hn : n < sizeLine)
    (hs : ∀ (i : Nat) (H : Hp) (N : Hp → Prop) (acc : List V), i < n → Same H1 H → H D = some (.lst acc) → acc.length < sizeLine → (∀ H', Same H1 H' → H' D = some (.lst (acc ++ [f i])) → N H') →
      g (.int (0 + (i : Nat))) (wipe σ vs) H fun σ2 H2 => wipe σ2 vs = wipe σ vs ∧ tt σ2 H2 fun b H3 => if b = true then te σ2 H3 fun y H4 => ∃ acc, H4 D = some (.lst acc) ∧ acc.length < sizeLine ∧ N (upd H4 D (.lst (acc ++ [y]))) else N H3)
    (hd : ∀ H', Same H1 H' → H' D = some (.lst ((List.range n).map f)) → Qd H') :
    ∃ W : Nat → Nat → Hp → Prop, (∃ m, W 0 m (upd H1 D (.lst []))) ∧ ∀ i m H, W i m H →
      ((Itr 0 n).stop i H ∧ Qd H) ∨ ((Itr 0 n).go i H ∧ ∃ Nx : Hp → Prop, (∀ H', Nx H' → ∃ m', m' < m ∧ W (i + 1) m' H') ∧ ∀ x H', (Itr 0 n).yld i H x H' → g x (wipe σ vs) H' fun σ2 H2 => wipe σ2 vs = wipe σ vs ∧ tt σ2 H2 fun b H3 =>
        if b = true then te σ2 H3 fun y H4 => ∃ acc, H4 D = some (.lst acc) ∧ acc.length < sizeLine ∧ Nx (upd H4 D (.lst (acc ++ [y]))) else Nx H3) := by
  refine lc_range (fun i H => Same H1 H ∧ H D = some (.lst ((List.range i).map f))) ⟨same_new (Same.refl _) hD, upd_same⟩ ?_ fun H e => hd H e.1 e.2
  rintro i H hi ⟨s, e⟩
  refine hs i H _ _ hi s e ?_ fun H' s' e' => ⟨s', ?_⟩
  · rw [List.length_map, List.length_range]
    exact Nat.lt_trans hi hn
  · rw [List.range_succ, List.map_append]
    exact e'
end
theorem range_rep {n : Nat} {v : Int} : (List.range n).map (fun _ => V.int v) = (List.replicate n v).map V.int := by
  rw [List.map_const', List.length_range, List.map_replicate]
/-! ### max of a list -/
@[irreducible] def rMxl (K : PySem.W.Frag) : List V → Hp → VK → Prop := fun vs H Q => rMax K vs H Q
theorem call_mxl {X : Cx} (hc : X.calm = true) : CallR X (.builtin "max") (rMxl X.K) := fun pins s σ H xs us Q I r h => cr_max hc pins s σ H xs us Q I r (by unfold rMxl at h; exact h)
theorem mxl_go {K : PySem.W.Frag} {H : Hp} {p : Addr} {ns : List Int} {Q : VK} (h : SqL K H p (ns.map V.int)) (h0 : 0 < ns.length) (q : ∀ m, m ∈ ns → (∀ y, y ∈ ns → y ≤ m) → Q (.int m) H) : rMxl K [.ref p] H Q := by
  unfold rMxl
  exact ⟨p, ns, rfl, h, h0, q⟩
/-! ### x is True -/
@[irreducible] def rIsB : R2 := fun x y H Q => ∃ b c, x = .bl b ∧ y = .bl c ∧ Q (.bl (b == c)) H
@[irreducible] def rNotB : R2 := fun x y H Q => ∃ b c, x = .bl b ∧ y = .bl c ∧ Q (.bl (!(b == c))) H
section
variable {X : Cx} {b c : Bool} {H : Hp} {Q : VK}
theorem op_isB : OpR X (compareOp .Is) rIsB := fun pins s σ H x y v u Q I rx ry h => by
  unfold rIsB at h
  obtain ⟨b, c, rfl, rfl, q⟩ := h
  cases (show v = Value.bool b from rx)
  cases (show u = Value.bool c from ry)
  refine PySem.wpAny_is_plain rfl ⟨.bl (b == c), H, I, ?_, q⟩
  cases b <;> cases c <;> rfl
theorem op_notB : OpR X (compareOp .IsNot) rNotB := fun pins s σ H x y v u Q I rx ry h => by
  unfold rNotB at h
  obtain ⟨b, c, rfl, rfl, q⟩ := h
  cases (show v = Value.bool b from rx)
  cases (show u = Value.bool c from ry)
  refine PySem.wpAny_isNot_plain rfl ⟨.bl (!(b == c)), H, I, ?_, q⟩
  cases b <;> cases c <;> rfl
theorem isB_go (q : Q (.bl (b == c)) H) : rIsB (.bl b) (.bl c) H Q := by
  unfold rIsB
  exact ⟨b, c, rfl, rfl, q⟩
theorem notB_go (q : Q (.bl (!(b == c))) H) : rNotB (.bl b) (.bl c) H Q := by
  unfold rNotB
  exact ⟨b, c, rfl, rfl, q⟩
end
theorem tC_go {v : V} {σ : L2.St} {H : Hp} {Q : VK} (q : Q v H) : tC v σ H Q := q
theorem tNoPart_go {σ : L2.St} {H : Hp} {Q : Option Int → Hp → Prop} (q : Q none H) : tNoPart σ H Q := q
/-! ### list(xs) -/
@[irreducible] def rLo (K : PySem.W.Frag) : List V → Hp → VK → Prop := fun vs H Q => ∃ p xs, vs = [.ref p] ∧ (SqL K H p xs ∨ SqT K H p xs) ∧ ∀ l, H l = none → Q (.ref l) (upd H l (.lst xs))
theorem call_lo {X : Cx} : CallR X (.type "list") (rLo X.K) := fun pins s σ H xs us Q I r h => call_list_of pins s σ H xs us Q I r (by unfold rLo at h; exact h)
section
variable {K : PySem.W.Frag} {H : Hp} {p : Addr} {xs : List V} {Q : VK}
theorem lo_l (h : SqL K H p xs) (q : ∀ l, H l = none → Q (.ref l) (upd H l (.lst xs))) : rLo K [.ref p] H Q := by
  unfold rLo
  exact ⟨p, xs, rfl, .inl h, q⟩
theorem lo_t (h : SqT K H p xs) (q : ∀ l, H l = none → Q (.ref l) (upd H l (.lst xs))) : rLo K [.ref p] H Q := by
  unfold rLo
  exact ⟨p, xs, rfl, .inr h, q⟩
end
theorem flatI {fl : List Int} : (fl.map V.int).all flatS = true := by
  rw [List.all_map]
  exact List.all_eq_true.mpr fun _ _ => rfl
/-! ### xs + ys -/
@[irreducible] def rCt : R2 := fun x y H Q => rCat x y H Q
theorem op_ct {X : Cx} : OpR X (binaryOp .Add) rCt := fun pins s σ H x y v u Q I rx ry h => op_cat pins s σ H x y v u Q I rx ry (by unfold rCt at h; exact h)
theorem ct_go {H : Hp} {a b : Addr} {xs ys : List V} {Q : VK} (h1 : H a = some (.lst xs)) (h2 : H b = some (.lst ys)) (hl : xs.length + ys.length ≤ sizeLine) (q : ∀ r, H r = none → Q (.ref r) (upd H r (.lst (xs ++ ys)))) : rCt (.ref a) (.ref b) H Q := by
  unfold rCt
  exact ⟨a, b, xs, ys, rfl, rfl, h1, h2, hl, q⟩
/-! ### f() -/
section
variable {X : Cx} {CX : CXT} {k : Nat} {f : Addr} {fd : FuncData} {sp : Sp} {E : L2.St → XK} {x : Str} {p pos : Pos}
def tCall0 (sp : Sp) (E : L2.St → XK) : TE := fun σ H Q => sp [] H Q (E σ)
theorem pe_callS0 (F : FnOk X.prog X.w X.K X.mg X.base CX k f fd [] sp) (hr : Room k X.A) (hg : Gl X x) (hm : X.mg x = some (.ref f)) (hk : PySem.W.keepIn X.K (.ref f) = true) (hb : Binds X.K fd [] []) (hx : ∀ σ, PassesAt CX X σ (E σ))
    (hdb : (x == ("__debug__" : Str)) = false := by decide) : PE X (.Call (.Name x p) [] [] pos) (tCall0 sp E) := by
  refine ⟨fun pins s σ H Q I h => ?_⟩
  refine wpAny_Call_Name_kw (ld_glob I hg hm ?_ hdb)
  exact PySem.W.callWith_K0 I.kIn hk (run_fnS (us := []) F hr hb (hx σ) I .nil h)
end
end LB

set_option Elab.async false
set_option linter.all false
set_option maxRecDepth 100000
set_option maxHeartbeats 4000000
/-! an own exception whose __init__ begins with super().__init__(..), over ValueError through own classes -/
namespace LB
open PySem PySem.Spec PyProof.Rows L2 NdefX
/-- what the written part says of such a class: at C, its __init__ at fI, that one's code at cda, the cell of __class__ at cc -/
structure SupC (P : Program) (K : PySem.W.Frag) (mg : Str → Option Value) (C fI cc cda : Addr) : Prop where
  ox : OexC K C
  iC : PySem.W.findIn K (.ref C) "__init__" = some (some (.ref fI))
  tI : PySem.W.typeIn K (.ref fI) = some (.type "function")
  cell : ∃ cl cld csl, K.lookup cc = some ⟨cl, cld, .cell (some (.ref C)), csl⟩
  code : ∃ ccl cdd vs ccs file tf, K.lookup cda = some ⟨ccl, cdd, .fields vs, ccs⟩ ∧ vs[2]? = some (.str file tf) ∧ ((P.main.file : Str) == file) = true
  top : (P.main.scope.names.lookup ("super" : Str)).isSome = false
  zs : mg "super" = none
  self : PySem.W.mroIn K C (.ref C) = some true
  third : PySem.W.nsIn K cStatics "thirdparty.any" = some none
  sup : PySem.W.ks_superIn K C C "__init__" = some (some (.builtin "ValueError.__init__"))
  ve : PySem.W.subIn K (.ref C) (.type "ValueError") = some true
section
variable {CX : CXT} {P : Program} {w : World} {K : PySem.W.Frag} {mg : Str → Option Value} {base : Heap} {C fI cc cda : Addr}
/-- the wrapper's call: the exception's args are laid anew -/
theorem sup_call {X : Cx} {pins : List (Addr × Obj)} {σ : L2.St} {H : Hp} {s : Shared} {a u : Addr} {us : List Value} {A : Around} {E : Value → Shared → Prop} {Q : Value → Shared → Prop} (T : OexC X.K C) (I : Inv X pins σ H s) (e : H a = some (exo a C none))
    (hu : s.heap.get? u = some (PySem.W.kxs_mw "ValueError.__init__" a)) (hl : us.length ≤ sizeLine) (h : ∀ s', Inv X pins σ H s' → Q .none s') : wpAny (model X.prog X.w) A (call (.ref u) us) Q E s := by
  obtain ⟨nm, q, N, bs, bm, sn, sub, ab, col, dd, k0, k1, k2, k3, k5, hC, hbm⟩ := T.cls
  obtain ⟨t1, ho⟩ := exo_at I.hok e
  have hCh := I.kIn _ _ hC
  obtain ⟨hp, g, d, t, os⟩ := s
  refine wpAny_call (codeAny_of_tree ?_)
  show wpAny _ A.in1 (callAny (.ref u) ⟨us, []⟩) _ _ _
  simp only [callAny]
  refine wpAny_bind (wpAny_load hu ?_)
  simp only [PySem.W.kxs_mw, show (Value.type "method-wrapper" == Value.type "method" || Value.type "method-wrapper" == Value.type "builtin_function_or_method" || Value.type "method-wrapper" == Value.type "method-wrapper") = true by decide, if_true]
  refine PySem.W.KFB.if_so (by decide) ?_
  refine wpAny_bind (PySem.W.check_bound_init F.excBase_ValueError.toExcCallFacts hCh ho rfl ?_)
  refine wpAny_bind (wpAny_pure (wpAny_pure ?_))
  refine ⟨plainId_quiet F.excBase_ValueError.init.plain _, codeAny_builtin F.excBase_ValueError.initEntry ?_⟩
  refine PySem.W.exc_init_tree (cls := .ref C) (t0 := t1) (dv := none) (c2 := .none) (c3 := .none) (b4 := .bool false) ho hl fun h' k hx _ => ?_
  have J := I.write (t' := t) (x := a) (e := a) (o := exo a C none) (by rw [e]; exact True.intro) (.inl rfl) k ⟨_, hx⟩ (exo_ok hx)
  have eu : upd H a (exo a C none) = H := by
    funext b
    by_cases hb : b = a
    · rw [hb, upd_same, e]
    · rw [upd_ne hb]
  rw [eu] at J
  exact h _ J
end
/-- the first statement -/
abbrev supS (p1 p2 p3 p4 p5 : Pos) (e : Expr) (es : List Expr) : Stmt := .Expr (.Call (.Attribute (.Call (.Name "super" p1) [] [] p2) "__init__" p3) (e :: es) [] p4) p5
theorem looks_mro {M : Model} {K : PySem.W.Frag} {h : Heap} {C : Addr} {cd : ClassData} (X : K.In h) (hc : PySem.W.clsIn K C = some cd) : PySem.W.Looks M h (mroOf (.ref C)) cd.mro := fun A Q E s k q => wpAny_bind ((PySem.W.looks_clsIn X hc) A _ E s k (wpAny_pure q))
section
variable {CX : CXT} {P : Program} {w : World} {K : PySem.W.Frag} {mg : Str → Option Value} {base : Heap} {C fI cc cda : Addr} {N ps : List Str} {k : Nat} {sp : Sp} {name qual : Str} {params : Arguments} {rest : List Stmt} {scope : Scope} {p1 p2 p3 p4 p5 : Pos} {e : Expr} {es : List Expr}
theorem sup_ok {F : NF} {oc doc pm ct : Value} {od : Option Addr} {osl : Array (Option Value)} (T : SupC P K mg C fI cc cda) (hB : F.body = supS p1 p2 p3 p4 p5 e es :: rest) (hcl : F.cl = [(("__class__" : Str), cc)]) (hca : F.c = cda)
    (lk : K.lookup fI = some ⟨oc, od, .func (F.fd doc pm ct), osl⟩) (hcd : PySem.W.codeIn K (.ref cda) F.qual = true)
    (S : NScope N (("self" : Str) :: ps) ["__class__"] F.scope) (hps : (F.params.posonlyargs ++ F.params.args).head?.map (·.arg) = some ("self" : Str)) (hks : F.scope.names.lookup ("super" : Str) = some .globalImplicit)
    (hb : ∀ us : List Value, us.length = (("self" : Str) :: ps).length → bindArgs (F.fd doc pm ct) ⟨us, []⟩ = pure ((("self" : Str) :: ps).zip us))
    (he : ∀ L, starEach (e :: es) (envF F fI L) = (false, eval e (envF F fI L)) :: starEach es (envF F fI L))
    (hpl : ∀ L, (backTo p4 (starEach es (envF F fI L))).any (·.1) = false)
    (hsw : ∀ L, swapsWith (.Call (.Attribute (.Call (.Name "super" p1) [] [] p2) "__init__" p3) (e :: es) [] p4) none p5.line (envF F fI L) = pure false)
    (hev : ∀ L, ∃ pl, eval (.Call (.Attribute (.Call (.Name "super" p1) [] [] p2) "__init__" p3) (e :: es) [] p4) (envF F fI L) = (do
      let ov ← attributeBase (.Call (.Name "super" p1) [] [] p2) "__init__" (envF F fI L) (eval (.Call (.Name "super" p1) [] [] p2) (envF F fI L))
      standAt p3.atName
      let (f, first) ← holding [ov] (getMethod ov "__init__" pl)
      callWith p4 f first (backTo p4 (starEach (e :: es) (envF F fI L))) []))
    (len : ∀ vs H Q E, sp vs H Q E → vs.length = (("self" : Str) :: ps).length)
    (hbody : ∀ (A : Around) (outer : List Env) (s : Shared) (H : Hp) (vs : List V) (Q : VK) (E : XK), sp vs H Q E →
      ∃ (a : Addr) (xs : List V) (ta : TA) (t : TS), vs = .ref a :: xs ∧ H a = some (exo a C none) ∧ PA (ncx CX P w K mg base N F fI A outer s H E) (e :: es) ta ∧
        PSs (ncx CX P w K mg base N F fI A outer s H E) rest t ∧
        ta (startF N vs [some (.ref C)]) H fun us H1 => us.length ≤ 1000 ∧ H1 a = some (exo a C none) ∧ t { nx := fun _ H' => Q .non H', rt := Q } (startF N vs [some (.ref C)]) H1) :
    FnOk P w K mg base CX (k + 1) fI (F.fd doc pm ct) (("self" : Str) :: ps) sp := by
  obtain ⟨fn_, fq, fp, fb, fs, fcl, fc⟩ := F
  dsimp only at hB hcl hca hcd S hps hks
  subst hB hcl hca
  refine ⟨len, fun A outer s H args us vs Q E hr e0 hbi r hsp => ?_⟩
  have hl := len _ _ _ _ hsp
  have lim : s.heap.NoLimit := e0.mod.nolimit.keeps fun b o e => (e0.bs b o e).1
  have KX : K.In s.heap := e0.mod.kin.keeps fun b o e => (e0.bs b o e).1
  obtain ⟨a, xs, ta, t, rfl, ea, ha, hrest, hq⟩ := hbody A outer s H vs Q E hsp
  obtain ⟨cl, cld, csl, hcell⟩ := T.cell
  obtain ⟨ccl, cdd, cvs, ccs, file, tf, hcode, hvs, hfile⟩ := T.code
  obtain ⟨nm, q0, N0, bs, bm, sn, sub, ab, col, dd, k0, k1, k2, k3, k5, hC, hbm⟩ := T.ox.cls
  obtain ⟨u0, ur, rfl, ru0, rur⟩ : ∃ u0 ur, us = u0 :: ur ∧ RelV (.ref a) u0 ∧ Vals xs ur := by
    cases r with
    | cons h1 h2 => exact ⟨_, _, rfl, h1, h2⟩
  obtain rfl : u0 = Value.ref a := ru0
  have hul : (Value.ref a :: ur).length = (("self" : Str) :: ps).length := r.length.symm.trans hl
  refine ks_codeAny_call_defAt hr.depth (KX _ _ lk) rfl lim (PySem.W.codeRec_of KX hcd) rfl hbi S.nocell (fun ⟨n, _⟩ hy => S.par n (List.of_mem_zip hy).1) (fun h₁ hns kp => ?_) S.co S.gen S.kind
  have CA : CellsAt [(("__class__" : Str), cc)] ["__class__"] [some (.ref C)] s.heap H := by
    have hk : H cc = none := by
      have := (e0.bs cc _ (e0.mod.kin _ _ hcell)).2
      exact this
    have f : ∀ (z : Str) (c' : Addr), List.lookup z [(("__class__" : Str), cc)] = some c' → z = "__class__" ∧ c' = cc := fun z c' h => by
      by_cases q : z = ("__class__" : Str)
      · subst q
        have : some cc = some c' := by simpa [List.lookup] using h
        exact ⟨rfl, (Option.some.inj this).symm⟩
      · have q2 : (z == ("__class__" : Str)) = false := by simpa using q
        simp [List.lookup, q2] at h
    refine ⟨rfl, fun y c hy => ?_, fun x y c hx hy => (f x c hx).1.trans (f y c hy).1.symm, fun i y hi => ?_⟩
    · obtain ⟨_, rfl⟩ := f y c hy
      exact ⟨hk, _, ⟨_, KX _ _ hcell, rfl⟩⟩
    · cases i with
      | zero =>
        have ey : y = "__class__" := (Option.some.inj hi).symm
        subst ey
        exact ⟨cc, by simp [List.lookup], fun v hv => ⟨.ref C, by cases hv; rfl, ⟨_, KX _ _ hcell, rfl⟩⟩⟩
      | succ n => simp at hi
  have I : Inv (ncx CX P w K mg base N (⟨fn_, fq, fp, supS p1 p2 p3 p4 p5 e es :: rest, fs, [(("__class__" : Str), cc)], fc⟩ : NF) fI A outer s H E) [] (startF N (.ref a :: xs) [some (.ref C)]) H { s with heap := h₁, toks := s.toks + ((("self" : Str) :: ps).zip (Value.ref a :: ur)).length } := inv_startN S hr.hd e0 hl r CA hns kp
  refine ks_wpAt_execs_cons (ks_wpAt_Expr_any ?_ (I.quiet) (hsw _))
  obtain ⟨pl, hev⟩ := hev s.heap.objs.size
  refine ks_wpAt_MethodCall ?_ hev
  obtain ⟨ar, hp, har⟩ : ∃ ar, (fp.posonlyargs ++ fp.args).head? = some ar ∧ ar.arg = "self" := by
    cases z : (fp.posonlyargs ++ fp.args).head? with
    | none => rw [z] at hps; cases hps
    | some ar => rw [z] at hps; exact ⟨ar, rfl, Option.some.inj hps⟩
  have hnd : (("self" : Str) :: ps).Nodup := by
    have q := S.nd.sublist (List.take_sublist ((("self" : Str) :: ps).length + [("__class__" : Str)].length) N)
    rw [S.pre] at q
    exact (List.nodup_append.mp q).1
  have hself : ((("self" : Str) :: ps).zip (Value.ref a :: ur)).reverse.lookup ("self" : Str) = some (Value.ref a) := zip_look (i := 0) hnd rfl rfl
  have hcd' : PySem.W.clsIn K C = some { name := nm, bases := bs, mro := .ref C :: bm, ns := N0, qualname := q0, hasDict := true, slotNames := sn, subclasses := sub, abstract := ab, collection := col, hasDel := false } := by unfold PySem.W.clsIn; rw [hC] <;> rfl
  obtain ⟨t1, ho⟩ := exo_at I.hok ea
  have X1 := I.kIn
  refine ks_wpAt_super_base (env := envF (⟨fn_, fq, fp, supS p1 p2 p3 p4 p5 e es :: rest, fs, [(("__class__" : Str), cc)], fc⟩ : NF) fI s.heap.objs.size) hks (S.frk _ List.mem_cons_self) (by decide) rfl (X1 _ _ lk) rfl hp rfl (X1 _ _ hcode) rfl hvs hfile T.top ?_
  obtain ⟨mb, hb1, hb2⟩ := I.mod.blt
  refine PySem.W.ks_loadName_global S.kind hks (PySem.Calls.loadGlobal_builtin (env := envF (⟨fn_, fq, fp, supS p1 p2 p3 p4 p5 e es :: rest, fs, [(("__class__" : Str), cc)], fc⟩ : NF) fI s.heap.objs.size) (I.mod.glob.keeps I.bk) T.zs (hb1.keeps I.bk) ((hb2 _ (by decide +kernel)).trans (show bootBuiltins "super" = some (.type "super") by decide +kernel)) ⟨rfl, ?_⟩)
  refine wpAny_loadName_free S.kind (S.frk _ List.mem_cons_self) rfl ⟨_, X1 _ _ hcell, rfl⟩ ?_
  rw [har]
  refine wpAny_loadName_local S.kind (S.par _ List.mem_cons_self) hns hself ?_
  refine ks_wpAny_isType_cls (X1 _ _ hC) rfl ⟨rfl, ?_⟩
  refine ks_wpAny_call_super (X1 _ _ hC) rfl ho rfl (fun c z => nomatch z) (PySem.W.looks_mroIn X1 T.self) (fun h2 e2 k2 => ?_)
  have I2 := I.kept (t' := s.toks + ((("self" : Str) :: ps).zip (Value.ref a :: ur)).length) k2
  have X2 := I2.kIn
  -- the method
  have hsup := T.sup
  unfold PySem.W.ks_superIn at hsup
  rw [hcd', Option.bind_some] at hsup
  have haC : a ≠ C := fun z => by
    have q1 := X1 _ _ hC
    rw [← z] at q1
    have q2 : some _ = some _ := ho.symm.trans q1
    cases q2
  refine PySem.W.kxs_getMethod PySem.W.kxs_ValueError e2 (PySem.W.looks_opaque X2 T.third) (looks_mro X2 hcd') rfl X2 hsup
    (PySem.W.Looks.andThen (PySem.W.InstAt.type (od := none) ⟨k2 _ _ ho, rfl, rfl, trivial⟩) (PySem.W.looks_subIn X2 T.ve)) haC (by decide) ?_
  have k3' : ∀ b o, h2.get? b = some o → (h2.push (PySem.W.kxs_mw "ValueError.__init__" a)).get? b = some o := fun b o z => Heap.get?_push_of_some _ z
  have hmw : (h2.push (PySem.W.kxs_mw "ValueError.__init__" a)).get? h2.objs.size = some (PySem.W.kxs_mw "ValueError.__init__" a) := Heap.get?_push_at rfl rfl
  have I3 := I2.kept (t' := s.toks + ((("self" : Str) :: ps).zip (Value.ref a :: ur)).length + 1) k3'
  have hfr : H h2.objs.size = none := I2.hok.fresh (Nat.le_refl _)
  have hnL : h2.objs.size ≠ s.heap.objs.size := Nat.ne_of_gt I2.lt
  have hnf : h2.objs.size ∉ (ncx CX P w K mg base N (⟨fn_, fq, fp, supS p1 p2 p3 p4 p5 e es :: rest, fs, [(("__class__" : Str), cc)], fc⟩ : NF) fI A outer s H E).fs := I2.nofs (Nat.le_refl _)
  have I4 : Inv (ncx CX P w K mg base N (⟨fn_, fq, fp, supS p1 p2 p3 p4 p5 e es :: rest, fs, [(("__class__" : Str), cc)], fc⟩ : NF) fI A outer s H E) [(h2.objs.size, PySem.W.kxs_mw "ValueError.__init__" a)] (startF N (.ref a :: xs) [some (.ref C)]) H { s with heap := h2.push (PySem.W.kxs_mw "ValueError.__init__" a), toks := s.toks + ((("self" : Str) :: ps).zip (Value.ref a :: ur)).length + 1 } :=
    I3.pins_of fun p hp => by
      have hp' : p ∈ [(h2.objs.size, PySem.W.kxs_mw "ValueError.__init__" a)] := hp
      obtain rfl := List.mem_singleton.mp hp'
      exact ⟨hmw, hfr, hnL, hnf, fun v z => nomatch z⟩
  refine PySem.W.kxs_callWith (i := "ValueError.__init__") (x := a) ?_ ?_
  · refine Eq.trans (congrArg (fun z => (backTo p4 z).any (·.1)) (he s.heap.objs.size)) ?_
    show (false || (backTo p4 (starEach es (envF (⟨fn_, fq, fp, supS p1 p2 p3 p4 p5 e es :: rest, fs, [(("__class__" : Str), cc)], fc⟩ : NF) fI s.heap.objs.size))).any (·.1)) = false
    rw [hpl]; rfl
  have hrun : wpAny (model P w) (A.deeper (envF (⟨fn_, fq, fp, supS p1 p2 p3 p4 p5 e es :: rest, fs, [(("__class__" : Str), cc)], fc⟩ : NF) fI s.heap.objs.size)) (spliced (backTo p4 (starEach (e :: es) (envF (⟨fn_, fq, fp, supS p1 p2 p3 p4 p5 e es :: rest, fs, [(("__class__" : Str), cc)], fc⟩ : NF) fI s.heap.objs.size)))) _ _ _ := ha.run p4 _ _ _ H _ I4 hq
  rw [he] at hrun
  show wpAny _ _ (evalArgs _ true (backTo p4 (starEach (e :: es) (envF (⟨fn_, fq, fp, supS p1 p2 p3 p4 p5 e es :: rest, fs, [(("__class__" : Str), cc)], fc⟩ : NF) fI s.heap.objs.size))) []) _ _ _
  rw [he]
  refine PySem.Calls.evalArgs_plain (thn hrun fun us' s5 hh => ?_)
  obtain ⟨vs5, H5, I5, r5, l5, ea5, q5⟩ := hh
  have hp5 := I5.pin (h2.objs.size, PySem.W.kxs_mw "ValueError.__init__" a) (List.mem_append_right _ List.mem_cons_self)
  refine ⟨hp5.1, ?_⟩
  refine sup_call T.ox I5 ea5 hp5.1 (by show us'.length ≤ sizeLine; rw [← r5.length, sizeLine_eq]; omega) fun s6 I6 => ?_
  refine wpAt_of_wpAny (wpAny_mono (hrest.run _ s6 _ H5 _ I6 q5) (fun fl s' hs => ?_) fun e s' hs => hs)
  have fin : ∀ {σ' : L2.St} {H' : Hp} {v : V} {u : Value}, Inv (ncx CX P w K mg base N (⟨fn_, fq, fp, supS p1 p2 p3 p4 p5 e es :: rest, fs, [(("__class__" : Str), cc)], fc⟩ : NF) fI A outer s H E) [(h2.objs.size, PySem.W.kxs_mw "ValueError.__init__" a)] σ' H' s' → RelV v u → Q v H' → CE outer P w H s Q u s' :=
    fun {σ' H' v u} J rv q => ⟨v, H', J.os, J.bare, J.base, J.hok, rv, q⟩
  cases fl with
  | ret u =>
    obtain ⟨v, σ', H', J, rv, q⟩ := hs
    exact fin J rv q
  | next =>
    obtain ⟨σ', H', J, q⟩ := hs
    exact fin (v := V.non) (u := Value.none) J rfl q
  | brk =>
    obtain ⟨_, _, _, q⟩ := hs
    exact False.elim q
  | cont =>
    obtain ⟨_, _, _, q⟩ := hs
    exact False.elim q
end
end LB
namespace LB
open PySem PySem.Spec PyProof.Rows L2 NdefX
/-! ### the promise of such an __init__, and what C(..) leaves -/
/-- its fields are told by the arguments -/
def sp_exc (C : Addr) (cond : List V → Prop) (fs : List V → List (Str × V)) (n : Nat) : Sp := fun vs H Q _ => ∃ (a : Addr) (xs : List V), vs = .ref a :: xs ∧ xs.length = n ∧ H a = some (exo a C none) ∧ cond xs ∧
  ∀ (d : Addr) (H' : Hp), H d = none → d ≠ a → H' a = some (exo a C (some d)) → H' d = some (exd d (fs xs)) → (∀ b, b ≠ a → b ≠ d → H' b = H b) → Q .non H'
def tExc (C : Addr) (cond : List V → Prop) (fs : List V → List (Str × V)) (n : Nat) (ta : TA) : L2.St → Hp → XK → Prop := fun σ H Q => ta σ H fun vs H1 => vs.length = n ∧ cond vs ∧ ∀ d, H1 d = none → Q (.ref C) (some d) (upd H1 d (.xd (fs vs)))
structure ExcOk (P : Program) (w : World) (K : PySem.W.Frag) (mg : Str → Option Value) (base : Heap) (C : Addr) (cond : List V → Prop) (fs : List V → List (Str × V)) (n : Nat) : Prop where
  ox : OexC K C
  iC : ∃ fI, PySem.W.findIn K (.ref C) "__init__" = some (some (.ref fI)) ∧ PySem.W.typeIn K (.ref fI) = some (.type "function") ∧ ∃ fd ps, FnOk P w K mg base (L2.CX P w) 1 fI fd ps (sp_exc C cond fs n) ∧ Binds K fd ps []
section
variable {X : Cx} {C : Addr} {cond : List V → Prop} {fs : List V → List (Str × V)} {n : Nat} {x : Str} {p pos pos2 : Pos} {e : Expr} {es : List Expr} {ta : TA} {W : WX}
theorem pmk_exc (T : ExcOk X.prog X.w X.K X.mg X.base C cond fs n) (hn : n ≤ 1000) (hr : Room 2 X.A) (hg : Gl X x) (hm : X.mg x = some (.ref C)) (ha : PA X (e :: es) ta)
    (hdb : (x == ("__debug__" : Str)) = false := by decide) (he : starEach (e :: es) X.env = (false, eval e X.env) :: starEach es X.env := by rfl) (hpl : (backTo pos (starEach es X.env)).any (·.1) = false := by rfl) :
    PMk X (.Call (.Name x p) (e :: es) [] pos) (tExc C cond fs n ta) := by
  obtain ⟨fI, iC, tI, fd, ps, G, b⟩ := T.iC
  have ha2 : PA X (e :: es) (fun σ H R => ∃ R0 : List V → Hp → Prop, ta σ H R0 ∧ ∀ vs H1, R0 vs H1 → R vs H1) := ⟨fun pos pins s σ H R I h => by
    obtain ⟨R0, h0, h1⟩ := h
    refine thn (ha.run pos pins s σ H R0 I h0) fun us s' q => ?_
    obtain ⟨vs, H1, I1, r1, q1⟩ := q
    exact ⟨vs, H1, I1, r1, h1 vs H1 q1⟩⟩
  have key := pmk_oex (CX := L2.CX X.prog X.w) (ds := []) (dvs := []) (pos := pos) (p := p) T.ox iC tI G hr b .nil passX hg hm ha2 hdb he hpl
  intro pins s σ H Q I h
  refine key pins s σ H Q I ⟨_, h, fun vs H1 q => ?_⟩
  obtain ⟨hl, hc, q⟩ := q
  refine ⟨by omega, fun a ha => ?_⟩
  rw [List.append_nil]
  refine ⟨a, vs, rfl, hl, upd_same, hc, fun d H' hd hda e1 e2 e3 => ⟨rfl, d, fs vs, e1, e2, by rw [upd_ne hda] at hd; exact hd, ?_⟩⟩
  have hd1 : H1 d = none := by rw [upd_ne hda] at hd; exact hd
  have eq : upd (del H' a) d (.xd (fs vs)) = upd H1 d (.xd (fs vs)) := by
    funext b
    by_cases hb : b = d
    · rw [hb, upd_same, upd_same]
    · rw [upd_ne hb, upd_ne hb]
      by_cases hba : b = a
      · rw [hba, del_same, ha]
      · rw [del_ne hba, e3 b hba hb, upd_ne hba]
  rw [eq]
  exact q d hd1
theorem ps_raiseX (hc : X.calm = true) (tk : Takes X W) (T : ExcOk X.prog X.w X.K X.mg X.base C cond fs n) (hn : n ≤ 1000) (hr : Room 2 X.A) (hg : Gl X x) (hm : X.mg x = some (.ref C)) (ha : PA X (e :: es) ta)
    (hdb : (x == ("__debug__" : Str)) = false := by decide) (he : starEach (e :: es) X.env = (false, eval e X.env) :: starEach es X.env := by rfl) (hpl : (backTo pos (starEach es X.env)).any (·.1) = false := by rfl) :
    PS X (.Raise (some (.Call (.Name x p) (e :: es) [] pos)) none pos2) (fun _ σ H => tExc C cond fs n ta σ H fun cls d H' => W cls d σ H') := ps_raise hc tk (pmk_exc T hn hr hg hm ha hdb he hpl)
end
/-! ### the class as the text has it -/
/-- C with its __init__ st, as the top leaves them -/
structure XTxt (P : Program) (K : PySem.W.Frag) (mg : Str → Option Value) (qual : Str) (st : Stmt) (C : Addr) : Prop where
  ex : ∃ (fI cc cda : Addr) (oc doc pm ct : Value) (od : Option Addr) (osl : Array (Option Value)), SupC P K mg C fI cc cda ∧
    K.lookup fI = some ⟨oc, od, .func ((⟨"__init__", qual, defArgs st, defBody st, defScope st, [(("__class__" : Str), cc)], cda⟩ : NF).fd doc pm ct), osl⟩ ∧ PySem.W.codeIn K (.ref cda) qual = true
section
variable {P : Program} {w : World} {K : PySem.W.Frag} {mg : Str → Option Value} {base : Heap} {C : Addr} {qual : Str} {st : Stmt} {cond : List V → Prop} {fs : List V → List (Str × V)} {n : Nat} {N ps : List Str} {rest : List Stmt} {p1 p2 p3 p4 p5 : Pos} {e : Expr} {es : List Expr}
theorem XTxt.ok (T : XTxt P K mg qual st C) (hB : defBody st = supS p1 p2 p3 p4 p5 e es :: rest) (hn : n = ps.length)
    (S : NScope N (("self" : Str) :: ps) ["__class__"] (defScope st)) (hps : ((defArgs st).posonlyargs ++ (defArgs st).args).head?.map (·.arg) = some ("self" : Str)) (hks : (defScope st).names.lookup ("super" : Str) = some .globalImplicit)
    (hb : ∀ (cc cda : Addr) (doc pm ct : Value) (us : List Value), us.length = (("self" : Str) :: ps).length → bindArgs ((⟨"__init__", qual, defArgs st, defBody st, defScope st, [(("__class__" : Str), cc)], cda⟩ : NF).fd doc pm ct) ⟨us, []⟩ = pure ((("self" : Str) :: ps).zip us))
    (he : ∀ (cc cda fI L : Addr), starEach (e :: es) (envF ⟨"__init__", qual, defArgs st, defBody st, defScope st, [(("__class__" : Str), cc)], cda⟩ fI L) = (false, eval e (envF ⟨"__init__", qual, defArgs st, defBody st, defScope st, [(("__class__" : Str), cc)], cda⟩ fI L)) :: starEach es (envF ⟨"__init__", qual, defArgs st, defBody st, defScope st, [(("__class__" : Str), cc)], cda⟩ fI L))
    (hpl : ∀ (cc cda fI L : Addr), (backTo p4 (starEach es (envF ⟨"__init__", qual, defArgs st, defBody st, defScope st, [(("__class__" : Str), cc)], cda⟩ fI L))).any (·.1) = false)
    (hsw : ∀ (cc cda fI L : Addr), swapsWith (.Call (.Attribute (.Call (.Name "super" p1) [] [] p2) "__init__" p3) (e :: es) [] p4) none p5.line (envF ⟨"__init__", qual, defArgs st, defBody st, defScope st, [(("__class__" : Str), cc)], cda⟩ fI L) = pure false)
    (hev : ∀ (cc cda fI L : Addr), ∃ pl, eval (.Call (.Attribute (.Call (.Name "super" p1) [] [] p2) "__init__" p3) (e :: es) [] p4) (envF ⟨"__init__", qual, defArgs st, defBody st, defScope st, [(("__class__" : Str), cc)], cda⟩ fI L) = (do
      let ov ← attributeBase (.Call (.Name "super" p1) [] [] p2) "__init__" (envF ⟨"__init__", qual, defArgs st, defBody st, defScope st, [(("__class__" : Str), cc)], cda⟩ fI L) (eval (.Call (.Name "super" p1) [] [] p2) (envF ⟨"__init__", qual, defArgs st, defBody st, defScope st, [(("__class__" : Str), cc)], cda⟩ fI L))
      standAt p3.atName
      let (f, first) ← holding [ov] (getMethod ov "__init__" pl)
      callWith p4 f first (backTo p4 (starEach (e :: es) (envF ⟨"__init__", qual, defArgs st, defBody st, defScope st, [(("__class__" : Str), cc)], cda⟩ fI L))) []))
    (hbody : ∀ (X : Cx) (cc cda fI L : Addr), X.K = K → X.N = N → X.env = envF ⟨"__init__", qual, defArgs st, defBody st, defScope st, [(("__class__" : Str), cc)], cda⟩ fI L → OexC K C →
      ∃ (ta : TA) (t : TS), PA X (e :: es) ta ∧ PSs X rest t ∧ ∀ (a : Addr) (xs : List V) (H : Hp) (Q : VK), xs.length = n → H a = some (exo a C none) → cond xs →
        (∀ (d : Addr) (H' : Hp), H d = none → d ≠ a → H' a = some (exo a C (some d)) → H' d = some (exd d (fs xs)) → (∀ b, b ≠ a → b ≠ d → H' b = H b) → Q .non H') →
        ta (startF N (.ref a :: xs) [some (.ref C)]) H fun us H1 => us.length ≤ 1000 ∧ H1 a = some (exo a C none) ∧ t { nx := fun _ H' => Q .non H', rt := Q } (startF N (.ref a :: xs) [some (.ref C)]) H1) :
    ExcOk P w K mg base C cond fs n := by
  obtain ⟨fI, cc, cda, oc, doc, pm, ct, od, osl, Z, lk, hcd⟩ := T.ex
  refine ⟨Z.ox, fI, Z.iC, Z.tI, _, _, sup_ok (F := ⟨"__init__", qual, defArgs st, defBody st, defScope st, [(("__class__" : Str), cc)], cda⟩) (k := 0) (N := N) (ps := ps) (sp := sp_exc C cond fs n) Z hB rfl rfl lk hcd S hps hks (hb cc cda doc pm ct) (he cc cda fI) (hpl cc cda fI) (hsw cc cda fI) (hev cc cda fI) (fun vs H Q E h => ?_) (fun A outer s H vs Q E h => ?_), .all (hb cc cda doc pm ct)⟩
  · obtain ⟨a, xs, rfl, hl, _⟩ := h
    show xs.length + 1 = ps.length + 1
    omega
  · obtain ⟨a, xs, rfl, hl, ea, hc, q⟩ := h
    obtain ⟨ta, t, h1, h2, h3⟩ := hbody (ncx (L2.CX P w) P w K mg base N ⟨"__init__", qual, defArgs st, defBody st, defScope st, [(("__class__" : Str), cc)], cda⟩ fI A outer s H E) cc cda fI s.heap.objs.size rfl rfl rfl Z.ox
    exact ⟨a, xs, ta, t, rfl, ea, h1, h2, h3 a xs H Q hl ea hc q⟩
/-- two stores behind one another, the first one the exception's first -/
theorem two_stores {K : PySem.W.Frag} {a C : Addr} {f1 f2 : Str} {to1 te1 to2 te2 : TE} {D : Ends} {σ : L2.St} {H : Hp} {y1 y2 : V} (T : OexC K C) (h1 : PySem.W.findIn K (.ref C) f1 = some none) (h2 : PySem.W.findIn K (.ref C) f2 = some none) (ea : H a = some (exo a C none))
    (e1 : ∀ (H1 : Hp) (Q : VK), Q y1 H1 → te1 σ H1 Q) (e2 : ∀ (H1 : Hp) (Q : VK), Q y2 H1 → te2 σ H1 Q) (o1 : ∀ (H1 : Hp) (Q : VK), Q (.ref a) H1 → to1 σ H1 Q) (o2 : ∀ (H1 : Hp) (Q : VK), Q (.ref a) H1 → to2 σ H1 Q)
    (q : ∀ (d : Addr) (H' : Hp), H d = none → d ≠ a → H' a = some (exo a C (some d)) → H' d = some (exd d [(f2, y2), (f1, y1)]) → (∀ b, b ≠ a → b ≠ d → H' b = H b) → D.nx σ H') : tSeq (tOst K f1 to1 te1) (tOst K f2 to2 te2) D σ H := by
  refine e1 _ _ (o1 _ _ ⟨a, C, rfl, T, h1, .inl ⟨ea, fun d hd hda => ?_⟩⟩)
  refine e2 _ _ (o2 _ _ ⟨a, C, rfl, T, h2, .inr ⟨d, [(f1, y1)], upd_same, by rw [upd_ne hda, upd_same], (by show 1 ≤ 900; decide), ?_⟩⟩)
  refine q d _ hd hda (by rw [upd_ne hda.symm, upd_same]) upd_same fun b hb hbd => ?_
  rw [upd_ne hbd, upd_ne hb, upd_ne hbd]
/-- four of them -/
theorem four_stores {K : PySem.W.Frag} {a C : Addr} {f1 f2 f3 f4 : Str} {to1 te1 to2 te2 to3 te3 to4 te4 : TE} {D : Ends} {σ : L2.St} {H : Hp} {y1 y2 y3 y4 : V} (T : OexC K C) (h1 : PySem.W.findIn K (.ref C) f1 = some none) (h2 : PySem.W.findIn K (.ref C) f2 = some none) (h3 : PySem.W.findIn K (.ref C) f3 = some none) (h4 : PySem.W.findIn K (.ref C) f4 = some none) (ea : H a = some (exo a C none))
    (e1 : ∀ (H1 : Hp) (Q : VK), Q y1 H1 → te1 σ H1 Q) (e2 : ∀ (H1 : Hp) (Q : VK), Q y2 H1 → te2 σ H1 Q) (e3 : ∀ (H1 : Hp) (Q : VK), Q y3 H1 → te3 σ H1 Q) (e4 : ∀ (H1 : Hp) (Q : VK), Q y4 H1 → te4 σ H1 Q)
    (o1 : ∀ (H1 : Hp) (Q : VK), Q (.ref a) H1 → to1 σ H1 Q) (o2 : ∀ (H1 : Hp) (Q : VK), Q (.ref a) H1 → to2 σ H1 Q) (o3 : ∀ (H1 : Hp) (Q : VK), Q (.ref a) H1 → to3 σ H1 Q) (o4 : ∀ (H1 : Hp) (Q : VK), Q (.ref a) H1 → to4 σ H1 Q)
    (q : ∀ (d : Addr) (H' : Hp), H d = none → d ≠ a → H' a = some (exo a C (some d)) → H' d = some (exd d [(f4, y4), (f3, y3), (f2, y2), (f1, y1)]) → (∀ b, b ≠ a → b ≠ d → H' b = H b) → D.nx σ H') : tSeq (tOst K f1 to1 te1) (tSeq (tOst K f2 to2 te2) (tSeq (tOst K f3 to3 te3) (tOst K f4 to4 te4))) D σ H := by
  refine e1 _ _ (o1 _ _ ⟨a, C, rfl, T, h1, .inl ⟨ea, fun d hd hda => ?_⟩⟩)
  refine e2 _ _ (o2 _ _ ⟨a, C, rfl, T, h2, .inr ⟨d, [(f1, y1)], upd_same, by rw [upd_ne hda, upd_same], (by show 1 ≤ 900; decide), ?_⟩⟩)
  refine e3 _ _ (o3 _ _ ⟨a, C, rfl, T, h3, .inr ⟨d, [(f2, y2), (f1, y1)], by rw [upd_ne hda.symm, upd_same], upd_same, (by show 2 ≤ 900; decide), ?_⟩⟩)
  refine e4 _ _ (o4 _ _ ⟨a, C, rfl, T, h4, .inr ⟨d, [(f3, y3), (f2, y2), (f1, y1)], by rw [upd_ne hda.symm, upd_ne hda.symm, upd_same], upd_same, (by show 3 ≤ 900; decide), ?_⟩⟩)
  refine q d _ hd hda (by rw [upd_ne hda.symm, upd_ne hda.symm, upd_ne hda.symm, upd_same]) upd_same fun b hb hbd => ?_
  rw [upd_ne hbd, upd_ne hbd, upd_ne hbd, upd_ne hb, upd_ne hbd]
end
end LB

set_option Elab.async false
set_option linter.all false
set_option maxRecDepth 100000
set_option maxHeartbeats 4000000
/-! several except clauses, each with or without a name; what is asked of the caught error -/
namespace LB
open PySem PySem.Spec PyProof.Rows L2
/-- behind a suite its name is empty -/
def goneE (i : Nat) (D : Ends) : Ends where
  nx := fun σ H => D.nx (σ.set i none) H
  rt := D.rt
  bk := fun σ H => D.bk (σ.set i none) H
  ct := fun σ H => D.ct (σ.set i none) H
abbrev Clause := Value × Option Nat × (Addr → Value → Option Addr → TS)
/-- what the suite of a clause is asked, the error at a -/
def inSuite (D : Ends) (nm : Option Nat) (t : TS) (a : Addr) (σ : L2.St) (H : Hp) : Prop := match nm with
  | none => t D σ H
  | some i => t (goneE i D) (σ.set i (some (.ref a))) H
def wX (K : PySem.W.Frag) (Wout : WX) (D : Ends) : List Clause → WX
  | [] => Wout
  | (c, nm, ts) :: r => fun cls d σ H => ∃ b, PySem.W.exmOne K cls c = some b ∧ (b = true → ∀ a, H a = none → inSuite D nm (ts a cls d) a σ H) ∧ (b = false → wX K Wout D r cls d σ H)
inductive HdsX (X : Cx) : List ExceptHandler → List Clause → Prop
  | nil : HdsX X [] []
  | plain {x : Str} {c : Value} {ts : Addr → Value → Option Addr → TS} {st : Stmt} {sts : List Stmt} {q1 q2 : Pos} {hds : List ExceptHandler} {l : List Clause} (hc : Names X x c)
      (suite : ∀ (a : Addr) (oe : Obj) (cls : Value) (d : Option Addr) (pn : List (Addr × Obj)), Zc cls d oe → (∃ us, oe.data = .fields us) → PSs (X.suite a ((a, oe) :: pn)) (st :: sts) (ts a cls d)) (more : HdsX X hds l) :
      HdsX X (.ExceptHandler (some (.Name x q1)) none (st :: sts) q2 :: hds) ((c, none, ts) :: l)
  | named {x n : Str} {i : Nat} {c : Value} {ts : Addr → Value → Option Addr → TS} {st : Stmt} {sts : List Stmt} {q1 q2 : Pos} {hds : List ExceptHandler} {l : List Clause} (hN : X.N.Nodup) (hi : X.N[i]? = some n) (hln : X.env.kindOf n = some .local) (hc : Names X x c)
      (suite : ∀ (a : Addr) (oe : Obj) (cls : Value) (d : Option Addr) (pn : List (Addr × Obj)), Zc cls d oe → (∃ us, oe.data = .fields us) → PSs (X.suite a ((a, oe) :: pn)) (st :: sts) (ts a cls d)) (more : HdsX X hds l) :
      HdsX X (.ExceptHandler (some (.Name x q1)) (some n) (st :: sts) q2 :: hds) ((c, some i, ts) :: l)
section
variable {X : Cx} {pins : List (Addr × Obj)} {σ : L2.St} {H : Hp} {sI sN : Shared} {a : Addr} {B : Heap} {cls : Value} {d : Option Addr}
/-- an error that has landed at this frame: the state without it, the ground, where it stands -/
structure Landed (X : Cx) (pins : List (Addr × Obj)) (σ : L2.St) (H : Hp) (sI sN : Shared) (a : Addr) (B : Heap) (cls : Value) (d : Option Addr) : Prop where
  st : X.stack = X.env :: X.outer
  fr : X.env.frame = some X.env.locals
  I : Inv X pins σ H sI
  nb : ∀ b o, sI.heap.get? b = some o → b ∉ frs X.stack → B.get? b = some o
  up : sI.heap.UpToSlots sN.heap
  na : H a = none
  os : sN.os = sI.os
  ag : AllBare sN.gens
  fly : HandSPX.FlyingZ B (X.env :: X.outer) a (Zc cls d) sN.heap
theorem Landed.inv (L : Landed X pins σ H sI sN a B cls d) : Inv X pins σ H sN := L.I.landed L.nb L.fly.1 L.up L.os L.ag
theorem Landed.off (L : Landed X pins σ H sI sN a B cls d) : a ≠ X.env.locals ∧ a ∉ X.fs := by
  obtain ⟨oe, us, e1, e2, e3⟩ := L.fly.there
  have key : a ∉ frs (X.env :: X.outer) := fun hm => by
    obtain ⟨_, o2, q1, q2⟩ := L.fly.2.2.1.mem hm
    rw [e1] at q1
    cases q1
    exact q2 _ e3
  refine ⟨fun z => key (List.mem_filterMap.mpr ⟨X.env, List.mem_cons_self, by rw [L.fr, z]⟩), fun hm => ?_⟩
  obtain ⟨v, h1, h2⟩ := List.mem_filterMap.mp hm
  exact key (List.mem_filterMap.mpr ⟨v, List.mem_cons_of_mem _ h1, h2⟩)
/-- the clauses, one behind the other -/
theorem clauses {Wout : WX} {D : Ends} (tk : Takes X Wout) (L : Landed X pins σ H sI sN a B cls d) : ∀ {hds : List ExceptHandler} {l : List Clause}, HdsX X hds l → wX X.K Wout D l cls d σ H →
    wpAny (model X.prog X.w) X.A (handleBy (.ref a) X.env hds) (SP X pins D) X.xe sN := by
  intro hds l hk
  have ok := L.I.ok
  have J := L.inv
  obtain ⟨off1, off2⟩ := L.off
  obtain ⟨oe3, us3, g3, z3, f3⟩ := L.fly.there
  have S3 := J.suite g3 f3 L.na off1 off2
  -- a clause's class is read, and asked
  have ask : ∀ {x : Str} {c : Value} {q1 : Pos} {b : Bool} {Q : Bool → Shared → Prop}, Names X x c → PySem.W.exmOne X.K cls c = some b → Q b sN → True := fun _ _ _ => trivial
  have name : ∀ {x : Str} {c : Value} {q1 : Pos} {Q : Value → Shared → Prop} {E : Value → Shared → Prop}, Names X x c → Q c sN → wpAny (model X.prog X.w) (X.A.mark (some (.ref a))) (eval (.Name x q1) X.env) Q E sN := fun hc q => by
    obtain ⟨h1, h2, h3⟩ := hc
    rcases h3 with h3 | ⟨h3, h4, h5⟩
    · exact ld_glob (X := X.suite a ((a, oe3) :: (X.pn ++ pins))) S3 h1 h3 q h2
    · exact ld_blt (X := X.suite a ((a, oe3) :: (X.pn ++ pins))) S3 h1 h3 h4 q h5 h2
  have LT : PySem.W.Looks (model X.prog X.w) sN.heap (typeOf (.ref a)) cls := fun A Q E s k q => wpAny_typeOf_ref (k _ _ g3) (by rw [z3.1]; exact q)
  induction hk with
  | nil =>
    intro wish
    refine wpAny_handleBy_nil ?_
    obtain ⟨_, _, _, oe, us, tr, _, _, e1, e2, e3, e4, _⟩ := id L.fly
    unfold PySem.passOn
    refine wpAny_bind (wpAny_field e1 e3 e4 ?_)
    rw [if_neg (show (Value.ref tr == Value.none) = true → False from by simp)]
    have away : wpAny (model X.prog X.w) X.A (setFlight (.ref a) X.env.frame) (fun _ s4 => wpAny (model X.prog X.w) X.A (throw (.ref a) : Sem Flow) (SP X pins D) X.xe s4) X.xe sN := by
      rw [L.fr]
      refine HandSPX.setFlight_upZ L.fly fun h4 held up4 => wpAny_throw (tk _ _ ?_)
      refine ⟨a, B, sI, pins, σ, H, cls, d, rfl, L.I, L.nb, L.up.trans up4, .inr (.inr ?_), L.na, L.os, L.ag, wish⟩
      rw [L.st]
      exact held
    first
      | exact wpAny_bind (wpAny_pure (wpAny_bind away))
      | exact wpAny_bind away
  | @plain x c ts st sts q1 q2 hds2 l2 hc suite more ih =>
    rintro ⟨b, e1, yes, no⟩
    refine wpAny_handleBy_cons (codeAny_handlers_test ?_) (by intro z; cases z)
    refine name hc ((PySem.W.exm_one (M := model X.prog X.w) J.kIn LT e1).here ?_)
    cases b with
    | false => exact ih (no rfl)
    | true =>
      refine codeAny_handlers_suite (HandSPX.lands_againZ L.fly fun h4 fl4 up4 => ?_)
      have J4 : Inv X pins σ H { sN with heap := h4 } := L.I.landed L.nb fl4.1 (L.up.trans up4) L.os L.ag
      obtain ⟨oe4, us4, g4, z4, f4⟩ := fl4.there
      refine wpAny_mono ((suite a oe4 cls d (X.pn ++ pins) z4 ⟨_, f4⟩).run [] _ _ H _ (J4.suite g4 f4 L.na off1 off2) (yes rfl a L.na)) (fun f s6 out => ?_) (fun _ _ z => False.elim z)
      cases f with
      | ret u =>
        obtain ⟨v6, σ6, H6, S6, r6, k6⟩ := out
        exact ⟨v6, σ6, H6, S6.unsuite ok, r6, k6⟩
      | next =>
        obtain ⟨σ6, H6, S6, k6⟩ := out
        exact ⟨σ6, H6, S6.unsuite ok, k6⟩
      | brk =>
        obtain ⟨σ6, H6, S6, k6⟩ := out
        exact ⟨σ6, H6, S6.unsuite ok, k6⟩
      | cont =>
        obtain ⟨σ6, H6, S6, k6⟩ := out
        exact ⟨σ6, H6, S6.unsuite ok, k6⟩
  | @named x n i c ts st sts q1 q2 hds2 l2 hN hi hln hc suite more ih =>
    rintro ⟨b, e1, yes, no⟩
    refine wpAny_handleBy_cons (codeAny_handlers_test ?_) (by intro z; cases z)
    refine name hc ((PySem.W.exm_one (M := model X.prog X.w) J.kIn LT e1).here ?_)
    cases b with
    | false => exact ih (no rfl)
    | true =>
      refine codeAny_handlers_suite_as (HandSPX.lands_againZ L.fly fun h4 fl4 up4 => ?_)
      have J4 : Inv X pins σ H { sN with heap := h4 } := L.I.landed L.nb fl4.1 (L.up.trans up4) L.os L.ag
      obtain ⟨oe4, us4, g4, z4, f4⟩ := fl4.there
      refine store_ok (X := X.suite a ((a, oe4) :: (X.pn ++ pins))) (v := .ref a) (J4.suite g4 f4 L.na off1 off2) hN hi (.inl hln) rfl (fun s5 S5 => ?_) (.inr hln)
      have leave : ∀ {σ6 : L2.St} {H6 : Hp} {s6 : Shared} {Q : Shared → Prop}, Inv (X.suite a ((a, oe4) :: (X.pn ++ pins))) [] σ6 H6 s6 → (∀ s7, Inv X pins (σ6.set i none) H6 s7 → Q s7) →
          wpAny (model X.prog X.w) X.A (do bindName X.env n .none; unbindBehindTheSuite X.env n q2) (fun _ s7 => Q s7) X.xe s6 := fun S6 k => gone_ok (S6.unsuite ok) hN hi hln k
      refine wpAny_mono ((suite a oe4 cls d (X.pn ++ pins) z4 ⟨_, f4⟩).run [] s5 _ H _ S5 (yes rfl a L.na)) (fun f s6 out => ?_) (fun _ _ z => False.elim z)
      cases f with
      | ret u =>
        obtain ⟨v6, σ6, H6, S6, r6, k6⟩ := out
        exact leave S6 fun s7 J7 => ⟨v6, _, H6, J7, r6, k6⟩
      | next =>
        obtain ⟨σ6, H6, S6, k6⟩ := out
        exact leave S6 fun s7 J7 => ⟨_, H6, J7, k6⟩
      | brk =>
        obtain ⟨σ6, H6, S6, k6⟩ := out
        exact leave S6 fun s7 J7 => ⟨_, H6, J7, k6⟩
      | cont =>
        obtain ⟨σ6, H6, S6, k6⟩ := out
        exact leave S6 fun s7 J7 => ⟨_, H6, J7, k6⟩
end
section
variable {X : Cx} {body : List Stmt} {hd₀ : ExceptHandler} {hds : List ExceptHandler} {l : List Clause} {pos : Pos} {tb : WX → TS} {Wout : WX}
theorem ps_tryX (st : X.stack = X.env :: X.outer) (fr : X.env.frame = some X.env.locals) (tk : Takes X Wout)
    (hb : ∀ (W : WX) (pn : List (Addr × Obj)) (xe : Value → Shared → Prop), Takes (X.tr pn xe) W → PassesOwn (model X.prog X.w) X.A X.env xe → PSs (X.tr pn xe) body (tb W)) (hh : HdsX X (hd₀ :: hds) l) :
    PS X (.Try body (hd₀ :: hds) [] [] pos) (fun D σ H => tb (wX X.K Wout D l) D σ H) := by
  refine ⟨fun pins s σ H D I h => ?_⟩
  have ok := I.ok
  have hfr : X.A.frames = some (X.env :: X.outer) := by rw [ok.frames, st]
  have run := hb (wX X.K Wout D l) (X.pn ++ pins) (fun er s1 => wpAny (model X.prog X.w) X.A (noteFrame er X.env) (fun _ s2 => wpAny (model X.prog X.w) X.A (setFlight er none) (fun _ s3 =>
    wpAny (model X.prog X.w) X.A (handleBy er X.env (hd₀ :: hds)) (SP X pins D) X.xe s3) X.xe s2) X.xe s1) (fun u sN air => ?_) PassesOwn.looking
  · refine wpAny_Try_except (wpAny_mono (run.run [] s σ H D (I.toTry _) h) (fun f s1 out => ?_) (fun er s1 he => he))
    cases f with
    | ret u =>
      obtain ⟨v6, σ6, H6, S6, r6, k6⟩ := out
      exact ⟨v6, σ6, H6, S6.ofTry ok, r6, k6⟩
    | next =>
      obtain ⟨σ6, H6, S6, k6⟩ := out
      exact wpAny_execs_nil ⟨σ6, H6, S6.ofTry ok, k6⟩
    | brk =>
      obtain ⟨σ6, H6, S6, k6⟩ := out
      exact ⟨σ6, H6, S6.ofTry ok, k6⟩
    | cont =>
      obtain ⟨σ6, H6, S6, k6⟩ := out
      exact ⟨σ6, H6, S6.ofTry ok, k6⟩
  · obtain ⟨a, B, sI, pins', σ', H', cls, d, rfl, J', nb, up, sky, na, os, ag, wish⟩ := air
    have sky' : Sky B (X.env :: X.outer) a (Zc cls d) X.env.locals sN.heap := by rw [← st]; exact sky
    refine Sky.land Zc.steady hfr fr sky' fun h3 fl3 up3 => ?_
    exact clauses (sN := { sN with heap := h3 }) tk ⟨st, fr, J'.ofTry ok, nb, up.trans up3, na, os, ag, fl3⟩ hh wish
end
end LB
/-! ### isinstance of the caught error -/
namespace PySem.W
open PySem PySem.Spec PySem.Calls PyProof.Rows
section
variable {prog : Program} {w : World} {A : Around} {E : Value → Shared → Prop} {s : Shared} {K : Frag} {x D : Addr} {ox : Obj} {od : Option Obj}
/-- what is asked of the class -/
structure LbExc (K : Frag) (D : Addr) : Prop where
  ga : findIn K (.ref D) "__getattribute__" = some (some (.builtin "BaseException.__getattribute__"))
  gg : findIn K (.ref D) "__getattr__" = some none
  sb : subIn K (.ref D) (.type "BaseException") = some true
  hd : hasDictIn K D = true
  ha : findIn K (.ref D) "__class__" = some (some (.builtin "object.__class__"))
  hn : specialIn K (.builtin "object.__class__") "__get__" = some (some (.builtin "getset_descriptor.__get__"))
  ht : takesIn K (.builtin "object.__class__") = some true
  hm : mroIn K D (.type "object") = some true
theorem lb_find (C : LbExc K D) : findObj K D od "__class__" = some (.bind (.builtin "getset_descriptor.__get__") (.builtin "object.__class__")) := by
  obtain ⟨cd, hc, _⟩ := any_some C.hd
  unfold findObj
  rw [hc, Option.bind_some, C.ha, Option.bind_some]
  simp [C.hn, C.ht]
theorem lb_class {Q : Option Value → Shared → Prop} (C : LbExc K D) (X : K.In s.heap) (I : InstAt s.heap x ox D od) (h : Q (some (.ref D)) { s with toks := s.toks + 1 }) : wpAny (model prog w) A (getAttr? (.ref x) "__class__") Q E s := by
  obtain ⟨hp, g, d, t, os⟩ := s
  have T := I.type (M := model prog w)
  have F3 := looks_find (M := model prog w) X I (lb_find (od := od) C)
  have ne : (Value.builtin "BaseException.__getattribute__" == Value.builtin "object.__getattribute__") = false := by decide +kernel
  unfold getAttr? getAttrBy? getAttrBy
  refine wpAny_bind (wpAny_mkText (wpAny_bind (wpAny_attempt (wpAny_holding (wpAny_bind (T.at (wpAny_bind ((looks_findIn (M := model prog w) X C.ga).at ?_))))))))
  dsimp only
  rw [if_neg (show ¬ (onTheHeap (Value.ref D) && Value.builtin "BaseException.__getattribute__" == Value.builtin "object.__getattribute__") = true by rw [ne, Bool.and_false]; exact Bool.false_ne_true)]
  unfold getAttrByItsOwn hookBefore
  refine wpAny_bind ?_
  rw [if_pos (show onTheHeap (Value.ref D) = true from rfl)]
  refine (looks_findIn (M := model prog w) X C.gg).at (wpAny_bind (wpAny_attempt (wpAny_holding ?_)))
  unfold callGetattribute
  rw [if_neg (show ¬ (false && onTheHeap (Value.builtin "BaseException.__getattribute__")) = true from Bool.false_ne_true)]
  unfold boundAndCalled
  rw [PySem.F.excAttr_ValueError.ga.bind (.ref x)]
  refine wpAny_bind (wpAny_pure (wpAny_call (codeAny_call_builtin PySem.F.excAttr_ValueError.ga.plain PySem.F.entry_bexc_ga ?_)))
  refine @check_slot (model prog w) _ _ ⟨hp, g, d, t + 1, os⟩ "BaseException.__getattribute__" "BaseException" "__getattribute__" (.ref x) [.str "__class__" t] [] _ (by decide +kernel) (by decide +kernel) (T.andThen (looks_subIn X C.sb)) (PySem.F.args_bexc_ga (.ref x) (.str "__class__" t)) ?_
  unfold Builtin.«object.__getattribute__»
  refine wpAny_bind (wpAny_of_eq (a := ((Value.ref x : Value), [Value.str "__class__" t])) (by first | rfl | (simp only [slotArgs]; rfl)) (wpAny_bind (wpAny_pure (wpAny_bind (T.at (wpAny_bind (F3.at ?_)))))))
  refine wpAny_bind (wpAny_holding (wpAny_call (class_get (s := ⟨hp, g, d, t + 1, os⟩) (ox := ox) (od := od) X I C.hm ?_)))
  refine wpAny_pure ?_
  show wpAny _ _ (handedOut (.ref D)) _ _ _
  rw [handedOut_of (v := .ref D) rfl]
  first
    | exact wpAny_pure (wpAny_pure h)
    | exact wpAny_pure h
    | exact wpAny_pure (wpAny_bind (wpAny_pure (wpAny_pure h)))
theorem lb_kit (C : LbExc K D) : KitX K (.ref x) (.ref D) (fun h => ∃ ox od, InstAt h x ox D od) where
  ty := fun _ _ _ ⟨_, _, I⟩ => I.type
  it := fun _ _ X _ => by
    obtain ⟨cdD, hcD, _⟩ := any_some C.hd
    unfold clsIn at hcD
    split at hcD
    · rename_i ho
      intro A' Q' E' s' k q
      unfold isType loadHead
      exact wpAny_bind (wpAny_loadPart (k _ _ (X _ _ ho)) (wpAny_pure q))
    · cases hcD
  ne := fun h tp dd its n sl X htp => by
    obtain ⟨cdD, hcD, _⟩ := any_some C.hd
    refine Bool.eq_false_iff.mpr fun q => ?_
    obtain rfl : D = tp := Value.ref.inj (beq_iff_eq.mp q)
    unfold clsIn at hcD
    split at hcD
    · rename_i ho
      have z := (X _ _ ho).symm.trans htp
      cases z
    · cases hcD
  ca := fun X ⟨_, _, I⟩ k => lb_class C X I k
end
end PySem.W
namespace LB
open PySem PySem.Spec PyProof.Rows L2
@[irreducible] def rIsX (K : PySem.W.Frag) (a D : Addr) (cls : Value) (d : Option Addr) : List V → Hp → VK → Prop := fun xs H Q => ∃ (c : V) (cv : Value) (b : Bool), xs = [.ref a, c] ∧ cls = .ref D ∧ ClsV c cv ∧ PySem.W.kitOne K (.ref D) cv = some b ∧ (∃ dd fs, d = some dd ∧ H dd = some (.xd fs)) ∧ Q (.bl b) H
theorem call_isX {X : Cx} {a D : Addr} {oe : Obj} {cls : Value} {d : Option Addr} {pn : List (Addr × Obj)} (C : PySem.W.LbExc X.K D) (hz : Zc cls d oe) (hf : ∃ vs, oe.data = .fields vs) : CallR (X.suite a ((a, oe) :: pn)) (.builtin "isinstance") (rIsX X.K a D cls d) := by
  intro pins s σ H xs us Q I r h
  unfold rIsX at h
  obtain ⟨c, cv, b, rfl, rfl, hcv, e, ⟨dd, fs, rfl, ed⟩, q⟩ := h
  obtain ⟨u1, u2, rfl, r1, r2⟩ := vals2 r
  obtain rfl := hcv.eq r2
  obtain rfl : u1 = Value.ref a := r1
  obtain ⟨hget, _⟩ := I.pin (a, oe) (List.mem_append.mpr (.inl List.mem_cons_self))
  obtain ⟨vs, hv⟩ := hf
  have hx : ObjOk X.prog X.w H s.heap dd (.xd fs) := I.hok dd _ ed
  obtain ⟨mA, ⟨od, _, _, ho, _⟩, _⟩ := hx
  have J : PySem.W.InstAt s.heap a oe D (some od) := ⟨hget, hz.1, by unfold PySem.W.notCls; rw [hv] <;> rfl, by rw [hz.2]; exact ho⟩
  exact PySem.W.kia_one (PySem.W.lb_kit C) I.kIn ⟨oe, some od, J⟩ e (fun z => nomatch z) fun tk => ⟨.bl b, H, I.kept (t' := tk) fun _ _ z => z, rfl, q⟩
end LB
namespace LB
open PySem PySem.Spec PyProof.Rows L2
/-- an exception class of the text: what raising, catching and asking want of it -/
structure ECls (K : PySem.W.Frag) (C : Addr) : Prop where
  lx : PySem.W.LbExc K C
  ty : PySem.W.typeIn K (.ref C) = some (.type "type")
  self : PySem.W.mroIn K C (.ref C) = some true
theorem ECls.isCls {K : PySem.W.Frag} {C : Addr} (E : ECls K C) : ((PySem.W.clsIn K C).isSome && PySem.W.typeIn K (.ref C) == some (.type "type")) = true := by
  obtain ⟨cd, hc, _⟩ := PySem.W.any_some E.lx.hd
  rw [hc, E.ty]
  rfl
theorem ECls.exm {K : PySem.W.Frag} {Y C : Addr} {b : Bool} (E : ECls K C) (h : PySem.W.subIn K (.ref Y) (.ref C) = some b) : PySem.W.exmOne K (.ref Y) (.ref C) = some b :=
  PySem.W.exm_ref E.lx.sb E.lx.hd E.ty h
theorem ECls.kit {K : PySem.W.Frag} {Y C : Addr} {b : Bool} (E : ECls K C) (h : PySem.W.subIn K (.ref Y) (.ref C) = some b) : PySem.W.kitOne K (.ref Y) (.ref C) = some b := by
  unfold PySem.W.kitOne
  by_cases e : (Value.ref Y == Value.ref C) = true
  · rw [if_pos e]
    have e2 : Y = C := Value.ref.inj (beq_iff_eq.mp e)
    subst e2
    have h2 : PySem.W.mroIn K Y (.ref Y) = some b := h
    rw [E.self] at h2
    exact h2
  · rw [if_neg e]
    show (if ((PySem.W.clsIn K C).isSome && PySem.W.typeIn K (.ref C) == some (.type "type")) = true then PySem.W.subIn K (.ref Y) (.ref C) else none) = some b
    rw [if_pos E.isCls]
    exact h
theorem kit_ve {K : PySem.W.Frag} {Y : Addr} {b : Bool} (h : PySem.W.subIn K (.ref Y) (.type "ValueError") = some b) : PySem.W.kitOne K (.ref Y) (.type "ValueError") = some b := by
  unfold PySem.W.kitOne
  rw [if_neg (show ¬ (Value.ref Y == Value.type "ValueError") = true from fun z => nomatch beq_iff_eq.mp z)]
  show (if PySem.W.kitMeta "ValueError" = true then PySem.W.subIn K (.ref Y) (.type "ValueError") else none) = some b
  rw [if_pos (by decide +kernel)]
  exact h
theorem ECls.xf {K : PySem.W.Frag} {C : Addr} (E : ECls K C) : XfC K C := ⟨E.lx.ga, E.lx.gg, E.lx.sb, E.lx.hd⟩
/-- what an error with one own field holds -/
def fs1 (label field : Str) : List V → List (Str × V) := fun xs => [(field, xs.headD .non), ("label", .str label)]
def text1 : List V → Prop := fun xs => ∃ z : Str, xs = [.str z] ∧ z.length ≤ 1000000
theorem text_len (a z : Str) (h1 : a.length ≤ 1000) (h2 : z.length ≤ 1000000) : (Str.empty ++ a).length ≤ sizeLine ∧ (Str.empty ++ a ++ z).length ≤ sizeLine := by
  have e1 : ∀ x y : Str, (x ++ y).length = x.length + y.length := fun x y => Array.size_append
  have e0 : Str.empty.length = 0 := rfl
  rw [e1, e1, e1, e0, sizeLine_eq]
  omega
section
variable {K : PySem.W.Frag}
theorem wx_hit {Wout : WX} {D : Ends} {c cls : Value} {nm : Option Nat} {ts : Addr → Value → Option Addr → TS} {r : List Clause} {d : Option Addr} {σ : L2.St} {H : Hp} (e : PySem.W.exmOne K cls c = some true) (h : ∀ a, H a = none → inSuite D nm (ts a cls d) a σ H) :
    wX K Wout D ((c, nm, ts) :: r) cls d σ H := ⟨true, e, fun _ => h, fun z => nomatch z⟩
theorem wx_miss {Wout : WX} {D : Ends} {c cls : Value} {nm : Option Nat} {ts : Addr → Value → Option Addr → TS} {r : List Clause} {d : Option Addr} {σ : L2.St} {H : Hp} (e : PySem.W.exmOne K cls c = some false) (h : wX K Wout D r cls d σ H) :
    wX K Wout D ((c, nm, ts) :: r) cls d σ H := ⟨false, e, fun z => (nomatch z), fun _ => h⟩
theorem isX_go {a D C dd : Addr} {fs : List (Str × V)} {b : Bool} {H : Hp} {Q : VK} (k : PySem.W.kitOne K (.ref D) (.ref C) = some b) (e : H dd = some (.xd fs)) (q : Q (.bl b) H) : rIsX K a D (.ref D) (some dd) [.ref a, .ref C] H Q := by
  unfold rIsX
  exact ⟨_, _, b, rfl, rfl, .own _, k, ⟨dd, fs, rfl, e⟩, q⟩
theorem isX_ve {a D dd : Addr} {fs : List (Str × V)} {b : Bool} {H : Hp} {Q : VK} (k : PySem.W.subIn K (.ref D) (.type "ValueError") = some b) (e : H dd = some (.xd fs)) (q : Q (.bl b) H) : rIsX K a D (.ref D) (some dd) [.ref a, .ty "ValueError"] H Q := by
  unfold rIsX
  exact ⟨_, _, b, rfl, rfl, .ty _, kit_ve k, ⟨dd, fs, rfl, e⟩, q⟩
end
end LB

/-! days, months, years -/
namespace LB
open PySem PySem.Spec PyProof.Rows L2
/-- a leap year -/
def leapP (y : Int) : Prop := y % 4 = 0 ∧ (y % 100 ≠ 0 ∨ y % 400 = 0)
instance (y : Int) : Decidable (leapP y) := inferInstanceAs (Decidable (_ ∧ _))
def leapB (y : Int) : Bool := decide (leapP y)
def leapN (y : Int) : Int := if leapP y then 1 else 0
/-- the first day of a year -/
def ystart (y : Int) : Int := 365 * (y - 2000) + (y - 2000 + 3) / 4 - (y - 2000 + 99) / 100 + (y - 2000 + 399) / 400
theorem leapN_b (y : Int) : (if leapB y = true then (1 : Int) else 0) = leapN y := by
  unfold leapB leapN
  by_cases h : leapP y
  · rw [if_pos h, if_pos (decide_eq_true h)]
  · rw [if_neg h, if_neg (by rw [decide_eq_false h]; decide)]
theorem leapN_01 (y : Int) : leapN y = 0 ∨ leapN y = 1 := by unfold leapN; split <;> simp
theorem ystart_next (y : Int) : ystart (y + 1) = ystart y + 365 + leapN y := by
  unfold ystart leapN
  by_cases h : leapP y
  · rw [if_pos h]
    unfold leapP at h
    omega
  · rw [if_neg h]
    unfold leapP at h
    omega
theorem ystart_0 : ystart 2000 = 0 := by decide
theorem ystart_end : ystart 2200 = 73049 := by decide
theorem ystart_low (k : Int) (h : 0 ≤ k) : ystart (2000 + k) ≤ 366 * k := by
  unfold ystart
  omega
theorem ystart_lt {y z : Int} (h : y < z) : ystart y + 365 ≤ ystart z := by
  unfold ystart
  omega
theorem ystart_mono {y z : Int} (h : y ≤ z) : ystart y ≤ ystart z := by
  unfold ystart
  omega
/-- the days of a month -/
def mlen (y m : Int) : Int := if m = 2 then 28 + leapN y else if m = 4 ∨ m = 6 ∨ m = 9 ∨ m = 11 then 30 else 31
/-- the days of the year before a month -/
def mstart (y m : Int) : Int :=
  if m ≤ 1 then 0 else if m = 2 then 31 else leapN y + (if m = 3 then 59 else if m = 4 then 90 else if m = 5 then 120 else if m = 6 then 151 else if m = 7 then 181 else if m = 8 then 212 else if m = 9 then 243 else if m = 10 then 273 else if m = 11 then 304 else if m = 12 then 334 else 365)
theorem mstart_next (y m : Int) (h1 : 1 ≤ m) (h2 : m ≤ 12) : mstart y (m + 1) = mstart y m + mlen y m := by
  unfold mstart mlen
  rcases (by omega : m = 1 ∨ m = 2 ∨ m = 3 ∨ m = 4 ∨ m = 5 ∨ m = 6 ∨ m = 7 ∨ m = 8 ∨ m = 9 ∨ m = 10 ∨ m = 11 ∨ m = 12) with rfl | rfl | rfl | rfl | rfl | rfl | rfl | rfl | rfl | rfl | rfl | rfl <;> simp <;> omega
theorem mstart_1 (y : Int) : mstart y 1 = 0 := by unfold mstart; simp
theorem mstart_13 (y : Int) : mstart y 13 = 365 + leapN y := by unfold mstart; simp; omega
theorem mlen_pos (y m : Int) : 28 ≤ mlen y m ∧ mlen y m ≤ 31 := by
  have := leapN_01 y
  unfold mlen
  split
  · omega
  · split <;> omega
/-- the day of that date -/
def dayOf (y m d : Int) : Int := ystart y + mstart y m + d - 1
/-- (y, m, d) is a date -/
structure IsDate (y m d : Int) : Prop where
  y0 : 2000 ≤ y
  y1 : y ≤ 2199
  m0 : 1 ≤ m
  m1 : m ≤ 12
  d0 : 1 ≤ d
  d1 : d ≤ mlen y m
theorem mstart_mono (y : Int) {m n : Int} (h0 : 1 ≤ m) (h : m < n) (h1 : n ≤ 13) : mstart y m + mlen y m ≤ mstart y n := by
  have key : ∀ k : Nat, m + 1 + k ≤ 13 → mstart y (m + 1) ≤ mstart y (m + 1 + k) := by
    intro k
    induction k with
    | zero => intro _; simp
    | succ k ih =>
      intro hk
      have := ih (by omega)
      have e := mstart_next y (m + 1 + k) (by omega) (by omega)
      have := mlen_pos y (m + 1 + k)
      rw [show m + 1 + ((k + 1 : Nat) : Int) = m + 1 + k + 1 by omega, e]
      omega
  have := key (n - (m + 1)).toNat (by omega)
  rw [mstart_next y m h0 (by omega)] at this
  rw [show m + 1 + ((n - (m + 1)).toNat : Int) = n by omega] at this
  exact this
theorem date_in_year {y m d : Int} (h : IsDate y m d) : ystart y ≤ dayOf y m d ∧ dayOf y m d < ystart (y + 1) := by
  have h1 := mstart_mono y h.m0 (n := 13) (by have := h.m1; omega) (by omega)
  rw [mstart_13] at h1
  have h2 := ystart_next y
  have h3 : 0 ≤ mstart y m := by
    by_cases e : m = 1
    · rw [e, mstart_1]; omega
    · have := mstart_mono y (m := 1) (n := m) (by omega) (by have := h.m0; omega) (by have := h.m1; omega)
      rw [mstart_1] at this
      have := mlen_pos y 1
      omega
  have := h.d0
  have := h.d1
  unfold dayOf
  omega
theorem date_range {y m d : Int} (h : IsDate y m d) : 0 ≤ dayOf y m d ∧ dayOf y m d ≤ 73048 := by
  have h1 := date_in_year h
  have h2 := ystart_mono h.y0
  have h3 := ystart_mono (y := y + 1) (z := 2200) (by have := h.y1; omega)
  rw [ystart_0] at h2
  rw [ystart_end] at h3
  omega
theorem date_inj {y m d y' m' d' : Int} (h : IsDate y m d) (h' : IsDate y' m' d') (e : dayOf y m d = dayOf y' m' d') : y = y' ∧ m = m' ∧ d = d' := by
  have a := date_in_year h
  have b := date_in_year h'
  have ey : y = y' := by
    rcases Int.lt_trichotomy y y' with l | l | l
    · have := ystart_mono (y := y + 1) (z := y') (by omega)
      omega
    · exact l
    · have := ystart_mono (y := y' + 1) (z := y) (by omega)
      omega
  subst ey
  have em : m = m' := by
    unfold dayOf at e
    have := h.d0; have := h.d1; have := h'.d0; have := h'.d1
    rcases Int.lt_trichotomy m m' with l | l | l
    · have := mstart_mono y h.m0 l (by have := h'.m1; omega)
      omega
    · exact l
    · have := mstart_mono y h'.m0 l (by have := h.m1; omega)
      omega
  subst em
  unfold dayOf at e
  exact ⟨rfl, rfl, by omega⟩
theorem mtab (y m : Int) (h1 : 1 ≤ m) (h2 : m ≤ 12) (h : m ≠ 2) : atI [V.int 31, V.int 28, V.int 31, V.int 30, V.int 31, V.int 30, V.int 31, V.int 31, V.int 30, V.int 31, V.int 30, V.int 31] (m - 1) = some (V.int (mlen y m)) := by
  rcases (by omega : m = 1 ∨ m = 3 ∨ m = 4 ∨ m = 5 ∨ m = 6 ∨ m = 7 ∨ m = 8 ∨ m = 9 ∨ m = 10 ∨ m = 11 ∨ m = 12) with rfl | rfl | rfl | rfl | rfl | rfl | rfl | rfl | rfl | rfl | rfl <;> rfl
theorem mlen_2 (y : Int) : (28 : Int) + (if leapB y = true then (1 : Int) else 0) = mlen y 2 := by rw [leapN_b]; rfl
theorem mlen_2' (y : Int) : (if leapB y = true then (29 : Int) else 28) = mlen y 2 := by
  rw [← mlen_2]
  split <;> rfl
theorem mlen_in {y m : Int} (h : inV (V.int m) [V.int 4, V.int 6, V.int 9, V.int 11] = true) : mlen y m = 30 := by
  have e : m = 4 ∨ m = 6 ∨ m = 9 ∨ m = 11 := by
    simp only [inV, eqV, List.any, Bool.or_false, Bool.or_eq_true, beq_iff_eq] at h
    omega
  unfold mlen
  rw [if_neg (by omega), if_pos e]
theorem mlen_out {y m : Int} (h : inV (V.int m) [V.int 4, V.int 6, V.int 9, V.int 11] = false) (h2 : m ≠ 2) : mlen y m = 31 := by
  have e : ¬ (m = 4 ∨ m = 6 ∨ m = 9 ∨ m = 11) := by
    simp only [inV, eqV, List.any, Bool.or_false, Bool.or_eq_false_iff, beq_eq_false_iff_ne] at h
    omega
  unfold mlen
  rw [if_neg h2, if_neg e]
/-! ### every day has a date -/
theorem year_ex {d : Int} (h0 : 0 ≤ d) : ∀ k : Nat, d < ystart (2000 + (k : Int)) → ∃ y, 2000 ≤ y ∧ y < 2000 + (k : Int) ∧ ystart y ≤ d ∧ d < ystart (y + 1)
  | 0, h => by
    rw [show (2000 : Int) + ((0 : Nat) : Int) = 2000 from rfl, ystart_0] at h
    omega
  | k + 1, h => by
    by_cases c : d < ystart (2000 + (k : Int))
    · obtain ⟨y, h1, h2, h3, h4⟩ := year_ex h0 k c
      exact ⟨y, h1, by omega, h3, h4⟩
    · exact ⟨2000 + (k : Int), by omega, by omega, by omega, by rw [show (2000 : Int) + ((k + 1 : Nat) : Int) = 2000 + (k : Int) + 1 by omega] at h; exact h⟩
theorem month_ex (y : Int) {r : Int} (h0 : 0 ≤ r) : ∀ k : Nat, k ≤ 12 → r < mstart y (1 + (k : Int)) → ∃ m, 1 ≤ m ∧ m < 1 + (k : Int) ∧ mstart y m ≤ r ∧ r < mstart y m + mlen y m
  | 0, _, h => by
    rw [show (1 : Int) + ((0 : Nat) : Int) = 1 from rfl, mstart_1] at h
    omega
  | k + 1, hk, h => by
    by_cases c : r < mstart y (1 + (k : Int))
    · obtain ⟨m, h1, h2, h3, h4⟩ := month_ex y h0 k (by omega) c
      exact ⟨m, h1, by omega, h3, h4⟩
    · refine ⟨1 + (k : Int), by omega, by omega, by omega, ?_⟩
      rw [← mstart_next y (1 + (k : Int)) (by omega) (by omega), show (1 : Int) + (k : Int) + 1 = 1 + ((k + 1 : Nat) : Int) by omega]
      exact h
theorem date_ex {d : Int} (h0 : 0 ≤ d) (h1 : d ≤ 73048) : ∃ y m x, IsDate y m x ∧ dayOf y m x = d := by
  obtain ⟨y, a1, a2, a3, a4⟩ := year_ex h0 200 (by rw [show (2000 : Int) + ((200 : Nat) : Int) = 2200 from rfl, ystart_end]; omega)
  have e := ystart_next y
  have e13 := mstart_13 y
  obtain ⟨m, b1, b2, b3, b4⟩ := month_ex y (r := d - ystart y) (by omega) 12 (by decide) (by rw [show (1 : Int) + ((12 : Nat) : Int) = 13 from rfl]; omega)
  exact ⟨y, m, d - ystart y - mstart y m + 1, ⟨a1, by omega, b1, by omega, by omega, by omega⟩, by unfold dayOf; omega⟩
theorem date_lt {y m d y' m' d' : Int} (h : IsDate y m d) (h' : IsDate y' m' d') (e : 12 * y + m < 12 * y' + m') : dayOf y m d < dayOf y' m' d' := by
  have a := date_in_year h
  have b := date_in_year h'
  have := h.m0; have := h.m1; have := h'.m0; have := h'.m1
  by_cases c : y < y'
  · have := ystart_mono (y := y + 1) (z := y') (by omega)
    omega
  · have ey : y = y' := by omega
    subst ey
    have l := mstart_mono y (m := m) (n := m') (by omega) (by omega) (by omega)
    have := h.d1
    have := h'.d0
    unfold dayOf
    omega
end LB

set_option Elab.async false
set_option linter.all false
set_option maxRecDepth 100000
set_option maxHeartbeats 4000000
/-! lists of tuples -/
namespace LB
open PySem PySem.Spec PyProof.Rows L2
/-- an object that may be written -/
def mutO : HO → Bool
  | .lst _ => true
  | .dK _ => true
  | .dT _ => true
  | .set _ _ => true
  | .ins _ _ _ => true
  | .own _ => true
  | .xd _ => true
  | _ => false
section
variable {K : PySem.W.Frag} {H H' : Hp} {a b D : Addr} {o o' : HO} {xs ys : List V}
theorem tup_put (e : H D = some o) (m : mutO o = true) (h : SqT K H a xs) : SqT K (upd H D o') a xs := by
  rcases h with (h | ⟨u, h⟩) | h
  · refine .inl (.inl ?_)
    rw [upd_ne (ne_of h e (by intro z; cases z; cases m))]
    exact h
  · refine .inl (.inr ⟨u, ?_⟩)
    rw [upd_ne (ne_of h e (by intro z; cases z; cases m))]
    exact h
  · exact .inr h
theorem tup_uniq (h1 : H a = some (.tup xs)) (h2 : H a = some (.tup ys)) : xs = ys := by
  rw [h1] at h2
  cases h2
  rfl
/-- vs are the addresses of the tuples rows -/
structure Tups (K : PySem.W.Frag) (H : Hp) (vs : List V) (rows : List (List V)) : Prop where
  len : vs.length = rows.length
  at_ : ∀ (i : Nat) (r : List V), rows[i]? = some r → ∃ a : Addr, vs[i]? = some (V.ref a) ∧ SqT K H a r
theorem Tups.nil : Tups K H [] [] := ⟨rfl, fun i r h => by simp at h⟩
theorem Tups.mono {vs : List V} {rows : List (List V)} (h : Tups K H vs rows) (f : ∀ a r, SqT K H a r → SqT K H' a r) : Tups K H' vs rows := ⟨h.len, fun i r e => by
  obtain ⟨a, h1, h2⟩ := h.at_ i r e
  exact ⟨a, h1, f a r h2⟩⟩
theorem Tups.same {vs : List V} {rows : List (List V)} (e : Same H H') (h : Tups K H vs rows) : Tups K H' vs rows := h.mono fun _ _ => same_tup e
theorem Tups.upd {vs : List V} {rows : List (List V)} (e : H D = none) (h : Tups K H vs rows) : Tups K (upd H D o) vs rows := h.mono fun _ _ => tup_upd e
theorem Tups.put {vs : List V} {rows : List (List V)} (e : H D = some o) (m : mutO o = true) (h : Tups K H vs rows) : Tups K (L2.upd H D o') vs rows := h.mono fun _ _ => tup_put e m
theorem Tups.snoc {vs : List V} {rows : List (List V)} {r : List V} (h : Tups K H vs rows) (t : SqT K H a r) : Tups K H (vs ++ [.ref a]) (rows ++ [r]) := by
  refine ⟨by simp [h.len], fun i z e => ?_⟩
  by_cases c : i < rows.length
  · rw [List.getElem?_append_left c] at e
    obtain ⟨b, h1, h2⟩ := h.at_ i z e
    exact ⟨b, by rw [List.getElem?_append_left (by rw [h.len]; exact c)]; exact h1, h2⟩
  · rw [List.getElem?_append_right (by omega)] at e
    have ei : i - rows.length = 0 := by
      by_cases z0 : i - rows.length = 0
      · exact z0
      · rw [List.getElem?_eq_none (by simp; omega)] at e
        cases e
    rw [ei] at e
    cases e
    refine ⟨a, ?_, t⟩
    rw [List.getElem?_append_right (by rw [h.len]; omega), h.len, ei]
    rfl
theorem Tups.append {vs us : List V} {rows more : List (List V)} (h : Tups K H vs rows) (g : Tups K H us more) : Tups K H (vs ++ us) (rows ++ more) := by
  refine ⟨by simp [h.len, g.len], fun i z e => ?_⟩
  by_cases c : i < rows.length
  · rw [List.getElem?_append_left c] at e
    obtain ⟨b, h1, h2⟩ := h.at_ i z e
    exact ⟨b, by rw [List.getElem?_append_left (by rw [h.len]; exact c)]; exact h1, h2⟩
  · rw [List.getElem?_append_right (by omega)] at e
    obtain ⟨b, h1, h2⟩ := g.at_ _ z e
    exact ⟨b, by rw [List.getElem?_append_right (by rw [h.len]; omega), h.len]; exact h1, h2⟩
theorem Tups.take {vs : List V} {rows : List (List V)} (h : Tups K H vs rows) (n : Nat) : Tups K H (vs.take n) (rows.take n) := by
  refine ⟨by simp [h.len], fun i z e => ?_⟩
  rw [List.getElem?_take] at e
  split at e
  · rename_i c
    obtain ⟨b, h1, h2⟩ := h.at_ i z e
    exact ⟨b, by rw [List.getElem?_take, if_pos c]; exact h1, h2⟩
  · cases e
theorem Tups.drop {vs : List V} {rows : List (List V)} (h : Tups K H vs rows) (n : Nat) : Tups K H (vs.drop n) (rows.drop n) := by
  refine ⟨by simp [h.len], fun i z e => ?_⟩
  rw [List.getElem?_drop] at e
  obtain ⟨b, h1, h2⟩ := h.at_ _ z e
  exact ⟨b, by rw [List.getElem?_drop]; exact h1, h2⟩
theorem Tups.cons {vs : List V} {rows : List (List V)} {r : List V} (t : SqT K H a r) (h : Tups K H vs rows) : Tups K H (.ref a :: vs) (r :: rows) := by
  refine ⟨by simp [h.len], fun i z e => ?_⟩
  cases i with
  | zero =>
    cases e
    exact ⟨a, rfl, t⟩
  | succ j => exact h.at_ j z e
theorem Tups.of_cons {vs : List V} {rows : List (List V)} {r : List V} (h : Tups K H vs (r :: rows)) : ∃ (a : Addr) (us : List V), vs = V.ref a :: us ∧ SqT K H a r ∧ Tups K H us rows := by
  obtain ⟨a, h1, h2⟩ := h.at_ 0 r rfl
  cases vs with
  | nil => cases h1
  | cons v us =>
    cases h1
    exact ⟨a, us, rfl, h2, by have := h.len; simpa using this, fun i z e => h.at_ (i + 1) z e⟩
theorem Tups.dp : ∀ {rows : List (List V)} {vs : List V}, Tups K H vs rows → (∀ r ∈ rows, r.all flatS = true) → DpAll K H vs (rows.map fun r => .tuple (r.map pd))
  | [], vs, h, _ => by
    have := h.len
    cases vs with
    | nil => exact .nil
    | cons v us => simp at this
  | r :: rows, vs, h, f => by
    obtain ⟨a, us, rfl, t, g⟩ := h.of_cons
    exact .cons (.tup t (dpAll_pd (f r (List.mem_cons_self ..)))) (Tups.dp g fun z hz => f z (List.mem_cons_of_mem _ hz))
end
def eqLL : List (List V) → List (List V) → Bool
  | [], [] => true
  | x :: xs, y :: ys => eqL x y && eqLL xs ys
  | _, _ => false
theorem layRows : ∀ {rows : List (List V)}, (∀ r ∈ rows, r.all flatS = true) → PyData.canLayAll0 (rows.map fun r => PyData.tuple (r.map pd)) = true ∧ PyData.depthAll (rows.map fun r => PyData.tuple (r.map pd)) ≤ 1
  | [], _ => ⟨by simp only [List.map, PyData.canLayAll0], by simp only [List.map, PyData.depthAll]; omega⟩
  | r :: rows, f => by
    have a := layAll_pd (f r (List.mem_cons_self ..))
    have b := layRows fun z hz => f z (List.mem_cons_of_mem r hz)
    simp only [List.map, PyData.canLayAll0, PyData.depthAll, PyData.canLay0, PyData.depth, a.1, a.2, b.1]
    refine ⟨rfl, ?_⟩
    have := b.2
    omega
theorem shapedRows {rows : List (List V)} (f : ∀ r ∈ rows, r.all flatS = true) : SeqAt.shaped (.list (rows.map fun r => PyData.tuple (r.map pd))) = true := by
  have a := layRows f
  unfold SeqAt.shaped
  simp only [PyData.canLay0, PyData.depth, a.1, Bool.true_and]
  exact decide_eq_true (by have := a.2; omega)
theorem eqvRows : ∀ {xs ys : List (List V)}, (∀ r ∈ xs, r.all flatS = true) → (∀ r ∈ ys, r.all flatS = true) → PyData.eqvAll (xs.map fun r => PyData.tuple (r.map pd)) (ys.map fun r => PyData.tuple (r.map pd)) = eqLL xs ys
  | [], [], _, _ => by simp only [List.map, PyData.eqvAll, eqLL]
  | [], _ :: _, _, _ => by simp only [List.map, PyData.eqvAll, eqLL]
  | _ :: _, [], _, _ => by simp only [List.map, PyData.eqvAll, eqLL]
  | x :: xs, y :: ys, h, k => by
    simp only [List.map, PyData.eqvAll, PyData.eqv, eqLL, eqvAll_pd (h x (List.mem_cons_self ..)) (k y (List.mem_cons_self ..)), eqvRows (fun z hz => h z (List.mem_cons_of_mem _ hz)) (fun z hz => k z (List.mem_cons_of_mem _ hz))]
/-- == of ints, texts, and None alone is equality -/
def sharpV : V → Bool
  | .int _ => true
  | .str _ => true
  | .non => true
  | _ => false
theorem eqV_iff {x y : V} (hx : sharpV x = true) (hy : sharpV y = true) : eqV x y = decide (x = y) := by
  cases x <;> first | cases hx | skip
  all_goals cases y <;> first | cases hy | skip
  all_goals first | (rw [Bool.eq_iff_iff]; simp [eqV]) | simp [eqV]
theorem eqL_iff : ∀ {xs ys : List V}, xs.all sharpV = true → ys.all sharpV = true → eqL xs ys = decide (xs = ys)
  | [], [], _, _ => by simp [eqL]
  | [], _ :: _, _, _ => by simp [eqL]
  | _ :: _, [], _, _ => by simp [eqL]
  | x :: xs, y :: ys, h, k => by
    have h2 := Bool.and_eq_true_iff.mp (List.all_cons .. ▸ h)
    have k2 := Bool.and_eq_true_iff.mp (List.all_cons .. ▸ k)
    rw [eqL, eqV_iff h2.1 k2.1, eqL_iff h2.2 k2.2]
    by_cases c1 : x = y <;> by_cases c2 : xs = ys <;> simp [c1, c2]
theorem eqLL_iff : ∀ {xs ys : List (List V)}, (∀ r ∈ xs, r.all sharpV = true) → (∀ r ∈ ys, r.all sharpV = true) → eqLL xs ys = decide (xs = ys)
  | [], [], _, _ => by simp [eqLL]
  | [], _ :: _, _, _ => by simp [eqLL]
  | _ :: _, [], _, _ => by simp [eqLL]
  | x :: xs, y :: ys, h, k => by
    rw [eqLL, eqL_iff (h x (List.mem_cons_self ..)) (k y (List.mem_cons_self ..)), eqLL_iff (fun z hz => h z (List.mem_cons_of_mem _ hz)) (fun z hz => k z (List.mem_cons_of_mem _ hz))]
    by_cases c1 : x = y <;> by_cases c2 : xs = ys <;> simp [c1, c2]
theorem eqLL_self : ∀ {xs : List (List V)}, (∀ r ∈ xs, r.all flatS = true) → eqLL xs xs = true
  | [], _ => rfl
  | x :: xs, h => by rw [eqLL, eqL_self (h x (List.mem_cons_self ..)), eqLL_self (fun z hz => h z (List.mem_cons_of_mem _ hz))]; rfl
section
variable {K : PySem.W.Frag} {H : Hp} {a b : Addr} {vs us : List V} {xs ys : List (List V)} {Q : VK}
theorem eqD_R (h1 : SqL K H a vs) (t1 : Tups K H vs xs) (h2 : SqL K H b us) (t2 : Tups K H us ys) (f1 : ∀ r ∈ xs, r.all flatS = true) (f2 : ∀ r ∈ ys, r.all flatS = true) (q : Q (.bl (eqLL xs ys)) H) : rEqD K (.ref a) (.ref b) H Q := by
  refine ⟨_, _, .lst h1 (t1.dp f1), .lst h2 (t2.dp f2), shapedRows f1, shapedRows f2, ?_⟩
  simp only [PyData.eqv, eqvRows f1 f2]
  exact q
theorem neD_R (h1 : SqL K H a vs) (t1 : Tups K H vs xs) (h2 : SqL K H b us) (t2 : Tups K H us ys) (f1 : ∀ r ∈ xs, r.all flatS = true) (f2 : ∀ r ∈ ys, r.all flatS = true) (q : Q (.bl (!eqLL xs ys)) H) : rNeD K (.ref a) (.ref b) H Q := by
  refine ⟨_, _, .lst h1 (t1.dp f1), .lst h2 (t2.dp f2), shapedRows f1, shapedRows f2, ?_⟩
  simp only [PyData.eqv, eqvRows f1 f2]
  exact q
end
/-! ### rows of ints -/
/-- a tuple of ints -/
def irow (r : List Int) : List V := r.map V.int
theorem irow_flat (r : List Int) : (irow r).all flatS = true := flatI
theorem irow_sharp (r : List Int) : (irow r).all sharpV = true := by
  unfold irow
  rw [List.all_map]
  exact List.all_eq_true.mpr fun _ _ => rfl
theorem irow_inj {r s : List Int} (h : irow r = irow s) : r = s := by
  unfold irow at h
  exact (List.map_inj_right (fun x y e => V.int.inj e)).mp h
theorem irows_flat {rs : List (List Int)} : ∀ r ∈ rs.map irow, r.all flatS = true := by
  intro r h
  obtain ⟨z, _, rfl⟩ := List.mem_map.mp h
  exact irow_flat z
theorem irows_sharp {rs : List (List Int)} : ∀ r ∈ rs.map irow, r.all sharpV = true := by
  intro r h
  obtain ⟨z, _, rfl⟩ := List.mem_map.mp h
  exact irow_sharp z
theorem irows_inj {r s : List (List Int)} (h : r.map irow = s.map irow) : r = s := (List.map_inj_right (fun x y e => irow_inj e)).mp h
theorem eqLL_i {xs ys : List (List Int)} : eqLL (xs.map irow) (ys.map irow) = decide (xs = ys) := by
  rw [eqLL_iff irows_sharp irows_sharp]
  by_cases c : xs = ys
  · rw [decide_eq_true c, decide_eq_true (by rw [c])]
  · rw [decide_eq_false c, decide_eq_false fun z => c (irows_inj z)]
/-! ### cut lists -/
theorem cutV_lo {xs : List V} {k : Nat} (h : k ≤ xs.length) : cutV xs none (some (k : Int)) = xs.take k := by
  unfold cutV
  have e1 : HT.sIx xs.length 0 none = 0 := rfl
  have e2 : HT.sIx xs.length xs.length (some (k : Int)) = k := by
    simp only [HT.sIx]
    split <;> omega
  rw [e1, e2, List.drop_zero, Nat.sub_zero]
theorem cutV_hi {xs : List V} {k : Nat} (h : k ≤ xs.length) : cutV xs (some (k : Int)) none = xs.drop k := by
  unfold cutV
  have e1 : HT.sIx xs.length 0 (some (k : Int)) = k := by
    simp only [HT.sIx]
    split <;> omega
  have e2 : HT.sIx xs.length xs.length none = xs.length := rfl
  rw [e1, e2, List.take_of_length_le (by simp)]
section
variable {K : PySem.W.Frag} {H : Hp} {a p t : Addr} {us : List V} {rows : List (List V)} {r : List V}
theorem Tups.set (h : Tups K H us rows) (t : SqT K H a r) (k : Nat) : Tups K H (us.set k (.ref a)) (rows.set k r) := by
  refine ⟨by simp [h.len], fun i z e => ?_⟩
  rw [List.getElem?_set] at e ⊢
  by_cases c : k = i
  · rw [if_pos c] at e ⊢
    split at e
    · rename_i c2
      rw [if_pos (by rw [h.len]; exact c2)]
      cases e
      exact ⟨a, rfl, t⟩
    · cases e
  · rw [if_neg c] at e ⊢
    exact h.at_ i z e
theorem app_tups {o : List V} (hp : H p = some (.lst o)) (nt : H t = none) (h : Tups K H us rows) {o' : HO} : Tups K (L2.upd (L2.upd H t (.tup r)) p o') (us ++ [.ref t]) (rows ++ [r]) := ((h.upd nt).snoc (t_of upd_same)).put (hp_upd nt hp) rfl
theorem atI_neg1 {xs : List V} {k : Nat} {v : V} (h : xs.length = k + 1) (e : xs[k]? = some v) : atI xs (-1) = some v := by
  unfold atI
  have e1 : ixN xs.length (-1) = some k := by
    unfold ixN
    rw [if_neg (by decide), if_pos (by omega)]
    congr 1
    omega
  rw [e1]
  exact e
theorem ixN_neg1 {n k : Nat} (h : n = k + 1) : ixN n (-1) = some k := by
  unfold ixN
  rw [if_neg (by decide), if_pos (by omega)]
  congr 1
  omega
theorem ixN_nat {n k : Nat} {i : Int} (e : i = k) (h : k < n) : ixN n i = some k := by
  subst e
  unfold ixN
  rw [if_pos (by omega), if_pos (by omega)]
  simp
/-- the tuple at place i -/
theorem Tups.get (h : Tups K H us rows) {i : Nat} (e : rows[i]? = some r) : ∃ a : Addr, atI us (i : Int) = some (V.ref a) ∧ SqT K H a r := by
  obtain ⟨a, h1, h2⟩ := h.at_ i r e
  exact ⟨a, atI_nat h1, h2⟩
theorem Tups.last (h : Tups K H us (rows ++ [r])) : ∃ a : Addr, atI us (-1) = some (V.ref a) ∧ SqT K H a r := by
  obtain ⟨a, h1, h2⟩ := h.at_ rows.length r (by simp)
  exact ⟨a, atI_neg1 (k := rows.length) (by rw [h.len]; simp) h1, h2⟩
end
end LB

set_option Elab.async false
set_option linter.all false
set_option maxRecDepth 100000
set_option maxHeartbeats 4000000
/-! objects of own classes: calls of methods and of classes that may raise, also within a try -/
namespace LB
open PySem PySem.Spec PyProof.Rows L2
section
variable {X : Cx} {CX : CXT} {k : Nat} {C f : Addr} {fd : FuncData} {ps : List Str} {sp : Sp} {E : L2.St → XK} {m x : Str} {o e : Expr} {es : List Expr} {ta : TE} {t : TA} {p pos apos : Pos}
/-- o.m(e, ..): the receiver stands ahead of the arguments -/
def tMethS (C : Addr) (m : Str) (sp : Sp) (E : L2.St → XK) (ta : TE) (t : TA) : TE := fun σ H Q => ta σ H fun y H1 => ∃ a dx fs,
  y = .ref a ∧ H1 a = some (.ins C dx fs) ∧ fs.lookup m = none ∧ t σ H1 fun vs H2 => sp (.ref a :: vs) H2 Q (E σ)
theorem pe_methX {pl : Sem Bool} (F : FnOk X.prog X.w X.K X.mg X.base CX k f fd ps sp) (hr : Room k X.A)
    (c : Cls X.K C) (hm : Meth X.K C m f) (hb : Binds X.K fd ps []) (hx : ∀ σ, PassesAt CX X σ (E σ)) (he : PE X o ta) (ha : PA X (e :: es) t)
    (hst : starEach (e :: es) X.env = (false, eval e X.env) :: starEach es X.env := by rfl)
    (hpl : (backTo pos (starEach es X.env)).any (·.1) = false := by rfl)
    (ht : eval (.Call (.Attribute o m apos) (e :: es) [] pos) X.env = (eval o X.env >>= fun ov => standAt apos.atName >>= fun _ =>
      holding [ov] (getMethod ov m pl) >>= fun r => callWith pos r.1 r.2 (backTo pos (starEach (e :: es) X.env)) (backToKw pos (keywordEach [] X.env))) := by rfl) :
    PE X (.Call (.Attribute o m apos) (e :: es) [] pos) (tMethS C m sp E ta t) := by
  constructor
  intro pins s σ H Q I h
  refine PySem.W.methodCall_KW (pl := pl) ?_ ht
  refine thn (he.run pins s σ H _ I h) ?_
  rintro u s1 ⟨y, H1, I1, ry, a, dx, fs, rfl, ea, l, q⟩
  cases (show u = Value.ref a from ry)
  refine getmeth_ok I1 ea c hm l (PySem.W.callWith_K (first := [.ref a]) (h₀ := X.base) I.ok.mod.kin hm.kp ?_ hst hpl)
  refine thn (ha.run pos pins s1 σ H1 _ I1 q) ?_
  rintro us s2 ⟨vs, H2, I2, rv, q2⟩
  exact ⟨I2.kIn, run_fnS (us := .ref a :: us) (vs := .ref a :: vs) F hr hb (hx σ) I2 (.cons rfl rv) q2⟩
theorem pe_methX0 {pl : Sem Bool} (F : FnOk X.prog X.w X.K X.mg X.base CX k f fd ps sp) (hr : Room k X.A)
    (c : Cls X.K C) (hm : Meth X.K C m f) (hb : Binds X.K fd ps []) (hx : ∀ σ, PassesAt CX X σ (E σ)) (he : PE X o ta)
    (ht : eval (.Call (.Attribute o m apos) [] [] pos) X.env = (eval o X.env >>= fun ov => standAt apos.atName >>= fun _ =>
      holding [ov] (getMethod ov m pl) >>= fun r => callWith pos r.1 r.2 (backTo pos (starEach [] X.env)) (backToKw pos (keywordEach [] X.env))) := by rfl) :
    PE X (.Call (.Attribute o m apos) [] [] pos) (tMethS C m sp E ta tNil) := by
  constructor
  intro pins s σ H Q I h
  refine PySem.W.methodCall_KW (pl := pl) ?_ ht
  refine thn (he.run pins s σ H _ I h) ?_
  rintro u s1 ⟨y, H1, I1, ry, a, dx, fs, rfl, ea, l, q⟩
  cases (show u = Value.ref a from ry)
  exact getmeth_ok I1 ea c hm l (PySem.W.callWith_K0 (first := [.ref a]) I1.kIn hm.kp (run_fnS (us := [.ref a]) (vs := [.ref a]) F hr hb (hx σ) I1 (.cons rfl .nil) q))
/-- C(e, ..): a new instance goes through __init__ -/
def tMakeS (C : Addr) (sp : Sp) (E : L2.St → XK) (t : TA) : TE := fun σ H Q => t σ H fun vs H1 => ∀ y dy, H1 y = none → H1 dy = none → dy ≠ y →
  sp (.ref y :: vs) (upd (upd H1 dy (.own y)) y (.ins C dy [])) (fun v H2 => v = .non ∧ Q (.ref y) H2) (E σ)
theorem make_runX {pins : List (Addr × Obj)} {s : Shared} {σ : L2.St} {H : Hp} {Q : VK} {us : List Value} {vs : List V} (M : Mk X.K C f) (F : FnOk X.prog X.w X.K X.mg X.base CX k f fd ps sp) (hr : Room (k + 1) X.A)
    (hb : Binds X.K fd ps []) (hx : PassesAt CX X σ (E σ)) (I : Inv X pins σ H s) (r : Vals vs us)
    (h : ∀ y dy, H y = none → H dy = none → dy ≠ y → sp (.ref y :: vs) (upd (upd H dy (.own y)) y (.ins C dy [])) (fun v H2 => v = .non ∧ Q (.ref y) H2) (E σ)) :
    wpAny (model X.prog X.w) X.A (call (.ref C) us) (EP X pins σ Q) X.xe s := by
  have J := Inv.made (C := C) I
  have g := h (s.heap.objs.size + 1) s.heap.objs.size (I.hok.fresh (Nat.le_succ _)) (I.hok.fresh (Nat.le_refl _)) (Nat.ne_of_lt (Nat.lt_succ_self s.heap.objs.size))
  have rr : Vals (V.ref (s.heap.objs.size + 1) :: vs) (Value.ref (s.heap.objs.size + 1) :: us) := Paired.cons (show RelV (V.ref (s.heap.objs.size + 1)) (Value.ref (s.heap.objs.size + 1)) from rfl) r
  have n : (Value.ref (s.heap.objs.size + 1) :: us).length = ps.length := (rr.length.symm).trans (F.len _ _ _ _ g)
  have run := F.run _ X.stack _ _ ⟨Value.ref (s.heap.objs.size + 1) :: us, []⟩ (Value.ref (s.heap.objs.size + 1) :: us) _ _ (E σ) (hr.make C us []) (J.env0.make C us [])
    (by have b := hb _ (Value.ref (s.heap.objs.size + 1) :: us) J.kIn (by simpa using n); simpa using b) rr g
  refine wpAny_call (make_map (f := f) I.kIn M.makes M.init (beq_iff_eq.mp M.fn) (codeAny_mono run ?_))
  rintro (e | fl) s' z
  · exact hx pins _ _ e s' J z
  · cases fl with
    | ret u =>
      obtain ⟨v, H', I3, rv, rfl, q3⟩ := J.after z
      exact ⟨rv, V.ref (s.heap.objs.size + 1), H', I3, rfl, q3⟩
    | next => exact z.elim
    | brk => exact z.elim
    | cont => exact z.elim
theorem pe_makeX (M : Mk X.K C f) (F : FnOk X.prog X.w X.K X.mg X.base CX k f fd ps sp) (hr : Room (k + 1) X.A) (hg : Gl X x) (hm : X.mg x = some (.ref C)) (hb : Binds X.K fd ps []) (hx : ∀ σ, PassesAt CX X σ (E σ))
    (ha : PA X (e :: es) t) (hdb : (x == ("__debug__" : Str)) = false := by decide)
    (he : starEach (e :: es) X.env = (false, eval e X.env) :: starEach es X.env := by rfl) (hpl : (backTo pos (starEach es X.env)).any (·.1) = false := by rfl) :
    PE X (.Call (.Name x p) (e :: es) [] pos) (tMakeS C sp E t) := by
  constructor
  intro pins s σ H Q I h
  refine wpAny_Call_Name_kw (ld_glob I hg hm ?_ hdb)
  refine PySem.W.callWith_K (h₀ := X.base) I.ok.mod.kin M.kp (thn (ha.run pos pins s σ H _ I h) ?_) he hpl
  rintro us s1 ⟨vs, H1, I1, r, q⟩
  exact ⟨I1.kIn, make_runX M F hr hb (hx σ) I1 r q⟩
end
/-! ### tuple(xs) -/
@[irreducible] def rTo (K : PySem.W.Frag) : List V → Hp → VK → Prop := fun vs H Q => ∃ p xs, vs = [.ref p] ∧ SqL K H p xs ∧ ∀ l, H l = none → Q (.ref l) (upd H l (.tup xs))
theorem call_to {X : Cx} : CallR X (.type "tuple") (rTo X.K) := fun pins s σ H xs us Q I r h => by
  unfold rTo at h
  obtain ⟨p, ys, rfl, hs, q⟩ := h
  exact call_tuple_of pins s σ H _ us Q I r ⟨p, ys, rfl, .inl ⟨hs, q⟩⟩
theorem to_go {K : PySem.W.Frag} {H : Hp} {p : Addr} {xs : List V} {Q : VK} (h : SqL K H p xs) (q : ∀ l, H l = none → Q (.ref l) (upd H l (.tup xs))) : rTo K [.ref p] H Q := by
  unfold rTo
  exact ⟨p, xs, rfl, h, q⟩
section
variable {X : Cx} {CX : CXT} {k : Nat} {C f : Addr} {fd : FuncData} {ps : List Str} {sp : Sp} {E : L2.St → XK} {x : Str} {p pos : Pos}
/-- C(): no arguments -/
theorem pe_makeX0 (M : Mk X.K C f) (F : FnOk X.prog X.w X.K X.mg X.base CX k f fd ps sp) (hr : Room (k + 1) X.A) (hg : Gl X x) (hm : X.mg x = some (.ref C)) (hb : Binds X.K fd ps []) (hx : ∀ σ, PassesAt CX X σ (E σ))
    (hdb : (x == ("__debug__" : Str)) = false := by decide) :
    PE X (.Call (.Name x p) [] [] pos) (tMakeS C sp E tNil) := by
  constructor
  intro pins s σ H Q I h
  refine wpAny_Call_Name_kw (ld_glob I hg hm ?_ hdb)
  exact PySem.W.callWith_K0 I.kIn M.kp (make_runX (us := []) (vs := []) M F hr hb (hx σ) I .nil h)
end
/-! ### fields -/
section
variable {K : PySem.W.Frag} {H : Hp} {a C dx : Addr} {fs : List (Str × V)} {f : Str} {v : V}
theorem fld_go {R : V → Prop} (e : H a = some (.ins C dx fs)) (c : Cls K C) (n : NoAttr K C f) (l : fs.lookup f = some v) (q : R v) : ∃ (a' C' dx' : Addr) (fs' : List (Str × V)) (v' : V), V.ref a = .ref a' ∧ H a' = some (.ins C' dx' fs') ∧ Cls K C' ∧ NoAttr K C' f ∧ fs'.lookup f = some v' ∧ R v' :=
  ⟨a, C, dx, fs, v, rfl, e, c, n, l, q⟩
theorem setf_go {R : Hp → Prop} (e : H a = some (.ins C dx fs)) (c : Cls K C) (n : NoAttr K C f) (l : fs.length < 1000) (q : R (upd H a (.ins C dx (putF f v fs)))) : ∃ (a' C' dx' : Addr) (fs' : List (Str × V)), V.ref a = .ref a' ∧ H a' = some (.ins C' dx' fs') ∧ Cls K C' ∧ NoAttr K C' f ∧ fs'.length < 1000 ∧ R (upd H a' (.ins C' dx' (putF f v fs'))) :=
  ⟨a, C, dx, fs, rfl, e, c, n, l, q⟩
end
end LB

set_option Elab.async false
set_option linter.all false
set_option maxRecDepth 100000
set_option maxHeartbeats 4000000
/-! dicts made in a def -/
namespace LB
open PySem PySem.Spec PyProof.Rows L2
section
variable {X : Cx}
theorem sw_dict {kx vx : Expr} {gs : List Comprehension} {scope : Scope} {pos py : Pos} {y : Str} {l : Nat} {env : Env} (hk : env.scope.kind = .function) (hy : env.scope.names.lookup y = some .local)
    (hl : (py.line == pos.line) = true) (ha : (scope.names.any fun (n, k) => n == y && (k == .local || k == .cell)) = false) : swapsWith (.DictComp kx vx gs scope pos) (some (.Name y py)) l env = pure true := by
  have ky : env.kindOf y = some .local := hy
  have hb : env.blockKind = .function := by
    unfold Env.blockKind
    rw [hk]; rfl
  unfold swapsWith
  simp only [hb, ky, ha, Expr.pos, hl]; rfl
/-- name = {k: v for ..} on one line, the name a local -/
theorem ps_setDc {i : Nat} {y : Str} {py : Pos} {kx vx tg iter : Expr} {ifs : List Expr} {scope : Scope} {own : List (Str × Nat)} {pos spos : Pos} {wi : TI} {g : TG} {tt : TT} {tk tv : TE}
    (hc : X.calm = true) (hN : X.N.Nodup) (hy : X.N[i]? = some y) (hyl : X.env.scope.names.lookup y = some .local)
    (hsw : swapsWith (.DictComp kx vx [⟨tg, iter, ifs, 0⟩] scope pos) (some (.Name y py)) spos.line X.env = pure true) (hi : PI X tg iter wi) (ok : BlkOk X.N X.env.scope scope own)
    (hg : ∀ (s : Shared) (H : Hp) (C : Addr) (cl : List (Str × Addr)) (fp : List Addr), PG (X.blk s H scope (compEnvC scope cl C X.env) fp) tg g)
    (ht : ∀ (s : Shared) (H : Hp) (C : Addr) (cl : List (Str × Addr)) (fp : List Addr), PTs (X.blk s H scope (compEnvC scope cl C X.env) fp) ifs tt)
    (hk : ∀ (s : Shared) (H : Hp) (C : Addr) (cl : List (Str × Addr)) (fp : List Addr), PE (X.blk s H scope (compEnvC scope cl C X.env) fp) kx tk)
    (he : ∀ (s : Shared) (H : Hp) (C : Addr) (cl : List (Str × Addr)) (fp : List Addr), PE (X.blk s H scope (compEnvC scope cl C X.env) fp) vx tv)
    (hs : ∀ x, foldedSetIterable iter X.env x = pure x := by intro _; rfl) :
    PS X (.Assign [.Name y py] (.DictComp kx vx [⟨tg, iter, ifs, 0⟩] scope pos) spos) (tAsg (tDc wi g tt tk tv (own.map (·.2))) (gName i)) := by
  constructor
  intro pins s σ H D I h
  rw [exec_Assign_Name_used _ _ _ _ hsw]
  refine wpAny_bind (wpAny_standAt (wpAny_bind (wpAny_bind (thn (dc_core (use := some (assign (.Name y py) X.env)) (Qf := fun _ t => SP X pins D .next t) hc hN I hi ok hg ht hk he hs
    (show tDc wi g tt tk tv (own.map (·.2)) σ H (fun x H1 => gName i x σ H1 D.nx) from h) ?_) ?_))))
  · intro L C t m H' J q hn f
    refine wpAny_assign_Name (store_ok2 (v := V.ref L) J hN hy (.inl hyl) rfl ?_ (.inr hyl))
    rintro s2 I2 ⟨a, sb, ha⟩
    obtain ⟨f0, f1, f2, f3, f4, f5⟩ := f
    have ne : C ≠ a := ha.elim (fun z => by rw [z]; exact f1) fun z e => f4 y a z e.symm
    exact ⟨m, hn.sameBut sb ne, fun h3 sb3 => ⟨_, H', I2.turned (t' := s2.toks) (fun b o hb e => (sb3.2 b hb).trans e) f0 f1 f3 f4 f5, q⟩⟩
  · exact fun _ t hq => wpAny_pure (wpAny_pure hq)
end
/-! ### reading and writing a dict -/
section
variable {H : Hp} {d : Addr} {kvs : List (Key × V)} {z : Str} {i : Int} {v : V} {r : Option V} {Q : VK}
theorem dgetS {R : Addr → V → Prop} (e : H d = some (.dK kvs)) (l : valV kvs (Sum.inr z) = some v) (q : R d v) : ∃ a v', V.ref d = .ref a ∧ DGet H a (.str z) (some v') ∧ R a v' :=
  ⟨d, v, rfl, l ▸ DGet.k (k := Sum.inr z) e, q⟩
theorem dgetI {R : Addr → V → Prop} (e : H d = some (.dK kvs)) (l : valV kvs (Sum.inl i) = some v) (q : R d v) : ∃ a v', V.ref d = .ref a ∧ DGet H a (.int i) (some v') ∧ R a v' :=
  ⟨d, v, rfl, l ▸ DGet.k (k := Sum.inl i) e, q⟩
theorem dinS {R : Addr → Option V → Prop} (e : H d = some (.dK kvs)) (l : valV kvs (Sum.inr z) = r) (q : R d r) : ∃ a o, V.ref d = .ref a ∧ DGet H a (.str z) o ∧ R a o :=
  ⟨d, r, rfl, l ▸ DGet.k (k := Sum.inr z) e, q⟩
theorem dinI {R : Addr → Option V → Prop} (e : H d = some (.dK kvs)) (l : valV kvs (Sum.inl i) = r) (q : R d r) : ∃ a o, V.ref d = .ref a ∧ DGet H a (.int i) o ∧ R a o :=
  ⟨d, r, rfl, l ▸ DGet.k (k := Sum.inl i) e, q⟩
theorem dniS {R : Addr → Option V → Prop} (e : H d = some (.dK kvs)) (l : valV kvs (Sum.inr z) = r) (q : R d r) : ∃ a o, V.ref d = .ref a ∧ DGet H a (.str z) o ∧ R a o :=
  ⟨d, r, rfl, l ▸ DGet.k (k := Sum.inr z) e, q⟩
theorem dniI {R : Addr → Option V → Prop} (e : H d = some (.dK kvs)) (l : valV kvs (Sum.inl i) = r) (q : R d r) : ∃ a o, V.ref d = .ref a ∧ DGet H a (.int i) o ∧ R a o :=
  ⟨d, r, rfl, l ▸ DGet.k (k := Sum.inl i) e, q⟩
theorem dputS {R : Hp → Prop} (e : H d = some (.dK kvs)) (hl : kvs.length < sizeLine) (q : R (upd H d (.dK (putK kvs (Sum.inr z) v)))) : ∃ a H', V.ref d = .ref a ∧ DPut H a (.str z) v H' ∧ R H' :=
  ⟨d, _, rfl, DPut.k (k := Sum.inr z) e hl, q⟩
theorem dputI {R : Hp → Prop} (e : H d = some (.dK kvs)) (hl : kvs.length < sizeLine) (q : R (upd H d (.dK (putK kvs (Sum.inl i) v)))) : ∃ a H', V.ref d = .ref a ∧ DPut H a (.int i) v H' ∧ R H' :=
  ⟨d, _, rfl, DPut.k (k := Sum.inl i) e hl, q⟩
theorem dputS2 {R : Hp → Prop} (e : H d = some (.dK kvs)) (hl : kvs.length < sizeLine) (q : R (upd H d (.dK (putK kvs (Sum.inr z) v)))) : ∃ H', DPut H d (.str z) v H' ∧ R H' :=
  ⟨_, DPut.k (k := Sum.inr z) e hl, q⟩
theorem dputI2 {R : Hp → Prop} (e : H d = some (.dK kvs)) (hl : kvs.length < sizeLine) (q : R (upd H d (.dK (putK kvs (Sum.inl i) v)))) : ∃ H', DPut H d (.int i) v H' ∧ R H' :=
  ⟨_, DPut.k (k := Sum.inl i) e hl, q⟩
/-! ### len(d) -/
@[irreducible] def rLnD : List V → Hp → VK → Prop := fun xs H Q => ∃ a kvs, xs = [V.ref a] ∧ H a = some (.dK kvs) ∧ Q (.int kvs.length) H
theorem call_lnD {X : Cx} : CallR X (.builtin "len") rLnD := fun pins s σ H xs us Q I r h => call_lenD pins s σ H xs us Q I r (by unfold rLnD at h; exact h)
theorem lnD_go (e : H d = some (.dK kvs)) (q : Q (.int kvs.length) H) : rLnD [.ref d] H Q := by
  unfold rLnD
  exact ⟨d, kvs, rfl, e, q⟩
theorem tyx_d {K : PySem.W.Frag} (e : H d = some (.dK kvs)) : TyX K H (.ref d) (.type "dict") := .base (.dK e)
theorem tyx_lt {K : PySem.W.Frag} {xs : List V} (e : H d = some (.lst xs)) : TyX K H (.ref d) (.type "list") := .base (.lst e)
end
/-! ### more methods of lists -/
@[irreducible] def rIxm (K : PySem.W.Frag) : V → List V → Hp → VK → Prop := fun x vs H Q => rIndex K x vs H Q
theorem mt_ixm {X : Cx} : MtR X "list.index" (rIxm X.K) := fun pins s σ H x xs v us Q I rx rs h => mt_index pins s σ H x xs v us Q I rx rs (by unfold rIxm at h; exact h)
section
variable {K : PySem.W.Frag} {H : Hp} {a : Addr} {ys : List V} {y : V} {Q : VK}
/-- l.index(y): no two items alike -/
theorem ixm_go {j : Nat} (h : SqL K H a ys) (fy : flatV y = true) (fys : ys.all flatV = true) (hj : ys[j]? = some y) (hyy : eqV y y = true) (hno : ∀ (m : Nat) (z' : V), m < j → ys[m]? = some z' → eqV z' y = false) (q : Q (.int (j : Nat)) H) : rIxm K (.ref a) [y] H Q := by
  unfold rIxm
  exact ⟨a, ys, y, j, y, rfl, rfl, h, fy, fys, hj, hyy, hno, q⟩
end
@[irreducible] def rIns : V → List V → Hp → VK → Prop := fun x vs H Q => ∃ (l : Addr) (xs : List V) (i : Int) (y : V), x = .ref l ∧ vs = [.int i, y] ∧ H l = some (.lst xs) ∧ xs.length < sizeLine ∧ 0 ≤ i ∧ i < 2 ^ 63 ∧
    Q .non (upd H l (.lst (xs.take i.toNat ++ [y] ++ xs.drop i.toNat)))
theorem mt_ins {X : Cx} : MtR X "list.insert" rIns := fun pins s σ H x xs v us Q I rx rs h => mt_insert pins s σ H x xs v us Q I rx rs (by unfold rIns at h; exact h)
theorem ins_go {H : Hp} {l : Addr} {xs : List V} {y : V} {i : Nat} {Q : VK} (e : H l = some (.lst xs)) (hl : xs.length < sizeLine) (hi : i < 9223372036854775808) (q : Q .non (upd H l (.lst (xs.take i ++ [y] ++ xs.drop i)))) : rIns (.ref l) [.int (i : Int), y] H Q := by
  unfold rIns
  refine ⟨l, xs, (i : Int), y, rfl, rfl, e, hl, Int.natCast_nonneg _, by omega, ?_⟩
  rw [Int.toNat_natCast]
  exact q
@[irreducible] def rRmv : V → List V → Hp → VK → Prop := fun x vs H Q => rRemI x vs H Q
theorem mt_rmv {X : Cx} : MtR X "list.remove" rRmv := fun pins s σ H x xs v us Q I rx rs h => mt_remove pins s σ H x xs v us Q I rx rs (by unfold rRmv at h; exact h)
end LB

set_option Elab.async false
set_option linter.all false
set_option maxRecDepth 100000
set_option maxHeartbeats 4000000
/-! texts -/
namespace LB
open PySem PySem.Spec PyProof.Rows L2
/-! ### s[i], s[a:b], s + t, len(s), <=, in -/
@[irreducible] def rIxSs : R2 := fun x y H Q => rIxS x y H Q
theorem ix_ss {X : Cx} : IxR X rIxSs := fun value slice pins s σ H x y v u Q I rx ry h hs => ix_str value slice pins s σ H x y v u Q I rx ry (by unfold rIxSs at h; exact h) hs
@[irreducible] def rSlSs : V → Option Int → Option Int → Hp → VK → Prop := fun x lo hi H Q => rSlS x lo hi H Q
theorem sl_ss {X : Cx} : SlR X rSlSs := fun pins s σ H x v vl vu lo hi sl Q I rx hs pl pu h => sl_str pins s σ H x v vl vu lo hi sl Q I rx hs pl pu (by unfold rSlSs at h; exact h)
@[irreducible] def rAddS : R2 := fun x y H Q => ∃ i j, x = .str i ∧ y = .str j ∧ i.length + j.length ≤ sizeLine ∧ Q (.str (i ++ j)) H
theorem op_addS {X : Cx} : OpR X (binaryOp .Add) rAddS := fun pins s σ H x y v u Q I rx ry h => op_add_str pins s σ H x y v u Q I rx ry (by unfold rAddS at h; exact h)
@[irreducible] def rLenS : List V → Hp → VK → Prop := fun xs H Q => ∃ z, xs = [.str z] ∧ z.length ≤ sizeLine ∧ Q (.int z.length) H
theorem call_lenS {X : Cx} : CallR X (.builtin "len") rLenS := fun pins s σ H xs us Q I r h => call_len_str pins s σ H xs us Q I r (by unfold rLenS at h; exact h)
@[irreducible] def rLeS : R2 := fun x y H Q => ∃ i j, x = .str i ∧ y = .str j ∧ Q (.bl (!decide (j.cps.toList < i.cps.toList))) H
theorem op_leS {X : Cx} : OpR X (compareOp .LtE) rLeS := fun pins s σ H x y v u Q I rx ry h => op_le_str pins s σ H x y v u Q I rx ry (by unfold rLeS at h; exact h)
@[irreducible] def rInC (neg : Bool) : R2 := fun x y H Q => ∃ (c : Nat) (z : Str), x = .str ⟨#[c]⟩ ∧ y = .str z ∧ Q (.bl (if neg then !decide (c ∈ z.cps.toList) else decide (c ∈ z.cps.toList))) H
theorem op_inC {X : Cx} : OpR X (compareOp .In) (rInC false) := fun pins s σ H x y v u Q I rx ry h => op_in_sign pins s σ H x y v u Q I rx ry (by unfold rInC at h; exact h)
theorem op_niC {X : Cx} : OpR X (compareOp .NotIn) (rInC true) := fun pins s σ H x y v u Q I rx ry h => op_notIn_sign pins s σ H x y v u Q I rx ry (by unfold rInC at h; exact h)
section
variable {H : Hp} {Q : VK} {z y : Str} {i : Int} {c : Nat} {lo hi : Option Int}
theorem ixS_go (h : z.length ≤ sizeLine) (e : atI z.cps.toList i = some c) (q : Q (.str ⟨#[c]⟩) H) : rIxSs (.str z) (.int i) H Q := by
  unfold rIxSs
  exact ⟨z, i, c, rfl, rfl, h, e, q⟩
theorem slS_go (h : z.length ≤ sizeLine) (q : Q (.str (cutS z lo hi)) H) : rSlSs (.str z) lo hi H Q := by
  unfold rSlSs
  exact ⟨z, rfl, h, q⟩
theorem addS_go (h : z.length + y.length ≤ sizeLine) (q : Q (.str (z ++ y)) H) : rAddS (.str z) (.str y) H Q := by
  unfold rAddS
  exact ⟨z, y, rfl, rfl, h, q⟩
theorem lenS_go (h : z.length ≤ sizeLine) (q : Q (.int z.length) H) : rLenS [.str z] H Q := by
  unfold rLenS
  exact ⟨z, rfl, h, q⟩
theorem leS_go (q : Q (.bl (!decide (y.cps.toList < z.cps.toList))) H) : rLeS (.str z) (.str y) H Q := by
  unfold rLeS
  exact ⟨z, y, rfl, rfl, q⟩
theorem inC_go (q : Q (.bl (decide (c ∈ z.cps.toList))) H) : rInC false (.str ⟨#[c]⟩) (.str z) H Q := by
  unfold rInC
  exact ⟨c, z, rfl, rfl, q⟩
theorem niC_go (q : Q (.bl (!decide (c ∈ z.cps.toList))) H) : rInC true (.str ⟨#[c]⟩) (.str z) H Q := by
  unfold rInC
  exact ⟨c, z, rfl, rfl, q⟩
end
/-! ### for c in s -/
theorem for_txt {z : Str} {g : TG} {tb : TS} {D : Ends} {σ : L2.St} {H : Hp} (Pv : Nat → L2.St → Hp → Prop) (h0 : Pv 0 σ H)
    (hs : ∀ (i : Nat) (c : Nat) (σ : L2.St) (H : Hp), z.cps.toList[i]? = some c → Pv i σ H → g (.str ⟨#[c]⟩) σ H fun σ2 H2 => tb { D with nx := Pv (i + 1), ct := Pv (i + 1), bk := D.nx } σ2 H2) (hd : ∀ σ H, Pv z.cps.size σ H → D.nx σ H) :
    ∃ W : Nat → Nat → L2.St → Hp → Prop, (∃ m, W 0 m σ H) ∧ ∀ i m σ H, W i m σ H →
      ((Its z).stop i H ∧ D.nx σ H) ∨ ((Its z).go i H ∧ ∃ N : L2.St → Hp → Prop, (∀ σ' H', N σ' H' → ∃ m', m' < m ∧ W (i + 1) m' σ' H') ∧ ∀ x H', (Its z).yld i H x H' → g x σ H' fun σ2 H2 => tb { D with nx := N, ct := N, bk := D.nx } σ2 H2) := by
  refine ⟨fun i m σ H => m = z.cps.size - i ∧ i ≤ z.cps.size ∧ Pv i σ H, ⟨z.cps.size, by simp, Nat.zero_le _, h0⟩, ?_⟩
  rintro i m σ H ⟨rfl, hi, p⟩
  by_cases hlt : i < z.cps.size
  · refine .inr ⟨hlt, Pv (i + 1), fun σ' H' p' => ⟨z.cps.size - (i + 1), by omega, rfl, hlt, p'⟩, fun x H' y => ?_⟩
    obtain ⟨rfl, c, e, rfl⟩ := y
    exact hs i c σ H' (by rw [Array.getElem?_toList]; exact e) p
  · have e : i = z.cps.size := by omega
    subst e
    exact .inl ⟨Nat.le_refl _, hd σ H p⟩
/-! ### plain facts -/
theorem lt_one {a b : Nat} : (([a] : List Nat) < [b]) ↔ a < b := by
  constructor
  · intro h
    cases h with
    | rel h => exact h
    | cons h => cases h
  · intro h
    exact .rel h
theorem okS_of {z : Str} (h : ∀ c ∈ z.cps.toList, c < 1114112) : okS z = true := by
  unfold okS
  refine List.all_eq_true.mpr fun c hc => ?_
  rw [Nat.blt_eq]
  exact h c hc
theorem okS_mem {z : Str} (h : okS z = true) : ∀ c ∈ z.cps.toList, c < 1114112 := fun c hc => by
  unfold okS at h
  have := List.all_eq_true.mp h c hc
  rw [Nat.blt_eq] at this
  exact this
theorem okS_app {y z : Str} (h : okS y = true) (k : okS z = true) : okS (y ++ z) = true := okS_of fun c hc => by
  have e : (y ++ z).cps.toList = y.cps.toList ++ z.cps.toList := Array.toList_append
  rw [e, List.mem_append] at hc
  exact hc.elim (okS_mem h c) (okS_mem k c)
theorem okS_cut {z : Str} (h : okS z = true) (lo hi : Option Int) : okS (cutS z lo hi) = true := okS_of fun c hc => by
  have e : (cutS z lo hi).cps.toList = ((z.cps.toList.drop (HT.sIx z.length 0 lo)).take (HT.sIx z.length z.length hi - HT.sIx z.length 0 lo)) := rfl
  rw [e] at hc
  exact okS_mem h c (List.mem_of_mem_drop (List.mem_of_mem_take hc))
theorem okS_one {c : Nat} (h : c < 1114112) : okS ⟨#[c]⟩ = true := okS_of fun d hd => by
  have e : (⟨#[c]⟩ : Str).cps.toList = [c] := rfl
  rw [e, List.mem_singleton] at hd
  omega
theorem len_app {y z : Str} : (y ++ z).length = y.length + z.length := Array.size_append
theorem len_cut (z : Str) (lo hi : Option Int) : (cutS z lo hi).length ≤ z.length := by
  show (((z.cps.toList.drop (HT.sIx z.length 0 lo)).take (HT.sIx z.length z.length hi - HT.sIx z.length 0 lo)).toArray).size ≤ z.length
  rw [List.size_toArray, List.length_take, List.length_drop]
  have : z.cps.toList.length = z.length := rfl
  omega
theorem len_list (z : Str) : z.cps.toList.length = z.length := rfl
theorem atI_txt {z : Str} {i : Int} (j : Nat) (h : j < z.length) (e : i = j) : ∃ c, z.cps.toList[j]? = some c ∧ c ∈ z.cps.toList ∧ atI z.cps.toList i = some c := by
  subst e
  have h' : j < z.cps.toList.length := h
  exact ⟨_, List.getElem?_eq_getElem h', List.getElem_mem h', atI_nat (List.getElem?_eq_getElem h')⟩
/-! ### names -/
def lowC (c : Nat) : Bool := decide (97 ≤ c) && decide (c ≤ 122)
def digC (c : Nat) : Bool := decide (48 ≤ c) && decide (c ≤ 57)
def headC : List Nat → Bool
  | c :: _ => lowC c
  | [] => false
def nameB (z : Str) : Bool := (decide (1 ≤ z.length) && decide (z.length ≤ 12)) && (headC z.cps.toList && z.cps.toList.all fun c => lowC c || digC c)
theorem low_le (c : Nat) : (!decide ([c] < [97])) = decide (97 ≤ c) := by
  by_cases h : 97 ≤ c
  · rw [decide_eq_true h, decide_eq_false (by rw [lt_one]; omega)]; rfl
  · rw [decide_eq_false h, decide_eq_true (by rw [lt_one]; omega)]; rfl
theorem in_low (c : Nat) : decide (c ∈ ("abcdefghijklmnopqrstuvwxyz" : Str).cps.toList) = lowC c := by
  have e : ("abcdefghijklmnopqrstuvwxyz" : Str).cps.toList = [97, 98, 99, 100, 101, 102, 103, 104, 105, 106, 107, 108, 109, 110, 111, 112, 113, 114, 115, 116, 117, 118, 119, 120, 121, 122] := by decide +kernel
  rw [e]
  unfold lowC
  rw [Bool.eq_iff_iff, Bool.and_eq_true, decide_eq_true_iff, decide_eq_true_iff, decide_eq_true_iff]
  simp only [List.mem_cons, List.not_mem_nil, or_false]
  omega
theorem in_dig (c : Nat) : decide (c ∈ ("0123456789" : Str).cps.toList) = digC c := by
  have e : ("0123456789" : Str).cps.toList = [48, 49, 50, 51, 52, 53, 54, 55, 56, 57] := by decide +kernel
  rw [e]
  unfold digC
  rw [Bool.eq_iff_iff, Bool.and_eq_true, decide_eq_true_iff, decide_eq_true_iff, decide_eq_true_iff]
  simp only [List.mem_cons, List.not_mem_nil, or_false]
  omega
/-! ### sep.join(xs) -/
@[irreducible] def rJoinS (K : PySem.W.Frag) : V → List V → Hp → VK → Prop := fun x xs H Q => ∃ a p, ∃ ys : List Str, x = .str a ∧ xs = [.ref p] ∧ (SqL K H p (ys.map V.str) ∨ SqT K H p (ys.map V.str)) ∧ (ys.map (·.length)).sum + ys.length * a.length ≤ 16777216 ∧ Q (.str (Txt.join a ys)) H
theorem mt_joinS {X : Cx} : MtR X "str.join" (rJoinS X.K) := fun pins s σ H x xs v us Q I rx rs h => mt_join pins s σ H x xs v us Q I rx rs (by unfold rJoinS at h; exact h)
theorem joinS_go {K : PySem.W.Frag} {H : Hp} {Q : VK} {a : Str} {p : Addr} {ys : List Str} (h : SqL K H p (ys.map V.str)) (hz : (ys.map (·.length)).sum + ys.length * a.length ≤ 16777216) (q : Q (.str (Txt.join a ys)) H) : rJoinS K (.str a) [.ref p] H Q := by
  unfold rJoinS
  exact ⟨a, p, ys, rfl, rfl, .inl h, hz, q⟩
theorem nameB_iff {z : Str} : nameB z = true ↔ 1 ≤ z.length ∧ z.length ≤ 12 ∧ headC z.cps.toList = true ∧ ∀ c ∈ z.cps.toList, (lowC c || digC c) = true := by
  unfold nameB
  rw [Bool.and_eq_true, Bool.and_eq_true, Bool.and_eq_true, decide_eq_true_iff, decide_eq_true_iff, List.all_eq_true]
  exact ⟨fun h => ⟨h.1.1, h.1.2, h.2.1, h.2.2⟩, fun h => ⟨⟨h.1, h.2.1⟩, h.2.2.1, h.2.2.2⟩⟩
theorem nameB_no {z : Str} (h : ¬ (1 ≤ z.length ∧ z.length ≤ 12 ∧ headC z.cps.toList = true ∧ ∀ c ∈ z.cps.toList, (lowC c || digC c) = true)) : nameB z = false := by
  rw [Bool.eq_false_iff]
  exact fun k => h (nameB_iff.mp k)
theorem head_of {z : Str} {c : Nat} (e : z.cps.toList[0]? = some c) : headC z.cps.toList = lowC c := by
  cases h : z.cps.toList with
  | nil => rw [h] at e; cases e
  | cons d r =>
    rw [h] at e
    cases e
    rfl
theorem tl_join0 : ∀ ys : List Str, (Txt.join Str.empty ys).cps.toList = ys.flatMap (fun y => y.cps.toList)
  | [] => rfl
  | [x] => by rw [TL.join_eq]; exact (List.append_nil _).symm
  | x :: z :: r => by
    have ih := tl_join0 (z :: r)
    rw [TL.join_eq] at ih ⊢
    show ((x ++ Str.empty ++ Str.join Str.empty (z :: r)).cps).toList = _
    have e1 : (x ++ Str.empty ++ Str.join Str.empty (z :: r)).cps.toList = x.cps.toList ++ (Str.join Str.empty (z :: r)).cps.toList := by
      show ((x.cps ++ #[]) ++ (Str.join Str.empty (z :: r)).cps).toList = _
      rw [Array.append_empty, Array.toList_append]
    rw [e1, ih]
    rfl
theorem join_chars (ys : List Nat) : (Txt.join Str.empty (ys.map fun c => (⟨#[c]⟩ : Str))).cps.toList = ys := by
  rw [tl_join0]
  induction ys with
  | nil => rfl
  | cons a r ih =>
    rw [List.map_cons, List.flatMap_cons, ih]
    rfl
theorem join_len (ys : List Nat) : (Txt.join Str.empty (ys.map fun c => (⟨#[c]⟩ : Str))).length = ys.length := by
  have e := join_chars ys
  have : (Txt.join Str.empty (ys.map fun c => (⟨#[c]⟩ : Str))).cps.toList.length = ys.length := by rw [e]
  exact this
theorem join_ok {ys : List Nat} (h : ∀ c ∈ ys, c < 1114112) : okS (Txt.join Str.empty (ys.map fun c => (⟨#[c]⟩ : Str))) = true := okS_of fun c hc => by
  rw [join_chars] at hc
  exact h c hc
theorem sum_ones (ys : List Nat) : ((ys.map fun c => (⟨#[c]⟩ : Str)).map (·.length)).sum = ys.length := by
  induction ys with
  | nil => rfl
  | cons a r ih =>
    rw [List.map_cons, List.map_cons, List.sum_cons, ih]
    show 1 + r.length = r.length + 1
    omega
end LB

set_option Elab.async false
set_option linter.all false
set_option maxRecDepth 100000
set_option maxHeartbeats 4000000
/-! written dates -/
namespace LB
open PySem PySem.Spec PyProof.Rows L2
open PySem.NumText (AllDigits digitsVal)
@[irreducible] def rIntS : List V → Hp → VK → Prop := fun xs H Q => ∃ a n, xs = [.str a] ∧ PySem.intText? a = some n ∧ a.length ≤ 640 ∧ Q (.int n) H
theorem call_intS {X : Cx} : CallR X (.type "int") rIntS := fun pins s σ H xs us Q I r h => call_int_str pins s σ H xs us Q I r (by unfold rIntS at h; exact h)
@[irreducible] def rStrI : List V → Hp → VK → Prop := fun xs H Q => ∃ i : Int, xs = [.int i] ∧ i.natAbs.log2 < 1920 ∧ Q (.str (toString i)) H
theorem call_strI {X : Cx} : CallR X (.type "str") rStrI := fun pins s σ H xs us Q I r h => call_str_int pins s σ H xs us Q I r (by unfold rStrI at h; exact h)
/-- the number that digits write -/
def dv (z : Str) (lo hi : Option Int) : Int := ((digitsVal (cutS z lo hi).cps.toList : Nat) : Int)
section
variable {H : Hp} {Q : VK}
theorem intS_go {z : Str} {n : Int} (h : PySem.intText? z = some n) (hl : z.length ≤ 640) (q : Q (.int n) H) : rIntS [.str z] H Q := by
  unfold rIntS
  exact ⟨z, n, rfl, h, hl, q⟩
theorem strI_go {i : Int} (h : i.natAbs.log2 < 1920) (q : Q (.str (toString i)) H) : rStrI [.int i] H Q := by
  unfold rStrI
  exact ⟨i, rfl, h, q⟩
end
theorem intT {z : Str} {lo hi : Option Int} (h : ∀ c ∈ (cutS z lo hi).cps.toList, digC c = true) (hn : (cutS z lo hi).cps.toList ≠ []) (hl : z.length ≤ 600) : PySem.intText? (cutS z lo hi) = some (dv z lo hi) := by
  refine PySem.intText_digits (fun c hc => ?_) hn (Nat.le_trans (len_cut z lo hi) (by omega))
  have := h c hc
  unfold digC at this
  rw [Bool.and_eq_true, decide_eq_true_iff, decide_eq_true_iff] at this
  exact this
/-- ten signs, two of them strokes, the others digits -/
def writB (z : Str) : Bool := match z.cps.toList with
  | [a, b, c, d, s, e, f, t, g, h] => decide (s = 45) && (decide (t = 45) && ((digC a && (digC b && (digC c && digC d))) && ((digC e && digC f) && (digC g && digC h))))
  | _ => false
def dateB (z : Str) : Bool := writB z && decide ((2000 ≤ dv z none (some 4) ∧ dv z none (some 4) ≤ 2199 ∧ 1 ≤ dv z (some 5) (some 7) ∧ dv z (some 5) (some 7) ≤ 12) ∧ (1 ≤ dv z (some 8) none ∧ dv z (some 8) none ≤ mlen (dv z none (some 4)) (dv z (some 5) (some 7))))
theorem writ_ten {z : Str} (h : writB z = true) : ∃ a b c d e f g k : Nat, z.cps.toList = [a, b, c, d, 45, e, f, 45, g, k] ∧ digC a = true ∧ digC b = true ∧ digC c = true ∧ digC d = true ∧ digC e = true ∧ digC f = true ∧ digC g = true ∧ digC k = true := by
  unfold writB at h
  split at h
  · rename_i a b c d s e f t g k e0
    simp only [Bool.and_eq_true, decide_eq_true_eq] at h
    obtain ⟨rfl, rfl, ⟨h1, h2, h3, h4⟩, ⟨h5, h6⟩, h7, h8⟩ := h
    exact ⟨a, b, c, d, e, f, g, k, e0, h1, h2, h3, h4, h5, h6, h7, h8⟩
  · cases h
theorem list10 {l : List Nat} (h : l.length = 10) : ∃ a b c d s e f t g k, l = [a, b, c, d, s, e, f, t, g, k] := by
  match l, h with
  | [a, b, c, d, s, e, f, t, g, k], _ => exact ⟨a, b, c, d, s, e, f, t, g, k, rfl⟩
theorem writ_iff {z : Str} : writB z = true ↔ z.length = 10 ∧ ∀ i, i < 10 → ∀ c, z.cps.toList[i]? = some c → (if i = 4 ∨ i = 7 then c = 45 else digC c = true) := by
  constructor
  · intro h
    obtain ⟨a, b, c, d, e, f, g, k, e0, h1, h2, h3, h4, h5, h6, h7, h8⟩ := writ_ten h
    refine ⟨by rw [← len_list, e0]; rfl, fun i hi x hx => ?_⟩
    rw [e0] at hx
    match i, hi, hx with
    | 0, _, hx => cases hx; exact h1
    | 1, _, hx => cases hx; exact h2
    | 2, _, hx => cases hx; exact h3
    | 3, _, hx => cases hx; exact h4
    | 4, _, hx => cases hx; rfl
    | 5, _, hx => cases hx; exact h5
    | 6, _, hx => cases hx; exact h6
    | 7, _, hx => cases hx; rfl
    | 8, _, hx => cases hx; exact h7
    | 9, _, hx => cases hx; exact h8
  · rintro ⟨hl, hh⟩
    rw [← len_list] at hl
    obtain ⟨a, b, c, d, s, e, f, t, g, k, e0⟩ := list10 hl
    rw [e0] at hh
    have h0 : digC a = true := hh 0 (by decide) a rfl
    have h1 : digC b = true := hh 1 (by decide) b rfl
    have h2 : digC c = true := hh 2 (by decide) c rfl
    have h3 : digC d = true := hh 3 (by decide) d rfl
    have h4 : s = 45 := hh 4 (by decide) s rfl
    have h5 : digC e = true := hh 5 (by decide) e rfl
    have h6 : digC f = true := hh 6 (by decide) f rfl
    have h7 : t = 45 := hh 7 (by decide) t rfl
    have h8 : digC g = true := hh 8 (by decide) g rfl
    have h9 : digC k = true := hh 9 (by decide) k rfl
    unfold writB
    rw [e0]
    simp only [h0, h1, h2, h3, h4, h5, h6, h7, h8, h9, decide_true, Bool.and_self]
theorem cut_ten {z : Str} {a b c d s e f t g k : Nat} (e0 : z.cps.toList = [a, b, c, d, s, e, f, t, g, k]) : (cutS z none (some 4)).cps.toList = [a, b, c, d] ∧ (cutS z (some 5) (some 7)).cps.toList = [e, f] ∧ (cutS z (some 8) none).cps.toList = [g, k] := by
  have hl : z.length = 10 := by rw [← len_list, e0]; rfl
  refine ⟨?_, ?_, ?_⟩
  all_goals
    unfold cutS
    rw [e0, hl]
    rfl
theorem writ_ints {z : Str} (h : writB z = true) : PySem.intText? (cutS z none (some 4)) = some (dv z none (some 4)) ∧ PySem.intText? (cutS z (some 5) (some 7)) = some (dv z (some 5) (some 7)) ∧ PySem.intText? (cutS z (some 8) none) = some (dv z (some 8) none) := by
  obtain ⟨a, b, c, d, e, f, g, k, e0, h1, h2, h3, h4, h5, h6, h7, h8⟩ := writ_ten h
  obtain ⟨c1, c2, c3⟩ := cut_ten e0
  have hl : z.length ≤ 600 := by rw [← len_list, e0]; show 10 ≤ 600; decide
  refine ⟨intT ?_ (by rw [c1]; intro h; cases h) hl, intT ?_ (by rw [c2]; intro h; cases h) hl, intT ?_ (by rw [c3]; intro h; cases h) hl⟩
  · rw [c1]
    intro x hx
    simp only [List.mem_cons, List.not_mem_nil, or_false] at hx
    rcases hx with rfl | rfl | rfl | rfl <;> assumption
  · rw [c2]
    intro x hx
    simp only [List.mem_cons, List.not_mem_nil, or_false] at hx
    rcases hx with rfl | rfl <;> assumption
  · rw [c3]
    intro x hx
    simp only [List.mem_cons, List.not_mem_nil, or_false] at hx
    rcases hx with rfl | rfl <;> assumption
/-! ### numbers, padded -/
def padS (size : Nat) (t : Str) : Str := if t.length < size then "0" ++ t else t
def padR (n : Int) (size : Nat) : Nat → Str
  | 0 => toString n
  | k + 1 => padS size (padR n size k)
@[irreducible] def padT (n : Int) (size k : Nat) : Str := padR n size k
theorem padT_0 {n : Int} {size : Nat} : padT n size 0 = toString n := by unfold padT; rfl
theorem padT_y {n : Int} {size k : Nat} (h : (padT n size k).length < size) : padT n size (k + 1) = "0" ++ padT n size k := by
  unfold padT at *
  exact if_pos h
theorem padT_n {n : Int} {size k : Nat} (h : ¬ (padT n size k).length < size) : padT n size (k + 1) = padT n size k := by
  unfold padT at *
  exact if_neg h
theorem pad2 : ∀ n : Nat, n < 32 → (padT (n : Int) 2 2).cps.toList = [48 + n / 10, 48 + n % 10] := by decide +kernel
theorem pad4 : ∀ n : Nat, n < 200 → (padT ((2000 + n : Nat) : Int) 4 4).cps.toList = [50, 48 + n / 100, 48 + n / 10 % 10, 48 + n % 10] := by decide +kernel
theorem str_len (n : Nat) (h : n < 10000) : (Str.ofString (toString ((n : Nat) : Int))).length ≤ 4 := by
  have h2 := (Nat.length_repr_le_iff (n := n) (by decide : 0 < 4)).mpr h
  rw [← String.length_toList] at h2
  show (Str.ofString (Nat.repr n)).cps.size ≤ 4
  rw [Str.ofString_eq_toList]
  simpa using h2
theorem padT_len {n : Int} {size : Nat} (h0 : 0 ≤ n) (h1 : n ≤ 9999) : ∀ k, (padT n size k).length ≤ 4 + k
  | 0 => by
    obtain ⟨m, rfl⟩ : ∃ m : Nat, n = m := ⟨n.toNat, by omega⟩
    rw [padT_0]
    exact str_len m (by omega)
  | k + 1 => by
    have ih := padT_len (size := size) h0 h1 k
    by_cases h : (padT n size k).length < size
    · rw [padT_y h, len_app]
      show 1 + _ ≤ _
      omega
    · rw [padT_n h]
      omega
theorem tl_app (a b : Str) : (a ++ b).cps.toList = a.cps.toList ++ b.cps.toList := Array.toList_append
theorem wr_date {y m x : Int} (h : IsDate y m x) {z : Str} (e : z = padT y 4 4 ++ "-" ++ padT m 2 2 ++ "-" ++ padT x 2 2) : z.length = 10 ∧ okS z = true ∧ dateB z = true ∧ dv z none (some 4) = y ∧ dv z (some 5) (some 7) = m ∧ dv z (some 8) none = x := by
  have y0 := h.y0; have y1 := h.y1; have m0 := h.m0; have m1 := h.m1; have x0 := h.d0; have x1 := h.d1
  have hml := mlen_pos y m
  obtain ⟨a, ha, rfl⟩ : ∃ a : Nat, a < 200 ∧ y = ((2000 + a : Nat) : Int) := ⟨(y - 2000).toNat, by omega, by omega⟩
  obtain ⟨b, hb, rfl⟩ : ∃ b : Nat, b < 32 ∧ m = ((b : Nat) : Int) := ⟨m.toNat, by omega, by omega⟩
  obtain ⟨c, hc, rfl⟩ : ∃ c : Nat, c < 32 ∧ x = ((c : Nat) : Int) := ⟨x.toNat, by omega, by omega⟩
  have e1 : ("-" : Str).cps.toList = [45] := by decide +kernel
  have e0 : z.cps.toList = [50, 48 + a / 100, 48 + a / 10 % 10, 48 + a % 10, 45, 48 + b / 10, 48 + b % 10, 45, 48 + c / 10, 48 + c % 10] := by
    rw [e, tl_app, tl_app, tl_app, tl_app, pad4 a ha, pad2 b hb, pad2 c hc, e1]
    rfl
  have hl : z.length = 10 := by rw [← LB.len_list, e0]; rfl
  obtain ⟨k1, k2, k3⟩ := cut_ten e0
  have v1 : dv z none (some 4) = ((2000 + a : Nat) : Int) := by
    unfold dv
    rw [k1]
    simp only [digitsVal, List.foldl]
    omega
  have v2 : dv z (some 5) (some 7) = (b : Int) := by
    unfold dv
    rw [k2]
    simp only [digitsVal, List.foldl]
    omega
  have v3 : dv z (some 8) none = (c : Int) := by
    unfold dv
    rw [k3]
    simp only [digitsVal, List.foldl]
    omega
  have dg : ∀ n : Nat, n < 10 → digC (48 + n) = true := fun n hn => by
    unfold digC
    rw [Bool.and_eq_true, decide_eq_true_iff, decide_eq_true_iff]
    omega
  have hw : writB z = true := by
    have g0 : digC 50 = true := by decide
    have g1 := dg (a / 100) (by omega)
    have g2 := dg (a / 10 % 10) (by omega)
    have g3 := dg (a % 10) (by omega)
    have g4 := dg (b / 10) (by omega)
    have g5 := dg (b % 10) (by omega)
    have g6 := dg (c / 10) (by omega)
    have g7 := dg (c % 10) (by omega)
    unfold writB
    rw [e0]
    simp only [g0, g1, g2, g3, g4, g5, g6, g7, decide_true, Bool.and_self]
  refine ⟨hl, okS_of fun d hd => ?_, ?_, v1, v2, v3⟩
  · rw [e0] at hd
    simp only [List.mem_cons, List.not_mem_nil, or_false] at hd
    omega
  · unfold dateB
    rw [hw, v1, v2, v3, Bool.true_and, decide_eq_true_iff]
    exact ⟨⟨y0, y1, m0, m1⟩, x0, x1⟩
theorem cutV_map (ns : List Int) (lo hi : Option Int) : ∃ ms : List Int, cutV (ns.map V.int) lo hi = ms.map V.int ∧ ms.length ≤ ns.length := by
  refine ⟨(ns.drop (HT.sIx (ns.map V.int).length 0 lo)).take (HT.sIx (ns.map V.int).length (ns.map V.int).length hi - HT.sIx (ns.map V.int).length 0 lo), ?_, ?_⟩
  · unfold cutV
    rw [List.map_take, List.map_drop]
  · rw [List.length_take, List.length_drop]
    omega
/-- the signs of the drawn texts -/
def chL : List Nat := [48, 49, 50, 51, 52, 53, 54, 55, 56, 57, 45, 45, 32, 10, 47, 46, 58, 97, 98, 89, 90, 43, 95, 44]
def chC (c : Int) : Nat := chL.getD (c % 24).toNat 0
def chOf (c : Int) : Str := ⟨#[chC c]⟩
theorem chC_ok (c : Int) : chC c < 1114112 := by
  have : ∀ m : Nat, m < 24 → chL.getD m 0 < 1114112 := by decide
  exact this _ (by omega)
end LB

set_option Elab.async false
set_option linter.all false
set_option maxRecDepth 100000
set_option maxHeartbeats 4000000
/-! numbers in f-strings, with a width -/
namespace LB
open PySem PySem.Spec PyProof.Rows L2
structure NoDig (K : PySem.W.Frag) : Prop where
  ok : PySem.W.nsOkIn K cStatics = true
  no : PySem.W.nsIn K cStatics "sys.int_max_str_digits" = some none
def keyStr (e : DictEntry) : Bool := match e.key with
  | .str _ _ => true
  | _ => false
theorem nsok_of {K : PySem.W.Frag} {N : Addr} {c : Value} {d : Option Addr} {es : Array DictEntry} {n : Nat} {sl : Array (Option Value)} (h : K.lookup N = some ⟨c, d, .dict es n, sl⟩) (k : es.toList.all keyStr = true) : PySem.W.nsOkIn K N = true := by
  rw [Array.all_toList] at k
  unfold PySem.W.nsOkIn
  rw [h]
  exact k
theorem ndig {K : PySem.W.Frag} {h : Heap} (X : K.In h) (D : NoDig K) : h.NoDigits := by
  have e1 := D.ok
  unfold PySem.W.nsOkIn at e1
  split at e1
  · rename_i c d es n sl ho
    have hk : StrKeys es := fun e he => by
      obtain ⟨i, hi, rfl⟩ := Array.mem_iff_getElem.mp he
      have := Array.all_eq_true.mp e1 i hi
      cases hkey : es[i].key with
      | str x t => exact ⟨x, t, rfl⟩
      | _ => rw [hkey] at this; cases this
    have G : h.Ns cStatics (fun x => nsFind es x) := ⟨_, es, n, X _ _ ho, rfl, hk, fun _ => rfl⟩
    exact ⟨_, G, PySem.W.ns_none_of X G D.no⟩
  · cases e1
@[irreducible] def tFmtZ (spec : Str) (te : TE) : TE := fun σ H Q => te σ H fun x H1 => ∃ i : Int, x = .int i ∧ 0 ≤ i ∧ i < 10 ^ 10 ∧ Q (.str (intSpecTextOf spec i)) H1
theorem pe_fmtZ {X : Cx} {spec : Str} {e se : Expr} {te : TE} {pos : Pos} (D : NoDig X.K) (hok : intSpecOk spec = true) (hsz : spec.length ≤ sizeLine) (he : PE X e te) (hs : PE X se (tC (.str spec))) : PE X (.FormattedValue e (-1) (some se) pos) (tFmtZ spec te) := by
  refine ⟨fun pins s σ H Q I h => ?_⟩
  unfold tFmtZ at h
  refine wpAny_FormattedValue_spec (thn (he.run pins s σ H _ I h) fun v s1 hv => ?_)
  obtain ⟨x, H1, I1, r1, i, rfl, h0, h1, q⟩ := hv
  refine thn (hs.run pins s1 σ H1 (fun y H2 => y = .str spec ∧ H2 = H1) I1 ⟨rfl, rfl⟩) fun r s2 hr => ?_
  obtain ⟨y, H2, I2, r2, rfl, rfl⟩ := hr
  obtain ⟨t, rfl⟩ := r2
  obtain ⟨u, rfl⟩ := r1
  refine ⟨spec, t, rfl, formatField_int_specOf (ndig I2.kIn D) (lt_digitLimit_of_lt (by omega)) hok (fun W _ _ => ⟨.str (intSpecTextOf spec i), H2, I2.tok _, ⟨_, rfl⟩, q⟩) hsz⟩
theorem fmt_go {spec : Str} {te : TE} {σ : L2.St} {H : Hp} {Q : VK} (h : te σ H fun x H1 => ∃ i : Int, x = .int i ∧ 0 ≤ i ∧ i < 10 ^ 10 ∧ Q (.str (intSpecTextOf spec i)) H1) : tFmtZ spec te σ H Q := by
  unfold tFmtZ
  exact h
theorem fmt2 : ∀ n : Nat, n < 32 → (intSpecTextOf "02d" ((n : Nat) : Int)).cps.toList = [48 + n / 10, 48 + n % 10] := by decide +kernel
theorem fmt4 : ∀ n : Nat, n < 200 → (intSpecTextOf "04d" ((2000 + n : Nat) : Int)).cps.toList = [50, 48 + n / 100, 48 + n / 10 % 10, 48 + n % 10] := by decide +kernel
theorem str_extF {a b : Str} (h : a.cps.toList = b.cps.toList) : a = b := by
  cases a
  cases b
  congr 1
  exact Array.toList_inj.mp h
theorem fmt_pad4 {y : Int} (h0 : 2000 ≤ y) (h1 : y ≤ 2199) : intSpecTextOf "04d" y = padT y 4 4 := by
  obtain ⟨n, hn, rfl⟩ : ∃ n : Nat, n < 200 ∧ y = ((2000 + n : Nat) : Int) := ⟨(y - 2000).toNat, by omega, by omega⟩
  exact str_extF ((fmt4 n hn).trans (pad4 n hn).symm)
theorem fmt_pad2 {m : Int} (h0 : 0 ≤ m) (h1 : m ≤ 31) : intSpecTextOf "02d" m = padT m 2 2 := by
  obtain ⟨n, hn, rfl⟩ : ∃ n : Nat, n < 32 ∧ m = ((n : Nat) : Int) := ⟨m.toNat, by omega, by omega⟩
  exact str_extF ((fmt2 n hn).trans (pad2 n hn).symm)
end LB

set_option Elab.async false
set_option linter.all false
set_option maxRecDepth 100000
set_option maxHeartbeats 4000000
/-! whole numbers as texts of digits, of any size -/
namespace LB
open PySem PySem.Spec PyProof.Rows L2
/-! ### divmod, rjust with a fill, lstrip of signs, xs[::-1] -/
@[irreducible] def rDvm : List V → Hp → VK → Prop := fun xs H Q => ∃ i j : Int, xs = [.int i, .int j] ∧ CDivP i j ∧ ∀ p, H p = none → Q (.ref p) (upd H p (.tup [.int (i / j), .int (i % j)]))
theorem call_dvm {X : Cx} : CallR X (.builtin "divmod") rDvm := fun pins s σ H xs us Q I r h => call_divmodW pins s σ H xs us Q I r (by unfold rDvm at h; exact h)
theorem dvm_go {H : Hp} {Q : VK} {i j : Int} {n : Nat} (z : Sz n i) (hn : n ≤ 4000) (hj : 0 < j) (q : ∀ p, H p = none → Q (.ref p) (upd H p (.tup [.int (i / j), .int (i % j)]))) : rDvm [.int i, .int j] H Q := by
  unfold rDvm
  exact ⟨i, j, rfl, divp_ok hj (Nat.le_trans (intBits_le z.1) (by omega)), q⟩
@[irreducible] def rRjF : V → List V → Hp → VK → Prop := fun x xs H Q => ∃ (a f : Str) (i : Int), x = .str a ∧ xs = [.int i, .str f] ∧ PadOk i = true ∧ f.length = 1 ∧ Q (.str (Txt.rjustF a i (f.cps.getD 0 0))) H
theorem mt_rjF {X : Cx} : MtR X "str.rjust" rRjF := by
  intro pins s σ H x xs v us Q I rx rs h
  unfold rRjF at h
  obtain ⟨a, f, i, rfl, rfl, hp, hf, q⟩ := h
  obtain ⟨t, rfl⟩ := rx
  cases rs with
  | cons r1 rs =>
    cases rs with
    | cons r2 rs =>
      cases rs
      obtain ⟨u, rfl⟩ := r1
      obtain ⟨z, rfl⟩ := r2
      exact rjust_fill hp hf fun t' k => ⟨.str (Txt.rjustF a i (f.cps.getD 0 0)), H, I.tok k, ⟨t', rfl⟩, q⟩
theorem rjF_go {H : Hp} {Q : VK} {a f : Str} {i : Int} (hp : PadOk i = true) (hf : f.length = 1) (q : Q (.str (Txt.rjustF a i (f.cps.getD 0 0))) H) : rRjF (.str a) [.int i, .str f] H Q := by
  unfold rRjF
  exact ⟨a, f, i, rfl, rfl, hp, hf, q⟩
@[irreducible] def rLsC : V → List V → Hp → VK → Prop := fun x xs H Q => ∃ a b, x = .str a ∧ xs = [.str b] ∧ a.length ≤ sizeLine ∧ Q (.str (Txt.lstripChars a b)) H
theorem mt_lsC {X : Cx} : MtR X "str.lstrip" rLsC := fun pins s σ H x xs v us Q I rx rs h => mt_lstripChars pins s σ H x xs v us Q I rx rs (by unfold rLsC at h; exact h)
theorem lsC_go {H : Hp} {Q : VK} {a b : Str} (hl : a.length ≤ sizeLine) (q : Q (.str (Txt.lstripChars a b)) H) : rLsC (.str a) [.str b] H Q := by
  unfold rLsC
  exact ⟨a, b, rfl, rfl, hl, q⟩
/-! ### digits -/
/-- w digits of n, the last ones -/
def dw : Nat → Nat → List Nat
  | 0, _ => []
  | w + 1, n => dw w (n / 10) ++ [48 + n % 10]
theorem dw_len : ∀ (w n : Nat), (dw w n).length = w
  | 0, _ => rfl
  | w + 1, n => by rw [dw, List.length_append, dw_len w]; rfl
theorem dw_zero : ∀ w : Nat, dw w 0 = List.replicate w 48
  | 0 => rfl
  | w + 1 => by
    show dw w (0 / 10) ++ [48 + 0 % 10] = _
    rw [show 0 / 10 = 0 from rfl, dw_zero w, List.replicate_succ']
theorem dw_add (a : Nat) : ∀ (b n : Nat), dw (a + b) n = dw a (n / 10 ^ b) ++ dw b n
  | 0, n => by rw [Nat.pow_zero, Nat.div_one, dw, List.append_nil]; rfl
  | b + 1, n => by
    show dw (a + b) (n / 10) ++ [48 + n % 10] = _
    rw [dw_add a b, dw, List.append_assoc, Nat.div_div_eq_div_mul, Nat.pow_succ, Nat.mul_comm]
theorem dw_mod : ∀ (w n : Nat), dw w (n % 10 ^ w) = dw w n
  | 0, _ => rfl
  | w + 1, n => by
    have e1 : n % 10 ^ (w + 1) / 10 = n / 10 % 10 ^ w := by
      rw [Nat.pow_succ, Nat.mul_comm, Nat.mod_mul_right_div_self]
    have e2 : n % 10 ^ (w + 1) % 10 = n % 10 := by
      rw [Nat.pow_succ, Nat.mul_comm, Nat.mod_mul_right_mod]
    rw [dw, dw, e1, e2, dw_mod w]
/-- the digits of n -/
def dg (n : Nat) : List Nat := (Nat.toDigits 10 n).map Char.toNat
theorem dg_small {n : Nat} (h : n < 10) : dg n = [48 + n] := by
  unfold dg
  rw [Nat.toDigits_of_lt_base h]
  revert n
  decide
theorem dg_big {n : Nat} (h : 10 ≤ n) : dg n = dg (n / 10) ++ [48 + n % 10] := by
  unfold dg
  rw [Nat.toDigits_of_base_le (by decide) h, List.map_append]
  congr 1
  have := Nat.mod_lt n (show 0 < 10 by decide)
  generalize n % 10 = k at this
  revert k
  decide
theorem dg_len {n w : Nat} (h : n < 10 ^ w) (hw : 0 < w) : (dg n).length ≤ w := by
  unfold dg
  rw [List.length_map]
  exact (Nat.length_toDigits_le_iff (by decide) hw).mpr h
theorem dg_pad : ∀ (w n : Nat), n < 10 ^ (w + 1) → List.replicate (w + 1 - (dg n).length) 48 ++ dg n = dw (w + 1) n
  | 0, n, h => by
    rw [dg_small (by omega), dw, dw, Nat.mod_eq_of_lt (show n < 10 by omega)]
    rfl
  | w + 1, n, h => by
    by_cases h1 : n < 10
    · rw [dg_small h1, dw, Nat.div_eq_of_lt h1, dw_zero, Nat.mod_eq_of_lt h1]
      rfl
    · have hn : n / 10 < 10 ^ (w + 1) := by
        rw [Nat.pow_succ] at h
        omega
      rw [dg_big (by omega), dw, ← dg_pad w _ hn, List.length_append, ← List.append_assoc]
      rw [show w + 1 + 1 - ((dg (n / 10)).length + [48 + n % 10].length) = w + 1 - (dg (n / 10)).length by simp only [List.length_cons, List.length_nil]; omega]
theorem dg_strip : ∀ (w n : Nat), 0 < n → n < 10 ^ w → (dw w n).dropWhile (fun c => c == 48) = dg n
  | 0, n, h0, h => by omega
  | w + 1, n, h0, h => by
    rw [dw]
    by_cases h1 : n < 10
    · rw [Nat.div_eq_of_lt h1, dw_zero, Nat.mod_eq_of_lt h1, dg_small h1]
      have : ∀ k : Nat, (List.replicate k 48 ++ [48 + n]).dropWhile (fun c => c == 48) = [48 + n] := fun k => by
        induction k with
        | zero =>
          rw [List.replicate_zero, List.nil_append, List.dropWhile_cons_of_neg]
          simp only [beq_iff_eq]
          omega
        | succ k ih =>
          rw [List.replicate_succ, List.cons_append, List.dropWhile_cons_of_pos (by rfl), ih]
      exact this w
    · have hn : n / 10 < 10 ^ w := by
        rw [Nat.pow_succ] at h
        omega
      have ih := dg_strip w (n / 10) (by omega) hn
      have hne : dg (n / 10) ≠ [] := by
        unfold dg
        intro h
        exact Nat.toDigits_ne_nil (List.map_eq_nil_iff.mp h)
      rw [List.dropWhile_append, ih, dg_big (n := n) (by omega)]
      cases e : dg (n / 10) with
      | nil => exact absurd e hne
      | cons a l => rfl

theorem dg_pos (n : Nat) : 0 < (dg n).length := by
  unfold dg
  rw [List.length_map]
  exact Nat.length_toDigits_pos
theorem tl_nat (n : Nat) : (Str.ofString (toString ((n : Nat) : Int))).cps.toList = dg n := by
  show (Str.ofString (Nat.repr n)).cps.toList = _
  rw [Str.ofString_eq_toList, Nat.toList_repr]
  rfl
theorem str_ext {a b : Str} (h : a.cps.toList = b.cps.toList) : a = b := Str.ext' (Array.toList_inj.mp h)
theorem str_neg {i : Int} (h : i < 0) : Str.ofString (toString i) = Str.ofString "-" ++ Str.ofString (toString (-i)) := by
  obtain ⟨m, rfl⟩ : ∃ m : Nat, i = Int.negSucc m := ⟨(-i - 1).toNat, by omega⟩
  refine str_ext ?_
  rw [tl_app, show -Int.negSucc m = ((m + 1 : Nat) : Int) from rfl, tl_nat]
  show (Str.ofString ("-" ++ Nat.repr (m + 1))).cps.toList = _
  rw [Str.ofString_eq_toList, String.toList_append, Nat.toList_repr, List.map_append]
  rfl
theorem str_le {i : Int} (h : 0 ≤ i) (z : Sz 1900 i) : (Str.ofString (toString i)).length ≤ 600 := by
  obtain ⟨n, rfl⟩ : ∃ n : Nat, i = n := ⟨i.toNat, by omega⟩
  have hn : n < 10 ^ 600 := Nat.lt_of_lt_of_le (show n < 2 ^ 1900 from z.1) (by decide +kernel)
  have e := congrArg List.length (tl_nat n)
  have := dg_len hn (by decide)
  rw [← e] at this
  exact this
theorem emp_app (x : Str) : Str.empty ++ x = x := str_ext (by rw [tl_app]; rfl)
theorem str_len1 {i : Int} (z : Sz 1900 i) : (Str.ofString (toString i)).length ≤ 601 := by
  by_cases h : 0 ≤ i
  · exact Nat.le_succ_of_le (str_le h z)
  · rw [str_neg (by omega), len_app]
    have := str_le (i := -i) (by omega) z.neg
    have e : (Str.ofString "-").length = 1 := rfl
    omega
/-- a chunk of w digits -/
theorem pad_tl {n w : Nat} (h : n < 10 ^ (w + 1)) : (Txt.rjustF (Str.ofString (toString ((n : Nat) : Int))) ((w + 1 : Nat) : Int) 48).cps.toList = dw (w + 1) n := by
  have e := tl_nat n
  have hl : (Str.ofString (toString ((n : Nat) : Int))).length = (dg n).length := by rw [← e]; rfl
  have hle := dg_len h (by omega)
  rw [← dg_pad w n h]
  unfold Txt.rjustF
  by_cases c : ((w + 1 : Nat) : Int) ≤ (Str.ofString (toString ((n : Nat) : Int))).length
  · rw [if_pos c, e, show w + 1 - (dg n).length = 0 by omega]
    rfl
  · rw [if_neg c]
    show (Array.replicate _ 48 ++ (Str.ofString (toString ((n : Nat) : Int))).cps ++ Array.replicate 0 48).toList = _
    rw [Array.toList_append, Array.toList_append, Array.toList_replicate, e, hl, Int.toNat_natCast]
    exact List.append_nil _
theorem lstrip_tl {x y : Str} : (Txt.lstripChars x y).cps.toList = x.cps.toList.dropWhile y.cps.contains := by
  unfold Txt.lstripChars
  rw [stripBy_eq]
  show (x.cps.extract (x.cps.toList.takeWhile y.cps.contains).length x.length).toList = _
  rw [Array.toList_extract]
  show ((x.cps.toList.drop _).take _) = _
  have : ∀ l : List Nat, (l.drop (l.takeWhile y.cps.contains).length).take (l.length - (l.takeWhile y.cps.contains).length) = l.dropWhile y.cps.contains := fun l => by
    rw [List.take_of_length_le (by rw [List.length_drop]; exact Nat.le_refl _)]
    induction l with
    | nil => rfl
    | cons a l ih =>
      by_cases c : y.cps.contains a = true
      · rw [List.takeWhile_cons_of_pos c, List.dropWhile_cons_of_pos c, List.length_cons, List.drop_succ_cons, ih]
      · rw [List.takeWhile_cons_of_neg c, List.dropWhile_cons_of_neg c]
        rfl
  exact this x.cps.toList
/-- the chunks of n, the last ones first -/
def chk (n : Nat) : Nat → List Str
  | 0 => []
  | k + 1 => chk n k ++ [Txt.rjustF (Str.ofString (toString ((n / (10 ^ 18) ^ k % 10 ^ 18 : Nat) : Int))) ((18 : Nat) : Int) 48]
theorem chk_tl (n : Nat) : ∀ k, (chk n k).reverse.flatMap (fun y => y.cps.toList) = dw (18 * k) n
  | 0 => rfl
  | k + 1 => by
    have h : n / (10 ^ 18) ^ k % 10 ^ 18 < 10 ^ (17 + 1) := Nat.mod_lt _ (by decide)
    rw [chk, List.reverse_append, List.flatMap_append, chk_tl n k]
    show (Txt.rjustF _ _ 48).cps.toList ++ [] ++ dw (18 * k) n = _
    rw [List.append_nil, pad_tl h, show (17 + 1 : Nat) = 18 from rfl, dw_mod, show 18 * (k + 1) = 18 + 18 * k by omega, dw_add, Nat.pow_mul]
theorem chk_len (n : Nat) : ∀ k, (chk n k).length = k
  | 0 => rfl
  | k + 1 => by rw [chk, List.length_append, chk_len n k]; rfl
theorem chk_each (n : Nat) : ∀ k, ∀ y ∈ chk n k, y.length = 18
  | 0, y, h => nomatch h
  | k + 1, y, h => by
    rw [chk, List.mem_append] at h
    rcases h with h | h
    · exact chk_each n k y h
    · rw [List.mem_singleton] at h
      have hh : n / (10 ^ 18) ^ k % 10 ^ 18 < 10 ^ (17 + 1) := Nat.mod_lt _ (by decide)
      have e := congrArg List.length (pad_tl hh)
      rw [dw_len] at e
      rw [h]
      exact e
theorem sum18 : ∀ l : List Str, (∀ y ∈ l, y.length = 18) → (l.map (·.length)).sum = 18 * l.length
  | [], _ => rfl
  | a :: l, h => by
    rw [List.map_cons, List.sum_cons, sum18 l fun y hy => h y (.tail _ hy), h a (.head _), List.length_cons]
    omega
/-- what show_integer's loop leaves -/
theorem chk_str {n k : Nat} (h0 : 0 < n) (h : n < (10 ^ 18) ^ k) : Txt.lstripChars (Txt.join Str.empty (chk n k).reverse) (Str.ofString "0") = Str.ofString (toString ((n : Nat) : Int)) := by
  refine str_ext ?_
  rw [lstrip_tl, tl_join0, chk_tl, tl_nat, ← dg_strip (18 * k) n h0 (by rw [Nat.pow_mul]; exact h)]
  congr 1
  funext c
  show (Str.ofString "0").cps.contains c = (c == 48)
  have : (Str.ofString "0").cps = #[48] := by decide +kernel
  rw [this]
  by_cases e : c = 48
  · subst e; simp
  · have : (c == 48) = false := beq_false_of_ne e
    rw [this]
    simp [e]
end LB

set_option Elab.async false
set_option linter.all false
set_option maxRecDepth 100000
set_option maxHeartbeats 4000000
/-! amounts and rates as they are written; lengths of texts; any(list); rstrip -/
namespace LB
open PySem PySem.Spec PyProof.Rows L2
/-! ### lengths -/
structure LL (n : Nat) (z : Str) : Prop where
  le : z.length ≤ n
theorem LL.app {m n : Nat} {y z : Str} (a : LL m y) (b : LL n z) : LL (m + n) (y ++ z) := ⟨by rw [len_app]; have := a.le; have := b.le; omega⟩
theorem LL.emp : LL 0 Str.empty := ⟨Nat.le_refl 0⟩
theorem LL.mono {m n : Nat} {z : Str} (a : LL m z) (h : m ≤ n) : LL n z := ⟨Nat.le_trans a.le h⟩
theorem LL.sz {n : Nat} {z : Str} (a : LL n z) (h : n ≤ 10000000) : z.length ≤ sizeLine := by rw [sizeLine_eq]; have := a.le; omega
theorem LL.lit {n : Nat} {z : Str} (h : Nat.ble z.length n = true) : LL n z := ⟨Nat.le_of_ble_eq_true h⟩
theorem LL.int {i : Int} (h : -10000000000000000000000 < i ∧ i < 10000000000000000000000) : LL 601 (toString i : Str) := ⟨str_len1 (Sz.mk (n := 1900) (Nat.lt_of_lt_of_le (show i.natAbs < 2 ^ 80 by omega) (Nat.pow_le_pow_right (by decide) (by decide))))⟩
theorem log_ok {i : Int} (h : -10000000000000000000000 < i ∧ i < 10000000000000000000000) : i.natAbs.log2 < 1920 := Nat.lt_of_le_of_lt (Sz.log (n := 80) (Sz.mk (by omega))) (by decide)
theorem LL.opt {c : Prop} [Decidable c] {n : Nat} {y z : Str} (a : LL n y) (b : LL n z) : LL n (if c then y else z) := by
  split
  · exact a
  · exact b
theorem addL_go {m n : Nat} {H : Hp} {Q : VK} {z y : Str} (a : LL m z) (b : LL n y) (h : m + n ≤ 10000000) (q : Q (.str (z ++ y)) H) : rAddS (.str z) (.str y) H Q := addS_go (by rw [sizeLine_eq]; have := a.le; have := b.le; omega) q
/-! ### any(list), text.rstrip(chars) -/
@[irreducible] def rAnyL (K : PySem.W.Frag) : List V → Hp → VK → Prop := fun vs H Q => rAny K vs H Q
theorem call_any {X : Cx} (hc : X.calm = true) : CallR X (.builtin "any") (rAnyL X.K) := fun pins s σ H xs us Q I r h => cr_any hc pins s σ H xs us Q I r (by unfold rAnyL at h; exact h)
theorem any_go {K : PySem.W.Frag} {H : Hp} {a : Addr} {bs : List Bool} {Q : VK} (h : SqL K H a (bs.map V.bl)) (q : Q (.bl (bs.any id)) H) : rAnyL K [.ref a] H Q := by
  unfold rAnyL
  exact ⟨a, bs, rfl, h, q⟩
@[irreducible] def rRsC : V → List V → Hp → VK → Prop := fun x xs H Q => ∃ a b, x = .str a ∧ xs = [.str b] ∧ a.length ≤ sizeLine ∧ Q (.str (Txt.rstripChars a b)) H
theorem mt_rsC {X : Cx} : MtR X "str.rstrip" rRsC := fun pins s σ H x xs v us Q I rx rs h => mt_rstripChars pins s σ H x xs v us Q I rx rs (by unfold rRsC at h; exact h)
theorem rsC_go {H : Hp} {Q : VK} {a b : Str} (hl : a.length ≤ sizeLine) (q : Q (.str (Txt.rstripChars a b)) H) : rRsC (.str a) [.str b] H Q := by
  unfold rRsC
  exact ⟨a, b, rfl, rfl, hl, q⟩
/-! ### texts up to where brackets stand -/
theorem appA {a b c : Str} : a ++ b ++ c = a ++ (b ++ c) := str_ext (by rw [tl_app, tl_app, tl_app, tl_app, List.append_assoc])
theorem app_emp (x : Str) : x ++ Str.empty = x := str_ext (by rw [tl_app]; exact List.append_nil _)
/-! ### amounts -/
def twoT (r : Int) : Str := if ((toString r : Str).length : Nat) < 2 then "0" ++ (toString r : Str) else toString r
theorem two_spec0 : ∀ n : Nat, n < 100 → (intSpecTextOf "02d" ((n : Nat) : Int)).cps.toList = (twoT ((n : Nat) : Int)).cps.toList := by decide +kernel
theorem two_spec {r : Int} (h : 0 ≤ r ∧ r < 100) : intSpecTextOf "02d" r = twoT r := by
  obtain ⟨n, rfl⟩ : ∃ n : Nat, r = n := ⟨r.toNat, by omega⟩
  exact str_ext (two_spec0 n (by omega))
theorem two_len0 : ∀ n : Nat, n < 100 → (twoT ((n : Nat) : Int)).length = 2 := by decide +kernel
theorem two_len {r : Int} (h : 0 ≤ r ∧ r < 100) : (twoT r).length = 2 := by
  obtain ⟨n, rfl⟩ : ∃ n : Nat, r = n := ⟨r.toNat, by omega⟩
  exact two_len0 n (by omega)
def amtN (c : Int) : Str := (toString (c / 100) : Str) ++ "." ++ twoT (c % 100)
/-- an amount as it is written -/
@[irreducible] def amt (c : Int) : Str := if c < 0 then "-" ++ amtN (-c) else amtN c
theorem amt_pos {c : Int} (h : 0 ≤ c) : amt c = (toString (c / 100) : Str) ++ "." ++ twoT (c % 100) := by unfold amt; rw [if_neg (by omega)]; rfl
theorem amt_neg {c : Int} (h : c < 0) : amt c = "-" ++ amt (-c) := by
  unfold amt
  rw [if_pos h, if_neg (by omega)]
theorem amtN_len {c : Int} (h : 0 ≤ c ∧ c < 100000000000000000) : LL 610 (amtN c) := by
  unfold amtN
  exact (((LL.int (by omega)).app (LL.lit (n := 1) (by decide +kernel))).app ⟨Nat.le_of_eq (two_len (by omega))⟩).mono (by decide)
theorem amt_len {c : Int} (h : -100000000000000000 < c ∧ c < 100000000000000000) : LL 620 (amt c) := by
  unfold amt
  split
  · exact ((LL.lit (n := 1) (by decide +kernel)).app (amtN_len (by omega))).mono (by decide)
  · exact (amtN_len (by omega)).mono (by decide)
/-! ### rates -/
def stpL (l : List Nat) : List Nat := if l.getLast? = some 48 then l.dropLast else l
def stpR : List Nat → List Nat
  | a :: r => if a = 48 then r else a :: r
  | [] => []
theorem stp_rev (l : List Nat) : stpL l.reverse = (stpR l).reverse := by
  cases l with
  | nil => rfl
  | cons a r =>
    unfold stpL stpR
    rw [List.getLast?_reverse]
    show (if some a = some 48 then _ else _) = _
    by_cases c : a = 48
    · show _ = (if a = 48 then r else a :: r).reverse
      rw [if_pos (by rw [c]), if_pos c, List.reverse_cons, List.dropLast_concat]
    · show _ = (if a = 48 then r else a :: r).reverse
      rw [if_neg (fun q => c (Option.some.inj q)), if_neg c]
def itR : Nat → List Nat → List Nat
  | 0, l => l
  | n + 1, l => itR n (stpR l)
theorem itR_drop : ∀ (n : Nat) (l : List Nat), l.length ≤ n → itR n l = l.dropWhile (fun c => c == 48)
  | 0, [], _ => rfl
  | 0, _ :: _, h => by simp at h
  | n + 1, [], _ => by
    show itR n [] = _
    exact itR_drop n [] (by simp)
  | n + 1, a :: r, h => by
    show itR n (if a = 48 then r else a :: r) = _
    by_cases c : a = 48
    · rw [if_pos c, itR_drop n r (by simpa using h), List.dropWhile_cons_of_pos (by simp [c])]
    · rw [if_neg c, List.dropWhile_cons_of_neg (by simp [c])]
      have : ∀ m, itR m (a :: r) = a :: r := fun m => by
        induction m with
        | zero => rfl
        | succ m ih =>
          show itR m (if a = 48 then r else a :: r) = _
          rw [if_neg c]
          exact ih
      exact this n
theorem rstrip_tl {x y : Str} : (Txt.rstripChars x y).cps.toList = (x.cps.toList.reverse.dropWhile y.cps.contains).reverse := by
  unfold Txt.rstripChars
  rw [stripBy_eq]
  show (x.cps.extract 0 (x.length - (x.cps.toList.reverse.takeWhile y.cps.contains).length)).toList = _
  rw [Array.toList_extract]
  show ((x.cps.toList.drop 0).take _) = _
  rw [List.drop_zero]
  have : ∀ l : List Nat, l.dropWhile y.cps.contains = l.drop (l.takeWhile y.cps.contains).length := fun l => by
    induction l with
    | nil => rfl
    | cons a l ih =>
      by_cases c : y.cps.contains a = true
      · rw [List.takeWhile_cons_of_pos c, List.dropWhile_cons_of_pos c, List.length_cons, List.drop_succ_cons, ih]
      · rw [List.takeWhile_cons_of_neg c, List.dropWhile_cons_of_neg c]
        rfl
  rw [this, List.reverse_drop, List.reverse_reverse, List.length_reverse]
  rfl
/-- the last sign goes if it is a zero -/
def stp (z : Str) : Str := ⟨(stpL z.cps.toList).toArray⟩
theorem rstrip_stp {z : Str} (h : z.length = 4) : Txt.rstripChars z "0" = stp (stp (stp (stp z))) := by
  refine str_ext ?_
  rw [rstrip_tl]
  have k : ∀ l : List Nat, (l.reverse.dropWhile (("0" : Str).cps.contains)) = l.reverse.dropWhile (fun c => c == 48) := fun l => by
    congr 1
    funext c
    show (#[48] : Array Nat).contains c = (c == 48)
    by_cases e : c = 48
    · subst e; exact Array.contains_iff_mem.mpr (by simp)
    · rw [beq_eq_false_iff_ne.mpr e]
      show (#[48] : Array Nat).contains c = false
      rw [Bool.eq_false_iff]
      intro q
      have := Array.contains_iff_mem.mp q
      simp at this
      exact e this
  rw [k]
  have hz : z.cps.toList = z.cps.toList.reverse.reverse := (List.reverse_reverse _).symm
  have hl : z.cps.toList.reverse.length ≤ 4 := by rw [List.length_reverse]; exact Nat.le_of_eq h
  rw [← itR_drop 4 _ hl]
  show (itR 0 (stpR (stpR (stpR (stpR z.cps.toList.reverse))))).reverse = stpL (stpL (stpL (stpL z.cps.toList)))
  conv => rhs; rw [hz]
  rw [stp_rev, stp_rev, stp_rev, stp_rev]
  rfl
theorem spec4_tl {n : Nat} : (intSpecTextOf "04d" ((n : Nat) : Int)).cps.toList = List.replicate (4 - (dg n).length) 48 ++ dg n := by
  have e : ∃ f : PySem.Builtin.Float.FormatSpec, PySem.Builtin.Float.parseFormatSpec ("04d" : Str).cps.toList "int" 62 = .ok f ∧ f.fill = 48 ∧ f.align = 61 ∧ f.width = some 4 ∧ f.grouping = none ∧ f.sign = none := ⟨_, rfl, rfl, rfl, rfl, rfl, rfl⟩
  obtain ⟨f, hp, h1, h2, h3, h4, h5⟩ := e
  unfold intSpecTextOf
  rw [hp]
  dsimp only
  unfold intSpecText
  rw [Int.natAbs_natCast]
  have hd : ((Nat.toDigits 10 n).map fun c => (if (100 : Nat) == 88 then c.toUpper else c).toNat) = dg n := by
    unfold dg
    congr 1
  rw [decide_eq_false (by omega), hd]
  have hne : (dg n).isEmpty = false := by
    cases k : dg n with
    | nil =>
      have := dg_pos n
      rw [k] at this
      exact absurd this (by decide)
    | cons a r => rfl
  unfold intField'
  simp only [h1, h2, h3, h4, h5, hne]
  simp
  omega
theorem dw4 {n : Nat} (h : n < 10000) : dw 4 n = [48 + n / 1000, 48 + n / 100 % 10, 48 + n / 10 % 10, 48 + n % 10] := by
  show (((([] ++ [48 + n / 10 / 10 / 10 % 10]) ++ [48 + n / 10 / 10 % 10]) ++ [48 + n / 10 % 10]) ++ [48 + n % 10]) = _
  rw [show n / 10 / 10 / 10 % 10 = n / 1000 by omega, show n / 10 / 10 % 10 = n / 100 % 10 by omega]
  rfl
theorem dg5 {n : Nat} (h : n < 10000) : dg (10000 + n) = [49, 48 + n / 1000, 48 + n / 100 % 10, 48 + n / 10 % 10, 48 + n % 10] := by
  rw [dg_big (by omega), dg_big (n := (10000 + n) / 10) (by omega), dg_big (n := (10000 + n) / 10 / 10) (by omega), dg_big (n := (10000 + n) / 10 / 10 / 10) (by omega), show (10000 + n) / 10 / 10 / 10 / 10 = 1 by omega, dg_small (by decide)]
  rw [show (10000 + n) / 10 / 10 / 10 % 10 = n / 1000 by omega, show (10000 + n) / 10 / 10 % 10 = n / 100 % 10 by omega, show (10000 + n) / 10 % 10 = n / 10 % 10 by omega, show (10000 + n) % 10 = n % 10 by omega]
  rfl
theorem spec4 {r : Int} (h : 0 ≤ r ∧ r < 10000) : intSpecTextOf "04d" r = cutS (toString (10000 + r)) (some 1) none ∧ (intSpecTextOf "04d" r).length = 4 := by
  obtain ⟨n, rfl⟩ : ∃ n : Nat, r = n := ⟨r.toNat, by omega⟩
  have e1 := spec4_tl (n := n)
  rw [dg_pad 3 n (by omega)] at e1
  refine ⟨str_ext ?_, by rw [← len_list, e1, dw_len]⟩
  rw [e1]
  have e2 : (toString (10000 + ((n : Nat) : Int)) : Str).cps.toList = dg (10000 + n) := tl_nat (10000 + n)
  show _ = ((toString (10000 + ((n : Nat) : Int)) : Str).cps.toList.drop (HT.sIx (toString (10000 + ((n : Nat) : Int)) : Str).length 0 (some 1))).take _
  have l5 : (toString (10000 + ((n : Nat) : Int)) : Str).length = 5 := by
    rw [← len_list, e2, dg5 (by omega)]
    rfl
  rw [e2, l5, dg5 (by omega), dw4 (by omega)]
  rfl
/-- the digits behind the point -/
@[irreducible] def pctD (r : Int) : Str := Txt.rstripChars (intSpecTextOf "04d" (r % 10000)) "0"
theorem pctD_len {r : Int} : (pctD r).length ≤ 4 := by
  have h : 0 ≤ r % 10000 ∧ r % 10000 < 10000 := by omega
  unfold pctD
  rw [← len_list, rstrip_tl, List.length_reverse]
  refine Nat.le_trans (List.Sublist.length_le (List.dropWhile_sublist _)) ?_
  rw [List.length_reverse, len_list, (spec4 h).2]
  exact Nat.le_refl 4
theorem pctD_stp {r : Int} : pctD r = stp (stp (stp (stp (cutS (toString (10000 + r % 10000)) (some 1) none)))) := by
  have h : 0 ≤ r % 10000 ∧ r % 10000 < 10000 := by omega
  unfold pctD
  rw [rstrip_stp (spec4 h).2, (spec4 h).1]
/-- a rate as it is written -/
@[irreducible] def pct (r : Int) : Str := if pctD r = "" then (toString (r / 10000) : Str) ++ "pc" else (toString (r / 10000) : Str) ++ "." ++ pctD r ++ "pc"
theorem pct_e {r : Int} (h : pctD r = "") : pct r = (toString (r / 10000) : Str) ++ "pc" := by unfold pct; rw [if_pos h]
theorem pct_n {r : Int} (h : pctD r ≠ "") : pct r = (toString (r / 10000) : Str) ++ "." ++ pctD r ++ "pc" := by unfold pct; rw [if_neg h]
theorem pct_len {r : Int} (h : 0 ≤ r ∧ r ≤ 1000000) : LL 610 (pct r) := by
  unfold pct
  split
  · exact ((LL.int (by omega)).app (LL.lit (n := 2) (by decide +kernel))).mono (by decide)
  · exact ((((LL.int (by omega)).app (LL.lit (n := 1) (by decide +kernel))).app ⟨pctD_len⟩).app (LL.lit (n := 2) (by decide +kernel))).mono (by decide)
end LB

set_option Elab.async false
set_option linter.all false
set_option maxRecDepth 100000
set_option maxHeartbeats 4000000
/-! tokens -/
namespace LB
open PySem PySem.Spec PyProof.Rows L2
/-! ### partition, endswith, split, ljust -/
@[irreducible] def rPrt : V → List V → Hp → VK → Prop := fun x xs H Q => ∃ a b, x = .str a ∧ xs = [.str b] ∧ (b.length == 0) = false ∧ a.length ≤ sizeLine ∧ ∀ p, H p = none → Q (.ref p) (upd H p (.tup [.str (Txt.partition a b).1, .str (Txt.partition a b).2.1, .str (Txt.partition a b).2.2]))
theorem mt_prt {X : Cx} : MtR X "str.partition" rPrt := fun pins s σ H x xs v us Q I rx rs h => mt_partition pins s σ H x xs v us Q I rx rs (by unfold rPrt at h; exact h)
theorem prt_go {H : Hp} {Q : VK} {a b : Str} (hb : (b.length == 0) = false) (hl : a.length ≤ sizeLine) (q : ∀ p, H p = none → Q (.ref p) (upd H p (.tup [.str (Txt.partition a b).1, .str (Txt.partition a b).2.1, .str (Txt.partition a b).2.2]))) : rPrt (.str a) [.str b] H Q := by
  unfold rPrt
  exact ⟨a, b, rfl, rfl, hb, hl, q⟩
@[irreducible] def rEnds : V → List V → Hp → VK → Prop := fun x xs H Q => ∃ a b, x = .str a ∧ xs = [.str b] ∧ Q (.bl (Txt.endswith a b)) H
theorem mt_ends {X : Cx} : MtR X "str.endswith" rEnds := fun pins s σ H x xs v us Q I rx rs h => mt_endswith pins s σ H x xs v us Q I rx rs (by unfold rEnds at h; exact h)
theorem ends_go {H : Hp} {Q : VK} {a b : Str} (q : Q (.bl (Txt.endswith a b)) H) : rEnds (.str a) [.str b] H Q := by
  unfold rEnds
  exact ⟨a, b, rfl, rfl, q⟩
@[irreducible] def rSpl : V → List V → Hp → VK → Prop := fun x xs H Q => ∃ a b, x = .str a ∧ xs = [.str b] ∧ (b.length == 0) = false ∧ a.length + 2 ≤ sizeLine ∧ rNewStrs (Txt.split a b) H Q
theorem mt_spl {X : Cx} : MtR X "str.split" rSpl := fun pins s σ H x xs v us Q I rx rs h => mt_split pins s σ H x xs v us Q I rx rs (by unfold rSpl at h; exact h)
theorem spl_go {H : Hp} {Q : VK} {a b : Str} (hb : (b.length == 0) = false) (hl : a.length + 2 ≤ sizeLine) (q : ∀ p, H p = none → Q (.ref p) (upd H p (.lst ((Txt.split a b).map V.str)))) : rSpl (.str a) [.str b] H Q := by
  unfold rSpl
  exact ⟨a, b, rfl, rfl, hb, hl, q⟩
@[irreducible] def rLjF : V → List V → Hp → VK → Prop := fun x xs H Q => ∃ (a f : Str) (i : Int), x = .str a ∧ xs = [.int i, .str f] ∧ PadOk i = true ∧ f.length = 1 ∧ Q (.str (Txt.ljustF a i (f.cps.getD 0 0))) H
theorem mt_ljF {X : Cx} : MtR X "str.ljust" rLjF := by
  intro pins s σ H x xs v us Q I rx rs h
  unfold rLjF at h
  obtain ⟨a, f, i, rfl, rfl, hp, hf, q⟩ := h
  obtain ⟨t, rfl⟩ := rx
  cases rs with
  | cons r1 rs =>
    cases rs with
    | cons r2 rs =>
      cases rs
      obtain ⟨u, rfl⟩ := r1
      obtain ⟨z, rfl⟩ := r2
      exact ljust_fill hp hf fun t' k => ⟨.str (Txt.ljustF a i (f.cps.getD 0 0)), H, I.tok k, ⟨t', rfl⟩, q⟩
theorem ljF_go {H : Hp} {Q : VK} {a f : Str} {i : Int} (hp : PadOk i = true) (hf : f.length = 1) (q : Q (.str (Txt.ljustF a i (f.cps.getD 0 0))) H) : rLjF (.str a) [.int i, .str f] H Q := by
  unfold rLjF
  exact ⟨a, f, i, rfl, rfl, hp, hf, q⟩
theorem inC_lit {H : Hp} {Q : VK} {x z : Str} (c : Nat) (e : x = ⟨#[c]⟩) (q : Q (.bl (decide (c ∈ z.cps.toList))) H) : rInC false (.str x) (.str z) H Q := by
  subst e
  exact inC_go q
/-! ### what the pieces of the scanner say -/
def upC (c : Nat) : Bool := decide (65 ≤ c) && decide (c ≤ 90)
def runC (c : Nat) : Bool := lowC c || digC c || upC c || decide (c ∈ ("/.-" : Str).cps.toList)
def digsB (z : Str) : Bool := z.cps.toList.all digC
def plainB (z : Str) : Bool := (decide (1 ≤ z.length) && decide (z.length ≤ 30) && digsB z) && (z == "0" || !(z.cps.toList.head? == some 48))
def numB (z : Str) : Bool := decide (z.length ≤ 12) && plainB z
def wordC (c : Nat) : Bool := lowC c || digC c || c == 47
def wordB (z : Str) : Bool := z.cps.toList.all wordC && (headC z.cps.toList || decide (47 ∈ z.cps.toList))
def valZ (z : Str) : Int := ((NumText.digitsVal z.cps.toList : Nat) : Int)
theorem valT {z : Str} (h : digsB z = true) (hn : 1 ≤ z.length) (hl : z.length ≤ 600) : PySem.intText? z = some (valZ z) := by
  refine PySem.intText_digits (fun c hc => ?_) (fun e => by rw [← LB.len_list, e] at hn; exact absurd hn (by decide)) (by omega)
  have := List.all_eq_true.mp h c hc
  unfold digC at this
  rw [Bool.and_eq_true, decide_eq_true_iff, decide_eq_true_iff] at this
  exact this
theorem numB_iff {z : Str} (h : numB z = true) : 1 ≤ z.length ∧ z.length ≤ 12 ∧ digsB z = true := by
  unfold numB plainB at h
  simp only [Bool.and_eq_true, decide_eq_true_eq] at h
  exact ⟨h.2.1.1.1, h.1, h.2.1.2⟩
theorem val_snoc (l : List Nat) (c : Nat) : NumText.digitsVal (l ++ [c]) = NumText.digitsVal l * 10 + (c - 48) := by
  unfold NumText.digitsVal
  rw [List.foldl_append]
  first | rfl | (simp only [List.foldl_cons, List.foldl_nil]; omega)
theorem val_ltL : ∀ (r : List Nat), r.all digC = true → NumText.digitsVal r.reverse < 10 ^ r.length
  | [], _ => by show 0 < 1; decide
  | c :: r, h => by
    rw [List.all_cons, Bool.and_eq_true] at h
    have ih := val_ltL r h.2
    have hc := h.1
    unfold digC at hc
    rw [Bool.and_eq_true, decide_eq_true_iff, decide_eq_true_iff] at hc
    rw [List.reverse_cons, val_snoc, List.length_cons, Nat.pow_succ]
    omega
theorem val_lt {z : Str} (h : digsB z = true) : 0 ≤ valZ z ∧ valZ z < ((10 ^ z.length : Nat) : Int) := by
  unfold valZ
  have := val_ltL z.cps.toList.reverse (by rw [List.all_reverse]; exact h)
  rw [List.reverse_reverse, List.length_reverse, LB.len_list] at this
  omega
theorem val_le {z : Str} {n : Nat} (h : digsB z = true) (hl : z.length ≤ n) : 0 ≤ valZ z ∧ valZ z < ((10 ^ n : Nat) : Int) := by
  have h1 := val_lt h
  have h2 : 10 ^ z.length ≤ 10 ^ n := Nat.pow_le_pow_right (by decide) hl
  omega
theorem sub_len (x : Str) (a b : Nat) : (PySem.Builtin.Str.strSub x a b).length ≤ x.length := by
  rw [← LB.len_list]
  show (TL.tl (PySem.Builtin.Str.strSub x a b)).length ≤ _
  rw [TL.tl_strSub, List.length_take, List.length_drop]
  have : (TL.tl x).length = x.length := rfl
  omega
theorem tw_len {p : Nat → Bool} : ∀ {l : List Nat} {k : Nat}, k ≤ l.length → (∀ (j c : Nat), j < k → l[j]? = some c → p c = true) → (∀ c, l[k]? = some c → p c = false) → (l.takeWhile p).length = k
  | [], k, h, _, _ => by simp at h; subst h; rfl
  | a :: l, 0, _, _, h2 => by rw [List.takeWhile_cons_of_neg (by rw [h2 a rfl]; decide)]; rfl
  | a :: l, k + 1, h, h1, h2 => by
    rw [List.takeWhile_cons_of_pos (h1 0 a (by omega) rfl), List.length_cons, tw_len (k := k) (by simpa using h) (fun j c hj hc => h1 (j + 1) c (by omega) hc) h2]
theorem part_len (z y : Str) : (Txt.partition z y).1.length ≤ z.length ∧ (Txt.partition z y).2.2.length ≤ z.length := by
  unfold Txt.partition
  split
  · exact ⟨sub_len _ _ _, sub_len _ _ _⟩
  · exact ⟨Nat.le_refl _, Nat.zero_le _⟩
def amtO (z : Str) : Option Int :=
  if (Txt.partition z ".").2.1 = "" ∨ numB (Txt.partition z ".").1 = false ∨ (Txt.partition z ".").2.2.length ≠ 2 ∨ digsB (Txt.partition z ".").2.2 = false then none
  else if 1000000000000 < 100 * valZ (Txt.partition z ".").1 + valZ (Txt.partition z ".").2.2 then none else some (100 * valZ (Txt.partition z ".").1 + valZ (Txt.partition z ".").2.2)
def pctY (z : Str) : Str := cutS z none (some (-2))
def pctO (z : Str) : Option Int :=
  if Txt.endswith z "pc" = false ∨ numB (Txt.partition (pctY z) ".").1 = false then none
  else if (Txt.partition (pctY z) ".").2.1 = "" then (if 1000000 < 10000 * valZ (Txt.partition (pctY z) ".").1 then none else some (10000 * valZ (Txt.partition (pctY z) ".").1))
  else if (Txt.partition (pctY z) ".").2.2.length < 1 ∨ 4 < (Txt.partition (pctY z) ".").2.2.length ∨ digsB (Txt.partition (pctY z) ".").2.2 = false then none
  else if 1000000 < 10000 * valZ (Txt.partition (pctY z) ".").1 + valZ (Txt.ljustF (Txt.partition (pctY z) ".").2.2 4 48) then none else some (10000 * valZ (Txt.partition (pctY z) ".").1 + valZ (Txt.ljustF (Txt.partition (pctY z) ".").2.2 4 48))
end LB

set_option Elab.async false
set_option linter.all false
set_option maxRecDepth 100000
set_option maxHeartbeats 4000000
/-! names that end in a number -/
namespace LB
open PySem PySem.Spec PyProof.Rows L2
theorem dg_dig (n : Nat) : ∀ c ∈ dg n, digC c = true := by
  induction n using Nat.strongRecOn with
  | _ n ih =>
    intro c hc
    have hd : ∀ k : Nat, k < 10 → digC (48 + k) = true := by decide
    by_cases h : n < 10
    · rw [dg_small h, List.mem_singleton] at hc
      rw [hc]
      exact hd n h
    · rw [dg_big (by omega)] at hc
      rcases List.mem_append.mp hc with hc | hc
      · exact ih (n / 10) (by omega) c hc
      · rw [List.mem_singleton] at hc
        rw [hc]
        exact hd _ (by omega)
/-- a name and a number behind it -/
theorem nm_num {z : Str} {i : Int} {w : Nat} (h : nameB z = true) (h0 : 0 ≤ i) (h1 : i < 10 ^ w) (hw : 0 < w) (hl : z.length + w ≤ 12) : nameB (z ++ (toString i : Str)) = true := by
  obtain ⟨n, rfl⟩ : ∃ n : Nat, i = n := ⟨i.toNat, by omega⟩
  have hn : n < 10 ^ w := by
    have : ((n : Nat) : Int) < ((10 ^ w : Nat) : Int) := by rw [Int.natCast_pow]; exact h1
    omega
  obtain ⟨a1, a2, a3, a4⟩ := nameB_iff.mp h
  have et := tl_nat n
  have ec : (z ++ (toString ((n : Nat) : Int) : Str) : Str).cps.toList = z.cps.toList ++ dg n := by
    rw [← et]
    exact Array.toList_append
  have el : (z ++ (toString ((n : Nat) : Int) : Str) : Str).length = z.length + (dg n).length := by
    rw [len_app, ← et]
    rfl
  have := dg_len hn hw
  refine nameB_iff.mpr ⟨by omega, by omega, ?_, fun c hc => ?_⟩
  · rw [ec]
    cases hq : z.cps.toList with
    | nil =>
      rw [hq] at a3
      cases a3
    | cons a r =>
      rw [hq] at a3
      exact a3
  · rw [ec] at hc
    rcases List.mem_append.mp hc with hc | hc
    · exact a4 c hc
    · rw [dg_dig n c hc, Bool.or_true]
end LB

namespace My
open PySem PySem.Spec PyProof.Rows L2 LB
theorem ite_guard {c : Prop} [Decidable c] {A B : Prop} (h : if c then A else B) : if c then A else B := h
theorem iteKT {c : Bool} {A B : Prop} (hc : c = true) (h : A) : if c = true then A else B := by rw [if_pos hc]; exact h
theorem iteKF {c : Bool} {A B : Prop} (hc : c = false) (h : B) : if c = true then A else B := by rw [if_neg (by rw [hc]; exact Bool.false_ne_true)]; exact h
local macro_rules | `(tactic| walk_at "sz") => `(tactic| first
  | assumption
  | ((with_reducible apply Sz.mul) <;> walk_at "sz") | ((with_reducible apply Sz.add) <;> walk_at "sz") | ((with_reducible apply Sz.sub) <;> walk_at "sz") | ((with_reducible apply Sz.neg) <;> walk_at "sz")
  | exact Sz.mk (n := 64) (by omega) | exact Sz.mk (n := 201) (by omega) | ((with_reducible apply Sz.div) <;> walk_at "sz") | (with_reducible exact cell_sz (by assumption) _))
local macro_rules | `(tactic| walk_at "cond") => `(tactic| first
  | ((show (0 : Int) < _); first | decide | omega)
  | assumption
  | exact (True.intro : any1 _)
  | exact ty_s
  | ((with_reducible apply ty_l); (walk_at "sq")) | ((with_reducible apply ty_d); (walk_at "hp"))
  | ((with_reducible apply CM.of2) <;> first | walk_at "sz" | decide)
  | ((with_reducible apply CD.of2) <;> first | walk_at "sz" | decide | omega)
  | (with_reducible exact ⟨by decide, by decide, by decide⟩))
local macro_rules | `(tactic| walk_at "len") => `(tactic| first | assumption | exact Nat.lt_of_succ_le (Nat.le_of_ble_eq_true (by rfl)))
local macro_rules | `(tactic| walk_at "hp") => `(tactic| first | assumption | exact upd_same | ((with_reducible apply hp_upd) <;> (walk_at "hp")))
local macro_rules | `(tactic| walk_at "sq0") => `(tactic| first | assumption | exact l_of upd_same | exact t_of upd_same | (apply l_of; (assumption)) | (apply t_of; (assumption)) | walk_at "sqc")
local macro_rules | `(tactic| walk_at "sq1") => `(tactic| first | walk_at "sq0" | (apply lst_upd; (assumption); (walk_at "sq0")) | (apply tup_upd; (assumption); (walk_at "sq0")))
local macro_rules | `(tactic| walk_at "sq2") => `(tactic| first | walk_at "sq0" | (apply lst_upd; (assumption); (walk_at "sq1")) | (apply tup_upd; (assumption); (walk_at "sq1")))
local macro_rules | `(tactic| walk_at "sq3") => `(tactic| first | walk_at "sq0" | (apply lst_upd; (assumption); (walk_at "sq2")) | (apply tup_upd; (assumption); (walk_at "sq2")))
local macro_rules | `(tactic| walk_at "sq4") => `(tactic| first | walk_at "sq0" | (apply lst_upd; (assumption); (walk_at "sq3")) | (apply tup_upd; (assumption); (walk_at "sq3")))
local macro_rules | `(tactic| walk_at "sq5") => `(tactic| first | walk_at "sq0" | (apply lst_upd; (assumption); (walk_at "sq4")) | (apply tup_upd; (assumption); (walk_at "sq4")))
local macro_rules | `(tactic| walk_at "sq6") => `(tactic| first | walk_at "sq0" | (apply lst_upd; (assumption); (walk_at "sq5")) | (apply tup_upd; (assumption); (walk_at "sq5")))
local macro_rules | `(tactic| walk_at "sq7") => `(tactic| first | walk_at "sq0" | (apply lst_upd; (assumption); (walk_at "sq6")) | (apply tup_upd; (assumption); (walk_at "sq6")))
local macro_rules | `(tactic| walk_at "sq8") => `(tactic| first | walk_at "sq0" | (apply lst_upd; (assumption); (walk_at "sq7")) | (apply tup_upd; (assumption); (walk_at "sq7")))
local macro_rules | `(tactic| walk_at "sq") => `(tactic| walk_at "sq8")
local macro_rules | `(tactic| walk_at "ite0") => `(tactic| ((fail_if_success (with_reducible refine iteI (fun _ => ?_) (fun _ => ?_))); (fail_if_success (with_reducible refine iteIN (fun _ => ?_) (fun _ => ?_))); (fail_if_success (with_reducible refine iteD (fun _ => ?_) (fun _ => ?_))); (fail_if_success (with_reducible refine iteDN (fun _ => ?_) (fun _ => ?_))); (first | refine iteT ?_ | refine iteF ?_)))
local macro_rules | `(tactic| walk_at "ite1") => `(tactic| first | (refine iteKT (by decide +kernel) ?_) | (refine iteKF (by decide +kernel) ?_) | walk_at "ite0")
local macro_rules | `(tactic| walk_at "rd1") => `(tactic| first
  | refine ⟨_, rfl, ?_⟩
  | refine ⟨_, _, rfl, rfl, ?_⟩
  | refine ⟨rfl, ?_⟩
  | refine .inl ⟨_, rfl, ?_⟩
  | refine .inr ⟨_, rfl, ?_⟩
  | (with_reducible refine tC_go ?_) | (with_reducible refine tNoPart_go ?_)
  | ((with_reducible apply ixL_go); (first | assumption | exact l_of upd_same); (first | assumption | exact rfl))
  | ((with_reducible apply ixT_go); (first | assumption | exact t_of upd_same); (first | assumption | exact rfl))
  | walk_at "call"
  | (apply ixT_go; (walk_at "sq"); (first | assumption | rfl))
  | (apply ixL_go; (walk_at "sq"); (first | assumption | rfl))
  | (apply ixUT_go; (walk_at "sq"); (first | assumption | rfl))
  | (apply ixUL_go; (walk_at "sq"); (first | assumption | rfl))
  | (apply And.intro; (walk_at "cond"))
  | (apply And.intro; (exact Nat.le_of_ble_eq_true (by rfl)); (intro p hp))
  | refine ⟨_, _, _, rfl, (by walk_at "hp"), (by rfl), ?_⟩
  | ((with_reducible apply gTup_go); (walk_at "sq"); (exact rfl))
  | (apply ct_go; (walk_at "hp"); (walk_at "hp"); (first | assumption | exact Nat.le_of_ble_eq_true (by rfl)); (intro p hp))
  | (apply lo_l; (walk_at "sq"); (intro p hp)) | (apply lo_t; (walk_at "sq"); (intro p hp))
  | (apply mn_go) | (apply mx_go) | (apply isB_go) | (apply notB_go)
  | (apply setL_go; (walk_at "hp"); (first | assumption | exact rfl))
  | ((with_reducible apply slL_go); (walk_at "sq"); (intro p hp))
  | (apply inT_go; (walk_at "sq"); (exact rfl); (first | assumption | exact rfl)) | (apply inL_go; (walk_at "sq"); (exact rfl); (first | assumption | exact rfl))
  | (apply niT_go; (walk_at "sq"); (exact rfl); (first | assumption | exact rfl)) | (apply niL_go; (walk_at "sq"); (exact rfl); (first | assumption | exact rfl))
  | (apply app_go; (walk_at "hp"); (walk_at "len"))
  | (apply ln_t; (walk_at "sq")) | (apply ln_l; (walk_at "sq"))
  | (apply iteLen; (with_reducible rfl)) | (apply iteLenN; (with_reducible rfl)) | (apply iteLen; (exact rfl)) | (apply iteLenN; (exact rfl))
  | ((with_reducible refine ite_guard ?_); (walk_at "ite1"))
  | (apply isi_go (r := true); (first | exact .base (.int _) | exact .base (.str _) | exact .base (.bl _) | exact .base .non | exact tyx_t (by walk_at "sq") | exact tyx_l (by walk_at "sq")); (decide +kernel))
  | (apply isi_go (r := false); (first | exact .base (.int _) | exact .base (.str _) | exact .base (.bl _) | exact .base .non | exact tyx_t (by walk_at "sq") | exact tyx_l (by walk_at "sq")); (decide +kernel))
  | (apply isX_go; (walk_at "kit"); (walk_at "hp")) | (apply isX_ve; (walk_at "exv"); (walk_at "hp"))
  | (apply gTup_go; (walk_at "sq"); (exact rfl)) | (apply gCons_go) | (apply gNil_go))
local macro_rules | `(tactic| walk_at "rd") => `(tactic| repeat (walk_at "rd1"))

local macro_rules | `(tactic| walk_at "br1") => `(tactic| first
  | refine iteI (fun h => ?_) (fun h => ?_) | refine iteIN (fun h => ?_) (fun h => ?_)
  | refine iteS (fun h => ?_) (fun h => ?_) | refine iteSN (fun h => ?_) (fun h => ?_)
  | refine iteD (fun h => ?_) (fun h => ?_) | refine iteDN (fun h => ?_) (fun h => ?_))
local macro_rules | `(tactic| walk_at "go") => `(tactic| repeat' (first | walk_at "rd1" | walk_at "br1"))
local macro_rules | `(tactic| walk_at "sm0") => `(tactic| first | exact Same.refl _ | assumption)
local macro_rules | `(tactic| walk_at "sm1") => `(tactic| first | walk_at "sm0" | (apply same_new; (walk_at "sm0"); (assumption)) | (refine Same.trans ?_ (by assumption); (walk_at "sm0")))
local macro_rules | `(tactic| walk_at "sm2") => `(tactic| first | walk_at "sm0" | (apply same_new; (walk_at "sm1"); (assumption)) | (refine Same.trans ?_ (by assumption); (walk_at "sm1")))
local macro_rules | `(tactic| walk_at "sm3") => `(tactic| first | walk_at "sm0" | (apply same_new; (walk_at "sm2"); (assumption)) | (refine Same.trans ?_ (by assumption); (walk_at "sm2")))
local macro_rules | `(tactic| walk_at "sm4") => `(tactic| first | walk_at "sm0" | (apply same_new; (walk_at "sm3"); (assumption)) | (refine Same.trans ?_ (by assumption); (walk_at "sm3")))
local macro_rules | `(tactic| walk_at "sm5") => `(tactic| first | walk_at "sm0" | (apply same_new; (walk_at "sm4"); (assumption)) | (refine Same.trans ?_ (by assumption); (walk_at "sm4")))
local macro_rules | `(tactic| walk_at "sm6") => `(tactic| first | walk_at "sm0" | (apply same_new; (walk_at "sm5"); (assumption)) | (refine Same.trans ?_ (by assumption); (walk_at "sm5")))
local macro_rules | `(tactic| walk_at "sm7") => `(tactic| first | walk_at "sm0" | (apply same_new; (walk_at "sm6"); (assumption)) | (refine Same.trans ?_ (by assumption); (walk_at "sm6")))
local macro_rules | `(tactic| walk_at "sm8") => `(tactic| first | walk_at "sm0" | (apply same_new; (walk_at "sm7"); (assumption)) | (refine Same.trans ?_ (by assumption); (walk_at "sm7")))
local macro_rules | `(tactic| walk_at "sm9") => `(tactic| first | walk_at "sm0" | (apply same_new; (walk_at "sm8"); (assumption)) | (refine Same.trans ?_ (by assumption); (walk_at "sm8")))
local macro_rules | `(tactic| walk_at "sm10") => `(tactic| first | walk_at "sm0" | (apply same_new; (walk_at "sm9"); (assumption)) | (refine Same.trans ?_ (by assumption); (walk_at "sm9")))
local macro_rules | `(tactic| walk_at "sm11") => `(tactic| first | walk_at "sm0" | (apply same_new; (walk_at "sm10"); (assumption)) | (refine Same.trans ?_ (by assumption); (walk_at "sm10")))
local macro_rules | `(tactic| walk_at "sm12") => `(tactic| first | walk_at "sm0" | (apply same_new; (walk_at "sm11"); (assumption)) | (refine Same.trans ?_ (by assumption); (walk_at "sm11")))
local macro_rules | `(tactic| walk_at "sm13") => `(tactic| first | walk_at "sm0" | (apply same_new; (walk_at "sm12"); (assumption)) | (refine Same.trans ?_ (by assumption); (walk_at "sm12")))
local macro_rules | `(tactic| walk_at "sm14") => `(tactic| first | walk_at "sm0" | (apply same_new; (walk_at "sm13"); (assumption)) | (refine Same.trans ?_ (by assumption); (walk_at "sm13")))
local macro_rules | `(tactic| walk_at "sm") => `(tactic| walk_at "sm14")

local macro_rules | `(tactic| walk_at "rx") => `(tactic| (dsimp only [tC]; walk_at "rd"))

abbrev P : Program := PySem.Challenge.pw_lendbook_k24_tokens_of_texts
def top (i : Nat) : Stmt := PySem.Challenge.pw_lendbook_k24_tokens_of_texts.main.body.getD i (.Pass ⟨0, 0, 0, 0⟩)
abbrev s_check_between : Stmt := top 7
abbrev s_is_lower : Stmt := top 8
abbrev s_is_digit : Stmt := top 9
abbrev s_is_leap : Stmt := top 13
abbrev s_month_length : Stmt := top 14
abbrev s_year_start : Stmt := top 15
abbrev s_day_number : Stmt := top 16
abbrev s_is_written : Stmt := top 17
abbrev s_is_date : Stmt := top 18
abbrev s_read_date : Stmt := top 19
abbrev s_is_run_character : Stmt := top 24
abbrev s_is_number : Stmt := top 25
abbrev s_is_plain_number : Stmt := top 26
abbrev s_is_word : Stmt := top 27
abbrev s_is_digits : Stmt := top 28
abbrev s_amount_of : Stmt := top 29
abbrev s_percent_of : Stmt := top 30
abbrev s_kind_of : Stmt := top 31
abbrev s_run_end : Stmt := top 32
abbrev s_scan_line : Stmt := top 33
abbrev s_scan : Stmt := top 34
abbrev s_tokens_of : Stmt := top 35
abbrev s__law_cell : Stmt := top 37
abbrev s__law_draw : Stmt := top 38
abbrev s__law_leap : Stmt := top 39
abbrev s__law_length : Stmt := top 40
abbrev s__law_date : Stmt := top 41
abbrev s__law_pad : Stmt := top 42
abbrev s__law_written : Stmt := top 43
abbrev s__law_token : Stmt := top 44
abbrev s__law_spelled : Stmt := top 45
abbrev s__law_space : Stmt := top 46
abbrev s__law_after : Stmt := top 47
abbrev s_law : Stmt := top 48
theorem sc_check_between : FnScope ["value", "least", "most"] ["value", "least", "most"] (defScope s_check_between) := ⟨rfl, rfl, rfl, by decide +kernel, rfl, by decide +kernel, by decide +kernel⟩
theorem sc_is_lower : FnScope ["character"] ["character"] (defScope s_is_lower) := ⟨rfl, rfl, rfl, by decide +kernel, rfl, by decide +kernel, by decide +kernel⟩
theorem sc_is_digit : FnScope ["character"] ["character"] (defScope s_is_digit) := ⟨rfl, rfl, rfl, by decide +kernel, rfl, by decide +kernel, by decide +kernel⟩
theorem sc_is_leap : FnScope ["year"] ["year"] (defScope s_is_leap) := ⟨rfl, rfl, rfl, by decide +kernel, rfl, by decide +kernel, by decide +kernel⟩
theorem sc_month_length : FnScope ["year", "month"] ["year", "month"] (defScope s_month_length) := ⟨rfl, rfl, rfl, by decide +kernel, rfl, by decide +kernel, by decide +kernel⟩
theorem sc_year_start : FnScope ["year", "years"] ["year"] (defScope s_year_start) := ⟨rfl, rfl, rfl, by decide +kernel, rfl, by decide +kernel, by decide +kernel⟩
theorem sc_day_number : FnScope ["year", "month", "day", "number", "earlier"] ["year", "month", "day"] (defScope s_day_number) := ⟨rfl, rfl, rfl, by decide +kernel, rfl, by decide +kernel, by decide +kernel⟩
theorem sc_is_written : FnScope ["text", "at"] ["text"] (defScope s_is_written) := ⟨rfl, rfl, rfl, by decide +kernel, rfl, by decide +kernel, by decide +kernel⟩
theorem sc_is_date : FnScope ["text", "year", "month", "number"] ["text"] (defScope s_is_date) := ⟨rfl, rfl, rfl, by decide +kernel, rfl, by decide +kernel, by decide +kernel⟩
theorem sc_read_date : FnScope ["text"] ["text"] (defScope s_read_date) := ⟨rfl, rfl, rfl, by decide +kernel, rfl, by decide +kernel, by decide +kernel⟩
theorem sc_is_run_character : FnScope ["character"] ["character"] (defScope s_is_run_character) := ⟨rfl, rfl, rfl, by decide +kernel, rfl, by decide +kernel, by decide +kernel⟩
theorem sc_is_number : FnScope ["text"] ["text"] (defScope s_is_number) := ⟨rfl, rfl, rfl, by decide +kernel, rfl, by decide +kernel, by decide +kernel⟩
theorem sc_is_plain_number : FnScope ["text"] ["text"] (defScope s_is_plain_number) := ⟨rfl, rfl, rfl, by decide +kernel, rfl, by decide +kernel, by decide +kernel⟩
theorem sc_is_word : FnScope ["text", "character"] ["text"] (defScope s_is_word) := ⟨rfl, rfl, rfl, by decide +kernel, rfl, by decide +kernel, by decide +kernel⟩
theorem sc_is_digits : FnScope ["text", "character"] ["text"] (defScope s_is_digits) := ⟨rfl, rfl, rfl, by decide +kernel, rfl, by decide +kernel, by decide +kernel⟩
theorem sc_amount_of : FnScope ["text", "whole", "point", "cents", "value"] ["text"] (defScope s_amount_of) := ⟨rfl, rfl, rfl, by decide +kernel, rfl, by decide +kernel, by decide +kernel⟩
theorem sc_percent_of : FnScope ["text", "whole", "point", "parts", "value"] ["text"] (defScope s_percent_of) := ⟨rfl, rfl, rfl, by decide +kernel, rfl, by decide +kernel, by decide +kernel⟩
theorem sc_kind_of : FnScope ["text", "cents", "rate"] ["text"] (defScope s_kind_of) := ⟨rfl, rfl, rfl, by decide +kernel, rfl, by decide +kernel, by decide +kernel⟩
theorem sc_run_end : FnScope ["line", "start", "end"] ["line", "start"] (defScope s_run_end) := ⟨rfl, rfl, rfl, by decide +kernel, rfl, by decide +kernel, by decide +kernel⟩
theorem sc_scan_line : FnScope ["line", "number", "found", "at", "character", "end", "token"] ["line", "number", "found"] (defScope s_scan_line) := ⟨rfl, rfl, rfl, by decide +kernel, rfl, by decide +kernel, by decide +kernel⟩
theorem sc_scan : FnScope ["text", "lines", "found", "number", "line", "column"] ["text"] (defScope s_scan) := ⟨rfl, rfl, rfl, by decide +kernel, rfl, by decide +kernel, by decide +kernel⟩
theorem sc_tokens_of : FnScope ["text", "found", "last"] ["text"] (defScope s_tokens_of) := ⟨rfl, rfl, rfl, by decide +kernel, rfl, by decide +kernel, by decide +kernel⟩
theorem sc__law_cell : FnScope ["script", "k"] ["script", "k"] (defScope s__law_cell) := ⟨rfl, rfl, rfl, by decide +kernel, rfl, by decide +kernel, by decide +kernel⟩
theorem sc__law_draw : FnScope ["cell", "limits", "row", "rest", "great", "k", "mixed"] ["cell", "limits"] (defScope s__law_draw) := ⟨rfl, rfl, rfl, by decide +kernel, rfl, by decide +kernel, by decide +kernel⟩
theorem sc__law_leap : FnScope ["year"] ["year"] (defScope s__law_leap) := ⟨rfl, rfl, rfl, by decide +kernel, rfl, by decide +kernel, by decide +kernel⟩
theorem sc__law_length : FnScope ["year", "month"] ["year", "month"] (defScope s__law_length) := ⟨rfl, rfl, rfl, by decide +kernel, rfl, by decide +kernel, by decide +kernel⟩
theorem sc__law_date : FnScope ["day", "year", "rest", "k", "size", "month"] ["day"] (defScope s__law_date) := ⟨rfl, rfl, rfl, by decide +kernel, rfl, by decide +kernel, by decide +kernel⟩
theorem sc__law_pad : FnScope ["number", "size", "text", "k"] ["number", "size"] (defScope s__law_pad) := ⟨rfl, rfl, rfl, by decide +kernel, rfl, by decide +kernel, by decide +kernel⟩
theorem sc__law_written : FnScope ["day", "parts"] ["day"] (defScope s__law_written) := ⟨rfl, rfl, rfl, by decide +kernel, rfl, by decide +kernel, by decide +kernel⟩
theorem sc__law_token : FnScope ["cell", "d", "small", "number", "word"] ["cell"] (defScope s__law_token) := ⟨rfl, rfl, rfl, by decide +kernel, rfl, by decide +kernel, by decide +kernel⟩
theorem sc__law_spelled : FnScope ["kind", "value", "parts", "k"] ["kind", "value"] (defScope s__law_spelled) := ⟨rfl, rfl, rfl, by decide +kernel, rfl, by decide +kernel, by decide +kernel⟩
theorem sc__law_space : FnScope ["cell", "d"] ["cell"] (defScope s__law_space) := ⟨rfl, rfl, rfl, by decide +kernel, rfl, by decide +kernel, by decide +kernel⟩
theorem sc__law_after : FnScope ["line", "column", "text", "k"] ["line", "column", "text"] (defScope s__law_after) := ⟨rfl, rfl, rfl, by decide +kernel, rfl, by decide +kernel, by decide +kernel⟩
theorem sc_law : FnScope ["script", "text", "due", "place", "k", "token", "spelled", "gap", "actual", "j", "one"] ["script"] (defScope s_law) := ⟨rfl, rfl, rfl, by decide +kernel, rfl, by decide +kernel, by decide +kernel⟩
abbrev s_BadText : Stmt := inClass (top 2) 0
abbrev s_OutOfRange : Stmt := inClass (top 3) 0
structure Txt (K : PySem.W.Frag) (mg : Str → Option Value) : Type where
  a_check_between : Addr
  fd_check_between : FuncData
  F_check_between : FunD K "check_between" "check_between" (defArgs s_check_between) (defBody s_check_between) (defScope s_check_between) [] [] a_check_between fd_check_between
  m_check_between : mg "check_between" = some (.ref a_check_between)
  b_check_between : Binds K fd_check_between ["value", "least", "most"] []
  a_is_lower : Addr
  fd_is_lower : FuncData
  F_is_lower : FunD K "is_lower" "is_lower" (defArgs s_is_lower) (defBody s_is_lower) (defScope s_is_lower) [] [] a_is_lower fd_is_lower
  m_is_lower : mg "is_lower" = some (.ref a_is_lower)
  b_is_lower : Binds K fd_is_lower ["character"] []
  a_is_digit : Addr
  fd_is_digit : FuncData
  F_is_digit : FunD K "is_digit" "is_digit" (defArgs s_is_digit) (defBody s_is_digit) (defScope s_is_digit) [] [] a_is_digit fd_is_digit
  m_is_digit : mg "is_digit" = some (.ref a_is_digit)
  b_is_digit : Binds K fd_is_digit ["character"] []
  a_is_leap : Addr
  fd_is_leap : FuncData
  F_is_leap : FunD K "is_leap" "is_leap" (defArgs s_is_leap) (defBody s_is_leap) (defScope s_is_leap) [] [] a_is_leap fd_is_leap
  m_is_leap : mg "is_leap" = some (.ref a_is_leap)
  b_is_leap : Binds K fd_is_leap ["year"] []
  a_month_length : Addr
  fd_month_length : FuncData
  F_month_length : FunD K "month_length" "month_length" (defArgs s_month_length) (defBody s_month_length) (defScope s_month_length) [] [] a_month_length fd_month_length
  m_month_length : mg "month_length" = some (.ref a_month_length)
  b_month_length : Binds K fd_month_length ["year", "month"] []
  a_year_start : Addr
  fd_year_start : FuncData
  F_year_start : FunD K "year_start" "year_start" (defArgs s_year_start) (defBody s_year_start) (defScope s_year_start) [] [] a_year_start fd_year_start
  m_year_start : mg "year_start" = some (.ref a_year_start)
  b_year_start : Binds K fd_year_start ["year"] []
  a_day_number : Addr
  fd_day_number : FuncData
  F_day_number : FunD K "day_number" "day_number" (defArgs s_day_number) (defBody s_day_number) (defScope s_day_number) [] [] a_day_number fd_day_number
  m_day_number : mg "day_number" = some (.ref a_day_number)
  b_day_number : Binds K fd_day_number ["year", "month", "day"] []
  a_is_written : Addr
  fd_is_written : FuncData
  F_is_written : FunD K "is_written" "is_written" (defArgs s_is_written) (defBody s_is_written) (defScope s_is_written) [] [] a_is_written fd_is_written
  m_is_written : mg "is_written" = some (.ref a_is_written)
  b_is_written : Binds K fd_is_written ["text"] []
  a_is_date : Addr
  fd_is_date : FuncData
  F_is_date : FunD K "is_date" "is_date" (defArgs s_is_date) (defBody s_is_date) (defScope s_is_date) [] [] a_is_date fd_is_date
  m_is_date : mg "is_date" = some (.ref a_is_date)
  b_is_date : Binds K fd_is_date ["text"] []
  a_read_date : Addr
  fd_read_date : FuncData
  F_read_date : FunD K "read_date" "read_date" (defArgs s_read_date) (defBody s_read_date) (defScope s_read_date) [] [] a_read_date fd_read_date
  m_read_date : mg "read_date" = some (.ref a_read_date)
  b_read_date : Binds K fd_read_date ["text"] []
  a_is_run_character : Addr
  fd_is_run_character : FuncData
  F_is_run_character : FunD K "is_run_character" "is_run_character" (defArgs s_is_run_character) (defBody s_is_run_character) (defScope s_is_run_character) [] [] a_is_run_character fd_is_run_character
  m_is_run_character : mg "is_run_character" = some (.ref a_is_run_character)
  b_is_run_character : Binds K fd_is_run_character ["character"] []
  a_is_number : Addr
  fd_is_number : FuncData
  F_is_number : FunD K "is_number" "is_number" (defArgs s_is_number) (defBody s_is_number) (defScope s_is_number) [] [] a_is_number fd_is_number
  m_is_number : mg "is_number" = some (.ref a_is_number)
  b_is_number : Binds K fd_is_number ["text"] []
  a_is_plain_number : Addr
  fd_is_plain_number : FuncData
  F_is_plain_number : FunD K "is_plain_number" "is_plain_number" (defArgs s_is_plain_number) (defBody s_is_plain_number) (defScope s_is_plain_number) [] [] a_is_plain_number fd_is_plain_number
  m_is_plain_number : mg "is_plain_number" = some (.ref a_is_plain_number)
  b_is_plain_number : Binds K fd_is_plain_number ["text"] []
  a_is_word : Addr
  fd_is_word : FuncData
  F_is_word : FunD K "is_word" "is_word" (defArgs s_is_word) (defBody s_is_word) (defScope s_is_word) [] [] a_is_word fd_is_word
  m_is_word : mg "is_word" = some (.ref a_is_word)
  b_is_word : Binds K fd_is_word ["text"] []
  a_is_digits : Addr
  fd_is_digits : FuncData
  F_is_digits : FunD K "is_digits" "is_digits" (defArgs s_is_digits) (defBody s_is_digits) (defScope s_is_digits) [] [] a_is_digits fd_is_digits
  m_is_digits : mg "is_digits" = some (.ref a_is_digits)
  b_is_digits : Binds K fd_is_digits ["text"] []
  a_amount_of : Addr
  fd_amount_of : FuncData
  F_amount_of : FunD K "amount_of" "amount_of" (defArgs s_amount_of) (defBody s_amount_of) (defScope s_amount_of) [] [] a_amount_of fd_amount_of
  m_amount_of : mg "amount_of" = some (.ref a_amount_of)
  b_amount_of : Binds K fd_amount_of ["text"] []
  a_percent_of : Addr
  fd_percent_of : FuncData
  F_percent_of : FunD K "percent_of" "percent_of" (defArgs s_percent_of) (defBody s_percent_of) (defScope s_percent_of) [] [] a_percent_of fd_percent_of
  m_percent_of : mg "percent_of" = some (.ref a_percent_of)
  b_percent_of : Binds K fd_percent_of ["text"] []
  a_kind_of : Addr
  fd_kind_of : FuncData
  F_kind_of : FunD K "kind_of" "kind_of" (defArgs s_kind_of) (defBody s_kind_of) (defScope s_kind_of) [] [] a_kind_of fd_kind_of
  m_kind_of : mg "kind_of" = some (.ref a_kind_of)
  b_kind_of : Binds K fd_kind_of ["text"] []
  a_run_end : Addr
  fd_run_end : FuncData
  F_run_end : FunD K "run_end" "run_end" (defArgs s_run_end) (defBody s_run_end) (defScope s_run_end) [] [] a_run_end fd_run_end
  m_run_end : mg "run_end" = some (.ref a_run_end)
  b_run_end : Binds K fd_run_end ["line", "start"] []
  a_scan_line : Addr
  fd_scan_line : FuncData
  F_scan_line : FunD K "scan_line" "scan_line" (defArgs s_scan_line) (defBody s_scan_line) (defScope s_scan_line) [] [] a_scan_line fd_scan_line
  m_scan_line : mg "scan_line" = some (.ref a_scan_line)
  b_scan_line : Binds K fd_scan_line ["line", "number", "found"] []
  a_scan : Addr
  fd_scan : FuncData
  F_scan : FunD K "scan" "scan" (defArgs s_scan) (defBody s_scan) (defScope s_scan) [] [] a_scan fd_scan
  m_scan : mg "scan" = some (.ref a_scan)
  b_scan : Binds K fd_scan ["text"] []
  a_tokens_of : Addr
  fd_tokens_of : FuncData
  F_tokens_of : FunD K "tokens_of" "tokens_of" (defArgs s_tokens_of) (defBody s_tokens_of) (defScope s_tokens_of) [] [] a_tokens_of fd_tokens_of
  m_tokens_of : mg "tokens_of" = some (.ref a_tokens_of)
  b_tokens_of : Binds K fd_tokens_of ["text"] []
  a__law_cell : Addr
  fd__law_cell : FuncData
  F__law_cell : FunD K "_law_cell" "_law_cell" (defArgs s__law_cell) (defBody s__law_cell) (defScope s__law_cell) [] [] a__law_cell fd__law_cell
  m__law_cell : mg "_law_cell" = some (.ref a__law_cell)
  b__law_cell : Binds K fd__law_cell ["script", "k"] []
  a__law_draw : Addr
  fd__law_draw : FuncData
  F__law_draw : FunD K "_law_draw" "_law_draw" (defArgs s__law_draw) (defBody s__law_draw) (defScope s__law_draw) [] [] a__law_draw fd__law_draw
  m__law_draw : mg "_law_draw" = some (.ref a__law_draw)
  b__law_draw : Binds K fd__law_draw ["cell", "limits"] []
  a__law_leap : Addr
  fd__law_leap : FuncData
  F__law_leap : FunD K "_law_leap" "_law_leap" (defArgs s__law_leap) (defBody s__law_leap) (defScope s__law_leap) [] [] a__law_leap fd__law_leap
  m__law_leap : mg "_law_leap" = some (.ref a__law_leap)
  b__law_leap : Binds K fd__law_leap ["year"] []
  a__law_length : Addr
  fd__law_length : FuncData
  F__law_length : FunD K "_law_length" "_law_length" (defArgs s__law_length) (defBody s__law_length) (defScope s__law_length) [] [] a__law_length fd__law_length
  m__law_length : mg "_law_length" = some (.ref a__law_length)
  b__law_length : Binds K fd__law_length ["year", "month"] []
  a__law_date : Addr
  fd__law_date : FuncData
  F__law_date : FunD K "_law_date" "_law_date" (defArgs s__law_date) (defBody s__law_date) (defScope s__law_date) [] [] a__law_date fd__law_date
  m__law_date : mg "_law_date" = some (.ref a__law_date)
  b__law_date : Binds K fd__law_date ["day"] []
  a__law_pad : Addr
  fd__law_pad : FuncData
  F__law_pad : FunD K "_law_pad" "_law_pad" (defArgs s__law_pad) (defBody s__law_pad) (defScope s__law_pad) [] [] a__law_pad fd__law_pad
  m__law_pad : mg "_law_pad" = some (.ref a__law_pad)
  b__law_pad : Binds K fd__law_pad ["number", "size"] []
  a__law_written : Addr
  fd__law_written : FuncData
  F__law_written : FunD K "_law_written" "_law_written" (defArgs s__law_written) (defBody s__law_written) (defScope s__law_written) [] [] a__law_written fd__law_written
  m__law_written : mg "_law_written" = some (.ref a__law_written)
  b__law_written : Binds K fd__law_written ["day"] []
  a__law_token : Addr
  fd__law_token : FuncData
  F__law_token : FunD K "_law_token" "_law_token" (defArgs s__law_token) (defBody s__law_token) (defScope s__law_token) [] [] a__law_token fd__law_token
  m__law_token : mg "_law_token" = some (.ref a__law_token)
  b__law_token : Binds K fd__law_token ["cell"] []
  a__law_spelled : Addr
  fd__law_spelled : FuncData
  F__law_spelled : FunD K "_law_spelled" "_law_spelled" (defArgs s__law_spelled) (defBody s__law_spelled) (defScope s__law_spelled) [] [] a__law_spelled fd__law_spelled
  m__law_spelled : mg "_law_spelled" = some (.ref a__law_spelled)
  b__law_spelled : Binds K fd__law_spelled ["kind", "value"] []
  a__law_space : Addr
  fd__law_space : FuncData
  F__law_space : FunD K "_law_space" "_law_space" (defArgs s__law_space) (defBody s__law_space) (defScope s__law_space) [] [] a__law_space fd__law_space
  m__law_space : mg "_law_space" = some (.ref a__law_space)
  b__law_space : Binds K fd__law_space ["cell"] []
  a__law_after : Addr
  fd__law_after : FuncData
  F__law_after : FunD K "_law_after" "_law_after" (defArgs s__law_after) (defBody s__law_after) (defScope s__law_after) [] [] a__law_after fd__law_after
  m__law_after : mg "_law_after" = some (.ref a__law_after)
  b__law_after : Binds K fd__law_after ["line", "column", "text"] []
  a_law : Addr
  fd_law : FuncData
  F_law : FunD K "law" "law" (defArgs s_law) (defBody s_law) (defScope s_law) [] [] a_law fd_law
  m_law : mg "law" = some (.ref a_law)
  b_law : Binds K fd_law ["script"] []
  c_BookError : Addr
  m_BookError : mg "BookError" = some (.ref c_BookError)
  e_BookError : ECls K c_BookError
  c_BadText : Addr
  m_BadText : mg "BadText" = some (.ref c_BadText)
  e_BadText : ECls K c_BadText
  x_BadText : XTxt P K mg "BadText.__init__" s_BadText c_BadText
  n_BadText_label : PySem.W.findIn K (.ref c_BadText) "label" = some none
  n_BadText_line : PySem.W.findIn K (.ref c_BadText) "line" = some none
  n_BadText_column : PySem.W.findIn K (.ref c_BadText) "column" = some none
  n_BadText_reason : PySem.W.findIn K (.ref c_BadText) "reason" = some none
  c_OutOfRange : Addr
  m_OutOfRange : mg "OutOfRange" = some (.ref c_OutOfRange)
  e_OutOfRange : ECls K c_OutOfRange
  x_OutOfRange : XTxt P K mg "OutOfRange.__init__" s_OutOfRange c_OutOfRange
  n_OutOfRange_label : PySem.W.findIn K (.ref c_OutOfRange) "label" = some none
  n_OutOfRange_value : PySem.W.findIn K (.ref c_OutOfRange) "value" = some none
  y_BookError_BookError : PySem.W.subIn K (.ref c_BookError) (.ref c_BookError) = some true
  y_BookError_BadText : PySem.W.subIn K (.ref c_BookError) (.ref c_BadText) = some false
  y_BookError_OutOfRange : PySem.W.subIn K (.ref c_BookError) (.ref c_OutOfRange) = some false
  yv_BookError : PySem.W.subIn K (.ref c_BookError) (.type "ValueError") = some true
  y_BadText_BookError : PySem.W.subIn K (.ref c_BadText) (.ref c_BookError) = some true
  y_BadText_BadText : PySem.W.subIn K (.ref c_BadText) (.ref c_BadText) = some true
  y_BadText_OutOfRange : PySem.W.subIn K (.ref c_BadText) (.ref c_OutOfRange) = some false
  yv_BadText : PySem.W.subIn K (.ref c_BadText) (.type "ValueError") = some true
  y_OutOfRange_BookError : PySem.W.subIn K (.ref c_OutOfRange) (.ref c_BookError) = some true
  y_OutOfRange_BadText : PySem.W.subIn K (.ref c_OutOfRange) (.ref c_BadText) = some false
  y_OutOfRange_OutOfRange : PySem.W.subIn K (.ref c_OutOfRange) (.ref c_OutOfRange) = some true
  yv_OutOfRange : PySem.W.subIn K (.ref c_OutOfRange) (.type "ValueError") = some true
  nd : NoDig K
  m_MOST_CENTS : ∃ t, mg "MOST_CENTS" = some (.int 1000000000000 t)
  m_MOST_RATE : ∃ t, mg "MOST_RATE" = some (.int 1000000 t)
  m_FIRST_YEAR : ∃ t, mg "FIRST_YEAR" = some (.int 2000 t)
  m_LAST_YEAR : ∃ t, mg "LAST_YEAR" = some (.int 2199 t)
  m_SIGNS : ∃ t, mg "SIGNS" = some (.str "{};,()" t)
  m_LONGEST_NUMBER : ∃ t, mg "LONGEST_NUMBER" = some (.int 12 t)
  m_MOST_DIGITS : ∃ t, mg "MOST_DIGITS" = some (.int 30 t)
  z_range : mg "range" = none
  z_len : mg "len" = none
  z_int : mg "int" = none
  z_abs : mg "abs" = none
  z_str : mg "str" = none
  z_min : mg "min" = none
  z_max : mg "max" = none
  z_isinstance : mg "isinstance" = none
  z_list : mg "list" = none
  z_tuple : mg "tuple" = none
  z_bool : mg "bool" = none
section
variable {w : World} {K : PySem.W.Frag} {mg : Str → Option Value} {base : Heap}
theorem kit_BookError_BookError (T : Txt K mg) : PySem.W.kitOne K (.ref T.c_BookError) (.ref T.c_BookError) = some true := T.e_BookError.kit T.y_BookError_BookError
theorem exm_BookError_BookError (T : Txt K mg) : PySem.W.exmOne K (.ref T.c_BookError) (.ref T.c_BookError) = some true := T.e_BookError.exm T.y_BookError_BookError
theorem kit_BookError_BadText (T : Txt K mg) : PySem.W.kitOne K (.ref T.c_BookError) (.ref T.c_BadText) = some false := T.e_BadText.kit T.y_BookError_BadText
theorem exm_BookError_BadText (T : Txt K mg) : PySem.W.exmOne K (.ref T.c_BookError) (.ref T.c_BadText) = some false := T.e_BadText.exm T.y_BookError_BadText
theorem kit_BookError_OutOfRange (T : Txt K mg) : PySem.W.kitOne K (.ref T.c_BookError) (.ref T.c_OutOfRange) = some false := T.e_OutOfRange.kit T.y_BookError_OutOfRange
theorem exm_BookError_OutOfRange (T : Txt K mg) : PySem.W.exmOne K (.ref T.c_BookError) (.ref T.c_OutOfRange) = some false := T.e_OutOfRange.exm T.y_BookError_OutOfRange
theorem kit_BadText_BookError (T : Txt K mg) : PySem.W.kitOne K (.ref T.c_BadText) (.ref T.c_BookError) = some true := T.e_BookError.kit T.y_BadText_BookError
theorem exm_BadText_BookError (T : Txt K mg) : PySem.W.exmOne K (.ref T.c_BadText) (.ref T.c_BookError) = some true := T.e_BookError.exm T.y_BadText_BookError
theorem kit_BadText_BadText (T : Txt K mg) : PySem.W.kitOne K (.ref T.c_BadText) (.ref T.c_BadText) = some true := T.e_BadText.kit T.y_BadText_BadText
theorem exm_BadText_BadText (T : Txt K mg) : PySem.W.exmOne K (.ref T.c_BadText) (.ref T.c_BadText) = some true := T.e_BadText.exm T.y_BadText_BadText
theorem kit_BadText_OutOfRange (T : Txt K mg) : PySem.W.kitOne K (.ref T.c_BadText) (.ref T.c_OutOfRange) = some false := T.e_OutOfRange.kit T.y_BadText_OutOfRange
theorem exm_BadText_OutOfRange (T : Txt K mg) : PySem.W.exmOne K (.ref T.c_BadText) (.ref T.c_OutOfRange) = some false := T.e_OutOfRange.exm T.y_BadText_OutOfRange
theorem kit_OutOfRange_BookError (T : Txt K mg) : PySem.W.kitOne K (.ref T.c_OutOfRange) (.ref T.c_BookError) = some true := T.e_BookError.kit T.y_OutOfRange_BookError
theorem exm_OutOfRange_BookError (T : Txt K mg) : PySem.W.exmOne K (.ref T.c_OutOfRange) (.ref T.c_BookError) = some true := T.e_BookError.exm T.y_OutOfRange_BookError
theorem kit_OutOfRange_BadText (T : Txt K mg) : PySem.W.kitOne K (.ref T.c_OutOfRange) (.ref T.c_BadText) = some false := T.e_BadText.kit T.y_OutOfRange_BadText
theorem exm_OutOfRange_BadText (T : Txt K mg) : PySem.W.exmOne K (.ref T.c_OutOfRange) (.ref T.c_BadText) = some false := T.e_BadText.exm T.y_OutOfRange_BadText
theorem kit_OutOfRange_OutOfRange (T : Txt K mg) : PySem.W.kitOne K (.ref T.c_OutOfRange) (.ref T.c_OutOfRange) = some true := T.e_OutOfRange.kit T.y_OutOfRange_OutOfRange
theorem exm_OutOfRange_OutOfRange (T : Txt K mg) : PySem.W.exmOne K (.ref T.c_OutOfRange) (.ref T.c_OutOfRange) = some true := T.e_OutOfRange.exm T.y_OutOfRange_OutOfRange
local macro_rules | `(tactic| walk_at "kit") => `(tactic| first | exact kit_BookError_BookError (by assumption) | exact kit_BookError_BadText (by assumption) | exact kit_BookError_OutOfRange (by assumption) | exact kit_BadText_BookError (by assumption) | exact kit_BadText_BadText (by assumption) | exact kit_BadText_OutOfRange (by assumption) | exact kit_OutOfRange_BookError (by assumption) | exact kit_OutOfRange_BadText (by assumption) | exact kit_OutOfRange_OutOfRange (by assumption))
local macro_rules | `(tactic| walk_at "exm") => `(tactic| first | exact exm_BookError_BookError (by assumption) | exact exm_BookError_BadText (by assumption) | exact exm_BookError_OutOfRange (by assumption) | exact exm_BadText_BookError (by assumption) | exact exm_BadText_BadText (by assumption) | exact exm_BadText_OutOfRange (by assumption) | exact exm_OutOfRange_BookError (by assumption) | exact exm_OutOfRange_BadText (by assumption) | exact exm_OutOfRange_OutOfRange (by assumption))
local macro_rules | `(tactic| walk_at "exv") => `(tactic| first | exact Txt.yv_BookError (by assumption) | exact Txt.yv_BadText (by assumption) | exact Txt.yv_OutOfRange (by assumption))
def f_BadText : List V → List (Str × V) := fun xs => [("reason", xs.getD 2 .non), ("column", xs.getD 1 .non), ("line", xs.getD 0 .non), ("label", .str "BadText")]
theorem okx_BadText (T : Txt K mg) : ExcOk P w K mg base T.c_BadText any1 f_BadText 3 := by
  refine T.x_BadText.ok (N := ["self", "line", "column", "reason", "__class__"]) (ps := ["line", "column", "reason"]) rfl rfl (NdefX.nscope_by (by decide +kernel)) rfl rfl (fun _ _ _ _ _ us hl => match us, hl with | [_, _, _, _], _ => rfl) (fun _ _ _ _ => rfl) (fun _ _ _ _ => rfl) (fun _ _ _ _ => rfl) (fun _ _ _ _ => ⟨_, rfl⟩) fun X cc cda fI L hK hN hE hO => ?_
  obtain ⟨_, _, _, _, _, _, _, _, _, _, _, _, _, _, _, _, _⟩ := X
  dsimp only at hK hN hE
  subst hK hN hE
  refine ⟨_, _, pa_cons (pv 3) pa_nil, pss_cons (ps_ost (pv 0) pe_str) (pss_cons (ps_ost (pv 0) (pv 1)) (pss_cons (ps_ost (pv 0) (pv 2)) (pss_one (ps_ost (pv 0) (pv 3))))), fun a xs H Q hl ea hc q => ?_⟩
  obtain ⟨v0, v1, v2, rfl⟩ : ∃ v0 v1 v2, xs = [v0, v1, v2] := match xs, hl with | [v0, v1, v2], _ => ⟨v0, v1, v2, rfl⟩
  exact ⟨_, rfl, (by show 1 ≤ 1000; decide), ea, four_stores hO T.n_BadText_label T.n_BadText_line T.n_BadText_column T.n_BadText_reason ea (fun _ _ k => k) (fun _ _ k => ⟨_, rfl, k⟩) (fun _ _ k => ⟨_, rfl, k⟩) (fun _ _ k => ⟨_, rfl, k⟩) (fun _ _ k => ⟨_, rfl, k⟩) (fun _ _ k => ⟨_, rfl, k⟩) (fun _ _ k => ⟨_, rfl, k⟩) (fun _ _ k => ⟨_, rfl, k⟩)  (fun d H' h1 h2 h3 h4 h5 => q d H' h1 h2 h3 h4 h5)⟩
def f_OutOfRange : List V → List (Str × V) := fs1 "OutOfRange" "value"
theorem okx_OutOfRange (T : Txt K mg) : ExcOk P w K mg base T.c_OutOfRange any1 f_OutOfRange 1 := by
  refine T.x_OutOfRange.ok (N := ["self", "value", "__class__"]) (ps := ["value"]) rfl rfl (NdefX.nscope_by (by decide +kernel)) rfl rfl (fun _ _ _ _ _ us hl => match us, hl with | [_, _], _ => rfl) (fun _ _ _ _ => rfl) (fun _ _ _ _ => rfl) (fun _ _ _ _ => rfl) (fun _ _ _ _ => ⟨_, rfl⟩) fun X cc cda fI L hK hN hE hO => ?_
  obtain ⟨_, _, _, _, _, _, _, _, _, _, _, _, _, _, _, _, _⟩ := X
  dsimp only at hK hN hE
  subst hK hN hE
  refine ⟨_, _, pa_cons pe_str pa_nil, pss_cons (ps_ost (pv 0) pe_str) (pss_one (ps_ost (pv 0) (pv 1))), fun a xs H Q hl ea hc q => ?_⟩
  obtain ⟨v, rfl⟩ : ∃ v, xs = [v] := match xs, hl with | [v], _ => ⟨v, rfl⟩
  exact ⟨(by show 1 ≤ 1000; decide), ea, two_stores hO T.n_OutOfRange_label T.n_OutOfRange_value ea (fun _ _ k => k) (fun _ _ k => ⟨_, rfl, k⟩) (fun _ _ k => ⟨_, rfl, k⟩) (fun _ _ k => ⟨_, rfl, k⟩) (fun d H' h1 h2 h3 h4 h5 => q d H' h1 h2 h3 h4 h5)⟩
local macro_rules | `(tactic| walk_at "sl") => `(tactic| first | assumption | (simp only [len_app]; rw [sizeLine_eq]; omega) | (rw [sizeLine_eq]; omega) | (rw [sizeLine_eq]; exact Nat.le_of_ble_eq_true (by rfl)))
local macro_rules | `(tactic| walk_at "call") => `(tactic| first | (apply lenS_go; (walk_at "sl")) | (apply leS_go) | (apply inC_go) | (apply niC_go) | (apply slS_go; (walk_at "sl")) | (apply addS_go; (walk_at "sl")) | (apply ixS_go; (walk_at "sl"); (assumption)))

local macro_rules | `(tactic| walk_at "ll") => `(tactic| first | (with_reducible assumption) | (with_reducible exact LL.emp) | ((with_reducible apply LL.app) <;> walk_at "ll") | (with_reducible exact LL.int (by omega)) | (with_reducible exact amt_len (by omega)) | (with_reducible exact pct_len (by omega)) | (with_reducible exact LL.lit (n := 60) (by decide +kernel)))
local macro_rules | `(tactic| walk_at "cond") => `(tactic| first | ((with_reducible apply LL.sz); (walk_at "ll"); decide) | (with_reducible exact log_ok (by omega)))
local macro_rules | `(tactic| walk_at "call") => `(tactic| ((with_reducible apply addL_go); (walk_at "ll"); (walk_at "ll"); decide))

local macro_rules | `(tactic| walk_at "call") => `(tactic| first | (apply ends_go) | ((with_reducible apply prt_go); (exact rfl); (walk_at "sl"); (intro p hp)) | ((with_reducible apply spl_go); (exact rfl); (assumption); (intro p hp)))


/-! ### _law_after -/
/-- the place behind a text -/
def pos : List Nat → Int × Nat → Int × Nat
  | [], p => p
  | c :: r, p => pos r (if c = 10 then (p.1 + 1, 0) else (p.1, p.2 + 1))
theorem pos_app : ∀ (x y : List Nat) (p : Int × Nat), pos (x ++ y) p = pos y (pos x p)
  | [], _, _ => rfl
  | c :: r, y, p => pos_app r y _
theorem pos_line : ∀ (x : List Nat) (p : Int × Nat), (∀ c ∈ x, c ≠ 10) → pos x p = (p.1, p.2 + x.length)
  | [], p, _ => rfl
  | c :: r, p, h => by
    show pos r (if c = 10 then _ else _) = _
    rw [if_neg (h c List.mem_cons_self), pos_line r _ fun d hd => h d (List.mem_cons_of_mem _ hd), List.length_cons]
    simp
    omega
@[irreducible] def sp__law_after : Sp := fun vs H Q E => ∃ (ln : Int) (a : Nat) (z : Str), vs = [.int ln, .int ((a + 1 : Nat) : Int), .str z] ∧ z.length ≤ 1000000 ∧ (∀ p H', Same H H' → H' p = some (.tup [.int (pos z.cps.toList (ln, a)).1, .int (((pos z.cps.toList (ln, a)).2 + 1 : Nat) : Int)]) → Q (.ref p) H')
theorem ok__law_after (T : Txt K mg) : FnOk P w K mg base (L2.CX P w) 1 T.a__law_after T.fd__law_after ["line", "column", "text"] sp__law_after := by
  refine T.F__law_after.ok sc__law_after (fun vs H Q E h => ?_) (fun cdv A outer s H vs Q E hr h => ?_)
  · unfold sp__law_after at h
    obtain ⟨ln, a, z, rfl, _⟩ := h
    rfl
  · unfold sp__law_after at h
    obtain ⟨ln, a, z, rfl, hz, q⟩ := h
    refine ⟨_, (pss_cons (ps_for (passes_of rfl) rfl (pi_range1 rfl T.z_range (pa_cons (pe_callB call_lenS rfl T.z_len bt_len (pa_cons (pv 2) pa_nil)) pa_nil)) (pg_name (i := 3) sc__law_after.nd rfl (Or.inl rfl))
      (pss_one (ps_cut (ps_if (pt_cmpR op_eq (pe_ix ix_ss (pv 2) (pv 3) (fun _ _ => rfl)) pe_str (nomark _)) (pss_cons (ps_set (i := 0) sc__law_after.nd rfl (Or.inl rfl) (pe_op op_add (pv 0) pe_int))
        (pss_one (ps_set (i := 1) sc__law_after.nd rfl (Or.inl rfl) pe_int))) (pss_one (ps_set (i := 1) sc__law_after.nd rfl (Or.inl rfl) (pe_op op_add (pv 1) pe_int)))))))
    (pss_one (ps_ret (pe_tup (pa_cons (pv 0) (pa_cons (pv 1) pa_nil)))))), ?_⟩
    have hzS : z.length ≤ sizeLine := by rw [sizeLine_eq]; omega
    have l10 : ∀ c : Nat, (⟨#[c]⟩ : Str) = "\n" ↔ c = 10 := fun c => by
      have h : ("\n" : Str).cps.toList = [10] := by decide +kernel
      constructor
      · intro e
        have := congrArg (fun s : Str => s.cps.toList) e
        rw [h] at this
        exact (List.cons.inj this).1
      · intro e
        exact str_ext (by rw [h, e])
    walk_at "rd"
    refine ⟨by omega, by omega, for_range (n := z.length) (fun k σ H' => Wall (H' = H ∧ ∃ u, σ = [some (.int (pos (z.cps.toList.take k) (ln, a)).1), some (.int (((pos (z.cps.toList.take k) (ln, a)).2 + 1 : Nat) : Int)), some (.str z), u])) (wall ⟨rfl, _, rfl⟩) ?_ ?_⟩
    · rintro k σ H' hk ⟨w1⟩
      obtain ⟨rfl, u, rfl⟩ := w1 trivial
      obtain ⟨c, a1, a2, a3⟩ := atI_txt (z := z) (i := 0 + (k : Int)) k (by omega) (by omega)
      have et : z.cps.toList.take (k + 1) = z.cps.toList.take k ++ [c] := by rw [List.take_add_one, a1]; rfl
      have ep : pos (z.cps.toList.take (k + 1)) (ln, a) = if c = 10 then ((pos (z.cps.toList.take k) (ln, a)).1 + 1, 0) else ((pos (z.cps.toList.take k) (ln, a)).1, (pos (z.cps.toList.take k) (ln, a)).2 + 1) := by
        rw [et, pos_app]
        rfl
      rw [ep]
      refine ⟨_, ?_, fun _ _ h => h⟩
      walk_at "rd"
      refine iteS (fun h => ?_) (fun h => ?_)
      · rw [if_pos ((l10 c).mp h)]
        walk_at "rd"
        exact wall ⟨rfl, _, rfl⟩
      · rw [if_neg (fun e => h ((l10 c).mpr e))]
        walk_at "rd"
        exact wall ⟨rfl, _, rfl⟩
    · rintro σ H' ⟨w1⟩
      obtain ⟨rfl, u, rfl⟩ := w1 trivial
      have e : z.cps.toList.take z.length = z.cps.toList := List.take_of_length_le (by rw [LB.len_list]; exact Nat.le_refl _)
      rw [e]
      walk_at "rd"
      rename_i p np
      exact q p _ (same_new (Same.refl _) np) upd_same
theorem _law_after_go {H : Hp} {Q : VK} {E : XK} {ln : Int} {a : Nat} {z : Str} (hz : z.length ≤ 1000000) (q : ∀ p H', Same H H' → H' p = some (.tup [.int (pos z.cps.toList (ln, a)).1, .int (((pos z.cps.toList (ln, a)).2 + 1 : Nat) : Int)]) → Q (.ref p) H') : sp__law_after [.int ln, .int ((a + 1 : Nat) : Int), .str z] H Q E := by
  unfold sp__law_after
  exact ⟨ln, a, z, rfl, hz, q⟩

/-! ### is_lower -/
@[irreducible] def sp_is_lower : Sp := fun vs H Q E => ∃ (c : Nat), vs = [.str ⟨#[c]⟩] ∧ (Q (.bl (lowC c)) H)
theorem ok_is_lower (T : Txt K mg) : FnOk P w K mg base (L2.CX P w) 1 T.a_is_lower T.fd_is_lower ["character"] sp_is_lower := by
  refine T.F_is_lower.ok sc_is_lower (fun vs H Q E h => ?_) (fun cdv A outer s H vs Q E hr h => ?_)
  · unfold sp_is_lower at h
    obtain ⟨c, rfl, _⟩ := h
    rfl
  · unfold sp_is_lower at h
    obtain ⟨c, rfl, q⟩ := h
    refine ⟨_, (pss_one (ps_ret (pe_chain op_leS op_leS pe_str (pv 0) pe_str))), ?_⟩
    have e1 : ("a" : Str).cps.toList = [97] := by decide +kernel
    have e2 : ("z" : Str).cps.toList = [122] := by decide +kernel
    have e3 : (⟨#[c]⟩ : Str).cps.toList = [c] := rfl
    walk_at "rd"
    rw [e1, e3]
    refine iteDN (fun h => ?_) (fun h => ?_)
    · rw [lt_one] at h
      walk_at "rd"
      rw [e2, e3]
      refine q_bl q ?_
      unfold lowC
      rw [decide_eq_true (show 97 ≤ c by omega), Bool.true_and]
      by_cases k : c ≤ 122
      · rw [decide_eq_true k, decide_eq_false (by rw [lt_one]; omega)]; rfl
      · rw [decide_eq_false k, decide_eq_true (by rw [lt_one]; omega)]; rfl
    · rw [lt_one] at h
      refine q_bl q ?_
      unfold lowC
      rw [decide_eq_false (show ¬ 97 ≤ c by omega), Bool.false_and]
theorem is_lower_go {H : Hp} {Q : VK} {E : XK} {c : Nat} (q : Q (.bl (lowC c)) H) : sp_is_lower [.str ⟨#[c]⟩] H Q E := by
  unfold sp_is_lower
  exact ⟨c, rfl, q⟩
local macro_rules | `(tactic| walk_at "call") => `(tactic| (apply is_lower_go))

/-! ### is_digit -/
@[irreducible] def sp_is_digit : Sp := fun vs H Q E => ∃ (c : Nat), vs = [.str ⟨#[c]⟩] ∧ (Q (.bl (digC c)) H)
theorem ok_is_digit (T : Txt K mg) : FnOk P w K mg base (L2.CX P w) 1 T.a_is_digit T.fd_is_digit ["character"] sp_is_digit := by
  refine T.F_is_digit.ok sc_is_digit (fun vs H Q E h => ?_) (fun cdv A outer s H vs Q E hr h => ?_)
  · unfold sp_is_digit at h
    obtain ⟨c, rfl, _⟩ := h
    rfl
  · unfold sp_is_digit at h
    obtain ⟨c, rfl, q⟩ := h
    refine ⟨_, (pss_one (ps_ret (pe_chain op_leS op_leS pe_str (pv 0) pe_str))), ?_⟩
    have e1 : ("0" : Str).cps.toList = [48] := by decide +kernel
    have e2 : ("9" : Str).cps.toList = [57] := by decide +kernel
    have e3 : (⟨#[c]⟩ : Str).cps.toList = [c] := rfl
    walk_at "rd"
    rw [e1, e3]
    refine iteDN (fun h => ?_) (fun h => ?_)
    · rw [lt_one] at h
      walk_at "rd"
      rw [e2, e3]
      refine q_bl q ?_
      unfold digC
      rw [decide_eq_true (show 48 ≤ c by omega), Bool.true_and]
      by_cases k : c ≤ 57
      · rw [decide_eq_true k, decide_eq_false (by rw [lt_one]; omega)]; rfl
      · rw [decide_eq_false k, decide_eq_true (by rw [lt_one]; omega)]; rfl
    · rw [lt_one] at h
      refine q_bl q ?_
      unfold digC
      rw [decide_eq_false (show ¬ 48 ≤ c by omega), Bool.false_and]
theorem is_digit_go {H : Hp} {Q : VK} {E : XK} {c : Nat} (q : Q (.bl (digC c)) H) : sp_is_digit [.str ⟨#[c]⟩] H Q E := by
  unfold sp_is_digit
  exact ⟨c, rfl, q⟩
local macro_rules | `(tactic| walk_at "call") => `(tactic| (apply is_digit_go))

/-! ### is_run_character -/
@[irreducible] def sp_is_run_character : Sp := fun vs H Q E => ∃ (c : Nat), vs = [.str ⟨#[c]⟩] ∧ (Q (.bl (runC c)) H)
theorem ok_is_run_character (T : Txt K mg) : FnOk P w K mg base (L2.CX P w) 2 T.a_is_run_character T.fd_is_run_character ["character"] sp_is_run_character := by
  refine T.F_is_run_character.ok sc_is_run_character (fun vs H Q E h => ?_) (fun cdv A outer s H vs Q E hr h => ?_)
  · unfold sp_is_run_character at h
    obtain ⟨c, rfl, _⟩ := h
    rfl
  · unfold sp_is_run_character at h
    obtain ⟨c, rfl, q⟩ := h
    refine ⟨_, (pss_cons (ps_if (PW.pt (pw_or (pt_val (pe_callS (ok_is_lower T) (hr.mono (by decide)) rfl T.m_is_lower T.F_is_lower.kp T.b_is_lower (fun σ => passAt (takes_of rfl rfl rfl rfl) σ) (pa_cons (pv 0) pa_nil))) (pw_or (pt_val (pe_callS (ok_is_digit T) (hr.mono (by decide)) rfl T.m_is_digit T.F_is_digit.kp T.b_is_digit (fun σ => passAt (takes_of rfl rfl rfl rfl) σ) (pa_cons (pv 0) pa_nil))) (pw_or1 (pt_chain op_leS op_leS pe_str (pv 0) pe_str))))) (pss_one (ps_ret pe_bl)) pss_nil)
    (pss_one (ps_ret (pe_cmpR op_inC (pv 0) pe_str (by rfl))))), ?_⟩
    have e1 : ("A" : Str).cps.toList = [65] := by decide +kernel
    have e2 : ("Z" : Str).cps.toList = [90] := by decide +kernel
    have e3 : (⟨#[c]⟩ : Str).cps.toList = [c] := rfl
    walk_at "rd"
    refine iteB (fun c1 => ?_) (fun c1 => ?_)
    · walk_at "rd"
      exact q_bl q (by unfold runC; rw [c1]; rfl)
    walk_at "rd"
    refine iteB (fun c2 => ?_) (fun c2 => ?_)
    · walk_at "rd"
      exact q_bl q (by unfold runC; rw [c1, c2]; rfl)
    have fin : ∀ b : Bool, upC c = b → runC c = (b || decide (c ∈ ("/.-" : Str).cps.toList)) := fun b e => by
      unfold runC
      rw [c1, c2, e]
      rfl
    walk_at "rd"
    rw [e1, e3]
    refine iteDN (fun h => ?_) (fun h => ?_)
    · rw [lt_one] at h
      walk_at "rd"
      rw [e2, e3]
      refine iteDN (fun k => ?_) (fun k => ?_)
      · rw [lt_one] at k
        walk_at "rd"
        refine q_bl q ?_
        rw [fin true (by unfold upC; rw [decide_eq_true (show 65 ≤ c by omega), decide_eq_true (show c ≤ 90 by omega)]; rfl)]
        rfl
      · rw [lt_one] at k
        walk_at "rd"
        refine q_bl q ?_
        rw [fin false (by unfold upC; rw [decide_eq_false (show ¬ c ≤ 90 by omega), Bool.and_false])]
        rfl
    · rw [lt_one] at h
      walk_at "rd"
      refine q_bl q ?_
      rw [fin false (by unfold upC; rw [decide_eq_false (show ¬ 65 ≤ c by omega), Bool.false_and])]
      rfl
theorem is_run_character_go {H : Hp} {Q : VK} {E : XK} {c : Nat}  (q : Q (.bl (runC c)) H) : sp_is_run_character [.str ⟨#[c]⟩] H Q E := by
  unfold sp_is_run_character
  exact ⟨c, rfl, q⟩
local macro_rules | `(tactic| walk_at "call") => `(tactic| (apply is_run_character_go))

/-! ### run_end -/
@[irreducible] def sp_run_end : Sp := fun vs H Q E => ∃ (z : Str) (i : Nat), vs = [.str z, .int (i : Nat)] ∧ (z.length ≤ 1000000) ∧ (i ≤ z.length) ∧ (Q (.int ((i + ((z.cps.toList.drop i).takeWhile runC).length : Nat))) H)
theorem ok_run_end (T : Txt K mg) : FnOk P w K mg base (L2.CX P w) 3 T.a_run_end T.fd_run_end ["line", "start"] sp_run_end := by
  refine T.F_run_end.ok sc_run_end (fun vs H Q E h => ?_) (fun cdv A outer s H vs Q E hr h => ?_)
  · unfold sp_run_end at h
    obtain ⟨z, i, rfl, _⟩ := h
    rfl
  · unfold sp_run_end at h
    obtain ⟨z, i, rfl, hz, hi, q⟩ := h
    refine ⟨_, (pss_cons (ps_set (i := 2) sc_run_end.nd rfl (Or.inl rfl) (pv 1))
    (pss_cons (ps_while (passes_of rfl) (PW.pt (pw_and (pt_cmpR op_lt (pv 2) (pe_callB call_lenS rfl T.z_len bt_len (pa_cons (pv 0) pa_nil)) (nomark _)) (pw_and1 (pt_val (pe_callS (ok_is_run_character T) (hr.mono (by decide)) rfl T.m_is_run_character T.F_is_run_character.kp T.b_is_run_character (fun σ => passAt (takes_of rfl rfl rfl rfl) σ) (pa_cons (pe_ix ix_ss (pv 0) (pv 2) (fun _ _ => rfl)) pa_nil))))))
      (pss_one (ps_aug (i := 2) sc_run_end.nd rfl (Or.inl rfl) pe_int ip_add)))
    (pss_one (ps_ret (pv 2))))), ?_⟩
    have hzS : z.length ≤ sizeLine := by rw [sizeLine_eq]; omega
    walk_at "rd"
    refine ⟨fun m σ H' => Wall (∃ k : Nat, H' = H ∧ m = z.length - k ∧ i ≤ k ∧ k ≤ z.length ∧ σ = [some (.str z), some (.int (i : Nat)), some (.int (k : Nat))] ∧ ∀ j c, i ≤ j → j < k → z.cps.toList[j]? = some c → runC c = true), ⟨z.length - i, wall ⟨i, rfl, rfl, Nat.le_refl _, hi, rfl, fun j c h1 h2 => absurd h2 (by omega)⟩⟩, ?_⟩
    rintro m σ H' ⟨w1⟩
    obtain ⟨k, rfl, rfl, k1, k2, rfl, hb⟩ := w1 trivial
    have done : (∀ c, z.cps.toList[k]? = some c → runC c = false) → ((z.cps.toList.drop i).takeWhile runC).length = k - i := fun e => by
      refine tw_len (by rw [List.length_drop, LB.len_list]; omega) (fun j c hj hc => ?_) (fun c hc => ?_)
      · rw [List.getElem?_drop] at hc
        exact hb (i + j) c (by omega) (by omega) hc
      · rw [List.getElem?_drop, show i + (k - i) = k by omega] at hc
        exact e c hc
    have fin : (∀ c, z.cps.toList[k]? = some c → runC c = false) → Q (.int (k : Nat)) H' := fun e => by
      have := q
      rw [done e, show i + (k - i) = k by omega] at this
      exact this
    walk_at "rd"
    refine iteD (fun c1 => ?_) (fun c1 => ?_)
    · have c1 : ((k : Nat) : Int) < (z.length : Nat) := c1
      obtain ⟨a, a1, a2, a3⟩ := atI_txt (z := z) (i := (k : Nat)) k (by omega) rfl
      walk_at "rd"
      refine iteB (fun r => ?_) (fun r => ?_)
      · refine ⟨_, fun σ' H' h => h, ?_⟩
        walk_at "rd"
        refine ⟨z.length - (k + 1), by omega, wall ⟨k + 1, rfl, rfl, by omega, by omega, rfl, fun j c h1 h2 hc => ?_⟩⟩
        by_cases e : j = k
        · subst e
          rw [a1] at hc
          cases hc
          exact r
        · exact hb j c h1 (by omega) hc
      · walk_at "rd"
        exact fin fun c hc => by
          rw [a1] at hc
          cases hc
          exact r
    · have c1 : ¬ ((k : Nat) : Int) < (z.length : Nat) := c1
      walk_at "rd"
      exact fin fun c hc => by
        have := (List.getElem?_eq_some_iff.mp hc).1
        rw [LB.len_list] at this
        omega
theorem run_end_go {H : Hp} {Q : VK} {E : XK} {z : Str} {i : Nat} (hz : z.length ≤ 1000000) (hi : i ≤ z.length) (q : Q (.int ((i + ((z.cps.toList.drop i).takeWhile runC).length : Nat))) H) : sp_run_end [.str z, .int (i : Nat)] H Q E := by
  unfold sp_run_end
  exact ⟨z, i, rfl, hz, hi, q⟩

/-! ### is_word -/
@[irreducible] def sp_is_word : Sp := fun vs H Q E => ∃ (z : Str), vs = [.str z] ∧ (z.length ≤ 1000000) ∧ (1 ≤ z.length) ∧ (Q (.bl (wordB z)) H)
theorem ok_is_word (T : Txt K mg) : FnOk P w K mg base (L2.CX P w) 2 T.a_is_word T.fd_is_word ["text"] sp_is_word := by
  refine T.F_is_word.ok sc_is_word (fun vs H Q E h => ?_) (fun cdv A outer s H vs Q E hr h => ?_)
  · unfold sp_is_word at h
    obtain ⟨z, rfl, _⟩ := h
    rfl
  · unfold sp_is_word at h
    obtain ⟨z, rfl, hz, hn, q⟩ := h
    refine ⟨_, (pss_cons (ps_for (passes_of rfl) rfl (pi_str (pv 0)) (pg_name (i := 1) sc_is_word.nd rfl (Or.inl rfl))
      (pss_one (ps_if (PW.pt (pw_and (pt_not (pt_val (pe_callS (ok_is_lower T) (hr.mono (by decide)) rfl T.m_is_lower T.F_is_lower.kp T.b_is_lower (fun σ => passAt (takes_of rfl rfl rfl rfl) σ) (pa_cons (pv 1) pa_nil)))) (pw_and (pt_not (pt_val (pe_callS (ok_is_digit T) (hr.mono (by decide)) rfl T.m_is_digit T.F_is_digit.kp T.b_is_digit (fun σ => passAt (takes_of rfl rfl rfl rfl) σ) (pa_cons (pv 1) pa_nil)))) (pw_and1 (pt_cmpR op_ne (pv 1) pe_str (nomark _)))))) (pss_one (ps_ret pe_bl)) pss_nil)))
    (pss_one (ps_ret (pe_or (pe_callS (ok_is_lower T) (hr.mono (by decide)) rfl T.m_is_lower T.F_is_lower.kp T.b_is_lower (fun σ => passAt (takes_of rfl rfl rfl rfl) σ) (pa_cons (pe_ix ix_ss (pv 0) pe_int (fun _ _ => rfl)) pa_nil)) (pe_one (pe_cmpR op_inC pe_str (pv 0) (by rfl))))))), ?_⟩
    have hzS : z.length ≤ sizeLine := by rw [sizeLine_eq]; omega
    have sl : ∀ c : Nat, (⟨#[c]⟩ : Str) = "/" ↔ c = 47 := fun c => by
      have h0 : ("/" : Str) = ⟨#[47]⟩ := rfl
      rw [h0]
      exact ⟨fun e => by have := congrArg (fun s : Str => s.cps.toList) e; exact (List.cons.inj this).1, fun e => by rw [e]⟩
    walk_at "rd"
    refine for_txt (z := z) (fun i σ H' => Wall (H' = H ∧ ∃ u, σ = [some (.str z), u] ∧ ∀ j, j < i → ∀ c, z.cps.toList[j]? = some c → wordC c = true)) (wall ⟨rfl, _, rfl, fun j h => absurd h (Nat.not_lt_zero j)⟩) ?_ ?_
    · rintro i c σ H' hc ⟨w1⟩
      obtain ⟨rfl, u, rfl, hb⟩ := w1 trivial
      have step : wordC c = true → ∀ j, j < i + 1 → ∀ d, z.cps.toList[j]? = some d → wordC d = true := fun g j hj d hd => by
        by_cases e : j = i
        · subst e
          rw [hc] at hd
          cases hd
          exact g
        · exact hb j (by omega) d hd
      have bad : wordC c = false → z.cps.toList.all wordC = false := fun g => by
        rw [Bool.eq_false_iff]
        intro h
        have := List.all_eq_true.mp h c (List.mem_of_getElem? hc)
        rw [g] at this
        cases this
      have wc : ∀ b1 b2 : Bool, lowC c = b1 → digC c = b2 → wordC c = (b1 || b2 || c == 47) := fun b1 b2 e1 e2 => by unfold wordC; rw [e1, e2]
      have gone : wordC c = false → wordB z = false := fun g => by unfold wordB; rw [bad g, Bool.false_and]
      walk_at "rd"
      refine iteBN (fun c4 => ?_) (fun c4 => ?_)
      · walk_at "rd"
        refine iteBN (fun c5 => ?_) (fun c5 => ?_)
        · walk_at "rd"
          refine iteSN (fun c6 => ?_) (fun c6 => ?_)
          · walk_at "rd"
            refine q_bl q (gone ?_)
            rw [wc _ _ c4 c5, beq_eq_false_iff_ne.mpr (fun z => c6 ((sl c).mpr z))]
            rfl
          · refine wall ⟨rfl, _, rfl, step ?_⟩
            rw [wc _ _ c4 c5, (sl c).mp c6]
            rfl
        · refine wall ⟨rfl, _, rfl, step ?_⟩
          rw [wc _ _ c4 c5]
          rfl
      · refine wall ⟨rfl, _, rfl, step ?_⟩
        unfold wordC
        rw [c4]
        rfl
    · rintro σ H' ⟨w1⟩
      obtain ⟨rfl, u, rfl, hb⟩ := w1 trivial
      have hall : z.cps.toList.all wordC = true := List.all_eq_true.mpr fun c hc => by
        obtain ⟨i, hi, e⟩ := List.mem_iff_getElem.mp hc
        exact hb i hi c (by rw [List.getElem?_eq_getElem hi, e])
      obtain ⟨a, a1, a2, a3⟩ := atI_txt (z := z) (i := 0) 0 (by omega) rfl
      have e0 : wordB z = (lowC a || decide (47 ∈ z.cps.toList)) := by
        unfold wordB
        rw [hall, head_of a1, Bool.true_and]
      rw [e0] at q
      walk_at "rd"
      by_cases k : lowC a = true
      · rw [if_pos k]
        rw [k] at q
        exact q
      · rw [if_neg k]
        rw [Bool.eq_false_iff.mpr k, Bool.false_or] at q
        walk_at "rd"
        exact q
theorem is_word_go {H : Hp} {Q : VK} {E : XK} {z : Str} (hz : z.length ≤ 1000000) (hn : 1 ≤ z.length) (q : Q (.bl (wordB z)) H) : sp_is_word [.str z] H Q E := by
  unfold sp_is_word
  exact ⟨z, rfl, hz, hn, q⟩

/-! ### is_written -/
@[irreducible] def sp_is_written : Sp := fun vs H Q E => ∃ (z : Str), vs = [.str z] ∧ (z.length ≤ 1000000) ∧ (∀ H', Same H H' → Q (.bl (writB z)) H')
theorem ok_is_written (T : Txt K mg) : FnOk P w K mg base (L2.CX P w) 2 T.a_is_written T.fd_is_written ["text"] sp_is_written := by
  refine T.F_is_written.ok sc_is_written (fun vs H Q E h => ?_) (fun cdv A outer s H vs Q E hr h => ?_)
  · unfold sp_is_written at h
    obtain ⟨z, rfl, _⟩ := h
    rfl
  · unfold sp_is_written at h
    obtain ⟨z, rfl, hz, q⟩ := h
    refine ⟨_, (pss_cons (ps_if (pt_cmpR op_ne (pe_callB call_lenS rfl T.z_len bt_len (pa_cons (pv 0) pa_nil)) pe_int (nomark _)) (pss_one (ps_ret pe_bl)) pss_nil)
    (pss_cons (ps_for (passes_of rfl) rfl (pi_range1 rfl T.z_range (pa_cons pe_int pa_nil)) (pg_name (i := 1) sc_is_written.nd rfl (Or.inl rfl))
      (pss_one (ps_cut (ps_if (pt_cmpR op_inS (pv 1) (pe_tup (pa_cons pe_int (pa_cons pe_int pa_nil))) (by rfl)) (pss_one (ps_if (pt_cmpR op_ne (pe_ix ix_ss (pv 0) (pv 1) (fun _ _ => rfl)) pe_str (nomark _)) (pss_one (ps_ret pe_bl)) pss_nil)) (pss_one (ps_if (pt_not (pt_val (pe_callS (ok_is_digit T) (hr.mono (by decide)) rfl T.m_is_digit T.F_is_digit.kp T.b_is_digit (fun σ => passAt (takes_of rfl rfl rfl rfl) σ) (pa_cons (pe_ix ix_ss (pv 0) (pv 1) (fun _ _ => rfl)) pa_nil)))) (pss_one (ps_ret pe_bl)) pss_nil))))))
    (pss_one (ps_ret pe_bl)))), ?_⟩
    have no : ∀ h : ¬ (z.length = 10 ∧ ∀ i, i < 10 → ∀ c, z.cps.toList[i]? = some c → (if i = 4 ∨ i = 7 then c = 45 else digC c = true)), ∀ H', Same H H' → Q (.bl false) H' := fun h H' s => by
      have := q H' s
      rw [show writB z = false from Bool.eq_false_iff.mpr fun k => h (writ_iff.mp k)] at this
      exact this
    walk_at "rd"
    refine iteIN (fun c => ?_) (fun c => ?_)
    · walk_at "rd"
      exact no (fun h => c (by rw [h.1]; rfl)) _ (Same.refl _)
    have hl : z.length = 10 := by omega
    walk_at "rd"
    refine ⟨by decide, by decide, for_range (n := 10) (fun i σ H' => Wall (Same H H' ∧ ∃ u, σ = [some (.str z), u] ∧ ∀ j, j < i → ∀ c, z.cps.toList[j]? = some c → (if j = 4 ∨ j = 7 then c = 45 else digC c = true))) (wall ⟨Same.refl _, _, rfl, fun j h => absurd h (Nat.not_lt_zero j)⟩) ?_ ?_⟩
    · rintro i σ H' hi ⟨w1⟩
      obtain ⟨s1, u, rfl, hb⟩ := w1 trivial
      obtain ⟨c, hc, hcm, hc3⟩ := atI_txt (z := z) (i := 0 + (i : Int)) i (by omega) (by omega)
      have step : (if i = 4 ∨ i = 7 then c = 45 else digC c = true) → ∀ j, j < i + 1 → ∀ d, z.cps.toList[j]? = some d → (if j = 4 ∨ j = 7 then d = 45 else digC d = true) := fun g j hj d hd => by
        by_cases e : j = i
        · subst e
          rw [hc] at hd
          cases hd
          exact g
        · exact hb j (by omega) d hd
      walk_at "rd"
      refine ⟨_, ?_, fun _ _ h => h⟩
      walk_at "rd"
      rename_i pt hpt
      have s2 := same_new (o := .tup [.int 4, .int 7]) s1 hpt
      have ein : inV (.int (0 + (i : Int))) [.int 4, .int 7] = decide (i = 4 ∨ i = 7) := by
        rw [Bool.eq_iff_iff, decide_eq_true_iff]
        simp only [inV, List.any_cons, List.any_nil, eqV, Bool.or_false, Bool.or_eq_true, beq_iff_eq]
        omega
      rw [ein]
      refine iteD (fun e4 => ?_) (fun e4 => ?_)
      · walk_at "rd"
        refine iteSN (fun e5 => ?_) (fun e5 => ?_)
        · walk_at "rd"
          refine no (fun h => ?_) _ s2
          have := h.2 i hi c hc
          rw [if_pos e4] at this
          subst this
          exact e5 rfl
        · refine wall ⟨s2, _, rfl, step ?_⟩
          rw [if_pos e4]
          have e6 : (⟨#[c]⟩ : Str).cps.toList = [45] := by rw [e5]; decide +kernel
          cases e6
          rfl
      · walk_at "rd"
        refine iteBN (fun e5 => ?_) (fun e5 => ?_)
        · walk_at "rd"
          refine no (fun h => ?_) _ s2
          have := h.2 i hi c hc
          rw [if_neg e4, e5] at this
          exact Bool.false_ne_true this
        · exact wall ⟨s2, _, rfl, step (by rw [if_neg e4]; exact e5)⟩
    · rintro σ H' ⟨w1⟩
      obtain ⟨s1, u, rfl, hb⟩ := w1 trivial
      walk_at "rd"
      have := q H' s1
      rw [writ_iff.mpr ⟨hl, hb⟩] at this
      exact this
theorem is_written_go {H : Hp} {Q : VK} {E : XK} {z : Str} (hz : z.length ≤ 1000000) (q : ∀ H', Same H H' → Q (.bl (writB z)) H') : sp_is_written [.str z] H Q E := by
  unfold sp_is_written
  exact ⟨z, rfl, hz, q⟩
local macro_rules | `(tactic| walk_at "call") => `(tactic| (apply is_written_go; (first | assumption | omega)))

/-! ### is_leap -/
@[irreducible] def sp_is_leap : Sp := fun vs H Q E => ∃ (y : Int), vs = [.int y] ∧ (Q (.bl (leapB y)) H)
theorem ok_is_leap (T : Txt K mg) : FnOk P w K mg base (L2.CX P w) 1 T.a_is_leap T.fd_is_leap ["year"] sp_is_leap := by
  refine T.F_is_leap.ok sc_is_leap (fun vs H Q E h => ?_) (fun cdv A outer s H vs Q E hr h => ?_)
  · unfold sp_is_leap at h
    obtain ⟨y, rfl, _⟩ := h
    rfl
  · unfold sp_is_leap at h
    obtain ⟨y, rfl, q⟩ := h
    refine ⟨_, (pss_cons (ps_if (pt_cmpR op_eq (pe_op op_mod (pv 0) pe_int) pe_int (nomark _)) (pss_one (ps_ret pe_bl)) pss_nil)
    (pss_one (ps_ret (pe_and (pe_cmpR op_eq (pe_op op_mod (pv 0) pe_int) pe_int (nomark _)) (pe_one (pe_cmpR op_ne (pe_op op_mod (pv 0) pe_int) pe_int (nomark _))))))), ?_⟩
    walk_at "go"
    all_goals refine q_bl q ?_
    all_goals (unfold leapB leapP; first | (simp only [V.int.injEq, decide_eq_decide]; omega) | (simp [*]; done) | (simp [*]; omega))
theorem is_leap_go {H : Hp} {Q : VK} {E : XK} {y : Int} (q : Q (.bl (leapB y)) H) : sp_is_leap [.int y] H Q E := by
  unfold sp_is_leap
  exact ⟨y, rfl, q⟩
local macro_rules | `(tactic| walk_at "call") => `(tactic| (apply is_leap_go))

/-! ### month_length -/
@[irreducible] def sp_month_length (T : Txt K mg) : Sp := fun vs H Q E => ∃ (y : Int) (m : Int), vs = [.int y, .int m] ∧ (m < 1 ∨ 12 < m → ∀ d, H d = none → E (.ref T.c_OutOfRange) (some d) (upd H d (.xd (f_OutOfRange [.int m])))) ∧ (1 ≤ m → m ≤ 12 → ∀ H', Same H H' → Q (.int (mlen y m)) H')
theorem ok_month_length (T : Txt K mg) : FnOk P w K mg base (L2.CX P w) 3 T.a_month_length T.fd_month_length ["year", "month"] (sp_month_length T) := by
  refine T.F_month_length.ok sc_month_length (fun vs H Q E h => ?_) (fun cdv A outer s H vs Q E hr h => ?_)
  · unfold sp_month_length at h
    obtain ⟨y, m, rfl, _⟩ := h
    rfl
  · unfold sp_month_length at h
    obtain ⟨y, m, rfl, h1, q⟩ := h
    refine ⟨_, (pss_cons (ps_if (PW.pt (pw_or (pt_cmpR op_lt (pv 1) pe_int (nomark _)) (pw_or1 (pt_cmpR op_gt (pv 1) pe_int (nomark _))))) (pss_one (ps_raiseX rfl (takes_of rfl rfl rfl rfl) (okx_OutOfRange T) (by decide) (hr.mono (by decide)) rfl T.m_OutOfRange (pa_cons (pv 1) pa_nil))) pss_nil)
    (pss_cons (ps_if (pt_cmpR op_eq (pv 1) pe_int (nomark _)) (pss_one (ps_ret (pe_ifExp (pt_val (pe_callS (ok_is_leap T) (hr.mono (by decide)) rfl T.m_is_leap T.F_is_leap.kp T.b_is_leap (fun σ => passAt (takes_of rfl rfl rfl rfl) σ) (pa_cons (pv 0) pa_nil))) pe_int pe_int))) pss_nil)
    (pss_cons (ps_if (pt_cmpR op_in_seq (pv 1) (pe_tup (pa_cons pe_int (pa_cons pe_int (pa_cons pe_int (pa_cons pe_int pa_nil))))) (by rfl)) (pss_one (ps_ret pe_int)) pss_nil)
    (pss_one (ps_ret pe_int))))), ?_⟩
    walk_at "rd"
    refine iteD (fun e => ?_) (fun e => ?_)
    · walk_at "rd"
      exact h1 (.inl e)
    walk_at "rd"
    refine iteD (fun e2 => ?_) (fun e2 => ?_)
    · walk_at "rd"
      exact h1 (.inr e2)
    have q2 := q (by omega) (by omega)
    walk_at "rd"
    refine iteI (fun e3 => ?_) (fun e3 => ?_)
    · subst e3
      have q3 := q2 H (Same.refl H)
      walk_at "rd"
      refine iteB (fun b => ?_) (fun b => ?_)
      · rw [← mlen_2', if_pos b] at q3
        exact q3
      · rw [← mlen_2', if_neg (by rw [b]; decide)] at q3
        exact q3
    walk_at "rd"
    refine ⟨_, _, rfl, .inr (t_of upd_same), rfl, rfl, ⟨_, rfl, iteB (fun e4 => ?_) (fun e4 => ?_)⟩⟩
    · have := mlen_in (y := y) e4
      rw [this] at q2
      walk_at "rd"
      exact q2 _ (by walk_at "sm")
    · have := mlen_out (y := y) e4 e3
      rw [this] at q2
      walk_at "rd"
      exact q2 _ (by walk_at "sm")
theorem month_length_go (T : Txt K mg) {H : Hp} {Q : VK} {E : XK} {y : Int} {m : Int} (h1 : m < 1 ∨ 12 < m → ∀ d, H d = none → E (.ref T.c_OutOfRange) (some d) (upd H d (.xd (f_OutOfRange [.int m])))) (q : 1 ≤ m → m ≤ 12 → ∀ H', Same H H' → Q (.int (mlen y m)) H') : sp_month_length T [.int y, .int m] H Q E := by
  unfold sp_month_length
  exact ⟨y, m, rfl, h1, q⟩
theorem month_length_ok (T : Txt K mg) {H : Hp} {Q : VK} {E : XK} {y : Int} {m : Int} (a1 : 1 ≤ m) (a2 : m ≤ 12) (q : ∀ H', Same H H' → Q (.int (mlen y m)) H') : sp_month_length T [.int y, .int m] H Q E := month_length_go T (fun z => by omega) fun _ _ => q
local macro_rules | `(tactic| walk_at "call") => `(tactic| (apply month_length_ok; (first | assumption | omega); (first | assumption | omega)))

/-! ### is_date -/
@[irreducible] def sp_is_date : Sp := fun vs H Q E => ∃ (z : Str), vs = [.str z] ∧ (z.length ≤ 1000000) ∧ (∀ H', Same H H' → Q (.bl (dateB z)) H')
theorem ok_is_date (T : Txt K mg) : FnOk P w K mg base (L2.CX P w) 4 T.a_is_date T.fd_is_date ["text"] sp_is_date := by
  refine T.F_is_date.ok sc_is_date (fun vs H Q E h => ?_) (fun cdv A outer s H vs Q E hr h => ?_)
  · unfold sp_is_date at h
    obtain ⟨z, rfl, _⟩ := h
    rfl
  · unfold sp_is_date at h
    obtain ⟨z, rfl, hz, q⟩ := h
    refine ⟨_, (pss_cons (ps_if (pt_not (pt_val (pe_callS (ok_is_written T) (hr.mono (by decide)) rfl T.m_is_written T.F_is_written.kp T.b_is_written (fun σ => passAt (takes_of rfl rfl rfl rfl) σ) (pa_cons (pv 0) pa_nil)))) (pss_one (ps_ret pe_bl)) pss_nil)
    (pss_cons (ps_set (i := 1) sc_is_date.nd rfl (Or.inl rfl) (pe_callTy call_intS rfl T.z_int bt_int (pa_cons (pe_slice sl_ss (pv 0) po_none (po_some pe_int)) pa_nil)))
    (pss_cons (ps_set (i := 2) sc_is_date.nd rfl (Or.inl rfl) (pe_callTy call_intS rfl T.z_int bt_int (pa_cons (pe_slice sl_ss (pv 0) (po_some pe_int) (po_some pe_int)) pa_nil)))
    (pss_cons (ps_set (i := 3) sc_is_date.nd rfl (Or.inl rfl) (pe_callTy call_intS rfl T.z_int bt_int (pa_cons (pe_slice sl_ss (pv 0) (po_some pe_int) po_none) pa_nil)))
    (pss_cons (ps_if (PW.pt (pw_or (pt_cmpR op_lt (pv 1) (pe_glob (v := .int 2000) rfl T.m_FIRST_YEAR.choose_spec ⟨_, rfl⟩) (nomark _)) (pw_or (pt_cmpR op_gt (pv 1) (pe_glob (v := .int 2199) rfl T.m_LAST_YEAR.choose_spec ⟨_, rfl⟩) (nomark _)) (pw_or (pt_cmpR op_lt (pv 2) pe_int (nomark _)) (pw_or1 (pt_cmpR op_gt (pv 2) pe_int (nomark _))))))) (pss_one (ps_ret pe_bl)) pss_nil)
    (pss_one (ps_ret (pe_chain op_le op_le pe_int (pv 3) (pe_callS (ok_month_length T) (hr.mono (by decide)) rfl T.m_month_length T.F_month_length.kp T.b_month_length (fun σ => passAt (takes_of rfl rfl rfl rfl) σ) (pa_cons (pv 1) (pa_cons (pv 2) pa_nil))))))))))), ?_⟩
    walk_at "rd"
    intro H1 s1
    cases hw : writB z with
    | false =>
      walk_at "rd"
      have := q H1 s1
      rw [show dateB z = false from by unfold dateB; rw [hw]; rfl] at this
      exact this
    | true =>
      obtain ⟨i1, i2, i3⟩ := writ_ints hw
      have hl : z.length = 10 := (writ_iff.mp hw).1
      have l1 := len_cut z none (some 4)
      have l2 := len_cut z (some 5) (some 7)
      have l3 := len_cut z (some 8) none
      have qq := q
      unfold dateB at qq
      rw [hw, Bool.true_and] at qq
      clear q
      generalize dv z none (some 4) = y at *
      generalize dv z (some 5) (some 7) = m at *
      generalize dv z (some 8) none = x at *
      walk_at "rd"
      refine intS_go i1 (by omega) ?_
      walk_at "rd"
      refine intS_go i2 (by omega) ?_
      walk_at "rd"
      refine intS_go i3 (by omega) ?_
      walk_at "go"
      all_goals first
        | (intro H' s2
           walk_at "rd"
           have r := qq H' (s1.trans s2)
           rw [show decide ((2000 ≤ y ∧ y ≤ 2199 ∧ 1 ≤ m ∧ m ≤ 12) ∧ 1 ≤ x ∧ x ≤ mlen y m) = decide (x ≤ mlen y m) from by rw [decide_eq_decide]; omega] at r
           exact r)
        | (have r := qq H1 s1
           rw [decide_eq_false (by omega)] at r
           exact r)
        | (walk_at "rd"
           have r := qq H1 s1
           rw [decide_eq_false (by omega)] at r
           exact r)
theorem is_date_go {H : Hp} {Q : VK} {E : XK} {z : Str} (hz : z.length ≤ 1000000) (q : ∀ H', Same H H' → Q (.bl (dateB z)) H') : sp_is_date [.str z] H Q E := by
  unfold sp_is_date
  exact ⟨z, rfl, hz, q⟩
local macro_rules | `(tactic| walk_at "call") => `(tactic| (apply is_date_go; (first | assumption | omega)))

/-! ### is_digits -/
@[irreducible] def sp_is_digits : Sp := fun vs H Q E => ∃ (z : Str), vs = [.str z] ∧ (Q (.bl (digsB z)) H)
theorem ok_is_digits (T : Txt K mg) : FnOk P w K mg base (L2.CX P w) 2 T.a_is_digits T.fd_is_digits ["text"] sp_is_digits := by
  refine T.F_is_digits.ok sc_is_digits (fun vs H Q E h => ?_) (fun cdv A outer s H vs Q E hr h => ?_)
  · unfold sp_is_digits at h
    obtain ⟨z, rfl, _⟩ := h
    rfl
  · unfold sp_is_digits at h
    obtain ⟨z, rfl, q⟩ := h
    refine ⟨_, (pss_cons (ps_for (passes_of rfl) rfl (pi_str (pv 0)) (pg_name (i := 1) sc_is_digits.nd rfl (Or.inl rfl))
      (pss_one (ps_if (pt_not (pt_val (pe_callS (ok_is_digit T) (hr.mono (by decide)) rfl T.m_is_digit T.F_is_digit.kp T.b_is_digit (fun σ => passAt (takes_of rfl rfl rfl rfl) σ) (pa_cons (pv 1) pa_nil)))) (pss_one (ps_ret pe_bl)) pss_nil)))
    (pss_one (ps_ret pe_bl))), ?_⟩
    walk_at "rd"
    refine for_txt (z := z) (fun i σ H' => Wall (H' = H ∧ ∃ u, σ = [some (.str z), u] ∧ ∀ j, j < i → ∀ c, z.cps.toList[j]? = some c → digC c = true)) (wall ⟨rfl, _, rfl, fun j h => absurd h (Nat.not_lt_zero j)⟩) ?_ ?_
    · rintro i c σ H' hc ⟨w1⟩
      obtain ⟨rfl, u, rfl, hb⟩ := w1 trivial
      have step : digC c = true → ∀ j, j < i + 1 → ∀ d, z.cps.toList[j]? = some d → digC d = true := fun g j hj d hd => by
        by_cases e : j = i
        · subst e
          rw [hc] at hd
          cases hd
          exact g
        · exact hb j (by omega) d hd
      have bad : digC c = false → z.cps.toList.all digC = false := fun g => by
        rw [Bool.eq_false_iff]
        intro h
        have := List.all_eq_true.mp h c (List.mem_of_getElem? hc)
        rw [g] at this
        cases this
      walk_at "rd"
      refine iteBN (fun c4 => ?_) (fun c4 => ?_)
      · walk_at "rd"
        exact q_bl q (bad c4)
      · exact wall ⟨rfl, _, rfl, step c4⟩
    · rintro σ H' ⟨w1⟩
      obtain ⟨rfl, u, rfl, hb⟩ := w1 trivial
      have hall : z.cps.toList.all digC = true := List.all_eq_true.mpr fun c hc => by
        obtain ⟨i, hi, e⟩ := List.mem_iff_getElem.mp hc
        exact hb i hi c (by rw [List.getElem?_eq_getElem hi, e])
      walk_at "rd"
      exact q_bl q hall
theorem is_digits_go {H : Hp} {Q : VK} {E : XK} {z : Str}  (q : Q (.bl (digsB z)) H) : sp_is_digits [.str z] H Q E := by
  unfold sp_is_digits
  exact ⟨z, rfl, q⟩
local macro_rules | `(tactic| walk_at "call") => `(tactic| (apply is_digits_go))

/-! ### is_plain_number -/
@[irreducible] def sp_is_plain_number : Sp := fun vs H Q E => ∃ (z : Str), vs = [.str z] ∧ (z.length ≤ 1000000) ∧ (Q (.bl (plainB z)) H)
theorem ok_is_plain_number (T : Txt K mg) : FnOk P w K mg base (L2.CX P w) 3 T.a_is_plain_number T.fd_is_plain_number ["text"] sp_is_plain_number := by
  refine T.F_is_plain_number.ok sc_is_plain_number (fun vs H Q E h => ?_) (fun cdv A outer s H vs Q E hr h => ?_)
  · unfold sp_is_plain_number at h
    obtain ⟨z, rfl, _⟩ := h
    rfl
  · unfold sp_is_plain_number at h
    obtain ⟨z, rfl, hz, q⟩ := h
    refine ⟨_, (pss_cons (ps_if (PW.pt (pw_or (pt_cmpR op_lt (pe_callB call_lenS rfl T.z_len bt_len (pa_cons (pv 0) pa_nil)) pe_int (nomark _)) (pw_or (pt_cmpR op_gt (pe_callB call_lenS rfl T.z_len bt_len (pa_cons (pv 0) pa_nil)) (pe_glob (v := .int 30) rfl T.m_MOST_DIGITS.choose_spec ⟨_, rfl⟩) (nomark _)) (pw_or1 (pt_not (pt_val (pe_callS (ok_is_digits T) (hr.mono (by decide)) rfl T.m_is_digits T.F_is_digits.kp T.b_is_digits (fun σ => passAt (takes_of rfl rfl rfl rfl) σ) (pa_cons (pv 0) pa_nil)))))))) (pss_one (ps_ret pe_bl)) pss_nil)
    (pss_one (ps_ret (pe_or (pe_cmpR op_eq (pv 0) pe_str (nomark _)) (pe_one (pe_cmpR op_ne (pe_ix ix_ss (pv 0) pe_int (fun _ _ => rfl)) pe_str (nomark _))))))), ?_⟩
    have hzS : z.length ≤ sizeLine := by rw [sizeLine_eq]; omega
    have fa : ∀ b : Bool, ((decide (1 ≤ z.length) && decide (z.length ≤ 30) && digsB z) = false) → b = false → Q (.bl b) H := fun b h e => by
      have : plainB z = false := by unfold plainB; rw [h, Bool.false_and]
      rw [this] at q
      rw [e]
      exact q
    walk_at "rd"
    refine iteD (fun c => ?_) (fun c => ?_)
    · have c : ((z.length : Nat) : Int) < 1 := c
      walk_at "rd"
      exact fa _ (by rw [decide_eq_false (show ¬ 1 ≤ z.length by omega)]; rfl) rfl
    have c : ¬ ((z.length : Nat) : Int) < 1 := c
    walk_at "rd"
    refine iteD (fun c2 => ?_) (fun c2 => ?_)
    · have c2 : (30 : Int) < (z.length : Nat) := c2
      walk_at "rd"
      exact fa _ (by rw [decide_eq_false (show ¬ z.length ≤ 30 by omega), Bool.and_false]; rfl) rfl
    have c2 : ¬ (30 : Int) < (z.length : Nat) := c2
    walk_at "rd"
    refine iteBN (fun c3 => ?_) (fun c3 => ?_)
    · walk_at "rd"
      exact fa _ (by rw [c3, Bool.and_false]) rfl
    obtain ⟨a, a1, a2, a3⟩ := atI_txt (z := z) (i := 0) 0 (by omega) rfl
    have e0 : plainB z = (z == "0" || !(a == 48)) := by
      unfold plainB
      rw [decide_eq_true (show 1 ≤ z.length by omega), decide_eq_true (show z.length ≤ 30 by omega), c3]
      have : z.cps.toList.head? = some a := by rw [List.head?_eq_getElem?]; exact a1
      rw [this]
      rfl
    rw [e0] at q
    have q48 : (⟨#[a]⟩ : Str) ≠ "0" ↔ a ≠ 48 := by
      have h0 : ("0" : Str).cps.toList = [48] := by decide +kernel
      constructor
      · intro h e
        exact h (str_ext (by rw [h0, e]))
      · intro h e
        have := congrArg (fun s : Str => s.cps.toList) e
        rw [h0] at this
        exact h (List.cons.inj this).1
    walk_at "rd"
    by_cases k : z = "0"
    · rw [if_pos (by rw [k]; exact decide_eq_true rfl)]
      rw [k] at q
      walk_at "rd"
      exact q_bl q (by rw [beq_self_eq_true]; rfl)
    · rw [if_neg (by rw [decide_eq_true_eq]; exact fun e => k (V.str.inj e))]
      rw [beq_eq_false_iff_ne.mpr k, Bool.false_or] at q
      walk_at "rd"
      refine q_bl q ?_
      by_cases m : a = 48
      · rw [m]
        rfl
      · rw [beq_eq_false_iff_ne.mpr m, decide_eq_false (fun e => q48.mpr m (V.str.inj e))]
theorem is_plain_number_go {H : Hp} {Q : VK} {E : XK} {z : Str} (hz : z.length ≤ 1000000) (q : Q (.bl (plainB z)) H) : sp_is_plain_number [.str z] H Q E := by
  unfold sp_is_plain_number
  exact ⟨z, rfl, hz, q⟩

/-! ### is_number -/
@[irreducible] def sp_is_number : Sp := fun vs H Q E => ∃ (z : Str), vs = [.str z] ∧ (z.length ≤ 1000000) ∧ (Q (.bl (numB z)) H)
theorem ok_is_number (T : Txt K mg) : FnOk P w K mg base (L2.CX P w) 4 T.a_is_number T.fd_is_number ["text"] sp_is_number := by
  refine T.F_is_number.ok sc_is_number (fun vs H Q E h => ?_) (fun cdv A outer s H vs Q E hr h => ?_)
  · unfold sp_is_number at h
    obtain ⟨z, rfl, _⟩ := h
    rfl
  · unfold sp_is_number at h
    obtain ⟨z, rfl, hz, q⟩ := h
    refine ⟨_, (pss_one (ps_ret (pe_and (pe_cmpR op_le (pe_callB call_lenS rfl T.z_len bt_len (pa_cons (pv 0) pa_nil)) (pe_glob (v := .int 12) rfl T.m_LONGEST_NUMBER.choose_spec ⟨_, rfl⟩) (nomark _)) (pe_one (pe_callS (ok_is_plain_number T) (hr.mono (by decide)) rfl T.m_is_plain_number T.F_is_plain_number.kp T.b_is_plain_number (fun σ => passAt (takes_of rfl rfl rfl rfl) σ) (pa_cons (pv 0) pa_nil)))))), ?_⟩
    have hzS : z.length ≤ sizeLine := by rw [sizeLine_eq]; omega
    unfold numB at q
    walk_at "rd"
    by_cases k : z.length ≤ 12
    · rw [decide_eq_true k, Bool.true_and] at q
      rw [if_pos (by rw [decide_eq_true_eq]; omega)]
      walk_at "rd"
      exact is_plain_number_go hz q
    · rw [decide_eq_false k, Bool.false_and] at q
      rw [if_neg (by rw [decide_eq_true_eq]; omega)]
      walk_at "rd"
      exact q
theorem is_number_go {H : Hp} {Q : VK} {E : XK} {z : Str} (hz : z.length ≤ 1000000) (q : Q (.bl (numB z)) H) : sp_is_number [.str z] H Q E := by
  unfold sp_is_number
  exact ⟨z, rfl, hz, q⟩
local macro_rules | `(tactic| walk_at "call") => `(tactic| (apply is_number_go; (first | assumption | omega)))

/-! ### amount_of -/
@[irreducible] def sp_amount_of : Sp := fun vs H Q E => ∃ (z : Str), vs = [.str z] ∧ (z.length ≤ 1000000) ∧ (∀ H', Same H H' → (match amtO z with | some v => Q (.int v) H' | none => Q .non H'))
theorem ok_amount_of (T : Txt K mg) : FnOk P w K mg base (L2.CX P w) 5 T.a_amount_of T.fd_amount_of ["text"] sp_amount_of := by
  refine T.F_amount_of.ok sc_amount_of (fun vs H Q E h => ?_) (fun cdv A outer s H vs Q E hr h => ?_)
  · unfold sp_amount_of at h
    obtain ⟨z, rfl, _⟩ := h
    rfl
  · unfold sp_amount_of at h
    obtain ⟨z, rfl, hz, q⟩ := h
    refine ⟨_, (pss_cons (ps_asg (pe_m1 PySem.F.slot_str_partition PySem.F.type_str_partition mt_prt (pv 0) pe_str) (pg_tup rfl (pgs_cons (pg_name (i := 1) sc_amount_of.nd rfl (Or.inl rfl)) (pgs_cons (pg_name (i := 2) sc_amount_of.nd rfl (Or.inl rfl)) (pgs_cons (pg_name (i := 3) sc_amount_of.nd rfl (Or.inl rfl)) pgs_nil)))))
    (pss_cons (ps_if (PW.pt (pw_or (pt_cmpR op_eq (pv 2) pe_str (nomark _)) (pw_or (pt_not (pt_val (pe_callS (ok_is_number T) (hr.mono (by decide)) rfl T.m_is_number T.F_is_number.kp T.b_is_number (fun σ => passAt (takes_of rfl rfl rfl rfl) σ) (pa_cons (pv 1) pa_nil)))) (pw_or (pt_cmpR op_ne (pe_callB call_lenS rfl T.z_len bt_len (pa_cons (pv 3) pa_nil)) pe_int (nomark _)) (pw_or1 (pt_not (pt_val (pe_callS (ok_is_digits T) (hr.mono (by decide)) rfl T.m_is_digits T.F_is_digits.kp T.b_is_digits (fun σ => passAt (takes_of rfl rfl rfl rfl) σ) (pa_cons (pv 3) pa_nil))))))))) (pss_one (ps_ret pe_non)) pss_nil)
    (pss_cons (ps_set (i := 4) sc_amount_of.nd rfl (Or.inl rfl) (pe_op op_add (pe_op op_mulB pe_int (pe_callTy call_intS rfl T.z_int bt_int (pa_cons (pv 1) pa_nil))) (pe_callTy call_intS rfl T.z_int bt_int (pa_cons (pv 3) pa_nil))))
    (pss_cons (ps_if (pt_cmpR op_gt (pv 4) (pe_glob (v := .int 1000000000000) rfl T.m_MOST_CENTS.choose_spec ⟨_, rfl⟩) (nomark _)) (pss_one (ps_ret pe_non)) pss_nil)
    (pss_one (ps_ret (pv 4))))))), ?_⟩
    have hzS : z.length ≤ sizeLine := by rw [sizeLine_eq]; omega
    have pl := part_len z "."
    obtain ⟨w0, pt, c, eP⟩ : ∃ w pt c, Txt.partition z "." = (w, pt, c) := ⟨_, _, _, rfl⟩
    have e0 : amtO z = if pt = "" ∨ numB w0 = false ∨ c.length ≠ 2 ∨ digsB c = false then none else if 1000000000000 < 100 * valZ w0 + valZ c then none else some (100 * valZ w0 + valZ c) := by
      unfold amtO
      rw [eP]
    rw [eP] at pl
    have pl1 : w0.length ≤ _ := pl.1
    have pl2 : c.length ≤ _ := pl.2
    have hwl : w0.length ≤ 1000000 := by omega
    have hcl : c.length ≤ 1000000 := by omega
    have hcS : c.length ≤ sizeLine := by rw [sizeLine_eq]; omega
    have qn : amtO z = none → ∀ H', Same H H' → Q .non H' := fun e H' s' => by have := q H' s'; rw [e] at this; exact this
    walk_at "rd"
    refine ⟨⟨_, rfl⟩, ?_⟩
    walk_at "rd"
    rw [eP]
    dsimp only
    have s1 := same_new (o := .tup [.str w0, .str pt, .str c]) (Same.refl H) (by assumption)
    walk_at "rd"
    refine iteS (fun k1 => ?_) (fun k1 => ?_)
    · walk_at "rd"
      exact qn (by rw [e0, if_pos (.inl k1)]) _ s1
    walk_at "rd"
    refine iteBN (fun k2 => ?_) (fun k2 => ?_)
    · walk_at "rd"
      exact qn (by rw [e0, if_pos (.inr (.inl k2))]) _ s1
    walk_at "rd"
    refine iteIN (fun k3 => ?_) (fun k3 => ?_)
    · walk_at "rd"
      exact qn (by rw [e0, if_pos (.inr (.inr (.inl (by omega))))]) _ s1
    walk_at "rd"
    refine iteBN (fun k4 => ?_) (fun k4 => ?_)
    · walk_at "rd"
      exact qn (by rw [e0, if_pos (.inr (.inr (.inr k4)))]) _ s1
    obtain ⟨n1, n2, n3⟩ := numB_iff k2
    have v1 := val_le n3 n2
    have v2 := val_le k4 (n := 2) (by omega)
    have e1 : amtO z = if 1000000000000 < 100 * valZ w0 + valZ c then none else some (100 * valZ w0 + valZ c) := by
      rw [e0, if_neg (fun x => x.elim k1 (fun x => x.elim (fun x => by rw [k2] at x; cases x) (fun x => x.elim (fun x => x (by omega)) (fun x => by rw [k4] at x; cases x))))]
    have cm : CM 100 (valZ w0) := CM.of (m := 64) (n := 64) ⟨by decide⟩ ⟨by omega⟩
    walk_at "rd"
    refine intS_go (valT n3 n1 (by omega)) (by omega) ?_
    walk_at "rd"
    refine intS_go (valT k4 (by omega) (by omega)) (by omega) ?_
    walk_at "rd"
    refine iteD (fun k5 => ?_) (fun k5 => ?_)
    · walk_at "rd"
      exact qn (by rw [e1, if_pos k5]) _ s1
    · walk_at "rd"
      have q1 := q _ s1
      rw [e1, if_neg k5] at q1
      exact q1
theorem amount_of_go {H : Hp} {Q : VK} {E : XK} {z : Str} (hz : z.length ≤ 1000000) (q : ∀ H', Same H H' → (match amtO z with | some v => Q (.int v) H' | none => Q .non H')) : sp_amount_of [.str z] H Q E := by
  unfold sp_amount_of
  exact ⟨z, rfl, hz, q⟩

/-! ### percent_of -/
@[irreducible] def sp_percent_of : Sp := fun vs H Q E => ∃ (z : Str), vs = [.str z] ∧ (z.length ≤ 1000000) ∧ (∀ H', Same H H' → (match pctO z with | some v => Q (.int v) H' | none => Q .non H'))
theorem ok_percent_of (T : Txt K mg) : FnOk P w K mg base (L2.CX P w) 5 T.a_percent_of T.fd_percent_of ["text"] sp_percent_of := by
  refine T.F_percent_of.ok sc_percent_of (fun vs H Q E h => ?_) (fun cdv A outer s H vs Q E hr h => ?_)
  · unfold sp_percent_of at h
    obtain ⟨z, rfl, _⟩ := h
    rfl
  · unfold sp_percent_of at h
    obtain ⟨z, rfl, hz, q⟩ := h
    refine ⟨_, (pss_cons (ps_if (pt_not (pt_val (pe_m1 PySem.F.slot_str_endswith PySem.F.type_str_endswith mt_ends (pv 0) pe_str))) (pss_one (ps_ret pe_non)) pss_nil)
    (pss_cons (ps_asg (pe_m1 PySem.F.slot_str_partition PySem.F.type_str_partition mt_prt (pe_slice sl_ss (pv 0) po_none (po_some (pe_un un_neg pe_int))) pe_str) (pg_tup rfl (pgs_cons (pg_name (i := 1) sc_percent_of.nd rfl (Or.inl rfl)) (pgs_cons (pg_name (i := 2) sc_percent_of.nd rfl (Or.inl rfl)) (pgs_cons (pg_name (i := 3) sc_percent_of.nd rfl (Or.inl rfl)) pgs_nil)))))
    (pss_cons (ps_if (pt_not (pt_val (pe_callS (ok_is_number T) (hr.mono (by decide)) rfl T.m_is_number T.F_is_number.kp T.b_is_number (fun σ => passAt (takes_of rfl rfl rfl rfl) σ) (pa_cons (pv 1) pa_nil)))) (pss_one (ps_ret pe_non)) pss_nil)
    (pss_cons (ps_cut (ps_if (pt_cmpR op_eq (pv 2) pe_str (nomark _)) (pss_one (ps_set (i := 4) sc_percent_of.nd rfl (Or.inl rfl) (pe_op op_mulB pe_int (pe_callTy call_intS rfl T.z_int bt_int (pa_cons (pv 1) pa_nil))))) (pss_cons (ps_if (PW.pt (pw_or (pt_cmpR op_lt (pe_callB call_lenS rfl T.z_len bt_len (pa_cons (pv 3) pa_nil)) pe_int (nomark _)) (pw_or (pt_cmpR op_gt (pe_callB call_lenS rfl T.z_len bt_len (pa_cons (pv 3) pa_nil)) pe_int (nomark _)) (pw_or1 (pt_not (pt_val (pe_callS (ok_is_digits T) (hr.mono (by decide)) rfl T.m_is_digits T.F_is_digits.kp T.b_is_digits (fun σ => passAt (takes_of rfl rfl rfl rfl) σ) (pa_cons (pv 3) pa_nil)))))))) (pss_one (ps_ret pe_non)) pss_nil)
      (pss_one (ps_set (i := 4) sc_percent_of.nd rfl (Or.inl rfl) (pe_op op_add (pe_op op_mulB pe_int (pe_callTy call_intS rfl T.z_int bt_int (pa_cons (pv 1) pa_nil))) (pe_callTy call_intS rfl T.z_int bt_int (pa_cons (pe_bm PySem.F.plainAttrs_str PySem.F.slot_str_ljust PySem.F.type_str_ljust mt_ljF (pv 3) (pa_cons pe_int (pa_cons pe_str pa_nil))) pa_nil))))))))
    (pss_cons (ps_if (pt_cmpR op_gt (pv 4) (pe_glob (v := .int 1000000) rfl T.m_MOST_RATE.choose_spec ⟨_, rfl⟩) (nomark _)) (pss_one (ps_ret pe_non)) pss_nil)
    (pss_one (ps_ret (pv 4)))))))), ?_⟩
    have hzS : z.length ≤ sizeLine := by rw [sizeLine_eq]; omega
    have qn : pctO z = none → ∀ H', Same H H' → Q .non H' := fun e H' s' => by have := q H' s'; rw [e] at this; exact this
    have hyl : (pctY z).length ≤ z.length := len_cut z _ _
    have pl := part_len (pctY z) "."
    obtain ⟨w0, pt, c, eP⟩ : ∃ w pt c, Txt.partition (pctY z) "." = (w, pt, c) := ⟨_, _, _, rfl⟩
    have e0 : pctO z = if Txt.endswith z "pc" = false ∨ numB w0 = false then none else if pt = "" then (if 1000000 < 10000 * valZ w0 then none else some (10000 * valZ w0)) else if c.length < 1 ∨ 4 < c.length ∨ digsB c = false then none else if 1000000 < 10000 * valZ w0 + valZ (Txt.ljustF c 4 48) then none else some (10000 * valZ w0 + valZ (Txt.ljustF c 4 48)) := by
      unfold pctO
      rw [eP]
    rw [eP] at pl
    have pl1 : w0.length ≤ _ := pl.1
    have pl2 : c.length ≤ _ := pl.2
    have hwl : w0.length ≤ 1000000 := by omega
    have hcl : c.length ≤ 1000000 := by omega
    have hcS : c.length ≤ sizeLine := by rw [sizeLine_eq]; omega
    have hyS : (pctY z).length ≤ sizeLine := by rw [sizeLine_eq]; omega
    walk_at "rd"
    refine ⟨⟨_, rfl⟩, ?_⟩
    walk_at "rd"
    refine iteBN (fun k0 => ?_) (fun k0 => ?_)
    · walk_at "rd"
      exact qn (by rw [e0, if_pos (.inl k0)]) _ (Same.refl _)
    walk_at "rd"
    refine ⟨⟨_, rfl⟩, ?_⟩
    walk_at "rd"
    rename_i p np
    have eP2 : Txt.partition (cutS z none (some (-2))) "." = (w0, pt, c) := eP
    rw [eP2]
    dsimp only
    have s1 := same_new (o := .tup [.str w0, .str pt, .str c]) (Same.refl H) np
    dsimp only [tNil]
    walk_at "rd"
    refine iteBN (fun k2 => ?_) (fun k2 => ?_)
    · walk_at "rd"
      exact qn (by rw [e0, if_pos (.inr k2)]) _ s1
    obtain ⟨n1, n2, n3⟩ := numB_iff k2
    have v1 := val_le n3 n2
    have e1 : pctO z = if pt = "" then (if 1000000 < 10000 * valZ w0 then none else some (10000 * valZ w0)) else if c.length < 1 ∨ 4 < c.length ∨ digsB c = false then none else if 1000000 < 10000 * valZ w0 + valZ (Txt.ljustF c 4 48) then none else some (10000 * valZ w0 + valZ (Txt.ljustF c 4 48)) := by
      rw [e0, if_neg (fun x => x.elim (fun x => by rw [k0] at x; cases x) (fun x => by rw [k2] at x; cases x))]
    have cm : CM 10000 (valZ w0) := CM.of (m := 64) (n := 64) ⟨by decide⟩ ⟨by omega⟩
    walk_at "rd"
    refine ⟨fun σ' H' => Wall (∃ v : Int, Same H H' ∧ σ' = [some (.str z), some (.str w0), some (.str pt), some (.str c), some (.int v)] ∧ pctO z = if 1000000 < v then none else some v), ?_, ?_⟩
    · walk_at "rd"
      refine iteS (fun k3 => ?_) (fun k3 => ?_)
      · walk_at "rd"
        refine intS_go (valT n3 n1 (by omega)) (by omega) ?_
        walk_at "rd"
        exact wall ⟨_, s1, rfl, by rw [e1, if_pos k3]⟩
      walk_at "rd"
      refine iteD (fun k4 => ?_) (fun k4 => ?_)
      · have k4 : ((c.length : Nat) : Int) < 1 := k4
        walk_at "rd"
        exact qn (by rw [e1, if_neg k3, if_pos (.inl (by omega))]) _ s1
      have k4 : ¬ ((c.length : Nat) : Int) < 1 := k4
      walk_at "rd"
      refine iteD (fun k5 => ?_) (fun k5 => ?_)
      · have k5 : (4 : Int) < (c.length : Nat) := k5
        walk_at "rd"
        exact qn (by rw [e1, if_neg k3, if_pos (.inr (.inl (by omega)))]) _ s1
      have k5 : ¬ (4 : Int) < (c.length : Nat) := k5
      walk_at "rd"
      refine iteBN (fun k6 => ?_) (fun k6 => ?_)
      · walk_at "rd"
        exact qn (by rw [e1, if_neg k3, if_pos (.inr (.inr k6))]) _ s1
      have jl : (Txt.ljustF c 4 48).cps.toList = c.cps.toList ++ List.replicate ((4 : Int).toNat - c.length) 48 := ljustF_list c 4 48
      have jd : digsB (Txt.ljustF c 4 48) = true := by
        unfold digsB
        rw [jl, List.all_append, Bool.and_eq_true]
        refine ⟨k6, ?_⟩
        rw [List.all_eq_true]
        intro x hx
        rw [List.eq_of_mem_replicate hx]
        rfl
      have jn : (Txt.ljustF c 4 48).length = 4 := by
        rw [← LB.len_list, jl, List.length_append, List.length_replicate, LB.len_list]
        show c.length + (4 - c.length) = 4
        omega
      walk_at "rd"
      refine intS_go (valT n3 n1 (by omega)) (by omega) ?_
      walk_at "rd"
      refine ljF_go (padOk_of (by decide) (by decide)) rfl ?_
      walk_at "rd"
      refine intS_go (z := Txt.ljustF c 4 48) (valT jd (by omega) (by omega)) (by omega) ?_
      walk_at "rd"
      refine wall ⟨_, s1, rfl, ?_⟩
      rw [e1, if_neg k3, if_neg (fun x => x.elim (fun x => by omega) (fun x => x.elim (fun x => by omega) (fun x => by rw [k6] at x; cases x)))]
    rintro σ' H' ⟨w1⟩
    obtain ⟨v, s2, rfl, ev⟩ := w1 trivial
    walk_at "rd"
    refine iteD (fun k5 => ?_) (fun k5 => ?_)
    · walk_at "rd"
      exact qn (by rw [ev, if_pos k5]) _ s2
    · walk_at "rd"
      have q1 := q _ s2
      rw [ev, if_neg k5] at q1
      exact q1
theorem percent_of_go {H : Hp} {Q : VK} {E : XK} {z : Str} (hz : z.length ≤ 1000000) (q : ∀ H', Same H H' → (match pctO z with | some v => Q (.int v) H' | none => Q .non H')) : sp_percent_of [.str z] H Q E := by
  unfold sp_percent_of
  exact ⟨z, rfl, hz, q⟩

/-! ### check_between -/
@[irreducible] def sp_check_between (T : Txt K mg) : Sp := fun vs H Q E => ∃ (v : Int) (a : Int) (b : Int), vs = [.int v, .int a, .int b] ∧ (v < a ∨ b < v → ∀ x, H x = none → E (.ref T.c_OutOfRange) (some x) (upd H x (.xd (f_OutOfRange [.int v])))) ∧ (a ≤ v → v ≤ b → Q .non H)
theorem ok_check_between (T : Txt K mg) : FnOk P w K mg base (L2.CX P w) 3 T.a_check_between T.fd_check_between ["value", "least", "most"] (sp_check_between T) := by
  refine T.F_check_between.ok sc_check_between (fun vs H Q E h => ?_) (fun cdv A outer s H vs Q E hr h => ?_)
  · unfold sp_check_between at h
    obtain ⟨v, a, b, rfl, _⟩ := h
    rfl
  · unfold sp_check_between at h
    obtain ⟨v, a, b, rfl, h1, q⟩ := h
    refine ⟨_, (pss_one (ps_if (PW.pt (pw_or (pt_cmpR op_lt (pv 0) (pv 1) (nomark _)) (pw_or1 (pt_cmpR op_gt (pv 0) (pv 2) (nomark _))))) (pss_one (ps_raiseX rfl (takes_of rfl rfl rfl rfl) (okx_OutOfRange T) (by decide) (hr.mono (by decide)) rfl T.m_OutOfRange (pa_cons (pv 0) pa_nil))) pss_nil)), ?_⟩
    walk_at "rd"
    refine iteD (fun e => ?_) (fun e => ?_)
    · walk_at "rd"
      exact h1 (.inl e)
    walk_at "rd"
    refine iteD (fun e2 => ?_) (fun e2 => ?_)
    · walk_at "rd"
      exact h1 (.inr e2)
    exact q (by omega) (by omega)
theorem check_between_go (T : Txt K mg) {H : Hp} {Q : VK} {E : XK} {v : Int} {a : Int} {b : Int} (h1 : v < a ∨ b < v → ∀ x, H x = none → E (.ref T.c_OutOfRange) (some x) (upd H x (.xd (f_OutOfRange [.int v])))) (q : a ≤ v → v ≤ b → Q .non H) : sp_check_between T [.int v, .int a, .int b] H Q E := by
  unfold sp_check_between
  exact ⟨v, a, b, rfl, h1, q⟩
theorem check_between_ok (T : Txt K mg) {H : Hp} {Q : VK} {E : XK} {v : Int} {a : Int} {b : Int} (a1 : a ≤ v) (a2 : v ≤ b) (q : Q .non H) : sp_check_between T [.int v, .int a, .int b] H Q E := check_between_go T (fun z => by omega) fun _ _ => q
local macro_rules | `(tactic| walk_at "call") => `(tactic| (apply check_between_ok; (first | assumption | omega); (first | assumption | omega)))

/-! ### year_start -/
@[irreducible] def sp_year_start : Sp := fun vs H Q E => ∃ (y : Int), vs = [.int y] ∧ (Sz 64 y) ∧ (Q (.int (ystart y)) H)
theorem ok_year_start (T : Txt K mg) : FnOk P w K mg base (L2.CX P w) 1 T.a_year_start T.fd_year_start ["year"] sp_year_start := by
  refine T.F_year_start.ok sc_year_start (fun vs H Q E h => ?_) (fun cdv A outer s H vs Q E hr h => ?_)
  · unfold sp_year_start at h
    obtain ⟨y, rfl, _⟩ := h
    rfl
  · unfold sp_year_start at h
    obtain ⟨y, rfl, h1, q⟩ := h
    refine ⟨_, (pss_cons (ps_set (i := 1) sc_year_start.nd rfl (Or.inl rfl) (pe_op op_sub (pv 0) (pe_glob (v := .int 2000) rfl T.m_FIRST_YEAR.choose_spec ⟨_, rfl⟩)))
    (pss_one (ps_ret (pe_op op_add (pe_op op_sub (pe_op op_add (pe_op op_mulB pe_int (pv 1)) (pe_op op_fdivB (pe_op op_add (pv 1) pe_int) pe_int)) (pe_op op_fdivB (pe_op op_add (pv 1) pe_int) pe_int)) (pe_op op_fdivB (pe_op op_add (pv 1) pe_int) pe_int))))), ?_⟩
    walk_at "rd"
    exact q
theorem year_start_go {H : Hp} {Q : VK} {E : XK} {y : Int} (h1 : Sz 64 y) (q : Q (.int (ystart y)) H) : sp_year_start [.int y] H Q E := by
  unfold sp_year_start
  exact ⟨y, rfl, h1, q⟩
local macro_rules | `(tactic| walk_at "call") => `(tactic| (apply year_start_go; (first | assumption | exact Sz.mk (n := 64) (by omega))))

/-! ### day_number -/
@[irreducible] def sp_day_number (T : Txt K mg) : Sp := fun vs H Q E => ∃ (y : Int) (m : Int) (x : Int), vs = [.int y, .int m, .int x] ∧ (y < 2000 ∨ 2199 < y → ∀ z, H z = none → E (.ref T.c_OutOfRange) (some z) (upd H z (.xd (f_OutOfRange [.int y])))) ∧ (2000 ≤ y → y ≤ 2199 → m < 1 ∨ 12 < m → ∀ z, H z = none → E (.ref T.c_OutOfRange) (some z) (upd H z (.xd (f_OutOfRange [.int m])))) ∧ (2000 ≤ y → y ≤ 2199 → 1 ≤ m → m ≤ 12 → x < 1 ∨ mlen y m < x → ∀ H', Same H H' → ∀ z, H' z = none → E (.ref T.c_OutOfRange) (some z) (upd H' z (.xd (f_OutOfRange [.int x])))) ∧ (IsDate y m x → ∀ H', Same H H' → Q (.int (dayOf y m x)) H')
theorem ok_day_number (T : Txt K mg) : FnOk P w K mg base (L2.CX P w) 4 T.a_day_number T.fd_day_number ["year", "month", "day"] (sp_day_number T) := by
  refine T.F_day_number.ok sc_day_number (fun vs H Q E h => ?_) (fun cdv A outer s H vs Q E hr h => ?_)
  · unfold sp_day_number at h
    obtain ⟨y, m, x, rfl, _⟩ := h
    rfl
  · unfold sp_day_number at h
    obtain ⟨y, m, x, rfl, e1, e2, e3, q⟩ := h
    refine ⟨_, (pss_cons (ps_expr (pe_callS (ok_check_between T) (hr.mono (by decide)) rfl T.m_check_between T.F_check_between.kp T.b_check_between (fun σ => passAt (takes_of rfl rfl rfl rfl) σ) (pa_cons (pv 0) (pa_cons (pe_glob (v := .int 2000) rfl T.m_FIRST_YEAR.choose_spec ⟨_, rfl⟩) (pa_cons (pe_glob (v := .int 2199) rfl T.m_LAST_YEAR.choose_spec ⟨_, rfl⟩) pa_nil)))))
    (pss_cons (ps_expr (pe_callS (ok_check_between T) (hr.mono (by decide)) rfl T.m_check_between T.F_check_between.kp T.b_check_between (fun σ => passAt (takes_of rfl rfl rfl rfl) σ) (pa_cons (pv 1) (pa_cons pe_int (pa_cons pe_int pa_nil)))))
    (pss_cons (ps_expr (pe_callS (ok_check_between T) (hr.mono (by decide)) rfl T.m_check_between T.F_check_between.kp T.b_check_between (fun σ => passAt (takes_of rfl rfl rfl rfl) σ) (pa_cons (pv 2) (pa_cons pe_int (pa_cons (pe_callS (ok_month_length T) (hr.mono (by decide)) rfl T.m_month_length T.F_month_length.kp T.b_month_length (fun σ => passAt (takes_of rfl rfl rfl rfl) σ) (pa_cons (pv 0) (pa_cons (pv 1) pa_nil))) pa_nil)))))
    (pss_cons (ps_set (i := 3) sc_day_number.nd rfl (Or.inl rfl) (pe_callS (ok_year_start T) (hr.mono (by decide)) rfl T.m_year_start T.F_year_start.kp T.b_year_start (fun σ => passAt (takes_of rfl rfl rfl rfl) σ) (pa_cons (pv 0) pa_nil)))
    (pss_cons (ps_for (passes_of rfl) rfl (pi_range2 rfl T.z_range (pa_cons pe_int (pa_cons (pv 1) pa_nil))) (pg_name (i := 4) sc_day_number.nd rfl (Or.inl rfl))
      (pss_one (ps_aug (i := 3) sc_day_number.nd rfl (Or.inl rfl) (pe_callS (ok_month_length T) (hr.mono (by decide)) rfl T.m_month_length T.F_month_length.kp T.b_month_length (fun σ => passAt (takes_of rfl rfl rfl rfl) σ) (pa_cons (pv 0) (pa_cons (pv 4) pa_nil))) ip_add)))
    (pss_one (ps_ret (pe_op op_sub (pe_op op_add (pv 3) (pv 2)) pe_int)))))))), ?_⟩
    walk_at "rd"
    refine check_between_go T e1 fun h1 h2 => ?_
    have e2' := e2 h1 h2
    walk_at "rd"
    refine check_between_go T e2' fun h3 h4 => ?_
    have e3' := e3 h1 h2 h3 h4
    walk_at "rd"
    intro H1 s1
    walk_at "rd"
    refine check_between_go T (fun z => e3' z H1 s1) fun h5 h6 => ?_
    have q' := q ⟨h1, h2, h3, h4, h5, h6⟩
    walk_at "rd"
    refine ⟨_, _, rfl, ⟨by decide, by decide, by omega, by omega⟩, for_range (n := (m - 1).toNat) (fun j σ H2 => Wall (∃ (c : Int) (u : Option V), Same H1 H2 ∧ σ = [some (.int y), some (.int m), some (.int x), some (.int c), u] ∧ c = ystart y + mstart y (1 + (j : Int)))) (wall ⟨_, _, Same.refl _, rfl, by rw [show (1 : Int) + ((0 : Nat) : Int) = 1 from rfl, mstart_1]; omega⟩) ?_ ?_⟩
    · rintro j σ H2 hj ⟨w⟩
      obtain ⟨c', u', s2, rfl, hc'⟩ := w trivial
      have hm1 := mstart_next y (1 + (j : Int)) (by omega) (by omega)
      walk_at "rd"
      intro H3 s3
      walk_at "rd"
      exact wall ⟨_, _, s2.trans s3, rfl, by rw [show (1 : Int) + ((j + 1 : Nat) : Int) = 1 + (j : Int) + 1 by omega, hm1]; first | omega | (dsimp only; omega)⟩
    · rintro σ H2 ⟨w⟩
      obtain ⟨c', u', s2, rfl, hc'⟩ := w trivial
      walk_at "rd"
      have e : 1 + (((m - 1).toNat : Nat) : Int) = m := by omega
      rw [e] at hc'
      subst hc'
      exact q' H2 (s1.trans s2)
theorem day_number_go (T : Txt K mg) {H : Hp} {Q : VK} {E : XK} {y : Int} {m : Int} {x : Int} (e1 : y < 2000 ∨ 2199 < y → ∀ z, H z = none → E (.ref T.c_OutOfRange) (some z) (upd H z (.xd (f_OutOfRange [.int y])))) (e2 : 2000 ≤ y → y ≤ 2199 → m < 1 ∨ 12 < m → ∀ z, H z = none → E (.ref T.c_OutOfRange) (some z) (upd H z (.xd (f_OutOfRange [.int m])))) (e3 : 2000 ≤ y → y ≤ 2199 → 1 ≤ m → m ≤ 12 → x < 1 ∨ mlen y m < x → ∀ H', Same H H' → ∀ z, H' z = none → E (.ref T.c_OutOfRange) (some z) (upd H' z (.xd (f_OutOfRange [.int x])))) (q : IsDate y m x → ∀ H', Same H H' → Q (.int (dayOf y m x)) H') : sp_day_number T [.int y, .int m, .int x] H Q E := by
  unfold sp_day_number
  exact ⟨y, m, x, rfl, e1, e2, e3, q⟩
theorem day_number_ok (T : Txt K mg) {H : Hp} {Q : VK} {E : XK} {y m x : Int} (h1 : 2000 ≤ y) (h2 : y ≤ 2199) (h3 : 1 ≤ m) (h4 : m ≤ 12) (h5 : 1 ≤ x) (h6 : x ≤ mlen y m) (q : ∀ H', Same H H' → Q (.int (dayOf y m x)) H') : sp_day_number T [.int y, .int m, .int x] H Q E :=
  day_number_go T (fun z => by omega) (fun _ _ z => by omega) (fun _ _ _ _ z => by omega) fun _ => q
local macro_rules | `(tactic| walk_at "call") => `(tactic| (apply day_number_ok; (first | assumption | omega); (first | assumption | omega); (first | assumption | omega); (first | assumption | omega); (first | assumption | omega); (first | assumption | omega)))

/-! ### read_date -/
@[irreducible] def sp_read_date (T : Txt K mg) : Sp := fun vs H Q E => ∃ (z : Str), vs = [.str z] ∧ (z.length ≤ 1000000) ∧ (dateB z = false → ∀ H', Same H H' → ∀ d, H' d = none → E (.ref T.c_BadText) (some d) (upd H' d (.xd (f_BadText [.int 1, .int 1, .str "date"])))) ∧ (dateB z = true → ∀ H', Same H H' → Q (.int (dayOf (dv z none (some 4)) (dv z (some 5) (some 7)) (dv z (some 8) none))) H')
theorem ok_read_date (T : Txt K mg) : FnOk P w K mg base (L2.CX P w) 5 T.a_read_date T.fd_read_date ["text"] (sp_read_date T) := by
  refine T.F_read_date.ok sc_read_date (fun vs H Q E h => ?_) (fun cdv A outer s H vs Q E hr h => ?_)
  · unfold sp_read_date at h
    obtain ⟨z, rfl, _⟩ := h
    rfl
  · unfold sp_read_date at h
    obtain ⟨z, rfl, hz, e, q⟩ := h
    refine ⟨_, (pss_cons (ps_if (pt_not (pt_val (pe_callS (ok_is_date T) (hr.mono (by decide)) rfl T.m_is_date T.F_is_date.kp T.b_is_date (fun σ => passAt (takes_of rfl rfl rfl rfl) σ) (pa_cons (pv 0) pa_nil)))) (pss_one (ps_raiseX rfl (takes_of rfl rfl rfl rfl) (okx_BadText T) (by decide) (hr.mono (by decide)) rfl T.m_BadText (pa_cons pe_int (pa_cons pe_int (pa_cons pe_str pa_nil))))) pss_nil)
    (pss_one (ps_ret (pe_callS (ok_day_number T) (hr.mono (by decide)) rfl T.m_day_number T.F_day_number.kp T.b_day_number (fun σ => passAt (takes_of rfl rfl rfl rfl) σ) (pa_cons (pe_callTy call_intS rfl T.z_int bt_int (pa_cons (pe_slice sl_ss (pv 0) po_none (po_some pe_int)) pa_nil)) (pa_cons (pe_callTy call_intS rfl T.z_int bt_int (pa_cons (pe_slice sl_ss (pv 0) (po_some pe_int) (po_some pe_int)) pa_nil)) (pa_cons (pe_callTy call_intS rfl T.z_int bt_int (pa_cons (pe_slice sl_ss (pv 0) (po_some pe_int) po_none) pa_nil)) pa_nil))))))), ?_⟩
    walk_at "rd"
    intro H1 s1
    cases hd : dateB z with
    | false =>
      walk_at "rd"
      exact e hd H1 s1
    | true =>
      have hd2 := hd
      unfold dateB at hd2
      rw [Bool.and_eq_true, decide_eq_true_iff] at hd2
      obtain ⟨hw, ⟨y0, y1, m0, m1⟩, x0, x1⟩ := hd2
      obtain ⟨i1, i2, i3⟩ := writ_ints hw
      have hl : z.length = 10 := (writ_iff.mp hw).1
      have l1 := len_cut z none (some 4)
      have l2 := len_cut z (some 5) (some 7)
      have l3 := len_cut z (some 8) none
      have qq := q hd
      clear q e
      generalize dv z none (some 4) = y at *
      generalize dv z (some 5) (some 7) = m at *
      generalize dv z (some 8) none = x at *
      have hI : IsDate y m x := ⟨y0, y1, m0, m1, x0, x1⟩
      walk_at "rd"
      refine intS_go i1 (by omega) ?_
      walk_at "rd"
      refine intS_go i2 (by omega) ?_
      walk_at "rd"
      refine intS_go i3 (by omega) ?_
      walk_at "rd"
      exact fun H' s2 => qq H' (s1.trans s2)
theorem read_date_go (T : Txt K mg) {H : Hp} {Q : VK} {E : XK} {z : Str} (hz : z.length ≤ 1000000) (e : dateB z = false → ∀ H', Same H H' → ∀ d, H' d = none → E (.ref T.c_BadText) (some d) (upd H' d (.xd (f_BadText [.int 1, .int 1, .str "date"])))) (q : dateB z = true → ∀ H', Same H H' → Q (.int (dayOf (dv z none (some 4)) (dv z (some 5) (some 7)) (dv z (some 8) none))) H') : sp_read_date T [.str z] H Q E := by
  unfold sp_read_date
  exact ⟨z, rfl, hz, e, q⟩

/-! ### kind_of -/
def dayZ (z : Str) : Int := dayOf (dv z none (some 4)) (dv z (some 5) (some 7)) (dv z (some 8) none)
def kind5 (z : Str) : Option (Str × V) := match pctO z with
  | some v => some ("percent", .int v)
  | none => none
def kind4 (z : Str) : Option (Str × V) := match amtO z with
  | some v => some ("amount", .int v)
  | none => kind5 z
def kind3 (z : Str) : Option (Str × V) := if numB z = true then some ("number", .int (valZ z)) else kind4 z
def kind2 (z : Str) : Option (Str × V) := if dateB z = true then some ("date", .int (dayZ z)) else kind3 z
/-- what a run of signs means -/
def kindO (z : Str) : Option (Str × V) := if wordB z = true then some ("word", .str z) else kind2 z
@[irreducible] def sp_kind_of : Sp := fun vs H Q E => ∃ (z : Str), vs = [.str z] ∧ (z.length ≤ 1000000) ∧ (1 ≤ z.length) ∧ ((match kindO z with | some (k, v) => ∀ p H', Same H H' → H' p = some (.tup [.str k, v]) → Q (.ref p) H' | none => ∀ H', Same H H' → Q .non H'))
theorem ok_kind_of (T : Txt K mg) : FnOk P w K mg base (L2.CX P w) 6 T.a_kind_of T.fd_kind_of ["text"] sp_kind_of := by
  refine T.F_kind_of.ok sc_kind_of (fun vs H Q E h => ?_) (fun cdv A outer s H vs Q E hr h => ?_)
  · unfold sp_kind_of at h
    obtain ⟨z, rfl, _⟩ := h
    rfl
  · unfold sp_kind_of at h
    obtain ⟨z, rfl, hz, hn, q⟩ := h
    refine ⟨_, (pss_cons (ps_if (pt_val (pe_callS (ok_is_word T) (hr.mono (by decide)) rfl T.m_is_word T.F_is_word.kp T.b_is_word (fun σ => passAt (takes_of rfl rfl rfl rfl) σ) (pa_cons (pv 0) pa_nil))) (pss_one (ps_ret (pe_tup (pa_cons pe_str (pa_cons (pv 0) pa_nil))))) pss_nil)
    (pss_cons (ps_if (pt_val (pe_callS (ok_is_date T) (hr.mono (by decide)) rfl T.m_is_date T.F_is_date.kp T.b_is_date (fun σ => passAt (takes_of rfl rfl rfl rfl) σ) (pa_cons (pv 0) pa_nil))) (pss_one (ps_ret (pe_tup (pa_cons pe_str (pa_cons (pe_callS (ok_read_date T) (hr.mono (by decide)) rfl T.m_read_date T.F_read_date.kp T.b_read_date (fun σ => passAt (takes_of rfl rfl rfl rfl) σ) (pa_cons (pv 0) pa_nil)) pa_nil))))) pss_nil)
    (pss_cons (ps_if (pt_val (pe_callS (ok_is_number T) (hr.mono (by decide)) rfl T.m_is_number T.F_is_number.kp T.b_is_number (fun σ => passAt (takes_of rfl rfl rfl rfl) σ) (pa_cons (pv 0) pa_nil))) (pss_one (ps_ret (pe_tup (pa_cons pe_str (pa_cons (pe_callTy call_intS rfl T.z_int bt_int (pa_cons (pv 0) pa_nil)) pa_nil))))) pss_nil)
    (pss_cons (ps_set (i := 1) sc_kind_of.nd rfl (Or.inl rfl) (pe_callS (ok_amount_of T) (hr.mono (by decide)) rfl T.m_amount_of T.F_amount_of.kp T.b_amount_of (fun σ => passAt (takes_of rfl rfl rfl rfl) σ) (pa_cons (pv 0) pa_nil)))
    (pss_cons (ps_if (pt_cmpR op_notN (pv 1) pe_non (nomark _)) (pss_one (ps_ret (pe_tup (pa_cons pe_str (pa_cons (pv 1) pa_nil))))) pss_nil)
    (pss_cons (ps_set (i := 2) sc_kind_of.nd rfl (Or.inl rfl) (pe_callS (ok_percent_of T) (hr.mono (by decide)) rfl T.m_percent_of T.F_percent_of.kp T.b_percent_of (fun σ => passAt (takes_of rfl rfl rfl rfl) σ) (pa_cons (pv 0) pa_nil)))
    (pss_cons (ps_if (pt_cmpR op_notN (pv 2) pe_non (nomark _)) (pss_one (ps_ret (pe_tup (pa_cons pe_str (pa_cons (pv 2) pa_nil))))) pss_nil)
    (pss_one (ps_ret pe_non))))))))), ?_⟩
    have qn : kindO z = none → ∀ H', Same H H' → Q .non H' := fun e => by rw [e] at q; exact q
    have qs : ∀ k v, kindO z = some (k, v) → ∀ p H', Same H H' → H' p = some (.tup [.str k, v]) → Q (.ref p) H' := fun k v e => by rw [e] at q; exact q
    walk_at "rd"
    refine is_word_go hz hn ?_
    walk_at "rd"
    refine iteB (fun k1 => ?_) (fun k1 => ?_)
    · walk_at "rd"
      rename_i p np
      exact qs _ _ (by unfold kindO; rw [if_pos k1]) p _ (same_new (Same.refl _) np) upd_same
    have e1 : kindO z = kind2 z := by unfold kindO; rw [if_neg (by rw [k1]; exact Bool.false_ne_true)]
    walk_at "rd"
    refine fun H1 s1 => ?_
    walk_at "rd"
    refine iteB (fun k2 => ?_) (fun k2 => ?_)
    · walk_at "rd"
      refine read_date_go T hz (fun x => by rw [k2] at x; cases x) fun _ H2 s2 => ?_
      walk_at "rd"
      rename_i p np
      exact qs _ _ (by rw [e1]; unfold kind2; rw [if_pos k2]; rfl) p _ (s1.trans (s2.trans (same_new (Same.refl _) np))) upd_same
    have e2 : kindO z = kind3 z := by rw [e1]; unfold kind2; rw [if_neg (by rw [k2]; exact Bool.false_ne_true)]
    walk_at "rd"
    refine iteB (fun k3 => ?_) (fun k3 => ?_)
    · obtain ⟨n1, n2, n3⟩ := numB_iff k3
      walk_at "rd"
      refine intS_go (valT n3 n1 (by omega)) (by omega) ?_
      walk_at "rd"
      rename_i p np
      exact qs _ _ (by rw [e2]; unfold kind3; rw [if_pos k3]) p _ (s1.trans (same_new (Same.refl _) np)) upd_same
    have e3 : kindO z = kind4 z := by rw [e2]; unfold kind3; rw [if_neg (by rw [k3]; exact Bool.false_ne_true)]
    walk_at "rd"
    refine amount_of_go hz fun H2 s2 => ?_
    cases ea : amtO z with
    | some v =>
      walk_at "rd"
      rename_i p np
      exact qs _ _ (by rw [e3]; unfold kind4; rw [ea]) p _ (s1.trans (s2.trans (same_new (Same.refl _) np))) upd_same
    | none =>
      have e4 : kindO z = kind5 z := by rw [e3]; unfold kind4; rw [ea]
      walk_at "rd"
      refine percent_of_go hz fun H3 s3 => ?_
      cases ep : pctO z with
      | some v =>
        walk_at "rd"
        rename_i p np
        exact qs _ _ (by rw [e4]; unfold kind5; rw [ep]) p _ (s1.trans (s2.trans (s3.trans (same_new (Same.refl _) np)))) upd_same
      | none =>
        walk_at "rd"
        exact qn (by rw [e4]; unfold kind5; rw [ep]) _ (s1.trans (s2.trans s3))
theorem kind_of_go {H : Hp} {Q : VK} {E : XK} {z : Str} (hz : z.length ≤ 1000000) (hn : 1 ≤ z.length) (q : (match kindO z with | some (k, v) => ∀ p H', Same H H' → H' p = some (.tup [.str k, v]) → Q (.ref p) H' | none => ∀ H', Same H H' → Q .non H')) : sp_kind_of [.str z] H Q E := by
  unfold sp_kind_of
  exact ⟨z, rfl, hz, hn, q⟩

/-! ### scan_line -/
def tokRow (k : Str) (v : V) (num : Int) (a : Nat) : List V := [.str k, v, .int num, .int ((a + 1 : Nat) : Int)]
def sgn (c : Nat) : Bool := decide (c ∈ ("{};,()" : Str).cps.toList)
def runS (l : List Nat) : Str := ⟨(l.takeWhile runC).toArray⟩
/-- the tokens of a line and the column of its first fault, or 0 -/
def scanL (l : List Nat) (num : Int) (a : Nat) : List (List V) × Int :=
  match l with
  | [] => ([], 0)
  | c :: r =>
    if c = 35 then ([], 0)
    else if c = 32 then scanL r num (a + 1)
    else if sgn c = true then (tokRow "sign" (.str ⟨#[c]⟩) num a :: (scanL r num (a + 1)).1, (scanL r num (a + 1)).2)
    else if h : ((c :: r).takeWhile runC).length = 0 then ([], ((a + 1 : Nat) : Int))
    else match kindO (runS (c :: r)) with
      | none => ([], ((a + 1 : Nat) : Int))
      | some (k, v) => (tokRow k v num a :: (scanL ((c :: r).drop ((c :: r).takeWhile runC).length) num (a + ((c :: r).takeWhile runC).length)).1, (scanL ((c :: r).drop ((c :: r).takeWhile runC).length) num (a + ((c :: r).takeWhile runC).length)).2)
termination_by l.length
decreasing_by
  all_goals simp_wf
  all_goals (first | omega | (simp only [List.length_drop, List.length_cons]; omega))
section
variable {c : Nat} {r : List Nat} {num : Int} {a : Nat}
theorem scanL_nil : scanL [] num a = ([], 0) := by rw [scanL]
theorem scanL_hash (h : c = 35) : scanL (c :: r) num a = ([], 0) := by rw [scanL, if_pos h]
theorem scanL_sp (h0 : c ≠ 35) (h : c = 32) : scanL (c :: r) num a = scanL r num (a + 1) := by rw [scanL, if_neg h0, if_pos h]
theorem scanL_sg (h0 : c ≠ 35) (h1 : c ≠ 32) (h : sgn c = true) : scanL (c :: r) num a = (tokRow "sign" (.str ⟨#[c]⟩) num a :: (scanL r num (a + 1)).1, (scanL r num (a + 1)).2) := by rw [scanL, if_neg h0, if_neg h1, if_pos h]
theorem scanL_no (h0 : c ≠ 35) (h1 : c ≠ 32) (h2 : sgn c = false) (h : ((c :: r).takeWhile runC).length = 0) : scanL (c :: r) num a = ([], ((a + 1 : Nat) : Int)) := by
  rw [scanL, if_neg h0, if_neg h1, if_neg (by rw [h2]; decide), dif_pos h]
theorem scanL_bad (h0 : c ≠ 35) (h1 : c ≠ 32) (h2 : sgn c = false) (h3 : ((c :: r).takeWhile runC).length ≠ 0) (h : kindO (runS (c :: r)) = none) : scanL (c :: r) num a = ([], ((a + 1 : Nat) : Int)) := by
  rw [scanL, if_neg h0, if_neg h1, if_neg (by rw [h2]; decide), dif_neg h3, h]
theorem scanL_tok {k : Str} {v : V} (h0 : c ≠ 35) (h1 : c ≠ 32) (h2 : sgn c = false) (h3 : ((c :: r).takeWhile runC).length ≠ 0) (h : kindO (runS (c :: r)) = some (k, v)) : scanL (c :: r) num a = (tokRow k v num a :: (scanL ((c :: r).drop ((c :: r).takeWhile runC).length) num (a + ((c :: r).takeWhile runC).length)).1, (scanL ((c :: r).drop ((c :: r).takeWhile runC).length) num (a + ((c :: r).takeWhile runC).length)).2) := by
  rw [scanL, if_neg h0, if_neg h1, if_neg (by rw [h2]; decide), dif_neg h3, h]
end
theorem lit_one {c n : Nat} {s : Str} (h : s.cps.toList = [n]) : (⟨#[c]⟩ : Str) = s ↔ c = n := by
  constructor
  · intro e
    have := congrArg (fun s : Str => s.cps.toList) e
    rw [h] at this
    exact (List.cons.inj this).1
  · intro e
    exact str_ext (by rw [h, e])
theorem take_tw {p : Nat → Bool} : ∀ l : List Nat, l.take (l.takeWhile p).length = l.takeWhile p
  | [] => rfl
  | a :: l => by
    by_cases h : p a = true
    · rw [List.takeWhile_cons_of_pos h, List.length_cons, List.take_succ_cons, take_tw]
    · rw [List.takeWhile_cons_of_neg h]; rfl
theorem cut_run {z : Str} {k : Nat} (hk : k ≤ z.length) : cutS z (some ((k : Nat) : Int)) (some ((k + ((z.cps.toList.drop k).takeWhile runC).length : Nat) : Int)) = runS (z.cps.toList.drop k) := by
  refine str_ext ?_
  have hle : k + ((z.cps.toList.drop k).takeWhile runC).length ≤ z.length := by
    have h1 := List.Sublist.length_le (List.takeWhile_sublist runC (l := z.cps.toList.drop k))
    rw [List.length_drop, LB.len_list] at h1
    omega
  show (z.cps.toList.drop (HT.sIx z.length 0 (some ((k : Nat) : Int)))).take (HT.sIx z.length z.length (some ((k + ((z.cps.toList.drop k).takeWhile runC).length : Nat) : Int)) - HT.sIx z.length 0 (some ((k : Nat) : Int))) = (z.cps.toList.drop k).takeWhile runC
  rw [HT.sIx_nat, HT.sIx_nat, Nat.min_eq_left hk, Nat.min_eq_left hle, Nat.add_sub_cancel_left, take_tw]
@[irreducible] def sp_scan_line (K : PySem.W.Frag) : Sp := fun vs H Q E => ∃ (z : Str) (num : Int) (pf : Addr) (us : List V) (rows : List (List V)), vs = [.str z, .int num, .ref pf] ∧ z.length ≤ 1000000 ∧ H pf = some (.lst us) ∧ Tups K H us rows ∧ rows.length + z.length < 16000000 ∧ (∀ H' us', (∀ b o, b ≠ pf → H b = some o → H' b = some o) → H' pf = some (.lst us') → Tups K H' us' (rows ++ (scanL z.cps.toList num 0).1) → Q (.int (scanL z.cps.toList num 0).2) H')
theorem ok_scan_line (T : Txt K mg) : FnOk P w K mg base (L2.CX P w) 7 T.a_scan_line T.fd_scan_line ["line", "number", "found"] (sp_scan_line K) := by
  refine T.F_scan_line.ok sc_scan_line (fun vs H Q E h => ?_) (fun cdv A outer s H vs Q E hr h => ?_)
  · unfold sp_scan_line at h
    obtain ⟨z, num, pf, us, rows, rfl, _⟩ := h
    rfl
  · unfold sp_scan_line at h
    obtain ⟨z, num, pf, us, rows, rfl, hz, ef, tf, hl, q⟩ := h
    refine ⟨_, (pss_cons (ps_set (i := 3) sc_scan_line.nd rfl (Or.inl rfl) pe_int)
    (pss_cons (ps_while (passes_of rfl) (pt_cmpR op_lt (pv 3) (pe_callB call_lenS rfl T.z_len bt_len (pa_cons (pv 0) pa_nil)) (nomark _))
      (pss_cons (ps_set (i := 4) sc_scan_line.nd rfl (Or.inl rfl) (pe_ix ix_ss (pv 0) (pv 3) (fun _ _ => rfl)))
      (pss_cons (ps_if (pt_cmpR op_eq (pv 4) pe_str (nomark _)) (pss_one (ps_ret pe_int)) pss_nil)
      (pss_one (ps_cut (ps_if (pt_cmpR op_eq (pv 4) pe_str (nomark _)) (pss_one (ps_aug (i := 3) sc_scan_line.nd rfl (Or.inl rfl) pe_int ip_add)) (pss_one (ps_cut (ps_if (pt_cmpR op_inC (pv 4) (pe_glob (v := .str "{};,()") rfl T.m_SIGNS.choose_spec ⟨_, rfl⟩) (by rfl)) (pss_cons (ps_expr (pe_bm PySem.F.plainAttrs_list PySem.F.slot_list_append PySem.F.type_list_append mt_app (pv 2) (pa_cons (pe_tup (pa_cons pe_str (pa_cons (pv 4) (pa_cons (pv 1) (pa_cons (pe_op op_add (pv 3) pe_int) pa_nil))))) pa_nil)))
          (pss_one (ps_aug (i := 3) sc_scan_line.nd rfl (Or.inl rfl) pe_int ip_add))) (pss_cons (ps_set (i := 5) sc_scan_line.nd rfl (Or.inl rfl) (pe_callS (ok_run_end T) (hr.mono (by decide)) rfl T.m_run_end T.F_run_end.kp T.b_run_end (fun σ => passAt (takes_of rfl rfl rfl rfl) σ) (pa_cons (pv 0) (pa_cons (pv 3) pa_nil))))
          (pss_cons (ps_if (pt_cmpR op_eq (pv 5) (pv 3) (nomark _)) (pss_one (ps_ret (pe_op op_add (pv 3) pe_int))) pss_nil)
          (pss_cons (ps_set (i := 6) sc_scan_line.nd rfl (Or.inl rfl) (pe_callS (ok_kind_of T) (hr.mono (by decide)) rfl T.m_kind_of T.F_kind_of.kp T.b_kind_of (fun σ => passAt (takes_of rfl rfl rfl rfl) σ) (pa_cons (pe_slice sl_ss (pv 0) (po_some (pv 3)) (po_some (pv 5))) pa_nil)))
          (pss_cons (ps_if (pt_cmpR op_isN (pv 6) pe_non (nomark _)) (pss_one (ps_ret (pe_op op_add (pv 3) pe_int))) pss_nil)
          (pss_cons (ps_expr (pe_bm PySem.F.plainAttrs_list PySem.F.slot_list_append PySem.F.type_list_append mt_app (pv 2) (pa_cons (pe_tup (pa_cons (pe_ix ix_tup (pv 6) pe_int (fun _ _ => rfl)) (pa_cons (pe_ix ix_tup (pv 6) pe_int (fun _ _ => rfl)) (pa_cons (pv 1) (pa_cons (pe_op op_add (pv 3) pe_int) pa_nil))))) pa_nil)))
          (pss_one (ps_set (i := 3) sc_scan_line.nd rfl (Or.inl rfl) (pv 5)))))))))))))))))
    (pss_one (ps_ret pe_int)))), ?_⟩
    have hzS : z.length ≤ sizeLine := by rw [sizeLine_eq]; omega
    walk_at "rd"
    refine ⟨fun m σ H' => Wall (∃ (k : Nat) (us' : List V) (more : List (List V)) (u4 u5 u6 : Option V), m = z.length - k ∧ k ≤ z.length ∧ σ = [some (.str z), some (.int num), some (.ref pf), some (.int (k : Nat)), u4, u5, u6] ∧ (∀ b o, b ≠ pf → H b = some o → H' b = some o) ∧ H' pf = some (.lst us') ∧ Tups K H' us' (rows ++ more) ∧ more.length ≤ k ∧ scanL z.cps.toList num 0 = (more ++ (scanL (z.cps.toList.drop k) num k).1, (scanL (z.cps.toList.drop k) num k).2)), ⟨z.length, wall ⟨0, us, [], _, _, _, rfl, Nat.zero_le _, rfl, fun _ _ _ e => e, ef, by rw [List.append_nil]; exact tf, Nat.le_refl _, rfl⟩⟩, ?_⟩
    rintro m σ H1 ⟨w1⟩
    obtain ⟨k, us1, more, u4, u5, u6, rfl, hk, rfl, fr, e1, t1, ml, es⟩ := w1 trivial
    clear w1
    walk_at "rd"
    refine iteD (fun c1 => ?_) (fun c1 => ?_)
    · have c1 : ((k : Nat) : Int) < (z.length : Nat) := c1
      obtain ⟨a, a1, a2, a3⟩ := atI_txt (z := z) (i := (k : Nat)) k (by omega) rfl
      have ed : z.cps.toList.drop k = a :: z.cps.toList.drop (k + 1) := by
        have hl2 : k < z.cps.toList.length := (List.getElem?_eq_some_iff.mp a1).1
        rw [List.drop_eq_getElem_cons hl2]
        have := (List.getElem?_eq_some_iff.mp a1).2
        rw [this]
      rw [ed] at es
      have l35 := lit_one (c := a) (n := 35) (s := "#") (by decide +kernel)
      have l32 := lit_one (c := a) (n := 32) (s := " ") (by decide +kernel)
      have hll : us1.length < sizeLine := by
        have := t1.len
        rw [List.length_append] at this
        rw [sizeLine_eq]
        omega
      refine ⟨_, fun σ' H' h => h, ?_⟩
      walk_at "rd"
      refine iteS (fun h1 => ?_) (fun h1 => ?_)
      · rw [scanL_hash (l35.mp h1), List.append_nil] at es
        walk_at "rd"
        have q1 := q H1 us1 fr e1 (by rw [es]; exact t1)
        rw [es] at q1
        exact q1
      have n35 : a ≠ 35 := fun e => h1 (l35.mpr e)
      refine ⟨_, ?_, fun _ _ h => h⟩
      walk_at "rd"
      refine iteS (fun h2 => ?_) (fun h2 => ?_)
      · walk_at "rd"
        refine ⟨z.length - (k + 1), by omega, wall ⟨k + 1, us1, more, _, _, _, rfl, by omega, rfl, fr, e1, t1, by omega, ?_⟩⟩
        rw [es, scanL_sp n35 (l32.mp h2)]
      have n32 : a ≠ 32 := fun e => h2 (l32.mpr e)
      refine ⟨_, ?_, fun _ _ h => h⟩
      walk_at "rd"
      refine iteD (fun h3 => ?_) (fun h3 => ?_)
      · have g3 : sgn a = true := decide_eq_true h3
        walk_at "rd"
        rename_i pt npt
        refine ⟨z.length - (k + 1), by omega, wall ⟨k + 1, us1 ++ [.ref pt], more ++ [tokRow "sign" (.str ⟨#[a]⟩) num k], _, _, _, rfl, by omega, rfl, fun b o hb e => by rw [upd_ne hb]; exact hp_upd npt (fr b o hb e), upd_same, ?_, by rw [List.length_append]; show more.length + 1 ≤ k + 1; omega, ?_⟩⟩
        · rw [← List.append_assoc]
          exact app_tups e1 npt t1
        · rw [es, scanL_sg n35 n32 g3, List.append_assoc]
          rfl
      have g3 : sgn a = false := decide_eq_false h3
      walk_at "rd"
      refine run_end_go hz hk ?_
      rw [ed]
      obtain ⟨n, hn⟩ : ∃ n, n = ((a :: z.cps.toList.drop (k + 1)).takeWhile runC).length := ⟨_, rfl⟩
      have hnk : k + n ≤ z.length := by
        have h1 := List.Sublist.length_le (List.takeWhile_sublist runC (l := z.cps.toList.drop k))
        rw [ed, ← hn, ← ed, List.length_drop, LB.len_list] at h1
        omega
      rw [← hn]
      walk_at "rd"
      refine iteI (fun h4 => ?_) (fun h4 => ?_)
      · rw [scanL_no n35 n32 g3 (by omega), List.append_nil] at es
        walk_at "rd"
        have q1 := q H1 us1 fr e1 (by rw [es]; exact t1)
        rw [es] at q1
        exact q1
      have n0 : ((a :: z.cps.toList.drop (k + 1)).takeWhile runC).length ≠ 0 := by omega
      have ec := cut_run (z := z) hk
      rw [ed, ← hn] at ec
      walk_at "rd"
      rw [ec]
      have rl : (runS (a :: z.cps.toList.drop (k + 1))).length = n := by rw [hn]; exact List.size_toArray
      dsimp only [tNil, tCons]
      refine kind_of_go (by rw [rl]; omega) (by rw [rl]; omega) ?_
      cases ek : kindO (runS (a :: z.cps.toList.drop (k + 1))) with
      | none =>
        intro H2 s2
        rw [scanL_bad n35 n32 g3 n0 ek, List.append_nil] at es
        walk_at "rd"
        have q1 := q H2 us1 (fun b o hb e => s2 _ _ (fr b o hb e)) (s2 _ _ e1) (by rw [es]; exact t1.same s2)
        rw [es] at q1
        exact q1
      | some kv =>
        obtain ⟨kk, v⟩ := kv
        intro p2 H2 s2 e2
        have e12 := s2 _ _ e1
        have t12 := t1.same s2
        have te := t_of (K := K) e2
        walk_at "rd"
        rename_i pt npt
        refine ⟨z.length - (k + n), by omega, wall ⟨k + n, us1 ++ [.ref pt], more ++ [tokRow kk v num k], _, _, _, rfl, hnk, rfl, fun b o hb e => by rw [upd_ne hb]; exact hp_upd npt (s2 _ _ (fr b o hb e)), upd_same, ?_, by rw [List.length_append]; show more.length + 1 ≤ k + n; omega, ?_⟩⟩
        · rw [← List.append_assoc]
          exact app_tups e12 npt t12
        · have hd : (a :: z.cps.toList.drop (k + 1)).drop n = z.cps.toList.drop (k + n) := by rw [← ed, List.drop_drop]
          rw [es, scanL_tok n35 n32 g3 n0 ek, List.append_assoc, ← hn, hd]
          rfl
    · have c1 : ¬ ((k : Nat) : Int) < (z.length : Nat) := c1
      have : z.cps.toList.drop k = [] := List.drop_eq_nil_of_le (by rw [LB.len_list]; omega)
      rw [this, scanL_nil, List.append_nil] at es
      walk_at "rd"
      have q1 := q H1 us1 fr e1 (by rw [es]; exact t1)
      rw [es] at q1
      exact q1
theorem scan_line_go {H : Hp} {Q : VK} {E : XK} {z : Str} {num : Int} {pf : Addr} {us : List V} {rows : List (List V)} (hz : z.length ≤ 1000000) (ef : H pf = some (.lst us)) (tf : Tups K H us rows) (hl : rows.length + z.length < 16000000) (q : ∀ H' us', (∀ b o, b ≠ pf → H b = some o → H' b = some o) → H' pf = some (.lst us') → Tups K H' us' (rows ++ (scanL z.cps.toList num 0).1) → Q (.int (scanL z.cps.toList num 0).2) H') : sp_scan_line K [.str z, .int num, .ref pf] H Q E := by
  unfold sp_scan_line
  exact ⟨z, num, pf, us, rows, rfl, hz, ef, tf, hl, q⟩

/-! ### scan -/
theorem none_back {H H' : Hp} (s : Same H H') {a : Addr} (h : H' a = none) : H a = none := by
  cases e : H a with
  | none => rfl
  | some o =>
    rw [s _ _ e] at h
    cases h
/-- the lines of a text -/
def linesA : List Nat → List Nat → List (List Nat)
  | acc, [] => [acc]
  | acc, c :: r => if c = 10 then acc :: linesA [] r else linesA (acc ++ [c]) r
theorem spl_lines : ∀ (l acc : List Nat), TL.spl [10] 0 acc l = linesA acc l
  | [], acc => TL.spl_nil _ _ _
  | c :: r, acc => by
    unfold linesA
    by_cases h : c = 10
    · rw [if_pos h, TL.spl_hit (by rw [h]; rfl)]
      show acc :: TL.spl [10] 0 [] r = _
      rw [spl_lines]
    · rw [if_neg h, TL.spl_miss (by simp [TL.pre, h]), spl_lines]
def linesZ (z : Str) : List Str := Txt.split z "\n"
theorem lines_eq2 (z : Str) : (linesZ z).map TL.tl = linesA [] z.cps.toList := by
  have h := TL.split_spl z "\n" (by decide +kernel) (TL.kind_ok (by decide +kernel))
  unfold linesZ
  rw [h]
  have e : TL.tl ("\n" : Str) = [10] := by decide +kernel
  rw [e, spl_lines]
theorem linesA_sum : ∀ (l acc : List Nat), ((linesA acc l).map (·.length)).sum ≤ acc.length + l.length
  | [], acc => by show acc.length + 0 ≤ _; simp
  | c :: r, acc => by
    unfold linesA
    by_cases h : c = 10
    · rw [if_pos h, List.map_cons, List.sum_cons]
      have := linesA_sum r []
      simp at this ⊢
      omega
    · rw [if_neg h]
      have := linesA_sum r (acc ++ [c])
      rw [List.length_append] at this
      simp at this ⊢
      omega
theorem linesA_ne : ∀ (l acc : List Nat), linesA acc l ≠ []
  | [], acc => by intro h; cases h
  | c :: r, acc => by
    unfold linesA
    by_cases h : c = 10
    · rw [if_pos h]; intro h; cases h
    · rw [if_neg h]; exact linesA_ne r _
theorem linesZ_sum (z : Str) : ((linesZ z).map (·.length)).sum ≤ z.length := by
  have h1 : (linesZ z).map (·.length) = ((linesZ z).map TL.tl).map (·.length) := by rw [List.map_map]; rfl
  rw [h1, lines_eq2]
  have := linesA_sum z.cps.toList []
  rw [LB.len_list] at this
  simp at this
  omega
theorem linesZ_ne (z : Str) : linesZ z ≠ [] := by
  intro h
  have := lines_eq2 z
  rw [h] at this
  exact linesA_ne _ _ this.symm
theorem scanL_len : ∀ (n : Nat) (l : List Nat) (num : Int) (a : Nat), l.length ≤ n → (scanL l num a).1.length ≤ l.length
  | 0, [], num, a, _ => by rw [scanL_nil]; exact Nat.le_refl _
  | 0, _ :: _, _, _, h => by simp at h
  | n + 1, [], num, a, _ => by rw [scanL_nil]; exact Nat.le_refl _
  | n + 1, c :: r, num, a, h => by
    have hr : r.length ≤ n := by simpa using h
    by_cases h1 : c = 35
    · rw [scanL_hash h1]; exact Nat.zero_le _
    by_cases h2 : c = 32
    · rw [scanL_sp h1 h2]
      have := scanL_len n r num (a + 1) hr
      simp
      omega
    by_cases h3 : sgn c = true
    · rw [scanL_sg h1 h2 h3]
      have := scanL_len n r num (a + 1) hr
      simpa using this
    have h3 := Bool.eq_false_iff.mpr h3
    by_cases h4 : ((c :: r).takeWhile runC).length = 0
    · rw [scanL_no h1 h2 h3 h4]; exact Nat.zero_le _
    cases ek : kindO (runS (c :: r)) with
    | none => rw [scanL_bad h1 h2 h3 h4 ek]; exact Nat.zero_le _
    | some kv =>
      obtain ⟨kk, v⟩ := kv
      rw [scanL_tok h1 h2 h3 h4 ek]
      have hl : ((c :: r).drop ((c :: r).takeWhile runC).length).length ≤ n := by
        rw [List.length_drop, List.length_cons]
        omega
      have := scanL_len n _ num (a + ((c :: r).takeWhile runC).length) hl
      rw [List.length_drop] at this
      simp only [List.length_cons] at this ⊢
      omega
/-- the tokens of some lines and the first fault -/
def scanT : List Str → Int → List (List V) × Option (Int × Int)
  | [], _ => ([], none)
  | l :: r, num => if 0 < (scanL l.cps.toList (num + 1) 0).2 then ((scanL l.cps.toList (num + 1) 0).1, some (num + 1, (scanL l.cps.toList (num + 1) 0).2)) else ((scanL l.cps.toList (num + 1) 0).1 ++ (scanT r (num + 1)).1, (scanT r (num + 1)).2)
def endRow (z : Str) : List V := [.str "end", .str "", .int (linesZ z).length, .int (((linesZ z).getLastD "").length + 1)]
def lastR (z : Str) : List V := match (scanT (linesZ z) 0).2 with
  | some (n, c) => [.str "fault", .str "", .int n, .int c]
  | none => endRow z
def allR (z : Str) : List (List V) := (scanT (linesZ z) 0).1 ++ [lastR z]
theorem sum_take {l : List Nat} : ∀ i, (l.take i).sum ≤ l.sum := fun i => by
  have h : (l.take i).sum + (l.drop i).sum = l.sum := by rw [← List.sum_append, List.take_append_drop]
  omega
@[irreducible] def sp_scan (K : PySem.W.Frag) : Sp := fun vs H Q E => ∃ (z : Str), vs = [.str z] ∧ z.length ≤ 1000000 ∧ (∀ p H' us, Same H H' → H p = none → H' p = some (.lst us) → Tups K H' us (allR z) → Q (.ref p) H')
theorem ok_scan (T : Txt K mg) : FnOk P w K mg base (L2.CX P w) 8 T.a_scan T.fd_scan ["text"] (sp_scan K) := by
  refine T.F_scan.ok sc_scan (fun vs H Q E h => ?_) (fun cdv A outer s H vs Q E hr h => ?_)
  · unfold sp_scan at h
    obtain ⟨z, rfl, _⟩ := h
    rfl
  · unfold sp_scan at h
    obtain ⟨z, rfl, hz, q⟩ := h
    refine ⟨_, (pss_cons (ps_set (i := 1) sc_scan.nd rfl (Or.inl rfl) (pe_m1 PySem.F.slot_str_split PySem.F.type_str_split mt_spl (pv 0) pe_str))
    (pss_cons (ps_set (i := 2) sc_scan.nd rfl (Or.inl rfl) (pe_lst pa_nil))
    (pss_cons (ps_set (i := 3) sc_scan.nd rfl (Or.inl rfl) pe_int)
    (pss_cons (ps_for (passes_of rfl) rfl (pi_list (pv 1)) (pg_name (i := 4) sc_scan.nd rfl (Or.inl rfl))
      (pss_cons (ps_aug (i := 3) sc_scan.nd rfl (Or.inl rfl) pe_int ip_add)
      (pss_cons (ps_set (i := 5) sc_scan.nd rfl (Or.inl rfl) (pe_callS (ok_scan_line T) (hr.mono (by decide)) rfl T.m_scan_line T.F_scan_line.kp T.b_scan_line (fun σ => passAt (takes_of rfl rfl rfl rfl) σ) (pa_cons (pv 4) (pa_cons (pv 3) (pa_cons (pv 2) pa_nil)))))
      (pss_one (ps_if (pt_cmpR op_gt (pv 5) pe_int (nomark _)) (pss_cons (ps_expr (pe_bm PySem.F.plainAttrs_list PySem.F.slot_list_append PySem.F.type_list_append mt_app (pv 2) (pa_cons (pe_tup (pa_cons pe_str (pa_cons pe_str (pa_cons (pv 3) (pa_cons (pv 5) pa_nil))))) pa_nil)))
        (pss_one (ps_ret (pv 2)))) pss_nil)))))
    (pss_cons (ps_expr (pe_bm PySem.F.plainAttrs_list PySem.F.slot_list_append PySem.F.type_list_append mt_app (pv 2) (pa_cons (pe_tup (pa_cons pe_str (pa_cons pe_str (pa_cons (pv 3) (pa_cons (pe_op op_add (pe_callB call_lenS rfl T.z_len bt_len (pa_cons (pe_ix ix_list (pv 1) (pe_un un_neg pe_int) (fun _ _ => rfl)) pa_nil)) pe_int) pa_nil))))) pa_nil)))
    (pss_one (ps_ret (pv 2)))))))), ?_⟩
    have hzS : z.length + 2 ≤ sizeLine := by rw [sizeLine_eq]; omega
    walk_at "rd"
    refine ⟨⟨_, rfl⟩, ?_⟩
    walk_at "rd"
    rename_i pl npl pf npf
    have hsum := linesZ_sum z
    have hpl : H pf = none := none_back (same_new (o := .lst ((linesZ z).map V.str)) (Same.refl H) npl) npf
    have npfl : pf ≠ pl := (ne_of_none (show (upd H pl (.lst ((linesZ z).map V.str))) pl = some _ from upd_same) npf).symm
    have Ll : SqL K (upd (upd H pl (.lst ((linesZ z).map V.str))) pf (.lst [])) pl ((linesZ z).map V.str) := l_of (hp_upd npf upd_same)
    walk_at "rd"
    refine ⟨⟨_, Ll⟩, for_list (xs := (linesZ z).map V.str) (fun i σ H' => Wall (∃ (us : List V) (rows : List (List V)) (u4 u5 : Option V), σ = [some (.str z), some (.ref pl), some (.ref pf), some (.int (i : Nat)), u4, u5] ∧ Same H H' ∧ H' pl = some (.lst ((linesZ z).map V.str)) ∧ H' pf = some (.lst us) ∧ Tups K H' us rows ∧ rows.length ≤ (((linesZ z).take i).map (·.length)).sum ∧ scanT (linesZ z) 0 = (rows ++ (scanT ((linesZ z).drop i) (i : Nat)).1, (scanT ((linesZ z).drop i) (i : Nat)).2))) (wall ⟨[], [], _, _, rfl, same_new (same_new (Same.refl H) npl) npf, hp_upd npf upd_same, upd_same, Tups.nil, Nat.zero_le _, rfl⟩) ?_ ?_ ?_⟩
    · rintro i σ H' hi ⟨w1⟩
      obtain ⟨us, rows, u4, u5, rfl, s1, el, ef, tf, hr2, es⟩ := w1 trivial
      exact l_of el
    · rintro i x σ H' hx ⟨w1⟩
      obtain ⟨us, rows, u4, u5, rfl, s1, el, ef, tf, hr2, es⟩ := w1 trivial
      clear w1
      rw [List.getElem?_map] at hx
      obtain ⟨l, hl, rfl⟩ := Option.map_eq_some_iff.mp hx
      have ed : (linesZ z).drop i = l :: (linesZ z).drop (i + 1) := by
        have hl2 : i < (linesZ z).length := (List.getElem?_eq_some_iff.mp hl).1
        rw [List.drop_eq_getElem_cons hl2, (List.getElem?_eq_some_iff.mp hl).2]
      have hst := sum_take (l := (linesZ z).map (·.length)) (i + 1)
      have hs1 : (((linesZ z).take (i + 1)).map (·.length)).sum = (((linesZ z).take i).map (·.length)).sum + l.length := by
        rw [List.take_add_one, hl, Option.toList_some, List.map_append, List.sum_append]
        simp
      rw [← List.map_take, hs1] at hst
      have hll : us.length < sizeLine := by
        have := tf.len
        rw [sizeLine_eq]
        omega
      rw [ed] at es
      walk_at "rd"
      refine scan_line_go (by omega) ef tf (by omega) fun H2 us2 fr2 e2 t2 => ?_
      have sL := scanL_len l.cps.toList.length l.cps.toList ((i : Int) + 1) 0 (Nat.le_refl _)
      rw [LB.len_list] at sL
      have s2 : Same H H2 := fun b o e => fr2 b o (fun k => by rw [k, hpl] at e; cases e) (s1 _ _ e)
      have el2 := fr2 _ _ (Ne.symm npfl) el
      have hll2 : us2.length < sizeLine := by
        have h1 := t2.len
        rw [List.length_append] at h1
        rw [sizeLine_eq]
        have h2 : (scanL l.cps.toList ((i : Int) + 1) 0).1.length ≤ l.length := sL
        have h3 : us2.length = rows.length + (scanL l.cps.toList ((i : Int) + 1) 0).1.length := h1
        clear h1 sL
        omega
      walk_at "rd"
      refine iteD (fun c5 => ?_) (fun c5 => ?_)
      · have es2 : scanT (linesZ z) 0 = (rows ++ (scanL l.cps.toList ((i : Int) + 1) 0).1, some ((i : Int) + 1, (scanL l.cps.toList ((i : Int) + 1) 0).2)) := by
          rw [es]
          unfold scanT
          rw [if_pos c5]
        walk_at "rd"
        rename_i pt npt
        refine q pf _ (us2 ++ [.ref pt]) (same_set (same_new s2 npt) hpl) hpl upd_same ?_
        unfold allR lastR
        rw [es2]
        exact app_tups e2 npt t2
      · walk_at "rd"
        refine wall ⟨us2, rows ++ (scanL l.cps.toList ((i : Int) + 1) 0).1, _, _, rfl, s2, el2, e2, t2, ?_, ?_⟩
        · rw [hs1, List.length_append]
          omega
        · rw [es]
          conv => lhs; unfold scanT
          rw [if_neg c5, List.append_assoc]
          rfl
    · rintro σ H' ⟨w1⟩
      obtain ⟨us, rows, u4, u5, rfl, s1, el, ef, tf, hr2, es⟩ := w1 trivial
      rw [List.length_map, List.drop_length] at es
      have hn := linesZ_ne z
      have hll : us.length < sizeLine := by
        have := tf.len
        have hst := sum_take (l := (linesZ z).map (·.length)) ((linesZ z).map V.str).length
        rw [← List.map_take] at hst
        rw [sizeLine_eq]
        omega
      obtain ⟨m, x, em⟩ : ∃ m x, linesZ z = m ++ [x] := ⟨_, _, (List.dropLast_concat_getLast hn).symm⟩
      have ex : (linesZ z).getLastD "" = x := by rw [em, List.getLastD_concat]
      have alast : atI ((linesZ z).map V.str) (-1) = some (.str ((linesZ z).getLastD "")) := by
        rw [ex, em, List.map_append]
        exact atI_last _ _
      have llast : ((linesZ z).getLastD "").length ≤ sizeLine := by
        rw [ex, sizeLine_eq]
        rw [em, List.map_append, List.sum_append] at hsum
        simp at hsum
        omega
      have Ll2 := l_of (K := K) el
      walk_at "rd"
      rename_i pt npt
      refine q pf _ (us ++ [.ref pt]) (same_set (same_new s1 npt) hpl) hpl upd_same ?_
      have e9 : allR z = rows ++ [endRow z] := by
        unfold allR lastR
        rw [es]
        show (rows ++ []) ++ [endRow z] = _
        rw [List.append_nil]
      rw [e9]
      unfold endRow
      have := app_tups (K := K) (r := [.str "end", .str "", .int (((linesZ z).map V.str).length : Nat), .int (((linesZ z).getLastD "").length + 1)]) ef npt tf (o' := .lst (us ++ [.ref pt]))
      rw [List.length_map] at this
      rw [List.length_map]
      exact this
theorem scan_go {H : Hp} {Q : VK} {E : XK} {z : Str} (hz : z.length ≤ 1000000) (q : ∀ p H' us, Same H H' → H p = none → H' p = some (.lst us) → Tups K H' us (allR z) → Q (.ref p) H') : sp_scan K [.str z] H Q E := by
  unfold sp_scan
  exact ⟨z, rfl, hz, q⟩

/-! ### tokens_of -/
@[irreducible] def sp_tokens_of (T : Txt K mg) : Sp := fun vs H Q E => ∃ (z : Str), vs = [.str z] ∧ z.length ≤ 1000000 ∧ (∀ n c, (scanT (linesZ z) 0).2 = some (n, c) → ∀ H', Same H H' → ∀ d, H' d = none → E (.ref T.c_BadText) (some d) (upd H' d (.xd (f_BadText [.int n, .int c, .str "token"])))) ∧ ((scanT (linesZ z) 0).2 = none → ∀ p H' us, Same H H' → H p = none → H' p = some (.lst us) → Tups K H' us ((scanT (linesZ z) 0).1 ++ [endRow z]) → Q (.ref p) H')
theorem ok_tokens_of (T : Txt K mg) : FnOk P w K mg base (L2.CX P w) 9 T.a_tokens_of T.fd_tokens_of ["text"] (sp_tokens_of T) := by
  refine T.F_tokens_of.ok sc_tokens_of (fun vs H Q E h => ?_) (fun cdv A outer s H vs Q E hr h => ?_)
  · unfold sp_tokens_of at h
    obtain ⟨z, rfl, _⟩ := h
    rfl
  · unfold sp_tokens_of at h
    obtain ⟨z, rfl, hz, e, q⟩ := h
    refine ⟨_, (pss_cons (ps_set (i := 1) sc_tokens_of.nd rfl (Or.inl rfl) (pe_callS (ok_scan T) (hr.mono (by decide)) rfl T.m_scan T.F_scan.kp T.b_scan (fun σ => passAt (takes_of rfl rfl rfl rfl) σ) (pa_cons (pv 0) pa_nil)))
    (pss_cons (ps_set (i := 2) sc_tokens_of.nd rfl (Or.inl rfl) (pe_ix ix_list (pv 1) (pe_un un_neg pe_int) (fun _ _ => rfl)))
    (pss_cons (ps_if (pt_cmpR op_eq (pe_ix ix_tup (pv 2) pe_int (fun _ _ => rfl)) pe_str (nomark _)) (pss_one (ps_raiseX rfl (takes_of rfl rfl rfl rfl) (okx_BadText T) (by decide) (hr.mono (by decide)) rfl T.m_BadText (pa_cons (pe_ix ix_tup (pv 2) pe_int (fun _ _ => rfl)) (pa_cons (pe_ix ix_tup (pv 2) pe_int (fun _ _ => rfl)) (pa_cons pe_str pa_nil))))) pss_nil)
    (pss_one (ps_ret (pv 1)))))), ?_⟩
    walk_at "rd"
    refine scan_go hz fun p H1 us s1 np e1 t1 => ?_
    have L1 := l_of (K := K) e1
    unfold allR lastR at t1
    obtain ⟨a, ha, ta⟩ := t1.last
    cases ef : (scanT (linesZ z) 0).2 with
    | some nc =>
      obtain ⟨n, c⟩ := nc
      rw [ef] at ta t1
      dsimp only at ta
      walk_at "rd"
      exact e n c ef H1 s1
    | none =>
      rw [ef] at ta t1
      dsimp only at ta t1
      unfold endRow at ta
      walk_at "rd"
      exact q ef p H1 us s1 np e1 t1
theorem tokens_of_go (T : Txt K mg) {H : Hp} {Q : VK} {E : XK} {z : Str} (hz : z.length ≤ 1000000) (e : ∀ n c, (scanT (linesZ z) 0).2 = some (n, c) → ∀ H', Same H H' → ∀ d, H' d = none → E (.ref T.c_BadText) (some d) (upd H' d (.xd (f_BadText [.int n, .int c, .str "token"])))) (q : (scanT (linesZ z) 0).2 = none → ∀ p H' us, Same H H' → H p = none → H' p = some (.lst us) → Tups K H' us ((scanT (linesZ z) 0).1 ++ [endRow z]) → Q (.ref p) H') : sp_tokens_of T [.str z] H Q E := by
  unfold sp_tokens_of
  exact ⟨z, rfl, hz, e, q⟩
--THEORY
/-! the scan of the rest of a text, from a place on -/
theorem linesA_acc : ∀ (l acc : List Nat), ∃ f t, linesA [] l = f :: t ∧ linesA acc l = (acc ++ f) :: t
  | [], acc => ⟨[], [], rfl, by rw [List.append_nil]; rfl⟩
  | c :: r, acc => by
    by_cases h : c = 10
    · refine ⟨[], linesA [] r, ?_, ?_⟩
      · rw [linesA, if_pos h]
      · rw [linesA, if_pos h, List.append_nil]
    · obtain ⟨f, t, h1, h2⟩ := linesA_acc r ([] ++ [c])
      obtain ⟨f2, t2, h3, h4⟩ := linesA_acc r (acc ++ [c])
      rw [h1] at h3
      cases h3
      refine ⟨[c] ++ f, t, ?_, ?_⟩
      · rw [linesA, if_neg h, h2]
        rfl
      · rw [linesA, if_neg h, h4, List.append_assoc]
theorem linesA_ex (l : List Nat) : ∃ f t, linesA [] l = f :: t := by
  obtain ⟨f, t, h, _⟩ := linesA_acc l []
  exact ⟨f, t, h⟩
theorem linesA_cons {c : Nat} {r f : List Nat} {t : List (List Nat)} (h : c ≠ 10) (e : linesA [] r = f :: t) : linesA [] (c :: r) = (c :: f) :: t := by
  obtain ⟨f2, t2, h1, h2⟩ := linesA_acc r ([] ++ [c])
  rw [e] at h1
  cases h1
  rw [linesA, if_neg h, h2]
  rfl
theorem linesA_app {w : List Nat} (h : ∀ c ∈ w, c ≠ 10) {r f : List Nat} {t : List (List Nat)} (e : linesA [] r = f :: t) : linesA [] (w ++ r) = (w ++ f) :: t := by
  induction w with
  | nil => exact e
  | cons c w ih => exact linesA_cons (h c List.mem_cons_self) (ih fun d hd => h d (List.mem_cons_of_mem _ hd))
theorem linesA_nl (r : List Nat) : linesA [] (10 :: r) = [] :: linesA [] r := by rw [linesA, if_pos rfl]
def scanC : List (List Nat) → Int → List (List V) × Option (Int × Int)
  | [], _ => ([], none)
  | l :: r, num => if 0 < (scanL l (num + 1) 0).2 then ((scanL l (num + 1) 0).1, some (num + 1, (scanL l (num + 1) 0).2)) else ((scanL l (num + 1) 0).1 ++ (scanC r (num + 1)).1, (scanC r (num + 1)).2)
theorem scanT_C : ∀ (ls : List Str) (num : Int), scanT ls num = scanC (ls.map TL.tl) num
  | [], _ => rfl
  | l :: r, num => by
    show scanT (l :: r) num = scanC (l.cps.toList :: r.map TL.tl) num
    rw [scanT, scanC, scanT_C r]
def G2 (f : List Nat) (t : List (List Nat)) (ln : Int) (a : Nat) : List (List V) × Option (Int × Int) := if 0 < (scanL f ln a).2 then ((scanL f ln a).1, some (ln, (scanL f ln a).2)) else ((scanL f ln a).1 ++ (scanC t ln).1, (scanC t ln).2)
/-- the tokens of the rest l of a text from line ln, place a on -/
def G (l : List Nat) (ln : Int) (a : Nat) : List (List V) × Option (Int × Int) := G2 ((linesA [] l).headD []) (linesA [] l).tail ln a
section
variable {l r f w : List Nat} {t : List (List Nat)} {ln : Int} {a c : Nat}
theorem G_of (e : linesA [] l = f :: t) : G l ln a = G2 f t ln a := by unfold G; rw [e]; rfl
theorem scan_G (z : Str) : scanT (linesZ z) 0 = G z.cps.toList 1 0 := by
  obtain ⟨f, t, e⟩ := linesA_ex z.cps.toList
  rw [scanT_C, lines_eq2, G_of e, e]
  rfl
theorem G2_0 (h : scanL f ln a = ([], 0)) : G2 f t ln a = scanC t ln := by
  unfold G2
  rw [h, if_neg (by decide)]
  rfl
theorem G_nil : G [] ln a = ([], none) := by
  rw [G_of (f := []) (t := []) rfl, G2_0 scanL_nil]
  rfl
theorem scanC_G (e : linesA [] r = f :: t) : scanC (f :: t) ln = G r (ln + 1) 0 := by
  rw [G_of e]
  rfl
theorem G_nl : G (10 :: r) ln a = G r (ln + 1) 0 := by
  obtain ⟨f, t, e⟩ := linesA_ex r
  rw [G_of (linesA_nl r), G2_0 scanL_nil, e, scanC_G e]
theorem G_sp : G (32 :: r) ln a = G r ln (a + 1) := by
  obtain ⟨f, t, e⟩ := linesA_ex r
  rw [G_of (linesA_cons (by decide) e), G_of e]
  unfold G2
  rw [scanL_sp (by decide) rfl]
theorem G2_tok {row : List V} {f' : List Nat} {a' : Nat} (h : scanL f' ln a' = (row :: (scanL f ln a).1, (scanL f ln a).2)) : G2 f' t ln a' = (row :: (G2 f t ln a).1, (G2 f t ln a).2) := by
  unfold G2
  rw [h]
  by_cases k : 0 < (scanL f ln a).2
  · rw [if_pos k, if_pos k]
  · rw [if_neg k, if_neg k]
    rfl
theorem sgn_ne (h : sgn c = true) : c ≠ 35 ∧ c ≠ 32 ∧ c ≠ 10 := by
  refine ⟨fun e => ?_, fun e => ?_, fun e => ?_⟩ <;> (subst e; revert h; decide +kernel)
theorem run_ne (h : runC c = true) : c ≠ 35 ∧ c ≠ 32 ∧ c ≠ 10 ∧ sgn c = false := by
  have k : ∀ n ∈ ([35, 32, 10] ++ ("{};,()" : Str).cps.toList), runC n = false := by decide +kernel
  refine ⟨fun e => ?_, fun e => ?_, fun e => ?_, ?_⟩
  · rw [e, k 35 (by decide +kernel)] at h; cases h
  · rw [e, k 32 (by decide +kernel)] at h; cases h
  · rw [e, k 10 (by decide +kernel)] at h; cases h
  · refine decide_eq_false fun m => ?_
    rw [k c (List.mem_append_right _ m)] at h
    cases h
theorem G_sg (h : sgn c = true) : G (c :: r) ln a = (tokRow "sign" (.str ⟨#[c]⟩) ln a :: (G r ln (a + 1)).1, (G r ln (a + 1)).2) := by
  obtain ⟨f, t, e⟩ := linesA_ex r
  obtain ⟨h1, h2, h3⟩ := sgn_ne h
  rw [G_of (linesA_cons h3 e), G_of e]
  exact G2_tok (scanL_sg h1 h2 h)
theorem tw_app {p : Nat → Bool} : ∀ {w f : List Nat}, w.all p = true → (∀ c, f.head? = some c → p c = false) → (w ++ f).takeWhile p = w
  | [], [], _, _ => rfl
  | [], c :: f, _, h => by
    show (c :: f).takeWhile p = []
    rw [List.takeWhile_cons_of_neg (by rw [h c rfl]; decide)]
  | x :: w, f, hw, h => by
    rw [List.all_cons, Bool.and_eq_true] at hw
    show (x :: (w ++ f)).takeWhile p = _
    rw [List.takeWhile_cons_of_pos hw.1, tw_app hw.2 h]
theorem head_line (e : linesA [] r = f :: t) : f.head? = none ∨ (∃ c, f.head? = some c ∧ r.head? = some c) := by
  cases r with
  | nil =>
    cases e
    exact .inl rfl
  | cons d r =>
    by_cases h : d = 10
    · subst h
      rw [linesA_nl] at e
      cases e
      exact .inl rfl
    · obtain ⟨f2, t2, e2⟩ := linesA_ex r
      rw [linesA_cons h e2] at e
      cases e
      exact .inr ⟨d, rfl, rfl⟩
theorem G_run {k : Str} {v : V} (hn : w ≠ []) (hw : w.all runC = true) (hk : kindO ⟨w.toArray⟩ = some (k, v)) (hr : ∀ c, r.head? = some c → runC c = false) : G (w ++ r) ln a = (tokRow k v ln a :: (G r ln (a + w.length)).1, (G r ln (a + w.length)).2) := by
  obtain ⟨f, t, e⟩ := linesA_ex r
  have h10 : ∀ c ∈ w, c ≠ 10 := fun c hc => (run_ne (List.all_eq_true.mp hw c hc)).2.2.1
  have hf : ∀ c, f.head? = some c → runC c = false := fun c hc => by
    rcases head_line e with h | ⟨d, h1, h2⟩
    · rw [h] at hc; cases hc
    · rw [h1] at hc
      cases hc
      exact hr _ h2
  rw [G_of (linesA_app h10 e), G_of e]
  cases w with
  | nil => exact absurd rfl hn
  | cons x w =>
    have hx := run_ne (List.all_eq_true.mp hw x List.mem_cons_self)
    have tw : ((x :: (w ++ f)).takeWhile runC) = x :: w := tw_app (w := x :: w) hw hf
    refine G2_tok ?_
    have hs := scanL_tok (c := x) (r := w ++ f) (num := ln) (a := a) (k := k) (v := v) hx.1 hx.2.1 hx.2.2.2 (by rw [tw]; simp) (by unfold runS; rw [tw]; exact hk)
    rw [tw] at hs
    have hd : (x :: (w ++ f)).drop (x :: w).length = f := by
      show ((x :: w) ++ f).drop (x :: w).length = f
      exact List.drop_left
    rw [hd] at hs
    exact hs
theorem G_cm (h : ∀ c ∈ w, c ≠ 10) : G (35 :: (w ++ 10 :: r)) ln a = G r (ln + 1) 0 := by
  obtain ⟨f, t, e⟩ := linesA_ex r
  rw [G_of (linesA_cons (by decide) (linesA_app h (linesA_nl r))), List.append_nil, G2_0 (scanL_hash rfl), e, scanC_G e]
theorem G_cmE (h : ∀ c ∈ w, c ≠ 10) : G (35 :: w) ln a = ([], none) := by
  have e : linesA [] (w ++ []) = (w ++ []) :: [] := linesA_app h rfl
  rw [List.append_nil] at e
  rw [G_of (linesA_cons (by decide) e), G2_0 (scanL_hash rfl)]
  rfl
end
theorem pos_lines : ∀ (l acc : List Nat) (ln : Int), pos l (ln, acc.length) = (ln + (((linesA acc l).length : Nat) : Int) - 1, ((linesA acc l).getLastD []).length)
  | [], acc, ln => by
    show (ln, acc.length) = (ln + 1 - 1, acc.length)
    rw [Int.add_sub_cancel]
  | c :: r, acc, ln => by
    show pos r (if c = 10 then (ln + 1, 0) else (ln, acc.length + 1)) = _
    by_cases h : c = 10
    · rw [if_pos h, linesA, if_pos h]
      have := pos_lines r [] (ln + 1)
      rw [show ((ln + 1, 0) : Int × Nat) = (ln + 1, ([] : List Nat).length) from rfl, this]
      obtain ⟨f, t, e⟩ := linesA_ex r
      rw [e]
      refine Prod.ext ?_ rfl
      simp
      omega
    · rw [if_neg h, linesA, if_neg h]
      have := pos_lines r (acc ++ [c]) ln
      rw [List.length_append] at this
      exact this
/-- a text without tokens -/
def Gap (w : List Nat) : Prop := ∀ (r : List Nat) (ln : Int) (a : Nat), G (w ++ r) ln a = G r (pos w (ln, a)).1 (pos w (ln, a)).2
theorem gap_nil : Gap [] := fun _ _ _ => rfl
theorem gap_app {x y : List Nat} (hx : Gap x) (hy : Gap y) : Gap (x ++ y) := fun r ln a => by rw [List.append_assoc, hx, hy, pos_app]
theorem gap_sp : Gap [32] := fun r ln a => G_sp
theorem gap_nl : Gap [10] := fun r ln a => G_nl
theorem gap_cm {w : List Nat} (h : ∀ c ∈ w, c ≠ 10) : Gap (35 :: (w ++ [10])) := fun r ln a => by
  show G (35 :: ((w ++ [10]) ++ r)) ln a = _
  rw [List.append_assoc]
  show G (35 :: (w ++ 10 :: r)) ln a = _
  rw [G_cm h]
  have : pos (35 :: (w ++ [10])) (ln, a) = (ln + 1, 0) := by
    show pos (w ++ [10]) (ln, a + 1) = _
    rw [pos_app, pos_line w _ h]
    rfl
  rw [this]
theorem gap_rep {x : List Nat} (h : Gap x) : ∀ n, Gap (List.replicate n x).flatten
  | 0 => gap_nil
  | n + 1 => by
    rw [List.replicate_succ, List.flatten_cons]
    exact gap_app h (gap_rep h n)

/-! ### _law_draw -/
/-- the size of a number -/
def ab (c : Int) : Int := if c < 0 then -c else c
theorem ab_nn (c : Int) : 0 ≤ ab c := by unfold ab; split <;> omega
/-- the rest before the i-th limit -/
def dRest (c : Int) (ls : List Int) : Nat → Int
  | 0 => ab c
  | i + 1 => if 1000000000000000000 ≤ ab c ∧ ls.getD i 0 ≤ dRest c ls i then dRest c ls i / ls.getD i 0 else dRest c ls i
def dMix (c : Int) (i : Nat) : Int := ((ab c * 48271 + (0 + (i : Int) + 1) * 69621) % 2147483647 * 16807 + (0 + (i : Int) + 1) * 40692) % 2147483399
/-- the i-th number drawn -/
def dVal (c : Int) (ls : List Int) (i : Nat) : Int :=
  if 1000000000000000000 ≤ ab c ∧ ls.getD i 0 ≤ dRest c ls i then dRest c ls i % ls.getD i 0 else dMix c i % ls.getD i 0
def draw (c : Int) (ls : List Int) : List Int := (List.range ls.length).map (dVal c ls)
theorem dVal_nn (c : Int) (ls : List Int) (i : Nat) (h : 0 < ls.getD i 0) : 0 ≤ dVal c ls i ∧ dVal c ls i < ls.getD i 0 := by
  unfold dVal
  by_cases hh : 1000000000000000000 ≤ ab c ∧ ls.getD i 0 ≤ dRest c ls i
  · rw [if_pos hh]
    exact ⟨Int.emod_nonneg _ (by omega), Int.emod_lt_of_pos _ h⟩
  · rw [if_neg hh]
    exact ⟨Int.emod_nonneg _ (by omega), Int.emod_lt_of_pos _ h⟩
theorem dRest_sz {c : Int} (ls : List Int) (h : Sz 1048600 c) : ∀ i, Sz 1048600 (dRest c ls i)
  | 0 => h.absv
  | i + 1 => by
    unfold dRest
    by_cases hh : 1000000000000000000 ≤ ab c ∧ ls.getD i 0 ≤ dRest c ls i
    · rw [if_pos hh]; exact (dRest_sz ls h i).div
    · rw [if_neg hh]; exact dRest_sz ls h i
theorem dRest_nn (c : Int) (ls : List Int) (h : ∀ z ∈ ls, 0 < z) : ∀ i, 0 ≤ dRest c ls i
  | 0 => ab_nn c
  | i + 1 => by
    have ih := dRest_nn c ls h i
    unfold dRest
    by_cases hh : 1000000000000000000 ≤ ab c ∧ ls.getD i 0 ≤ dRest c ls i
    · rw [if_pos hh, List.getD_eq_getElem?_getD]
      cases e : ls[i]? with
      | none => simp
      | some z => exact Int.ediv_nonneg ih (Int.le_of_lt (h z (List.mem_of_getElem? e)))
    · rw [if_neg hh]; exact ih
@[irreducible] def sp__law_draw (K : PySem.W.Frag) : Sp := fun vs H Q _ => ∃ (c : Int) (p : Addr) (ls : List Int), vs = [.int c, .ref p] ∧ SqL K H p (ls.map V.int) ∧ Sz 1048600 c ∧ (∀ z ∈ ls, 0 < z ∧ Sz 64 z) ∧ ls.length ≤ 1000 ∧
  ∀ r H', Same H H' → H r = none → H' r = some (.lst ((draw c ls).map V.int)) → Q (.ref r) H'
theorem ok__law_draw (T : Txt K mg) : FnOk P w K mg base (L2.CX P w) 1 T.a__law_draw T.fd__law_draw ["cell", "limits"] (sp__law_draw K) := by
  refine T.F__law_draw.ok sc__law_draw (fun vs H Q E h => ?_) (fun cdv A outer s H vs Q E hr h => ?_)
  · unfold sp__law_draw at h
    obtain ⟨c, p, ls, rfl, _⟩ := h
    rfl
  · unfold sp__law_draw at h
    obtain ⟨c, p, ls, rfl, hp, hc, hl, hn, q⟩ := h
    refine ⟨_, (pss_cons (ps_set (i := 2) sc__law_draw.nd rfl (Or.inl rfl) (pe_lst pa_nil))
    (pss_cons (ps_set (i := 3) sc__law_draw.nd rfl (Or.inl rfl) (pe_callB call_abs rfl T.z_abs bt_abs (pa_cons (pv 0) pa_nil)))
    (pss_cons (ps_set (i := 4) sc__law_draw.nd rfl (Or.inl rfl) (pe_cmpR op_ge (pv 3) pe_int (nomark _)))
    (pss_cons (ps_for (passes_of rfl) rfl (pi_range1 rfl T.z_range (pa_cons (pe_callB call_ln rfl T.z_len bt_len (pa_cons (pv 1) pa_nil)) pa_nil)) (pg_name (i := 5) sc__law_draw.nd rfl (Or.inl rfl))
      (pss_one (ps_if (PW.pt (pw_and (pt_val (pv 4)) (pw_and1 (pt_cmpR op_ge (pv 3) (pe_ix ix_list (pv 1) (pv 5) (fun _ _ => rfl)) (nomark _))))) (pss_cons (ps_expr (pe_bm PySem.F.plainAttrs_list PySem.F.slot_list_append PySem.F.type_list_append mt_app (pv 2) (pa_cons (pe_op op_mod (pe_callTy call_int1 rfl T.z_int bt_int (pa_cons (pv 3) pa_nil)) (pe_ix ix_list (pv 1) (pv 5) (fun _ _ => rfl))) pa_nil)))
        (pss_one (ps_set (i := 3) sc__law_draw.nd rfl (Or.inl rfl) (pe_op op_fdivB (pv 3) (pe_ix ix_list (pv 1) (pv 5) (fun _ _ => rfl)))))) (pss_cons (ps_set (i := 6) sc__law_draw.nd rfl (Or.inl rfl) (pe_op op_mod (pe_callTy call_int1 rfl T.z_int bt_int (pa_cons (pe_op op_add (pe_op op_mulB (pe_callB call_abs rfl T.z_abs bt_abs (pa_cons (pv 0) pa_nil)) pe_int) (pe_op op_mulB (pe_op op_add (pv 5) pe_int) pe_int)) pa_nil)) pe_int))
        (pss_cons (ps_set (i := 6) sc__law_draw.nd rfl (Or.inl rfl) (pe_op op_mod (pe_callTy call_int1 rfl T.z_int bt_int (pa_cons (pe_op op_add (pe_op op_mulB (pv 6) pe_int) (pe_op op_mulB (pe_op op_add (pv 5) pe_int) pe_int)) pa_nil)) pe_int))
        (pss_one (ps_expr (pe_bm PySem.F.plainAttrs_list PySem.F.slot_list_append PySem.F.type_list_append mt_app (pv 2) (pa_cons (pe_op op_mod (pe_callTy call_int1 rfl T.z_int bt_int (pa_cons (pv 6) pa_nil)) (pe_ix ix_list (pv 1) (pv 5) (fun _ _ => rfl))) pa_nil)))))))))
    (pss_one (ps_ret (pv 2))))))), ?_⟩
    walk_at "rd"
    rename_i r nr
    rw [map_len]
    have hpos : ∀ i, i < ls.length → 0 < ls.getD i 0 ∧ Sz 64 (ls.getD i 0) := fun i hi => by
      rw [List.getD_eq_getElem?_getD, List.getElem?_eq_getElem hi]
      exact hl _ (List.getElem_mem hi)
    refine ⟨by omega, by omega, for_range (n := ls.length) (fun i σ H' => ∃ k m : Option V, σ = [some (.int c), some (.ref p), some (.ref r), some (.int (dRest c ls i)), some (.bl (decide (1000000000000000000 ≤ ab c))), k, m] ∧ Same H H' ∧ H' r = some (.lst (((List.range i).map (dVal c ls)).map V.int)))
      ⟨none, none, rfl, same_new (Same.refl H) nr, upd_same⟩ ?_ ?_⟩
    · rintro i σ H' hi ⟨k, m, rfl, s1, e1⟩
      have hp' := same_lst s1 hp
      have hx := hpos i hi
      have hle : i < 1000 := by omega
      have hzr := dRest_sz ls hc i
      have hab : Sz 1048600 (if c < 0 then -c else c) := hc.absv
      have hmi : Sz 64 (dMix c i) := ⟨by unfold dMix; omega⟩
      walk_at "rd"
      have hlen : (((List.range i).map (dVal c ls)).map V.int).length < sizeLine := by
        rw [List.length_map, List.length_map, List.length_range, sizeLine_eq]
        omega
      have hi62 : Sz 12 (0 + (i : Int)) := ⟨by omega⟩
      have fin : ∀ (y ρ : Int) (k' m' : Option V), dVal c ls i = y → dRest c ls (i + 1) = ρ → ∃ k'' m'' : Option V, [some (V.int c), some (.ref p), some (.ref r), some (.int ρ), some (.bl (decide (1000000000000000000 ≤ ab c))), k', m'] = [some (.int c), some (.ref p), some (.ref r), some (.int (dRest c ls (i + 1))), some (.bl (decide (1000000000000000000 ≤ ab c))), k'', m''] ∧ Same H (upd H' r (.lst (((List.range i).map (dVal c ls)).map V.int ++ [.int y]))) ∧ upd H' r (.lst (((List.range i).map (dVal c ls)).map V.int ++ [.int y])) r = some (.lst (((List.range (i + 1)).map (dVal c ls)).map V.int)) := fun y ρ k' m' e1 e2 =>
        ⟨k', m', by rw [e2], same_set s1 nr, by rw [upd_same, range_snoc e1]⟩
      have hix : atI (ls.map V.int) (0 + ((i : Nat) : Int)) = some (V.int (ls.getD i 0)) := atI_map hi
      have hx1 := hx.1
      have hx2 := hx.2
      refine iteD (fun hg => ?_) (fun hg => ?_)
      · walk_at "rd"
        refine iteD (fun hge => ?_) (fun hge => ?_)
        · have a1 : dVal c ls i = dRest c ls i % ls.getD i 0 := if_pos ⟨hg, hge⟩
          have a2 : dRest c ls (i + 1) = dRest c ls i / ls.getD i 0 := if_pos ⟨hg, hge⟩
          have cd := CD.of (i := dRest c ls i) hx.1 hx.2
          have hp'' := same_lst (same_set (o := .lst (((List.range i).map (dVal c ls)).map V.int ++ [.int (dRest c ls i % ls.getD i 0)])) s1 nr) hp
          walk_at "rd"
          exact fin _ _ _ _ a1 a2
        · have a1 : dVal c ls i = dMix c i % ls.getD i 0 := if_neg fun z => hge z.2
          have a2 : dRest c ls (i + 1) = dRest c ls i := if_neg fun z => hge z.2
          walk_at "rd"
          exact fin _ _ _ _ a1 a2
      · have a1 : dVal c ls i = dMix c i % ls.getD i 0 := if_neg fun z => hg z.1
        have a2 : dRest c ls (i + 1) = dRest c ls i := if_neg fun z => hg z.1
        walk_at "rd"
        exact fin _ _ _ _ a1 a2
    · rintro σ H' ⟨k, m, rfl, s1, e1⟩
      walk_at "rd"
      exact q r H' s1 nr e1
theorem draw_go2 {H : Hp} {Q : VK} {E : XK} {c : Int} {p : Addr} {ls : List Int} (hp : SqL K H p (ls.map V.int)) (hc : Sz 1048600 c) (hl : ∀ z ∈ ls, 0 < z ∧ Sz 64 z) (hn : ls.length ≤ 1000)
    (q : ∀ r H', Same H H' → H r = none → H' r = some (.lst ((draw c ls).map V.int)) → Q (.ref r) H') : sp__law_draw K [.int c, .ref p] H Q E := by
  unfold sp__law_draw
  exact ⟨c, p, ls, rfl, hp, hc, hl, hn, q⟩
theorem draw_go {H : Hp} {Q : VK} {E : XK} {c : Int} {p : Addr} {ls : List Int} (hp : SqL K H p (ls.map V.int)) (hc : Sz 1048576 c) (hl : ∀ z ∈ ls, 0 < z ∧ Sz 64 z) (hn : ls.length ≤ 1000)
    (q : ∀ r H', Same H H' → H r = none → H' r = some (.lst ((draw c ls).map V.int)) → Q (.ref r) H') : sp__law_draw K [.int c, .ref p] H Q E := draw_go2 hp (hc.mono (by decide)) hl hn q
theorem draw_rep {c v : Int} (n : Nat) (hv : 0 < v) : (draw c (List.replicate n v)).length = n ∧ ∀ z ∈ draw c (List.replicate n v), 0 ≤ z ∧ z < v := by
  unfold draw
  refine ⟨by rw [List.length_map, List.length_range, List.length_replicate], fun z hz => ?_⟩
  obtain ⟨i, hi, rfl⟩ := List.mem_map.mp hz
  rw [List.mem_range, List.length_replicate] at hi
  have e : (List.replicate n v).getD i 0 = v := by
    rw [List.getD_eq_getElem?_getD, List.getElem?_replicate, if_pos hi]
    rfl
  have h2 := dVal_nn c (List.replicate n v) i (by rw [e]; exact hv)
  rw [e] at h2
  exact h2
/-- n numbers below v -/
theorem draw_rep_go2 {H : Hp} {Q : VK} {E : XK} {c v : Int} {n : Nat} {p : Addr} (hp : H p = some (.lst ((List.range n).map fun _ => .int v))) (hc : Sz 1048600 c) (hv : 0 < v) (hv2 : v < 18446744073709551616) (hn : n ≤ 1000)
    (q : ∀ (r : Addr) (ds : List Int) (H' : Hp), Same H H' → H r = none → H' r = some (.lst (ds.map V.int)) → ds.length = n → (∀ z ∈ ds, 0 ≤ z ∧ z < v) → Q (.ref r) H') : sp__law_draw K [.int c, .ref p] H Q E := by
  rw [range_rep] at hp
  have := draw_rep (c := c) n hv
  refine draw_go2 (l_of hp) hc (fun z hz => ?_) (by rw [List.length_replicate]; exact hn) fun r H' s hr e => q r _ H' s hr e this.1 this.2
  rw [List.mem_replicate] at hz
  rw [hz.2]
  exact ⟨hv, ⟨by omega⟩⟩
theorem draw_rep_go {H : Hp} {Q : VK} {E : XK} {c v : Int} {n : Nat} {p : Addr} (hp : H p = some (.lst ((List.range n).map fun _ => .int v))) (hc : Sz 1048576 c) (hv : 0 < v) (hv2 : v < 18446744073709551616) (hn : n ≤ 1000)
    (q : ∀ (r : Addr) (ds : List Int) (H' : Hp), Same H H' → H r = none → H' r = some (.lst (ds.map V.int)) → ds.length = n → (∀ z ∈ ds, 0 ≤ z ∧ z < v) → Q (.ref r) H') : sp__law_draw K [.int c, .ref p] H Q E := draw_rep_go2 hp (hc.mono (by decide)) hv hv2 hn q
theorem lims_ok {ls : List Int} (h : ls.all (fun z => decide (0 < z) && decide (z < 18446744073709551616)) = true) : ∀ z ∈ ls, 0 < z ∧ Sz 64 z := fun z hz => by
  have h1 := Bool.and_eq_true_iff.mp (List.all_eq_true.mp h z hz)
  have h2 := of_decide_eq_true h1.1
  have h3 := of_decide_eq_true h1.2
  exact ⟨h2, ⟨by omega⟩⟩
/-- each below its limit -/
def WB : List Int → List Int → Prop
  | ds, [] => ds = []
  | ds, l :: ls => ∃ z r, ds = z :: r ∧ 0 ≤ z ∧ z < l ∧ WB r ls
theorem wb_of : ∀ {ls ds : List Int}, ds.length = ls.length → (∀ i, i < ls.length → 0 ≤ ds.getD i 0 ∧ ds.getD i 0 < ls.getD i 0) → WB ds ls
  | [], ds, h, _ => List.length_eq_zero_iff.mp h
  | l :: ls, [], h, _ => by cases h
  | l :: ls, z :: r, h, b => by
    have b0 := b 0 (Nat.succ_pos _)
    exact ⟨z, r, rfl, b0.1, b0.2, wb_of (by simpa using h) fun i hi => b (i + 1) (Nat.succ_lt_succ hi)⟩
theorem draw_wb {c : Int} {ls : List Int} (h : ∀ z ∈ ls, 0 < z) : WB (draw c ls) ls := by
  refine wb_of (by unfold draw; rw [List.length_map, List.length_range]) fun i hi => ?_
  have hm : ls.getD i 0 ∈ ls := by
    rw [List.getD_eq_getElem?_getD, List.getElem?_eq_getElem hi]
    exact List.getElem_mem _
  have e : (draw c ls).getD i 0 = dVal c ls i := by
    unfold draw
    rw [List.getD_eq_getElem?_getD, List.getElem?_map, List.getElem?_range hi]
    rfl
  rw [e]
  exact dVal_nn c ls i (h _ hm)
theorem draw_goW {H : Hp} {Q : VK} {E : XK} {c : Int} {p : Addr} {ls : List Int} (hp : SqL K H p (ls.map V.int)) (hc : Sz 1048600 c) (hl : ∀ z ∈ ls, 0 < z ∧ Sz 64 z) (hn : ls.length ≤ 1000)
    (q : ∀ r ds H', Same H H' → H r = none → H' r = some (.lst (ds.map V.int)) → WB ds ls → Q (.ref r) H') : sp__law_draw K [.int c, .ref p] H Q E :=
  draw_go2 hp hc hl hn fun r H' s hr e => q r _ H' s hr e (draw_wb fun z hz => (hl z hz).1)
theorem wb_len : ∀ {ls ds : List Int}, WB ds ls → ds.length = ls.length
  | [], ds, h => by rw [show ds = [] from h]
  | l :: ls, ds, h => by
    obtain ⟨z, r, rfl, _, _, h⟩ := h
    rw [List.length_cons, List.length_cons, wb_len h]
theorem wb_nn : ∀ {ls ds : List Int}, WB ds ls → ∀ z ∈ ds, 0 ≤ z
  | [], ds, h, z, hz => by rw [show ds = [] from h] at hz; cases hz
  | l :: ls, ds, h, z, hz => by
    obtain ⟨y, r, rfl, h0, _, h⟩ := h
    rcases List.mem_cons.mp hz with e | e
    · rw [e]; exact h0
    · exact wb_nn h z e

/-! ### _law_space -/
@[irreducible] def rMulS : R2 := fun x y H Q => ∃ (a : Str) (n : Int), x = .str a ∧ y = .int n ∧ MulOk a n ∧ Q (.str (Txt.mul a n)) H
theorem op_mulS {X : Cx} : OpR X (binaryOp .Mult) rMulS := by
  intro pins s σ H x y v u Q I rx ry h
  unfold rMulS at h
  obtain ⟨a, n, rfl, rfl, hok, q⟩ := h
  obtain ⟨t, rfl⟩ := rx
  obtain ⟨t', rfl⟩ := ry
  exact PySem.SB.mul hok fun t' k => ⟨.str (Txt.mul a n), H, I.tok k, ⟨t', rfl⟩, q⟩
theorem mulS_go {H : Hp} {Q : VK} {a : Str} {n : Int} (hok : MulOk a n) (q : Q (.str (Txt.mul a n)) H) : rMulS (.str a) (.int n) H Q := by
  unfold rMulS
  exact ⟨a, n, rfl, rfl, hok, q⟩
def noteL : List Nat := (" note; A1 @ " : Str).cps.toList
/-- the forms of a gap -/
def GapF (l : List Nat) : Prop := (∃ n, l = List.replicate (n + 1) 32) ∨ (∃ m n, l = List.replicate (m + 1) 10 ++ List.replicate n 32) ∨ (∃ c, c ≠ 10 ∧ l = [32, 35] ++ (noteL ++ [c]) ++ [10]) ∨ l = [32, 35, 10, 10, 32]
theorem mul_sp : ∀ n : Nat, n < 6 → MulOk " " (n : Int) ∧ (Txt.mul " " (n : Int)).cps.toList = List.replicate n 32 := by
  intro n hn
  have h : n = 0 ∨ n = 1 ∨ n = 2 ∨ n = 3 ∨ n = 4 ∨ n = 5 := by omega
  unfold MulOk
  rcases h with rfl | rfl | rfl | rfl | rfl | rfl <;> exact ⟨⟨by decide +kernel, by decide +kernel, by decide +kernel⟩, by decide +kernel⟩
theorem mul_nl : ∀ n : Nat, n < 6 → MulOk "\n" (n : Int) ∧ (Txt.mul "\n" (n : Int)).cps.toList = List.replicate n 10 := by
  intro n hn
  have h : n = 0 ∨ n = 1 ∨ n = 2 ∨ n = 3 ∨ n = 4 ∨ n = 5 := by omega
  unfold MulOk
  rcases h with rfl | rfl | rfl | rfl | rfl | rfl <;> exact ⟨⟨by decide +kernel, by decide +kernel, by decide +kernel⟩, by decide +kernel⟩
@[irreducible] def sp__law_space : Sp := fun vs H Q E => ∃ (c : Int), vs = [.int c] ∧ Sz 1048590 c ∧ (∀ z H', Same H H' → z.length ≤ 30 → GapF z.cps.toList → Q (.str z) H')
theorem ok__law_space (T : Txt K mg) : FnOk P w K mg base (L2.CX P w) 2 T.a__law_space T.fd__law_space ["cell"] sp__law_space := by
  refine T.F__law_space.ok sc__law_space (fun vs H Q E h => ?_) (fun cdv A outer s H vs Q E hr h => ?_)
  · unfold sp__law_space at h
    obtain ⟨c, rfl, _⟩ := h
    rfl
  · unfold sp__law_space at h
    obtain ⟨c, rfl, cs, q⟩ := h
    refine ⟨_, (pss_cons (ps_set (i := 1) sc__law_space.nd rfl (Or.inl rfl) (pe_callS (ok__law_draw T) (hr.mono (by decide)) rfl T.m__law_draw T.F__law_draw.kp T.b__law_draw (fun σ => passAt (takes_of rfl rfl rfl rfl) σ) (pa_cons (pv 0) (pa_cons (pe_lst (pa_cons pe_int (pa_cons pe_int (pa_cons pe_int pa_nil)))) pa_nil))))
    (pss_cons (ps_if (pt_cmpR op_lt (pe_ix ix_list (pv 1) pe_int (fun _ _ => rfl)) pe_int (nomark _)) (pss_one (ps_ret (pe_op op_mulS pe_str (pe_op op_add pe_int (pe_ix ix_list (pv 1) pe_int (fun _ _ => rfl)))))) pss_nil)
    (pss_cons (ps_if (pt_cmpR op_eq (pe_ix ix_list (pv 1) pe_int (fun _ _ => rfl)) pe_int (nomark _)) (pss_one (ps_ret (pe_op op_addS (pe_op op_mulS pe_str (pe_op op_add pe_int (pe_op op_mod (pe_callTy call_int1 rfl T.z_int bt_int (pa_cons (pe_ix ix_list (pv 1) pe_int (fun _ _ => rfl)) pa_nil)) pe_int))) (pe_op op_mulS pe_str (pe_ix ix_list (pv 1) pe_int (fun _ _ => rfl)))))) pss_nil)
    (pss_cons (ps_if (pt_cmpR op_eq (pe_ix ix_list (pv 1) pe_int (fun _ _ => rfl)) pe_int (nomark _)) (pss_one (ps_ret (pe_op op_addS (pe_op op_addS pe_str (pe_ix ix_ss pe_str (pe_op op_mod (pe_callTy call_int1 rfl T.z_int bt_int (pa_cons (pe_ix ix_list (pv 1) pe_int (fun _ _ => rfl)) pa_nil)) pe_int) (fun _ _ => rfl))) pe_str))) pss_nil)
    (pss_one (ps_ret pe_str)))))), ?_⟩
    walk_at "rd"
    rename_i p0 np0
    refine draw_goW (ls := [8, 4, 26]) (l_of upd_same) (cs.mono (by decide)) (lims_ok (by decide +kernel)) (by decide) fun pd ds H1 s1 nr1 e1 w1 => ?_
    obtain ⟨d0, _, rfl, d0a, d0b, d1, _, rfl, d1a, d1b, d2, _, rfl, d2a, d2b, rfl⟩ := w1
    have Ld := l_of (K := K) e1
    have s01 := (same_new (o := .lst [.int 8, .int 4, .int 26]) (Same.refl H) np0).trans s1
    obtain ⟨m1, hm1, rfl⟩ : ∃ m : Nat, m < 4 ∧ d1 = (m : Int) := ⟨d1.toNat, by omega, by omega⟩
    have ms := mul_sp m1 (by omega)
    have ms1 := mul_sp (m1 + 1) (by omega)
    have en : ((m1 + 1 : Nat) : Int) = 1 + (m1 : Int) := by omega
    rw [en] at ms1
    walk_at "rd"
    refine iteD (fun k1 => ?_) (fun k1 => ?_)
    · walk_at "rd"
      refine mulS_go ms1.1 ?_
      refine q _ _ s01 ?_ (.inl ⟨m1, ms1.2⟩)
      rw [← LB.len_list, ms1.2, List.length_replicate]
      omega
    walk_at "rd"
    refine iteI (fun k2 => ?_) (fun k2 => ?_)
    · obtain ⟨m2, hm2, e2⟩ : ∃ m : Nat, m < 2 ∧ (m1 : Int) % 2 = (m : Int) := ⟨((m1 : Int) % 2).toNat, by omega, by omega⟩
      have mn := mul_nl (m2 + 1) (by omega)
      have en2 : ((m2 + 1 : Nat) : Int) = 1 + (m1 : Int) % 2 := by omega
      rw [en2] at mn
      have la : (Txt.mul "\n" (1 + (m1 : Int) % 2)).length = m2 + 1 := by rw [← LB.len_list, mn.2, List.length_replicate]
      have lb : (Txt.mul " " (m1 : Int)).length = m1 := by rw [← LB.len_list, ms.2, List.length_replicate]
      walk_at "rd"
      refine mulS_go mn.1 ?_
      walk_at "rd"
      refine mulS_go ms.1 ?_
      refine addS_go (by rw [sizeLine_eq]; omega) ?_
      refine q _ _ s01 (by rw [len_app]; omega) (.inr (.inl ⟨m2, m1, ?_⟩))
      rw [tl_app, mn.2, ms.2]
    walk_at "rd"
    refine iteI (fun k3 => ?_) (fun k3 => ?_)
    · obtain ⟨cc, hc1, hc2⟩ : ∃ cc, atI ("xyz!=+~" : Str).cps.toList (d2 % 7) = some cc ∧ cc ≠ 10 := by
        have h : d2 % 7 = 0 ∨ d2 % 7 = 1 ∨ d2 % 7 = 2 ∨ d2 % 7 = 3 ∨ d2 % 7 = 4 ∨ d2 % 7 = 5 ∨ d2 % 7 = 6 := by omega
        rcases h with h | h | h | h | h | h | h <;> (rw [h]; exact ⟨_, rfl, by decide +kernel⟩)
      have l1 : LL 1 (⟨#[cc]⟩ : Str) := ⟨Nat.le_refl 1⟩
      walk_at "rd"
      refine q _ _ s01 (LL.mono (n := 30) (((LL.lit (n := 20) (by decide +kernel)).app l1).app (LL.lit (n := 1) (by decide +kernel))) (by decide)).le (.inr (.inr (.inl ⟨cc, hc2, ?_⟩)))
      rw [tl_app, tl_app]
      have e1 : (" # note; A1 @ " : Str).cps.toList = [32, 35] ++ noteL := by decide +kernel
      have e2 : ("\n" : Str).cps.toList = [10] := by decide +kernel
      rw [e1, e2, List.append_assoc, List.append_assoc]
      show _ = [32, 35] ++ (noteL ++ [cc]) ++ [10]
      rw [List.append_assoc, List.append_assoc]
    walk_at "rd"
    refine q _ _ s01 (by decide +kernel) (.inr (.inr (.inr ?_)))
    decide +kernel
theorem _law_space_go {H : Hp} {Q : VK} {E : XK} {c : Int} (cs : Sz 1048590 c) (q : ∀ z H', Same H H' → z.length ≤ 30 → GapF z.cps.toList → Q (.str z) H') : sp__law_space [.int c] H Q E := by
  unfold sp__law_space
  exact ⟨c, rfl, cs, q⟩

/-! ### _law_token -/
/-- a token: its kind and its value -/
def TokV (k : Str) (v : V) : Prop :=
  (k = "word" ∧ ∃ z, v = .str z ∧ wordB z = true ∧ 1 ≤ z.length ∧ z.length ≤ 10) ∨ (k = "date" ∧ ∃ d : Int, v = .int d ∧ 0 ≤ d ∧ d ≤ 73048) ∨ (k = "number" ∧ ∃ d : Int, v = .int d ∧ 0 ≤ d ∧ d < 1000000000000) ∨ (k = "amount" ∧ ∃ d : Int, v = .int d ∧ 0 ≤ d ∧ d ≤ 1000000000000) ∨ (k = "percent" ∧ ∃ d : Int, v = .int d ∧ 0 ≤ d ∧ d ≤ 1000000) ∨ (k = "sign" ∧ ∃ c, v = .str ⟨#[c]⟩ ∧ c ∈ ("{};,()" : Str).cps.toList)
theorem small_at {i : Int} (h0 : 0 ≤ i) (h : i < 36) : ∃ c, atI ("abcdefghijklmnopqrstuvwxyz0123456789" : Str).cps.toList i = some c ∧ wordC c = true ∧ (i < 26 → lowC c = true) := by
  obtain ⟨n, rfl⟩ : ∃ n : Nat, i = n := ⟨i.toNat, by omega⟩
  have k : ∀ n : Nat, n < 36 → ∃ c, ("abcdefghijklmnopqrstuvwxyz0123456789" : Str).cps.toList[n]? = some c ∧ wordC c = true ∧ (n < 26 → lowC c = true) := by
    have : ∀ n : Nat, n < 36 → (match ("abcdefghijklmnopqrstuvwxyz0123456789" : Str).cps.toList[n]? with | some c => wordC c && (!decide (n < 26) || lowC c) | none => false) = true := by decide +kernel
    intro n hn
    have h := this n hn
    cases e : ("abcdefghijklmnopqrstuvwxyz0123456789" : Str).cps.toList[n]? with
    | none => rw [e] at h; cases h
    | some c =>
      rw [e] at h
      simp only [Bool.and_eq_true, Bool.or_eq_true, Bool.not_eq_true', decide_eq_false_iff_not] at h
      exact ⟨c, rfl, h.1, fun hl => h.2.elim (fun z => absurd hl z) id⟩
  obtain ⟨c, h1, h2, h3⟩ := k n (by omega)
  exact ⟨c, atI_nat h1, h2, fun hl => h3 (by omega)⟩
@[irreducible] def sp__law_token : Sp := fun vs H Q E => ∃ (c : Int), vs = [.int c] ∧ Sz 1048590 c ∧ (∀ k v p H', Same H H' → TokV k v → H' p = some (.tup [.str k, v]) → Q (.ref p) H')
theorem ok__law_token (T : Txt K mg) : FnOk P w K mg base (L2.CX P w) 2 T.a__law_token T.fd__law_token ["cell"] sp__law_token := by
  refine T.F__law_token.ok sc__law_token (fun vs H Q E h => ?_) (fun cdv A outer s H vs Q E hr h => ?_)
  · unfold sp__law_token at h
    obtain ⟨c, rfl, _⟩ := h
    rfl
  · unfold sp__law_token at h
    obtain ⟨c, rfl, cs, q⟩ := h
    refine ⟨_, (pss_cons (ps_set (i := 1) sc__law_token.nd rfl (Or.inl rfl) (pe_callS (ok__law_draw T) (hr.mono (by decide)) rfl T.m__law_draw T.F__law_draw.kp T.b__law_draw (fun σ => passAt (takes_of rfl rfl rfl rfl) σ) (pa_cons (pv 0) (pa_cons (pe_lst (pa_cons pe_int (pa_cons pe_int (pa_cons pe_int (pa_cons pe_int (pa_cons pe_int (pa_cons pe_int (pa_cons pe_int (pa_cons pe_int (pa_cons pe_int pa_nil)))))))))) pa_nil))))
    (pss_cons (ps_set (i := 2) sc__law_token.nd rfl (Or.inl rfl) pe_str)
    (pss_cons (ps_set (i := 3) sc__law_token.nd rfl (Or.inl rfl) (pe_op op_fdivB (pe_ix ix_list (pv 1) pe_int (fun _ _ => rfl)) (pe_ix ix_list (pe_lst (pa_cons pe_int (pa_cons pe_int (pa_cons pe_int (pa_cons pe_int pa_nil))))) (pe_op op_mod (pe_callTy call_int1 rfl T.z_int bt_int (pa_cons (pe_ix ix_list (pv 1) pe_int (fun _ _ => rfl)) pa_nil)) pe_int) (fun _ _ => rfl))))
    (pss_cons (ps_if (pt_cmpR op_eq (pe_ix ix_list (pv 1) pe_int (fun _ _ => rfl)) pe_int (nomark _)) (pss_cons (ps_set (i := 4) sc__law_token.nd rfl (Or.inl rfl) (pe_op op_addS (pe_op op_addS (pe_ix ix_ss (pv 2) (pe_op op_mod (pe_callTy call_int1 rfl T.z_int bt_int (pa_cons (pe_ix ix_list (pv 1) pe_int (fun _ _ => rfl)) pa_nil)) pe_int) (fun _ _ => rfl)) (pe_ix ix_ss (pv 2) (pe_ix ix_list (pv 1) pe_int (fun _ _ => rfl)) (fun _ _ => rfl))) (pe_ix ix_ss (pv 2) (pe_ix ix_list (pv 1) pe_int (fun _ _ => rfl)) (fun _ _ => rfl))))
      (pss_one (ps_ret (pe_tup (pa_cons pe_str (pa_cons (pe_ix ix_list (pe_lst (pa_cons (pv 4) (pa_cons (pe_slice sl_ss (pv 4) po_none (po_some pe_int)) (pa_cons pe_str (pa_cons pe_str (pa_cons (pe_op op_addS (pe_op op_addS (pv 4) pe_str) (pv 4)) (pa_cons (pe_op op_addS pe_str (pv 4)) pa_nil))))))) (pe_ix ix_list (pv 1) pe_int (fun _ _ => rfl)) (fun _ _ => rfl)) pa_nil)))))) pss_nil)
    (pss_cons (ps_if (pt_cmpR op_eq (pe_ix ix_list (pv 1) pe_int (fun _ _ => rfl)) pe_int (nomark _)) (pss_one (ps_ret (pe_tup (pa_cons pe_str (pa_cons (pe_ix ix_list (pv 1) pe_int (fun _ _ => rfl)) pa_nil))))) pss_nil)
    (pss_cons (ps_if (pt_cmpR op_eq (pe_ix ix_list (pv 1) pe_int (fun _ _ => rfl)) pe_int (nomark _)) (pss_one (ps_ret (pe_tup (pa_cons pe_str (pa_cons (pv 3) pa_nil))))) pss_nil)
    (pss_cons (ps_if (pt_cmpR op_eq (pe_ix ix_list (pv 1) pe_int (fun _ _ => rfl)) pe_int (nomark _)) (pss_one (ps_ret (pe_tup (pa_cons pe_str (pa_cons (pe_ix ix_list (pe_lst (pa_cons (pe_ix ix_list (pv 1) pe_int (fun _ _ => rfl)) (pa_cons pe_int (pa_cons (pe_ix ix_list (pv 1) pe_int (fun _ _ => rfl)) (pa_cons pe_int pa_nil))))) (pe_op op_mod (pe_callTy call_int1 rfl T.z_int bt_int (pa_cons (pe_ix ix_list (pv 1) pe_int (fun _ _ => rfl)) pa_nil)) pe_int) (fun _ _ => rfl)) pa_nil))))) pss_nil)
    (pss_cons (ps_if (pt_cmpR op_eq (pe_ix ix_list (pv 1) pe_int (fun _ _ => rfl)) pe_int (nomark _)) (pss_one (ps_ret (pe_tup (pa_cons pe_str (pa_cons (pe_ix ix_list (pe_lst (pa_cons (pe_op op_mod (pe_callTy call_int1 rfl T.z_int bt_int (pa_cons (pe_ix ix_list (pv 1) pe_int (fun _ _ => rfl)) pa_nil)) pe_int) (pa_cons pe_int (pa_cons (pe_op op_mulB pe_int (pe_ix ix_list (pv 1) pe_int (fun _ _ => rfl))) (pa_cons (pe_ix ix_list (pv 1) pe_int (fun _ _ => rfl)) pa_nil))))) (pe_op op_mod (pe_callTy call_int1 rfl T.z_int bt_int (pa_cons (pe_ix ix_list (pv 1) pe_int (fun _ _ => rfl)) pa_nil)) pe_int) (fun _ _ => rfl)) pa_nil))))) pss_nil)
    (pss_one (ps_ret (pe_tup (pa_cons pe_str (pa_cons (pe_ix ix_ss pe_str (pe_ix ix_list (pv 1) pe_int (fun _ _ => rfl)) (fun _ _ => rfl)) pa_nil))))))))))))), ?_⟩
    walk_at "rd"
    rename_i p0 np0
    refine draw_goW (ls := [6, 1000000000000, 73049, 6, 100, 10000, 36, 36, 36]) (l_of upd_same) (cs.mono (by decide)) (lims_ok (by decide +kernel)) (by decide) fun pd ds H1 s1 nr1 e1 w1 => ?_
    obtain ⟨d0, _, rfl, d0a, d0b, d1, _, rfl, d1a, d1b, d2, _, rfl, d2a, d2b, d3, _, rfl, d3a, d3b, d4, _, rfl, d4a, d4b, d5, _, rfl, d5a, d5b, d6, _, rfl, d6a, d6b, d7, _, rfl, d7a, d7b, d8, _, rfl, d8a, d8b, rfl⟩ := w1
    have Ld := l_of (K := K) e1
    have s01 := (same_new (o := .lst [.int 6, .int 1000000000000, .int 73049, .int 6, .int 100, .int 10000, .int 36, .int 36, .int 36]) (Same.refl H) np0).trans s1
    obtain ⟨dv1, hdv, dv0⟩ : ∃ x : Int, atI [V.int 1, V.int 1000, V.int 100000000, V.int 100000000000] (d3 % 4) = some (.int x) ∧ 0 < x ∧ x < 1000000000000 := by
      have h : d3 % 4 = 0 ∨ d3 % 4 = 1 ∨ d3 % 4 = 2 ∨ d3 % 4 = 3 := by omega
      rcases h with h | h | h | h <;> (rw [h]; exact ⟨_, rfl, by decide, by decide⟩)
    have nb : 0 ≤ d1 / dv1 ∧ d1 / dv1 < 1000000000000 := by
      have h1 := Int.ediv_nonneg d1a (show (0 : Int) ≤ dv1 by omega)
      have h2 := Int.ediv_le_self dv1 d1a
      omega
    have cdv : CD d1 dv1 := CD.of (n := 64) dv0.1 ⟨by omega⟩
    obtain ⟨c6, a6, w6, l6⟩ := small_at (i := d6 % 26) (by omega) (by omega)
    have lo6 := l6 (by omega)
    obtain ⟨c7, a7, w7, _⟩ := small_at d7a d7b
    obtain ⟨c8, a8, w8, _⟩ := small_at d8a d8b
    have n6 : LL 1 (⟨#[c6]⟩ : Str) := ⟨Nat.le_refl 1⟩
    have n7 : LL 1 (⟨#[c7]⟩ : Str) := ⟨Nat.le_refl 1⟩
    have n8 : LL 1 (⟨#[c8]⟩ : Str) := ⟨Nat.le_refl 1⟩
    have fin : ∀ k v p H', Same H1 H' → TokV k v → H' p = some (.tup [.str k, v]) → Q (.ref p) H' := fun k v p H' s' => q k v p H' (s01.trans s')
    walk_at "rd"
    refine iteI (fun k0 => ?_) (fun k0 => ?_)
    · have W : ∀ (z : Str) (l : List Nat), z.cps.toList = l → l.all wordC = true → (headC l || decide (47 ∈ l)) = true → 1 ≤ l.length → l.length ≤ 10 → TokV "word" (.str z) := fun z l e h1 h2 h3 h4 => .inl ⟨rfl, z, rfl, by unfold wordB; rw [e, h1, h2]; rfl, by rw [← LB.len_list, e]; exact h3, by rw [← LB.len_list, e]; exact h4⟩
      have e3 : (⟨#[c6]⟩ ++ ⟨#[c7]⟩ ++ ⟨#[c8]⟩ : Str).cps.toList = [c6, c7, c8] := by rw [tl_app, tl_app]; rfl
      have esl : ("/" : Str).cps.toList = [47] := by decide +kernel
      have w47 : wordC 47 = true := by decide
      have hv : ∃ z : Str, atI [V.str (⟨#[c6]⟩ ++ ⟨#[c7]⟩ ++ ⟨#[c8]⟩), .str (cutS (⟨#[c6]⟩ ++ ⟨#[c7]⟩ ++ ⟨#[c8]⟩) none (some 1)), .str "actual/365", .str "30/360", .str (⟨#[c6]⟩ ++ ⟨#[c7]⟩ ++ ⟨#[c8]⟩ ++ "/" ++ (⟨#[c6]⟩ ++ ⟨#[c7]⟩ ++ ⟨#[c8]⟩)), .str ("/" ++ (⟨#[c6]⟩ ++ ⟨#[c7]⟩ ++ ⟨#[c8]⟩))] d3 = some (.str z) ∧ TokV "word" (.str z) := by
        have h : d3 = 0 ∨ d3 = 1 ∨ d3 = 2 ∨ d3 = 3 ∨ d3 = 4 ∨ d3 = 5 := by omega
        rcases h with rfl | rfl | rfl | rfl | rfl | rfl
        · exact ⟨_, rfl, W _ _ e3 (by simp [w6, w7, w8]) (by show (lowC c6 || _) = true; rw [lo6]; rfl) (Nat.le_of_ble_eq_true (by rfl)) (Nat.le_of_ble_eq_true (by rfl))⟩
        · refine ⟨_, rfl, W _ [c6] ?_ (by simp [w6]) (by show (lowC c6 || _) = true; rw [lo6]; rfl) (Nat.le_of_ble_eq_true (by rfl)) (Nat.le_of_ble_eq_true (by rfl))⟩
          show (((⟨#[c6]⟩ ++ ⟨#[c7]⟩ ++ ⟨#[c8]⟩ : Str).cps.toList.drop 0).take _) = _
          rw [e3]
          rfl
        · exact ⟨_, rfl, W _ _ rfl (by decide +kernel) (by decide +kernel) (by decide +kernel) (by decide +kernel)⟩
        · exact ⟨_, rfl, W _ _ rfl (by decide +kernel) (by decide +kernel) (by decide +kernel) (by decide +kernel)⟩
        · refine ⟨_, rfl, W _ [c6, c7, c8, 47, c6, c7, c8] ?_ (by simp [w6, w7, w8, w47]) (by show (lowC c6 || _) = true; rw [lo6]; rfl) (Nat.le_of_ble_eq_true (by rfl)) (Nat.le_of_ble_eq_true (by rfl))⟩
          rw [tl_app, tl_app, e3, esl]
          rfl
        · refine ⟨_, rfl, W _ [47, c6, c7, c8] ?_ (by simp [w6, w7, w8, w47]) (by simp) (Nat.le_of_ble_eq_true (by rfl)) (Nat.le_of_ble_eq_true (by rfl))⟩
          rw [tl_app, e3, esl]
          rfl
      obtain ⟨z, hz, tz⟩ := hv
      walk_at "rd"
      rename_i p np
      exact fin _ _ p _ (by walk_at "sm") tz upd_same
    walk_at "rd"
    refine iteI (fun k1 => ?_) (fun k1 => ?_)
    · walk_at "rd"
      rename_i p np
      exact fin _ _ p _ (by walk_at "sm") (.inr (.inl ⟨rfl, d2, rfl, by omega, by omega⟩)) upd_same
    walk_at "rd"
    refine iteI (fun k2 => ?_) (fun k2 => ?_)
    · walk_at "rd"
      rename_i p np
      exact fin _ _ p _ (by walk_at "sm") (.inr (.inr (.inl ⟨rfl, _, rfl, nb.1, nb.2⟩))) upd_same
    walk_at "rd"
    refine iteI (fun k3 => ?_) (fun k3 => ?_)
    · obtain ⟨x, hx, x0, x1⟩ : ∃ x : Int, atI [V.int d1, .int 1000000000000, .int d4, .int 0] (d3 % 4) = some (.int x) ∧ 0 ≤ x ∧ x ≤ 1000000000000 := by
        have h : d3 % 4 = 0 ∨ d3 % 4 = 1 ∨ d3 % 4 = 2 ∨ d3 % 4 = 3 := by omega
        rcases h with h | h | h | h <;> (rw [h]; exact ⟨_, rfl, by omega, by omega⟩)
      walk_at "rd"
      rename_i p np
      exact fin _ _ p _ (by walk_at "sm") (.inr (.inr (.inr (.inl ⟨rfl, x, rfl, x0, x1⟩)))) upd_same
    have cm4 : CM 100 d4 := CM.of (m := 64) (n := 64) ⟨by decide⟩ ⟨by omega⟩
    walk_at "rd"
    refine iteI (fun k4 => ?_) (fun k4 => ?_)
    · obtain ⟨x, hx, x0, x1⟩ : ∃ x : Int, atI [V.int (d1 % 1000001), .int 1000000, .int (100 * d4), .int d5] (d3 % 4) = some (.int x) ∧ 0 ≤ x ∧ x ≤ 1000000 := by
        have h : d3 % 4 = 0 ∨ d3 % 4 = 1 ∨ d3 % 4 = 2 ∨ d3 % 4 = 3 := by omega
        rcases h with h | h | h | h <;> (rw [h]; exact ⟨_, rfl, by omega, by omega⟩)
      walk_at "rd"
      rename_i p np
      exact fin _ _ p _ (by walk_at "sm") (.inr (.inr (.inr (.inr (.inl ⟨rfl, x, rfl, x0, x1⟩))))) upd_same
    obtain ⟨cc, hc1, hc2⟩ : ∃ cc, atI ("{};,()" : Str).cps.toList d3 = some cc ∧ cc ∈ ("{};,()" : Str).cps.toList := by
      have h : d3 = 0 ∨ d3 = 1 ∨ d3 = 2 ∨ d3 = 3 ∨ d3 = 4 ∨ d3 = 5 := by omega
      rcases h with h | h | h | h | h | h <;> (rw [h]; exact ⟨_, rfl, by decide +kernel⟩)
    walk_at "rd"
    rename_i p np
    exact fin _ _ p _ (by walk_at "sm") (.inr (.inr (.inr (.inr (.inr ⟨rfl, cc, rfl, hc2⟩))))) upd_same
theorem _law_token_go {H : Hp} {Q : VK} {E : XK} {c : Int} (cs : Sz 1048590 c) (q : ∀ k v p H', Same H H' → TokV k v → H' p = some (.tup [.str k, v]) → Q (.ref p) H') : sp__law_token [.int c] H Q E := by
  unfold sp__law_token
  exact ⟨c, rfl, cs, q⟩

/-! ### _law_leap -/
@[irreducible] def sp__law_leap : Sp := fun vs H Q E => ∃ (y : Int), vs = [.int y] ∧ (Q (.bl (leapB y)) H)
theorem ok__law_leap (T : Txt K mg) : FnOk P w K mg base (L2.CX P w) 1 T.a__law_leap T.fd__law_leap ["year"] sp__law_leap := by
  refine T.F__law_leap.ok sc__law_leap (fun vs H Q E h => ?_) (fun cdv A outer s H vs Q E hr h => ?_)
  · unfold sp__law_leap at h
    obtain ⟨y, rfl, _⟩ := h
    rfl
  · unfold sp__law_leap at h
    obtain ⟨y, rfl, q⟩ := h
    refine ⟨_, (pss_one (ps_ret (pe_and (pe_cmpR op_eq (pe_op op_mod (pe_callTy call_int1 rfl T.z_int bt_int (pa_cons (pv 0) pa_nil)) pe_int) pe_int (nomark _)) (pe_one (pe_or (pe_cmpR op_ne (pe_op op_mod (pe_callTy call_int1 rfl T.z_int bt_int (pa_cons (pv 0) pa_nil)) pe_int) pe_int (nomark _)) (pe_one (pe_cmpR op_eq (pe_op op_mod (pe_callTy call_int1 rfl T.z_int bt_int (pa_cons (pv 0) pa_nil)) pe_int) pe_int (nomark _)))))))), ?_⟩
    walk_at "go"
    all_goals refine q_bl q ?_
    all_goals (unfold leapB leapP; first | (simp only [V.int.injEq, decide_eq_decide]; omega) | (simp [*]; done) | (simp [*]; omega))
theorem _law_leap_go {H : Hp} {Q : VK} {E : XK} {y : Int} (q : Q (.bl (leapB y)) H) : sp__law_leap [.int y] H Q E := by
  unfold sp__law_leap
  exact ⟨y, rfl, q⟩
local macro_rules | `(tactic| walk_at "call") => `(tactic| (apply _law_leap_go))

/-! ### _law_length -/
@[irreducible] def sp__law_length : Sp := fun vs H Q E => ∃ (y : Int) (m : Int), vs = [.int y, .int m] ∧ (1 ≤ m) ∧ (m ≤ 12) ∧ (∀ H', Same H H' → Q (.int (mlen y m)) H')
theorem ok__law_length (T : Txt K mg) : FnOk P w K mg base (L2.CX P w) 2 T.a__law_length T.fd__law_length ["year", "month"] sp__law_length := by
  refine T.F__law_length.ok sc__law_length (fun vs H Q E h => ?_) (fun cdv A outer s H vs Q E hr h => ?_)
  · unfold sp__law_length at h
    obtain ⟨y, m, rfl, _⟩ := h
    rfl
  · unfold sp__law_length at h
    obtain ⟨y, m, rfl, h1, h2, q⟩ := h
    refine ⟨_, (pss_cons (ps_if (pt_cmpR op_eq (pv 1) pe_int (nomark _)) (pss_one (ps_ret (pe_op op_add pe_int (pe_callTy call_int1 rfl T.z_int bt_int (pa_cons (pe_callS (ok__law_leap T) (hr.mono (by decide)) rfl T.m__law_leap T.F__law_leap.kp T.b__law_leap (fun σ => passAt (takes_of rfl rfl rfl rfl) σ) (pa_cons (pv 0) pa_nil)) pa_nil))))) pss_nil)
    (pss_one (ps_ret (pe_ix ix_list (pe_lst (pa_cons pe_int (pa_cons pe_int (pa_cons pe_int (pa_cons pe_int (pa_cons pe_int (pa_cons pe_int (pa_cons pe_int (pa_cons pe_int (pa_cons pe_int (pa_cons pe_int (pa_cons pe_int (pa_cons pe_int pa_nil))))))))))))) (pe_op op_sub (pv 1) pe_int) (fun _ _ => rfl))))), ?_⟩
    walk_at "rd"
    refine iteI (fun e => ?_) (fun e => ?_)
    · subst e
      walk_at "rd"
      have := q H (Same.refl H)
      rw [← mlen_2] at this
      exact this
    · walk_at "rd"
      refine ixL_go (l_of upd_same) (mtab y m h1 h2 e) ?_
      exact q _ (by walk_at "sm")
theorem _law_length_go {H : Hp} {Q : VK} {E : XK} {y : Int} {m : Int} (h1 : 1 ≤ m) (h2 : m ≤ 12) (q : ∀ H', Same H H' → Q (.int (mlen y m)) H') : sp__law_length [.int y, .int m] H Q E := by
  unfold sp__law_length
  exact ⟨y, m, rfl, h1, h2, q⟩
local macro_rules | `(tactic| walk_at "call") => `(tactic| (apply _law_length_go; (first | assumption | omega); (first | assumption | omega)))

/-! ### _law_date -/
@[irreducible] def sp__law_date : Sp := fun vs H Q E => ∃ (d : Int), vs = [.int d] ∧ (0 ≤ d) ∧ (d ≤ 73048) ∧ (∀ (y m x : Int) (p : Addr) (H' : Hp), IsDate y m x → dayOf y m x = d → Same H H' → H' p = some (.tup [.int y, .int m, .int x]) → Q (.ref p) H')
theorem ok__law_date (T : Txt K mg) : FnOk P w K mg base (L2.CX P w) 3 T.a__law_date T.fd__law_date ["day"] sp__law_date := by
  refine T.F__law_date.ok sc__law_date (fun vs H Q E h => ?_) (fun cdv A outer s H vs Q E hr h => ?_)
  · unfold sp__law_date at h
    obtain ⟨d, rfl, _⟩ := h
    rfl
  · unfold sp__law_date at h
    obtain ⟨d, rfl, h1, h2, q⟩ := h
    refine ⟨_, (pss_cons (ps_set (i := 1) sc__law_date.nd rfl (Or.inl rfl) pe_int)
    (pss_cons (ps_set (i := 2) sc__law_date.nd rfl (Or.inl rfl) (pv 0))
    (pss_cons (ps_for (passes_of rfl) rfl (pi_range1 rfl T.z_range (pa_cons pe_int pa_nil)) (pg_name (i := 3) sc__law_date.nd rfl (Or.inl rfl))
      (pss_cons (ps_set (i := 4) sc__law_date.nd rfl (Or.inl rfl) (pe_op op_add pe_int (pe_callTy call_int1 rfl T.z_int bt_int (pa_cons (pe_callS (ok__law_leap T) (hr.mono (by decide)) rfl T.m__law_leap T.F__law_leap.kp T.b__law_leap (fun σ => passAt (takes_of rfl rfl rfl rfl) σ) (pa_cons (pv 1) pa_nil)) pa_nil))))
      (pss_cons (ps_if (pt_cmpR op_lt (pv 2) (pv 4) (nomark _)) (pss_one ps_break) pss_nil)
      (pss_cons (ps_set (i := 2) sc__law_date.nd rfl (Or.inl rfl) (pe_op op_sub (pv 2) (pv 4)))
      (pss_one (ps_set (i := 1) sc__law_date.nd rfl (Or.inl rfl) (pe_op op_add (pv 1) pe_int)))))))
    (pss_cons (ps_set (i := 5) sc__law_date.nd rfl (Or.inl rfl) pe_int)
    (pss_cons (ps_for (passes_of rfl) rfl (pi_range1 rfl T.z_range (pa_cons pe_int pa_nil)) (pg_name (i := 3) sc__law_date.nd rfl (Or.inl rfl))
      (pss_cons (ps_if (pt_cmpR op_lt (pv 2) (pe_callS (ok__law_length T) (hr.mono (by decide)) rfl T.m__law_length T.F__law_length.kp T.b__law_length (fun σ => passAt (takes_of rfl rfl rfl rfl) σ) (pa_cons (pv 1) (pa_cons (pv 5) pa_nil))) (nomark _)) (pss_one ps_break) pss_nil)
      (pss_cons (ps_set (i := 2) sc__law_date.nd rfl (Or.inl rfl) (pe_op op_sub (pv 2) (pe_callS (ok__law_length T) (hr.mono (by decide)) rfl T.m__law_length T.F__law_length.kp T.b__law_length (fun σ => passAt (takes_of rfl rfl rfl rfl) σ) (pa_cons (pv 1) (pa_cons (pv 5) pa_nil)))))
      (pss_one (ps_set (i := 5) sc__law_date.nd rfl (Or.inl rfl) (pe_op op_add (pv 5) pe_int))))))
    (pss_one (ps_ret (pe_tup (pa_cons (pv 1) (pa_cons (pv 5) (pa_cons (pe_op op_add (pv 2) pe_int) pa_nil))))))))))), ?_⟩
    walk_at "rd"
    refine ⟨by decide, by decide, for_range (n := 200) (fun i σ H' => ∃ (y r : Int) (u1 u2 u3 : Option V), H' = H ∧ σ = [some (.int d), some (.int y), some (.int r), u1, u2, u3] ∧ y = 2000 + (i : Int) ∧ r = d - ystart y ∧ 0 ≤ r) ⟨_, _, _, _, _, rfl, rfl, rfl, by rw [ystart_0]; omega, h1⟩ ?_ ?_⟩
    · rintro i σ H' hi ⟨y, r, u1, u2, u3, rfl, rfl, hy, hr0, hle⟩
      have hn := ystart_next y
      walk_at "rd"
      rw [leapN_b]
      refine iteD (fun e => ?_) (fun e => ?_)
      · walk_at "rd"
        refine ⟨by decide, by decide, for_range (n := 12) (fun j σ H1 => ∃ (m x : Int) (w1 w2 : Option V), Same H' H1 ∧ σ = [some (.int d), some (.int y), some (.int x), w1, w2, some (.int m)] ∧ m = 1 + (j : Int) ∧ x = r - mstart y m ∧ 0 ≤ x) ⟨_, _, _, _, Same.refl _, rfl, rfl, by rw [mstart_1]; omega, hle⟩ ?_ ?_⟩
        · rintro j σ H1 hj ⟨m, x, w1, w2, s1, rfl, hm, hx, hx0⟩
          have hm1 := mstart_next y m (by omega) (by omega)
          have hm2 : 1 ≤ m := by omega
          have hm3 : m ≤ 12 := by omega
          walk_at "rd"
          intro H2 s2
          walk_at "rd"
          refine iteD (fun e2 => ?_) (fun e2 => ?_)
          · walk_at "rd"
            refine q y m _ _ _ ⟨by omega, by omega, hm2, hm3, ?_, ?_⟩ ?_ (same_new (s1.trans s2) (by assumption)) upd_same
            · omega
            · omega
            · unfold dayOf
              omega
          · walk_at "rd"
            intro H3 s3
            walk_at "rd"
            exact ⟨_, _, _, _, (s1.trans s2).trans s3, rfl, by omega, by rw [hm1]; omega, by omega⟩
        · rintro σ H1 ⟨m, x, w1, w2, s1, rfl, hm, hx, hx0⟩
          have h13 := mstart_13 y
          have : m = 13 := by omega
          rw [this] at hx
          omega
      · walk_at "rd"
        exact ⟨_, _, _, _, _, rfl, rfl, by omega, by rw [hn]; omega, by omega⟩
    · rintro σ H' ⟨y, r, u1, u2, u3, rfl, rfl, hy, hr0, hle⟩
      have : y = 2200 := by omega
      rw [this, ystart_end] at hr0
      omega
theorem _law_date_go {H : Hp} {Q : VK} {E : XK} {d : Int} (h1 : 0 ≤ d) (h2 : d ≤ 73048) (q : ∀ (y m x : Int) (p : Addr) (H' : Hp), IsDate y m x → dayOf y m x = d → Same H H' → H' p = some (.tup [.int y, .int m, .int x]) → Q (.ref p) H') : sp__law_date [.int d] H Q E := by
  unfold sp__law_date
  exact ⟨d, rfl, h1, h2, q⟩
local macro_rules | `(tactic| walk_at "call") => `(tactic| (apply _law_date_go; (first | assumption | omega); (first | assumption | omega)))

/-! ### _law_pad -/
@[irreducible] def sp__law_pad : Sp := fun vs H Q E => ∃ (n : Int) (m : Int), vs = [.int n, .int m] ∧ (0 ≤ n) ∧ (n ≤ 9999) ∧ (0 ≤ m) ∧ (m ≤ 10) ∧ (∀ z, z = padT n m.toNat m.toNat → Q (.str z) H)
theorem ok__law_pad (T : Txt K mg) : FnOk P w K mg base (L2.CX P w) 1 T.a__law_pad T.fd__law_pad ["number", "size"] sp__law_pad := by
  refine T.F__law_pad.ok sc__law_pad (fun vs H Q E h => ?_) (fun cdv A outer s H vs Q E hr h => ?_)
  · unfold sp__law_pad at h
    obtain ⟨n, m, rfl, _⟩ := h
    rfl
  · unfold sp__law_pad at h
    obtain ⟨n, m, rfl, n0, n1, m0, m1, q⟩ := h
    refine ⟨_, (pss_cons (ps_set (i := 2) sc__law_pad.nd rfl (Or.inl rfl) (pe_callTy call_strI rfl T.z_str bt_str (pa_cons (pv 0) pa_nil)))
    (pss_cons (ps_for (passes_of rfl) rfl (pi_range1 rfl T.z_range (pa_cons (pv 1) pa_nil)) (pg_name (i := 3) sc__law_pad.nd rfl (Or.inl rfl))
      (pss_one (ps_cut (ps_if (pt_cmpR op_lt (pe_callB call_lenS rfl T.z_len bt_len (pa_cons (pv 2) pa_nil)) (pv 1) (nomark _)) (pss_one (ps_set (i := 2) sc__law_pad.nd rfl (Or.inl rfl) (pe_op op_addS pe_str (pv 2)))) pss_nil))))
    (pss_one (ps_ret (pv 2))))), ?_⟩
    walk_at "rd"
    refine strI_go (Nat.lt_of_le_of_lt (Sz.log (n := 64) ⟨by omega⟩) (by decide)) ?_
    walk_at "rd"
    refine ⟨by omega, by omega, for_range (n := m.toNat) (fun i σ H' => Wall (H' = H ∧ ∃ u, σ = [some (.int n), some (.int m), some (.str (padT n m.toNat i)), u])) (wall ⟨rfl, _, by rw [padT_0]; rfl⟩) ?_ ?_⟩
    · rintro i σ H' hi ⟨w1⟩
      obtain ⟨rfl, u, rfl⟩ := w1 trivial
      have pl := padT_len (size := m.toNat) n0 n1 i
      have z0 : ("0" : Str).length = 1 := rfl
      have hsl : ("0" : Str).length + (padT n m.toNat i).length ≤ sizeLine := by rw [z0, sizeLine_eq]; omega
      walk_at "rd"
      refine ⟨_, ?_, fun _ _ h => h⟩
      walk_at "rd"
      refine iteD (fun c => ?_) (fun c => ?_)
      · walk_at "rd"
        refine wall ⟨rfl, some (.int (0 + (i : Int))), ?_⟩
        rw [padT_y (by omega)]
        rfl
      · refine wall ⟨rfl, some (.int (0 + (i : Int))), ?_⟩
        rw [padT_n (by omega)]
        rfl
    · rintro σ H' ⟨w1⟩
      obtain ⟨rfl, u, rfl⟩ := w1 trivial
      walk_at "rd"
      exact q _ rfl
theorem _law_pad_go {H : Hp} {Q : VK} {E : XK} {n : Int} {m : Int} (n0 : 0 ≤ n) (n1 : n ≤ 9999) (m0 : 0 ≤ m) (m1 : m ≤ 10) (q : ∀ z, z = padT n m.toNat m.toNat → Q (.str z) H) : sp__law_pad [.int n, .int m] H Q E := by
  unfold sp__law_pad
  exact ⟨n, m, rfl, n0, n1, m0, m1, q⟩
local macro_rules | `(tactic| walk_at "call") => `(tactic| (apply _law_pad_go; (first | assumption | omega); (first | assumption | omega); (first | assumption | omega); (first | assumption | omega)))

/-! ### _law_written -/
@[irreducible] def sp__law_written : Sp := fun vs H Q E => ∃ (d : Int), vs = [.int d] ∧ (0 ≤ d) ∧ (d ≤ 73048) ∧ (∀ y m x z H', IsDate y m x → dayOf y m x = d → z = padT y 4 4 ++ "-" ++ padT m 2 2 ++ "-" ++ padT x 2 2 → Same H H' → Q (.str z) H')
theorem ok__law_written (T : Txt K mg) : FnOk P w K mg base (L2.CX P w) 4 T.a__law_written T.fd__law_written ["day"] sp__law_written := by
  refine T.F__law_written.ok sc__law_written (fun vs H Q E h => ?_) (fun cdv A outer s H vs Q E hr h => ?_)
  · unfold sp__law_written at h
    obtain ⟨d, rfl, _⟩ := h
    rfl
  · unfold sp__law_written at h
    obtain ⟨d, rfl, d0, d1, q⟩ := h
    refine ⟨_, (pss_cons (ps_set (i := 1) sc__law_written.nd rfl (Or.inl rfl) (pe_callS (ok__law_date T) (hr.mono (by decide)) rfl T.m__law_date T.F__law_date.kp T.b__law_date (fun σ => passAt (takes_of rfl rfl rfl rfl) σ) (pa_cons (pv 0) pa_nil)))
    (pss_one (ps_ret (pe_op op_addS (pe_op op_addS (pe_op op_addS (pe_op op_addS (pe_callS (ok__law_pad T) (hr.mono (by decide)) rfl T.m__law_pad T.F__law_pad.kp T.b__law_pad (fun σ => passAt (takes_of rfl rfl rfl rfl) σ) (pa_cons (pe_ix ix_tup (pv 1) pe_int (fun _ _ => rfl)) (pa_cons pe_int pa_nil))) pe_str) (pe_callS (ok__law_pad T) (hr.mono (by decide)) rfl T.m__law_pad T.F__law_pad.kp T.b__law_pad (fun σ => passAt (takes_of rfl rfl rfl rfl) σ) (pa_cons (pe_ix ix_tup (pv 1) pe_int (fun _ _ => rfl)) (pa_cons pe_int pa_nil)))) pe_str) (pe_callS (ok__law_pad T) (hr.mono (by decide)) rfl T.m__law_pad T.F__law_pad.kp T.b__law_pad (fun σ => passAt (takes_of rfl rfl rfl rfl) σ) (pa_cons (pe_ix ix_tup (pv 1) pe_int (fun _ _ => rfl)) (pa_cons pe_int pa_nil))))))), ?_⟩
    walk_at "rd"
    intro y m x p H1 hI hD s1 t1
    have T1 := t_of (K := K) t1
    have := hI.y0; have := hI.y1; have := hI.m0; have := hI.m1; have := hI.d0; have := hI.d1
    have hml := mlen_pos y m
    have py := padT_len (n := y) (size := 4) (by omega) (by omega) 4
    have pm := padT_len (n := m) (size := 2) (by omega) (by omega) 2
    have px := padT_len (n := x) (size := 2) (by omega) (by omega) 2
    have l1 : ("-" : Str).length = 1 := rfl
    walk_at "rd"
    rintro _ rfl
    have g1 : (padT y (Int.toNat 4) (Int.toNat 4)).length + ("-" : Str).length ≤ sizeLine := by rw [l1, sizeLine_eq]; show (padT y 4 4).length + 1 ≤ _; omega
    walk_at "rd"
    rintro _ rfl
    have g2 : (padT y (Int.toNat 4) (Int.toNat 4) ++ "-").length + (padT m (Int.toNat 2) (Int.toNat 2)).length ≤ sizeLine := by rw [len_app, l1, sizeLine_eq]; show (padT y 4 4).length + 1 + (padT m 2 2).length ≤ _; omega
    have g3 : (padT y (Int.toNat 4) (Int.toNat 4) ++ "-" ++ padT m (Int.toNat 2) (Int.toNat 2)).length + ("-" : Str).length ≤ sizeLine := by rw [len_app, len_app, l1, sizeLine_eq]; show (padT y 4 4).length + 1 + (padT m 2 2).length + 1 ≤ _; omega
    walk_at "rd"
    rintro _ rfl
    have g4 : (padT y (Int.toNat 4) (Int.toNat 4) ++ "-" ++ padT m (Int.toNat 2) (Int.toNat 2) ++ "-").length + (padT x (Int.toNat 2) (Int.toNat 2)).length ≤ sizeLine := by rw [len_app, len_app, len_app, l1, sizeLine_eq]; show (padT y 4 4).length + 1 + (padT m 2 2).length + 1 + (padT x 2 2).length ≤ _; omega
    walk_at "rd"
    exact q y m x _ _ hI hD rfl s1
theorem _law_written_go {H : Hp} {Q : VK} {E : XK} {d : Int} (d0 : 0 ≤ d) (d1 : d ≤ 73048) (q : ∀ y m x z H', IsDate y m x → dayOf y m x = d → z = padT y 4 4 ++ "-" ++ padT m 2 2 ++ "-" ++ padT x 2 2 → Same H H' → Q (.str z) H') : sp__law_written [.int d] H Q E := by
  unfold sp__law_written
  exact ⟨d, rfl, d0, d1, q⟩
local macro_rules | `(tactic| walk_at "call") => `(tactic| (apply _law_written_go; (first | assumption | omega); (first | assumption | omega)))

/-! ### _law_spelled -/
def SpF (k : Str) (v : V) (z : Str) : Prop := (k = "sign" ∧ v = .str z ∧ ∃ c, z = ⟨#[c]⟩ ∧ sgn c = true) ∨ (k ≠ "sign" ∧ z.cps.toList ≠ [] ∧ z.cps.toList.all runC = true ∧ kindO z = some (k, v))
theorem run_dig {c : Nat} (h : digC c = true) : runC c = true := by unfold runC; rw [h]; simp
theorem run_word {c : Nat} (h : wordC c = true) : runC c = true := by
  unfold wordC at h
  simp only [Bool.or_eq_true, beq_iff_eq] at h
  rcases h with (h | h) | h
  · unfold runC; rw [h]; rfl
  · exact run_dig h
  · subst h; decide +kernel
theorem dig_ne {c : Nat} (h : digC c = true) : lowC c = false ∧ c ≠ 47 ∧ c ≠ 45 ∧ c ≠ 46 ∧ 48 ≤ c ∧ c ≤ 57 := by
  unfold digC at h
  simp only [Bool.and_eq_true, decide_eq_true_eq] at h
  refine ⟨?_, by omega, by omega, by omega, h.1, h.2⟩
  unfold lowC
  rw [decide_eq_false (by omega), Bool.false_and]
theorem all_mem {l : List Nat} {p : Nat → Bool} (h : l.all p = true) {c : Nat} (hc : c ∈ l) : p c = true := List.all_eq_true.mp h c hc
/-- no word: a sign that no word has -/
theorem word_no {z : Str} {c : Nat} (hc : c ∈ z.cps.toList) (h : wordC c = false) : wordB z = false := by
  unfold wordB
  rw [Bool.and_eq_false_iff]
  refine .inl ?_
  rw [Bool.eq_false_iff]
  intro q
  rw [all_mem q hc] at h
  cases h
theorem date_no {z : Str} {c : Nat} (hc : c ∈ z.cps.toList) (h : digC c = false) (h5 : c ≠ 45) : dateB z = false := by
  rw [Bool.eq_false_iff]
  intro q
  unfold dateB at q
  rw [Bool.and_eq_true] at q
  obtain ⟨l10, hall⟩ := writ_iff.mp q.1
  obtain ⟨i, hi, e⟩ := List.mem_iff_getElem.mp hc
  have hi2 : i < 10 := by rw [LB.len_list] at hi; omega
  have := hall i hi2 c (by rw [List.getElem?_eq_getElem hi, e])
  split at this
  · exact h5 this
  · rw [h] at this; cases this
theorem num_no {z : Str} {c : Nat} (hc : c ∈ z.cps.toList) (h : digC c = false) : numB z = false := by
  rw [Bool.eq_false_iff]
  intro q
  have := (numB_iff q).2.2
  rw [all_mem this hc] at h
  cases h
theorem kind_word {z : Str} (h : wordB z = true) (hn : 1 ≤ z.length) : SpF "word" (.str z) z := by
  refine .inr ⟨by decide +kernel, fun e => ?_, ?_, by unfold kindO; rw [if_pos h]⟩
  · rw [← LB.len_list, e] at hn
    exact absurd hn (by decide)
  · unfold wordB at h
    rw [Bool.and_eq_true] at h
    exact List.all_eq_true.mpr fun c hc => run_word (all_mem h.1 hc)
/-- the digits of a number -/
theorem digs_alone {z : Str} (h : digsB z = true) (hn : 1 ≤ z.length) : wordB z = false ∧ dateB z = false ∧ z.cps.toList.all runC = true := by
  have ha : ∀ c ∈ z.cps.toList, digC c = true := fun c hc => all_mem h hc
  refine ⟨?_, ?_, List.all_eq_true.mpr fun c hc => run_dig (ha c hc)⟩
  · unfold wordB
    rw [Bool.and_eq_false_iff]
    refine .inr ?_
    rw [Bool.or_eq_false_iff]
    refine ⟨?_, decide_eq_false fun m => (dig_ne (ha 47 m)).2.1 rfl⟩
    cases e : z.cps.toList with
    | nil => rfl
    | cons c r => exact (dig_ne (ha c (by rw [e]; exact List.mem_cons_self))).1
  · rw [Bool.eq_false_iff]
    intro q
    unfold dateB at q
    rw [Bool.and_eq_true] at q
    obtain ⟨l10, hall⟩ := writ_iff.mp q.1
    have h4 : 4 < z.cps.toList.length := by rw [LB.len_list]; omega
    have := hall 4 (by decide) _ (List.getElem?_eq_getElem h4)
    rw [if_pos (.inl rfl)] at this
    exact (dig_ne (ha _ (List.getElem_mem h4))).2.2.1 this
theorem val_dg : ∀ n : Nat, NumText.digitsVal (dg n) = n := by
  intro n
  induction n using Nat.strongRecOn with
  | ind n ih =>
    by_cases h : n < 10
    · rw [dg_small h]
      show 0 * 10 + (48 + n - 48) = n
      omega
    · rw [dg_big (by omega), val_snoc, ih (n / 10) (by omega)]
      omega
theorem dg_head {n : Nat} (h : 0 < n) : (dg n).head? ≠ some 48 := by
  intro e
  have hs := dg_strip n n h (Nat.lt_of_lt_of_le (Nat.lt_two_pow_self) (Nat.pow_le_pow_left (by decide) n))
  rw [← hs] at e
  have := List.head?_dropWhile_not (fun c => c == 48) (dw n n)
  rw [e] at this
  simp at this
theorem str_dg {i : Int} (h : 0 ≤ i) : (toString i : Str).cps.toList = dg i.toNat := by
  obtain ⟨n, rfl⟩ : ∃ n : Nat, i = n := ⟨i.toNat, by omega⟩
  exact tl_nat n
theorem num_str {i : Int} (h0 : 0 ≤ i) (h1 : i < 1000000000000) : numB (toString i : Str) = true ∧ valZ (toString i : Str) = i ∧ digsB (toString i : Str) = true ∧ 1 ≤ (toString i : Str).length ∧ (toString i : Str).length ≤ 12 := by
  have e := str_dg h0
  have hd : digsB (toString i : Str) = true := by unfold digsB; rw [e]; exact List.all_eq_true.mpr fun c hc => dg_dig _ c hc
  have hl : (toString i : Str).length = (dg i.toNat).length := by rw [← LB.len_list, e]
  have h2 := dg_len (n := i.toNat) (w := 12) (by omega) (by decide)
  have h3 := dg_pos i.toNat
  refine ⟨?_, by unfold valZ; rw [e, val_dg]; omega, hd, by omega, by omega⟩
  unfold numB plainB
  rw [decide_eq_true (show (toString i : Str).length ≤ 12 by omega), decide_eq_true (show 1 ≤ (toString i : Str).length by omega), decide_eq_true (show (toString i : Str).length ≤ 30 by omega), hd]
  by_cases c : i = 0
  · subst c
    decide +kernel
  · have := dg_head (n := i.toNat) (by omega)
    rw [e]
    simp only [Bool.true_and, Bool.or_eq_true, Bool.not_eq_true', beq_eq_false_iff_ne]
    exact .inr this
theorem kind_num {i : Int} (h0 : 0 ≤ i) (h1 : i < 1000000000000) : SpF "number" (.int i) (toString i) := by
  obtain ⟨n1, n2, n3, n4, n5⟩ := num_str h0 h1
  obtain ⟨a1, a2, a3⟩ := digs_alone n3 n4
  refine .inr ⟨by decide +kernel, fun e => ?_, a3, ?_⟩
  · rw [← LB.len_list, e] at n4
    exact absurd n4 (by decide)
  · unfold kindO kind2 kind3
    rw [if_neg (by rw [a1]; decide), if_neg (by rw [a2]; decide), if_pos n1, n2]
theorem kind_date {y m x : Int} (hI : IsDate y m x) {z : Str} (e : z = padT y 4 4 ++ "-" ++ padT m 2 2 ++ "-" ++ padT x 2 2) : SpF "date" (.int (dayOf y m x)) z ∧ z.length = 10 := by
  obtain ⟨w1, w2, w3, w4, w5, w6⟩ := wr_date hI e
  have hw := w3
  unfold dateB at hw
  rw [Bool.and_eq_true] at hw
  obtain ⟨l10, hall⟩ := writ_iff.mp hw.1
  have m45 : (45 : Nat) ∈ z.cps.toList := by
    rw [e, tl_app, tl_app]
    refine List.mem_append_left _ (List.mem_append_right _ ?_)
    have : ("-" : Str).cps.toList = [45] := by decide +kernel
    rw [this]
    exact List.mem_cons_self
  have hwn : wordB z = false := word_no m45 (by decide)
  refine ⟨.inr ⟨by decide +kernel, fun h => ?_, List.all_eq_true.mpr fun c hc => ?_, ?_⟩, w1⟩
  · rw [h] at m45; cases m45
  · obtain ⟨i, hi, ei⟩ := List.mem_iff_getElem.mp hc
    have := hall i (by rw [LB.len_list] at hi; omega) c (by rw [List.getElem?_eq_getElem hi, ei])
    split at this
    · rw [this]; decide +kernel
    · exact run_dig this
  · unfold kindO kind2
    rw [if_neg (by rw [hwn]; decide), if_pos w3]
    unfold dayZ
    rw [w4, w5, w6]
theorem pad_tl {n : Nat} {size : Nat} : ∀ k, (padT (n : Int) size k).cps.toList = List.replicate (min k (size - (dg n).length)) 48 ++ dg n
  | 0 => by
    rw [padT_0, Nat.zero_min]
    exact tl_nat n
  | k + 1 => by
    have ih := pad_tl (n := n) (size := size) k
    have hl : (padT (n : Int) size k).length = min k (size - (dg n).length) + (dg n).length := by rw [← LB.len_list, ih, List.length_append, List.length_replicate]
    by_cases h : (padT (n : Int) size k).length < size
    · rw [padT_y h, tl_app, ih]
      have e0 : ("0" : Str).cps.toList = [48] := by decide +kernel
      have em : min (k + 1) (size - (dg n).length) = min k (size - (dg n).length) + 1 := by omega
      rw [e0, em, List.replicate_succ]
      rfl
    · rw [padT_n h, ih]
      have em : min (k + 1) (size - (dg n).length) = min k (size - (dg n).length) := by omega
      rw [em]
theorem pad_dw {n w : Nat} (h : n < 10 ^ (w + 1)) : (padT (n : Int) (w + 1) (w + 1)).cps.toList = dw (w + 1) n := by
  rw [pad_tl, Nat.min_eq_right (by omega)]
  exact dg_pad w n h
theorem dw_dig : ∀ (w n : Nat), (dw w n).all digC = true
  | 0, _ => rfl
  | w + 1, n => by
    rw [dw, List.all_append, dw_dig w]
    have : digC (48 + n % 10) = true := by
      unfold digC
      rw [decide_eq_true (show 48 ≤ 48 + n % 10 by omega), decide_eq_true (show 48 + n % 10 ≤ 57 by omega)]
      rfl
    simp [this]
theorem val_dw : ∀ (w n : Nat), NumText.digitsVal (dw w n) = n % 10 ^ w
  | 0, n => by
    rw [Nat.pow_zero, Nat.mod_one]
    rfl
  | w + 1, n => by
    rw [dw, val_snoc, val_dw w, Nat.pow_succ]
    have := Nat.mod_mul_left_div_self n 10 (10 ^ w)
    have h2 : n % (10 ^ w * 10) = 10 * (n / 10 % 10 ^ w) + n % 10 := by
      rw [Nat.mul_comm, Nat.mod_mul]
      omega
    omega
theorem pad2_ok {c : Int} (h : 0 ≤ c ∧ c < 100) : (padT c 2 2).length = 2 ∧ digsB (padT c 2 2) = true ∧ valZ (padT c 2 2) = c := by
  obtain ⟨n, rfl⟩ : ∃ n : Nat, c = n := ⟨c.toNat, by omega⟩
  have e := pad_dw (n := n) (w := 1) (by omega)
  refine ⟨by rw [← LB.len_list, e, dw_len], by unfold digsB; rw [e]; exact dw_dig _ _, ?_⟩
  unfold valZ
  rw [e, val_dw, Nat.mod_eq_of_lt (by omega)]
theorem dot_tl : TL.tl ("." : Str) = 46 :: [] := by decide +kernel
theorem kind_amt {c : Int} (h0 : 0 ≤ c) (h1 : c ≤ 1000000000000) : SpF "amount" (.int c) ((toString (c / 100) : Str) ++ "." ++ padT (c % 100) 2 2) := by
  obtain ⟨n1, n2, n3, n4, n5⟩ := num_str (i := c / 100) (by omega) (by omega)
  obtain ⟨p1, p2, p3⟩ := pad2_ok (c := c % 100) (by omega)
  have m46 : (46 : Nat) ∈ ((toString (c / 100) : Str) ++ "." ++ padT (c % 100) 2 2).cps.toList := by
    rw [tl_app, tl_app]
    refine List.mem_append_left _ (List.mem_append_right _ ?_)
    show (46 : Nat) ∈ TL.tl ("." : Str)
    rw [dot_tl]
    exact List.mem_cons_self
  have hp : Txt.partition ((toString (c / 100) : Str) ++ "." ++ padT (c % 100) 2 2) "." = ((toString (c / 100) : Str), ("." : Str), padT (c % 100) 2 2) := TL.partition_app dot_tl fun m => (dig_ne (all_mem n3 m)).2.2.2.1 rfl
  have ha : amtO ((toString (c / 100) : Str) ++ "." ++ padT (c % 100) 2 2) = some c := by
    unfold amtO
    rw [hp]
    dsimp only
    rw [if_neg (fun x => x.elim (fun x => absurd x (by decide +kernel)) (fun x => x.elim (fun x => by rw [n1] at x; cases x) (fun x => x.elim (fun x => x p1) (fun x => by rw [p2] at x; cases x)))), n2, p3, if_neg (by omega)]
    congr 1
    omega
  refine .inr ⟨by decide +kernel, (fun e => by rw [e] at m46; cases m46), ?_, ?_⟩
  · rw [tl_app, tl_app, List.all_append, List.all_append]
    have a1 : (toString (c / 100) : Str).cps.toList.all runC = true := (digs_alone n3 n4).2.2
    have a2 : (padT (c % 100) 2 2).cps.toList.all runC = true := (digs_alone p2 (by omega)).2.2
    have a3 : ("." : Str).cps.toList.all runC = true := by decide +kernel
    rw [a1, a2, a3]
    rfl
  · unfold kindO kind2 kind3 kind4
    rw [if_neg (by rw [word_no m46 (by decide)]; decide), if_neg (by rw [date_no m46 (by decide) (by decide)]; decide), if_neg (by rw [num_no m46 (by decide)]; decide), ha]
theorem rstrip_just : ∀ (r : List Nat), (r.dropWhile (fun c => c == 48)).reverse ++ List.replicate (r.length - (r.dropWhile (fun c => c == 48)).length) 48 = r.reverse
  | [] => rfl
  | a :: r => by
    by_cases h : a = 48
    · rw [List.dropWhile_cons_of_pos (p := fun c => c == 48) (show (a == 48) = true by rw [h]; rfl)]
      have ih := rstrip_just r
      have hl : (r.dropWhile (fun c => c == 48)).length ≤ r.length := List.Sublist.length_le (List.dropWhile_sublist _)
      rw [List.length_cons, show r.length + 1 - (r.dropWhile (fun c => c == 48)).length = (r.length - (r.dropWhile (fun c => c == 48)).length) + 1 by omega, List.replicate_succ', ← List.append_assoc, ih, List.reverse_cons, h]
    · rw [List.dropWhile_cons_of_neg (p := fun c => c == 48) (show ¬ ((a == 48) = true) by rw [beq_iff_eq]; exact h), Nat.sub_self]
      exact List.append_nil _
theorem pctD_just {r : Int} : valZ (Txt.ljustF (pctD r) 4 48) = r % 10000 ∧ digsB (pctD r) = true := by
  obtain ⟨n, hn, hr⟩ : ∃ n : Nat, n < 10000 ∧ r % 10000 = n := ⟨(r % 10000).toNat, by omega, by omega⟩
  have e0 : (intSpecTextOf "04d" (r % 10000)).cps.toList = dw 4 n := by rw [hr, spec4_tl, dg_pad 3 n (by omega)]
  have k : ∀ l : List Nat, l.dropWhile (("0" : Str).cps.contains) = l.dropWhile (fun c => c == 48) := fun l => by
    congr 1
    funext c
    show (#[48] : Array Nat).contains c = (c == 48)
    by_cases e : c = 48
    · subst e; exact Array.contains_iff_mem.mpr (by simp)
    · rw [beq_eq_false_iff_ne.mpr e, Bool.eq_false_iff]
      intro q
      have := Array.contains_iff_mem.mp q
      simp at this
      exact e this
  have e1 : (pctD r).cps.toList = ((dw 4 n).reverse.dropWhile (fun c => c == 48)).reverse := by
    unfold pctD
    rw [rstrip_tl, e0, k]
  have hl : (pctD r).length = ((dw 4 n).reverse.dropWhile (fun c => c == 48)).length := by rw [← LB.len_list, e1, List.length_reverse]
  have e2 : (Txt.ljustF (pctD r) 4 48).cps.toList = dw 4 n := by
    have h := ljustF_list (pctD r) 4 48
    have j := rstrip_just (dw 4 n).reverse
    rw [List.length_reverse, dw_len, List.reverse_reverse] at j
    rw [h, e1, hl]
    exact j
  refine ⟨?_, ?_⟩
  · unfold valZ
    rw [e2, val_dw, hr, Nat.mod_eq_of_lt (by omega)]
  · unfold digsB
    rw [e1, List.all_reverse]
    exact List.all_eq_true.mpr fun c hc => all_mem (dw_dig 4 n) (List.mem_reverse.mp ((List.dropWhile_sublist _).mem hc))
theorem ends_app (x y : Str) : Txt.endswith (x ++ y) y = true := by
  unfold Txt.endswith
  have hl : (x ++ y).length = x.length + y.length := len_app
  rw [Bool.and_eq_true]
  refine ⟨decide_eq_true (by omega), ?_⟩
  rw [PySem.StrLaws.subAt_eq, tl_app, hl, Nat.add_sub_cancel]
  have : (x.cps.toList ++ y.cps.toList).drop x.length = y.cps.toList := List.drop_left' (LB.len_list x)
  rw [this, List.take_of_length_le (Nat.le_of_eq (LB.len_list y)), beq_self_eq_true]
theorem cut_pc (x : Str) : pctY (x ++ "pc") = x := by
  refine str_ext ?_
  have h2 : ("pc" : Str).length = 2 := by decide +kernel
  have hl : (x ++ "pc" : Str).length = x.length + 2 := by rw [len_app, h2]
  show (((x ++ "pc" : Str).cps.toList.drop 0).take (HT.sIx (x ++ "pc" : Str).length (x ++ "pc" : Str).length (some (-2)) - 0)) = _
  have e : HT.sIx (x ++ "pc" : Str).length (x ++ "pc" : Str).length (some (-2)) = x.length := by
    rw [hl]
    simp only [HT.sIx]
    rw [if_pos (by decide)]
    omega
  rw [e, List.drop_zero, Nat.sub_zero, tl_app]
  exact List.take_left' (LB.len_list x)
theorem kind_pct {r : Int} (h0 : 0 ≤ r) (h1 : r ≤ 1000000) : SpF "percent" (.int r) (pct r) := by
  obtain ⟨n1, n2, n3, n4, n5⟩ := num_str (i := r / 10000) (by omega) (by omega)
  obtain ⟨j1, j2⟩ := pctD_just (r := r)
  have jl := pctD_len (r := r)
  have hpc : ∀ x : Str, (112 : Nat) ∈ (x ++ "pc" : Str).cps.toList := fun x => by
    rw [tl_app]
    have : ("pc" : Str).cps.toList = [112, 99] := by decide +kernel
    rw [this]
    exact List.mem_append_right _ List.mem_cons_self
  have d46 : (46 : Nat) ∉ TL.tl (toString (r / 10000) : Str) := fun m => (dig_ne (all_mem n3 m)).2.2.2.1 rfl
  have rest : ∀ z : Str, wordB z = false → (112 : Nat) ∈ z.cps.toList → amtO z = none → pctO z = some r → kindO z = some (("percent" : Str), V.int r) := fun z a1 a2 a3 a4 => by
    unfold kindO kind2 kind3 kind4
    rw [if_neg (by rw [a1]; decide), if_neg (by rw [date_no a2 (by decide) (by decide)]; decide), if_neg (by rw [num_no a2 (by decide)]; decide), a3]
    unfold kind5
    rw [a4]
  have rn : (toString (r / 10000) : Str).cps.toList.all runC = true := (digs_alone n3 n4).2.2
  have rp : ("pc" : Str).cps.toList.all runC = true := by decide +kernel
  have rd : ("." : Str).cps.toList.all runC = true := by decide +kernel
  by_cases c : pctD r = ""
  · rw [pct_e c]
    have r0 : r % 10000 = 0 := by
      rw [← j1, c]
      decide +kernel
    have tz : ((toString (r / 10000) : Str) ++ "pc" : Str).cps.toList = (toString (r / 10000) : Str).cps.toList ++ [112, 99] := by
      rw [tl_app]
      have : ("pc" : Str).cps.toList = [112, 99] := by decide +kernel
      rw [this]
    have nd : (46 : Nat) ∉ TL.tl ((toString (r / 10000) : Str) ++ "pc" : Str) := fun m => by
      have m2 : (46 : Nat) ∈ ((toString (r / 10000) : Str) ++ "pc" : Str).cps.toList := m
      rw [tz] at m2
      rcases List.mem_append.mp m2 with m3 | m3
      · exact d46 m3
      · revert m3; decide
    have hw : wordB ((toString (r / 10000) : Str) ++ "pc") = false := by
      unfold wordB
      rw [Bool.and_eq_false_iff]
      refine .inr ?_
      rw [Bool.or_eq_false_iff, tz]
      refine ⟨?_, decide_eq_false fun m => ?_⟩
      · cases e : (toString (r / 10000) : Str).cps.toList with
        | nil => rw [← LB.len_list, e] at n4; exact absurd n4 (by decide)
        | cons x l => exact (dig_ne (all_mem n3 (by rw [e]; exact List.mem_cons_self))).1
      · rcases List.mem_append.mp m with m3 | m3
        · exact (dig_ne (all_mem n3 m3)).2.1 rfl
        · revert m3; decide
    refine .inr ⟨by decide +kernel, (fun e => by have := hpc (toString (r / 10000) : Str); rw [e] at this; cases this), (by rw [tl_app, List.all_append, rn, rp]; rfl), rest _ hw (hpc _) ?_ ?_⟩
    · unfold amtO
      rw [TL.partition_none dot_tl nd]
      exact if_pos (.inl rfl)
    · unfold pctO
      rw [cut_pc, TL.partition_none dot_tl d46]
      dsimp only
      rw [if_neg (fun x => x.elim (fun x => by rw [ends_app] at x; cases x) (fun x => by rw [n1] at x; cases x)), if_pos (show Str.empty = "" from rfl), n2, if_neg (by omega)]
      congr 1
      omega
  · rw [pct_n c]
    have cl : 1 ≤ (pctD r).length := by
      refine Nat.pos_of_ne_zero fun e => c (str_ext ?_)
      rw [List.eq_nil_of_length_eq_zero (show (pctD r).cps.toList.length = 0 by rw [LB.len_list]; exact e)]
      rfl
    have m46 : (46 : Nat) ∈ ((toString (r / 10000) : Str) ++ "." ++ pctD r ++ "pc" : Str).cps.toList := by
      rw [tl_app, tl_app, tl_app]
      refine List.mem_append_left _ (List.mem_append_left _ (List.mem_append_right _ ?_))
      show (46 : Nat) ∈ TL.tl ("." : Str)
      rw [dot_tl]
      exact List.mem_cons_self
    have e3 : ((toString (r / 10000) : Str) ++ "." ++ pctD r ++ "pc" : Str) = (toString (r / 10000) : Str) ++ "." ++ (pctD r ++ "pc") := by rw [appA]
    have rq : (pctD r).cps.toList.all runC = true := List.all_eq_true.mpr fun x hx => run_dig (all_mem j2 hx)
    refine .inr ⟨by decide +kernel, (fun e => by rw [e] at m46; cases m46), (by rw [tl_app, tl_app, tl_app, List.all_append, List.all_append, List.all_append, rn, rd, rq, rp]; rfl), rest _ (word_no m46 (by decide)) (hpc _) ?_ ?_⟩
    · unfold amtO
      rw [e3, TL.partition_app dot_tl d46]
      refine if_pos (.inr (.inr (.inl ?_)))
      have h2 : ("pc" : Str).length = 2 := by decide +kernel
      show (pctD r ++ "pc" : Str).length ≠ 2
      rw [len_app, h2]
      omega
    · unfold pctO
      rw [cut_pc, TL.partition_app dot_tl d46]
      dsimp only
      rw [if_neg (fun x => x.elim (fun x => by rw [ends_app] at x; cases x) (fun x => by rw [n1] at x; cases x)), if_neg (by decide +kernel), if_neg (fun x => x.elim (fun x => by omega) (fun x => x.elim (fun x => by omega) (fun x => by rw [j2] at x; cases x))), n2, j1, if_neg (by omega)]
      congr 1
      omega
def stpNS : Nat → Str → Str
  | 0, z => z
  | n + 1, z => stp (stpNS n z)
theorem stp_lenS (z : Str) : (stp z).length ≤ z.length := by
  show ((stpL z.cps.toList).toArray).size ≤ z.cps.toList.length
  rw [List.size_toArray]
  unfold stpL
  split
  · rw [List.length_dropLast]; omega
  · exact Nat.le_refl _
theorem stpN_lenS (z : Str) : ∀ n, (stpNS n z).length ≤ z.length
  | 0 => Nat.le_refl _
  | n + 1 => Nat.le_trans (stp_lenS _) (stpN_lenS z n)
theorem stp_cutS {z : Str} (h : 0 < z.length) (c : z.cps.toList[z.length - 1]? = some 48) : cutS z none (some (((z.length : Nat) : Int) - 1)) = stp z := by
  refine str_ext ?_
  unfold stp stpL
  rw [if_pos (by rw [List.getLast?_eq_getElem?]; exact c)]
  show (z.cps.toList.drop 0).take (HT.sIx z.length z.length (some (((z.length : Nat) : Int) - 1)) - 0) = z.cps.toList.dropLast
  have e : HT.sIx z.length z.length (some (((z.length : Nat) : Int) - 1)) = z.length - 1 := by
    have : (((z.length : Nat) : Int) - 1) = ((z.length - 1 : Nat) : Int) := by omega
    rw [this, HT.sIx_nat]
    omega
  rw [e, List.drop_zero, Nat.sub_zero, List.dropLast_eq_take]
  rfl
theorem stp_stayS {z : Str} (c : z.cps.toList[z.length - 1]? ≠ some 48) : stp z = z := by
  refine str_ext ?_
  unfold stp stpL
  rw [if_neg (by rw [List.getLast?_eq_getElem?]; exact c)]
theorem stp_nilS {z : Str} (h : z.length = 0) : stp z = z := by
  refine stp_stayS ?_
  have : z.cps.toList = [] := List.eq_nil_of_length_eq_zero h
  rw [this]
  exact fun q => by cases q
theorem pad4_cut {d : Int} (h : 0 ≤ d ∧ d < 10000) : padT d 4 4 = cutS (toString (10000 + d)) (some 1) none ∧ (padT d 4 4).length = 4 := by
  obtain ⟨n, rfl⟩ : ∃ n : Nat, d = n := ⟨d.toNat, by omega⟩
  have e := pad_dw (n := n) (w := 3) (by omega)
  have s4 := spec4 h
  refine ⟨?_, by rw [← LB.len_list, e, dw_len]⟩
  rw [← s4.1]
  refine str_ext ?_
  rw [e, spec4_tl, dg_pad 3 n (by omega)]
@[irreducible] def sp__law_spelled : Sp := fun vs H Q E => ∃ (k : Str) (v : V), vs = [.str k, v] ∧ TokV k v ∧ (∀ z H', Same H H' → z.length ≤ 1000 → SpF k v z → Q (.str z) H')
theorem ok__law_spelled (T : Txt K mg) : FnOk P w K mg base (L2.CX P w) 9 T.a__law_spelled T.fd__law_spelled ["kind", "value"] sp__law_spelled := by
  refine T.F__law_spelled.ok sc__law_spelled (fun vs H Q E h => ?_) (fun cdv A outer s H vs Q E hr h => ?_)
  · unfold sp__law_spelled at h
    obtain ⟨k, v, rfl, _⟩ := h
    rfl
  · unfold sp__law_spelled at h
    obtain ⟨k, v, rfl, ht, q⟩ := h
    refine ⟨_, (pss_cons (ps_if (pt_cmpR op_eq (pv 0) pe_str (nomark _)) (pss_one (ps_ret (pe_callS (ok__law_written T) (hr.mono (by decide)) rfl T.m__law_written T.F__law_written.kp T.b__law_written (fun σ => passAt (takes_of rfl rfl rfl rfl) σ) (pa_cons (pv 1) pa_nil)))) pss_nil)
    (pss_cons (ps_if (pt_cmpR op_eq (pv 0) pe_str (nomark _)) (pss_one (ps_ret (pe_callTy call_strI rfl T.z_str bt_str (pa_cons (pv 1) pa_nil)))) pss_nil)
    (pss_cons (ps_if (pt_cmpR op_eq (pv 0) pe_str (nomark _)) (pss_one (ps_ret (pe_op op_addS (pe_op op_addS (pe_callTy call_strI rfl T.z_str bt_str (pa_cons (pe_op op_fdivB (pv 1) pe_int) pa_nil)) pe_str) (pe_callS (ok__law_pad T) (hr.mono (by decide)) rfl T.m__law_pad T.F__law_pad.kp T.b__law_pad (fun σ => passAt (takes_of rfl rfl rfl rfl) σ) (pa_cons (pe_op op_mod (pe_callTy call_int1 rfl T.z_int bt_int (pa_cons (pv 1) pa_nil)) pe_int) (pa_cons pe_int pa_nil)))))) pss_nil)
    (pss_cons (ps_if (pt_cmpR op_eq (pv 0) pe_str (nomark _)) (pss_cons (ps_set (i := 2) sc__law_spelled.nd rfl (Or.inl rfl) (pe_callS (ok__law_pad T) (hr.mono (by decide)) rfl T.m__law_pad T.F__law_pad.kp T.b__law_pad (fun σ => passAt (takes_of rfl rfl rfl rfl) σ) (pa_cons (pe_op op_mod (pe_callTy call_int1 rfl T.z_int bt_int (pa_cons (pv 1) pa_nil)) pe_int) (pa_cons pe_int pa_nil))))
      (pss_cons (ps_for (passes_of rfl) rfl (pi_range1 rfl T.z_range (pa_cons pe_int pa_nil)) (pg_name (i := 3) sc__law_spelled.nd rfl (Or.inl rfl))
        (pss_one (ps_cut (ps_if (PW.pt (pw_and (pt_cmpR op_gt (pe_callB call_lenS rfl T.z_len bt_len (pa_cons (pv 2) pa_nil)) pe_int (nomark _)) (pw_and1 (pt_cmpR op_eq (pe_ix ix_ss (pv 2) (pe_op op_sub (pe_callB call_lenS rfl T.z_len bt_len (pa_cons (pv 2) pa_nil)) pe_int) (fun _ _ => rfl)) pe_str (nomark _))))) (pss_one (ps_set (i := 2) sc__law_spelled.nd rfl (Or.inl rfl) (pe_slice sl_ss (pv 2) po_none (po_some (pe_op op_sub (pe_callB call_lenS rfl T.z_len bt_len (pa_cons (pv 2) pa_nil)) pe_int))))) pss_nil))))
      (pss_cons (ps_if (pt_cmpR op_gt (pe_callB call_lenS rfl T.z_len bt_len (pa_cons (pv 2) pa_nil)) pe_int (nomark _)) (pss_one (ps_ret (pe_op op_addS (pe_op op_addS (pe_op op_addS (pe_callTy call_strI rfl T.z_str bt_str (pa_cons (pe_op op_fdivB (pv 1) pe_int) pa_nil)) pe_str) (pv 2)) pe_str))) pss_nil)
      (pss_one (ps_ret (pe_op op_addS (pe_callTy call_strI rfl T.z_str bt_str (pa_cons (pe_op op_fdivB (pv 1) pe_int) pa_nil)) pe_str)))))) pss_nil)
    (pss_one (ps_ret (pv 1))))))), ?_⟩
    rcases ht with ⟨rfl, z, rfl, hw, hn, hl⟩ | ⟨rfl, d, rfl, h0, h1⟩ | ⟨rfl, d, rfl, h0, h1⟩ | ⟨rfl, d, rfl, h0, h1⟩ | ⟨rfl, d, rfl, h0, h1⟩ | ⟨rfl, c, rfl, hc⟩
    · walk_at "rd"
      exact q z _ (Same.refl _) (by omega) (kind_word hw hn)
    · walk_at "rd"
      refine fun y m x z H' hI hD e s1 => ?_
      have kd := kind_date hI e
      rw [hD] at kd
      exact q z _ s1 (by omega) kd.1
    · have nn := num_str h0 h1
      walk_at "rd"
      refine strI_go (log_ok (by omega)) ?_
      exact q _ _ (Same.refl _) (by omega) (kind_num h0 h1)
    · have p2 := (pad2_ok (c := d % 100) (by omega)).1
      have ka := kind_amt h0 h1
      have t2 : LL 2 (padT (d % 100) 2 2) := ⟨Nat.le_of_eq p2⟩
      have le := (LL.mono (n := 1000) (((LL.int (i := d / 100) (by omega)).app (LL.lit (n := 1) (z := ".") (by decide +kernel))).app t2) (by decide)).le
      walk_at "rd"
      refine strI_go (log_ok (by omega)) ?_
      walk_at "rd"
      refine fun z hz => ?_
      have hz2 : z = padT (d % 100) 2 2 := hz
      subst hz2
      walk_at "rd"
      exact q _ _ (Same.refl _) le ka
    · have kp := kind_pct h0 h1
      have le := (pct_len ⟨h0, h1⟩).mono (n := 1000) (by decide)
      have pc := pad4_cut (d := d % 10000) (by omega)
      walk_at "rd"
      refine fun z0 hz0 => ?_
      have hz2 : z0 = padT (d % 10000) 4 4 := hz0
      have lz0 : z0.length = 4 := by rw [hz2]; exact pc.2
      walk_at "rd"
      refine ⟨by decide, by decide, for_range (n := 4) (fun k σ H' => Wall (H' = H ∧ ∃ u, σ = [some (.str "percent"), some (.int d), some (.str (stpNS k z0)), u])) (wall ⟨rfl, _, rfl⟩) ?_ ?_⟩
      · rintro k σ H' hk ⟨w1⟩
        obtain ⟨rfl, u, rfl⟩ := w1 trivial
        have ln := stpN_lenS z0 k
        obtain ⟨z, hz⟩ : ∃ z, z = stpNS k z0 := ⟨_, rfl⟩
        rw [← hz]
        rw [← hz] at ln
        have lz : z.length ≤ sizeLine := by rw [sizeLine_eq]; omega
        refine ⟨fun σ' H'' => Wall (H'' = H' ∧ ∃ u, σ' = [some (.str "percent"), some (.int d), some (.str (stp z)), u]), ?_, ?_⟩
        · walk_at "rd"
          refine iteD (fun c => ?_) (fun c => ?_)
          · have c : (0 : Int) < (z.length : Nat) := c
            obtain ⟨cc, hc1, hc2, hc3⟩ := atI_txt (z := z) (i := (z.length : Nat) - 1) (z.length - 1) (by omega) (by omega)
            walk_at "rd"
            by_cases e : cc = 48
            · subst e
              walk_at "rd"
              rw [stp_cutS (by omega) hc1]
              exact wall ⟨rfl, _, rfl⟩
            · have e2 : (⟨#[cc]⟩ : Str) ≠ "0" := fun q => by
                have := congrArg (fun s : Str => s.cps.toList) q
                have h0 : ("0" : Str).cps.toList = [48] := by decide +kernel
                rw [h0] at this
                exact e (List.cons.inj this).1
              refine iteS (fun q => absurd q e2) (fun _ => ?_)
              rw [stp_stayS (by rw [hc1]; exact fun q => e (Option.some.inj q))]
              exact wall ⟨rfl, _, rfl⟩
          · have c : ¬ (0 : Int) < (z.length : Nat) := c
            rw [stp_nilS (by omega)]
            exact wall ⟨rfl, _, rfl⟩
        · rintro σ' H'' ⟨w1⟩
          obtain ⟨rfl, u, rfl⟩ := w1 trivial
          exact wall ⟨rfl, u, by rw [hz]; rfl⟩
      rintro σ H' ⟨w1⟩
      obtain ⟨rfl, u, rfl⟩ := w1 trivial
      have ep : stpNS 4 z0 = pctD d := by rw [pctD_stp, hz2, pc.1]; rfl
      rw [ep]
      have lp := pctD_len (r := d)
      have lpS : (pctD d).length ≤ sizeLine := by rw [sizeLine_eq]; omega
      have l4 : LL 4 (pctD d) := ⟨lp⟩
      walk_at "rd"
      refine iteD (fun c => ?_) (fun c => ?_)
      · have c : (0 : Int) < ((pctD d).length : Nat) := c
        have ne : pctD d ≠ "" := fun q => by rw [q] at c; revert c; decide +kernel
        have q1 := q _ _ (Same.refl _) le.le kp
        rw [pct_n ne] at q1
        walk_at "rd"
        refine strI_go (log_ok (by omega)) ?_
        walk_at "rd"
        exact q1
      · have c : ¬ (0 : Int) < ((pctD d).length : Nat) := c
        have e0 : pctD d = "" := str_ext (List.eq_nil_of_length_eq_zero (show (pctD d).cps.toList.length = 0 by rw [LB.len_list]; omega))
        have q1 := q _ _ (Same.refl _) le.le kp
        rw [pct_e e0] at q1
        walk_at "rd"
        refine strI_go (log_ok (by omega)) ?_
        walk_at "rd"
        exact q1
    · walk_at "rd"
      exact q _ _ (Same.refl _) (show 1 ≤ 1000 by decide) (.inl ⟨rfl, rfl, c, rfl, decide_eq_true hc⟩)
theorem _law_spelled_go {H : Hp} {Q : VK} {E : XK} {k : Str} {v : V} (ht : TokV k v) (q : ∀ z H', Same H H' → z.length ≤ 1000 → SpF k v z → Q (.str z) H') : sp__law_spelled [.str k, v] H Q E := by
  unfold sp__law_spelled
  exact ⟨k, v, rfl, ht, q⟩

/-! ### _law_cell -/
@[irreducible] def sp__law_cell (K : PySem.W.Frag) : Sp := fun vs H Q _ => ∃ (l : Addr) (ns : List Int) (j : Nat), vs = [.ref l, .int (j : Nat)] ∧ SqL K H l (ns.map V.int) ∧ ns.length ≤ 63 ∧ j < 64 ∧ Q (.int (cell ns j)) H
theorem ok__law_cell (T : Txt K mg) : FnOk P w K mg base (L2.CX P w) 1 T.a__law_cell T.fd__law_cell ["script", "k"] (sp__law_cell K) := by
  refine T.F__law_cell.ok sc__law_cell (fun vs H Q E h => ?_) (fun cdv A outer s H vs Q E hr h => ?_)
  · unfold sp__law_cell at h
    obtain ⟨l, ns, j, rfl, _⟩ := h
    rfl
  · unfold sp__law_cell at h
    obtain ⟨l, ns, j, rfl, hs, hn, hj, q⟩ := h
    refine ⟨_, (pss_cons (ps_if (pt_cmpR op_lt (pv 1) (pe_callB call_ln rfl T.z_len bt_len (pa_cons (pv 0) pa_nil)) (nomark _)) (pss_one (ps_ret (pe_ix ix_seq (pv 0) (pv 1) (fun _ _ => rfl)))) pss_nil)
    (pss_one (ps_ret pe_int))), ?_⟩
    refine ⟨_, rfl, _, rfl, ln_l hs ⟨_, _, rfl, rfl, _, rfl, ?_⟩⟩
    rw [List.length_map]
    refine ite2 (fun h => ?_) (fun h => ?_)
    · have h' : j < ns.length := by have := of_decide_eq_true h; omega
      refine ⟨_, rfl, _, rfl, .inl ⟨l, _, _, .int (cell ns j), rfl, rfl, hs, ?_, q⟩⟩
      exact atI_map_cell h'
    · have h' : ns.length ≤ j := by
        refine Nat.le_of_not_lt fun z => h (decide_eq_true ?_)
        omega
      have e : cell ns j = 0 := by unfold cell; rw [List.getD_eq_getElem?_getD, List.getElem?_eq_none h']; rfl
      rw [e] at q
      exact q
theorem cell_go {H : Hp} {Q : VK} {E : XK} {l : Addr} {ns : List Int} (j : Nat) (hs : SqL K H l (ns.map V.int)) (hn : ns.length ≤ 63) (hj : j < 64) (q : Q (.int (cell ns j)) H) : sp__law_cell K [.ref l, .int (j : Nat)] H Q E := by
  unfold sp__law_cell
  exact ⟨l, ns, j, rfl, hs, hn, hj, q⟩
theorem cell_at {H : Hp} {Q : VK} {E : XK} {l : Addr} {ns : List Int} {x : Int} (j : Nat) (hs : SqL K H l (ns.map V.int)) (hn : ns.length ≤ 63) (hj : j < 64) (ex : x = (j : Nat)) (q : Q (.int (cell ns j)) H) : sp__law_cell K [.ref l, .int x] H Q E := by
  subst ex
  exact cell_go j hs hn hj q
local macro_rules | `(tactic| walk_at "call") => `(tactic| first | (apply cell_go 0; (walk_at "sq"); assumption; decide) | (apply cell_go 1; (walk_at "sq"); assumption; decide) | (apply cell_go 2; (walk_at "sq"); assumption; decide) | (apply cell_go 3; (walk_at "sq"); assumption; decide) | (apply cell_go 4; (walk_at "sq"); assumption; decide) | (apply cell_go 5; (walk_at "sq"); assumption; decide) | (apply cell_go 6; (walk_at "sq"); assumption; decide) | (apply cell_go 7; (walk_at "sq"); assumption; decide) | (apply cell_go 8; (walk_at "sq"); assumption; decide) | (apply cell_go 9; (walk_at "sq"); assumption; decide) | (apply cell_go 10; (walk_at "sq"); assumption; decide) | (apply cell_go 11; (walk_at "sq"); assumption; decide) | (apply cell_go 12; (walk_at "sq"); assumption; decide) | (apply cell_go 13; (walk_at "sq"); assumption; decide))

/-! ### law -/
theorem gapF_gap {l : List Nat} (h : GapF l) : Gap l ∧ ∃ c r, l = c :: r ∧ runC c = false := by
  have rp : ∀ (c : Nat), Gap [c] → ∀ n, Gap (List.replicate n c) := fun c g n => by
    induction n with
    | zero => exact gap_nil
    | succ n ih =>
      rw [List.replicate_succ]
      exact gap_app (x := [c]) g ih
  rcases h with ⟨n, rfl⟩ | ⟨m, n, rfl⟩ | ⟨c, hc, rfl⟩ | rfl
  · exact ⟨rp 32 gap_sp _, 32, _, List.replicate_succ, by decide +kernel⟩
  · exact ⟨gap_app (rp 10 gap_nl _) (rp 32 gap_sp _), 10, _, by rw [List.replicate_succ]; rfl, by decide +kernel⟩
  · refine ⟨?_, 32, _, rfl, by decide +kernel⟩
    have hn : ∀ x ∈ noteL ++ [c], x ≠ 10 := fun x hx => by
      rcases List.mem_append.mp hx with h | h
      · have : ∀ y ∈ noteL, y ≠ 10 := by decide +kernel
        exact this x h
      · rw [List.mem_singleton.mp h]
        exact hc
    exact gap_app (x := [32]) gap_sp (gap_cm hn)
  · refine ⟨?_, 32, _, rfl, by decide +kernel⟩
    exact gap_app (x := [32]) gap_sp (gap_app (x := [35, 10]) (gap_cm (w := []) (fun _ h => by cases h)) (gap_app (x := [10]) gap_nl gap_sp))
/-- a token and what stands behind it -/
theorem tok_step {k : Str} {v : V} {z : Str} {g : List Nat} (hs : SpF k v z) (hg : GapF g ∨ (k = "sign" ∧ g = [])) (R : List Nat) (p : Int × Nat) :
    G (z.cps.toList ++ (g ++ R)) p.1 p.2 = (tokRow k v p.1 p.2 :: (G R (pos g (pos z.cps.toList p)).1 (pos g (pos z.cps.toList p)).2).1, (G R (pos g (pos z.cps.toList p)).1 (pos g (pos z.cps.toList p)).2).2) := by
  have gg : Gap g := hg.elim (fun h => (gapF_gap h).1) fun h => by rw [h.2]; exact gap_nil
  rcases hs with ⟨rfl, rfl, c, rfl, hc⟩ | ⟨hk, hn, hr, hkd⟩
  · show G (c :: (g ++ R)) p.1 p.2 = _
    have hp : pos (⟨#[c]⟩ : Str).cps.toList p = (p.1, p.2 + 1) := by
      show pos [c] p = _
      rw [pos_line [c] p (fun x hx => by rw [List.mem_singleton.mp hx]; exact (sgn_ne hc).2.2)]
      rfl
    rw [G_sg hc, hp, gg]
  · have h10 : ∀ c ∈ z.cps.toList, c ≠ 10 := fun c hc => (run_ne (List.all_eq_true.mp hr c hc)).2.2.1
    have hh : ∀ c, (g ++ R).head? = some c → runC c = false := fun c h => by
      rcases hg with hg | hg
      · obtain ⟨_, x, r, rfl, hx⟩ := gapF_gap hg
        cases h
        exact hx
      · exact absurd hg.1 hk
    have hz : (⟨z.cps.toList.toArray⟩ : Str) = z := str_ext rfl
    rw [G_run hn hr (by rw [hz]; exact hkd) hh, pos_line z.cps.toList p h10, gg]
/-- a row whose parts are texts and numbers -/
def RowT (r : List V) : Prop := ∃ (k : Str) (v : V) (ln : Int) (a : Nat), r = tokRow k v ln a ∧ ((∃ z, v = .str z) ∨ ∃ i, v = .int i)
/-- what the text so far says -/
def TxOk (tx : Str) (rows : List (List V)) : Prop := ∀ R, G (tx.cps.toList ++ R) 1 0 = (rows ++ (G R (pos tx.cps.toList (1, 0)).1 (pos tx.cps.toList (1, 0)).2).1, (G R (pos tx.cps.toList (1, 0)).1 (pos tx.cps.toList (1, 0)).2).2)
theorem txOk_step {tx z g : Str} {rows : List (List V)} {k : Str} {v : V} (h : TxOk tx rows) (hs : SpF k v z) (hg : GapF g.cps.toList ∨ (k = "sign" ∧ g.cps.toList = [])) : TxOk (tx ++ z ++ g) (rows ++ [tokRow k v (pos tx.cps.toList (1, 0)).1 (pos tx.cps.toList (1, 0)).2]) := by
  intro R
  rw [tl_app, tl_app, List.append_assoc, List.append_assoc, h, tok_step hs hg, pos_app, pos_app]
  simp
theorem endRow_pos (tx : Str) : endRow tx = tokRow "end" (.str "") (pos tx.cps.toList (1, 0)).1 (pos tx.cps.toList (1, 0)).2 := by
  have h := pos_lines tx.cps.toList [] 1
  have e := lines_eq2 tx
  have hl : (linesZ tx).length = (linesA [] tx.cps.toList).length := by rw [← e, List.length_map]
  have hd : ((linesZ tx).getLastD "").length = ((linesA [] tx.cps.toList).getLastD []).length := by
    rw [← e]
    have hn := linesZ_ne tx
    obtain ⟨m, x, em⟩ : ∃ m x, linesZ tx = m ++ [x] := ⟨_, _, (List.dropLast_concat_getLast hn).symm⟩
    rw [em, List.map_append, List.getLastD_concat]
    show x.length = ((m.map TL.tl ++ [TL.tl x]).getLastD []).length
    rw [List.getLastD_concat]
    rfl
  have h2 : pos tx.cps.toList (1, 0) = (1 + (((linesA [] tx.cps.toList).length : Nat) : Int) - 1, ((linesA [] tx.cps.toList).getLastD []).length) := h
  unfold endRow tokRow
  rw [h2, hl, hd]
  have e1 : (1 + (((linesA [] tx.cps.toList).length : Nat) : Int) - 1) = (((linesA [] tx.cps.toList).length : Nat) : Int) := by omega
  rw [e1]
  rfl
theorem ok_law (T : Txt K mg) : FnOk P w K mg base (L2.CX P w) 10 T.a_law T.fd_law ["script"] (sp_law K) := by
  refine T.F_law.ok sc_law (fun vs H Q E h => ?_) (fun cdv A outer s H vs Q E hr h => ?_)
  · obtain ⟨l, ns, rfl, _⟩ := h
    rfl
  · obtain ⟨l0, ns, rfl, hs, hn, hb, q⟩ := h
    refine ⟨_, (pss_cons (ps_set (i := 1) sc_law.nd rfl (Or.inl rfl) pe_str)
    (pss_cons (ps_set (i := 2) sc_law.nd rfl (Or.inl rfl) (pe_lst pa_nil))
    (pss_cons (ps_cut (ps_if (pt_cmpR op_eq (pe_op op_mod (pe_callTy call_int1 rfl T.z_int bt_int (pa_cons (pe_callS (ok__law_cell T) (hr.mono (by decide)) rfl T.m__law_cell T.F__law_cell.kp T.b__law_cell (fun σ => passAt (takes_of rfl rfl rfl rfl) σ) (pa_cons (pv 0) (pa_cons pe_int pa_nil))) pa_nil)) pe_int) pe_int (nomark _)) (pss_one (ps_set (i := 1) sc_law.nd rfl (Or.inl rfl) (pe_callS (ok__law_space T) (hr.mono (by decide)) rfl T.m__law_space T.F__law_space.kp T.b__law_space (fun σ => passAt (takes_of rfl rfl rfl rfl) σ) (pa_cons (pe_op op_fdivB (pe_callS (ok__law_cell T) (hr.mono (by decide)) rfl T.m__law_cell T.F__law_cell.kp T.b__law_cell (fun σ => passAt (takes_of rfl rfl rfl rfl) σ) (pa_cons (pv 0) (pa_cons pe_int pa_nil))) pe_int) pa_nil)))) pss_nil))
    (pss_cons (ps_set (i := 3) sc_law.nd rfl (Or.inl rfl) (pe_callS (ok__law_after T) (hr.mono (by decide)) rfl T.m__law_after T.F__law_after.kp T.b__law_after (fun σ => passAt (takes_of rfl rfl rfl rfl) σ) (pa_cons pe_int (pa_cons pe_int (pa_cons (pv 1) pa_nil)))))
    (pss_cons (ps_for (passes_of rfl) rfl (pi_range1 rfl T.z_range (pa_cons (pe_callB (call_mn rfl) rfl T.z_min bt_min (pa_cons pe_int (pa_cons (pe_callB (call_mx rfl) rfl T.z_max bt_max (pa_cons pe_int (pa_cons (pe_op op_sub (pe_callB call_ln rfl T.z_len bt_len (pa_cons (pv 0) pa_nil)) pe_int) pa_nil))) pa_nil))) pa_nil)) (pg_name (i := 4) sc_law.nd rfl (Or.inl rfl))
      (pss_cons (ps_set (i := 5) sc_law.nd rfl (Or.inl rfl) (pe_callS (ok__law_token T) (hr.mono (by decide)) rfl T.m__law_token T.F__law_token.kp T.b__law_token (fun σ => passAt (takes_of rfl rfl rfl rfl) σ) (pa_cons (pe_ix ix_seq (pv 0) (pe_op op_add pe_int (pv 4)) (fun _ _ => rfl)) pa_nil)))
      (pss_cons (ps_set (i := 6) sc_law.nd rfl (Or.inl rfl) (pe_callS (ok__law_spelled T) (hr.mono (by decide)) rfl T.m__law_spelled T.F__law_spelled.kp T.b__law_spelled (fun σ => passAt (takes_of rfl rfl rfl rfl) σ) (pa_cons (pe_ix ix_tup (pv 5) pe_int (fun _ _ => rfl)) (pa_cons (pe_ix ix_tup (pv 5) pe_int (fun _ _ => rfl)) pa_nil))))
      (pss_cons (ps_expr (pe_bm PySem.F.plainAttrs_list PySem.F.slot_list_append PySem.F.type_list_append mt_app (pv 2) (pa_cons (pe_tup (pa_cons (pe_ix ix_tup (pv 5) pe_int (fun _ _ => rfl)) (pa_cons (pe_ix ix_tup (pv 5) pe_int (fun _ _ => rfl)) (pa_cons (pe_ix ix_tup (pv 3) pe_int (fun _ _ => rfl)) (pa_cons (pe_ix ix_tup (pv 3) pe_int (fun _ _ => rfl)) pa_nil))))) pa_nil)))
      (pss_cons (ps_set (i := 1) sc_law.nd rfl (Or.inl rfl) (pe_op op_addS (pv 1) (pv 6)))
      (pss_cons (ps_set (i := 3) sc_law.nd rfl (Or.inl rfl) (pe_callS (ok__law_after T) (hr.mono (by decide)) rfl T.m__law_after T.F__law_after.kp T.b__law_after (fun σ => passAt (takes_of rfl rfl rfl rfl) σ) (pa_cons (pe_ix ix_tup (pv 3) pe_int (fun _ _ => rfl)) (pa_cons (pe_ix ix_tup (pv 3) pe_int (fun _ _ => rfl)) (pa_cons (pv 6) pa_nil)))))
      (pss_cons (ps_set (i := 7) sc_law.nd rfl (Or.inl rfl) (pe_callS (ok__law_space T) (hr.mono (by decide)) rfl T.m__law_space T.F__law_space.kp T.b__law_space (fun σ => passAt (takes_of rfl rfl rfl rfl) σ) (pa_cons (pe_op op_add (pe_op op_fdivB (pe_ix ix_seq (pv 0) (pe_op op_add pe_int (pv 4)) (fun _ _ => rfl)) pe_int) (pv 4)) pa_nil)))
      (pss_cons (ps_cut (ps_if (PW.pt (pw_and (pt_cmpR op_eq (pe_ix ix_tup (pv 5) pe_int (fun _ _ => rfl)) pe_str (nomark _)) (pw_and1 (pt_cmpR op_eq (pe_op op_mod (pe_op op_fdivB (pe_callTy call_int1 rfl T.z_int bt_int (pa_cons (pe_ix ix_seq (pv 0) (pe_op op_add pe_int (pv 4)) (fun _ _ => rfl)) pa_nil)) pe_int) pe_int) pe_int (nomark _))))) (pss_one (ps_set (i := 7) sc_law.nd rfl (Or.inl rfl) pe_str)) pss_nil))
      (pss_cons (ps_set (i := 1) sc_law.nd rfl (Or.inl rfl) (pe_op op_addS (pv 1) (pv 7)))
      (pss_one (ps_set (i := 3) sc_law.nd rfl (Or.inl rfl) (pe_callS (ok__law_after T) (hr.mono (by decide)) rfl T.m__law_after T.F__law_after.kp T.b__law_after (fun σ => passAt (takes_of rfl rfl rfl rfl) σ) (pa_cons (pe_ix ix_tup (pv 3) pe_int (fun _ _ => rfl)) (pa_cons (pe_ix ix_tup (pv 3) pe_int (fun _ _ => rfl)) (pa_cons (pv 7) pa_nil)))))))))))))))
    (pss_cons (ps_cut (ps_if (pt_cmpR op_eq (pe_op op_mod (pe_op op_fdivB (pe_callTy call_int1 rfl T.z_int bt_int (pa_cons (pe_callS (ok__law_cell T) (hr.mono (by decide)) rfl T.m__law_cell T.F__law_cell.kp T.b__law_cell (fun σ => passAt (takes_of rfl rfl rfl rfl) σ) (pa_cons (pv 0) (pa_cons pe_int pa_nil))) pa_nil)) pe_int) pe_int) pe_int (nomark _)) (pss_cons (ps_set (i := 1) sc_law.nd rfl (Or.inl rfl) (pe_op op_addS (pv 1) pe_str))
      (pss_one (ps_set (i := 3) sc_law.nd rfl (Or.inl rfl) (pe_callS (ok__law_after T) (hr.mono (by decide)) rfl T.m__law_after T.F__law_after.kp T.b__law_after (fun σ => passAt (takes_of rfl rfl rfl rfl) σ) (pa_cons (pe_ix ix_tup (pv 3) pe_int (fun _ _ => rfl)) (pa_cons (pe_ix ix_tup (pv 3) pe_int (fun _ _ => rfl)) (pa_cons pe_str pa_nil))))))) pss_nil))
    (pss_cons (ps_expr (pe_bm PySem.F.plainAttrs_list PySem.F.slot_list_append PySem.F.type_list_append mt_app (pv 2) (pa_cons (pe_tup (pa_cons pe_str (pa_cons pe_str (pa_cons (pe_ix ix_tup (pv 3) pe_int (fun _ _ => rfl)) (pa_cons (pe_ix ix_tup (pv 3) pe_int (fun _ _ => rfl)) pa_nil))))) pa_nil)))
    (pss_cons (ps_set (i := 8) sc_law.nd rfl (Or.inl rfl) (pe_callS (ok_tokens_of T) (hr.mono (by decide)) rfl T.m_tokens_of T.F_tokens_of.kp T.b_tokens_of (fun σ => passAt (takes_of rfl rfl rfl rfl) σ) (pa_cons (pv 1) pa_nil)))
    (pss_cons (ps_if (PW.pt (pw_or (pt_not (pt_val (pe_callB call_is rfl T.z_isinstance bt_isinstance (pa_cons (pv 8) (pa_cons (pe_bltn (v := .ty "list") rfl T.z_list bt_list rfl) pa_nil))))) (pw_or1 (pt_cmpR op_ne (pe_callB call_ln rfl T.z_len bt_len (pa_cons (pv 8) pa_nil)) (pe_callB call_ln rfl T.z_len bt_len (pa_cons (pv 2) pa_nil)) (nomark _))))) (pss_one (ps_ret pe_bl)) pss_nil)
    (pss_cons (ps_for (passes_of rfl) rfl (pi_range1 rfl T.z_range (pa_cons (pe_callB call_ln rfl T.z_len bt_len (pa_cons (pv 2) pa_nil)) pa_nil)) (pg_name (i := 4) sc_law.nd rfl (Or.inl rfl))
      (pss_cons (ps_if (PW.pt (pw_or (pt_not (pt_val (pe_callB call_is rfl T.z_isinstance bt_isinstance (pa_cons (pe_ix ix_list (pv 8) (pv 4) (fun _ _ => rfl)) (pa_cons (pe_bltn (v := .ty "tuple") rfl T.z_tuple bt_tuple rfl) pa_nil))))) (pw_or1 (pt_cmpR op_ne (pe_callB call_ln rfl T.z_len bt_len (pa_cons (pe_ix ix_list (pv 8) (pv 4) (fun _ _ => rfl)) pa_nil)) pe_int (nomark _))))) (pss_one (ps_ret pe_bl)) pss_nil)
      (pss_one (ps_for (passes_of rfl) rfl (pi_range1 rfl T.z_range (pa_cons pe_int pa_nil)) (pg_name (i := 9) sc_law.nd rfl (Or.inl rfl))
        (pss_cons (ps_set (i := 10) sc_law.nd rfl (Or.inl rfl) (pe_ix ix_tup (pe_ix ix_list (pv 8) (pv 4) (fun _ _ => rfl)) (pv 9) (fun _ _ => rfl)))
        (pss_one (ps_cut (ps_if (pt_val (pe_callB call_is rfl T.z_isinstance bt_isinstance (pa_cons (pe_ix ix_tup (pe_ix ix_list (pv 2) (pv 4) (fun _ _ => rfl)) (pv 9) (fun _ _ => rfl)) (pa_cons (pe_bltn (v := .ty "str") rfl T.z_str bt_str rfl) pa_nil)))) (pss_one (ps_if (PW.pt (pw_or (pt_not (pt_val (pe_callB call_is rfl T.z_isinstance bt_isinstance (pa_cons (pv 10) (pa_cons (pe_bltn (v := .ty "str") rfl T.z_str bt_str rfl) pa_nil))))) (pw_or1 (pt_cmpR op_ne (pv 10) (pe_ix ix_tup (pe_ix ix_list (pv 2) (pv 4) (fun _ _ => rfl)) (pv 9) (fun _ _ => rfl)) (nomark _))))) (pss_one (ps_ret pe_bl)) pss_nil)) (pss_one (ps_if (PW.pt (pw_or (pt_not (pt_val (pe_callB call_is rfl T.z_isinstance bt_isinstance (pa_cons (pv 10) (pa_cons (pe_bltn (v := .ty "int") rfl T.z_int bt_int rfl) pa_nil))))) (pw_or (pt_val (pe_callB call_is rfl T.z_isinstance bt_isinstance (pa_cons (pv 10) (pa_cons (pe_bltn (v := .ty "bool") rfl T.z_bool bt_bool rfl) pa_nil)))) (pw_or1 (pt_cmpR op_ne (pv 10) (pe_ix ix_tup (pe_ix ix_list (pv 2) (pv 4) (fun _ _ => rfl)) (pv 9) (fun _ _ => rfl)) (nomark _)))))) (pss_one (ps_ret pe_bl)) pss_nil))))))))))
    (pss_one (ps_ret pe_bl)))))))))))), ?_⟩
    walk_at "rd"
    rename_i du nd
    have s1 := same_new (o := .lst []) (Same.refl H) nd
    have hs1 := same_lst s1 hs
    refine ⟨fun σ' H' => Wall (∃ tx : Str, Same H H' ∧ H' du = some (.lst []) ∧ σ' = [some (.ref l0), some (.str tx), some (.ref du), none, none, none, none, none, none, none, none] ∧ tx.length ≤ 30 ∧ TxOk tx []), ?_, ?_⟩
    · walk_at "rd"
      refine iteI (fun _ => ?_) (fun _ => ?_)
      · walk_at "rd"
        refine _law_space_go (((cell_sz hb 0).div (j := 3)).mono (by decide)) fun z H1 s2 zl zg => ?_
        walk_at "rd"
        refine wall ⟨z, s1.trans s2, s2 _ _ upd_same, rfl, zl, fun R => ?_⟩
        rw [(gapF_gap zg).1]
        rfl
      · exact wall ⟨"", s1, upd_same, rfl, by decide +kernel, fun R => rfl⟩
    rintro σ H2 ⟨w1⟩
    obtain ⟨tx0, s2, ed, rfl, tl0, tk0⟩ := w1 trivial
    clear w1
    walk_at "rd"
    refine _law_after_go (ln := 1) (a := 0) (by omega) fun pl H3 s3 e3 => ?_
    have hs3 := same_lst (s2.trans s3) hs
    have ed3 := s3 _ _ ed
    have hlm : (((ns.map V.int).length : Nat) : Int) = (ns.length : Nat) := by rw [List.length_map]
    walk_at "rd"
    rw [hlm]
    obtain ⟨N, eN, N30, Nl⟩ : ∃ N : Nat, (if (if (0 : Int) < (ns.length : Nat) - 1 then ((ns.length : Nat) : Int) - 1 else 0) < 30 then (if (0 : Int) < (ns.length : Nat) - 1 then ((ns.length : Nat) : Int) - 1 else 0) else 30) = (N : Int) ∧ N ≤ 30 ∧ ∀ k, k < N → 1 + k < ns.length := by
      by_cases a : (0 : Int) < (ns.length : Nat) - 1
      · rw [if_pos a]
        by_cases b : ((ns.length : Nat) : Int) - 1 < 30
        · rw [if_pos b]
          exact ⟨(((ns.length : Nat) : Int) - 1).toNat, by omega, by omega, fun k hk => by omega⟩
        · rw [if_neg b]
          exact ⟨30, rfl, by omega, fun k hk => by omega⟩
      · rw [if_neg a, if_pos (by decide)]
        exact ⟨0, rfl, by omega, fun k hk => absurd hk (by omega)⟩
    rw [eN]
    have nH : H du = none := nd
    refine ⟨by omega, by omega, for_range (n := N) (fun k σ H' => Wall (∃ (tx : Str) (pl : Addr) (us : List V) (rows : List (List V)) (u4 u5 u6 u7 : Option V), σ = [some (.ref l0), some (.str tx), some (.ref du), some (.ref pl), u4, u5, u6, u7, none, none, none] ∧ Same H H' ∧ H' pl = some (.tup [.int (pos tx.cps.toList (1, 0)).1, .int (((pos tx.cps.toList (1, 0)).2 + 1 : Nat) : Int)]) ∧ H' du = some (.lst us) ∧ Tups K H' us rows ∧ rows.length = k ∧ tx.length ≤ 30 + 1100 * k ∧ TxOk tx rows ∧ ∀ r ∈ rows, RowT r)) (wall ⟨tx0, pl, [], [], _, _, _, _, rfl, s2.trans s3, e3, ed3, Tups.nil, rfl, by omega, tk0, fun r h => by cases h⟩) ?_ ?_⟩
    · rintro k σ H' hk ⟨w1⟩
      obtain ⟨tx, p1, us, rows, u4, u5, u6, u7, rfl, sx, ep, edu, tus, hrl, htl, htk, hrt⟩ := w1 trivial
      clear w1
      have hs' := same_lst sx hs
      have a1 : atI (ns.map V.int) (1 + (0 + (k : Int))) = some (.int (cell ns (1 + k))) := by
        rw [show (1 + (0 + (k : Int))) = ((1 + k : Nat) : Int) by omega]
        exact atI_map_cell (Nl k hk)
      have ltx : LL 40000 tx := ⟨by omega⟩
      have hll : us.length < sizeLine := by
        have := tus.len
        rw [sizeLine_eq]
        omega
      walk_at "rd"
      refine _law_token_go ((cell_sz hb _).mono (by decide)) fun kd v pt H5 s5 tv e5 => ?_
      have t5 := t_of (K := K) e5
      walk_at "rd"
      refine _law_spelled_go tv fun z H6 s6 zl zs => ?_
      have t6 := t_of (K := K) (s6 _ _ e5)
      have ep6 := s6 _ _ (s5 _ _ ep)
      have edu6 := s6 _ _ (s5 _ _ edu)
      have tp6 := t_of (K := K) ep6
      have lz : LL 1000 z := ⟨zl⟩
      walk_at "rd"
      rename_i pr npr
      have sx6 : Same H H6 := sx.trans (s5.trans s6)
      obtain ⟨H7, eH7⟩ : ∃ H7, H7 = upd (upd H6 pr (.tup [.str kd, v, .int (pos tx.cps.toList (1, 0)).1, .int (((pos tx.cps.toList (1, 0)).2 + 1 : Nat) : Int)])) du (.lst (us ++ [.ref pr])) := ⟨_, rfl⟩
      have fr7 : ∀ b o, b ≠ du → H6 b = some o → H7 b = some o := fun b o hb e => by rw [eH7, upd_ne hb]; exact hp_upd npr e
      have e7 : H7 du = some (.lst (us ++ [.ref pr])) := by rw [eH7]; exact upd_same
      have sx7 : Same H H7 := by rw [eH7]; exact same_set (same_new sx6 npr) nH
      have tu7 : Tups K H7 (us ++ [.ref pr]) (rows ++ [tokRow kd v (pos tx.cps.toList (1, 0)).1 (pos tx.cps.toList (1, 0)).2]) := by
        rw [eH7]
        exact app_tups edu6 npr (tus.same (s5.trans s6))
      have p1du : p1 ≠ du := fun e => by rw [e, edu6] at ep6; cases ep6
      have ept6 := s6 _ _ e5
      have ptdu : pt ≠ du := fun e => by rw [e, edu6] at ept6; cases ept6
      have tp7 := t_of (K := K) (fr7 _ _ p1du ep6)
      have ept7 := fr7 _ _ ptdu ept6
      rw [← eH7]
      clear eH7 tp6 t6
      walk_at "rd"
      refine _law_after_go (ln := (pos tx.cps.toList (1, 0)).1) (a := (pos tx.cps.toList (1, 0)).2) (by omega) fun p2 H8 s8 e8 => ?_
      have hs8 := same_lst (sx7.trans s8) hs
      have tpt8 := t_of (K := K) (s8 _ _ ept7)
      walk_at "rd"
      refine _law_space_go ((((cell_sz hb (1 + k)).div (j := 7)).add (Sz.mk (n := 6) (i := 0 + (k : Int)) (by omega))).mono (by decide)) fun g H9 s9 gl gf => ?_
      have tpt9 := same_tup s9 tpt8
      have hs9 := same_lst s9 hs8
      have e9 := s9 _ _ e8
      walk_at "rd"
      refine ⟨fun σ' H' => Wall (∃ g2 : Str, H' = H9 ∧ g2.length ≤ 30 ∧ (GapF g2.cps.toList ∨ (kd = "sign" ∧ g2.cps.toList = [])) ∧ σ' = [some (.ref l0), some (.str (tx ++ z)), some (.ref du), some (.ref p2), some (.int (0 + (k : Int))), some (.ref pt), some (.str z), some (.str g2), none, none, none]), ?_, ?_⟩
      · walk_at "rd"
        refine iteS (fun k1 => ?_) (fun k1 => ?_)
        · walk_at "rd"
          refine iteI (fun k2 => ?_) (fun k2 => ?_)
          · walk_at "rd"
            exact wall ⟨"", rfl, by decide +kernel, .inr ⟨k1, by decide +kernel⟩, rfl⟩
          · exact wall ⟨g, rfl, gl, .inl gf, rfl⟩
        · exact wall ⟨g, rfl, gl, .inl gf, rfl⟩
      rintro σ' H10 ⟨w2⟩
      obtain ⟨g2, rfl, g2l, g2f, rfl⟩ := w2 trivial
      clear w2
      have lg : LL 30 g2 := ⟨g2l⟩
      have te9 := t_of (K := K) e9
      walk_at "rd"
      refine _law_after_go (ln := (pos z.cps.toList (pos tx.cps.toList (1, 0))).1) (a := (pos z.cps.toList (pos tx.cps.toList (1, 0))).2) (by omega) fun p3 H11 s11 e11 => ?_
      walk_at "rd"
      have sx11 := sx7.trans (s8.trans (s9.trans s11))
      have ss := s8.trans (s9.trans s11)
      refine wall ⟨tx ++ z ++ g2, p3, us ++ [.ref pr], rows ++ [tokRow kd v (pos tx.cps.toList (1, 0)).1 (pos tx.cps.toList (1, 0)).2], _, _, _, _, rfl, sx11, ?_, ss _ _ e7, tu7.same ss, by rw [List.length_append, hrl]; rfl, by rw [len_app, len_app]; omega, txOk_step htk zs g2f, fun r hr => ?_⟩
      · rw [e11, tl_app, tl_app, pos_app, pos_app]
      · rcases List.mem_append.mp hr with hr | hr
        · exact hrt r hr
        · rw [List.mem_singleton.mp hr]
          refine ⟨kd, v, _, _, rfl, ?_⟩
          rcases tv with ⟨_, z, e, _⟩ | ⟨_, d, e, _⟩ | ⟨_, d, e, _⟩ | ⟨_, d, e, _⟩ | ⟨_, d, e, _⟩ | ⟨_, c, e, _⟩
          · exact .inl ⟨z, e⟩
          · exact .inr ⟨d, e⟩
          · exact .inr ⟨d, e⟩
          · exact .inr ⟨d, e⟩
          · exact .inr ⟨d, e⟩
          · exact .inl ⟨_, e⟩
    · rintro σ H' ⟨w1⟩
      obtain ⟨tx, p1, us, rows, u4, u5, u6, u7, rfl, sx, ep, edu, tus, hrl, htl, htk, hrt⟩ := w1 trivial
      clear w1
      have hs4 := same_lst sx hs
      have tp4 := t_of (K := K) ep
      have ltx : LL 40000 tx := ⟨by omega⟩
      refine ⟨fun σ' H2' => Wall (∃ (tx2 : Str) (p2 : Addr), σ' = [some (.ref l0), some (.str tx2), some (.ref du), some (.ref p2), u4, u5, u6, u7, none, none, none] ∧ Same H' H2' ∧ H2' p2 = some (.tup [.int (pos tx2.cps.toList (1, 0)).1, .int (((pos tx2.cps.toList (1, 0)).2 + 1 : Nat) : Int)]) ∧ tx2.length ≤ 50000 ∧ G tx2.cps.toList 1 0 = (rows, none)), ?_, ?_⟩
      · walk_at "rd"
        refine iteI (fun _ => ?_) (fun _ => ?_)
        · walk_at "rd"
          refine _law_after_go (ln := (pos tx.cps.toList (1, 0)).1) (a := (pos tx.cps.toList (1, 0)).2) (by decide +kernel) fun p2 H2' s2' e2' => ?_
          walk_at "rd"
          have ee : ("# the end } ;" : Str).cps.toList = 35 :: (" the end } ;" : Str).cps.toList := by decide +kernel
          refine wall ⟨tx ++ "# the end } ;", p2, rfl, s2', by rw [e2', tl_app, pos_app], ?_, ?_⟩
          · rw [len_app]
            have : ("# the end } ;" : Str).length ≤ 100 := by decide +kernel
            omega
          · rw [tl_app, htk, ee, G_cmE (by decide +kernel), List.append_nil]
        · refine wall ⟨tx, p1, rfl, Same.refl _, ep, by omega, ?_⟩
          have := htk []
          rw [List.append_nil, G_nil, List.append_nil] at this
          exact this
      rintro σ H5 ⟨w1⟩
      obtain ⟨tx2, p2, rfl, s5, e5, l5, g5⟩ := w1 trivial
      clear w1
      have edu5 := s5 _ _ edu
      have tu5 := tus.same s5
      have tp5 := t_of (K := K) e5
      have hll : us.length < sizeLine := by
        have := tus.len
        rw [sizeLine_eq]
        omega
      walk_at "rd"
      rename_i pe npe
      refine tokens_of_go T (by omega) (fun n c x => by rw [scan_G, g5] at x; cases x) fun _ pa H6 ua s6 np6 e6 t6 => ?_
      have e9 : (scanT (linesZ tx2) 0).1 = rows := by rw [scan_G, g5]
      rw [e9, endRow_pos] at t6
      have d6 := s6 _ _ (upd_same (H := upd H5 pe (.tup [.str "end", .str "", .int (pos tx2.cps.toList (1, 0)).1, .int (((pos tx2.cps.toList (1, 0)).2 + 1 : Nat) : Int)])) (a := du) (o := .lst (us ++ [.ref pe])))
      have td6 : Tups K H6 (us ++ [.ref pe]) (rows ++ [tokRow "end" (.str "") (pos tx2.cps.toList (1, 0)).1 (pos tx2.cps.toList (1, 0)).2]) := (app_tups (K := K) (r := [.str "end", .str "", .int (pos tx2.cps.toList (1, 0)).1, .int (((pos tx2.cps.toList (1, 0)).2 + 1 : Nat) : Int)]) (o' := .lst (us ++ [.ref pe])) edu5 npe tu5).same s6
      have hrD : ∀ r ∈ rows ++ [tokRow "end" (.str "") (pos tx2.cps.toList (1, 0)).1 (pos tx2.cps.toList (1, 0)).2], RowT r := fun r hr => by
        rcases List.mem_append.mp hr with hr | hr
        · exact hrt r hr
        · rw [List.mem_singleton.mp hr]
          exact ⟨_, _, _, _, rfl, .inl ⟨_, rfl⟩⟩
      generalize rows ++ [tokRow "end" (.str "") (pos tx2.cps.toList (1, 0)).1 (pos tx2.cps.toList (1, 0)).2] = D at t6 td6 hrD
      have La := l_of (K := K) e6
      have Ld := l_of (K := K) d6
      have la := t6.len
      have ld := td6.len
      have hDl : (us ++ [V.ref pe]).length ≤ 100 := by
        have := tus.len
        rw [List.length_append]
        show us.length + 1 ≤ 100
        omega
      have hlen : ((ua.length : Nat) : Int) = ((us ++ [V.ref pe]).length : Nat) := by omega
      generalize us ++ [V.ref pe] = ud at *
      walk_at "rd"
      refine iteIN (fun x => absurd hlen x) (fun _ => ?_)
      walk_at "rd"
      refine ⟨by omega, by omega, for_range (n := ud.length) (fun k σ H' => Wall (H' = H6 ∧ ∃ u4 u9 u10, σ = [some (.ref l0), some (.str tx2), some (.ref du), some (.ref p2), u4, u5, u6, u7, some (.ref pa), u9, u10])) (wall ⟨rfl, _, _, _, rfl⟩) ?_ ?_⟩
      · rintro k σ H7 hk ⟨w1⟩
        obtain ⟨rfl, v4, v9, v10, rfl⟩ := w1 trivial
        clear w1
        obtain ⟨r, hr⟩ : ∃ r, D[k]? = some r := ⟨_, List.getElem?_eq_getElem (by omega)⟩
        obtain ⟨kd, v, ln, c, rfl, hv⟩ := hrD r (List.mem_of_getElem? hr)
        obtain ⟨aA, hA, tA⟩ := t6.get hr
        obtain ⟨aD, hD, tD⟩ := td6.get hr
        have hA2 : atI ua (0 + (k : Int)) = some (.ref aA) := by rw [Int.zero_add]; exact hA
        have hD2 : atI ud (0 + (k : Int)) = some (.ref aD) := by rw [Int.zero_add]; exact hD
        walk_at "rd"
        refine ⟨by decide, by decide, for_range (n := 4) (fun j σ H' => Wall (H' = H7 ∧ ∃ u9 u10, σ = [some (.ref l0), some (.str tx2), some (.ref du), some (.ref p2), some (.int (0 + (k : Int))), u5, u6, u7, some (.ref pa), u9, u10])) (wall ⟨rfl, _, _, rfl⟩) ?_ ?_⟩
        · rintro j σ H8 hj ⟨w1⟩
          obtain ⟨rfl, v9, v10, rfl⟩ := w1 trivial
          clear w1
          obtain ⟨x, hx, hxx⟩ : ∃ x, atI (tokRow kd v ln c) (0 + (j : Int)) = some x ∧ ((∃ z, x = V.str z) ∨ ∃ i, x = V.int i) := by
            obtain rfl | rfl | rfl | rfl : j = 0 ∨ j = 1 ∨ j = 2 ∨ j = 3 := by omega
            · exact ⟨_, rfl, .inl ⟨_, rfl⟩⟩
            · exact ⟨_, rfl, hv⟩
            · exact ⟨_, rfl, .inr ⟨_, rfl⟩⟩
            · exact ⟨_, rfl, .inr ⟨_, rfl⟩⟩
          rcases hxx with ⟨z, rfl⟩ | ⟨i, rfl⟩
          · walk_at "rd"
            refine ⟨_, ?_, fun _ _ h => h⟩
            walk_at "rd"
            refine iteSN (fun x => absurd rfl x) (fun _ => ?_)
            walk_at "rd"
            exact wall ⟨rfl, _, _, rfl⟩
          · walk_at "rd"
            refine ⟨_, ?_, fun _ _ h => h⟩
            walk_at "rd"
            refine iteIN (fun x => absurd rfl x) (fun _ => ?_)
            walk_at "rd"
            exact wall ⟨rfl, _, _, rfl⟩
        · rintro σ H8 ⟨w1⟩
          obtain ⟨rfl, v9, v10, rfl⟩ := w1 trivial
          exact wall ⟨rfl, _, _, _, rfl⟩
      · rintro σ H7 ⟨w1⟩
        obtain ⟨rfl, v4, v9, v10, rfl⟩ := w1 trivial
        walk_at "rd"
        exact q _

end
theorem all_mk {w : World} {K : PySem.W.Frag} {h : Heap} {mg : Str → Option Value} {fa : Addr} (X : K.In h) (G : h.Ns mainGlobals mg) (hfa : mg "law" = some (.ref fa))
    {f_check_between : Addr} {oc_check_between kV_check_between dc_check_between pm_check_between cd_check_between ct_check_between : Value} {od_check_between an_check_between : Option Addr} {sl_check_between : Array (Option Value)}
    {f_is_lower : Addr} {oc_is_lower kV_is_lower dc_is_lower pm_is_lower cd_is_lower ct_is_lower : Value} {od_is_lower an_is_lower : Option Addr} {sl_is_lower : Array (Option Value)}
    {f_is_digit : Addr} {oc_is_digit kV_is_digit dc_is_digit pm_is_digit cd_is_digit ct_is_digit : Value} {od_is_digit an_is_digit : Option Addr} {sl_is_digit : Array (Option Value)}
    {f_is_leap : Addr} {oc_is_leap kV_is_leap dc_is_leap pm_is_leap cd_is_leap ct_is_leap : Value} {od_is_leap an_is_leap : Option Addr} {sl_is_leap : Array (Option Value)}
    {f_month_length : Addr} {oc_month_length kV_month_length dc_month_length pm_month_length cd_month_length ct_month_length : Value} {od_month_length an_month_length : Option Addr} {sl_month_length : Array (Option Value)}
    {f_year_start : Addr} {oc_year_start kV_year_start dc_year_start pm_year_start cd_year_start ct_year_start : Value} {od_year_start an_year_start : Option Addr} {sl_year_start : Array (Option Value)}
    {f_day_number : Addr} {oc_day_number kV_day_number dc_day_number pm_day_number cd_day_number ct_day_number : Value} {od_day_number an_day_number : Option Addr} {sl_day_number : Array (Option Value)}
    {f_is_written : Addr} {oc_is_written kV_is_written dc_is_written pm_is_written cd_is_written ct_is_written : Value} {od_is_written an_is_written : Option Addr} {sl_is_written : Array (Option Value)}
    {f_is_date : Addr} {oc_is_date kV_is_date dc_is_date pm_is_date cd_is_date ct_is_date : Value} {od_is_date an_is_date : Option Addr} {sl_is_date : Array (Option Value)}
    {f_read_date : Addr} {oc_read_date kV_read_date dc_read_date pm_read_date cd_read_date ct_read_date : Value} {od_read_date an_read_date : Option Addr} {sl_read_date : Array (Option Value)}
    {f_is_run_character : Addr} {oc_is_run_character kV_is_run_character dc_is_run_character pm_is_run_character cd_is_run_character ct_is_run_character : Value} {od_is_run_character an_is_run_character : Option Addr} {sl_is_run_character : Array (Option Value)}
    {f_is_number : Addr} {oc_is_number kV_is_number dc_is_number pm_is_number cd_is_number ct_is_number : Value} {od_is_number an_is_number : Option Addr} {sl_is_number : Array (Option Value)}
    {f_is_plain_number : Addr} {oc_is_plain_number kV_is_plain_number dc_is_plain_number pm_is_plain_number cd_is_plain_number ct_is_plain_number : Value} {od_is_plain_number an_is_plain_number : Option Addr} {sl_is_plain_number : Array (Option Value)}
    {f_is_word : Addr} {oc_is_word kV_is_word dc_is_word pm_is_word cd_is_word ct_is_word : Value} {od_is_word an_is_word : Option Addr} {sl_is_word : Array (Option Value)}
    {f_is_digits : Addr} {oc_is_digits kV_is_digits dc_is_digits pm_is_digits cd_is_digits ct_is_digits : Value} {od_is_digits an_is_digits : Option Addr} {sl_is_digits : Array (Option Value)}
    {f_amount_of : Addr} {oc_amount_of kV_amount_of dc_amount_of pm_amount_of cd_amount_of ct_amount_of : Value} {od_amount_of an_amount_of : Option Addr} {sl_amount_of : Array (Option Value)}
    {f_percent_of : Addr} {oc_percent_of kV_percent_of dc_percent_of pm_percent_of cd_percent_of ct_percent_of : Value} {od_percent_of an_percent_of : Option Addr} {sl_percent_of : Array (Option Value)}
    {f_kind_of : Addr} {oc_kind_of kV_kind_of dc_kind_of pm_kind_of cd_kind_of ct_kind_of : Value} {od_kind_of an_kind_of : Option Addr} {sl_kind_of : Array (Option Value)}
    {f_run_end : Addr} {oc_run_end kV_run_end dc_run_end pm_run_end cd_run_end ct_run_end : Value} {od_run_end an_run_end : Option Addr} {sl_run_end : Array (Option Value)}
    {f_scan_line : Addr} {oc_scan_line kV_scan_line dc_scan_line pm_scan_line cd_scan_line ct_scan_line : Value} {od_scan_line an_scan_line : Option Addr} {sl_scan_line : Array (Option Value)}
    {f_scan : Addr} {oc_scan kV_scan dc_scan pm_scan cd_scan ct_scan : Value} {od_scan an_scan : Option Addr} {sl_scan : Array (Option Value)}
    {f_tokens_of : Addr} {oc_tokens_of kV_tokens_of dc_tokens_of pm_tokens_of cd_tokens_of ct_tokens_of : Value} {od_tokens_of an_tokens_of : Option Addr} {sl_tokens_of : Array (Option Value)}
    {f__law_cell : Addr} {oc__law_cell kV__law_cell dc__law_cell pm__law_cell cd__law_cell ct__law_cell : Value} {od__law_cell an__law_cell : Option Addr} {sl__law_cell : Array (Option Value)}
    {f__law_draw : Addr} {oc__law_draw kV__law_draw dc__law_draw pm__law_draw cd__law_draw ct__law_draw : Value} {od__law_draw an__law_draw : Option Addr} {sl__law_draw : Array (Option Value)}
    {f__law_leap : Addr} {oc__law_leap kV__law_leap dc__law_leap pm__law_leap cd__law_leap ct__law_leap : Value} {od__law_leap an__law_leap : Option Addr} {sl__law_leap : Array (Option Value)}
    {f__law_length : Addr} {oc__law_length kV__law_length dc__law_length pm__law_length cd__law_length ct__law_length : Value} {od__law_length an__law_length : Option Addr} {sl__law_length : Array (Option Value)}
    {f__law_date : Addr} {oc__law_date kV__law_date dc__law_date pm__law_date cd__law_date ct__law_date : Value} {od__law_date an__law_date : Option Addr} {sl__law_date : Array (Option Value)}
    {f__law_pad : Addr} {oc__law_pad kV__law_pad dc__law_pad pm__law_pad cd__law_pad ct__law_pad : Value} {od__law_pad an__law_pad : Option Addr} {sl__law_pad : Array (Option Value)}
    {f__law_written : Addr} {oc__law_written kV__law_written dc__law_written pm__law_written cd__law_written ct__law_written : Value} {od__law_written an__law_written : Option Addr} {sl__law_written : Array (Option Value)}
    {f__law_token : Addr} {oc__law_token kV__law_token dc__law_token pm__law_token cd__law_token ct__law_token : Value} {od__law_token an__law_token : Option Addr} {sl__law_token : Array (Option Value)}
    {f__law_spelled : Addr} {oc__law_spelled kV__law_spelled dc__law_spelled pm__law_spelled cd__law_spelled ct__law_spelled : Value} {od__law_spelled an__law_spelled : Option Addr} {sl__law_spelled : Array (Option Value)}
    {f__law_space : Addr} {oc__law_space kV__law_space dc__law_space pm__law_space cd__law_space ct__law_space : Value} {od__law_space an__law_space : Option Addr} {sl__law_space : Array (Option Value)}
    {f__law_after : Addr} {oc__law_after kV__law_after dc__law_after pm__law_after cd__law_after ct__law_after : Value} {od__law_after an__law_after : Option Addr} {sl__law_after : Array (Option Value)}
    {f_law : Addr} {oc_law kV_law dc_law pm_law cd_law ct_law : Value} {od_law an_law : Option Addr} {sl_law : Array (Option Value)}
    {c_BookError : Addr}
    {c_BadText : Addr}
    {fI_BadText cc_BadText cda_BadText N_BadText : Addr} {oc_BadText doc_BadText pm_BadText ct_BadText cl_BadText ccl_BadText : Value} {od_BadText dd_BadText cld_BadText cdd_BadText : Option Addr} {osl_BadText csl_BadText ccs_BadText : Array (Option Value)} {nm_BadText q_BadText file_BadText : Str} {bs_BadText sub_BadText : List Value} {sn_BadText : List Str} {ab_BadText : Bool} {col_BadText : Option Bool} {m0_BadText m1_BadText m2_BadText m3_BadText m5_BadText : Option Value} {vs_BadText : Array Value} {tf_BadText : Tok}
    {c_OutOfRange : Addr}
    {fI_OutOfRange cc_OutOfRange cda_OutOfRange N_OutOfRange : Addr} {oc_OutOfRange doc_OutOfRange pm_OutOfRange ct_OutOfRange cl_OutOfRange ccl_OutOfRange : Value} {od_OutOfRange dd_OutOfRange cld_OutOfRange cdd_OutOfRange : Option Addr} {osl_OutOfRange csl_OutOfRange ccs_OutOfRange : Array (Option Value)} {nm_OutOfRange q_OutOfRange file_OutOfRange : Str} {bs_OutOfRange sub_OutOfRange : List Value} {sn_OutOfRange : List Str} {ab_OutOfRange : Bool} {col_OutOfRange : Option Bool} {m0_OutOfRange m1_OutOfRange m2_OutOfRange m3_OutOfRange m5_OutOfRange : Option Value} {vs_OutOfRange : Array Value} {tf_OutOfRange : Tok}
    {c_cS : Value} {d_cS : Option Addr} {es_cS : Array DictEntry} {nn_cS : Nat} {sl_cS : Array (Option Value)}
    {tk_MOST_CENTS : Tok}
    {tk_MOST_RATE : Tok}
    {tk_FIRST_YEAR : Tok}
    {tk_LAST_YEAR : Tok}
    {tk_SIGNS : Tok}
    {tk_LONGEST_NUMBER : Tok}
    {tk_MOST_DIGITS : Tok}
    (a_check_between : PySem.W.nsIn K mainGlobals "check_between" = some (some (.ref f_check_between)))
    (l_check_between : K.lookup f_check_between = some ⟨oc_check_between, od_check_between, .func (PySem.W.fnOf "check_between" "check_between" (defArgs s_check_between) (defBody s_check_between) (defScope s_check_between) .none kV_check_between dc_check_between pm_check_between an_check_between cd_check_between ct_check_between), sl_check_between⟩)
    (c_check_between : PySem.W.codeIn K cd_check_between "check_between" = true)
    (k_check_between : PySem.W.keepIn K (.ref f_check_between) = true)
    (a_is_lower : PySem.W.nsIn K mainGlobals "is_lower" = some (some (.ref f_is_lower)))
    (l_is_lower : K.lookup f_is_lower = some ⟨oc_is_lower, od_is_lower, .func (PySem.W.fnOf "is_lower" "is_lower" (defArgs s_is_lower) (defBody s_is_lower) (defScope s_is_lower) .none kV_is_lower dc_is_lower pm_is_lower an_is_lower cd_is_lower ct_is_lower), sl_is_lower⟩)
    (c_is_lower : PySem.W.codeIn K cd_is_lower "is_lower" = true)
    (k_is_lower : PySem.W.keepIn K (.ref f_is_lower) = true)
    (a_is_digit : PySem.W.nsIn K mainGlobals "is_digit" = some (some (.ref f_is_digit)))
    (l_is_digit : K.lookup f_is_digit = some ⟨oc_is_digit, od_is_digit, .func (PySem.W.fnOf "is_digit" "is_digit" (defArgs s_is_digit) (defBody s_is_digit) (defScope s_is_digit) .none kV_is_digit dc_is_digit pm_is_digit an_is_digit cd_is_digit ct_is_digit), sl_is_digit⟩)
    (c_is_digit : PySem.W.codeIn K cd_is_digit "is_digit" = true)
    (k_is_digit : PySem.W.keepIn K (.ref f_is_digit) = true)
    (a_is_leap : PySem.W.nsIn K mainGlobals "is_leap" = some (some (.ref f_is_leap)))
    (l_is_leap : K.lookup f_is_leap = some ⟨oc_is_leap, od_is_leap, .func (PySem.W.fnOf "is_leap" "is_leap" (defArgs s_is_leap) (defBody s_is_leap) (defScope s_is_leap) .none kV_is_leap dc_is_leap pm_is_leap an_is_leap cd_is_leap ct_is_leap), sl_is_leap⟩)
    (c_is_leap : PySem.W.codeIn K cd_is_leap "is_leap" = true)
    (k_is_leap : PySem.W.keepIn K (.ref f_is_leap) = true)
    (a_month_length : PySem.W.nsIn K mainGlobals "month_length" = some (some (.ref f_month_length)))
    (l_month_length : K.lookup f_month_length = some ⟨oc_month_length, od_month_length, .func (PySem.W.fnOf "month_length" "month_length" (defArgs s_month_length) (defBody s_month_length) (defScope s_month_length) .none kV_month_length dc_month_length pm_month_length an_month_length cd_month_length ct_month_length), sl_month_length⟩)
    (c_month_length : PySem.W.codeIn K cd_month_length "month_length" = true)
    (k_month_length : PySem.W.keepIn K (.ref f_month_length) = true)
    (a_year_start : PySem.W.nsIn K mainGlobals "year_start" = some (some (.ref f_year_start)))
    (l_year_start : K.lookup f_year_start = some ⟨oc_year_start, od_year_start, .func (PySem.W.fnOf "year_start" "year_start" (defArgs s_year_start) (defBody s_year_start) (defScope s_year_start) .none kV_year_start dc_year_start pm_year_start an_year_start cd_year_start ct_year_start), sl_year_start⟩)
    (c_year_start : PySem.W.codeIn K cd_year_start "year_start" = true)
    (k_year_start : PySem.W.keepIn K (.ref f_year_start) = true)
    (a_day_number : PySem.W.nsIn K mainGlobals "day_number" = some (some (.ref f_day_number)))
    (l_day_number : K.lookup f_day_number = some ⟨oc_day_number, od_day_number, .func (PySem.W.fnOf "day_number" "day_number" (defArgs s_day_number) (defBody s_day_number) (defScope s_day_number) .none kV_day_number dc_day_number pm_day_number an_day_number cd_day_number ct_day_number), sl_day_number⟩)
    (c_day_number : PySem.W.codeIn K cd_day_number "day_number" = true)
    (k_day_number : PySem.W.keepIn K (.ref f_day_number) = true)
    (a_is_written : PySem.W.nsIn K mainGlobals "is_written" = some (some (.ref f_is_written)))
    (l_is_written : K.lookup f_is_written = some ⟨oc_is_written, od_is_written, .func (PySem.W.fnOf "is_written" "is_written" (defArgs s_is_written) (defBody s_is_written) (defScope s_is_written) .none kV_is_written dc_is_written pm_is_written an_is_written cd_is_written ct_is_written), sl_is_written⟩)
    (c_is_written : PySem.W.codeIn K cd_is_written "is_written" = true)
    (k_is_written : PySem.W.keepIn K (.ref f_is_written) = true)
    (a_is_date : PySem.W.nsIn K mainGlobals "is_date" = some (some (.ref f_is_date)))
    (l_is_date : K.lookup f_is_date = some ⟨oc_is_date, od_is_date, .func (PySem.W.fnOf "is_date" "is_date" (defArgs s_is_date) (defBody s_is_date) (defScope s_is_date) .none kV_is_date dc_is_date pm_is_date an_is_date cd_is_date ct_is_date), sl_is_date⟩)
    (c_is_date : PySem.W.codeIn K cd_is_date "is_date" = true)
    (k_is_date : PySem.W.keepIn K (.ref f_is_date) = true)
    (a_read_date : PySem.W.nsIn K mainGlobals "read_date" = some (some (.ref f_read_date)))
    (l_read_date : K.lookup f_read_date = some ⟨oc_read_date, od_read_date, .func (PySem.W.fnOf "read_date" "read_date" (defArgs s_read_date) (defBody s_read_date) (defScope s_read_date) .none kV_read_date dc_read_date pm_read_date an_read_date cd_read_date ct_read_date), sl_read_date⟩)
    (c_read_date : PySem.W.codeIn K cd_read_date "read_date" = true)
    (k_read_date : PySem.W.keepIn K (.ref f_read_date) = true)
    (a_is_run_character : PySem.W.nsIn K mainGlobals "is_run_character" = some (some (.ref f_is_run_character)))
    (l_is_run_character : K.lookup f_is_run_character = some ⟨oc_is_run_character, od_is_run_character, .func (PySem.W.fnOf "is_run_character" "is_run_character" (defArgs s_is_run_character) (defBody s_is_run_character) (defScope s_is_run_character) .none kV_is_run_character dc_is_run_character pm_is_run_character an_is_run_character cd_is_run_character ct_is_run_character), sl_is_run_character⟩)
    (c_is_run_character : PySem.W.codeIn K cd_is_run_character "is_run_character" = true)
    (k_is_run_character : PySem.W.keepIn K (.ref f_is_run_character) = true)
    (a_is_number : PySem.W.nsIn K mainGlobals "is_number" = some (some (.ref f_is_number)))
    (l_is_number : K.lookup f_is_number = some ⟨oc_is_number, od_is_number, .func (PySem.W.fnOf "is_number" "is_number" (defArgs s_is_number) (defBody s_is_number) (defScope s_is_number) .none kV_is_number dc_is_number pm_is_number an_is_number cd_is_number ct_is_number), sl_is_number⟩)
    (c_is_number : PySem.W.codeIn K cd_is_number "is_number" = true)
    (k_is_number : PySem.W.keepIn K (.ref f_is_number) = true)
    (a_is_plain_number : PySem.W.nsIn K mainGlobals "is_plain_number" = some (some (.ref f_is_plain_number)))
    (l_is_plain_number : K.lookup f_is_plain_number = some ⟨oc_is_plain_number, od_is_plain_number, .func (PySem.W.fnOf "is_plain_number" "is_plain_number" (defArgs s_is_plain_number) (defBody s_is_plain_number) (defScope s_is_plain_number) .none kV_is_plain_number dc_is_plain_number pm_is_plain_number an_is_plain_number cd_is_plain_number ct_is_plain_number), sl_is_plain_number⟩)
    (c_is_plain_number : PySem.W.codeIn K cd_is_plain_number "is_plain_number" = true)
    (k_is_plain_number : PySem.W.keepIn K (.ref f_is_plain_number) = true)
    (a_is_word : PySem.W.nsIn K mainGlobals "is_word" = some (some (.ref f_is_word)))
    (l_is_word : K.lookup f_is_word = some ⟨oc_is_word, od_is_word, .func (PySem.W.fnOf "is_word" "is_word" (defArgs s_is_word) (defBody s_is_word) (defScope s_is_word) .none kV_is_word dc_is_word pm_is_word an_is_word cd_is_word ct_is_word), sl_is_word⟩)
    (c_is_word : PySem.W.codeIn K cd_is_word "is_word" = true)
    (k_is_word : PySem.W.keepIn K (.ref f_is_word) = true)
    (a_is_digits : PySem.W.nsIn K mainGlobals "is_digits" = some (some (.ref f_is_digits)))
    (l_is_digits : K.lookup f_is_digits = some ⟨oc_is_digits, od_is_digits, .func (PySem.W.fnOf "is_digits" "is_digits" (defArgs s_is_digits) (defBody s_is_digits) (defScope s_is_digits) .none kV_is_digits dc_is_digits pm_is_digits an_is_digits cd_is_digits ct_is_digits), sl_is_digits⟩)
    (c_is_digits : PySem.W.codeIn K cd_is_digits "is_digits" = true)
    (k_is_digits : PySem.W.keepIn K (.ref f_is_digits) = true)
    (a_amount_of : PySem.W.nsIn K mainGlobals "amount_of" = some (some (.ref f_amount_of)))
    (l_amount_of : K.lookup f_amount_of = some ⟨oc_amount_of, od_amount_of, .func (PySem.W.fnOf "amount_of" "amount_of" (defArgs s_amount_of) (defBody s_amount_of) (defScope s_amount_of) .none kV_amount_of dc_amount_of pm_amount_of an_amount_of cd_amount_of ct_amount_of), sl_amount_of⟩)
    (c_amount_of : PySem.W.codeIn K cd_amount_of "amount_of" = true)
    (k_amount_of : PySem.W.keepIn K (.ref f_amount_of) = true)
    (a_percent_of : PySem.W.nsIn K mainGlobals "percent_of" = some (some (.ref f_percent_of)))
    (l_percent_of : K.lookup f_percent_of = some ⟨oc_percent_of, od_percent_of, .func (PySem.W.fnOf "percent_of" "percent_of" (defArgs s_percent_of) (defBody s_percent_of) (defScope s_percent_of) .none kV_percent_of dc_percent_of pm_percent_of an_percent_of cd_percent_of ct_percent_of), sl_percent_of⟩)
    (c_percent_of : PySem.W.codeIn K cd_percent_of "percent_of" = true)
    (k_percent_of : PySem.W.keepIn K (.ref f_percent_of) = true)
    (a_kind_of : PySem.W.nsIn K mainGlobals "kind_of" = some (some (.ref f_kind_of)))
    (l_kind_of : K.lookup f_kind_of = some ⟨oc_kind_of, od_kind_of, .func (PySem.W.fnOf "kind_of" "kind_of" (defArgs s_kind_of) (defBody s_kind_of) (defScope s_kind_of) .none kV_kind_of dc_kind_of pm_kind_of an_kind_of cd_kind_of ct_kind_of), sl_kind_of⟩)
    (c_kind_of : PySem.W.codeIn K cd_kind_of "kind_of" = true)
    (k_kind_of : PySem.W.keepIn K (.ref f_kind_of) = true)
    (a_run_end : PySem.W.nsIn K mainGlobals "run_end" = some (some (.ref f_run_end)))
    (l_run_end : K.lookup f_run_end = some ⟨oc_run_end, od_run_end, .func (PySem.W.fnOf "run_end" "run_end" (defArgs s_run_end) (defBody s_run_end) (defScope s_run_end) .none kV_run_end dc_run_end pm_run_end an_run_end cd_run_end ct_run_end), sl_run_end⟩)
    (c_run_end : PySem.W.codeIn K cd_run_end "run_end" = true)
    (k_run_end : PySem.W.keepIn K (.ref f_run_end) = true)
    (a_scan_line : PySem.W.nsIn K mainGlobals "scan_line" = some (some (.ref f_scan_line)))
    (l_scan_line : K.lookup f_scan_line = some ⟨oc_scan_line, od_scan_line, .func (PySem.W.fnOf "scan_line" "scan_line" (defArgs s_scan_line) (defBody s_scan_line) (defScope s_scan_line) .none kV_scan_line dc_scan_line pm_scan_line an_scan_line cd_scan_line ct_scan_line), sl_scan_line⟩)
    (c_scan_line : PySem.W.codeIn K cd_scan_line "scan_line" = true)
    (k_scan_line : PySem.W.keepIn K (.ref f_scan_line) = true)
    (a_scan : PySem.W.nsIn K mainGlobals "scan" = some (some (.ref f_scan)))
    (l_scan : K.lookup f_scan = some ⟨oc_scan, od_scan, .func (PySem.W.fnOf "scan" "scan" (defArgs s_scan) (defBody s_scan) (defScope s_scan) .none kV_scan dc_scan pm_scan an_scan cd_scan ct_scan), sl_scan⟩)
    (c_scan : PySem.W.codeIn K cd_scan "scan" = true)
    (k_scan : PySem.W.keepIn K (.ref f_scan) = true)
    (a_tokens_of : PySem.W.nsIn K mainGlobals "tokens_of" = some (some (.ref f_tokens_of)))
    (l_tokens_of : K.lookup f_tokens_of = some ⟨oc_tokens_of, od_tokens_of, .func (PySem.W.fnOf "tokens_of" "tokens_of" (defArgs s_tokens_of) (defBody s_tokens_of) (defScope s_tokens_of) .none kV_tokens_of dc_tokens_of pm_tokens_of an_tokens_of cd_tokens_of ct_tokens_of), sl_tokens_of⟩)
    (c_tokens_of : PySem.W.codeIn K cd_tokens_of "tokens_of" = true)
    (k_tokens_of : PySem.W.keepIn K (.ref f_tokens_of) = true)
    (a__law_cell : PySem.W.nsIn K mainGlobals "_law_cell" = some (some (.ref f__law_cell)))
    (l__law_cell : K.lookup f__law_cell = some ⟨oc__law_cell, od__law_cell, .func (PySem.W.fnOf "_law_cell" "_law_cell" (defArgs s__law_cell) (defBody s__law_cell) (defScope s__law_cell) .none kV__law_cell dc__law_cell pm__law_cell an__law_cell cd__law_cell ct__law_cell), sl__law_cell⟩)
    (c__law_cell : PySem.W.codeIn K cd__law_cell "_law_cell" = true)
    (k__law_cell : PySem.W.keepIn K (.ref f__law_cell) = true)
    (a__law_draw : PySem.W.nsIn K mainGlobals "_law_draw" = some (some (.ref f__law_draw)))
    (l__law_draw : K.lookup f__law_draw = some ⟨oc__law_draw, od__law_draw, .func (PySem.W.fnOf "_law_draw" "_law_draw" (defArgs s__law_draw) (defBody s__law_draw) (defScope s__law_draw) .none kV__law_draw dc__law_draw pm__law_draw an__law_draw cd__law_draw ct__law_draw), sl__law_draw⟩)
    (c__law_draw : PySem.W.codeIn K cd__law_draw "_law_draw" = true)
    (k__law_draw : PySem.W.keepIn K (.ref f__law_draw) = true)
    (a__law_leap : PySem.W.nsIn K mainGlobals "_law_leap" = some (some (.ref f__law_leap)))
    (l__law_leap : K.lookup f__law_leap = some ⟨oc__law_leap, od__law_leap, .func (PySem.W.fnOf "_law_leap" "_law_leap" (defArgs s__law_leap) (defBody s__law_leap) (defScope s__law_leap) .none kV__law_leap dc__law_leap pm__law_leap an__law_leap cd__law_leap ct__law_leap), sl__law_leap⟩)
    (c__law_leap : PySem.W.codeIn K cd__law_leap "_law_leap" = true)
    (k__law_leap : PySem.W.keepIn K (.ref f__law_leap) = true)
    (a__law_length : PySem.W.nsIn K mainGlobals "_law_length" = some (some (.ref f__law_length)))
    (l__law_length : K.lookup f__law_length = some ⟨oc__law_length, od__law_length, .func (PySem.W.fnOf "_law_length" "_law_length" (defArgs s__law_length) (defBody s__law_length) (defScope s__law_length) .none kV__law_length dc__law_length pm__law_length an__law_length cd__law_length ct__law_length), sl__law_length⟩)
    (c__law_length : PySem.W.codeIn K cd__law_length "_law_length" = true)
    (k__law_length : PySem.W.keepIn K (.ref f__law_length) = true)
    (a__law_date : PySem.W.nsIn K mainGlobals "_law_date" = some (some (.ref f__law_date)))
    (l__law_date : K.lookup f__law_date = some ⟨oc__law_date, od__law_date, .func (PySem.W.fnOf "_law_date" "_law_date" (defArgs s__law_date) (defBody s__law_date) (defScope s__law_date) .none kV__law_date dc__law_date pm__law_date an__law_date cd__law_date ct__law_date), sl__law_date⟩)
    (c__law_date : PySem.W.codeIn K cd__law_date "_law_date" = true)
    (k__law_date : PySem.W.keepIn K (.ref f__law_date) = true)
    (a__law_pad : PySem.W.nsIn K mainGlobals "_law_pad" = some (some (.ref f__law_pad)))
    (l__law_pad : K.lookup f__law_pad = some ⟨oc__law_pad, od__law_pad, .func (PySem.W.fnOf "_law_pad" "_law_pad" (defArgs s__law_pad) (defBody s__law_pad) (defScope s__law_pad) .none kV__law_pad dc__law_pad pm__law_pad an__law_pad cd__law_pad ct__law_pad), sl__law_pad⟩)
    (c__law_pad : PySem.W.codeIn K cd__law_pad "_law_pad" = true)
    (k__law_pad : PySem.W.keepIn K (.ref f__law_pad) = true)
    (a__law_written : PySem.W.nsIn K mainGlobals "_law_written" = some (some (.ref f__law_written)))
    (l__law_written : K.lookup f__law_written = some ⟨oc__law_written, od__law_written, .func (PySem.W.fnOf "_law_written" "_law_written" (defArgs s__law_written) (defBody s__law_written) (defScope s__law_written) .none kV__law_written dc__law_written pm__law_written an__law_written cd__law_written ct__law_written), sl__law_written⟩)
    (c__law_written : PySem.W.codeIn K cd__law_written "_law_written" = true)
    (k__law_written : PySem.W.keepIn K (.ref f__law_written) = true)
    (a__law_token : PySem.W.nsIn K mainGlobals "_law_token" = some (some (.ref f__law_token)))
    (l__law_token : K.lookup f__law_token = some ⟨oc__law_token, od__law_token, .func (PySem.W.fnOf "_law_token" "_law_token" (defArgs s__law_token) (defBody s__law_token) (defScope s__law_token) .none kV__law_token dc__law_token pm__law_token an__law_token cd__law_token ct__law_token), sl__law_token⟩)
    (c__law_token : PySem.W.codeIn K cd__law_token "_law_token" = true)
    (k__law_token : PySem.W.keepIn K (.ref f__law_token) = true)
    (a__law_spelled : PySem.W.nsIn K mainGlobals "_law_spelled" = some (some (.ref f__law_spelled)))
    (l__law_spelled : K.lookup f__law_spelled = some ⟨oc__law_spelled, od__law_spelled, .func (PySem.W.fnOf "_law_spelled" "_law_spelled" (defArgs s__law_spelled) (defBody s__law_spelled) (defScope s__law_spelled) .none kV__law_spelled dc__law_spelled pm__law_spelled an__law_spelled cd__law_spelled ct__law_spelled), sl__law_spelled⟩)
    (c__law_spelled : PySem.W.codeIn K cd__law_spelled "_law_spelled" = true)
    (k__law_spelled : PySem.W.keepIn K (.ref f__law_spelled) = true)
    (a__law_space : PySem.W.nsIn K mainGlobals "_law_space" = some (some (.ref f__law_space)))
    (l__law_space : K.lookup f__law_space = some ⟨oc__law_space, od__law_space, .func (PySem.W.fnOf "_law_space" "_law_space" (defArgs s__law_space) (defBody s__law_space) (defScope s__law_space) .none kV__law_space dc__law_space pm__law_space an__law_space cd__law_space ct__law_space), sl__law_space⟩)
    (c__law_space : PySem.W.codeIn K cd__law_space "_law_space" = true)
    (k__law_space : PySem.W.keepIn K (.ref f__law_space) = true)
    (a__law_after : PySem.W.nsIn K mainGlobals "_law_after" = some (some (.ref f__law_after)))
    (l__law_after : K.lookup f__law_after = some ⟨oc__law_after, od__law_after, .func (PySem.W.fnOf "_law_after" "_law_after" (defArgs s__law_after) (defBody s__law_after) (defScope s__law_after) .none kV__law_after dc__law_after pm__law_after an__law_after cd__law_after ct__law_after), sl__law_after⟩)
    (c__law_after : PySem.W.codeIn K cd__law_after "_law_after" = true)
    (k__law_after : PySem.W.keepIn K (.ref f__law_after) = true)
    (a_law : PySem.W.nsIn K mainGlobals "law" = some (some (.ref f_law)))
    (l_law : K.lookup f_law = some ⟨oc_law, od_law, .func (PySem.W.fnOf "law" "law" (defArgs s_law) (defBody s_law) (defScope s_law) .none kV_law dc_law pm_law an_law cd_law ct_law), sl_law⟩)
    (c_law : PySem.W.codeIn K cd_law "law" = true)
    (k_law : PySem.W.keepIn K (.ref f_law) = true)
    (third : PySem.W.nsIn K cStatics "thirdparty.any" = some none)
    (zsuper : PySem.W.nsIn K mainGlobals "super" = some none)
    (spc : PySem.W.specialIn K (.builtin "object.__class__") "__get__" = some (some (.builtin "getset_descriptor.__get__")))
    (tkc : PySem.W.takesIn K (.builtin "object.__class__") = some true)
    (a_BookError : PySem.W.nsIn K mainGlobals "BookError" = some (some (.ref c_BookError)))
    (ga_BookError : PySem.W.findIn K (.ref c_BookError) "__getattribute__" = some (some (.builtin "BaseException.__getattribute__")))
    (gg_BookError : PySem.W.findIn K (.ref c_BookError) "__getattr__" = some none)
    (sb_BookError : PySem.W.subIn K (.ref c_BookError) (.type "BaseException") = some true)
    (hd_BookError : PySem.W.hasDictIn K c_BookError = true)
    (ha_BookError : PySem.W.findIn K (.ref c_BookError) "__class__" = some (some (.builtin "object.__class__")))
    (hm_BookError : PySem.W.mroIn K c_BookError (.type "object") = some true)
    (ty_BookError : PySem.W.typeIn K (.ref c_BookError) = some (.type "type"))
    (se_BookError : PySem.W.mroIn K c_BookError (.ref c_BookError) = some true)
    (a_BadText : PySem.W.nsIn K mainGlobals "BadText" = some (some (.ref c_BadText)))
    (ga_BadText : PySem.W.findIn K (.ref c_BadText) "__getattribute__" = some (some (.builtin "BaseException.__getattribute__")))
    (gg_BadText : PySem.W.findIn K (.ref c_BadText) "__getattr__" = some none)
    (sb_BadText : PySem.W.subIn K (.ref c_BadText) (.type "BaseException") = some true)
    (hd_BadText : PySem.W.hasDictIn K c_BadText = true)
    (ha_BadText : PySem.W.findIn K (.ref c_BadText) "__class__" = some (some (.builtin "object.__class__")))
    (hm_BadText : PySem.W.mroIn K c_BadText (.type "object") = some true)
    (ty_BadText : PySem.W.typeIn K (.ref c_BadText) = some (.type "type"))
    (se_BadText : PySem.W.mroIn K c_BadText (.ref c_BadText) = some true)
    (xL_BadText : K.lookup c_BadText = some (excClassObj nm_BadText q_BadText c_BadText N_BadText bs_BadText [.ref c_BookError, .type "ValueError", .type "Exception", .type "BaseException", .type "object"] true sn_BadText sub_BadText ab_BadText col_BadText dd_BadText m0_BadText m1_BadText m2_BadText m3_BadText m5_BadText "ValueError.__new__"))
    (sa_BadText : PySem.W.findIn K (.ref c_BadText) "__setattr__" = some (some (.builtin "object.__setattr__")))
    (kp_BadText : PySem.W.keepIn K (.ref c_BadText) = true)
    (i_BadText : PySem.W.findIn K (.ref c_BadText) "__init__" = some (some (.ref fI_BadText)))
    (ti_BadText : PySem.W.typeIn K (.ref fI_BadText) = some (.type "function"))
    (li_BadText : K.lookup fI_BadText = some ⟨oc_BadText, od_BadText, .func ((⟨"__init__", "BadText.__init__", defArgs s_BadText, defBody s_BadText, defScope s_BadText, [(("__class__" : Str), cc_BadText)], cda_BadText⟩ : NdefX.NF).fd doc_BadText pm_BadText ct_BadText), osl_BadText⟩)
    (ci_BadText : PySem.W.codeIn K (.ref cda_BadText) "BadText.__init__" = true)
    (ce_BadText : K.lookup cc_BadText = some ⟨cl_BadText, cld_BadText, .cell (some (.ref c_BadText)), csl_BadText⟩)
    (co_BadText : K.lookup cda_BadText = some ⟨ccl_BadText, cdd_BadText, .fields vs_BadText, ccs_BadText⟩)
    (vs_BadText : vs_BadText[2]? = some (.str file_BadText tf_BadText))
    (fi_BadText : ((P.main.file : Str) == file_BadText) = true)
    (su_BadText : PySem.W.ks_superIn K c_BadText c_BadText "__init__" = some (some (.builtin "ValueError.__init__")))
    (ve_BadText : PySem.W.subIn K (.ref c_BadText) (.type "ValueError") = some true)
    (n_BadText_label : PySem.W.findIn K (.ref c_BadText) "label" = some none)
    (n_BadText_line : PySem.W.findIn K (.ref c_BadText) "line" = some none)
    (n_BadText_column : PySem.W.findIn K (.ref c_BadText) "column" = some none)
    (n_BadText_reason : PySem.W.findIn K (.ref c_BadText) "reason" = some none)
    (a_OutOfRange : PySem.W.nsIn K mainGlobals "OutOfRange" = some (some (.ref c_OutOfRange)))
    (ga_OutOfRange : PySem.W.findIn K (.ref c_OutOfRange) "__getattribute__" = some (some (.builtin "BaseException.__getattribute__")))
    (gg_OutOfRange : PySem.W.findIn K (.ref c_OutOfRange) "__getattr__" = some none)
    (sb_OutOfRange : PySem.W.subIn K (.ref c_OutOfRange) (.type "BaseException") = some true)
    (hd_OutOfRange : PySem.W.hasDictIn K c_OutOfRange = true)
    (ha_OutOfRange : PySem.W.findIn K (.ref c_OutOfRange) "__class__" = some (some (.builtin "object.__class__")))
    (hm_OutOfRange : PySem.W.mroIn K c_OutOfRange (.type "object") = some true)
    (ty_OutOfRange : PySem.W.typeIn K (.ref c_OutOfRange) = some (.type "type"))
    (se_OutOfRange : PySem.W.mroIn K c_OutOfRange (.ref c_OutOfRange) = some true)
    (xL_OutOfRange : K.lookup c_OutOfRange = some (excClassObj nm_OutOfRange q_OutOfRange c_OutOfRange N_OutOfRange bs_OutOfRange [.ref c_BookError, .type "ValueError", .type "Exception", .type "BaseException", .type "object"] true sn_OutOfRange sub_OutOfRange ab_OutOfRange col_OutOfRange dd_OutOfRange m0_OutOfRange m1_OutOfRange m2_OutOfRange m3_OutOfRange m5_OutOfRange "ValueError.__new__"))
    (sa_OutOfRange : PySem.W.findIn K (.ref c_OutOfRange) "__setattr__" = some (some (.builtin "object.__setattr__")))
    (kp_OutOfRange : PySem.W.keepIn K (.ref c_OutOfRange) = true)
    (i_OutOfRange : PySem.W.findIn K (.ref c_OutOfRange) "__init__" = some (some (.ref fI_OutOfRange)))
    (ti_OutOfRange : PySem.W.typeIn K (.ref fI_OutOfRange) = some (.type "function"))
    (li_OutOfRange : K.lookup fI_OutOfRange = some ⟨oc_OutOfRange, od_OutOfRange, .func ((⟨"__init__", "OutOfRange.__init__", defArgs s_OutOfRange, defBody s_OutOfRange, defScope s_OutOfRange, [(("__class__" : Str), cc_OutOfRange)], cda_OutOfRange⟩ : NdefX.NF).fd doc_OutOfRange pm_OutOfRange ct_OutOfRange), osl_OutOfRange⟩)
    (ci_OutOfRange : PySem.W.codeIn K (.ref cda_OutOfRange) "OutOfRange.__init__" = true)
    (ce_OutOfRange : K.lookup cc_OutOfRange = some ⟨cl_OutOfRange, cld_OutOfRange, .cell (some (.ref c_OutOfRange)), csl_OutOfRange⟩)
    (co_OutOfRange : K.lookup cda_OutOfRange = some ⟨ccl_OutOfRange, cdd_OutOfRange, .fields vs_OutOfRange, ccs_OutOfRange⟩)
    (vs_OutOfRange : vs_OutOfRange[2]? = some (.str file_OutOfRange tf_OutOfRange))
    (fi_OutOfRange : ((P.main.file : Str) == file_OutOfRange) = true)
    (su_OutOfRange : PySem.W.ks_superIn K c_OutOfRange c_OutOfRange "__init__" = some (some (.builtin "ValueError.__init__")))
    (ve_OutOfRange : PySem.W.subIn K (.ref c_OutOfRange) (.type "ValueError") = some true)
    (n_OutOfRange_label : PySem.W.findIn K (.ref c_OutOfRange) "label" = some none)
    (n_OutOfRange_value : PySem.W.findIn K (.ref c_OutOfRange) "value" = some none)
    (y_BookError_BookError : PySem.W.subIn K (.ref c_BookError) (.ref c_BookError) = some true)
    (y_BookError_BadText : PySem.W.subIn K (.ref c_BookError) (.ref c_BadText) = some false)
    (y_BookError_OutOfRange : PySem.W.subIn K (.ref c_BookError) (.ref c_OutOfRange) = some false)
    (yv_BookError : PySem.W.subIn K (.ref c_BookError) (.type "ValueError") = some true)
    (y_BadText_BookError : PySem.W.subIn K (.ref c_BadText) (.ref c_BookError) = some true)
    (y_BadText_BadText : PySem.W.subIn K (.ref c_BadText) (.ref c_BadText) = some true)
    (y_BadText_OutOfRange : PySem.W.subIn K (.ref c_BadText) (.ref c_OutOfRange) = some false)
    (yv_BadText : PySem.W.subIn K (.ref c_BadText) (.type "ValueError") = some true)
    (y_OutOfRange_BookError : PySem.W.subIn K (.ref c_OutOfRange) (.ref c_BookError) = some true)
    (y_OutOfRange_BadText : PySem.W.subIn K (.ref c_OutOfRange) (.ref c_BadText) = some false)
    (y_OutOfRange_OutOfRange : PySem.W.subIn K (.ref c_OutOfRange) (.ref c_OutOfRange) = some true)
    (yv_OutOfRange : PySem.W.subIn K (.ref c_OutOfRange) (.type "ValueError") = some true)
    (ndo : K.lookup cStatics = some ⟨c_cS, d_cS, .dict es_cS nn_cS, sl_cS⟩)
    (ndk : es_cS.toList.all keyStr = true)
    (ndn : PySem.W.nsIn K cStatics "sys.int_max_str_digits" = some none)
    (a_MOST_CENTS : PySem.W.nsIn K mainGlobals "MOST_CENTS" = some (some (.int 1000000000000 tk_MOST_CENTS)))
    (a_MOST_RATE : PySem.W.nsIn K mainGlobals "MOST_RATE" = some (some (.int 1000000 tk_MOST_RATE)))
    (a_FIRST_YEAR : PySem.W.nsIn K mainGlobals "FIRST_YEAR" = some (some (.int 2000 tk_FIRST_YEAR)))
    (a_LAST_YEAR : PySem.W.nsIn K mainGlobals "LAST_YEAR" = some (some (.int 2199 tk_LAST_YEAR)))
    (a_SIGNS : PySem.W.nsIn K mainGlobals "SIGNS" = some (some (.str "{};,()" tk_SIGNS)))
    (a_LONGEST_NUMBER : PySem.W.nsIn K mainGlobals "LONGEST_NUMBER" = some (some (.int 12 tk_LONGEST_NUMBER)))
    (a_MOST_DIGITS : PySem.W.nsIn K mainGlobals "MOST_DIGITS" = some (some (.int 30 tk_MOST_DIGITS)))
    (z_range : PySem.W.nsIn K mainGlobals "range" = some none)
    (z_len : PySem.W.nsIn K mainGlobals "len" = some none)
    (z_int : PySem.W.nsIn K mainGlobals "int" = some none)
    (z_abs : PySem.W.nsIn K mainGlobals "abs" = some none)
    (z_str : PySem.W.nsIn K mainGlobals "str" = some none)
    (z_min : PySem.W.nsIn K mainGlobals "min" = some none)
    (z_max : PySem.W.nsIn K mainGlobals "max" = some none)
    (z_isinstance : PySem.W.nsIn K mainGlobals "isinstance" = some none)
    (z_list : PySem.W.nsIn K mainGlobals "list" = some none)
    (z_tuple : PySem.W.nsIn K mainGlobals "tuple" = some none)
    (z_bool : PySem.W.nsIn K mainGlobals "bool" = some none)
    : ∃ fd : FuncData, (∀ (s : Shared) (u : Value), BindsTo s fd ⟨[u], []⟩ [("script", u)]) ∧ ∀ base : Heap, K.In base → base.Ns mainGlobals mg → FnOk P w K mg base (L2.CX P w) 10 fa fd ["script"] (sp_law K) := by
  let T : Txt K mg := {
    a_check_between := f_check_between, fd_check_between := _, F_check_between := fun_of l_check_between c_check_between k_check_between, m_check_between := PySem.W.mg_of X G a_check_between, b_check_between := (fun_of l_check_between c_check_between k_check_between).bindsN fun _ _ _ _ _ _ us hl => match us, hl with | [_, _, _], _ => rfl,
    a_is_lower := f_is_lower, fd_is_lower := _, F_is_lower := fun_of l_is_lower c_is_lower k_is_lower, m_is_lower := PySem.W.mg_of X G a_is_lower, b_is_lower := (fun_of l_is_lower c_is_lower k_is_lower).bindsN fun _ _ _ _ _ _ us hl => match us, hl with | [_], _ => rfl,
    a_is_digit := f_is_digit, fd_is_digit := _, F_is_digit := fun_of l_is_digit c_is_digit k_is_digit, m_is_digit := PySem.W.mg_of X G a_is_digit, b_is_digit := (fun_of l_is_digit c_is_digit k_is_digit).bindsN fun _ _ _ _ _ _ us hl => match us, hl with | [_], _ => rfl,
    a_is_leap := f_is_leap, fd_is_leap := _, F_is_leap := fun_of l_is_leap c_is_leap k_is_leap, m_is_leap := PySem.W.mg_of X G a_is_leap, b_is_leap := (fun_of l_is_leap c_is_leap k_is_leap).bindsN fun _ _ _ _ _ _ us hl => match us, hl with | [_], _ => rfl,
    a_month_length := f_month_length, fd_month_length := _, F_month_length := fun_of l_month_length c_month_length k_month_length, m_month_length := PySem.W.mg_of X G a_month_length, b_month_length := (fun_of l_month_length c_month_length k_month_length).bindsN fun _ _ _ _ _ _ us hl => match us, hl with | [_, _], _ => rfl,
    a_year_start := f_year_start, fd_year_start := _, F_year_start := fun_of l_year_start c_year_start k_year_start, m_year_start := PySem.W.mg_of X G a_year_start, b_year_start := (fun_of l_year_start c_year_start k_year_start).bindsN fun _ _ _ _ _ _ us hl => match us, hl with | [_], _ => rfl,
    a_day_number := f_day_number, fd_day_number := _, F_day_number := fun_of l_day_number c_day_number k_day_number, m_day_number := PySem.W.mg_of X G a_day_number, b_day_number := (fun_of l_day_number c_day_number k_day_number).bindsN fun _ _ _ _ _ _ us hl => match us, hl with | [_, _, _], _ => rfl,
    a_is_written := f_is_written, fd_is_written := _, F_is_written := fun_of l_is_written c_is_written k_is_written, m_is_written := PySem.W.mg_of X G a_is_written, b_is_written := (fun_of l_is_written c_is_written k_is_written).bindsN fun _ _ _ _ _ _ us hl => match us, hl with | [_], _ => rfl,
    a_is_date := f_is_date, fd_is_date := _, F_is_date := fun_of l_is_date c_is_date k_is_date, m_is_date := PySem.W.mg_of X G a_is_date, b_is_date := (fun_of l_is_date c_is_date k_is_date).bindsN fun _ _ _ _ _ _ us hl => match us, hl with | [_], _ => rfl,
    a_read_date := f_read_date, fd_read_date := _, F_read_date := fun_of l_read_date c_read_date k_read_date, m_read_date := PySem.W.mg_of X G a_read_date, b_read_date := (fun_of l_read_date c_read_date k_read_date).bindsN fun _ _ _ _ _ _ us hl => match us, hl with | [_], _ => rfl,
    a_is_run_character := f_is_run_character, fd_is_run_character := _, F_is_run_character := fun_of l_is_run_character c_is_run_character k_is_run_character, m_is_run_character := PySem.W.mg_of X G a_is_run_character, b_is_run_character := (fun_of l_is_run_character c_is_run_character k_is_run_character).bindsN fun _ _ _ _ _ _ us hl => match us, hl with | [_], _ => rfl,
    a_is_number := f_is_number, fd_is_number := _, F_is_number := fun_of l_is_number c_is_number k_is_number, m_is_number := PySem.W.mg_of X G a_is_number, b_is_number := (fun_of l_is_number c_is_number k_is_number).bindsN fun _ _ _ _ _ _ us hl => match us, hl with | [_], _ => rfl,
    a_is_plain_number := f_is_plain_number, fd_is_plain_number := _, F_is_plain_number := fun_of l_is_plain_number c_is_plain_number k_is_plain_number, m_is_plain_number := PySem.W.mg_of X G a_is_plain_number, b_is_plain_number := (fun_of l_is_plain_number c_is_plain_number k_is_plain_number).bindsN fun _ _ _ _ _ _ us hl => match us, hl with | [_], _ => rfl,
    a_is_word := f_is_word, fd_is_word := _, F_is_word := fun_of l_is_word c_is_word k_is_word, m_is_word := PySem.W.mg_of X G a_is_word, b_is_word := (fun_of l_is_word c_is_word k_is_word).bindsN fun _ _ _ _ _ _ us hl => match us, hl with | [_], _ => rfl,
    a_is_digits := f_is_digits, fd_is_digits := _, F_is_digits := fun_of l_is_digits c_is_digits k_is_digits, m_is_digits := PySem.W.mg_of X G a_is_digits, b_is_digits := (fun_of l_is_digits c_is_digits k_is_digits).bindsN fun _ _ _ _ _ _ us hl => match us, hl with | [_], _ => rfl,
    a_amount_of := f_amount_of, fd_amount_of := _, F_amount_of := fun_of l_amount_of c_amount_of k_amount_of, m_amount_of := PySem.W.mg_of X G a_amount_of, b_amount_of := (fun_of l_amount_of c_amount_of k_amount_of).bindsN fun _ _ _ _ _ _ us hl => match us, hl with | [_], _ => rfl,
    a_percent_of := f_percent_of, fd_percent_of := _, F_percent_of := fun_of l_percent_of c_percent_of k_percent_of, m_percent_of := PySem.W.mg_of X G a_percent_of, b_percent_of := (fun_of l_percent_of c_percent_of k_percent_of).bindsN fun _ _ _ _ _ _ us hl => match us, hl with | [_], _ => rfl,
    a_kind_of := f_kind_of, fd_kind_of := _, F_kind_of := fun_of l_kind_of c_kind_of k_kind_of, m_kind_of := PySem.W.mg_of X G a_kind_of, b_kind_of := (fun_of l_kind_of c_kind_of k_kind_of).bindsN fun _ _ _ _ _ _ us hl => match us, hl with | [_], _ => rfl,
    a_run_end := f_run_end, fd_run_end := _, F_run_end := fun_of l_run_end c_run_end k_run_end, m_run_end := PySem.W.mg_of X G a_run_end, b_run_end := (fun_of l_run_end c_run_end k_run_end).bindsN fun _ _ _ _ _ _ us hl => match us, hl with | [_, _], _ => rfl,
    a_scan_line := f_scan_line, fd_scan_line := _, F_scan_line := fun_of l_scan_line c_scan_line k_scan_line, m_scan_line := PySem.W.mg_of X G a_scan_line, b_scan_line := (fun_of l_scan_line c_scan_line k_scan_line).bindsN fun _ _ _ _ _ _ us hl => match us, hl with | [_, _, _], _ => rfl,
    a_scan := f_scan, fd_scan := _, F_scan := fun_of l_scan c_scan k_scan, m_scan := PySem.W.mg_of X G a_scan, b_scan := (fun_of l_scan c_scan k_scan).bindsN fun _ _ _ _ _ _ us hl => match us, hl with | [_], _ => rfl,
    a_tokens_of := f_tokens_of, fd_tokens_of := _, F_tokens_of := fun_of l_tokens_of c_tokens_of k_tokens_of, m_tokens_of := PySem.W.mg_of X G a_tokens_of, b_tokens_of := (fun_of l_tokens_of c_tokens_of k_tokens_of).bindsN fun _ _ _ _ _ _ us hl => match us, hl with | [_], _ => rfl,
    a__law_cell := f__law_cell, fd__law_cell := _, F__law_cell := fun_of l__law_cell c__law_cell k__law_cell, m__law_cell := PySem.W.mg_of X G a__law_cell, b__law_cell := (fun_of l__law_cell c__law_cell k__law_cell).bindsN fun _ _ _ _ _ _ us hl => match us, hl with | [_, _], _ => rfl,
    a__law_draw := f__law_draw, fd__law_draw := _, F__law_draw := fun_of l__law_draw c__law_draw k__law_draw, m__law_draw := PySem.W.mg_of X G a__law_draw, b__law_draw := (fun_of l__law_draw c__law_draw k__law_draw).bindsN fun _ _ _ _ _ _ us hl => match us, hl with | [_, _], _ => rfl,
    a__law_leap := f__law_leap, fd__law_leap := _, F__law_leap := fun_of l__law_leap c__law_leap k__law_leap, m__law_leap := PySem.W.mg_of X G a__law_leap, b__law_leap := (fun_of l__law_leap c__law_leap k__law_leap).bindsN fun _ _ _ _ _ _ us hl => match us, hl with | [_], _ => rfl,
    a__law_length := f__law_length, fd__law_length := _, F__law_length := fun_of l__law_length c__law_length k__law_length, m__law_length := PySem.W.mg_of X G a__law_length, b__law_length := (fun_of l__law_length c__law_length k__law_length).bindsN fun _ _ _ _ _ _ us hl => match us, hl with | [_, _], _ => rfl,
    a__law_date := f__law_date, fd__law_date := _, F__law_date := fun_of l__law_date c__law_date k__law_date, m__law_date := PySem.W.mg_of X G a__law_date, b__law_date := (fun_of l__law_date c__law_date k__law_date).bindsN fun _ _ _ _ _ _ us hl => match us, hl with | [_], _ => rfl,
    a__law_pad := f__law_pad, fd__law_pad := _, F__law_pad := fun_of l__law_pad c__law_pad k__law_pad, m__law_pad := PySem.W.mg_of X G a__law_pad, b__law_pad := (fun_of l__law_pad c__law_pad k__law_pad).bindsN fun _ _ _ _ _ _ us hl => match us, hl with | [_, _], _ => rfl,
    a__law_written := f__law_written, fd__law_written := _, F__law_written := fun_of l__law_written c__law_written k__law_written, m__law_written := PySem.W.mg_of X G a__law_written, b__law_written := (fun_of l__law_written c__law_written k__law_written).bindsN fun _ _ _ _ _ _ us hl => match us, hl with | [_], _ => rfl,
    a__law_token := f__law_token, fd__law_token := _, F__law_token := fun_of l__law_token c__law_token k__law_token, m__law_token := PySem.W.mg_of X G a__law_token, b__law_token := (fun_of l__law_token c__law_token k__law_token).bindsN fun _ _ _ _ _ _ us hl => match us, hl with | [_], _ => rfl,
    a__law_spelled := f__law_spelled, fd__law_spelled := _, F__law_spelled := fun_of l__law_spelled c__law_spelled k__law_spelled, m__law_spelled := PySem.W.mg_of X G a__law_spelled, b__law_spelled := (fun_of l__law_spelled c__law_spelled k__law_spelled).bindsN fun _ _ _ _ _ _ us hl => match us, hl with | [_, _], _ => rfl,
    a__law_space := f__law_space, fd__law_space := _, F__law_space := fun_of l__law_space c__law_space k__law_space, m__law_space := PySem.W.mg_of X G a__law_space, b__law_space := (fun_of l__law_space c__law_space k__law_space).bindsN fun _ _ _ _ _ _ us hl => match us, hl with | [_], _ => rfl,
    a__law_after := f__law_after, fd__law_after := _, F__law_after := fun_of l__law_after c__law_after k__law_after, m__law_after := PySem.W.mg_of X G a__law_after, b__law_after := (fun_of l__law_after c__law_after k__law_after).bindsN fun _ _ _ _ _ _ us hl => match us, hl with | [_, _, _], _ => rfl,
    a_law := f_law, fd_law := _, F_law := fun_of l_law c_law k_law, m_law := PySem.W.mg_of X G a_law, b_law := (fun_of l_law c_law k_law).bindsN fun _ _ _ _ _ _ us hl => match us, hl with | [_], _ => rfl,
    c_BookError := c_BookError, m_BookError := PySem.W.mg_of X G a_BookError, e_BookError := ⟨⟨ga_BookError, gg_BookError, sb_BookError, hd_BookError, ha_BookError, spc, tkc, hm_BookError⟩, ty_BookError, se_BookError⟩,
    c_BadText := c_BadText, m_BadText := PySem.W.mg_of X G a_BadText, e_BadText := ⟨⟨ga_BadText, gg_BadText, sb_BadText, hd_BadText, ha_BadText, spc, tkc, hm_BadText⟩, ty_BadText, se_BadText⟩,
    x_BadText := ⟨fI_BadText, cc_BadText, cda_BadText, _, _, _, _, _, _, ⟨⟨⟨nm_BadText, q_BadText, N_BadText, bs_BadText, _, sn_BadText, sub_BadText, ab_BadText, col_BadText, dd_BadText, m0_BadText, m1_BadText, m2_BadText, m3_BadText, m5_BadText, xL_BadText, rfl⟩, sa_BadText, sb_BadText, ty_BadText, kp_BadText⟩, i_BadText, ti_BadText, ⟨_, _, _, ce_BadText⟩, ⟨_, _, _, _, _, _, co_BadText, vs_BadText, fi_BadText⟩, by decide +kernel, PySem.W.mg_none_of X G zsuper, se_BadText, third, su_BadText, ve_BadText⟩, li_BadText, ci_BadText⟩,
    n_BadText_label := n_BadText_label,
    n_BadText_line := n_BadText_line,
    n_BadText_column := n_BadText_column,
    n_BadText_reason := n_BadText_reason,
    c_OutOfRange := c_OutOfRange, m_OutOfRange := PySem.W.mg_of X G a_OutOfRange, e_OutOfRange := ⟨⟨ga_OutOfRange, gg_OutOfRange, sb_OutOfRange, hd_OutOfRange, ha_OutOfRange, spc, tkc, hm_OutOfRange⟩, ty_OutOfRange, se_OutOfRange⟩,
    x_OutOfRange := ⟨fI_OutOfRange, cc_OutOfRange, cda_OutOfRange, _, _, _, _, _, _, ⟨⟨⟨nm_OutOfRange, q_OutOfRange, N_OutOfRange, bs_OutOfRange, _, sn_OutOfRange, sub_OutOfRange, ab_OutOfRange, col_OutOfRange, dd_OutOfRange, m0_OutOfRange, m1_OutOfRange, m2_OutOfRange, m3_OutOfRange, m5_OutOfRange, xL_OutOfRange, rfl⟩, sa_OutOfRange, sb_OutOfRange, ty_OutOfRange, kp_OutOfRange⟩, i_OutOfRange, ti_OutOfRange, ⟨_, _, _, ce_OutOfRange⟩, ⟨_, _, _, _, _, _, co_OutOfRange, vs_OutOfRange, fi_OutOfRange⟩, by decide +kernel, PySem.W.mg_none_of X G zsuper, se_OutOfRange, third, su_OutOfRange, ve_OutOfRange⟩, li_OutOfRange, ci_OutOfRange⟩,
    n_OutOfRange_label := n_OutOfRange_label,
    n_OutOfRange_value := n_OutOfRange_value,
    y_BookError_BookError := y_BookError_BookError,
    y_BookError_BadText := y_BookError_BadText,
    y_BookError_OutOfRange := y_BookError_OutOfRange,
    yv_BookError := yv_BookError,
    y_BadText_BookError := y_BadText_BookError,
    y_BadText_BadText := y_BadText_BadText,
    y_BadText_OutOfRange := y_BadText_OutOfRange,
    yv_BadText := yv_BadText,
    y_OutOfRange_BookError := y_OutOfRange_BookError,
    y_OutOfRange_BadText := y_OutOfRange_BadText,
    y_OutOfRange_OutOfRange := y_OutOfRange_OutOfRange,
    yv_OutOfRange := yv_OutOfRange,
    nd := ⟨nsok_of ndo ndk, ndn⟩,
    m_MOST_CENTS := ⟨_, PySem.W.mg_of X G a_MOST_CENTS⟩,
    m_MOST_RATE := ⟨_, PySem.W.mg_of X G a_MOST_RATE⟩,
    m_FIRST_YEAR := ⟨_, PySem.W.mg_of X G a_FIRST_YEAR⟩,
    m_LAST_YEAR := ⟨_, PySem.W.mg_of X G a_LAST_YEAR⟩,
    m_SIGNS := ⟨_, PySem.W.mg_of X G a_SIGNS⟩,
    m_LONGEST_NUMBER := ⟨_, PySem.W.mg_of X G a_LONGEST_NUMBER⟩,
    m_MOST_DIGITS := ⟨_, PySem.W.mg_of X G a_MOST_DIGITS⟩,
    z_range := PySem.W.mg_none_of X G z_range,
    z_len := PySem.W.mg_none_of X G z_len,
    z_int := PySem.W.mg_none_of X G z_int,
    z_abs := PySem.W.mg_none_of X G z_abs,
    z_str := PySem.W.mg_none_of X G z_str,
    z_min := PySem.W.mg_none_of X G z_min,
    z_max := PySem.W.mg_none_of X G z_max,
    z_isinstance := PySem.W.mg_none_of X G z_isinstance,
    z_list := PySem.W.mg_none_of X G z_list,
    z_tuple := PySem.W.mg_none_of X G z_tuple,
    z_bool := PySem.W.mg_none_of X G z_bool }
  have e := hfa.symm.trans T.m_law
  cases e
  exact ⟨_, fun s u => T.F_law.bindsA (ps := ["script"]) (fun _ _ _ _ _ _ us hl => match us, hl with | [_], _ => rfl) s [u] rfl, fun base _ _ => (ok_law T).mono (by decide)⟩
end My
open PySem PySem.W PyProof.Rows
set_option maxRecDepth 100000 in
set_option maxHeartbeats 0 in
theorem PySem.Challenge.cw_lendbook_k24_tokens_of_texts_holds : PySem.Challenge.rw_lendbook_k24_tokens_of_texts.Holds := by
  w_on; o_law; k_head; (case hw => w_witness2)
  k_fill
  refine LB.walk (l := PySem.Challenge.rw_lendbook_k24_tokens_of_texts) (k := 10) rfl rfl ⟨rfl, by decide, by decide⟩ (fun w h Y => PySem.W.kIn_of Y) ?F
  case F =>
    intro w mg fa h KX G hmg
    refine' My.all_mk KX G hmg ?a_check_between ?l_check_between ?c_check_between ?k_check_between ?a_is_lower ?l_is_lower ?c_is_lower ?k_is_lower ?a_is_digit ?l_is_digit ?c_is_digit ?k_is_digit ?a_is_leap ?l_is_leap ?c_is_leap ?k_is_leap ?a_month_length ?l_month_length ?c_month_length ?k_month_length ?a_year_start ?l_year_start ?c_year_start ?k_year_start ?a_day_number ?l_day_number ?c_day_number ?k_day_number ?a_is_written ?l_is_written ?c_is_written ?k_is_written ?a_is_date ?l_is_date ?c_is_date ?k_is_date ?a_read_date ?l_read_date ?c_read_date ?k_read_date ?a_is_run_character ?l_is_run_character ?c_is_run_character ?k_is_run_character ?a_is_number ?l_is_number ?c_is_number ?k_is_number ?a_is_plain_number ?l_is_plain_number ?c_is_plain_number ?k_is_plain_number ?a_is_word ?l_is_word ?c_is_word ?k_is_word ?a_is_digits ?l_is_digits ?c_is_digits ?k_is_digits ?a_amount_of ?l_amount_of ?c_amount_of ?k_amount_of ?a_percent_of ?l_percent_of ?c_percent_of ?k_percent_of ?a_kind_of ?l_kind_of ?c_kind_of ?k_kind_of ?a_run_end ?l_run_end ?c_run_end ?k_run_end ?a_scan_line ?l_scan_line ?c_scan_line ?k_scan_line ?a_scan ?l_scan ?c_scan ?k_scan ?a_tokens_of ?l_tokens_of ?c_tokens_of ?k_tokens_of ?a__law_cell ?l__law_cell ?c__law_cell ?k__law_cell ?a__law_draw ?l__law_draw ?c__law_draw ?k__law_draw ?a__law_leap ?l__law_leap ?c__law_leap ?k__law_leap ?a__law_length ?l__law_length ?c__law_length ?k__law_length ?a__law_date ?l__law_date ?c__law_date ?k__law_date ?a__law_pad ?l__law_pad ?c__law_pad ?k__law_pad ?a__law_written ?l__law_written ?c__law_written ?k__law_written ?a__law_token ?l__law_token ?c__law_token ?k__law_token ?a__law_spelled ?l__law_spelled ?c__law_spelled ?k__law_spelled ?a__law_space ?l__law_space ?c__law_space ?k__law_space ?a__law_after ?l__law_after ?c__law_after ?k__law_after ?a_law ?l_law ?c_law ?k_law ?third ?zsuper ?spc ?tkc ?a_BookError ?ga_BookError ?gg_BookError ?sb_BookError ?hd_BookError ?ha_BookError ?hm_BookError ?ty_BookError ?se_BookError ?a_BadText ?ga_BadText ?gg_BadText ?sb_BadText ?hd_BadText ?ha_BadText ?hm_BadText ?ty_BadText ?se_BadText ?xL_BadText ?sa_BadText ?kp_BadText ?i_BadText ?ti_BadText ?li_BadText ?ci_BadText ?ce_BadText ?co_BadText ?vs_BadText ?fi_BadText ?su_BadText ?ve_BadText ?n_BadText_label ?n_BadText_line ?n_BadText_column ?n_BadText_reason ?a_OutOfRange ?ga_OutOfRange ?gg_OutOfRange ?sb_OutOfRange ?hd_OutOfRange ?ha_OutOfRange ?hm_OutOfRange ?ty_OutOfRange ?se_OutOfRange ?xL_OutOfRange ?sa_OutOfRange ?kp_OutOfRange ?i_OutOfRange ?ti_OutOfRange ?li_OutOfRange ?ci_OutOfRange ?ce_OutOfRange ?co_OutOfRange ?vs_OutOfRange ?fi_OutOfRange ?su_OutOfRange ?ve_OutOfRange ?n_OutOfRange_label ?n_OutOfRange_value ?y_BookError_BookError ?y_BookError_BadText ?y_BookError_OutOfRange ?yv_BookError ?y_BadText_BookError ?y_BadText_BadText ?y_BadText_OutOfRange ?yv_BadText ?y_OutOfRange_BookError ?y_OutOfRange_BadText ?y_OutOfRange_OutOfRange ?yv_OutOfRange ?ndo ?ndk ?ndn ?a_MOST_CENTS ?a_MOST_RATE ?a_FIRST_YEAR ?a_LAST_YEAR ?a_SIGNS ?a_LONGEST_NUMBER ?a_MOST_DIGITS ?z_range ?z_len ?z_int ?z_abs ?z_str ?z_min ?z_max ?z_isinstance ?z_list ?z_tuple ?z_bool
    (case a_check_between => k_is)
    (case l_check_between => k_is)
    (case c_check_between => k_is)
    (case k_check_between => k_is)
    (case a_is_lower => k_is)
    (case l_is_lower => k_is)
    (case c_is_lower => k_is)
    (case k_is_lower => k_is)
    (case a_is_digit => k_is)
    (case l_is_digit => k_is)
    (case c_is_digit => k_is)
    (case k_is_digit => k_is)
    (case a_is_leap => k_is)
    (case l_is_leap => k_is)
    (case c_is_leap => k_is)
    (case k_is_leap => k_is)
    (case a_month_length => k_is)
    (case l_month_length => k_is)
    (case c_month_length => k_is)
    (case k_month_length => k_is)
    (case a_year_start => k_is)
    (case l_year_start => k_is)
    (case c_year_start => k_is)
    (case k_year_start => k_is)
    (case a_day_number => k_is)
    (case l_day_number => k_is)
    (case c_day_number => k_is)
    (case k_day_number => k_is)
    (case a_is_written => k_is)
    (case l_is_written => k_is)
    (case c_is_written => k_is)
    (case k_is_written => k_is)
    (case a_is_date => k_is)
    (case l_is_date => k_is)
    (case c_is_date => k_is)
    (case k_is_date => k_is)
    (case a_read_date => k_is)
    (case l_read_date => k_is)
    (case c_read_date => k_is)
    (case k_read_date => k_is)
    (case a_is_run_character => k_is)
    (case l_is_run_character => k_is)
    (case c_is_run_character => k_is)
    (case k_is_run_character => k_is)
    (case a_is_number => k_is)
    (case l_is_number => k_is)
    (case c_is_number => k_is)
    (case k_is_number => k_is)
    (case a_is_plain_number => k_is)
    (case l_is_plain_number => k_is)
    (case c_is_plain_number => k_is)
    (case k_is_plain_number => k_is)
    (case a_is_word => k_is)
    (case l_is_word => k_is)
    (case c_is_word => k_is)
    (case k_is_word => k_is)
    (case a_is_digits => k_is)
    (case l_is_digits => k_is)
    (case c_is_digits => k_is)
    (case k_is_digits => k_is)
    (case a_amount_of => k_is)
    (case l_amount_of => k_is)
    (case c_amount_of => k_is)
    (case k_amount_of => k_is)
    (case a_percent_of => k_is)
    (case l_percent_of => k_is)
    (case c_percent_of => k_is)
    (case k_percent_of => k_is)
    (case a_kind_of => k_is)
    (case l_kind_of => k_is)
    (case c_kind_of => k_is)
    (case k_kind_of => k_is)
    (case a_run_end => k_is)
    (case l_run_end => k_is)
    (case c_run_end => k_is)
    (case k_run_end => k_is)
    (case a_scan_line => k_is)
    (case l_scan_line => k_is)
    (case c_scan_line => k_is)
    (case k_scan_line => k_is)
    (case a_scan => k_is)
    (case l_scan => k_is)
    (case c_scan => k_is)
    (case k_scan => k_is)
    (case a_tokens_of => k_is)
    (case l_tokens_of => k_is)
    (case c_tokens_of => k_is)
    (case k_tokens_of => k_is)
    (case a__law_cell => k_is)
    (case l__law_cell => k_is)
    (case c__law_cell => k_is)
    (case k__law_cell => k_is)
    (case a__law_draw => k_is)
    (case l__law_draw => k_is)
    (case c__law_draw => k_is)
    (case k__law_draw => k_is)
    (case a__law_leap => k_is)
    (case l__law_leap => k_is)
    (case c__law_leap => k_is)
    (case k__law_leap => k_is)
    (case a__law_length => k_is)
    (case l__law_length => k_is)
    (case c__law_length => k_is)
    (case k__law_length => k_is)
    (case a__law_date => k_is)
    (case l__law_date => k_is)
    (case c__law_date => k_is)
    (case k__law_date => k_is)
    (case a__law_pad => k_is)
    (case l__law_pad => k_is)
    (case c__law_pad => k_is)
    (case k__law_pad => k_is)
    (case a__law_written => k_is)
    (case l__law_written => k_is)
    (case c__law_written => k_is)
    (case k__law_written => k_is)
    (case a__law_token => k_is)
    (case l__law_token => k_is)
    (case c__law_token => k_is)
    (case k__law_token => k_is)
    (case a__law_spelled => k_is)
    (case l__law_spelled => k_is)
    (case c__law_spelled => k_is)
    (case k__law_spelled => k_is)
    (case a__law_space => k_is)
    (case l__law_space => k_is)
    (case c__law_space => k_is)
    (case k__law_space => k_is)
    (case a__law_after => k_is)
    (case l__law_after => k_is)
    (case c__law_after => k_is)
    (case k__law_after => k_is)
    (case a_law => k_is)
    (case l_law => k_is)
    (case c_law => k_is)
    (case k_law => k_is)
    (case third => k_is)
    (case zsuper => k_is)
    (case spc => k_is)
    (case tkc => k_is)
    (case a_BookError => k_is)
    (case ga_BookError => k_is)
    (case gg_BookError => k_is)
    (case sb_BookError => k_is)
    (case hd_BookError => k_is)
    (case ha_BookError => k_is)
    (case hm_BookError => k_is)
    (case ty_BookError => k_is)
    (case se_BookError => k_is)
    (case a_BadText => k_is)
    (case ga_BadText => k_is)
    (case gg_BadText => k_is)
    (case sb_BadText => k_is)
    (case hd_BadText => k_is)
    (case ha_BadText => k_is)
    (case hm_BadText => k_is)
    (case ty_BadText => k_is)
    (case se_BadText => k_is)
    (case xL_BadText => k_is)
    (case sa_BadText => k_is)
    (case kp_BadText => k_is)
    (case i_BadText => k_is)
    (case ti_BadText => k_is)
    (case li_BadText => k_is)
    (case ci_BadText => k_is)
    (case ce_BadText => k_is)
    (case co_BadText => k_is)
    (case vs_BadText => rfl)
    (case fi_BadText => decide +kernel)
    (case su_BadText => ks_is)
    (case ve_BadText => k_is)
    (case n_BadText_label => k_is)
    (case n_BadText_line => k_is)
    (case n_BadText_column => k_is)
    (case n_BadText_reason => k_is)
    (case a_OutOfRange => k_is)
    (case ga_OutOfRange => k_is)
    (case gg_OutOfRange => k_is)
    (case sb_OutOfRange => k_is)
    (case hd_OutOfRange => k_is)
    (case ha_OutOfRange => k_is)
    (case hm_OutOfRange => k_is)
    (case ty_OutOfRange => k_is)
    (case se_OutOfRange => k_is)
    (case xL_OutOfRange => k_is)
    (case sa_OutOfRange => k_is)
    (case kp_OutOfRange => k_is)
    (case i_OutOfRange => k_is)
    (case ti_OutOfRange => k_is)
    (case li_OutOfRange => k_is)
    (case ci_OutOfRange => k_is)
    (case ce_OutOfRange => k_is)
    (case co_OutOfRange => k_is)
    (case vs_OutOfRange => rfl)
    (case fi_OutOfRange => decide +kernel)
    (case su_OutOfRange => ks_is)
    (case ve_OutOfRange => k_is)
    (case n_OutOfRange_label => k_is)
    (case n_OutOfRange_value => k_is)
    (case y_BookError_BookError => k_is)
    (case y_BookError_BadText => k_is)
    (case y_BookError_OutOfRange => k_is)
    (case yv_BookError => k_is)
    (case y_BadText_BookError => k_is)
    (case y_BadText_BadText => k_is)
    (case y_BadText_OutOfRange => k_is)
    (case yv_BadText => k_is)
    (case y_OutOfRange_BookError => k_is)
    (case y_OutOfRange_BadText => k_is)
    (case y_OutOfRange_OutOfRange => k_is)
    (case yv_OutOfRange => k_is)
    (case ndo => k_is)
    (case ndk => exact (Eq.refl true))
    (case ndn => k_is)
    (case a_MOST_CENTS => k_is)
    (case a_MOST_RATE => k_is)
    (case a_FIRST_YEAR => k_is)
    (case a_LAST_YEAR => k_is)
    (case a_SIGNS => k_is)
    (case a_LONGEST_NUMBER => k_is)
    (case a_MOST_DIGITS => k_is)
    (case z_range => k_is)
    (case z_len => k_is)
    (case z_int => k_is)
    (case z_abs => k_is)
    (case z_str => k_is)
    (case z_min => k_is)
    (case z_max => k_is)
    (case z_isinstance => k_is)
    (case z_list => k_is)
    (case z_tuple => k_is)
    (case z_bool => k_is)
