import PyProof.Rows.All
import Wide.All
import OpenK.AllK
import Wide.FinOn
import HandS.ForExc
import HandS.Comp
import HandS.Defaults
import HandS.IsInst
import HandS.Wide
import HandS.EndBits
import HandS.TryMany
import HandS.ExcField
import HandS.ExcInit
import HandS.Evl
import HandS.Gcd
import HandS.Nested
import HandS.FStr
import KE.KExcSuper
import HandS.ExcIs
import HandS.More
import HandS.Walk
import HandS.Zip
import HandS.Dict
import HandS.DictComp
import HandS.WordsDict
import HandS.SetFor
import PySem.Challenge.RW_lendbook_k37_meters_are_exact
set_option Elab.async false
set_option linter.all false
set_option maxRecDepth 100000
set_option maxHeartbeats 4000000
/-! own small rules over the hand layer -/
namespace LB
open PySem PySem.Spec PyProof.Rows L2
theorem bt_int : bootBuiltins "int" = some (.type "int") := by decide +kernel
theorem bt_bool : bootBuiltins "bool" = some (.type "bool") := by decide +kernel
theorem bt_str : bootBuiltins "str" = some (.type "str") := by decide +kernel
theorem bt_list : bootBuiltins "list" = some (.type "list") := by decide +kernel
theorem bt_tuple : bootBuiltins "tuple" = some (.type "tuple") := by decide +kernel
theorem bt_dict : bootBuiltins "dict" = some (.type "dict") := by decide +kernel
theorem bt_set : bootBuiltins "set" = some (.type "set") := by decide +kernel
theorem bt_range : bootBuiltins "range" = some (.type "range") := by decide +kernel
theorem bt_len : bootBuiltins "len" = some (.builtin "len") := by decide +kernel
theorem bt_abs : bootBuiltins "abs" = some (.builtin "abs") := by decide +kernel
theorem bt_isinstance : bootBuiltins "isinstance" = some (.builtin "isinstance") := by decide +kernel
theorem bt_sum : bootBuiltins "sum" = some (.builtin "sum") := by decide +kernel
theorem bt_min : bootBuiltins "min" = some (.builtin "min") := by decide +kernel
theorem bt_max : bootBuiltins "max" = some (.builtin "max") := by decide +kernel
theorem bt_sorted : bootBuiltins "sorted" = some (.builtin "sorted") := by decide +kernel
theorem bt_divmod : bootBuiltins "divmod" = some (.builtin "divmod") := by decide +kernel
theorem bt_any : bootBuiltins "any" = some (.builtin "any") := by decide +kernel
theorem bt_ValueError : bootBuiltins "ValueError" = some (.type "ValueError") := by decide +kernel
theorem bt_all : bootBuiltins "all" = some (.builtin "all") := by decide +kernel

/-! ### sizes of ints: i lies within n bits -/
structure Sz (n : Nat) (i : Int) : Prop where
  lt : i.natAbs < 2 ^ n
theorem Sz.log {n : Nat} {i : Int} (h : Sz n i) : i.natAbs.log2 ≤ n := by
  by_cases h0 : i.natAbs = 0
  · rw [h0]; exact Nat.zero_le _
  · exact Nat.le_of_lt ((Nat.log2_lt h0).mpr h.lt)
theorem Sz.zero (n : Nat) : Sz n 0 := ⟨Nat.pow_pos (by decide)⟩
theorem Sz.mono {m n : Nat} {i : Int} (h : Sz m i) (l : m ≤ n) : Sz n i := ⟨Nat.lt_of_lt_of_le h.lt (Nat.pow_le_pow_right (by decide) l)⟩
theorem Sz.add {m n : Nat} {i j : Int} (a : Sz m i) (b : Sz n j) : Sz (m + n + 1) (i + j) := by
  refine ⟨Nat.lt_of_le_of_lt (Int.natAbs_add_le i j) ?_⟩
  have h1 := (a.mono (Nat.le_add_right m n)).lt
  have h2 := (b.mono (Nat.le_add_left n m)).lt
  rw [Nat.pow_succ]
  omega
theorem Sz.neg {n : Nat} {i : Int} (a : Sz n i) : Sz n (-i) := ⟨by rw [Int.natAbs_neg]; exact a.lt⟩
theorem Sz.sub {m n : Nat} {i j : Int} (a : Sz m i) (b : Sz n j) : Sz (m + n + 1) (i - j) := by
  rw [Int.sub_eq_add_neg]
  exact a.add b.neg
theorem Sz.mul {m n : Nat} {i j : Int} (a : Sz m i) (b : Sz n j) : Sz (m + n) (i * j) := by
  refine ⟨?_⟩
  rw [Int.natAbs_mul, Nat.pow_add]
  exact Nat.mul_lt_mul'' a.lt b.lt
theorem Sz.le {n : Nat} {i j : Int} (a : Sz n j) (h : i.natAbs ≤ j.natAbs) : Sz n i := ⟨Nat.lt_of_le_of_lt h a.lt⟩
theorem Sz.div {n : Nat} {i j : Int} (a : Sz n i) : Sz n (i / j) := a.le (Int.natAbs_ediv_le_natAbs i j)
theorem Sz.mod {n : Nat} {i j : Int} (b : Sz n j) (h : 0 < j) : Sz n (i % j) := b.le (by
  have h1 := Int.emod_nonneg i (b := j) (by omega)
  have h2 := Int.emod_lt_of_pos i h
  omega)
theorem Sz.nn {n : Nat} {i j : Int} (b : Sz n j) (h0 : 0 ≤ i) (h : i ≤ j) : Sz n i := b.le (by omega)
theorem Sz.absv {n : Nat} {i : Int} (a : Sz n i) : Sz n (if i < 0 then -i else i) := by
  by_cases h : i < 0
  · rw [if_pos h]; exact a.neg
  · rw [if_neg h]; exact a
theorem Sz.bits {z : Int} {n : Nat} (h : Builtin.Int.intBits z ≤ n) : Sz n z := by
  refine ⟨?_⟩
  unfold Builtin.Int.intBits at h
  by_cases h0 : z = 0
  · subst h0
    exact Nat.pos_of_ne_zero (by simp)
  · have h1 : ¬ z.natAbs = 0 := by omega
    have h2 : z.natAbs.log2 + 1 ≤ n := by
      split at h
      · rename_i e
        first
          | exact absurd (by simpa using e) h0
          | omega
      · exact h
    exact (Nat.log2_lt h1).mp (by omega)

/-! ### products and quotients of any size -/
/-- a product that fits -/
def CM (i j : Int) : Prop := i.natAbs.log2 + j.natAbs.log2 < 134000000
theorem CM.ok {i j : Int} (h : CM i j) : IntMulOk i j := by
  have b : ∀ x : Int, Builtin.Int.intBits x ≤ x.natAbs.log2 + 1 := fun x => by
    unfold Builtin.Int.intBits
    split <;> omega
  have h1 := b i
  have h2 := b j
  have h3 : i.natAbs.log2 + j.natAbs.log2 < 134000000 := h
  have e := bitsLine_eq
  intro z
  have z2 := (Bool.and_eq_true_iff.mp z).2
  unfold Builtin.Int.intTooBig at z2
  have z3 := of_decide_eq_true z2
  rw [e] at z3
  omega
theorem CM.of {m n : Nat} {i j : Int} (a : Sz m i) (b : Sz n j) (h : m + n < 134000000 := by decide) : CM i j := by
  have h1 := a.log
  have h2 := b.log
  unfold CM
  omega
/-- a positive divisor of less than 9000 bits -/
def CD (_ j : Int) : Prop := 0 < j ∧ j.natAbs.log2 < 9000
theorem CD.of {n : Nat} {i j : Int} (h : 0 < j) (b : Sz n j) (hn : n < 9000 := by decide) : CD i j := ⟨h, Nat.lt_of_le_of_lt b.log hn⟩
theorem CM.of2 {m n : Nat} {i j : Int} (a : Sz m i) (b : Sz n j) (h : m + n < 134000000) : CM i j := CM.of a b h
theorem CD.of2 {n : Nat} {i j : Int} (b : Sz n j) (h : 0 < j) (hn : n < 9000) : CD i j := CD.of h b hn
theorem log2_mono {m n : Nat} (h : m ≤ n) : m.log2 ≤ n.log2 := by
  by_cases h0 : m = 0
  · rw [h0]; exact Nat.zero_le _
  · exact (Nat.le_log2 (by omega)).mpr (Nat.le_trans (Nat.log2_self_le h0) h)
theorem CM.rest {t b : Int} (c : CD t b) : CM 2 (t - t / b * b) := by
  obtain ⟨c1, c2⟩ := c
  have e : t - t / b * b = t % b := by
    have := Int.mul_ediv_add_emod t b
    rw [Int.mul_comm b] at this
    omega
  have h1 := Int.emod_nonneg t (b := b) (by omega)
  have h2 := Int.emod_lt_of_pos t c1
  have h3 := log2_mono (m := (t % b).natAbs) (n := b.natAbs) (by omega)
  show Nat.log2 2 + _ < _
  have h4 : Nat.log2 2 = 1 := by decide +kernel
  rw [e]
  omega
section
variable {X : Cx}
theorem op_mulB : OpR X (binaryOp .Mult) (rI CM fun i j => .int (i * j)) := opI fun _ _ _ _ _ _ _ hc q => mul_int q hc.ok
theorem op_fdivB : OpR X (binaryOp .FloorDiv) (rI CD fun i j => .int (i / j)) := op_fdivW
end

/-! ### the script's cells -/
def cell (ns : List Int) (i : Nat) : Int := ns.getD i 0
def Bits (ns : List Int) : Prop := ∀ z ∈ ns, Builtin.Int.intBits z ≤ 1048576
theorem cell_sz {ns : List Int} (h : Bits ns) (i : Nat) : Sz 1048576 (cell ns i) := by
  unfold cell
  rw [List.getD_eq_getElem?_getD]
  cases e : ns[i]? with
  | none => exact Sz.zero _
  | some z => exact Sz.bits (h z (List.mem_of_getElem? e))

theorem atI_map_cell {ns : List Int} {j : Nat} (h : j < ns.length) : atI (ns.map V.int) ((j : Nat) : Int) = some (V.int (cell ns j)) := by
  refine atI_nat ?_
  rw [List.getElem?_map, List.getElem?_eq_getElem h]
  unfold cell
  rw [List.getD_eq_getElem?_getD, List.getElem?_eq_getElem h]
  rfl
/-- the answer of isinstance(x, int) and not isinstance(x, bool), by the kind of x -/
def wholeV : V → Option Bool
  | .int _ => some true
  | .bl _ => some false
  | .str _ => some false
  | .non => some false
  | _ => none

/-! ### heaps that grow -/
theorem same_new {H H' : Hp} {p : Addr} {o : HO} (s : Same H H') (h : H' p = none) : Same H (upd H' p o) := fun b u e => by
  rw [upd_ne (ne_of_none (s b u e) h)]
  exact s b u e
theorem same_tup {K : PySem.W.Frag} {H H' : Hp} {a : Addr} {xs : List V} (e : Same H H') (h : SqT K H a xs) : SqT K H' a xs := Evl.ex_t e h
theorem same_lst {K : PySem.W.Frag} {H H' : Hp} {a : Addr} {xs : List V} (e : Same H H') (h : SqL K H a xs) : SqL K H' a xs := Evl.ex_l e h
theorem t_of {K : PySem.W.Frag} {H : Hp} {a : Addr} {xs : List V} (h : H a = some (.tup xs)) : SqT K H a xs := Or.inl (Or.inl h)
theorem l_of {K : PySem.W.Frag} {H : Hp} {a : Addr} {xs : List V} (h : H a = some (.lst xs)) : SqL K H a xs := Or.inl (Or.inl h)
theorem lst_upd {K : PySem.W.Frag} {H : Hp} {a p : Addr} {o : HO} {xs : List V} (e : H p = none) (h : SqL K H a xs) : SqL K (upd H p o) a xs := same_lst (same_new (Same.refl H) e) h
theorem tup_upd {K : PySem.W.Frag} {H : Hp} {a p : Addr} {o : HO} {xs : List V} (e : H p = none) (h : SqT K H a xs) : SqT K (upd H p o) a xs := same_tup (same_new (Same.refl H) e) h
/-- a law's promise: a list of at most 63 ints of at most 2^20 bits each is handed in, True comes out -/
def sp_law (K : PySem.W.Frag) : Sp := fun vs H Q _ => ∃ (a : Addr) (ns : List Int), vs = [.ref a] ∧ SqL K H a (ns.map V.int) ∧ ns.length ≤ 63 ∧ Bits ns ∧ ∀ H', Q (.bl true) H'
theorem passX {X : Cx} : Passes (L2.CX X.prog X.w) X E0 := fun _ _ _ _ _ _ _ h => by
  obtain ⟨_, _, _, _, _, _, _, _, _, _, _, _, z⟩ := h
  exact z.elim
theorem passXS {X : Cx} (σ : L2.St) : PassesAt (L2.CX X.prog X.w) X σ ((fun _ => E0 : L2.St → XK) σ) := fun _ _ _ _ _ _ h => by
  obtain ⟨_, _, _, _, _, _, _, _, _, _, _, _, z⟩ := h
  exact z.elim
theorem walk {l : PySem.W.OpenLaw} {k : Nat} {q : Program} {loose : List Str} {XP : (Str → Option Value) → Heap → Prop} {YP : World → Heap → Prop} {d : DefRec} {K : Params → PySem.W.Frag} (hn : l.most = some 63) (hdf : d.params.defaults = [])
    (hr : Room k callerA) (hY : ∀ (w : World) (h : Heap), YP w h → (K w.params).In h)
    (F : ∀ (w : World) (mg : Str → Option Value) (fa : Addr) (h : Heap), (K w.params).In h → h.Ns mainGlobals mg → mg d.name = some (.ref fa) →
      ∃ fd : FuncData, (∀ (s : Shared) (u : Value), BindsTo s fd ⟨[u], []⟩ [("script", u)]) ∧ ∀ base : Heap, (K w.params).In base → base.Ns mainGlobals mg → FnOk l.prog w (K w.params) mg base (L2.CX l.prog w) k fa fd ["script"] (sp_law (K w.params))) :
    PySem.W.WalkO q loose XP YP l.row.toRowW d [] (fun f vs => PySem.call f vs) :=
  L2.walk_ofB (n := 63) (k := k) (x := "script") (CX := fun w => L2.CX l.prog w) (sp := fun w => sp_law (K w.params)) hn (by decide) hdf hr hY F (fun _ _ a ns hl hb _ hS => ⟨a, ns, rfl, hS, hl, hb, fun _ => rfl⟩) fun _ _ _ _ _ h => by
    obtain ⟨_, _, _, _, _, _, _, _, _, _, _, _, z⟩ := h
    exact z.elim
/-- a def without defaults, as the top leaves it -/
theorem fun_of {K : PySem.W.Frag} {x qual : Str} {pa : Arguments} {bd : List Stmt} {sc : Scope} {f : Addr} {oc : Value} {od an : Option Addr} {osl : Array (Option Value)} {kV doc pm cdv ct : Value}
    (l : K.lookup f = some ⟨oc, od, .func (PySem.W.fnOf x qual pa bd sc .none kV doc pm an cdv ct), osl⟩) (c : PySem.W.codeIn K cdv qual = true) (k : PySem.W.keepIn K (.ref f) = true) :
    FunD K x qual pa bd sc [] [] f (PySem.W.fnOf x qual pa bd sc .none kV doc pm an cdv ct) := ⟨⟨oc, od, .none, kV, doc, pm, an, cdv, ct, osl, rfl, l, c, .inl ⟨rfl, rfl⟩, .inl rfl⟩, k⟩
/-! ### items by their place -/
section
variable {K : PySem.W.Frag} {H : Hp} {p : Addr} {xs : List V} {i : Int} {v : V} {Q : VK}
theorem ixT_go (h : SqT K H p xs) (e : atI xs i = some v) (q : Q v H) : rIxT K (.ref p) (.int i) H Q := ⟨p, xs, i, v, rfl, rfl, h, e, q⟩
theorem ixL_go (h : SqL K H p xs) (e : atI xs i = some v) (q : Q v H) : rIxL K (.ref p) (.int i) H Q := ⟨p, xs, i, v, rfl, rfl, h, e, q⟩
theorem ixUT_go (h : SqT K H p xs) (e : atI xs i = some v) (q : Q v H) : rIx K (.ref p) (.int i) H Q := .inr (.inl (ixT_go h e q))
theorem ixUL_go (h : SqL K H p xs) (e : atI xs i = some v) (q : Q v H) : rIx K (.ref p) (.int i) H Q := .inl (ixL_go h e q)
end
/-! ### ways -/
theorem iteD {p A B : Prop} [Decidable p] (h1 : p → A) (h2 : ¬ p → B) : if decide p = true then A else B := by
  by_cases h : p
  · rw [decide_eq_true h]; exact iteT (h1 h)
  · rw [decide_eq_false h]; exact iteF (h2 h)
theorem iteDN {p A B : Prop} [Decidable p] (h1 : ¬ p → A) (h2 : p → B) : if (!decide p) = true then A else B := by
  by_cases h : p
  · rw [decide_eq_true h]; exact iteF (h2 h)
  · rw [decide_eq_false h]; exact iteT (h1 h)
theorem iteI {x y : Int} {A B : Prop} (h1 : x = y → A) (h2 : x ≠ y → B) : if decide (V.int x = V.int y) = true then A else B :=
  iteD (fun h => h1 (V.int.inj h)) fun h => h2 fun e => h (congrArg V.int e)
theorem iteIN {x y : Int} {A B : Prop} (h1 : x ≠ y → A) (h2 : x = y → B) : if (!decide (V.int x = V.int y)) = true then A else B :=
  iteDN (fun h => h1 fun e => h (congrArg V.int e)) fun h => h2 (V.int.inj h)
theorem iteS {x y : Str} {A B : Prop} (h1 : x = y → A) (h2 : x ≠ y → B) : if decide (V.str x = V.str y) = true then A else B :=
  iteD (fun h => h1 (V.str.inj h)) fun h => h2 fun e => h (congrArg V.str e)
theorem iteSN {x y : Str} {A B : Prop} (h1 : x ≠ y → A) (h2 : x = y → B) : if (!decide (V.str x = V.str y)) = true then A else B :=
  iteDN (fun h => h1 fun e => h (congrArg V.str e)) fun h => h2 (V.str.inj h)
theorem iteLen {xs : List V} {y : Int} {A B : Prop} (e : ((xs.length : Nat) : Int) = y) (h : A) : if decide (V.int ((xs.length : Nat) : Int) = V.int y) = true then A else B := by
  subst e
  rw [decide_eq_true rfl]
  exact iteT h
theorem iteLenN {xs : List V} {y : Int} {A B : Prop} (e : ((xs.length : Nat) : Int) = y) (h : B) : if (!decide (V.int ((xs.length : Nat) : Int) = V.int y)) = true then A else B := by
  subst e
  rw [decide_eq_true rfl]
  exact iteF h
theorem iteB {b : Bool} {A B : Prop} (h1 : b = true → A) (h2 : b = false → B) : if b = true then A else B := by
  cases b
  · exact iteF (h2 rfl)
  · exact iteT (h1 rfl)
theorem iteBN {b : Bool} {A B : Prop} (h1 : b = false → A) (h2 : b = true → B) : if (!b) = true then A else B := by
  cases b
  · exact iteT (h1 rfl)
  · exact iteF (h2 rfl)
theorem q_int {Q : VK} {x y : Int} {H : Hp} (q : Q (.int x) H) (e : x = y) : Q (.int y) H := e ▸ q
theorem q_bl {Q : VK} {x y : Bool} {H : Hp} (q : Q (.bl x) H) (e : x = y) : Q (.bl y) H := e ▸ q
/-- a statement whose ways meet: P holds behind each of them -/
def tCut (t : TS) : TS := fun D σ H => ∃ W : L2.St → Hp → Prop, t { D with nx := W } σ H ∧ ∀ σ' H', W σ' H' → D.nx σ' H'
theorem ps_cut {X : Cx} {st : Stmt} {t : TS} (h : PS X st t) : PS X st (tCut t) := by
  refine ⟨fun pins s σ H D I hw => ?_⟩
  obtain ⟨W, h1, h2⟩ := hw
  refine thn (h.run pins s σ H _ I h1) fun f s' q => ?_
  cases f with
  | next =>
    obtain ⟨σ', H', I', q'⟩ := q
    exact ⟨σ', H', I', h2 σ' H' q'⟩
  | brk => exact q
  | cont => exact q
  | ret u => exact q
/-! ### what the top has written -/
def relB : V → Value → Bool
  | .non, .none => true
  | .bl b, .bool c => b == c
  | .int i, .int j _ => i == j
  | .str x, .str y _ => x == y
  | .ref a, .ref b => a == b
  | .ty n, .type m => n == m
  | _, _ => false
theorem relB_ok : ∀ {v : V} {u : Value}, relB v u = true → RelV v u
  | .non, .none, _ => rfl
  | .bl b, .bool c, h => by
    have e : b = c := by simpa [relB] using h
    rw [e]; exact rfl
  | .int i, .int j t, h => by
    have e : i = j := by simpa [relB] using h
    rw [e]; exact ⟨t, rfl⟩
  | .str x, .str y t, h => by
    have e : x = y := by simpa [relB] using h
    rw [e]; exact ⟨t, rfl⟩
  | .ref a, .ref b, h => by
    have e : a = b := by simpa [relB] using h
    rw [e]; exact rfl
  | .ty n, .type m, h => by
    have e : n = m := by simpa [relB] using h
    rw [e]; exact rfl
def valsB : List V → List Value → Bool
  | [], [] => true
  | v :: vs, u :: us => relB v u && valsB vs us
  | _, _ => false
theorem valsB_ok : ∀ {vs : List V} {us : List Value}, valsB vs us = true → Vals vs us
  | [], [], _ => .nil
  | v :: vs, u :: us, h => by
    have h2 := Bool.and_eq_true_iff.mp h
    exact .cons (relB_ok h2.1) (valsB_ok h2.2)
  | [], _ :: _, h => by cases h
  | _ :: _, [], h => by cases h
theorem tup_of {K : PySem.W.Frag} {H : Hp} {a : Addr} {od : Option Addr} {its : Array Value} {n : Nat} {sl : Array (Option Value)} {xs : List V} (l : K.lookup a = some ⟨.type "tuple", od, .seq its n, sl⟩) (v : valsB xs its.toList = true) (h : xs.length ≤ 1000 := by decide) : SqT K H a xs := by
  have r := valsB_ok v
  refine .inr ⟨_, its, n, l, rfl, rfl, ?_, r⟩
  have e : its.size = xs.length := by rw [r.length]; simp
  rw [e, sizeLine_eq]
  omega
/-- a def with defaults -/
theorem fun_ofD {K : PySem.W.Frag} {x qual : Str} {pa : Arguments} {bd : List Stmt} {sc : Scope} {f t : Addr} {oc : Value} {od an odt : Option Addr} {osl slt : Array (Option Value)} {kV doc pm cdv ct : Value} {its : Array Value} {n : Nat} {dvs : List V}
    (l : K.lookup f = some ⟨oc, od, .func (PySem.W.fnOf x qual pa bd sc (.ref t) kV doc pm an cdv ct), osl⟩) (c : PySem.W.codeIn K cdv qual = true) (k : PySem.W.keepIn K (.ref f) = true)
    (lt : K.lookup t = some ⟨.type "tuple", odt, .seq its n, slt⟩) (v : valsB dvs its.toList = true) (hd : dvs ≠ [] := by intro z; cases z) :
    FunD K x qual pa bd sc dvs [] f (PySem.W.fnOf x qual pa bd sc (.ref t) kV doc pm an cdv ct) := ⟨⟨oc, od, _, kV, doc, pm, an, cdv, ct, osl, rfl, l, c, .inr ⟨hd, t, _, its.toList, n, rfl, lt, by simp, valsB_ok v⟩, .inl rfl⟩, k⟩
section
variable {X : Cx} {CX : CXT} {k : Nat} {f : Addr} {fd : FuncData} {ps : List Str} {sp : Sp} {E : L2.St → XK} {x : Str} {p pos : Pos} {e : Expr} {es : List Expr} {t : TA} {dvs : List V}
def tCallD (sp : Sp) (dvs : List V) (E : L2.St → XK) (t : TA) : TE := fun σ H Q => t σ H fun vs H1 => sp (vs ++ dvs) H1 Q (E σ)
/-- f(e, ..), the defaults dvs fill up -/
theorem pe_callSD (F : FnOk X.prog X.w X.K X.mg X.base CX k f fd ps sp) (hr : Room k X.A) (hg : Gl X x) (hm : X.mg x = some (.ref f)) (hk : PySem.W.keepIn X.K (.ref f) = true) (hb : ∃ ds, Vals dvs ds ∧ Binds X.K fd ps ds) (hx : ∀ σ, PassesAt CX X σ (E σ))
    (ha : PA X (e :: es) t) (hdb : (x == ("__debug__" : Str)) = false := by decide) (he : starEach (e :: es) X.env = (false, eval e X.env) :: starEach es X.env := by rfl) (hpl : (backTo pos (starEach es X.env)).any (·.1) = false := by rfl) :
    PE X (.Call (.Name x p) (e :: es) [] pos) (tCallD sp dvs E t) := by
  obtain ⟨ds, hd, hb⟩ := hb
  refine ⟨fun pins s σ H Q I h => ?_⟩
  refine wpAny_Call_Name_kw (ld_glob I hg hm ?_ hdb)
  refine PySem.W.callWith_K (h₀ := X.base) I.ok.mod.kin hk (thn (ha.run pos pins s σ H _ I h) fun us s1 hh => ?_) he hpl
  obtain ⟨vs, H1, I1, r, q⟩ := hh
  have r2 : Vals (vs ++ dvs) (us ++ ds) := r.append hd
  refine ⟨I1.kIn, ?_⟩
  show wpAny _ _ (call (.ref f) us) _ _ _
  refine wpAny_call (codeAny_mono (F.run X.A X.stack s1 H1 ⟨us, []⟩ (us ++ ds) (vs ++ dvs) Q (E σ) hr I1.env0 (hb s1 us I1.kIn (r2.length.symm.trans (F.len _ _ _ _ q))) r2 q) fun rr s' hq => ?_)
  cases rr with
  | error e => exact hx σ pins H1 s1 e s' I1 hq
  | ok fl =>
    cases fl with
    | ret u => exact I1.after hq
    | next => exact False.elim hq
    | brk => exact False.elim hq
    | cont => exact False.elim hq
end
/-- one that stays behind a wall: nothing steps into it -/
structure Wall (p : Prop) : Prop where
  get : True → p
theorem wall {p : Prop} (h : p) : Wall p := ⟨fun _ => h⟩
theorem Wall.in_ {p q : Prop} (h : p → q) : Wall p → q := fun k => h (k.get trivial)
/-! ### == of flat lists and tuples -/
def pd : V → PyData
  | .bl b => .bool b
  | .int i => .int i
  | .str x => .str x
  | _ => .none
def okS (x : Str) : Bool := x.cps.toList.all fun c => Nat.blt c 0x110000
theorem okS_ok {x : Str} (h : okS x = true) : PyData.strOk x = true := by
  unfold PyData.strOk
  unfold okS at h
  rw [Array.all_toList] at h
  rw [← h]
  congr 1
  funext c
  show decide (c < 1114112) = Nat.blt c 1114112
  rw [Bool.eq_iff_iff, decide_eq_true_iff, Nat.blt_eq]
def flatS : V → Bool
  | .non => true
  | .bl _ => true
  | .int _ => true
  | .str x => okS x
  | _ => false
def eqL : List V → List V → Bool
  | [], [] => true
  | x :: xs, y :: ys => eqV x y && eqL xs ys
  | _, _ => false
theorem eqL_self : ∀ {xs : List V}, xs.all flatS = true → eqL xs xs = true
  | [], _ => rfl
  | x :: xs, h => by
    have h2 := Bool.and_eq_true_iff.mp (List.all_cons .. ▸ h)
    refine Bool.and_eq_true_iff.mpr ⟨?_, eqL_self h2.2⟩
    cases x <;> first | (exact absurd (show false = true from h2.1) Bool.false_ne_true) | simp [eqV]
theorem dp_pd {K : PySem.W.Frag} {H : Hp} : ∀ {x : V}, flatS x = true → Dp K H x (pd x)
  | .non, _ => .non
  | .bl b, _ => .bl b
  | .int i, _ => .int i
  | .str x, _ => .str x
  | .byt _, h => absurd (show false = true from h) Bool.false_ne_true
  | .flt _, h => absurd (show false = true from h) Bool.false_ne_true
  | .ref _, h => absurd (show false = true from h) Bool.false_ne_true
  | .ty _, h => absurd (show false = true from h) Bool.false_ne_true
theorem dpAll_pd {K : PySem.W.Frag} {H : Hp} : ∀ {xs : List V}, xs.all flatS = true → DpAll K H xs (xs.map pd)
  | [], _ => .nil
  | x :: xs, h => by
    have h2 := Bool.and_eq_true_iff.mp (List.all_cons .. ▸ h)
    exact .cons (dp_pd h2.1) (dpAll_pd h2.2)
theorem lay_pd : ∀ {x : V}, flatS x = true → (pd x).canLay0 = true ∧ (pd x).depth = 0 := fun {x} h => by
  cases x <;> first | (exact absurd (show false = true from h) Bool.false_ne_true) | (refine ⟨?_, ?_⟩ <;> simp only [pd, PyData.canLay0, PyData.depth]) 
  all_goals exact okS_ok h
theorem layAll_pd : ∀ {xs : List V}, xs.all flatS = true → PyData.canLayAll0 (xs.map pd) = true ∧ PyData.depthAll (xs.map pd) = 0
  | [], _ => ⟨by simp only [List.map, PyData.canLayAll0], by simp only [List.map, PyData.depthAll]⟩
  | x :: xs, h => by
    have h2 := Bool.and_eq_true_iff.mp (List.all_cons .. ▸ h)
    have a := lay_pd h2.1
    have b := layAll_pd h2.2
    simp only [List.map, PyData.canLayAll0, PyData.depthAll, a.1, a.2, b.1, b.2]
    decide
theorem shaped_pd {xs : List V} (h : xs.all flatS = true) : SeqAt.shaped (.tuple (xs.map pd)) = true ∧ SeqAt.shaped (.list (xs.map pd)) = true := by
  have a := layAll_pd h
  unfold SeqAt.shaped
  simp only [PyData.canLay0, PyData.depth, a.1, a.2]
  decide
theorem eqv_pd : ∀ {x y : V}, flatS x = true → flatS y = true → PyData.eqv (pd x) (pd y) = eqV x y := fun {x y} hx hy => by
  cases x <;> first | (exact absurd (show false = true from hx) Bool.false_ne_true) | skip
  all_goals cases y <;> first | (exact absurd (show false = true from hy) Bool.false_ne_true) | (simp only [pd, PyData.eqv, eqV])
theorem eqvAll_pd : ∀ {xs ys : List V}, xs.all flatS = true → ys.all flatS = true → PyData.eqvAll (xs.map pd) (ys.map pd) = eqL xs ys
  | [], [], _, _ => by simp only [List.map, PyData.eqvAll, eqL]
  | [], _ :: _, _, _ => by simp only [List.map, PyData.eqvAll, eqL]
  | _ :: _, [], _, _ => by simp only [List.map, PyData.eqvAll, eqL]
  | x :: xs, y :: ys, h, k => by
    have h2 := Bool.and_eq_true_iff.mp (List.all_cons .. ▸ h)
    have k2 := Bool.and_eq_true_iff.mp (List.all_cons .. ▸ k)
    simp only [List.map, PyData.eqvAll, eqL, eqv_pd h2.1 k2.1, eqvAll_pd h2.2 k2.2]
section
variable {K : PySem.W.Frag} {H : Hp} {a b : Addr} {xs ys : List V} {Q : VK}
theorem eqD_T (h1 : SqT K H a xs) (h2 : SqT K H b ys) (f1 : xs.all flatS = true) (f2 : ys.all flatS = true) (q : Q (.bl (eqL xs ys)) H) : rEqD K (.ref a) (.ref b) H Q := by
  refine ⟨_, _, .tup h1 (dpAll_pd f1), .tup h2 (dpAll_pd f2), (shaped_pd f1).1, (shaped_pd f2).1, ?_⟩
  simp only [PyData.eqv, eqvAll_pd f1 f2]
  exact q
theorem neD_T (h1 : SqT K H a xs) (h2 : SqT K H b ys) (f1 : xs.all flatS = true) (f2 : ys.all flatS = true) (q : Q (.bl (!eqL xs ys)) H) : rNeD K (.ref a) (.ref b) H Q := by
  refine ⟨_, _, .tup h1 (dpAll_pd f1), .tup h2 (dpAll_pd f2), (shaped_pd f1).1, (shaped_pd f2).1, ?_⟩
  simp only [PyData.eqv, eqvAll_pd f1 f2]
  exact q
theorem eqD_L (h1 : SqL K H a xs) (h2 : SqL K H b ys) (f1 : xs.all flatS = true) (f2 : ys.all flatS = true) (q : Q (.bl (eqL xs ys)) H) : rEqD K (.ref a) (.ref b) H Q := by
  refine ⟨_, _, .lst h1 (dpAll_pd f1), .lst h2 (dpAll_pd f2), (shaped_pd f1).2, (shaped_pd f2).2, ?_⟩
  simp only [PyData.eqv, eqvAll_pd f1 f2]
  exact q
theorem neD_L (h1 : SqL K H a xs) (h2 : SqL K H b ys) (f1 : xs.all flatS = true) (f2 : ys.all flatS = true) (q : Q (.bl (!eqL xs ys)) H) : rNeD K (.ref a) (.ref b) H Q := by
  refine ⟨_, _, .lst h1 (dpAll_pd f1), .lst h2 (dpAll_pd f2), (shaped_pd f1).2, (shaped_pd f2).2, ?_⟩
  simp only [PyData.eqv, eqvAll_pd f1 f2]
  exact q
/-- the same items: equal -/
theorem eqD_TT (h1 : SqT K H a xs) (h2 : SqT K H b ys) (e : xs = ys) (f : xs.all flatS = true) (q : Q (.bl true) H) : rEqD K (.ref a) (.ref b) H Q := by
  subst e
  exact eqD_T h1 h2 f f ((eqL_self f).symm ▸ q)
theorem neD_TT (h1 : SqT K H a xs) (h2 : SqT K H b ys) (e : xs = ys) (f : xs.all flatS = true) (q : Q (.bl false) H) : rNeD K (.ref a) (.ref b) H Q := by
  subst e
  exact neD_T h1 h2 f f (by rw [eqL_self f]; exact q)
theorem eqD_LL (h1 : SqL K H a xs) (h2 : SqL K H b ys) (e : xs = ys) (f : xs.all flatS = true) (q : Q (.bl true) H) : rEqD K (.ref a) (.ref b) H Q := by
  subst e
  exact eqD_L h1 h2 f f ((eqL_self f).symm ▸ q)
theorem neD_LL (h1 : SqL K H a xs) (h2 : SqL K H b ys) (e : xs = ys) (f : xs.all flatS = true) (q : Q (.bl false) H) : rNeD K (.ref a) (.ref b) H Q := by
  subst e
  exact neD_L h1 h2 f f (by rw [eqL_self f]; exact q)
end
/-! ### isinstance -/
theorem tyx_t {K : PySem.W.Frag} {H : Hp} {a : Addr} {xs : List V} (h : SqT K H a xs) : TyX K H (.ref a) (.type "tuple") := by
  rcases h with (h | ⟨o, h⟩) | ⟨o, its, n, h1, h2, _⟩
  · exact .base (.tup h)
  · exact .fTuple h
  · exact .kTuple h1 h2
theorem tyx_l {K : PySem.W.Frag} {H : Hp} {a : Addr} {xs : List V} (h : SqL K H a xs) : TyX K H (.ref a) (.type "list") := by
  rcases h with (h | ⟨o, h⟩) | ⟨o, its, n, h1, h2, _⟩
  · exact .base (.lst h)
  · exact .base (.frz h)
  · exact .kList h1 h2
@[irreducible] def rIs (K : PySem.W.Frag) : List V → Hp → VK → Prop := fun xs H Q => rIsi K xs H Q
theorem call_is {X : Cx} : CallR X (.builtin "isinstance") (rIs X.K) := fun pins s σ H xs us Q I r h => call_isi pins s σ H xs us Q I r (by unfold rIs at h; exact h)
theorem isi_go {K : PySem.W.Frag} {H : Hp} {x : V} {a b : String} {r : Bool} {Q : VK} (h : TyX K H x (.type a)) (k : kitB a b = some r) (q : Q (.bl r) H) : rIs K [x, .ty b] H Q := by
  unfold rIs
  exact ⟨_, _, _, _, r, rfl, .ty _, h, kit_ty k, q⟩
theorem not_pos {b : Bool} (h : b = false) : (!b) = true := by rw [h]; rfl
def any1 : List V → Prop := fun _ => True
/-! ### len -/
@[irreducible] def rLn (K : PySem.W.Frag) : List V → Hp → VK → Prop := fun xs H Q => ∃ p ys, xs = [.ref p] ∧ (SqL K H p ys ∨ SqT K H p ys) ∧ Q (.int ys.length) H
theorem call_ln {X : Cx} : CallR X (.builtin "len") (rLn X.K) := fun pins s σ H xs us Q I r h => call_len_seq pins s σ H xs us Q I r (by unfold rLn at h; exact h)
section
variable {K : PySem.W.Frag} {H : Hp} {p : Addr} {ys : List V} {Q : VK}
theorem ln_t (h : SqT K H p ys) (q : Q (.int ys.length) H) : rLn K [.ref p] H Q := by
  unfold rLn
  exact ⟨_, _, rfl, .inr h, q⟩
theorem ln_l (h : SqL K H p ys) (q : Q (.int ys.length) H) : rLn K [.ref p] H Q := by
  unfold rLn
  exact ⟨_, _, rfl, .inl h, q⟩
end
theorem same_set {H H' : Hp} {p : Addr} {o : HO} (s : Same H H') (h : H p = none) : Same H (upd H' p o) := fun b u e => by
  have hb : b ≠ p := fun z => by
    rw [z, h] at e
    cases e
  rw [upd_ne hb]
  exact s b u e
theorem map_len {α : Type} {f : α → V} {xs : List α} : (((xs.map f).length : Nat) : Int) = ((xs.length : Nat) : Int) := by rw [List.length_map]
theorem range_snoc {f : Nat → Int} {i : Nat} {y : Int} (e : f i = y) : ((List.range i).map f).map V.int ++ [V.int y] = ((List.range (i + 1)).map f).map V.int := by
  subst e
  rw [List.range_succ, List.map_append, List.map_append]
  rfl
theorem atI_map {ns : List Int} {j : Nat} (h : j < ns.length) : atI (ns.map V.int) (0 + ((j : Nat) : Int)) = some (V.int (ns.getD j 0)) := by
  rw [Int.zero_add]
  exact atI_map_cell h
/-! ### methods of lists -/
@[irreducible] def rApp : V → List V → Hp → VK → Prop := fun x vs H Q => rAppend x vs H Q
theorem mt_app {X : Cx} : MtM X "list.append" rApp := fun pins s σ H x vs v us Q I rx rv h => mt_append pins s σ H x vs v us Q I rx rv (by unfold rApp at h; exact h)
theorem app_go {H : Hp} {l : Addr} {xs : List V} {y : V} {Q : VK} (e : H l = some (.lst xs)) (hl : xs.length < sizeLine) (q : Q .non (upd H l (.lst (xs ++ [y])))) : rApp (.ref l) [y] H Q := by
  unfold rApp
  exact ⟨l, xs, y, rfl, rfl, e, hl, q⟩
theorem ty_l {K : PySem.W.Frag} {H : Hp} {p : Addr} {xs : List V} (h : SqL K H p xs) : tyV K "list" (.ref p) H := .inl ⟨rfl, _, h⟩
theorem ty_s {K : PySem.W.Frag} {H : Hp} {z : Str} : tyV K "str" (.str z) H := rfl
theorem ty_d {K : PySem.W.Frag} {H : Hp} {p : Addr} {kvs : List (Key × V)} (h : H p = some (.dK kvs)) : tyV K "dict" (.ref p) H := .inr (.inr (.inl ⟨rfl, .inl ⟨_, h⟩⟩))
/-! ### a call that writes all parameters, the last ones by name -/
section
variable {K : PySem.W.Frag} {x qual : Str} {params : Arguments} {body : List Stmt} {scope : Scope} {dvs : List V} {kws : List (Str × V)} {f : Addr} {fd : FuncData} {ps : List Str}
theorem kb_all (F : FunD K x qual params body scope dvs kws f fd) (n : Nat) (ks : List Str) (hd : dvs ≠ [])
    (h : ∀ (T : Addr) (kV doc pm : Value) (an : Option Addr) (cdv ct : Value) (us its ws : List Value), us.length = n → its.length = dvs.length → ws.length = ks.length →
      ∃ k, bindArgs (PySem.W.fnOf x qual params body scope (.ref T) kV doc pm an cdv ct) ⟨us, ks.zip ws⟩ = seqItems? (.ref T) >>= k ∧ k (some its.toArray) = pure (ps.zip (us ++ ws))) :
    KBn K fd ps n ks (fun us ws => us ++ ws) (fun vs zs => vs ++ zs) := by
  obtain ⟨oc, od, dV, kV, doc, pm, an, cdv, ct, osl, rfl, lk, hcd, hD, hK⟩ := F.ex
  rcases hD with ⟨e, _⟩ | ⟨_, t, o, its, m, rfl, lT, oT, rT⟩
  · exact absurd e hd
  · refine ⟨fun s us ws X l1 l2 => ?_, fun r1 r2 => r1.append r2⟩
    obtain ⟨k, e1, e2⟩ := h t kV doc pm an cdv ct us its ws l1 rT.length.symm l2
    refine BindsTo.of_looks fun M => ?_
    rw [e1]
    exact looks_items X lT oT (.of_pure e2)
end
/-! ### a, b, c = pair -/
theorem gTup_go {K : PySem.W.Frag} {n : Nat} {t : TGs} {a : Addr} {xs : List V} {σ : L2.St} {H : Hp} {Q : L2.St → Hp → Prop} (h : SqT K H a xs) (l : xs.length = n) (q : t xs σ H Q) : gTup K n t (.ref a) σ H Q := ⟨a, xs, rfl, h, l, q⟩
theorem gCons_go {t : TG} {u : TGs} {v : V} {r : List V} {σ : L2.St} {H : Hp} {Q : L2.St → Hp → Prop} (q : t v σ H fun σ' H' => u r σ' H' Q) : gCons t u (v :: r) σ H Q := ⟨v, r, rfl, q⟩
theorem gNil_go {σ : L2.St} {H : Hp} {Q : L2.St → Hp → Prop} (q : Q σ H) : gNil [] σ H Q := ⟨rfl, q⟩
/-! ### min and max of two -/
@[irreducible] def rMn : List V → Hp → VK → Prop := fun xs H Q => ∃ i j, xs = [.int i, .int j] ∧ Q (.int (if j < i then j else i)) H
@[irreducible] def rMx : List V → Hp → VK → Prop := fun xs H Q => ∃ i j, xs = [.int i, .int j] ∧ Q (.int (if i < j then j else i)) H
theorem call_mn {X : Cx} (hc : X.calm = true) : CallR X (.builtin "min") rMn := fun pins s σ H xs us Q I r h => call_min2 hc pins s σ H xs us Q I r (by unfold rMn at h; exact h)
theorem call_mx {X : Cx} (hc : X.calm = true) : CallR X (.builtin "max") rMx := fun pins s σ H xs us Q I r h => call_max2 hc pins s σ H xs us Q I r (by unfold rMx at h; exact h)
theorem mn_go {i j : Int} {H : Hp} {Q : VK} (q : Q (.int (if j < i then j else i)) H) : rMn [.int i, .int j] H Q := by
  unfold rMn
  exact ⟨i, j, rfl, q⟩
theorem mx_go {i j : Int} {H : Hp} {Q : VK} (q : Q (.int (if i < j then j else i)) H) : rMx [.int i, .int j] H Q := by
  unfold rMx
  exact ⟨i, j, rfl, q⟩
theorem atI_ex (xs : List Int) {i : Int} (h0 : 0 ≤ i) (h1 : i < (xs.length : Nat)) : ∃ z, z ∈ xs ∧ atI (xs.map V.int) i = some (V.int z) := by
  obtain ⟨n, rfl⟩ : ∃ n : Nat, i = n := ⟨i.toNat, by omega⟩
  have hn : n < xs.length := by omega
  refine ⟨xs[n], List.getElem_mem hn, ?_⟩
  refine atI_nat ?_
  rw [List.getElem?_map, List.getElem?_eq_getElem hn]
  rfl
/-! ### x in xs, flat -/
@[irreducible] def rInS (K : PySem.W.Frag) (neg : Bool) : R2 := fun x y H Q => rIn K neg x y H Q
theorem op_inS {X : Cx} : OpR X (compareOp .In) (rInS X.K false) := fun pins s σ H x y v u Q I rx ry h => op_in_seq pins s σ H x y v u Q I rx ry (by unfold rInS at h; exact h)
theorem op_notInS {X : Cx} : OpR X (compareOp .NotIn) (rInS X.K true) := fun pins s σ H x y v u Q I rx ry h => op_notIn_seq pins s σ H x y v u Q I rx ry (by unfold rInS at h; exact h)
section
variable {K : PySem.W.Frag} {H : Hp} {p : Addr} {x : V} {xs : List V} {Q : VK}
theorem inT_go (h : SqT K H p xs) (fx : flatV x = true) (fs : xs.all flatV = true) (q : Q (.bl (inV x xs)) H) : rInS K false x (.ref p) H Q := by
  unfold rInS
  exact ⟨p, xs, rfl, .inr h, fx, fs, q⟩
theorem inL_go (h : SqL K H p xs) (fx : flatV x = true) (fs : xs.all flatV = true) (q : Q (.bl (inV x xs)) H) : rInS K false x (.ref p) H Q := by
  unfold rInS
  exact ⟨p, xs, rfl, .inl h, fx, fs, q⟩
theorem niT_go (h : SqT K H p xs) (fx : flatV x = true) (fs : xs.all flatV = true) (q : Q (.bl (!inV x xs)) H) : rInS K true x (.ref p) H Q := by
  unfold rInS
  exact ⟨p, xs, rfl, .inr h, fx, fs, q⟩
theorem niL_go (h : SqL K H p xs) (fx : flatV x = true) (fs : xs.all flatV = true) (q : Q (.bl (!inV x xs)) H) : rInS K true x (.ref p) H Q := by
  unfold rInS
  exact ⟨p, xs, rfl, .inl h, fx, fs, q⟩
end
/-! ### == of two pairs (text, tuple) -/
theorem eqD_nest {K : PySem.W.Frag} {H : Hp} {a b p q : Addr} {s : Str} {xs : List V} {Q : VK} (h1 : SqT K H a [.str s, .ref p]) (h2 : SqT K H b [.str s, .ref q]) (hp : SqT K H p xs) (hq : SqT K H q xs) (hs : okS s = true) (f : xs.all flatS = true) (k : Q (.bl true) H) : rEqD K (.ref a) (.ref b) H Q := by
  have e := layAll_pd f
  have sh : SeqAt.shaped (.tuple [.str s, .tuple (xs.map pd)]) = true := by
    unfold SeqAt.shaped
    simp only [PyData.canLay0, PyData.canLayAll0, PyData.depth, PyData.depthAll, e.1, e.2, okS_ok hs]
    decide
  refine ⟨_, _, .tup h1 (.cons (.str s) (.cons (.tup hp (dpAll_pd f)) .nil)), .tup h2 (.cons (.str s) (.cons (.tup hq (dpAll_pd f)) .nil)), sh, sh, ?_⟩
  rw [SeqAt.eqv_refl _ (SeqAt.canLay_of_shaped sh)]
  exact k
/-! ### xs[i] = v -/
@[irreducible] def rSetLi : V → V → V → Hp → (Hp → Prop) → Prop := fun o i v H Q => rSetL o i v H Q
theorem set_li {X : Cx} : PSet X rSetLi := fun pins s σ H o i v ov iv u Q I ro ri rv h => set_list pins s σ H o i v ov iv u Q I ro ri rv (by unfold rSetLi at h; exact h)
theorem setL_go {H : Hp} {p : Addr} {xs : List V} {k : Int} {j : Nat} {v : V} {Q : Hp → Prop} (h : H p = some (.lst xs)) (e : ixN xs.length k = some j) (q : Q (upd H p (.lst (xs.set j v)))) : rSetLi (.ref p) (.int k) v H Q := by
  unfold rSetLi
  exact ⟨p, xs, k, j, rfl, rfl, h, e, q⟩
/-! ### slices -/
section
variable {K : PySem.W.Frag} {H : Hp} {p : Addr} {xs : List V} {lo hi : Option Int} {Q : VK}
theorem slL_go (h : SqL K H p xs) (q : ∀ r, H r = none → Q (.ref r) (upd H r (.lst (cutV xs lo hi)))) : rSlL K (.ref p) lo hi H Q := ⟨p, xs, rfl, h, q⟩
end
/-! ### comprehensions over a list -/
theorem upd_upd {H : Hp} {a : Addr} {o o' : HO} : upd (upd H a o) a o' = upd H a o' := by
  funext b
  by_cases e : b = a
  · subst e
    rw [upd_same, upd_same]
  · rw [upd_ne e, upd_ne e, upd_ne e]
theorem hp_upd {H : Hp} {a p : Addr} {o o' : HO} (e : H p = none) (h : H a = some o) : upd H p o' a = some o := (upd_ne (ne_of_none h e)).trans h
section
variable {K : PySem.W.Frag} {a D : Addr} {g : TG} {tt : TT} {te : TE} {vs : List Nat} {σ : L2.St} {H1 : Hp} {Qd : Hp → Prop}
/-- [x for x in ns if p x] -/
theorem lc_fil {ns : List Int} (p : Int → Bool) (hD : H1 D = none) (hl : SqL K H1 a (ns.map V.int)) (hn : ns.length < sizeLine)
    (hs : ∀ z H (N : Hp → Prop) acc, H D = some (.lst acc) → acc.length < sizeLine → (p z = true → N (upd H D (.lst (acc ++ [.int z])))) → (p z = false → N H) →
      g (.int z) (wipe σ vs) H fun σ2 H2 => wipe σ2 vs = wipe σ vs ∧ tt σ2 H2 fun b H3 => if b = true then te σ2 H3 fun y H4 => ∃ acc, H4 D = some (.lst acc) ∧ acc.length < sizeLine ∧ N (upd H4 D (.lst (acc ++ [y]))) else N H3)
    (hd : Qd (upd H1 D (.lst ((ns.filter p).map V.int)))) :
    ∃ W : Nat → Nat → Hp → Prop, (∃ m, W 0 m (upd H1 D (.lst []))) ∧ ∀ i m H, W i m H →
      ((Itl K a).stop i H ∧ Qd H) ∨ ((Itl K a).go i H ∧ ∃ Nx : Hp → Prop, (∀ H', Nx H' → ∃ m', m' < m ∧ W (i + 1) m' H') ∧ ∀ x H', (Itl K a).yld i H x H' → g x (wipe σ vs) H' fun σ2 H2 => wipe σ2 vs = wipe σ vs ∧ tt σ2 H2 fun b H3 =>
        if b = true then te σ2 H3 fun y H4 => ∃ acc, H4 D = some (.lst acc) ∧ acc.length < sizeLine ∧ Nx (upd H4 D (.lst (acc ++ [y]))) else Nx H3) := by
  refine lc_list (xs := ns.map V.int) (fun i H => H = upd H1 D (.lst (((ns.take i).filter p).map V.int))) rfl (fun i H _ e => e ▸ lst_upd hD hl) ?_ ?_
  · rintro i x H hx rfl
    rw [List.getElem?_map] at hx
    cases hz : ns[i]? with
    | none => rw [hz] at hx; cases hx
    | some z =>
      rw [hz] at hx
      cases hx
      have ht : ns.take (i + 1) = ns.take i ++ [z] := by rw [List.take_add_one, hz]; rfl
      refine hs z _ _ _ upd_same ?_ (fun c => ?_) (fun c => ?_)
      · rw [List.length_map]
        refine Nat.lt_of_le_of_lt (List.length_filter_le _ _) (Nat.lt_of_le_of_lt ?_ hn)
        rw [List.length_take]
        exact Nat.min_le_right _ _
      · rw [ht, List.filter_append, List.map_append, upd_upd]
        simp [c]
      · rw [ht, List.filter_append]
        simp [c]
  · rintro H rfl
    rw [List.length_map, List.take_length]
    exact hd
/-- [f x for x in xs] -/
theorem lc_mp {xs : List V} (f : V → V) (hD : H1 D = none) (hl : SqL K H1 a xs) (hn : xs.length < sizeLine)
    (hs : ∀ (i : Nat) (x : V) (H : Hp) (N : Hp → Prop) (acc : List V), xs[i]? = some x → Same H1 H → H D = some (.lst acc) → acc.length < sizeLine → (∀ H', Same H1 H' → H' D = some (.lst (acc ++ [f x])) → N H') →
      g x (wipe σ vs) H fun σ2 H2 => wipe σ2 vs = wipe σ vs ∧ tt σ2 H2 fun b H3 => if b = true then te σ2 H3 fun y H4 => ∃ acc, H4 D = some (.lst acc) ∧ acc.length < sizeLine ∧ N (upd H4 D (.lst (acc ++ [y]))) else N H3)
    (hd : ∀ H', Same H1 H' → H' D = some (.lst (xs.map f)) → Qd H') :
    ∃ W : Nat → Nat → Hp → Prop, (∃ m, W 0 m (upd H1 D (.lst []))) ∧ ∀ i m H, W i m H →
      ((Itl K a).stop i H ∧ Qd H) ∨ ((Itl K a).go i H ∧ ∃ Nx : Hp → Prop, (∀ H', Nx H' → ∃ m', m' < m ∧ W (i + 1) m' H') ∧ ∀ x H', (Itl K a).yld i H x H' → g x (wipe σ vs) H' fun σ2 H2 => wipe σ2 vs = wipe σ vs ∧ tt σ2 H2 fun b H3 =>
        if b = true then te σ2 H3 fun y H4 => ∃ acc, H4 D = some (.lst acc) ∧ acc.length < sizeLine ∧ Nx (upd H4 D (.lst (acc ++ [y]))) else Nx H3) := by
  refine lc_list (xs := xs) (fun i H => Same H1 H ∧ H D = some (.lst ((xs.take i).map f))) ⟨same_new (Same.refl _) hD, upd_same⟩ (fun i H _ e => same_lst e.1 hl) ?_ ?_
  · rintro i x H hx ⟨s, e⟩
    have ht : xs.take (i + 1) = xs.take i ++ [x] := by rw [List.take_add_one, hx]; rfl
    refine hs i x _ _ _ hx s e ?_ fun H' s' e' => ?_
    · rw [List.length_map, List.length_take]
      exact Nat.lt_of_le_of_lt (Nat.min_le_right _ _) hn
    · refine ⟨s', ?_⟩
      rw [ht, List.map_append]
      exact e'
  · rintro H ⟨s, e⟩
    rw [List.take_length] at e
    exact hd H s e
end
/-! ### comprehensions over a range -/
section
variable {D : Addr} {g : TG} {tt : TT} {te : TE} {vs : List Nat} {σ : L2.St} {H1 : Hp} {Qd : Hp → Prop}
theorem lc_rgm {n : Nat} (f : Nat → V) (hD : H1 D = none) (hn : n < sizeLine)
    (hs : ∀ (i : Nat) (H : Hp) (N : Hp → Prop) (acc : List V), i < n → Same H1 H → H D = some (.lst acc) → acc.length < sizeLine → (∀ H', Same H1 H' → H' D = some (.lst (acc ++ [f i])) → N H') →
      g (.int (0 + (i : Nat))) (wipe σ vs) H fun σ2 H2 => wipe σ2 vs = wipe σ vs ∧ tt σ2 H2 fun b H3 => if b = true then te σ2 H3 fun y H4 => ∃ acc, H4 D = some (.lst acc) ∧ acc.length < sizeLine ∧ N (upd H4 D (.lst (acc ++ [y]))) else N H3)
    (hd : ∀ H', Same H1 H' → H' D = some (.lst ((List.range n).map f)) → Qd H') :
    ∃ W : Nat → Nat → Hp → Prop, (∃ m, W 0 m (upd H1 D (.lst []))) ∧ ∀ i m H, W i m H →
      ((Itr 0 n).stop i H ∧ Qd H) ∨ ((Itr 0 n).go i H ∧ ∃ Nx : Hp → Prop, (∀ H', Nx H' → ∃ m', m' < m ∧ W (i + 1) m' H') ∧ ∀ x H', (Itr 0 n).yld i H x H' → g x (wipe σ vs) H' fun σ2 H2 => wipe σ2 vs = wipe σ vs ∧ tt σ2 H2 fun b H3 =>
        if b = true then te σ2 H3 fun y H4 => ∃ acc, H4 D = some (.lst acc) ∧ acc.length < sizeLine ∧ Nx (upd H4 D (.lst (acc ++ [y]))) else Nx H3) := by
  refine lc_range (fun i H => Same H1 H ∧ H D = some (.lst ((List.range i).map f))) ⟨same_new (Same.refl _) hD, upd_same⟩ ?_ fun H e => hd H e.1 e.2
  rintro i H hi ⟨s, e⟩
  refine hs i H _ _ hi s e ?_ fun H' s' e' => ⟨s', ?_⟩
  · rw [List.length_map, List.length_range]
    exact Nat.lt_trans hi hn
  · rw [List.range_succ, List.map_append]
    exact e'
end
theorem range_rep {n : Nat} {v : Int} : (List.range n).map (fun _ => V.int v) = (List.replicate n v).map V.int := by
  rw [List.map_const', List.length_range, List.map_replicate]
/-! ### max of a list -/
@[irreducible] def rMxl (K : PySem.W.Frag) : List V → Hp → VK → Prop := fun vs H Q => rMax K vs H Q
theorem call_mxl {X : Cx} (hc : X.calm = true) : CallR X (.builtin "max") (rMxl X.K) := fun pins s σ H xs us Q I r h => cr_max hc pins s σ H xs us Q I r (by unfold rMxl at h; exact h)
theorem mxl_go {K : PySem.W.Frag} {H : Hp} {p : Addr} {ns : List Int} {Q : VK} (h : SqL K H p (ns.map V.int)) (h0 : 0 < ns.length) (q : ∀ m, m ∈ ns → (∀ y, y ∈ ns → y ≤ m) → Q (.int m) H) : rMxl K [.ref p] H Q := by
  unfold rMxl
  exact ⟨p, ns, rfl, h, h0, q⟩
/-! ### x is True -/
@[irreducible] def rIsB : R2 := fun x y H Q => ∃ b c, x = .bl b ∧ y = .bl c ∧ Q (.bl (b == c)) H
@[irreducible] def rNotB : R2 := fun x y H Q => ∃ b c, x = .bl b ∧ y = .bl c ∧ Q (.bl (!(b == c))) H
section
variable {X : Cx} {b c : Bool} {H : Hp} {Q : VK}
theorem op_isB : OpR X (compareOp .Is) rIsB := fun pins s σ H x y v u Q I rx ry h => by
  unfold rIsB at h
  obtain ⟨b, c, rfl, rfl, q⟩ := h
  cases (show v = Value.bool b from rx)
  cases (show u = Value.bool c from ry)
  refine PySem.wpAny_is_plain rfl ⟨.bl (b == c), H, I, ?_, q⟩
  cases b <;> cases c <;> rfl
theorem op_notB : OpR X (compareOp .IsNot) rNotB := fun pins s σ H x y v u Q I rx ry h => by
  unfold rNotB at h
  obtain ⟨b, c, rfl, rfl, q⟩ := h
  cases (show v = Value.bool b from rx)
  cases (show u = Value.bool c from ry)
  refine PySem.wpAny_isNot_plain rfl ⟨.bl (!(b == c)), H, I, ?_, q⟩
  cases b <;> cases c <;> rfl
theorem isB_go (q : Q (.bl (b == c)) H) : rIsB (.bl b) (.bl c) H Q := by
  unfold rIsB
  exact ⟨b, c, rfl, rfl, q⟩
theorem notB_go (q : Q (.bl (!(b == c))) H) : rNotB (.bl b) (.bl c) H Q := by
  unfold rNotB
  exact ⟨b, c, rfl, rfl, q⟩
end
theorem tC_go {v : V} {σ : L2.St} {H : Hp} {Q : VK} (q : Q v H) : tC v σ H Q := q
theorem tNoPart_go {σ : L2.St} {H : Hp} {Q : Option Int → Hp → Prop} (q : Q none H) : tNoPart σ H Q := q
/-! ### list(xs) -/
@[irreducible] def rLo (K : PySem.W.Frag) : List V → Hp → VK → Prop := fun vs H Q => ∃ p xs, vs = [.ref p] ∧ (SqL K H p xs ∨ SqT K H p xs) ∧ ∀ l, H l = none → Q (.ref l) (upd H l (.lst xs))
theorem call_lo {X : Cx} : CallR X (.type "list") (rLo X.K) := fun pins s σ H xs us Q I r h => call_list_of pins s σ H xs us Q I r (by unfold rLo at h; exact h)
section
variable {K : PySem.W.Frag} {H : Hp} {p : Addr} {xs : List V} {Q : VK}
theorem lo_l (h : SqL K H p xs) (q : ∀ l, H l = none → Q (.ref l) (upd H l (.lst xs))) : rLo K [.ref p] H Q := by
  unfold rLo
  exact ⟨p, xs, rfl, .inl h, q⟩
theorem lo_t (h : SqT K H p xs) (q : ∀ l, H l = none → Q (.ref l) (upd H l (.lst xs))) : rLo K [.ref p] H Q := by
  unfold rLo
  exact ⟨p, xs, rfl, .inr h, q⟩
end
theorem flatI {fl : List Int} : (fl.map V.int).all flatS = true := by
  rw [List.all_map]
  exact List.all_eq_true.mpr fun _ _ => rfl
/-! ### xs + ys -/
@[irreducible] def rCt : R2 := fun x y H Q => rCat x y H Q
theorem op_ct {X : Cx} : OpR X (binaryOp .Add) rCt := fun pins s σ H x y v u Q I rx ry h => op_cat pins s σ H x y v u Q I rx ry (by unfold rCt at h; exact h)
theorem ct_go {H : Hp} {a b : Addr} {xs ys : List V} {Q : VK} (h1 : H a = some (.lst xs)) (h2 : H b = some (.lst ys)) (hl : xs.length + ys.length ≤ sizeLine) (q : ∀ r, H r = none → Q (.ref r) (upd H r (.lst (xs ++ ys)))) : rCt (.ref a) (.ref b) H Q := by
  unfold rCt
  exact ⟨a, b, xs, ys, rfl, rfl, h1, h2, hl, q⟩
/-! ### f() -/
section
variable {X : Cx} {CX : CXT} {k : Nat} {f : Addr} {fd : FuncData} {sp : Sp} {E : L2.St → XK} {x : Str} {p pos : Pos}
def tCall0 (sp : Sp) (E : L2.St → XK) : TE := fun σ H Q => sp [] H Q (E σ)
theorem pe_callS0 (F : FnOk X.prog X.w X.K X.mg X.base CX k f fd [] sp) (hr : Room k X.A) (hg : Gl X x) (hm : X.mg x = some (.ref f)) (hk : PySem.W.keepIn X.K (.ref f) = true) (hb : Binds X.K fd [] []) (hx : ∀ σ, PassesAt CX X σ (E σ))
    (hdb : (x == ("__debug__" : Str)) = false := by decide) : PE X (.Call (.Name x p) [] [] pos) (tCall0 sp E) := by
  refine ⟨fun pins s σ H Q I h => ?_⟩
  refine wpAny_Call_Name_kw (ld_glob I hg hm ?_ hdb)
  exact PySem.W.callWith_K0 I.kIn hk (run_fnS (us := []) F hr hb (hx σ) I .nil h)
end
end LB

set_option Elab.async false
set_option linter.all false
set_option maxRecDepth 100000
set_option maxHeartbeats 4000000
/-! an own exception whose __init__ begins with super().__init__(..), over ValueError through own classes -/
namespace LB
open PySem PySem.Spec PyProof.Rows L2 NdefX
/-- what the written part says of such a class: at C, its __init__ at fI, that one's code at cda, the cell of __class__ at cc -/
structure SupC (P : Program) (K : PySem.W.Frag) (mg : Str → Option Value) (C fI cc cda : Addr) : Prop where
  ox : OexC K C
  iC : PySem.W.findIn K (.ref C) "__init__" = some (some (.ref fI))
  tI : PySem.W.typeIn K (.ref fI) = some (.type "function")
  cell : ∃ cl cld csl, K.lookup cc = some ⟨cl, cld, .cell (some (.ref C)), csl⟩
  code : ∃ ccl cdd vs ccs file tf, K.lookup cda = some ⟨ccl, cdd, .fields vs, ccs⟩ ∧ vs[2]? = some (.str file tf) ∧ ((P.main.file : Str) == file) = true
  top : (P.main.scope.names.lookup ("super" : Str)).isSome = false
  zs : mg "super" = none
  self : PySem.W.mroIn K C (.ref C) = some true
  third : PySem.W.nsIn K cStatics "thirdparty.any" = some none
  sup : PySem.W.ks_superIn K C C "__init__" = some (some (.builtin "ValueError.__init__"))
  ve : PySem.W.subIn K (.ref C) (.type "ValueError") = some true
section
variable {CX : CXT} {P : Program} {w : World} {K : PySem.W.Frag} {mg : Str → Option Value} {base : Heap} {C fI cc cda : Addr}
/-- the wrapper's call: the exception's args are laid anew -/
theorem sup_call {X : Cx} {pins : List (Addr × Obj)} {σ : L2.St} {H : Hp} {s : Shared} {a u : Addr} {us : List Value} {A : Around} {E : Value → Shared → Prop} {Q : Value → Shared → Prop} (T : OexC X.K C) (I : Inv X pins σ H s) (e : H a = some (exo a C none))
    (hu : s.heap.get? u = some (PySem.W.kxs_mw "ValueError.__init__" a)) (hl : us.length ≤ sizeLine) (h : ∀ s', Inv X pins σ H s' → Q .none s') : wpAny (model X.prog X.w) A (call (.ref u) us) Q E s := by
  obtain ⟨nm, q, N, bs, bm, sn, sub, ab, col, dd, k0, k1, k2, k3, k5, hC, hbm⟩ := T.cls
  obtain ⟨t1, ho⟩ := exo_at I.hok e
  have hCh := I.kIn _ _ hC
  obtain ⟨hp, g, d, t, os⟩ := s
  refine wpAny_call (codeAny_of_tree ?_)
  show wpAny _ A.in1 (callAny (.ref u) ⟨us, []⟩) _ _ _
  simp only [callAny]
  refine wpAny_bind (wpAny_load hu ?_)
  simp only [PySem.W.kxs_mw, show (Value.type "method-wrapper" == Value.type "method" || Value.type "method-wrapper" == Value.type "builtin_function_or_method" || Value.type "method-wrapper" == Value.type "method-wrapper") = true by decide, if_true]
  refine PySem.W.KFB.if_so (by decide) ?_
  refine wpAny_bind (PySem.W.check_bound_init F.excBase_ValueError.toExcCallFacts hCh ho rfl ?_)
  refine wpAny_bind (wpAny_pure (wpAny_pure ?_))
  refine ⟨plainId_quiet F.excBase_ValueError.init.plain _, codeAny_builtin F.excBase_ValueError.initEntry ?_⟩
  refine PySem.W.exc_init_tree (cls := .ref C) (t0 := t1) (dv := none) (c2 := .none) (c3 := .none) (b4 := .bool false) ho hl fun h' k hx _ => ?_
  have J := I.write (t' := t) (x := a) (e := a) (o := exo a C none) (by rw [e]; exact True.intro) (.inl rfl) k ⟨_, hx⟩ (exo_ok hx)
  have eu : upd H a (exo a C none) = H := by
    funext b
    by_cases hb : b = a
    · rw [hb, upd_same, e]
    · rw [upd_ne hb]
  rw [eu] at J
  exact h _ J
end
/-- the first statement -/
abbrev supS (p1 p2 p3 p4 p5 : Pos) (e : Expr) (es : List Expr) : Stmt := .Expr (.Call (.Attribute (.Call (.Name "super" p1) [] [] p2) "__init__" p3) (e :: es) [] p4) p5
theorem looks_mro {M : Model} {K : PySem.W.Frag} {h : Heap} {C : Addr} {cd : ClassData} (X : K.In h) (hc : PySem.W.clsIn K C = some cd) : PySem.W.Looks M h (mroOf (.ref C)) cd.mro := fun A Q E s k q => wpAny_bind ((PySem.W.looks_clsIn X hc) A _ E s k (wpAny_pure q))
section
variable {CX : CXT} {P : Program} {w : World} {K : PySem.W.Frag} {mg : Str → Option Value} {base : Heap} {C fI cc cda : Addr} {N ps : List Str} {k : Nat} {sp : Sp} {name qual : Str} {params : Arguments} {rest : List Stmt} {scope : Scope} {p1 p2 p3 p4 p5 : Pos} {e : Expr} {es : List Expr}
theorem sup_ok {F : NF} {oc doc pm ct : Value} {od : Option Addr} {osl : Array (Option Value)} (T : SupC P K mg C fI cc cda) (hB : F.body = supS p1 p2 p3 p4 p5 e es :: rest) (hcl : F.cl = [(("__class__" : Str), cc)]) (hca : F.c = cda)
    (lk : K.lookup fI = some ⟨oc, od, .func (F.fd doc pm ct), osl⟩) (hcd : PySem.W.codeIn K (.ref cda) F.qual = true)
    (S : NScope N (("self" : Str) :: ps) ["__class__"] F.scope) (hps : (F.params.posonlyargs ++ F.params.args).head?.map (·.arg) = some ("self" : Str)) (hks : F.scope.names.lookup ("super" : Str) = some .globalImplicit)
    (hb : ∀ us : List Value, us.length = (("self" : Str) :: ps).length → bindArgs (F.fd doc pm ct) ⟨us, []⟩ = pure ((("self" : Str) :: ps).zip us))
    (he : ∀ L, starEach (e :: es) (envF F fI L) = (false, eval e (envF F fI L)) :: starEach es (envF F fI L))
    (hpl : ∀ L, (backTo p4 (starEach es (envF F fI L))).any (·.1) = false)
    (hsw : ∀ L, swapsWith (.Call (.Attribute (.Call (.Name "super" p1) [] [] p2) "__init__" p3) (e :: es) [] p4) none p5.line (envF F fI L) = pure false)
    (hev : ∀ L, ∃ pl, eval (.Call (.Attribute (.Call (.Name "super" p1) [] [] p2) "__init__" p3) (e :: es) [] p4) (envF F fI L) = (do
      let ov ← attributeBase (.Call (.Name "super" p1) [] [] p2) "__init__" (envF F fI L) (eval (.Call (.Name "super" p1) [] [] p2) (envF F fI L))
      standAt p3.atName
      let (f, first) ← holding [ov] (getMethod ov "__init__" pl)
      callWith p4 f first (backTo p4 (starEach (e :: es) (envF F fI L))) []))
    (len : ∀ vs H Q E, sp vs H Q E → vs.length = (("self" : Str) :: ps).length)
    (hbody : ∀ (A : Around) (outer : List Env) (s : Shared) (H : Hp) (vs : List V) (Q : VK) (E : XK), sp vs H Q E →
      ∃ (a : Addr) (xs : List V) (ta : TA) (t : TS), vs = .ref a :: xs ∧ H a = some (exo a C none) ∧ PA (ncx CX P w K mg base N F fI A outer s H E) (e :: es) ta ∧
        PSs (ncx CX P w K mg base N F fI A outer s H E) rest t ∧
        ta (startF N vs [some (.ref C)]) H fun us H1 => us.length ≤ 1000 ∧ H1 a = some (exo a C none) ∧ t { nx := fun _ H' => Q .non H', rt := Q } (startF N vs [some (.ref C)]) H1) :
    FnOk P w K mg base CX (k + 1) fI (F.fd doc pm ct) (("self" : Str) :: ps) sp := by
  obtain ⟨fn_, fq, fp, fb, fs, fcl, fc⟩ := F
  dsimp only at hB hcl hca hcd S hps hks
  subst hB hcl hca
  refine ⟨len, fun A outer s H args us vs Q E hr e0 hbi r hsp => ?_⟩
  have hl := len _ _ _ _ hsp
  have lim : s.heap.NoLimit := e0.mod.nolimit.keeps fun b o e => (e0.bs b o e).1
  have KX : K.In s.heap := e0.mod.kin.keeps fun b o e => (e0.bs b o e).1
  obtain ⟨a, xs, ta, t, rfl, ea, ha, hrest, hq⟩ := hbody A outer s H vs Q E hsp
  obtain ⟨cl, cld, csl, hcell⟩ := T.cell
  obtain ⟨ccl, cdd, cvs, ccs, file, tf, hcode, hvs, hfile⟩ := T.code
  obtain ⟨nm, q0, N0, bs, bm, sn, sub, ab, col, dd, k0, k1, k2, k3, k5, hC, hbm⟩ := T.ox.cls
  obtain ⟨u0, ur, rfl, ru0, rur⟩ : ∃ u0 ur, us = u0 :: ur ∧ RelV (.ref a) u0 ∧ Vals xs ur := by
    cases r with
    | cons h1 h2 => exact ⟨_, _, rfl, h1, h2⟩
  obtain rfl : u0 = Value.ref a := ru0
  have hul : (Value.ref a :: ur).length = (("self" : Str) :: ps).length := r.length.symm.trans hl
  refine ks_codeAny_call_defAt hr.depth (KX _ _ lk) rfl lim (PySem.W.codeRec_of KX hcd) rfl hbi S.nocell (fun ⟨n, _⟩ hy => S.par n (List.of_mem_zip hy).1) (fun h₁ hns kp => ?_) S.co S.gen S.kind
  have CA : CellsAt [(("__class__" : Str), cc)] ["__class__"] [some (.ref C)] s.heap H := by
    have hk : H cc = none := by
      have := (e0.bs cc _ (e0.mod.kin _ _ hcell)).2
      exact this
    have f : ∀ (z : Str) (c' : Addr), List.lookup z [(("__class__" : Str), cc)] = some c' → z = "__class__" ∧ c' = cc := fun z c' h => by
      by_cases q : z = ("__class__" : Str)
      · subst q
        have : some cc = some c' := by simpa [List.lookup] using h
        exact ⟨rfl, (Option.some.inj this).symm⟩
      · have q2 : (z == ("__class__" : Str)) = false := by simpa using q
        simp [List.lookup, q2] at h
    refine ⟨rfl, fun y c hy => ?_, fun x y c hx hy => (f x c hx).1.trans (f y c hy).1.symm, fun i y hi => ?_⟩
    · obtain ⟨_, rfl⟩ := f y c hy
      exact ⟨hk, _, ⟨_, KX _ _ hcell, rfl⟩⟩
    · cases i with
      | zero =>
        have ey : y = "__class__" := (Option.some.inj hi).symm
        subst ey
        exact ⟨cc, by simp [List.lookup], fun v hv => ⟨.ref C, by cases hv; rfl, ⟨_, KX _ _ hcell, rfl⟩⟩⟩
      | succ n => simp at hi
  have I : Inv (ncx CX P w K mg base N (⟨fn_, fq, fp, supS p1 p2 p3 p4 p5 e es :: rest, fs, [(("__class__" : Str), cc)], fc⟩ : NF) fI A outer s H E) [] (startF N (.ref a :: xs) [some (.ref C)]) H { s with heap := h₁, toks := s.toks + ((("self" : Str) :: ps).zip (Value.ref a :: ur)).length } := inv_startN S hr.hd e0 hl r CA hns kp
  refine ks_wpAt_execs_cons (ks_wpAt_Expr_any ?_ (I.quiet) (hsw _))
  obtain ⟨pl, hev⟩ := hev s.heap.objs.size
  refine ks_wpAt_MethodCall ?_ hev
  obtain ⟨ar, hp, har⟩ : ∃ ar, (fp.posonlyargs ++ fp.args).head? = some ar ∧ ar.arg = "self" := by
    cases z : (fp.posonlyargs ++ fp.args).head? with
    | none => rw [z] at hps; cases hps
    | some ar => rw [z] at hps; exact ⟨ar, rfl, Option.some.inj hps⟩
  have hnd : (("self" : Str) :: ps).Nodup := by
    have q := S.nd.sublist (List.take_sublist ((("self" : Str) :: ps).length + [("__class__" : Str)].length) N)
    rw [S.pre] at q
    exact (List.nodup_append.mp q).1
  have hself : ((("self" : Str) :: ps).zip (Value.ref a :: ur)).reverse.lookup ("self" : Str) = some (Value.ref a) := zip_look (i := 0) hnd rfl rfl
  have hcd' : PySem.W.clsIn K C = some { name := nm, bases := bs, mro := .ref C :: bm, ns := N0, qualname := q0, hasDict := true, slotNames := sn, subclasses := sub, abstract := ab, collection := col, hasDel := false } := by unfold PySem.W.clsIn; rw [hC] <;> rfl
  obtain ⟨t1, ho⟩ := exo_at I.hok ea
  have X1 := I.kIn
  refine ks_wpAt_super_base (env := envF (⟨fn_, fq, fp, supS p1 p2 p3 p4 p5 e es :: rest, fs, [(("__class__" : Str), cc)], fc⟩ : NF) fI s.heap.objs.size) hks (S.frk _ List.mem_cons_self) (by decide) rfl (X1 _ _ lk) rfl hp rfl (X1 _ _ hcode) rfl hvs hfile T.top ?_
  obtain ⟨mb, hb1, hb2⟩ := I.mod.blt
  refine PySem.W.ks_loadName_global S.kind hks (PySem.Calls.loadGlobal_builtin (env := envF (⟨fn_, fq, fp, supS p1 p2 p3 p4 p5 e es :: rest, fs, [(("__class__" : Str), cc)], fc⟩ : NF) fI s.heap.objs.size) (I.mod.glob.keeps I.bk) T.zs (hb1.keeps I.bk) ((hb2 _ (by decide +kernel)).trans (show bootBuiltins "super" = some (.type "super") by decide +kernel)) ⟨rfl, ?_⟩)
  refine wpAny_loadName_free S.kind (S.frk _ List.mem_cons_self) rfl ⟨_, X1 _ _ hcell, rfl⟩ ?_
  rw [har]
  refine wpAny_loadName_local S.kind (S.par _ List.mem_cons_self) hns hself ?_
  refine ks_wpAny_isType_cls (X1 _ _ hC) rfl ⟨rfl, ?_⟩
  refine ks_wpAny_call_super (X1 _ _ hC) rfl ho rfl (fun c z => nomatch z) (PySem.W.looks_mroIn X1 T.self) (fun h2 e2 k2 => ?_)
  have I2 := I.kept (t' := s.toks + ((("self" : Str) :: ps).zip (Value.ref a :: ur)).length) k2
  have X2 := I2.kIn
  -- the method
  have hsup := T.sup
  unfold PySem.W.ks_superIn at hsup
  rw [hcd', Option.bind_some] at hsup
  have haC : a ≠ C := fun z => by
    have q1 := X1 _ _ hC
    rw [← z] at q1
    have q2 : some _ = some _ := ho.symm.trans q1
    cases q2
  refine PySem.W.kxs_getMethod PySem.W.kxs_ValueError e2 (PySem.W.looks_opaque X2 T.third) (looks_mro X2 hcd') rfl X2 hsup
    (PySem.W.Looks.andThen (PySem.W.InstAt.type (od := none) ⟨k2 _ _ ho, rfl, rfl, trivial⟩) (PySem.W.looks_subIn X2 T.ve)) haC (by decide) ?_
  have k3' : ∀ b o, h2.get? b = some o → (h2.push (PySem.W.kxs_mw "ValueError.__init__" a)).get? b = some o := fun b o z => Heap.get?_push_of_some _ z
  have hmw : (h2.push (PySem.W.kxs_mw "ValueError.__init__" a)).get? h2.objs.size = some (PySem.W.kxs_mw "ValueError.__init__" a) := Heap.get?_push_at rfl rfl
  have I3 := I2.kept (t' := s.toks + ((("self" : Str) :: ps).zip (Value.ref a :: ur)).length + 1) k3'
  have hfr : H h2.objs.size = none := I2.hok.fresh (Nat.le_refl _)
  have hnL : h2.objs.size ≠ s.heap.objs.size := Nat.ne_of_gt I2.lt
  have hnf : h2.objs.size ∉ (ncx CX P w K mg base N (⟨fn_, fq, fp, supS p1 p2 p3 p4 p5 e es :: rest, fs, [(("__class__" : Str), cc)], fc⟩ : NF) fI A outer s H E).fs := I2.nofs (Nat.le_refl _)
  have I4 : Inv (ncx CX P w K mg base N (⟨fn_, fq, fp, supS p1 p2 p3 p4 p5 e es :: rest, fs, [(("__class__" : Str), cc)], fc⟩ : NF) fI A outer s H E) [(h2.objs.size, PySem.W.kxs_mw "ValueError.__init__" a)] (startF N (.ref a :: xs) [some (.ref C)]) H { s with heap := h2.push (PySem.W.kxs_mw "ValueError.__init__" a), toks := s.toks + ((("self" : Str) :: ps).zip (Value.ref a :: ur)).length + 1 } :=
    I3.pins_of fun p hp => by
      have hp' : p ∈ [(h2.objs.size, PySem.W.kxs_mw "ValueError.__init__" a)] := hp
      obtain rfl := List.mem_singleton.mp hp'
      exact ⟨hmw, hfr, hnL, hnf, fun v z => nomatch z⟩
  refine PySem.W.kxs_callWith (i := "ValueError.__init__") (x := a) ?_ ?_
  · refine Eq.trans (congrArg (fun z => (backTo p4 z).any (·.1)) (he s.heap.objs.size)) ?_
    show (false || (backTo p4 (starEach es (envF (⟨fn_, fq, fp, supS p1 p2 p3 p4 p5 e es :: rest, fs, [(("__class__" : Str), cc)], fc⟩ : NF) fI s.heap.objs.size))).any (·.1)) = false
    rw [hpl]; rfl
  have hrun : wpAny (model P w) (A.deeper (envF (⟨fn_, fq, fp, supS p1 p2 p3 p4 p5 e es :: rest, fs, [(("__class__" : Str), cc)], fc⟩ : NF) fI s.heap.objs.size)) (spliced (backTo p4 (starEach (e :: es) (envF (⟨fn_, fq, fp, supS p1 p2 p3 p4 p5 e es :: rest, fs, [(("__class__" : Str), cc)], fc⟩ : NF) fI s.heap.objs.size)))) _ _ _ := ha.run p4 _ _ _ H _ I4 hq
  rw [he] at hrun
  show wpAny _ _ (evalArgs _ true (backTo p4 (starEach (e :: es) (envF (⟨fn_, fq, fp, supS p1 p2 p3 p4 p5 e es :: rest, fs, [(("__class__" : Str), cc)], fc⟩ : NF) fI s.heap.objs.size))) []) _ _ _
  rw [he]
  refine PySem.Calls.evalArgs_plain (thn hrun fun us' s5 hh => ?_)
  obtain ⟨vs5, H5, I5, r5, l5, ea5, q5⟩ := hh
  have hp5 := I5.pin (h2.objs.size, PySem.W.kxs_mw "ValueError.__init__" a) (List.mem_append_right _ List.mem_cons_self)
  refine ⟨hp5.1, ?_⟩
  refine sup_call T.ox I5 ea5 hp5.1 (by show us'.length ≤ sizeLine; rw [← r5.length, sizeLine_eq]; omega) fun s6 I6 => ?_
  refine wpAt_of_wpAny (wpAny_mono (hrest.run _ s6 _ H5 _ I6 q5) (fun fl s' hs => ?_) fun e s' hs => hs)
  have fin : ∀ {σ' : L2.St} {H' : Hp} {v : V} {u : Value}, Inv (ncx CX P w K mg base N (⟨fn_, fq, fp, supS p1 p2 p3 p4 p5 e es :: rest, fs, [(("__class__" : Str), cc)], fc⟩ : NF) fI A outer s H E) [(h2.objs.size, PySem.W.kxs_mw "ValueError.__init__" a)] σ' H' s' → RelV v u → Q v H' → CE outer P w H s Q u s' :=
    fun {σ' H' v u} J rv q => ⟨v, H', J.os, J.bare, J.base, J.hok, rv, q⟩
  cases fl with
  | ret u =>
    obtain ⟨v, σ', H', J, rv, q⟩ := hs
    exact fin J rv q
  | next =>
    obtain ⟨σ', H', J, q⟩ := hs
    exact fin (v := V.non) (u := Value.none) J rfl q
  | brk =>
    obtain ⟨_, _, _, q⟩ := hs
    exact False.elim q
  | cont =>
    obtain ⟨_, _, _, q⟩ := hs
    exact False.elim q
end
end LB
namespace LB
open PySem PySem.Spec PyProof.Rows L2 NdefX
/-! ### the promise of such an __init__, and what C(..) leaves -/
/-- its fields are told by the arguments -/
def sp_exc (C : Addr) (cond : List V → Prop) (fs : List V → List (Str × V)) (n : Nat) : Sp := fun vs H Q _ => ∃ (a : Addr) (xs : List V), vs = .ref a :: xs ∧ xs.length = n ∧ H a = some (exo a C none) ∧ cond xs ∧
  ∀ (d : Addr) (H' : Hp), H d = none → d ≠ a → H' a = some (exo a C (some d)) → H' d = some (exd d (fs xs)) → (∀ b, b ≠ a → b ≠ d → H' b = H b) → Q .non H'
def tExc (C : Addr) (cond : List V → Prop) (fs : List V → List (Str × V)) (n : Nat) (ta : TA) : L2.St → Hp → XK → Prop := fun σ H Q => ta σ H fun vs H1 => vs.length = n ∧ cond vs ∧ ∀ d, H1 d = none → Q (.ref C) (some d) (upd H1 d (.xd (fs vs)))
structure ExcOk (P : Program) (w : World) (K : PySem.W.Frag) (mg : Str → Option Value) (base : Heap) (C : Addr) (cond : List V → Prop) (fs : List V → List (Str × V)) (n : Nat) : Prop where
  ox : OexC K C
  iC : ∃ fI, PySem.W.findIn K (.ref C) "__init__" = some (some (.ref fI)) ∧ PySem.W.typeIn K (.ref fI) = some (.type "function") ∧ ∃ fd ps, FnOk P w K mg base (L2.CX P w) 1 fI fd ps (sp_exc C cond fs n) ∧ Binds K fd ps []
section
variable {X : Cx} {C : Addr} {cond : List V → Prop} {fs : List V → List (Str × V)} {n : Nat} {x : Str} {p pos pos2 : Pos} {e : Expr} {es : List Expr} {ta : TA} {W : WX}
theorem pmk_exc (T : ExcOk X.prog X.w X.K X.mg X.base C cond fs n) (hn : n ≤ 1000) (hr : Room 2 X.A) (hg : Gl X x) (hm : X.mg x = some (.ref C)) (ha : PA X (e :: es) ta)
    (hdb : (x == ("__debug__" : Str)) = false := by decide) (he : starEach (e :: es) X.env = (false, eval e X.env) :: starEach es X.env := by rfl) (hpl : (backTo pos (starEach es X.env)).any (·.1) = false := by rfl) :
    PMk X (.Call (.Name x p) (e :: es) [] pos) (tExc C cond fs n ta) := by
  obtain ⟨fI, iC, tI, fd, ps, G, b⟩ := T.iC
  have ha2 : PA X (e :: es) (fun σ H R => ∃ R0 : List V → Hp → Prop, ta σ H R0 ∧ ∀ vs H1, R0 vs H1 → R vs H1) := ⟨fun pos pins s σ H R I h => by
    obtain ⟨R0, h0, h1⟩ := h
    refine thn (ha.run pos pins s σ H R0 I h0) fun us s' q => ?_
    obtain ⟨vs, H1, I1, r1, q1⟩ := q
    exact ⟨vs, H1, I1, r1, h1 vs H1 q1⟩⟩
  have key := pmk_oex (CX := L2.CX X.prog X.w) (ds := []) (dvs := []) (pos := pos) (p := p) T.ox iC tI G hr b .nil passX hg hm ha2 hdb he hpl
  intro pins s σ H Q I h
  refine key pins s σ H Q I ⟨_, h, fun vs H1 q => ?_⟩
  obtain ⟨hl, hc, q⟩ := q
  refine ⟨by omega, fun a ha => ?_⟩
  rw [List.append_nil]
  refine ⟨a, vs, rfl, hl, upd_same, hc, fun d H' hd hda e1 e2 e3 => ⟨rfl, d, fs vs, e1, e2, by rw [upd_ne hda] at hd; exact hd, ?_⟩⟩
  have hd1 : H1 d = none := by rw [upd_ne hda] at hd; exact hd
  have eq : upd (del H' a) d (.xd (fs vs)) = upd H1 d (.xd (fs vs)) := by
    funext b
    by_cases hb : b = d
    · rw [hb, upd_same, upd_same]
    · rw [upd_ne hb, upd_ne hb]
      by_cases hba : b = a
      · rw [hba, del_same, ha]
      · rw [del_ne hba, e3 b hba hb, upd_ne hba]
  rw [eq]
  exact q d hd1
theorem ps_raiseX (hc : X.calm = true) (tk : Takes X W) (T : ExcOk X.prog X.w X.K X.mg X.base C cond fs n) (hn : n ≤ 1000) (hr : Room 2 X.A) (hg : Gl X x) (hm : X.mg x = some (.ref C)) (ha : PA X (e :: es) ta)
    (hdb : (x == ("__debug__" : Str)) = false := by decide) (he : starEach (e :: es) X.env = (false, eval e X.env) :: starEach es X.env := by rfl) (hpl : (backTo pos (starEach es X.env)).any (·.1) = false := by rfl) :
    PS X (.Raise (some (.Call (.Name x p) (e :: es) [] pos)) none pos2) (fun _ σ H => tExc C cond fs n ta σ H fun cls d H' => W cls d σ H') := ps_raise hc tk (pmk_exc T hn hr hg hm ha hdb he hpl)
end
/-! ### the class as the text has it -/
/-- C with its __init__ st, as the top leaves them -/
structure XTxt (P : Program) (K : PySem.W.Frag) (mg : Str → Option Value) (qual : Str) (st : Stmt) (C : Addr) : Prop where
  ex : ∃ (fI cc cda : Addr) (oc doc pm ct : Value) (od : Option Addr) (osl : Array (Option Value)), SupC P K mg C fI cc cda ∧
    K.lookup fI = some ⟨oc, od, .func ((⟨"__init__", qual, defArgs st, defBody st, defScope st, [(("__class__" : Str), cc)], cda⟩ : NF).fd doc pm ct), osl⟩ ∧ PySem.W.codeIn K (.ref cda) qual = true
section
variable {P : Program} {w : World} {K : PySem.W.Frag} {mg : Str → Option Value} {base : Heap} {C : Addr} {qual : Str} {st : Stmt} {cond : List V → Prop} {fs : List V → List (Str × V)} {n : Nat} {N ps : List Str} {rest : List Stmt} {p1 p2 p3 p4 p5 : Pos} {e : Expr} {es : List Expr}
theorem XTxt.ok (T : XTxt P K mg qual st C) (hB : defBody st = supS p1 p2 p3 p4 p5 e es :: rest) (hn : n = ps.length)
    (S : NScope N (("self" : Str) :: ps) ["__class__"] (defScope st)) (hps : ((defArgs st).posonlyargs ++ (defArgs st).args).head?.map (·.arg) = some ("self" : Str)) (hks : (defScope st).names.lookup ("super" : Str) = some .globalImplicit)
    (hb : ∀ (cc cda : Addr) (doc pm ct : Value) (us : List Value), us.length = (("self" : Str) :: ps).length → bindArgs ((⟨"__init__", qual, defArgs st, defBody st, defScope st, [(("__class__" : Str), cc)], cda⟩ : NF).fd doc pm ct) ⟨us, []⟩ = pure ((("self" : Str) :: ps).zip us))
    (he : ∀ (cc cda fI L : Addr), starEach (e :: es) (envF ⟨"__init__", qual, defArgs st, defBody st, defScope st, [(("__class__" : Str), cc)], cda⟩ fI L) = (false, eval e (envF ⟨"__init__", qual, defArgs st, defBody st, defScope st, [(("__class__" : Str), cc)], cda⟩ fI L)) :: starEach es (envF ⟨"__init__", qual, defArgs st, defBody st, defScope st, [(("__class__" : Str), cc)], cda⟩ fI L))
    (hpl : ∀ (cc cda fI L : Addr), (backTo p4 (starEach es (envF ⟨"__init__", qual, defArgs st, defBody st, defScope st, [(("__class__" : Str), cc)], cda⟩ fI L))).any (·.1) = false)
    (hsw : ∀ (cc cda fI L : Addr), swapsWith (.Call (.Attribute (.Call (.Name "super" p1) [] [] p2) "__init__" p3) (e :: es) [] p4) none p5.line (envF ⟨"__init__", qual, defArgs st, defBody st, defScope st, [(("__class__" : Str), cc)], cda⟩ fI L) = pure false)
    (hev : ∀ (cc cda fI L : Addr), ∃ pl, eval (.Call (.Attribute (.Call (.Name "super" p1) [] [] p2) "__init__" p3) (e :: es) [] p4) (envF ⟨"__init__", qual, defArgs st, defBody st, defScope st, [(("__class__" : Str), cc)], cda⟩ fI L) = (do
      let ov ← attributeBase (.Call (.Name "super" p1) [] [] p2) "__init__" (envF ⟨"__init__", qual, defArgs st, defBody st, defScope st, [(("__class__" : Str), cc)], cda⟩ fI L) (eval (.Call (.Name "super" p1) [] [] p2) (envF ⟨"__init__", qual, defArgs st, defBody st, defScope st, [(("__class__" : Str), cc)], cda⟩ fI L))
      standAt p3.atName
      let (f, first) ← holding [ov] (getMethod ov "__init__" pl)
      callWith p4 f first (backTo p4 (starEach (e :: es) (envF ⟨"__init__", qual, defArgs st, defBody st, defScope st, [(("__class__" : Str), cc)], cda⟩ fI L))) []))
    (hbody : ∀ (X : Cx) (cc cda fI L : Addr), X.K = K → X.N = N → X.env = envF ⟨"__init__", qual, defArgs st, defBody st, defScope st, [(("__class__" : Str), cc)], cda⟩ fI L → OexC K C →
      ∃ (ta : TA) (t : TS), PA X (e :: es) ta ∧ PSs X rest t ∧ ∀ (a : Addr) (xs : List V) (H : Hp) (Q : VK), xs.length = n → H a = some (exo a C none) → cond xs →
        (∀ (d : Addr) (H' : Hp), H d = none → d ≠ a → H' a = some (exo a C (some d)) → H' d = some (exd d (fs xs)) → (∀ b, b ≠ a → b ≠ d → H' b = H b) → Q .non H') →
        ta (startF N (.ref a :: xs) [some (.ref C)]) H fun us H1 => us.length ≤ 1000 ∧ H1 a = some (exo a C none) ∧ t { nx := fun _ H' => Q .non H', rt := Q } (startF N (.ref a :: xs) [some (.ref C)]) H1) :
    ExcOk P w K mg base C cond fs n := by
  obtain ⟨fI, cc, cda, oc, doc, pm, ct, od, osl, Z, lk, hcd⟩ := T.ex
  refine ⟨Z.ox, fI, Z.iC, Z.tI, _, _, sup_ok (F := ⟨"__init__", qual, defArgs st, defBody st, defScope st, [(("__class__" : Str), cc)], cda⟩) (k := 0) (N := N) (ps := ps) (sp := sp_exc C cond fs n) Z hB rfl rfl lk hcd S hps hks (hb cc cda doc pm ct) (he cc cda fI) (hpl cc cda fI) (hsw cc cda fI) (hev cc cda fI) (fun vs H Q E h => ?_) (fun A outer s H vs Q E h => ?_), .all (hb cc cda doc pm ct)⟩
  · obtain ⟨a, xs, rfl, hl, _⟩ := h
    show xs.length + 1 = ps.length + 1
    omega
  · obtain ⟨a, xs, rfl, hl, ea, hc, q⟩ := h
    obtain ⟨ta, t, h1, h2, h3⟩ := hbody (ncx (L2.CX P w) P w K mg base N ⟨"__init__", qual, defArgs st, defBody st, defScope st, [(("__class__" : Str), cc)], cda⟩ fI A outer s H E) cc cda fI s.heap.objs.size rfl rfl rfl Z.ox
    exact ⟨a, xs, ta, t, rfl, ea, h1, h2, h3 a xs H Q hl ea hc q⟩
/-- two stores behind one another, the first one the exception's first -/
theorem two_stores {K : PySem.W.Frag} {a C : Addr} {f1 f2 : Str} {to1 te1 to2 te2 : TE} {D : Ends} {σ : L2.St} {H : Hp} {y1 y2 : V} (T : OexC K C) (h1 : PySem.W.findIn K (.ref C) f1 = some none) (h2 : PySem.W.findIn K (.ref C) f2 = some none) (ea : H a = some (exo a C none))
    (e1 : ∀ (H1 : Hp) (Q : VK), Q y1 H1 → te1 σ H1 Q) (e2 : ∀ (H1 : Hp) (Q : VK), Q y2 H1 → te2 σ H1 Q) (o1 : ∀ (H1 : Hp) (Q : VK), Q (.ref a) H1 → to1 σ H1 Q) (o2 : ∀ (H1 : Hp) (Q : VK), Q (.ref a) H1 → to2 σ H1 Q)
    (q : ∀ (d : Addr) (H' : Hp), H d = none → d ≠ a → H' a = some (exo a C (some d)) → H' d = some (exd d [(f2, y2), (f1, y1)]) → (∀ b, b ≠ a → b ≠ d → H' b = H b) → D.nx σ H') : tSeq (tOst K f1 to1 te1) (tOst K f2 to2 te2) D σ H := by
  refine e1 _ _ (o1 _ _ ⟨a, C, rfl, T, h1, .inl ⟨ea, fun d hd hda => ?_⟩⟩)
  refine e2 _ _ (o2 _ _ ⟨a, C, rfl, T, h2, .inr ⟨d, [(f1, y1)], upd_same, by rw [upd_ne hda, upd_same], (by show 1 ≤ 900; decide), ?_⟩⟩)
  refine q d _ hd hda (by rw [upd_ne hda.symm, upd_same]) upd_same fun b hb hbd => ?_
  rw [upd_ne hbd, upd_ne hb, upd_ne hbd]
/-- four of them -/
theorem four_stores {K : PySem.W.Frag} {a C : Addr} {f1 f2 f3 f4 : Str} {to1 te1 to2 te2 to3 te3 to4 te4 : TE} {D : Ends} {σ : L2.St} {H : Hp} {y1 y2 y3 y4 : V} (T : OexC K C) (h1 : PySem.W.findIn K (.ref C) f1 = some none) (h2 : PySem.W.findIn K (.ref C) f2 = some none) (h3 : PySem.W.findIn K (.ref C) f3 = some none) (h4 : PySem.W.findIn K (.ref C) f4 = some none) (ea : H a = some (exo a C none))
    (e1 : ∀ (H1 : Hp) (Q : VK), Q y1 H1 → te1 σ H1 Q) (e2 : ∀ (H1 : Hp) (Q : VK), Q y2 H1 → te2 σ H1 Q) (e3 : ∀ (H1 : Hp) (Q : VK), Q y3 H1 → te3 σ H1 Q) (e4 : ∀ (H1 : Hp) (Q : VK), Q y4 H1 → te4 σ H1 Q)
    (o1 : ∀ (H1 : Hp) (Q : VK), Q (.ref a) H1 → to1 σ H1 Q) (o2 : ∀ (H1 : Hp) (Q : VK), Q (.ref a) H1 → to2 σ H1 Q) (o3 : ∀ (H1 : Hp) (Q : VK), Q (.ref a) H1 → to3 σ H1 Q) (o4 : ∀ (H1 : Hp) (Q : VK), Q (.ref a) H1 → to4 σ H1 Q)
    (q : ∀ (d : Addr) (H' : Hp), H d = none → d ≠ a → H' a = some (exo a C (some d)) → H' d = some (exd d [(f4, y4), (f3, y3), (f2, y2), (f1, y1)]) → (∀ b, b ≠ a → b ≠ d → H' b = H b) → D.nx σ H') : tSeq (tOst K f1 to1 te1) (tSeq (tOst K f2 to2 te2) (tSeq (tOst K f3 to3 te3) (tOst K f4 to4 te4))) D σ H := by
  refine e1 _ _ (o1 _ _ ⟨a, C, rfl, T, h1, .inl ⟨ea, fun d hd hda => ?_⟩⟩)
  refine e2 _ _ (o2 _ _ ⟨a, C, rfl, T, h2, .inr ⟨d, [(f1, y1)], upd_same, by rw [upd_ne hda, upd_same], (by show 1 ≤ 900; decide), ?_⟩⟩)
  refine e3 _ _ (o3 _ _ ⟨a, C, rfl, T, h3, .inr ⟨d, [(f2, y2), (f1, y1)], by rw [upd_ne hda.symm, upd_same], upd_same, (by show 2 ≤ 900; decide), ?_⟩⟩)
  refine e4 _ _ (o4 _ _ ⟨a, C, rfl, T, h4, .inr ⟨d, [(f3, y3), (f2, y2), (f1, y1)], by rw [upd_ne hda.symm, upd_ne hda.symm, upd_same], upd_same, (by show 3 ≤ 900; decide), ?_⟩⟩)
  refine q d _ hd hda (by rw [upd_ne hda.symm, upd_ne hda.symm, upd_ne hda.symm, upd_same]) upd_same fun b hb hbd => ?_
  rw [upd_ne hbd, upd_ne hbd, upd_ne hbd, upd_ne hb, upd_ne hbd]
end
end LB

set_option Elab.async false
set_option linter.all false
set_option maxRecDepth 100000
set_option maxHeartbeats 4000000
/-! several except clauses, each with or without a name; what is asked of the caught error -/
namespace LB
open PySem PySem.Spec PyProof.Rows L2
/-- behind a suite its name is empty -/
def goneE (i : Nat) (D : Ends) : Ends where
  nx := fun σ H => D.nx (σ.set i none) H
  rt := D.rt
  bk := fun σ H => D.bk (σ.set i none) H
  ct := fun σ H => D.ct (σ.set i none) H
abbrev Clause := Value × Option Nat × (Addr → Value → Option Addr → TS)
/-- what the suite of a clause is asked, the error at a -/
def inSuite (D : Ends) (nm : Option Nat) (t : TS) (a : Addr) (σ : L2.St) (H : Hp) : Prop := match nm with
  | none => t D σ H
  | some i => t (goneE i D) (σ.set i (some (.ref a))) H
def wX (K : PySem.W.Frag) (Wout : WX) (D : Ends) : List Clause → WX
  | [] => Wout
  | (c, nm, ts) :: r => fun cls d σ H => ∃ b, PySem.W.exmOne K cls c = some b ∧ (b = true → ∀ a, H a = none → inSuite D nm (ts a cls d) a σ H) ∧ (b = false → wX K Wout D r cls d σ H)
inductive HdsX (X : Cx) : List ExceptHandler → List Clause → Prop
  | nil : HdsX X [] []
  | plain {x : Str} {c : Value} {ts : Addr → Value → Option Addr → TS} {st : Stmt} {sts : List Stmt} {q1 q2 : Pos} {hds : List ExceptHandler} {l : List Clause} (hc : Names X x c)
      (suite : ∀ (a : Addr) (oe : Obj) (cls : Value) (d : Option Addr) (pn : List (Addr × Obj)), Zc cls d oe → (∃ us, oe.data = .fields us) → PSs (X.suite a ((a, oe) :: pn)) (st :: sts) (ts a cls d)) (more : HdsX X hds l) :
      HdsX X (.ExceptHandler (some (.Name x q1)) none (st :: sts) q2 :: hds) ((c, none, ts) :: l)
  | named {x n : Str} {i : Nat} {c : Value} {ts : Addr → Value → Option Addr → TS} {st : Stmt} {sts : List Stmt} {q1 q2 : Pos} {hds : List ExceptHandler} {l : List Clause} (hN : X.N.Nodup) (hi : X.N[i]? = some n) (hln : X.env.kindOf n = some .local) (hc : Names X x c)
      (suite : ∀ (a : Addr) (oe : Obj) (cls : Value) (d : Option Addr) (pn : List (Addr × Obj)), Zc cls d oe → (∃ us, oe.data = .fields us) → PSs (X.suite a ((a, oe) :: pn)) (st :: sts) (ts a cls d)) (more : HdsX X hds l) :
      HdsX X (.ExceptHandler (some (.Name x q1)) (some n) (st :: sts) q2 :: hds) ((c, some i, ts) :: l)
section
variable {X : Cx} {pins : List (Addr × Obj)} {σ : L2.St} {H : Hp} {sI sN : Shared} {a : Addr} {B : Heap} {cls : Value} {d : Option Addr}
/-- an error that has landed at this frame: the state without it, the ground, where it stands -/
structure Landed (X : Cx) (pins : List (Addr × Obj)) (σ : L2.St) (H : Hp) (sI sN : Shared) (a : Addr) (B : Heap) (cls : Value) (d : Option Addr) : Prop where
  st : X.stack = X.env :: X.outer
  fr : X.env.frame = some X.env.locals
  I : Inv X pins σ H sI
  nb : ∀ b o, sI.heap.get? b = some o → b ∉ frs X.stack → B.get? b = some o
  up : sI.heap.UpToSlots sN.heap
  na : H a = none
  os : sN.os = sI.os
  ag : AllBare sN.gens
  fly : HandSPX.FlyingZ B (X.env :: X.outer) a (Zc cls d) sN.heap
theorem Landed.inv (L : Landed X pins σ H sI sN a B cls d) : Inv X pins σ H sN := L.I.landed L.nb L.fly.1 L.up L.os L.ag
theorem Landed.off (L : Landed X pins σ H sI sN a B cls d) : a ≠ X.env.locals ∧ a ∉ X.fs := by
  obtain ⟨oe, us, e1, e2, e3⟩ := L.fly.there
  have key : a ∉ frs (X.env :: X.outer) := fun hm => by
    obtain ⟨_, o2, q1, q2⟩ := L.fly.2.2.1.mem hm
    rw [e1] at q1
    cases q1
    exact q2 _ e3
  refine ⟨fun z => key (List.mem_filterMap.mpr ⟨X.env, List.mem_cons_self, by rw [L.fr, z]⟩), fun hm => ?_⟩
  obtain ⟨v, h1, h2⟩ := List.mem_filterMap.mp hm
  exact key (List.mem_filterMap.mpr ⟨v, List.mem_cons_of_mem _ h1, h2⟩)
/-- the clauses, one behind the other -/
theorem clauses {Wout : WX} {D : Ends} (tk : Takes X Wout) (L : Landed X pins σ H sI sN a B cls d) : ∀ {hds : List ExceptHandler} {l : List Clause}, HdsX X hds l → wX X.K Wout D l cls d σ H →
    wpAny (model X.prog X.w) X.A (handleBy (.ref a) X.env hds) (SP X pins D) X.xe sN := by
  intro hds l hk
  have ok := L.I.ok
  have J := L.inv
  obtain ⟨off1, off2⟩ := L.off
  obtain ⟨oe3, us3, g3, z3, f3⟩ := L.fly.there
  have S3 := J.suite g3 f3 L.na off1 off2
  -- a clause's class is read, and asked
  have ask : ∀ {x : Str} {c : Value} {q1 : Pos} {b : Bool} {Q : Bool → Shared → Prop}, Names X x c → PySem.W.exmOne X.K cls c = some b → Q b sN → True := fun _ _ _ => trivial
  have name : ∀ {x : Str} {c : Value} {q1 : Pos} {Q : Value → Shared → Prop} {E : Value → Shared → Prop}, Names X x c → Q c sN → wpAny (model X.prog X.w) (X.A.mark (some (.ref a))) (eval (.Name x q1) X.env) Q E sN := fun hc q => by
    obtain ⟨h1, h2, h3⟩ := hc
    rcases h3 with h3 | ⟨h3, h4, h5⟩
    · exact ld_glob (X := X.suite a ((a, oe3) :: (X.pn ++ pins))) S3 h1 h3 q h2
    · exact ld_blt (X := X.suite a ((a, oe3) :: (X.pn ++ pins))) S3 h1 h3 h4 q h5 h2
  have LT : PySem.W.Looks (model X.prog X.w) sN.heap (typeOf (.ref a)) cls := fun A Q E s k q => wpAny_typeOf_ref (k _ _ g3) (by rw [z3.1]; exact q)
  induction hk with
  | nil =>
    intro wish
    refine wpAny_handleBy_nil ?_
    obtain ⟨_, _, _, oe, us, tr, _, _, e1, e2, e3, e4, _⟩ := id L.fly
    unfold PySem.passOn
    refine wpAny_bind (wpAny_field e1 e3 e4 ?_)
    rw [if_neg (show (Value.ref tr == Value.none) = true → False from by simp)]
    have away : wpAny (model X.prog X.w) X.A (setFlight (.ref a) X.env.frame) (fun _ s4 => wpAny (model X.prog X.w) X.A (throw (.ref a) : Sem Flow) (SP X pins D) X.xe s4) X.xe sN := by
      rw [L.fr]
      refine HandSPX.setFlight_upZ L.fly fun h4 held up4 => wpAny_throw (tk _ _ ?_)
      refine ⟨a, B, sI, pins, σ, H, cls, d, rfl, L.I, L.nb, L.up.trans up4, .inr (.inr ?_), L.na, L.os, L.ag, wish⟩
      rw [L.st]
      exact held
    first
      | exact wpAny_bind (wpAny_pure (wpAny_bind away))
      | exact wpAny_bind away
  | @plain x c ts st sts q1 q2 hds2 l2 hc suite more ih =>
    rintro ⟨b, e1, yes, no⟩
    refine wpAny_handleBy_cons (codeAny_handlers_test ?_) (by intro z; cases z)
    refine name hc ((PySem.W.exm_one (M := model X.prog X.w) J.kIn LT e1).here ?_)
    cases b with
    | false => exact ih (no rfl)
    | true =>
      refine codeAny_handlers_suite (HandSPX.lands_againZ L.fly fun h4 fl4 up4 => ?_)
      have J4 : Inv X pins σ H { sN with heap := h4 } := L.I.landed L.nb fl4.1 (L.up.trans up4) L.os L.ag
      obtain ⟨oe4, us4, g4, z4, f4⟩ := fl4.there
      refine wpAny_mono ((suite a oe4 cls d (X.pn ++ pins) z4 ⟨_, f4⟩).run [] _ _ H _ (J4.suite g4 f4 L.na off1 off2) (yes rfl a L.na)) (fun f s6 out => ?_) (fun _ _ z => False.elim z)
      cases f with
      | ret u =>
        obtain ⟨v6, σ6, H6, S6, r6, k6⟩ := out
        exact ⟨v6, σ6, H6, S6.unsuite ok, r6, k6⟩
      | next =>
        obtain ⟨σ6, H6, S6, k6⟩ := out
        exact ⟨σ6, H6, S6.unsuite ok, k6⟩
      | brk =>
        obtain ⟨σ6, H6, S6, k6⟩ := out
        exact ⟨σ6, H6, S6.unsuite ok, k6⟩
      | cont =>
        obtain ⟨σ6, H6, S6, k6⟩ := out
        exact ⟨σ6, H6, S6.unsuite ok, k6⟩
  | @named x n i c ts st sts q1 q2 hds2 l2 hN hi hln hc suite more ih =>
    rintro ⟨b, e1, yes, no⟩
    refine wpAny_handleBy_cons (codeAny_handlers_test ?_) (by intro z; cases z)
    refine name hc ((PySem.W.exm_one (M := model X.prog X.w) J.kIn LT e1).here ?_)
    cases b with
    | false => exact ih (no rfl)
    | true =>
      refine codeAny_handlers_suite_as (HandSPX.lands_againZ L.fly fun h4 fl4 up4 => ?_)
      have J4 : Inv X pins σ H { sN with heap := h4 } := L.I.landed L.nb fl4.1 (L.up.trans up4) L.os L.ag
      obtain ⟨oe4, us4, g4, z4, f4⟩ := fl4.there
      refine store_ok (X := X.suite a ((a, oe4) :: (X.pn ++ pins))) (v := .ref a) (J4.suite g4 f4 L.na off1 off2) hN hi (.inl hln) rfl (fun s5 S5 => ?_) (.inr hln)
      have leave : ∀ {σ6 : L2.St} {H6 : Hp} {s6 : Shared} {Q : Shared → Prop}, Inv (X.suite a ((a, oe4) :: (X.pn ++ pins))) [] σ6 H6 s6 → (∀ s7, Inv X pins (σ6.set i none) H6 s7 → Q s7) →
          wpAny (model X.prog X.w) X.A (do bindName X.env n .none; unbindBehindTheSuite X.env n q2) (fun _ s7 => Q s7) X.xe s6 := fun S6 k => gone_ok (S6.unsuite ok) hN hi hln k
      refine wpAny_mono ((suite a oe4 cls d (X.pn ++ pins) z4 ⟨_, f4⟩).run [] s5 _ H _ S5 (yes rfl a L.na)) (fun f s6 out => ?_) (fun _ _ z => False.elim z)
      cases f with
      | ret u =>
        obtain ⟨v6, σ6, H6, S6, r6, k6⟩ := out
        exact leave S6 fun s7 J7 => ⟨v6, _, H6, J7, r6, k6⟩
      | next =>
        obtain ⟨σ6, H6, S6, k6⟩ := out
        exact leave S6 fun s7 J7 => ⟨_, H6, J7, k6⟩
      | brk =>
        obtain ⟨σ6, H6, S6, k6⟩ := out
        exact leave S6 fun s7 J7 => ⟨_, H6, J7, k6⟩
      | cont =>
        obtain ⟨σ6, H6, S6, k6⟩ := out
        exact leave S6 fun s7 J7 => ⟨_, H6, J7, k6⟩
end
section
variable {X : Cx} {body : List Stmt} {hd₀ : ExceptHandler} {hds : List ExceptHandler} {l : List Clause} {pos : Pos} {tb : WX → TS} {Wout : WX}
theorem ps_tryX (st : X.stack = X.env :: X.outer) (fr : X.env.frame = some X.env.locals) (tk : Takes X Wout)
    (hb : ∀ (W : WX) (pn : List (Addr × Obj)) (xe : Value → Shared → Prop), Takes (X.tr pn xe) W → PassesOwn (model X.prog X.w) X.A X.env xe → PSs (X.tr pn xe) body (tb W)) (hh : HdsX X (hd₀ :: hds) l) :
    PS X (.Try body (hd₀ :: hds) [] [] pos) (fun D σ H => tb (wX X.K Wout D l) D σ H) := by
  refine ⟨fun pins s σ H D I h => ?_⟩
  have ok := I.ok
  have hfr : X.A.frames = some (X.env :: X.outer) := by rw [ok.frames, st]
  have run := hb (wX X.K Wout D l) (X.pn ++ pins) (fun er s1 => wpAny (model X.prog X.w) X.A (noteFrame er X.env) (fun _ s2 => wpAny (model X.prog X.w) X.A (setFlight er none) (fun _ s3 =>
    wpAny (model X.prog X.w) X.A (handleBy er X.env (hd₀ :: hds)) (SP X pins D) X.xe s3) X.xe s2) X.xe s1) (fun u sN air => ?_) PassesOwn.looking
  · refine wpAny_Try_except (wpAny_mono (run.run [] s σ H D (I.toTry _) h) (fun f s1 out => ?_) (fun er s1 he => he))
    cases f with
    | ret u =>
      obtain ⟨v6, σ6, H6, S6, r6, k6⟩ := out
      exact ⟨v6, σ6, H6, S6.ofTry ok, r6, k6⟩
    | next =>
      obtain ⟨σ6, H6, S6, k6⟩ := out
      exact wpAny_execs_nil ⟨σ6, H6, S6.ofTry ok, k6⟩
    | brk =>
      obtain ⟨σ6, H6, S6, k6⟩ := out
      exact ⟨σ6, H6, S6.ofTry ok, k6⟩
    | cont =>
      obtain ⟨σ6, H6, S6, k6⟩ := out
      exact ⟨σ6, H6, S6.ofTry ok, k6⟩
  · obtain ⟨a, B, sI, pins', σ', H', cls, d, rfl, J', nb, up, sky, na, os, ag, wish⟩ := air
    have sky' : Sky B (X.env :: X.outer) a (Zc cls d) X.env.locals sN.heap := by rw [← st]; exact sky
    refine Sky.land Zc.steady hfr fr sky' fun h3 fl3 up3 => ?_
    exact clauses (sN := { sN with heap := h3 }) tk ⟨st, fr, J'.ofTry ok, nb, up.trans up3, na, os, ag, fl3⟩ hh wish
end
end LB
/-! ### isinstance of the caught error -/
namespace PySem.W
open PySem PySem.Spec PySem.Calls PyProof.Rows
section
variable {prog : Program} {w : World} {A : Around} {E : Value → Shared → Prop} {s : Shared} {K : Frag} {x D : Addr} {ox : Obj} {od : Option Obj}
/-- what is asked of the class -/
structure LbExc (K : Frag) (D : Addr) : Prop where
  ga : findIn K (.ref D) "__getattribute__" = some (some (.builtin "BaseException.__getattribute__"))
  gg : findIn K (.ref D) "__getattr__" = some none
  sb : subIn K (.ref D) (.type "BaseException") = some true
  hd : hasDictIn K D = true
  ha : findIn K (.ref D) "__class__" = some (some (.builtin "object.__class__"))
  hn : specialIn K (.builtin "object.__class__") "__get__" = some (some (.builtin "getset_descriptor.__get__"))
  ht : takesIn K (.builtin "object.__class__") = some true
  hm : mroIn K D (.type "object") = some true
theorem lb_find (C : LbExc K D) : findObj K D od "__class__" = some (.bind (.builtin "getset_descriptor.__get__") (.builtin "object.__class__")) := by
  obtain ⟨cd, hc, _⟩ := any_some C.hd
  unfold findObj
  rw [hc, Option.bind_some, C.ha, Option.bind_some]
  simp [C.hn, C.ht]
theorem lb_class {Q : Option Value → Shared → Prop} (C : LbExc K D) (X : K.In s.heap) (I : InstAt s.heap x ox D od) (h : Q (some (.ref D)) { s with toks := s.toks + 1 }) : wpAny (model prog w) A (getAttr? (.ref x) "__class__") Q E s := by
  obtain ⟨hp, g, d, t, os⟩ := s
  have T := I.type (M := model prog w)
  have F3 := looks_find (M := model prog w) X I (lb_find (od := od) C)
  have ne : (Value.builtin "BaseException.__getattribute__" == Value.builtin "object.__getattribute__") = false := by decide +kernel
  unfold getAttr? getAttrBy? getAttrBy
  refine wpAny_bind (wpAny_mkText (wpAny_bind (wpAny_attempt (wpAny_holding (wpAny_bind (T.at (wpAny_bind ((looks_findIn (M := model prog w) X C.ga).at ?_))))))))
  dsimp only
  rw [if_neg (show ¬ (onTheHeap (Value.ref D) && Value.builtin "BaseException.__getattribute__" == Value.builtin "object.__getattribute__") = true by rw [ne, Bool.and_false]; exact Bool.false_ne_true)]
  unfold getAttrByItsOwn hookBefore
  refine wpAny_bind ?_
  rw [if_pos (show onTheHeap (Value.ref D) = true from rfl)]
  refine (looks_findIn (M := model prog w) X C.gg).at (wpAny_bind (wpAny_attempt (wpAny_holding ?_)))
  unfold callGetattribute
  rw [if_neg (show ¬ (false && onTheHeap (Value.builtin "BaseException.__getattribute__")) = true from Bool.false_ne_true)]
  unfold boundAndCalled
  rw [PySem.F.excAttr_ValueError.ga.bind (.ref x)]
  refine wpAny_bind (wpAny_pure (wpAny_call (codeAny_call_builtin PySem.F.excAttr_ValueError.ga.plain PySem.F.entry_bexc_ga ?_)))
  refine @check_slot (model prog w) _ _ ⟨hp, g, d, t + 1, os⟩ "BaseException.__getattribute__" "BaseException" "__getattribute__" (.ref x) [.str "__class__" t] [] _ (by decide +kernel) (by decide +kernel) (T.andThen (looks_subIn X C.sb)) (PySem.F.args_bexc_ga (.ref x) (.str "__class__" t)) ?_
  unfold Builtin.«object.__getattribute__»
  refine wpAny_bind (wpAny_of_eq (a := ((Value.ref x : Value), [Value.str "__class__" t])) (by first | rfl | (simp only [slotArgs]; rfl)) (wpAny_bind (wpAny_pure (wpAny_bind (T.at (wpAny_bind (F3.at ?_)))))))
  refine wpAny_bind (wpAny_holding (wpAny_call (class_get (s := ⟨hp, g, d, t + 1, os⟩) (ox := ox) (od := od) X I C.hm ?_)))
  refine wpAny_pure ?_
  show wpAny _ _ (handedOut (.ref D)) _ _ _
  rw [handedOut_of (v := .ref D) rfl]
  first
    | exact wpAny_pure (wpAny_pure h)
    | exact wpAny_pure h
    | exact wpAny_pure (wpAny_bind (wpAny_pure (wpAny_pure h)))
theorem lb_kit (C : LbExc K D) : KitX K (.ref x) (.ref D) (fun h => ∃ ox od, InstAt h x ox D od) where
  ty := fun _ _ _ ⟨_, _, I⟩ => I.type
  it := fun _ _ X _ => by
    obtain ⟨cdD, hcD, _⟩ := any_some C.hd
    unfold clsIn at hcD
    split at hcD
    · rename_i ho
      intro A' Q' E' s' k q
      unfold isType loadHead
      exact wpAny_bind (wpAny_loadPart (k _ _ (X _ _ ho)) (wpAny_pure q))
    · cases hcD
  ne := fun h tp dd its n sl X htp => by
    obtain ⟨cdD, hcD, _⟩ := any_some C.hd
    refine Bool.eq_false_iff.mpr fun q => ?_
    obtain rfl : D = tp := Value.ref.inj (beq_iff_eq.mp q)
    unfold clsIn at hcD
    split at hcD
    · rename_i ho
      have z := (X _ _ ho).symm.trans htp
      cases z
    · cases hcD
  ca := fun X ⟨_, _, I⟩ k => lb_class C X I k
end
end PySem.W
namespace LB
open PySem PySem.Spec PyProof.Rows L2
@[irreducible] def rIsX (K : PySem.W.Frag) (a D : Addr) (cls : Value) (d : Option Addr) : List V → Hp → VK → Prop := fun xs H Q => ∃ (c : V) (cv : Value) (b : Bool), xs = [.ref a, c] ∧ cls = .ref D ∧ ClsV c cv ∧ PySem.W.kitOne K (.ref D) cv = some b ∧ (∃ dd fs, d = some dd ∧ H dd = some (.xd fs)) ∧ Q (.bl b) H
theorem call_isX {X : Cx} {a D : Addr} {oe : Obj} {cls : Value} {d : Option Addr} {pn : List (Addr × Obj)} (C : PySem.W.LbExc X.K D) (hz : Zc cls d oe) (hf : ∃ vs, oe.data = .fields vs) : CallR (X.suite a ((a, oe) :: pn)) (.builtin "isinstance") (rIsX X.K a D cls d) := by
  intro pins s σ H xs us Q I r h
  unfold rIsX at h
  obtain ⟨c, cv, b, rfl, rfl, hcv, e, ⟨dd, fs, rfl, ed⟩, q⟩ := h
  obtain ⟨u1, u2, rfl, r1, r2⟩ := vals2 r
  obtain rfl := hcv.eq r2
  obtain rfl : u1 = Value.ref a := r1
  obtain ⟨hget, _⟩ := I.pin (a, oe) (List.mem_append.mpr (.inl List.mem_cons_self))
  obtain ⟨vs, hv⟩ := hf
  have hx : ObjOk X.prog X.w H s.heap dd (.xd fs) := I.hok dd _ ed
  obtain ⟨mA, ⟨od, _, _, ho, _⟩, _⟩ := hx
  have J : PySem.W.InstAt s.heap a oe D (some od) := ⟨hget, hz.1, by unfold PySem.W.notCls; rw [hv] <;> rfl, by rw [hz.2]; exact ho⟩
  exact PySem.W.kia_one (PySem.W.lb_kit C) I.kIn ⟨oe, some od, J⟩ e (fun z => nomatch z) fun tk => ⟨.bl b, H, I.kept (t' := tk) fun _ _ z => z, rfl, q⟩
end LB
namespace LB
open PySem PySem.Spec PyProof.Rows L2
/-- an exception class of the text: what raising, catching and asking want of it -/
structure ECls (K : PySem.W.Frag) (C : Addr) : Prop where
  lx : PySem.W.LbExc K C
  ty : PySem.W.typeIn K (.ref C) = some (.type "type")
  self : PySem.W.mroIn K C (.ref C) = some true
theorem ECls.isCls {K : PySem.W.Frag} {C : Addr} (E : ECls K C) : ((PySem.W.clsIn K C).isSome && PySem.W.typeIn K (.ref C) == some (.type "type")) = true := by
  obtain ⟨cd, hc, _⟩ := PySem.W.any_some E.lx.hd
  rw [hc, E.ty]
  rfl
theorem ECls.exm {K : PySem.W.Frag} {Y C : Addr} {b : Bool} (E : ECls K C) (h : PySem.W.subIn K (.ref Y) (.ref C) = some b) : PySem.W.exmOne K (.ref Y) (.ref C) = some b :=
  PySem.W.exm_ref E.lx.sb E.lx.hd E.ty h
theorem ECls.kit {K : PySem.W.Frag} {Y C : Addr} {b : Bool} (E : ECls K C) (h : PySem.W.subIn K (.ref Y) (.ref C) = some b) : PySem.W.kitOne K (.ref Y) (.ref C) = some b := by
  unfold PySem.W.kitOne
  by_cases e : (Value.ref Y == Value.ref C) = true
  · rw [if_pos e]
    have e2 : Y = C := Value.ref.inj (beq_iff_eq.mp e)
    subst e2
    have h2 : PySem.W.mroIn K Y (.ref Y) = some b := h
    rw [E.self] at h2
    exact h2
  · rw [if_neg e]
    show (if ((PySem.W.clsIn K C).isSome && PySem.W.typeIn K (.ref C) == some (.type "type")) = true then PySem.W.subIn K (.ref Y) (.ref C) else none) = some b
    rw [if_pos E.isCls]
    exact h
theorem kit_ve {K : PySem.W.Frag} {Y : Addr} {b : Bool} (h : PySem.W.subIn K (.ref Y) (.type "ValueError") = some b) : PySem.W.kitOne K (.ref Y) (.type "ValueError") = some b := by
  unfold PySem.W.kitOne
  rw [if_neg (show ¬ (Value.ref Y == Value.type "ValueError") = true from fun z => nomatch beq_iff_eq.mp z)]
  show (if PySem.W.kitMeta "ValueError" = true then PySem.W.subIn K (.ref Y) (.type "ValueError") else none) = some b
  rw [if_pos (by decide +kernel)]
  exact h
theorem ECls.xf {K : PySem.W.Frag} {C : Addr} (E : ECls K C) : XfC K C := ⟨E.lx.ga, E.lx.gg, E.lx.sb, E.lx.hd⟩
/-- what an error with one own field holds -/
def fs1 (label field : Str) : List V → List (Str × V) := fun xs => [(field, xs.headD .non), ("label", .str label)]
def text1 : List V → Prop := fun xs => ∃ z : Str, xs = [.str z] ∧ z.length ≤ 1000000
theorem text_len (a z : Str) (h1 : a.length ≤ 1000) (h2 : z.length ≤ 1000000) : (Str.empty ++ a).length ≤ sizeLine ∧ (Str.empty ++ a ++ z).length ≤ sizeLine := by
  have e1 : ∀ x y : Str, (x ++ y).length = x.length + y.length := fun x y => Array.size_append
  have e0 : Str.empty.length = 0 := rfl
  rw [e1, e1, e1, e0, sizeLine_eq]
  omega
section
variable {K : PySem.W.Frag}
theorem wx_hit {Wout : WX} {D : Ends} {c cls : Value} {nm : Option Nat} {ts : Addr → Value → Option Addr → TS} {r : List Clause} {d : Option Addr} {σ : L2.St} {H : Hp} (e : PySem.W.exmOne K cls c = some true) (h : ∀ a, H a = none → inSuite D nm (ts a cls d) a σ H) :
    wX K Wout D ((c, nm, ts) :: r) cls d σ H := ⟨true, e, fun _ => h, fun z => nomatch z⟩
theorem wx_miss {Wout : WX} {D : Ends} {c cls : Value} {nm : Option Nat} {ts : Addr → Value → Option Addr → TS} {r : List Clause} {d : Option Addr} {σ : L2.St} {H : Hp} (e : PySem.W.exmOne K cls c = some false) (h : wX K Wout D r cls d σ H) :
    wX K Wout D ((c, nm, ts) :: r) cls d σ H := ⟨false, e, fun z => (nomatch z), fun _ => h⟩
theorem isX_go {a D C dd : Addr} {fs : List (Str × V)} {b : Bool} {H : Hp} {Q : VK} (k : PySem.W.kitOne K (.ref D) (.ref C) = some b) (e : H dd = some (.xd fs)) (q : Q (.bl b) H) : rIsX K a D (.ref D) (some dd) [.ref a, .ref C] H Q := by
  unfold rIsX
  exact ⟨_, _, b, rfl, rfl, .own _, k, ⟨dd, fs, rfl, e⟩, q⟩
theorem isX_ve {a D dd : Addr} {fs : List (Str × V)} {b : Bool} {H : Hp} {Q : VK} (k : PySem.W.subIn K (.ref D) (.type "ValueError") = some b) (e : H dd = some (.xd fs)) (q : Q (.bl b) H) : rIsX K a D (.ref D) (some dd) [.ref a, .ty "ValueError"] H Q := by
  unfold rIsX
  exact ⟨_, _, b, rfl, rfl, .ty _, kit_ve k, ⟨dd, fs, rfl, e⟩, q⟩
end
end LB

set_option Elab.async false
set_option linter.all false
set_option maxRecDepth 100000
set_option maxHeartbeats 4000000
/-! dicts that the top has written, with text keys -/
namespace LB
open PySem PySem.Spec PyProof.Rows L2
def kget : List (Str × V) → Str → Option V
  | [], _ => none
  | (k, v) :: r, z => if k = z then some v else kget r z
def dictB : List (Str × V) → List DictEntry → Bool
  | [], [] => true
  | (k, v) :: r, e :: es => (match e.key with
    | .str x _ => decide (x = k)
    | _ => false) && relB v e.val && dictB r es
  | _, _ => false
/-- what stands at the key z -/
def KAt (K : PySem.W.Frag) (d : Addr) (z : Str) (r : Option V) : Prop := ∃ u, PySem.W.nsIn K d z = some u ∧ match r, u with
  | some v, some w => RelV v w
  | none, none => True
  | _, _ => False
theorem find_at {z : Str} : ∀ {kvs : List (Str × V)} {es : List DictEntry}, dictB kvs es = true → es.any (·.refKey) = false ∧ (match kget kvs z, es.find? (·.key.isStr z) with
    | some v, some e => RelV v e.val
    | none, none => True
    | _, _ => False)
  | [], [], _ => ⟨rfl, by simp [kget]⟩
  | (k, v) :: r, e :: es, h => by
    have h1 := Bool.and_eq_true_iff.mp h
    have h2 := Bool.and_eq_true_iff.mp h1.1
    obtain ⟨i1, i2⟩ := find_at (z := z) h1.2
    obtain ⟨hash, key, val⟩ := e
    cases key with
    | str x t =>
      have ex : x = k := of_decide_eq_true h2.1
      subst ex
      refine ⟨?_, ?_⟩
      · rw [List.any_cons, i1]
        rfl
      · by_cases c : x = z
        · subst c
          simp only [kget, if_true, List.find?_cons, Value.isStr, beq_self_eq_true]
          exact relB_ok h2.2
        · have e2 : (x == z) = false := by simpa using c
          simp only [kget, c, if_false, List.find?_cons, Value.isStr, e2]
          exact i2
    | none => exact (Bool.false_ne_true h2.1).elim
    | ellipsis => exact (Bool.false_ne_true h2.1).elim
    | notImplemented => exact (Bool.false_ne_true h2.1).elim
    | bool b => exact (Bool.false_ne_true h2.1).elim
    | int b t => exact (Bool.false_ne_true h2.1).elim
    | float b t => exact (Bool.false_ne_true h2.1).elim
    | bytes b t => exact (Bool.false_ne_true h2.1).elim
    | type b => exact (Bool.false_ne_true h2.1).elim
    | builtin b => exact (Bool.false_ne_true h2.1).elim
    | ref b => exact (Bool.false_ne_true h2.1).elim
  | [], _ :: _, h => by cases h
  | _ :: _, [], h => by cases h
theorem kat_of {K : PySem.W.Frag} {d : Addr} {es : Array DictEntry} {n : Nat} {kvs : List (Str × V)} (l : K.lookup d = some ⟨.type "dict", none, .dict es n, #[]⟩) (h : dictB kvs es.toList = true) (z : Str) : KAt K d z (kget kvs z) := by
  obtain ⟨h1, h2⟩ := find_at (z := z) h
  unfold KAt PySem.W.nsIn
  rw [l]
  simp only
  cases e : es.toList.find? (·.key.isStr z) with
  | none =>
    rw [e] at h2
    refine ⟨none, ?_, ?_⟩
    · simp only [h1]
      rfl
    · cases f : kget kvs z with
      | none => trivial
      | some v => rw [f] at h2; exact h2
  | some w =>
    rw [e] at h2
    refine ⟨some w.val, rfl, ?_⟩
    cases f : kget kvs z with
    | none => rw [f] at h2; exact h2
    | some v => rw [f] at h2; exact h2
@[irreducible] def rKIn (K : PySem.W.Frag) (d : Addr) : R2 := fun x y H Q => ∃ (z : Str) (r : Option V), x = .str z ∧ y = .ref d ∧ KAt K d z r ∧ Q (.bl r.isSome) H
@[irreducible] def rKNotIn (K : PySem.W.Frag) (d : Addr) : R2 := fun x y H Q => ∃ (z : Str) (r : Option V), x = .str z ∧ y = .ref d ∧ KAt K d z r ∧ Q (.bl (!r.isSome)) H
@[irreducible] def rKGet (K : PySem.W.Frag) (d : Addr) : R2 := fun x y H Q => ∃ (z : Str) (v : V), x = .ref d ∧ y = .str z ∧ KAt K d z (some v) ∧ Q v H
section
variable {X : Cx} {d : Addr}
theorem op_kin (D : ∃ es n, KDict X.K X.w d es n) : OpR X (compareOp .In) (rKIn X.K d) := fun pins s σ H x y v u Q I rx ry h => by
  obtain ⟨es, n, D⟩ := D
  unfold rKIn at h
  obtain ⟨z, r, rfl, rfl, ⟨u0, h1, h2⟩, q⟩ := h
  refine op_in_kd D pins s σ H _ _ v u Q I rx ry ⟨z, u0, rfl, rfl, h1, ?_⟩
  have : u0.isSome = r.isSome := by
    cases r <;> cases u0 <;> first | rfl | exact h2.elim
  rw [this]
  exact q
theorem op_kni (D : ∃ es n, KDict X.K X.w d es n) : OpR X (compareOp .NotIn) (rKNotIn X.K d) := fun pins s σ H x y v u Q I rx ry h => by
  obtain ⟨es, n, D⟩ := D
  unfold rKNotIn at h
  obtain ⟨z, r, rfl, rfl, ⟨u0, h1, h2⟩, q⟩ := h
  refine op_notIn_kd D pins s σ H _ _ v u Q I rx ry ⟨z, u0, rfl, rfl, h1, ?_⟩
  have : u0.isSome = r.isSome := by
    cases r <;> cases u0 <;> first | rfl | exact h2.elim
  rw [this]
  exact q
theorem ix_kd (D : ∃ es n, KDict X.K X.w d es n) : IxR X (rKGet X.K d) := fun value slice pins s σ H x y v u Q I rx ry h hs => by
  obtain ⟨es, n, D⟩ := D
  unfold rKGet at h
  obtain ⟨z, v0, rfl, rfl, ⟨u0, h1, h2⟩, q⟩ := h
  cases u0 with
  | none => exact h2.elim
  | some u1 => exact ix_kdict value slice pins s σ H _ _ v u Q I rx ry ⟨d, z, v0, rfl, rfl, ⟨es, n, u1, D.at_, D.lit, h1, h2⟩, q⟩ hs
end
section
variable {K : PySem.W.Frag} {d : Addr} {z : Str} {r : Option V} {v : V} {H : Hp} {Q : VK}
theorem kin_go (g : KAt K d z r) (q : Q (.bl r.isSome) H) : rKIn K d (.str z) (.ref d) H Q := by
  unfold rKIn
  exact ⟨z, r, rfl, rfl, g, q⟩
theorem kni_go (g : KAt K d z r) (q : Q (.bl (!r.isSome)) H) : rKNotIn K d (.str z) (.ref d) H Q := by
  unfold rKNotIn
  exact ⟨z, r, rfl, rfl, g, q⟩
theorem kget_go (g : KAt K d z r) (e : r = some v) (q : Q v H) : rKGet K d (.ref d) (.str z) H Q := by
  subst e
  unfold rKGet
  exact ⟨z, v, rfl, rfl, g, q⟩
end
end LB

/-! days, months, years -/
namespace LB
open PySem PySem.Spec PyProof.Rows L2
/-- a leap year -/
def leapP (y : Int) : Prop := y % 4 = 0 ∧ (y % 100 ≠ 0 ∨ y % 400 = 0)
instance (y : Int) : Decidable (leapP y) := inferInstanceAs (Decidable (_ ∧ _))
def leapB (y : Int) : Bool := decide (leapP y)
def leapN (y : Int) : Int := if leapP y then 1 else 0
/-- the first day of a year -/
def ystart (y : Int) : Int := 365 * (y - 2000) + (y - 2000 + 3) / 4 - (y - 2000 + 99) / 100 + (y - 2000 + 399) / 400
theorem leapN_b (y : Int) : (if leapB y = true then (1 : Int) else 0) = leapN y := by
  unfold leapB leapN
  by_cases h : leapP y
  · rw [if_pos h, if_pos (decide_eq_true h)]
  · rw [if_neg h, if_neg (by rw [decide_eq_false h]; decide)]
theorem leapN_01 (y : Int) : leapN y = 0 ∨ leapN y = 1 := by unfold leapN; split <;> simp
theorem ystart_next (y : Int) : ystart (y + 1) = ystart y + 365 + leapN y := by
  unfold ystart leapN
  by_cases h : leapP y
  · rw [if_pos h]
    unfold leapP at h
    omega
  · rw [if_neg h]
    unfold leapP at h
    omega
theorem ystart_0 : ystart 2000 = 0 := by decide
theorem ystart_end : ystart 2200 = 73049 := by decide
theorem ystart_low (k : Int) (h : 0 ≤ k) : ystart (2000 + k) ≤ 366 * k := by
  unfold ystart
  omega
theorem ystart_lt {y z : Int} (h : y < z) : ystart y + 365 ≤ ystart z := by
  unfold ystart
  omega
theorem ystart_mono {y z : Int} (h : y ≤ z) : ystart y ≤ ystart z := by
  unfold ystart
  omega
/-- the days of a month -/
def mlen (y m : Int) : Int := if m = 2 then 28 + leapN y else if m = 4 ∨ m = 6 ∨ m = 9 ∨ m = 11 then 30 else 31
/-- the days of the year before a month -/
def mstart (y m : Int) : Int :=
  if m ≤ 1 then 0 else if m = 2 then 31 else leapN y + (if m = 3 then 59 else if m = 4 then 90 else if m = 5 then 120 else if m = 6 then 151 else if m = 7 then 181 else if m = 8 then 212 else if m = 9 then 243 else if m = 10 then 273 else if m = 11 then 304 else if m = 12 then 334 else 365)
theorem mstart_next (y m : Int) (h1 : 1 ≤ m) (h2 : m ≤ 12) : mstart y (m + 1) = mstart y m + mlen y m := by
  unfold mstart mlen
  rcases (by omega : m = 1 ∨ m = 2 ∨ m = 3 ∨ m = 4 ∨ m = 5 ∨ m = 6 ∨ m = 7 ∨ m = 8 ∨ m = 9 ∨ m = 10 ∨ m = 11 ∨ m = 12) with rfl | rfl | rfl | rfl | rfl | rfl | rfl | rfl | rfl | rfl | rfl | rfl <;> simp <;> omega
theorem mstart_1 (y : Int) : mstart y 1 = 0 := by unfold mstart; simp
theorem mstart_13 (y : Int) : mstart y 13 = 365 + leapN y := by unfold mstart; simp; omega
theorem mlen_pos (y m : Int) : 28 ≤ mlen y m ∧ mlen y m ≤ 31 := by
  have := leapN_01 y
  unfold mlen
  split
  · omega
  · split <;> omega
/-- the day of that date -/
def dayOf (y m d : Int) : Int := ystart y + mstart y m + d - 1
/-- (y, m, d) is a date -/
structure IsDate (y m d : Int) : Prop where
  y0 : 2000 ≤ y
  y1 : y ≤ 2199
  m0 : 1 ≤ m
  m1 : m ≤ 12
  d0 : 1 ≤ d
  d1 : d ≤ mlen y m
theorem mstart_mono (y : Int) {m n : Int} (h0 : 1 ≤ m) (h : m < n) (h1 : n ≤ 13) : mstart y m + mlen y m ≤ mstart y n := by
  have key : ∀ k : Nat, m + 1 + k ≤ 13 → mstart y (m + 1) ≤ mstart y (m + 1 + k) := by
    intro k
    induction k with
    | zero => intro _; simp
    | succ k ih =>
      intro hk
      have := ih (by omega)
      have e := mstart_next y (m + 1 + k) (by omega) (by omega)
      have := mlen_pos y (m + 1 + k)
      rw [show m + 1 + ((k + 1 : Nat) : Int) = m + 1 + k + 1 by omega, e]
      omega
  have := key (n - (m + 1)).toNat (by omega)
  rw [mstart_next y m h0 (by omega)] at this
  rw [show m + 1 + ((n - (m + 1)).toNat : Int) = n by omega] at this
  exact this
theorem date_in_year {y m d : Int} (h : IsDate y m d) : ystart y ≤ dayOf y m d ∧ dayOf y m d < ystart (y + 1) := by
  have h1 := mstart_mono y h.m0 (n := 13) (by have := h.m1; omega) (by omega)
  rw [mstart_13] at h1
  have h2 := ystart_next y
  have h3 : 0 ≤ mstart y m := by
    by_cases e : m = 1
    · rw [e, mstart_1]; omega
    · have := mstart_mono y (m := 1) (n := m) (by omega) (by have := h.m0; omega) (by have := h.m1; omega)
      rw [mstart_1] at this
      have := mlen_pos y 1
      omega
  have := h.d0
  have := h.d1
  unfold dayOf
  omega
theorem date_range {y m d : Int} (h : IsDate y m d) : 0 ≤ dayOf y m d ∧ dayOf y m d ≤ 73048 := by
  have h1 := date_in_year h
  have h2 := ystart_mono h.y0
  have h3 := ystart_mono (y := y + 1) (z := 2200) (by have := h.y1; omega)
  rw [ystart_0] at h2
  rw [ystart_end] at h3
  omega
theorem date_inj {y m d y' m' d' : Int} (h : IsDate y m d) (h' : IsDate y' m' d') (e : dayOf y m d = dayOf y' m' d') : y = y' ∧ m = m' ∧ d = d' := by
  have a := date_in_year h
  have b := date_in_year h'
  have ey : y = y' := by
    rcases Int.lt_trichotomy y y' with l | l | l
    · have := ystart_mono (y := y + 1) (z := y') (by omega)
      omega
    · exact l
    · have := ystart_mono (y := y' + 1) (z := y) (by omega)
      omega
  subst ey
  have em : m = m' := by
    unfold dayOf at e
    have := h.d0; have := h.d1; have := h'.d0; have := h'.d1
    rcases Int.lt_trichotomy m m' with l | l | l
    · have := mstart_mono y h.m0 l (by have := h'.m1; omega)
      omega
    · exact l
    · have := mstart_mono y h'.m0 l (by have := h.m1; omega)
      omega
  subst em
  unfold dayOf at e
  exact ⟨rfl, rfl, by omega⟩
theorem mtab (y m : Int) (h1 : 1 ≤ m) (h2 : m ≤ 12) (h : m ≠ 2) : atI [V.int 31, V.int 28, V.int 31, V.int 30, V.int 31, V.int 30, V.int 31, V.int 31, V.int 30, V.int 31, V.int 30, V.int 31] (m - 1) = some (V.int (mlen y m)) := by
  rcases (by omega : m = 1 ∨ m = 3 ∨ m = 4 ∨ m = 5 ∨ m = 6 ∨ m = 7 ∨ m = 8 ∨ m = 9 ∨ m = 10 ∨ m = 11 ∨ m = 12) with rfl | rfl | rfl | rfl | rfl | rfl | rfl | rfl | rfl | rfl | rfl <;> rfl
theorem mlen_2 (y : Int) : (28 : Int) + (if leapB y = true then (1 : Int) else 0) = mlen y 2 := by rw [leapN_b]; rfl
theorem mlen_2' (y : Int) : (if leapB y = true then (29 : Int) else 28) = mlen y 2 := by
  rw [← mlen_2]
  split <;> rfl
theorem mlen_in {y m : Int} (h : inV (V.int m) [V.int 4, V.int 6, V.int 9, V.int 11] = true) : mlen y m = 30 := by
  have e : m = 4 ∨ m = 6 ∨ m = 9 ∨ m = 11 := by
    simp only [inV, eqV, List.any, Bool.or_false, Bool.or_eq_true, beq_iff_eq] at h
    omega
  unfold mlen
  rw [if_neg (by omega), if_pos e]
theorem mlen_out {y m : Int} (h : inV (V.int m) [V.int 4, V.int 6, V.int 9, V.int 11] = false) (h2 : m ≠ 2) : mlen y m = 31 := by
  have e : ¬ (m = 4 ∨ m = 6 ∨ m = 9 ∨ m = 11) := by
    simp only [inV, eqV, List.any, Bool.or_false, Bool.or_eq_false_iff, beq_eq_false_iff_ne] at h
    omega
  unfold mlen
  rw [if_neg h2, if_neg e]
/-! ### every day has a date -/
theorem year_ex {d : Int} (h0 : 0 ≤ d) : ∀ k : Nat, d < ystart (2000 + (k : Int)) → ∃ y, 2000 ≤ y ∧ y < 2000 + (k : Int) ∧ ystart y ≤ d ∧ d < ystart (y + 1)
  | 0, h => by
    rw [show (2000 : Int) + ((0 : Nat) : Int) = 2000 from rfl, ystart_0] at h
    omega
  | k + 1, h => by
    by_cases c : d < ystart (2000 + (k : Int))
    · obtain ⟨y, h1, h2, h3, h4⟩ := year_ex h0 k c
      exact ⟨y, h1, by omega, h3, h4⟩
    · exact ⟨2000 + (k : Int), by omega, by omega, by omega, by rw [show (2000 : Int) + ((k + 1 : Nat) : Int) = 2000 + (k : Int) + 1 by omega] at h; exact h⟩
theorem month_ex (y : Int) {r : Int} (h0 : 0 ≤ r) : ∀ k : Nat, k ≤ 12 → r < mstart y (1 + (k : Int)) → ∃ m, 1 ≤ m ∧ m < 1 + (k : Int) ∧ mstart y m ≤ r ∧ r < mstart y m + mlen y m
  | 0, _, h => by
    rw [show (1 : Int) + ((0 : Nat) : Int) = 1 from rfl, mstart_1] at h
    omega
  | k + 1, hk, h => by
    by_cases c : r < mstart y (1 + (k : Int))
    · obtain ⟨m, h1, h2, h3, h4⟩ := month_ex y h0 k (by omega) c
      exact ⟨m, h1, by omega, h3, h4⟩
    · refine ⟨1 + (k : Int), by omega, by omega, by omega, ?_⟩
      rw [← mstart_next y (1 + (k : Int)) (by omega) (by omega), show (1 : Int) + (k : Int) + 1 = 1 + ((k + 1 : Nat) : Int) by omega]
      exact h
theorem date_ex {d : Int} (h0 : 0 ≤ d) (h1 : d ≤ 73048) : ∃ y m x, IsDate y m x ∧ dayOf y m x = d := by
  obtain ⟨y, a1, a2, a3, a4⟩ := year_ex h0 200 (by rw [show (2000 : Int) + ((200 : Nat) : Int) = 2200 from rfl, ystart_end]; omega)
  have e := ystart_next y
  have e13 := mstart_13 y
  obtain ⟨m, b1, b2, b3, b4⟩ := month_ex y (r := d - ystart y) (by omega) 12 (by decide) (by rw [show (1 : Int) + ((12 : Nat) : Int) = 13 from rfl]; omega)
  exact ⟨y, m, d - ystart y - mstart y m + 1, ⟨a1, by omega, b1, by omega, by omega, by omega⟩, by unfold dayOf; omega⟩
theorem date_lt {y m d y' m' d' : Int} (h : IsDate y m d) (h' : IsDate y' m' d') (e : 12 * y + m < 12 * y' + m') : dayOf y m d < dayOf y' m' d' := by
  have a := date_in_year h
  have b := date_in_year h'
  have := h.m0; have := h.m1; have := h'.m0; have := h'.m1
  by_cases c : y < y'
  · have := ystart_mono (y := y + 1) (z := y') (by omega)
    omega
  · have ey : y = y' := by omega
    subst ey
    have l := mstart_mono y (m := m) (n := m') (by omega) (by omega) (by omega)
    have := h.d1
    have := h'.d0
    unfold dayOf
    omega
end LB

set_option Elab.async false
set_option linter.all false
set_option maxRecDepth 100000
set_option maxHeartbeats 4000000
/-! day counts: the plain side -/
namespace LB
open PySem PySem.Spec PyProof.Rows L2
def partsOf (z : Str) : Option Int := if z = "actual/365" then some 365 else if z = "actual/360" then some 360 else if z = "30/360" then some 360 else if z = "actual/actual" then some 133590 else none
/-- a day's place on the scale of a convention -/
def posOf (z : Str) (y m x : Int) : Int := if z = "actual/365" ∨ z = "actual/360" then dayOf y m x else if z = "30/360" then 360 * (y - 2000) + 30 * (m - 1) + (if 30 < x then 30 else x) - 1 else 133590 * (y - 2000) + (dayOf y m x - ystart y) * (if leapB y = true then 365 else 366)
theorem in_two {x a b : Str} : inV (.str x) [.str a, .str b] = true ↔ x = a ∨ x = b := by
  show ((a == x) || ((b == x) || false)) = true ↔ _
  rw [Bool.or_false, Bool.or_eq_true, beq_iff_eq, beq_iff_eq]
  exact ⟨fun h => h.elim (fun e => .inl e.symm) fun e => .inr e.symm, fun h => h.elim (fun e => .inl e.symm) fun e => .inr e.symm⟩
theorem posOf_act {z : Str} (h : z = "actual/365" ∨ z = "actual/360") (y m x : Int) : posOf z y m x = dayOf y m x := by
  unfold posOf
  rw [if_pos h]
theorem posOf_30 {z : Str} (h : ¬ (z = "actual/365" ∨ z = "actual/360")) (h2 : z = "30/360") (y m x : Int) : posOf z y m x = 360 * (y - 2000) + 30 * (m - 1) + (if 30 < x then 30 else x) - 1 := by
  unfold posOf
  rw [if_neg h, if_pos h2]
theorem posOf_aa {z : Str} (h : ¬ (z = "actual/365" ∨ z = "actual/360")) (h2 : ¬ z = "30/360") (y m x : Int) : posOf z y m x = 133590 * (y - 2000) + (dayOf y m x - ystart y) * (if leapB y = true then 365 else 366) := by
  unfold posOf
  rw [if_neg h, if_neg h2]
theorem date_ex3 {d : Int} (h0 : 0 ≤ d) (h1 : d ≤ 73048) : ∃ t : Int × Int × Int, IsDate t.1 t.2.1 t.2.2 ∧ dayOf t.1 t.2.1 t.2.2 = d := by
  obtain ⟨y, m, x, h⟩ := date_ex h0 h1
  exact ⟨(y, m, x), h⟩
noncomputable def dOf (d : Int) : Int × Int × Int := if h : 0 ≤ d ∧ d ≤ 73048 then Classical.choose (date_ex3 h.1 h.2) else (2000, 1, 1)
theorem dOf_is {d : Int} (h0 : 0 ≤ d) (h1 : d ≤ 73048) : IsDate (dOf d).1 (dOf d).2.1 (dOf d).2.2 ∧ dayOf (dOf d).1 (dOf d).2.1 (dOf d).2.2 = d := by
  unfold dOf
  rw [dif_pos ⟨h0, h1⟩]
  exact Classical.choose_spec (date_ex3 h0 h1)
noncomputable def posD (z : Str) (d : Int) : Int := posOf z (dOf d).1 (dOf d).2.1 (dOf d).2.2
theorem posD_is {z : Str} {y m x d : Int} (hI : IsDate y m x) (hD : dayOf y m x = d) : posOf z y m x = posD z d := by
  have r := date_range hI
  rw [hD] at r
  have k := dOf_is r.1 r.2
  obtain ⟨e1, e2, e3⟩ := date_inj hI k.1 (hD.trans k.2.symm)
  unfold posD
  rw [← e1, ← e2, ← e3]
end LB

set_option Elab.async false
set_option linter.all false
set_option maxRecDepth 100000
set_option maxHeartbeats 4000000
/-! lists of tuples -/
namespace LB
open PySem PySem.Spec PyProof.Rows L2
/-- an object that may be written -/
def mutO : HO → Bool
  | .lst _ => true
  | .dK _ => true
  | .dT _ => true
  | .set _ _ => true
  | .ins _ _ _ => true
  | .own _ => true
  | .xd _ => true
  | _ => false
section
variable {K : PySem.W.Frag} {H H' : Hp} {a b D : Addr} {o o' : HO} {xs ys : List V}
theorem tup_put (e : H D = some o) (m : mutO o = true) (h : SqT K H a xs) : SqT K (upd H D o') a xs := by
  rcases h with (h | ⟨u, h⟩) | h
  · refine .inl (.inl ?_)
    rw [upd_ne (ne_of h e (by intro z; cases z; cases m))]
    exact h
  · refine .inl (.inr ⟨u, ?_⟩)
    rw [upd_ne (ne_of h e (by intro z; cases z; cases m))]
    exact h
  · exact .inr h
theorem tup_uniq (h1 : H a = some (.tup xs)) (h2 : H a = some (.tup ys)) : xs = ys := by
  rw [h1] at h2
  cases h2
  rfl
/-- vs are the addresses of the tuples rows -/
structure Tups (K : PySem.W.Frag) (H : Hp) (vs : List V) (rows : List (List V)) : Prop where
  len : vs.length = rows.length
  at_ : ∀ (i : Nat) (r : List V), rows[i]? = some r → ∃ a : Addr, vs[i]? = some (V.ref a) ∧ SqT K H a r
theorem Tups.nil : Tups K H [] [] := ⟨rfl, fun i r h => by simp at h⟩
theorem Tups.mono {vs : List V} {rows : List (List V)} (h : Tups K H vs rows) (f : ∀ a r, SqT K H a r → SqT K H' a r) : Tups K H' vs rows := ⟨h.len, fun i r e => by
  obtain ⟨a, h1, h2⟩ := h.at_ i r e
  exact ⟨a, h1, f a r h2⟩⟩
theorem Tups.same {vs : List V} {rows : List (List V)} (e : Same H H') (h : Tups K H vs rows) : Tups K H' vs rows := h.mono fun _ _ => same_tup e
theorem Tups.upd {vs : List V} {rows : List (List V)} (e : H D = none) (h : Tups K H vs rows) : Tups K (upd H D o) vs rows := h.mono fun _ _ => tup_upd e
theorem Tups.put {vs : List V} {rows : List (List V)} (e : H D = some o) (m : mutO o = true) (h : Tups K H vs rows) : Tups K (L2.upd H D o') vs rows := h.mono fun _ _ => tup_put e m
theorem Tups.snoc {vs : List V} {rows : List (List V)} {r : List V} (h : Tups K H vs rows) (t : SqT K H a r) : Tups K H (vs ++ [.ref a]) (rows ++ [r]) := by
  refine ⟨by simp [h.len], fun i z e => ?_⟩
  by_cases c : i < rows.length
  · rw [List.getElem?_append_left c] at e
    obtain ⟨b, h1, h2⟩ := h.at_ i z e
    exact ⟨b, by rw [List.getElem?_append_left (by rw [h.len]; exact c)]; exact h1, h2⟩
  · rw [List.getElem?_append_right (by omega)] at e
    have ei : i - rows.length = 0 := by
      by_cases z0 : i - rows.length = 0
      · exact z0
      · rw [List.getElem?_eq_none (by simp; omega)] at e
        cases e
    rw [ei] at e
    cases e
    refine ⟨a, ?_, t⟩
    rw [List.getElem?_append_right (by rw [h.len]; omega), h.len, ei]
    rfl
theorem Tups.append {vs us : List V} {rows more : List (List V)} (h : Tups K H vs rows) (g : Tups K H us more) : Tups K H (vs ++ us) (rows ++ more) := by
  refine ⟨by simp [h.len, g.len], fun i z e => ?_⟩
  by_cases c : i < rows.length
  · rw [List.getElem?_append_left c] at e
    obtain ⟨b, h1, h2⟩ := h.at_ i z e
    exact ⟨b, by rw [List.getElem?_append_left (by rw [h.len]; exact c)]; exact h1, h2⟩
  · rw [List.getElem?_append_right (by omega)] at e
    obtain ⟨b, h1, h2⟩ := g.at_ _ z e
    exact ⟨b, by rw [List.getElem?_append_right (by rw [h.len]; omega), h.len]; exact h1, h2⟩
theorem Tups.take {vs : List V} {rows : List (List V)} (h : Tups K H vs rows) (n : Nat) : Tups K H (vs.take n) (rows.take n) := by
  refine ⟨by simp [h.len], fun i z e => ?_⟩
  rw [List.getElem?_take] at e
  split at e
  · rename_i c
    obtain ⟨b, h1, h2⟩ := h.at_ i z e
    exact ⟨b, by rw [List.getElem?_take, if_pos c]; exact h1, h2⟩
  · cases e
theorem Tups.drop {vs : List V} {rows : List (List V)} (h : Tups K H vs rows) (n : Nat) : Tups K H (vs.drop n) (rows.drop n) := by
  refine ⟨by simp [h.len], fun i z e => ?_⟩
  rw [List.getElem?_drop] at e
  obtain ⟨b, h1, h2⟩ := h.at_ _ z e
  exact ⟨b, by rw [List.getElem?_drop]; exact h1, h2⟩
theorem Tups.cons {vs : List V} {rows : List (List V)} {r : List V} (t : SqT K H a r) (h : Tups K H vs rows) : Tups K H (.ref a :: vs) (r :: rows) := by
  refine ⟨by simp [h.len], fun i z e => ?_⟩
  cases i with
  | zero =>
    cases e
    exact ⟨a, rfl, t⟩
  | succ j => exact h.at_ j z e
theorem Tups.of_cons {vs : List V} {rows : List (List V)} {r : List V} (h : Tups K H vs (r :: rows)) : ∃ (a : Addr) (us : List V), vs = V.ref a :: us ∧ SqT K H a r ∧ Tups K H us rows := by
  obtain ⟨a, h1, h2⟩ := h.at_ 0 r rfl
  cases vs with
  | nil => cases h1
  | cons v us =>
    cases h1
    exact ⟨a, us, rfl, h2, by have := h.len; simpa using this, fun i z e => h.at_ (i + 1) z e⟩
theorem Tups.dp : ∀ {rows : List (List V)} {vs : List V}, Tups K H vs rows → (∀ r ∈ rows, r.all flatS = true) → DpAll K H vs (rows.map fun r => .tuple (r.map pd))
  | [], vs, h, _ => by
    have := h.len
    cases vs with
    | nil => exact .nil
    | cons v us => simp at this
  | r :: rows, vs, h, f => by
    obtain ⟨a, us, rfl, t, g⟩ := h.of_cons
    exact .cons (.tup t (dpAll_pd (f r (List.mem_cons_self ..)))) (Tups.dp g fun z hz => f z (List.mem_cons_of_mem _ hz))
end
def eqLL : List (List V) → List (List V) → Bool
  | [], [] => true
  | x :: xs, y :: ys => eqL x y && eqLL xs ys
  | _, _ => false
theorem layRows : ∀ {rows : List (List V)}, (∀ r ∈ rows, r.all flatS = true) → PyData.canLayAll0 (rows.map fun r => PyData.tuple (r.map pd)) = true ∧ PyData.depthAll (rows.map fun r => PyData.tuple (r.map pd)) ≤ 1
  | [], _ => ⟨by simp only [List.map, PyData.canLayAll0], by simp only [List.map, PyData.depthAll]; omega⟩
  | r :: rows, f => by
    have a := layAll_pd (f r (List.mem_cons_self ..))
    have b := layRows fun z hz => f z (List.mem_cons_of_mem r hz)
    simp only [List.map, PyData.canLayAll0, PyData.depthAll, PyData.canLay0, PyData.depth, a.1, a.2, b.1]
    refine ⟨rfl, ?_⟩
    have := b.2
    omega
theorem shapedRows {rows : List (List V)} (f : ∀ r ∈ rows, r.all flatS = true) : SeqAt.shaped (.list (rows.map fun r => PyData.tuple (r.map pd))) = true := by
  have a := layRows f
  unfold SeqAt.shaped
  simp only [PyData.canLay0, PyData.depth, a.1, Bool.true_and]
  exact decide_eq_true (by have := a.2; omega)
theorem eqvRows : ∀ {xs ys : List (List V)}, (∀ r ∈ xs, r.all flatS = true) → (∀ r ∈ ys, r.all flatS = true) → PyData.eqvAll (xs.map fun r => PyData.tuple (r.map pd)) (ys.map fun r => PyData.tuple (r.map pd)) = eqLL xs ys
  | [], [], _, _ => by simp only [List.map, PyData.eqvAll, eqLL]
  | [], _ :: _, _, _ => by simp only [List.map, PyData.eqvAll, eqLL]
  | _ :: _, [], _, _ => by simp only [List.map, PyData.eqvAll, eqLL]
  | x :: xs, y :: ys, h, k => by
    simp only [List.map, PyData.eqvAll, PyData.eqv, eqLL, eqvAll_pd (h x (List.mem_cons_self ..)) (k y (List.mem_cons_self ..)), eqvRows (fun z hz => h z (List.mem_cons_of_mem _ hz)) (fun z hz => k z (List.mem_cons_of_mem _ hz))]
/-- == of ints, texts, and None alone is equality -/
def sharpV : V → Bool
  | .int _ => true
  | .str _ => true
  | .non => true
  | _ => false
theorem eqV_iff {x y : V} (hx : sharpV x = true) (hy : sharpV y = true) : eqV x y = decide (x = y) := by
  cases x <;> first | cases hx | skip
  all_goals cases y <;> first | cases hy | skip
  all_goals first | (rw [Bool.eq_iff_iff]; simp [eqV]) | simp [eqV]
theorem eqL_iff : ∀ {xs ys : List V}, xs.all sharpV = true → ys.all sharpV = true → eqL xs ys = decide (xs = ys)
  | [], [], _, _ => by simp [eqL]
  | [], _ :: _, _, _ => by simp [eqL]
  | _ :: _, [], _, _ => by simp [eqL]
  | x :: xs, y :: ys, h, k => by
    have h2 := Bool.and_eq_true_iff.mp (List.all_cons .. ▸ h)
    have k2 := Bool.and_eq_true_iff.mp (List.all_cons .. ▸ k)
    rw [eqL, eqV_iff h2.1 k2.1, eqL_iff h2.2 k2.2]
    by_cases c1 : x = y <;> by_cases c2 : xs = ys <;> simp [c1, c2]
theorem eqLL_iff : ∀ {xs ys : List (List V)}, (∀ r ∈ xs, r.all sharpV = true) → (∀ r ∈ ys, r.all sharpV = true) → eqLL xs ys = decide (xs = ys)
  | [], [], _, _ => by simp [eqLL]
  | [], _ :: _, _, _ => by simp [eqLL]
  | _ :: _, [], _, _ => by simp [eqLL]
  | x :: xs, y :: ys, h, k => by
    rw [eqLL, eqL_iff (h x (List.mem_cons_self ..)) (k y (List.mem_cons_self ..)), eqLL_iff (fun z hz => h z (List.mem_cons_of_mem _ hz)) (fun z hz => k z (List.mem_cons_of_mem _ hz))]
    by_cases c1 : x = y <;> by_cases c2 : xs = ys <;> simp [c1, c2]
theorem eqLL_self : ∀ {xs : List (List V)}, (∀ r ∈ xs, r.all flatS = true) → eqLL xs xs = true
  | [], _ => rfl
  | x :: xs, h => by rw [eqLL, eqL_self (h x (List.mem_cons_self ..)), eqLL_self (fun z hz => h z (List.mem_cons_of_mem _ hz))]; rfl
section
variable {K : PySem.W.Frag} {H : Hp} {a b : Addr} {vs us : List V} {xs ys : List (List V)} {Q : VK}
theorem eqD_R (h1 : SqL K H a vs) (t1 : Tups K H vs xs) (h2 : SqL K H b us) (t2 : Tups K H us ys) (f1 : ∀ r ∈ xs, r.all flatS = true) (f2 : ∀ r ∈ ys, r.all flatS = true) (q : Q (.bl (eqLL xs ys)) H) : rEqD K (.ref a) (.ref b) H Q := by
  refine ⟨_, _, .lst h1 (t1.dp f1), .lst h2 (t2.dp f2), shapedRows f1, shapedRows f2, ?_⟩
  simp only [PyData.eqv, eqvRows f1 f2]
  exact q
theorem neD_R (h1 : SqL K H a vs) (t1 : Tups K H vs xs) (h2 : SqL K H b us) (t2 : Tups K H us ys) (f1 : ∀ r ∈ xs, r.all flatS = true) (f2 : ∀ r ∈ ys, r.all flatS = true) (q : Q (.bl (!eqLL xs ys)) H) : rNeD K (.ref a) (.ref b) H Q := by
  refine ⟨_, _, .lst h1 (t1.dp f1), .lst h2 (t2.dp f2), shapedRows f1, shapedRows f2, ?_⟩
  simp only [PyData.eqv, eqvRows f1 f2]
  exact q
end
/-! ### rows of ints -/
/-- a tuple of ints -/
def irow (r : List Int) : List V := r.map V.int
theorem irow_flat (r : List Int) : (irow r).all flatS = true := flatI
theorem irow_sharp (r : List Int) : (irow r).all sharpV = true := by
  unfold irow
  rw [List.all_map]
  exact List.all_eq_true.mpr fun _ _ => rfl
theorem irow_inj {r s : List Int} (h : irow r = irow s) : r = s := by
  unfold irow at h
  exact (List.map_inj_right (fun x y e => V.int.inj e)).mp h
theorem irows_flat {rs : List (List Int)} : ∀ r ∈ rs.map irow, r.all flatS = true := by
  intro r h
  obtain ⟨z, _, rfl⟩ := List.mem_map.mp h
  exact irow_flat z
theorem irows_sharp {rs : List (List Int)} : ∀ r ∈ rs.map irow, r.all sharpV = true := by
  intro r h
  obtain ⟨z, _, rfl⟩ := List.mem_map.mp h
  exact irow_sharp z
theorem irows_inj {r s : List (List Int)} (h : r.map irow = s.map irow) : r = s := (List.map_inj_right (fun x y e => irow_inj e)).mp h
theorem eqLL_i {xs ys : List (List Int)} : eqLL (xs.map irow) (ys.map irow) = decide (xs = ys) := by
  rw [eqLL_iff irows_sharp irows_sharp]
  by_cases c : xs = ys
  · rw [decide_eq_true c, decide_eq_true (by rw [c])]
  · rw [decide_eq_false c, decide_eq_false fun z => c (irows_inj z)]
/-! ### cut lists -/
theorem cutV_lo {xs : List V} {k : Nat} (h : k ≤ xs.length) : cutV xs none (some (k : Int)) = xs.take k := by
  unfold cutV
  have e1 : HT.sIx xs.length 0 none = 0 := rfl
  have e2 : HT.sIx xs.length xs.length (some (k : Int)) = k := by
    simp only [HT.sIx]
    split <;> omega
  rw [e1, e2, List.drop_zero, Nat.sub_zero]
theorem cutV_hi {xs : List V} {k : Nat} (h : k ≤ xs.length) : cutV xs (some (k : Int)) none = xs.drop k := by
  unfold cutV
  have e1 : HT.sIx xs.length 0 (some (k : Int)) = k := by
    simp only [HT.sIx]
    split <;> omega
  have e2 : HT.sIx xs.length xs.length none = xs.length := rfl
  rw [e1, e2, List.take_of_length_le (by simp)]
section
variable {K : PySem.W.Frag} {H : Hp} {a p t : Addr} {us : List V} {rows : List (List V)} {r : List V}
theorem Tups.set (h : Tups K H us rows) (t : SqT K H a r) (k : Nat) : Tups K H (us.set k (.ref a)) (rows.set k r) := by
  refine ⟨by simp [h.len], fun i z e => ?_⟩
  rw [List.getElem?_set] at e ⊢
  by_cases c : k = i
  · rw [if_pos c] at e ⊢
    split at e
    · rename_i c2
      rw [if_pos (by rw [h.len]; exact c2)]
      cases e
      exact ⟨a, rfl, t⟩
    · cases e
  · rw [if_neg c] at e ⊢
    exact h.at_ i z e
theorem app_tups {o : List V} (hp : H p = some (.lst o)) (nt : H t = none) (h : Tups K H us rows) {o' : HO} : Tups K (L2.upd (L2.upd H t (.tup r)) p o') (us ++ [.ref t]) (rows ++ [r]) := ((h.upd nt).snoc (t_of upd_same)).put (hp_upd nt hp) rfl
theorem atI_neg1 {xs : List V} {k : Nat} {v : V} (h : xs.length = k + 1) (e : xs[k]? = some v) : atI xs (-1) = some v := by
  unfold atI
  have e1 : ixN xs.length (-1) = some k := by
    unfold ixN
    rw [if_neg (by decide), if_pos (by omega)]
    congr 1
    omega
  rw [e1]
  exact e
theorem ixN_neg1 {n k : Nat} (h : n = k + 1) : ixN n (-1) = some k := by
  unfold ixN
  rw [if_neg (by decide), if_pos (by omega)]
  congr 1
  omega
theorem ixN_nat {n k : Nat} {i : Int} (e : i = k) (h : k < n) : ixN n i = some k := by
  subst e
  unfold ixN
  rw [if_pos (by omega), if_pos (by omega)]
  simp
/-- the tuple at place i -/
theorem Tups.get (h : Tups K H us rows) {i : Nat} (e : rows[i]? = some r) : ∃ a : Addr, atI us (i : Int) = some (V.ref a) ∧ SqT K H a r := by
  obtain ⟨a, h1, h2⟩ := h.at_ i r e
  exact ⟨a, atI_nat h1, h2⟩
theorem Tups.last (h : Tups K H us (rows ++ [r])) : ∃ a : Addr, atI us (-1) = some (V.ref a) ∧ SqT K H a r := by
  obtain ⟨a, h1, h2⟩ := h.at_ rows.length r (by simp)
  exact ⟨a, atI_neg1 (k := rows.length) (by rw [h.len]; simp) h1, h2⟩
end
end LB

set_option Elab.async false
set_option linter.all false
set_option maxRecDepth 100000
set_option maxHeartbeats 4000000
/-! ratios in lowest terms: the plain side -/
namespace LB
open PySem PySem.Spec PyProof.Rows L2
/-- t by b in lowest terms -/
def low (t b : Int) : Int × Int := if b < 0 then (-t / (Nat.gcd t.natAbs b.natAbs : Nat), -b / (Nat.gcd t.natAbs b.natAbs : Nat)) else (t / (Nat.gcd t.natAbs b.natAbs : Nat), b / (Nat.gcd t.natAbs b.natAbs : Nat))
theorem low_pos {t b : Int} (h : b ≠ 0) : 0 < (low t b).2 := by
  have g0 : 0 < Nat.gcd t.natAbs b.natAbs := Nat.gcd_pos_of_pos_right _ (by omega)
  have dv : (Nat.gcd t.natAbs b.natAbs : Int) ∣ b := Int.ofNat_dvd_left.mpr (Nat.gcd_dvd_right _ _)
  unfold low
  by_cases c : b < 0
  · rw [if_pos c]
    exact Int.ediv_pos_of_pos_of_dvd (by omega) (by omega) (Int.dvd_neg.mpr dv)
  · rw [if_neg c]
    exact Int.ediv_pos_of_pos_of_dvd (by omega) (by omega) dv
theorem low_sz1 {t b : Int} {n : Nat} (h : Sz n t) : Sz n (low t b).1 := by
  unfold low
  split
  · exact h.neg.div
  · exact h.div
theorem low_sz2 {t b : Int} {n : Nat} (h : Sz n b) : Sz n (low t b).2 := by
  unfold low
  split
  · exact h.neg.div
  · exact h.div
/-- without a common factor, and cross-multiplied equal -/
theorem low_is {t b : Int} (h : b ≠ 0) : Nat.gcd (low t b).1.natAbs (low t b).2.natAbs = 1 ∧ (low t b).1 * b = t * (low t b).2 := by
  have g0 : 0 < Nat.gcd t.natAbs b.natAbs := Nat.gcd_pos_of_pos_right _ (by omega)
  have d1 : (Nat.gcd t.natAbs b.natAbs : Int) ∣ t := Int.ofNat_dvd_left.mpr (Nat.gcd_dvd_left _ _)
  have d2 : (Nat.gcd t.natAbs b.natAbs : Int) ∣ b := Int.ofNat_dvd_left.mpr (Nat.gcd_dvd_right _ _)
  generalize hg : Nat.gcd t.natAbs b.natAbs = g at *
  obtain ⟨t1, rfl⟩ := d1
  obtain ⟨b1, rfl⟩ := d2
  have gne : (g : Int) ≠ 0 := by omega
  have e1 : (g : Int) * t1 / (g : Int) = t1 := Int.mul_ediv_cancel_left _ gne
  have e2 : (g : Int) * b1 / (g : Int) = b1 := Int.mul_ediv_cancel_left _ gne
  have e3 : -((g : Int) * t1) / (g : Int) = -t1 := by rw [← Int.mul_neg, Int.mul_ediv_cancel_left _ gne]
  have e4 : -((g : Int) * b1) / (g : Int) = -b1 := by rw [← Int.mul_neg, Int.mul_ediv_cancel_left _ gne]
  have cop : Nat.gcd t1.natAbs b1.natAbs = 1 := by
    rw [Int.natAbs_mul, Int.natAbs_mul, Int.natAbs_natCast, Nat.gcd_mul_left] at hg
    exact Nat.eq_of_mul_eq_mul_left g0 (by omega)
  unfold low
  rw [show Nat.gcd ((g : Int) * t1).natAbs ((g : Int) * b1).natAbs = g from hg]
  by_cases c : (g : Int) * b1 < 0
  · rw [if_pos c, e3, e4]
    refine ⟨by rw [Int.natAbs_neg, Int.natAbs_neg]; exact cop, ?_⟩
    show -t1 * ((g : Int) * b1) = (g : Int) * t1 * -b1
    rw [Int.neg_mul, Int.mul_neg]
    congr 1
    rw [← Int.mul_assoc, Int.mul_comm t1]
  · rw [if_neg c, e1, e2]
    refine ⟨cop, ?_⟩
    show t1 * ((g : Int) * b1) = (g : Int) * t1 * b1
    rw [← Int.mul_assoc, Int.mul_comm t1]
theorem low_uniq {u v u' v' : Int} (c : Nat.gcd u.natAbs v.natAbs = 1) (c' : Nat.gcd u'.natAbs v'.natAbs = 1) (p : 0 < v) (p' : 0 < v') (h : u * v' = u' * v) : u = u' ∧ v = v' := by
  have e : u.natAbs * v'.natAbs = u'.natAbs * v.natAbs := by rw [← Int.natAbs_mul, ← Int.natAbs_mul, h]
  have d1 : v.natAbs ∣ v'.natAbs := by
    have : v.natAbs ∣ u.natAbs * v'.natAbs := ⟨u'.natAbs, by rw [e, Nat.mul_comm]⟩
    exact Nat.Coprime.dvd_of_dvd_mul_left (show Nat.Coprime v.natAbs u.natAbs by rw [Nat.Coprime, Nat.gcd_comm]; exact c) this
  have d2 : v'.natAbs ∣ v.natAbs := by
    have : v'.natAbs ∣ u'.natAbs * v.natAbs := ⟨u.natAbs, by rw [← e, Nat.mul_comm]⟩
    exact Nat.Coprime.dvd_of_dvd_mul_left (show Nat.Coprime v'.natAbs u'.natAbs by rw [Nat.Coprime, Nat.gcd_comm]; exact c') this
  have ev : v = v' := by
    have := Nat.dvd_antisymm d1 d2
    omega
  subst ev
  exact ⟨Int.eq_of_mul_eq_mul_right (by omega) h, rfl⟩
/-- equal ratios have the same lowest terms -/
theorem low_eq {t b t' b' : Int} (h0 : b ≠ 0) (h1 : b' ≠ 0) (h : t * b' = t' * b) : low t b = low t' b' := by
  obtain ⟨c, e⟩ := low_is (t := t) h0
  obtain ⟨c', e'⟩ := low_is (t := t') h1
  have p := low_pos (t := t) h0
  have p' := low_pos (t := t') h1
  generalize low t b = x at *
  generalize low t' b' = y at *
  obtain ⟨u, v⟩ := x
  obtain ⟨u', v'⟩ := y
  simp only at c e c' e' p p'
  -- u * b = t * v, u' * b' = t' * v'
  have k : u * v' = u' * v := by
    have m1 : u * b * (b' * v') = t * v * (b' * v') := by rw [e]
    have m2 : u' * b' * (b * v) = t' * v' * (b * v) := by rw [e']
    have m3 : t * v * (b' * v') = t' * v' * (b * v) := by
      have : t * v * (b' * v') = t * b' * (v * v') := by
        rw [Int.mul_assoc, Int.mul_assoc]; congr 1; rw [← Int.mul_assoc, ← Int.mul_assoc, Int.mul_comm v]
      rw [this, h]
      rw [Int.mul_assoc, Int.mul_assoc]; congr 1
      rw [← Int.mul_assoc, ← Int.mul_assoc, Int.mul_comm b v, Int.mul_assoc, Int.mul_comm b v', ← Int.mul_assoc, Int.mul_comm v v', Int.mul_assoc, Int.mul_comm v b, ← Int.mul_assoc]
    have m4 : u * v' * (b * b') = u' * v * (b * b') := by
      have a1 : u * v' * (b * b') = u * b * (b' * v') := by
        rw [Int.mul_assoc, Int.mul_assoc]; congr 1
        rw [← Int.mul_assoc, Int.mul_comm v' b, Int.mul_assoc, Int.mul_comm v' b']
      have a2 : u' * v * (b * b') = u' * b' * (b * v) := by
        rw [Int.mul_assoc, Int.mul_assoc]; congr 1
        rw [Int.mul_comm b b', ← Int.mul_assoc, Int.mul_comm v b', Int.mul_assoc, Int.mul_comm v b]
      rw [a1, a2, m1, m2, m3]
    exact Int.eq_of_mul_eq_mul_right (Int.mul_ne_zero h0 h1) m4
  obtain ⟨rfl, rfl⟩ := low_uniq c c' p p' k
  rfl
theorem low_low {t b : Int} (h : b ≠ 0) : low (low t b).1 (low t b).2 = low t b := by
  obtain ⟨_, e⟩ := low_is (t := t) h
  have p := low_pos (t := t) h
  exact low_eq (by omega) h e
/-- the sum of two ratios with one bottom -/
theorem low_add {t s b : Int} (h : b ≠ 0) : low ((low t b).1 * (low s b).2 + (low s b).1 * (low t b).2) ((low t b).2 * (low s b).2) = low (t + s) b := by
  obtain ⟨_, e⟩ := low_is (t := t) h
  obtain ⟨_, e'⟩ := low_is (t := s) h
  have p := low_pos (t := t) h
  have p' := low_pos (t := s) h
  generalize low t b = x at *
  generalize low s b = y at *
  obtain ⟨u, v⟩ := x
  obtain ⟨u', v'⟩ := y
  simp only at e e' p p' ⊢
  refine low_eq (Int.mul_ne_zero (by omega) (by omega)) h ?_
  rw [Int.add_mul, Int.add_mul]
  have a1 : u * v' * b = t * (v * v') := by rw [Int.mul_assoc, Int.mul_comm v' b, ← Int.mul_assoc, e, Int.mul_assoc]
  have a2 : u' * v * b = s * (v * v') := by rw [Int.mul_assoc, Int.mul_comm v b, ← Int.mul_assoc, e', Int.mul_assoc, Int.mul_comm v' v]
  rw [a1, a2]
theorem low_sub {t s b : Int} (h : b ≠ 0) : low ((low t b).1 * (low s b).2 - (low s b).1 * (low t b).2) ((low t b).2 * (low s b).2) = low (t - s) b := by
  obtain ⟨_, e⟩ := low_is (t := t) h
  obtain ⟨_, e'⟩ := low_is (t := s) h
  have p := low_pos (t := t) h
  have p' := low_pos (t := s) h
  generalize low t b = x at *
  generalize low s b = y at *
  obtain ⟨u, v⟩ := x
  obtain ⟨u', v'⟩ := y
  simp only at e e' p p' ⊢
  refine low_eq (Int.mul_ne_zero (by omega) (by omega)) h ?_
  rw [Int.sub_mul, Int.sub_mul]
  have a1 : u * v' * b = t * (v * v') := by rw [Int.mul_assoc, Int.mul_comm v' b, ← Int.mul_assoc, e, Int.mul_assoc]
  have a2 : u' * v * b = s * (v * v') := by rw [Int.mul_assoc, Int.mul_comm v b, ← Int.mul_assoc, e', Int.mul_assoc, Int.mul_comm v' v]
  rw [a1, a2]
theorem low_whole (c : Int) {b : Int} (h : b ≠ 0) : low c 1 = low (c * b) b := low_eq (by decide) h (by rw [Int.mul_one])
structure PairAt (K : PySem.W.Frag) (H : Hp) (p : Addr) (u v : Int) : Prop where
  at_ : SqT K H p [.int u, .int v]
  pos : 0 < v
  s1 : Sz 210 u
  s2 : Sz 210 v
theorem PairAt.same {K : PySem.W.Frag} {H H' : Hp} {p : Addr} {u v : Int} (h : PairAt K H p u v) (s : Same H H') : PairAt K H' p u v := ⟨same_tup s h.at_, h.pos, h.s1, h.s2⟩
theorem low_pair {K : PySem.W.Frag} {H : Hp} {p : Addr} {t b : Int} (h : H p = some (.tup [.int (low t b).1, .int (low t b).2])) (b0 : b ≠ 0) (h1 : Sz 210 t) (h2 : Sz 210 b) : PairAt K H p (low t b).1 (low t b).2 :=
  ⟨t_of h, low_pos b0, low_sz1 h1, low_sz2 h2⟩
theorem Sz.add1 {n : Nat} {i j : Int} (a : Sz n i) (b : Sz n j) : Sz (n + 1) (i + j) := by
  have h1 := a.lt
  have h2 := b.lt
  have h3 := Int.natAbs_add_le i j
  refine ⟨?_⟩
  rw [Nat.pow_succ]
  omega
theorem low_zero {b : Int} (h : b ≠ 0) : low 0 b = (0, 1) := by
  rw [low_eq (t' := 0) (b' := 1) h (by decide) (by simp)]
  rfl
end LB

set_option Elab.async false
set_option linter.all false
set_option maxRecDepth 100000
set_option maxHeartbeats 4000000
/-! objects of own classes: calls of methods and of classes that may raise, also within a try -/
namespace LB
open PySem PySem.Spec PyProof.Rows L2
section
variable {X : Cx} {CX : CXT} {k : Nat} {C f : Addr} {fd : FuncData} {ps : List Str} {sp : Sp} {E : L2.St → XK} {m x : Str} {o e : Expr} {es : List Expr} {ta : TE} {t : TA} {p pos apos : Pos}
/-- o.m(e, ..): the receiver stands ahead of the arguments -/
def tMethS (C : Addr) (m : Str) (sp : Sp) (E : L2.St → XK) (ta : TE) (t : TA) : TE := fun σ H Q => ta σ H fun y H1 => ∃ a dx fs,
  y = .ref a ∧ H1 a = some (.ins C dx fs) ∧ fs.lookup m = none ∧ t σ H1 fun vs H2 => sp (.ref a :: vs) H2 Q (E σ)
theorem pe_methX {pl : Sem Bool} (F : FnOk X.prog X.w X.K X.mg X.base CX k f fd ps sp) (hr : Room k X.A)
    (c : Cls X.K C) (hm : Meth X.K C m f) (hb : Binds X.K fd ps []) (hx : ∀ σ, PassesAt CX X σ (E σ)) (he : PE X o ta) (ha : PA X (e :: es) t)
    (hst : starEach (e :: es) X.env = (false, eval e X.env) :: starEach es X.env := by rfl)
    (hpl : (backTo pos (starEach es X.env)).any (·.1) = false := by rfl)
    (ht : eval (.Call (.Attribute o m apos) (e :: es) [] pos) X.env = (eval o X.env >>= fun ov => standAt apos.atName >>= fun _ =>
      holding [ov] (getMethod ov m pl) >>= fun r => callWith pos r.1 r.2 (backTo pos (starEach (e :: es) X.env)) (backToKw pos (keywordEach [] X.env))) := by rfl) :
    PE X (.Call (.Attribute o m apos) (e :: es) [] pos) (tMethS C m sp E ta t) := by
  constructor
  intro pins s σ H Q I h
  refine PySem.W.methodCall_KW (pl := pl) ?_ ht
  refine thn (he.run pins s σ H _ I h) ?_
  rintro u s1 ⟨y, H1, I1, ry, a, dx, fs, rfl, ea, l, q⟩
  cases (show u = Value.ref a from ry)
  refine getmeth_ok I1 ea c hm l (PySem.W.callWith_K (first := [.ref a]) (h₀ := X.base) I.ok.mod.kin hm.kp ?_ hst hpl)
  refine thn (ha.run pos pins s1 σ H1 _ I1 q) ?_
  rintro us s2 ⟨vs, H2, I2, rv, q2⟩
  exact ⟨I2.kIn, run_fnS (us := .ref a :: us) (vs := .ref a :: vs) F hr hb (hx σ) I2 (.cons rfl rv) q2⟩
theorem pe_methX0 {pl : Sem Bool} (F : FnOk X.prog X.w X.K X.mg X.base CX k f fd ps sp) (hr : Room k X.A)
    (c : Cls X.K C) (hm : Meth X.K C m f) (hb : Binds X.K fd ps []) (hx : ∀ σ, PassesAt CX X σ (E σ)) (he : PE X o ta)
    (ht : eval (.Call (.Attribute o m apos) [] [] pos) X.env = (eval o X.env >>= fun ov => standAt apos.atName >>= fun _ =>
      holding [ov] (getMethod ov m pl) >>= fun r => callWith pos r.1 r.2 (backTo pos (starEach [] X.env)) (backToKw pos (keywordEach [] X.env))) := by rfl) :
    PE X (.Call (.Attribute o m apos) [] [] pos) (tMethS C m sp E ta tNil) := by
  constructor
  intro pins s σ H Q I h
  refine PySem.W.methodCall_KW (pl := pl) ?_ ht
  refine thn (he.run pins s σ H _ I h) ?_
  rintro u s1 ⟨y, H1, I1, ry, a, dx, fs, rfl, ea, l, q⟩
  cases (show u = Value.ref a from ry)
  exact getmeth_ok I1 ea c hm l (PySem.W.callWith_K0 (first := [.ref a]) I1.kIn hm.kp (run_fnS (us := [.ref a]) (vs := [.ref a]) F hr hb (hx σ) I1 (.cons rfl .nil) q))
/-- C(e, ..): a new instance goes through __init__ -/
def tMakeS (C : Addr) (sp : Sp) (E : L2.St → XK) (t : TA) : TE := fun σ H Q => t σ H fun vs H1 => ∀ y dy, H1 y = none → H1 dy = none → dy ≠ y →
  sp (.ref y :: vs) (upd (upd H1 dy (.own y)) y (.ins C dy [])) (fun v H2 => v = .non ∧ Q (.ref y) H2) (E σ)
theorem make_runX {pins : List (Addr × Obj)} {s : Shared} {σ : L2.St} {H : Hp} {Q : VK} {us : List Value} {vs : List V} (M : Mk X.K C f) (F : FnOk X.prog X.w X.K X.mg X.base CX k f fd ps sp) (hr : Room (k + 1) X.A)
    (hb : Binds X.K fd ps []) (hx : PassesAt CX X σ (E σ)) (I : Inv X pins σ H s) (r : Vals vs us)
    (h : ∀ y dy, H y = none → H dy = none → dy ≠ y → sp (.ref y :: vs) (upd (upd H dy (.own y)) y (.ins C dy [])) (fun v H2 => v = .non ∧ Q (.ref y) H2) (E σ)) :
    wpAny (model X.prog X.w) X.A (call (.ref C) us) (EP X pins σ Q) X.xe s := by
  have J := Inv.made (C := C) I
  have g := h (s.heap.objs.size + 1) s.heap.objs.size (I.hok.fresh (Nat.le_succ _)) (I.hok.fresh (Nat.le_refl _)) (Nat.ne_of_lt (Nat.lt_succ_self s.heap.objs.size))
  have rr : Vals (V.ref (s.heap.objs.size + 1) :: vs) (Value.ref (s.heap.objs.size + 1) :: us) := Paired.cons (show RelV (V.ref (s.heap.objs.size + 1)) (Value.ref (s.heap.objs.size + 1)) from rfl) r
  have n : (Value.ref (s.heap.objs.size + 1) :: us).length = ps.length := (rr.length.symm).trans (F.len _ _ _ _ g)
  have run := F.run _ X.stack _ _ ⟨Value.ref (s.heap.objs.size + 1) :: us, []⟩ (Value.ref (s.heap.objs.size + 1) :: us) _ _ (E σ) (hr.make C us []) (J.env0.make C us [])
    (by have b := hb _ (Value.ref (s.heap.objs.size + 1) :: us) J.kIn (by simpa using n); simpa using b) rr g
  refine wpAny_call (make_map (f := f) I.kIn M.makes M.init (beq_iff_eq.mp M.fn) (codeAny_mono run ?_))
  rintro (e | fl) s' z
  · exact hx pins _ _ e s' J z
  · cases fl with
    | ret u =>
      obtain ⟨v, H', I3, rv, rfl, q3⟩ := J.after z
      exact ⟨rv, V.ref (s.heap.objs.size + 1), H', I3, rfl, q3⟩
    | next => exact z.elim
    | brk => exact z.elim
    | cont => exact z.elim
theorem pe_makeX (M : Mk X.K C f) (F : FnOk X.prog X.w X.K X.mg X.base CX k f fd ps sp) (hr : Room (k + 1) X.A) (hg : Gl X x) (hm : X.mg x = some (.ref C)) (hb : Binds X.K fd ps []) (hx : ∀ σ, PassesAt CX X σ (E σ))
    (ha : PA X (e :: es) t) (hdb : (x == ("__debug__" : Str)) = false := by decide)
    (he : starEach (e :: es) X.env = (false, eval e X.env) :: starEach es X.env := by rfl) (hpl : (backTo pos (starEach es X.env)).any (·.1) = false := by rfl) :
    PE X (.Call (.Name x p) (e :: es) [] pos) (tMakeS C sp E t) := by
  constructor
  intro pins s σ H Q I h
  refine wpAny_Call_Name_kw (ld_glob I hg hm ?_ hdb)
  refine PySem.W.callWith_K (h₀ := X.base) I.ok.mod.kin M.kp (thn (ha.run pos pins s σ H _ I h) ?_) he hpl
  rintro us s1 ⟨vs, H1, I1, r, q⟩
  exact ⟨I1.kIn, make_runX M F hr hb (hx σ) I1 r q⟩
end
/-! ### tuple(xs) -/
@[irreducible] def rTo (K : PySem.W.Frag) : List V → Hp → VK → Prop := fun vs H Q => ∃ p xs, vs = [.ref p] ∧ SqL K H p xs ∧ ∀ l, H l = none → Q (.ref l) (upd H l (.tup xs))
theorem call_to {X : Cx} : CallR X (.type "tuple") (rTo X.K) := fun pins s σ H xs us Q I r h => by
  unfold rTo at h
  obtain ⟨p, ys, rfl, hs, q⟩ := h
  exact call_tuple_of pins s σ H _ us Q I r ⟨p, ys, rfl, .inl ⟨hs, q⟩⟩
theorem to_go {K : PySem.W.Frag} {H : Hp} {p : Addr} {xs : List V} {Q : VK} (h : SqL K H p xs) (q : ∀ l, H l = none → Q (.ref l) (upd H l (.tup xs))) : rTo K [.ref p] H Q := by
  unfold rTo
  exact ⟨p, xs, rfl, h, q⟩
section
variable {X : Cx} {CX : CXT} {k : Nat} {C f : Addr} {fd : FuncData} {ps : List Str} {sp : Sp} {E : L2.St → XK} {x : Str} {p pos : Pos}
/-- C(): no arguments -/
theorem pe_makeX0 (M : Mk X.K C f) (F : FnOk X.prog X.w X.K X.mg X.base CX k f fd ps sp) (hr : Room (k + 1) X.A) (hg : Gl X x) (hm : X.mg x = some (.ref C)) (hb : Binds X.K fd ps []) (hx : ∀ σ, PassesAt CX X σ (E σ))
    (hdb : (x == ("__debug__" : Str)) = false := by decide) :
    PE X (.Call (.Name x p) [] [] pos) (tMakeS C sp E tNil) := by
  constructor
  intro pins s σ H Q I h
  refine wpAny_Call_Name_kw (ld_glob I hg hm ?_ hdb)
  exact PySem.W.callWith_K0 I.kIn M.kp (make_runX (us := []) (vs := []) M F hr hb (hx σ) I .nil h)
end
/-! ### fields -/
section
variable {K : PySem.W.Frag} {H : Hp} {a C dx : Addr} {fs : List (Str × V)} {f : Str} {v : V}
theorem fld_go {R : V → Prop} (e : H a = some (.ins C dx fs)) (c : Cls K C) (n : NoAttr K C f) (l : fs.lookup f = some v) (q : R v) : ∃ (a' C' dx' : Addr) (fs' : List (Str × V)) (v' : V), V.ref a = .ref a' ∧ H a' = some (.ins C' dx' fs') ∧ Cls K C' ∧ NoAttr K C' f ∧ fs'.lookup f = some v' ∧ R v' :=
  ⟨a, C, dx, fs, v, rfl, e, c, n, l, q⟩
theorem setf_go {R : Hp → Prop} (e : H a = some (.ins C dx fs)) (c : Cls K C) (n : NoAttr K C f) (l : fs.length < 1000) (q : R (upd H a (.ins C dx (putF f v fs)))) : ∃ (a' C' dx' : Addr) (fs' : List (Str × V)), V.ref a = .ref a' ∧ H a' = some (.ins C' dx' fs') ∧ Cls K C' ∧ NoAttr K C' f ∧ fs'.length < 1000 ∧ R (upd H a' (.ins C' dx' (putF f v fs'))) :=
  ⟨a, C, dx, fs, rfl, e, c, n, l, q⟩
end
end LB

set_option Elab.async false
set_option linter.all false
set_option maxRecDepth 100000
set_option maxHeartbeats 4000000
/-! dicts made in a def -/
namespace LB
open PySem PySem.Spec PyProof.Rows L2
section
variable {X : Cx}
theorem sw_dict {kx vx : Expr} {gs : List Comprehension} {scope : Scope} {pos py : Pos} {y : Str} {l : Nat} {env : Env} (hk : env.scope.kind = .function) (hy : env.scope.names.lookup y = some .local)
    (hl : (py.line == pos.line) = true) (ha : (scope.names.any fun (n, k) => n == y && (k == .local || k == .cell)) = false) : swapsWith (.DictComp kx vx gs scope pos) (some (.Name y py)) l env = pure true := by
  have ky : env.kindOf y = some .local := hy
  have hb : env.blockKind = .function := by
    unfold Env.blockKind
    rw [hk]; rfl
  unfold swapsWith
  simp only [hb, ky, ha, Expr.pos, hl]; rfl
/-- name = {k: v for ..} on one line, the name a local -/
theorem ps_setDc {i : Nat} {y : Str} {py : Pos} {kx vx tg iter : Expr} {ifs : List Expr} {scope : Scope} {own : List (Str × Nat)} {pos spos : Pos} {wi : TI} {g : TG} {tt : TT} {tk tv : TE}
    (hc : X.calm = true) (hN : X.N.Nodup) (hy : X.N[i]? = some y) (hyl : X.env.scope.names.lookup y = some .local)
    (hsw : swapsWith (.DictComp kx vx [⟨tg, iter, ifs, 0⟩] scope pos) (some (.Name y py)) spos.line X.env = pure true) (hi : PI X tg iter wi) (ok : BlkOk X.N X.env.scope scope own)
    (hg : ∀ (s : Shared) (H : Hp) (C : Addr) (cl : List (Str × Addr)) (fp : List Addr), PG (X.blk s H scope (compEnvC scope cl C X.env) fp) tg g)
    (ht : ∀ (s : Shared) (H : Hp) (C : Addr) (cl : List (Str × Addr)) (fp : List Addr), PTs (X.blk s H scope (compEnvC scope cl C X.env) fp) ifs tt)
    (hk : ∀ (s : Shared) (H : Hp) (C : Addr) (cl : List (Str × Addr)) (fp : List Addr), PE (X.blk s H scope (compEnvC scope cl C X.env) fp) kx tk)
    (he : ∀ (s : Shared) (H : Hp) (C : Addr) (cl : List (Str × Addr)) (fp : List Addr), PE (X.blk s H scope (compEnvC scope cl C X.env) fp) vx tv)
    (hs : ∀ x, foldedSetIterable iter X.env x = pure x := by intro _; rfl) :
    PS X (.Assign [.Name y py] (.DictComp kx vx [⟨tg, iter, ifs, 0⟩] scope pos) spos) (tAsg (tDc wi g tt tk tv (own.map (·.2))) (gName i)) := by
  constructor
  intro pins s σ H D I h
  rw [exec_Assign_Name_used _ _ _ _ hsw]
  refine wpAny_bind (wpAny_standAt (wpAny_bind (wpAny_bind (thn (dc_core (use := some (assign (.Name y py) X.env)) (Qf := fun _ t => SP X pins D .next t) hc hN I hi ok hg ht hk he hs
    (show tDc wi g tt tk tv (own.map (·.2)) σ H (fun x H1 => gName i x σ H1 D.nx) from h) ?_) ?_))))
  · intro L C t m H' J q hn f
    refine wpAny_assign_Name (store_ok2 (v := V.ref L) J hN hy (.inl hyl) rfl ?_ (.inr hyl))
    rintro s2 I2 ⟨a, sb, ha⟩
    obtain ⟨f0, f1, f2, f3, f4, f5⟩ := f
    have ne : C ≠ a := ha.elim (fun z => by rw [z]; exact f1) fun z e => f4 y a z e.symm
    exact ⟨m, hn.sameBut sb ne, fun h3 sb3 => ⟨_, H', I2.turned (t' := s2.toks) (fun b o hb e => (sb3.2 b hb).trans e) f0 f1 f3 f4 f5, q⟩⟩
  · exact fun _ t hq => wpAny_pure (wpAny_pure hq)
end
/-! ### reading and writing a dict -/
section
variable {H : Hp} {d : Addr} {kvs : List (Key × V)} {z : Str} {i : Int} {v : V} {r : Option V} {Q : VK}
theorem dgetS {R : Addr → V → Prop} (e : H d = some (.dK kvs)) (l : valV kvs (Sum.inr z) = some v) (q : R d v) : ∃ a v', V.ref d = .ref a ∧ DGet H a (.str z) (some v') ∧ R a v' :=
  ⟨d, v, rfl, l ▸ DGet.k (k := Sum.inr z) e, q⟩
theorem dgetI {R : Addr → V → Prop} (e : H d = some (.dK kvs)) (l : valV kvs (Sum.inl i) = some v) (q : R d v) : ∃ a v', V.ref d = .ref a ∧ DGet H a (.int i) (some v') ∧ R a v' :=
  ⟨d, v, rfl, l ▸ DGet.k (k := Sum.inl i) e, q⟩
theorem dinS {R : Addr → Option V → Prop} (e : H d = some (.dK kvs)) (l : valV kvs (Sum.inr z) = r) (q : R d r) : ∃ a o, V.ref d = .ref a ∧ DGet H a (.str z) o ∧ R a o :=
  ⟨d, r, rfl, l ▸ DGet.k (k := Sum.inr z) e, q⟩
theorem dinI {R : Addr → Option V → Prop} (e : H d = some (.dK kvs)) (l : valV kvs (Sum.inl i) = r) (q : R d r) : ∃ a o, V.ref d = .ref a ∧ DGet H a (.int i) o ∧ R a o :=
  ⟨d, r, rfl, l ▸ DGet.k (k := Sum.inl i) e, q⟩
theorem dniS {R : Addr → Option V → Prop} (e : H d = some (.dK kvs)) (l : valV kvs (Sum.inr z) = r) (q : R d r) : ∃ a o, V.ref d = .ref a ∧ DGet H a (.str z) o ∧ R a o :=
  ⟨d, r, rfl, l ▸ DGet.k (k := Sum.inr z) e, q⟩
theorem dniI {R : Addr → Option V → Prop} (e : H d = some (.dK kvs)) (l : valV kvs (Sum.inl i) = r) (q : R d r) : ∃ a o, V.ref d = .ref a ∧ DGet H a (.int i) o ∧ R a o :=
  ⟨d, r, rfl, l ▸ DGet.k (k := Sum.inl i) e, q⟩
theorem dputS {R : Hp → Prop} (e : H d = some (.dK kvs)) (hl : kvs.length < sizeLine) (q : R (upd H d (.dK (putK kvs (Sum.inr z) v)))) : ∃ a H', V.ref d = .ref a ∧ DPut H a (.str z) v H' ∧ R H' :=
  ⟨d, _, rfl, DPut.k (k := Sum.inr z) e hl, q⟩
theorem dputI {R : Hp → Prop} (e : H d = some (.dK kvs)) (hl : kvs.length < sizeLine) (q : R (upd H d (.dK (putK kvs (Sum.inl i) v)))) : ∃ a H', V.ref d = .ref a ∧ DPut H a (.int i) v H' ∧ R H' :=
  ⟨d, _, rfl, DPut.k (k := Sum.inl i) e hl, q⟩
theorem dputS2 {R : Hp → Prop} (e : H d = some (.dK kvs)) (hl : kvs.length < sizeLine) (q : R (upd H d (.dK (putK kvs (Sum.inr z) v)))) : ∃ H', DPut H d (.str z) v H' ∧ R H' :=
  ⟨_, DPut.k (k := Sum.inr z) e hl, q⟩
theorem dputI2 {R : Hp → Prop} (e : H d = some (.dK kvs)) (hl : kvs.length < sizeLine) (q : R (upd H d (.dK (putK kvs (Sum.inl i) v)))) : ∃ H', DPut H d (.int i) v H' ∧ R H' :=
  ⟨_, DPut.k (k := Sum.inl i) e hl, q⟩
/-! ### len(d) -/
@[irreducible] def rLnD : List V → Hp → VK → Prop := fun xs H Q => ∃ a kvs, xs = [V.ref a] ∧ H a = some (.dK kvs) ∧ Q (.int kvs.length) H
theorem call_lnD {X : Cx} : CallR X (.builtin "len") rLnD := fun pins s σ H xs us Q I r h => call_lenD pins s σ H xs us Q I r (by unfold rLnD at h; exact h)
theorem lnD_go (e : H d = some (.dK kvs)) (q : Q (.int kvs.length) H) : rLnD [.ref d] H Q := by
  unfold rLnD
  exact ⟨d, kvs, rfl, e, q⟩
theorem tyx_d {K : PySem.W.Frag} (e : H d = some (.dK kvs)) : TyX K H (.ref d) (.type "dict") := .base (.dK e)
theorem tyx_lt {K : PySem.W.Frag} {xs : List V} (e : H d = some (.lst xs)) : TyX K H (.ref d) (.type "list") := .base (.lst e)
end
/-! ### more methods of lists -/
@[irreducible] def rIxm (K : PySem.W.Frag) : V → List V → Hp → VK → Prop := fun x vs H Q => rIndex K x vs H Q
theorem mt_ixm {X : Cx} : MtR X "list.index" (rIxm X.K) := fun pins s σ H x xs v us Q I rx rs h => mt_index pins s σ H x xs v us Q I rx rs (by unfold rIxm at h; exact h)
section
variable {K : PySem.W.Frag} {H : Hp} {a : Addr} {ys : List V} {y : V} {Q : VK}
/-- l.index(y): no two items alike -/
theorem ixm_go {j : Nat} (h : SqL K H a ys) (fy : flatV y = true) (fys : ys.all flatV = true) (hj : ys[j]? = some y) (hyy : eqV y y = true) (hno : ∀ (m : Nat) (z' : V), m < j → ys[m]? = some z' → eqV z' y = false) (q : Q (.int (j : Nat)) H) : rIxm K (.ref a) [y] H Q := by
  unfold rIxm
  exact ⟨a, ys, y, j, y, rfl, rfl, h, fy, fys, hj, hyy, hno, q⟩
end
@[irreducible] def rIns : V → List V → Hp → VK → Prop := fun x vs H Q => ∃ (l : Addr) (xs : List V) (i : Int) (y : V), x = .ref l ∧ vs = [.int i, y] ∧ H l = some (.lst xs) ∧ xs.length < sizeLine ∧ 0 ≤ i ∧ i < 2 ^ 63 ∧
    Q .non (upd H l (.lst (xs.take i.toNat ++ [y] ++ xs.drop i.toNat)))
theorem mt_ins {X : Cx} : MtR X "list.insert" rIns := fun pins s σ H x xs v us Q I rx rs h => mt_insert pins s σ H x xs v us Q I rx rs (by unfold rIns at h; exact h)
theorem ins_go {H : Hp} {l : Addr} {xs : List V} {y : V} {i : Nat} {Q : VK} (e : H l = some (.lst xs)) (hl : xs.length < sizeLine) (hi : i < 9223372036854775808) (q : Q .non (upd H l (.lst (xs.take i ++ [y] ++ xs.drop i)))) : rIns (.ref l) [.int (i : Int), y] H Q := by
  unfold rIns
  refine ⟨l, xs, (i : Int), y, rfl, rfl, e, hl, Int.natCast_nonneg _, by omega, ?_⟩
  rw [Int.toNat_natCast]
  exact q
@[irreducible] def rRmv : V → List V → Hp → VK → Prop := fun x vs H Q => rRemI x vs H Q
theorem mt_rmv {X : Cx} : MtR X "list.remove" rRmv := fun pins s σ H x xs v us Q I rx rs h => mt_remove pins s σ H x xs v us Q I rx rs (by unfold rRmv at h; exact h)
end LB

namespace My
open PySem PySem.Spec PyProof.Rows L2 LB
local macro_rules | `(tactic| walk_at "sz") => `(tactic| first
  | assumption
  | ((with_reducible apply Sz.mul) <;> walk_at "sz") | ((with_reducible apply Sz.add) <;> walk_at "sz") | ((with_reducible apply Sz.sub) <;> walk_at "sz") | ((with_reducible apply Sz.neg) <;> walk_at "sz")
  | exact Sz.mk (n := 64) (by omega) | exact Sz.mk (n := 201) (by omega) | ((with_reducible apply Sz.div) <;> walk_at "sz") | (with_reducible exact cell_sz (by assumption) _))
local macro_rules | `(tactic| walk_at "cond") => `(tactic| first
  | ((show (0 : Int) < _); first | decide | omega)
  | assumption
  | exact (True.intro : any1 _)
  | exact ty_s
  | ((with_reducible apply ty_l); (walk_at "sq")) | ((with_reducible apply ty_d); (walk_at "hp"))
  | ((with_reducible apply CM.of2) <;> first | walk_at "sz" | decide)
  | ((with_reducible apply CD.of2) <;> first | walk_at "sz" | decide | omega)
  | (with_reducible exact ⟨by decide, by decide, by decide⟩))
local macro_rules | `(tactic| walk_at "len") => `(tactic| first | assumption | exact Nat.lt_of_succ_le (Nat.le_of_ble_eq_true (by rfl)))
local macro_rules | `(tactic| walk_at "hp") => `(tactic| first | assumption | exact upd_same | ((with_reducible apply hp_upd) <;> (walk_at "hp")))
local macro_rules | `(tactic| walk_at "sq0") => `(tactic| first | assumption | exact l_of upd_same | exact t_of upd_same | (apply l_of; (assumption)) | (apply t_of; (assumption)) | walk_at "sqc")
local macro_rules | `(tactic| walk_at "sq1") => `(tactic| first | walk_at "sq0" | (apply lst_upd; (assumption); (walk_at "sq0")) | (apply tup_upd; (assumption); (walk_at "sq0")))
local macro_rules | `(tactic| walk_at "sq2") => `(tactic| first | walk_at "sq0" | (apply lst_upd; (assumption); (walk_at "sq1")) | (apply tup_upd; (assumption); (walk_at "sq1")))
local macro_rules | `(tactic| walk_at "sq3") => `(tactic| first | walk_at "sq0" | (apply lst_upd; (assumption); (walk_at "sq2")) | (apply tup_upd; (assumption); (walk_at "sq2")))
local macro_rules | `(tactic| walk_at "sq4") => `(tactic| first | walk_at "sq0" | (apply lst_upd; (assumption); (walk_at "sq3")) | (apply tup_upd; (assumption); (walk_at "sq3")))
local macro_rules | `(tactic| walk_at "sq5") => `(tactic| first | walk_at "sq0" | (apply lst_upd; (assumption); (walk_at "sq4")) | (apply tup_upd; (assumption); (walk_at "sq4")))
local macro_rules | `(tactic| walk_at "sq6") => `(tactic| first | walk_at "sq0" | (apply lst_upd; (assumption); (walk_at "sq5")) | (apply tup_upd; (assumption); (walk_at "sq5")))
local macro_rules | `(tactic| walk_at "sq7") => `(tactic| first | walk_at "sq0" | (apply lst_upd; (assumption); (walk_at "sq6")) | (apply tup_upd; (assumption); (walk_at "sq6")))
local macro_rules | `(tactic| walk_at "sq8") => `(tactic| first | walk_at "sq0" | (apply lst_upd; (assumption); (walk_at "sq7")) | (apply tup_upd; (assumption); (walk_at "sq7")))
local macro_rules | `(tactic| walk_at "sq") => `(tactic| walk_at "sq8")
local macro_rules | `(tactic| walk_at "rd1") => `(tactic| first
  | refine ⟨_, rfl, ?_⟩
  | refine ⟨_, _, rfl, rfl, ?_⟩
  | refine ⟨rfl, ?_⟩
  | refine .inl ⟨_, rfl, ?_⟩
  | refine .inr ⟨_, rfl, ?_⟩
  | (with_reducible refine tC_go ?_) | (with_reducible refine tNoPart_go ?_)
  | walk_at "call"
  | (apply ixT_go; (walk_at "sq"); (first | assumption | rfl))
  | (apply ixL_go; (walk_at "sq"); (first | assumption | rfl))
  | (apply ixUT_go; (walk_at "sq"); (first | assumption | rfl))
  | (apply ixUL_go; (walk_at "sq"); (first | assumption | rfl))
  | (apply And.intro; (walk_at "cond"))
  | (apply And.intro; (exact Nat.le_of_ble_eq_true (by rfl)); (intro p hp))
  | refine ⟨_, _, _, rfl, (by walk_at "hp"), (by rfl), ?_⟩
  | ((with_reducible apply gTup_go); (walk_at "sq"); (exact rfl))
  | (apply ct_go; (walk_at "hp"); (walk_at "hp"); (first | assumption | exact Nat.le_of_ble_eq_true (by rfl)); (intro p hp))
  | (apply lo_l; (walk_at "sq"); (intro p hp)) | (apply lo_t; (walk_at "sq"); (intro p hp))
  | (apply mn_go) | (apply mx_go) | (apply isB_go) | (apply notB_go)
  | (apply setL_go; (walk_at "hp"); (first | assumption | exact rfl))
  | ((with_reducible apply slL_go); (walk_at "sq"); (intro p hp))
  | (apply inT_go; (walk_at "sq"); (exact rfl); (first | assumption | exact rfl)) | (apply inL_go; (walk_at "sq"); (exact rfl); (first | assumption | exact rfl))
  | (apply niT_go; (walk_at "sq"); (exact rfl); (first | assumption | exact rfl)) | (apply niL_go; (walk_at "sq"); (exact rfl); (first | assumption | exact rfl))
  | (apply app_go; (walk_at "hp"); (walk_at "len"))
  | (apply ln_t; (walk_at "sq")) | (apply ln_l; (walk_at "sq"))
  | (apply iteLen; (with_reducible rfl)) | (apply iteLenN; (with_reducible rfl)) | (apply iteLen; (exact rfl)) | (apply iteLenN; (exact rfl))
  | refine iteT ?_
  | refine iteF ?_
  | (apply isi_go (r := true); (first | exact .base (.int _) | exact .base (.str _) | exact .base (.bl _) | exact .base .non | exact tyx_t (by walk_at "sq") | exact tyx_l (by walk_at "sq")); (decide +kernel))
  | (apply isi_go (r := false); (first | exact .base (.int _) | exact .base (.str _) | exact .base (.bl _) | exact .base .non | exact tyx_t (by walk_at "sq") | exact tyx_l (by walk_at "sq")); (decide +kernel))
  | (apply isX_go; (walk_at "kit"); (walk_at "hp")) | (apply isX_ve; (walk_at "exv"); (walk_at "hp"))
  | (apply gTup_go; (walk_at "sq"); (exact rfl)) | (apply gCons_go) | (apply gNil_go))
local macro_rules | `(tactic| walk_at "rd") => `(tactic| repeat (walk_at "rd1"))

local macro_rules | `(tactic| walk_at "br1") => `(tactic| first
  | refine iteI (fun h => ?_) (fun h => ?_) | refine iteIN (fun h => ?_) (fun h => ?_)
  | refine iteS (fun h => ?_) (fun h => ?_) | refine iteSN (fun h => ?_) (fun h => ?_)
  | refine iteD (fun h => ?_) (fun h => ?_) | refine iteDN (fun h => ?_) (fun h => ?_))
local macro_rules | `(tactic| walk_at "go") => `(tactic| repeat' (first | walk_at "rd1" | walk_at "br1"))
local macro_rules | `(tactic| walk_at "sm0") => `(tactic| first | exact Same.refl _ | assumption)
local macro_rules | `(tactic| walk_at "sm1") => `(tactic| first | walk_at "sm0" | (apply same_new; (walk_at "sm0"); (assumption)) | (refine Same.trans ?_ (by assumption); (walk_at "sm0")))
local macro_rules | `(tactic| walk_at "sm2") => `(tactic| first | walk_at "sm0" | (apply same_new; (walk_at "sm1"); (assumption)) | (refine Same.trans ?_ (by assumption); (walk_at "sm1")))
local macro_rules | `(tactic| walk_at "sm3") => `(tactic| first | walk_at "sm0" | (apply same_new; (walk_at "sm2"); (assumption)) | (refine Same.trans ?_ (by assumption); (walk_at "sm2")))
local macro_rules | `(tactic| walk_at "sm4") => `(tactic| first | walk_at "sm0" | (apply same_new; (walk_at "sm3"); (assumption)) | (refine Same.trans ?_ (by assumption); (walk_at "sm3")))
local macro_rules | `(tactic| walk_at "sm5") => `(tactic| first | walk_at "sm0" | (apply same_new; (walk_at "sm4"); (assumption)) | (refine Same.trans ?_ (by assumption); (walk_at "sm4")))
local macro_rules | `(tactic| walk_at "sm6") => `(tactic| first | walk_at "sm0" | (apply same_new; (walk_at "sm5"); (assumption)) | (refine Same.trans ?_ (by assumption); (walk_at "sm5")))
local macro_rules | `(tactic| walk_at "sm7") => `(tactic| first | walk_at "sm0" | (apply same_new; (walk_at "sm6"); (assumption)) | (refine Same.trans ?_ (by assumption); (walk_at "sm6")))
local macro_rules | `(tactic| walk_at "sm8") => `(tactic| first | walk_at "sm0" | (apply same_new; (walk_at "sm7"); (assumption)) | (refine Same.trans ?_ (by assumption); (walk_at "sm7")))
local macro_rules | `(tactic| walk_at "sm9") => `(tactic| first | walk_at "sm0" | (apply same_new; (walk_at "sm8"); (assumption)) | (refine Same.trans ?_ (by assumption); (walk_at "sm8")))
local macro_rules | `(tactic| walk_at "sm10") => `(tactic| first | walk_at "sm0" | (apply same_new; (walk_at "sm9"); (assumption)) | (refine Same.trans ?_ (by assumption); (walk_at "sm9")))
local macro_rules | `(tactic| walk_at "sm11") => `(tactic| first | walk_at "sm0" | (apply same_new; (walk_at "sm10"); (assumption)) | (refine Same.trans ?_ (by assumption); (walk_at "sm10")))
local macro_rules | `(tactic| walk_at "sm12") => `(tactic| first | walk_at "sm0" | (apply same_new; (walk_at "sm11"); (assumption)) | (refine Same.trans ?_ (by assumption); (walk_at "sm11")))
local macro_rules | `(tactic| walk_at "sm13") => `(tactic| first | walk_at "sm0" | (apply same_new; (walk_at "sm12"); (assumption)) | (refine Same.trans ?_ (by assumption); (walk_at "sm12")))
local macro_rules | `(tactic| walk_at "sm14") => `(tactic| first | walk_at "sm0" | (apply same_new; (walk_at "sm13"); (assumption)) | (refine Same.trans ?_ (by assumption); (walk_at "sm13")))
local macro_rules | `(tactic| walk_at "sm") => `(tactic| walk_at "sm14")

local macro_rules | `(tactic| walk_at "rx") => `(tactic| (dsimp only [tC]; walk_at "rd"))

abbrev P : Program := PySem.Challenge.pw_lendbook_k37_meters_are_exact
def top (i : Nat) : Stmt := PySem.Challenge.pw_lendbook_k37_meters_are_exact.main.body.getD i (.Pass ⟨0, 0, 0, 0⟩)
abbrev s_check_rate : Stmt := top 9
abbrev s_check_day : Stmt := top 13
abbrev s_is_leap : Stmt := top 14
abbrev s_month_length : Stmt := top 15
abbrev s_year_start : Stmt := top 16
abbrev s_date_of : Stmt := top 17
abbrev s_check_convention : Stmt := top 20
abbrev s_parts_per_year : Stmt := top 21
abbrev s_position : Stmt := top 22
abbrev s_weight : Stmt := top 23
abbrev s_ratio : Stmt := top 25
abbrev s_add : Stmt := top 26
abbrev s_subtract : Stmt := top 27
abbrev s_check_amount : Stmt := top 30
abbrev s_round_ratio : Stmt := top 31
abbrev s_Meter___init__ : Stmt := inClass (top 34) 0
abbrev s_Meter_run : Stmt := inClass (top 34) 1
abbrev s_Meter_accrue : Stmt := inClass (top 34) 2
abbrev s_Meter_exact : Stmt := inClass (top 34) 3
abbrev s_Meter_rounded : Stmt := inClass (top 34) 4
abbrev s_Meter_post : Stmt := inClass (top 34) 5
abbrev s_Meter_reset : Stmt := inClass (top 34) 6
abbrev s_Meter_copy_of : Stmt := inClass (top 34) 7
abbrev s_Meter_restore : Stmt := inClass (top 34) 8
abbrev s__law_cell : Stmt := top 36
abbrev s__law_draw : Stmt := top 37
abbrev s__law_whole : Stmt := top 38
abbrev s__law_gcd : Stmt := top 39
abbrev s__law_lowest : Stmt := top 40
abbrev s__law_leap : Stmt := top 41
abbrev s__law_length : Stmt := top 42
abbrev s__law_date : Stmt := top 43
abbrev s__law_fast : Stmt := top 44
abbrev s__law_position : Stmt := top 45
abbrev s__law_parts : Stmt := top 46
abbrev s__law_rounded : Stmt := top 47
abbrev s__law_exact : Stmt := top 48
abbrev s_law : Stmt := top 49
theorem sc_check_rate : FnScope ["value"] ["value"] (defScope s_check_rate) := ⟨rfl, rfl, rfl, by decide +kernel, rfl, by decide +kernel, by decide +kernel⟩
theorem sc_check_day : FnScope ["day"] ["day"] (defScope s_check_day) := ⟨rfl, rfl, rfl, by decide +kernel, rfl, by decide +kernel, by decide +kernel⟩
theorem sc_is_leap : FnScope ["year"] ["year"] (defScope s_is_leap) := ⟨rfl, rfl, rfl, by decide +kernel, rfl, by decide +kernel, by decide +kernel⟩
theorem sc_month_length : FnScope ["year", "month"] ["year", "month"] (defScope s_month_length) := ⟨rfl, rfl, rfl, by decide +kernel, rfl, by decide +kernel, by decide +kernel⟩
theorem sc_year_start : FnScope ["year", "years"] ["year"] (defScope s_year_start) := ⟨rfl, rfl, rfl, by decide +kernel, rfl, by decide +kernel, by decide +kernel⟩
theorem sc_date_of : FnScope ["day", "year", "rest", "month"] ["day"] (defScope s_date_of) := ⟨rfl, rfl, rfl, by decide +kernel, rfl, by decide +kernel, by decide +kernel⟩
theorem sc_check_convention : FnScope ["convention"] ["convention"] (defScope s_check_convention) := ⟨rfl, rfl, rfl, by decide +kernel, rfl, by decide +kernel, by decide +kernel⟩
theorem sc_parts_per_year : FnScope ["convention"] ["convention"] (defScope s_parts_per_year) := ⟨rfl, rfl, rfl, by decide +kernel, rfl, by decide +kernel, by decide +kernel⟩
theorem sc_position : FnScope ["convention", "day", "year", "month", "number", "passed", "share"] ["convention", "day"] (defScope s_position) := ⟨rfl, rfl, rfl, by decide +kernel, rfl, by decide +kernel, by decide +kernel⟩
theorem sc_weight : FnScope ["convention", "first", "second"] ["convention", "first", "second"] (defScope s_weight) := ⟨rfl, rfl, rfl, by decide +kernel, rfl, by decide +kernel, by decide +kernel⟩
theorem sc_ratio : FnScope ["top", "bottom", "common"] ["top", "bottom"] (defScope s_ratio) := ⟨rfl, rfl, rfl, by decide +kernel, rfl, by decide +kernel, by decide +kernel⟩
theorem sc_add : FnScope ["a", "b"] ["a", "b"] (defScope s_add) := ⟨rfl, rfl, rfl, by decide +kernel, rfl, by decide +kernel, by decide +kernel⟩
theorem sc_subtract : FnScope ["a", "b"] ["a", "b"] (defScope s_subtract) := ⟨rfl, rfl, rfl, by decide +kernel, rfl, by decide +kernel, by decide +kernel⟩
theorem sc_check_amount : FnScope ["cents"] ["cents"] (defScope s_check_amount) := ⟨rfl, rfl, rfl, by decide +kernel, rfl, by decide +kernel, by decide +kernel⟩
theorem sc_round_ratio : FnScope ["top", "bottom", "mode", "low", "rest"] ["top", "bottom", "mode"] (defScope s_round_ratio) := ⟨rfl, rfl, rfl, by decide +kernel, rfl, by decide +kernel, by decide +kernel⟩
theorem sc_Meter___init__ : FnScope ["self", "convention"] ["self", "convention"] (defScope s_Meter___init__) := ⟨rfl, rfl, rfl, by decide +kernel, rfl, by decide +kernel, by decide +kernel⟩
theorem sc_Meter_run : FnScope ["self", "principal", "rate", "first", "second"] ["self", "principal", "rate", "first", "second"] (defScope s_Meter_run) := ⟨rfl, rfl, rfl, by decide +kernel, rfl, by decide +kernel, by decide +kernel⟩
theorem sc_Meter_accrue : FnScope ["self", "principal", "rate", "first", "second", "parts"] ["self", "principal", "rate", "first", "second"] (defScope s_Meter_accrue) := ⟨rfl, rfl, rfl, by decide +kernel, rfl, by decide +kernel, by decide +kernel⟩
theorem sc_Meter_exact : FnScope ["self"] ["self"] (defScope s_Meter_exact) := ⟨rfl, rfl, rfl, by decide +kernel, rfl, by decide +kernel, by decide +kernel⟩
theorem sc_Meter_rounded : FnScope ["self", "mode"] ["self", "mode"] (defScope s_Meter_rounded) := ⟨rfl, rfl, rfl, by decide +kernel, rfl, by decide +kernel, by decide +kernel⟩
theorem sc_Meter_post : FnScope ["self", "mode", "cents"] ["self", "mode"] (defScope s_Meter_post) := ⟨rfl, rfl, rfl, by decide +kernel, rfl, by decide +kernel, by decide +kernel⟩
theorem sc_Meter_reset : FnScope ["self"] ["self"] (defScope s_Meter_reset) := ⟨rfl, rfl, rfl, by decide +kernel, rfl, by decide +kernel, by decide +kernel⟩
theorem sc_Meter_copy_of : FnScope ["self", "other"] ["self"] (defScope s_Meter_copy_of) := ⟨rfl, rfl, rfl, by decide +kernel, rfl, by decide +kernel, by decide +kernel⟩
theorem sc_Meter_restore : FnScope ["self", "held"] ["self", "held"] (defScope s_Meter_restore) := ⟨rfl, rfl, rfl, by decide +kernel, rfl, by decide +kernel, by decide +kernel⟩
theorem sc__law_cell : FnScope ["script", "k"] ["script", "k"] (defScope s__law_cell) := ⟨rfl, rfl, rfl, by decide +kernel, rfl, by decide +kernel, by decide +kernel⟩
theorem sc__law_draw : FnScope ["cell", "limits", "row", "rest", "great", "k", "mixed"] ["cell", "limits"] (defScope s__law_draw) := ⟨rfl, rfl, rfl, by decide +kernel, rfl, by decide +kernel, by decide +kernel⟩
theorem sc__law_whole : FnScope ["x"] ["x"] (defScope s__law_whole) := ⟨rfl, rfl, rfl, by decide +kernel, rfl, by decide +kernel, by decide +kernel⟩
theorem sc__law_gcd : FnScope ["a", "b", "k", "rest"] ["a", "b"] (defScope s__law_gcd) := ⟨rfl, rfl, rfl, by decide +kernel, rfl, by decide +kernel, by decide +kernel⟩
theorem sc__law_lowest : FnScope ["top", "bottom", "common"] ["top", "bottom"] (defScope s__law_lowest) := ⟨rfl, rfl, rfl, by decide +kernel, rfl, by decide +kernel, by decide +kernel⟩
theorem sc__law_leap : FnScope ["year"] ["year"] (defScope s__law_leap) := ⟨rfl, rfl, rfl, by decide +kernel, rfl, by decide +kernel, by decide +kernel⟩
theorem sc__law_length : FnScope ["year", "month"] ["year", "month"] (defScope s__law_length) := ⟨rfl, rfl, rfl, by decide +kernel, rfl, by decide +kernel, by decide +kernel⟩
theorem sc__law_date : FnScope ["day", "year", "rest", "k", "size", "month"] ["day"] (defScope s__law_date) := ⟨rfl, rfl, rfl, by decide +kernel, rfl, by decide +kernel, by decide +kernel⟩
theorem sc__law_fast : FnScope ["year", "month", "day", "k", "count", "one"] ["year", "month", "day"] (defScope s__law_fast) := ⟨rfl, rfl, rfl, by decide +kernel, rfl, by decide +kernel, by decide +kernel⟩
theorem sc__law_position : FnScope ["convention", "day", "date", "size"] ["convention", "day"] (defScope s__law_position) := ⟨rfl, rfl, rfl, by decide +kernel, rfl, by decide +kernel, by decide +kernel⟩
theorem sc__law_parts : FnScope ["convention"] ["convention"] (defScope s__law_parts) := ⟨rfl, rfl, rfl, by decide +kernel, rfl, by decide +kernel, by decide +kernel⟩
theorem sc__law_rounded : FnScope ["top", "bottom", "mode", "near"] ["top", "bottom", "mode"] (defScope s__law_rounded) := ⟨rfl, rfl, rfl, by decide +kernel, rfl, by decide +kernel, by decide +kernel⟩
theorem sc__law_exact : FnScope ["meter", "top", "bottom", "told"] ["meter", "top", "bottom"] (defScope s__law_exact) := ⟨rfl, rfl, rfl, by decide +kernel, rfl, by decide +kernel, by decide +kernel⟩
theorem sc_law : FnScope ["script", "names", "convention", "meter", "bottom", "top", "k", "d", "first", "second", "principal", "twin", "before", "mode", "posted", "due"] ["script"] (defScope s_law) := ⟨rfl, rfl, rfl, by decide +kernel, rfl, by decide +kernel, by decide +kernel⟩
abbrev s_OutOfRange : Stmt := inClass (top 3) 0
abbrev s_UnknownName : Stmt := inClass (top 4) 0
abbrev s_WrongDay : Stmt := inClass (top 5) 0
def kv_PARTS : List (Str × V) := [("actual/365", .int 365), ("actual/360", .int 360), ("30/360", .int 360), ("actual/actual", .int 133590)]
def v_MODES : List V := [.str "down", .str "up", .str "near", .str "even"]
structure Txt (w : World) (K : PySem.W.Frag) (mg : Str → Option Value) : Type where
  a_check_rate : Addr
  fd_check_rate : FuncData
  F_check_rate : FunD K "check_rate" "check_rate" (defArgs s_check_rate) (defBody s_check_rate) (defScope s_check_rate) [] [] a_check_rate fd_check_rate
  m_check_rate : mg "check_rate" = some (.ref a_check_rate)
  b_check_rate : Binds K fd_check_rate ["value"] []
  a_check_day : Addr
  fd_check_day : FuncData
  F_check_day : FunD K "check_day" "check_day" (defArgs s_check_day) (defBody s_check_day) (defScope s_check_day) [] [] a_check_day fd_check_day
  m_check_day : mg "check_day" = some (.ref a_check_day)
  b_check_day : Binds K fd_check_day ["day"] []
  a_is_leap : Addr
  fd_is_leap : FuncData
  F_is_leap : FunD K "is_leap" "is_leap" (defArgs s_is_leap) (defBody s_is_leap) (defScope s_is_leap) [] [] a_is_leap fd_is_leap
  m_is_leap : mg "is_leap" = some (.ref a_is_leap)
  b_is_leap : Binds K fd_is_leap ["year"] []
  a_month_length : Addr
  fd_month_length : FuncData
  F_month_length : FunD K "month_length" "month_length" (defArgs s_month_length) (defBody s_month_length) (defScope s_month_length) [] [] a_month_length fd_month_length
  m_month_length : mg "month_length" = some (.ref a_month_length)
  b_month_length : Binds K fd_month_length ["year", "month"] []
  a_year_start : Addr
  fd_year_start : FuncData
  F_year_start : FunD K "year_start" "year_start" (defArgs s_year_start) (defBody s_year_start) (defScope s_year_start) [] [] a_year_start fd_year_start
  m_year_start : mg "year_start" = some (.ref a_year_start)
  b_year_start : Binds K fd_year_start ["year"] []
  a_date_of : Addr
  fd_date_of : FuncData
  F_date_of : FunD K "date_of" "date_of" (defArgs s_date_of) (defBody s_date_of) (defScope s_date_of) [] [] a_date_of fd_date_of
  m_date_of : mg "date_of" = some (.ref a_date_of)
  b_date_of : Binds K fd_date_of ["day"] []
  a_check_convention : Addr
  fd_check_convention : FuncData
  F_check_convention : FunD K "check_convention" "check_convention" (defArgs s_check_convention) (defBody s_check_convention) (defScope s_check_convention) [] [] a_check_convention fd_check_convention
  m_check_convention : mg "check_convention" = some (.ref a_check_convention)
  b_check_convention : Binds K fd_check_convention ["convention"] []
  a_parts_per_year : Addr
  fd_parts_per_year : FuncData
  F_parts_per_year : FunD K "parts_per_year" "parts_per_year" (defArgs s_parts_per_year) (defBody s_parts_per_year) (defScope s_parts_per_year) [] [] a_parts_per_year fd_parts_per_year
  m_parts_per_year : mg "parts_per_year" = some (.ref a_parts_per_year)
  b_parts_per_year : Binds K fd_parts_per_year ["convention"] []
  a_position : Addr
  fd_position : FuncData
  F_position : FunD K "position" "position" (defArgs s_position) (defBody s_position) (defScope s_position) [] [] a_position fd_position
  m_position : mg "position" = some (.ref a_position)
  b_position : Binds K fd_position ["convention", "day"] []
  a_weight : Addr
  fd_weight : FuncData
  F_weight : FunD K "weight" "weight" (defArgs s_weight) (defBody s_weight) (defScope s_weight) [] [] a_weight fd_weight
  m_weight : mg "weight" = some (.ref a_weight)
  b_weight : Binds K fd_weight ["convention", "first", "second"] []
  a_ratio : Addr
  fd_ratio : FuncData
  F_ratio : FunD K "ratio" "ratio" (defArgs s_ratio) (defBody s_ratio) (defScope s_ratio) [.int 1] [] a_ratio fd_ratio
  m_ratio : mg "ratio" = some (.ref a_ratio)
  b1_ratio : ∃ ds, Vals ([.int 1] : List V) ds ∧ Binds K fd_ratio ["top", "bottom"] ds
  b2_ratio : ∃ ds, Vals ([] : List V) ds ∧ Binds K fd_ratio ["top", "bottom"] ds
  a_add : Addr
  fd_add : FuncData
  F_add : FunD K "add" "add" (defArgs s_add) (defBody s_add) (defScope s_add) [] [] a_add fd_add
  m_add : mg "add" = some (.ref a_add)
  b_add : Binds K fd_add ["a", "b"] []
  a_subtract : Addr
  fd_subtract : FuncData
  F_subtract : FunD K "subtract" "subtract" (defArgs s_subtract) (defBody s_subtract) (defScope s_subtract) [] [] a_subtract fd_subtract
  m_subtract : mg "subtract" = some (.ref a_subtract)
  b_subtract : Binds K fd_subtract ["a", "b"] []
  a_check_amount : Addr
  fd_check_amount : FuncData
  F_check_amount : FunD K "check_amount" "check_amount" (defArgs s_check_amount) (defBody s_check_amount) (defScope s_check_amount) [] [] a_check_amount fd_check_amount
  m_check_amount : mg "check_amount" = some (.ref a_check_amount)
  b_check_amount : Binds K fd_check_amount ["cents"] []
  a_round_ratio : Addr
  fd_round_ratio : FuncData
  F_round_ratio : FunD K "round_ratio" "round_ratio" (defArgs s_round_ratio) (defBody s_round_ratio) (defScope s_round_ratio) [.str "near"] [] a_round_ratio fd_round_ratio
  m_round_ratio : mg "round_ratio" = some (.ref a_round_ratio)
  b2_round_ratio : ∃ ds, Vals ([.str "near"] : List V) ds ∧ Binds K fd_round_ratio ["top", "bottom", "mode"] ds
  b3_round_ratio : ∃ ds, Vals ([] : List V) ds ∧ Binds K fd_round_ratio ["top", "bottom", "mode"] ds
  a_Meter___init__ : Addr
  fd_Meter___init__ : FuncData
  F_Meter___init__ : FunD K "__init__" "Meter.__init__" (defArgs s_Meter___init__) (defBody s_Meter___init__) (defScope s_Meter___init__) [] [] a_Meter___init__ fd_Meter___init__
  b_Meter___init__ : Binds K fd_Meter___init__ ["self", "convention"] []
  a_Meter_run : Addr
  fd_Meter_run : FuncData
  F_Meter_run : FunD K "run" "Meter.run" (defArgs s_Meter_run) (defBody s_Meter_run) (defScope s_Meter_run) [] [] a_Meter_run fd_Meter_run
  b_Meter_run : Binds K fd_Meter_run ["self", "principal", "rate", "first", "second"] []
  a_Meter_accrue : Addr
  fd_Meter_accrue : FuncData
  F_Meter_accrue : FunD K "accrue" "Meter.accrue" (defArgs s_Meter_accrue) (defBody s_Meter_accrue) (defScope s_Meter_accrue) [] [] a_Meter_accrue fd_Meter_accrue
  b_Meter_accrue : Binds K fd_Meter_accrue ["self", "principal", "rate", "first", "second"] []
  a_Meter_exact : Addr
  fd_Meter_exact : FuncData
  F_Meter_exact : FunD K "exact" "Meter.exact" (defArgs s_Meter_exact) (defBody s_Meter_exact) (defScope s_Meter_exact) [] [] a_Meter_exact fd_Meter_exact
  b_Meter_exact : Binds K fd_Meter_exact ["self"] []
  a_Meter_rounded : Addr
  fd_Meter_rounded : FuncData
  F_Meter_rounded : FunD K "rounded" "Meter.rounded" (defArgs s_Meter_rounded) (defBody s_Meter_rounded) (defScope s_Meter_rounded) [] [] a_Meter_rounded fd_Meter_rounded
  b_Meter_rounded : Binds K fd_Meter_rounded ["self", "mode"] []
  a_Meter_post : Addr
  fd_Meter_post : FuncData
  F_Meter_post : FunD K "post" "Meter.post" (defArgs s_Meter_post) (defBody s_Meter_post) (defScope s_Meter_post) [] [] a_Meter_post fd_Meter_post
  b_Meter_post : Binds K fd_Meter_post ["self", "mode"] []
  a_Meter_reset : Addr
  fd_Meter_reset : FuncData
  F_Meter_reset : FunD K "reset" "Meter.reset" (defArgs s_Meter_reset) (defBody s_Meter_reset) (defScope s_Meter_reset) [] [] a_Meter_reset fd_Meter_reset
  b_Meter_reset : Binds K fd_Meter_reset ["self"] []
  a_Meter_copy_of : Addr
  fd_Meter_copy_of : FuncData
  F_Meter_copy_of : FunD K "copy_of" "Meter.copy_of" (defArgs s_Meter_copy_of) (defBody s_Meter_copy_of) (defScope s_Meter_copy_of) [] [] a_Meter_copy_of fd_Meter_copy_of
  b_Meter_copy_of : Binds K fd_Meter_copy_of ["self"] []
  a_Meter_restore : Addr
  fd_Meter_restore : FuncData
  F_Meter_restore : FunD K "restore" "Meter.restore" (defArgs s_Meter_restore) (defBody s_Meter_restore) (defScope s_Meter_restore) [] [] a_Meter_restore fd_Meter_restore
  b_Meter_restore : Binds K fd_Meter_restore ["self", "held"] []
  a__law_cell : Addr
  fd__law_cell : FuncData
  F__law_cell : FunD K "_law_cell" "_law_cell" (defArgs s__law_cell) (defBody s__law_cell) (defScope s__law_cell) [] [] a__law_cell fd__law_cell
  m__law_cell : mg "_law_cell" = some (.ref a__law_cell)
  b__law_cell : Binds K fd__law_cell ["script", "k"] []
  a__law_draw : Addr
  fd__law_draw : FuncData
  F__law_draw : FunD K "_law_draw" "_law_draw" (defArgs s__law_draw) (defBody s__law_draw) (defScope s__law_draw) [] [] a__law_draw fd__law_draw
  m__law_draw : mg "_law_draw" = some (.ref a__law_draw)
  b__law_draw : Binds K fd__law_draw ["cell", "limits"] []
  a__law_whole : Addr
  fd__law_whole : FuncData
  F__law_whole : FunD K "_law_whole" "_law_whole" (defArgs s__law_whole) (defBody s__law_whole) (defScope s__law_whole) [] [] a__law_whole fd__law_whole
  m__law_whole : mg "_law_whole" = some (.ref a__law_whole)
  b__law_whole : Binds K fd__law_whole ["x"] []
  a__law_gcd : Addr
  fd__law_gcd : FuncData
  F__law_gcd : FunD K "_law_gcd" "_law_gcd" (defArgs s__law_gcd) (defBody s__law_gcd) (defScope s__law_gcd) [] [] a__law_gcd fd__law_gcd
  m__law_gcd : mg "_law_gcd" = some (.ref a__law_gcd)
  b__law_gcd : Binds K fd__law_gcd ["a", "b"] []
  a__law_lowest : Addr
  fd__law_lowest : FuncData
  F__law_lowest : FunD K "_law_lowest" "_law_lowest" (defArgs s__law_lowest) (defBody s__law_lowest) (defScope s__law_lowest) [] [] a__law_lowest fd__law_lowest
  m__law_lowest : mg "_law_lowest" = some (.ref a__law_lowest)
  b__law_lowest : Binds K fd__law_lowest ["top", "bottom"] []
  a__law_leap : Addr
  fd__law_leap : FuncData
  F__law_leap : FunD K "_law_leap" "_law_leap" (defArgs s__law_leap) (defBody s__law_leap) (defScope s__law_leap) [] [] a__law_leap fd__law_leap
  m__law_leap : mg "_law_leap" = some (.ref a__law_leap)
  b__law_leap : Binds K fd__law_leap ["year"] []
  a__law_length : Addr
  fd__law_length : FuncData
  F__law_length : FunD K "_law_length" "_law_length" (defArgs s__law_length) (defBody s__law_length) (defScope s__law_length) [] [] a__law_length fd__law_length
  m__law_length : mg "_law_length" = some (.ref a__law_length)
  b__law_length : Binds K fd__law_length ["year", "month"] []
  a__law_date : Addr
  fd__law_date : FuncData
  F__law_date : FunD K "_law_date" "_law_date" (defArgs s__law_date) (defBody s__law_date) (defScope s__law_date) [] [] a__law_date fd__law_date
  m__law_date : mg "_law_date" = some (.ref a__law_date)
  b__law_date : Binds K fd__law_date ["day"] []
  a__law_fast : Addr
  fd__law_fast : FuncData
  F__law_fast : FunD K "_law_fast" "_law_fast" (defArgs s__law_fast) (defBody s__law_fast) (defScope s__law_fast) [] [] a__law_fast fd__law_fast
  m__law_fast : mg "_law_fast" = some (.ref a__law_fast)
  b__law_fast : Binds K fd__law_fast ["year", "month", "day"] []
  a__law_position : Addr
  fd__law_position : FuncData
  F__law_position : FunD K "_law_position" "_law_position" (defArgs s__law_position) (defBody s__law_position) (defScope s__law_position) [] [] a__law_position fd__law_position
  m__law_position : mg "_law_position" = some (.ref a__law_position)
  b__law_position : Binds K fd__law_position ["convention", "day"] []
  a__law_parts : Addr
  fd__law_parts : FuncData
  F__law_parts : FunD K "_law_parts" "_law_parts" (defArgs s__law_parts) (defBody s__law_parts) (defScope s__law_parts) [] [] a__law_parts fd__law_parts
  m__law_parts : mg "_law_parts" = some (.ref a__law_parts)
  b__law_parts : Binds K fd__law_parts ["convention"] []
  a__law_rounded : Addr
  fd__law_rounded : FuncData
  F__law_rounded : FunD K "_law_rounded" "_law_rounded" (defArgs s__law_rounded) (defBody s__law_rounded) (defScope s__law_rounded) [] [] a__law_rounded fd__law_rounded
  m__law_rounded : mg "_law_rounded" = some (.ref a__law_rounded)
  b__law_rounded : Binds K fd__law_rounded ["top", "bottom", "mode"] []
  a__law_exact : Addr
  fd__law_exact : FuncData
  F__law_exact : FunD K "_law_exact" "_law_exact" (defArgs s__law_exact) (defBody s__law_exact) (defScope s__law_exact) [] [] a__law_exact fd__law_exact
  m__law_exact : mg "_law_exact" = some (.ref a__law_exact)
  b__law_exact : Binds K fd__law_exact ["meter", "top", "bottom"] []
  a_law : Addr
  fd_law : FuncData
  F_law : FunD K "law" "law" (defArgs s_law) (defBody s_law) (defScope s_law) [] [] a_law fd_law
  m_law : mg "law" = some (.ref a_law)
  b_law : Binds K fd_law ["script"] []
  c_Meter : Addr
  m_Meter : mg "Meter" = some (.ref c_Meter)
  cl_Meter : Cls K c_Meter
  mk_Meter : Mk K c_Meter a_Meter___init__
  me_Meter_run : Meth K c_Meter "run" a_Meter_run
  me_Meter_accrue : Meth K c_Meter "accrue" a_Meter_accrue
  me_Meter_exact : Meth K c_Meter "exact" a_Meter_exact
  me_Meter_rounded : Meth K c_Meter "rounded" a_Meter_rounded
  me_Meter_post : Meth K c_Meter "post" a_Meter_post
  me_Meter_reset : Meth K c_Meter "reset" a_Meter_reset
  me_Meter_copy_of : Meth K c_Meter "copy_of" a_Meter_copy_of
  me_Meter_restore : Meth K c_Meter "restore" a_Meter_restore
  na_Meter_convention : NoAttr K c_Meter "convention"
  na_Meter__held : NoAttr K c_Meter "_held"
  c_BookError : Addr
  m_BookError : mg "BookError" = some (.ref c_BookError)
  e_BookError : ECls K c_BookError
  c_OutOfRange : Addr
  m_OutOfRange : mg "OutOfRange" = some (.ref c_OutOfRange)
  e_OutOfRange : ECls K c_OutOfRange
  x_OutOfRange : XTxt P K mg "OutOfRange.__init__" s_OutOfRange c_OutOfRange
  n_OutOfRange_label : PySem.W.findIn K (.ref c_OutOfRange) "label" = some none
  n_OutOfRange_value : PySem.W.findIn K (.ref c_OutOfRange) "value" = some none
  c_UnknownName : Addr
  m_UnknownName : mg "UnknownName" = some (.ref c_UnknownName)
  e_UnknownName : ECls K c_UnknownName
  x_UnknownName : XTxt P K mg "UnknownName.__init__" s_UnknownName c_UnknownName
  n_UnknownName_label : PySem.W.findIn K (.ref c_UnknownName) "label" = some none
  n_UnknownName_name : PySem.W.findIn K (.ref c_UnknownName) "name" = some none
  c_WrongDay : Addr
  m_WrongDay : mg "WrongDay" = some (.ref c_WrongDay)
  e_WrongDay : ECls K c_WrongDay
  x_WrongDay : XTxt P K mg "WrongDay.__init__" s_WrongDay c_WrongDay
  n_WrongDay_label : PySem.W.findIn K (.ref c_WrongDay) "label" = some none
  n_WrongDay_day : PySem.W.findIn K (.ref c_WrongDay) "day" = some none
  y_BookError_BookError : PySem.W.subIn K (.ref c_BookError) (.ref c_BookError) = some true
  y_BookError_OutOfRange : PySem.W.subIn K (.ref c_BookError) (.ref c_OutOfRange) = some false
  y_BookError_UnknownName : PySem.W.subIn K (.ref c_BookError) (.ref c_UnknownName) = some false
  y_BookError_WrongDay : PySem.W.subIn K (.ref c_BookError) (.ref c_WrongDay) = some false
  yv_BookError : PySem.W.subIn K (.ref c_BookError) (.type "ValueError") = some true
  y_OutOfRange_BookError : PySem.W.subIn K (.ref c_OutOfRange) (.ref c_BookError) = some true
  y_OutOfRange_OutOfRange : PySem.W.subIn K (.ref c_OutOfRange) (.ref c_OutOfRange) = some true
  y_OutOfRange_UnknownName : PySem.W.subIn K (.ref c_OutOfRange) (.ref c_UnknownName) = some false
  y_OutOfRange_WrongDay : PySem.W.subIn K (.ref c_OutOfRange) (.ref c_WrongDay) = some false
  yv_OutOfRange : PySem.W.subIn K (.ref c_OutOfRange) (.type "ValueError") = some true
  y_UnknownName_BookError : PySem.W.subIn K (.ref c_UnknownName) (.ref c_BookError) = some true
  y_UnknownName_OutOfRange : PySem.W.subIn K (.ref c_UnknownName) (.ref c_OutOfRange) = some false
  y_UnknownName_UnknownName : PySem.W.subIn K (.ref c_UnknownName) (.ref c_UnknownName) = some true
  y_UnknownName_WrongDay : PySem.W.subIn K (.ref c_UnknownName) (.ref c_WrongDay) = some false
  yv_UnknownName : PySem.W.subIn K (.ref c_UnknownName) (.type "ValueError") = some true
  y_WrongDay_BookError : PySem.W.subIn K (.ref c_WrongDay) (.ref c_BookError) = some true
  y_WrongDay_OutOfRange : PySem.W.subIn K (.ref c_WrongDay) (.ref c_OutOfRange) = some false
  y_WrongDay_UnknownName : PySem.W.subIn K (.ref c_WrongDay) (.ref c_UnknownName) = some false
  y_WrongDay_WrongDay : PySem.W.subIn K (.ref c_WrongDay) (.ref c_WrongDay) = some true
  yv_WrongDay : PySem.W.subIn K (.ref c_WrongDay) (.type "ValueError") = some true
  m_MOST_CENTS : ∃ t, mg "MOST_CENTS" = some (.int 1000000000000 t)
  m_MOST_RATE : ∃ t, mg "MOST_RATE" = some (.int 1000000 t)
  m_LAST_DAY : ∃ t, mg "LAST_DAY" = some (.int 73048 t)
  m_FIRST_YEAR : ∃ t, mg "FIRST_YEAR" = some (.int 2000 t)
  q_PARTS : Addr
  m_PARTS : mg "PARTS" = some (.ref q_PARTS)
  kd_PARTS : ∃ es n, KDict K w q_PARTS es n
  ka_PARTS : ∀ z : Str, KAt K q_PARTS z (kget kv_PARTS z)
  q_MODES : Addr
  m_MODES : mg "MODES" = some (.ref q_MODES)
  t_MODES : ∀ H : Hp, SqT K H q_MODES v_MODES
  m_MILLION : ∃ t, mg "MILLION" = some (.int 1000000 t)
  m_gcd : mg "gcd" = some (.builtin "math.gcd")
  z_min : mg "min" = none
  z_len : mg "len" = none
  z_abs : mg "abs" = none
  z_range : mg "range" = none
  z_int : mg "int" = none
  z_isinstance : mg "isinstance" = none
  z_bool : mg "bool" = none
  z_tuple : mg "tuple" = none
  z_max : mg "max" = none
section
variable {w : World} {K : PySem.W.Frag} {mg : Str → Option Value} {base : Heap}
theorem kit_BookError_BookError (T : Txt w K mg) : PySem.W.kitOne K (.ref T.c_BookError) (.ref T.c_BookError) = some true := T.e_BookError.kit T.y_BookError_BookError
theorem exm_BookError_BookError (T : Txt w K mg) : PySem.W.exmOne K (.ref T.c_BookError) (.ref T.c_BookError) = some true := T.e_BookError.exm T.y_BookError_BookError
theorem kit_BookError_OutOfRange (T : Txt w K mg) : PySem.W.kitOne K (.ref T.c_BookError) (.ref T.c_OutOfRange) = some false := T.e_OutOfRange.kit T.y_BookError_OutOfRange
theorem exm_BookError_OutOfRange (T : Txt w K mg) : PySem.W.exmOne K (.ref T.c_BookError) (.ref T.c_OutOfRange) = some false := T.e_OutOfRange.exm T.y_BookError_OutOfRange
theorem kit_BookError_UnknownName (T : Txt w K mg) : PySem.W.kitOne K (.ref T.c_BookError) (.ref T.c_UnknownName) = some false := T.e_UnknownName.kit T.y_BookError_UnknownName
theorem exm_BookError_UnknownName (T : Txt w K mg) : PySem.W.exmOne K (.ref T.c_BookError) (.ref T.c_UnknownName) = some false := T.e_UnknownName.exm T.y_BookError_UnknownName
theorem kit_BookError_WrongDay (T : Txt w K mg) : PySem.W.kitOne K (.ref T.c_BookError) (.ref T.c_WrongDay) = some false := T.e_WrongDay.kit T.y_BookError_WrongDay
theorem exm_BookError_WrongDay (T : Txt w K mg) : PySem.W.exmOne K (.ref T.c_BookError) (.ref T.c_WrongDay) = some false := T.e_WrongDay.exm T.y_BookError_WrongDay
theorem kit_OutOfRange_BookError (T : Txt w K mg) : PySem.W.kitOne K (.ref T.c_OutOfRange) (.ref T.c_BookError) = some true := T.e_BookError.kit T.y_OutOfRange_BookError
theorem exm_OutOfRange_BookError (T : Txt w K mg) : PySem.W.exmOne K (.ref T.c_OutOfRange) (.ref T.c_BookError) = some true := T.e_BookError.exm T.y_OutOfRange_BookError
theorem kit_OutOfRange_OutOfRange (T : Txt w K mg) : PySem.W.kitOne K (.ref T.c_OutOfRange) (.ref T.c_OutOfRange) = some true := T.e_OutOfRange.kit T.y_OutOfRange_OutOfRange
theorem exm_OutOfRange_OutOfRange (T : Txt w K mg) : PySem.W.exmOne K (.ref T.c_OutOfRange) (.ref T.c_OutOfRange) = some true := T.e_OutOfRange.exm T.y_OutOfRange_OutOfRange
theorem kit_OutOfRange_UnknownName (T : Txt w K mg) : PySem.W.kitOne K (.ref T.c_OutOfRange) (.ref T.c_UnknownName) = some false := T.e_UnknownName.kit T.y_OutOfRange_UnknownName
theorem exm_OutOfRange_UnknownName (T : Txt w K mg) : PySem.W.exmOne K (.ref T.c_OutOfRange) (.ref T.c_UnknownName) = some false := T.e_UnknownName.exm T.y_OutOfRange_UnknownName
theorem kit_OutOfRange_WrongDay (T : Txt w K mg) : PySem.W.kitOne K (.ref T.c_OutOfRange) (.ref T.c_WrongDay) = some false := T.e_WrongDay.kit T.y_OutOfRange_WrongDay
theorem exm_OutOfRange_WrongDay (T : Txt w K mg) : PySem.W.exmOne K (.ref T.c_OutOfRange) (.ref T.c_WrongDay) = some false := T.e_WrongDay.exm T.y_OutOfRange_WrongDay
theorem kit_UnknownName_BookError (T : Txt w K mg) : PySem.W.kitOne K (.ref T.c_UnknownName) (.ref T.c_BookError) = some true := T.e_BookError.kit T.y_UnknownName_BookError
theorem exm_UnknownName_BookError (T : Txt w K mg) : PySem.W.exmOne K (.ref T.c_UnknownName) (.ref T.c_BookError) = some true := T.e_BookError.exm T.y_UnknownName_BookError
theorem kit_UnknownName_OutOfRange (T : Txt w K mg) : PySem.W.kitOne K (.ref T.c_UnknownName) (.ref T.c_OutOfRange) = some false := T.e_OutOfRange.kit T.y_UnknownName_OutOfRange
theorem exm_UnknownName_OutOfRange (T : Txt w K mg) : PySem.W.exmOne K (.ref T.c_UnknownName) (.ref T.c_OutOfRange) = some false := T.e_OutOfRange.exm T.y_UnknownName_OutOfRange
theorem kit_UnknownName_UnknownName (T : Txt w K mg) : PySem.W.kitOne K (.ref T.c_UnknownName) (.ref T.c_UnknownName) = some true := T.e_UnknownName.kit T.y_UnknownName_UnknownName
theorem exm_UnknownName_UnknownName (T : Txt w K mg) : PySem.W.exmOne K (.ref T.c_UnknownName) (.ref T.c_UnknownName) = some true := T.e_UnknownName.exm T.y_UnknownName_UnknownName
theorem kit_UnknownName_WrongDay (T : Txt w K mg) : PySem.W.kitOne K (.ref T.c_UnknownName) (.ref T.c_WrongDay) = some false := T.e_WrongDay.kit T.y_UnknownName_WrongDay
theorem exm_UnknownName_WrongDay (T : Txt w K mg) : PySem.W.exmOne K (.ref T.c_UnknownName) (.ref T.c_WrongDay) = some false := T.e_WrongDay.exm T.y_UnknownName_WrongDay
theorem kit_WrongDay_BookError (T : Txt w K mg) : PySem.W.kitOne K (.ref T.c_WrongDay) (.ref T.c_BookError) = some true := T.e_BookError.kit T.y_WrongDay_BookError
theorem exm_WrongDay_BookError (T : Txt w K mg) : PySem.W.exmOne K (.ref T.c_WrongDay) (.ref T.c_BookError) = some true := T.e_BookError.exm T.y_WrongDay_BookError
theorem kit_WrongDay_OutOfRange (T : Txt w K mg) : PySem.W.kitOne K (.ref T.c_WrongDay) (.ref T.c_OutOfRange) = some false := T.e_OutOfRange.kit T.y_WrongDay_OutOfRange
theorem exm_WrongDay_OutOfRange (T : Txt w K mg) : PySem.W.exmOne K (.ref T.c_WrongDay) (.ref T.c_OutOfRange) = some false := T.e_OutOfRange.exm T.y_WrongDay_OutOfRange
theorem kit_WrongDay_UnknownName (T : Txt w K mg) : PySem.W.kitOne K (.ref T.c_WrongDay) (.ref T.c_UnknownName) = some false := T.e_UnknownName.kit T.y_WrongDay_UnknownName
theorem exm_WrongDay_UnknownName (T : Txt w K mg) : PySem.W.exmOne K (.ref T.c_WrongDay) (.ref T.c_UnknownName) = some false := T.e_UnknownName.exm T.y_WrongDay_UnknownName
theorem kit_WrongDay_WrongDay (T : Txt w K mg) : PySem.W.kitOne K (.ref T.c_WrongDay) (.ref T.c_WrongDay) = some true := T.e_WrongDay.kit T.y_WrongDay_WrongDay
theorem exm_WrongDay_WrongDay (T : Txt w K mg) : PySem.W.exmOne K (.ref T.c_WrongDay) (.ref T.c_WrongDay) = some true := T.e_WrongDay.exm T.y_WrongDay_WrongDay
local macro_rules | `(tactic| walk_at "kit") => `(tactic| first | exact kit_BookError_BookError (by assumption) | exact kit_BookError_OutOfRange (by assumption) | exact kit_BookError_UnknownName (by assumption) | exact kit_BookError_WrongDay (by assumption) | exact kit_OutOfRange_BookError (by assumption) | exact kit_OutOfRange_OutOfRange (by assumption) | exact kit_OutOfRange_UnknownName (by assumption) | exact kit_OutOfRange_WrongDay (by assumption) | exact kit_UnknownName_BookError (by assumption) | exact kit_UnknownName_OutOfRange (by assumption) | exact kit_UnknownName_UnknownName (by assumption) | exact kit_UnknownName_WrongDay (by assumption) | exact kit_WrongDay_BookError (by assumption) | exact kit_WrongDay_OutOfRange (by assumption) | exact kit_WrongDay_UnknownName (by assumption) | exact kit_WrongDay_WrongDay (by assumption))
local macro_rules | `(tactic| walk_at "exm") => `(tactic| first | exact exm_BookError_BookError (by assumption) | exact exm_BookError_OutOfRange (by assumption) | exact exm_BookError_UnknownName (by assumption) | exact exm_BookError_WrongDay (by assumption) | exact exm_OutOfRange_BookError (by assumption) | exact exm_OutOfRange_OutOfRange (by assumption) | exact exm_OutOfRange_UnknownName (by assumption) | exact exm_OutOfRange_WrongDay (by assumption) | exact exm_UnknownName_BookError (by assumption) | exact exm_UnknownName_OutOfRange (by assumption) | exact exm_UnknownName_UnknownName (by assumption) | exact exm_UnknownName_WrongDay (by assumption) | exact exm_WrongDay_BookError (by assumption) | exact exm_WrongDay_OutOfRange (by assumption) | exact exm_WrongDay_UnknownName (by assumption) | exact exm_WrongDay_WrongDay (by assumption))
local macro_rules | `(tactic| walk_at "exv") => `(tactic| first | exact Txt.yv_BookError (by assumption) | exact Txt.yv_OutOfRange (by assumption) | exact Txt.yv_UnknownName (by assumption) | exact Txt.yv_WrongDay (by assumption))
def f_OutOfRange : List V → List (Str × V) := fs1 "OutOfRange" "value"
theorem okx_OutOfRange (T : Txt w K mg) : ExcOk P w K mg base T.c_OutOfRange any1 f_OutOfRange 1 := by
  refine T.x_OutOfRange.ok (N := ["self", "value", "__class__"]) (ps := ["value"]) rfl rfl (NdefX.nscope_by (by decide +kernel)) rfl rfl (fun _ _ _ _ _ us hl => match us, hl with | [_, _], _ => rfl) (fun _ _ _ _ => rfl) (fun _ _ _ _ => rfl) (fun _ _ _ _ => rfl) (fun _ _ _ _ => ⟨_, rfl⟩) fun X cc cda fI L hK hN hE hO => ?_
  obtain ⟨_, _, _, _, _, _, _, _, _, _, _, _, _, _, _, _, _⟩ := X
  dsimp only at hK hN hE
  subst hK hN hE
  refine ⟨_, _, pa_cons pe_str pa_nil, pss_cons (ps_ost (pv 0) pe_str) (pss_one (ps_ost (pv 0) (pv 1))), fun a xs H Q hl ea hc q => ?_⟩
  obtain ⟨v, rfl⟩ : ∃ v, xs = [v] := match xs, hl with | [v], _ => ⟨v, rfl⟩
  exact ⟨(by show 1 ≤ 1000; decide), ea, two_stores hO T.n_OutOfRange_label T.n_OutOfRange_value ea (fun _ _ k => k) (fun _ _ k => ⟨_, rfl, k⟩) (fun _ _ k => ⟨_, rfl, k⟩) (fun _ _ k => ⟨_, rfl, k⟩) (fun d H' h1 h2 h3 h4 h5 => q d H' h1 h2 h3 h4 h5)⟩
def f_UnknownName : List V → List (Str × V) := fs1 "UnknownName" "name"
theorem okx_UnknownName (T : Txt w K mg) : ExcOk P w K mg base T.c_UnknownName text1 f_UnknownName 1 := by
  refine T.x_UnknownName.ok (N := ["self", "name", "__class__"]) (ps := ["name"]) rfl rfl (NdefX.nscope_by (by decide +kernel)) rfl rfl (fun _ _ _ _ _ us hl => match us, hl with | [_, _], _ => rfl) (fun _ _ _ _ => rfl) (fun _ _ _ _ => rfl) (fun _ _ _ _ => rfl) (fun _ _ _ _ => ⟨_, rfl⟩) fun X cc cda fI L hK hN hE hO => ?_
  obtain ⟨_, _, _, _, _, _, _, _, _, _, _, _, _, _, _, _, _⟩ := X
  dsimp only at hK hN hE
  subst hK hN hE
  refine ⟨_, _, pa_cons (pe_joined (.cons pe_str (.cons (pe_fmt (pv 1)) .nil))) pa_nil, pss_cons (ps_ost (pv 0) pe_str) (pss_one (ps_ost (pv 0) (pv 1))), fun a xs H Q hl ea hc q => ?_⟩
  obtain ⟨v, rfl⟩ : ∃ v, xs = [v] := match xs, hl with | [v], _ => ⟨v, rfl⟩
  obtain ⟨z, ez, hz⟩ := hc
  cases ez
  have tl := text_len "unknown name: " z (by decide +kernel) hz
  exact ⟨_, rfl, tl.1, _, rfl, .inl ⟨z, rfl, Nat.le_trans hz (by decide), ⟨z, rfl, tl.2, (by show 1 ≤ 1000; decide), ea, two_stores hO T.n_UnknownName_label T.n_UnknownName_name ea (fun _ _ k => k) (fun _ _ k => ⟨_, rfl, k⟩) (fun _ _ k => ⟨_, rfl, k⟩) (fun _ _ k => ⟨_, rfl, k⟩) (fun d H' h1 h2 h3 h4 h5 => q d H' h1 h2 h3 h4 h5)⟩⟩⟩
def f_WrongDay : List V → List (Str × V) := fs1 "WrongDay" "day"
theorem okx_WrongDay (T : Txt w K mg) : ExcOk P w K mg base T.c_WrongDay any1 f_WrongDay 1 := by
  refine T.x_WrongDay.ok (N := ["self", "day", "__class__"]) (ps := ["day"]) rfl rfl (NdefX.nscope_by (by decide +kernel)) rfl rfl (fun _ _ _ _ _ us hl => match us, hl with | [_, _], _ => rfl) (fun _ _ _ _ => rfl) (fun _ _ _ _ => rfl) (fun _ _ _ _ => rfl) (fun _ _ _ _ => ⟨_, rfl⟩) fun X cc cda fI L hK hN hE hO => ?_
  obtain ⟨_, _, _, _, _, _, _, _, _, _, _, _, _, _, _, _, _⟩ := X
  dsimp only at hK hN hE
  subst hK hN hE
  refine ⟨_, _, pa_cons pe_str pa_nil, pss_cons (ps_ost (pv 0) pe_str) (pss_one (ps_ost (pv 0) (pv 1))), fun a xs H Q hl ea hc q => ?_⟩
  obtain ⟨v, rfl⟩ : ∃ v, xs = [v] := match xs, hl with | [v], _ => ⟨v, rfl⟩
  exact ⟨(by show 1 ≤ 1000; decide), ea, two_stores hO T.n_WrongDay_label T.n_WrongDay_day ea (fun _ _ k => k) (fun _ _ k => ⟨_, rfl, k⟩) (fun _ _ k => ⟨_, rfl, k⟩) (fun _ _ k => ⟨_, rfl, k⟩) (fun d H' h1 h2 h3 h4 h5 => q d H' h1 h2 h3 h4 h5)⟩
local macro_rules | `(tactic| walk_at "sqc") => `(tactic| first | exact Txt.t_MODES (by assumption) _)
local macro_rules | `(tactic| walk_at "fld") => `(tactic| first | (apply fld_go (f := "convention") (C := Txt.c_Meter (by assumption)); (walk_at "hp"); (exact Txt.cl_Meter (by assumption)); (exact Txt.na_Meter_convention (by assumption)); (exact rfl)) | (apply fld_go (f := "_held") (C := Txt.c_Meter (by assumption)); (walk_at "hp"); (exact Txt.cl_Meter (by assumption)); (exact Txt.na_Meter__held (by assumption)); (exact rfl)))
local macro_rules | `(tactic| walk_at "setf") => `(tactic| first | (apply setf_go (f := "convention") (C := Txt.c_Meter (by assumption)); (walk_at "hp"); (exact Txt.cl_Meter (by assumption)); (exact Txt.na_Meter_convention (by assumption)); (exact Nat.le_of_ble_eq_true (by rfl))) | (apply setf_go (f := "_held") (C := Txt.c_Meter (by assumption)); (walk_at "hp"); (exact Txt.cl_Meter (by assumption)); (exact Txt.na_Meter__held (by assumption)); (exact Nat.le_of_ble_eq_true (by rfl))))
local macro_rules | `(tactic| walk_at "call") => `(tactic| first | (walk_at "fld") | (walk_at "setf"))
local macro_rules | `(tactic| walk_at "kat") => `(tactic| first | exact Txt.ka_PARTS (by assumption) _)
local macro_rules | `(tactic| walk_at "call") => `(tactic| first | (apply kin_go; (walk_at "kat")) | (apply kni_go; (walk_at "kat")))
/-! ### check_convention -/
theorem kget_parts (z : Str) : kget kv_PARTS z = (partsOf z).map V.int := by
  unfold kv_PARTS partsOf
  simp only [kget]
  repeat' split
  all_goals first | rfl | (simp_all; done)
@[irreducible] def sp_check_convention (T : Txt w K mg) : Sp := fun vs H Q E => ∃ (z : Str), vs = [.str z] ∧ (partsOf z = none → z.length ≤ 1000000 ∧ ∀ d, H d = none → E (.ref T.c_UnknownName) (some d) (upd H d (.xd (f_UnknownName [.str z])))) ∧ (partsOf z ≠ none → Q .non H)
theorem ok_check_convention (T : Txt w K mg) : FnOk P w K mg base (L2.CX P w) 3 T.a_check_convention T.fd_check_convention ["convention"] (sp_check_convention T) := by
  refine T.F_check_convention.ok sc_check_convention (fun vs H Q E h => ?_) (fun cdv A outer s H vs Q E hr h => ?_)
  · unfold sp_check_convention at h
    obtain ⟨z, rfl, _⟩ := h
    rfl
  · unfold sp_check_convention at h
    obtain ⟨z, rfl, e0, q⟩ := h
    refine ⟨_, (pss_one (ps_if (pt_cmpR (op_kni T.kd_PARTS) (pv 0) (pe_glob (v := .ref T.q_PARTS) rfl T.m_PARTS rfl) (by rfl)) (pss_one (ps_raiseX rfl (takes_of rfl rfl rfl rfl) (okx_UnknownName T) (by decide) (hr.mono (by decide)) rfl T.m_UnknownName (pa_cons (pv 0) pa_nil))) pss_nil)), ?_⟩
    walk_at "rd"
    rw [kget_parts]
    cases e : partsOf z with
    | none =>
      walk_at "rd"
      exact ⟨⟨z, rfl, (e0 e).1⟩, (e0 e).2⟩
    | some v =>
      walk_at "rd"
      exact q (by rw [e]; intro h; cases h)
theorem check_convention_go (T : Txt w K mg) {H : Hp} {Q : VK} {E : XK} {z : Str} (e0 : partsOf z = none → z.length ≤ 1000000 ∧ ∀ d, H d = none → E (.ref T.c_UnknownName) (some d) (upd H d (.xd (f_UnknownName [.str z])))) (q : partsOf z ≠ none → Q .non H) : sp_check_convention T [.str z] H Q E := by
  unfold sp_check_convention
  exact ⟨z, rfl, e0, q⟩

/-! ### ratio -/
@[irreducible] def sp_ratio (T : Txt w K mg) : Sp := fun vs H Q E => ∃ (t b : Int) (n : Nat), vs = [.int t, .int b] ∧
  (b = 0 → ∀ d, H d = none → E (.ref T.c_OutOfRange) (some d) (upd H d (.xd (f_OutOfRange [.int 0])))) ∧
  (b ≠ 0 → Sz n b ∧ n < 1000 ∧ ∀ p H', Same H H' → H p = none → H' p = some (.tup [.int (low t b).1, .int (low t b).2]) → Q (.ref p) H')
theorem ok_ratio (T : Txt w K mg) : FnOk P w K mg base (L2.CX P w) 3 T.a_ratio T.fd_ratio ["top", "bottom"] (sp_ratio T) := by
  refine T.F_ratio.ok sc_ratio (fun vs H Q E h => ?_) (fun cdv A outer s H vs Q E hr h => ?_)
  · unfold sp_ratio at h
    obtain ⟨t, b, n, rfl, _⟩ := h
    rfl
  · unfold sp_ratio at h
    obtain ⟨t, b, n, rfl, h1, h2⟩ := h
    refine ⟨_, (pss_cons (ps_if (pt_cmpR op_eq (pv 1) pe_int (nomark _)) (pss_one (ps_raiseX rfl (takes_of rfl rfl rfl rfl) (okx_OutOfRange T) (by decide) (hr.mono (by decide)) rfl T.m_OutOfRange (pa_cons pe_int pa_nil))) pss_nil)
    (pss_cons (ps_cut (ps_if (pt_cmpR op_lt (pv 1) pe_int (nomark _)) (pss_cons (ps_set (i := 0) sc_ratio.nd rfl (Or.inl rfl) (pe_un un_neg (pv 0)))
      (pss_one (ps_set (i := 1) sc_ratio.nd rfl (Or.inl rfl) (pe_un un_neg (pv 1))))) pss_nil))
    (pss_cons (ps_set (i := 2) sc_ratio.nd rfl (Or.inl rfl) (pe_callBfun cr_gcd rfl T.m_gcd (pa_cons (pv 0) (pa_cons (pv 1) pa_nil))))
    (pss_one (ps_ret (pe_tup (pa_cons (pe_op op_fdivB (pv 0) (pv 2)) (pa_cons (pe_op op_fdivB (pv 1) (pv 2)) pa_nil)))))))), ?_⟩
    walk_at "rd"
    refine iteI (fun b0 => ?_) (fun b0 => ?_)
    · walk_at "rd"
      exact h1 b0
    obtain ⟨hb, hn, q⟩ := h2 b0
    have g0 : 0 < Nat.gcd t.natAbs b.natAbs := Nat.gcd_pos_of_pos_right _ (by omega)
    have gs : Sz n (Nat.gcd t.natAbs b.natAbs : Int) := hb.le (by
      have := Nat.gcd_le_right t.natAbs (n := b.natAbs) (by omega)
      omega)
    have cd : ∀ i, CD i (Nat.gcd t.natAbs b.natAbs : Int) := fun i => ⟨by omega, Nat.lt_of_le_of_lt gs.log (by omega)⟩
    have fin : ∀ u v : Int, low t b = (u, v) → ∀ p, H p = none → Q (.ref p) (upd H p (.tup [.int u, .int v])) := fun u v e p hp => by
      refine q p _ (same_new (Same.refl H) hp) hp ?_
      rw [e]
      exact upd_same
    refine ⟨fun σ' H' => Wall (H' = H ∧ ∃ t' b' : Int, σ' = [some (.int t'), some (.int b'), none] ∧ t'.natAbs = t.natAbs ∧ b'.natAbs = b.natAbs ∧ low t b = (t' / (Nat.gcd t.natAbs b.natAbs : Nat), b' / (Nat.gcd t.natAbs b.natAbs : Nat))), ?_, ?_⟩
    · walk_at "rd"
      refine iteD (fun h => ?_) (fun h => ?_)
      · exact ⟨_, rfl, _, rfl, _, rfl, _, rfl, wall ⟨rfl, -t, -b, rfl, Int.natAbs_neg t, Int.natAbs_neg b, if_pos h⟩⟩
      · exact wall ⟨rfl, t, b, rfl, rfl, rfl, if_neg h⟩
    · rintro σ' H' ⟨k⟩
      obtain ⟨rfl, t', b', rfl, et, eb, el⟩ := k trivial
      refine ⟨_, rfl, _, rfl, t', b', rfl, ?_⟩
      rw [et, eb]
      exact ⟨_, rfl, _, rfl, _, _, rfl, rfl, cd _, _, rfl, _, rfl, _, _, rfl, rfl, cd _, by show 2 ≤ sizeLine; decide, fun p hp => fin _ _ el p hp⟩
/-- two pairs are handed in, the pair of top f and bottom g comes out -/
@[irreducible] def sp_arith (T : Txt w K mg) (f g : Int → Int → Int → Int → Int) : Sp := fun vs H Q E => ∃ (p q : Addr) (a0 a1 b0 b1 : Int), vs = [.ref p, .ref q] ∧ SqT K H p [.int a0, .int a1] ∧ SqT K H q [.int b0, .int b1] ∧ Sz 210 a0 ∧ Sz 210 a1 ∧ Sz 210 b0 ∧ Sz 210 b1 ∧
  (g a0 a1 b0 b1 = 0 → ∀ d, H d = none → E (.ref T.c_OutOfRange) (some d) (upd H d (.xd (f_OutOfRange [.int 0])))) ∧
  (g a0 a1 b0 b1 ≠ 0 → ∀ p' H', Same H H' → H p' = none → H' p' = some (.tup [.int (low (f a0 a1 b0 b1) (g a0 a1 b0 b1)).1, .int (low (f a0 a1 b0 b1) (g a0 a1 b0 b1)).2]) → Q (.ref p') H')

/-! ### Meter___init__ -/
theorem ratio_go (T : Txt w K mg) {H : Hp} {Q : VK} {E : XK} {t b : Int} {n : Nat} (b0 : b ≠ 0) (hb : Sz n b) (hn : n < 1000) (q : ∀ p H', Same H H' → H p = none → H' p = some (.tup [.int (low t b).1, .int (low t b).2]) → Q (.ref p) H') : sp_ratio T [.int t, .int b] H Q E := by
  unfold sp_ratio
  exact ⟨t, b, n, rfl, fun z => absurd z b0, fun _ => ⟨hb, hn, q⟩⟩
theorem arith_go (T : Txt w K mg) {H : Hp} {Q : VK} {E : XK} {f g : Int → Int → Int → Int → Int} {p p2 : Addr} {a0 a1 b0 b1 : Int} (h1 : PairAt K H p a0 a1) (h2 : PairAt K H p2 b0 b1) (g0 : g a0 a1 b0 b1 ≠ 0) (q : ∀ p' H', Same H H' → H p' = none → H' p' = some (.tup [.int (low (f a0 a1 b0 b1) (g a0 a1 b0 b1)).1, .int (low (f a0 a1 b0 b1) (g a0 a1 b0 b1)).2]) → Q (.ref p') H') : sp_arith T f g [.ref p, .ref p2] H Q E := by
  unfold sp_arith
  exact ⟨p, p2, a0, a1, b0, b1, rfl, h1.at_, h2.at_, h1.s1, h1.s2, h2.s1, h2.s2, fun z => absurd z g0, fun _ => q⟩
/-- a meter at c: its convention, the exact amount t by v at p -/
structure MeterAt (K : PySem.W.Frag) (C : Addr) (H : Hp) (c : Addr) (z : Str) (p : Addr) (t v : Int) : Prop where
  ins : ∃ dx : Addr, H c = some (.ins C dx [("convention", .str z), ("_held", .ref p)])
  kind : t = t ∨ True
  held : PairAt K H p t v
theorem MeterAt.same {C : Addr} {H H' : Hp} {c : Addr} {z : Str} {p : Addr} {t v : Int} (s : Same H H') (h : MeterAt K C H c z p t v) : MeterAt K C H' c z p t v := by
  obtain ⟨⟨dx, i⟩, k, l⟩ := h
  exact ⟨⟨dx, s _ _ i⟩, k, l.same s⟩
@[irreducible] def sp_Meter___init__ (T : Txt w K mg) : Sp := fun vs H Q E => ∃ (c : Addr) (dx : Addr) (z : Str), vs = [.ref c, .str z] ∧ (H c = some (.ins T.c_Meter dx [])) ∧ (partsOf z = none → z.length ≤ 1000000 ∧ ∀ d, H d = none → E (.ref T.c_UnknownName) (some d) (upd H d (.xd (f_UnknownName [.str z])))) ∧ (partsOf z ≠ none → ∀ p H', (∀ b o, b ≠ c → H b = some o → H' b = some o) → MeterAt K T.c_Meter H' c z p 0 1 → Q .non H')
theorem ok_Meter___init__ (T : Txt w K mg) : FnOk P w K mg base (L2.CX P w) 4 T.a_Meter___init__ T.fd_Meter___init__ ["self", "convention"] (sp_Meter___init__ T) := by
  refine T.F_Meter___init__.ok sc_Meter___init__ (fun vs H Q E h => ?_) (fun cdv A outer s H vs Q E hr h => ?_)
  · unfold sp_Meter___init__ at h
    obtain ⟨c, dx, z, rfl, _⟩ := h
    rfl
  · unfold sp_Meter___init__ at h
    obtain ⟨c, dx, z, rfl, hc, e, q⟩ := h
    refine ⟨_, (pss_cons (ps_expr (pe_callS (ok_check_convention T) (hr.mono (by decide)) rfl T.m_check_convention T.F_check_convention.kp T.b_check_convention (fun σ => passAt (takes_of rfl rfl rfl rfl) σ) (pa_cons (pv 1) pa_nil)))
    (pss_cons (ps_fld (pv 0) (pv 1) rfl)
    (pss_one (ps_fld (pv 0) (pe_callSD (ok_ratio T) (hr.mono (by decide)) rfl T.m_ratio T.F_ratio.kp T.b1_ratio (fun σ => passAt (takes_of rfl rfl rfl rfl) σ) (pa_cons pe_int pa_nil)) rfl)))), ?_⟩
    walk_at "rd"
    refine check_convention_go T e fun hz => ?_
    have q' := q hz
    walk_at "rd"
    have e1 : (upd H c (.ins T.c_Meter dx (putF "convention" (.str z) []))) c = some (.ins T.c_Meter dx [("convention", .str z)]) := upd_same
    have s1 : ∀ b o, b ≠ c → H b = some o → (upd H c (.ins T.c_Meter dx (putF "convention" (.str z) []))) b = some o := fun b o hb e => (upd_ne hb).trans e
    generalize upd H c (.ins T.c_Meter dx (putF "convention" (.str z) [])) = H1 at *
    walk_at "rd"
    
    refine ratio_go T (b := 1) (by decide) (n := 4) ⟨by decide⟩ (by decide) fun p H2 s2 np ep => ?_
    have e2 := s2 _ _ e1
    walk_at "rd"
    have pc : p ≠ c := fun y => by rw [y, e1] at np; cases np
    refine q' p _ (fun b o hb e => (upd_ne hb).trans (s2 _ _ (s1 b o hb e))) ⟨⟨dx, upd_same⟩, .inl rfl, low_pair (t := 0) (b := 1) ((upd_ne pc).trans ep) (by decide) ⟨by decide⟩ ⟨by decide⟩⟩
theorem Meter___init___go (T : Txt w K mg) {H : Hp} {Q : VK} {E : XK} {c : Addr} {dx : Addr} {z : Str} (hc : H c = some (.ins T.c_Meter dx [])) (e : partsOf z = none → z.length ≤ 1000000 ∧ ∀ d, H d = none → E (.ref T.c_UnknownName) (some d) (upd H d (.xd (f_UnknownName [.str z])))) (q : partsOf z ≠ none → ∀ p H', (∀ b o, b ≠ c → H b = some o → H' b = some o) → MeterAt K T.c_Meter H' c z p 0 1 → Q .non H') : sp_Meter___init__ T [.ref c, .str z] H Q E := by
  unfold sp_Meter___init__
  exact ⟨c, dx, z, rfl, hc, e, q⟩
theorem new_meter (T : Txt w K mg) {H : Hp} {R : Addr → Hp → Prop} {E : XK} {z : Str} (e : partsOf z = none → z.length ≤ 1000000 ∧ ∀ H', Same H H' → ∀ d, H' d = none → E (.ref T.c_UnknownName) (some d) (upd H' d (.xd (f_UnknownName [.str z])))) (q : partsOf z ≠ none → ∀ (c p : Addr) (H' : Hp), Same H H' → H c = none → MeterAt K T.c_Meter H' c z p 0 1 → R c H') :
    ∀ y dy, H y = none → H dy = none → dy ≠ y → sp_Meter___init__ T [.ref y, .str z] (upd (upd H dy (.own y)) y (.ins T.c_Meter dy [])) (fun v H2 => v = .non ∧ R y H2) E := by
  intro y dy ny ndy ne
  have s0 : Same H (upd (upd H dy (.own y)) y (.ins T.c_Meter dy [])) := fun b o e => by
    rw [upd_ne (ne_of_none e ny), upd_ne (ne_of_none e ndy)]
    exact e
  refine Meter___init___go T upd_same (fun hz => ⟨(e hz).1, fun d hd => (e hz).2 _ s0 d hd⟩) fun hz p H' s M => ⟨rfl, q hz y p H' (fun b o e => s b o (ne_of_none e ny) (s0 b o e)) ny M⟩

/-! ### Meter_exact -/
@[irreducible] def sp_Meter_exact (T : Txt w K mg) : Sp := fun vs H Q E => ∃ (c : Addr) (z : Str) (p : Addr) (t : Int) (v : Int), vs = [.ref c] ∧ (MeterAt K T.c_Meter H c z p t v) ∧ (Q (.ref p) H)
theorem ok_Meter_exact (T : Txt w K mg) : FnOk P w K mg base (L2.CX P w) 1 T.a_Meter_exact T.fd_Meter_exact ["self"] (sp_Meter_exact T) := by
  refine T.F_Meter_exact.ok sc_Meter_exact (fun vs H Q E h => ?_) (fun cdv A outer s H vs Q E hr h => ?_)
  · unfold sp_Meter_exact at h
    obtain ⟨c, z, p, t, v, rfl, _⟩ := h
    rfl
  · unfold sp_Meter_exact at h
    obtain ⟨c, z, p, t, v, rfl, M, q⟩ := h
    refine ⟨_, (pss_one (ps_ret (pe_fld (pv 0) rfl))), ?_⟩
    obtain ⟨dx, hi⟩ := M.ins
    walk_at "rd"
    exact q
theorem Meter_exact_go (T : Txt w K mg) {H : Hp} {Q : VK} {E : XK} {c : Addr} {z : Str} {p : Addr} {t : Int} {v : Int} (M : MeterAt K T.c_Meter H c z p t v) (q : Q (.ref p) H) : sp_Meter_exact T [.ref c] H Q E := by
  unfold sp_Meter_exact
  exact ⟨c, z, p, t, v, rfl, M, q⟩

/-! ### _law_gcd -/
/-- the pair behind i turns -/
def euc (x y : Nat) : Nat → Nat × Nat
  | 0 => (x, y)
  | i + 1 => ((euc x y i).2, (euc x y i).1 % (euc x y i).2)
theorem euc_gcd (x y : Nat) : ∀ i, (∀ j, j < i → (euc x y j).2 ≠ 0) → Nat.gcd (euc x y i).1 (euc x y i).2 = Nat.gcd x y
  | 0, _ => rfl
  | i + 1, h => by
    have ih := euc_gcd x y i fun j hj => h j (Nat.lt_succ_of_lt hj)
    show Nat.gcd (euc x y i).2 ((euc x y i).1 % (euc x y i).2) = _
    rw [← ih, Nat.gcd_comm (euc x y i).1, Nat.gcd_rec (euc x y i).2 (euc x y i).1, Nat.gcd_comm]
theorem euc_half (x y i : Nat) (h0 : (euc x y i).2 ≠ 0) (h1 : (euc x y (i + 1)).2 ≠ 0) : 2 * (euc x y (i + 2)).2 < (euc x y i).2 := by
  have e1 : (euc x y (i + 1)).2 = (euc x y i).1 % (euc x y i).2 := rfl
  have e2 : (euc x y (i + 2)).2 = (euc x y i).2 % ((euc x y i).1 % (euc x y i).2) := rfl
  have l1 : (euc x y i).1 % (euc x y i).2 < (euc x y i).2 := Nat.mod_lt _ (Nat.pos_of_ne_zero h0)
  rw [e1] at h1
  rw [e2]
  generalize (euc x y i).1 % (euc x y i).2 = r at h1 l1
  generalize (euc x y i).2 = b at l1
  have l2 : b % r < r := Nat.mod_lt _ (Nat.pos_of_ne_zero h1)
  by_cases c : 2 * r ≤ b
  · omega
  · have e3 : b % r = b - r := by
      rw [Nat.mod_eq_sub_mod (by omega), Nat.mod_eq_of_lt (by omega)]
    omega
theorem euc_ends (x y : Nat) : ∀ n, y < 2 ^ n → ∃ j, j ≤ 2 * n ∧ (euc x y j).2 = 0 := by
  have key : ∀ n i, (∀ j, j < i + 2 * n → (euc x y j).2 ≠ 0) → (euc x y i).2 < 2 ^ n → (euc x y (i + 2 * n)).2 = 0 := by
    intro n
    induction n with
    | zero =>
      intro i _ h
      have : (euc x y i).2 < 1 := h
      show (euc x y i).2 = 0
      omega
    | succ n ih =>
      intro i hj h
      have hh := euc_half x y i (hj i (by omega)) (hj (i + 1) (by omega))
      have l : (euc x y (i + 2)).2 < 2 ^ n := by
        rw [Nat.pow_succ] at h
        omega
      have := ih (i + 2) (fun j l => hj j (by omega)) l
      rw [show i + 2 * (n + 1) = i + 2 + 2 * n by omega]
      exact this
  intro n hy
  by_cases c : ∃ j, j < 2 * n ∧ (euc x y j).2 = 0
  · obtain ⟨j, l, e⟩ := c
    exact ⟨j, by omega, e⟩
  · refine ⟨2 * n, by omega, ?_⟩
    have := key n 0 (fun j l e => c ⟨j, by omega, e⟩) hy
    rw [Nat.zero_add] at this
    exact this
def sp__law_gcd : Sp := fun vs H Q _ => ∃ (a b : Int) (n : Nat), vs = [.int a, .int b] ∧ Sz n b ∧ n < 1000 ∧ Q (.int ((Nat.gcd a.natAbs b.natAbs : Nat) : Int)) H
theorem abs_nat (a : Int) : (if a < 0 then -a else a) = (a.natAbs : Int) := by
  split <;> omega
theorem ok__law_gcd (T : Txt w K mg) : FnOk P w K mg base (L2.CX P w) 1 T.a__law_gcd T.fd__law_gcd ["a", "b"] sp__law_gcd := by
  refine T.F__law_gcd.ok sc__law_gcd (fun vs H Q E h => ?_) (fun cdv A outer s H vs Q E hr h => ?_)
  · obtain ⟨a, b, n, rfl, _⟩ := h
    rfl
  · obtain ⟨a, b, n, rfl, hb, hn, q⟩ := h
    refine ⟨_, (pss_cons (ps_set (i := 0) sc__law_gcd.nd rfl (Or.inl rfl) (pe_callB call_abs rfl T.z_abs bt_abs (pa_cons (pv 0) pa_nil)))
    (pss_cons (ps_set (i := 1) sc__law_gcd.nd rfl (Or.inl rfl) (pe_callB call_abs rfl T.z_abs bt_abs (pa_cons (pv 1) pa_nil)))
    (pss_cons (ps_for (passes_of rfl) rfl (pi_range1 rfl T.z_range (pa_cons pe_int pa_nil)) (pg_name (i := 2) sc__law_gcd.nd rfl (Or.inl rfl))
      (pss_cons (ps_if (pt_cmpR op_eq (pv 1) pe_int (nomark _)) (pss_one ps_break) pss_nil)
      (pss_cons (ps_set (i := 3) sc__law_gcd.nd rfl (Or.inl rfl) (pe_op op_mod (pe_callTy call_int1 rfl T.z_int bt_int (pa_cons (pv 0) pa_nil)) (pv 1)))
      (pss_cons (ps_set (i := 0) sc__law_gcd.nd rfl (Or.inl rfl) (pv 1))
      (pss_one (ps_set (i := 1) sc__law_gcd.nd rfl (Or.inl rfl) (pv 3)))))))
    (pss_one (ps_ret (pv 0)))))), ?_⟩
    walk_at "rd"
    rw [abs_nat, abs_nat]
    refine ⟨by decide, by decide, for_range (n := 2000) (fun i σ H' => ∃ v r : Option V, H' = H ∧ σ = [some (.int ((euc a.natAbs b.natAbs i).1 : Int)), some (.int ((euc a.natAbs b.natAbs i).2 : Int)), v, r] ∧ ∀ j, j < i → (euc a.natAbs b.natAbs j).2 ≠ 0)
      ⟨none, none, rfl, rfl, fun j l => absurd l (Nat.not_lt_zero j)⟩ ?_ ?_⟩
    · rintro i σ H' hi ⟨v, r, rfl, rfl, hj⟩
      walk_at "rd"
      refine ite2 (fun h => ?_) (fun h => ?_)
      · have h0 : (euc a.natAbs b.natAbs i).2 = 0 := by
          have := V.int.inj (of_decide_eq_true h)
          omega
        walk_at "rd"
        have e := euc_gcd a.natAbs b.natAbs i hj
        rw [h0, Nat.gcd_zero_right] at e
        rw [e]
        exact q
      · have h0 : (euc a.natAbs b.natAbs i).2 ≠ 0 := fun z => h (decide_eq_true (by rw [z]; rfl))
        refine ⟨_, rfl, .inl ⟨_, rfl, _, rfl, _, _, rfl, rfl, by omega, _, rfl, _, rfl, some (.int (0 + (i : Int))), some (.int ((euc a.natAbs b.natAbs (i + 1)).2 : Int)), rfl, rfl, fun j l => ?_⟩⟩
        by_cases c : j < i
        · exact hj j c
        · rw [show j = i by omega]
          exact h0
    · rintro σ H' ⟨v, r, rfl, rfl, hj⟩
      obtain ⟨j, l, e⟩ := euc_ends a.natAbs b.natAbs n hb.lt
      exact absurd e (hj j (by omega))

/-! ### _law_lowest -/
@[irreducible] def sp__law_lowest : Sp := fun vs H Q _ => ∃ (t b : Int) (n : Nat), vs = [.int t, .int b] ∧ Sz n b ∧ b ≠ 0 ∧ n < 1000 ∧ ∀ p H', Same H H' → H p = none → H' p = some (.tup [.int (low t b).1, .int (low t b).2]) → Q (.ref p) H'
theorem ok__law_lowest (T : Txt w K mg) : FnOk P w K mg base (L2.CX P w) 2 T.a__law_lowest T.fd__law_lowest ["top", "bottom"] sp__law_lowest := by
  refine T.F__law_lowest.ok sc__law_lowest (fun vs H Q E h => ?_) (fun cdv A outer s H vs Q E hr h => ?_)
  · unfold sp__law_lowest at h
    obtain ⟨t, b, n, rfl, _⟩ := h
    rfl
  · unfold sp__law_lowest at h
    obtain ⟨t, b, n, rfl, hb, b0, hn, q⟩ := h
    refine ⟨_, (pss_cons (ps_cut (ps_if (pt_cmpR op_lt (pv 1) pe_int (nomark _)) (pss_cons (ps_set (i := 0) sc__law_lowest.nd rfl (Or.inl rfl) (pe_un un_neg (pv 0)))
      (pss_one (ps_set (i := 1) sc__law_lowest.nd rfl (Or.inl rfl) (pe_un un_neg (pv 1))))) pss_nil))
    (pss_cons (ps_set (i := 2) sc__law_lowest.nd rfl (Or.inl rfl) (pe_callS (ok__law_gcd T) (hr.mono (by decide)) rfl T.m__law_gcd T.F__law_gcd.kp T.b__law_gcd (fun σ => passAt (takes_of rfl rfl rfl rfl) σ) (pa_cons (pv 0) (pa_cons (pv 1) pa_nil))))
    (pss_one (ps_ret (pe_tup (pa_cons (pe_op op_fdivB (pv 0) (pv 2)) (pa_cons (pe_op op_fdivB (pv 1) (pv 2)) pa_nil))))))), ?_⟩
    have g0 : 0 < Nat.gcd t.natAbs b.natAbs := Nat.gcd_pos_of_pos_right _ (by omega)
    have gs : Sz n (Nat.gcd t.natAbs b.natAbs : Int) := hb.le (by
      have := Nat.gcd_le_right t.natAbs (n := b.natAbs) (by omega)
      omega)
    have cd : ∀ i, CD i (Nat.gcd t.natAbs b.natAbs : Int) := fun i => ⟨by omega, Nat.lt_of_le_of_lt gs.log (by omega)⟩
    have fin : ∀ u v : Int, low t b = (u, v) → ∀ p, H p = none → Q (.ref p) (upd H p (.tup [.int u, .int v])) := fun u v e p hp => by
      refine q p _ (same_new (Same.refl H) hp) hp ?_
      rw [e]
      exact upd_same
    refine ⟨fun σ' H' => H' = H ∧ ∃ t' b' : Int, σ' = [some (.int t'), some (.int b'), none] ∧ t'.natAbs = t.natAbs ∧ b'.natAbs = b.natAbs ∧ low t b = (t' / (Nat.gcd t.natAbs b.natAbs : Nat), b' / (Nat.gcd t.natAbs b.natAbs : Nat)), ?_, ?_⟩
    · walk_at "rd"
      refine iteD (fun h => ?_) (fun h => ?_)
      · exact ⟨_, rfl, _, rfl, _, rfl, _, rfl, rfl, -t, -b, rfl, Int.natAbs_neg t, Int.natAbs_neg b, if_pos h⟩
      · exact ⟨rfl, t, b, rfl, rfl, rfl, if_neg h⟩
    · rintro σ' H' ⟨rfl, t', b', rfl, et, eb, el⟩
      refine ⟨_, rfl, _, rfl, t', b', n, rfl, hb.le (by omega), hn, ?_⟩
      rw [et, eb]
      exact ⟨_, rfl, _, rfl, _, _, rfl, rfl, cd _, _, rfl, _, rfl, _, _, rfl, rfl, cd _, by show 2 ≤ sizeLine; decide, fun p hp => fin _ _ el p hp⟩
theorem lowest_go {H : Hp} {Q : VK} {E : XK} {t b : Int} {n : Nat} (hb : Sz n b) (b0 : b ≠ 0) (hn : n < 1000) (q : ∀ p H', Same H H' → H p = none → H' p = some (.tup [.int (low t b).1, .int (low t b).2]) → Q (.ref p) H') : sp__law_lowest [.int t, .int b] H Q E := by
  unfold sp__law_lowest
  exact ⟨t, b, n, rfl, hb, b0, hn, q⟩

/-! ### _law_whole -/
def sp__law_whole : Sp := fun vs H Q _ => ∃ (x : V) (b : Bool), vs = [x] ∧ wholeV x = some b ∧ Q (.bl b) H
theorem ok__law_whole (T : Txt w K mg) : FnOk P w K mg base (L2.CX P w) 1 T.a__law_whole T.fd__law_whole ["x"] sp__law_whole := by
  refine T.F__law_whole.ok sc__law_whole (fun vs H Q E h => ?_) (fun cdv A outer s H vs Q E hr h => ?_)
  · obtain ⟨x, b, rfl, _⟩ := h
    rfl
  · obtain ⟨x, b, rfl, hb, q⟩ := h
    refine ⟨_, (pss_one (ps_ret (pe_and (pe_callB call_is rfl T.z_isinstance bt_isinstance (pa_cons (pv 0) (pa_cons (pe_bltn (v := .ty "int") rfl T.z_int bt_int rfl) pa_nil))) (pe_one (pe_not (pe_callB call_is rfl T.z_isinstance bt_isinstance (pa_cons (pv 0) (pa_cons (pe_bltn (v := .ty "bool") rfl T.z_bool bt_bool rfl) pa_nil)))))))), ?_⟩
    cases x with
    | int i =>
      cases hb
      walk_at "rd"
      exact q
    | bl i =>
      cases hb
      walk_at "rd"
      exact q
    | str i =>
      cases hb
      walk_at "rd"
      exact q
    | non =>
      cases hb
      walk_at "rd"
      exact q
    | byt _ => cases hb
    | flt _ => cases hb
    | ref _ => cases hb
    | ty _ => cases hb

/-! ### _law_exact -/
@[irreducible] def sp__law_exact (T : Txt w K mg) : Sp := fun vs H Q E => ∃ (c : Addr) (z : Str) (p : Addr) (t : Int) (b : Int), vs = [.ref c, .int t, .int b] ∧ (MeterAt K T.c_Meter H c z p (low t b).1 (low t b).2) ∧ (b ≠ 0) ∧ (Sz 210 b) ∧ (∀ H', Same H H' → Q (.bl true) H')
theorem ok__law_exact (T : Txt w K mg) : FnOk P w K mg base (L2.CX P w) 3 T.a__law_exact T.fd__law_exact ["meter", "top", "bottom"] (sp__law_exact T) := by
  refine T.F__law_exact.ok sc__law_exact (fun vs H Q E h => ?_) (fun cdv A outer s H vs Q E hr h => ?_)
  · unfold sp__law_exact at h
    obtain ⟨c, z, p, t, b, rfl, _⟩ := h
    rfl
  · unfold sp__law_exact at h
    obtain ⟨c, z, p, t, b, rfl, M, b0, hb, q⟩ := h
    refine ⟨_, (pss_cons (ps_set (i := 3) sc__law_exact.nd rfl (Or.inl rfl) (pe_methX0 (ok_Meter_exact T) (hr.mono (by decide)) T.cl_Meter T.me_Meter_exact T.b_Meter_exact (fun σ => passAt (takes_of rfl rfl rfl rfl) σ) (pv 0)))
    (pss_cons (ps_if (PW.pt (pw_or (pt_not (pt_val (pe_callB call_is rfl T.z_isinstance bt_isinstance (pa_cons (pv 3) (pa_cons (pe_bltn (v := .ty "tuple") rfl T.z_tuple bt_tuple rfl) pa_nil))))) (pw_or (pt_cmpR op_ne (pe_callB call_ln rfl T.z_len bt_len (pa_cons (pv 3) pa_nil)) pe_int (nomark _)) (pw_or (pt_not (pt_val (pe_callS (ok__law_whole T) (hr.mono (by decide)) rfl T.m__law_whole T.F__law_whole.kp T.b__law_whole (fun σ => passAt (takes_of rfl rfl rfl rfl) σ) (pa_cons (pe_ix ix_tup (pv 3) pe_int (fun _ _ => rfl)) pa_nil)))) (pw_or1 (pt_not (pt_val (pe_callS (ok__law_whole T) (hr.mono (by decide)) rfl T.m__law_whole T.F__law_whole.kp T.b__law_whole (fun σ => passAt (takes_of rfl rfl rfl rfl) σ) (pa_cons (pe_ix ix_tup (pv 3) pe_int (fun _ _ => rfl)) pa_nil))))))))) (pss_one (ps_ret pe_bl)) pss_nil)
    (pss_one (ps_ret (pe_cmpR (op_eqD hr.units) (pv 3) (pe_callS (ok__law_lowest T) (hr.mono (by decide)) rfl T.m__law_lowest T.F__law_lowest.kp T.b__law_lowest (fun σ => passAt (takes_of rfl rfl rfl rfl) σ) (pa_cons (pv 1) (pa_cons (pv 2) pa_nil))) (nomark _)))))), ?_⟩
    obtain ⟨dx, hi⟩ := M.ins
    walk_at "rd"
    refine Meter_exact_go T M ?_
    have hp := M.held.at_
    walk_at "rd"
    refine lowest_go hb b0 (by decide) fun p2 H2 s2 np2 ep2 => ?_
    refine eqD_TT (same_tup s2 hp) (t_of ep2) rfl rfl ?_
    exact q H2 s2
theorem _law_exact_go (T : Txt w K mg) {H : Hp} {Q : VK} {E : XK} {c : Addr} {z : Str} {p : Addr} {t : Int} {b : Int} (M : MeterAt K T.c_Meter H c z p (low t b).1 (low t b).2) (b0 : b ≠ 0) (hb : Sz 210 b) (q : ∀ H', Same H H' → Q (.bl true) H') : sp__law_exact T [.ref c, .int t, .int b] H Q E := by
  unfold sp__law_exact
  exact ⟨c, z, p, t, b, rfl, M, b0, hb, q⟩

/-! ### _law_parts -/
def pkv : List (Key × V) := [(.inr "actual/365", .int 365), (.inr "actual/360", .int 360), (.inr "30/360", .int 360), (.inr "actual/actual", .int 133590)]
theorem pkv_at {z : Str} {v : Int} (h : partsOf z = some v) : valV (mergeK [] pkv) (.inr z) = some (.int v) := by
  unfold partsOf at h
  split at h
  · rename_i e; subst e; cases h; decide +kernel
  split at h
  · rename_i e; subst e; cases h; decide +kernel
  split at h
  · rename_i e; subst e; cases h; decide +kernel
  split at h
  · rename_i e; subst e; cases h; decide +kernel
  · cases h
@[irreducible] def sp__law_parts : Sp := fun vs H Q E => ∃ (z : Str) (v : Int), vs = [.str z] ∧ (partsOf z = some v) ∧ (∀ H', Same H H' → Q (.int v) H')
theorem ok__law_parts (T : Txt w K mg) : FnOk P w K mg base (L2.CX P w) 1 T.a__law_parts T.fd__law_parts ["convention"] sp__law_parts := by
  refine T.F__law_parts.ok sc__law_parts (fun vs H Q E h => ?_) (fun cdv A outer s H vs Q E hr h => ?_)
  · unfold sp__law_parts at h
    obtain ⟨z, v, rfl, _⟩ := h
    rfl
  · unfold sp__law_parts at h
    obtain ⟨z, v, rfl, hz, q⟩ := h
    refine ⟨_, (pss_one (ps_ret (pe_dget (hu_of hr) (pe_disp (pps_cons pe_str pe_int (pps_cons pe_str pe_int (pps_cons pe_str pe_int (pps_cons pe_str pe_int pps_nil)))) (by rfl) (by rfl) (fun z => by cases z) (by decide)) (pv 0) (fun _ _ => rfl)))), ?_⟩
    walk_at "rd"
    refine fun p np => ?_
    refine ⟨upd_same, pkv, rfl, by decide, ?_⟩
    walk_at "rd"
    refine dgetS upd_same (pkv_at hz) ?_
    refine q _ (fun b o e => ?_)
    rw [upd_ne (ne_of_none e np), upd_ne (ne_of_none e np)]
    exact e
theorem _law_parts_go {H : Hp} {Q : VK} {E : XK} {z : Str} {v : Int} (hz : partsOf z = some v) (q : ∀ H', Same H H' → Q (.int v) H') : sp__law_parts [.str z] H Q E := by
  unfold sp__law_parts
  exact ⟨z, v, rfl, hz, q⟩

/-! ### _law_draw -/
/-- the size of a number -/
def ab (c : Int) : Int := if c < 0 then -c else c
theorem ab_nn (c : Int) : 0 ≤ ab c := by unfold ab; split <;> omega
/-- the rest before the i-th limit -/
def dRest (c : Int) (ls : List Int) : Nat → Int
  | 0 => ab c
  | i + 1 => if 1000000000000000000 ≤ ab c ∧ ls.getD i 0 ≤ dRest c ls i then dRest c ls i / ls.getD i 0 else dRest c ls i
def dMix (c : Int) (i : Nat) : Int := ((ab c * 48271 + (0 + (i : Int) + 1) * 69621) % 2147483647 * 16807 + (0 + (i : Int) + 1) * 40692) % 2147483399
/-- the i-th number drawn -/
def dVal (c : Int) (ls : List Int) (i : Nat) : Int :=
  if 1000000000000000000 ≤ ab c ∧ ls.getD i 0 ≤ dRest c ls i then dRest c ls i % ls.getD i 0 else dMix c i % ls.getD i 0
def draw (c : Int) (ls : List Int) : List Int := (List.range ls.length).map (dVal c ls)
theorem dVal_nn (c : Int) (ls : List Int) (i : Nat) (h : 0 < ls.getD i 0) : 0 ≤ dVal c ls i ∧ dVal c ls i < ls.getD i 0 := by
  unfold dVal
  by_cases hh : 1000000000000000000 ≤ ab c ∧ ls.getD i 0 ≤ dRest c ls i
  · rw [if_pos hh]
    exact ⟨Int.emod_nonneg _ (by omega), Int.emod_lt_of_pos _ h⟩
  · rw [if_neg hh]
    exact ⟨Int.emod_nonneg _ (by omega), Int.emod_lt_of_pos _ h⟩
theorem dRest_sz {c : Int} (ls : List Int) (h : Sz 1048576 c) : ∀ i, Sz 1048576 (dRest c ls i)
  | 0 => h.absv
  | i + 1 => by
    unfold dRest
    by_cases hh : 1000000000000000000 ≤ ab c ∧ ls.getD i 0 ≤ dRest c ls i
    · rw [if_pos hh]; exact (dRest_sz ls h i).div
    · rw [if_neg hh]; exact dRest_sz ls h i
theorem dRest_nn (c : Int) (ls : List Int) (h : ∀ z ∈ ls, 0 < z) : ∀ i, 0 ≤ dRest c ls i
  | 0 => ab_nn c
  | i + 1 => by
    have ih := dRest_nn c ls h i
    unfold dRest
    by_cases hh : 1000000000000000000 ≤ ab c ∧ ls.getD i 0 ≤ dRest c ls i
    · rw [if_pos hh, List.getD_eq_getElem?_getD]
      cases e : ls[i]? with
      | none => simp
      | some z => exact Int.ediv_nonneg ih (Int.le_of_lt (h z (List.mem_of_getElem? e)))
    · rw [if_neg hh]; exact ih
@[irreducible] def sp__law_draw (K : PySem.W.Frag) : Sp := fun vs H Q _ => ∃ (c : Int) (p : Addr) (ls : List Int), vs = [.int c, .ref p] ∧ SqL K H p (ls.map V.int) ∧ Sz 1048576 c ∧ (∀ z ∈ ls, 0 < z ∧ Sz 64 z) ∧ ls.length ≤ 1000 ∧
  ∀ r H', Same H H' → H r = none → H' r = some (.lst ((draw c ls).map V.int)) → Q (.ref r) H'
theorem ok__law_draw (T : Txt w K mg) : FnOk P w K mg base (L2.CX P w) 1 T.a__law_draw T.fd__law_draw ["cell", "limits"] (sp__law_draw K) := by
  refine T.F__law_draw.ok sc__law_draw (fun vs H Q E h => ?_) (fun cdv A outer s H vs Q E hr h => ?_)
  · unfold sp__law_draw at h
    obtain ⟨c, p, ls, rfl, _⟩ := h
    rfl
  · unfold sp__law_draw at h
    obtain ⟨c, p, ls, rfl, hp, hc, hl, hn, q⟩ := h
    refine ⟨_, (pss_cons (ps_set (i := 2) sc__law_draw.nd rfl (Or.inl rfl) (pe_lst pa_nil))
    (pss_cons (ps_set (i := 3) sc__law_draw.nd rfl (Or.inl rfl) (pe_callB call_abs rfl T.z_abs bt_abs (pa_cons (pv 0) pa_nil)))
    (pss_cons (ps_set (i := 4) sc__law_draw.nd rfl (Or.inl rfl) (pe_cmpR op_ge (pv 3) pe_int (nomark _)))
    (pss_cons (ps_for (passes_of rfl) rfl (pi_range1 rfl T.z_range (pa_cons (pe_callB call_ln rfl T.z_len bt_len (pa_cons (pv 1) pa_nil)) pa_nil)) (pg_name (i := 5) sc__law_draw.nd rfl (Or.inl rfl))
      (pss_one (ps_if (PW.pt (pw_and (pt_val (pv 4)) (pw_and1 (pt_cmpR op_ge (pv 3) (pe_ix ix_list (pv 1) (pv 5) (fun _ _ => rfl)) (nomark _))))) (pss_cons (ps_expr (pe_bm PySem.F.plainAttrs_list PySem.F.slot_list_append PySem.F.type_list_append mt_app (pv 2) (pa_cons (pe_op op_mod (pe_callTy call_int1 rfl T.z_int bt_int (pa_cons (pv 3) pa_nil)) (pe_ix ix_list (pv 1) (pv 5) (fun _ _ => rfl))) pa_nil)))
        (pss_one (ps_set (i := 3) sc__law_draw.nd rfl (Or.inl rfl) (pe_op op_fdivB (pv 3) (pe_ix ix_list (pv 1) (pv 5) (fun _ _ => rfl)))))) (pss_cons (ps_set (i := 6) sc__law_draw.nd rfl (Or.inl rfl) (pe_op op_mod (pe_callTy call_int1 rfl T.z_int bt_int (pa_cons (pe_op op_add (pe_op op_mulB (pe_callB call_abs rfl T.z_abs bt_abs (pa_cons (pv 0) pa_nil)) pe_int) (pe_op op_mulB (pe_op op_add (pv 5) pe_int) pe_int)) pa_nil)) pe_int))
        (pss_cons (ps_set (i := 6) sc__law_draw.nd rfl (Or.inl rfl) (pe_op op_mod (pe_callTy call_int1 rfl T.z_int bt_int (pa_cons (pe_op op_add (pe_op op_mulB (pv 6) pe_int) (pe_op op_mulB (pe_op op_add (pv 5) pe_int) pe_int)) pa_nil)) pe_int))
        (pss_one (ps_expr (pe_bm PySem.F.plainAttrs_list PySem.F.slot_list_append PySem.F.type_list_append mt_app (pv 2) (pa_cons (pe_op op_mod (pe_callTy call_int1 rfl T.z_int bt_int (pa_cons (pv 6) pa_nil)) (pe_ix ix_list (pv 1) (pv 5) (fun _ _ => rfl))) pa_nil)))))))))
    (pss_one (ps_ret (pv 2))))))), ?_⟩
    walk_at "rd"
    rename_i r nr
    rw [map_len]
    have hpos : ∀ i, i < ls.length → 0 < ls.getD i 0 ∧ Sz 64 (ls.getD i 0) := fun i hi => by
      rw [List.getD_eq_getElem?_getD, List.getElem?_eq_getElem hi]
      exact hl _ (List.getElem_mem hi)
    refine ⟨by omega, by omega, for_range (n := ls.length) (fun i σ H' => ∃ k m : Option V, σ = [some (.int c), some (.ref p), some (.ref r), some (.int (dRest c ls i)), some (.bl (decide (1000000000000000000 ≤ ab c))), k, m] ∧ Same H H' ∧ H' r = some (.lst (((List.range i).map (dVal c ls)).map V.int)))
      ⟨none, none, rfl, same_new (Same.refl H) nr, upd_same⟩ ?_ ?_⟩
    · rintro i σ H' hi ⟨k, m, rfl, s1, e1⟩
      have hp' := same_lst s1 hp
      have hx := hpos i hi
      have hle : i < 1000 := by omega
      have hzr := dRest_sz ls hc i
      have hab : Sz 1048576 (if c < 0 then -c else c) := hc.absv
      have hmi : Sz 64 (dMix c i) := ⟨by unfold dMix; omega⟩
      walk_at "rd"
      have hlen : (((List.range i).map (dVal c ls)).map V.int).length < sizeLine := by
        rw [List.length_map, List.length_map, List.length_range, sizeLine_eq]
        omega
      have hi62 : Sz 12 (0 + (i : Int)) := ⟨by omega⟩
      have fin : ∀ (y ρ : Int) (k' m' : Option V), dVal c ls i = y → dRest c ls (i + 1) = ρ → ∃ k'' m'' : Option V, [some (V.int c), some (.ref p), some (.ref r), some (.int ρ), some (.bl (decide (1000000000000000000 ≤ ab c))), k', m'] = [some (.int c), some (.ref p), some (.ref r), some (.int (dRest c ls (i + 1))), some (.bl (decide (1000000000000000000 ≤ ab c))), k'', m''] ∧ Same H (upd H' r (.lst (((List.range i).map (dVal c ls)).map V.int ++ [.int y]))) ∧ upd H' r (.lst (((List.range i).map (dVal c ls)).map V.int ++ [.int y])) r = some (.lst (((List.range (i + 1)).map (dVal c ls)).map V.int)) := fun y ρ k' m' e1 e2 =>
        ⟨k', m', by rw [e2], same_set s1 nr, by rw [upd_same, range_snoc e1]⟩
      have hix : atI (ls.map V.int) (0 + ((i : Nat) : Int)) = some (V.int (ls.getD i 0)) := atI_map hi
      have hx1 := hx.1
      have hx2 := hx.2
      refine iteD (fun hg => ?_) (fun hg => ?_)
      · walk_at "rd"
        refine iteD (fun hge => ?_) (fun hge => ?_)
        · have a1 : dVal c ls i = dRest c ls i % ls.getD i 0 := if_pos ⟨hg, hge⟩
          have a2 : dRest c ls (i + 1) = dRest c ls i / ls.getD i 0 := if_pos ⟨hg, hge⟩
          have cd := CD.of (i := dRest c ls i) hx.1 hx.2
          have hp'' := same_lst (same_set (o := .lst (((List.range i).map (dVal c ls)).map V.int ++ [.int (dRest c ls i % ls.getD i 0)])) s1 nr) hp
          walk_at "rd"
          exact fin _ _ _ _ a1 a2
        · have a1 : dVal c ls i = dMix c i % ls.getD i 0 := if_neg fun z => hge z.2
          have a2 : dRest c ls (i + 1) = dRest c ls i := if_neg fun z => hge z.2
          walk_at "rd"
          exact fin _ _ _ _ a1 a2
      · have a1 : dVal c ls i = dMix c i % ls.getD i 0 := if_neg fun z => hg z.1
        have a2 : dRest c ls (i + 1) = dRest c ls i := if_neg fun z => hg z.1
        walk_at "rd"
        exact fin _ _ _ _ a1 a2
    · rintro σ H' ⟨k, m, rfl, s1, e1⟩
      walk_at "rd"
      exact q r H' s1 nr e1
theorem draw_go {H : Hp} {Q : VK} {E : XK} {c : Int} {p : Addr} {ls : List Int} (hp : SqL K H p (ls.map V.int)) (hc : Sz 1048576 c) (hl : ∀ z ∈ ls, 0 < z ∧ Sz 64 z) (hn : ls.length ≤ 1000)
    (q : ∀ r H', Same H H' → H r = none → H' r = some (.lst ((draw c ls).map V.int)) → Q (.ref r) H') : sp__law_draw K [.int c, .ref p] H Q E := by
  unfold sp__law_draw
  exact ⟨c, p, ls, rfl, hp, hc, hl, hn, q⟩
theorem draw_rep {c v : Int} (n : Nat) (hv : 0 < v) : (draw c (List.replicate n v)).length = n ∧ ∀ z ∈ draw c (List.replicate n v), 0 ≤ z ∧ z < v := by
  unfold draw
  refine ⟨by rw [List.length_map, List.length_range, List.length_replicate], fun z hz => ?_⟩
  obtain ⟨i, hi, rfl⟩ := List.mem_map.mp hz
  rw [List.mem_range, List.length_replicate] at hi
  have e : (List.replicate n v).getD i 0 = v := by
    rw [List.getD_eq_getElem?_getD, List.getElem?_replicate, if_pos hi]
    rfl
  have h2 := dVal_nn c (List.replicate n v) i (by rw [e]; exact hv)
  rw [e] at h2
  exact h2
/-- n numbers below v -/
theorem draw_rep_go {H : Hp} {Q : VK} {E : XK} {c v : Int} {n : Nat} {p : Addr} (hp : H p = some (.lst ((List.range n).map fun _ => .int v))) (hc : Sz 1048576 c) (hv : 0 < v) (hv2 : v < 18446744073709551616) (hn : n ≤ 1000)
    (q : ∀ (r : Addr) (ds : List Int) (H' : Hp), Same H H' → H r = none → H' r = some (.lst (ds.map V.int)) → ds.length = n → (∀ z ∈ ds, 0 ≤ z ∧ z < v) → Q (.ref r) H') : sp__law_draw K [.int c, .ref p] H Q E := by
  rw [range_rep] at hp
  have := draw_rep (c := c) n hv
  refine draw_go (l_of hp) hc (fun z hz => ?_) (by rw [List.length_replicate]; exact hn) fun r H' s hr e => q r _ H' s hr e this.1 this.2
  rw [List.mem_replicate] at hz
  rw [hz.2]
  exact ⟨hv, ⟨by omega⟩⟩
theorem lims_ok {ls : List Int} (h : ls.all (fun z => decide (0 < z) && decide (z < 18446744073709551616)) = true) : ∀ z ∈ ls, 0 < z ∧ Sz 64 z := fun z hz => by
  have h1 := Bool.and_eq_true_iff.mp (List.all_eq_true.mp h z hz)
  have h2 := of_decide_eq_true h1.1
  have h3 := of_decide_eq_true h1.2
  exact ⟨h2, ⟨by omega⟩⟩

/-! ### Meter_restore -/
@[irreducible] def sp_Meter_restore (T : Txt w K mg) : Sp := fun vs H Q E => ∃ (c : Addr) (z : Str) (p : Addr) (t : Int) (v : Int) (p2 : Addr) (t2 : Int) (v2 : Int), vs = [.ref c, .ref p2] ∧ (MeterAt K T.c_Meter H c z p t v) ∧ (PairAt K H p2 t2 v2) ∧ (∀ H', (∀ b o, b ≠ c → H b = some o → H' b = some o) → MeterAt K T.c_Meter H' c z p2 t2 v2 → Q .non H')
theorem ok_Meter_restore (T : Txt w K mg) : FnOk P w K mg base (L2.CX P w) 1 T.a_Meter_restore T.fd_Meter_restore ["self", "held"] (sp_Meter_restore T) := by
  refine T.F_Meter_restore.ok sc_Meter_restore (fun vs H Q E h => ?_) (fun cdv A outer s H vs Q E hr h => ?_)
  · unfold sp_Meter_restore at h
    obtain ⟨c, z, p, t, v, p2, t2, v2, rfl, _⟩ := h
    rfl
  · unfold sp_Meter_restore at h
    obtain ⟨c, z, p, t, v, p2, t2, v2, rfl, M, hp, q⟩ := h
    refine ⟨_, (pss_one (ps_fld (pv 0) (pv 1) rfl)), ?_⟩
    obtain ⟨dx, hi⟩ := M.ins
    walk_at "rd"
    refine q _ (fun b o hb e => (upd_ne hb).trans e) ⟨⟨dx, upd_same⟩, .inl rfl, ⟨tup_put hi rfl hp.at_, hp.pos, hp.s1, hp.s2⟩⟩
theorem Meter_restore_go (T : Txt w K mg) {H : Hp} {Q : VK} {E : XK} {c : Addr} {z : Str} {p : Addr} {t : Int} {v : Int} {p2 : Addr} {t2 : Int} {v2 : Int} (M : MeterAt K T.c_Meter H c z p t v) (hp : PairAt K H p2 t2 v2) (q : ∀ H', (∀ b o, b ≠ c → H b = some o → H' b = some o) → MeterAt K T.c_Meter H' c z p2 t2 v2 → Q .non H') : sp_Meter_restore T [.ref c, .ref p2] H Q E := by
  unfold sp_Meter_restore
  exact ⟨c, z, p, t, v, p2, t2, v2, rfl, M, hp, q⟩

/-! ### Meter_copy_of -/
@[irreducible] def sp_Meter_copy_of (T : Txt w K mg) : Sp := fun vs H Q E => ∃ (c : Addr) (z : Str) (p : Addr) (t : Int) (v : Int), vs = [.ref c] ∧ (MeterAt K T.c_Meter H c z p t v) ∧ (partsOf z ≠ none) ∧ (∀ c2 H', Same H H' → H c2 = none → MeterAt K T.c_Meter H' c2 z p t v → Q (.ref c2) H')
theorem ok_Meter_copy_of (T : Txt w K mg) : FnOk P w K mg base (L2.CX P w) 6 T.a_Meter_copy_of T.fd_Meter_copy_of ["self"] (sp_Meter_copy_of T) := by
  refine T.F_Meter_copy_of.ok sc_Meter_copy_of (fun vs H Q E h => ?_) (fun cdv A outer s H vs Q E hr h => ?_)
  · unfold sp_Meter_copy_of at h
    obtain ⟨c, z, p, t, v, rfl, _⟩ := h
    rfl
  · unfold sp_Meter_copy_of at h
    obtain ⟨c, z, p, t, v, rfl, M, hz, q⟩ := h
    refine ⟨_, (pss_cons (ps_set (i := 1) sc_Meter_copy_of.nd rfl (Or.inl rfl) (pe_makeX T.mk_Meter (ok_Meter___init__ T) (hr.mono (by decide)) rfl T.m_Meter T.b_Meter___init__ (fun σ => passAt (takes_of rfl rfl rfl rfl) σ) (pa_cons (pe_fld (pv 0) rfl) pa_nil)))
    (pss_cons (ps_expr (pe_methX (ok_Meter_restore T) (hr.mono (by decide)) T.cl_Meter T.me_Meter_restore T.b_Meter_restore (fun σ => passAt (takes_of rfl rfl rfl rfl) σ) (pv 1) (pa_cons (pe_fld (pv 0) rfl) pa_nil)))
    (pss_one (ps_ret (pv 1))))), ?_⟩
    obtain ⟨dx, hi⟩ := M.ins
    walk_at "rd"
    refine new_meter T (fun h => absurd h hz) fun _ c2 pc H1 s1 nc M1 => ?_
    have hi1 := s1 _ _ hi
    have P1 := M.held.same s1
    obtain ⟨dx2, hi2⟩ := M1.ins
    walk_at "rd"
    refine Meter_restore_go T M1 P1 fun H2 s2 M2 => ?_
    walk_at "rd"
    exact q c2 H2 (fun b o e => s2 b o (ne_of_none e nc) (s1 b o e)) nc M2
theorem Meter_copy_of_go (T : Txt w K mg) {H : Hp} {Q : VK} {E : XK} {c : Addr} {z : Str} {p : Addr} {t : Int} {v : Int} (M : MeterAt K T.c_Meter H c z p t v) (hz : partsOf z ≠ none) (q : ∀ c2 H', Same H H' → H c2 = none → MeterAt K T.c_Meter H' c2 z p t v → Q (.ref c2) H') : sp_Meter_copy_of T [.ref c] H Q E := by
  unfold sp_Meter_copy_of
  exact ⟨c, z, p, t, v, rfl, M, hz, q⟩

/-! ### check_amount -/
@[irreducible] def sp_check_amount (T : Txt w K mg) : Sp := fun vs H Q E => ∃ (c : Int), vs = [.int c] ∧ (c < 0 ∨ 1000000000000 < c → ∀ z, H z = none → E (.ref T.c_OutOfRange) (some z) (upd H z (.xd (f_OutOfRange [.int c])))) ∧ (0 ≤ c → c ≤ 1000000000000 → Q (.int c) H)
theorem ok_check_amount (T : Txt w K mg) : FnOk P w K mg base (L2.CX P w) 3 T.a_check_amount T.fd_check_amount ["cents"] (sp_check_amount T) := by
  refine T.F_check_amount.ok sc_check_amount (fun vs H Q E h => ?_) (fun cdv A outer s H vs Q E hr h => ?_)
  · unfold sp_check_amount at h
    obtain ⟨c, rfl, _⟩ := h
    rfl
  · unfold sp_check_amount at h
    obtain ⟨c, rfl, e, q⟩ := h
    refine ⟨_, (pss_cons (ps_if (PW.pt (pw_or (pt_cmpR op_lt (pv 0) pe_int (nomark _)) (pw_or1 (pt_cmpR op_gt (pv 0) (pe_glob (v := .int 1000000000000) rfl T.m_MOST_CENTS.choose_spec ⟨_, rfl⟩) (nomark _))))) (pss_one (ps_raiseX rfl (takes_of rfl rfl rfl rfl) (okx_OutOfRange T) (by decide) (hr.mono (by decide)) rfl T.m_OutOfRange (pa_cons (pv 0) pa_nil))) pss_nil)
    (pss_one (ps_ret (pv 0)))), ?_⟩
    walk_at "rd"
    refine iteD (fun c1 => ?_) (fun c1 => ?_)
    · walk_at "rd"
      exact e (.inl c1)
    walk_at "rd"
    refine iteD (fun c2 => ?_) (fun c2 => ?_)
    · walk_at "rd"
      exact e (.inr c2)
    walk_at "rd"
    exact q (by omega) (by omega)
theorem check_amount_go (T : Txt w K mg) {H : Hp} {Q : VK} {E : XK} {c : Int} (e : c < 0 ∨ 1000000000000 < c → ∀ z, H z = none → E (.ref T.c_OutOfRange) (some z) (upd H z (.xd (f_OutOfRange [.int c])))) (q : 0 ≤ c → c ≤ 1000000000000 → Q (.int c) H) : sp_check_amount T [.int c] H Q E := by
  unfold sp_check_amount
  exact ⟨c, rfl, e, q⟩

/-! ### check_rate -/
@[irreducible] def sp_check_rate (T : Txt w K mg) : Sp := fun vs H Q E => ∃ (c : Int), vs = [.int c] ∧ (c < 0 ∨ 1000000 < c → ∀ z, H z = none → E (.ref T.c_OutOfRange) (some z) (upd H z (.xd (f_OutOfRange [.int c])))) ∧ (0 ≤ c → c ≤ 1000000 → Q .non H)
theorem ok_check_rate (T : Txt w K mg) : FnOk P w K mg base (L2.CX P w) 3 T.a_check_rate T.fd_check_rate ["value"] (sp_check_rate T) := by
  refine T.F_check_rate.ok sc_check_rate (fun vs H Q E h => ?_) (fun cdv A outer s H vs Q E hr h => ?_)
  · unfold sp_check_rate at h
    obtain ⟨c, rfl, _⟩ := h
    rfl
  · unfold sp_check_rate at h
    obtain ⟨c, rfl, e, q⟩ := h
    refine ⟨_, (pss_one (ps_if (PW.pt (pw_or (pt_cmpR op_lt (pv 0) pe_int (nomark _)) (pw_or1 (pt_cmpR op_gt (pv 0) (pe_glob (v := .int 1000000) rfl T.m_MOST_RATE.choose_spec ⟨_, rfl⟩) (nomark _))))) (pss_one (ps_raiseX rfl (takes_of rfl rfl rfl rfl) (okx_OutOfRange T) (by decide) (hr.mono (by decide)) rfl T.m_OutOfRange (pa_cons (pv 0) pa_nil))) pss_nil)), ?_⟩
    walk_at "rd"
    refine iteD (fun c1 => ?_) (fun c1 => ?_)
    · walk_at "rd"
      exact e (.inl c1)
    walk_at "rd"
    refine iteD (fun c2 => ?_) (fun c2 => ?_)
    · walk_at "rd"
      exact e (.inr c2)
    walk_at "rd"
    exact q (by omega) (by omega)
theorem check_rate_go (T : Txt w K mg) {H : Hp} {Q : VK} {E : XK} {c : Int} (e : c < 0 ∨ 1000000 < c → ∀ z, H z = none → E (.ref T.c_OutOfRange) (some z) (upd H z (.xd (f_OutOfRange [.int c])))) (q : 0 ≤ c → c ≤ 1000000 → Q .non H) : sp_check_rate T [.int c] H Q E := by
  unfold sp_check_rate
  exact ⟨c, rfl, e, q⟩

/-! ### check_day -/
@[irreducible] def sp_check_day (T : Txt w K mg) : Sp := fun vs H Q E => ∃ (d : Int), vs = [.int d] ∧ (d < 0 ∨ 73048 < d → ∀ x, H x = none → E (.ref T.c_WrongDay) (some x) (upd H x (.xd (f_WrongDay [.int d])))) ∧ (0 ≤ d → d ≤ 73048 → Q .non H)
theorem ok_check_day (T : Txt w K mg) : FnOk P w K mg base (L2.CX P w) 3 T.a_check_day T.fd_check_day ["day"] (sp_check_day T) := by
  refine T.F_check_day.ok sc_check_day (fun vs H Q E h => ?_) (fun cdv A outer s H vs Q E hr h => ?_)
  · unfold sp_check_day at h
    obtain ⟨d, rfl, _⟩ := h
    rfl
  · unfold sp_check_day at h
    obtain ⟨d, rfl, h1, q⟩ := h
    refine ⟨_, (pss_one (ps_if (PW.pt (pw_or (pt_cmpR op_lt (pv 0) pe_int (nomark _)) (pw_or1 (pt_cmpR op_gt (pv 0) (pe_glob (v := .int 73048) rfl T.m_LAST_DAY.choose_spec ⟨_, rfl⟩) (nomark _))))) (pss_one (ps_raiseX rfl (takes_of rfl rfl rfl rfl) (okx_WrongDay T) (by decide) (hr.mono (by decide)) rfl T.m_WrongDay (pa_cons (pv 0) pa_nil))) pss_nil)), ?_⟩
    walk_at "rd"
    refine iteD (fun e => ?_) (fun e => ?_)
    · walk_at "rd"
      exact h1 (.inl e)
    walk_at "rd"
    refine iteD (fun e2 => ?_) (fun e2 => ?_)
    · walk_at "rd"
      exact h1 (.inr e2)
    exact q (by omega) (by omega)
theorem check_day_go (T : Txt w K mg) {H : Hp} {Q : VK} {E : XK} {d : Int} (h1 : d < 0 ∨ 73048 < d → ∀ x, H x = none → E (.ref T.c_WrongDay) (some x) (upd H x (.xd (f_WrongDay [.int d])))) (q : 0 ≤ d → d ≤ 73048 → Q .non H) : sp_check_day T [.int d] H Q E := by
  unfold sp_check_day
  exact ⟨d, rfl, h1, q⟩
theorem check_day_ok (T : Txt w K mg) {H : Hp} {Q : VK} {E : XK} {d : Int} (a1 : 0 ≤ d) (a2 : d ≤ 73048) (q : Q .non H) : sp_check_day T [.int d] H Q E := check_day_go T (fun z => by omega) fun _ _ => q
local macro_rules | `(tactic| walk_at "call") => `(tactic| (apply check_day_ok; (first | assumption | omega); (first | assumption | omega)))

/-! ### add -/
theorem ok_add (T : Txt w K mg) : FnOk P w K mg base (L2.CX P w) 4 T.a_add T.fd_add ["a", "b"] (sp_arith T (fun a0 a1 b0 b1 => a0 * b1 + b0 * a1) fun a0 a1 b0 b1 => a1 * b1) := by
  refine T.F_add.ok sc_add (fun vs H Q E h => ?_) (fun cdv A outer s H vs Q E hr h => ?_)
  · unfold sp_arith at h
    obtain ⟨p, q, a0, a1, b0, b1, rfl, _⟩ := h
    rfl
  · unfold sp_arith at h
    obtain ⟨p, q, a0, a1, b0, b1, rfl, hp, hq, h1, h2, h3, h4, k1, k2⟩ := h
    refine ⟨_, (pss_one (ps_ret (pe_callSD (ok_ratio T) (hr.mono (by decide)) rfl T.m_ratio T.F_ratio.kp T.b2_ratio (fun σ => passAt (takes_of rfl rfl rfl rfl) σ) (pa_cons (pe_op op_add (pe_op op_mulB (pe_ix ix_seq (pv 0) pe_int (fun _ _ => rfl)) (pe_ix ix_seq (pv 1) pe_int (fun _ _ => rfl))) (pe_op op_mulB (pe_ix ix_seq (pv 1) pe_int (fun _ _ => rfl)) (pe_ix ix_seq (pv 0) pe_int (fun _ _ => rfl)))) (pa_cons (pe_op op_mulB (pe_ix ix_seq (pv 0) pe_int (fun _ _ => rfl)) (pe_ix ix_seq (pv 1) pe_int (fun _ _ => rfl))) pa_nil))))), ?_⟩
    walk_at "rd"
    unfold sp_ratio
    exact ⟨_, _, 999, rfl, k1, fun g0 => ⟨(h2.mul h4).mono (by decide), by decide, k2 g0⟩⟩

/-! ### year_start -/
@[irreducible] def sp_year_start : Sp := fun vs H Q E => ∃ (y : Int), vs = [.int y] ∧ (Sz 64 y) ∧ (Q (.int (ystart y)) H)
theorem ok_year_start (T : Txt w K mg) : FnOk P w K mg base (L2.CX P w) 1 T.a_year_start T.fd_year_start ["year"] sp_year_start := by
  refine T.F_year_start.ok sc_year_start (fun vs H Q E h => ?_) (fun cdv A outer s H vs Q E hr h => ?_)
  · unfold sp_year_start at h
    obtain ⟨y, rfl, _⟩ := h
    rfl
  · unfold sp_year_start at h
    obtain ⟨y, rfl, h1, q⟩ := h
    refine ⟨_, (pss_cons (ps_set (i := 1) sc_year_start.nd rfl (Or.inl rfl) (pe_op op_sub (pv 0) (pe_glob (v := .int 2000) rfl T.m_FIRST_YEAR.choose_spec ⟨_, rfl⟩)))
    (pss_one (ps_ret (pe_op op_add (pe_op op_sub (pe_op op_add (pe_op op_mulB pe_int (pv 1)) (pe_op op_fdivB (pe_op op_add (pv 1) pe_int) pe_int)) (pe_op op_fdivB (pe_op op_add (pv 1) pe_int) pe_int)) (pe_op op_fdivB (pe_op op_add (pv 1) pe_int) pe_int))))), ?_⟩
    walk_at "rd"
    exact q
theorem year_start_go {H : Hp} {Q : VK} {E : XK} {y : Int} (h1 : Sz 64 y) (q : Q (.int (ystart y)) H) : sp_year_start [.int y] H Q E := by
  unfold sp_year_start
  exact ⟨y, rfl, h1, q⟩
local macro_rules | `(tactic| walk_at "call") => `(tactic| (apply year_start_go; (first | assumption | exact Sz.mk (n := 64) (by omega))))

/-! ### is_leap -/
@[irreducible] def sp_is_leap : Sp := fun vs H Q E => ∃ (y : Int), vs = [.int y] ∧ (Q (.bl (leapB y)) H)
theorem ok_is_leap (T : Txt w K mg) : FnOk P w K mg base (L2.CX P w) 1 T.a_is_leap T.fd_is_leap ["year"] sp_is_leap := by
  refine T.F_is_leap.ok sc_is_leap (fun vs H Q E h => ?_) (fun cdv A outer s H vs Q E hr h => ?_)
  · unfold sp_is_leap at h
    obtain ⟨y, rfl, _⟩ := h
    rfl
  · unfold sp_is_leap at h
    obtain ⟨y, rfl, q⟩ := h
    refine ⟨_, (pss_cons (ps_if (pt_cmpR op_eq (pe_op op_mod (pv 0) pe_int) pe_int (nomark _)) (pss_one (ps_ret pe_bl)) pss_nil)
    (pss_one (ps_ret (pe_and (pe_cmpR op_eq (pe_op op_mod (pv 0) pe_int) pe_int (nomark _)) (pe_one (pe_cmpR op_ne (pe_op op_mod (pv 0) pe_int) pe_int (nomark _))))))), ?_⟩
    walk_at "go"
    all_goals refine q_bl q ?_
    all_goals (unfold leapB leapP; first | (simp only [V.int.injEq, decide_eq_decide]; omega) | (simp [*]; done) | (simp [*]; omega))
theorem is_leap_go {H : Hp} {Q : VK} {E : XK} {y : Int} (q : Q (.bl (leapB y)) H) : sp_is_leap [.int y] H Q E := by
  unfold sp_is_leap
  exact ⟨y, rfl, q⟩
local macro_rules | `(tactic| walk_at "call") => `(tactic| (apply is_leap_go))

/-! ### month_length -/
@[irreducible] def sp_month_length (T : Txt w K mg) : Sp := fun vs H Q E => ∃ (y : Int) (m : Int), vs = [.int y, .int m] ∧ (m < 1 ∨ 12 < m → ∀ d, H d = none → E (.ref T.c_OutOfRange) (some d) (upd H d (.xd (f_OutOfRange [.int m])))) ∧ (1 ≤ m → m ≤ 12 → ∀ H', Same H H' → Q (.int (mlen y m)) H')
theorem ok_month_length (T : Txt w K mg) : FnOk P w K mg base (L2.CX P w) 3 T.a_month_length T.fd_month_length ["year", "month"] (sp_month_length T) := by
  refine T.F_month_length.ok sc_month_length (fun vs H Q E h => ?_) (fun cdv A outer s H vs Q E hr h => ?_)
  · unfold sp_month_length at h
    obtain ⟨y, m, rfl, _⟩ := h
    rfl
  · unfold sp_month_length at h
    obtain ⟨y, m, rfl, h1, q⟩ := h
    refine ⟨_, (pss_cons (ps_if (PW.pt (pw_or (pt_cmpR op_lt (pv 1) pe_int (nomark _)) (pw_or1 (pt_cmpR op_gt (pv 1) pe_int (nomark _))))) (pss_one (ps_raiseX rfl (takes_of rfl rfl rfl rfl) (okx_OutOfRange T) (by decide) (hr.mono (by decide)) rfl T.m_OutOfRange (pa_cons (pv 1) pa_nil))) pss_nil)
    (pss_cons (ps_if (pt_cmpR op_eq (pv 1) pe_int (nomark _)) (pss_one (ps_ret (pe_ifExp (pt_val (pe_callS (ok_is_leap T) (hr.mono (by decide)) rfl T.m_is_leap T.F_is_leap.kp T.b_is_leap (fun σ => passAt (takes_of rfl rfl rfl rfl) σ) (pa_cons (pv 0) pa_nil))) pe_int pe_int))) pss_nil)
    (pss_cons (ps_if (pt_cmpR op_in_seq (pv 1) (pe_tup (pa_cons pe_int (pa_cons pe_int (pa_cons pe_int (pa_cons pe_int pa_nil))))) (by rfl)) (pss_one (ps_ret pe_int)) pss_nil)
    (pss_one (ps_ret pe_int))))), ?_⟩
    walk_at "rd"
    refine iteD (fun e => ?_) (fun e => ?_)
    · walk_at "rd"
      exact h1 (.inl e)
    walk_at "rd"
    refine iteD (fun e2 => ?_) (fun e2 => ?_)
    · walk_at "rd"
      exact h1 (.inr e2)
    have q2 := q (by omega) (by omega)
    walk_at "rd"
    refine iteI (fun e3 => ?_) (fun e3 => ?_)
    · subst e3
      have q3 := q2 H (Same.refl H)
      walk_at "rd"
      refine iteB (fun b => ?_) (fun b => ?_)
      · rw [← mlen_2', if_pos b] at q3
        exact q3
      · rw [← mlen_2', if_neg (by rw [b]; decide)] at q3
        exact q3
    walk_at "rd"
    refine ⟨_, _, rfl, .inr (t_of upd_same), rfl, rfl, ⟨_, rfl, iteB (fun e4 => ?_) (fun e4 => ?_)⟩⟩
    · have := mlen_in (y := y) e4
      rw [this] at q2
      walk_at "rd"
      exact q2 _ (by walk_at "sm")
    · have := mlen_out (y := y) e4 e3
      rw [this] at q2
      walk_at "rd"
      exact q2 _ (by walk_at "sm")
theorem month_length_go (T : Txt w K mg) {H : Hp} {Q : VK} {E : XK} {y : Int} {m : Int} (h1 : m < 1 ∨ 12 < m → ∀ d, H d = none → E (.ref T.c_OutOfRange) (some d) (upd H d (.xd (f_OutOfRange [.int m])))) (q : 1 ≤ m → m ≤ 12 → ∀ H', Same H H' → Q (.int (mlen y m)) H') : sp_month_length T [.int y, .int m] H Q E := by
  unfold sp_month_length
  exact ⟨y, m, rfl, h1, q⟩
theorem month_length_ok (T : Txt w K mg) {H : Hp} {Q : VK} {E : XK} {y : Int} {m : Int} (a1 : 1 ≤ m) (a2 : m ≤ 12) (q : ∀ H', Same H H' → Q (.int (mlen y m)) H') : sp_month_length T [.int y, .int m] H Q E := month_length_go T (fun z => by omega) fun _ _ => q
local macro_rules | `(tactic| walk_at "call") => `(tactic| (apply month_length_ok; (first | assumption | omega); (first | assumption | omega)))

/-! ### date_of -/
@[irreducible] def sp_date_of (T : Txt w K mg) : Sp := fun vs H Q E => ∃ (d : Int), vs = [.int d] ∧ (d < 0 ∨ 73048 < d → ∀ x, H x = none → E (.ref T.c_WrongDay) (some x) (upd H x (.xd (f_WrongDay [.int d])))) ∧ (0 ≤ d → d ≤ 73048 → ∀ (y m x : Int) (p : Addr) (H' : Hp), IsDate y m x → dayOf y m x = d → Same H H' → H' p = some (.tup [.int y, .int m, .int x]) → Q (.ref p) H')
theorem ok_date_of (T : Txt w K mg) : FnOk P w K mg base (L2.CX P w) 4 T.a_date_of T.fd_date_of ["day"] (sp_date_of T) := by
  refine T.F_date_of.ok sc_date_of (fun vs H Q E h => ?_) (fun cdv A outer s H vs Q E hr h => ?_)
  · unfold sp_date_of at h
    obtain ⟨d, rfl, _⟩ := h
    rfl
  · unfold sp_date_of at h
    obtain ⟨d, rfl, h1, q⟩ := h
    refine ⟨_, (pss_cons (ps_expr (pe_callS (ok_check_day T) (hr.mono (by decide)) rfl T.m_check_day T.F_check_day.kp T.b_check_day (fun σ => passAt (takes_of rfl rfl rfl rfl) σ) (pa_cons (pv 0) pa_nil)))
    (pss_cons (ps_set (i := 1) sc_date_of.nd rfl (Or.inl rfl) (pe_op op_add (pe_glob (v := .int 2000) rfl T.m_FIRST_YEAR.choose_spec ⟨_, rfl⟩) (pe_op op_fdivB (pv 0) pe_int)))
    (pss_cons (ps_while (passes_of rfl) (pt_cmpR op_le (pe_callS (ok_year_start T) (hr.mono (by decide)) rfl T.m_year_start T.F_year_start.kp T.b_year_start (fun σ => passAt (takes_of rfl rfl rfl rfl) σ) (pa_cons (pe_op op_add (pv 1) pe_int) pa_nil)) (pv 0) (nomark _))
      (pss_one (ps_aug (i := 1) sc_date_of.nd rfl (Or.inl rfl) pe_int ip_add)))
    (pss_cons (ps_set (i := 2) sc_date_of.nd rfl (Or.inl rfl) (pe_op op_sub (pv 0) (pe_callS (ok_year_start T) (hr.mono (by decide)) rfl T.m_year_start T.F_year_start.kp T.b_year_start (fun σ => passAt (takes_of rfl rfl rfl rfl) σ) (pa_cons (pv 1) pa_nil))))
    (pss_cons (ps_set (i := 3) sc_date_of.nd rfl (Or.inl rfl) pe_int)
    (pss_cons (ps_while (passes_of rfl) (pt_cmpR op_ge (pv 2) (pe_callS (ok_month_length T) (hr.mono (by decide)) rfl T.m_month_length T.F_month_length.kp T.b_month_length (fun σ => passAt (takes_of rfl rfl rfl rfl) σ) (pa_cons (pv 1) (pa_cons (pv 3) pa_nil))) (nomark _))
      (pss_cons (ps_aug (i := 2) sc_date_of.nd rfl (Or.inl rfl) (pe_callS (ok_month_length T) (hr.mono (by decide)) rfl T.m_month_length T.F_month_length.kp T.b_month_length (fun σ => passAt (takes_of rfl rfl rfl rfl) σ) (pa_cons (pv 1) (pa_cons (pv 3) pa_nil))) ip_sub)
      (pss_one (ps_aug (i := 3) sc_date_of.nd rfl (Or.inl rfl) pe_int ip_add))))
    (pss_one (ps_ret (pe_tup (pa_cons (pv 1) (pa_cons (pv 3) (pa_cons (pe_op op_add (pv 2) pe_int) pa_nil)))))))))))), ?_⟩
    walk_at "rd"
    refine check_day_go T h1 fun a1 a2 => ?_
    have q2 := q a1 a2
    walk_at "rd"
    have k0 := ystart_low (d / 366) (by omega)
    refine ⟨fun n σ H' => Wall (∃ (y : Int) (u1 u2 : Option V), H' = H ∧ σ = [some (.int d), some (.int y), u1, u2] ∧ 2000 ≤ y ∧ y ≤ 2199 ∧ ystart y ≤ d ∧ n = (2200 - y).toNat), ⟨_, wall ⟨_, _, _, rfl, rfl, by omega, by omega, by omega, rfl⟩⟩, ?_⟩
    rintro n σ H' ⟨w⟩
    obtain ⟨y, u1, u2, rfl, rfl, hy1, hy2, hy3, rfl⟩ := w trivial
    have hn := ystart_next y
    walk_at "rd"
    refine iteD (fun e => ?_) (fun e => ?_)
    · have hy4 : y + 1 ≤ 2199 := Int.le_of_not_gt fun z => by
        have := ystart_mono (y := 2200) (z := y + 1) (by omega)
        rw [ystart_end] at this
        omega
      refine ⟨fun σ' H1 => Wall (H1 = H' ∧ σ' = [some (.int d), some (.int (y + 1)), u1, u2]), ?_, ?_⟩
      · rintro σ' H1 ⟨w⟩
        obtain ⟨rfl, rfl⟩ := w trivial
        exact ⟨(2200 - (y + 1)).toNat, by omega, wall ⟨_, _, _, rfl, rfl, by omega, hy4, e, rfl⟩⟩
      · walk_at "rd"
        exact wall ⟨rfl, rfl⟩
    walk_at "rd"
    refine ⟨fun n σ H1 => Wall (∃ (x m : Int), Same H' H1 ∧ σ = [some (.int d), some (.int y), some (.int x), some (.int m)] ∧ 1 ≤ m ∧ m ≤ 12 ∧ 0 ≤ x ∧ x = d - ystart y - mstart y m ∧ n = (13 - m).toNat), ⟨_, wall ⟨_, _, Same.refl _, rfl, by omega, by omega, by omega, by rw [mstart_1]; omega, rfl⟩⟩, ?_⟩
    rintro n σ H1 ⟨w⟩
    obtain ⟨x, m, s1, rfl, hm1, hm2, hx0, hx, rfl⟩ := w trivial
    have hmn := mstart_next y m hm1 hm2
    walk_at "rd"
    intro H2 s2
    walk_at "rd"
    refine iteD (fun e2 => ?_) (fun e2 => ?_)
    · have hm4 : m + 1 ≤ 12 := Int.le_of_not_gt fun z => by
        have em : m = 12 := by omega
        have h13 := mstart_13 y
        rw [em] at hmn hx e2
        have : mstart y (12 + 1) = mstart y 13 := rfl
        omega
      refine ⟨fun σ' H4 => Wall (Same H2 H4 ∧ σ' = [some (.int d), some (.int y), some (.int (x - mlen y m)), some (.int (m + 1))]), ?_, ?_⟩
      · rintro σ' H4 ⟨w⟩
        obtain ⟨s4, rfl⟩ := w trivial
        exact ⟨(13 - (m + 1)).toNat, by omega, wall ⟨_, _, (s1.trans s2).trans s4, rfl, by omega, hm4, by omega, by rw [hmn]; omega, rfl⟩⟩
      · walk_at "rd"
        intro H3 s3
        walk_at "rd"
        exact wall ⟨s3, rfl⟩
    walk_at "rd"
    exact q2 y m _ _ _ ⟨hy1, hy2, hm1, hm2, by omega, by omega⟩ (by unfold dayOf; omega) (same_new (s1.trans s2) (by assumption)) upd_same
theorem date_of_go (T : Txt w K mg) {H : Hp} {Q : VK} {E : XK} {d : Int} (h1 : d < 0 ∨ 73048 < d → ∀ x, H x = none → E (.ref T.c_WrongDay) (some x) (upd H x (.xd (f_WrongDay [.int d])))) (q : 0 ≤ d → d ≤ 73048 → ∀ (y m x : Int) (p : Addr) (H' : Hp), IsDate y m x → dayOf y m x = d → Same H H' → H' p = some (.tup [.int y, .int m, .int x]) → Q (.ref p) H') : sp_date_of T [.int d] H Q E := by
  unfold sp_date_of
  exact ⟨d, rfl, h1, q⟩
theorem date_of_ok (T : Txt w K mg) {H : Hp} {Q : VK} {E : XK} {d : Int} (a1 : 0 ≤ d) (a2 : d ≤ 73048) (q : ∀ (y m x : Int) (p : Addr) (H' : Hp), IsDate y m x → dayOf y m x = d → Same H H' → H' p = some (.tup [.int y, .int m, .int x]) → Q (.ref p) H') : sp_date_of T [.int d] H Q E := date_of_go T (fun z => by omega) fun _ _ => q
local macro_rules | `(tactic| walk_at "call") => `(tactic| (apply date_of_ok; (first | assumption | omega); (first | assumption | omega)))

/-! ### position -/
@[irreducible] def sp_position (T : Txt w K mg) : Sp := fun vs H Q E => ∃ (z : Str) (d : Int), vs = [.str z, .int d] ∧ (partsOf z = none → z.length ≤ 1000000 ∧ ∀ d, H d = none → E (.ref T.c_UnknownName) (some d) (upd H d (.xd (f_UnknownName [.str z])))) ∧ (partsOf z ≠ none → d < 0 ∨ 73048 < d → ∀ x, H x = none → E (.ref T.c_WrongDay) (some x) (upd H x (.xd (f_WrongDay [.int d])))) ∧ (partsOf z ≠ none → 0 ≤ d → d ≤ 73048 → ∀ y m x H', IsDate y m x → dayOf y m x = d → Same H H' → Q (.int (posOf z y m x)) H')
theorem ok_position (T : Txt w K mg) : FnOk P w K mg base (L2.CX P w) 5 T.a_position T.fd_position ["convention", "day"] (sp_position T) := by
  refine T.F_position.ok sc_position (fun vs H Q E h => ?_) (fun cdv A outer s H vs Q E hr h => ?_)
  · unfold sp_position at h
    obtain ⟨z, d, rfl, _⟩ := h
    rfl
  · unfold sp_position at h
    obtain ⟨z, d, rfl, e0, e1, q⟩ := h
    refine ⟨_, (pss_cons (ps_expr (pe_callS (ok_check_convention T) (hr.mono (by decide)) rfl T.m_check_convention T.F_check_convention.kp T.b_check_convention (fun σ => passAt (takes_of rfl rfl rfl rfl) σ) (pa_cons (pv 0) pa_nil)))
    (pss_cons (ps_expr (pe_callS (ok_check_day T) (hr.mono (by decide)) rfl T.m_check_day T.F_check_day.kp T.b_check_day (fun σ => passAt (takes_of rfl rfl rfl rfl) σ) (pa_cons (pv 1) pa_nil)))
    (pss_cons (ps_if (pt_cmpR op_inS (pv 0) (pe_tup (pa_cons pe_str (pa_cons pe_str pa_nil))) (by rfl)) (pss_one (ps_ret (pv 1))) pss_nil)
    (pss_cons (ps_asg (pe_callS (ok_date_of T) (hr.mono (by decide)) rfl T.m_date_of T.F_date_of.kp T.b_date_of (fun σ => passAt (takes_of rfl rfl rfl rfl) σ) (pa_cons (pv 1) pa_nil)) (pg_tup rfl (pgs_cons (pg_name (i := 2) sc_position.nd rfl (Or.inl rfl)) (pgs_cons (pg_name (i := 3) sc_position.nd rfl (Or.inl rfl)) (pgs_cons (pg_name (i := 4) sc_position.nd rfl (Or.inl rfl)) pgs_nil)))))
    (pss_cons (ps_if (pt_cmpR op_eq (pv 0) pe_str (nomark _)) (pss_one (ps_ret (pe_op op_sub (pe_op op_add (pe_op op_add (pe_op op_mulB pe_int (pe_op op_sub (pv 2) pe_int)) (pe_op op_mulB pe_int (pe_op op_sub (pv 3) pe_int))) (pe_callB (call_mn rfl) rfl T.z_min bt_min (pa_cons (pv 4) (pa_cons pe_int pa_nil)))) pe_int))) pss_nil)
    (pss_cons (ps_set (i := 5) sc_position.nd rfl (Or.inl rfl) (pe_op op_sub (pv 1) (pe_callS (ok_year_start T) (hr.mono (by decide)) rfl T.m_year_start T.F_year_start.kp T.b_year_start (fun σ => passAt (takes_of rfl rfl rfl rfl) σ) (pa_cons (pv 2) pa_nil))))
    (pss_cons (ps_set (i := 6) sc_position.nd rfl (Or.inl rfl) (pe_ifExp (pt_val (pe_callS (ok_is_leap T) (hr.mono (by decide)) rfl T.m_is_leap T.F_is_leap.kp T.b_is_leap (fun σ => passAt (takes_of rfl rfl rfl rfl) σ) (pa_cons (pv 2) pa_nil))) pe_int pe_int))
    (pss_one (ps_ret (pe_op op_add (pe_op op_mulB pe_int (pe_op op_sub (pv 2) pe_int)) (pe_op op_mulB (pv 5) (pv 6)))))))))))), ?_⟩
    walk_at "rd"
    refine check_convention_go T e0 fun hz => ?_
    walk_at "rd"
    refine check_day_go T (e1 hz) fun d0 d1 => ?_
    walk_at "rd"
    refine iteB (fun c => ?_) (fun c => ?_)
    · have c' := in_two.mp c
      obtain ⟨y, m, x, hI, hD⟩ := date_ex d0 d1
      have qq := fun H' s => q hz d0 d1 y m x H' hI hD s
      rw [posOf_act c', hD] at qq
      walk_at "rd"
      exact qq _ (by walk_at "sm")
    have c' : ¬ (z = "actual/365" ∨ z = "actual/360") := fun h => by
      rw [in_two.mpr h] at c
      cases c
    walk_at "rd"
    rename_i pp hpp
    intro y m x p H1 hI hD s1 t1
    have T1 := t_of (K := K) t1
    have qq := fun H' s => q hz d0 d1 y m x H' hI hD s
    have := hI.y0; have := hI.y1; have := hI.m0; have := hI.m1; have := hI.d0; have := hI.d1
    have sx := (same_new (Same.refl H) hpp).trans s1
    have ys : ystart (2000 + (y - 2000)) ≤ 366 * (y - 2000) := ystart_low (y - 2000) (by omega)
    rw [show 2000 + (y - 2000) = y by omega] at ys
    have ys0 : ystart 2000 ≤ ystart y := ystart_mono hI.y0
    rw [ystart_0] at ys0
    have szd : Sz 64 (d - ystart y) := ⟨by omega⟩
    walk_at "rd"
    refine iteS (fun c2 => ?_) (fun c2 => ?_)
    · rw [posOf_30 c' c2] at qq
      walk_at "rd"
      exact qq _ sx
    · rw [posOf_aa c' c2, hD] at qq
      walk_at "rd"
      cases hl : leapB y <;> rw [hl] at qq
      · walk_at "rd"
        exact qq _ sx
      · walk_at "rd"
        exact qq _ sx
theorem position_go (T : Txt w K mg) {H : Hp} {Q : VK} {E : XK} {z : Str} {d : Int} (e0 : partsOf z = none → z.length ≤ 1000000 ∧ ∀ d, H d = none → E (.ref T.c_UnknownName) (some d) (upd H d (.xd (f_UnknownName [.str z])))) (e1 : partsOf z ≠ none → d < 0 ∨ 73048 < d → ∀ x, H x = none → E (.ref T.c_WrongDay) (some x) (upd H x (.xd (f_WrongDay [.int d])))) (q : partsOf z ≠ none → 0 ≤ d → d ≤ 73048 → ∀ y m x H', IsDate y m x → dayOf y m x = d → Same H H' → Q (.int (posOf z y m x)) H') : sp_position T [.str z, .int d] H Q E := by
  unfold sp_position
  exact ⟨z, d, rfl, e0, e1, q⟩
theorem position_one (T : Txt w K mg) {H : Hp} {Q : VK} {E : XK} {z : Str} {d : Int} (hz : partsOf z ≠ none) (d0 : 0 ≤ d) (d1 : d ≤ 73048) (q : ∀ H', Same H H' → Q (.int (posD z d)) H') : sp_position T [.str z, .int d] H Q E :=
  position_go T (fun h => (hz h).elim) (fun _ h => by omega) fun _ _ _ y m x H' hI hD s => by
    rw [posD_is hI hD]
    exact q H' s
local macro_rules | `(tactic| walk_at "call") => `(tactic| (apply position_one; (first | assumption | omega); (first | assumption | omega); (first | assumption | omega)))

/-! ### weight -/
@[irreducible] def sp_weight (T : Txt w K mg) : Sp := fun vs H Q E => ∃ (z : Str) (d : Int) (d2 : Int), vs = [.str z, .int d, .int d2] ∧ (partsOf z = none → z.length ≤ 1000000 ∧ ∀ d, H d = none → E (.ref T.c_UnknownName) (some d) (upd H d (.xd (f_UnknownName [.str z])))) ∧ (partsOf z ≠ none → d < 0 ∨ 73048 < d → ∀ x, H x = none → E (.ref T.c_WrongDay) (some x) (upd H x (.xd (f_WrongDay [.int d])))) ∧ (partsOf z ≠ none → 0 ≤ d → d ≤ 73048 → d2 < 0 ∨ 73048 < d2 → ∀ x, H x = none → E (.ref T.c_WrongDay) (some x) (upd H x (.xd (f_WrongDay [.int d2])))) ∧ (partsOf z ≠ none → 0 ≤ d → d ≤ 73048 → 0 ≤ d2 → d2 ≤ 73048 → ∀ H', Same H H' → Q (.int (posD z d2 - posD z d)) H')
theorem ok_weight (T : Txt w K mg) : FnOk P w K mg base (L2.CX P w) 6 T.a_weight T.fd_weight ["convention", "first", "second"] (sp_weight T) := by
  refine T.F_weight.ok sc_weight (fun vs H Q E h => ?_) (fun cdv A outer s H vs Q E hr h => ?_)
  · unfold sp_weight at h
    obtain ⟨z, d, d2, rfl, _⟩ := h
    rfl
  · unfold sp_weight at h
    obtain ⟨z, d, d2, rfl, e0, e1, e2, q⟩ := h
    refine ⟨_, (pss_cons (ps_expr (pe_callS (ok_check_convention T) (hr.mono (by decide)) rfl T.m_check_convention T.F_check_convention.kp T.b_check_convention (fun σ => passAt (takes_of rfl rfl rfl rfl) σ) (pa_cons (pv 0) pa_nil)))
    (pss_cons (ps_expr (pe_callS (ok_check_day T) (hr.mono (by decide)) rfl T.m_check_day T.F_check_day.kp T.b_check_day (fun σ => passAt (takes_of rfl rfl rfl rfl) σ) (pa_cons (pv 1) pa_nil)))
    (pss_cons (ps_expr (pe_callS (ok_check_day T) (hr.mono (by decide)) rfl T.m_check_day T.F_check_day.kp T.b_check_day (fun σ => passAt (takes_of rfl rfl rfl rfl) σ) (pa_cons (pv 2) pa_nil)))
    (pss_one (ps_ret (pe_op op_sub (pe_callS (ok_position T) (hr.mono (by decide)) rfl T.m_position T.F_position.kp T.b_position (fun σ => passAt (takes_of rfl rfl rfl rfl) σ) (pa_cons (pv 0) (pa_cons (pv 2) pa_nil))) (pe_callS (ok_position T) (hr.mono (by decide)) rfl T.m_position T.F_position.kp T.b_position (fun σ => passAt (takes_of rfl rfl rfl rfl) σ) (pa_cons (pv 0) (pa_cons (pv 1) pa_nil))))))))), ?_⟩
    walk_at "rd"
    refine check_convention_go T e0 fun hz => ?_
    walk_at "rd"
    refine check_day_go T (e1 hz) fun d0 d1 => ?_
    walk_at "rd"
    refine check_day_go T (e2 hz d0 d1) fun c0 c1 => ?_
    walk_at "rd"
    intro H1 s1
    walk_at "rd"
    intro H2 s2
    walk_at "rd"
    exact q hz d0 d1 c0 c1 H2 (s1.trans s2)
theorem weight_go (T : Txt w K mg) {H : Hp} {Q : VK} {E : XK} {z : Str} {d : Int} {d2 : Int} (e0 : partsOf z = none → z.length ≤ 1000000 ∧ ∀ d, H d = none → E (.ref T.c_UnknownName) (some d) (upd H d (.xd (f_UnknownName [.str z])))) (e1 : partsOf z ≠ none → d < 0 ∨ 73048 < d → ∀ x, H x = none → E (.ref T.c_WrongDay) (some x) (upd H x (.xd (f_WrongDay [.int d])))) (e2 : partsOf z ≠ none → 0 ≤ d → d ≤ 73048 → d2 < 0 ∨ 73048 < d2 → ∀ x, H x = none → E (.ref T.c_WrongDay) (some x) (upd H x (.xd (f_WrongDay [.int d2])))) (q : partsOf z ≠ none → 0 ≤ d → d ≤ 73048 → 0 ≤ d2 → d2 ≤ 73048 → ∀ H', Same H H' → Q (.int (posD z d2 - posD z d)) H') : sp_weight T [.str z, .int d, .int d2] H Q E := by
  unfold sp_weight
  exact ⟨z, d, d2, rfl, e0, e1, e2, q⟩
theorem weight_one (T : Txt w K mg) {H : Hp} {Q : VK} {E : XK} {z : Str} {d d2 : Int} (hz : partsOf z ≠ none) (d0 : 0 ≤ d) (d1 : d ≤ 73048) (b0 : 0 ≤ d2) (b1 : d2 ≤ 73048) (q : ∀ H', Same H H' → Q (.int (posD z d2 - posD z d)) H') : sp_weight T [.str z, .int d, .int d2] H Q E :=
  weight_go T (fun h => (hz h).elim) (fun _ h => by omega) (fun _ _ _ h => by omega) fun _ _ _ _ _ => q
local macro_rules | `(tactic| walk_at "call") => `(tactic| (apply weight_one; (first | assumption | omega); (first | assumption | omega); (first | assumption | omega); (first | assumption | omega); (first | assumption | omega)))

/-! ### parts_per_year -/
@[irreducible] def sp_parts_per_year (T : Txt w K mg) : Sp := fun vs H Q E => ∃ (z : Str), vs = [.str z] ∧ (partsOf z = none → z.length ≤ 1000000 ∧ ∀ d, H d = none → E (.ref T.c_UnknownName) (some d) (upd H d (.xd (f_UnknownName [.str z])))) ∧ (∀ v, partsOf z = some v → Q (.int v) H)
theorem ok_parts_per_year (T : Txt w K mg) : FnOk P w K mg base (L2.CX P w) 4 T.a_parts_per_year T.fd_parts_per_year ["convention"] (sp_parts_per_year T) := by
  refine T.F_parts_per_year.ok sc_parts_per_year (fun vs H Q E h => ?_) (fun cdv A outer s H vs Q E hr h => ?_)
  · unfold sp_parts_per_year at h
    obtain ⟨z, rfl, _⟩ := h
    rfl
  · unfold sp_parts_per_year at h
    obtain ⟨z, rfl, e0, q⟩ := h
    refine ⟨_, (pss_cons (ps_expr (pe_callS (ok_check_convention T) (hr.mono (by decide)) rfl T.m_check_convention T.F_check_convention.kp T.b_check_convention (fun σ => passAt (takes_of rfl rfl rfl rfl) σ) (pa_cons (pv 0) pa_nil)))
    (pss_one (ps_ret (pe_ix (ix_kd T.kd_PARTS) (pe_glob (v := .ref T.q_PARTS) rfl T.m_PARTS rfl) (pv 0) (fun _ _ => rfl))))), ?_⟩
    walk_at "rd"
    refine check_convention_go T e0 fun hz => ?_
    obtain ⟨v, e⟩ := Option.ne_none_iff_exists'.mp hz
    walk_at "rd"
    refine kget_go (T.ka_PARTS z) (by rw [kget_parts, e]; rfl) ?_
    exact q v e
theorem parts_per_year_go (T : Txt w K mg) {H : Hp} {Q : VK} {E : XK} {z : Str} (e0 : partsOf z = none → z.length ≤ 1000000 ∧ ∀ d, H d = none → E (.ref T.c_UnknownName) (some d) (upd H d (.xd (f_UnknownName [.str z])))) (q : ∀ v, partsOf z = some v → Q (.int v) H) : sp_parts_per_year T [.str z] H Q E := by
  unfold sp_parts_per_year
  exact ⟨z, rfl, e0, q⟩
theorem parts_ok (T : Txt w K mg) {H : Hp} {Q : VK} {E : XK} {z : Str} {v : Int} (hz : partsOf z = some v) (q : Q (.int v) H) : sp_parts_per_year T [.str z] H Q E :=
  parts_per_year_go T (fun h => by rw [hz] at h; cases h) fun w hw => by
    rw [hz] at hw
    cases hw
    exact q
local macro_rules | `(tactic| walk_at "call") => `(tactic| (apply parts_ok; (assumption)))

/-! ### Meter_accrue -/
theorem parts_bd {z : Str} {m : Int} (h : partsOf z = some m) : 360 ≤ m ∧ m ≤ 133590 := by
  unfold partsOf at h
  split at h
  · cases h; decide
  split at h
  · cases h; decide
  split at h
  · cases h; decide
  split at h
  · cases h; decide
  · cases h
theorem posD_bd (z : Str) {d : Int} (h0 : 0 ≤ d) (h1 : d ≤ 73048) : 0 ≤ posD z d ∧ posD z d ≤ 27000000 := by
  obtain ⟨hI, hD⟩ := dOf_is h0 h1
  have y0 := hI.y0; have y1 := hI.y1; have m0 := hI.m0; have m1 := hI.m1; have d0 := hI.d0
  have d1 := hI.d1
  have ml := mlen_pos (dOf d).1 (dOf d).2.1
  unfold posD posOf
  rw [hD]
  split
  · omega
  split
  · split <;> omega
  · have hy := date_in_year hI
    rw [hD] at hy
    have hn := ystart_next (dOf d).1
    have hl := leapN_01 (dOf d).1
    generalize ystart (dOf d).1 = a at *
    generalize ystart ((dOf d).1 + 1) = b at *
    split <;> omega
@[irreducible] def sp_Meter_accrue (T : Txt w K mg) : Sp := fun vs H Q E => ∃ (c : Addr) (z : Str) (p : Addr) (n : Int) (m : Int) (k : Int) (r : Int) (x : Int) (y : Int), vs = [.ref c, .int k, .int r, .int x, .int y] ∧ (MeterAt K T.c_Meter H c z p (low n (1000000 * m)).1 (low n (1000000 * m)).2) ∧ (partsOf z = some m) ∧ (0 ≤ k ∧ k ≤ 1000000000000 ∧ 0 ≤ r ∧ r ≤ 1000000 ∧ 0 ≤ x ∧ x ≤ 73048 ∧ 0 ≤ y ∧ y ≤ 73048) ∧ (∀ p' H', (∀ b o, b ≠ c → H b = some o → H' b = some o) → Sz 110 n → MeterAt K T.c_Meter H' c z p' (low (n + k * r * (posD z y - posD z x)) (1000000 * m)).1 (low (n + k * r * (posD z y - posD z x)) (1000000 * m)).2 → Q .non H') ∧ (Sz 110 n)
theorem ok_Meter_accrue (T : Txt w K mg) : FnOk P w K mg base (L2.CX P w) 7 T.a_Meter_accrue T.fd_Meter_accrue ["self", "principal", "rate", "first", "second"] (sp_Meter_accrue T) := by
  refine T.F_Meter_accrue.ok sc_Meter_accrue (fun vs H Q E h => ?_) (fun cdv A outer s H vs Q E hr h => ?_)
  · unfold sp_Meter_accrue at h
    obtain ⟨c, z, p, n, m, k, r, x, y, rfl, _⟩ := h
    rfl
  · unfold sp_Meter_accrue at h
    obtain ⟨c, z, p, n, m, k, r, x, y, rfl, M, hz, hb, q, hn⟩ := h
    refine ⟨_, (pss_cons (ps_set (i := 5) sc_Meter_accrue.nd rfl (Or.inl rfl) (pe_op op_mulB (pe_op op_mulB (pv 1) (pv 2)) (pe_callS (ok_weight T) (hr.mono (by decide)) rfl T.m_weight T.F_weight.kp T.b_weight (fun σ => passAt (takes_of rfl rfl rfl rfl) σ) (pa_cons (pe_fld (pv 0) rfl) (pa_cons (pv 3) (pa_cons (pv 4) pa_nil))))))
    (pss_one (ps_fld (pv 0) (pe_callS (ok_add T) (hr.mono (by decide)) rfl T.m_add T.F_add.kp T.b_add (fun σ => passAt (takes_of rfl rfl rfl rfl) σ) (pa_cons (pe_fld (pv 0) rfl) (pa_cons (pe_callSD (ok_ratio T) (hr.mono (by decide)) rfl T.m_ratio T.F_ratio.kp T.b2_ratio (fun σ => passAt (takes_of rfl rfl rfl rfl) σ) (pa_cons (pv 5) (pa_cons (pe_op op_mulB (pe_glob (v := .int 1000000) rfl T.m_MILLION.choose_spec ⟨_, rfl⟩) (pe_callS (ok_parts_per_year T) (hr.mono (by decide)) rfl T.m_parts_per_year T.F_parts_per_year.kp T.b_parts_per_year (fun σ => passAt (takes_of rfl rfl rfl rfl) σ) (pa_cons (pe_fld (pv 0) rfl) pa_nil))) pa_nil))) pa_nil))) rfl))), ?_⟩
    obtain ⟨dx, hi⟩ := M.ins
    have hzn : partsOf z ≠ none := by rw [hz]; intro y; cases y
    have hm := parts_bd hz
    have pb := posD_bd z hb.2.2.2.2.1 hb.2.2.2.2.2.1
    have pb2 := posD_bd z hb.2.2.2.2.2.2.1 hb.2.2.2.2.2.2.2
    have sk : Sz 42 k := ⟨by omega⟩
    have sr : Sz 22 r := ⟨by omega⟩
    have sw : Sz 30 (posD z y - posD z x) := ⟨by omega⟩
    have skr := sk.mul sr
    have sp := skr.mul sw
    have sm : Sz 40 (1000000 * m) := ⟨by omega⟩
    have m0 : 1000000 * m ≠ 0 := by omega
    walk_at "rd"
    intro H1 s1
    have M1 := M.same s1
    have hi1 := s1 _ _ hi
    have cm : CM (k * r) (posD z y - posD z x) := CM.of skr sw
    have cm2 : CM 1000000 m := CM.of (m := 22) (n := 22) ⟨by decide⟩ ⟨by omega⟩
    walk_at "rd"
    refine ratio_go T m0 sm (by decide) fun p2 H2 s2 np2 ep2 => ?_
    have M2 := M1.same s2
    have hi2 := s2 _ _ hi1
    have P2 := low_pair (K := K) ep2 m0 (sp.mono (by decide)) (sm.mono (by decide))
    walk_at "rd"
    refine arith_go T M2.held P2 (Int.mul_ne_zero (by have := M2.held.pos; omega) (by have := P2.pos; omega)) fun p3 H3 s3 np3 ep3 => ?_
    have hi3 := s3 _ _ hi2
    have pc : p3 ≠ c := fun y => by rw [y, hi2] at np3; cases np3
    rw [low_add m0] at ep3
    walk_at "rd"
    refine q p3 _ (fun b o hb' e => (upd_ne hb').trans ((s1.trans (s2.trans s3)) b o e)) hn ⟨⟨dx, upd_same⟩, .inl rfl, low_pair ((upd_ne pc).trans ep3) m0 ?_ (sm.mono (by decide))⟩
    exact ((hn.add sp).mono (by decide))
theorem Meter_accrue_go (T : Txt w K mg) {H : Hp} {Q : VK} {E : XK} {c : Addr} {z : Str} {p : Addr} {n : Int} {m : Int} {k : Int} {r : Int} {x : Int} {y : Int} (M : MeterAt K T.c_Meter H c z p (low n (1000000 * m)).1 (low n (1000000 * m)).2) (hz : partsOf z = some m) (hb : 0 ≤ k ∧ k ≤ 1000000000000 ∧ 0 ≤ r ∧ r ≤ 1000000 ∧ 0 ≤ x ∧ x ≤ 73048 ∧ 0 ≤ y ∧ y ≤ 73048) (q : ∀ p' H', (∀ b o, b ≠ c → H b = some o → H' b = some o) → Sz 110 n → MeterAt K T.c_Meter H' c z p' (low (n + k * r * (posD z y - posD z x)) (1000000 * m)).1 (low (n + k * r * (posD z y - posD z x)) (1000000 * m)).2 → Q .non H') (hn : Sz 110 n) : sp_Meter_accrue T [.ref c, .int k, .int r, .int x, .int y] H Q E := by
  unfold sp_Meter_accrue
  exact ⟨c, z, p, n, m, k, r, x, y, rfl, M, hz, hb, q, hn⟩

/-! ### Meter_run -/
@[irreducible] def sp_Meter_run (T : Txt w K mg) : Sp := fun vs H Q E => ∃ (c : Addr) (z : Str) (p : Addr) (n : Int) (m : Int) (k : Int) (r : Int) (x : Int) (y : Int), vs = [.ref c, .int k, .int r, .int x, .int y] ∧ (MeterAt K T.c_Meter H c z p (low n (1000000 * m)).1 (low n (1000000 * m)).2) ∧ (partsOf z = some m) ∧ (Sz 110 n) ∧ (k < 0 ∨ 1000000000000 < k → ∀ z, H z = none → E (.ref T.c_OutOfRange) (some z) (upd H z (.xd (f_OutOfRange [.int k])))) ∧ (0 ≤ k ∧ k ≤ 1000000000000 → r < 0 ∨ 1000000 < r → ∀ z, H z = none → E (.ref T.c_OutOfRange) (some z) (upd H z (.xd (f_OutOfRange [.int r])))) ∧ (0 ≤ k ∧ k ≤ 1000000000000 → 0 ≤ r ∧ r ≤ 1000000 → x < 0 ∨ 73048 < x → ∀ z, H z = none → E (.ref T.c_WrongDay) (some z) (upd H z (.xd (f_WrongDay [.int x])))) ∧ (0 ≤ k ∧ k ≤ 1000000000000 → 0 ≤ r ∧ r ≤ 1000000 → 0 ≤ x ∧ x ≤ 73048 → y < 0 ∨ 73048 < y ∨ y < x → ∀ z, H z = none → E (.ref T.c_WrongDay) (some z) (upd H z (.xd (f_WrongDay [.int y])))) ∧ (0 ≤ k ∧ k ≤ 1000000000000 → 0 ≤ r ∧ r ≤ 1000000 → 0 ≤ x ∧ x ≤ y ∧ y ≤ 73048 → ∀ p' H', (∀ b o, b ≠ c → H b = some o → H' b = some o) → MeterAt K T.c_Meter H' c z p' (low (n + k * r * (posD z y - posD z x)) (1000000 * m)).1 (low (n + k * r * (posD z y - posD z x)) (1000000 * m)).2 → Q .non H')
theorem ok_Meter_run (T : Txt w K mg) : FnOk P w K mg base (L2.CX P w) 8 T.a_Meter_run T.fd_Meter_run ["self", "principal", "rate", "first", "second"] (sp_Meter_run T) := by
  refine T.F_Meter_run.ok sc_Meter_run (fun vs H Q E h => ?_) (fun cdv A outer s H vs Q E hr h => ?_)
  · unfold sp_Meter_run at h
    obtain ⟨c, z, p, n, m, k, r, x, y, rfl, _⟩ := h
    rfl
  · unfold sp_Meter_run at h
    obtain ⟨c, z, p, n, m, k, r, x, y, rfl, M, hz, hn, e1, e2, e3, e4, q⟩ := h
    refine ⟨_, (pss_cons (ps_expr (pe_callS (ok_check_amount T) (hr.mono (by decide)) rfl T.m_check_amount T.F_check_amount.kp T.b_check_amount (fun σ => passAt (takes_of rfl rfl rfl rfl) σ) (pa_cons (pv 1) pa_nil)))
    (pss_cons (ps_expr (pe_callS (ok_check_rate T) (hr.mono (by decide)) rfl T.m_check_rate T.F_check_rate.kp T.b_check_rate (fun σ => passAt (takes_of rfl rfl rfl rfl) σ) (pa_cons (pv 2) pa_nil)))
    (pss_cons (ps_expr (pe_callS (ok_check_day T) (hr.mono (by decide)) rfl T.m_check_day T.F_check_day.kp T.b_check_day (fun σ => passAt (takes_of rfl rfl rfl rfl) σ) (pa_cons (pv 3) pa_nil)))
    (pss_cons (ps_expr (pe_callS (ok_check_day T) (hr.mono (by decide)) rfl T.m_check_day T.F_check_day.kp T.b_check_day (fun σ => passAt (takes_of rfl rfl rfl rfl) σ) (pa_cons (pv 4) pa_nil)))
    (pss_cons (ps_if (pt_cmpR op_lt (pv 4) (pv 3) (nomark _)) (pss_one (ps_raiseX rfl (takes_of rfl rfl rfl rfl) (okx_WrongDay T) (by decide) (hr.mono (by decide)) rfl T.m_WrongDay (pa_cons (pv 4) pa_nil))) pss_nil)
    (pss_one (ps_expr (pe_methX (ok_Meter_accrue T) (hr.mono (by decide)) T.cl_Meter T.me_Meter_accrue T.b_Meter_accrue (fun σ => passAt (takes_of rfl rfl rfl rfl) σ) (pv 0) (pa_cons (pv 1) (pa_cons (pv 2) (pa_cons (pv 3) (pa_cons (pv 4) pa_nil)))))))))))), ?_⟩
    obtain ⟨dx, hi⟩ := M.ins
    walk_at "rd"
    refine check_amount_go T e1 fun k0 k1 => ?_
    walk_at "rd"
    refine check_rate_go T (e2 ⟨k0, k1⟩) fun r0 r1 => ?_
    walk_at "rd"
    refine check_day_go T (e3 ⟨k0, k1⟩ ⟨r0, r1⟩) fun x0 x1 => ?_
    walk_at "rd"
    refine check_day_go T (fun h => e4 ⟨k0, k1⟩ ⟨r0, r1⟩ ⟨x0, x1⟩ (h.elim .inl fun h => .inr (.inl h))) fun y0 y1 => ?_
    walk_at "rd"
    refine iteD (fun h => ?_) (fun h => ?_)
    · walk_at "rd"
      exact e4 ⟨k0, k1⟩ ⟨r0, r1⟩ ⟨x0, x1⟩ (.inr (.inr h))
    walk_at "rd"
    refine Meter_accrue_go T M hz ⟨k0, k1, r0, r1, x0, x1, y0, y1⟩ (fun p' H' s _ M' => ?_) hn
    exact q ⟨k0, k1⟩ ⟨r0, r1⟩ ⟨x0, by omega, y1⟩ p' H' s M'
theorem Meter_run_go (T : Txt w K mg) {H : Hp} {Q : VK} {E : XK} {c : Addr} {z : Str} {p : Addr} {n : Int} {m : Int} {k : Int} {r : Int} {x : Int} {y : Int} (M : MeterAt K T.c_Meter H c z p (low n (1000000 * m)).1 (low n (1000000 * m)).2) (hz : partsOf z = some m) (hn : Sz 110 n) (e1 : k < 0 ∨ 1000000000000 < k → ∀ z, H z = none → E (.ref T.c_OutOfRange) (some z) (upd H z (.xd (f_OutOfRange [.int k])))) (e2 : 0 ≤ k ∧ k ≤ 1000000000000 → r < 0 ∨ 1000000 < r → ∀ z, H z = none → E (.ref T.c_OutOfRange) (some z) (upd H z (.xd (f_OutOfRange [.int r])))) (e3 : 0 ≤ k ∧ k ≤ 1000000000000 → 0 ≤ r ∧ r ≤ 1000000 → x < 0 ∨ 73048 < x → ∀ z, H z = none → E (.ref T.c_WrongDay) (some z) (upd H z (.xd (f_WrongDay [.int x])))) (e4 : 0 ≤ k ∧ k ≤ 1000000000000 → 0 ≤ r ∧ r ≤ 1000000 → 0 ≤ x ∧ x ≤ 73048 → y < 0 ∨ 73048 < y ∨ y < x → ∀ z, H z = none → E (.ref T.c_WrongDay) (some z) (upd H z (.xd (f_WrongDay [.int y])))) (q : 0 ≤ k ∧ k ≤ 1000000000000 → 0 ≤ r ∧ r ≤ 1000000 → 0 ≤ x ∧ x ≤ y ∧ y ≤ 73048 → ∀ p' H', (∀ b o, b ≠ c → H b = some o → H' b = some o) → MeterAt K T.c_Meter H' c z p' (low (n + k * r * (posD z y - posD z x)) (1000000 * m)).1 (low (n + k * r * (posD z y - posD z x)) (1000000 * m)).2 → Q .non H') : sp_Meter_run T [.ref c, .int k, .int r, .int x, .int y] H Q E := by
  unfold sp_Meter_run
  exact ⟨c, z, p, n, m, k, r, x, y, rfl, M, hz, hn, e1, e2, e3, e4, q⟩

/-! ### round_ratio -/
/-- what round_ratio answers: the whole part, or one above it -/
def rnd (t b : Int) (m : Str) : Int :=
  if t - t / b * b = 0 ∨ m = "down" then t / b
  else if m = "up" ∨ b < 2 * (t - t / b * b) then t / b + 1
  else if 2 * (t - t / b * b) < b then t / b
  else if m = "near" ∨ t / b % 2 = 1 then t / b + 1 else t / b
def isMode (m : Str) : Bool := inV (.str m) v_MODES
@[irreducible] def sp_round_ratio (T : Txt w K mg) : Sp := fun vs H Q E => ∃ (t b : Int) (m : Str), vs = [.int t, .int b, .str m] ∧
  (b < 1 → ∀ d, H d = none → E (.ref T.c_OutOfRange) (some d) (upd H d (.xd (f_OutOfRange [.int b])))) ∧
  (1 ≤ b → isMode m = false → m.cps.size ≤ 999000 ∧ ∀ d, H d = none → E (.ref T.c_UnknownName) (some d) (upd H d (.xd (f_UnknownName [.str m])))) ∧
  (1 ≤ b → isMode m = true → CD t b ∧ CM (t / b) b ∧ Q (.int (rnd t b m)) H)
theorem ok_round_ratio (T : Txt w K mg) : FnOk P w K mg base (L2.CX P w) 3 T.a_round_ratio T.fd_round_ratio ["top", "bottom", "mode"] (sp_round_ratio T) := by
  refine T.F_round_ratio.ok sc_round_ratio (fun vs H Q E h => ?_) (fun cdv A outer s H vs Q E hr h => ?_)
  · unfold sp_round_ratio at h
    obtain ⟨t, b, m, rfl, _⟩ := h
    rfl
  · unfold sp_round_ratio at h
    obtain ⟨t, b, m, rfl, h1, h2, h3⟩ := h
    refine ⟨_, (pss_cons (ps_if (pt_cmpR op_lt (pv 1) pe_int (nomark _)) (pss_one (ps_raiseX rfl (takes_of rfl rfl rfl rfl) (okx_OutOfRange T) (by decide) (hr.mono (by decide)) rfl T.m_OutOfRange (pa_cons (pv 1) pa_nil))) pss_nil)
    (pss_cons (ps_if (pt_cmpR op_notIn_seq (pv 2) (pe_glob (v := .ref T.q_MODES) rfl T.m_MODES rfl) (by rfl)) (pss_one (ps_raiseX rfl (takes_of rfl rfl rfl rfl) (okx_UnknownName T) (by decide) (hr.mono (by decide)) rfl T.m_UnknownName (pa_cons (pv 2) pa_nil))) pss_nil)
    (pss_cons (ps_set (i := 3) sc_round_ratio.nd rfl (Or.inl rfl) (pe_op op_fdivB (pv 0) (pv 1)))
    (pss_cons (ps_set (i := 4) sc_round_ratio.nd rfl (Or.inl rfl) (pe_op op_sub (pv 0) (pe_op op_mulB (pv 3) (pv 1))))
    (pss_cons (ps_if (PW.pt (pw_or (pt_cmpR op_eq (pv 4) pe_int (nomark _)) (pw_or1 (pt_cmpR op_eq (pv 2) pe_str (nomark _))))) (pss_one (ps_ret (pv 3))) pss_nil)
    (pss_cons (ps_if (PW.pt (pw_or (pt_cmpR op_eq (pv 2) pe_str (nomark _)) (pw_or1 (pt_cmpR op_gt (pe_op op_mulB pe_int (pv 4)) (pv 1) (nomark _))))) (pss_one (ps_ret (pe_op op_add (pv 3) pe_int))) pss_nil)
    (pss_cons (ps_if (pt_cmpR op_lt (pe_op op_mulB pe_int (pv 4)) (pv 1) (nomark _)) (pss_one (ps_ret (pv 3))) pss_nil)
    (pss_cons (ps_if (PW.pt (pw_or (pt_cmpR op_eq (pv 2) pe_str (nomark _)) (pw_or1 (pt_cmpR op_eq (pe_op op_mod (pv 3) pe_int) pe_int (nomark _))))) (pss_one (ps_ret (pe_op op_add (pv 3) pe_int))) pss_nil)
    (pss_one (ps_ret (pv 3))))))))))), ?_⟩
    walk_at "rd"
    refine iteD (fun hb => ?_) (fun hb => ?_)
    · exact ⟨_, rfl, rfl, trivial, h1 hb⟩
    have hb' : 1 ≤ b := by omega
    refine ⟨_, rfl, T.q_MODES, _, rfl, .inr (T.t_MODES _), rfl, rfl, ?_⟩
    refine ⟨_, rfl, iteBN (fun hm => ?_) (fun hm => ?_)⟩
    · have h := h2 hb' hm
      exact ⟨_, rfl, rfl, ⟨m, rfl, Nat.le_trans h.1 (by decide)⟩, h.2⟩
    · obtain ⟨c1, c2, q⟩ := h3 hb' hm
      have pos2 : (0 : Int) < 2 := by decide
      have c3 := CM.rest c1
      walk_at "go"
      all_goals refine q_int q ?_
      all_goals (clear q h1 h2 h3 hr; unfold rnd; grind)

/-! ### Meter_rounded -/
@[irreducible] def sp_Meter_rounded (T : Txt w K mg) : Sp := fun vs H Q E => ∃ (c : Addr) (z : Str) (p : Addr) (t : Int) (v : Int) (w : Str), vs = [.ref c, .str w] ∧ (MeterAt K T.c_Meter H c z p t v) ∧ (isMode w = false → w.cps.size ≤ 999000 ∧ ∀ d, H d = none → E (.ref T.c_UnknownName) (some d) (upd H d (.xd (f_UnknownName [.str w])))) ∧ (isMode w = true → Q (.int (rnd t v w)) H)
theorem ok_Meter_rounded (T : Txt w K mg) : FnOk P w K mg base (L2.CX P w) 4 T.a_Meter_rounded T.fd_Meter_rounded ["self", "mode"] (sp_Meter_rounded T) := by
  refine T.F_Meter_rounded.ok sc_Meter_rounded (fun vs H Q E h => ?_) (fun cdv A outer s H vs Q E hr h => ?_)
  · unfold sp_Meter_rounded at h
    obtain ⟨c, z, p, t, v, w, rfl, _⟩ := h
    rfl
  · unfold sp_Meter_rounded at h
    obtain ⟨c, z, p, t, v, w, rfl, M, e, q⟩ := h
    refine ⟨_, (pss_one (ps_ret (pe_callSD (ok_round_ratio T) (hr.mono (by decide)) rfl T.m_round_ratio T.F_round_ratio.kp T.b3_round_ratio (fun σ => passAt (takes_of rfl rfl rfl rfl) σ) (pa_cons (pe_ix ix_tup (pe_fld (pv 0) rfl) pe_int (fun _ _ => rfl)) (pa_cons (pe_ix ix_tup (pe_fld (pv 0) rfl) pe_int (fun _ _ => rfl)) (pa_cons (pv 1) pa_nil)))))), ?_⟩
    obtain ⟨dx, hi⟩ := M.ins
    have hp := M.held.at_
    have v0 := M.held.pos
    walk_at "rd"
    unfold sp_round_ratio
    refine ⟨t, v, w, rfl, fun z => by omega, fun _ => e, fun _ h => ⟨⟨v0, Nat.lt_of_le_of_lt M.held.s2.log (by decide)⟩, CM.of (M.held.s1.div) M.held.s2, q h⟩⟩
theorem Meter_rounded_go (T : Txt w K mg) {H : Hp} {Q : VK} {E : XK} {c : Addr} {z : Str} {p : Addr} {t : Int} {v : Int} {w : Str} (M : MeterAt K T.c_Meter H c z p t v) (e : isMode w = false → w.cps.size ≤ 999000 ∧ ∀ d, H d = none → E (.ref T.c_UnknownName) (some d) (upd H d (.xd (f_UnknownName [.str w])))) (q : isMode w = true → Q (.int (rnd t v w)) H) : sp_Meter_rounded T [.ref c, .str w] H Q E := by
  unfold sp_Meter_rounded
  exact ⟨c, z, p, t, v, w, rfl, M, e, q⟩

/-! ### subtract -/
theorem ok_subtract (T : Txt w K mg) : FnOk P w K mg base (L2.CX P w) 4 T.a_subtract T.fd_subtract ["a", "b"] (sp_arith T (fun a0 a1 b0 b1 => a0 * b1 - b0 * a1) fun a0 a1 b0 b1 => a1 * b1) := by
  refine T.F_subtract.ok sc_subtract (fun vs H Q E h => ?_) (fun cdv A outer s H vs Q E hr h => ?_)
  · unfold sp_arith at h
    obtain ⟨p, q, a0, a1, b0, b1, rfl, _⟩ := h
    rfl
  · unfold sp_arith at h
    obtain ⟨p, q, a0, a1, b0, b1, rfl, hp, hq, h1, h2, h3, h4, k1, k2⟩ := h
    refine ⟨_, (pss_one (ps_ret (pe_callSD (ok_ratio T) (hr.mono (by decide)) rfl T.m_ratio T.F_ratio.kp T.b2_ratio (fun σ => passAt (takes_of rfl rfl rfl rfl) σ) (pa_cons (pe_op op_sub (pe_op op_mulB (pe_ix ix_seq (pv 0) pe_int (fun _ _ => rfl)) (pe_ix ix_seq (pv 1) pe_int (fun _ _ => rfl))) (pe_op op_mulB (pe_ix ix_seq (pv 1) pe_int (fun _ _ => rfl)) (pe_ix ix_seq (pv 0) pe_int (fun _ _ => rfl)))) (pa_cons (pe_op op_mulB (pe_ix ix_seq (pv 0) pe_int (fun _ _ => rfl)) (pe_ix ix_seq (pv 1) pe_int (fun _ _ => rfl))) pa_nil))))), ?_⟩
    walk_at "rd"
    unfold sp_ratio
    exact ⟨_, _, 999, rfl, k1, fun g0 => ⟨(h2.mul h4).mono (by decide), by decide, k2 g0⟩⟩

/-! ### Meter_post -/
theorem rnd_sz {t b : Int} {m : Str} {n : Nat} (h : Sz n t) (b0 : 0 < b) : Sz (n + 1) (rnd t b m) := by
  have h1 := h.div (j := b)
  have h2 := h1.lt
  refine ⟨?_⟩
  rw [Nat.pow_succ]
  have k : (t / b).natAbs < 2 ^ n := h2
  have p : 0 < 2 ^ n := Nat.pow_pos (by decide)
  generalize 2 ^ n = N at *
  unfold rnd
  split
  · omega
  split
  · omega
  split
  · omega
  split <;> omega
theorem rnd_near (u : Int) (m : Str) {v : Int} (h : 0 < v) : -v ≤ u - rnd u v m * v ∧ u - rnd u v m * v ≤ v := by
  have h1 := Int.emod_nonneg u (b := v) (by omega)
  have h2 := Int.emod_lt_of_pos u h
  have h3 := Int.mul_ediv_add_emod u v
  have e : (u / v + 1) * v = v * (u / v) + v := by rw [Int.add_mul, Int.one_mul, Int.mul_comm]
  have e2 : u / v * v = v * (u / v) := Int.mul_comm ..
  unfold rnd
  split
  · rw [e2]; omega
  split
  · rw [e]; omega
  split
  · rw [e2]; omega
  split
  · rw [e]; omega
  · rw [e2]; omega
/-- what is left behind a posting is at most one whole -/
theorem rnd_rest (n : Int) (m : Str) {b : Int} (h : 0 < b) : (n - rnd (low n b).1 (low n b).2 m * b).natAbs ≤ b.natAbs := by
  obtain ⟨_, e⟩ := low_is (t := n) (b := b) (by omega)
  have p := low_pos (t := n) (b := b) (by omega)
  have k := rnd_near (low n b).1 m p
  generalize rnd (low n b).1 (low n b).2 m = r at *
  generalize low n b = x at *
  obtain ⟨u, v⟩ := x
  simp only at e p k ⊢
  have e1 : (n - r * b) * v = (u - r * v) * b := by
    rw [Int.sub_mul, Int.sub_mul, e, Int.mul_assoc, Int.mul_assoc, Int.mul_comm b v]
  have hn : ((n - r * b) * v).natAbs = ((u - r * v) * b).natAbs := by rw [e1]
  rw [Int.natAbs_mul, Int.natAbs_mul] at hn
  have ku : (u - r * v).natAbs ≤ v.natAbs := by omega
  have h4 : (n - r * b).natAbs * v.natAbs ≤ b.natAbs * v.natAbs := by
    rw [hn, Nat.mul_comm b.natAbs]
    exact Nat.mul_le_mul_right _ ku
  exact Nat.le_of_mul_le_mul_right h4 (by omega)
@[irreducible] def sp_Meter_post (T : Txt w K mg) : Sp := fun vs H Q E => ∃ (c : Addr) (z : Str) (p : Addr) (n : Int) (b : Int) (w : Str), vs = [.ref c, .str w] ∧ (MeterAt K T.c_Meter H c z p (low n b).1 (low n b).2) ∧ (0 < b) ∧ (Sz 110 n) ∧ (Sz 60 b) ∧ (isMode w = false → w.cps.size ≤ 999000 ∧ ∀ d, H d = none → E (.ref T.c_UnknownName) (some d) (upd H d (.xd (f_UnknownName [.str w])))) ∧ (isMode w = true → ∀ p' H', (∀ a o, a ≠ c → H a = some o → H' a = some o) → MeterAt K T.c_Meter H' c z p' (low (n - rnd (low n b).1 (low n b).2 w * b) b).1 (low (n - rnd (low n b).1 (low n b).2 w * b) b).2 → Q (.int (rnd (low n b).1 (low n b).2 w)) H')
theorem ok_Meter_post (T : Txt w K mg) : FnOk P w K mg base (L2.CX P w) 5 T.a_Meter_post T.fd_Meter_post ["self", "mode"] (sp_Meter_post T) := by
  refine T.F_Meter_post.ok sc_Meter_post (fun vs H Q E h => ?_) (fun cdv A outer s H vs Q E hr h => ?_)
  · unfold sp_Meter_post at h
    obtain ⟨c, z, p, n, b, w, rfl, _⟩ := h
    rfl
  · unfold sp_Meter_post at h
    obtain ⟨c, z, p, n, b, w, rfl, M, b0, hn, hb, e, q⟩ := h
    refine ⟨_, (pss_cons (ps_set (i := 2) sc_Meter_post.nd rfl (Or.inl rfl) (pe_methX (ok_Meter_rounded T) (hr.mono (by decide)) T.cl_Meter T.me_Meter_rounded T.b_Meter_rounded (fun σ => passAt (takes_of rfl rfl rfl rfl) σ) (pv 0) (pa_cons (pv 1) pa_nil)))
    (pss_cons (ps_fld (pv 0) (pe_callS (ok_subtract T) (hr.mono (by decide)) rfl T.m_subtract T.F_subtract.kp T.b_subtract (fun σ => passAt (takes_of rfl rfl rfl rfl) σ) (pa_cons (pe_fld (pv 0) rfl) (pa_cons (pe_callSD (ok_ratio T) (hr.mono (by decide)) rfl T.m_ratio T.F_ratio.kp T.b1_ratio (fun σ => passAt (takes_of rfl rfl rfl rfl) σ) (pa_cons (pv 2) pa_nil)) pa_nil))) rfl)
    (pss_one (ps_ret (pv 2))))), ?_⟩
    obtain ⟨dx, hi⟩ := M.ins
    walk_at "rd"
    refine Meter_rounded_go T M e fun hw => ?_
    have q' := q hw
    have sr : Sz 111 (rnd (low n b).1 (low n b).2 w) := rnd_sz (low_sz1 hn) M.held.pos
    have hnb := rnd_rest n w b0
    have hlw := low_whole (rnd (low n b).1 (low n b).2 w) (b := b) (by omega)
    have hlp := M.held.pos
    generalize rnd (low n b).1 (low n b).2 w = r at *
    walk_at "rd"
    refine ratio_go T (b := 1) (by decide) (n := 4) ⟨by decide⟩ (by decide) fun p2 H2 s2 np2 ep2 => ?_
    have M2 := M.same s2
    have hi2 := s2 _ _ hi
    rw [hlw] at ep2
    have P2 := low_pair (K := K) ep2 (by omega) ((sr.mul hb).mono (by decide)) (hb.mono (by decide))
    walk_at "rd"
    refine arith_go T M2.held P2 (Int.mul_ne_zero (by omega) (by have := P2.pos; omega)) fun p3 H3 s3 np3 ep3 => ?_
    have hi3 := s3 _ _ hi2
    have pc : p3 ≠ c := fun y => by rw [y, hi2] at np3; cases np3
    rw [low_sub (by omega)] at ep3
    walk_at "rd"
    refine q' p3 _ (fun a o ha e => (upd_ne ha).trans ((s2.trans s3) a o e)) ⟨⟨dx, upd_same⟩, .inl rfl, low_pair ((upd_ne pc).trans ep3) (by omega) ?_ (hb.mono (by decide))⟩
    exact (hb.le hnb).mono (by decide)
theorem Meter_post_go (T : Txt w K mg) {H : Hp} {Q : VK} {E : XK} {c : Addr} {z : Str} {p : Addr} {n : Int} {b : Int} {w : Str} (M : MeterAt K T.c_Meter H c z p (low n b).1 (low n b).2) (b0 : 0 < b) (hn : Sz 110 n) (hb : Sz 60 b) (e : isMode w = false → w.cps.size ≤ 999000 ∧ ∀ d, H d = none → E (.ref T.c_UnknownName) (some d) (upd H d (.xd (f_UnknownName [.str w])))) (q : isMode w = true → ∀ p' H', (∀ a o, a ≠ c → H a = some o → H' a = some o) → MeterAt K T.c_Meter H' c z p' (low (n - rnd (low n b).1 (low n b).2 w * b) b).1 (low (n - rnd (low n b).1 (low n b).2 w * b) b).2 → Q (.int (rnd (low n b).1 (low n b).2 w)) H') : sp_Meter_post T [.ref c, .str w] H Q E := by
  unfold sp_Meter_post
  exact ⟨c, z, p, n, b, w, rfl, M, b0, hn, hb, e, q⟩

/-! ### _law_rounded -/
theorem div_low {t b : Int} (h : 0 < b) : (low t b).1 / (low t b).2 = t / b := by
  obtain ⟨_, e⟩ := low_is (t := t) (b := b) (by omega)
  have p := low_pos (t := t) (b := b) (by omega)
  generalize low t b = x at *
  obtain ⟨u, v⟩ := x
  simp only at e p ⊢
  have h1 : u / v = u * b / (v * b) := (Int.mul_ediv_mul_of_pos_left u v h).symm
  have h2 : t / b = t * v / (b * v) := (Int.mul_ediv_mul_of_pos_left t b p).symm
  rw [h1, h2, e, Int.mul_comm v b]
theorem rnd_low (t : Int) (m : Str) {b : Int} (h : 0 < b) : rnd (low t b).1 (low t b).2 m = rnd t b m := by
  have hd := div_low (t := t) h
  obtain ⟨_, e⟩ := low_is (t := t) (b := b) (by omega)
  have p := low_pos (t := t) (b := b) (by omega)
  unfold rnd
  rw [hd]
  generalize low t b = x at *
  obtain ⟨u, v⟩ := x
  simp only at e p hd ⊢
  generalize t / b = q at *
  have k : (u - q * v) * b = (t - q * b) * v := by
    rw [Int.sub_mul, Int.sub_mul, e, Int.mul_assoc, Int.mul_assoc, Int.mul_comm b v]
  generalize u - q * v = r at *
  generalize t - q * b = s at *
  have c1 : r = 0 ↔ s = 0 := by
    constructor
    · intro z
      rw [z, Int.zero_mul] at k
      exact (Int.mul_eq_zero.mp k.symm).resolve_right (by omega)
    · intro z
      rw [z, Int.zero_mul] at k
      exact (Int.mul_eq_zero.mp k).resolve_right (by omega)
  have m1 : (2 * r) * b = (2 * s) * v := by rw [Int.mul_assoc, Int.mul_assoc, k]
  have c2 : v < 2 * r ↔ b < 2 * s := by
    constructor
    · intro z
      have := Int.mul_lt_mul_of_pos_right z h
      rw [m1, Int.mul_comm v b] at this
      exact Int.lt_of_mul_lt_mul_right this (by omega)
    · intro z
      have := Int.mul_lt_mul_of_pos_right z p
      rw [← m1, Int.mul_comm b v] at this
      exact Int.lt_of_mul_lt_mul_right this (by omega)
  have c3 : 2 * r < v ↔ 2 * s < b := by
    constructor
    · intro z
      have := Int.mul_lt_mul_of_pos_right z h
      rw [m1, Int.mul_comm v b] at this
      exact Int.lt_of_mul_lt_mul_right this (by omega)
    · intro z
      have := Int.mul_lt_mul_of_pos_right z p
      rw [← m1, Int.mul_comm b v] at this
      exact Int.lt_of_mul_lt_mul_right this (by omega)
  simp only [c1, c2, c3]
theorem rest_at (t : Int) {b : Int} (h : 0 < b) : ∃ q s : Int, t / b = q ∧ t = q * b + s ∧ 0 ≤ s ∧ s < b := ⟨t / b, t % b, rfl, by rw [Int.mul_comm]; exact (Int.mul_ediv_add_emod t b).symm, Int.emod_nonneg _ (by omega), Int.emod_lt_of_pos _ h⟩
theorem up_law (t : Int) {b : Int} (h : 0 < b) : -(-t / b) = rnd t b "up" := by
  obtain ⟨q, s, hq, ht, s0, s1⟩ := rest_at t h
  unfold rnd
  rw [hq, if_pos (show ("up" : Str) = "up" ∨ _ from .inl rfl)]
  have er : t - q * b = s := by omega
  rw [er]
  have e : -t = -s + (-q) * b := by rw [ht, Int.neg_mul]; omega
  rw [e, Int.add_mul_ediv_right _ _ (by omega)]
  by_cases c : s = 0
  · rw [if_pos (show s = 0 ∨ ("up" : Str) = "down" from .inl c), c]
    simp
  · rw [if_neg (show ¬ (s = 0 ∨ ("up" : Str) = "down") from fun z => z.elim c (by decide +kernel))]
    have : -s / b = -1 := by
      rw [Int.ediv_eq_iff_of_pos h]
      omega
    omega
theorem near_at (t : Int) {b : Int} (h : 0 < b) : ∃ q s : Int, t / b = q ∧ t = q * b + s ∧ 0 ≤ s ∧ s < b ∧ (2 * t + b) / (2 * b) = if 2 * s < b then q else q + 1 := by
  obtain ⟨q, s, hq, ht, s0, s1⟩ := rest_at t h
  refine ⟨q, s, hq, ht, s0, s1, ?_⟩
  have e : 2 * t + b = (2 * s + b) + q * (2 * b) := by
    rw [ht, Int.mul_add, Int.mul_left_comm q 2 b]
    omega
  rw [e, Int.add_mul_ediv_right _ _ (by omega)]
  split
  · have : (2 * s + b) / (2 * b) = 0 := by
      rw [Int.ediv_eq_iff_of_pos (by omega)]
      omega
    omega
  · have : (2 * s + b) / (2 * b) = 1 := by
      rw [Int.ediv_eq_iff_of_pos (by omega)]
      omega
    omega
theorem near_law (t : Int) {b : Int} (h : 0 < b) : (2 * t + b) / (2 * b) = rnd t b "near" := by
  obtain ⟨q, s, hq, ht, s0, s1, e⟩ := near_at t h
  rw [e]
  unfold rnd
  rw [hq, show t - q * b = s by omega]
  have n1 : ¬ (("near" : Str) = "down") := by decide +kernel
  have n2 : ¬ (("near" : Str) = "up") := by decide +kernel
  by_cases c : s = 0
  · rw [if_pos (show 2 * s < b by omega)]
    exact (if_pos (.inl c)).symm
  have r1 : ¬ (s = 0 ∨ ("near" : Str) = "down") := fun z => z.elim c n1
  by_cases c2 : b < 2 * s
  · rw [if_neg (show ¬ 2 * s < b by omega), if_neg r1, if_pos (show ("near" : Str) = "up" ∨ b < 2 * s from .inr c2)]
  have r2 : ¬ (("near" : Str) = "up" ∨ b < 2 * s) := fun z => z.elim n2 c2
  rw [if_neg r1, if_neg r2]
  by_cases c3 : 2 * s < b
  · rw [if_pos c3, if_pos c3]
  · rw [if_neg c3, if_neg c3, if_pos (show ("near" : Str) = "near" ∨ q % 2 = 1 from .inl rfl)]
theorem even_law (t : Int) {b : Int} (h : 0 < b) : (if 2 * ((2 * t + b) / (2 * b)) * b = 2 * t + b ∧ (2 * t + b) / (2 * b) / 2 * 2 ≠ (2 * t + b) / (2 * b) then (2 * t + b) / (2 * b) - 1 else (2 * t + b) / (2 * b)) = rnd t b "even" := by
  obtain ⟨q, s, hq, ht, s0, s1, e⟩ := near_at t h
  have n1 : ¬ (("even" : Str) = "down") := by decide +kernel
  have n2 : ¬ (("even" : Str) = "up") := by decide +kernel
  have n3 : ¬ (("even" : Str) = "near") := by decide +kernel
  have a1 : 2 * q * b = 2 * (q * b) := Int.mul_assoc ..
  have a2 : 2 * (q + 1) * b = 2 * (q * b) + 2 * b := by rw [Int.mul_assoc, Int.add_mul, Int.one_mul, Int.mul_add]
  have R : rnd t b "even" = if s = 0 ∨ ("even" : Str) = "down" then q else if ("even" : Str) = "up" ∨ b < 2 * s then q + 1 else if 2 * s < b then q else if ("even" : Str) = "near" ∨ q % 2 = 1 then q + 1 else q := by
    unfold rnd
    rw [hq, show t - q * b = s by omega]
  rw [R]
  by_cases c : s = 0
  · rw [if_pos (show s = 0 ∨ ("even" : Str) = "down" from .inl c)]
    rw [if_pos (show 2 * s < b by omega)] at e
    rw [e]
    exact if_neg fun z => by have := z.1; rw [a1] at this; exact z.2 (by omega)
  have r1 : ¬ (s = 0 ∨ ("even" : Str) = "down") := fun z => z.elim c n1
  rw [if_neg r1]
  by_cases c2 : b < 2 * s
  · rw [if_pos (show ("even" : Str) = "up" ∨ b < 2 * s from .inr c2)]
    rw [if_neg (show ¬ 2 * s < b by omega)] at e
    rw [e]
    exact if_neg fun z => by have := z.1; rw [a2] at this; omega
  have r2 : ¬ (("even" : Str) = "up" ∨ b < 2 * s) := fun z => z.elim n2 c2
  rw [if_neg r2]
  by_cases c3 : 2 * s < b
  · rw [if_pos c3]
    rw [if_pos c3] at e
    rw [e]
    exact if_neg fun z => by have := z.1; rw [a1] at this; omega
  rw [if_neg c3]
  rw [if_neg c3] at e
  rw [e]
  by_cases c4 : q % 2 = 1
  · rw [if_pos (show ("even" : Str) = "near" ∨ q % 2 = 1 from .inr c4)]
    exact if_neg fun z => z.2 (by omega)
  · rw [if_neg (show ¬ (("even" : Str) = "near" ∨ q % 2 = 1) from fun z => z.elim n3 c4)]
    rw [if_pos ⟨by rw [a2]; omega, by omega⟩]
    omega
theorem rnd_less (t : Int) (m : Str) {b : Int} (h : 0 < b) : -b < t - rnd t b m * b ∧ t - rnd t b m * b < b := by
  obtain ⟨q, s, hq, ht, s0, s1⟩ := rest_at t h
  have a : (q + 1) * b = q * b + b := by rw [Int.add_mul, Int.one_mul]
  unfold rnd
  rw [hq, show t - q * b = s by omega]
  split
  · omega
  · rename_i c
    have c' : s ≠ 0 := fun z => c (.inl z)
    split
    · rw [a]; omega
    split
    · omega
    split
    · rw [a]; omega
    · omega
def modes : List V := [.str "down", .str "up", .str "near", .str "even"]
@[irreducible] def sp__law_rounded : Sp := fun vs H Q E => ∃ (t : Int) (b : Int) (m : Str), vs = [.int t, .int b, .str m] ∧ (0 < b) ∧ (Sz 120 t) ∧ (Sz 60 b) ∧ (m = "down" ∨ m = "up" ∨ m = "near" ∨ m = "even") ∧ (∀ H', Same H H' → Q (.int (rnd t b m)) H')
theorem ok__law_rounded (T : Txt w K mg) : FnOk P w K mg base (L2.CX P w) 1 T.a__law_rounded T.fd__law_rounded ["top", "bottom", "mode"] sp__law_rounded := by
  refine T.F__law_rounded.ok sc__law_rounded (fun vs H Q E h => ?_) (fun cdv A outer s H vs Q E hr h => ?_)
  · unfold sp__law_rounded at h
    obtain ⟨t, b, m, rfl, _⟩ := h
    rfl
  · unfold sp__law_rounded at h
    obtain ⟨t, b, m, rfl, b0, ht, hb, hm, q⟩ := h
    refine ⟨_, (pss_cons (ps_if (pt_cmpR op_eq (pv 2) pe_str (nomark _)) (pss_one (ps_ret (pe_op op_fdivB (pv 0) (pv 1)))) pss_nil)
    (pss_cons (ps_if (pt_cmpR op_eq (pv 2) pe_str (nomark _)) (pss_one (ps_ret (pe_un un_neg (pe_op op_fdivB (pe_un un_neg (pv 0)) (pv 1))))) pss_nil)
    (pss_cons (ps_set (i := 3) sc__law_rounded.nd rfl (Or.inl rfl) (pe_op op_fdivB (pe_op op_add (pe_op op_mulB pe_int (pv 0)) (pv 1)) (pe_op op_mulB pe_int (pv 1))))
    (pss_cons (ps_if (PW.pt (pw_and (pt_cmpR op_eq (pv 2) pe_str (nomark _)) (pw_and (pt_cmpR op_eq (pe_op op_mulB (pe_op op_mulB pe_int (pv 3)) (pv 1)) (pe_op op_add (pe_op op_mulB pe_int (pv 0)) (pv 1)) (nomark _)) (pw_and1 (pt_cmpR op_ne (pe_op op_mulB (pe_op op_fdivB (pv 3) pe_int) pe_int) (pv 3) (nomark _)))))) (pss_one (ps_ret (pe_op op_sub (pv 3) pe_int))) pss_nil)
    (pss_one (ps_ret (pv 3))))))), ?_⟩
    have q := q H (Same.refl H)
    have b2 : 0 < 2 * b := by omega
    have sb2 : Sz 64 (2 * b) := ((⟨by decide⟩ : Sz 3 2).mul hb).mono (by decide)
    have cm1 : CM 2 t := CM.of (⟨by decide⟩ : Sz 3 2) ht
    have cm2 : CM 2 b := CM.of (⟨by decide⟩ : Sz 3 2) hb
    have cd1 : CD (-t) b := CD.of b0 hb
    have cd2 : CD t b := CD.of b0 hb
    have cd3 : CD (2 * t + b) (2 * b) := CD.of b2 sb2
    have sn : Sz 190 ((2 * t + b) / (2 * b)) := (((⟨by decide⟩ : Sz 3 2).mul ht).add hb).div.mono (by decide)
    have cm3 : CM 2 ((2 * t + b) / (2 * b)) := CM.of (⟨by decide⟩ : Sz 3 2) sn
    have cm4 : CM (2 * ((2 * t + b) / (2 * b))) b := CM.of ((⟨by decide⟩ : Sz 3 2).mul sn) hb
    have cm5 : CM ((2 * t + b) / (2 * b) / 2) 2 := CM.of sn.div (⟨by decide⟩ : Sz 3 2)
    rcases hm with rfl | rfl | rfl | rfl
    · walk_at "rd"
      refine q_int q ?_
      unfold rnd
      rw [if_pos (.inr rfl)]
    · walk_at "rd"
      refine q_int q (up_law t b0).symm
    · walk_at "rd"
      refine q_int q (near_law t b0).symm
    · rw [← even_law t b0] at q
      walk_at "rd"
      refine iteI (fun c1 => ?_) (fun c1 => ?_)
      · walk_at "rd"
        refine iteIN (fun c2 => ?_) (fun c2 => ?_)
        · rw [if_pos ⟨c1, c2⟩] at q
          walk_at "rd"
          exact q
        · rw [if_neg (fun z => z.2 c2)] at q
          walk_at "rd"
          exact q
      · rw [if_neg (fun z => c1 z.1)] at q
        walk_at "rd"
        exact q
theorem _law_rounded_go {H : Hp} {Q : VK} {E : XK} {t : Int} {b : Int} {m : Str} (b0 : 0 < b) (ht : Sz 120 t) (hb : Sz 60 b) (hm : m = "down" ∨ m = "up" ∨ m = "near" ∨ m = "even") (q : ∀ H', Same H H' → Q (.int (rnd t b m)) H') : sp__law_rounded [.int t, .int b, .str m] H Q E := by
  unfold sp__law_rounded
  exact ⟨t, b, m, rfl, b0, ht, hb, hm, q⟩

/-! ### Meter_reset -/
@[irreducible] def sp_Meter_reset (T : Txt w K mg) : Sp := fun vs H Q E => ∃ (c : Addr) (z : Str) (p : Addr) (t : Int) (v : Int), vs = [.ref c] ∧ (MeterAt K T.c_Meter H c z p t v) ∧ (∀ p' H', (∀ b o, b ≠ c → H b = some o → H' b = some o) → MeterAt K T.c_Meter H' c z p' 0 1 → Q .non H')
theorem ok_Meter_reset (T : Txt w K mg) : FnOk P w K mg base (L2.CX P w) 4 T.a_Meter_reset T.fd_Meter_reset ["self"] (sp_Meter_reset T) := by
  refine T.F_Meter_reset.ok sc_Meter_reset (fun vs H Q E h => ?_) (fun cdv A outer s H vs Q E hr h => ?_)
  · unfold sp_Meter_reset at h
    obtain ⟨c, z, p, t, v, rfl, _⟩ := h
    rfl
  · unfold sp_Meter_reset at h
    obtain ⟨c, z, p, t, v, rfl, M, q⟩ := h
    refine ⟨_, (pss_one (ps_fld (pv 0) (pe_callSD (ok_ratio T) (hr.mono (by decide)) rfl T.m_ratio T.F_ratio.kp T.b1_ratio (fun σ => passAt (takes_of rfl rfl rfl rfl) σ) (pa_cons pe_int pa_nil)) rfl)), ?_⟩
    obtain ⟨dx, hi⟩ := M.ins
    walk_at "rd"
    refine ratio_go T (b := 1) (by decide) (n := 4) ⟨by decide⟩ (by decide) fun p2 H2 s2 np ep => ?_
    have e2 := s2 _ _ hi
    walk_at "rd"
    have pc : p2 ≠ c := fun y => by rw [y, hi] at np; cases np
    refine q p2 _ (fun b o hb e => (upd_ne hb).trans (s2 _ _ e)) ⟨⟨dx, upd_same⟩, .inl rfl, low_pair (t := 0) (b := 1) ((upd_ne pc).trans ep) (by decide) ⟨by decide⟩ ⟨by decide⟩⟩
theorem Meter_reset_go (T : Txt w K mg) {H : Hp} {Q : VK} {E : XK} {c : Addr} {z : Str} {p : Addr} {t : Int} {v : Int} (M : MeterAt K T.c_Meter H c z p t v) (q : ∀ p' H', (∀ b o, b ≠ c → H b = some o → H' b = some o) → MeterAt K T.c_Meter H' c z p' 0 1 → Q .non H') : sp_Meter_reset T [.ref c] H Q E := by
  unfold sp_Meter_reset
  exact ⟨c, z, p, t, v, rfl, M, q⟩

/-! ### _law_cell -/
@[irreducible] def sp__law_cell (K : PySem.W.Frag) : Sp := fun vs H Q _ => ∃ (l : Addr) (ns : List Int) (j : Nat), vs = [.ref l, .int (j : Nat)] ∧ SqL K H l (ns.map V.int) ∧ ns.length ≤ 63 ∧ j < 64 ∧ Q (.int (cell ns j)) H
theorem ok__law_cell (T : Txt w K mg) : FnOk P w K mg base (L2.CX P w) 1 T.a__law_cell T.fd__law_cell ["script", "k"] (sp__law_cell K) := by
  refine T.F__law_cell.ok sc__law_cell (fun vs H Q E h => ?_) (fun cdv A outer s H vs Q E hr h => ?_)
  · unfold sp__law_cell at h
    obtain ⟨l, ns, j, rfl, _⟩ := h
    rfl
  · unfold sp__law_cell at h
    obtain ⟨l, ns, j, rfl, hs, hn, hj, q⟩ := h
    refine ⟨_, (pss_cons (ps_if (pt_cmpR op_lt (pv 1) (pe_callB call_ln rfl T.z_len bt_len (pa_cons (pv 0) pa_nil)) (nomark _)) (pss_one (ps_ret (pe_ix ix_seq (pv 0) (pv 1) (fun _ _ => rfl)))) pss_nil)
    (pss_one (ps_ret pe_int))), ?_⟩
    refine ⟨_, rfl, _, rfl, ln_l hs ⟨_, _, rfl, rfl, _, rfl, ?_⟩⟩
    rw [List.length_map]
    refine ite2 (fun h => ?_) (fun h => ?_)
    · have h' : j < ns.length := by have := of_decide_eq_true h; omega
      refine ⟨_, rfl, _, rfl, .inl ⟨l, _, _, .int (cell ns j), rfl, rfl, hs, ?_, q⟩⟩
      exact atI_map_cell h'
    · have h' : ns.length ≤ j := by
        refine Nat.le_of_not_lt fun z => h (decide_eq_true ?_)
        omega
      have e : cell ns j = 0 := by unfold cell; rw [List.getD_eq_getElem?_getD, List.getElem?_eq_none h']; rfl
      rw [e] at q
      exact q
theorem cell_go {H : Hp} {Q : VK} {E : XK} {l : Addr} {ns : List Int} (j : Nat) (hs : SqL K H l (ns.map V.int)) (hn : ns.length ≤ 63) (hj : j < 64) (q : Q (.int (cell ns j)) H) : sp__law_cell K [.ref l, .int (j : Nat)] H Q E := by
  unfold sp__law_cell
  exact ⟨l, ns, j, rfl, hs, hn, hj, q⟩
theorem cell_at {H : Hp} {Q : VK} {E : XK} {l : Addr} {ns : List Int} {x : Int} (j : Nat) (hs : SqL K H l (ns.map V.int)) (hn : ns.length ≤ 63) (hj : j < 64) (ex : x = (j : Nat)) (q : Q (.int (cell ns j)) H) : sp__law_cell K [.ref l, .int x] H Q E := by
  subst ex
  exact cell_go j hs hn hj q
local macro_rules | `(tactic| walk_at "call") => `(tactic| first | (apply cell_go 0; (walk_at "sq"); assumption; decide) | (apply cell_go 1; (walk_at "sq"); assumption; decide) | (apply cell_go 2; (walk_at "sq"); assumption; decide) | (apply cell_go 3; (walk_at "sq"); assumption; decide) | (apply cell_go 4; (walk_at "sq"); assumption; decide) | (apply cell_go 5; (walk_at "sq"); assumption; decide) | (apply cell_go 6; (walk_at "sq"); assumption; decide) | (apply cell_go 7; (walk_at "sq"); assumption; decide) | (apply cell_go 8; (walk_at "sq"); assumption; decide) | (apply cell_go 9; (walk_at "sq"); assumption; decide) | (apply cell_go 10; (walk_at "sq"); assumption; decide) | (apply cell_go 11; (walk_at "sq"); assumption; decide) | (apply cell_go 12; (walk_at "sq"); assumption; decide) | (apply cell_go 13; (walk_at "sq"); assumption; decide))

/-! ### _law_leap -/
@[irreducible] def sp__law_leap : Sp := fun vs H Q E => ∃ (y : Int), vs = [.int y] ∧ (Q (.bl (leapB y)) H)
theorem ok__law_leap (T : Txt w K mg) : FnOk P w K mg base (L2.CX P w) 1 T.a__law_leap T.fd__law_leap ["year"] sp__law_leap := by
  refine T.F__law_leap.ok sc__law_leap (fun vs H Q E h => ?_) (fun cdv A outer s H vs Q E hr h => ?_)
  · unfold sp__law_leap at h
    obtain ⟨y, rfl, _⟩ := h
    rfl
  · unfold sp__law_leap at h
    obtain ⟨y, rfl, q⟩ := h
    refine ⟨_, (pss_one (ps_ret (pe_and (pe_cmpR op_eq (pe_op op_mod (pe_callTy call_int1 rfl T.z_int bt_int (pa_cons (pv 0) pa_nil)) pe_int) pe_int (nomark _)) (pe_one (pe_or (pe_cmpR op_ne (pe_op op_mod (pe_callTy call_int1 rfl T.z_int bt_int (pa_cons (pv 0) pa_nil)) pe_int) pe_int (nomark _)) (pe_one (pe_cmpR op_eq (pe_op op_mod (pe_callTy call_int1 rfl T.z_int bt_int (pa_cons (pv 0) pa_nil)) pe_int) pe_int (nomark _)))))))), ?_⟩
    walk_at "go"
    all_goals refine q_bl q ?_
    all_goals (unfold leapB leapP; first | (simp only [V.int.injEq, decide_eq_decide]; omega) | (simp [*]; done) | (simp [*]; omega))
theorem _law_leap_go {H : Hp} {Q : VK} {E : XK} {y : Int} (q : Q (.bl (leapB y)) H) : sp__law_leap [.int y] H Q E := by
  unfold sp__law_leap
  exact ⟨y, rfl, q⟩
local macro_rules | `(tactic| walk_at "call") => `(tactic| (apply _law_leap_go))

/-! ### _law_length -/
@[irreducible] def sp__law_length : Sp := fun vs H Q E => ∃ (y : Int) (m : Int), vs = [.int y, .int m] ∧ (1 ≤ m) ∧ (m ≤ 12) ∧ (∀ H', Same H H' → Q (.int (mlen y m)) H')
theorem ok__law_length (T : Txt w K mg) : FnOk P w K mg base (L2.CX P w) 2 T.a__law_length T.fd__law_length ["year", "month"] sp__law_length := by
  refine T.F__law_length.ok sc__law_length (fun vs H Q E h => ?_) (fun cdv A outer s H vs Q E hr h => ?_)
  · unfold sp__law_length at h
    obtain ⟨y, m, rfl, _⟩ := h
    rfl
  · unfold sp__law_length at h
    obtain ⟨y, m, rfl, h1, h2, q⟩ := h
    refine ⟨_, (pss_cons (ps_if (pt_cmpR op_eq (pv 1) pe_int (nomark _)) (pss_one (ps_ret (pe_op op_add pe_int (pe_callTy call_int1 rfl T.z_int bt_int (pa_cons (pe_callS (ok__law_leap T) (hr.mono (by decide)) rfl T.m__law_leap T.F__law_leap.kp T.b__law_leap (fun σ => passAt (takes_of rfl rfl rfl rfl) σ) (pa_cons (pv 0) pa_nil)) pa_nil))))) pss_nil)
    (pss_one (ps_ret (pe_ix ix_list (pe_lst (pa_cons pe_int (pa_cons pe_int (pa_cons pe_int (pa_cons pe_int (pa_cons pe_int (pa_cons pe_int (pa_cons pe_int (pa_cons pe_int (pa_cons pe_int (pa_cons pe_int (pa_cons pe_int (pa_cons pe_int pa_nil))))))))))))) (pe_op op_sub (pv 1) pe_int) (fun _ _ => rfl))))), ?_⟩
    walk_at "rd"
    refine iteI (fun e => ?_) (fun e => ?_)
    · subst e
      walk_at "rd"
      have := q H (Same.refl H)
      rw [← mlen_2] at this
      exact this
    · walk_at "rd"
      refine ixL_go (l_of upd_same) (mtab y m h1 h2 e) ?_
      exact q _ (by walk_at "sm")
theorem _law_length_go {H : Hp} {Q : VK} {E : XK} {y : Int} {m : Int} (h1 : 1 ≤ m) (h2 : m ≤ 12) (q : ∀ H', Same H H' → Q (.int (mlen y m)) H') : sp__law_length [.int y, .int m] H Q E := by
  unfold sp__law_length
  exact ⟨y, m, rfl, h1, h2, q⟩
local macro_rules | `(tactic| walk_at "call") => `(tactic| (apply _law_length_go; (first | assumption | omega); (first | assumption | omega)))

/-! ### _law_date -/
@[irreducible] def sp__law_date : Sp := fun vs H Q E => ∃ (d : Int), vs = [.int d] ∧ (0 ≤ d) ∧ (d ≤ 73048) ∧ (∀ (y m x : Int) (p : Addr) (H' : Hp), IsDate y m x → dayOf y m x = d → Same H H' → H' p = some (.tup [.int y, .int m, .int x]) → Q (.ref p) H')
theorem ok__law_date (T : Txt w K mg) : FnOk P w K mg base (L2.CX P w) 3 T.a__law_date T.fd__law_date ["day"] sp__law_date := by
  refine T.F__law_date.ok sc__law_date (fun vs H Q E h => ?_) (fun cdv A outer s H vs Q E hr h => ?_)
  · unfold sp__law_date at h
    obtain ⟨d, rfl, _⟩ := h
    rfl
  · unfold sp__law_date at h
    obtain ⟨d, rfl, h1, h2, q⟩ := h
    refine ⟨_, (pss_cons (ps_set (i := 1) sc__law_date.nd rfl (Or.inl rfl) pe_int)
    (pss_cons (ps_set (i := 2) sc__law_date.nd rfl (Or.inl rfl) (pv 0))
    (pss_cons (ps_for (passes_of rfl) rfl (pi_range1 rfl T.z_range (pa_cons pe_int pa_nil)) (pg_name (i := 3) sc__law_date.nd rfl (Or.inl rfl))
      (pss_cons (ps_set (i := 4) sc__law_date.nd rfl (Or.inl rfl) (pe_op op_add pe_int (pe_callTy call_int1 rfl T.z_int bt_int (pa_cons (pe_callS (ok__law_leap T) (hr.mono (by decide)) rfl T.m__law_leap T.F__law_leap.kp T.b__law_leap (fun σ => passAt (takes_of rfl rfl rfl rfl) σ) (pa_cons (pv 1) pa_nil)) pa_nil))))
      (pss_cons (ps_if (pt_cmpR op_lt (pv 2) (pv 4) (nomark _)) (pss_one ps_break) pss_nil)
      (pss_cons (ps_set (i := 2) sc__law_date.nd rfl (Or.inl rfl) (pe_op op_sub (pv 2) (pv 4)))
      (pss_one (ps_set (i := 1) sc__law_date.nd rfl (Or.inl rfl) (pe_op op_add (pv 1) pe_int)))))))
    (pss_cons (ps_set (i := 5) sc__law_date.nd rfl (Or.inl rfl) pe_int)
    (pss_cons (ps_for (passes_of rfl) rfl (pi_range1 rfl T.z_range (pa_cons pe_int pa_nil)) (pg_name (i := 3) sc__law_date.nd rfl (Or.inl rfl))
      (pss_cons (ps_if (pt_cmpR op_lt (pv 2) (pe_callS (ok__law_length T) (hr.mono (by decide)) rfl T.m__law_length T.F__law_length.kp T.b__law_length (fun σ => passAt (takes_of rfl rfl rfl rfl) σ) (pa_cons (pv 1) (pa_cons (pv 5) pa_nil))) (nomark _)) (pss_one ps_break) pss_nil)
      (pss_cons (ps_set (i := 2) sc__law_date.nd rfl (Or.inl rfl) (pe_op op_sub (pv 2) (pe_callS (ok__law_length T) (hr.mono (by decide)) rfl T.m__law_length T.F__law_length.kp T.b__law_length (fun σ => passAt (takes_of rfl rfl rfl rfl) σ) (pa_cons (pv 1) (pa_cons (pv 5) pa_nil)))))
      (pss_one (ps_set (i := 5) sc__law_date.nd rfl (Or.inl rfl) (pe_op op_add (pv 5) pe_int))))))
    (pss_one (ps_ret (pe_tup (pa_cons (pv 1) (pa_cons (pv 5) (pa_cons (pe_op op_add (pv 2) pe_int) pa_nil))))))))))), ?_⟩
    walk_at "rd"
    refine ⟨by decide, by decide, for_range (n := 200) (fun i σ H' => ∃ (y r : Int) (u1 u2 u3 : Option V), H' = H ∧ σ = [some (.int d), some (.int y), some (.int r), u1, u2, u3] ∧ y = 2000 + (i : Int) ∧ r = d - ystart y ∧ 0 ≤ r) ⟨_, _, _, _, _, rfl, rfl, rfl, by rw [ystart_0]; omega, h1⟩ ?_ ?_⟩
    · rintro i σ H' hi ⟨y, r, u1, u2, u3, rfl, rfl, hy, hr0, hle⟩
      have hn := ystart_next y
      walk_at "rd"
      rw [leapN_b]
      refine iteD (fun e => ?_) (fun e => ?_)
      · walk_at "rd"
        refine ⟨by decide, by decide, for_range (n := 12) (fun j σ H1 => ∃ (m x : Int) (w1 w2 : Option V), Same H' H1 ∧ σ = [some (.int d), some (.int y), some (.int x), w1, w2, some (.int m)] ∧ m = 1 + (j : Int) ∧ x = r - mstart y m ∧ 0 ≤ x) ⟨_, _, _, _, Same.refl _, rfl, rfl, by rw [mstart_1]; omega, hle⟩ ?_ ?_⟩
        · rintro j σ H1 hj ⟨m, x, w1, w2, s1, rfl, hm, hx, hx0⟩
          have hm1 := mstart_next y m (by omega) (by omega)
          have hm2 : 1 ≤ m := by omega
          have hm3 : m ≤ 12 := by omega
          walk_at "rd"
          intro H2 s2
          walk_at "rd"
          refine iteD (fun e2 => ?_) (fun e2 => ?_)
          · walk_at "rd"
            refine q y m _ _ _ ⟨by omega, by omega, hm2, hm3, ?_, ?_⟩ ?_ (same_new (s1.trans s2) (by assumption)) upd_same
            · omega
            · omega
            · unfold dayOf
              omega
          · walk_at "rd"
            intro H3 s3
            walk_at "rd"
            exact ⟨_, _, _, _, (s1.trans s2).trans s3, rfl, by omega, by rw [hm1]; omega, by omega⟩
        · rintro σ H1 ⟨m, x, w1, w2, s1, rfl, hm, hx, hx0⟩
          have h13 := mstart_13 y
          have : m = 13 := by omega
          rw [this] at hx
          omega
      · walk_at "rd"
        exact ⟨_, _, _, _, _, rfl, rfl, by omega, by rw [hn]; omega, by omega⟩
    · rintro σ H' ⟨y, r, u1, u2, u3, rfl, rfl, hy, hr0, hle⟩
      have : y = 2200 := by omega
      rw [this, ystart_end] at hr0
      omega
theorem _law_date_go {H : Hp} {Q : VK} {E : XK} {d : Int} (h1 : 0 ≤ d) (h2 : d ≤ 73048) (q : ∀ (y m x : Int) (p : Addr) (H' : Hp), IsDate y m x → dayOf y m x = d → Same H H' → H' p = some (.tup [.int y, .int m, .int x]) → Q (.ref p) H') : sp__law_date [.int d] H Q E := by
  unfold sp__law_date
  exact ⟨d, rfl, h1, h2, q⟩
local macro_rules | `(tactic| walk_at "call") => `(tactic| (apply _law_date_go; (first | assumption | omega); (first | assumption | omega)))

/-! ### _law_fast -/
@[irreducible] def sp__law_fast : Sp := fun vs H Q E => ∃ (y : Int), vs = [.int y, .int 1, .int 1] ∧ (2000 ≤ y) ∧ (y ≤ 2199) ∧ (∀ H', Same H H' → Q (.int (ystart y)) H')
theorem ok__law_fast (T : Txt w K mg) : FnOk P w K mg base (L2.CX P w) 3 T.a__law_fast T.fd__law_fast ["year", "month", "day"] sp__law_fast := by
  refine T.F__law_fast.ok sc__law_fast (fun vs H Q E h => ?_) (fun cdv A outer s H vs Q E hr h => ?_)
  · unfold sp__law_fast at h
    obtain ⟨y, rfl, _⟩ := h
    rfl
  · unfold sp__law_fast at h
    obtain ⟨y, rfl, h0, h1, q⟩ := h
    refine ⟨_, (pss_cons (ps_set (i := 3) sc__law_fast.nd rfl (Or.inl rfl) (pe_op op_sub (pv 0) pe_int))
    (pss_cons (ps_set (i := 4) sc__law_fast.nd rfl (Or.inl rfl) (pe_op op_add (pe_op op_sub (pe_op op_add (pe_op op_mulB pe_int (pv 3)) (pe_op op_fdivB (pe_op op_add (pv 3) pe_int) pe_int)) (pe_op op_fdivB (pe_op op_add (pv 3) pe_int) pe_int)) (pe_op op_fdivB (pe_op op_add (pv 3) pe_int) pe_int)))
    (pss_cons (ps_for (passes_of rfl) rfl (pi_range2 rfl T.z_range (pa_cons pe_int (pa_cons (pv 1) pa_nil))) (pg_name (i := 5) sc__law_fast.nd rfl (Or.inl rfl))
      (pss_one (ps_set (i := 4) sc__law_fast.nd rfl (Or.inl rfl) (pe_op op_add (pv 4) (pe_callS (ok__law_length T) (hr.mono (by decide)) rfl T.m__law_length T.F__law_length.kp T.b__law_length (fun σ => passAt (takes_of rfl rfl rfl rfl) σ) (pa_cons (pv 0) (pa_cons (pv 5) pa_nil)))))))
    (pss_one (ps_ret (pe_op op_sub (pe_op op_add (pv 4) (pv 2)) pe_int)))))), ?_⟩
    walk_at "rd"
    refine ⟨_, _, rfl, ⟨by decide, by decide, by decide, by decide⟩, for_range (lo := 1) (n := 0) (fun i σ H' => σ = [some (.int y), some (.int 1), some (.int 1), some (.int (y - 2000)), some (.int (ystart y)), none] ∧ H = H') ⟨rfl, rfl⟩ ?_ ?_⟩
    · rintro i σ H2 hi
      omega
    · rintro σ _ ⟨rfl, rfl⟩
      walk_at "rd"
      refine q_int (q H (Same.refl _)) (by omega)
theorem _law_fast_go {H : Hp} {Q : VK} {E : XK} {y : Int} (h0 : 2000 ≤ y) (h1 : y ≤ 2199) (q : ∀ H', Same H H' → Q (.int (ystart y)) H') : sp__law_fast [.int y, .int 1, .int 1] H Q E := by
  unfold sp__law_fast
  exact ⟨y, rfl, h0, h1, q⟩
local macro_rules | `(tactic| walk_at "call") => `(tactic| (apply _law_fast_go; (first | assumption | omega); (first | assumption | omega)))

/-! ### _law_position -/
@[irreducible] def sp__law_position : Sp := fun vs H Q E => ∃ (z : Str) (d : Int), vs = [.str z, .int d] ∧ (0 ≤ d) ∧ (d ≤ 73048) ∧ (∀ H', Same H H' → Q (.int (posD z d)) H')
theorem ok__law_position (T : Txt w K mg) : FnOk P w K mg base (L2.CX P w) 4 T.a__law_position T.fd__law_position ["convention", "day"] sp__law_position := by
  refine T.F__law_position.ok sc__law_position (fun vs H Q E h => ?_) (fun cdv A outer s H vs Q E hr h => ?_)
  · unfold sp__law_position at h
    obtain ⟨z, d, rfl, _⟩ := h
    rfl
  · unfold sp__law_position at h
    obtain ⟨z, d, rfl, d0, d1, q⟩ := h
    refine ⟨_, (pss_cons (ps_if (PW.pt (pw_or (pt_cmpR op_eq (pv 0) pe_str (nomark _)) (pw_or1 (pt_cmpR op_eq (pv 0) pe_str (nomark _))))) (pss_one (ps_ret (pv 1))) pss_nil)
    (pss_cons (ps_set (i := 2) sc__law_position.nd rfl (Or.inl rfl) (pe_callS (ok__law_date T) (hr.mono (by decide)) rfl T.m__law_date T.F__law_date.kp T.b__law_date (fun σ => passAt (takes_of rfl rfl rfl rfl) σ) (pa_cons (pv 1) pa_nil)))
    (pss_cons (ps_if (pt_cmpR op_eq (pv 0) pe_str (nomark _)) (pss_one (ps_ret (pe_op op_sub (pe_op op_add (pe_op op_add (pe_op op_mulB pe_int (pe_op op_sub (pe_ix ix_tup (pv 2) pe_int (fun _ _ => rfl)) pe_int)) (pe_op op_mulB pe_int (pe_op op_sub (pe_ix ix_tup (pv 2) pe_int (fun _ _ => rfl)) pe_int))) (pe_callB (call_mn rfl) rfl T.z_min bt_min (pa_cons (pe_ix ix_tup (pv 2) pe_int (fun _ _ => rfl)) (pa_cons pe_int pa_nil)))) pe_int))) pss_nil)
    (pss_cons (ps_set (i := 3) sc__law_position.nd rfl (Or.inl rfl) (pe_op op_add pe_int (pe_callTy call_int1 rfl T.z_int bt_int (pa_cons (pe_callS (ok__law_leap T) (hr.mono (by decide)) rfl T.m__law_leap T.F__law_leap.kp T.b__law_leap (fun σ => passAt (takes_of rfl rfl rfl rfl) σ) (pa_cons (pe_ix ix_tup (pv 2) pe_int (fun _ _ => rfl)) pa_nil)) pa_nil))))
    (pss_one (ps_ret (pe_op op_add (pe_op op_mulB pe_int (pe_op op_sub (pe_ix ix_tup (pv 2) pe_int (fun _ _ => rfl)) pe_int)) (pe_op op_mulB (pe_op op_fdivB pe_int (pv 3)) (pe_op op_sub (pv 1) (pe_callS (ok__law_fast T) (hr.mono (by decide)) rfl T.m__law_fast T.F__law_fast.kp T.b__law_fast (fun σ => passAt (takes_of rfl rfl rfl rfl) σ) (pa_cons (pe_ix ix_tup (pv 2) pe_int (fun _ _ => rfl)) (pa_cons pe_int (pa_cons pe_int pa_nil))))))))))))), ?_⟩
    walk_at "rd"
    have k := dOf_is d0 d1
    have qq := q
    unfold posD at qq
    refine iteS (fun c => ?_) (fun c => ?_)
    · rw [posOf_act (.inl c), k.2] at qq
      walk_at "rd"
      exact qq _ (Same.refl _)
    walk_at "rd"
    refine iteS (fun c2 => ?_) (fun c2 => ?_)
    · rw [posOf_act (.inr c2), k.2] at qq
      walk_at "rd"
      exact qq _ (Same.refl _)
    have c' : ¬ (z = "actual/365" ∨ z = "actual/360") := fun h => h.elim c c2
    walk_at "rd"
    intro y m x p H1 hI hD s1 t1
    obtain ⟨e1, e2, e3⟩ := date_inj hI k.1 (hD.trans k.2.symm)
    rw [← e1, ← e2, ← e3] at qq
    clear k e1 e2 e3
    have T1 := t_of (K := K) t1
    have := hI.y0; have := hI.y1; have := hI.m0; have := hI.m1; have := hI.d0; have := hI.d1
    walk_at "rd"
    refine iteS (fun c3 => ?_) (fun c3 => ?_)
    · rw [posOf_30 c' c3] at qq
      walk_at "rd"
      exact qq _ s1
    rw [posOf_aa c' c3, hD] at qq
    have ys : ystart (2000 + (y - 2000)) ≤ 366 * (y - 2000) := ystart_low (y - 2000) (by omega)
    rw [show 2000 + (y - 2000) = y by omega] at ys
    have ys0 : ystart 2000 ≤ ystart y := ystart_mono hI.y0
    rw [ystart_0] at ys0
    have szd : Sz 64 (d - ystart y) := ⟨by omega⟩
    obtain ⟨sz, hsz⟩ : ∃ sz : Int, sz = 365 + (if leapB y = true then 1 else 0) := ⟨_, rfl⟩
    have sz1 : 0 < sz := by rw [hsz]; split <;> omega
    have sz2 : Sz 64 sz := ⟨by rw [hsz]; split <;> omega⟩
    have sz3 : 133590 / sz = if leapB y = true then 365 else 366 := by
      rw [hsz]
      cases leapB y <;> rfl
    have sz4 : Sz 64 (133590 / sz) := ⟨by rw [sz3]; split <;> omega⟩
    have cd : CD 133590 (365 + (if leapB y = true then (1 : Int) else 0)) := hsz ▸ CD.of sz1 sz2
    have cm : CM (133590 / (365 + (if leapB y = true then (1 : Int) else 0))) (d - ystart y) := hsz ▸ CM.of sz4 szd
    walk_at "rd"
    intro H2 s2
    have T2 := same_tup s2 T1
    walk_at "rd"
    have r := qq _ (s1.trans s2)
    rw [← sz3, Int.mul_comm (d - ystart y), hsz] at r
    exact r
theorem _law_position_go {H : Hp} {Q : VK} {E : XK} {z : Str} {d : Int} (d0 : 0 ≤ d) (d1 : d ≤ 73048) (q : ∀ H', Same H H' → Q (.int (posD z d)) H') : sp__law_position [.str z, .int d] H Q E := by
  unfold sp__law_position
  exact ⟨z, d, rfl, d0, d1, q⟩
local macro_rules | `(tactic| walk_at "call") => `(tactic| (apply _law_position_go; (first | assumption | omega); (first | assumption | omega)))

/-! ### law -/
theorem mode_at (i : Int) (h0 : 0 ≤ i) (h : i < 4) : ∃ w : Str, atI modes i = some (.str w) ∧ isMode w = true ∧ (w = "down" ∨ w = "up" ∨ w = "near" ∨ w = "even") := by
  obtain rfl | rfl | rfl | rfl : i = 0 ∨ i = 1 ∨ i = 2 ∨ i = 3 := by omega
  · exact ⟨_, rfl, by decide +kernel, .inl rfl⟩
  · exact ⟨_, rfl, by decide +kernel, .inr (.inl rfl)⟩
  · exact ⟨_, rfl, by decide +kernel, .inr (.inr (.inl rfl))⟩
  · exact ⟨_, rfl, by decide +kernel, .inr (.inr (.inr rfl))⟩
theorem conv4_at (i : Int) (h0 : 0 ≤ i) (h : i < 4) : ∃ (z : Str) (m : Int), atI [V.str "actual/365", V.str "actual/360", V.str "30/360", V.str "actual/actual"] i = some (V.str z) ∧ partsOf z = some m := by
  obtain rfl | rfl | rfl | rfl : i = 0 ∨ i = 1 ∨ i = 2 ∨ i = 3 := by omega
  · exact ⟨_, 365, rfl, by decide +kernel⟩
  · exact ⟨_, 360, rfl, by decide +kernel⟩
  · exact ⟨_, 360, rfl, by decide +kernel⟩
  · exact ⟨_, 133590, rfl, by decide +kernel⟩
theorem tup_frame {H H' : Hp} {a c C dx : Addr} {fs : List (Str × V)} {xs : List V} (f : ∀ b o, b ≠ c → H b = some o → H' b = some o) (e : H c = some (.ins C dx fs)) (h : SqT K H a xs) : SqT K H' a xs := by
  rcases h with (h | ⟨u, h⟩) | h
  · exact .inl (.inl (f _ _ (ne_of h e (by intro z; cases z)) h))
  · exact .inl (.inr ⟨u, f _ _ (ne_of h e (by intro z; cases z)) h⟩)
  · exact .inr h
theorem MeterAt.frame {C : Addr} {H H' : Hp} {c c2 dx : Addr} {fs : List (Str × V)} {z : Str} {p : Addr} {t v : Int} (f : ∀ b o, b ≠ c → H b = some o → H' b = some o) (e : H c = some (.ins C dx fs)) (ne : c2 ≠ c) (h : MeterAt K C H c2 z p t v) : MeterAt K C H' c2 z p t v := by
  obtain ⟨⟨d2, i⟩, k, l⟩ := h
  exact ⟨⟨d2, f _ _ ne i⟩, k, ⟨tup_frame f e l.at_, l.pos, l.s1, l.s2⟩⟩
theorem same_frame {H H2 H3 : Hp} {c : Addr} (s : Same H H2) (f : ∀ b o, b ≠ c → H2 b = some o → H3 b = some o) (n : H c = none) : Same H H3 := fun b o e => f b o (ne_of_none e n) (s b o e)
theorem big_sz {T : Int} (i : Nat) (hi : i ≤ 20) (h : -((i : Int) * 38685626227668133590597632) ≤ T ∧ T ≤ (i : Int) * 38685626227668133590597632) : Sz 110 T := by
  refine ⟨?_⟩
  have e : (2 : Nat) ^ 110 = 1298074214633706907132624082305024 := by decide
  rw [e]
  omega
theorem ok_law (T : Txt w K mg) : FnOk P w K mg base (L2.CX P w) 9 T.a_law T.fd_law ["script"] (sp_law K) := by
  refine T.F_law.ok sc_law (fun vs H Q E h => ?_) (fun cdv A outer s H vs Q E hr h => ?_)
  · obtain ⟨l, ns, rfl, _⟩ := h
    rfl
  · obtain ⟨l0, ns, rfl, hs, hn, hb, q⟩ := h
    refine ⟨_, (pss_cons (ps_set (i := 1) sc_law.nd rfl (Or.inl rfl) (pe_lst (pa_cons pe_str (pa_cons pe_str (pa_cons pe_str (pa_cons pe_str pa_nil))))))
    (pss_cons (ps_set (i := 2) sc_law.nd rfl (Or.inl rfl) (pe_ix ix_list (pv 1) (pe_op op_mod (pe_callTy call_int1 rfl T.z_int bt_int (pa_cons (pe_callS (ok__law_cell T) (hr.mono (by decide)) rfl T.m__law_cell T.F__law_cell.kp T.b__law_cell (fun σ => passAt (takes_of rfl rfl rfl rfl) σ) (pa_cons (pv 0) (pa_cons pe_int pa_nil))) pa_nil)) pe_int) (fun _ _ => rfl)))
    (pss_cons (ps_set (i := 3) sc_law.nd rfl (Or.inl rfl) (pe_makeX T.mk_Meter (ok_Meter___init__ T) (hr.mono (by decide)) rfl T.m_Meter T.b_Meter___init__ (fun σ => passAt (takes_of rfl rfl rfl rfl) σ) (pa_cons (pv 2) pa_nil)))
    (pss_cons (ps_set (i := 4) sc_law.nd rfl (Or.inl rfl) (pe_op op_mulB pe_int (pe_callS (ok__law_parts T) (hr.mono (by decide)) rfl T.m__law_parts T.F__law_parts.kp T.b__law_parts (fun σ => passAt (takes_of rfl rfl rfl rfl) σ) (pa_cons (pv 2) pa_nil))))
    (pss_cons (ps_set (i := 5) sc_law.nd rfl (Or.inl rfl) pe_int)
    (pss_cons (ps_if (pt_not (pt_val (pe_callS (ok__law_exact T) (hr.mono (by decide)) rfl T.m__law_exact T.F__law_exact.kp T.b__law_exact (fun σ => passAt (takes_of rfl rfl rfl rfl) σ) (pa_cons (pv 3) (pa_cons pe_int (pa_cons pe_int pa_nil)))))) (pss_one (ps_ret pe_bl)) pss_nil)
    (pss_cons (ps_for (passes_of rfl) rfl (pi_range1 rfl T.z_range (pa_cons (pe_callB (call_mn rfl) rfl T.z_min bt_min (pa_cons pe_int (pa_cons (pe_callB (call_mx rfl) rfl T.z_max bt_max (pa_cons pe_int (pa_cons (pe_op op_sub (pe_callB call_ln rfl T.z_len bt_len (pa_cons (pv 0) pa_nil)) pe_int) pa_nil))) pa_nil))) pa_nil)) (pg_name (i := 6) sc_law.nd rfl (Or.inl rfl))
      (pss_cons (ps_set (i := 7) sc_law.nd rfl (Or.inl rfl) (pe_callS (ok__law_draw T) (hr.mono (by decide)) rfl T.m__law_draw T.F__law_draw.kp T.b__law_draw (fun σ => passAt (takes_of rfl rfl rfl rfl) σ) (pa_cons (pe_ix ix_seq (pv 0) (pe_op op_add pe_int (pv 6)) (fun _ _ => rfl)) (pa_cons (pe_lst (pa_cons pe_int (pa_cons pe_int (pa_cons pe_int (pa_cons pe_int (pa_cons pe_int (pa_cons pe_int (pa_cons pe_int pa_nil)))))))) pa_nil))))
      (pss_cons (ps_set (i := 8) sc_law.nd rfl (Or.inl rfl) (pe_ix ix_list (pv 7) pe_int (fun _ _ => rfl)))
      (pss_cons (ps_set (i := 9) sc_law.nd rfl (Or.inl rfl) (pe_callB (call_mn rfl) rfl T.z_min bt_min (pa_cons pe_int (pa_cons (pe_op op_add (pv 8) (pe_ix ix_list (pv 7) pe_int (fun _ _ => rfl))) pa_nil))))
      (pss_cons (ps_set (i := 10) sc_law.nd rfl (Or.inl rfl) (pe_ix ix_list (pv 7) pe_int (fun _ _ => rfl)))
      (pss_cons (ps_cut (ps_if (pt_cmpR op_gt (pe_ix ix_list (pv 7) pe_int (fun _ _ => rfl)) pe_int (nomark _)) (pss_one (ps_set (i := 10) sc_law.nd rfl (Or.inl rfl) (pe_ix ix_list (pv 7) pe_int (fun _ _ => rfl)))) pss_nil))
      (pss_cons (ps_set (i := 11) sc_law.nd rfl (Or.inl rfl) (pe_methX0 (ok_Meter_copy_of T) (hr.mono (by decide)) T.cl_Meter T.me_Meter_copy_of T.b_Meter_copy_of (fun σ => passAt (takes_of rfl rfl rfl rfl) σ) (pv 3)))
      (pss_cons (ps_set (i := 12) sc_law.nd rfl (Or.inl rfl) (pv 5))
      (pss_cons (ps_expr (pe_methX (ok_Meter_run T) (hr.mono (by decide)) T.cl_Meter T.me_Meter_run T.b_Meter_run (fun σ => passAt (takes_of rfl rfl rfl rfl) σ) (pv 3) (pa_cons (pv 10) (pa_cons (pe_ix ix_list (pv 7) pe_int (fun _ _ => rfl)) (pa_cons (pv 8) (pa_cons (pv 9) pa_nil))))))
      (pss_cons (ps_set (i := 5) sc_law.nd rfl (Or.inl rfl) (pe_op op_add (pv 5) (pe_op op_mulB (pe_op op_mulB (pv 10) (pe_ix ix_list (pv 7) pe_int (fun _ _ => rfl))) (pe_op op_sub (pe_callS (ok__law_position T) (hr.mono (by decide)) rfl T.m__law_position T.F__law_position.kp T.b__law_position (fun σ => passAt (takes_of rfl rfl rfl rfl) σ) (pa_cons (pv 2) (pa_cons (pv 9) pa_nil))) (pe_callS (ok__law_position T) (hr.mono (by decide)) rfl T.m__law_position T.F__law_position.kp T.b__law_position (fun σ => passAt (takes_of rfl rfl rfl rfl) σ) (pa_cons (pv 2) (pa_cons (pv 8) pa_nil)))))))
      (pss_cons (ps_if (PW.pt (pw_or (pt_not (pt_val (pe_callS (ok__law_exact T) (hr.mono (by decide)) rfl T.m__law_exact T.F__law_exact.kp T.b__law_exact (fun σ => passAt (takes_of rfl rfl rfl rfl) σ) (pa_cons (pv 3) (pa_cons (pv 5) (pa_cons (pv 4) pa_nil)))))) (pw_or1 (pt_not (pt_val (pe_callS (ok__law_exact T) (hr.mono (by decide)) rfl T.m__law_exact T.F__law_exact.kp T.b__law_exact (fun σ => passAt (takes_of rfl rfl rfl rfl) σ) (pa_cons (pv 11) (pa_cons (pv 12) (pa_cons (pv 4) pa_nil))))))))) (pss_one (ps_ret pe_bl)) pss_nil)
      (pss_cons (ps_cut (ps_if (pt_cmpR op_eq (pe_op op_mod (pe_callTy call_int1 rfl T.z_int bt_int (pa_cons (pe_ix ix_list (pv 7) pe_int (fun _ _ => rfl)) pa_nil)) pe_int) pe_int (nomark _)) (pss_cons (ps_set (i := 13) sc_law.nd rfl (Or.inl rfl) (pe_ix ix_list (pe_lst (pa_cons pe_str (pa_cons pe_str (pa_cons pe_str (pa_cons pe_str pa_nil))))) (pe_ix ix_list (pv 7) pe_int (fun _ _ => rfl)) (fun _ _ => rfl)))
        (pss_cons (ps_set (i := 14) sc_law.nd rfl (Or.inl rfl) (pe_methX (ok_Meter_post T) (hr.mono (by decide)) T.cl_Meter T.me_Meter_post T.b_Meter_post (fun σ => passAt (takes_of rfl rfl rfl rfl) σ) (pv 3) (pa_cons (pv 13) pa_nil)))
        (pss_cons (ps_set (i := 15) sc_law.nd rfl (Or.inl rfl) (pe_callS (ok__law_rounded T) (hr.mono (by decide)) rfl T.m__law_rounded T.F__law_rounded.kp T.b__law_rounded (fun σ => passAt (takes_of rfl rfl rfl rfl) σ) (pa_cons (pv 5) (pa_cons (pv 4) (pa_cons (pv 13) pa_nil)))))
        (pss_cons (ps_if (PW.pt (pw_or (pt_not (pt_val (pe_callS (ok__law_whole T) (hr.mono (by decide)) rfl T.m__law_whole T.F__law_whole.kp T.b__law_whole (fun σ => passAt (takes_of rfl rfl rfl rfl) σ) (pa_cons (pv 14) pa_nil)))) (pw_or1 (pt_cmpR op_ne (pv 14) (pv 15) (nomark _))))) (pss_one (ps_ret pe_bl)) pss_nil)
        (pss_cons (ps_set (i := 5) sc_law.nd rfl (Or.inl rfl) (pe_op op_sub (pv 5) (pe_op op_mulB (pv 15) (pv 4))))
        (pss_one (ps_if (PW.pt (pw_or (pt_not (pt_val (pe_callS (ok__law_exact T) (hr.mono (by decide)) rfl T.m__law_exact T.F__law_exact.kp T.b__law_exact (fun σ => passAt (takes_of rfl rfl rfl rfl) σ) (pa_cons (pv 3) (pa_cons (pv 5) (pa_cons (pv 4) pa_nil)))))) (pw_or (pt_cmpR op_ge (pv 5) (pv 4) (nomark _)) (pw_or1 (pt_cmpR op_le (pv 5) (pe_un un_neg (pv 4)) (nomark _)))))) (pss_one (ps_ret pe_bl)) pss_nil))))))) pss_nil))
      (pss_one (ps_cut (ps_if (pt_cmpR op_eq (pe_ix ix_list (pv 7) pe_int (fun _ _ => rfl)) pe_int (nomark _)) (pss_cons (ps_expr (pe_methX0 (ok_Meter_reset T) (hr.mono (by decide)) T.cl_Meter T.me_Meter_reset T.b_Meter_reset (fun σ => passAt (takes_of rfl rfl rfl rfl) σ) (pv 3)))
        (pss_cons (ps_set (i := 5) sc_law.nd rfl (Or.inl rfl) pe_int)
        (pss_one (ps_if (pt_not (pt_val (pe_callS (ok__law_exact T) (hr.mono (by decide)) rfl T.m__law_exact T.F__law_exact.kp T.b__law_exact (fun σ => passAt (takes_of rfl rfl rfl rfl) σ) (pa_cons (pv 3) (pa_cons pe_int (pa_cons pe_int pa_nil)))))) (pss_one (ps_ret pe_bl)) pss_nil)))) pss_nil)))))))))))))))
    (pss_one (ps_ret (pe_callS (ok__law_exact T) (hr.mono (by decide)) rfl T.m__law_exact T.F__law_exact.kp T.b__law_exact (fun σ => passAt (takes_of rfl rfl rfl rfl) σ) (pa_cons (pv 3) (pa_cons (pv 5) (pa_cons (pv 4) pa_nil))))))))))))), ?_⟩
    obtain ⟨z, m, hz, hm⟩ := conv4_at (cell ns 0 % 4) (by omega) (by omega)
    have hzn : partsOf z ≠ none := by rw [hm]; intro y; cases y
    have hmb := parts_bd hm
    have cmb : CM 1000000 m := CM.of (m := 22) (n := 22) ⟨by decide⟩ ⟨by omega⟩
    walk_at "rd"
    rename_i p0 np0
    have s0 := same_new (o := .lst [.str "actual/365", .str "actual/360", .str "30/360", .str "actual/actual"]) (Same.refl H) np0
    generalize upd H p0 (.lst [.str "actual/365", .str "actual/360", .str "30/360", .str "actual/actual"]) = H0 at *
    refine new_meter T (fun h => absurd h hzn) fun _ c pc H1 s1 nc M1 => ?_
    have s01 := s0.trans s1
    have ncH : H c = none := s0.free nc
    walk_at "rd"
    refine _law_parts_go hm fun H2 s2 => ?_
    have M2 := M1.same s2
    have hbb : 1000000 * m ≠ 0 := by omega
    have sbb : Sz 40 (1000000 * m) := ⟨by omega⟩
    walk_at "rd"
    refine _law_exact_go T (t := 0) (b := 1) (z := z) (p := pc) (by rw [low_zero (by decide)]; exact M2) (by decide) ⟨by decide⟩ fun H3 s3 => ?_
    have M3 := M2.same s3
    have s03 := s01.trans (s2.trans s3)
    have hs3 := same_lst s03 hs
    walk_at "rd"
    rw [map_len]
    generalize hmn : (if (if (0 : Int) < ((ns.length : Nat) : Int) - 1 then ((ns.length : Nat) : Int) - 1 else 0) < 12 then if (0 : Int) < ((ns.length : Nat) : Int) - 1 then ((ns.length : Nat) : Int) - 1 else 0 else 12) = mn
    have hmn1 : 0 ≤ mn ∧ mn ≤ 12 ∧ (0 < mn → mn + 1 ≤ ns.length) := by
      rw [← hmn]
      split <;> split <;> omega
    refine ⟨by omega, by omega, for_range (n := mn.toNat) (fun i σ H' => ∃ (p : Addr) (n : Int) (v6 v7 v8 v9 v10 v11 v12 v13 v14 v15 : Option V), σ = [some (.ref l0), some (.ref p0), some (.str z), some (.ref c), some (.int (1000000 * m)), some (.int n), v6, v7, v8, v9, v10, v11, v12, v13, v14, v15] ∧ Same H H' ∧ MeterAt K T.c_Meter H' c z p (low n (1000000 * m)).1 (low n (1000000 * m)).2 ∧ -((i : Int) * 38685626227668133590597632) ≤ n ∧ n ≤ (i : Int) * 38685626227668133590597632) ⟨pc, 0, none, none, none, none, none, none, none, none, none, none, rfl, s03, by rw [low_zero hbb]; exact M3, by omega, by omega⟩ ?_ ?_⟩
    · rintro i σ H4 hi ⟨p, n, v6, v7, v8, v9, v10, v11, v12, v13, v14, v15, rfl, s4, M4, n0, n1⟩
      have hs4 := same_lst s4 hs
      obtain ⟨dx4, hi4⟩ := M4.ins
      have hsn := big_sz i (by omega) ⟨n0, n1⟩
      have hix : atI (ns.map V.int) (1 + (0 + (i : Int))) = some (V.int (cell ns (1 + i))) := by
        have := atI_map_cell (ns := ns) (j := 1 + i) (by omega)
        rw [show ((1 + i : Nat) : Int) = 1 + (0 + (i : Int)) by omega] at this
        exact this
      walk_at "rd"
      refine draw_go (ls := [1000000000001, 1000001, 73049, 400, 10, 4, 100001]) (l_of upd_same) (cell_sz hb _) (lims_ok (by decide +kernel)) (by decide) fun r H5 s5 nr er => ?_
      generalize hcc : cell ns (1 + i) = cc at *
      have hd : draw cc [1000000000001, 1000001, 73049, 400, 10, 4, 100001] = [dVal cc [1000000000001, 1000001, 73049, 400, 10, 4, 100001] 0, dVal cc [1000000000001, 1000001, 73049, 400, 10, 4, 100001] 1, dVal cc [1000000000001, 1000001, 73049, 400, 10, 4, 100001] 2, dVal cc [1000000000001, 1000001, 73049, 400, 10, 4, 100001] 3, dVal cc [1000000000001, 1000001, 73049, 400, 10, 4, 100001] 4, dVal cc [1000000000001, 1000001, 73049, 400, 10, 4, 100001] 5, dVal cc [1000000000001, 1000001, 73049, 400, 10, 4, 100001] 6] := rfl
      rw [hd] at er
      have b0 := dVal_nn cc [1000000000001, 1000001, 73049, 400, 10, 4, 100001] 0 (by decide)
      have b1 := dVal_nn cc [1000000000001, 1000001, 73049, 400, 10, 4, 100001] 1 (by decide)
      have b2 := dVal_nn cc [1000000000001, 1000001, 73049, 400, 10, 4, 100001] 2 (by decide)
      have b3 := dVal_nn cc [1000000000001, 1000001, 73049, 400, 10, 4, 100001] 3 (by decide)
      have b4 := dVal_nn cc [1000000000001, 1000001, 73049, 400, 10, 4, 100001] 4 (by decide)
      have b5 := dVal_nn cc [1000000000001, 1000001, 73049, 400, 10, 4, 100001] 5 (by decide)
      have b6 := dVal_nn cc [1000000000001, 1000001, 73049, 400, 10, 4, 100001] 6 (by decide)
      generalize dVal cc [1000000000001, 1000001, 73049, 400, 10, 4, 100001] 0 = a0 at *
      generalize dVal cc [1000000000001, 1000001, 73049, 400, 10, 4, 100001] 1 = a1 at *
      generalize dVal cc [1000000000001, 1000001, 73049, 400, 10, 4, 100001] 2 = a2 at *
      generalize dVal cc [1000000000001, 1000001, 73049, 400, 10, 4, 100001] 3 = a3 at *
      generalize dVal cc [1000000000001, 1000001, 73049, 400, 10, 4, 100001] 4 = a4 at *
      generalize dVal cc [1000000000001, 1000001, 73049, 400, 10, 4, 100001] 5 = a5 at *
      generalize dVal cc [1000000000001, 1000001, 73049, 400, 10, 4, 100001] 6 = a6 at *
      replace b0 : 0 ≤ a0 ∧ a0 < 1000000000001 := b0
      replace b1 : 0 ≤ a1 ∧ a1 < 1000001 := b1
      replace b2 : 0 ≤ a2 ∧ a2 < 73049 := b2
      replace b3 : 0 ≤ a3 ∧ a3 < 400 := b3
      replace b4 : 0 ≤ a4 ∧ a4 < 10 := b4
      replace b5 : 0 ≤ a5 ∧ a5 < 4 := b5
      replace b6 : 0 ≤ a6 ∧ a6 < 100001 := b6
      have s45 : Same H4 H5 := (same_new (Same.refl H4) (by assumption)).trans s5
      have s5' := s4.trans s45
      have Lr5 : SqL K H5 r [.int a0, .int a1, .int a2, .int a3, .int a4, .int a5, .int a6] := l_of er
      have M5 := M4.same s45
      obtain ⟨sec, hsec⟩ : ∃ sec : Int, sec = (if a2 + a3 < 73048 then a2 + a3 else 73048) := ⟨_, rfl⟩
      have hsb : 0 ≤ sec ∧ sec ≤ 73048 ∧ a2 ≤ sec := by rw [hsec]; split <;> omega
      walk_at "rd"
      refine ⟨fun σ' H' => Wall (∃ k : Int, σ' = [some (.ref l0), some (.ref p0), some (.str z), some (.ref c), some (.int (1000000 * m)), some (.int n), some (.int (0 + (i : Int))), some (.ref r), some (.int a2), some (.int sec), some (.int k), v11, v12, v13, v14, v15] ∧ H5 = H' ∧ 0 ≤ k ∧ k ≤ 1000000000000), ?_, ?_⟩
      · walk_at "rd"
        refine iteD (fun _ => ?_) (fun _ => ?_)
        · walk_at "rd"
          exact wall ⟨a6, by rw [hsec]; rfl, rfl, by omega, by omega⟩
        · exact wall ⟨a0, by rw [hsec]; rfl, rfl, by omega, by omega⟩
      rintro _ _ ⟨w⟩
      obtain ⟨k, rfl, rfl, k0, k1⟩ := w trivial
      obtain ⟨dx5, hi5⟩ := M5.ins
      walk_at "rd"
      refine Meter_copy_of_go T M5 hzn fun c2 H6 s6 nc2 W6 => ?_
      have M6 := M5.same s6
      obtain ⟨dx6, hi6⟩ := M6.ins
      have c2c : c2 ≠ c := fun y => by rw [y, hi5] at nc2; cases nc2
      have Lr6 := same_lst s6 Lr5
      have s6' := s5'.trans s6
      walk_at "rd"
      refine Meter_run_go T M6 hm hsn (fun y => by omega) (fun _ y => by omega) (fun _ _ y => by omega) (fun _ _ _ y => by omega) fun _ _ _ p7 H7 s7 M7 => ?_
      have s7' := same_frame s6' s7 ncH
      have W7 := W6.frame s7 hi6 c2c
      have Lr7 : SqL K H7 r [.int a0, .int a1, .int a2, .int a3, .int a4, .int a5, .int a6] := l_of (s7 _ _ (ne_of (s6 _ _ er) hi6 (by intro z; cases z)) (s6 _ _ er))
      have pbx := posD_bd z (d := a2) b2.1 (by omega)
      have pby := posD_bd z (d := sec) hsb.1 hsb.2.1
      have skr : Sz 60 (k * a1) := (Sz.mk (n := 40) (by omega) : Sz 40 k).mul (Sz.mk (n := 20) (by omega) : Sz 20 a1)
      have sw : Sz 25 (posD z sec - posD z a2) := ⟨by omega⟩
      have cm1 : CM k a1 := CM.of (Sz.mk (n := 40) (by omega) : Sz 40 k) (Sz.mk (n := 20) (by omega) : Sz 20 a1)
      have cm2 : CM (k * a1) (posD z sec - posD z a2) := CM.of skr sw
      have hPl := (skr.mul sw).lt
      rw [show (2 : Nat) ^ (60 + 25) = 38685626227668133590597632 by decide] at hPl
      have sz2 := big_sz (T := n + k * a1 * (posD z sec - posD z a2)) (i + 1) (by omega) (by omega)
      have hbd2 : -(((i + 1 : Nat) : Int) * 38685626227668133590597632) ≤ n + k * a1 * (posD z sec - posD z a2) ∧ n + k * a1 * (posD z sec - posD z a2) ≤ ((i + 1 : Nat) : Int) * 38685626227668133590597632 := by omega
      walk_at "rd"
      intro H8 s8
      walk_at "rd"
      intro H9 s9
      have s79 := s8.trans s9
      have M9 := M7.same s79
      have W9 := W7.same s79
      have Lr9 := same_lst s79 Lr7
      have s9' := s7'.trans s79
      walk_at "rd"
      refine _law_exact_go T M9 hbb (sbb.mono (by decide)) fun H10 s10 => ?_
      have M10 := M9.same s10
      have W10 := W9.same s10
      walk_at "rd"
      refine _law_exact_go T W10 hbb (sbb.mono (by decide)) fun H11 s11 => ?_
      have M11 := M10.same s11
      have s911 := s10.trans s11
      have s11' := s9'.trans s911
      have Lr11 := same_lst s911 Lr9
      walk_at "rd"
      refine ⟨fun σ' H' => Wall (∃ (p : Addr) (n' : Int) (v13 v14 v15 : Option V), σ' = [some (.ref l0), some (.ref p0), some (.str z), some (.ref c), some (.int (1000000 * m)), some (.int n'), some (.int (0 + (i : Int))), some (.ref r), some (.int a2), some (.int sec), some (.int k), some (.ref c2), some (.int n), v13, v14, v15] ∧ Same H H' ∧ SqL K H' r [.int a0, .int a1, .int a2, .int a3, .int a4, .int a5, .int a6] ∧ MeterAt K T.c_Meter H' c z p (low n' (1000000 * m)).1 (low n' (1000000 * m)).2 ∧ -(((i + 1 : Nat) : Int) * 38685626227668133590597632) ≤ n' ∧ n' ≤ ((i + 1 : Nat) : Int) * 38685626227668133590597632), ?_, ?_⟩
      · walk_at "rd"
        refine iteI (fun _ => ?_) (fun _ => ?_)
        · obtain ⟨w, hw, hwm, hwc⟩ := mode_at a5 b5.1 b5.2
          unfold modes at hw
          walk_at "rd"
          rename_i q4 nq4
          have s12 := same_new (o := .lst [.str "down", .str "up", .str "near", .str "even"]) (Same.refl H11) nq4
          generalize upd H11 q4 (.lst [.str "down", .str "up", .str "near", .str "even"]) = H12 at *
          have M12 := M11.same s12
          have Lr12 := same_lst s12 Lr11
          obtain ⟨dx12, hi12⟩ := M12.ins
          have s12' := s11'.trans s12
          walk_at "rd"
          refine Meter_post_go T M12 (by omega) sz2 (sbb.mono (by decide)) (fun y => by rw [hwm] at y; cases y) fun _ p13 H13 s13 M13 => ?_
          rw [rnd_low (n + k * a1 * (posD z sec - posD z a2)) w (by omega)] at M13
          rw [rnd_low (n + k * a1 * (posD z sec - posD z a2)) w (by omega)]
          have s13' := same_frame s12' s13 ncH
          have Lr13 : SqL K H13 r [.int a0, .int a1, .int a2, .int a3, .int a4, .int a5, .int a6] := by
            rcases Lr12 with (h | ⟨u, h⟩) | h
            · exact .inl (.inl (s13 _ _ (ne_of h hi12 (by intro z; cases z)) h))
            · exact .inl (.inr ⟨u, s13 _ _ (ne_of h hi12 (by intro z; cases z)) h⟩)
            · exact .inr h
          have hsr : Sz 111 (rnd (n + k * a1 * (posD z sec - posD z a2)) (1000000 * m) w) := rnd_sz sz2 (by omega)
          have cm3 : CM (rnd (n + k * a1 * (posD z sec - posD z a2)) (1000000 * m) w) (1000000 * m) := CM.of hsr sbb
          have hles := rnd_less (n + k * a1 * (posD z sec - posD z a2)) w (b := 1000000 * m) (by omega)
          walk_at "rd"
          refine _law_rounded_go (by omega) (sz2.mono (by decide)) (sbb.mono (by decide)) hwc fun H14 s14 => ?_
          have M14 := M13.same s14
          walk_at "rd"
          refine iteIN (fun y => (y rfl).elim) (fun _ => ?_)
          walk_at "rd"
          refine _law_exact_go T M14 hbb (sbb.mono (by decide)) fun H15 s15 => ?_
          have M15 := M14.same s15
          walk_at "rd"
          refine iteD (fun y => by omega) (fun _ => ?_)
          walk_at "rd"
          refine iteD (fun y => by omega) (fun _ => ?_)
          walk_at "rd"
          refine wall ⟨p13, _, _, _, _, rfl, s13'.trans (s14.trans s15), same_lst (s14.trans s15) Lr13, M15, by omega, by omega⟩
        · exact wall ⟨_, (n + k * a1 * (posD z sec - posD z a2)), _, _, _, rfl, s11', Lr11, M11, hbd2.1, hbd2.2⟩
      rintro _ H16 ⟨w⟩
      obtain ⟨p16, n16, u13, u14, u15, rfl, s16, Lr16, M16, bl, bu⟩ := w trivial
      obtain ⟨dx16, hi16⟩ := M16.ins
      walk_at "rd"
      refine ⟨fun σ' H' => Wall (∃ (p : Addr) (n' : Int) (v13 v14 v15 : Option V), σ' = [some (.ref l0), some (.ref p0), some (.str z), some (.ref c), some (.int (1000000 * m)), some (.int n'), some (.int (0 + (i : Int))), some (.ref r), some (.int a2), some (.int sec), some (.int k), some (.ref c2), some (.int n), v13, v14, v15] ∧ Same H H' ∧ SqL K H' r [.int a0, .int a1, .int a2, .int a3, .int a4, .int a5, .int a6] ∧ MeterAt K T.c_Meter H' c z p (low n' (1000000 * m)).1 (low n' (1000000 * m)).2 ∧ -(((i + 1 : Nat) : Int) * 38685626227668133590597632) ≤ n' ∧ n' ≤ ((i + 1 : Nat) : Int) * 38685626227668133590597632), ?_, ?_⟩
      · walk_at "rd"
        refine iteI (fun _ => ?_) (fun _ => ?_)
        · walk_at "rd"
          refine Meter_reset_go T M16 fun p17 H17 s17 M17 => ?_
          have s17' := same_frame s16 s17 ncH
          have Lr17 : SqL K H17 r [.int a0, .int a1, .int a2, .int a3, .int a4, .int a5, .int a6] := by
            rcases Lr16 with (h | ⟨u, h⟩) | h
            · exact .inl (.inl (s17 _ _ (ne_of h hi16 (by intro z; cases z)) h))
            · exact .inl (.inr ⟨u, s17 _ _ (ne_of h hi16 (by intro z; cases z)) h⟩)
            · exact .inr h
          walk_at "rd"
          refine _law_exact_go T (t := 0) (b := 1) (z := z) (p := p17) (by rw [low_zero (by decide)]; exact M17) (by decide) ⟨by decide⟩ fun H18 s18 => ?_
          walk_at "rd"
          refine wall ⟨p17, 0, _, _, _, rfl, s17'.trans s18, same_lst s18 Lr17, by rw [low_zero hbb]; exact M17.same s18, by omega, by omega⟩
        · exact wall ⟨p16, n16, _, _, _, rfl, s16, Lr16, M16, bl, bu⟩
      rintro _ H19 ⟨w⟩
      obtain ⟨p19, n19, t13, t14, t15, rfl, s19, _, M19, bl, bu⟩ := w trivial
      exact ⟨p19, n19, _, _, _, _, _, _, _, _, _, _, rfl, s19, M19, bl, bu⟩
    · rintro σ H4 ⟨p, n, v6, v7, v8, v9, v10, v11, v12, v13, v14, v15, rfl, s4, M4, n0, n1⟩
      walk_at "rd"
      refine _law_exact_go T M4 hbb (sbb.mono (by decide)) fun H5 s5 => ?_
      exact q _

end
theorem all_mk {w : World} {K : PySem.W.Frag} {h : Heap} {mg : Str → Option Value} {fa : Addr} (X : K.In h) (G : h.Ns mainGlobals mg) (hfa : mg "law" = some (.ref fa))
    {f_check_rate : Addr} {oc_check_rate kV_check_rate dc_check_rate pm_check_rate cd_check_rate ct_check_rate : Value} {od_check_rate an_check_rate : Option Addr} {sl_check_rate : Array (Option Value)}
    {f_check_day : Addr} {oc_check_day kV_check_day dc_check_day pm_check_day cd_check_day ct_check_day : Value} {od_check_day an_check_day : Option Addr} {sl_check_day : Array (Option Value)}
    {f_is_leap : Addr} {oc_is_leap kV_is_leap dc_is_leap pm_is_leap cd_is_leap ct_is_leap : Value} {od_is_leap an_is_leap : Option Addr} {sl_is_leap : Array (Option Value)}
    {f_month_length : Addr} {oc_month_length kV_month_length dc_month_length pm_month_length cd_month_length ct_month_length : Value} {od_month_length an_month_length : Option Addr} {sl_month_length : Array (Option Value)}
    {f_year_start : Addr} {oc_year_start kV_year_start dc_year_start pm_year_start cd_year_start ct_year_start : Value} {od_year_start an_year_start : Option Addr} {sl_year_start : Array (Option Value)}
    {f_date_of : Addr} {oc_date_of kV_date_of dc_date_of pm_date_of cd_date_of ct_date_of : Value} {od_date_of an_date_of : Option Addr} {sl_date_of : Array (Option Value)}
    {f_check_convention : Addr} {oc_check_convention kV_check_convention dc_check_convention pm_check_convention cd_check_convention ct_check_convention : Value} {od_check_convention an_check_convention : Option Addr} {sl_check_convention : Array (Option Value)}
    {f_parts_per_year : Addr} {oc_parts_per_year kV_parts_per_year dc_parts_per_year pm_parts_per_year cd_parts_per_year ct_parts_per_year : Value} {od_parts_per_year an_parts_per_year : Option Addr} {sl_parts_per_year : Array (Option Value)}
    {f_position : Addr} {oc_position kV_position dc_position pm_position cd_position ct_position : Value} {od_position an_position : Option Addr} {sl_position : Array (Option Value)}
    {f_weight : Addr} {oc_weight kV_weight dc_weight pm_weight cd_weight ct_weight : Value} {od_weight an_weight : Option Addr} {sl_weight : Array (Option Value)}
    {f_ratio : Addr} {oc_ratio kV_ratio dc_ratio pm_ratio cd_ratio ct_ratio : Value} {od_ratio an_ratio : Option Addr} {sl_ratio : Array (Option Value)}
    {t_ratio : Addr} {odt_ratio : Option Addr} {its_ratio : Array Value} {nt_ratio : Nat} {slt_ratio : Array (Option Value)}
    {f_add : Addr} {oc_add kV_add dc_add pm_add cd_add ct_add : Value} {od_add an_add : Option Addr} {sl_add : Array (Option Value)}
    {f_subtract : Addr} {oc_subtract kV_subtract dc_subtract pm_subtract cd_subtract ct_subtract : Value} {od_subtract an_subtract : Option Addr} {sl_subtract : Array (Option Value)}
    {f_check_amount : Addr} {oc_check_amount kV_check_amount dc_check_amount pm_check_amount cd_check_amount ct_check_amount : Value} {od_check_amount an_check_amount : Option Addr} {sl_check_amount : Array (Option Value)}
    {f_round_ratio : Addr} {oc_round_ratio kV_round_ratio dc_round_ratio pm_round_ratio cd_round_ratio ct_round_ratio : Value} {od_round_ratio an_round_ratio : Option Addr} {sl_round_ratio : Array (Option Value)}
    {t_round_ratio : Addr} {odt_round_ratio : Option Addr} {its_round_ratio : Array Value} {nt_round_ratio : Nat} {slt_round_ratio : Array (Option Value)}
    {f_Meter___init__ : Addr} {oc_Meter___init__ kV_Meter___init__ dc_Meter___init__ pm_Meter___init__ cd_Meter___init__ ct_Meter___init__ : Value} {od_Meter___init__ an_Meter___init__ : Option Addr} {sl_Meter___init__ : Array (Option Value)}
    {f_Meter_run : Addr} {oc_Meter_run kV_Meter_run dc_Meter_run pm_Meter_run cd_Meter_run ct_Meter_run : Value} {od_Meter_run an_Meter_run : Option Addr} {sl_Meter_run : Array (Option Value)}
    {f_Meter_accrue : Addr} {oc_Meter_accrue kV_Meter_accrue dc_Meter_accrue pm_Meter_accrue cd_Meter_accrue ct_Meter_accrue : Value} {od_Meter_accrue an_Meter_accrue : Option Addr} {sl_Meter_accrue : Array (Option Value)}
    {f_Meter_exact : Addr} {oc_Meter_exact kV_Meter_exact dc_Meter_exact pm_Meter_exact cd_Meter_exact ct_Meter_exact : Value} {od_Meter_exact an_Meter_exact : Option Addr} {sl_Meter_exact : Array (Option Value)}
    {f_Meter_rounded : Addr} {oc_Meter_rounded kV_Meter_rounded dc_Meter_rounded pm_Meter_rounded cd_Meter_rounded ct_Meter_rounded : Value} {od_Meter_rounded an_Meter_rounded : Option Addr} {sl_Meter_rounded : Array (Option Value)}
    {f_Meter_post : Addr} {oc_Meter_post kV_Meter_post dc_Meter_post pm_Meter_post cd_Meter_post ct_Meter_post : Value} {od_Meter_post an_Meter_post : Option Addr} {sl_Meter_post : Array (Option Value)}
    {f_Meter_reset : Addr} {oc_Meter_reset kV_Meter_reset dc_Meter_reset pm_Meter_reset cd_Meter_reset ct_Meter_reset : Value} {od_Meter_reset an_Meter_reset : Option Addr} {sl_Meter_reset : Array (Option Value)}
    {f_Meter_copy_of : Addr} {oc_Meter_copy_of kV_Meter_copy_of dc_Meter_copy_of pm_Meter_copy_of cd_Meter_copy_of ct_Meter_copy_of : Value} {od_Meter_copy_of an_Meter_copy_of : Option Addr} {sl_Meter_copy_of : Array (Option Value)}
    {f_Meter_restore : Addr} {oc_Meter_restore kV_Meter_restore dc_Meter_restore pm_Meter_restore cd_Meter_restore ct_Meter_restore : Value} {od_Meter_restore an_Meter_restore : Option Addr} {sl_Meter_restore : Array (Option Value)}
    {f__law_cell : Addr} {oc__law_cell kV__law_cell dc__law_cell pm__law_cell cd__law_cell ct__law_cell : Value} {od__law_cell an__law_cell : Option Addr} {sl__law_cell : Array (Option Value)}
    {f__law_draw : Addr} {oc__law_draw kV__law_draw dc__law_draw pm__law_draw cd__law_draw ct__law_draw : Value} {od__law_draw an__law_draw : Option Addr} {sl__law_draw : Array (Option Value)}
    {f__law_whole : Addr} {oc__law_whole kV__law_whole dc__law_whole pm__law_whole cd__law_whole ct__law_whole : Value} {od__law_whole an__law_whole : Option Addr} {sl__law_whole : Array (Option Value)}
    {f__law_gcd : Addr} {oc__law_gcd kV__law_gcd dc__law_gcd pm__law_gcd cd__law_gcd ct__law_gcd : Value} {od__law_gcd an__law_gcd : Option Addr} {sl__law_gcd : Array (Option Value)}
    {f__law_lowest : Addr} {oc__law_lowest kV__law_lowest dc__law_lowest pm__law_lowest cd__law_lowest ct__law_lowest : Value} {od__law_lowest an__law_lowest : Option Addr} {sl__law_lowest : Array (Option Value)}
    {f__law_leap : Addr} {oc__law_leap kV__law_leap dc__law_leap pm__law_leap cd__law_leap ct__law_leap : Value} {od__law_leap an__law_leap : Option Addr} {sl__law_leap : Array (Option Value)}
    {f__law_length : Addr} {oc__law_length kV__law_length dc__law_length pm__law_length cd__law_length ct__law_length : Value} {od__law_length an__law_length : Option Addr} {sl__law_length : Array (Option Value)}
    {f__law_date : Addr} {oc__law_date kV__law_date dc__law_date pm__law_date cd__law_date ct__law_date : Value} {od__law_date an__law_date : Option Addr} {sl__law_date : Array (Option Value)}
    {f__law_fast : Addr} {oc__law_fast kV__law_fast dc__law_fast pm__law_fast cd__law_fast ct__law_fast : Value} {od__law_fast an__law_fast : Option Addr} {sl__law_fast : Array (Option Value)}
    {f__law_position : Addr} {oc__law_position kV__law_position dc__law_position pm__law_position cd__law_position ct__law_position : Value} {od__law_position an__law_position : Option Addr} {sl__law_position : Array (Option Value)}
    {f__law_parts : Addr} {oc__law_parts kV__law_parts dc__law_parts pm__law_parts cd__law_parts ct__law_parts : Value} {od__law_parts an__law_parts : Option Addr} {sl__law_parts : Array (Option Value)}
    {f__law_rounded : Addr} {oc__law_rounded kV__law_rounded dc__law_rounded pm__law_rounded cd__law_rounded ct__law_rounded : Value} {od__law_rounded an__law_rounded : Option Addr} {sl__law_rounded : Array (Option Value)}
    {f__law_exact : Addr} {oc__law_exact kV__law_exact dc__law_exact pm__law_exact cd__law_exact ct__law_exact : Value} {od__law_exact an__law_exact : Option Addr} {sl__law_exact : Array (Option Value)}
    {f_law : Addr} {oc_law kV_law dc_law pm_law cd_law ct_law : Value} {od_law an_law : Option Addr} {sl_law : Array (Option Value)}
    {c_Meter : Addr}
    {c_BookError : Addr}
    {c_OutOfRange : Addr}
    {fI_OutOfRange cc_OutOfRange cda_OutOfRange N_OutOfRange : Addr} {oc_OutOfRange doc_OutOfRange pm_OutOfRange ct_OutOfRange cl_OutOfRange ccl_OutOfRange : Value} {od_OutOfRange dd_OutOfRange cld_OutOfRange cdd_OutOfRange : Option Addr} {osl_OutOfRange csl_OutOfRange ccs_OutOfRange : Array (Option Value)} {nm_OutOfRange q_OutOfRange file_OutOfRange : Str} {bs_OutOfRange sub_OutOfRange : List Value} {sn_OutOfRange : List Str} {ab_OutOfRange : Bool} {col_OutOfRange : Option Bool} {m0_OutOfRange m1_OutOfRange m2_OutOfRange m3_OutOfRange m5_OutOfRange : Option Value} {vs_OutOfRange : Array Value} {tf_OutOfRange : Tok}
    {c_UnknownName : Addr}
    {fI_UnknownName cc_UnknownName cda_UnknownName N_UnknownName : Addr} {oc_UnknownName doc_UnknownName pm_UnknownName ct_UnknownName cl_UnknownName ccl_UnknownName : Value} {od_UnknownName dd_UnknownName cld_UnknownName cdd_UnknownName : Option Addr} {osl_UnknownName csl_UnknownName ccs_UnknownName : Array (Option Value)} {nm_UnknownName q_UnknownName file_UnknownName : Str} {bs_UnknownName sub_UnknownName : List Value} {sn_UnknownName : List Str} {ab_UnknownName : Bool} {col_UnknownName : Option Bool} {m0_UnknownName m1_UnknownName m2_UnknownName m3_UnknownName m5_UnknownName : Option Value} {vs_UnknownName : Array Value} {tf_UnknownName : Tok}
    {c_WrongDay : Addr}
    {fI_WrongDay cc_WrongDay cda_WrongDay N_WrongDay : Addr} {oc_WrongDay doc_WrongDay pm_WrongDay ct_WrongDay cl_WrongDay ccl_WrongDay : Value} {od_WrongDay dd_WrongDay cld_WrongDay cdd_WrongDay : Option Addr} {osl_WrongDay csl_WrongDay ccs_WrongDay : Array (Option Value)} {nm_WrongDay q_WrongDay file_WrongDay : Str} {bs_WrongDay sub_WrongDay : List Value} {sn_WrongDay : List Str} {ab_WrongDay : Bool} {col_WrongDay : Option Bool} {m0_WrongDay m1_WrongDay m2_WrongDay m3_WrongDay m5_WrongDay : Option Value} {vs_WrongDay : Array Value} {tf_WrongDay : Tok}
    {tk_MOST_CENTS : Tok}
    {tk_MOST_RATE : Tok}
    {tk_LAST_DAY : Tok}
    {tk_FIRST_YEAR : Tok}
    {q_PARTS : Addr} {es_PARTS : Array DictEntry} {nn_PARTS : Nat}
    {q_MODES : Addr} {od_MODES : Option Addr} {nn_MODES : Nat} {sl_MODES : Array (Option Value)}
    {its_MODES : Array Value}
    {tk_MILLION : Tok}
    (a_check_rate : PySem.W.nsIn K mainGlobals "check_rate" = some (some (.ref f_check_rate)))
    (l_check_rate : K.lookup f_check_rate = some ⟨oc_check_rate, od_check_rate, .func (PySem.W.fnOf "check_rate" "check_rate" (defArgs s_check_rate) (defBody s_check_rate) (defScope s_check_rate) .none kV_check_rate dc_check_rate pm_check_rate an_check_rate cd_check_rate ct_check_rate), sl_check_rate⟩)
    (c_check_rate : PySem.W.codeIn K cd_check_rate "check_rate" = true)
    (k_check_rate : PySem.W.keepIn K (.ref f_check_rate) = true)
    (a_check_day : PySem.W.nsIn K mainGlobals "check_day" = some (some (.ref f_check_day)))
    (l_check_day : K.lookup f_check_day = some ⟨oc_check_day, od_check_day, .func (PySem.W.fnOf "check_day" "check_day" (defArgs s_check_day) (defBody s_check_day) (defScope s_check_day) .none kV_check_day dc_check_day pm_check_day an_check_day cd_check_day ct_check_day), sl_check_day⟩)
    (c_check_day : PySem.W.codeIn K cd_check_day "check_day" = true)
    (k_check_day : PySem.W.keepIn K (.ref f_check_day) = true)
    (a_is_leap : PySem.W.nsIn K mainGlobals "is_leap" = some (some (.ref f_is_leap)))
    (l_is_leap : K.lookup f_is_leap = some ⟨oc_is_leap, od_is_leap, .func (PySem.W.fnOf "is_leap" "is_leap" (defArgs s_is_leap) (defBody s_is_leap) (defScope s_is_leap) .none kV_is_leap dc_is_leap pm_is_leap an_is_leap cd_is_leap ct_is_leap), sl_is_leap⟩)
    (c_is_leap : PySem.W.codeIn K cd_is_leap "is_leap" = true)
    (k_is_leap : PySem.W.keepIn K (.ref f_is_leap) = true)
    (a_month_length : PySem.W.nsIn K mainGlobals "month_length" = some (some (.ref f_month_length)))
    (l_month_length : K.lookup f_month_length = some ⟨oc_month_length, od_month_length, .func (PySem.W.fnOf "month_length" "month_length" (defArgs s_month_length) (defBody s_month_length) (defScope s_month_length) .none kV_month_length dc_month_length pm_month_length an_month_length cd_month_length ct_month_length), sl_month_length⟩)
    (c_month_length : PySem.W.codeIn K cd_month_length "month_length" = true)
    (k_month_length : PySem.W.keepIn K (.ref f_month_length) = true)
    (a_year_start : PySem.W.nsIn K mainGlobals "year_start" = some (some (.ref f_year_start)))
    (l_year_start : K.lookup f_year_start = some ⟨oc_year_start, od_year_start, .func (PySem.W.fnOf "year_start" "year_start" (defArgs s_year_start) (defBody s_year_start) (defScope s_year_start) .none kV_year_start dc_year_start pm_year_start an_year_start cd_year_start ct_year_start), sl_year_start⟩)
    (c_year_start : PySem.W.codeIn K cd_year_start "year_start" = true)
    (k_year_start : PySem.W.keepIn K (.ref f_year_start) = true)
    (a_date_of : PySem.W.nsIn K mainGlobals "date_of" = some (some (.ref f_date_of)))
    (l_date_of : K.lookup f_date_of = some ⟨oc_date_of, od_date_of, .func (PySem.W.fnOf "date_of" "date_of" (defArgs s_date_of) (defBody s_date_of) (defScope s_date_of) .none kV_date_of dc_date_of pm_date_of an_date_of cd_date_of ct_date_of), sl_date_of⟩)
    (c_date_of : PySem.W.codeIn K cd_date_of "date_of" = true)
    (k_date_of : PySem.W.keepIn K (.ref f_date_of) = true)
    (a_check_convention : PySem.W.nsIn K mainGlobals "check_convention" = some (some (.ref f_check_convention)))
    (l_check_convention : K.lookup f_check_convention = some ⟨oc_check_convention, od_check_convention, .func (PySem.W.fnOf "check_convention" "check_convention" (defArgs s_check_convention) (defBody s_check_convention) (defScope s_check_convention) .none kV_check_convention dc_check_convention pm_check_convention an_check_convention cd_check_convention ct_check_convention), sl_check_convention⟩)
    (c_check_convention : PySem.W.codeIn K cd_check_convention "check_convention" = true)
    (k_check_convention : PySem.W.keepIn K (.ref f_check_convention) = true)
    (a_parts_per_year : PySem.W.nsIn K mainGlobals "parts_per_year" = some (some (.ref f_parts_per_year)))
    (l_parts_per_year : K.lookup f_parts_per_year = some ⟨oc_parts_per_year, od_parts_per_year, .func (PySem.W.fnOf "parts_per_year" "parts_per_year" (defArgs s_parts_per_year) (defBody s_parts_per_year) (defScope s_parts_per_year) .none kV_parts_per_year dc_parts_per_year pm_parts_per_year an_parts_per_year cd_parts_per_year ct_parts_per_year), sl_parts_per_year⟩)
    (c_parts_per_year : PySem.W.codeIn K cd_parts_per_year "parts_per_year" = true)
    (k_parts_per_year : PySem.W.keepIn K (.ref f_parts_per_year) = true)
    (a_position : PySem.W.nsIn K mainGlobals "position" = some (some (.ref f_position)))
    (l_position : K.lookup f_position = some ⟨oc_position, od_position, .func (PySem.W.fnOf "position" "position" (defArgs s_position) (defBody s_position) (defScope s_position) .none kV_position dc_position pm_position an_position cd_position ct_position), sl_position⟩)
    (c_position : PySem.W.codeIn K cd_position "position" = true)
    (k_position : PySem.W.keepIn K (.ref f_position) = true)
    (a_weight : PySem.W.nsIn K mainGlobals "weight" = some (some (.ref f_weight)))
    (l_weight : K.lookup f_weight = some ⟨oc_weight, od_weight, .func (PySem.W.fnOf "weight" "weight" (defArgs s_weight) (defBody s_weight) (defScope s_weight) .none kV_weight dc_weight pm_weight an_weight cd_weight ct_weight), sl_weight⟩)
    (c_weight : PySem.W.codeIn K cd_weight "weight" = true)
    (k_weight : PySem.W.keepIn K (.ref f_weight) = true)
    (a_ratio : PySem.W.nsIn K mainGlobals "ratio" = some (some (.ref f_ratio)))
    (l_ratio : K.lookup f_ratio = some ⟨oc_ratio, od_ratio, .func (PySem.W.fnOf "ratio" "ratio" (defArgs s_ratio) (defBody s_ratio) (defScope s_ratio) (.ref t_ratio) kV_ratio dc_ratio pm_ratio an_ratio cd_ratio ct_ratio), sl_ratio⟩)
    (c_ratio : PySem.W.codeIn K cd_ratio "ratio" = true)
    (k_ratio : PySem.W.keepIn K (.ref f_ratio) = true)
    (lt_ratio : K.lookup t_ratio = some ⟨.type "tuple", odt_ratio, .seq its_ratio nt_ratio, slt_ratio⟩)
    (u_ratio : valsB [.int 1] its_ratio.toList = true)
    (a_add : PySem.W.nsIn K mainGlobals "add" = some (some (.ref f_add)))
    (l_add : K.lookup f_add = some ⟨oc_add, od_add, .func (PySem.W.fnOf "add" "add" (defArgs s_add) (defBody s_add) (defScope s_add) .none kV_add dc_add pm_add an_add cd_add ct_add), sl_add⟩)
    (c_add : PySem.W.codeIn K cd_add "add" = true)
    (k_add : PySem.W.keepIn K (.ref f_add) = true)
    (a_subtract : PySem.W.nsIn K mainGlobals "subtract" = some (some (.ref f_subtract)))
    (l_subtract : K.lookup f_subtract = some ⟨oc_subtract, od_subtract, .func (PySem.W.fnOf "subtract" "subtract" (defArgs s_subtract) (defBody s_subtract) (defScope s_subtract) .none kV_subtract dc_subtract pm_subtract an_subtract cd_subtract ct_subtract), sl_subtract⟩)
    (c_subtract : PySem.W.codeIn K cd_subtract "subtract" = true)
    (k_subtract : PySem.W.keepIn K (.ref f_subtract) = true)
    (a_check_amount : PySem.W.nsIn K mainGlobals "check_amount" = some (some (.ref f_check_amount)))
    (l_check_amount : K.lookup f_check_amount = some ⟨oc_check_amount, od_check_amount, .func (PySem.W.fnOf "check_amount" "check_amount" (defArgs s_check_amount) (defBody s_check_amount) (defScope s_check_amount) .none kV_check_amount dc_check_amount pm_check_amount an_check_amount cd_check_amount ct_check_amount), sl_check_amount⟩)
    (c_check_amount : PySem.W.codeIn K cd_check_amount "check_amount" = true)
    (k_check_amount : PySem.W.keepIn K (.ref f_check_amount) = true)
    (a_round_ratio : PySem.W.nsIn K mainGlobals "round_ratio" = some (some (.ref f_round_ratio)))
    (l_round_ratio : K.lookup f_round_ratio = some ⟨oc_round_ratio, od_round_ratio, .func (PySem.W.fnOf "round_ratio" "round_ratio" (defArgs s_round_ratio) (defBody s_round_ratio) (defScope s_round_ratio) (.ref t_round_ratio) kV_round_ratio dc_round_ratio pm_round_ratio an_round_ratio cd_round_ratio ct_round_ratio), sl_round_ratio⟩)
    (c_round_ratio : PySem.W.codeIn K cd_round_ratio "round_ratio" = true)
    (k_round_ratio : PySem.W.keepIn K (.ref f_round_ratio) = true)
    (lt_round_ratio : K.lookup t_round_ratio = some ⟨.type "tuple", odt_round_ratio, .seq its_round_ratio nt_round_ratio, slt_round_ratio⟩)
    (u_round_ratio : valsB [.str "near"] its_round_ratio.toList = true)
    (a_Meter___init__ : PySem.W.findIn K (.ref c_Meter) "__init__" = some (some (.ref f_Meter___init__)))
    (l_Meter___init__ : K.lookup f_Meter___init__ = some ⟨oc_Meter___init__, od_Meter___init__, .func (PySem.W.fnOf "__init__" "Meter.__init__" (defArgs s_Meter___init__) (defBody s_Meter___init__) (defScope s_Meter___init__) .none kV_Meter___init__ dc_Meter___init__ pm_Meter___init__ an_Meter___init__ cd_Meter___init__ ct_Meter___init__), sl_Meter___init__⟩)
    (c_Meter___init__ : PySem.W.codeIn K cd_Meter___init__ "Meter.__init__" = true)
    (k_Meter___init__ : PySem.W.keepIn K (.ref f_Meter___init__) = true)
    (i_Meter___init__ : PySem.W.isFn K (.ref f_Meter___init__) = true)
    (a_Meter_run : PySem.W.findIn K (.ref c_Meter) "run" = some (some (.ref f_Meter_run)))
    (l_Meter_run : K.lookup f_Meter_run = some ⟨oc_Meter_run, od_Meter_run, .func (PySem.W.fnOf "run" "Meter.run" (defArgs s_Meter_run) (defBody s_Meter_run) (defScope s_Meter_run) .none kV_Meter_run dc_Meter_run pm_Meter_run an_Meter_run cd_Meter_run ct_Meter_run), sl_Meter_run⟩)
    (c_Meter_run : PySem.W.codeIn K cd_Meter_run "Meter.run" = true)
    (k_Meter_run : PySem.W.keepIn K (.ref f_Meter_run) = true)
    (i_Meter_run : PySem.W.isFn K (.ref f_Meter_run) = true)
    (a_Meter_accrue : PySem.W.findIn K (.ref c_Meter) "accrue" = some (some (.ref f_Meter_accrue)))
    (l_Meter_accrue : K.lookup f_Meter_accrue = some ⟨oc_Meter_accrue, od_Meter_accrue, .func (PySem.W.fnOf "accrue" "Meter.accrue" (defArgs s_Meter_accrue) (defBody s_Meter_accrue) (defScope s_Meter_accrue) .none kV_Meter_accrue dc_Meter_accrue pm_Meter_accrue an_Meter_accrue cd_Meter_accrue ct_Meter_accrue), sl_Meter_accrue⟩)
    (c_Meter_accrue : PySem.W.codeIn K cd_Meter_accrue "Meter.accrue" = true)
    (k_Meter_accrue : PySem.W.keepIn K (.ref f_Meter_accrue) = true)
    (i_Meter_accrue : PySem.W.isFn K (.ref f_Meter_accrue) = true)
    (a_Meter_exact : PySem.W.findIn K (.ref c_Meter) "exact" = some (some (.ref f_Meter_exact)))
    (l_Meter_exact : K.lookup f_Meter_exact = some ⟨oc_Meter_exact, od_Meter_exact, .func (PySem.W.fnOf "exact" "Meter.exact" (defArgs s_Meter_exact) (defBody s_Meter_exact) (defScope s_Meter_exact) .none kV_Meter_exact dc_Meter_exact pm_Meter_exact an_Meter_exact cd_Meter_exact ct_Meter_exact), sl_Meter_exact⟩)
    (c_Meter_exact : PySem.W.codeIn K cd_Meter_exact "Meter.exact" = true)
    (k_Meter_exact : PySem.W.keepIn K (.ref f_Meter_exact) = true)
    (i_Meter_exact : PySem.W.isFn K (.ref f_Meter_exact) = true)
    (a_Meter_rounded : PySem.W.findIn K (.ref c_Meter) "rounded" = some (some (.ref f_Meter_rounded)))
    (l_Meter_rounded : K.lookup f_Meter_rounded = some ⟨oc_Meter_rounded, od_Meter_rounded, .func (PySem.W.fnOf "rounded" "Meter.rounded" (defArgs s_Meter_rounded) (defBody s_Meter_rounded) (defScope s_Meter_rounded) .none kV_Meter_rounded dc_Meter_rounded pm_Meter_rounded an_Meter_rounded cd_Meter_rounded ct_Meter_rounded), sl_Meter_rounded⟩)
    (c_Meter_rounded : PySem.W.codeIn K cd_Meter_rounded "Meter.rounded" = true)
    (k_Meter_rounded : PySem.W.keepIn K (.ref f_Meter_rounded) = true)
    (i_Meter_rounded : PySem.W.isFn K (.ref f_Meter_rounded) = true)
    (a_Meter_post : PySem.W.findIn K (.ref c_Meter) "post" = some (some (.ref f_Meter_post)))
    (l_Meter_post : K.lookup f_Meter_post = some ⟨oc_Meter_post, od_Meter_post, .func (PySem.W.fnOf "post" "Meter.post" (defArgs s_Meter_post) (defBody s_Meter_post) (defScope s_Meter_post) .none kV_Meter_post dc_Meter_post pm_Meter_post an_Meter_post cd_Meter_post ct_Meter_post), sl_Meter_post⟩)
    (c_Meter_post : PySem.W.codeIn K cd_Meter_post "Meter.post" = true)
    (k_Meter_post : PySem.W.keepIn K (.ref f_Meter_post) = true)
    (i_Meter_post : PySem.W.isFn K (.ref f_Meter_post) = true)
    (a_Meter_reset : PySem.W.findIn K (.ref c_Meter) "reset" = some (some (.ref f_Meter_reset)))
    (l_Meter_reset : K.lookup f_Meter_reset = some ⟨oc_Meter_reset, od_Meter_reset, .func (PySem.W.fnOf "reset" "Meter.reset" (defArgs s_Meter_reset) (defBody s_Meter_reset) (defScope s_Meter_reset) .none kV_Meter_reset dc_Meter_reset pm_Meter_reset an_Meter_reset cd_Meter_reset ct_Meter_reset), sl_Meter_reset⟩)
    (c_Meter_reset : PySem.W.codeIn K cd_Meter_reset "Meter.reset" = true)
    (k_Meter_reset : PySem.W.keepIn K (.ref f_Meter_reset) = true)
    (i_Meter_reset : PySem.W.isFn K (.ref f_Meter_reset) = true)
    (a_Meter_copy_of : PySem.W.findIn K (.ref c_Meter) "copy_of" = some (some (.ref f_Meter_copy_of)))
    (l_Meter_copy_of : K.lookup f_Meter_copy_of = some ⟨oc_Meter_copy_of, od_Meter_copy_of, .func (PySem.W.fnOf "copy_of" "Meter.copy_of" (defArgs s_Meter_copy_of) (defBody s_Meter_copy_of) (defScope s_Meter_copy_of) .none kV_Meter_copy_of dc_Meter_copy_of pm_Meter_copy_of an_Meter_copy_of cd_Meter_copy_of ct_Meter_copy_of), sl_Meter_copy_of⟩)
    (c_Meter_copy_of : PySem.W.codeIn K cd_Meter_copy_of "Meter.copy_of" = true)
    (k_Meter_copy_of : PySem.W.keepIn K (.ref f_Meter_copy_of) = true)
    (i_Meter_copy_of : PySem.W.isFn K (.ref f_Meter_copy_of) = true)
    (a_Meter_restore : PySem.W.findIn K (.ref c_Meter) "restore" = some (some (.ref f_Meter_restore)))
    (l_Meter_restore : K.lookup f_Meter_restore = some ⟨oc_Meter_restore, od_Meter_restore, .func (PySem.W.fnOf "restore" "Meter.restore" (defArgs s_Meter_restore) (defBody s_Meter_restore) (defScope s_Meter_restore) .none kV_Meter_restore dc_Meter_restore pm_Meter_restore an_Meter_restore cd_Meter_restore ct_Meter_restore), sl_Meter_restore⟩)
    (c_Meter_restore : PySem.W.codeIn K cd_Meter_restore "Meter.restore" = true)
    (k_Meter_restore : PySem.W.keepIn K (.ref f_Meter_restore) = true)
    (i_Meter_restore : PySem.W.isFn K (.ref f_Meter_restore) = true)
    (a__law_cell : PySem.W.nsIn K mainGlobals "_law_cell" = some (some (.ref f__law_cell)))
    (l__law_cell : K.lookup f__law_cell = some ⟨oc__law_cell, od__law_cell, .func (PySem.W.fnOf "_law_cell" "_law_cell" (defArgs s__law_cell) (defBody s__law_cell) (defScope s__law_cell) .none kV__law_cell dc__law_cell pm__law_cell an__law_cell cd__law_cell ct__law_cell), sl__law_cell⟩)
    (c__law_cell : PySem.W.codeIn K cd__law_cell "_law_cell" = true)
    (k__law_cell : PySem.W.keepIn K (.ref f__law_cell) = true)
    (a__law_draw : PySem.W.nsIn K mainGlobals "_law_draw" = some (some (.ref f__law_draw)))
    (l__law_draw : K.lookup f__law_draw = some ⟨oc__law_draw, od__law_draw, .func (PySem.W.fnOf "_law_draw" "_law_draw" (defArgs s__law_draw) (defBody s__law_draw) (defScope s__law_draw) .none kV__law_draw dc__law_draw pm__law_draw an__law_draw cd__law_draw ct__law_draw), sl__law_draw⟩)
    (c__law_draw : PySem.W.codeIn K cd__law_draw "_law_draw" = true)
    (k__law_draw : PySem.W.keepIn K (.ref f__law_draw) = true)
    (a__law_whole : PySem.W.nsIn K mainGlobals "_law_whole" = some (some (.ref f__law_whole)))
    (l__law_whole : K.lookup f__law_whole = some ⟨oc__law_whole, od__law_whole, .func (PySem.W.fnOf "_law_whole" "_law_whole" (defArgs s__law_whole) (defBody s__law_whole) (defScope s__law_whole) .none kV__law_whole dc__law_whole pm__law_whole an__law_whole cd__law_whole ct__law_whole), sl__law_whole⟩)
    (c__law_whole : PySem.W.codeIn K cd__law_whole "_law_whole" = true)
    (k__law_whole : PySem.W.keepIn K (.ref f__law_whole) = true)
    (a__law_gcd : PySem.W.nsIn K mainGlobals "_law_gcd" = some (some (.ref f__law_gcd)))
    (l__law_gcd : K.lookup f__law_gcd = some ⟨oc__law_gcd, od__law_gcd, .func (PySem.W.fnOf "_law_gcd" "_law_gcd" (defArgs s__law_gcd) (defBody s__law_gcd) (defScope s__law_gcd) .none kV__law_gcd dc__law_gcd pm__law_gcd an__law_gcd cd__law_gcd ct__law_gcd), sl__law_gcd⟩)
    (c__law_gcd : PySem.W.codeIn K cd__law_gcd "_law_gcd" = true)
    (k__law_gcd : PySem.W.keepIn K (.ref f__law_gcd) = true)
    (a__law_lowest : PySem.W.nsIn K mainGlobals "_law_lowest" = some (some (.ref f__law_lowest)))
    (l__law_lowest : K.lookup f__law_lowest = some ⟨oc__law_lowest, od__law_lowest, .func (PySem.W.fnOf "_law_lowest" "_law_lowest" (defArgs s__law_lowest) (defBody s__law_lowest) (defScope s__law_lowest) .none kV__law_lowest dc__law_lowest pm__law_lowest an__law_lowest cd__law_lowest ct__law_lowest), sl__law_lowest⟩)
    (c__law_lowest : PySem.W.codeIn K cd__law_lowest "_law_lowest" = true)
    (k__law_lowest : PySem.W.keepIn K (.ref f__law_lowest) = true)
    (a__law_leap : PySem.W.nsIn K mainGlobals "_law_leap" = some (some (.ref f__law_leap)))
    (l__law_leap : K.lookup f__law_leap = some ⟨oc__law_leap, od__law_leap, .func (PySem.W.fnOf "_law_leap" "_law_leap" (defArgs s__law_leap) (defBody s__law_leap) (defScope s__law_leap) .none kV__law_leap dc__law_leap pm__law_leap an__law_leap cd__law_leap ct__law_leap), sl__law_leap⟩)
    (c__law_leap : PySem.W.codeIn K cd__law_leap "_law_leap" = true)
    (k__law_leap : PySem.W.keepIn K (.ref f__law_leap) = true)
    (a__law_length : PySem.W.nsIn K mainGlobals "_law_length" = some (some (.ref f__law_length)))
    (l__law_length : K.lookup f__law_length = some ⟨oc__law_length, od__law_length, .func (PySem.W.fnOf "_law_length" "_law_length" (defArgs s__law_length) (defBody s__law_length) (defScope s__law_length) .none kV__law_length dc__law_length pm__law_length an__law_length cd__law_length ct__law_length), sl__law_length⟩)
    (c__law_length : PySem.W.codeIn K cd__law_length "_law_length" = true)
    (k__law_length : PySem.W.keepIn K (.ref f__law_length) = true)
    (a__law_date : PySem.W.nsIn K mainGlobals "_law_date" = some (some (.ref f__law_date)))
    (l__law_date : K.lookup f__law_date = some ⟨oc__law_date, od__law_date, .func (PySem.W.fnOf "_law_date" "_law_date" (defArgs s__law_date) (defBody s__law_date) (defScope s__law_date) .none kV__law_date dc__law_date pm__law_date an__law_date cd__law_date ct__law_date), sl__law_date⟩)
    (c__law_date : PySem.W.codeIn K cd__law_date "_law_date" = true)
    (k__law_date : PySem.W.keepIn K (.ref f__law_date) = true)
    (a__law_fast : PySem.W.nsIn K mainGlobals "_law_fast" = some (some (.ref f__law_fast)))
    (l__law_fast : K.lookup f__law_fast = some ⟨oc__law_fast, od__law_fast, .func (PySem.W.fnOf "_law_fast" "_law_fast" (defArgs s__law_fast) (defBody s__law_fast) (defScope s__law_fast) .none kV__law_fast dc__law_fast pm__law_fast an__law_fast cd__law_fast ct__law_fast), sl__law_fast⟩)
    (c__law_fast : PySem.W.codeIn K cd__law_fast "_law_fast" = true)
    (k__law_fast : PySem.W.keepIn K (.ref f__law_fast) = true)
    (a__law_position : PySem.W.nsIn K mainGlobals "_law_position" = some (some (.ref f__law_position)))
    (l__law_position : K.lookup f__law_position = some ⟨oc__law_position, od__law_position, .func (PySem.W.fnOf "_law_position" "_law_position" (defArgs s__law_position) (defBody s__law_position) (defScope s__law_position) .none kV__law_position dc__law_position pm__law_position an__law_position cd__law_position ct__law_position), sl__law_position⟩)
    (c__law_position : PySem.W.codeIn K cd__law_position "_law_position" = true)
    (k__law_position : PySem.W.keepIn K (.ref f__law_position) = true)
    (a__law_parts : PySem.W.nsIn K mainGlobals "_law_parts" = some (some (.ref f__law_parts)))
    (l__law_parts : K.lookup f__law_parts = some ⟨oc__law_parts, od__law_parts, .func (PySem.W.fnOf "_law_parts" "_law_parts" (defArgs s__law_parts) (defBody s__law_parts) (defScope s__law_parts) .none kV__law_parts dc__law_parts pm__law_parts an__law_parts cd__law_parts ct__law_parts), sl__law_parts⟩)
    (c__law_parts : PySem.W.codeIn K cd__law_parts "_law_parts" = true)
    (k__law_parts : PySem.W.keepIn K (.ref f__law_parts) = true)
    (a__law_rounded : PySem.W.nsIn K mainGlobals "_law_rounded" = some (some (.ref f__law_rounded)))
    (l__law_rounded : K.lookup f__law_rounded = some ⟨oc__law_rounded, od__law_rounded, .func (PySem.W.fnOf "_law_rounded" "_law_rounded" (defArgs s__law_rounded) (defBody s__law_rounded) (defScope s__law_rounded) .none kV__law_rounded dc__law_rounded pm__law_rounded an__law_rounded cd__law_rounded ct__law_rounded), sl__law_rounded⟩)
    (c__law_rounded : PySem.W.codeIn K cd__law_rounded "_law_rounded" = true)
    (k__law_rounded : PySem.W.keepIn K (.ref f__law_rounded) = true)
    (a__law_exact : PySem.W.nsIn K mainGlobals "_law_exact" = some (some (.ref f__law_exact)))
    (l__law_exact : K.lookup f__law_exact = some ⟨oc__law_exact, od__law_exact, .func (PySem.W.fnOf "_law_exact" "_law_exact" (defArgs s__law_exact) (defBody s__law_exact) (defScope s__law_exact) .none kV__law_exact dc__law_exact pm__law_exact an__law_exact cd__law_exact ct__law_exact), sl__law_exact⟩)
    (c__law_exact : PySem.W.codeIn K cd__law_exact "_law_exact" = true)
    (k__law_exact : PySem.W.keepIn K (.ref f__law_exact) = true)
    (a_law : PySem.W.nsIn K mainGlobals "law" = some (some (.ref f_law)))
    (l_law : K.lookup f_law = some ⟨oc_law, od_law, .func (PySem.W.fnOf "law" "law" (defArgs s_law) (defBody s_law) (defScope s_law) .none kV_law dc_law pm_law an_law cd_law ct_law), sl_law⟩)
    (c_law : PySem.W.codeIn K cd_law "law" = true)
    (k_law : PySem.W.keepIn K (.ref f_law) = true)
    (a_Meter : PySem.W.nsIn K mainGlobals "Meter" = some (some (.ref c_Meter)))
    (pg_Meter : PySem.W.plainGet K c_Meter Str.empty = true)
    (hd_Meter : PySem.W.hasDictIn K c_Meter = true)
    (po_Meter : PySem.W.plainOver K c_Meter = true)
    (sa_Meter : PySem.W.findIn K (.ref c_Meter) "__setattr__" = some (some (.builtin "object.__setattr__")))
    (mks_Meter : PySem.W.makesIn K c_Meter = true)
    (kc_Meter : PySem.W.keepIn K (.ref c_Meter) = true)
    (na_Meter_convention : PySem.W.findIn K (.ref c_Meter) "convention" = some none)
    (na_Meter__held : PySem.W.findIn K (.ref c_Meter) "_held" = some none)
    (third : PySem.W.nsIn K cStatics "thirdparty.any" = some none)
    (zsuper : PySem.W.nsIn K mainGlobals "super" = some none)
    (spc : PySem.W.specialIn K (.builtin "object.__class__") "__get__" = some (some (.builtin "getset_descriptor.__get__")))
    (tkc : PySem.W.takesIn K (.builtin "object.__class__") = some true)
    (a_BookError : PySem.W.nsIn K mainGlobals "BookError" = some (some (.ref c_BookError)))
    (ga_BookError : PySem.W.findIn K (.ref c_BookError) "__getattribute__" = some (some (.builtin "BaseException.__getattribute__")))
    (gg_BookError : PySem.W.findIn K (.ref c_BookError) "__getattr__" = some none)
    (sb_BookError : PySem.W.subIn K (.ref c_BookError) (.type "BaseException") = some true)
    (hd_BookError : PySem.W.hasDictIn K c_BookError = true)
    (ha_BookError : PySem.W.findIn K (.ref c_BookError) "__class__" = some (some (.builtin "object.__class__")))
    (hm_BookError : PySem.W.mroIn K c_BookError (.type "object") = some true)
    (ty_BookError : PySem.W.typeIn K (.ref c_BookError) = some (.type "type"))
    (se_BookError : PySem.W.mroIn K c_BookError (.ref c_BookError) = some true)
    (a_OutOfRange : PySem.W.nsIn K mainGlobals "OutOfRange" = some (some (.ref c_OutOfRange)))
    (ga_OutOfRange : PySem.W.findIn K (.ref c_OutOfRange) "__getattribute__" = some (some (.builtin "BaseException.__getattribute__")))
    (gg_OutOfRange : PySem.W.findIn K (.ref c_OutOfRange) "__getattr__" = some none)
    (sb_OutOfRange : PySem.W.subIn K (.ref c_OutOfRange) (.type "BaseException") = some true)
    (hd_OutOfRange : PySem.W.hasDictIn K c_OutOfRange = true)
    (ha_OutOfRange : PySem.W.findIn K (.ref c_OutOfRange) "__class__" = some (some (.builtin "object.__class__")))
    (hm_OutOfRange : PySem.W.mroIn K c_OutOfRange (.type "object") = some true)
    (ty_OutOfRange : PySem.W.typeIn K (.ref c_OutOfRange) = some (.type "type"))
    (se_OutOfRange : PySem.W.mroIn K c_OutOfRange (.ref c_OutOfRange) = some true)
    (xL_OutOfRange : K.lookup c_OutOfRange = some (excClassObj nm_OutOfRange q_OutOfRange c_OutOfRange N_OutOfRange bs_OutOfRange [.ref c_BookError, .type "ValueError", .type "Exception", .type "BaseException", .type "object"] true sn_OutOfRange sub_OutOfRange ab_OutOfRange col_OutOfRange dd_OutOfRange m0_OutOfRange m1_OutOfRange m2_OutOfRange m3_OutOfRange m5_OutOfRange "ValueError.__new__"))
    (sa_OutOfRange : PySem.W.findIn K (.ref c_OutOfRange) "__setattr__" = some (some (.builtin "object.__setattr__")))
    (kp_OutOfRange : PySem.W.keepIn K (.ref c_OutOfRange) = true)
    (i_OutOfRange : PySem.W.findIn K (.ref c_OutOfRange) "__init__" = some (some (.ref fI_OutOfRange)))
    (ti_OutOfRange : PySem.W.typeIn K (.ref fI_OutOfRange) = some (.type "function"))
    (li_OutOfRange : K.lookup fI_OutOfRange = some ⟨oc_OutOfRange, od_OutOfRange, .func ((⟨"__init__", "OutOfRange.__init__", defArgs s_OutOfRange, defBody s_OutOfRange, defScope s_OutOfRange, [(("__class__" : Str), cc_OutOfRange)], cda_OutOfRange⟩ : NdefX.NF).fd doc_OutOfRange pm_OutOfRange ct_OutOfRange), osl_OutOfRange⟩)
    (ci_OutOfRange : PySem.W.codeIn K (.ref cda_OutOfRange) "OutOfRange.__init__" = true)
    (ce_OutOfRange : K.lookup cc_OutOfRange = some ⟨cl_OutOfRange, cld_OutOfRange, .cell (some (.ref c_OutOfRange)), csl_OutOfRange⟩)
    (co_OutOfRange : K.lookup cda_OutOfRange = some ⟨ccl_OutOfRange, cdd_OutOfRange, .fields vs_OutOfRange, ccs_OutOfRange⟩)
    (vs_OutOfRange : vs_OutOfRange[2]? = some (.str file_OutOfRange tf_OutOfRange))
    (fi_OutOfRange : ((P.main.file : Str) == file_OutOfRange) = true)
    (su_OutOfRange : PySem.W.ks_superIn K c_OutOfRange c_OutOfRange "__init__" = some (some (.builtin "ValueError.__init__")))
    (ve_OutOfRange : PySem.W.subIn K (.ref c_OutOfRange) (.type "ValueError") = some true)
    (n_OutOfRange_label : PySem.W.findIn K (.ref c_OutOfRange) "label" = some none)
    (n_OutOfRange_value : PySem.W.findIn K (.ref c_OutOfRange) "value" = some none)
    (a_UnknownName : PySem.W.nsIn K mainGlobals "UnknownName" = some (some (.ref c_UnknownName)))
    (ga_UnknownName : PySem.W.findIn K (.ref c_UnknownName) "__getattribute__" = some (some (.builtin "BaseException.__getattribute__")))
    (gg_UnknownName : PySem.W.findIn K (.ref c_UnknownName) "__getattr__" = some none)
    (sb_UnknownName : PySem.W.subIn K (.ref c_UnknownName) (.type "BaseException") = some true)
    (hd_UnknownName : PySem.W.hasDictIn K c_UnknownName = true)
    (ha_UnknownName : PySem.W.findIn K (.ref c_UnknownName) "__class__" = some (some (.builtin "object.__class__")))
    (hm_UnknownName : PySem.W.mroIn K c_UnknownName (.type "object") = some true)
    (ty_UnknownName : PySem.W.typeIn K (.ref c_UnknownName) = some (.type "type"))
    (se_UnknownName : PySem.W.mroIn K c_UnknownName (.ref c_UnknownName) = some true)
    (xL_UnknownName : K.lookup c_UnknownName = some (excClassObj nm_UnknownName q_UnknownName c_UnknownName N_UnknownName bs_UnknownName [.ref c_BookError, .type "ValueError", .type "Exception", .type "BaseException", .type "object"] true sn_UnknownName sub_UnknownName ab_UnknownName col_UnknownName dd_UnknownName m0_UnknownName m1_UnknownName m2_UnknownName m3_UnknownName m5_UnknownName "ValueError.__new__"))
    (sa_UnknownName : PySem.W.findIn K (.ref c_UnknownName) "__setattr__" = some (some (.builtin "object.__setattr__")))
    (kp_UnknownName : PySem.W.keepIn K (.ref c_UnknownName) = true)
    (i_UnknownName : PySem.W.findIn K (.ref c_UnknownName) "__init__" = some (some (.ref fI_UnknownName)))
    (ti_UnknownName : PySem.W.typeIn K (.ref fI_UnknownName) = some (.type "function"))
    (li_UnknownName : K.lookup fI_UnknownName = some ⟨oc_UnknownName, od_UnknownName, .func ((⟨"__init__", "UnknownName.__init__", defArgs s_UnknownName, defBody s_UnknownName, defScope s_UnknownName, [(("__class__" : Str), cc_UnknownName)], cda_UnknownName⟩ : NdefX.NF).fd doc_UnknownName pm_UnknownName ct_UnknownName), osl_UnknownName⟩)
    (ci_UnknownName : PySem.W.codeIn K (.ref cda_UnknownName) "UnknownName.__init__" = true)
    (ce_UnknownName : K.lookup cc_UnknownName = some ⟨cl_UnknownName, cld_UnknownName, .cell (some (.ref c_UnknownName)), csl_UnknownName⟩)
    (co_UnknownName : K.lookup cda_UnknownName = some ⟨ccl_UnknownName, cdd_UnknownName, .fields vs_UnknownName, ccs_UnknownName⟩)
    (vs_UnknownName : vs_UnknownName[2]? = some (.str file_UnknownName tf_UnknownName))
    (fi_UnknownName : ((P.main.file : Str) == file_UnknownName) = true)
    (su_UnknownName : PySem.W.ks_superIn K c_UnknownName c_UnknownName "__init__" = some (some (.builtin "ValueError.__init__")))
    (ve_UnknownName : PySem.W.subIn K (.ref c_UnknownName) (.type "ValueError") = some true)
    (n_UnknownName_label : PySem.W.findIn K (.ref c_UnknownName) "label" = some none)
    (n_UnknownName_name : PySem.W.findIn K (.ref c_UnknownName) "name" = some none)
    (a_WrongDay : PySem.W.nsIn K mainGlobals "WrongDay" = some (some (.ref c_WrongDay)))
    (ga_WrongDay : PySem.W.findIn K (.ref c_WrongDay) "__getattribute__" = some (some (.builtin "BaseException.__getattribute__")))
    (gg_WrongDay : PySem.W.findIn K (.ref c_WrongDay) "__getattr__" = some none)
    (sb_WrongDay : PySem.W.subIn K (.ref c_WrongDay) (.type "BaseException") = some true)
    (hd_WrongDay : PySem.W.hasDictIn K c_WrongDay = true)
    (ha_WrongDay : PySem.W.findIn K (.ref c_WrongDay) "__class__" = some (some (.builtin "object.__class__")))
    (hm_WrongDay : PySem.W.mroIn K c_WrongDay (.type "object") = some true)
    (ty_WrongDay : PySem.W.typeIn K (.ref c_WrongDay) = some (.type "type"))
    (se_WrongDay : PySem.W.mroIn K c_WrongDay (.ref c_WrongDay) = some true)
    (xL_WrongDay : K.lookup c_WrongDay = some (excClassObj nm_WrongDay q_WrongDay c_WrongDay N_WrongDay bs_WrongDay [.ref c_BookError, .type "ValueError", .type "Exception", .type "BaseException", .type "object"] true sn_WrongDay sub_WrongDay ab_WrongDay col_WrongDay dd_WrongDay m0_WrongDay m1_WrongDay m2_WrongDay m3_WrongDay m5_WrongDay "ValueError.__new__"))
    (sa_WrongDay : PySem.W.findIn K (.ref c_WrongDay) "__setattr__" = some (some (.builtin "object.__setattr__")))
    (kp_WrongDay : PySem.W.keepIn K (.ref c_WrongDay) = true)
    (i_WrongDay : PySem.W.findIn K (.ref c_WrongDay) "__init__" = some (some (.ref fI_WrongDay)))
    (ti_WrongDay : PySem.W.typeIn K (.ref fI_WrongDay) = some (.type "function"))
    (li_WrongDay : K.lookup fI_WrongDay = some ⟨oc_WrongDay, od_WrongDay, .func ((⟨"__init__", "WrongDay.__init__", defArgs s_WrongDay, defBody s_WrongDay, defScope s_WrongDay, [(("__class__" : Str), cc_WrongDay)], cda_WrongDay⟩ : NdefX.NF).fd doc_WrongDay pm_WrongDay ct_WrongDay), osl_WrongDay⟩)
    (ci_WrongDay : PySem.W.codeIn K (.ref cda_WrongDay) "WrongDay.__init__" = true)
    (ce_WrongDay : K.lookup cc_WrongDay = some ⟨cl_WrongDay, cld_WrongDay, .cell (some (.ref c_WrongDay)), csl_WrongDay⟩)
    (co_WrongDay : K.lookup cda_WrongDay = some ⟨ccl_WrongDay, cdd_WrongDay, .fields vs_WrongDay, ccs_WrongDay⟩)
    (vs_WrongDay : vs_WrongDay[2]? = some (.str file_WrongDay tf_WrongDay))
    (fi_WrongDay : ((P.main.file : Str) == file_WrongDay) = true)
    (su_WrongDay : PySem.W.ks_superIn K c_WrongDay c_WrongDay "__init__" = some (some (.builtin "ValueError.__init__")))
    (ve_WrongDay : PySem.W.subIn K (.ref c_WrongDay) (.type "ValueError") = some true)
    (n_WrongDay_label : PySem.W.findIn K (.ref c_WrongDay) "label" = some none)
    (n_WrongDay_day : PySem.W.findIn K (.ref c_WrongDay) "day" = some none)
    (y_BookError_BookError : PySem.W.subIn K (.ref c_BookError) (.ref c_BookError) = some true)
    (y_BookError_OutOfRange : PySem.W.subIn K (.ref c_BookError) (.ref c_OutOfRange) = some false)
    (y_BookError_UnknownName : PySem.W.subIn K (.ref c_BookError) (.ref c_UnknownName) = some false)
    (y_BookError_WrongDay : PySem.W.subIn K (.ref c_BookError) (.ref c_WrongDay) = some false)
    (yv_BookError : PySem.W.subIn K (.ref c_BookError) (.type "ValueError") = some true)
    (y_OutOfRange_BookError : PySem.W.subIn K (.ref c_OutOfRange) (.ref c_BookError) = some true)
    (y_OutOfRange_OutOfRange : PySem.W.subIn K (.ref c_OutOfRange) (.ref c_OutOfRange) = some true)
    (y_OutOfRange_UnknownName : PySem.W.subIn K (.ref c_OutOfRange) (.ref c_UnknownName) = some false)
    (y_OutOfRange_WrongDay : PySem.W.subIn K (.ref c_OutOfRange) (.ref c_WrongDay) = some false)
    (yv_OutOfRange : PySem.W.subIn K (.ref c_OutOfRange) (.type "ValueError") = some true)
    (y_UnknownName_BookError : PySem.W.subIn K (.ref c_UnknownName) (.ref c_BookError) = some true)
    (y_UnknownName_OutOfRange : PySem.W.subIn K (.ref c_UnknownName) (.ref c_OutOfRange) = some false)
    (y_UnknownName_UnknownName : PySem.W.subIn K (.ref c_UnknownName) (.ref c_UnknownName) = some true)
    (y_UnknownName_WrongDay : PySem.W.subIn K (.ref c_UnknownName) (.ref c_WrongDay) = some false)
    (yv_UnknownName : PySem.W.subIn K (.ref c_UnknownName) (.type "ValueError") = some true)
    (y_WrongDay_BookError : PySem.W.subIn K (.ref c_WrongDay) (.ref c_BookError) = some true)
    (y_WrongDay_OutOfRange : PySem.W.subIn K (.ref c_WrongDay) (.ref c_OutOfRange) = some false)
    (y_WrongDay_UnknownName : PySem.W.subIn K (.ref c_WrongDay) (.ref c_UnknownName) = some false)
    (y_WrongDay_WrongDay : PySem.W.subIn K (.ref c_WrongDay) (.ref c_WrongDay) = some true)
    (yv_WrongDay : PySem.W.subIn K (.ref c_WrongDay) (.type "ValueError") = some true)
    (a_MOST_CENTS : PySem.W.nsIn K mainGlobals "MOST_CENTS" = some (some (.int 1000000000000 tk_MOST_CENTS)))
    (a_MOST_RATE : PySem.W.nsIn K mainGlobals "MOST_RATE" = some (some (.int 1000000 tk_MOST_RATE)))
    (a_LAST_DAY : PySem.W.nsIn K mainGlobals "LAST_DAY" = some (some (.int 73048 tk_LAST_DAY)))
    (a_FIRST_YEAR : PySem.W.nsIn K mainGlobals "FIRST_YEAR" = some (some (.int 2000 tk_FIRST_YEAR)))
    (a_PARTS : PySem.W.nsIn K mainGlobals "PARTS" = some (some (.ref q_PARTS)))
    (l_PARTS : K.lookup q_PARTS = some ⟨.type "dict", none, .dict es_PARTS nn_PARTS, #[]⟩)
    (kl_PARTS : PySem.W.KeysLit w.params es_PARTS.toList)
    (u_PARTS : dictB kv_PARTS es_PARTS.toList = true)
    (lo_PARTS : (q_PARTS == sysModules) = false)
    (a_MODES : PySem.W.nsIn K mainGlobals "MODES" = some (some (.ref q_MODES)))
    (l_MODES : K.lookup q_MODES = some ⟨.type "tuple", od_MODES, .seq its_MODES nn_MODES, sl_MODES⟩)
    (u_MODES : valsB v_MODES its_MODES.toList = true)
    (a_MILLION : PySem.W.nsIn K mainGlobals "MILLION" = some (some (.int 1000000 tk_MILLION)))
    (a_gcd : PySem.W.nsIn K mainGlobals "gcd" = some (some (.builtin "math.gcd")))
    (z_min : PySem.W.nsIn K mainGlobals "min" = some none)
    (z_len : PySem.W.nsIn K mainGlobals "len" = some none)
    (z_abs : PySem.W.nsIn K mainGlobals "abs" = some none)
    (z_range : PySem.W.nsIn K mainGlobals "range" = some none)
    (z_int : PySem.W.nsIn K mainGlobals "int" = some none)
    (z_isinstance : PySem.W.nsIn K mainGlobals "isinstance" = some none)
    (z_bool : PySem.W.nsIn K mainGlobals "bool" = some none)
    (z_tuple : PySem.W.nsIn K mainGlobals "tuple" = some none)
    (z_max : PySem.W.nsIn K mainGlobals "max" = some none)
    : ∃ fd : FuncData, (∀ (s : Shared) (u : Value), BindsTo s fd ⟨[u], []⟩ [("script", u)]) ∧ ∀ base : Heap, K.In base → base.Ns mainGlobals mg → FnOk P w K mg base (L2.CX P w) 9 fa fd ["script"] (sp_law K) := by
  let T : Txt w K mg := {
    a_check_rate := f_check_rate, fd_check_rate := _, F_check_rate := fun_of l_check_rate c_check_rate k_check_rate, m_check_rate := PySem.W.mg_of X G a_check_rate, b_check_rate := (fun_of l_check_rate c_check_rate k_check_rate).bindsN fun _ _ _ _ _ _ us hl => match us, hl with | [_], _ => rfl,
    a_check_day := f_check_day, fd_check_day := _, F_check_day := fun_of l_check_day c_check_day k_check_day, m_check_day := PySem.W.mg_of X G a_check_day, b_check_day := (fun_of l_check_day c_check_day k_check_day).bindsN fun _ _ _ _ _ _ us hl => match us, hl with | [_], _ => rfl,
    a_is_leap := f_is_leap, fd_is_leap := _, F_is_leap := fun_of l_is_leap c_is_leap k_is_leap, m_is_leap := PySem.W.mg_of X G a_is_leap, b_is_leap := (fun_of l_is_leap c_is_leap k_is_leap).bindsN fun _ _ _ _ _ _ us hl => match us, hl with | [_], _ => rfl,
    a_month_length := f_month_length, fd_month_length := _, F_month_length := fun_of l_month_length c_month_length k_month_length, m_month_length := PySem.W.mg_of X G a_month_length, b_month_length := (fun_of l_month_length c_month_length k_month_length).bindsN fun _ _ _ _ _ _ us hl => match us, hl with | [_, _], _ => rfl,
    a_year_start := f_year_start, fd_year_start := _, F_year_start := fun_of l_year_start c_year_start k_year_start, m_year_start := PySem.W.mg_of X G a_year_start, b_year_start := (fun_of l_year_start c_year_start k_year_start).bindsN fun _ _ _ _ _ _ us hl => match us, hl with | [_], _ => rfl,
    a_date_of := f_date_of, fd_date_of := _, F_date_of := fun_of l_date_of c_date_of k_date_of, m_date_of := PySem.W.mg_of X G a_date_of, b_date_of := (fun_of l_date_of c_date_of k_date_of).bindsN fun _ _ _ _ _ _ us hl => match us, hl with | [_], _ => rfl,
    a_check_convention := f_check_convention, fd_check_convention := _, F_check_convention := fun_of l_check_convention c_check_convention k_check_convention, m_check_convention := PySem.W.mg_of X G a_check_convention, b_check_convention := (fun_of l_check_convention c_check_convention k_check_convention).bindsN fun _ _ _ _ _ _ us hl => match us, hl with | [_], _ => rfl,
    a_parts_per_year := f_parts_per_year, fd_parts_per_year := _, F_parts_per_year := fun_of l_parts_per_year c_parts_per_year k_parts_per_year, m_parts_per_year := PySem.W.mg_of X G a_parts_per_year, b_parts_per_year := (fun_of l_parts_per_year c_parts_per_year k_parts_per_year).bindsN fun _ _ _ _ _ _ us hl => match us, hl with | [_], _ => rfl,
    a_position := f_position, fd_position := _, F_position := fun_of l_position c_position k_position, m_position := PySem.W.mg_of X G a_position, b_position := (fun_of l_position c_position k_position).bindsN fun _ _ _ _ _ _ us hl => match us, hl with | [_, _], _ => rfl,
    a_weight := f_weight, fd_weight := _, F_weight := fun_of l_weight c_weight k_weight, m_weight := PySem.W.mg_of X G a_weight, b_weight := (fun_of l_weight c_weight k_weight).bindsN fun _ _ _ _ _ _ us hl => match us, hl with | [_, _, _], _ => rfl,
    a_ratio := f_ratio, fd_ratio := _, F_ratio := (fun_ofD l_ratio c_ratio k_ratio lt_ratio u_ratio), m_ratio := PySem.W.mg_of X G a_ratio, b1_ratio := (fun_ofD l_ratio c_ratio k_ratio lt_ratio u_ratio).binds1 1 0 (by intro z; cases z) rfl fun _ _ _ _ _ _ _ us its hu hi => match us, hu, its, hi with | [_], _, [_], _ => ⟨_, rfl, rfl⟩, b2_ratio := (fun_ofD l_ratio c_ratio k_ratio lt_ratio u_ratio).binds1 2 1 (by intro z; cases z) rfl fun _ _ _ _ _ _ _ us its hu hi => match us, hu, its, hi with | [_, _], _, [_], _ => ⟨_, rfl, rfl⟩,
    a_add := f_add, fd_add := _, F_add := fun_of l_add c_add k_add, m_add := PySem.W.mg_of X G a_add, b_add := (fun_of l_add c_add k_add).bindsN fun _ _ _ _ _ _ us hl => match us, hl with | [_, _], _ => rfl,
    a_subtract := f_subtract, fd_subtract := _, F_subtract := fun_of l_subtract c_subtract k_subtract, m_subtract := PySem.W.mg_of X G a_subtract, b_subtract := (fun_of l_subtract c_subtract k_subtract).bindsN fun _ _ _ _ _ _ us hl => match us, hl with | [_, _], _ => rfl,
    a_check_amount := f_check_amount, fd_check_amount := _, F_check_amount := fun_of l_check_amount c_check_amount k_check_amount, m_check_amount := PySem.W.mg_of X G a_check_amount, b_check_amount := (fun_of l_check_amount c_check_amount k_check_amount).bindsN fun _ _ _ _ _ _ us hl => match us, hl with | [_], _ => rfl,
    a_round_ratio := f_round_ratio, fd_round_ratio := _, F_round_ratio := (fun_ofD l_round_ratio c_round_ratio k_round_ratio lt_round_ratio u_round_ratio), m_round_ratio := PySem.W.mg_of X G a_round_ratio, b2_round_ratio := (fun_ofD l_round_ratio c_round_ratio k_round_ratio lt_round_ratio u_round_ratio).binds1 2 0 (by intro z; cases z) rfl fun _ _ _ _ _ _ _ us its hu hi => match us, hu, its, hi with | [_, _], _, [_], _ => ⟨_, rfl, rfl⟩, b3_round_ratio := (fun_ofD l_round_ratio c_round_ratio k_round_ratio lt_round_ratio u_round_ratio).binds1 3 1 (by intro z; cases z) rfl fun _ _ _ _ _ _ _ us its hu hi => match us, hu, its, hi with | [_, _, _], _, [_], _ => ⟨_, rfl, rfl⟩,
    a_Meter___init__ := f_Meter___init__, fd_Meter___init__ := _, F_Meter___init__ := fun_of l_Meter___init__ c_Meter___init__ k_Meter___init__, b_Meter___init__ := (fun_of l_Meter___init__ c_Meter___init__ k_Meter___init__).bindsN fun _ _ _ _ _ _ us hl => match us, hl with | [_, _], _ => rfl,
    a_Meter_run := f_Meter_run, fd_Meter_run := _, F_Meter_run := fun_of l_Meter_run c_Meter_run k_Meter_run, b_Meter_run := (fun_of l_Meter_run c_Meter_run k_Meter_run).bindsN fun _ _ _ _ _ _ us hl => match us, hl with | [_, _, _, _, _], _ => rfl,
    a_Meter_accrue := f_Meter_accrue, fd_Meter_accrue := _, F_Meter_accrue := fun_of l_Meter_accrue c_Meter_accrue k_Meter_accrue, b_Meter_accrue := (fun_of l_Meter_accrue c_Meter_accrue k_Meter_accrue).bindsN fun _ _ _ _ _ _ us hl => match us, hl with | [_, _, _, _, _], _ => rfl,
    a_Meter_exact := f_Meter_exact, fd_Meter_exact := _, F_Meter_exact := fun_of l_Meter_exact c_Meter_exact k_Meter_exact, b_Meter_exact := (fun_of l_Meter_exact c_Meter_exact k_Meter_exact).bindsN fun _ _ _ _ _ _ us hl => match us, hl with | [_], _ => rfl,
    a_Meter_rounded := f_Meter_rounded, fd_Meter_rounded := _, F_Meter_rounded := fun_of l_Meter_rounded c_Meter_rounded k_Meter_rounded, b_Meter_rounded := (fun_of l_Meter_rounded c_Meter_rounded k_Meter_rounded).bindsN fun _ _ _ _ _ _ us hl => match us, hl with | [_, _], _ => rfl,
    a_Meter_post := f_Meter_post, fd_Meter_post := _, F_Meter_post := fun_of l_Meter_post c_Meter_post k_Meter_post, b_Meter_post := (fun_of l_Meter_post c_Meter_post k_Meter_post).bindsN fun _ _ _ _ _ _ us hl => match us, hl with | [_, _], _ => rfl,
    a_Meter_reset := f_Meter_reset, fd_Meter_reset := _, F_Meter_reset := fun_of l_Meter_reset c_Meter_reset k_Meter_reset, b_Meter_reset := (fun_of l_Meter_reset c_Meter_reset k_Meter_reset).bindsN fun _ _ _ _ _ _ us hl => match us, hl with | [_], _ => rfl,
    a_Meter_copy_of := f_Meter_copy_of, fd_Meter_copy_of := _, F_Meter_copy_of := fun_of l_Meter_copy_of c_Meter_copy_of k_Meter_copy_of, b_Meter_copy_of := (fun_of l_Meter_copy_of c_Meter_copy_of k_Meter_copy_of).bindsN fun _ _ _ _ _ _ us hl => match us, hl with | [_], _ => rfl,
    a_Meter_restore := f_Meter_restore, fd_Meter_restore := _, F_Meter_restore := fun_of l_Meter_restore c_Meter_restore k_Meter_restore, b_Meter_restore := (fun_of l_Meter_restore c_Meter_restore k_Meter_restore).bindsN fun _ _ _ _ _ _ us hl => match us, hl with | [_, _], _ => rfl,
    a__law_cell := f__law_cell, fd__law_cell := _, F__law_cell := fun_of l__law_cell c__law_cell k__law_cell, m__law_cell := PySem.W.mg_of X G a__law_cell, b__law_cell := (fun_of l__law_cell c__law_cell k__law_cell).bindsN fun _ _ _ _ _ _ us hl => match us, hl with | [_, _], _ => rfl,
    a__law_draw := f__law_draw, fd__law_draw := _, F__law_draw := fun_of l__law_draw c__law_draw k__law_draw, m__law_draw := PySem.W.mg_of X G a__law_draw, b__law_draw := (fun_of l__law_draw c__law_draw k__law_draw).bindsN fun _ _ _ _ _ _ us hl => match us, hl with | [_, _], _ => rfl,
    a__law_whole := f__law_whole, fd__law_whole := _, F__law_whole := fun_of l__law_whole c__law_whole k__law_whole, m__law_whole := PySem.W.mg_of X G a__law_whole, b__law_whole := (fun_of l__law_whole c__law_whole k__law_whole).bindsN fun _ _ _ _ _ _ us hl => match us, hl with | [_], _ => rfl,
    a__law_gcd := f__law_gcd, fd__law_gcd := _, F__law_gcd := fun_of l__law_gcd c__law_gcd k__law_gcd, m__law_gcd := PySem.W.mg_of X G a__law_gcd, b__law_gcd := (fun_of l__law_gcd c__law_gcd k__law_gcd).bindsN fun _ _ _ _ _ _ us hl => match us, hl with | [_, _], _ => rfl,
    a__law_lowest := f__law_lowest, fd__law_lowest := _, F__law_lowest := fun_of l__law_lowest c__law_lowest k__law_lowest, m__law_lowest := PySem.W.mg_of X G a__law_lowest, b__law_lowest := (fun_of l__law_lowest c__law_lowest k__law_lowest).bindsN fun _ _ _ _ _ _ us hl => match us, hl with | [_, _], _ => rfl,
    a__law_leap := f__law_leap, fd__law_leap := _, F__law_leap := fun_of l__law_leap c__law_leap k__law_leap, m__law_leap := PySem.W.mg_of X G a__law_leap, b__law_leap := (fun_of l__law_leap c__law_leap k__law_leap).bindsN fun _ _ _ _ _ _ us hl => match us, hl with | [_], _ => rfl,
    a__law_length := f__law_length, fd__law_length := _, F__law_length := fun_of l__law_length c__law_length k__law_length, m__law_length := PySem.W.mg_of X G a__law_length, b__law_length := (fun_of l__law_length c__law_length k__law_length).bindsN fun _ _ _ _ _ _ us hl => match us, hl with | [_, _], _ => rfl,
    a__law_date := f__law_date, fd__law_date := _, F__law_date := fun_of l__law_date c__law_date k__law_date, m__law_date := PySem.W.mg_of X G a__law_date, b__law_date := (fun_of l__law_date c__law_date k__law_date).bindsN fun _ _ _ _ _ _ us hl => match us, hl with | [_], _ => rfl,
    a__law_fast := f__law_fast, fd__law_fast := _, F__law_fast := fun_of l__law_fast c__law_fast k__law_fast, m__law_fast := PySem.W.mg_of X G a__law_fast, b__law_fast := (fun_of l__law_fast c__law_fast k__law_fast).bindsN fun _ _ _ _ _ _ us hl => match us, hl with | [_, _, _], _ => rfl,
    a__law_position := f__law_position, fd__law_position := _, F__law_position := fun_of l__law_position c__law_position k__law_position, m__law_position := PySem.W.mg_of X G a__law_position, b__law_position := (fun_of l__law_position c__law_position k__law_position).bindsN fun _ _ _ _ _ _ us hl => match us, hl with | [_, _], _ => rfl,
    a__law_parts := f__law_parts, fd__law_parts := _, F__law_parts := fun_of l__law_parts c__law_parts k__law_parts, m__law_parts := PySem.W.mg_of X G a__law_parts, b__law_parts := (fun_of l__law_parts c__law_parts k__law_parts).bindsN fun _ _ _ _ _ _ us hl => match us, hl with | [_], _ => rfl,
    a__law_rounded := f__law_rounded, fd__law_rounded := _, F__law_rounded := fun_of l__law_rounded c__law_rounded k__law_rounded, m__law_rounded := PySem.W.mg_of X G a__law_rounded, b__law_rounded := (fun_of l__law_rounded c__law_rounded k__law_rounded).bindsN fun _ _ _ _ _ _ us hl => match us, hl with | [_, _, _], _ => rfl,
    a__law_exact := f__law_exact, fd__law_exact := _, F__law_exact := fun_of l__law_exact c__law_exact k__law_exact, m__law_exact := PySem.W.mg_of X G a__law_exact, b__law_exact := (fun_of l__law_exact c__law_exact k__law_exact).bindsN fun _ _ _ _ _ _ us hl => match us, hl with | [_, _, _], _ => rfl,
    a_law := f_law, fd_law := _, F_law := fun_of l_law c_law k_law, m_law := PySem.W.mg_of X G a_law, b_law := (fun_of l_law c_law k_law).bindsN fun _ _ _ _ _ _ us hl => match us, hl with | [_], _ => rfl,
    c_Meter := c_Meter, m_Meter := PySem.W.mg_of X G a_Meter, cl_Meter := ⟨pg_Meter, hd_Meter, po_Meter, sa_Meter⟩, mk_Meter := ⟨mks_Meter, a_Meter___init__, i_Meter___init__, kc_Meter⟩,
    me_Meter_run := ⟨a_Meter_run, i_Meter_run, k_Meter_run⟩,
    me_Meter_accrue := ⟨a_Meter_accrue, i_Meter_accrue, k_Meter_accrue⟩,
    me_Meter_exact := ⟨a_Meter_exact, i_Meter_exact, k_Meter_exact⟩,
    me_Meter_rounded := ⟨a_Meter_rounded, i_Meter_rounded, k_Meter_rounded⟩,
    me_Meter_post := ⟨a_Meter_post, i_Meter_post, k_Meter_post⟩,
    me_Meter_reset := ⟨a_Meter_reset, i_Meter_reset, k_Meter_reset⟩,
    me_Meter_copy_of := ⟨a_Meter_copy_of, i_Meter_copy_of, k_Meter_copy_of⟩,
    me_Meter_restore := ⟨a_Meter_restore, i_Meter_restore, k_Meter_restore⟩,
    na_Meter_convention := na_Meter_convention,
    na_Meter__held := na_Meter__held,
    c_BookError := c_BookError, m_BookError := PySem.W.mg_of X G a_BookError, e_BookError := ⟨⟨ga_BookError, gg_BookError, sb_BookError, hd_BookError, ha_BookError, spc, tkc, hm_BookError⟩, ty_BookError, se_BookError⟩,
    c_OutOfRange := c_OutOfRange, m_OutOfRange := PySem.W.mg_of X G a_OutOfRange, e_OutOfRange := ⟨⟨ga_OutOfRange, gg_OutOfRange, sb_OutOfRange, hd_OutOfRange, ha_OutOfRange, spc, tkc, hm_OutOfRange⟩, ty_OutOfRange, se_OutOfRange⟩,
    x_OutOfRange := ⟨fI_OutOfRange, cc_OutOfRange, cda_OutOfRange, _, _, _, _, _, _, ⟨⟨⟨nm_OutOfRange, q_OutOfRange, N_OutOfRange, bs_OutOfRange, _, sn_OutOfRange, sub_OutOfRange, ab_OutOfRange, col_OutOfRange, dd_OutOfRange, m0_OutOfRange, m1_OutOfRange, m2_OutOfRange, m3_OutOfRange, m5_OutOfRange, xL_OutOfRange, rfl⟩, sa_OutOfRange, sb_OutOfRange, ty_OutOfRange, kp_OutOfRange⟩, i_OutOfRange, ti_OutOfRange, ⟨_, _, _, ce_OutOfRange⟩, ⟨_, _, _, _, _, _, co_OutOfRange, vs_OutOfRange, fi_OutOfRange⟩, by decide +kernel, PySem.W.mg_none_of X G zsuper, se_OutOfRange, third, su_OutOfRange, ve_OutOfRange⟩, li_OutOfRange, ci_OutOfRange⟩,
    n_OutOfRange_label := n_OutOfRange_label,
    n_OutOfRange_value := n_OutOfRange_value,
    c_UnknownName := c_UnknownName, m_UnknownName := PySem.W.mg_of X G a_UnknownName, e_UnknownName := ⟨⟨ga_UnknownName, gg_UnknownName, sb_UnknownName, hd_UnknownName, ha_UnknownName, spc, tkc, hm_UnknownName⟩, ty_UnknownName, se_UnknownName⟩,
    x_UnknownName := ⟨fI_UnknownName, cc_UnknownName, cda_UnknownName, _, _, _, _, _, _, ⟨⟨⟨nm_UnknownName, q_UnknownName, N_UnknownName, bs_UnknownName, _, sn_UnknownName, sub_UnknownName, ab_UnknownName, col_UnknownName, dd_UnknownName, m0_UnknownName, m1_UnknownName, m2_UnknownName, m3_UnknownName, m5_UnknownName, xL_UnknownName, rfl⟩, sa_UnknownName, sb_UnknownName, ty_UnknownName, kp_UnknownName⟩, i_UnknownName, ti_UnknownName, ⟨_, _, _, ce_UnknownName⟩, ⟨_, _, _, _, _, _, co_UnknownName, vs_UnknownName, fi_UnknownName⟩, by decide +kernel, PySem.W.mg_none_of X G zsuper, se_UnknownName, third, su_UnknownName, ve_UnknownName⟩, li_UnknownName, ci_UnknownName⟩,
    n_UnknownName_label := n_UnknownName_label,
    n_UnknownName_name := n_UnknownName_name,
    c_WrongDay := c_WrongDay, m_WrongDay := PySem.W.mg_of X G a_WrongDay, e_WrongDay := ⟨⟨ga_WrongDay, gg_WrongDay, sb_WrongDay, hd_WrongDay, ha_WrongDay, spc, tkc, hm_WrongDay⟩, ty_WrongDay, se_WrongDay⟩,
    x_WrongDay := ⟨fI_WrongDay, cc_WrongDay, cda_WrongDay, _, _, _, _, _, _, ⟨⟨⟨nm_WrongDay, q_WrongDay, N_WrongDay, bs_WrongDay, _, sn_WrongDay, sub_WrongDay, ab_WrongDay, col_WrongDay, dd_WrongDay, m0_WrongDay, m1_WrongDay, m2_WrongDay, m3_WrongDay, m5_WrongDay, xL_WrongDay, rfl⟩, sa_WrongDay, sb_WrongDay, ty_WrongDay, kp_WrongDay⟩, i_WrongDay, ti_WrongDay, ⟨_, _, _, ce_WrongDay⟩, ⟨_, _, _, _, _, _, co_WrongDay, vs_WrongDay, fi_WrongDay⟩, by decide +kernel, PySem.W.mg_none_of X G zsuper, se_WrongDay, third, su_WrongDay, ve_WrongDay⟩, li_WrongDay, ci_WrongDay⟩,
    n_WrongDay_label := n_WrongDay_label,
    n_WrongDay_day := n_WrongDay_day,
    y_BookError_BookError := y_BookError_BookError,
    y_BookError_OutOfRange := y_BookError_OutOfRange,
    y_BookError_UnknownName := y_BookError_UnknownName,
    y_BookError_WrongDay := y_BookError_WrongDay,
    yv_BookError := yv_BookError,
    y_OutOfRange_BookError := y_OutOfRange_BookError,
    y_OutOfRange_OutOfRange := y_OutOfRange_OutOfRange,
    y_OutOfRange_UnknownName := y_OutOfRange_UnknownName,
    y_OutOfRange_WrongDay := y_OutOfRange_WrongDay,
    yv_OutOfRange := yv_OutOfRange,
    y_UnknownName_BookError := y_UnknownName_BookError,
    y_UnknownName_OutOfRange := y_UnknownName_OutOfRange,
    y_UnknownName_UnknownName := y_UnknownName_UnknownName,
    y_UnknownName_WrongDay := y_UnknownName_WrongDay,
    yv_UnknownName := yv_UnknownName,
    y_WrongDay_BookError := y_WrongDay_BookError,
    y_WrongDay_OutOfRange := y_WrongDay_OutOfRange,
    y_WrongDay_UnknownName := y_WrongDay_UnknownName,
    y_WrongDay_WrongDay := y_WrongDay_WrongDay,
    yv_WrongDay := yv_WrongDay,
    m_MOST_CENTS := ⟨_, PySem.W.mg_of X G a_MOST_CENTS⟩,
    m_MOST_RATE := ⟨_, PySem.W.mg_of X G a_MOST_RATE⟩,
    m_LAST_DAY := ⟨_, PySem.W.mg_of X G a_LAST_DAY⟩,
    m_FIRST_YEAR := ⟨_, PySem.W.mg_of X G a_FIRST_YEAR⟩,
    q_PARTS := q_PARTS, m_PARTS := PySem.W.mg_of X G a_PARTS, kd_PARTS := ⟨_, _, ⟨l_PARTS, kl_PARTS, lo_PARTS⟩⟩, ka_PARTS := fun z => kat_of l_PARTS u_PARTS z,
    q_MODES := q_MODES, m_MODES := PySem.W.mg_of X G a_MODES, t_MODES := fun H => tup_of l_MODES u_MODES,
    m_MILLION := ⟨_, PySem.W.mg_of X G a_MILLION⟩,
    m_gcd := PySem.W.mg_of X G a_gcd,
    z_min := PySem.W.mg_none_of X G z_min,
    z_len := PySem.W.mg_none_of X G z_len,
    z_abs := PySem.W.mg_none_of X G z_abs,
    z_range := PySem.W.mg_none_of X G z_range,
    z_int := PySem.W.mg_none_of X G z_int,
    z_isinstance := PySem.W.mg_none_of X G z_isinstance,
    z_bool := PySem.W.mg_none_of X G z_bool,
    z_tuple := PySem.W.mg_none_of X G z_tuple,
    z_max := PySem.W.mg_none_of X G z_max }
  have e := hfa.symm.trans T.m_law
  cases e
  exact ⟨_, fun s u => T.F_law.bindsA (ps := ["script"]) (fun _ _ _ _ _ _ us hl => match us, hl with | [_], _ => rfl) s [u] rfl, fun base _ _ => (ok_law T).mono (by decide)⟩
end My
open PySem PySem.W PyProof.Rows
set_option maxRecDepth 100000 in
set_option maxHeartbeats 0 in
theorem PySem.Challenge.cw_lendbook_k37_meters_are_exact_holds : PySem.Challenge.rw_lendbook_k37_meters_are_exact.Holds := by
  w_on; o_law; k_head; (case hw => w_witness2)
  k_fill
  refine LB.walk (l := PySem.Challenge.rw_lendbook_k37_meters_are_exact) (k := 9) rfl rfl ⟨rfl, by decide, by decide⟩ (fun w h Y => PySem.W.kIn_of Y) ?F
  case F =>
    intro w mg fa h KX G hmg
    refine' My.all_mk KX G hmg ?a_check_rate ?l_check_rate ?c_check_rate ?k_check_rate ?a_check_day ?l_check_day ?c_check_day ?k_check_day ?a_is_leap ?l_is_leap ?c_is_leap ?k_is_leap ?a_month_length ?l_month_length ?c_month_length ?k_month_length ?a_year_start ?l_year_start ?c_year_start ?k_year_start ?a_date_of ?l_date_of ?c_date_of ?k_date_of ?a_check_convention ?l_check_convention ?c_check_convention ?k_check_convention ?a_parts_per_year ?l_parts_per_year ?c_parts_per_year ?k_parts_per_year ?a_position ?l_position ?c_position ?k_position ?a_weight ?l_weight ?c_weight ?k_weight ?a_ratio ?l_ratio ?c_ratio ?k_ratio ?lt_ratio ?u_ratio ?a_add ?l_add ?c_add ?k_add ?a_subtract ?l_subtract ?c_subtract ?k_subtract ?a_check_amount ?l_check_amount ?c_check_amount ?k_check_amount ?a_round_ratio ?l_round_ratio ?c_round_ratio ?k_round_ratio ?lt_round_ratio ?u_round_ratio ?a_Meter___init__ ?l_Meter___init__ ?c_Meter___init__ ?k_Meter___init__ ?i_Meter___init__ ?a_Meter_run ?l_Meter_run ?c_Meter_run ?k_Meter_run ?i_Meter_run ?a_Meter_accrue ?l_Meter_accrue ?c_Meter_accrue ?k_Meter_accrue ?i_Meter_accrue ?a_Meter_exact ?l_Meter_exact ?c_Meter_exact ?k_Meter_exact ?i_Meter_exact ?a_Meter_rounded ?l_Meter_rounded ?c_Meter_rounded ?k_Meter_rounded ?i_Meter_rounded ?a_Meter_post ?l_Meter_post ?c_Meter_post ?k_Meter_post ?i_Meter_post ?a_Meter_reset ?l_Meter_reset ?c_Meter_reset ?k_Meter_reset ?i_Meter_reset ?a_Meter_copy_of ?l_Meter_copy_of ?c_Meter_copy_of ?k_Meter_copy_of ?i_Meter_copy_of ?a_Meter_restore ?l_Meter_restore ?c_Meter_restore ?k_Meter_restore ?i_Meter_restore ?a__law_cell ?l__law_cell ?c__law_cell ?k__law_cell ?a__law_draw ?l__law_draw ?c__law_draw ?k__law_draw ?a__law_whole ?l__law_whole ?c__law_whole ?k__law_whole ?a__law_gcd ?l__law_gcd ?c__law_gcd ?k__law_gcd ?a__law_lowest ?l__law_lowest ?c__law_lowest ?k__law_lowest ?a__law_leap ?l__law_leap ?c__law_leap ?k__law_leap ?a__law_length ?l__law_length ?c__law_length ?k__law_length ?a__law_date ?l__law_date ?c__law_date ?k__law_date ?a__law_fast ?l__law_fast ?c__law_fast ?k__law_fast ?a__law_position ?l__law_position ?c__law_position ?k__law_position ?a__law_parts ?l__law_parts ?c__law_parts ?k__law_parts ?a__law_rounded ?l__law_rounded ?c__law_rounded ?k__law_rounded ?a__law_exact ?l__law_exact ?c__law_exact ?k__law_exact ?a_law ?l_law ?c_law ?k_law ?a_Meter ?pg_Meter ?hd_Meter ?po_Meter ?sa_Meter ?mks_Meter ?kc_Meter ?na_Meter_convention ?na_Meter__held ?third ?zsuper ?spc ?tkc ?a_BookError ?ga_BookError ?gg_BookError ?sb_BookError ?hd_BookError ?ha_BookError ?hm_BookError ?ty_BookError ?se_BookError ?a_OutOfRange ?ga_OutOfRange ?gg_OutOfRange ?sb_OutOfRange ?hd_OutOfRange ?ha_OutOfRange ?hm_OutOfRange ?ty_OutOfRange ?se_OutOfRange ?xL_OutOfRange ?sa_OutOfRange ?kp_OutOfRange ?i_OutOfRange ?ti_OutOfRange ?li_OutOfRange ?ci_OutOfRange ?ce_OutOfRange ?co_OutOfRange ?vs_OutOfRange ?fi_OutOfRange ?su_OutOfRange ?ve_OutOfRange ?n_OutOfRange_label ?n_OutOfRange_value ?a_UnknownName ?ga_UnknownName ?gg_UnknownName ?sb_UnknownName ?hd_UnknownName ?ha_UnknownName ?hm_UnknownName ?ty_UnknownName ?se_UnknownName ?xL_UnknownName ?sa_UnknownName ?kp_UnknownName ?i_UnknownName ?ti_UnknownName ?li_UnknownName ?ci_UnknownName ?ce_UnknownName ?co_UnknownName ?vs_UnknownName ?fi_UnknownName ?su_UnknownName ?ve_UnknownName ?n_UnknownName_label ?n_UnknownName_name ?a_WrongDay ?ga_WrongDay ?gg_WrongDay ?sb_WrongDay ?hd_WrongDay ?ha_WrongDay ?hm_WrongDay ?ty_WrongDay ?se_WrongDay ?xL_WrongDay ?sa_WrongDay ?kp_WrongDay ?i_WrongDay ?ti_WrongDay ?li_WrongDay ?ci_WrongDay ?ce_WrongDay ?co_WrongDay ?vs_WrongDay ?fi_WrongDay ?su_WrongDay ?ve_WrongDay ?n_WrongDay_label ?n_WrongDay_day ?y_BookError_BookError ?y_BookError_OutOfRange ?y_BookError_UnknownName ?y_BookError_WrongDay ?yv_BookError ?y_OutOfRange_BookError ?y_OutOfRange_OutOfRange ?y_OutOfRange_UnknownName ?y_OutOfRange_WrongDay ?yv_OutOfRange ?y_UnknownName_BookError ?y_UnknownName_OutOfRange ?y_UnknownName_UnknownName ?y_UnknownName_WrongDay ?yv_UnknownName ?y_WrongDay_BookError ?y_WrongDay_OutOfRange ?y_WrongDay_UnknownName ?y_WrongDay_WrongDay ?yv_WrongDay ?a_MOST_CENTS ?a_MOST_RATE ?a_LAST_DAY ?a_FIRST_YEAR ?a_PARTS ?l_PARTS ?kl_PARTS ?u_PARTS ?lo_PARTS ?a_MODES ?l_MODES ?u_MODES ?a_MILLION ?a_gcd ?z_min ?z_len ?z_abs ?z_range ?z_int ?z_isinstance ?z_bool ?z_tuple ?z_max
    (case a_Meter => k_is)
    (case a_check_rate => k_is)
    (case l_check_rate => k_is)
    (case c_check_rate => k_is)
    (case k_check_rate => k_is)
    (case a_check_day => k_is)
    (case l_check_day => k_is)
    (case c_check_day => k_is)
    (case k_check_day => k_is)
    (case a_is_leap => k_is)
    (case l_is_leap => k_is)
    (case c_is_leap => k_is)
    (case k_is_leap => k_is)
    (case a_month_length => k_is)
    (case l_month_length => k_is)
    (case c_month_length => k_is)
    (case k_month_length => k_is)
    (case a_year_start => k_is)
    (case l_year_start => k_is)
    (case c_year_start => k_is)
    (case k_year_start => k_is)
    (case a_date_of => k_is)
    (case l_date_of => k_is)
    (case c_date_of => k_is)
    (case k_date_of => k_is)
    (case a_check_convention => k_is)
    (case l_check_convention => k_is)
    (case c_check_convention => k_is)
    (case k_check_convention => k_is)
    (case a_parts_per_year => k_is)
    (case l_parts_per_year => k_is)
    (case c_parts_per_year => k_is)
    (case k_parts_per_year => k_is)
    (case a_position => k_is)
    (case l_position => k_is)
    (case c_position => k_is)
    (case k_position => k_is)
    (case a_weight => k_is)
    (case l_weight => k_is)
    (case c_weight => k_is)
    (case k_weight => k_is)
    (case a_ratio => k_is)
    (case l_ratio => k_is)
    (case c_ratio => k_is)
    (case k_ratio => k_is)
    (case lt_ratio => k_is)
    (case u_ratio => decide +kernel)
    (case a_add => k_is)
    (case l_add => k_is)
    (case c_add => k_is)
    (case k_add => k_is)
    (case a_subtract => k_is)
    (case l_subtract => k_is)
    (case c_subtract => k_is)
    (case k_subtract => k_is)
    (case a_check_amount => k_is)
    (case l_check_amount => k_is)
    (case c_check_amount => k_is)
    (case k_check_amount => k_is)
    (case a_round_ratio => k_is)
    (case l_round_ratio => k_is)
    (case c_round_ratio => k_is)
    (case k_round_ratio => k_is)
    (case lt_round_ratio => k_is)
    (case u_round_ratio => decide +kernel)
    (case a_Meter___init__ => k_is)
    (case l_Meter___init__ => k_is)
    (case c_Meter___init__ => k_is)
    (case k_Meter___init__ => k_is)
    (case i_Meter___init__ => k_is)
    (case a_Meter_run => k_is)
    (case l_Meter_run => k_is)
    (case c_Meter_run => k_is)
    (case k_Meter_run => k_is)
    (case i_Meter_run => k_is)
    (case a_Meter_accrue => k_is)
    (case l_Meter_accrue => k_is)
    (case c_Meter_accrue => k_is)
    (case k_Meter_accrue => k_is)
    (case i_Meter_accrue => k_is)
    (case a_Meter_exact => k_is)
    (case l_Meter_exact => k_is)
    (case c_Meter_exact => k_is)
    (case k_Meter_exact => k_is)
    (case i_Meter_exact => k_is)
    (case a_Meter_rounded => k_is)
    (case l_Meter_rounded => k_is)
    (case c_Meter_rounded => k_is)
    (case k_Meter_rounded => k_is)
    (case i_Meter_rounded => k_is)
    (case a_Meter_post => k_is)
    (case l_Meter_post => k_is)
    (case c_Meter_post => k_is)
    (case k_Meter_post => k_is)
    (case i_Meter_post => k_is)
    (case a_Meter_reset => k_is)
    (case l_Meter_reset => k_is)
    (case c_Meter_reset => k_is)
    (case k_Meter_reset => k_is)
    (case i_Meter_reset => k_is)
    (case a_Meter_copy_of => k_is)
    (case l_Meter_copy_of => k_is)
    (case c_Meter_copy_of => k_is)
    (case k_Meter_copy_of => k_is)
    (case i_Meter_copy_of => k_is)
    (case a_Meter_restore => k_is)
    (case l_Meter_restore => k_is)
    (case c_Meter_restore => k_is)
    (case k_Meter_restore => k_is)
    (case i_Meter_restore => k_is)
    (case a__law_cell => k_is)
    (case l__law_cell => k_is)
    (case c__law_cell => k_is)
    (case k__law_cell => k_is)
    (case a__law_draw => k_is)
    (case l__law_draw => k_is)
    (case c__law_draw => k_is)
    (case k__law_draw => k_is)
    (case a__law_whole => k_is)
    (case l__law_whole => k_is)
    (case c__law_whole => k_is)
    (case k__law_whole => k_is)
    (case a__law_gcd => k_is)
    (case l__law_gcd => k_is)
    (case c__law_gcd => k_is)
    (case k__law_gcd => k_is)
    (case a__law_lowest => k_is)
    (case l__law_lowest => k_is)
    (case c__law_lowest => k_is)
    (case k__law_lowest => k_is)
    (case a__law_leap => k_is)
    (case l__law_leap => k_is)
    (case c__law_leap => k_is)
    (case k__law_leap => k_is)
    (case a__law_length => k_is)
    (case l__law_length => k_is)
    (case c__law_length => k_is)
    (case k__law_length => k_is)
    (case a__law_date => k_is)
    (case l__law_date => k_is)
    (case c__law_date => k_is)
    (case k__law_date => k_is)
    (case a__law_fast => k_is)
    (case l__law_fast => k_is)
    (case c__law_fast => k_is)
    (case k__law_fast => k_is)
    (case a__law_position => k_is)
    (case l__law_position => k_is)
    (case c__law_position => k_is)
    (case k__law_position => k_is)
    (case a__law_parts => k_is)
    (case l__law_parts => k_is)
    (case c__law_parts => k_is)
    (case k__law_parts => k_is)
    (case a__law_rounded => k_is)
    (case l__law_rounded => k_is)
    (case c__law_rounded => k_is)
    (case k__law_rounded => k_is)
    (case a__law_exact => k_is)
    (case l__law_exact => k_is)
    (case c__law_exact => k_is)
    (case k__law_exact => k_is)
    (case a_law => k_is)
    (case l_law => k_is)
    (case c_law => k_is)
    (case k_law => k_is)
    (case pg_Meter => k_is)
    (case hd_Meter => k_is)
    (case po_Meter => k_is)
    (case sa_Meter => k_is)
    (case mks_Meter => k_is)
    (case kc_Meter => k_is)
    (case na_Meter_convention => k_is)
    (case na_Meter__held => k_is)
    (case third => k_is)
    (case zsuper => k_is)
    (case spc => k_is)
    (case tkc => k_is)
    (case a_BookError => k_is)
    (case ga_BookError => k_is)
    (case gg_BookError => k_is)
    (case sb_BookError => k_is)
    (case hd_BookError => k_is)
    (case ha_BookError => k_is)
    (case hm_BookError => k_is)
    (case ty_BookError => k_is)
    (case se_BookError => k_is)
    (case a_OutOfRange => k_is)
    (case ga_OutOfRange => k_is)
    (case gg_OutOfRange => k_is)
    (case sb_OutOfRange => k_is)
    (case hd_OutOfRange => k_is)
    (case ha_OutOfRange => k_is)
    (case hm_OutOfRange => k_is)
    (case ty_OutOfRange => k_is)
    (case se_OutOfRange => k_is)
    (case xL_OutOfRange => k_is)
    (case sa_OutOfRange => k_is)
    (case kp_OutOfRange => k_is)
    (case i_OutOfRange => k_is)
    (case ti_OutOfRange => k_is)
    (case li_OutOfRange => k_is)
    (case ci_OutOfRange => k_is)
    (case ce_OutOfRange => k_is)
    (case co_OutOfRange => k_is)
    (case vs_OutOfRange => rfl)
    (case fi_OutOfRange => decide +kernel)
    (case su_OutOfRange => ks_is)
    (case ve_OutOfRange => k_is)
    (case n_OutOfRange_label => k_is)
    (case n_OutOfRange_value => k_is)
    (case a_UnknownName => k_is)
    (case ga_UnknownName => k_is)
    (case gg_UnknownName => k_is)
    (case sb_UnknownName => k_is)
    (case hd_UnknownName => k_is)
    (case ha_UnknownName => k_is)
    (case hm_UnknownName => k_is)
    (case ty_UnknownName => k_is)
    (case se_UnknownName => k_is)
    (case xL_UnknownName => k_is)
    (case sa_UnknownName => k_is)
    (case kp_UnknownName => k_is)
    (case i_UnknownName => k_is)
    (case ti_UnknownName => k_is)
    (case li_UnknownName => k_is)
    (case ci_UnknownName => k_is)
    (case ce_UnknownName => k_is)
    (case co_UnknownName => k_is)
    (case vs_UnknownName => rfl)
    (case fi_UnknownName => decide +kernel)
    (case su_UnknownName => ks_is)
    (case ve_UnknownName => k_is)
    (case n_UnknownName_label => k_is)
    (case n_UnknownName_name => k_is)
    (case a_WrongDay => k_is)
    (case ga_WrongDay => k_is)
    (case gg_WrongDay => k_is)
    (case sb_WrongDay => k_is)
    (case hd_WrongDay => k_is)
    (case ha_WrongDay => k_is)
    (case hm_WrongDay => k_is)
    (case ty_WrongDay => k_is)
    (case se_WrongDay => k_is)
    (case xL_WrongDay => k_is)
    (case sa_WrongDay => k_is)
    (case kp_WrongDay => k_is)
    (case i_WrongDay => k_is)
    (case ti_WrongDay => k_is)
    (case li_WrongDay => k_is)
    (case ci_WrongDay => k_is)
    (case ce_WrongDay => k_is)
    (case co_WrongDay => k_is)
    (case vs_WrongDay => rfl)
    (case fi_WrongDay => decide +kernel)
    (case su_WrongDay => ks_is)
    (case ve_WrongDay => k_is)
    (case n_WrongDay_label => k_is)
    (case n_WrongDay_day => k_is)
    (case y_BookError_BookError => k_is)
    (case y_BookError_OutOfRange => k_is)
    (case y_BookError_UnknownName => k_is)
    (case y_BookError_WrongDay => k_is)
    (case yv_BookError => k_is)
    (case y_OutOfRange_BookError => k_is)
    (case y_OutOfRange_OutOfRange => k_is)
    (case y_OutOfRange_UnknownName => k_is)
    (case y_OutOfRange_WrongDay => k_is)
    (case yv_OutOfRange => k_is)
    (case y_UnknownName_BookError => k_is)
    (case y_UnknownName_OutOfRange => k_is)
    (case y_UnknownName_UnknownName => k_is)
    (case y_UnknownName_WrongDay => k_is)
    (case yv_UnknownName => k_is)
    (case y_WrongDay_BookError => k_is)
    (case y_WrongDay_OutOfRange => k_is)
    (case y_WrongDay_UnknownName => k_is)
    (case y_WrongDay_WrongDay => k_is)
    (case yv_WrongDay => k_is)
    (case a_MOST_CENTS => k_is)
    (case a_MOST_RATE => k_is)
    (case a_LAST_DAY => k_is)
    (case a_FIRST_YEAR => k_is)
    (case a_PARTS => k_is)
    (case l_PARTS => k_is)
    (case kl_PARTS => k_keys)
    (case u_PARTS => exact (Eq.refl true))
    (case lo_PARTS => decide +kernel)
    (case a_MODES => k_is)
    (case l_MODES => k_is)
    (case u_MODES => decide +kernel)
    (case a_MILLION => k_is)
    (case a_gcd => k_is)
    (case z_min => k_is)
    (case z_len => k_is)
    (case z_abs => k_is)
    (case z_range => k_is)
    (case z_int => k_is)
    (case z_isinstance => k_is)
    (case z_bool => k_is)
    (case z_tuple => k_is)
    (case z_max => k_is)
