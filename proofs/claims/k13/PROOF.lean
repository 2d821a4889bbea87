import PyProof.Rows.All
import Wide.All
import OpenK.AllK
import Wide.FinOn
import HandS.ForMost
import HandS.Codes
import HandS.Walk
import HandS.IsInst
import HandS.Deep
import HandS.TupAny
import HandS.SortInts
import HandS.Replace
import HandS.NoneIn
import HandS.DictComp
import HandS.WideBits
import HandS.Wide
import HandS.Conv
import PyProof.ListStr
import HandS.Lambda
import HandS.EndTab
import KE.KSortKeyAny
import HandS.Keys
import HandS.More
import PyProof.Rows.SortShellAny
import HandS.Defaults
import HandS.Dict
import HandS.Style
import HandS.Strs
import HandS.Set
import HandS.SetFor
import HandS.Exc
import HandS.ExcOwn
import HandS.ExcIs
import HandS.TryOnly
import HandS.WordsExc
import HandS.Nested
import HandS.ExcInit
import HandS.ExcField
import KE.KExcIs
import PySem.Challenge.RW_bitroads_k13_texts_refused
set_option Elab.async false
set_option linter.all false
set_option maxRecDepth 100000
set_option maxHeartbeats 4000000
/-! Ground for all laws of this program: texts of bits, things of a told kind, words for readings. -/
namespace Br
open PySem PySem.Spec PyProof.Rows L2

/-! ### short tactics: steps of a reading that ask nothing new -/
local macro_rules | `(tactic| walk_at "v") => `(tactic| refine ⟨_, rfl, ?_⟩)
local macro_rules | `(tactic| walk_at "go") => `(tactic| repeat (first
  | refine ⟨_, rfl, ?_⟩
  | refine ⟨_, _, rfl, rfl, ?_⟩
  | refine ⟨_, _, rfl, rfl, (by show (0 : Int) < _; decide), ?_⟩
  | refine ⟨_, _, rfl, rfl, ⟨by decide, by decide⟩, ?_⟩
  | refine ⟨_, _, rfl, rfl, .inr ⟨by decide, by decide⟩, ?_⟩
  | refine ⟨_, _, rfl, rfl, .inl ⟨by decide, by decide⟩, ?_⟩))

/-! ### texts of bits -/
def bc (b : Bool) : Nat := if b then 49 else 48
def tx (l : List Bool) : Str := ⟨(l.map bc).toArray⟩
theorem bc_inj {a b : Bool} (h : bc a = bc b) : a = b := by cases a <;> cases b <;> simp [bc] at h <;> rfl
theorem tx_len (l : List Bool) : (tx l).length = l.length := by show ((l.map bc).toArray).size = _; simp
theorem tx_cps (l : List Bool) : (tx l).cps.toList = l.map bc := rfl
theorem tx_inj {a b : List Bool} (h : tx a = tx b) : a = b := by
  have e : (tx a).cps.toList = (tx b).cps.toList := by rw [h]
  rw [tx_cps, tx_cps] at e
  induction a generalizing b with
  | nil => cases b with
    | nil => rfl
    | cons y b => cases e
  | cons x a ih => cases b with
    | nil => cases e
    | cons y b =>
      rw [List.map_cons, List.map_cons] at e
      injection e with e1 e2
      rw [bc_inj e1, ih (by show (⟨_⟩ : Str) = ⟨_⟩; rw [e2]) e2]
theorem tx_eq (a b : List Bool) : (tx a = tx b) ↔ a = b := ⟨tx_inj, fun h => by rw [h]⟩
theorem tx_get {l : List Bool} {i c : Nat} (h : (tx l).cps[i]? = some c) : ∃ b, l[i]? = some b ∧ c = bc b := by
  have e : (l.map bc)[i]? = some c := by
    have z : ((l.map bc).toArray)[i]? = some c := h
    simpa using z
  rw [List.getElem?_map] at e
  cases q : l[i]? with
  | none => rw [q] at e; cases e
  | some b => rw [q] at e; exact ⟨b, rfl, (Option.some.inj e).symm⟩
theorem tx_append (a b : List Bool) : tx a ++ tx b = tx (a ++ b) := by
  show (⟨(tx a).cps ++ (tx b).cps⟩ : Str) = tx (a ++ b)
  unfold tx
  simp
theorem tx_nil : tx [] = ("" : Str) := by decide +kernel
theorem tx_0 : tx [false] = ("0" : Str) := by decide +kernel
theorem tx_1 : tx [true] = ("1" : Str) := by decide +kernel
theorem tx_01 : tx [false, true] = ("01" : Str) := by decide +kernel
theorem tx_10 : tx [true, false] = ("10" : Str) := by decide +kernel
theorem take_cps (z : Str) : z.cps.toList.take z.cps.size = z.cps.toList := by
  rw [← Array.length_toList, List.take_length]
/-- one sign of such a text -/
theorem tx_one (b : Bool) : (⟨#[bc b]⟩ : Str) = tx [b] := by cases b <;> rfl
/-- the number of a text of bits -/
def numF (n : Nat) (l : List Bool) : Nat := l.foldl (fun n b => 2 * n + (if b then 1 else 0)) n
def num (l : List Bool) : Nat := numF 0 l
theorem num_snoc (l : List Bool) (b : Bool) : num (l ++ [b]) = 2 * num l + (if b then 1 else 0) := by
  unfold num numF
  rw [List.foldl_append]
  rfl
theorem numF_eq (l : List Bool) : ∀ n, numF n l = n * 2 ^ l.length + num l := by
  induction l with
  | nil => intro n; simp [numF, num]
  | cons b l ih =>
    intro n
    have e1 : numF n (b :: l) = numF (2 * n + (if b then 1 else 0)) l := rfl
    have e2 : num (b :: l) = numF (0 + (if b then 1 else 0)) l := rfl
    rw [e1, e2, ih, ih, List.length_cons, Nat.pow_succ]
    have h1 : (2 * n + (if b then 1 else 0)) * 2 ^ l.length = n * (2 ^ l.length * 2) + (if b then 1 else 0) * 2 ^ l.length := by
      rw [Nat.add_mul, Nat.mul_comm 2 n, Nat.mul_assoc, Nat.mul_comm 2]
    rw [h1, Nat.zero_add]
    omega
theorem num_cons (b : Bool) (l : List Bool) : num (b :: l) = (if b then 1 else 0) * 2 ^ l.length + num l := by
  have e : num (b :: l) = numF (0 + (if b then 1 else 0)) l := rfl
  rw [e, numF_eq, Nat.zero_add]
theorem num_append (a b : List Bool) : num (a ++ b) = num a * 2 ^ b.length + num b := by
  have e : num (a ++ b) = numF (num a) b := by unfold num numF; rw [List.foldl_append]
  rw [e, numF_eq]
theorem num_lt (l : List Bool) : num l < 2 ^ l.length := by
  induction l with
  | nil => simp [num, numF]
  | cons b l ih =>
    rw [num_cons, List.length_cons, Nat.pow_succ]
    cases b
    · simp only [Bool.false_eq_true, if_false]; omega
    · simp only [if_true]; omega
theorem num_inj {a b : List Bool} (hl : a.length = b.length) (h : num a = num b) : a = b := by
  induction a generalizing b with
  | nil => cases b with
    | nil => rfl
    | cons y b => cases hl
  | cons x a ih => cases b with
    | nil => cases hl
    | cons y b =>
      have hl' : a.length = b.length := by simpa using hl
      rw [num_cons, num_cons, hl'] at h
      have h1 := num_lt a
      have h2 := num_lt b
      rw [hl'] at h1
      cases x <;> cases y
      · rw [ih hl' (by simpa using h)]
      · simp at h; omega
      · simp at h; omega
      · rw [ih hl' (by simpa using h)]
/-- the word of a number -/
def word (n w : Nat) : List Bool := (List.range w).map fun i => decide (n / 2 ^ (w - 1 - i) % 2 = 1)
theorem word_len (n w : Nat) : (word n w).length = w := by unfold word; simp
theorem word_succ (n w : Nat) : word n (w + 1) = word (n / 2) w ++ [decide (n % 2 = 1)] := by
  unfold word
  rw [List.range_succ, List.map_append]
  congr 1
  · refine List.map_congr_left fun i hi => ?_
    have hi := List.mem_range.mp hi
    have e : w + 1 - 1 - i = (w - 1 - i) + 1 := by omega
    rw [e, Nat.pow_succ, Nat.mul_comm, Nat.div_div_eq_div_mul]
  · simp
theorem num_word : ∀ (w n : Nat), num (word n w) = n % 2 ^ w
  | 0, n => by simp [word, num, numF, Nat.mod_one]
  | w + 1, n => by
    rw [word_succ, num_snoc, num_word w]
    have h1 : n % 2 ^ (w + 1) = 2 * (n / 2 % 2 ^ w) + n % 2 := by
      rw [Nat.pow_succ, Nat.mul_comm, Nat.mod_mul]
      omega
    rw [h1]
    rcases Nat.mod_two_eq_zero_or_one n with h | h <;> simp [h]
theorem word_num (l : List Bool) : word (num l) l.length = l :=
  num_inj (word_len _ _) (by rw [num_word, Nat.mod_eq_of_lt (num_lt l)])

theorem sjoin_tx : ∀ l : List Bool, Str.join ("" : Str) (l.map fun b => tx [b]) = tx l
  | [] => by rw [tx_nil]; rfl
  | [_] => rfl
  | b :: c :: r => by
    show tx [b] ++ ("" : Str) ++ Str.join ("" : Str) ((c :: r).map fun b => tx [b]) = _
    rw [sjoin_tx (c :: r), ← tx_nil, tx_append, tx_append]
    rfl
theorem join_tx (l : List Bool) : Txt.join ("" : Str) (l.map fun b => tx [b]) = tx l := (TL.join_eq _ _).trans (sjoin_tx l)

theorem tx_lens (l : List Bool) : ((l.map fun b => tx [b]).map (·.length)).sum = l.length := by
  induction l with
  | nil => rfl
  | cons b l ih =>
    rw [List.map_cons, List.map_cons, List.sum_cons, ih, List.length_cons, tx_len]
    simp only [List.length_cons, List.length_nil]
    omega
theorem len_empty : (Str.ofString "").length = 0 := by decide +kernel

/-! ### things of a told kind -/
inductive Thing (H : Hp) : V → Prop
  | non : Thing H .non
  | bl (b : Bool) : Thing H (.bl b)
  | int (i : Int) : Thing H (.int i)
  | str (z : Str) (h : z.length ≤ 100000) (h2 : z.cps.toList.all (fun c => decide (c < 1114112)) = true) : Thing H (.str z)
  | lst {a : Addr} {xs : List V} (h : H a = some (.lst xs)) : Thing H (.ref a)
  | tup {a : Addr} {xs : List V} (h : H a = some (.tup xs)) : Thing H (.ref a)
  | dct {a : Addr} {kvs : List (Key × V)} (h : H a = some (.dK kvs)) : Thing H (.ref a)
theorem Thing.same {H H' : Hp} (e : Same H H') {x : V} (t : Thing H x) : Thing H' x := by
  cases t with
  | non => exact .non
  | bl b => exact .bl b
  | int i => exact .int i
  | str z h h2 => exact .str z h h2
  | lst h => exact .lst (e _ _ h)
  | tup h => exact .tup (e _ _ h)
  | dct h => exact .dct (e _ _ h)
def kind : V → String
  | .non => "NoneType" | .bl _ => "bool" | .int _ => "int" | .str _ => "str" | _ => "other"
theorem Thing.ty {K : PySem.W.Frag} {H : Hp} {x : V} (t : Thing H x) : ∃ n, TyX K H x (.type n) ∧ (kind x = n ∨ (kind x = "other" ∧ (n = "list" ∨ n = "tuple" ∨ n = "dict"))) := by
  cases t with
  | non => exact ⟨_, .base .non, .inl rfl⟩
  | bl b => exact ⟨_, .base (.bl b), .inl rfl⟩
  | int i => exact ⟨_, .base (.int i), .inl rfl⟩
  | str z => exact ⟨_, .base (.str z), .inl rfl⟩
  | lst h => exact ⟨_, .base (.lst h), .inr ⟨rfl, .inl rfl⟩⟩
  | tup h => exact ⟨_, .base (.tup h), .inr ⟨rfl, .inr (.inl rfl)⟩⟩
  | dct h => exact ⟨_, .base (.dK h), .inr ⟨rfl, .inr (.inr rfl)⟩⟩
def isI : V → Bool
  | .int _ => true | .bl _ => true | _ => false
def isB : V → Bool
  | .bl _ => true | _ => false
def isS : V → Bool
  | .str _ => true | _ => false
theorem Thing.isInt {K : PySem.W.Frag} {H : Hp} {x : V} (t : Thing H x) : ∃ n, TyX K H x (.type n) ∧ PySem.W.kitOne K (.type n) (.type "int") = some (isI x) := by
  cases t with
  | non => exact ⟨_, .base .non, kit_ty (r := false) (by decide +kernel)⟩
  | bl b => exact ⟨_, .base (.bl b), kit_ty (r := true) (by decide +kernel)⟩
  | int i => exact ⟨_, .base (.int i), kit_ty (r := true) (by decide +kernel)⟩
  | str z => exact ⟨_, .base (.str z), kit_ty (r := false) (by decide +kernel)⟩
  | lst h => exact ⟨_, .base (.lst h), kit_ty (r := false) (by decide +kernel)⟩
  | tup h => exact ⟨_, .base (.tup h), kit_ty (r := false) (by decide +kernel)⟩
  | dct h => exact ⟨_, .base (.dK h), kit_ty (r := false) (by decide +kernel)⟩
theorem Thing.isBool {K : PySem.W.Frag} {H : Hp} {x : V} (t : Thing H x) : ∃ n, TyX K H x (.type n) ∧ PySem.W.kitOne K (.type n) (.type "bool") = some (isB x) := by
  cases t with
  | non => exact ⟨_, .base .non, kit_ty (r := false) (by decide +kernel)⟩
  | bl b => exact ⟨_, .base (.bl b), kit_ty (r := true) (by decide +kernel)⟩
  | int i => exact ⟨_, .base (.int i), kit_ty (r := false) (by decide +kernel)⟩
  | str z => exact ⟨_, .base (.str z), kit_ty (r := false) (by decide +kernel)⟩
  | lst h => exact ⟨_, .base (.lst h), kit_ty (r := false) (by decide +kernel)⟩
  | tup h => exact ⟨_, .base (.tup h), kit_ty (r := false) (by decide +kernel)⟩
  | dct h => exact ⟨_, .base (.dK h), kit_ty (r := false) (by decide +kernel)⟩
theorem Thing.isStr {K : PySem.W.Frag} {H : Hp} {x : V} (t : Thing H x) : ∃ n, TyX K H x (.type n) ∧ PySem.W.kitOne K (.type n) (.type "str") = some (isS x) := by
  cases t with
  | non => exact ⟨_, .base .non, kit_ty (r := false) (by decide +kernel)⟩
  | bl b => exact ⟨_, .base (.bl b), kit_ty (r := false) (by decide +kernel)⟩
  | int i => exact ⟨_, .base (.int i), kit_ty (r := false) (by decide +kernel)⟩
  | str z => exact ⟨_, .base (.str z), kit_ty (r := true) (by decide +kernel)⟩
  | lst h => exact ⟨_, .base (.lst h), kit_ty (r := false) (by decide +kernel)⟩
  | tup h => exact ⟨_, .base (.tup h), kit_ty (r := false) (by decide +kernel)⟩
  | dct h => exact ⟨_, .base (.dK h), kit_ty (r := false) (by decide +kernel)⟩
theorem sok_tx (l : List Bool) : (tx l).cps.toList.all (fun c => decide (c < 1114112)) = true := by
  rw [tx_cps, List.all_map, List.all_eq_true]
  intro b _
  cases b <;> rfl
theorem thing_tx {H : Hp} {l : List Bool} (h : l.length ≤ 100000) : Thing H (.str (tx l)) := .str _ (by rw [tx_len]; exact h) (sok_tx l)
/-- a whole number from lo to hi -/
def isAmong (x : V) (lo hi : Int) : Bool := match x with
  | .int i => decide (lo ≤ i) && decide (i ≤ hi)
  | _ => false
/-- a text of so many bits -/
def isBits (x : V) (lo hi : Int) : Bool := match x with
  | .str z => decide (lo ≤ (z.length : Int)) && decide ((z.length : Int) ≤ hi) && z.cps.toList.all (fun c => decide (c = 48 ∨ c = 49))
  | _ => false
theorem bits_tx (l : List Bool) : (tx l).cps.toList.all (fun c => decide (c = 48 ∨ c = 49)) = true := by
  rw [tx_cps, List.all_map, List.all_eq_true]
  intro b _
  cases b <;> rfl
theorem isBits_tx (l : List Bool) (lo hi : Int) : isBits (.str (tx l)) lo hi = (decide (lo ≤ (l.length : Int)) && decide ((l.length : Int) ≤ hi)) := by
  show (decide (lo ≤ ((tx l).length : Int)) && decide (((tx l).length : Int) ≤ hi) && (tx l).cps.toList.all (fun c => decide (c = 48 ∨ c = 49))) = _
  rw [bits_tx, tx_len, Bool.and_true]
theorem bits_of {z : Str} (h : z.cps.toList.all (fun c => decide (c = 48 ∨ c = 49)) = true) : ∃ l, z = tx l := by
  refine ⟨z.cps.toList.map fun c => decide (c = 49), ?_⟩
  have e : (z.cps.toList.map fun c => decide (c = 49)).map bc = z.cps.toList := by
    rw [List.map_map]
    refine (List.map_congr_left fun c hc => ?_).trans (List.map_id _)
    have q := of_decide_eq_true (List.all_eq_true.mp h c hc)
    rcases q with q | q <;> subst q <;> rfl
  obtain ⟨a⟩ := z
  show (⟨a⟩ : Str) = ⟨_⟩
  rw [e]

/-! ### shifts of numbers that are not negative -/
section
variable {X : Cx}
theorem op_shl1 : OpR X (binaryOp .LShift) (fun x y H Q => ∃ n k : Nat, x = .int (n : Int) ∧ y = .int (k : Int) ∧ k ≤ 1000 ∧ n < 2 ^ 64 ∧ Q (.int ((n * 2 ^ k : Nat) : Int)) H) := by
  intro pins s σ H x y v u Q I rx ry h
  obtain ⟨n, k, rfl, rfl, hk, hn, q⟩ := h
  refine op_shl pins s σ H _ _ v u Q I rx ry ⟨_, _, rfl, rfl, ⟨by omega, by omega, by omega⟩, ?_⟩
  have e : ((n : Int) * 2 ^ (k : Int).toNat) = ((n * 2 ^ k : Nat) : Int) := by
    rw [Int.toNat_natCast, Int.natCast_mul, Int.natCast_pow]
    rfl
  show Q (.int ((n : Int) * 2 ^ (k : Int).toNat)) H
  rw [e]
  exact q
end
theorem pow_pos2 (k : Nat) : 0 < 2 ^ k := Nat.pow_pos (by decide)
theorem mul64 {n : Nat} {j : Int} (h : n < 2 ^ 64) : CMul (n : Int) j := .inl ⟨by omega, by omega⟩
theorem pow64 {l : List Bool} {v : Nat} (h : l.length ≤ v) (hv : v ≤ 64) : num l < 2 ^ 64 :=
  Nat.lt_of_lt_of_le (num_lt l) (Nat.pow_le_pow_right (by decide) (Nat.le_trans h hv))

/-! ### data that may be compared -/
def DOk (k : Nat) (d : PyData) : Prop := PyData.canLay0 d = true ∧ PyData.depth d ≤ k
theorem dok_none {k : Nat} : DOk k .none := ⟨by simp only [PyData.canLay0], by simp only [PyData.depth]; omega⟩
theorem dok_bool {k : Nat} (b : Bool) : DOk k (.bool b) := ⟨by simp only [PyData.canLay0], by simp only [PyData.depth]; omega⟩
theorem dok_int {k : Nat} (i : Int) : DOk k (.int i) := ⟨by simp only [PyData.canLay0], by simp only [PyData.depth]; omega⟩
theorem dok_str {k : Nat} {z : Str} (h : z.cps.toList.all (fun c => decide (c < 1114112)) = true) : DOk k (.str z) := ⟨by
  simp only [PyData.canLay0]
  show z.cps.all (fun c => decide (c < 0x110000)) = true
  rw [← Array.all_toList]
  exact h, by simp only [PyData.depth]; omega⟩
theorem canAll {ds : List PyData} (h : ∀ d ∈ ds, PyData.canLay0 d = true) : PyData.canLayAll0 ds = true := by
  induction ds with
  | nil => simp only [PyData.canLayAll0]
  | cons d ds ih => simp only [PyData.canLayAll0, h d List.mem_cons_self, ih fun x hx => h x (List.mem_cons_of_mem _ hx), Bool.and_self]
theorem depAll {ds : List PyData} {k : Nat} (h : ∀ d ∈ ds, PyData.depth d ≤ k) : PyData.depthAll ds ≤ k := by
  induction ds with
  | nil => simp only [PyData.depthAll]; omega
  | cons d ds ih =>
    have h1 := h d List.mem_cons_self
    have h2 := ih fun x hx => h x (List.mem_cons_of_mem _ hx)
    simp only [PyData.depthAll]
    omega
theorem dok_list {k : Nat} {ds : List PyData} (h : ∀ d ∈ ds, DOk k d) : DOk (k + 1) (.list ds) :=
  ⟨by simp only [PyData.canLay0]; exact canAll fun d hd => (h d hd).1, by have := depAll fun d hd => (h d hd).2; simp only [PyData.depth]; omega⟩
theorem dok_tup {k : Nat} {ds : List PyData} (h : ∀ d ∈ ds, DOk k d) : DOk (k + 1) (.tuple ds) :=
  ⟨by simp only [PyData.canLay0]; exact canAll fun d hd => (h d hd).1, by have := depAll fun d hd => (h d hd).2; simp only [PyData.depth]; omega⟩
theorem DOk.shaped {k : Nat} {d : PyData} (h : DOk k d) (hk : k ≤ 64 := by decide) : SeqAt.shaped d = true := by
  show (PyData.canLay0 d && decide (PyData.depth d ≤ 64)) = true
  rw [h.1, decide_eq_true (Nat.le_trans h.2 hk)]
  rfl
theorem eqv_nil (ds : List PyData) : PyData.eqv (.list ds) (.list []) = ds.isEmpty := by cases ds <;> simp [PyData.eqv, PyData.eqvAll]

/-! ### heaps -/
theorem Same_upd {H H' : Hp} {p : Addr} {o : HO} (s : Same H H') (h : H' p = none) : Same H (upd H' p o) := fun b u e => by
  rw [upd_ne (ne_of_none (s _ _ e) h)]
  exact s _ _ e
/-- an object made since may change -/
theorem Same_mut {H H' : Hp} {p : Addr} {o : HO} (s : Same H H') (h : H p = none) : Same H (upd H' p o) := fun b u e => by
  rw [upd_ne (ne_of_none e h)]
  exact s _ _ e
theorem Same_t {H H1 H2 : Hp} (a : Same H H1) (b : Same H1 H2) : Same H H2 := fun c o h => b c o (a c o h)

/-! ### comprehensions whose turns leave the heap but for what they make: F i is the list behind i turns -/
def PvF (H1 : Hp) (D : Addr) (F : Nat → List V) (i : Nat) (H : Hp) : Prop := Same H1 H ∧ H D = some (.lst (F i))
section
variable {H1 H : Hp} {D : Addr} {F : Nat → List V} {i : Nat} {y : V}
theorem pv0 (hD : H1 D = none) (hF : F 0 = [] := by rfl) : PvF H1 D F 0 (upd H1 D (.lst [])) := ⟨Same_upd (Same.refl H1) hD, by rw [hF]; exact upd_same⟩
theorem pv_in (hD : H1 D = none) (s : Same H1 H) (h : H D = some (.lst (F i))) (hl : (F i).length < 100000) (e : F (i + 1) = F i ++ [y]) :
    ∃ acc, H D = some (.lst acc) ∧ acc.length < sizeLine ∧ PvF H1 D F (i + 1) (upd H D (.lst (acc ++ [y]))) :=
  ⟨_, h, Nat.lt_trans hl (by decide), Same_mut s hD, by rw [e]; exact upd_same⟩
theorem pv_out (s : Same H1 H) (h : H D = some (.lst (F i))) (e : F (i + 1) = F i) : PvF H1 D F (i + 1) H := ⟨s, by rw [e]; exact h⟩
end
/-- a comprehension without a test -/
theorem yesI {A B : Hp → Prop} {σ : L2.St} {H : Hp} (h : A H) : tYes σ H (fun b H3 => if b = true then A H3 else B H3) := iteT (B := B H) h
/-- the first i of a list -/
theorem take_snoc {α : Type} {l : List α} {i : Nat} {x : α} (h : l[i]? = some x) : l.take (i + 1) = l.take i ++ [x] := by
  rw [List.take_add_one, h]
  rfl
end Br

/-! Rules that the hand layer lacks: list(text), text * int, dict != {}. -/
namespace Br
open PySem PySem.Spec PyProof.Rows L2
section
variable {X : Cx}
/-- list(text): its signs -/
theorem call_list_str (hc : X.calm = true) : CallR X (.type "list") (fun xs H Q => ∃ z, xs = [.str z] ∧ z.length ≤ 100000 ∧ ∀ q, H q = none → Q (.ref q) (upd H q (.lst (z.cps.toList.map fun c => V.str ⟨#[c]⟩)))) := by
  intro pins s σ H xs us Q I r h
  obtain ⟨z, rfl, hz, q⟩ := h
  obtain ⟨u, rfl, rx⟩ := vals1 r
  obtain ⟨t, rfl⟩ := rx
  have hz' : z.cps.size ≤ 100000 := hz
  refine PySem.call_list_str (I.ok.hd hc) z t (fun h' tk acc' c' hkeep hS hacc => ?_) (Nat.le_trans hz' (by decide))
  refine ⟨.ref s.heap.objs.size, upd H s.heap.objs.size (.lst (z.cps.toList.map fun c => V.str ⟨#[c]⟩)), I.laid hkeep (Nat.le_refl _) (show ObjOk X.prog X.w _ _ _ (.lst _) from ⟨?_, acc'.toList, c', ?_, ?_⟩), rfl, q _ (I.hok.fresh (Nat.le_refl _))⟩
  · rw [List.length_map, Array.length_toList]
    exact Nat.le_trans hz' (by decide)
  · refine vals_of_at (by rw [List.length_map, Array.length_toList, Array.length_toList, hacc.1]) fun j x w h1 h2 => ?_
    obtain ⟨c, u, hc2, e⟩ := hacc.2 j w (by rw [← Array.getElem?_toList]; exact h2)
    have e2 : z.cps.toList[j]? = some c := by rw [Array.getElem?_toList]; exact hc2
    rw [List.getElem?_map, e2] at h1
    cases h1
    exact ⟨u, e⟩
  · rw [Array.toArray_toList]
    exact hS
/-- a text a small number of times -/
theorem op_mul_si : OpR X (binaryOp .Mult) (fun x y H Q => ∃ (z : Str) (n : Int), x = .str z ∧ y = .int n ∧ z.length ≤ 1000 ∧ 0 ≤ n ∧ n ≤ 1000 ∧ Q (.str (Txt.mul z n)) H) := by
  intro pins s σ H x y v u Q I rx ry h
  obtain ⟨z, n, rfl, rfl, hz, h0, hn, q⟩ := h
  obtain ⟨t, rfl⟩ := rx
  obtain ⟨t', rfl⟩ := ry
  refine SB.mul ⟨?_, fun h1 _ => ?_, fun h1 _ => ?_⟩ fun t' k => ⟨.str (Txt.mul z n), H, I.tok _, ⟨_, rfl⟩, q⟩
  · rw [Bool.or_eq_false_iff]
    exact ⟨decide_eq_false (by omega), decide_eq_false (by omega)⟩
  · have a : n * (9223372036854775 : Int) ≤ 2 ^ 63 - 1 := by omega
    have : (9223372036854775 : Int) ≤ (2 ^ 63 - 1) / n := Int.le_ediv_of_mul_le (by omega) (by rw [Int.mul_comm]; exact a)
    omega
  · have e : z.length * n.toNat ≤ 1000 * 1000 := Nat.mul_le_mul hz (by omega)
    unfold Builtin.Str.tooLong
    rw [decide_eq_false_iff_not]
    have : 1000 * 1000 ≤ sizeLine := by decide
    omega
/-- rows != {} -/
theorem op_ne_d (hu : X.A.units + 1 < cLine) : OpR X (compareOp .NotEq) (fun x y H Q => ∃ a b ks, x = .ref a ∧ y = .ref b ∧ H a = some (.dK ks) ∧ H b = some (.dK []) ∧ Q (.bl (!ks.isEmpty)) H) := by
  intro pins s σ H x y v u Q I rx ry h
  obtain ⟨a, b, ks, rfl, rfl, ea, eb, q⟩ := h
  obtain rfl : v = Value.ref a := rx
  obtain rfl : u = Value.ref b := ry
  obtain ⟨_, ya, va, ra, da⟩ := (show ObjOk X.prog X.w H s.heap a (.dK ks) from I.hok a _ ea)
  obtain ⟨_, yb, vb, rb, db⟩ := (show ObjOk X.prog X.w H s.heap b (.dK []) from I.hok b _ eb)
  cases rb
  cases ks with
  | nil =>
    cases ra
    exact PySem.W.keq_ne (knd := mixKind X.prog X.w) (r := true) ya yb da db (by omega) (fun _ => .nil) (fin_bl I q rfl)
  | cons p ks =>
    cases ra with
    | cons h t => exact PySem.W.keq_ne (knd := mixKind X.prog X.w) (r := true) ya yb da db (by omega) (fun e => nomatch e) (fin_bl I q rfl)
theorem units1 {k : Nat} {A : Around} (r : Room k A) : A.units + 65 < cLine := by have := r.un; omega
/-! rules that name the frame, for bodies of comprehensions -/
theorem pe_fldK (K : PySem.W.Frag) {o : Expr} {ta : TE} {f : Str} {pos : Pos} (ha : PE X o ta) (hb : attributeBase o f X.env (eval o X.env) = eval o X.env) (hK : X.K = K := by rfl) : PE X (.Attribute o f pos) (tFld K ta f) := by
  subst hK
  exact pe_fld ha hb
theorem ix_listK (K : PySem.W.Frag) (hK : X.K = K := by rfl) : IxR X (rIxL K) := by subst hK; exact ix_list
theorem ix_tupK (K : PySem.W.Frag) (hK : X.K = K := by rfl) : IxR X (rIxT K) := by subst hK; exact ix_tup
theorem call_len_seqK (K : PySem.W.Frag) (hK : X.K = K := by rfl) : CallR X (.builtin "len") (fun xs H Q => ∃ p ys, xs = [.ref p] ∧ (SqL K H p ys ∨ SqT K H p ys) ∧ Q (.int ys.length) H) := by subst hK; exact call_len_seq
theorem call_isiK (K : PySem.W.Frag) (hK : X.K = K := by rfl) : CallR X (.builtin "isinstance") (rIsi K) := by subst hK; exact call_isi
theorem op_eqDK (K : PySem.W.Frag) (hu : X.A.units + 64 < cLine) (hK : X.K = K := by rfl) : OpR X (compareOp .Eq) (rEqD K) := by subst hK; exact op_eqD hu
theorem op_neDK (K : PySem.W.Frag) (hu : X.A.units + 64 < cLine) (hK : X.K = K := by rfl) : OpR X (compareOp .NotEq) (rNeD K) := by subst hK; exact op_neD hu
end
end Br

/-! defs whose code object is known: they make lambdas -/
namespace Br
open PySem PySem.Spec PyProof.Rows L2
open C8 (Cal)
/-- a def of the text whose code's object is at c -/
structure DnC (K : PySem.W.Frag) (mg : Str → Option Value) (x : Str) (st : Stmt) (ps : List Str) (c : Addr) : Prop where
  ex : ∃ (f : Addr) (oc dV kV doc pm ct : Value) (od an : Option Addr) (osl : Array (Option Value)), K.lookup f = some ⟨oc, od, .func (PySem.W.fnOf x x (C8.fnArgs st) (C8.fnBody st) (C8.fnScope st) dV kV doc pm an (.ref c) ct), osl⟩ ∧ PySem.W.codeIn K (.ref c) x = true ∧
    mg x = some (.ref f) ∧ PySem.W.keepIn K (.ref f) = true ∧ Binds K (PySem.W.fnOf x x (C8.fnArgs st) (C8.fnBody st) (C8.fnScope st) dV kV doc pm an (.ref c) ct) ps []
section
variable {P : Program} {w : World} {K : PySem.W.Frag} {mg : Str → Option Value} {base : Heap}
/-- a def whose code's object is known -/
theorem fn0C {x qual : Str} {st : Stmt} {f c : Addr} {N ps : List Str} {k : Nat} {sp : Sp} {oc dV kV doc pm ct : Value} {od an : Option Addr} {osl : Array (Option Value)} (lk : K.lookup f = some ⟨oc, od, .func (PySem.W.fnOf x qual (C8.fnArgs st) (C8.fnBody st) (C8.fnScope st) dV kV doc pm an (.ref c) ct), osl⟩) (hcd : PySem.W.codeIn K (.ref c) qual = true)
    (S : FnScope N ps (C8.fnScope st)) (len : ∀ vs H Q E, sp vs H Q E → vs.length = ps.length)
    (hbody : ∀ (A : Around) (outer : List Env) (s : Shared) (H : Hp) (vs : List V) (Q : VK) (E : XK), Room k (A.deeper (envOfC qual (C8.fnScope st) s.heap.objs.size f (.ref c))) → sp vs H Q E →
      ∃ t, PSs (cxOf C8.CX0 P w K mg base N qual (C8.fnScope st) f (.ref c) A outer s H E).nox (C8.fnBody st) t ∧ t { nx := fun _ H' => Q .non H', rt := Q } (L2.start N vs) H) : FnOk P w K mg base C8.CX0 (k + 1) f (PySem.W.fnOf x qual (C8.fnArgs st) (C8.fnBody st) (C8.fnScope st) dV kV doc pm an (.ref c) ct) ps sp :=
  fn_of lk hcd S len fun A outer s H vs Q E hr hsp => by
    obtain ⟨t, h, q⟩ := hbody A outer s H vs Q E hr hsp
    exact ⟨t, h.nox, q⟩
theorem DnC.cal {x : Str} {st : Stmt} {N ps : List Str} {c : Addr} {k : Nat} {sp : Sp} (D : DnC K mg x st ps c) (S : FnScope N ps (C8.fnScope st)) (len : ∀ vs H Q E, sp vs H Q E → vs.length = ps.length)
    (hbody : ∀ (f : Addr) (A : Around) (outer : List Env) (s : Shared) (H : Hp) (vs : List V) (Q : VK) (E : XK), Room k (A.deeper (envOfC x (C8.fnScope st) s.heap.objs.size f (.ref c))) → sp vs H Q E →
      ∃ t, PSs (cxOf C8.CX0 P w K mg base N x (C8.fnScope st) f (.ref c) A outer s H E).nox (C8.fnBody st) t ∧ t { nx := fun _ H' => Q .non H', rt := Q } (start N vs) H) : Cal P w K mg base (k + 1) x sp [] := by
  obtain ⟨f, oc, dV, kV, doc, pm, ct, od, an, osl, lk, hc, hm, hk, hb⟩ := D.ex
  exact ⟨f, _, ps, [], fn0C lk hc S len fun A outer s H vs Q E hr h => hbody f A outer s H vs Q E hr h, hm, hk, hb, .nil⟩
end
end Br

/-! sorted by a key that a function of ours tells -/
namespace SKey
open PySem PyProof.Rows
section
variable {prog : Program} {w : World} {A : Around} {E : Value → Shared → Prop} {s : Shared} {a kS : Addr} {b : Bool} {vs : List Value} {kz : List Int} {keys : Array Value} {e e1 : Nat} {P : PySem.Fin → Shared → Prop}
theorem sk_tail {st : SortSt} (nk : s.heap.get? kS = some (seqObj "list" keys e)) (na : s.heap.get? a = some (seqObj "list" #[] e1)) (hka : kS ≠ a)
    (hk : IntsAre keys.toList kz) (hlen : kz.length = vs.length) (hZ : vs.length ≤ sizeLine) (hp : (arrOf st).Perm (keys.zip vs.toArray)) (hs : SortedTo (arrOf st) (arrOf st).size) (hfl : failedOf st = none)
    (h : ∀ h' out c, (∀ b o, b ≠ kS → b ≠ a → s.heap.get? b = some o → h'.get? b = some o) → h'.get? a = some (seqObj "list" out c) → KskOut b kz vs out.toList → P (.done (.ret .none)) { s with heap := h' }) :
    wpAny (model prog w) A (ksk_tail a b e1 (.ref kS) st) P E s := by
  have hZ2 := hZ
  rw [sizeLine_eq] at hZ2
  have hsz : keys.size = vs.length := by
    have h1 := hk.length
    rw [Array.length_toList] at h1
    omega
  have hsz2 : (arrOf st).size = vs.length := by rw [hp.size_eq, Array.size_zip, hsz, List.size_toArray, Nat.min_self]
  have hout : (if b then ((arrOf st).map (·.2)).reverse else (arrOf st).map (·.2)).size = vs.length := by
    cases b with
    | false => simp only [Bool.false_eq_true, if_false, Array.size_map]; exact hsz2
    | true => simp only [if_true, Array.size_reverse, Array.size_map]; exact hsz2
  have s1 := Heap.SameBut.update s.heap kS (Obj.mapSeq fun _ => (#[] : Array Value))
  have na1 : (s.heap.update kS (Obj.mapSeq fun _ => (#[] : Array Value))).get? a = some (seqObj "list" #[] e1) := (s1.2 a hka.symm).trans na
  have s2 := Heap.SameBut.update (s.heap.update kS (Obj.mapSeq fun _ => (#[] : Array Value))) a (Obj.mapSeq fun _ => if b then ((arrOf st).map (·.2)).reverse else (arrOf st).map (·.2))
  obtain ⟨c2, hc2⟩ : ∃ c2, ((s.heap.update kS (Obj.mapSeq fun _ => (#[] : Array Value))).update a (Obj.mapSeq fun _ => if b then ((arrOf st).map (·.2)).reverse else (arrOf st).map (·.2))).get? a = some (seqObj "list" (if b then ((arrOf st).map (·.2)).reverse else (arrOf st).map (·.2)) c2) :=
    ⟨_, get?_update_seq na1 fun _ => if b then ((arrOf st).map (·.2)).reverse else (arrOf st).map (·.2)⟩
  unfold ksk_tail
  try dsimp only
  refine wpAny_bind (listUpdate_at nk rfl ?_ (by rw [hsz, sizeLine_eq]; omega) (Nat.zero_le _))
  refine wpAny_bind (wpAny_letGo ?_)
  refine wpAny_bind (seqEpoch_at na1 rfl ?_)
  refine wpAny_bind (listUpdate_at na1 rfl ?_ (Nat.zero_le _) (Nat.le_trans (Nat.le_of_eq hout) (by rw [sizeLine_eq]; omega)))
  rw [hfl]
  simp only [bne_self_eq_false, Bool.false_eq_true, if_false]
  exact wpAny_pure (h _ _ c2 (fun b' o n1 n2 q => (s2.2 b' n2).trans ((s1.2 b' n1).trans q)) hc2 (ksk_out hk hp hs))
theorem sk_end (nk : s.heap.get? kS = some (seqObj "list" keys e)) (na : s.heap.get? a = some (seqObj "list" #[] e1)) (hka : kS ≠ a) (hk : IntsAre keys.toList kz) (hlen : kz.length = vs.length) (hZ : vs.length ≤ sizeLine)
    (h : ∀ h' out c, (∀ b o, b ≠ kS → b ≠ a → s.heap.get? b = some o → h'.get? b = some o) → h'.get? a = some (seqObj "list" out c) → KskOut b kz vs out.toList → P (.done (.ret .none)) { s with heap := h' }) :
    wpAny (model prog w) A (ksk_end a b vs.toArray e1 (.ref kS) keys) P E s := by
  have hZ2 := hZ
  rw [sizeLine_eq] at hZ2
  have hsz : keys.size = vs.length := by
    have h1 := hk.length
    rw [Array.length_toList] at h1
    omega
  have hzs : (keys.zip vs.toArray).size = vs.length := by rw [Array.size_zip, hsz, List.size_toArray, Nat.min_self]
  have step : ∀ t : Sem PySem.Fin, wpAny (model prog w) A t P E s → wpAny (model prog w) A (if b = true then (do let _ ← rule "list.sort.reverse"; t) else t) P E s := by
    intro t ht
    split
    · exact wpAny_bind (wpAny_rule ht)
    · exact ht
  have hstart : (if b = true then (keys.zip vs.toArray).reverse else keys.zip vs.toArray).Perm (keys.zip vs.toArray) := by
    cases b with
    | false => exact Array.Perm.refl _
    | true => exact Array.perm_iff_toList_perm.mpr (by rw [if_pos rfl, Array.toList_reverse]; exact List.reverse_perm _)
  unfold ksk_end
  try dsimp only
  refine step _ ?_
  by_cases h2 : vs.toArray.size < 2
  · rw [if_pos h2, if_pos h2]
    refine wpAny_bind (wpAny_pure ?_)
    rw [StateT.run_pure]
    refine wpAny_bind (wpAny_pure ?_)
    try dsimp only
    refine sk_tail (st := SortSt.mk' general' (if b = true then (keys.zip vs.toArray).reverse else keys.zip vs.toArray) #[] 7 none) nk na hka hk hlen hZ hstart ?_ rfl h
    intro i j hij hj
    have hj2 : j < (if b = true then (keys.zip vs.toArray).reverse else keys.zip vs.toArray).size := hj
    rw [hstart.size_eq, hzs] at hj2
    rw [List.size_toArray] at h2
    have : i = j := by omega
    subst this
    exact Int.le_refl _
  · rw [if_neg h2, if_neg h2]
    rw [List.size_toArray] at h2
    rw [ksk_kind hk (by rw [hsz]; omega)]
    refine wpAny_bind (wpAny_pure ?_)
    refine wpAny_bind (wpAny_mono (wpS_sortRunsAny (κ := intKind) (a₀ := keys.zip vs.toArray) (st := SortSt.mk' oneType' (if b = true then (keys.zip vs.toArray).reverse else keys.zip vs.toArray) #[] 7 none)
      (Q := fun _ st' => (arrOf st').Perm (keys.zip vs.toArray) ∧ failedOf st' = none ∧ SortedTo (arrOf st') (keys.zip vs.toArray).size)
      intKind_oneLt (ksk_keysOfInt (ksk_intKeys hk)) ⟨hstart, rfl, rfl⟩ rfl (by rw [hzs]; omega) fun st' a1 a2 a3 => ⟨a1, a2, sortedTo_of_int a3⟩) ?_ fun _ _ e => e)
    rintro ⟨⟨⟩, st'⟩ s' ⟨rfl, hp, hf, hs⟩
    try dsimp only
    exact sk_tail nk na hka hk hlen hZ hp (by rw [hp.size_eq]; exact hs) hf h
/-- J: what holds between the calls of the key's function -/
theorem sk_rest {f : Value} {J : Shared → Prop} (J0 : J s) (nk : s.heap.get? kS = some (seqObj "list" #[] 0)) (na : s.heap.get? a = some (seqObj "list" #[] e1)) (hka : kS ≠ a)
    (hlen : kz.length = vs.length) (hZ : vs.length ≤ sizeLine)
    (up : ∀ (s' : Shared) (h' : Heap), J s' → (∀ b o, b ≠ kS → b ≠ a → s'.heap.get? b = some o → h'.get? b = some o) → J { s' with heap := h' })
    (turn : ∀ (i : Nat) (v : Value) (k : Int), vs[i]? = some v → kz[i]? = some k → ∀ (s' : Shared) (kA : Array Value) (e : Nat), J s' → s'.heap.get? kS = some (seqObj "list" kA e) → s'.heap.get? a = some (seqObj "list" #[] e1) →
      wpAny (model prog w) A (call f [v]) (fun u s'' => ∃ t, u = .int k t ∧ J s'' ∧ s''.heap.get? kS = some (seqObj "list" kA e) ∧ s''.heap.get? a = some (seqObj "list" #[] e1)) (fun _ _ => False) s')
    (h : ∀ (s' : Shared) (out : Array Value) (c : Nat), J s' → s'.heap.get? a = some (seqObj "list" out c) → KskOut b kz vs out.toList → P (.done (.ret .none)) s') :
    wpAny (model prog w) A (ksk_rest a f b vs.toArray e1 (.ref kS)) P E s := by
  have hZ2 := hZ
  rw [sizeLine_eq] at hZ2
  unfold ksk_rest
  refine wpAny_bind (wpAny_rule ?_)
  first
    | rw [List.forIn_toArray]
    | (rw [← Array.forIn_toList]; simp only [List.toList_toArray])
    | rw [← Array.forIn_toList]
  refine wpAny_bind (ksk_fold (fun i s' => J s' ∧ ∃ kA e, s'.heap.get? kS = some (seqObj "list" kA e) ∧ s'.heap.get? a = some (seqObj "list" #[] e1) ∧ IntsAre kA.toList (kz.take i)) vs 0 s
    ⟨J0, #[], 0, nk, na, by simpa using IntsAre.nil⟩ ?step ?done)
  case step =>
    rintro j x s' hx ⟨J', kA, e, nk', na', hk⟩
    simp only [Nat.zero_add] at hk ⊢
    have hj : j < vs.length := (List.getElem?_eq_some_iff.mp hx).1
    obtain ⟨k, hkj⟩ : ∃ k, kz[j]? = some k := ⟨_, List.getElem?_eq_getElem (by omega)⟩
    have hz : kA.size ≤ vs.length := by
      have h1 := hk.length
      rw [Array.length_toList, List.length_take] at h1
      omega
    refine wpAny_bind (wpAny_attempt (wpAny_mono (turn j x k hx hkj s' kA e J' nk' na') (fun v s'' he => ?_) fun _ _ hF => hF.elim))
    obtain ⟨t2, rfl, J2, nk2, na2⟩ := he
    try dsimp only
    have s1 := Heap.SameBut.update s''.heap kS (Obj.mapSeq (·.push (.int k t2)))
    obtain ⟨c2, hc2⟩ : ∃ c2, (s''.heap.update kS (Obj.mapSeq (·.push (.int k t2)))).get? kS = some (seqObj "list" (kA.push (.int k t2)) c2) := ⟨_, get?_update_seq nk2 (·.push (.int k t2))⟩
    have ek : kz.take (j + 1) = kz.take j ++ [k] := by rw [List.take_add_one, hkj]; simp
    have ea : (kA.push (Value.int k t2)).toList = kA.toList ++ [Value.int k t2] := by simp
    refine wpAny_bind (listUpdate_at nk2 rfl ?_ (by rw [sizeLine_eq]; omega) (Nat.le_trans (Nat.le_of_eq (Array.size_push ..)) (by rw [sizeLine_eq]; omega)))
    exact wpAny_pure ⟨rfl, up s'' _ J2 (fun b o n1 _ q => (s1.2 b n1).trans q), kA.push (.int k t2), c2, hc2, (s1.2 a hka.symm).trans na2, by rw [ea, ek]; exact ksk_snoc hk⟩
  case done =>
    rintro s' ⟨J', kA, e, nk', na', hk⟩
    have hk' : IntsAre kA.toList kz := by
      have e3 : kz.take (0 + vs.length) = kz := List.take_of_length_le (by omega)
      rw [e3] at hk
      exact hk
    try dsimp only
    refine wpAny_bind (listItems_at nk' rfl ?_)
    exact sk_end nk' na' hka hk' hlen hZ fun h3 out c k3 a3 o3 => h _ out c (up s' h3 J' k3) a3 o3
theorem sk_sort {f : Value} {n : Nat} {J : Addr → Shared → Prop} (ho : s.heap.get? a = some (seqObj "list" vs.toArray n)) (hlen : kz.length = vs.length) (hZ : vs.length ≤ sizeLine)
    (st : ∀ (kS : Addr) (h1 : Heap), (∀ b o, b ≠ a → s.heap.get? b = some o → h1.get? b = some o) → s.heap.objs.size ≤ kS → J kS { s with heap := h1 })
    (up : ∀ (kS : Addr) (s' : Shared) (h' : Heap), s.heap.objs.size ≤ kS → J kS s' → (∀ b o, b ≠ kS → b ≠ a → s'.heap.get? b = some o → h'.get? b = some o) → J kS { s' with heap := h' })
    (turn : ∀ (kS : Addr) (e1 : Nat) (i : Nat) (v : Value) (k : Int), s.heap.objs.size ≤ kS → vs[i]? = some v → kz[i]? = some k → ∀ (s' : Shared) (kA : Array Value) (e : Nat), J kS s' → s'.heap.get? kS = some (seqObj "list" kA e) → s'.heap.get? a = some (seqObj "list" #[] e1) →
      wpAny (model prog w) A (call f [v]) (fun u s'' => ∃ t, u = .int k t ∧ J kS s'' ∧ s''.heap.get? kS = some (seqObj "list" kA e) ∧ s''.heap.get? a = some (seqObj "list" #[] e1)) (fun _ _ => False) s')
    (h : ∀ (kS : Addr) (s' : Shared) (out : Array Value) (c : Nat), J kS s' → s'.heap.get? a = some (seqObj "list" out c) → KskOut b kz vs out.toList → P (.done (.ret .none)) s') :
    wpAny (model prog w) A (ksk_tree a f b) P E s := by
  have hZ2 := hZ
  rw [sizeLine_eq] at hZ2
  have ha : a < s.heap.objs.size := Heap.lt_size ho
  have s1 := Heap.SameBut.update s.heap a (Obj.mapSeq fun _ => (#[] : Array Value))
  obtain ⟨e1, ho1⟩ : ∃ e1, (s.heap.update a (Obj.mapSeq fun _ => (#[] : Array Value))).get? a = some (seqObj "list" #[] e1) := ⟨_, get?_update_seq ho fun _ => #[]⟩
  have hkS : ((s.heap.update a (Obj.mapSeq fun _ => (#[] : Array Value))).push (seqObj "tuple" vs.toArray 0)).objs.size = s.heap.objs.size + 1 := by rw [size_push', Heap.size_update]
  unfold ksk_tree
  refine wpAny_bind (listItems_at ho rfl ?_)
  refine wpAny_bind (listUpdate_at ho rfl ?_ (by rw [List.size_toArray, sizeLine_eq]; omega) (Nat.zero_le _))
  refine wpAny_bind (seqEpoch_at ho1 rfl ?_)
  refine wpAny_bind (wpAny_newTuple ?_ (by show vs.length ≤ _; rw [sizeLine_eq]; omega))
  refine wpAny_bind (wpAny_newList ?_ (Nat.zero_le _))
  refine wpAny_holding ?_
  have hle : s.heap.objs.size ≤ ((s.heap.update a (Obj.mapSeq fun _ => (#[] : Array Value))).push (seqObj "tuple" vs.toArray 0)).objs.size := by rw [hkS]; exact Nat.le_succ _
  refine sk_rest (J := J ((s.heap.update a (Obj.mapSeq fun _ => (#[] : Array Value))).push (seqObj "tuple" vs.toArray 0)).objs.size) (s := { s with heap := ((s.heap.update a (Obj.mapSeq fun _ => (#[] : Array Value))).push (seqObj "tuple" vs.toArray 0)).push (seqObj "list" #[] 0) }) (kS := ((s.heap.update a (Obj.mapSeq fun _ => (#[] : Array Value))).push (seqObj "tuple" vs.toArray 0)).objs.size)
    (st _ _ (fun b o n q => Heap.get?_push_of_some _ (Heap.get?_push_of_some _ ((s1.2 b n).trans q))) hle) (Heap.get?_push_size _ rfl) (Heap.get?_push_of_some _ (Heap.get?_push_of_some _ ho1)) (by rw [hkS]; exact Nat.ne_of_gt (Nat.lt_succ_of_lt ha)) hlen hZ (fun s' h' => up _ s' h' hle) (fun i v k hv hk => turn _ e1 i v k hle hv hk) (fun s' out c => h _ s' out c)
end
end SKey

/-! a lambda with one parameter, called -/
namespace Br
open PySem PySem.Spec PyProof.Rows L2 LamX
/-- one parameter, no other name of its own -/
structure LamS1 (sc scope : Scope) (x : Str) : Prop where
  kind : scope.kind = .function
  co : scope.isCoroutine = false
  gen : scope.isGenerator = false
  loc : scope.names.lookup x = some .local
  own : ∀ y ∈ scope.names, y.2 ≠ .cell ∧ (y.2 = .local → y.1 = x)
  free : ∀ y ∈ scope.names, y.2 = .free → sc.names.lookup y.1 = some .cell ∨ sc.names.lookup y.1 = some .free
def lamS1B (sc scope : Scope) (x : Str) : Bool :=
  decide (scope.kind = .function) && !scope.isCoroutine && !scope.isGenerator && decide (scope.names.lookup x = some .local) && scope.names.all fun y => !decide (y.2 = .cell) && (!decide (y.2 = .local) || decide (y.1 = x)) && (!decide (y.2 = .free) || decide (sc.names.lookup y.1 = some .cell) || decide (sc.names.lookup y.1 = some .free))
theorem lamS1_by {sc scope : Scope} {x : Str} (h : lamS1B sc scope x = true) : LamS1 sc scope x := by
  unfold lamS1B at h
  simp only [Bool.and_eq_true, Bool.or_eq_true, Bool.not_eq_true', decide_eq_true_eq, decide_eq_false_iff_not, List.all_eq_true] at h
  obtain ⟨⟨⟨⟨h1, h2⟩, h3⟩, h4⟩, h5⟩ := h
  refine ⟨h1, h2, h3, h4, fun y hy => ⟨(h5 y hy).1.1, fun e => ?_⟩, fun y hy e => ?_⟩
  · rcases (h5 y hy).1.2 with z | z
    · exact absurd e z
    · exact z
  · rcases (h5 y hy).2 with (z | z) | z
    · exact absurd e z
    · exact .inl z
    · exact .inr z
theorem LamS1.has {X : Cx} {scope : Scope} {x : Str} (L : LamS1 X.env.scope scope x) (ok : X.Ok) : ∀ y ∈ scope.names, y.2 = .free → ∃ c, X.env.cells.lookup y.1 = some c := fun y hy e => by
  rcases L.free y hy e with k | k
  · exact ok.has _ (.inl k)
  · exact ok.has _ (.inr k)
/-- the context of the lambda's body, entered at s from the frames outer; N: its names -/
def lamCx1 (X : Cx) (N : List Str) (A : Around) (outer : List Env) (s : Shared) (H : Hp) (scope : Scope) (f c' : Addr) : Cx :=
  { lamCx X A outer s H (fun _ _ _ => False) scope f c' with N := N, xe := fun _ _ => False }
section
variable {X : Cx} {pins : List (Addr × Obj)} {σ σ' : L2.St} {H : Hp} {s : Shared} {N : List Str} {x : Str} {v : V} {u : Value}
/-- the lambda's slots: its parameter, then captured ones -/
def Caps (X : Cx) (N : List Str) (x : Str) (σ σ' : L2.St) (v : V) : Prop := ∀ (i : Nat) (y : Str) (z : V), N[i]? = some y → σ'[i]? = some (some z) → (y = x ∧ z = v) ∨ (y ≠ x ∧ ∃ j : Nat, X.N[j]? = some y ∧ σ[j]? = some (some z))
theorem lam_start1 {A : Around} {outer : List Env} {scope : Scope} {f c' : Addr} {h₁ : Heap} {tk : Nat} (I : Inv X pins σ H s) (L : LamS1 X.env.scope scope x) (e0 : Env0 X.prog X.w X.K X.mg X.base A outer s H) (hd : A.handled = none)
    (hns : h₁.Ns s.heap.objs.size fun y => [(x, u)].reverse.lookup y) (kp : ∀ b o, s.heap.get? b = some o → h₁.get? b = some o) (rv : RelV v u) (hN : σ'.length = N.length) (cap : Caps X N x σ σ' v) :
    Inv (lamCx1 X N A outer s H scope f c') [] σ' H { s with heap := h₁, toks := tk } := by
  have hfree := L.has I.ok
  have cm : ∀ {y c}, (cloFrom X.env.cells scope.names []).lookup y = some c → X.env.cells.lookup y = some c := fun {y c} e => by
    rcases cloFrom_mem (PySem.mem_of_lookup e) with hm | ⟨h1, h2⟩
    · cases hm
    · obtain ⟨c1, hc⟩ := hfree _ h1 rfl
      have hc : X.env.cells.lookup y = some c1 := hc
      have e2 : c = c1 := by
        rw [h2, hc] <;> rfl
      rw [e2]
      exact hc
  have look : ∀ {y}, scope.names.lookup y = some .free → ∃ c, (cloFrom X.env.cells scope.names []).lookup y = some c := fun {y} hl => by
    have hy : (y, NameKind.free) ∈ scope.names := PySem.mem_of_lookup hl
    exact mem_lookup (cloFrom_has (cells := X.env.cells) (acc := []) hy)
  have cellK : ∀ {c : Addr} {v : Option Value}, s.heap.IsCell c v → h₁.IsCell c v := fun {c v} ⟨o, ho, hd⟩ => ⟨o, kp _ _ ho, hd⟩
  have noA : ∀ b : Addr, b ∉ (lamCx1 X N A outer s H scope f c').ex := fun b z => absurd (show b ∈ ([] : List Addr) from z) (by simp)
  refine ⟨⟨e0.mod, L.kind, rfl, rfl, Nat.le_refl _, fun y z c e1 e2 => I.ok.inj y z c (cm e1) (cm e2), fun y hy => ?_, fun y c z _ => ?_, fun _ => hd, Around.frames_deeper e0.frames, .inr ⟨rfl, rfl⟩, fun b z => absurd z (noA b), e0.bs, e0.bsz, fun b _ _ => noA b,
      fun b z => absurd z (noA b), e0.funs, e0.frf⟩,
    rfl, e0.bare, Un.kept kp, ⟨_, hns, fun i y z e1 e2 e3 => ?_⟩, fun y c e => ?_, e0.hok.fresh (Nat.le_refl _), fun y c e => ?_, fun q hq => absurd (show q ∈ ([] : List (Addr × Obj)) ++ [] from hq) (by simp), e0.hok.kept kp, hN⟩
  · have hy : scope.names.lookup y = some .cell ∨ scope.names.lookup y = some .free := hy
    rcases hy with hy | hy
    · exact absurd rfl (L.own _ (PySem.mem_of_lookup hy)).1
    · exact look hy
  · have z : false = true := z
    cases z
  · have e3 : Vis scope y := e3
    rcases cap i y z e1 e2 with ⟨rfl, rfl⟩ | ⟨ne, j, j1, j2⟩
    · refine ⟨u, rv, .inl ⟨L.loc, ?_⟩⟩
      show [(y, u)].reverse.lookup y = some u
      simp
    · rcases e3 with k | k | k
      · exact absurd ((L.own _ (PySem.mem_of_lookup k)).2 rfl) ne
      · exact absurd rfl (L.own _ (PySem.mem_of_lookup k)).1
      · obtain ⟨m, hn, hl⟩ := I.loc
        have hvis : Vis X.env.scope y := (L.free _ (PySem.mem_of_lookup k) rfl).elim (fun k => .inr (.inl k)) (fun k => .inr (.inr k))
        obtain ⟨w', r, q⟩ := hl j y z j1 j2 hvis
        obtain ⟨c2, h2⟩ := look k
        refine ⟨w', r, .inr ⟨.inr k, c2, h2, ?_⟩⟩
        have c1 := cm h2
        rcases q with ⟨k', _⟩ | ⟨_, c3, e', z⟩
        · have k' : X.env.scope.names.lookup y = some .local := k'
          rcases L.free _ (PySem.mem_of_lookup k) rfl with k2 | k2 <;> rw [show X.env.scope.names.lookup y = _ from k2] at k' <;> cases k'
        · rw [c1] at e'
          cases e'
          exact cellK z
  · obtain ⟨w', z⟩ := I.cell y c (cm e)
    exact ⟨w', cellK z⟩
  · exact I.freeC y c (cm e)
/-- the lambda called -/
theorem lam_call1 {A : Around} {f c' : Addr} {pm ctv : Value} {params : Arguments} {body : Expr} {scope : Scope} {k : Nat} {tb : TE} {Q : VK} (I : Inv X pins σ H s) (e0 : Env0 X.prog X.w X.K X.mg X.base A X.stack s H) (hr : Room (k + 1) A) (L : LamS1 X.env.scope scope x)
    (hf : s.heap.get? f = some (PySem.W.kla_obj "<lambda>" (X.env.qual ++ "<lambda>") params body scope (cloFrom X.env.cells scope.names []) pm c' ctv)) (hc : H c' = some (CodeO c' (X.env.qual ++ "<lambda>")))
    (hbind : bindArgs (PySem.W.kla_fn "<lambda>" (X.env.qual ++ "<lambda>") params body scope (cloFrom X.env.cells scope.names []) pm (.ref c') ctv) ⟨[u], []⟩ = pure [(x, u)])
    (rv : RelV v u) (hN : σ'.length = N.length) (cap : Caps X N x σ σ' v) (hbody : PE (lamCx1 X N A X.stack s H scope f c') body tb) (ht : tb σ' H Q) :
    wpAny (model X.prog X.w) A (call (.ref f) [u]) (EP X pins σ Q) (fun _ _ => False) s := by
  obtain ⟨⟨oc, vs, t, hoc, hdc, hvc⟩, _, _⟩ := I.hok c' _ hc
  have rc : codeAny (model X.prog X.w) A (.call (.ref f) ⟨[u], []⟩) (CR C8.CX0 X.stack X.prog X.w H s Q (fun _ _ _ => False)) s := by
    refine PySem.W.kla_callFunE hr.depth hf rfl L.co L.gen rfl ⟨c', oc, vs, t, rfl, hoc, hdc, hvc⟩ ?_
    rw [hbind]
    refine wpAny_pure (wpAny_newFunctionEnv (fun y hy => (L.own y hy).1) (fun y hy => by rw [List.mem_singleton.mp hy]; exact L.loc) (fun h₁ hns hsb => ⟨I.nolimit.fresh _ hsb, ?_⟩) L.kind)
    show codeAny _ _ (.expr body (lamEnv X scope s.heap.objs.size f c')) _ _
    have kp : ∀ b o, s.heap.get? b = some o → h₁.get? b = some o := fun b o e => hsb.extBut b o (Nat.ne_of_lt (Heap.lt_size e)) (Heap.get?_push_of_some _ e)
    have J : Inv (lamCx1 X N A X.stack s H scope f c') [] σ' H { s with heap := h₁, toks := s.toks + [(x, u)].length } := lam_start1 I L e0 hr.hd hns kp rv hN cap
    refine PySem.W.kla_codeExpr (wpAny_mono (hbody.run [] _ _ H Q J ht) (fun v s' hq => ?_) fun e s' hq => hq.elim)
    obtain ⟨w', H', J', rv, q⟩ := hq
    exact ⟨w', H', J'.os, J'.bare, J'.base, J'.hok, rv, q⟩
  refine wpAny_call (codeAny_mono rc fun r s' hq => ?_)
  cases r with
  | error e => exact hq
  | ok fl =>
    cases fl with
    | ret u => exact I.after hq
    | next => exact False.elim hq
    | brk => exact False.elim hq
    | cont => exact False.elim hq
end
end Br

/-! sorted(d, key=lambda x: ..) -/
namespace Br
open PySem PySem.Spec PyProof.Rows L2 LamX
section
variable {X : Cx} {pins : List (Addr × Obj)} {σ : L2.St} {H : Hp} {s : Shared}
theorem key_out {xs : List V} {vs out : List Value} {kf : V → Int} (rv : Vals xs vs) (ko : KskOut false (xs.map kf) vs out) : ∃ ys : List V, Vals ys out ∧ ys.Perm xs ∧ ys.Pairwise (fun x y => kf x ≤ kf y) := by
  obtain ⟨ps, hp, rfl, hs⟩ := ko
  have l1 : xs.length = vs.length := rv.length
  have lz : ((xs.map kf).zip vs).length = vs.length := by rw [List.length_zip, List.length_map, l1, Nat.min_self]
  have m2 : (xs.zip ((xs.map kf).zip vs)).map Prod.snd = (xs.map kf).zip vs := List.map_snd_zip (by rw [lz, l1]; exact Nat.le_refl _)
  have m1 : (xs.zip ((xs.map kf).zip vs)).map Prod.fst = xs := List.map_fst_zip (by rw [lz, l1]; exact Nat.le_refl _)
  obtain ⟨zs, p, q⟩ := perm_lift Prod.snd hp _ m2
  have all : ∀ z ∈ zs, RelV z.1 z.2.2 ∧ z.2.1 = kf z.1 := by
    intro z hz
    obtain ⟨j, hj⟩ := List.mem_iff_getElem?.mp (p.mem_iff.mp hz)
    obtain ⟨h1, h2⟩ := List.getElem?_zip_eq_some.mp hj
    obtain ⟨h3, h4⟩ := List.getElem?_zip_eq_some.mp h2
    obtain ⟨u, h5, h6⟩ := rv.get h1
    have e : u = z.2.2 := Option.some.inj (h5.symm.trans h4)
    rw [e] at h6
    rw [List.getElem?_map, h1] at h3
    exact ⟨h6, (Option.some.inj h3).symm⟩
  refine ⟨zs.map Prod.fst, ?_, ?_, ?_⟩
  · have e : ps.map Prod.snd = zs.map fun z => z.2.2 := by rw [← q, List.map_map]; rfl
    rw [e]
    exact vals_maps Prod.fst (fun z => z.2.2) zs fun z hz => (all z hz).1
  · have h := p.map Prod.fst
    rw [m1] at h
    exact h
  · rw [← q, List.pairwise_map] at hs
    rw [List.pairwise_map]
    refine List.Pairwise.imp_of_mem (fun {x y} hx hy h => ?_) hs
    have h' : x.2.1 ≤ y.2.1 := h
    rw [(all x hx).2, (all y hy).2] at h'
    exact h'
theorem sorted_body {A : Around} {E : Value → Shared → Prop} {P : PySem.Fin → Shared → Prop} {a0 : Addr} {n : Nat} {f : Value} {xs : List V} {vs : List Value} {kf : V → Int} (I : Inv X pins σ H s) (ho : s.heap.get? a0 = some (seqObj "list" vs.toArray n)) (fa : FpOk X pins H a0)
    (rv : Vals xs vs) (hZ : xs.length ≤ sizeLine)
    (turn : ∀ (s' : Shared) (pins' : List (Addr × Obj)) (x : V) (u : Value), Inv X (pins' ++ pins) σ H s' → x ∈ xs → RelV x u → wpAny (model X.prog X.w) A (call f [u]) (EP X (pins' ++ pins) σ (fun v H' => v = .int (kf x) ∧ H' = H)) (fun _ _ => False) s')
    (ht : Builtin.«list.sort» ⟨[.ref a0], [(Str.ofString "key", f)]⟩ = ksk_tree a0 f false)
    (done : ∀ (s' : Shared) (ys : List V), Inv X pins σ (upd H a0 (.lst ys)) s' → ys.Perm xs → ys.Pairwise (fun x y => kf x ≤ kf y) → P (.done (.ret .none)) s') :
    wpAny (model X.prog X.w) A (Builtin.«list.sort» ⟨[.ref a0], [(Str.ofString "key", f)]⟩) P E s := by
  rw [ht]
  have hlen := rv.length
  have fk : ∀ kS, s.heap.objs.size ≤ kS → FpOk X pins H kS := fun kS hk => I.fpOk hk (I.hok.fresh hk)
  refine SKey.sk_sort (kz := xs.map kf) (J := fun kS s' => Inv X pins σ H s') ho (by rw [List.length_map, hlen]) (by rw [← hlen]; exact hZ) (fun kS h1 k hk => ?_) (fun kS s' h' hk J k => ?_) (fun kS e1 i v k hk hv hkz s' kA e J nk na => ?_) (fun kS s' out c J na ko => ?_)
  · exact I.turnedL (ch := [a0]) (t' := s.toks) (fun b o n e => k b o (fun z => n (by simp [z])) e) fun b hb => by rw [List.mem_singleton.mp hb]; exact fa
  · exact J.turnedL (ch := [kS, a0]) (t' := s'.toks) (fun b o n e => k b o (fun z => n (by simp [z])) (fun z => n (by simp [z])) e) fun b hb => by
      simp only [List.mem_cons, List.not_mem_nil, or_false] at hb
      rcases hb with rfl | rfl
      · exact fk _ hk
      · exact fa
  · rw [List.getElem?_map] at hkz
    cases ex : xs[i]? with
    | none => rw [ex] at hkz; cases hkz
    | some x =>
      rw [ex] at hkz
      cases hkz
      obtain ⟨u, h5, h6⟩ := rv.get ex
      rw [hv] at h5
      cases h5
      obtain ⟨a1, a2, a3, _⟩ := fa
      obtain ⟨b1, b2, b3, _⟩ := fk _ hk
      have J2 : Inv X ([(kS, seqObj "list" kA e), (a0, seqObj "list" #[] e1)] ++ pins) σ H s' := J.pins_of fun p hp => by
        rcases List.mem_append.mp hp with hp | hp
        · simp only [List.mem_cons, List.not_mem_nil, or_false] at hp
          rcases hp with rfl | rfl
          · exact ⟨nk, b1, b2, b3, fun v z => by cases z⟩
          · exact ⟨na, a1, a2, a3, fun v z => by cases z⟩
        · exact J.pin p (List.mem_append_right _ hp)
      refine wpAny_mono (turn s' _ x v J2 (List.mem_of_getElem? ex) h6) (fun u s'' hq => ?_) fun _ _ z => z
      obtain ⟨y, H', I2, r2, rfl, rfl⟩ := hq
      obtain ⟨t, rfl⟩ := r2
      refine ⟨t, rfl, I2.pins_of fun p hp => I2.pin p (List.mem_append_right _ (List.mem_append_right _ hp)), (I2.pin (kS, seqObj "list" kA e) (by simp)).1, (I2.pin (a0, seqObj "list" #[] e1) (by simp)).1⟩
  · obtain ⟨ys, g1, g2, g3⟩ := key_out rv ko
    refine done s' ys ?_ g2 g3
    have hl : ys.length ≤ sizeLine := by rw [g2.length_eq]; exact hZ
    exact J.take (t' := s'.toks) (fun _ _ _ e => e) fa (show ObjOk X.prog X.w _ _ _ (.lst ys) from ⟨hl, out.toList, c, g1, by rw [Array.toArray_toList]; exact na⟩)
end
end Br

/-! sorted(d, key=lambda x: ..) of a dict of texts, as an expression -/
namespace Br
open PySem PySem.Spec PyProof.Rows L2 LamX
/-- of a list of one -/
def one1 (R : V → Hp → Prop) : List V → Hp → Prop
  | [x], H => R x H
  | _, _ => False
theorem one1_of {R : V → Hp → Prop} : ∀ {vs : List V} {H : Hp}, one1 R vs H → ∃ x, vs = [x] ∧ R x H
  | [x], _, h => ⟨x, rfl, h⟩
  | [], _, h => h.elim
  | _ :: _ :: _, _, h => h.elim
def sortR (T : List (Addr × Str)) (i : Nat) (tb : TE) (σ : L2.St) (Q : VK) (xd : V) (H1 : Hp) : Prop := Tabs T H1 ∧ ∃ (a : Addr) (kvs : List (Key × V)) (ks : List Str) (kf : V → Int), xd = .ref a ∧ Rd H1 a (.dK kvs) ∧ kvs.map (·.1) = ks.map Sum.inr ∧ ks.length ≤ 100000 ∧
  (∀ z ∈ ks, ∀ (H2 : Hp) (Q' : VK), Q' (.int (kf (.str z))) H2 → tb [some (.str z), σ.getD i none] H2 Q') ∧
  ∀ (H2 : Hp) (ys : List Str) (p : Addr), ExtN H1 H2 → Tabs T H2 → ys.Perm ks → ys.Pairwise (fun x y => kf (.str x) ≤ kf (.str y)) → H2 p = none → Q (.ref p) (upd H2 p (.lst (ys.map V.str)))
/-- td: the dict; tb: the lambda's body, read at its parameter and the captured slot i -/
def tSortLam (T : List (Addr × Str)) (td : TE) (i : Nat) (tb : TE) : TE := fun σ H Q => td σ H fun xd H1 => sortR T i tb σ Q xd H1
theorem Rd.extN {H H' : Hp} {a : Addr} {kvs : List (Key × V)} (h : Rd H a (.dK kvs)) (e : ExtN H H') : Rd H' a (.dK kvs) :=
  h.elim (fun h => .inl (e _ _ h (by intro ps z; cases z))) fun ⟨o, h⟩ => .inr ⟨o, e _ _ h (by intro ps z; cases z)⟩
theorem strs_vals : ∀ {us : List Value} {ks : List Str}, StrsAre us ks → Vals (ks.map V.str) us
  | _, _, .nil => .nil
  | _, _, .cons _ t h => .cons ⟨t, rfl⟩ (strs_vals h)
section
variable {X : Cx} {T : List (Addr × Str)} {c P : Addr} {k i : Nat} {e : Expr} {td tb : TE} {params : Arguments} {body : Expr} {scope : Scope} {xp y : Str} {p lpos kpos pos : Pos}
theorem pe_sortLam (hcalm : X.calm = true) (hstk : X.stack = X.env :: X.outer) (hfrm : X.env.frame = some X.env.locals) (he : PE X e td) (hg : Gl X "sorted") (hm0 : X.mg "sorted" = none) (TB : TabB X.base X.mg c P) (hcode : X.env.code = .ref c) (hmT : (P, X.env.qual ++ "<lambda>") ∈ T) (hu : ∀ p ∈ T, p.1 = P → p.2 = X.env.qual ++ "<lambda>")
    (hr : Room (k + 3) X.A) (L : LamS1 X.env.scope scope xp) (hdef : defaultsOf params X.env = ([], []))
    (hbind : ∀ (q : Str) (cl : List (Str × Addr)) (pm cv ctv u : Value), bindArgs (PySem.W.kla_fn "<lambda>" q params body scope cl pm cv ctv) ⟨[u], []⟩ = pure [(xp, u)])
    (hy : X.N[i]? = some y) (hne : y ≠ xp)
    (hbody : ∀ (A : Around) (outer : List Env) (s : Shared) (H : Hp) (f c' : Addr), Room k (A.deeper (lamEnv X scope s.heap.objs.size f c')) → PE (lamCx1 X [xp, y] A outer s H scope f c') body tb)
    (hs0 : starEach [e] X.env = (false, eval e X.env) :: starEach [] X.env := by rfl) (hst : backTo pos (starEach [e] X.env) = (false, eval e X.env) :: backTo pos (starEach [] X.env) := by rfl) (hpl : (backTo pos (starEach [e] X.env)).any (·.1) = false := by rfl) :
    PE X (.Call (.Name "sorted" p) [e] [⟨some (Str.ofString "key"), .Lambda params body scope lpos, kpos⟩] pos) (tSortLam T td i tb) := by
  refine ⟨fun pins s σ H Q I h => ?_⟩
  refine wpAny_Call_Name_kw (ld_blt I hg hm0 (show bootBuiltins (Str.ofString "sorted") = some (.builtin "sorted") by decide +kernel) ?_ (by decide) (by decide))
  refine PyProof.Rows.callWith_kw (id := "sorted") (thn ((pa_cons he pa_nil (hs := hs0)).run pos pins s σ H (one1 (sortR T i tb σ Q)) I h) fun us s1 ⟨vs, H1, I1, r1, q1⟩ => ?_) hst hpl (by rfl) (by rfl)
  obtain ⟨xd, rfl, q1⟩ := one1_of q1
  · obtain ⟨hT, a, kvs, ks, kf, rfl, hd, hks, hz, hkf, q⟩ := q1
    obtain rfl := Vals.ref1 r1
    show wpAny _ _ (evalAll [(do let v ← eval (.Lambda params body scope lpos) X.env; standAt pos; pure v)]) _ _ s1
    refine wpAny_evalAll_cons (wpAny_bind (lam_make2 (T := T) I1 TB hcode hmT hu hT hdef (L.has I1.ok) fun f c' pm ctv H2 s2 I2 eN T2 hf hfn hfr hco => wpAny_bind (wpAny_standAt (wpAny_pure ?_))))
    refine wpAny_evalAll_nil ?_
    show wpAny _ _ (call (.builtin "sorted") [.ref a] [(Str.ofString "key", .ref f)]) _ _ _
    have hd2 := Rd.extN hd eN
    obtain ⟨z, lo, vs, rel, dd⟩ := dk_rd I2.hok hd2
    obtain ⟨ep, hat⟩ := dd.dictAt
    have hkeys : vs.map (·.1) = ks.map Sum.inr := rel.keys.symm.trans hks
    have hl : vs.length = ks.length := by
      have e := congrArg List.length hkeys
      rw [List.length_map, List.length_map] at e
      exact e
    have h16 : vs.length ≤ sizeLine := by rw [hl]; exact Nat.le_trans hz (by decide)
    refine PyProof.Rows.call_function_entry_kw PyProof.Rows.kind_sorted PyProof.Rows.plain_sorted PyProof.Rows.entry_sorted (PyProof.Rows.ksk_s1 _ _) ?_
    unfold Builtin.«sorted»
    refine wpAny_bind (m := checkCount "sorted" 1 1 _) (wpAny_pure ?_)
    refine wpAny_bind (PySem.W.kdu_collect (A := X.A.in1) (PySem.W.kdl_dict (knd := mixKind X.prog X.w) (kvs := vs) (ep := ep) lo) (I2.ok.hd hcalm) hat h16 fun h' tk acc hk hacc => ?_)
    have hal : acc.toList.length = ks.length := by rw [Array.length_toList, hacc.1, hl]
    have hS : StrsAre acc.toList ks := strs_at hal fun j v e => by
      obtain ⟨k, x, e1, e2⟩ := hacc.2 j v (by rw [← Array.getElem?_toList]; exact e)
      have e3 : (vs.map (·.1))[j]? = some k := by rw [List.getElem?_map, e1]; all_goals rfl
      rw [hkeys, List.getElem?_map] at e3
      cases e4 : ks[j]? with
      | none => rw [e4] at e3; cases e3
      | some y =>
        rw [e4] at e3
        have e5 : Sum.inr y = k := Option.some.inj e3
        subst e5
        obtain ⟨t, ev⟩ := Value.isStrOf_shape (x := y) (v := v) e2
        exact ⟨y, t, rfl, ev⟩
    have ofh : h'.get? f = some (PySem.W.kla_obj "<lambda>" (X.env.qual ++ "<lambda>") params body scope (cloFrom X.env.cells scope.names []) pm c' ctv) := hk _ _ hf
    have I3 : Inv X pins σ H2 { s2 with heap := h', toks := tk } := I2.kept hk
    have I4 : Inv X ((f, PySem.W.kla_obj "<lambda>" (X.env.qual ++ "<lambda>") params body scope (cloFrom X.env.cells scope.names []) pm c' ctv) :: pins) σ H2 { s2 with heap := h', toks := tk } := I3.pins_of fun p hp => by
      rcases List.mem_cons.mp hp with rfl | hp
      · refine ⟨ofh, hfn, fun z => hfr ?_, fun hin => ?_, fun v z => by cases z⟩
        · exact List.mem_filterMap.mpr ⟨X.env, by rw [hstk]; exact List.mem_cons_self, by rw [hfrm]; exact congrArg some z.symm⟩
        · obtain ⟨e, he, q⟩ := List.mem_filterMap.mp hin
          exact hfr (List.mem_filterMap.mpr ⟨e, by rw [hstk]; exact List.mem_cons_of_mem _ he, q⟩)
      · exact I3.pin p (List.mem_append_right _ hp)
    have fa := I4.fpOk (b := h'.objs.size) (Nat.le_refl _) (I4.hok.fresh (Nat.le_refl _))
    have hoL : (h'.push (seqObj "list" acc.toList.toArray 0)).get? h'.objs.size = some (seqObj "list" acc.toList.toArray 0) := Heap.get?_push_size _ rfl
    have I5 := I4.kept (t' := tk) (h' := h'.push (seqObj "list" acc.toList.toArray 0)) fun b u e => Heap.get?_push_of_some _ e
    refine wpAny_bind (wpAny_newList ?_ (by rw [hal]; exact Nat.le_trans hz (by decide)))
    show wpAny _ _ _ _ _ { s2 with heap := h'.push (seqObj "list" acc.toList.toArray 0), toks := tk }
    refine wpAny_bind (wpAny_holding (PyProof.Rows.wpAny_call_entry_kw PyProof.Rows.slot_list_sort ⟨_, hoL, rfl⟩ PyProof.Rows.entry_list_sort ?_ (PyProof.Rows.ksk_l1 _ _)))
    refine sorted_body (kf := kf) I5 hoL fa (strs_vals hS) (by rw [List.length_map]; exact Nat.le_trans hz (by decide)) (fun s' pins' x u J hx rx => ?_) (PyProof.Rows.ksk_t1 _ _) (fun s' ys J gp gs => ?_)
    · obtain ⟨z, hz2, rfl⟩ := List.mem_map.mp hx
      refine lam_call1 (σ' := [some (.str z), σ.getD i none]) (N := [xp, y]) (tb := tb) J J.env0.in1.in1 hr.in1.in1 L (J.pin (f, PySem.W.kla_obj "<lambda>" (X.env.qual ++ "<lambda>") params body scope (cloFrom X.env.cells scope.names []) pm c' ctv) (by simp)).1 hco (hbind _ _ _ _ _ _) rx rfl (fun j y' z' e1 e2 => ?_) (hbody _ _ _ _ _ _ (hr.in1.in1.deeper _)) (hkf z hz2 H2 _ ⟨rfl, rfl⟩)
      match j, e1, e2 with
      | 0, e1, e2 =>
        cases e1
        cases e2
        exact .inl ⟨rfl, rfl⟩
      | 1, e1, e2 =>
        cases e1
        have e2 : σ.getD i none = some z' := Option.some.inj e2
        refine .inr ⟨hne, i, hy, ?_⟩
        rw [List.getD_eq_getElem?_getD] at e2
        cases es : σ[i]? with
        | none => rw [es] at e2; cases e2
        | some o => rw [es] at e2; rw [← e2]; rfl
    · obtain ⟨ys', p1, rfl⟩ := perm_lift V.str gp ks rfl
      rw [List.pairwise_map] at gs
      refine ⟨_, rfl, wpAny_pure ⟨_, rfl, .ref h'.objs.size, upd H2 h'.objs.size (.lst (ys'.map V.str)), J.pins_of fun p hp => J.pin p (List.mem_append_right _ (List.mem_cons_of_mem _ hp)), rfl, q H2 ys' _ eN T2 p1 gs fa.1⟩⟩
end
end Br

/-! sorted(d) of a dict of texts, any number of them -/
namespace Br
open PySem PySem.Spec PyProof.Rows L2
def rSortedDA : List V → Hp → VK → Prop := fun xs H Q => ∃ (a : Addr) (kvs : List (Key × V)) (ks : List Str), xs = [.ref a] ∧ Rd H a (.dK kvs) ∧ kvs.map (·.1) = ks.map Sum.inr ∧ ks.length ≤ 100000 ∧ ∀ ys p, ys.Perm ks → sortedS ys = true → H p = none → Q (.ref p) (upd H p (.lst (ys.map V.str)))
/-- the keys, collected -/
theorem keys_strs {P : Program} {w : World} {ks : List Str} {vs : List (Key × Value)} {acc : Array Value} (hkeys : vs.map (·.1) = ks.map Sum.inr) (hal : acc.toList.length = ks.length) (h : ∀ (j : Nat) (v : Value), acc[j]? = some v → ∃ (k : Key) (x : Value), vs[j]? = some (k, x) ∧ (mixKind P w).is k v = true) : StrsAre acc.toList ks :=
  strs_at hal fun j v e => by
    obtain ⟨k, x, e1, e2⟩ := h j v (by rw [← Array.getElem?_toList]; exact e)
    have e3 : (ks.map (Sum.inr (α := Int)))[j]? = some k := by rw [← hkeys, List.getElem?_map, e1]; rfl
    rw [List.getElem?_map] at e3
    cases e4 : ks[j]? with
    | none => rw [e4] at e3; cases e3
    | some y =>
      rw [e4] at e3
      cases e3
      obtain ⟨t, ev⟩ := Value.isStrOf_shape (x := y) (v := v) e2
      exact ⟨y, t, rfl, ev⟩
section
variable {X : Cx}
theorem call_sortedDA (hcalm : X.calm = true) : CallR X (.builtin "sorted") rSortedDA := by
  intro pins s σ H xs us Q I r h
  obtain ⟨a, kvs, ks, rfl, hd, hks, hz, q⟩ := h
  obtain rfl := Vals.ref1 r
  obtain ⟨zk, lo, vs, rel, dd⟩ := dk_rd I.hok hd
  obtain ⟨ep, hat⟩ := dd.dictAt
  have hkeys : vs.map (·.1) = ks.map Sum.inr := rel.keys.symm.trans hks
  have hl : vs.length = ks.length := by
    rw [← List.length_map (f := (·.1)) (as := vs), hkeys, List.length_map]
  have big : ∀ n, n ≤ 100000 → n ≤ sizeLine := fun n h => Nat.le_trans h (by decide)
  refine Calls.call_function_entry kind_sorted plain_sorted entry_sorted (args_sorted1 _) ?_
  unfold Builtin.«sorted»
  refine wpAny_bind (m := checkCount "sorted" 1 1 _) (wpAny_pure ?_)
  refine wpAny_bind (PySem.W.kdu_collect (A := X.A.in1) (PySem.W.kdl_dict (knd := mixKind X.prog X.w) (kvs := vs) (ep := ep) lo) (I.ok.hd hcalm) hat (big _ (by omega)) fun h1 tk acc hk hacc => ?_)
  have hal : acc.toList.length = ks.length := by rw [Array.length_toList, hacc.1, hl]
  have hS : StrsAre acc.toList ks := keys_strs hkeys hal fun j v e => hacc.2 j v e
  have J : Inv X pins σ H { s with heap := h1, toks := tk } := I.kept hk
  refine wpAny_bind (wpAny_newList ?_ (big _ (by omega)))
  have at0 : (h1.push (seqObj "list" acc.toList.toArray 0)).get? h1.objs.size = some (seqObj "list" acc.toList.toArray 0) := Heap.get?_push_size _ rfl
  show wpAny _ _ _ _ _ { s with heap := h1.push (seqObj "list" acc.toList.toArray 0), toks := tk }
  refine wpAny_bind (wpAny_holding (wpAny_call_entry slot_list_sort ⟨_, at0, rfl⟩ entry_list_sort ?_ (args_list_sort _)))
  refine list_sort_treeKAny strKind_oneLt (s := { s with heap := h1.push (seqObj "list" acc.toList.toArray 0), toks := tk }) at0 hS.keysOf (fun v₁ v₂ rest e => keyKind_strs (by rw [← e]; exact hS)) (big _ (by omega)) fun st hp hs => ⟨_, rfl, ?_⟩
  obtain ⟨ys, g1, g2, g3⟩ := sorted_out_str hS hp hs
  obtain ⟨e2, he2⟩ := sortedHeap_at (vs := acc.toList) (out := (arrOf st).map (·.2)) at0
  have old : ∀ b u, h1.get? b = some u → (sortedHeap (h1.push (seqObj "list" acc.toList.toArray 0)) h1.objs.size acc.toList ((arrOf st).map (·.2))).get? b = some u := fun b u e => by
    have hb : b < h1.objs.size := Heap.lt_size e
    rw [sortedHeap_old (Nat.ne_of_lt hb) (by rw [size_push']; exact Nat.lt_succ_of_lt hb)]
    exact Heap.get?_push_of_some _ e
  refine wpAny_pure ⟨_, rfl, .ref h1.objs.size, _, J.laid (t' := tk) old (Nat.le_refl _) (o := .lst (ys.map V.str)) ?_, rfl, q ys _ g2 g3 (J.hok.fresh (Nat.le_refl _))⟩
  exact ⟨by rw [List.length_map, g2.length_eq]; exact big _ hz, ((arrOf st).map (·.2)).toList, e2, vals_of_strs g1, by rw [Array.toArray_toList]; exact he2⟩
end
end Br

/-! bitroads.words -/
namespace Br
open PySem PySem.Spec PyProof.Rows L2
open C8 (Cal Met Mak cal0 met0 mak0 pe_c pe_mk pe_mt pe_mt0 pe_gc Def)
def top (i : Nat) : Stmt := PySem.Challenge.pw_bitroads_k13_texts_refused.main.body.getD i (.Pass ⟨0, 0, 0, 0⟩)
/-- the built-ins are not shadowed; the module's constants -/
structure Glob (mg : Str → Option Value) : Prop where
  g_isinstance : mg "isinstance" = none
  g_len : mg "len" = none
  g_int : mg "int" = none
  g_bool : mg "bool" = none
  g_str : mg "str" = none
  g_list : mg "list" = none
  g_tuple : mg "tuple" = none
  g_dict : mg "dict" = none
  g_set : mg "set" = none
  g_range : mg "range" = none
  g_enumerate : mg "enumerate" = none
  g_sorted : mg "sorted" = none
  g_any : mg "any" = none
  g_all : mg "all" = none
  g_sum : mg "sum" = none
  g_min : mg "min" = none
  g_max : mg "max" = none
  g_MOST_WIDTH : ∃ u, mg "MOST_WIDTH" = some u ∧ RelV (.int 64) u
  g_MOST_ROAD : ∃ u, mg "MOST_ROAD" = some u ∧ RelV (.int 18446744073709551615) u
  g_BITS : ∃ u, mg "BITS" = some u ∧ RelV (.str (tx [false, true])) u
/-- a def of the text with all parameters given -/
structure Dn (K : PySem.W.Frag) (mg : Str → Option Value) (x : Str) (st : Stmt) (ps : List Str) : Prop where
  ex : ∃ (f : Addr) (fd : FuncData), Def K mg x st f fd ∧ Binds K fd ps []
section
variable {P : Program} {w : World} {K : PySem.W.Frag} {mg : Str → Option Value} {base : Heap}
theorem Dn.cal {x : Str} {st : Stmt} {N ps : List Str} {k : Nat} {sp : Sp} (D : Dn K mg x st ps) (S : FnScope N ps (C8.fnScope st)) (len : ∀ vs H Q E, sp vs H Q E → vs.length = ps.length)
    (hbody : ∀ (f : Addr) (cdv : Value) (A : Around) (outer : List Env) (s : Shared) (H : Hp) (vs : List V) (Q : VK) (E : XK), Room k (A.deeper (envOfC x (C8.fnScope st) s.heap.objs.size f cdv)) → sp vs H Q E →
      ∃ t, PSs (cxOf C8.CX0 P w K mg base N x (C8.fnScope st) f cdv A outer s H E).nox (C8.fnBody st) t ∧ t { nx := fun _ H' => Q .non H', rt := Q } (start N vs) H) : Cal P w K mg base (k + 1) x sp [] := by
  obtain ⟨f, fd, D, b⟩ := D.ex
  exact cal0 D b .nil S len fun cdv A outer s H vs Q E hr h => hbody f cdv A outer s H vs Q E hr h

abbrev s_is_among : Stmt := top 14
abbrev n_is_among : List Str := ["thing", "least", "most"]
theorem sc_is_among : FnScope n_is_among ["thing", "least", "most"] (C8.fnScope s_is_among) := ⟨rfl, rfl, rfl, by decide +kernel, rfl, by decide +kernel, by decide +kernel⟩
def spAmong : Sp := fun vs H Q _ => ∃ x lo hi, vs = [x, .int lo, .int hi] ∧ Thing H x ∧ Q (.bl (isAmong x lo hi)) H
theorem c_is_among (T : Glob mg) (D : Dn K mg "is_among" s_is_among ["thing", "least", "most"]) : Cal P w K mg base 1 "is_among" spAmong [] := by
  refine D.cal sc_is_among (fun vs H Q E h => ?_) (fun f cdv A outer s H vs Q E hr h => ?_)
  · obtain ⟨x, lo, hi, rfl, _⟩ := h
    rfl
  · obtain ⟨x, lo, hi, rfl, ht, k⟩ := h
    refine ⟨_, (pss_one (ps_ret (pe_and (pe_callB call_isi (by rfl) T.g_isinstance (by decide +kernel) (pa_cons (pv 0) (pa_cons (pe_bltn (v := .ty "int") (by rfl) T.g_int boot_int rfl) pa_nil))) (pe_and (pe_not (pe_callB call_isi (by rfl) T.g_isinstance (by decide +kernel) (pa_cons (pv 0) (pa_cons (pe_bltn (v := .ty "bool") (by rfl) T.g_bool boot_bool rfl) pa_nil)))) (pe_one (pe_chain op_le op_le (pv 1) (pv 0) (pv 2))))))), ?_⟩
    obtain ⟨n1, t1, k1⟩ := ht.isInt (K := K)
    obtain ⟨n2, t2, k2⟩ := ht.isBool (K := K)
    refine ⟨_, rfl, _, _, _, _, _, rfl, .ty _, t1, k1, _, rfl, ?_⟩
    cases x with
    | int i =>
      refine iteT ?_
      refine ⟨_, rfl, _, _, _, _, _, rfl, .ty _, t2, k2, _, rfl, _, rfl, ?_⟩
      refine iteT ?_
      refine ⟨_, rfl, _, rfl, _, _, rfl, rfl, _, rfl, ?_⟩
      refine ite2 (fun c => ?_) fun c => ?_
      · refine ⟨_, rfl, _, _, rfl, rfl, ?_⟩
        have e : isAmong (.int i) lo hi = decide (i ≤ hi) := by
          show (decide (lo ≤ i) && decide (i ≤ hi)) = _
          rw [c, Bool.true_and]
        rw [e] at k
        exact k
      · have e : isAmong (.int i) lo hi = false := by
          show (decide (lo ≤ i) && decide (i ≤ hi)) = _
          rw [Bool.eq_false_iff.mpr c, Bool.false_and]
        rw [e] at k
        exact k
    | bl b =>
      refine iteT ?_
      refine ⟨_, rfl, _, _, _, _, _, rfl, .ty _, t2, k2, _, rfl, _, rfl, ?_⟩
      exact iteF k
    | _ => exact iteF k
abbrev s_is_width : Stmt := top 15
abbrev n_is_width : List Str := ["thing"]
theorem sc_is_width : FnScope n_is_width ["thing"] (C8.fnScope s_is_width) := ⟨rfl, rfl, rfl, by decide +kernel, rfl, by decide +kernel, by decide +kernel⟩
def spWidth : Sp := fun vs H Q _ => ∃ x, vs = [x] ∧ Thing H x ∧ Q (.bl (isAmong x 1 64)) H
theorem c_is_width (T : Glob mg) (D : Dn K mg "is_width" s_is_width ["thing"]) (c_is_among : Cal P w K mg base 1 "is_among" spAmong []) : Cal P w K mg base 2 "is_width" spWidth [] := by
  refine D.cal sc_is_width (fun vs H Q E h => ?_) (fun f cdv A outer s H vs Q E hr h => ?_)
  · obtain ⟨x, rfl, _⟩ := h
    rfl
  · obtain ⟨x, rfl, ht, k⟩ := h
    exact ⟨_, (pss_one (ps_ret (pe_c c_is_among hr (by first | decide | omega) rfl (pa_cons (pv 0) (pa_cons pe_int (pa_cons (pe_gc rfl T.g_MOST_WIDTH) pa_nil)))))), _, rfl, _, _, _, rfl, ht, k⟩
abbrev s_is_road : Stmt := top 16
abbrev n_is_road : List Str := ["thing"]
theorem sc_is_road : FnScope n_is_road ["thing"] (C8.fnScope s_is_road) := ⟨rfl, rfl, rfl, by decide +kernel, rfl, by decide +kernel, by decide +kernel⟩
def spRoad : Sp := fun vs H Q _ => ∃ x, vs = [x] ∧ Thing H x ∧ Q (.bl (isAmong x 0 18446744073709551615)) H
theorem c_is_road (T : Glob mg) (D : Dn K mg "is_road" s_is_road ["thing"]) (c_is_among : Cal P w K mg base 1 "is_among" spAmong []) : Cal P w K mg base 2 "is_road" spRoad [] := by
  refine D.cal sc_is_road (fun vs H Q E h => ?_) (fun f cdv A outer s H vs Q E hr h => ?_)
  · obtain ⟨x, rfl, _⟩ := h
    rfl
  · obtain ⟨x, rfl, ht, k⟩ := h
    exact ⟨_, (pss_one (ps_ret (pe_c c_is_among hr (by first | decide | omega) rfl (pa_cons (pv 0) (pa_cons pe_int (pa_cons (pe_gc rfl T.g_MOST_ROAD) pa_nil)))))), _, rfl, _, _, _, rfl, ht, k⟩
abbrev s_is_bits : Stmt := top 17
abbrev n_is_bits : List Str := ["thing", "least", "most", "sign"]
theorem sc_is_bits : FnScope n_is_bits ["thing", "least", "most"] (C8.fnScope s_is_bits) := ⟨rfl, rfl, rfl, by decide +kernel, rfl, by decide +kernel, by decide +kernel⟩
def spBits : Sp := fun vs H Q _ => ∃ x lo hi, vs = [x, .int lo, .int hi] ∧ Thing H x ∧ ∀ H', Same H H' → Q (.bl (isBits x lo hi)) H'
theorem c_is_bits (T : Glob mg) (D : Dn K mg "is_bits" s_is_bits ["thing", "least", "most"]) : Cal P w K mg base 1 "is_bits" spBits [] := by
  refine D.cal sc_is_bits (fun vs H Q E h => ?_) (fun f cdv A outer s H vs Q E hr h => ?_)
  · obtain ⟨x, lo, hi, rfl, _⟩ := h
    rfl
  · obtain ⟨x, lo, hi, rfl, ht, k⟩ := h
    refine ⟨_, (pss_one (ps_ret (pe_and (pe_callB call_isi (by rfl) T.g_isinstance (by decide +kernel) (pa_cons (pv 0) (pa_cons (pe_bltn (v := .ty "str") (by rfl) T.g_str boot_str rfl) pa_nil))) (pe_and (pe_chain op_le op_le (pv 1) (pe_callB call_len_str (by rfl) T.g_len boot_len (pa_cons (pv 0) pa_nil)) (pv 2)) (pe_one (pe_callB (cr_all rfl) (by rfl) T.g_all (by decide +kernel) (pa_cons (pe_lc (own := [("sign", 3)]) (g := (gName 3)) (tt := tYes) rfl sc_is_bits.nd (pi_str (pv 0)) (blkOk_by (own := [("sign", 3)]) (N := n_is_bits) (sc := C8.fnScope s_is_bits) (by decide +kernel)) (fun _ _ _ _ _ => (pg_name (i := 3) sc_is_bits.nd rfl (by first | exact Or.inl rfl | exact Or.inr rfl))) (fun _ _ _ _ _ => pts_nil) (fun _ _ _ _ _ => (pe_cmpR op_in_sign (pv 3) (pe_gc rfl T.g_BITS) (by rfl)))) pa_nil))))))), ?_⟩
    obtain ⟨n1, t1, k1⟩ := ht.isStr (K := K)
    refine ⟨_, rfl, _, _, _, _, _, rfl, .ty _, t1, k1, _, rfl, ?_⟩
    cases x with
    | str z =>
      have hz : z.length ≤ 100000 := by cases ht; assumption
      refine iteT ?_
      refine ⟨_, rfl, _, rfl, _, rfl, Nat.le_trans hz (by decide), _, _, rfl, rfl, _, rfl, ?_⟩
      refine ite2 (fun c => ?_) fun c => ?_
      · refine ⟨_, rfl, _, _, rfl, rfl, _, rfl, ?_⟩
        refine ite2 (fun c2 => ?_) fun c2 => ?_
        · refine ⟨_, rfl, _, rfl, fun D hD => ?_⟩
          refine lc_it walk_str (PvF H D fun i => (z.cps.toList.take i).map fun c => V.bl (decide (c = 48 ∨ c = 49))) (pv0 hD) (fun _ _ _ _ => trivial) ?_ ?_
          · rintro i x H1 H2 hi ⟨s1, h1⟩ ⟨rfl, c, hc, rfl⟩
            refine ⟨rfl, yesI ?_⟩
            refine ⟨_, rfl, _, _, rfl, rfl, ?_⟩
            have hc' : z.cps.toList[i]? = some c := by simpa using hc
            refine pv_in hD s1 h1 ?_ ?_
            · simp only [List.length_map, List.length_take]
              have : i < z.cps.size := hi
              have : z.length = z.cps.size := rfl
              omega
            · show ((z.cps.toList.take (i + 1)).map _) = _
              rw [take_snoc hc', List.map_append]
              congr 1
              show [V.bl _] = [V.bl _]
              congr 2
              rw [tx_cps]
              simp [bc, or_comm]
          · rintro H1 ⟨s1, h1⟩
            refine ⟨_, z.cps.toList.map (fun c => decide (c = 48 ∨ c = 49)), rfl, SqL.of ?_, ?_⟩
            · rw [h1]
              show some (HO.lst ((z.cps.toList.take z.cps.size).map _)) = _
              rw [take_cps, List.map_map]
              rfl
            · have e : isBits (.str z) lo hi = (z.cps.toList.map (fun c => decide (c = 48 ∨ c = 49))).all id := by
                show (decide (lo ≤ (z.length : Int)) && decide ((z.length : Int) ≤ hi) && _) = _
                rw [c, c2, List.all_map]
                rfl
              rw [e] at k
              exact k H1 s1
        · have e : isBits (.str z) lo hi = false := by
            show (decide (lo ≤ (z.length : Int)) && decide ((z.length : Int) ≤ hi) && _) = _
            rw [Bool.eq_false_iff.mpr c2, Bool.and_false, Bool.false_and]
          rw [e] at k
          exact k H (Same.refl H)
      · have e : isBits (.str z) lo hi = false := by
          show (decide (lo ≤ (z.length : Int)) && decide ((z.length : Int) ≤ hi) && _) = _
          rw [Bool.eq_false_iff.mpr c, Bool.false_and, Bool.false_and]
        rw [e] at k
        refine ⟨_, rfl, iteF ?_⟩
        exact k H (Same.refl H)
    | _ => exact iteF (k H (Same.refl H))
abbrev s_is_word : Stmt := top 18
abbrev n_is_word : List Str := ["width", "thing"]
theorem sc_is_word : FnScope n_is_word ["width", "thing"] (C8.fnScope s_is_word) := ⟨rfl, rfl, rfl, by decide +kernel, rfl, by decide +kernel, by decide +kernel⟩
def spWord : Sp := fun vs H Q _ => ∃ x w, vs = [.int w, x] ∧ Thing H x ∧ ∀ H', Same H H' → Q (.bl (isBits x w w)) H'
theorem c_is_word (T : Glob mg) (D : Dn K mg "is_word" s_is_word ["width", "thing"]) (c_is_bits : Cal P w K mg base 1 "is_bits" spBits []) : Cal P w K mg base 2 "is_word" spWord [] := by
  refine D.cal sc_is_word (fun vs H Q E h => ?_) (fun f cdv A outer s H vs Q E hr h => ?_)
  · obtain ⟨x, w, rfl, _⟩ := h
    rfl
  · obtain ⟨x, w, rfl, ht, k⟩ := h
    exact ⟨_, (pss_one (ps_ret (pe_c c_is_bits hr (by first | decide | omega) rfl (pa_cons (pv 1) (pa_cons (pv 0) (pa_cons (pv 0) pa_nil)))))), _, rfl, _, rfl, _, rfl, _, _, _, rfl, ht, k⟩
abbrev s_is_start : Stmt := top 19
abbrev n_is_start : List Str := ["width", "thing"]
theorem sc_is_start : FnScope n_is_start ["width", "thing"] (C8.fnScope s_is_start) := ⟨rfl, rfl, rfl, by decide +kernel, rfl, by decide +kernel, by decide +kernel⟩
def spStart : Sp := fun vs H Q _ => ∃ x w, vs = [.int w, x] ∧ Thing H x ∧ ∀ H', Same H H' → Q (.bl (isBits x 0 w)) H'
theorem c_is_start (T : Glob mg) (D : Dn K mg "is_start" s_is_start ["width", "thing"]) (c_is_bits : Cal P w K mg base 1 "is_bits" spBits []) : Cal P w K mg base 2 "is_start" spStart [] := by
  refine D.cal sc_is_start (fun vs H Q E h => ?_) (fun f cdv A outer s H vs Q E hr h => ?_)
  · obtain ⟨x, w, rfl, _⟩ := h
    rfl
  · obtain ⟨x, w, rfl, ht, k⟩ := h
    exact ⟨_, (pss_one (ps_ret (pe_c c_is_bits hr (by first | decide | omega) rfl (pa_cons (pv 1) (pa_cons pe_int (pa_cons (pv 0) pa_nil)))))), _, rfl, _, rfl, _, _, _, rfl, ht, k⟩
/-! ### number_of, word_of, span_of -/
theorem bits_index (b : Bool) : Builtin.Str.occurrences (tx [false, true]) ⟨#[bc b]⟩ 0 (tx [false, true]).length 1 = [if b then 1 else 0] := by
  cases b <;> decide +kernel
abbrev s_number_of : Stmt := top 20
abbrev n_number_of : List Str := ["start", "number", "sign"]
theorem sc_number_of : FnScope n_number_of ["start"] (C8.fnScope s_number_of) := ⟨rfl, rfl, rfl, by decide +kernel, rfl, by decide +kernel, by decide +kernel⟩
def spNumber : Sp := fun vs H Q _ => ∃ l : List Bool, vs = [.str (tx l)] ∧ l.length ≤ 1000 ∧ Q (.int ((num l : Nat) : Int)) H
theorem c_number_of (T : Glob mg) (D : Dn K mg "number_of" s_number_of ["start"]) : Cal P w K mg base 1 "number_of" spNumber [] := by
  refine D.cal sc_number_of (fun vs H Q E h => ?_) (fun f cdv A outer s H vs Q E hr h => ?_)
  · obtain ⟨l, rfl, _⟩ := h
    rfl
  · obtain ⟨l, rfl, hl, k⟩ := h
    refine ⟨_, (pss_cons (ps_set (i := 1) sc_number_of.nd rfl (by first | exact Or.inl rfl | exact Or.inr rfl) pe_int)
      (pss_cons (ps_for PassesOwn.never rfl (pi_str (pv 0)) (pg_name (i := 2) sc_number_of.nd rfl (by first | exact Or.inl rfl | exact Or.inr rfl))
      (pss_one (ps_set (i := 1) sc_number_of.nd rfl (by first | exact Or.inl rfl | exact Or.inr rfl) (pe_op op_add (pe_op op_mul pe_int (pv 1)) (pe_m1 PySem.F.slot_str_index PySem.F.type_str_index mt_sindex (pe_gc rfl T.g_BITS) (pv 2))))))
      (pss_one (ps_ret (pv 1))))), ?_⟩
    refine ⟨_, rfl, _, rfl, for_it walk_str (fun i σ H' => ∃ v, σ = [some (.str (tx l)), some (.int ((num (l.take i) : Nat) : Int)), v] ∧ H' = H) ⟨none, rfl, rfl⟩ (fun _ _ _ _ _ => trivial) ?_ ?_⟩
    · rintro i x σ H1 H2 hi ⟨v, rfl, rfl⟩ ⟨rfl, c, hc, rfl⟩
      obtain ⟨b, hb, rfl⟩ := tx_get hc
      refine ⟨_, rfl, _, _, rfl, rfl, .inl ⟨by decide, by decide⟩, ⟨_, rfl⟩, _, rfl, _, _, _, _, rfl, rfl, bits_index b, _, _, rfl, rfl, ?_⟩
      refine ⟨some (.str ⟨#[bc b]⟩), ?_, rfl⟩
      have e : (2 * ((num (l.take i) : Nat) : Int) + ((if b then 1 else 0 : Nat) : Int)) = ((num (l.take (i + 1)) : Nat) : Int) := by
        rw [take_snoc hb, num_snoc]
        omega
      rw [← e]
      rfl
    · rintro σ H1 ⟨v, rfl, rfl⟩
      refine ⟨_, rfl, ?_⟩
      have e : l.take (tx l).cps.size = l := List.take_of_length_le (by show l.length ≤ (tx l).length; rw [tx_len]; exact Nat.le_refl _)
      rw [e]
      exact k
/-- the first and the last number of the words that a start fits -/
def lo (l : List Bool) (w : Nat) : Nat := num l * 2 ^ (w - l.length)
def hi (l : List Bool) (w : Nat) : Nat := lo l w + 2 ^ (w - l.length) - 1
theorem lo_le_hi (l : List Bool) (w : Nat) : lo l w ≤ hi l w := by unfold hi; have := pow_pos2 (w - l.length); omega
theorem lo_lt (l : List Bool) (w : Nat) (h : l.length ≤ w) : hi l w < 2 ^ w := by
  have h1 := num_lt l
  have h2 : 2 ^ w = 2 ^ l.length * 2 ^ (w - l.length) := by rw [← Nat.pow_add]; congr 1; omega
  have h3 : (num l + 1) * 2 ^ (w - l.length) ≤ 2 ^ l.length * 2 ^ (w - l.length) := Nat.mul_le_mul_right _ h1
  have h4 := pow_pos2 (w - l.length)
  rw [Nat.add_mul] at h3
  unfold hi lo
  omega
abbrev s_span_of : Stmt := top 21
abbrev n_span_of : List Str := ["start", "width", "size", "first"]
theorem sc_span_of : FnScope n_span_of ["start", "width"] (C8.fnScope s_span_of) := ⟨rfl, rfl, rfl, by decide +kernel, rfl, by decide +kernel, by decide +kernel⟩
def spSpan : Sp := fun vs H Q _ => ∃ (l : List Bool) (v : Nat), vs = [.str (tx l), .int (v : Int)] ∧ l.length ≤ v ∧ v ≤ 64 ∧ ∀ p, H p = none → Q (.ref p) (upd H p (.tup [.int ((lo l v : Nat) : Int), .int ((hi l v : Nat) : Int)]))
theorem c_span_of (T : Glob mg) (D : Dn K mg "span_of" s_span_of ["start", "width"]) (c_number_of : Cal P w K mg base 1 "number_of" spNumber []) : Cal P w K mg base 2 "span_of" spSpan [] := by
  refine D.cal sc_span_of (fun vs H Q E h => ?_) (fun f cdv A outer s H vs Q E hr h => ?_)
  · obtain ⟨l, v, rfl, _⟩ := h
    rfl
  · obtain ⟨l, v, rfl, hl, hv, k⟩ := h
    refine ⟨_, (pss_cons (ps_set (i := 2) sc_span_of.nd rfl (by first | exact Or.inl rfl | exact Or.inr rfl) (pe_op op_shl1 pe_int (pe_op op_sub (pv 1) (pe_callB call_len_str (by rfl) T.g_len boot_len (pa_cons (pv 0) pa_nil)))))
      (pss_cons (ps_set (i := 3) sc_span_of.nd rfl (by first | exact Or.inl rfl | exact Or.inr rfl) (pe_op op_mul (pe_c c_number_of hr (by first | decide | omega) rfl (pa_cons (pv 0) pa_nil)) (pv 2)))
      (pss_one (ps_ret (pe_tup (pa_cons (pv 3) (pa_cons (pe_op op_sub (pe_op op_add (pv 3) (pv 2)) pe_int) pa_nil))))))), ?_⟩
    have e1 : (v : Int) - ((tx l).length : Nat) = ((v - l.length : Nat) : Int) := by rw [tx_len]; omega
    refine ⟨_, rfl, _, rfl, _, rfl, by rw [tx_len]; exact Nat.le_trans (by omega) (by decide : 1000 ≤ sizeLine), _, _, rfl, rfl, 1, v - l.length, rfl, congrArg V.int e1, by omega, by decide, ?_⟩
    refine ⟨_, rfl, _, rfl, by omega, _, rfl, _, _, rfl, rfl, mul64 (pow64 hl hv), ?_⟩
    refine ⟨_, rfl, _, rfl, _, rfl, _, _, rfl, rfl, _, _, rfl, rfl, (by show 2 ≤ sizeLine; decide), fun p hp => ?_⟩
    have h1 := pow_pos2 (v - l.length)
    have a1 : ((num l : Nat) : Int) * ((1 * 2 ^ (v - l.length) : Nat) : Int) = ((lo l v : Nat) : Int) := by
      rw [← Int.natCast_mul, Nat.one_mul]
      rfl
    have a2 : ((num l : Nat) : Int) * ((1 * 2 ^ (v - l.length) : Nat) : Int) + ((1 * 2 ^ (v - l.length) : Nat) : Int) - 1 = ((hi l v : Nat) : Int) := by
      rw [a1]
      unfold hi
      omega
    have k := k p hp
    rw [← a2, ← a1] at k
    exact k
end
end Br

/-! What the laws have in common: drawn numbers, texts, starts. -/
namespace Br
open PySem PySem.Spec PyProof.Rows L2
open C8 (Cal Met Mak cal0 met0 mak0 pe_c pe_mk pe_mt pe_mt0 pe_gc Def)
section
variable {P : Program} {w : World} {K : PySem.W.Frag} {mg : Str → Option Value} {base : Heap}
abbrev s_l_cell_at : Stmt := top 37
abbrev n_l_cell_at : List Str := ["_law_script", "_law_k"]
theorem sc_l_cell_at : FnScope n_l_cell_at ["_law_script", "_law_k"] (C8.fnScope s_l_cell_at) := ⟨rfl, rfl, rfl, by decide +kernel, rfl, by decide +kernel, by decide +kernel⟩
def spCellAt (K : PySem.W.Frag) : Sp := fun vs H Q _ => ∃ (a : Addr) (ns : List Int) (k : Nat), vs = [.ref a, .int (k : Int)] ∧ SqL K H a (ns.map V.int) ∧ Q (.int (ns.getD k 0)) H
theorem c_l_cell_at (T : Glob mg) (D : Dn K mg "_law_cell_at" s_l_cell_at ["_law_script", "_law_k"]) : Cal P w K mg base 1 "_law_cell_at" (spCellAt K) [] := by
  refine D.cal sc_l_cell_at (fun vs H Q E h => ?_) (fun f cdv A outer s H vs Q E hr h => ?_)
  · obtain ⟨a, ns, k, rfl, _⟩ := h
    rfl
  · obtain ⟨a, ns, k, rfl, ha, q⟩ := h
    refine ⟨_, (pss_cons (ps_if (pt_cmpR op_lt (pv 1) (pe_callB call_len_seq (by rfl) T.g_len boot_len (pa_cons (pv 0) pa_nil)) (nomark _))
      (pss_one (ps_ret (pe_ix ix_list (pv 0) (pv 1) (fun _ _ => rfl))))
      pss_nil)
      (pss_one (ps_ret pe_int))), ?_⟩
    refine ⟨_, rfl, _, rfl, _, _, rfl, .inl ha, _, _, rfl, rfl, _, rfl, ?_⟩
    refine ite2 (fun c => ?_) fun c => ?_
    · have c : k < ns.length := by
        have z : (k : Int) < ((ns.map V.int).length : Nat) := of_decide_eq_true c
        rw [List.length_map] at z
        omega
      have e : ns[k]? = some (ns.getD k 0) := by
        rw [List.getD_eq_getElem?_getD, List.getElem?_eq_getElem c]
        rfl
      refine ⟨_, rfl, _, rfl, _, _, _, _, rfl, rfl, ha, atI_nat (j := k) ?_, q⟩
      rw [List.getElem?_map, e]
      rfl
    · have c : ns.length ≤ k := by
        have z : ¬ (k : Int) < ((ns.map V.int).length : Nat) := fun z => c (decide_eq_true z)
        rw [List.length_map] at z
        omega
      have e : ns.getD k 0 = 0 := by rw [List.getD_eq_getElem?_getD, List.getElem?_eq_none c]; rfl
      rw [e] at q
      exact q
def mixA (c k : Int) : Int := (c % 1000000007 * 48271 + k * k * 69621 + 7919 * k + 12345) % 2147483629
def mixed (c k : Int) : Nat := (mixA c k * mixA c k % 2147483629 * 40692 % 2147483629).toNat
theorem mixed_eq (c k : Int) : mixA c k * mixA c k % 2147483629 * 40692 % 2147483629 = ((mixed c k : Nat) : Int) := by unfold mixed; omega
abbrev s_l_mixed : Stmt := top 38
abbrev n_l_mixed : List Str := ["_law_cell", "_law_k", "_law_number"]
theorem sc_l_mixed : FnScope n_l_mixed ["_law_cell", "_law_k"] (C8.fnScope s_l_mixed) := ⟨rfl, rfl, rfl, by decide +kernel, rfl, by decide +kernel, by decide +kernel⟩
def spMixed : Sp := fun vs H Q _ => ∃ c k : Int, vs = [.int c, .int k] ∧ (0 ≤ k ∧ k < 2 ^ 63) ∧ Q (.int ((mixed c k : Nat) : Int)) H
theorem c_l_mixed (T : Glob mg) (D : Dn K mg "_law_mixed" s_l_mixed ["_law_cell", "_law_k"]) : Cal P w K mg base 1 "_law_mixed" spMixed [] := by
  refine D.cal sc_l_mixed (fun vs H Q E h => ?_) (fun f cdv A outer s H vs Q E hr h => ?_)
  · obtain ⟨c, k, rfl, _⟩ := h
    rfl
  · obtain ⟨c, k, rfl, hk, q⟩ := h
    refine ⟨_, (pss_cons (ps_set (i := 2) sc_l_mixed.nd rfl (by first | exact Or.inl rfl | exact Or.inr rfl) (pe_op op_mod (pe_op op_add (pe_op op_add (pe_op op_add (pe_op op_mul (pe_op op_mod (pv 0) pe_int) pe_int) (pe_op op_mul (pe_op op_mul (pv 1) (pv 1)) pe_int)) (pe_op op_mul pe_int (pv 1))) pe_int) pe_int))
      (pss_one (ps_ret (pe_op op_mod (pe_op op_mul (pe_op op_mod (pe_op op_mul (pv 2) (pv 2)) pe_int) pe_int) pe_int)))), ?_⟩
    refine ⟨_, rfl, _, _, rfl, rfl, (by show (0 : Int) < 1000000007; decide), _, _, rfl, rfl, .inr ⟨by decide, by decide⟩, ?_⟩
    refine ⟨_, rfl, _, rfl, _, _, rfl, rfl, .inl ⟨by omega, by omega⟩, _, _, rfl, rfl, .inr ⟨by decide, by decide⟩, _, _, rfl, rfl, ?_⟩
    refine ⟨_, rfl, _, _, rfl, rfl, .inl ⟨by decide, by decide⟩, _, _, rfl, rfl, _, _, rfl, rfl, _, _, rfl, rfl, (by show (0 : Int) < 2147483629; decide), ?_⟩
    have b : (0 ≤ mixA c k) ∧ mixA c k < 2147483629 := by unfold mixA; omega
    refine ⟨_, rfl, _, rfl, _, _, rfl, rfl, .inl ⟨(by show -(2 ^ 64) < mixA c k; omega), (by show mixA c k < 2 ^ 64; omega)⟩, ?_⟩
    refine ⟨_, _, rfl, rfl, (by show (0 : Int) < 2147483629; decide), _, _, rfl, rfl, .inr ⟨by decide, by decide⟩, _, _, rfl, rfl, (by show (0 : Int) < 2147483629; decide), ?_⟩
    rw [← mixed_eq] at q
    exact q
def bitsL (n : Int) (v : Nat) : List Bool := (List.range v).map fun j => decide (mixed n ((j / 24 : Nat) : Int) / 2 ^ (j % 24) % 2 = 1)
theorem bitsL_len (n : Int) (v : Nat) : (bitsL n v).length = v := by unfold bitsL; simp
abbrev s_l_bits : Stmt := top 39
abbrev n_l_bits : List Str := ["_law_number", "_law_size", "_law_j"]
theorem sc_l_bits : FnScope n_l_bits ["_law_number", "_law_size"] (C8.fnScope s_l_bits) := ⟨rfl, rfl, rfl, by decide +kernel, rfl, by decide +kernel, by decide +kernel⟩
def spLBits : Sp := fun vs H Q _ => ∃ (n : Int) (v : Nat), vs = [.int n, .int (v : Int)] ∧ v ≤ 64 ∧ ∀ H', Same H H' → Q (.str (tx (bitsL n v))) H'
theorem c_l_bits (T : Glob mg) (D : Dn K mg "_law_bits" s_l_bits ["_law_number", "_law_size"]) (c_l_mixed : Cal P w K mg base 1 "_law_mixed" spMixed []) : Cal P w K mg base 2 "_law_bits" spLBits [] := by
  refine D.cal sc_l_bits (fun vs H Q E h => ?_) (fun f cdv A outer s H vs Q E hr h => ?_)
  · obtain ⟨n, v, rfl, _⟩ := h
    rfl
  · obtain ⟨n, v, rfl, hv, k⟩ := h
    refine ⟨_, (pss_one (ps_ret (pe_join pe_str (pe_lc (own := [("_law_j", 2)]) (g := (gName 2)) (tt := tYes) rfl sc_l_bits.nd (pi_range1 rfl T.g_range (pa_cons (pv 1) pa_nil)) (blkOk_by (own := [("_law_j", 2)]) (N := n_l_bits) (sc := C8.fnScope s_l_bits) (by decide +kernel)) (fun _ _ _ _ _ => (pg_name (i := 2) sc_l_bits.nd rfl (by first | exact Or.inl rfl | exact Or.inr rfl))) (fun _ _ _ _ _ => pts_nil) (fun _ _ _ _ _ => (pe_ix ix_str pe_str (pe_op op_odd (pe_op op_shrN (pe_c c_l_mixed hr (by first | decide | omega) rfl (pa_cons (pv 0) (pa_cons (pe_op op_fdiv (pv 2) pe_int) pa_nil))) (pe_op op_mod (pv 2) pe_int)) pe_int) (fun _ _ => rfl))))))), ?_⟩
    refine ⟨⟨_, rfl⟩, _, rfl, _, rfl, by omega, by omega, fun D hD => ?_⟩
    refine lc_it walk_range (PvF H D fun i => ((bitsL n v).take i).map fun b => V.str (tx [b])) (pv0 hD) (fun _ _ _ _ => trivial) ?_ ?_
    · rintro i x H1 H2 hi ⟨s1, h1⟩ ⟨rfl, rfl⟩
      have hi : i < v := by simpa using hi
      have e1 : (0 + (i : Int)) / 24 = ((i / 24 : Nat) : Int) := by omega
      have e2 : (0 + (i : Int)) % 24 = ((i % 24 : Nat) : Int) := by omega
      refine ⟨rfl, yesI ?_⟩
      refine ⟨_, rfl, _, rfl, _, _, rfl, rfl, ⟨by decide, by decide⟩, n, _, rfl, ⟨by omega, by omega⟩, ?_⟩
      rw [e1]
      refine ⟨_, rfl, _, _, rfl, rfl, (by show (0 : Int) < 24; decide), _, i % 24, rfl, congrArg V.int e2, mixed n ((i / 24 : Nat) : Int) / 2 ^ (i % 24), ?_, rfl, _, _, bc (decide (mixed n ((i / 24 : Nat) : Int) / 2 ^ (i % 24) % 2 = 1)), rfl, rfl, (by decide +kernel), ?_, ?_⟩
      · generalize mixed n ((i / 24 : Nat) : Int) = m
        show V.int ((m : Int) / 2 ^ (i % 24)) = V.int ((m / 2 ^ (i % 24) : Nat) : Int)
        rw [Int.natCast_ediv, Int.natCast_pow]
        rfl
      · refine atI_nat ?_
        rw [show (Str.ofString "01") = tx [false, true] from tx_01.symm, tx_cps]
        rcases Nat.mod_two_eq_zero_or_one (mixed n ((i / 24 : Nat) : Int) / 2 ^ (i % 24)) with h | h <;> rw [h] <;> rfl
      · refine pv_in hD s1 h1 ?_ ?_
        · simp only [List.length_map, List.length_take]
          rw [bitsL_len]
          omega
        · have hw : (bitsL n v)[i]? = some (decide (mixed n ((i / 24 : Nat) : Int) / 2 ^ (i % 24) % 2 = 1)) := by
            unfold bitsL
            rw [List.getElem?_map, List.getElem?_range hi]
            rfl
          rw [take_snoc hw, List.map_append, tx_one]
          rfl
    · rintro H1 ⟨s1, h1⟩
      refine ⟨_, _, (bitsL n v).map fun b => tx [b], rfl, rfl, .inl (SqL.of ?_), ?_, ?_⟩
      · refine h1.trans ?_
        have e : (bitsL n v).take (v : Int).toNat = bitsL n v := List.take_of_length_le (by rw [bitsL_len]; omega)
        show some (HO.lst (((bitsL n v).take (v : Int).toNat).map _)) = _
        rw [e, List.map_map]
        rfl
      · rw [tx_lens, List.length_map, bitsL_len, len_empty]
        omega
      · rw [show Txt.join (Str.ofString "") ((bitsL n v).map fun b => tx [b]) = tx (bitsL n v) from join_tx _]
        exact k H1 s1
def widths : List Nat := [1, 2, 3, 4, 5, 6, 8, 13, 33, 64]
def widthL (n : Int) : Nat := widths.getD (n % 10).toNat 1
theorem widthL_le (n : Int) : 1 ≤ widthL n ∧ widthL n ≤ 64 := by
  unfold widthL
  have h : (n % 10).toNat < 10 := by omega
  generalize (n % 10).toNat = j at h
  have : ∀ j, j < 10 → 1 ≤ widths.getD j 1 ∧ widths.getD j 1 ≤ 64 := by decide
  exact this j h
abbrev s_l_width : Stmt := top 40
abbrev n_l_width : List Str := ["_law_number"]
theorem sc_l_width : FnScope n_l_width ["_law_number"] (C8.fnScope s_l_width) := ⟨rfl, rfl, rfl, by decide +kernel, rfl, by decide +kernel, by decide +kernel⟩
def spLWidth : Sp := fun vs H Q _ => ∃ n : Int, vs = [.int n] ∧ ∀ H', Same H H' → Q (.int ((widthL n : Nat) : Int)) H'
theorem c_l_width (T : Glob mg) (D : Dn K mg "_law_width" s_l_width ["_law_number"]) : Cal P w K mg base 1 "_law_width" spLWidth [] := by
  refine D.cal sc_l_width (fun vs H Q E h => ?_) (fun f cdv A outer s H vs Q E hr h => ?_)
  · obtain ⟨n, rfl, _⟩ := h
    rfl
  · obtain ⟨n, rfl, k⟩ := h
    refine ⟨_, (pss_one (ps_ret (pe_ix ix_list (pe_lst (pa_cons pe_int (pa_cons pe_int (pa_cons pe_int (pa_cons pe_int (pa_cons pe_int (pa_cons pe_int (pa_cons pe_int (pa_cons pe_int (pa_cons pe_int (pa_cons pe_int pa_nil))))))))))) (pe_op op_mod (pv 0) pe_int) (fun _ _ => rfl)))), ?_⟩
    refine ⟨(by show 10 ≤ sizeLine; decide), fun p hp => ?_⟩
    refine ⟨_, rfl, _, _, rfl, rfl, (by show (0 : Int) < 10; decide), p, _, _, .int ((widthL n : Nat) : Int), rfl, rfl, SqL.of upd_same, ?_, k _ (Same_upd (Same.refl H) hp)⟩
    have e : n % 10 = (((n % 10).toNat : Nat) : Int) := by omega
    rw [e]
    refine atI_nat ?_
    unfold widthL
    have h : (n % 10).toNat < 10 := by omega
    generalize (n % 10).toNat = j at h
    have : ∀ j, j < 10 → ([V.int 1, V.int 2, V.int 3, V.int 4, V.int 5, V.int 6, V.int 8, V.int 13, V.int 33, V.int 64] : List V)[j]? = some (V.int ((widths.getD j 1 : Nat) : Int)) := by decide
    exact this j h
end
end Br

/-! Rules: two knots' kids against [None, None]; C() of a class. -/
namespace Br
open PySem PySem.Spec PyProof.Rows L2
section
variable {X : Cx}
/-- a list of None and own instances == [None, ..] of one length -/
theorem op_kids (hu : X.A.units + 64 < cLine) : OpR X (compareOp .Eq) (fun x y H Q => ∃ p q xs ys, x = .ref p ∧ y = .ref q ∧ H p = some (.lst xs) ∧ H q = some (.lst ys) ∧ xs.length = ys.length ∧ (∀ z ∈ ys, z = .non) ∧ (∀ z ∈ xs, NoneOr X.K H z) ∧ Q (.bl (xs.all isNon)) H) := by
  intro pins s σ H x y v u Q I rx ry h
  obtain ⟨p, q, xs, ys, rfl, rfl, hp, hq, hl, hy, hx, k⟩ := h
  cases rx
  cases ry
  obtain ⟨its, rv, pl, _⟩ := I.list (SqL.of (K := X.K) hp)
  obtain ⟨its2, rv2, pl2, _⟩ := I.list (SqL.of (K := X.K) hq)
  have hu1 : X.A.in1.units < cLine := by show X.A.units + 1 < cLine; omega
  have e1 := rv.length
  have e2 := rv2.length
  have h := SeqAt.RcAt.lists (A := X.A) (s := s) (e := fun j => PySem.Numpy.isNone (its.toArray.getD j .none)) pl.isList pl2.isList (by simp; omega) (by omega) (fun j h1 h2 => by
    simp only [List.getElem_toArray]
    have h1' : j < its.length := by simpa using h1
    have h2' : j < its2.length := by simpa using h2
    have hx1 : xs[j]? = some (xs[j]'(by omega)) := List.getElem?_eq_getElem (by omega)
    have hy1 : ys[j]? = some (ys[j]'(by omega)) := List.getElem?_eq_getElem (by omega)
    obtain ⟨u1, g1, r1⟩ := rv.get hx1
    obtain ⟨u2, g2, r2⟩ := rv2.get hy1
    have z2 : ys[j]'(by omega) = .non := hy _ (List.getElem_mem _)
    rw [z2] at r2
    cases r2
    rw [List.getElem?_eq_getElem h1'] at g1
    rw [List.getElem?_eq_getElem h2'] at g2
    cases Option.some.inj g1
    rw [Option.some.inj g2]
    have eg : its.toArray.getD j .none = its[j] := by simp [h1']
    rw [eg]
    exact noneOr_eq I hu1 r1 (hx _ (List.getElem_mem _)))
  refine h _ _ _ _ ⟨.bl _, H, I, rfl, ?_⟩
  have ea : ((List.range its.toArray.size).all fun j => PySem.Numpy.isNone (its.toArray.getD j .none)) = xs.all isNon := by
    have e3 : ∀ {xs : List V} {us : List Value}, Vals xs us → (∀ z ∈ xs, NoneOr X.K H z) → ((List.range us.length).all fun j => PySem.Numpy.isNone (us.getD j .none)) = xs.all isNon := by
      intro xs us r
      induction r with
      | nil => intro _; rfl
      | cons r t ih =>
        intro f
        rw [List.length_cons, List.range_succ_eq_map, List.all_cons, List.all_cons, List.all_map]
        have e5 := ih fun z hz => f z (List.mem_cons_of_mem _ hz)
        rw [← e5]
        have e6 := isNone_of (K := X.K) (H := H) r (f _ List.mem_cons_self)
        simp only [List.getD_cons_zero]
        rw [e6]
        rfl
    have := e3 rv hx
    simpa using this
  rw [ea]
  exact k
/-- C() -/
theorem pe_mk0 {k j : Nat} {C : Addr} {x : Str} {sp : Sp} {dvs : List V} {p pos : Pos} (c : C8.Mak X.prog X.w X.K X.mg X.base k x C sp dvs) (hr : Room j X.A) (hk : k + 1 ≤ j) (hg : Gl X x)
    (hdb : (x == ("__debug__" : Str)) = false := by decide) : PE X (.Call (.Name x p) [] [] pos) (tMake C sp dvs C8.E0 tNil) := by
  obtain ⟨f, fd, ps, ds, M, F, hm, b, d⟩ := c.ex
  exact pe_make0 M F (hr.mono hk) hg hm b d C8.pass0 hdb
end
end Br

/-! Tables as trees: rows, roads, stretches, differences. Plain mathematics. -/
namespace Br
inductive Tr where
  | nil
  | nd (g : Option Nat) (l r : Tr)
namespace Tr
def kid (b : Bool) (l r : Tr) : Tr := if b then r else l
/-- the road of the row of just that start -/
def get : Tr → List Bool → Option Nat
  | nil, _ => none
  | nd g _ _, [] => g
  | nd _ l r, b :: s => (kid b l r).get s
def put : Tr → List Bool → Nat → Tr
  | nil, [], x => nd (some x) nil nil
  | nil, b :: s, x => if b then nd none nil (put nil s x) else nd none (put nil s x) nil
  | nd _ l r, [], x => nd (some x) l r
  | nd g l r, b :: s, x => if b then nd g l (put r s x) else nd g (put l s x) r
def bare : Tr → Bool
  | nd none nil nil => true
  | _ => false
def isNil : Tr → Bool
  | nil => true
  | _ => false
/-- what stays of a knot beneath the top -/
def prune (t : Tr) : Tr := if t.bare then nil else t
/-- the row of a start that has one less; bare knots on its way, but the top, are gone -/
def take : Tr → List Bool → Tr
  | nil, _ => nil
  | nd _ l r, [] => nd none l r
  | nd g l r, b :: s => if b then nd g l (prune (take r s)) else nd g (prune (take l s)) r
def count : Tr → Nat
  | nil => 0
  | nd g l r => (if g.isSome then 1 else 0) + l.count + r.count
/-- how many knots -/
def size : Tr → Nat
  | nil => 0
  | nd _ l r => 1 + l.size + r.size
/-- no longer than n signs lie beneath -/
def deep : Tr → Nat → Prop
  | nil, _ => True
  | nd _ l r, 0 => l = nil ∧ r = nil
  | nd _ l r, n + 1 => l.deep n ∧ r.deep n
/-- no bare knot -/
def full : Tr → Prop
  | nil => True
  | nd g l r => (nd g l r).bare = false ∧ l.full ∧ r.full
/-- no bare knot beneath -/
def neat : Tr → Prop
  | nil => False
  | nd _ l r => l.full ∧ r.full
def rowsAt : Tr → List Bool → List (List Bool × Nat)
  | nil, _ => []
  | nd g l r, p => (match g with | some x => [(p, x)] | none => []) ++ (l.rowsAt (p ++ [false]) ++ r.rowsAt (p ++ [true]))
def rows (t : Tr) : List (List Bool × Nat) := t.rowsAt []
/-- the road of the longest start so far -/
def road : Tr → Option Nat → List Bool → Option Nat
  | nil, x, _ => x
  | nd g _ _, x, [] => g.or x
  | nd g l r, x, b :: s => (kid b l r).road (g.or x) s
def sub : Tr → List Bool → Tr
  | t, [] => t
  | nil, _ :: _ => nil
  | nd _ l r, b :: s => (kid b l r).sub s

theorem get_nil (s : List Bool) : nil.get s = none := by cases s <;> rfl
theorem road_nil (x : Option Nat) (s : List Bool) : nil.road x s = x := by cases s <;> rfl
theorem sub_nil (s : List Bool) : nil.sub s = nil := by cases s <;> rfl
theorem get_put (x : Nat) : ∀ (s : List Bool) (t : Tr) (u : List Bool), (t.put s x).get u = if u = s then some x else t.get u
  | [], nil, [] => by rfl
  | [], nil, b :: u => by
    rw [if_neg (by simp), get_nil]
    show (kid b nil nil).get u = none
    cases b <;> exact get_nil u
  | [], nd g l r, [] => by rfl
  | [], nd g l r, b :: u => by rw [if_neg (by simp)]; rfl
  | c :: s, nil, [] => by rw [if_neg (by simp)]; cases c <;> rfl
  | c :: s, nil, b :: u => by
    rw [get_nil]
    have ih := get_put x s nil u
    rw [get_nil] at ih
    cases c <;> cases b
    · show ((put nil s x)).get u = _; rw [ih]; by_cases h : u = s <;> simp [h]
    · show nil.get u = _; rw [get_nil, if_neg (by simp)]
    · show nil.get u = _; rw [get_nil, if_neg (by simp)]
    · show ((put nil s x)).get u = _; rw [ih]; by_cases h : u = s <;> simp [h]
  | c :: s, nd g l r, [] => by rw [if_neg (by simp)]; cases c <;> rfl
  | c :: s, nd g l r, b :: u => by
    cases c <;> cases b
    · show (put l s x).get u = _; rw [get_put x s l u]; by_cases h : u = s <;> simp [h, get, kid]
    · show r.get u = _; rw [if_neg (by simp)]; rfl
    · show l.get u = _; rw [if_neg (by simp)]; rfl
    · show (put r s x).get u = _; rw [get_put x s r u]; by_cases h : u = s <;> simp [h, get, kid]
theorem get_prune (t : Tr) (u : List Bool) : t.prune.get u = t.get u := by
  unfold prune
  split
  · rename_i h
    match t, h with
    | nd none nil nil, _ =>
      rw [get_nil]
      cases u with
      | nil => rfl
      | cons b u =>
        show none = (kid b nil nil).get u
        cases b <;> exact (get_nil u).symm
  · rfl
theorem get_take : ∀ (s : List Bool) (t : Tr) (u : List Bool), (t.take s).get u = if u = s then none else t.get u
  | s, nil, u => by show nil.get u = _; rw [get_nil]; simp
  | [], nd g l r, [] => by rfl
  | [], nd g l r, b :: u => by rw [if_neg (by simp)]; rfl
  | c :: s, nd g l r, [] => by rw [if_neg (by simp)]; cases c <;> rfl
  | c :: s, nd g l r, b :: u => by
    cases c <;> cases b
    · show (prune (take l s)).get u = _; rw [get_prune, get_take s l u]; by_cases h : u = s <;> simp [h, get, kid]
    · show r.get u = _; rw [if_neg (by simp)]; rfl
    · show l.get u = _; rw [if_neg (by simp)]; rfl
    · show (prune (take r s)).get u = _; rw [get_prune, get_take s r u]; by_cases h : u = s <;> simp [h, get, kid]
/-- roads by a sub-tree -/
theorem or_or (g x : Option Nat) : g.or (g.or x) = g.or x := by cases g <;> rfl
theorem road_twice (x : Option Nat) : ∀ (t : Tr) (s : List Bool), (t.sub s).road (t.road x s) [] = t.road x s
  | nil, s => by rw [sub_nil, road_nil, road_nil]
  | nd g l r, [] => or_or g x
  | nd g l r, b :: s => by
    show ((kid b l r).sub s).road ((kid b l r).road (g.or x) s) [] = _
    exact road_twice (g.or x) _ s
theorem road_append (x : Option Nat) : ∀ (t : Tr) (s u : List Bool), t.road x (s ++ u) = (t.sub s).road (t.road x s) u
  | nil, s, u => by rw [sub_nil, road_nil, road_nil, road_nil]
  | nd g l r, [], u => by
    show (nd g l r).road x u = (nd g l r).road (g.or x) u
    cases u with
    | nil => exact (or_or g x).symm
    | cons b u =>
      show (kid b l r).road (g.or x) u = (kid b l r).road (g.or (g.or x)) u
      rw [or_or]
  | nd g l r, b :: s, u => by
    show (kid b l r).road (g.or x) (s ++ u) = ((kid b l r).sub s).road ((kid b l r).road (g.or x) s) u
    exact road_append (g.or x) _ s u
theorem put_ne_nil (t : Tr) (s : List Bool) (x : Nat) : t.put s x ≠ nil := by
  cases t with
  | nil => cases s with
    | nil => intro h; cases h
    | cons b s => cases b <;> intro h <;> cases h
  | nd g l r => cases s with
    | nil => intro h; cases h
    | cons b s => cases b <;> intro h <;> cases h
theorem deep_mono : ∀ {t : Tr} {n m : Nat}, t.deep n → n ≤ m → t.deep m
  | nil, _, _, _, _ => trivial
  | nd g l r, 0, 0, h, _ => h
  | nd g l r, 0, m + 1, h, _ => by obtain ⟨rfl, rfl⟩ := h; exact ⟨trivial, trivial⟩
  | nd g l r, n + 1, m + 1, h, k => ⟨deep_mono h.1 (by omega), deep_mono h.2 (by omega)⟩
theorem deep_put (x : Nat) : ∀ {s : List Bool} {t : Tr} {n : Nat}, t.deep n → s.length ≤ n → (t.put s x).deep n
  | [], nil, n, _, _ => by cases n with
    | zero => exact ⟨rfl, rfl⟩
    | succ n => exact ⟨trivial, trivial⟩
  | [], nd g l r, n, h, _ => by cases n with
    | zero => exact h
    | succ n => exact h
  | b :: s, nil, 0, _, k => by simp at k
  | b :: s, nil, n + 1, _, k => by
    have k2 : s.length ≤ n := Nat.le_of_succ_le_succ k
    cases b
    · exact ⟨deep_put x (t := nil) trivial k2, trivial⟩
    · exact ⟨trivial, deep_put x (t := nil) trivial k2⟩
  | b :: s, nd g l r, 0, _, k => by simp at k
  | b :: s, nd g l r, n + 1, h, k => by
    have k2 : s.length ≤ n := Nat.le_of_succ_le_succ k
    cases b
    · exact ⟨deep_put x h.1 k2, h.2⟩
    · exact ⟨h.1, deep_put x h.2 k2⟩
theorem deep_prune {t : Tr} {n : Nat} (h : t.deep n) : t.prune.deep n := by
  unfold prune
  split
  · trivial
  · exact h
theorem deep_take : ∀ {s : List Bool} {t : Tr} {n : Nat}, t.deep n → (t.take s).deep n
  | s, nil, n, _ => trivial
  | [], nd g l r, n, h => by cases n <;> exact h
  | b :: s, nd g l r, 0, h => by
    obtain ⟨rfl, rfl⟩ := h
    cases b <;> exact ⟨rfl, rfl⟩
  | b :: s, nd g l r, n + 1, h => by
    cases b
    · exact ⟨deep_prune (deep_take h.1), h.2⟩
    · exact ⟨h.1, deep_prune (deep_take h.2)⟩
theorem bare_put (t : Tr) (s : List Bool) (x : Nat) : (t.put s x).bare = false := by
  cases t with
  | nil => cases s with
    | nil => rfl
    | cons b s =>
      have h := put_ne_nil nil s x
      cases b
      · show (nd none (put nil s x) nil).bare = false
        cases e : put nil s x with
        | nil => exact (h e).elim
        | nd => rfl
      · show (nd none nil (put nil s x)).bare = false
        cases e : put nil s x with
        | nil => exact (h e).elim
        | nd => rfl
  | nd g l r => cases s with
    | nil => rfl
    | cons b s =>
      cases b
      · show (nd g (put l s x) r).bare = false
        have h := put_ne_nil l s x
        cases e : put l s x with
        | nil => exact (h e).elim
        | nd => cases g <;> rfl
      · show (nd g l (put r s x)).bare = false
        have h := put_ne_nil r s x
        cases e : put r s x with
        | nil => exact (h e).elim
        | nd => cases g <;> cases l <;> rfl
theorem full_put (x : Nat) : ∀ {s : List Bool} {t : Tr}, t.full → (t.put s x).full
  | [], nil, _ => ⟨rfl, trivial, trivial⟩
  | [], nd g l r, h => ⟨rfl, h.2.1, h.2.2⟩
  | b :: s, nil, h => by
    have hb := bare_put nil (b :: s) x
    cases b
    · exact ⟨hb, full_put x (t := nil) trivial, trivial⟩
    · exact ⟨hb, trivial, full_put x (t := nil) trivial⟩
  | b :: s, nd g l r, h => by
    have hb := bare_put (nd g l r) (b :: s) x
    cases b
    · exact ⟨hb, full_put x h.2.1, h.2.2⟩
    · exact ⟨hb, h.2.1, full_put x h.2.2⟩
theorem neat_put (x : Nat) {s : List Bool} {t : Tr} (h : t.neat) : (t.put s x).neat := by
  cases t with
  | nil => exact h.elim
  | nd g l r => cases s with
    | nil => exact h
    | cons b s => cases b
                  · exact ⟨full_put x h.1, h.2⟩
                  · exact ⟨h.1, full_put x h.2⟩
theorem full_prune {t : Tr} (h : t ≠ nil → t.neat) : t.prune.full := by
  unfold prune
  split
  · trivial
  · rename_i hb
    cases t with
    | nil => trivial
    | nd g l r =>
      obtain ⟨h1, h2⟩ := h (by intro z; cases z)
      exact ⟨Bool.eq_false_iff.mpr hb, h1, h2⟩
theorem neat_take : ∀ {s : List Bool} {t : Tr}, t.neat → (t.take s).neat
  | s, nil, h => h.elim
  | [], nd g l r, h => h
  | b :: s, nd g l r, h => by
    have fn : ∀ t : Tr, t.full → t ≠ nil → t.neat := fun t ht hn => by
      cases t with
      | nil => exact (hn rfl).elim
      | nd g l r => exact ht.2
    cases b
    · refine ⟨full_prune fun hn => ?_, h.2⟩
      cases l with
      | nil => exact (hn rfl).elim
      | nd g l r => exact neat_take (fn _ h.1 (by intro z; cases z))
    · refine ⟨h.1, full_prune fun hn => ?_⟩
      cases r with
      | nil => exact (hn rfl).elim
      | nd g l r => exact neat_take (fn _ h.2 (by intro z; cases z))
/-! rows and get -/
theorem mem_rowsAt (x : Nat) : ∀ (t : Tr) (p s : List Bool), (s, x) ∈ t.rowsAt p ↔ ∃ u, s = p ++ u ∧ t.get u = some x
  | nil, p, s => by
    constructor
    · intro h; cases h
    · rintro ⟨u, _, h⟩; rw [get_nil] at h; cases h
  | nd g l r, p, s => by
    show (s, x) ∈ (match g with | some x => [(p, x)] | none => []) ++ (l.rowsAt (p ++ [false]) ++ r.rowsAt (p ++ [true])) ↔ _
    rw [List.mem_append, List.mem_append, mem_rowsAt x l, mem_rowsAt x r]
    constructor
    · rintro (h | ⟨u, rfl, h⟩ | ⟨u, rfl, h⟩)
      · cases g with
        | none => cases h
        | some y =>
          have := List.mem_singleton.mp h
          injection this with h1 h2
          exact ⟨[], by rw [h1, List.append_nil], by rw [h2]; rfl⟩
      · exact ⟨false :: u, by rw [List.append_assoc]; rfl, h⟩
      · exact ⟨true :: u, by rw [List.append_assoc]; rfl, h⟩
    · rintro ⟨u, rfl, h⟩
      cases u with
      | nil =>
        left
        have h : g = some x := h
        subst h
        rw [List.append_nil]
        exact List.mem_singleton.mpr rfl
      | cons b u =>
        right
        cases b
        · left; exact ⟨u, by rw [List.append_assoc]; rfl, h⟩
        · right; exact ⟨u, by rw [List.append_assoc]; rfl, h⟩
theorem mem_rows (t : Tr) (s : List Bool) (x : Nat) : (s, x) ∈ t.rows ↔ t.get s = some x := by
  unfold rows
  rw [mem_rowsAt]
  constructor
  · rintro ⟨u, rfl, h⟩; exact h
  · intro h; exact ⟨s, rfl, h⟩
theorem len_rowsAt : ∀ (t : Tr) (p : List Bool), (t.rowsAt p).length = t.count
  | nil, p => rfl
  | nd g l r, p => by
    show ((match g with | some x => [(p, x)] | none => []) ++ (l.rowsAt (p ++ [false]) ++ r.rowsAt (p ++ [true]))).length = _
    rw [List.length_append, List.length_append, len_rowsAt l, len_rowsAt r]
    cases g <;> simp [count] <;> omega
/-- the order of texts of bits -/
def lt : List Bool → List Bool → Prop
  | [], [] => False
  | [], _ :: _ => True
  | _ :: _, [] => False
  | a :: s, b :: u => (a = false ∧ b = true) ∨ (a = b ∧ lt s u)
theorem lt_pre (p : List Bool) {s u : List Bool} (h : lt s u) : lt (p ++ s) (p ++ u) := by
  induction p with
  | nil => exact h
  | cons a p ih => exact .inr ⟨rfl, ih⟩
theorem sorted_rowsAt : ∀ (t : Tr) (p : List Bool), ((t.rowsAt p).map (·.1)).Pairwise lt
  | nil, p => List.Pairwise.nil
  | nd g l r, p => by
    show (((match g with | some x => [(p, x)] | none => []) ++ (l.rowsAt (p ++ [false]) ++ r.rowsAt (p ++ [true]))).map (·.1)).Pairwise lt
    rw [List.map_append, List.map_append]
    have below : ∀ (t : Tr) (q s : List Bool), s ∈ (t.rowsAt q).map (·.1) → ∃ u, s = q ++ u := fun t q s hs => by
      obtain ⟨⟨s', x⟩, h, rfl⟩ := List.mem_map.mp hs
      obtain ⟨u, hu, _⟩ := (mem_rowsAt x t q s').mp h
      exact ⟨u, hu⟩
    refine List.pairwise_append.mpr ⟨?_, List.pairwise_append.mpr ⟨sorted_rowsAt l _, sorted_rowsAt r _, ?_⟩, ?_⟩
    · cases g with
      | none => exact List.Pairwise.nil
      | some x => exact List.pairwise_singleton _ _
    · intro a ha b hb
      obtain ⟨u, rfl⟩ := below _ _ _ ha
      obtain ⟨v, rfl⟩ := below _ _ _ hb
      rw [List.append_assoc, List.append_assoc]
      exact lt_pre p (.inl ⟨rfl, rfl⟩)
    · intro a ha b hb
      cases g with
      | none => cases ha
      | some x =>
        have e : a = p := List.mem_singleton.mp ha
        subst e
        rcases List.mem_append.mp hb with hb | hb
        · obtain ⟨u, rfl⟩ := below _ _ _ hb
          rw [List.append_assoc]
          have := lt_pre a (s := []) (u := [false] ++ u) trivial
          rw [List.append_nil] at this
          exact this
        · obtain ⟨u, rfl⟩ := below _ _ _ hb
          rw [List.append_assoc]
          have := lt_pre a (s := []) (u := [true] ++ u) trivial
          rw [List.append_nil] at this
          exact this
theorem lt_irrefl : ∀ s : List Bool, ¬ lt s s
  | [], h => h
  | a :: s, h => by
    rcases h with ⟨h1, h2⟩ | ⟨_, h⟩
    · rw [h1] at h2; cases h2
    · exact lt_irrefl s h
theorem lt_trans : ∀ {s u v : List Bool}, lt s u → lt u v → lt s v
  | [], [], _, h, _ => h.elim
  | [], _ :: _, [], _, h => h.elim
  | [], _ :: _, _ :: _, _, _ => trivial
  | _ :: _, [], _, h, _ => h.elim
  | _ :: _, _ :: _, [], _, h => h.elim
  | a :: s, b :: u, c :: v, h1, h2 => by
    rcases h1 with ⟨rfl, rfl⟩ | ⟨rfl, h1⟩
    · rcases h2 with ⟨h, _⟩ | ⟨rfl, _⟩
      · cases h
      · exact .inl ⟨rfl, rfl⟩
    · rcases h2 with ⟨rfl, rfl⟩ | ⟨rfl, h2⟩
      · exact .inl ⟨rfl, rfl⟩
      · exact .inr ⟨rfl, lt_trans h1 h2⟩
theorem lt_total : ∀ s u : List Bool, lt s u ∨ s = u ∨ lt u s
  | [], [] => .inr (.inl rfl)
  | [], _ :: _ => .inl trivial
  | _ :: _, [] => .inr (.inr trivial)
  | a :: s, b :: u => by
    by_cases h : a = b
    · subst h
      rcases lt_total s u with h | h | h
      · exact .inl (.inr ⟨rfl, h⟩)
      · exact .inr (.inl (by rw [h]))
      · exact .inr (.inr (.inr ⟨rfl, h⟩))
    · cases a <;> cases b
      · exact absurd rfl h
      · exact .inl (.inl ⟨rfl, rfl⟩)
      · exact .inr (.inr (.inl ⟨rfl, rfl⟩))
      · exact absurd rfl h
/-- two rising lists of the same members are one -/
theorem sorted_unique : ∀ {l m : List (List Bool)}, l.Pairwise lt → m.Pairwise lt → (∀ s, s ∈ l ↔ s ∈ m) → l = m
  | [], [], _, _, _ => rfl
  | [], b :: m, _, _, h => by have := (h b).mpr List.mem_cons_self; cases this
  | a :: l, [], _, _, h => by have := (h a).mp List.mem_cons_self; cases this
  | a :: l, b :: m, h1, h2, h => by
    obtain ⟨p1, q1⟩ := List.pairwise_cons.mp h1
    obtain ⟨p2, q2⟩ := List.pairwise_cons.mp h2
    have e : a = b := by
      rcases List.mem_cons.mp ((h a).mp List.mem_cons_self) with e | e
      · exact e
      · rcases List.mem_cons.mp ((h b).mpr List.mem_cons_self) with e' | e'
        · exact e'.symm
        · exact (lt_irrefl a (lt_trans (p1 b e') (p2 a e))).elim
    subst e
    congr 1
    refine sorted_unique q1 q2 fun s => ?_
    constructor
    · intro hs
      rcases List.mem_cons.mp ((h s).mp (List.mem_cons_of_mem _ hs)) with e | e
      · subst e; exact (lt_irrefl s (p1 s hs)).elim
      · exact e
    · intro hs
      rcases List.mem_cons.mp ((h s).mpr (List.mem_cons_of_mem _ hs)) with e | e
      · subst e; exact (lt_irrefl s (p2 s hs)).elim
      · exact e
/-- a road by the longest start with a row: all starts of the word, the longest last -/
def lng (f : List Bool → Option Nat) (x : Option Nat) : List Bool → Option Nat
  | [] => (f []).or x
  | b :: s => lng (fun u => f (b :: u)) ((f []).or x) s
theorem road_lng : ∀ (t : Tr) (x : Option Nat) (s : List Bool), t.road x s = lng t.get x s
  | nil, x, s => by
    rw [road_nil]
    have : ∀ (s : List Bool) (x : Option Nat) (f : List Bool → Option Nat), (∀ u, f u = none) → lng f x s = x := by
      intro s
      induction s with
      | nil => intro x f h; show (f []).or x = x; rw [h]; rfl
      | cons b s ih => intro x f h; show lng _ ((f []).or x) s = x; rw [h, ih _ _ fun u => h _]; rfl
    exact (this s x _ get_nil).symm
  | nd g l r, x, [] => rfl
  | nd g l r, x, b :: s => road_lng (kid b l r) (g.or x) s
end Tr
end Br

/-! Stretches and differences: plain mathematics. -/
namespace Br
abbrev St3 := Nat × Nat × Option Nat
abbrev Df4 := Nat × Nat × Option Nat × Option Nat
/-- L tells f on a .. b - 1 by as few stretches as can be -/
def Tl (f : Nat → Option Nat) (b : Nat) : Nat → List St3 → Prop
  | a, [] => a = b
  | a, (x, y, r) :: L => x = a ∧ a ≤ y ∧ y < b ∧ (∀ n, a ≤ n → n ≤ y → f n = r) ∧ (y + 1 < b → f (y + 1) ≠ r) ∧ Tl f b (y + 1) L
/-- a stretch more behind others -/
def addS : List St3 → Nat → Nat → Option Nat → List St3
  | [], a, l, r => [(a, l, r)]
  | [(x, y, q)], a, l, r => if q = r then [(x, l, r)] else [(x, y, q), (a, l, r)]
  | s :: t :: L, a, l, r => s :: addS (t :: L) a l r
theorem addS_len (a l : Nat) (r : Option Nat) : ∀ L : List St3, (addS L a l r).length ≤ L.length + 1
  | [] => Nat.le_refl _
  | [(x, y, q)] => by unfold addS; split <;> simp
  | s :: t :: L => by
    show (s :: addS (t :: L) a l r).length ≤ _
    have := addS_len a l r (t :: L)
    simp only [List.length_cons] at this ⊢
    omega
theorem Tl.le {f : Nat → Option Nat} {b : Nat} : ∀ {L : List St3} {a : Nat}, Tl f b a L → a ≤ b
  | [], a, h => by rw [show a = b from h]; exact Nat.le_refl _
  | (x, y, r) :: L, a, h => by obtain ⟨_, h1, h2, _⟩ := h; omega
theorem Tl.snoc {f : Nat → Option Nat} {m l : Nat} {r : Option Nat} (hl : m ≤ l) (hf : ∀ n, m ≤ n → n ≤ l → f n = r) :
    ∀ {L : List St3} {a : Nat}, Tl f m a L → Tl f (l + 1) a (addS L m l r)
  | [], a, h => by
    have h : a = m := h
    subst h
    exact ⟨rfl, hl, by omega, hf, by omega, rfl⟩
  | [(x, y, q)], a, h => by
    obtain ⟨rfl, h1, h2, h3, h4, h5⟩ := h
    have h5 : y + 1 = m := h5
    unfold addS
    by_cases e : q = r
    · rw [if_pos e]
      subst e
      refine ⟨rfl, by omega, by omega, fun n n1 n2 => ?_, by omega, rfl⟩
      by_cases hn : n ≤ y
      · exact h3 n n1 hn
      · exact hf n (by omega) n2
    · rw [if_neg e]
      refine ⟨rfl, h1, by omega, h3, fun _ => ?_, ?_⟩
      · rw [hf (y + 1) (by omega) (by omega)]
        exact fun z => e z.symm
      · exact ⟨h5.symm, by omega, by omega, fun n n1 n2 => hf n (by omega) n2, by omega, rfl⟩
  | (x, y, q) :: t :: L, a, h => by
    obtain ⟨rfl, h1, h2, h3, h4, h5⟩ := h
    have h6 := h5.snoc hl hf
    have hlt : y + 1 < m := by
      obtain ⟨x2, y2, q2⟩ := t
      obtain ⟨_, k1, k2, _⟩ := h5
      omega
    exact ⟨rfl, h1, by omega, h3, fun _ => h4 hlt, h6⟩
theorem Tl.unique {f : Nat → Option Nat} {b : Nat} : ∀ {L M : List St3} {a : Nat}, Tl f b a L → Tl f b a M → L = M
  | [], [], _, _, _ => rfl
  | [], (x, y, r) :: M, a, h1, h2 => by
    have h1 : a = b := h1
    obtain ⟨_, k1, k2, _⟩ := h2
    omega
  | (x, y, r) :: L, [], a, h1, h2 => by
    have h2 : a = b := h2
    obtain ⟨_, k1, k2, _⟩ := h1
    omega
  | (x, y, r) :: L, (x', y', r') :: M, a, h1, h2 => by
    obtain ⟨rfl, a1, a2, a3, a4, a5⟩ := h1
    obtain ⟨rfl, b1, b2, b3, b4, b5⟩ := h2
    have er : r = r' := (a3 x' (Nat.le_refl _) a1).symm.trans (b3 x' (Nat.le_refl _) b1)
    subst er
    have ey : y = y' := by
      rcases Nat.lt_trichotomy y y' with h | h | h
      · exact absurd (b3 (y + 1) (by omega) (by omega)) (a4 (by omega))
      · exact h
      · exact absurd (a3 (y' + 1) (by omega) (by omega)) (b4 (by omega))
    subst ey
    rw [a5.unique b5]
theorem Tl.congr {f g : Nat → Option Nat} {b : Nat} : ∀ {L : List St3} {a : Nat}, (∀ n, a ≤ n → n < b → f n = g n) → Tl f b a L → Tl g b a L
  | [], _, _, h => h
  | (x, y, r) :: L, a, e, h => by
    obtain ⟨rfl, h1, h2, h3, h4, h5⟩ := h
    refine ⟨rfl, h1, h2, fun n n1 n2 => ?_, fun hy => ?_, h5.congr fun n n1 n2 => e n (by omega) n2⟩
    · rw [← e n n1 (by omega)]
      exact h3 n n1 n2
    · rw [← e (y + 1) (by omega) hy]
      exact h4 hy

/-- D tells where f and g part on a .. b - 1, by as few as can be -/
def DTl (f g : Nat → Option Nat) (b : Nat) : Nat → List Df4 → Prop
  | a, [] => ∀ n, a ≤ n → n < b → f n = g n
  | a, (x, y, p, q) :: D => a ≤ x ∧ x ≤ y ∧ y < b ∧ p ≠ q ∧ (∀ n, a ≤ n → n < x → f n = g n) ∧ (∀ n, x ≤ n → n ≤ y → f n = p ∧ g n = q) ∧ (y + 1 < b → ¬ (f (y + 1) = p ∧ g (y + 1) = q)) ∧ DTl f g b (y + 1) D
theorem DTl.gap {f g : Nat → Option Nat} {a m b : Nat} (h : a ≤ m) (e : ∀ n, a ≤ n → n < m → f n = g n) : ∀ {D : List Df4}, DTl f g b m D → DTl f g b a D
  | [], k => fun n n1 n2 => by
    by_cases hn : n < m
    · exact e n n1 hn
    · exact k n (by omega) n2
  | (x, y, p, q) :: D, k => by
    obtain ⟨k1, k2, k3, k4, k5, k6, k7, k8⟩ := k
    refine ⟨by omega, k2, k3, k4, fun n n1 n2 => ?_, k6, k7, k8⟩
    by_cases hn : n < m
    · exact e n n1 hn
    · exact k5 n (by omega) n2
theorem DTl.unique {f g : Nat → Option Nat} {b : Nat} : ∀ {D E : List Df4} {a : Nat}, DTl f g b a D → DTl f g b a E → D = E
  | [], [], _, _, _ => rfl
  | [], (x, y, p, q) :: E, a, h1, h2 => by
    obtain ⟨k1, k2, k3, k4, k5, k6, k7, k8⟩ := h2
    have := h1 x k1 (by omega)
    rw [(k6 x (Nat.le_refl _) k2).1, (k6 x (Nat.le_refl _) k2).2] at this
    exact absurd this k4
  | (x, y, p, q) :: D, [], a, h1, h2 => by
    obtain ⟨k1, k2, k3, k4, k5, k6, k7, k8⟩ := h1
    have := h2 x k1 (by omega)
    rw [(k6 x (Nat.le_refl _) k2).1, (k6 x (Nat.le_refl _) k2).2] at this
    exact absurd this k4
  | (x, y, p, q) :: D, (x', y', p', q') :: E, a, h1, h2 => by
    obtain ⟨k1, k2, k3, k4, k5, k6, k7, k8⟩ := h1
    obtain ⟨j1, j2, j3, j4, j5, j6, j7, j8⟩ := h2
    have ex : x = x' := by
      rcases Nat.lt_trichotomy x x' with h | h | h
      · have := j5 x k1 h
        rw [(k6 x (Nat.le_refl _) k2).1, (k6 x (Nat.le_refl _) k2).2] at this
        exact absurd this k4
      · exact h
      · have := k5 x' j1 h
        rw [(j6 x' (Nat.le_refl _) j2).1, (j6 x' (Nat.le_refl _) j2).2] at this
        exact absurd this j4
    subst ex
    have ep : p = p' := (k6 x (Nat.le_refl _) k2).1.symm.trans (j6 x (Nat.le_refl _) j2).1
    have eq : q = q' := (k6 x (Nat.le_refl _) k2).2.symm.trans (j6 x (Nat.le_refl _) j2).2
    subst ep eq
    have ey : y = y' := by
      rcases Nat.lt_trichotomy y y' with h | h | h
      · exact absurd (j6 (y + 1) (by omega) (by omega)) (k7 (by omega))
      · exact h
      · exact absurd (k6 (y' + 1) (by omega) (by omega)) (j7 (by omega))
    subst ey
    rw [k8.unique j8]
/-- one list of stretches from within its first one on -/
def TlC (f : Nat → Option Nat) (b p : Nat) : List St3 → Prop
  | [] => p = b
  | (x, y, r) :: L => x ≤ p ∧ p ≤ y ∧ y < b ∧ (∀ n, p ≤ n → n ≤ y → f n = r) ∧ (y + 1 < b → f (y + 1) ≠ r) ∧ Tl f b (y + 1) L
theorem Tl.c {f : Nat → Option Nat} {a b : Nat} : ∀ {L : List St3}, Tl f b a L → TlC f b a L
  | [], h => h
  | (x, y, r) :: L, h => by obtain ⟨rfl, h1⟩ := h; exact ⟨Nat.le_refl _, h1⟩

/-! the stretches of a tree -/
def spr : Tr → Nat → Nat → Option Nat → List St3 → List St3
  | .nil, k, a, x, L => addS L a (a + 2 ^ k - 1) x
  | .nd g l r, k, a, x, L => if (l.isNil && r.isNil) = true then addS L a (a + 2 ^ k - 1) (g.or x) else spr r (k - 1) (a + 2 ^ (k - 1)) (g.or x) (spr l (k - 1) a (g.or x) L)
theorem isNil_iff {t : Tr} : t.isNil = true ↔ t = .nil := by cases t <;> simp [Tr.isNil]
theorem word_cons (n k : Nat) : word n (k + 1) = decide (n / 2 ^ k % 2 = 1) :: word n k := by
  unfold word
  rw [List.range_succ_eq_map, List.map_cons, List.map_map]
  congr 1
  refine List.map_congr_left fun i _ => ?_
  show decide (n / 2 ^ (k + 1 - 1 - (i + 1)) % 2 = 1) = _
  rw [show k + 1 - 1 - (i + 1) = k - 1 - i by omega]
theorem word_mod (n k : Nat) : word (n % 2 ^ k) k = word n k :=
  num_inj (by rw [word_len, word_len]) (by rw [num_word, num_word, Nat.mod_mod])
theorem spr_tl {f : Nat → Option Nat} {A : Nat} : ∀ (t : Tr) (k a : Nat) (x : Option Nat) (L : List St3), t.deep k → Tl f a A L → (∀ n, a ≤ n → n < a + 2 ^ k → f n = t.road x (word (n - a) k)) → Tl f (a + 2 ^ k) A (spr t k a x L)
  | .nil, k, a, x, L, hd, hl, hf => by
    have p := pow_pos2 k
    have e : a + 2 ^ k - 1 + 1 = a + 2 ^ k := by omega
    have := hl.snoc (l := a + 2 ^ k - 1) (r := x) (by omega) fun n n1 n2 => (hf n n1 (by omega)).trans (Tr.road_nil _ _)
    rw [e] at this
    exact this
  | .nd g l r, k, a, x, L, hd, hl, hf => by
    have p := pow_pos2 k
    unfold spr
    by_cases h : (l.isNil && r.isNil) = true
    · rw [if_pos h]
      rw [Bool.and_eq_true, isNil_iff, isNil_iff] at h
      obtain ⟨rfl, rfl⟩ := h
      have e : a + 2 ^ k - 1 + 1 = a + 2 ^ k := by omega
      have := hl.snoc (l := a + 2 ^ k - 1) (r := g.or x) (by omega) fun n n1 n2 => (hf n n1 (by omega)).trans (by
        generalize word (n - a) k = w
        cases w with
        | nil => rfl
        | cons b w => show (Tr.kid b .nil .nil).road (g.or x) w = _; cases b <;> exact Tr.road_nil _ _)
      rw [e] at this
      exact this
    · rw [if_neg h]
      cases k with
      | zero => obtain ⟨rfl, rfl⟩ := hd; exact absurd rfl h
      | succ k =>
        obtain ⟨d1, d2⟩ := hd
        have p2 := pow_pos2 k
        have e2 : 2 ^ (k + 1) = 2 ^ k + 2 ^ k := by rw [Nat.pow_succ]; omega
        have h1 := spr_tl l k a (g.or x) L d1 hl fun n n1 n2 => by
          rw [hf n n1 (by omega), word_cons]
          have : (n - a) / 2 ^ k % 2 = 0 := by rw [Nat.div_eq_of_lt (by omega)]
          rw [this]
          rfl
        have h2 := spr_tl r k (a + 2 ^ k) (g.or x) _ d2 h1 fun n n1 n2 => by
          rw [hf n (by omega) (by omega), word_cons]
          have e3 : (n - a) / 2 ^ k = 1 := by
            rw [Nat.div_eq_iff p2]
            omega
          have e4 : (n - a) % 2 ^ k = n - (a + 2 ^ k) := by
            have := Nat.mod_add_div (n - a) (2 ^ k)
            rw [e3, Nat.mul_one] at this
            omega
          rw [e3, ← word_mod (n - a), e4]
          rfl
        show Tl f (a + 2 ^ (k + 1)) A (spr r (k + 1 - 1) _ _ _)
        have e5 : a + 2 ^ (k + 1) = a + 2 ^ k + 2 ^ k := by omega
        rw [e5]
        exact h2
theorem spr_len : ∀ (t : Tr) (k a : Nat) (x : Option Nat) (L : List St3), (spr t k a x L).length ≤ L.length + t.size + 1
  | .nil, k, a, x, L => by have := addS_len a (a + 2 ^ k - 1) x L; show (addS L a _ x).length ≤ _; simp only [Tr.size]; omega
  | .nd g l r, k, a, x, L => by
    unfold spr
    split
    · have := addS_len a (a + 2 ^ k - 1) (g.or x) L
      omega
    · have h1 := spr_len l (k - 1) a (g.or x) L
      have h2 := spr_len r (k - 1) (a + 2 ^ (k - 1)) (g.or x) (spr l (k - 1) a (g.or x) L)
      simp only [Tr.size]
      omega
/-- the road by numbers of words -/
def fT (t : Tr) (w n : Nat) : Option Nat := t.road none (word n w)
theorem word_split {s : List Bool} {w n : Nat} (hs : s.length ≤ w) (h1 : num s * 2 ^ (w - s.length) ≤ n) (h2 : n < num s * 2 ^ (w - s.length) + 2 ^ (w - s.length)) : word n w = s ++ word (n - num s * 2 ^ (w - s.length)) (w - s.length) := by
  have hn : n < 2 ^ w := by
    have h3 := num_lt s
    have h4 : (num s + 1) * 2 ^ (w - s.length) ≤ 2 ^ s.length * 2 ^ (w - s.length) := Nat.mul_le_mul_right _ h3
    rw [← Nat.pow_add, show s.length + (w - s.length) = w by omega, Nat.add_mul, Nat.one_mul] at h4
    omega
  refine num_inj (by rw [word_len, List.length_append, word_len]; omega) ?_
  rw [num_word, num_append, num_word, word_len, Nat.mod_eq_of_lt hn, Nat.mod_eq_of_lt (by omega)]
  omega
theorem strs_tl {t : Tr} {w : Nat} {s : List Bool} (hd : (t.sub s).deep (w - s.length)) (hs : s.length ≤ w) :
    Tl (fT t w) (num s * 2 ^ (w - s.length) + 2 ^ (w - s.length)) (num s * 2 ^ (w - s.length)) (spr (t.sub s) (w - s.length) (num s * 2 ^ (w - s.length)) (t.road none s) []) := by
  refine spr_tl (t.sub s) (w - s.length) _ (t.road none s) [] hd rfl fun n n1 n2 => ?_
  unfold fT
  rw [word_split hs n1 n2, Tr.road_append]
theorem deep_sub : ∀ {s : List Bool} {t : Tr} {n : Nat}, t.deep n → s.length ≤ n → (t.sub s).deep (n - s.length)
  | [], t, n, h, _ => h
  | b :: s, .nil, n, _, _ => by rw [Tr.sub_nil]; trivial
  | b :: s, .nd g l r, 0, _, k => by simp at k
  | b :: s, .nd g l r, n + 1, h, k => by
    have k2 : s.length ≤ n := Nat.le_of_succ_le_succ k
    have e : n + 1 - (b :: s).length = n - s.length := by rw [List.length_cons]; omega
    rw [e]
    cases b
    · exact deep_sub (t := l) h.1 k2
    · exact deep_sub (t := r) h.2 k2
end Br

/-! Trees of knots and lists of tuples as they stand in a heap. -/
namespace Br
open PySem PySem.Spec PyProof.Rows L2

/-- the last item -/
theorem ix_last {n m : Nat} (h : n = m + 1) : ixN n (-1) = some m := by
  unfold ixN
  rw [h, if_neg (by decide), if_pos (by omega)]
  congr 1
  omega
theorem atI_end {α : Type} {vs : List α} {v : α} {n : Nat} (h : vs.length = n + 1) (e : vs[n]? = some v) : atI vs (-1) = some v := by
  unfold atI
  rw [ix_last h]
  exact e
/-! ### what stays but for the objects of S; tuples stay always; nothing goes -/
structure Mod (S : List Addr) (H H' : Hp) : Prop where
  of : ∀ a o, H a = some o → (a ∉ S ∨ ∃ xs, o = .tup xs) → H' a = some o
  live : ∀ a o, H a = some o → ∃ u, H' a = some u
instance (S : List Addr) (H H' : Hp) : CoeFun (Mod S H H') (fun _ => ∀ a o, H a = some o → (a ∉ S ∨ ∃ xs, o = .tup xs) → H' a = some o) := ⟨Mod.of⟩
namespace Mod
variable {S T : List Addr} {H H1 H2 : Hp} {p : Addr} {o : HO}
theorem refl : Mod S H H := ⟨fun _ _ e _ => e, fun _ _ e => ⟨_, e⟩⟩
theorem same (h : Same H H1) : Mod S H H1 := ⟨fun a o e _ => h a o e, fun a o e => ⟨_, h a o e⟩⟩
theorem toSame (h : Mod [] H H1) : Same H H1 := fun a o e => h a o e (.inl (by simp))
theorem mono (h : Mod S H H1) (k : ∀ a ∈ S, a ∈ T) : Mod T H H1 := ⟨fun a o e c => h a o e (c.imp (fun n m => n (k a m)) id), h.live⟩
theorem free (h : Mod S H H1) (e : H1 p = none) : H p = none := by
  cases q : H p with
  | none => rfl
  | some o => obtain ⟨u, z⟩ := h.live p o q; rw [e] at z; cases z
theorem step (h1 : Mod S H H1) (h2 : Mod T H1 H2) (k : ∀ a ∈ T, a ∈ S ∨ H a = none) : Mod S H H2 := ⟨fun a o e c => by
  refine h2 a o (h1 a o e c) ?_
  rcases c with c | c
  · refine .inl fun m => ?_
    rcases k a m with k | k
    · exact c k
    · rw [e] at k; cases k
  · exact .inr c, fun a o e => by obtain ⟨u, z⟩ := h1.live a o e; exact h2.live a u z⟩
theorem trans (h1 : Mod S H H1) (h2 : Mod S H1 H2) : Mod S H H2 := h1.step h2 fun a m => .inl m
theorem thenSame (h1 : Mod S H H1) (h2 : Same H1 H2) : Mod S H H2 := h1.trans (Mod.same h2)
theorem new (h1 : Mod S H H1) (hp : H1 p = none) : Mod S H (upd H1 p o) := h1.thenSame fun a u z => by
  rw [upd_ne (ne_of_none z hp)]
  exact z
theorem upd (h1 : Mod S H H1) (hp : p ∈ S ∨ H p = none) (ht : ∀ xs, H1 p ≠ some (.tup xs)) : Mod S H (L2.upd H1 p o) := ⟨fun a u e c => by
  have z := h1 a u e c
  by_cases ea : a = p
  · subst ea
    rcases c with c | ⟨xs, rfl⟩
    · rcases hp with hp | hp
      · exact absurd hp c
      · rw [e] at hp; cases hp
    · exact absurd z (ht xs)
  · rw [upd_ne ea]
    exact z, fun a u e => by
  by_cases ea : a = p
  · subst ea
    exact ⟨_, upd_same⟩
  · rw [upd_ne ea]
    exact h1.live a u e⟩
end Mod

/-! ### roads as values -/
def ov : Option Nat → V
  | none => .non
  | some n => .int (n : Int)
theorem ov_non (g : Option Nat) : decide (ov g = .non) = g.isNone := by cases g <;> simp [ov]
theorem ov_inj {a b : Option Nat} (h : ov a = ov b) : a = b := by
  cases a with
  | none => cases b with
    | none => rfl
    | some y => cases h
  | some x => cases b with
    | none => cases h
    | some y =>
      have h : V.int (x : Int) = V.int (y : Int) := h
      injection h with h
      rw [Int.ofNat_inj.mp h]
theorem ov_eq (a b : Option Nat) : decide (ov a = ov b) = decide (a = b) := by
  by_cases h : a = b
  · rw [decide_eq_true h, decide_eq_true (by rw [h])]
  · rw [decide_eq_false h, decide_eq_false fun z => h (ov_inj z)]
theorem ov_scal (a b : Option Nat) : scal (ov a) (ov b) = true := by cases a <;> cases b <;> rfl

/-! ### trees of knots -/
inductive AT where
  | nil
  | nd (a dx ka : Addr) (g : Option Nat) (l r : AT)
namespace AT
def val : AT → V
  | nil => .non
  | nd a _ _ _ _ _ => .ref a
def tr : AT → Tr
  | nil => .nil
  | nd _ _ _ g l r => .nd g l.tr r.tr
def fp : AT → List Addr
  | nil => []
  | nd a _ ka _ l r => a :: ka :: (l.fp ++ r.fp)
def kf (ka : Addr) (g : Option Nat) : List (Str × V) := [("kids", .ref ka), ("goal", ov g)]
def ok (C : Addr) (H : Hp) : AT → Prop
  | nil => True
  | nd a dx ka g l r => H a = some (.ins C dx (kf ka g)) ∧ H ka = some (.lst [l.val, r.val]) ∧ l.ok C H ∧ r.ok C H
def kid (b : Bool) (l r : AT) : AT := if b then r else l
def sub : AT → List Bool → AT
  | t, [] => t
  | nil, _ :: _ => nil
  | nd _ _ _ _ l r, b :: s => (kid b l r).sub s
/-- the knots along a start -/
def way : AT → List Bool → List AT
  | nil, _ => []
  | t@(nd _ _ _ _ _ _), [] => [t]
  | t@(nd _ _ _ _ l r), b :: s => t :: (kid b l r).way s
def goal : AT → Option Nat
  | nil => none
  | nd _ _ _ g _ _ => g
variable {C : Addr} {H H1 : Hp} {S : List Addr}
theorem ok_mod : ∀ {t : AT}, t.ok C H → Mod S H H1 → (∀ a ∈ t.fp, a ∉ S) → t.ok C H1
  | nil, _, _, _ => trivial
  | nd a dx ka g l r, h, m, d => ⟨m _ _ h.1 (.inl (d a (by simp [fp]))), m _ _ h.2.1 (.inl (d ka (by simp [fp]))), ok_mod h.2.2.1 m fun x hx => d x (by simp [fp, hx]), ok_mod h.2.2.2 m fun x hx => d x (by simp [fp, hx])⟩
theorem ok_same {t : AT} (h : t.ok C H) (m : Same H H1) : t.ok C H1 := ok_mod (S := []) h (Mod.same m) (by simp)
theorem kid_tr (b : Bool) (l r : AT) : (kid b l r).tr = Tr.kid b l.tr r.tr := by cases b <;> rfl
theorem kid_ok {b : Bool} {l r : AT} (h : l.ok C H) (k : r.ok C H) : (kid b l r).ok C H := by cases b; exact h; exact k
theorem kid_fp {b : Bool} {l r : AT} {x : Addr} (h : x ∈ (kid b l r).fp) : x ∈ l.fp ++ r.fp := by
  cases b
  · exact List.mem_append.mpr (.inl h)
  · exact List.mem_append.mpr (.inr h)
theorem sub_tr : ∀ (s : List Bool) (t : AT), (t.sub s).tr = t.tr.sub s
  | [], _ => by rfl
  | b :: s, nil => by rfl
  | b :: s, nd a dx ka g l r => by
    show ((kid b l r).sub s).tr = (Tr.kid b l.tr r.tr).sub s
    rw [sub_tr s, kid_tr]
theorem sub_ok : ∀ (s : List Bool) {t : AT}, t.ok C H → (t.sub s).ok C H
  | [], _, h => h
  | b :: s, nil, h => trivial
  | b :: s, nd a dx ka g l r, h => sub_ok s (kid_ok h.2.2.1 h.2.2.2)
theorem sub_fp : ∀ (s : List Bool) (t : AT) (x : Addr), x ∈ (t.sub s).fp → x ∈ t.fp
  | [], _, _, h => h
  | b :: s, nil, _, h => h
  | b :: s, nd a dx ka g l r, x, h => by
    have := kid_fp (sub_fp s (kid b l r) x h)
    simp only [fp, List.mem_cons]
    exact .inr (.inr this)
theorem kid_nd {b : Bool} {l r : AT} (h : (l.fp ++ r.fp).Nodup) : (kid b l r).fp.Nodup := by
  cases b
  · exact (List.nodup_append.mp h).1
  · exact (List.nodup_append.mp h).2.1
theorem sub_nd : ∀ (s : List Bool) {t : AT}, t.fp.Nodup → (t.sub s).fp.Nodup
  | [], _, h => h
  | b :: s, nil, h => h
  | b :: s, nd a dx ka g l r, h => sub_nd s (kid_nd (List.nodup_cons.mp (List.nodup_cons.mp h).2).2)
theorem val_tr (t : AT) : decide (t.val = .non) = t.tr.isNil := by cases t <;> simp [val, tr, Tr.isNil]
theorem isNon_val (t : AT) : isNon t.val = t.tr.isNil := by cases t <;> rfl
theorem sub_snoc : ∀ (s : List Bool) (b : Bool) (t : AT), t.sub (s ++ [b]) = (t.sub s).sub [b]
  | [], b, t => rfl
  | c :: s, b, nil => by rfl
  | c :: s, b, nd a dx ka g l r => sub_snoc s b (kid c l r)
/-- the knots along a start: one for each beginning at hand -/
theorem way_get : ∀ (s : List Bool) (t : AT) (i : Nat), i ≤ s.length → t.sub (s.take i) ≠ nil → (t.way s)[i]? = some (t.sub (s.take i))
  | s, nil, i, h, n => by
    refine (n ?_).elim
    cases s.take i <;> rfl
  | [], nd a dx ka g l r, 0, h, n => rfl
  | [], nd a dx ka g l r, i + 1, h, n => by simp at h
  | b :: s, nd a dx ka g l r, 0, h, n => rfl
  | b :: s, nd a dx ka g l r, i + 1, h, n => way_get s (kid b l r) i (Nat.le_of_succ_le_succ h) n
theorem way_len_le : ∀ (s : List Bool) (t : AT), (t.way s).length ≤ s.length + 1
  | s, nil => by cases s <;> exact Nat.zero_le _
  | [], nd a dx ka g l r => Nat.le_refl _
  | b :: s, nd a dx ka g l r => Nat.succ_le_succ (way_len_le s (kid b l r))
theorem way_len : ∀ (s : List Bool) (t : AT), s.length < (t.way s).length ↔ t.sub s ≠ nil
  | [], nil => by simp [way, sub]
  | b :: s, nil => by simp [way, sub]
  | [], nd a dx ka g l r => by simp [way, sub]
  | b :: s, nd a dx ka g l r => by
    have := way_len s (kid b l r)
    show s.length + 1 < ((kid b l r).way s).length + 1 ↔ _
    show s.length + 1 < ((kid b l r).way s).length + 1 ↔ (kid b l r).sub s ≠ nil
    rw [← this]
    omega
theorem way_mem : ∀ (s : List Bool) (t : AT) (u : AT), u ∈ t.way s → ∃ i, i ≤ s.length ∧ u = t.sub (s.take i) ∧ u ≠ nil
  | s, nil, u, h => by cases s <;> cases h
  | [], nd a dx ka g l r, u, h => by
    rcases List.mem_cons.mp h with h | h
    · exact ⟨0, Nat.le_refl _, h, by rw [h]; intro z; cases z⟩
    · cases h
  | b :: s, nd a dx ka g l r, u, h => by
    rcases List.mem_cons.mp h with h | h
    · exact ⟨0, Nat.zero_le _, h, by rw [h]; intro z; cases z⟩
    · obtain ⟨i, h1, h2, h3⟩ := way_mem s (kid b l r) u h
      exact ⟨i + 1, Nat.succ_le_succ h1, h2, h3⟩
/-- the longest start's road, along the way -/
theorem way_road : ∀ (s : List Bool) (t : AT) (x : Option Nat), (t.way s).foldl (fun x n => n.goal.or x) x = t.tr.road x s
  | [], nil, x => rfl
  | b :: s, nil, x => rfl
  | [], nd a dx ka g l r, x => rfl
  | b :: s, nd a dx ka g l r, x => by
    show ((kid b l r).way s).foldl _ (g.or x) = (Tr.kid b l.tr r.tr).road (g.or x) s
    rw [way_road s, kid_tr]
theorem way_nil {t : AT} (h : t ≠ nil) (s : List Bool) : 0 < (t.way s).length := by
  cases t with
  | nil => exact (h rfl).elim
  | nd a dx ka g l r => cases s <;> exact Nat.succ_pos _
theorem goal_get : ∀ (s : List Bool) (t : AT), (t.sub s).goal = t.tr.get s
  | [], nil => rfl
  | b :: s, nil => rfl
  | [], nd a dx ka g l r => rfl
  | b :: s, nd a dx ka g l r => by
    show ((kid b l r).sub s).goal = (Tr.kid b l.tr r.tr).get s
    rw [goal_get s, kid_tr]
end AT

/-! ### lists of tuples -/
def LT (H : Hp) (p : Addr) (L : List (List V)) : Prop := ∃ vs : List V, H p = some (.lst vs) ∧ vs.length = L.length ∧ ∀ (i : Nat) (row : List V), L[i]? = some row → ∃ a, vs[i]? = some (V.ref a) ∧ H a = some (.tup row)
namespace LT
variable {H H1 : Hp} {p q : Addr} {L : List (List V)} {row : List V} {vs : List V}
theorem nil : LT (upd H p (.lst [])) p [] := ⟨[], upd_same, rfl, fun i row h => by simp at h⟩
theorem modd {S : List Addr} (h : LT H p L) (m : Mod S H H1) (hp : p ∉ S) : LT H1 p L := by
  obtain ⟨vs, h1, h2, h3⟩ := h
  refine ⟨vs, m _ _ h1 (.inl hp), h2, fun i row e => ?_⟩
  obtain ⟨a, h4, h5⟩ := h3 i row e
  exact ⟨a, h4, m _ _ h5 (.inr ⟨_, rfl⟩)⟩
theorem same (h : LT H p L) (m : Same H H1) : LT H1 p L := h.modd (S := []) (Mod.same m) (by simp)
theorem snoc (h1 : H p = some (.lst vs)) (h2 : vs.length = L.length) (h3 : ∀ (i : Nat) (row : List V), L[i]? = some row → ∃ a, vs[i]? = some (V.ref a) ∧ H a = some (.tup row)) (hq : H q = some (.tup row)) :
    LT (upd H p (.lst (vs ++ [.ref q]))) p (L ++ [row]) := by
  refine ⟨_, upd_same, by simp [h2], fun i row' e => ?_⟩
  by_cases hi : i < L.length
  · rw [List.getElem?_append_left hi] at e
    obtain ⟨a, h4, h5⟩ := h3 i row' e
    refine ⟨a, by rw [List.getElem?_append_left (by omega)]; exact h4, ?_⟩
    rw [upd_ne (ne_of h5 h1 (by intro z; cases z))]
    exact h5
  · rw [List.getElem?_append_right (by omega)] at e
    have hi0 : i - L.length = 0 := by
      cases z : i - L.length with
      | zero => rfl
      | succ k => rw [z] at e; cases e
    rw [hi0] at e
    cases e
    refine ⟨q, ?_, ?_⟩
    · rw [List.getElem?_append_right (by omega), h2, hi0]
      rfl
    · rw [upd_ne (ne_of hq h1 (by intro z; cases z))]
      exact hq
theorem set {j : Nat} (h1 : H p = some (.lst vs)) (h2 : vs.length = L.length) (h3 : ∀ (i : Nat) (row : List V), L[i]? = some row → ∃ a, vs[i]? = some (V.ref a) ∧ H a = some (.tup row)) (hq : H q = some (.tup row)) :
    LT (upd H p (.lst (vs.set j (.ref q)))) p (L.set j row) := by
  refine ⟨_, upd_same, by simp [h2], fun i row' e => ?_⟩
  by_cases hi : j = i
  · subst hi
    rw [List.getElem?_set_self' ] at e
    cases e2 : L[j]? with
    | none => rw [e2] at e; cases e
    | some r0 =>
      rw [e2] at e
      cases e
      have hj : j < L.length := (List.getElem?_eq_some_iff.mp e2).1
      refine ⟨q, ?_, ?_⟩
      · rw [List.getElem?_set_self (by omega)]
      · rw [upd_ne (ne_of hq h1 (by intro z; cases z))]
        exact hq
  · rw [List.getElem?_set_ne hi] at e
    obtain ⟨a, h4, h5⟩ := h3 i row' e
    refine ⟨a, by rw [List.getElem?_set_ne hi]; exact h4, ?_⟩
    rw [upd_ne (ne_of h5 h1 (by intro z; cases z))]
    exact h5
end LT
theorem LT.read {H : Hp} {p : Addr} {L : List (List V)} {i : Nat} {row : List V} (h : LT H p L) (e : L[i]? = some row) : ∃ vs c, H p = some (.lst vs) ∧ vs.length = L.length ∧ atI vs (i : Int) = some (V.ref c) ∧ H c = some (.tup row) := by
  obtain ⟨vs, h1, h2, h3⟩ := h
  obtain ⟨c, h4, h5⟩ := h3 i row e
  exact ⟨vs, c, h1, h2, atI_nat h4, h5⟩
def row3 : St3 → List V | (a, l, r) => [.int (a : Nat), .int (l : Nat), ov r]
def row4 : Df4 → List V | (a, l, r, q) => [.int (a : Nat), .int (l : Nat), ov r, ov q]
/-! flat values as data -/
def dOf : V → PyData
  | .int i => .int i
  | .bl b => .bool b
  | .str z => .str z
  | _ => .none
def flat : V → Bool
  | .non => true | .int _ => true | .bl _ => true
  | .str z => z.cps.toList.all (fun c => decide (c < 1114112))
  | _ => false
theorem flat_ov (g : Option Nat) : flat (ov g) = true := by cases g <;> rfl
theorem flat_tx (l : List Bool) : flat (.str (tx l)) = true := sok_tx l
theorem flat_dp {K : PySem.W.Frag} {H : Hp} {v : V} (h : flat v = true) : Dp K H v (dOf v) := by
  cases v <;> first | exact .non | exact .int _ | exact .bl _ | exact .str _ | cases h
theorem flat_dok {v : V} (h : flat v = true) {k : Nat} : DOk k (dOf v) := by
  cases v <;> first | exact dok_none | exact dok_int _ | exact dok_bool _ | exact dok_str h | cases h
theorem flat_all {K : PySem.W.Frag} {H : Hp} : ∀ {row : List V}, row.all flat = true → DpAll K H row (row.map dOf)
  | [], _ => .nil
  | v :: row, h => by
    rw [List.all_cons, Bool.and_eq_true] at h
    exact .cons (flat_dp h.1) (flat_all h.2)
def dRows (L : List (List V)) : PyData := .list (L.map fun row => .tuple (row.map dOf))
theorem LT.dp {K : PySem.W.Frag} {H : Hp} {p : Addr} {L : List (List V)} (h : LT H p L) (hf : ∀ row ∈ L, row.all flat = true) : Dp K H (.ref p) (dRows L) := by
  obtain ⟨vs, h1, h2, h3⟩ := h
  refine .lst (SqL.of h1) ?_
  clear h1
  induction L generalizing vs with
  | nil => cases vs with
    | nil => exact .nil
    | cons v vs => cases h2
  | cons row L ih => cases vs with
    | nil => cases h2
    | cons v vs =>
      obtain ⟨a, e, ha⟩ := h3 0 row rfl
      cases e
      exact .cons (.tup (SqT.of ha) (flat_all (hf row List.mem_cons_self))) (ih (fun r hr => hf r (List.mem_cons_of_mem _ hr)) vs (by simpa using h2) fun i row e => h3 (i + 1) row e)
theorem dRows_ok {L : List (List V)} (hf : ∀ row ∈ L, row.all flat = true) : DOk 2 (dRows L) := by
  refine dok_list fun d hd => ?_
  obtain ⟨row, hr, rfl⟩ := List.mem_map.mp hd
  refine dok_tup (k := 0) fun d hd => ?_
  obtain ⟨v, hv, rfl⟩ := List.mem_map.mp hd
  exact flat_dok (List.all_eq_true.mp (hf row hr) v hv)
theorem flat3 (s : St3) : (row3 s).all flat = true := by
  obtain ⟨a, l, r⟩ := s
  cases r <;> rfl
theorem flat4 (s : Df4) : (row4 s).all flat = true := by
  obtain ⟨a, l, r, q⟩ := s
  cases r <;> cases q <;> rfl
theorem flat3s {L : List St3} : ∀ row ∈ L.map row3, row.all flat = true := fun row h => by
  obtain ⟨s, _, rfl⟩ := List.mem_map.mp h
  exact flat3 s
theorem flat4s {L : List Df4} : ∀ row ∈ L.map row4, row.all flat = true := fun row h => by
  obtain ⟨s, _, rfl⟩ := List.mem_map.mp h
  exact flat4 s
/-- lists made shorter, longer -/
theorem addS_snoc (x y : Nat) (q : Option Nat) (a l : Nat) (r : Option Nat) : ∀ M : List St3, addS (M ++ [(x, y, q)]) a l r = if q = r then M ++ [(x, l, r)] else M ++ [(x, y, q), (a, l, r)]
  | [] => by show addS [(x, y, q)] a l r = _; unfold addS; rfl
  | [s] => by
    show s :: addS [(x, y, q)] a l r = _
    unfold addS
    split <;> rfl
  | s :: t :: M => by
    show s :: addS (t :: M ++ [(x, y, q)]) a l r = _
    rw [addS_snoc x y q a l r (t :: M)]
    split <;> rfl
/-- one turn of between -/
theorem btw_step {f g : Nat → Option Nat} {b pos x1 y1 x2 y2 : Nat} {r1 r2 : Option Nat} {A B : List St3} (h1 : TlC f b pos ((x1, y1, r1) :: A)) (h2 : TlC g b pos ((x2, y2, r2) :: B)) (hx : x1 = pos ∨ x2 = pos)
    {last : Nat} (hl : last = min y1 y2) :
    max x1 x2 = pos ∧ TlC f b (last + 1) (if y1 = last then A else (x1, y1, r1) :: A) ∧ TlC g b (last + 1) (if y2 = last then B else (x2, y2, r2) :: B) ∧
    (∀ u v s t, (if y1 = last then A else (x1, y1, r1) :: A).head? = some (u, s) → (if y2 = last then B else (x2, y2, r2) :: B).head? = some (v, t) → u = last + 1 ∨ v = last + 1) ∧
    ∀ D, DTl f g b (last + 1) D → DTl f g b pos ((if r1 = r2 then [] else [(pos, last, r1, r2)]) ++ D) := by
  obtain ⟨a1, a2, a3, a4, a5, a6⟩ := h1
  obtain ⟨b1, b2, b3, b4, b5, b6⟩ := h2
  have hp : pos ≤ last := by omega
  refine ⟨by omega, ?_, ?_, ?_, ?_⟩
  · by_cases e : y1 = last
    · rw [if_pos e, ← e]
      exact a6.c
    · rw [if_neg e]
      exact ⟨by omega, by omega, a3, fun n n1 n2 => a4 n (by omega) n2, a5, a6⟩
  · by_cases e : y2 = last
    · rw [if_pos e, ← e]
      exact b6.c
    · rw [if_neg e]
      exact ⟨by omega, by omega, b3, fun n n1 n2 => b4 n (by omega) n2, b5, b6⟩
  · intro u v s t hu hv
    by_cases e : y1 = last
    · rw [if_pos e] at hu
      left
      cases A with
      | nil => cases hu
      | cons z A =>
        obtain ⟨x, y, q⟩ := z
        cases hu
        rw [← e]
        exact a6.1
    · have e2 : y2 = last := by omega
      rw [if_pos e2] at hv
      right
      cases B with
      | nil => cases hv
      | cons z B =>
        obtain ⟨x, y, q⟩ := z
        cases hv
        rw [← e2]
        exact b6.1
  · intro D hD
    by_cases e : r1 = r2
    · rw [if_pos e]
      refine DTl.gap (m := last + 1) (by omega) (fun n n1 n2 => ?_) hD
      rw [a4 n n1 (by omega), b4 n n1 (by omega), e]
    · rw [if_neg e]
      refine ⟨Nat.le_refl _, hp, by omega, e, fun n n1 n2 => by omega, fun n n1 n2 => ⟨a4 n n1 (by omega), b4 n n1 (by omega)⟩, fun hb hc => ?_, hD⟩
      by_cases e1 : y1 = last
      · rw [e1] at a5
        exact a5 hb hc.1
      · have e2 : y2 = last := by omega
        rw [e2] at b5
        exact b5 hb hc.2
end Br

/-! More on trees of knots: counts, sizes, a kid in another's place. -/
namespace Br
open PySem PySem.Spec PyProof.Rows L2
namespace Tr
theorem count_prune (t : Tr) : t.prune.count = t.count := by
  unfold prune
  split
  · rename_i h
    match t, h with
    | nd none nil nil, _ => rfl
  · rfl
theorem count_put (x : Nat) : ∀ (s : List Bool) (t : Tr), (t.put s x).count = t.count + (if t.get s = none then 1 else 0)
  | [], nil => by rfl
  | [], nd g l r => by
    cases g with
    | none => show (if (some x).isSome = true then 1 else 0) + l.count + r.count = (if (none : Option Nat).isSome = true then 1 else 0) + l.count + r.count + (if (none : Option Nat) = none then 1 else 0); simp; omega
    | some y => show (if (some x).isSome = true then 1 else 0) + l.count + r.count = (if (some y).isSome = true then 1 else 0) + l.count + r.count + (if (some y) = none then 1 else 0); simp
  | b :: s, nil => by
    have h := count_put x s nil
    have h0 : nil.get s = none := get_nil s
    rw [h0, if_pos rfl] at h
    have h1 : nil.get (b :: s) = none := rfl
    rw [h1, if_pos rfl]
    have h3 : nil.count = 0 := rfl
    cases b
    · show 0 + (put nil s x).count + 0 = _; omega
    · show 0 + 0 + (put nil s x).count = _; omega
  | b :: s, nd g l r => by
    cases b
    · have h := count_put x s l
      show (if g.isSome = true then 1 else 0) + (put l s x).count + r.count = (if g.isSome = true then 1 else 0) + l.count + r.count + (if l.get s = none then 1 else 0)
      omega
    · have h := count_put x s r
      show (if g.isSome = true then 1 else 0) + l.count + (put r s x).count = (if g.isSome = true then 1 else 0) + l.count + r.count + (if r.get s = none then 1 else 0)
      omega
theorem count_take : ∀ (s : List Bool) (t : Tr), (t.take s).count + (if t.get s = none then 0 else 1) = t.count
  | s, nil => by rw [get_nil, if_pos rfl]; cases s <;> rfl
  | [], nd g l r => by
    cases g with
    | none => show 0 + l.count + r.count + (if (none : Option Nat) = none then 0 else 1) = 0 + l.count + r.count; simp
    | some y => show 0 + l.count + r.count + (if (some y) = none then 0 else 1) = (if (some y).isSome = true then 1 else 0) + l.count + r.count; simp; omega
  | b :: s, nd g l r => by
    cases b
    · have h := count_take s l
      show (if g.isSome = true then 1 else 0) + (prune (take l s)).count + r.count + (if l.get s = none then 0 else 1) = (if g.isSome = true then 1 else 0) + l.count + r.count
      rw [count_prune]
      omega
    · have h := count_take s r
      show (if g.isSome = true then 1 else 0) + l.count + (prune (take r s)).count + (if r.get s = none then 0 else 1) = (if g.isSome = true then 1 else 0) + l.count + r.count
      rw [count_prune]
      omega
theorem count_le : ∀ t : Tr, t.count ≤ t.size
  | nil => Nat.le_refl _
  | nd g l r => by
    have h1 := count_le l
    have h2 := count_le r
    show (if g.isSome = true then 1 else 0) + l.count + r.count ≤ 1 + l.size + r.size
    split <;> omega
theorem size_put (x : Nat) : ∀ (s : List Bool) (t : Tr), (t.put s x).size ≤ t.size + s.length + 1
  | [], nil => by show 1 + 0 + 0 ≤ _; simp [size]
  | [], nd g l r => by show 1 + l.size + r.size ≤ 1 + l.size + r.size + 0 + 1; omega
  | b :: s, nil => by
    have h := size_put x s nil
    have h3 : nil.size = 0 := rfl
    cases b
    · show 1 + (put nil s x).size + 0 ≤ 0 + (s.length + 1) + 1; omega
    · show 1 + 0 + (put nil s x).size ≤ 0 + (s.length + 1) + 1; omega
  | b :: s, nd g l r => by
    cases b
    · have h := size_put x s l
      show 1 + (put l s x).size + r.size ≤ 1 + l.size + r.size + (s.length + 1) + 1; omega
    · have h := size_put x s r
      show 1 + l.size + (put r s x).size ≤ 1 + l.size + r.size + (s.length + 1) + 1; omega
theorem size_prune (t : Tr) : t.prune.size ≤ t.size := by
  unfold prune
  split
  · exact Nat.zero_le _
  · exact Nat.le_refl _
theorem size_take : ∀ (s : List Bool) (t : Tr), (t.take s).size ≤ t.size
  | s, nil => by cases s <;> exact Nat.le_refl _
  | [], nd g l r => Nat.le_refl _
  | b :: s, nd g l r => by
    cases b
    · have h := size_take s l
      have h2 := size_prune (l.take s)
      show 1 + (prune (take l s)).size + r.size ≤ 1 + l.size + r.size; omega
    · have h := size_take s r
      have h2 := size_prune (r.take s)
      show 1 + l.size + (prune (take r s)).size ≤ 1 + l.size + r.size; omega
theorem size_sub : ∀ (s : List Bool) (t : Tr), (t.sub s).size ≤ t.size
  | [], t => Nat.le_refl _
  | b :: s, nil => Nat.le_refl _
  | b :: s, nd g l r => by
    cases b
    · have h := size_sub s l
      show (l.sub s).size ≤ 1 + l.size + r.size; omega
    · have h := size_sub s r
      show (r.sub s).size ≤ 1 + l.size + r.size; omega
theorem put_new (s : List Bool) (x : Nat) : put nil s x = put (nd none nil nil) s x := by
  cases s with
  | nil => rfl
  | cons b s => cases b <;> rfl
theorem get_new (s : List Bool) : (nd none nil nil).get s = none := by
  cases s with
  | nil => rfl
  | cons b s => cases b <;> exact get_nil s
end Tr
namespace AT
variable {C : Addr} {H H1 H2 H3 : Hp} {S : List Addr}
def opt : AT → List AT
  | nil => []
  | t => [t]
theorem way_snoc : ∀ (s : List Bool) (b : Bool) (t : AT), t.way (s ++ [b]) = t.way s ++ opt (t.sub (s ++ [b]))
  | [], b, nil => rfl
  | [], b, nd a dx ka g l r => by
    show _ :: (kid b l r).way [] = [_] ++ opt (kid b l r)
    cases kid b l r <;> rfl
  | c :: s, b, nil => rfl
  | c :: s, b, nd a dx ka g l r => by
    show _ :: (kid c l r).way (s ++ [b]) = _ :: ((kid c l r).way s ++ opt ((kid c l r).sub (s ++ [b])))
    rw [way_snoc s]
theorem way_dead : ∀ (s u : List Bool) (t : AT), t.sub s = nil → t.way (s ++ u) = t.way s
  | s, u, nil, _ => by
    have : ∀ v, nil.way v = [] := fun v => by cases v <;> rfl
    rw [this, this]
  | [], u, nd a dx ka g l r, h => by cases h
  | b :: s, u, nd a dx ka g l r, h => by
    show _ :: (kid b l r).way (s ++ u) = _ :: (kid b l r).way s
    rw [way_dead s u _ h]
theorem ok_some : ∀ {t : AT}, t.ok C H → ∀ a ∈ t.fp, ∃ o, H a = some o
  | nil, _, _, h => by cases h
  | nd a dx ka g l r, h, x, hx => by
    simp only [fp, List.mem_cons, List.mem_append] at hx
    rcases hx with rfl | rfl | hx | hx
    · exact ⟨_, h.1⟩
    · exact ⟨_, h.2.1⟩
    · exact ok_some h.2.2.1 x hx
    · exact ok_some h.2.2.2 x hx
/-- a knot with another kid -/
def setk (a dx ka : Addr) (g : Option Nat) (b : Bool) (l r u : AT) : AT := nd a dx ka g (if b then l else u) (if b then u else r)
theorem setk_tr (a dx ka : Addr) (g : Option Nat) (b : Bool) (l r u : AT) : (setk a dx ka g b l r u).tr = .nd g (if b then l.tr else u.tr) (if b then u.tr else r.tr) := by cases b <;> rfl
theorem kid_set {T a dx ka : Addr} {g : Option Nat} {b : Bool} {l r u : AT} (h : (nd a dx ka g l r).ok C H2) (n : (T :: (nd a dx ka g l r).fp).Nodup) (hT : ∃ o, H2 T = some o)
    (m : Mod (T :: ka :: (kid b l r).fp) H2 H3) (hka : H3 ka = some (.lst [if b then l.val else u.val, if b then u.val else r.val])) (uo : u.ok C H3) (un : (T :: u.fp).Nodup) (fr : ∀ x ∈ u.fp, x ∈ (kid b l r).fp ∨ H2 x = none) :
    (setk a dx ka g b l r u).ok C H3 ∧ (T :: (setk a dx ka g b l r u).fp).Nodup ∧ (∀ x ∈ (setk a dx ka g b l r u).fp, x ∈ (nd a dx ka g l r).fp ∨ H2 x = none) ∧ Mod (T :: (nd a dx ka g l r).fp) H2 H3 := by
  obtain ⟨h1, h2, h3, h4⟩ := h
  simp only [fp, List.nodup_cons, List.mem_cons, List.mem_append, not_or, List.nodup_append] at n
  obtain ⟨⟨nTa, nTk, nTl, nTr⟩, ⟨nak, nal, nar⟩, ⟨nkl, nkr⟩, nl, nr, nlr⟩ := n
  simp only [List.nodup_cons] at un
  have sa : ∀ x ∈ u.fp, ∀ o, H2 x = some o → x ∈ (kid b l r).fp := fun x hx o e => (fr x hx).resolve_right (by rw [e]; intro z; cases z)
  have ua : a ∉ u.fp := fun hx => by
    have := sa a hx _ h1
    cases b
    · exact nal this
    · exact nar this
  have uk : ka ∉ u.fp := fun hx => by
    have := sa ka hx _ h2
    cases b
    · exact nkl this
    · exact nkr this
  have ha3 : H3 a = some (.ins C dx (kf ka g)) := m _ _ h1 (.inl (by
    simp only [List.mem_cons, not_or]
    refine ⟨fun e => nTa e.symm, nak, ?_⟩
    cases b
    · exact nal
    · exact nar))
  cases b
  · have or' : r.ok C H3 := ok_mod h4 m fun x hx => by
      simp only [List.mem_cons, not_or]
      exact ⟨fun e => nTr (e ▸ hx), fun e => nkr (e ▸ hx), fun e => nlr x e x hx rfl⟩
    refine ⟨⟨ha3, hka, uo, or'⟩, ?_, ?_, ?_⟩
    · simp only [setk, fp, List.nodup_cons, List.mem_cons, List.mem_append, not_or, List.nodup_append]
      refine ⟨⟨nTa, nTk, un.1, nTr⟩, ⟨nak, ua, nar⟩, ⟨uk, nkr⟩, un.2, nr, fun x hx y hy e => ?_⟩
      subst e
      obtain ⟨o, eo⟩ := ok_some h4 x hy
      exact nlr x (sa x hx o eo) x hy rfl
    · intro x hx
      simp only [setk, fp, List.mem_cons, List.mem_append] at hx ⊢
      rcases hx with hx | hx | hx | hx
      · exact .inl (.inl hx)
      · exact .inl (.inr (.inl hx))
      · rcases fr x hx with z | z
        · exact .inl (.inr (.inr (.inl z)))
        · exact .inr z
      · exact .inl (.inr (.inr (.inr hx)))
    · refine m.mono fun x hx => ?_
      simp only [fp, List.mem_cons, List.mem_append] at hx ⊢
      rcases hx with hx | hx | hx
      · exact .inl hx
      · exact .inr (.inr (.inl hx))
      · exact .inr (.inr (.inr (.inl hx)))
  · have ol : l.ok C H3 := ok_mod h3 m fun x hx => by
      simp only [List.mem_cons, not_or]
      exact ⟨fun e => nTl (e ▸ hx), fun e => nkl (e ▸ hx), fun e => nlr x hx x e rfl⟩
    refine ⟨⟨ha3, hka, ol, uo⟩, ?_, ?_, ?_⟩
    · simp only [setk, fp, List.nodup_cons, List.mem_cons, List.mem_append, not_or, List.nodup_append]
      refine ⟨⟨nTa, nTk, nTl, un.1⟩, ⟨nak, nal, ua⟩, ⟨nkl, uk⟩, nl, un.2, fun x hx y hy e => ?_⟩
      subst e
      obtain ⟨o, eo⟩ := ok_some h3 x hx
      exact nlr x hx x (sa x hy o eo) rfl
    · intro x hx
      simp only [setk, fp, List.mem_cons, List.mem_append] at hx ⊢
      rcases hx with hx | hx | hx | hx
      · exact .inl (.inl hx)
      · exact .inl (.inr (.inl hx))
      · exact .inl (.inr (.inr (.inl hx)))
      · rcases fr x hx with z | z
        · exact .inl (.inr (.inr (.inr z)))
        · exact .inr z
    · refine m.mono fun x hx => ?_
      simp only [fp, List.mem_cons, List.mem_append] at hx ⊢
      rcases hx with hx | hx | hx
      · exact .inl hx
      · exact .inr (.inr (.inl hx))
      · exact .inr (.inr (.inr (.inr hx)))
theorem kid_val (b : Bool) (l r : AT) : [l.val, r.val][if b then 1 else 0]? = some (kid b l r).val := by cases b <;> rfl
theorem sub_kid (s : List Bool) (b : Bool) {t : AT} {a dx ka : Addr} {g : Option Nat} {l r : AT} (h : t.sub s = nd a dx ka g l r) : t.sub (s ++ [b]) = kid b l r := by
  rw [sub_snoc, h]
  rfl
end AT
/-- the stretches beneath a start -/
def tells (t : Tr) (v : Nat) (s : List Bool) : List St3 := spr (t.sub s) (v - s.length) (num s * 2 ^ (v - s.length)) (t.road none s) []
theorem tells_len (t : Tr) (v : Nat) (s : List Bool) : (tells t v s).length ≤ t.size + 1 := by
  have h := spr_len (t.sub s) (v - s.length) (num s * 2 ^ (v - s.length)) (t.road none s) []
  have h2 := Tr.size_sub s t
  have h3 : ([] : List St3).length = 0 := rfl
  unfold tells
  omega
/-- a table -/
def tf (v : Nat) (t : AT) (n : Nat) : List (Str × V) := [("wide", .int (v : Int)), ("top", t.val), ("amount", .int (n : Int))]
structure Tab (CK CT : Addr) (H : Hp) (T : Addr) (v : Nat) (t : AT) : Prop where
  obj : ∃ d, H T = some (.ins CT d (tf v t t.tr.count))
  ok : t.ok CK H
  nd : (T :: t.fp).Nodup
  neat : t.tr.neat
  deep : t.tr.deep v
  w1 : 1 ≤ v
  w2 : v ≤ 64
  sz : t.tr.size ≤ 20000
namespace Tab
variable {CK CT T : Addr} {H H1 : Hp} {v : Nat} {t : AT} {S : List Addr}
theorem modd (h : Tab CK CT H T v t) (m : Mod S H H1) (d : ∀ a ∈ T :: t.fp, a ∉ S) : Tab CK CT H1 T v t := by
  obtain ⟨dx, ho⟩ := h.obj
  exact ⟨⟨dx, m _ _ ho (.inl (d T List.mem_cons_self))⟩, AT.ok_mod h.ok m fun a ha => d a (List.mem_cons_of_mem _ ha), h.nd, h.neat, h.deep, h.w1, h.w2, h.sz⟩
theorem same (h : Tab CK CT H T v t) (m : Same H H1) : Tab CK CT H1 T v t := h.modd (S := []) (Mod.same m) (by simp)
theorem ne (h : Tab CK CT H T v t) : t ≠ .nil := fun e => by
  have := h.neat
  rw [e] at this
  exact this
theorem some_ (h : Tab CK CT H T v t) : ∀ a ∈ T :: t.fp, ∃ o, H a = some o := fun a ha => by
  rcases List.mem_cons.mp ha with rfl | ha
  · obtain ⟨d, e⟩ := h.obj
    exact ⟨_, e⟩
  · exact AT.ok_some h.ok a ha
theorem free (h : Tab CK CT H T v t) {p : Addr} (e : H p = none) : p ∉ T :: t.fp := fun m => by
  obtain ⟨o, z⟩ := h.some_ p m
  rw [e] at z
  cases z
end Tab
end Br

/-! Rows in a dict, and the longest of them that fits a word. -/
namespace Br
open PySem PySem.Spec PyProof.Rows L2
abbrev RowL := List (List Bool × Nat)
/-- as a dict holds them -/
def RK (rows : RowL) : List (Key × V) := rows.map fun r => (.inr (tx r.1), .int (r.2 : Int))
def rget (rows : RowL) (s : List Bool) : Option Nat := (rows.find? fun r => decide (r.1 = s)).map (·.2)
def rput (rows : RowL) (s : List Bool) (x : Nat) : RowL := if (rows.any fun r => decide (r.1 = s)) = true then rows.map (fun r => if r.1 = s then (r.1, x) else r) else rows ++ [(s, x)]
def rdrop (rows : RowL) (s : List Bool) : RowL := rows.filter fun r => decide (r.1 ≠ s)
theorem key_eq (a b : List Bool) : ((Sum.inr (tx a) : Key) = .inr (tx b)) ↔ a = b := ⟨fun h => tx_inj (Sum.inr.inj h), fun h => by rw [h]⟩
theorem RK_len (rows : RowL) : (RK rows).length = rows.length := by simp [RK]
theorem RK_any (rows : RowL) (s : List Bool) : ((RK rows).any fun kv => decide (kv.1 = (.inr (tx s) : Key))) = rows.any fun r => decide (r.1 = s) := by
  unfold RK
  rw [List.any_map]
  congr 1
  funext r
  show decide ((Sum.inr (tx r.1) : Key) = .inr (tx s)) = decide (r.1 = s)
  by_cases h : r.1 = s
  · rw [decide_eq_true h, decide_eq_true ((key_eq _ _).mpr h)]
  · rw [decide_eq_false h, decide_eq_false fun z => h ((key_eq _ _).mp z)]
theorem RK_get (rows : RowL) (s : List Bool) : valV (RK rows) (.inr (tx s)) = (rget rows s).map fun n : Nat => V.int (n : Int) := by
  induction rows with
  | nil => rfl
  | cons r rows ih =>
    show valV ((.inr (tx r.1), .int (r.2 : Int)) :: RK rows) (.inr (tx s)) = _
    by_cases h : r.1 = s
    · rw [valV_pos (show ((Sum.inr (tx r.1), V.int (r.2 : Int)) : Key × V).1 = _ from (key_eq _ _).mpr h)]
      simp [rget, List.find?_cons, h]
    · rw [valV_neg (show ¬ ((Sum.inr (tx r.1), V.int (r.2 : Int)) : Key × V).1 = _ from fun z => h ((key_eq _ _).mp z)), ih]
      simp [rget, List.find?_cons, h]
theorem RK_put (rows : RowL) (s : List Bool) (x : Nat) : putK (RK rows) (.inr (tx s)) (.int (x : Int)) = RK (rput rows s x) := by
  unfold putK rput
  rw [RK_any]
  split
  · unfold RK
    rw [List.map_map, List.map_map]
    refine List.map_congr_left fun r _ => ?_
    show (if (Sum.inr (tx r.1) : Key) = .inr (tx s) then _ else _) = _
    by_cases h : r.1 = s
    · rw [if_pos ((key_eq _ _).mpr h)]
      show _ = (fun r : List Bool × Nat => ((.inr (tx r.1) : Key), V.int (r.2 : Int))) (if r.1 = s then (r.1, x) else r)
      rw [if_pos h]
    · rw [if_neg fun z => h ((key_eq _ _).mp z)]
      show _ = (fun r : List Bool × Nat => ((.inr (tx r.1) : Key), V.int (r.2 : Int))) (if r.1 = s then (r.1, x) else r)
      rw [if_neg h]
  · unfold RK
    rw [List.map_append]
    rfl
theorem RK_drop (rows : RowL) (s : List Bool) : dropK (RK rows) (.inr (tx s)) = RK (rdrop rows s) := by
  unfold dropK rdrop RK
  rw [List.filter_map]
  congr 1
  refine List.filter_congr fun r _ => ?_
  exact decide_eq_decide.mpr (not_congr (key_eq _ _))
theorem rget_cons (r : List Bool × Nat) (rows : RowL) (u : List Bool) : rget (r :: rows) u = if r.1 = u then some r.2 else rget rows u := by
  unfold rget
  rw [List.find?_cons]
  by_cases h : r.1 = u
  · rw [decide_eq_true h, if_pos h]; rfl
  · rw [decide_eq_false h, if_neg h]
theorem rget_none {rows : RowL} {u : List Bool} : rget rows u = none ↔ u ∉ rows.map (·.1) := by
  induction rows with
  | nil => simp [rget]
  | cons r rows ih =>
    rw [rget_cons]
    by_cases h : r.1 = u
    · rw [if_pos h]; simp [h]
    · rw [if_neg h, ih]
      simp only [List.map_cons, List.mem_cons, not_or]
      exact ⟨fun k => ⟨fun e => h e.symm, k⟩, fun k => k.2⟩
theorem rany {rows : RowL} {s : List Bool} : (rows.any fun r => decide (r.1 = s)) = (rget rows s).isSome := by
  induction rows with
  | nil => rfl
  | cons r rows ih =>
    rw [List.any_cons, rget_cons, ih]
    by_cases h : r.1 = s
    · rw [decide_eq_true h, if_pos h]; rfl
    · rw [decide_eq_false h, if_neg h]; rfl
theorem int_inj {a b : Option Nat} (h : (a.map fun n : Nat => V.int (n : Int)) = b.map fun n : Nat => V.int (n : Int)) : a = b := by
  cases a with
  | none => cases b with
    | none => rfl
    | some y => cases h
  | some x => cases b with
    | none => cases h
    | some y =>
      have h : V.int (x : Int) = V.int (y : Int) := Option.some.inj h
      injection h with h
      rw [Int.ofNat_inj.mp h]
theorem rget_put (rows : RowL) (s : List Bool) (x : Nat) (u : List Bool) : rget (rput rows s x) u = if u = s then some x else rget rows u := by
  refine int_inj ?_
  rw [← RK_get, ← RK_put, valV_put]
  by_cases h : u = s
  · rw [if_pos ((key_eq _ _).mpr h), if_pos h]; rfl
  · rw [if_neg (fun z => h ((key_eq _ _).mp z)), if_neg h, RK_get]
theorem rget_drop (rows : RowL) (s u : List Bool) : rget (rdrop rows s) u = if u = s then none else rget rows u := by
  unfold rdrop
  induction rows with
  | nil => simp [rget]
  | cons r rows ih =>
    rw [List.filter_cons]
    by_cases h : r.1 = s
    · rw [if_neg (by simp [h]), ih, rget_cons]
      by_cases e : u = s
      · rw [if_pos e, if_pos e]
      · rw [if_neg e, if_neg e, if_neg (fun z => e (z.symm.trans h))]
    · rw [if_pos (by simp [h]), rget_cons, rget_cons, ih]
      by_cases e : r.1 = u
      · rw [if_pos e, if_pos e, if_neg (fun z => h (e.trans z))]
      · rw [if_neg e, if_neg e]
theorem rput_keys (rows : RowL) (s : List Bool) (x : Nat) : (rput rows s x).map (·.1) = if (rget rows s).isSome = true then rows.map (·.1) else rows.map (·.1) ++ [s] := by
  unfold rput
  rw [rany]
  split
  · rw [List.map_map]
    refine List.map_congr_left fun r _ => ?_
    show (if r.1 = s then (r.1, x) else r).1 = r.1
    split <;> rfl
  · simp
theorem rput_len (rows : RowL) (s : List Bool) (x : Nat) : (rput rows s x).length = rows.length + (if rget rows s = none then 1 else 0) := by
  have h := congrArg List.length (rput_keys rows s x)
  rw [List.length_map] at h
  rw [h]
  cases e : rget rows s with
  | none => rw [if_neg (by simp)]; simp
  | some y => rw [if_pos (by simp), if_neg (by simp)]; simp
theorem rdrop_len {rows : RowL} {s : List Bool} (hn : (rows.map (·.1)).Nodup) : (rdrop rows s).length + (if rget rows s = none then 0 else 1) = rows.length := by
  unfold rdrop
  induction rows with
  | nil => rfl
  | cons r rows ih =>
    obtain ⟨n1, n2⟩ := List.nodup_cons.mp hn
    have ih := ih n2
    rw [List.filter_cons, rget_cons]
    by_cases h : r.1 = s
    · rw [if_neg (by simp [h]), if_pos h, if_neg (by simp)]
      have : rget rows s = none := rget_none.mpr (by rw [← h]; exact n1)
      rw [this, if_pos rfl] at ih
      simp only [List.length_cons]
      omega
    · rw [if_pos (by simp [h]), if_neg h]
      simp only [List.length_cons]
      omega
/-- a dict of rows and a tree that tell the same -/
structure Agr (rows : RowL) (t : Tr) : Prop where
  nd : (rows.map (·.1)).Nodup
  get : ∀ s, rget rows s = t.get s
  len : rows.length = t.count
theorem Agr.nil : Agr [] (.nd none .nil .nil) := ⟨List.nodup_nil, fun s => by rw [Tr.get_new]; rfl, rfl⟩
theorem Agr.put {rows : RowL} {t : Tr} (h : Agr rows t) (s : List Bool) (x : Nat) : Agr (rput rows s x) (t.put s x) := by
  refine ⟨?_, fun u => ?_, ?_⟩
  · rw [rput_keys]
    split
    · exact h.nd
    · rename_i hn
      refine List.nodup_append.mpr ⟨h.nd, by simp, fun a ha b hb e => ?_⟩
      have : b = s := by simpa using hb
      have hs : rget rows s = none := by
        cases q : rget rows s with
        | none => rfl
        | some y => rw [q] at hn; exact (hn rfl).elim
      exact rget_none.mp hs (by rw [← this, ← e]; exact ha)
  · rw [rget_put, Tr.get_put, h.get]
  · rw [rput_len, Tr.count_put, h.len, h.get]
theorem Agr.take {rows : RowL} {t : Tr} (h : Agr rows t) (s : List Bool) : Agr (rdrop rows s) (t.take s) := by
  refine ⟨?_, fun u => ?_, ?_⟩
  · exact List.Nodup.sublist (List.Sublist.map _ List.filter_sublist) h.nd
  · rw [rget_drop, Tr.get_take, h.get]
  · have h1 := rdrop_len (s := s) h.nd
    have h2 := Tr.count_take s t
    have h3 := h.len
    rw [h.get] at h1
    omega
theorem Agr.mem {rows : RowL} {t : Tr} (h : Agr rows t) {r : List Bool × Nat} (hr : r ∈ rows) : t.get r.1 = some r.2 := by
  rw [← h.get]
  have hn := h.nd
  clear h
  induction rows with
  | nil => cases hr
  | cons r0 rows ih =>
    rw [rget_cons]
    obtain ⟨n1, n2⟩ := List.nodup_cons.mp hn
    rcases List.mem_cons.mp hr with e | hr
    · rw [e, if_pos rfl]
    · rw [if_neg fun e => n1 (by show r0.1 ∈ _; rw [e]; exact List.mem_map.mpr ⟨r, hr, rfl⟩)]
      exact ih hr n2
/-! ### the longest start that fits -/
def isPre (s w : List Bool) : Bool := decide (w.take s.length = s)
theorem isPre_cons (b : Bool) (s w : List Bool) : isPre (b :: s) (b :: w) = isPre s w := by
  unfold isPre
  by_cases h : w.take s.length = s
  · rw [decide_eq_true h]; simp [h]
  · rw [decide_eq_false h]; simp [h]
theorem isPre_len {s w : List Bool} (h : isPre s w = true) : s.length ≤ w.length := by
  have h := of_decide_eq_true h
  have := congrArg List.length h
  rw [List.length_take] at this
  omega
theorem lng_none : ∀ (w : List Bool) (f : List Bool → Option Nat) (y : Option Nat), (∀ u, isPre u w = true → f u = none) → Tr.lng f y w = y
  | [], f, y, h => by show (f []).or y = y; rw [h [] (by simp [isPre])]; rfl
  | b :: w, f, y, h => by
    show Tr.lng (fun u => f (b :: u)) ((f []).or y) w = y
    rw [h [] (by simp [isPre])]
    exact lng_none w _ _ fun u hu => h (b :: u) (by rw [isPre_cons]; exact hu)
theorem lng_best : ∀ (w s : List Bool) (f : List Bool → Option Nat) (y : Option Nat) (x : Nat), isPre s w = true → f s = some x → (∀ u, isPre u w = true → f u ≠ none → u.length ≤ s.length) → Tr.lng f y w = some x
  | [], s, f, y, x, hp, hs, hm => by
    have : s = [] := by have := isPre_len hp; exact List.length_eq_zero_iff.mp (Nat.le_zero.mp this)
    subst this
    show (f []).or y = some x
    rw [hs]
    rfl
  | b :: w, [], f, y, x, hp, hs, hm => by
    show Tr.lng (fun u => f (b :: u)) ((f []).or y) w = some x
    rw [hs]
    refine lng_none w _ _ fun u hu => ?_
    cases e : f (b :: u) with
    | none => rfl
    | some z => have := hm (b :: u) (by rw [isPre_cons]; exact hu) (by rw [e]; simp); simp at this
  | b :: w, c :: s, f, y, x, hp, hs, hm => by
    have e : b = c := by
      have h := of_decide_eq_true hp
      simp at h
      exact h.1
    subst e
    rw [isPre_cons] at hp
    exact lng_best w s _ _ x hp hs fun u hu hn => by
      have := hm (b :: u) (by rw [isPre_cons]; exact hu) hn
      simpa using this
def longer (b : Option (List Bool)) (s : List Bool) : Bool := match b with
  | none => true
  | some u => decide (u.length < s.length)
def best1 (w : List Bool) (b : Option (List Bool)) (s : List Bool) : Option (List Bool) :=
  if (isPre s w && longer b s) = true then some s else b
def bestOf (w : List Bool) (L : List (List Bool)) : Option (List Bool) := L.foldl (best1 w) none
theorem bestOf_snoc (w : List Bool) (L : List (List Bool)) (s : List Bool) : bestOf w (L ++ [s]) = best1 w (bestOf w L) s := by
  unfold bestOf
  rw [List.foldl_append]
  rfl
def BestOk (w : List Bool) (L : List (List Bool)) (b : Option (List Bool)) : Prop := (∀ s, b = some s → s ∈ L ∧ isPre s w = true) ∧ ∀ u ∈ L, isPre u w = true → ∃ s, b = some s ∧ u.length ≤ s.length
theorem bestOk1 {w : List Bool} {L : List (List Bool)} {b : Option (List Bool)} (h : BestOk w L b) (s : List Bool) : BestOk w (L ++ [s]) (best1 w b s) := by
  unfold best1
  by_cases c : (isPre s w && longer b s) = true
  · rw [if_pos c]
    obtain ⟨c1, c2⟩ := Bool.and_eq_true_iff.mp c
    refine ⟨fun u e => ?_, fun u hu hp => ⟨s, rfl, ?_⟩⟩
    · cases e
      exact ⟨by simp, c1⟩
    · rcases List.mem_append.mp hu with hu | hu
      · obtain ⟨v, e, hv⟩ := h.2 u hu hp
        rw [e] at c2
        have := of_decide_eq_true c2
        omega
      · have : u = s := by simpa using hu
        rw [this]
        exact Nat.le_refl _
  · rw [if_neg c]
    refine ⟨fun u e => ⟨List.mem_append.mpr (.inl (h.1 u e).1), (h.1 u e).2⟩, fun u hu hp => ?_⟩
    rcases List.mem_append.mp hu with hu | hu
    · exact h.2 u hu hp
    · have e : u = s := by simpa using hu
      subst e
      rw [hp, Bool.true_and] at c
      cases b with
      | none => exact (c rfl).elim
      | some v => exact ⟨v, rfl, by
          have : ¬ v.length < u.length := fun z => c (decide_eq_true z)
          omega⟩
theorem bestOk (w : List Bool) : ∀ L : List (List Bool), BestOk w L (bestOf w L) := by
  intro L
  have : ∀ (M N : List (List Bool)) (b : Option (List Bool)), BestOk w N b → BestOk w (N ++ M) (M.foldl (best1 w) b) := by
    intro M
    induction M with
    | nil => intro N b h; rw [List.append_nil]; exact h
    | cons s M ih =>
      intro N b h
      have := ih (N ++ [s]) (best1 w b s) (bestOk1 h s)
      rw [List.append_assoc] at this
      exact this
  refine this L [] none ⟨fun s e => ?_, fun u hu => ?_⟩
  · cases e
  · cases hu
/-- the road that the rows tell -/
def roadOf (rows : RowL) (w : List Bool) : Option Nat := match bestOf w (rows.map (·.1)) with
  | none => none
  | some s => rget rows s
theorem roadOf_lng {rows : RowL} (w : List Bool) : roadOf rows w = Tr.lng (rget rows) none w := by
  unfold roadOf
  have h := bestOk w (rows.map (·.1))
  cases e : bestOf w (rows.map (·.1)) with
  | none =>
    rw [e] at h
    refine (lng_none w _ _ fun u hu => ?_).symm
    cases q : rget rows u with
    | none => rfl
    | some x =>
      have hm : u ∈ rows.map (·.1) := Classical.byContradiction fun n => by rw [rget_none.mpr n] at q; cases q
      obtain ⟨s, z, _⟩ := h.2 u hm hu
      cases z
  | some s =>
    rw [e] at h
    obtain ⟨h1, h2⟩ := h.1 s rfl
    cases q : rget rows s with
    | none => exact absurd h1 (rget_none.mp q)
    | some x =>
      show rget rows s = _
      rw [q]
      refine (lng_best w s _ _ x h2 q fun u hu hn => ?_).symm
      have hm : u ∈ rows.map (·.1) := Classical.byContradiction fun n => hn (rget_none.mpr n)
      obtain ⟨v, z, hv⟩ := h.2 u hm hu
      cases z
      exact hv
theorem Agr.road {rows : RowL} {t : Tr} (h : Agr rows t) (w : List Bool) : roadOf rows w = t.road none w := by
  rw [roadOf_lng, Tr.road_lng, funext h.get]
theorem startswith_tx (w s : List Bool) : Txt.startswith (tx w) (tx s) = isPre s w := by
  unfold Txt.startswith isPre
  rw [StrLaws.subAt_eq, List.drop_zero, tx_len, tx_len, tx_cps, tx_cps, ← List.map_take, Nat.zero_add]
  have hi : ∀ a b : List Bool, a.map bc = b.map bc → a = b := fun a b h => tx_inj (by unfold tx; rw [h])
  by_cases h : w.take s.length = s
  · have hl : s.length ≤ w.length := by
      have := congrArg List.length h
      rw [List.length_take] at this
      omega
    rw [decide_eq_true h, h, decide_eq_true hl]
    simp
  · rw [decide_eq_false h]
    have : ¬ ((w.take s.length).map bc == s.map bc) = true := fun z => h (hi _ _ (eq_of_beq z))
    rw [Bool.eq_false_iff.mpr this, Bool.and_false]
end Br

/-! Tables and the laws' own rows of them, side by side in one heap. -/
namespace Br
open PySem PySem.Spec PyProof.Rows L2
/-- another value at one index -/
def at1 {ι α : Type} [DecidableEq ι] (f : ι → α) (i : ι) (x : α) : ι → α := fun j => if j = i then x else f j
theorem at1_same {ι α : Type} [DecidableEq ι] (f : ι → α) (i : ι) (x : α) : at1 f i x i = x := if_pos rfl
theorem at1_ne {ι α : Type} [DecidableEq ι] (f : ι → α) {i j : ι} (x : α) (h : j ≠ i) : at1 f i x j = f j := if_neg h
/-- n deeds ago there was nothing; T: the tables, d: the dicts of rows; L: what stands as it is -/
structure Wd {ι : Type} [DecidableEq ι] (CK CT : Addr) (v : Nat) (T d : ι → Addr) (L : List (Addr × HO)) (H : Hp) (n : Nat) (t : ι → AT) (rows : ι → RowL) : Prop where
  tab : ∀ i, Tab CK CT H (T i) v (t i)
  own : ∀ i, H (d i) = some (.dK (RK (rows i)))
  agr : ∀ i, Agr (rows i) (t i).tr
  len : ∀ i, ∀ r ∈ rows i, r.1.length ≤ v
  siz : ∀ i, (t i).tr.size ≤ 1 + 66 * n
  fix : ∀ p ∈ L, H p.1 = some p.2
  fixd : ∀ p ∈ L, ∀ i, p.1 ≠ d i
  fixo : ∀ p ∈ L, ∀ i, p.1 ∉ T i :: (t i).fp
  dout : ∀ i j, d i ∉ T j :: (t j).fp
  dis : ∀ i j, i ≠ j → ∀ x ∈ T i :: (t i).fp, x ∉ T j :: (t j).fp
  dne : ∀ i j, i ≠ j → d i ≠ d j
namespace Wd
variable {ι : Type} [DecidableEq ι] {CK CT : Addr} {v n : Nat} {T d : ι → Addr} {L : List (Addr × HO)} {H H1 H2 : Hp} {t : ι → AT} {rows : ι → RowL}
theorem same (h : Wd CK CT v T d L H n t rows) (s : Same H H1) : Wd CK CT v T d L H1 n t rows :=
  ⟨fun i => (h.tab i).same s, fun i => s _ _ (h.own i), h.agr, h.len, h.siz, fun p hp => s _ _ (h.fix p hp), h.fixd, h.fixo, h.dout, h.dis, h.dne⟩
theorem mem_len (h : Wd CK CT v T d L H n t rows) (i : ι) {s : List Bool} (e : s ∈ (rows i).map (·.1)) : s.length ≤ v := by
  obtain ⟨r, hr, rfl⟩ := List.mem_map.mp e
  exact h.len i r hr
/-- rows and table of i become others -/
theorem step (h : Wd CK CT v T d L H n t rows) (i : ι) {rs : RowL} {t' : AT} (m : Mod (T i :: (t i).fp) (upd H (d i) (.dK (RK rs))) H2) (tb : Tab CK CT H2 (T i) v t') (fr : ∀ a ∈ t'.fp, a ∈ (t i).fp ∨ H a = none)
    (ag : Agr rs t'.tr) (ln : ∀ r ∈ rs, r.1.length ≤ v) (sz : t'.tr.size ≤ 1 + 66 * (n + 1)) : Wd CK CT v T d L H2 (n + 1) (at1 t i t') (at1 rows i rs) := by
  have fr2 : ∀ a ∈ T i :: t'.fp, a ∈ T i :: (t i).fp ∨ H a = none := fun a ha => by
    rcases List.mem_cons.mp ha with rfl | ha
    · exact .inl List.mem_cons_self
    · exact (fr a ha).imp (fun z => List.mem_cons_of_mem _ z) id
  have dno : ∀ j, ∀ x ∈ T j :: (t j).fp, x ≠ d i := fun j x hx e => h.dout i j (e ▸ hx)
  have stay : ∀ a o, H a = some o → a ≠ d i → a ∉ T i :: (t i).fp → H2 a = some o := fun a o e ne no => m a o ((upd_ne ne).trans e) (.inl no)
  refine ⟨fun j => ?_, fun j => ?_, fun j => ?_, fun j => ?_, fun j => ?_, fun p hp => stay _ _ (h.fix p hp) (h.fixd p hp i) (h.fixo p hp i), h.fixd, fun p hp j => ?_, fun j k => ?_, fun j k hjk => ?_, h.dne⟩
  · by_cases e : j = i
    · subst e; rw [at1_same]; exact tb
    · rw [at1_ne _ _ e]
      refine (h.tab j).modd (S := d i :: T i :: (t i).fp) ⟨fun a o ea c => ?_, fun a o ea => ?_⟩ fun a ha => ?_
      · refine m a o ((upd_ne ?_).trans ea) ?_
        · rcases c with c | ⟨xs, rfl⟩
          · exact fun z => c (by simp [z])
          · exact ne_of ea (h.own i) (by intro z; cases z)
        · exact c.imp (fun c z => c (List.mem_cons_of_mem _ z)) id
      · by_cases ed : a = d i
        · exact m.live a _ (by rw [ed]; exact upd_same)
        · exact m.live a o ((upd_ne ed).trans ea)
      · intro z
        rcases List.mem_cons.mp z with z | z
        · exact dno j a ha z
        · exact h.dis j i e a ha z
  · by_cases e : j = i
    · subst e; rw [at1_same]
      exact m _ _ upd_same (.inl (h.dout j j))
    · rw [at1_ne _ _ e]
      exact stay _ _ (h.own j) (h.dne j i e) (h.dout j i)
  · by_cases e : j = i
    · subst e; rw [at1_same, at1_same]; exact ag
    · rw [at1_ne _ _ e, at1_ne _ _ e]; exact h.agr j
  · by_cases e : j = i
    · subst e; rw [at1_same]; exact ln
    · rw [at1_ne _ _ e]; exact h.len j
  · by_cases e : j = i
    · subst e; rw [at1_same]; exact sz
    · rw [at1_ne _ _ e]
      have := h.siz j
      omega
  · by_cases e : j = i
    · subst e; rw [at1_same]
      intro z
      rcases fr2 _ z with z | z
      · exact h.fixo p hp j z
      · rw [h.fix p hp] at z; cases z
    · rw [at1_ne _ _ e]; exact h.fixo p hp j
  · by_cases e : k = i
    · subst e; rw [at1_same]
      intro z
      rcases fr2 _ z with z | z
      · exact h.dout j k z
      · rw [h.own j] at z; cases z
    · rw [at1_ne _ _ e]; exact h.dout j k
  · intro x hx hy
    by_cases e : j = i
    · subst e
      have ek : k ≠ j := fun z => hjk z.symm
      rw [at1_same] at hx
      rw [at1_ne _ _ ek] at hy
      rcases fr2 x hx with z | z
      · exact h.dis j k hjk x z hy
      · obtain ⟨o, eo⟩ := (h.tab k).some_ x hy
        rw [eo] at z; cases z
    · rw [at1_ne _ _ e] at hx
      by_cases e2 : k = i
      · subst e2
        rw [at1_same] at hy
        rcases fr2 x hy with z | z
        · exact h.dis j k hjk x hx z
        · obtain ⟨o, eo⟩ := (h.tab j).some_ x hx
          rw [eo] at z; cases z
      · rw [at1_ne _ _ e2] at hy
        exact h.dis j k hjk x hx hy
/-- other objects that stand -/
theorem reL {L' : List (Addr × HO)} (h : Wd CK CT v T d L H n t rows) (hL : ∀ p ∈ L', H p.1 = some p.2 ∧ (∀ i, p.1 ≠ d i) ∧ ∀ i, p.1 ∉ T i :: (t i).fp) : Wd CK CT v T d L' H n t rows :=
  ⟨h.tab, h.own, h.agr, h.len, h.siz, fun p hp => (hL p hp).1, fun p hp => (hL p hp).2.1, fun p hp => (hL p hp).2.2, h.dout, h.dis, h.dne⟩
/-- S changes, which is of no table and no dict of rows -/
theorem modd {L' : List (Addr × HO)} {S : List Addr} (h : Wd CK CT v T d L H n t rows) (m : Mod S H H1) (hS : ∀ a ∈ S, (∀ i, a ≠ d i) ∧ ∀ i, a ∉ T i :: (t i).fp) (hL : ∀ p ∈ L', p ∈ L ∧ p.1 ∉ S) : Wd CK CT v T d L' H1 n t rows :=
  ⟨fun i => (h.tab i).modd m fun a ha hs => (hS a hs).2 i ha, fun i => m _ _ (h.own i) (.inl fun hs => (hS _ hs).1 i rfl), h.agr, h.len, h.siz, fun p hp => m _ _ (h.fix p (hL p hp).1) (.inl (hL p hp).2), fun p hp => h.fixd p (hL p hp).1, fun p hp => h.fixo p (hL p hp).1, h.dout, h.dis, h.dne⟩
/-- what is new is of no table -/
theorem new (h : Wd CK CT v T d L H n t rows) {p : Addr} (e : H p = none) : (∀ i, p ≠ d i) ∧ ∀ i, p ∉ T i :: (t i).fp := ⟨fun i z => (by rw [z, h.own i] at e; cases e), fun i => (h.tab i).free e⟩
theorem put_len {v : Nat} {rows : RowL} (h : ∀ r ∈ rows, r.1.length ≤ v) {s : List Bool} (hs : s.length ≤ v) (x : Nat) : ∀ r ∈ rput rows s x, r.1.length ≤ v := by
  intro r hr
  have : r.1 ∈ (rput rows s x).map (·.1) := List.mem_map.mpr ⟨r, hr, rfl⟩
  rw [rput_keys] at this
  have ho : ∀ u ∈ rows.map (·.1), u.length ≤ v := fun u hu => by
    obtain ⟨q, hq, rfl⟩ := List.mem_map.mp hu
    exact h q hq
  split at this
  · exact ho _ this
  · rcases List.mem_append.mp this with z | z
    · exact ho _ z
    · rw [List.mem_singleton.mp z]; exact hs
theorem drop_len {v : Nat} {rows : RowL} (h : ∀ r ∈ rows, r.1.length ≤ v) (s : List Bool) : ∀ r ∈ rdrop rows s, r.1.length ≤ v := fun r hr => h r (List.mem_filter.mp hr).1
end Wd
section
variable {CK CT : Addr} {H H' : Hp} {x dx : Addr} {t : AT} {v : Nat}
theorem mk_same (hx : H x = none) (hdx : H dx = none) (m : Mod [x] (upd (upd H dx (.own x)) x (.ins CT dx [])) H') : Same H H' := fun b o e => by
  have n1 := ne_of_none e hx
  have n2 := ne_of_none e hdx
  exact m b o ((upd_ne n1).trans ((upd_ne n2).trans e)) (.inl (by simp [n1]))
theorem mk_fresh (hx : H x = none) (hdx : H dx = none) (fr : ∀ a ∈ t.fp, (upd (upd H dx (.own x)) x (.ins CT dx [])) a = none) : ∀ a ∈ x :: t.fp, H a = none := fun a ha => by
  rcases List.mem_cons.mp ha with rfl | ha
  · exact hx
  · have h := fr a ha
    have n1 : a ≠ x := fun e => by rw [e, upd_same] at h; cases h
    rw [upd_ne n1] at h
    have n2 : a ≠ dx := fun e => by rw [e, upd_same] at h; cases h
    rw [upd_ne n2] at h
    exact h
end
def bw {α : Type} (a b : α) (i : Bool) : α := if i then b else a
theorem bw_get {a b : Addr} (i : Bool) : [V.ref a, V.ref b][if i then 1 else 0]? = some (V.ref (bw a b i)) := by cases i <;> rfl
/-! lists that were told, with their copies: of each the pair, both lists, the items, these as data -/
abbrev HeldE := Addr × Addr × Addr × List V × List PyData
def heldV (es : List HeldE) : List V := es.map fun e => V.ref e.1
def heldL (es : List HeldE) : List (Addr × HO) := es.flatMap fun e => [(e.2.1, .lst e.2.2.2.1), (e.2.2.1, .lst e.2.2.2.1)]
theorem heldL_snoc (es : List HeldE) (e : HeldE) : heldL (es ++ [e]) = heldL es ++ [(e.2.1, .lst e.2.2.2.1), (e.2.2.1, .lst e.2.2.2.1)] := by
  unfold heldL
  rw [List.flatMap_append]
  simp
end Br

/-! Lists of flat things and tuples as data; rising texts. -/
namespace Br
open PySem PySem.Spec PyProof.Rows L2
/-- a flat thing, or a tuple of such, as data -/
def Itm (H : Hp) (v : V) (d : PyData) : Prop := (flat v = true ∧ d = dOf v) ∨ ∃ a row, v = .ref a ∧ H a = some (.tup row) ∧ row.all flat = true ∧ d = .tuple (row.map dOf)
theorem Itm.modd {S : List Addr} {H H' : Hp} {v : V} {d : PyData} (h : Itm H v d) (m : Mod S H H') : Itm H' v d := by
  rcases h with h | ⟨a, row, e, h1, h2, h3⟩
  · exact .inl h
  · exact .inr ⟨a, row, e, m _ _ h1 (.inr ⟨_, rfl⟩), h2, h3⟩
theorem Itm.dp {K : PySem.W.Frag} {H : Hp} {v : V} {d : PyData} (h : Itm H v d) : Dp K H v d := by
  rcases h with ⟨h, rfl⟩ | ⟨a, row, rfl, h1, h2, rfl⟩
  · exact flat_dp h
  · exact .tup (SqT.of h1) (flat_all h2)
theorem Itm.dok {H : Hp} {v : V} {d : PyData} (h : Itm H v d) : DOk 1 d := by
  rcases h with ⟨h, rfl⟩ | ⟨a, row, rfl, h1, h2, rfl⟩
  · exact flat_dok h
  · refine dok_tup (k := 0) fun d hd => ?_
    obtain ⟨v, hv, rfl⟩ := List.mem_map.mp hd
    exact flat_dok (List.all_eq_true.mp h2 v hv)
inductive Itms (H : Hp) : List V → List PyData → Prop
  | nil : Itms H [] []
  | cons {v : V} {d : PyData} {xs : List V} {ds : List PyData} : Itm H v d → Itms H xs ds → Itms H (v :: xs) (d :: ds)
namespace Itms
variable {K : PySem.W.Frag} {S : List Addr} {H H' : Hp} {xs ys : List V} {ds es : List PyData}
theorem modd (h : Itms H xs ds) (m : Mod S H H') : Itms H' xs ds := by
  induction h with
  | nil => exact .nil
  | cons a b ih => exact .cons (a.modd m) ih
theorem same (h : Itms H xs ds) (m : Same H H') : Itms H' xs ds := h.modd (S := []) (Mod.same m)
theorem dp (h : Itms H xs ds) : DpAll K H xs ds := by
  induction h with
  | nil => exact .nil
  | cons a b ih => exact .cons a.dp ih
theorem dok (h : Itms H xs ds) : DOk 2 (.list ds) := by
  refine dok_list fun d hd => ?_
  induction h with
  | nil => cases hd
  | cons a b ih =>
    rcases List.mem_cons.mp hd with rfl | hd
    · exact a.dok
    · exact ih hd
theorem append (h : Itms H xs ds) (k : Itms H ys es) : Itms H (xs ++ ys) (ds ++ es) := by
  induction h with
  | nil => exact k
  | cons a b ih => exact .cons a ih
theorem one {v : V} {d : PyData} (h : Itm H v d) : Itms H [v] [d] := .cons h .nil
theorem len (h : Itms H xs ds) : xs.length = ds.length := by
  induction h with
  | nil => rfl
  | cons a b ih => exact congrArg Nat.succ ih
theorem lst {p : Addr} (h : Itms H xs ds) (e : H p = some (.lst xs)) : Dp K H (.ref p) (.list ds) := .lst (SqL.of e) h.dp
/-- texts of bits -/
theorem txs (L : List (List Bool)) : Itms H (L.map fun s => V.str (tx s)) (L.map fun s => PyData.str (tx s)) := by
  induction L with
  | nil => exact .nil
  | cons s L ih => exact .cons (.inl ⟨flat_tx s, rfl⟩) ih
end Itms
/-- a list of tuples of flat things -/
theorem LT.itms {H : Hp} {p : Addr} {L : List (List V)} (h : LT H p L) (hf : ∀ row ∈ L, row.all flat = true) : ∃ xs, H p = some (.lst xs) ∧ xs.length = L.length ∧ Itms H xs (L.map fun row => .tuple (row.map dOf)) := by
  obtain ⟨vs, h1, h2, h3⟩ := h
  refine ⟨vs, h1, h2, ?_⟩
  clear h1
  induction L generalizing vs with
  | nil => cases vs with
    | nil => exact .nil
    | cons v vs => cases h2
  | cons row L ih => cases vs with
    | nil => cases h2
    | cons v vs =>
      obtain ⟨a, e, ha⟩ := h3 0 row rfl
      cases e
      exact .cons (.inr ⟨a, row, rfl, ha, hf row List.mem_cons_self, rfl⟩) (ih (fun r hr => hf r (List.mem_cons_of_mem _ hr)) vs (by simpa using h2) fun i row e => h3 (i + 1) row e)
/-! ### rising texts of bits -/
theorem ltCps_tx : ∀ a b : List Bool, ltCps (a.map bc) (b.map bc) = true ↔ Tr.lt a b
  | [], [] => by simp [ltCps, Tr.lt]
  | [], _ :: _ => by simp [ltCps, Tr.lt]
  | _ :: _, [] => by simp [ltCps, Tr.lt]
  | x :: a, y :: b => by
    have ih := ltCps_tx a b
    show (decide (bc x < bc y) || (bc x == bc y && ltCps (a.map bc) (b.map bc))) = true ↔ (x = false ∧ y = true) ∨ (x = y ∧ Tr.lt a b)
    rw [Bool.or_eq_true, Bool.and_eq_true, ih]
    cases x <;> cases y <;> simp [bc]
theorem rising_tx : ∀ (L : List (List Bool)) (p : List Bool), risingS (tx p) (L.map tx) = true → (p :: L).Nodup → (p :: L).Pairwise Tr.lt
  | [], p, _, _ => List.pairwise_singleton _ _
  | x :: L, p, h, nd => by
    have h : (!ltCps (x.map bc) (p.map bc) && risingS (tx x) (L.map tx)) = true := h
    rw [Bool.and_eq_true, Bool.not_eq_true'] at h
    obtain ⟨n1, n2⟩ := List.nodup_cons.mp nd
    have ih := rising_tx L x h.2 n2
    have hpx : Tr.lt p x := by
      rcases Tr.lt_total p x with z | z | z
      · exact z
      · exact (n1 (by simp [z])).elim
      · have := (ltCps_tx x p).mpr z
        rw [h.1] at this
        cases this
    refine List.pairwise_cons.mpr ⟨fun y hy => ?_, ih⟩
    rcases List.mem_cons.mp hy with rfl | hy
    · exact hpx
    · exact Tr.lt_trans hpx ((List.pairwise_cons.mp ih).1 y hy)
theorem sorted_tx {L : List (List Bool)} (h : sortedS (L.map tx) = true) (nd : L.Nodup) : L.Pairwise Tr.lt := by
  cases L with
  | nil => exact .nil
  | cons p L => exact rising_tx L p h nd
/-- the keys, sorted, are the tree's rows in their order -/
theorem keys_sorted {rows : RowL} {t : Tr} (h : Agr rows t) {ys : List Str} (hp : ys.Perm (rows.map fun r => tx r.1)) (hs : sortedS ys = true) : ys = (t.rows.map (·.1)).map tx := by
  obtain ⟨L, rfl⟩ : ∃ L : List (List Bool), ys = L.map tx := by
    have : ∀ y ∈ ys, ∃ l, y = tx l := fun y hy => by
      obtain ⟨r, _, e⟩ := List.mem_map.mp (hp.mem_iff.mp hy)
      exact ⟨_, e.symm⟩
    clear hp hs
    induction ys with
    | nil => exact ⟨[], rfl⟩
    | cons y ys ih =>
      obtain ⟨l, rfl⟩ := this y List.mem_cons_self
      obtain ⟨L, rfl⟩ := ih fun z hz => this z (List.mem_cons_of_mem _ hz)
      exact ⟨l :: L, rfl⟩
  have hmem : ∀ s, s ∈ L ↔ s ∈ rows.map (·.1) := fun s => by
    have h1 := hp.mem_iff (a := tx s)
    constructor
    · intro hs
      obtain ⟨r, hr, e⟩ := List.mem_map.mp (h1.mp (List.mem_map.mpr ⟨s, hs, rfl⟩))
      exact List.mem_map.mpr ⟨r, hr, tx_inj e⟩
    · intro hs
      obtain ⟨r, hr, e⟩ := List.mem_map.mp hs
      obtain ⟨u, hu, e2⟩ := List.mem_map.mp (h1.mpr (List.mem_map.mpr ⟨r, hr, by rw [← e]⟩))
      rw [← tx_inj e2]
      exact hu
  have hnd : L.Nodup := by
    have h2 : (rows.map fun r => tx r.1).Nodup := by
      have h3 := h.nd
      have e : (rows.map fun r => tx r.1) = (rows.map (·.1)).map tx := by rw [List.map_map]; rfl
      rw [e]
      exact List.pairwise_map.mpr (h3.imp fun {a b} n e => n (tx_inj e))
    have h4 := hp.nodup_iff.mpr h2
    exact (List.pairwise_map.mp h4).imp fun {a b} n e => n (by rw [e])
  have key : ∀ s, s ∈ L ↔ s ∈ (t.rowsAt []).map (·.1) := fun s => ?_
  · rw [Tr.sorted_unique (sorted_tx hs hnd) (Tr.sorted_rowsAt t []) key]; rfl
  · rw [hmem]
    show _ ↔ s ∈ t.rows.map (·.1)
    have h1 := rget_none (rows := rows) (u := s)
    constructor
    · intro hs
      cases e : rget rows s with
      | none => exact (h1.mp e hs).elim
      | some x => exact List.mem_map.mpr ⟨(s, x), (Tr.mem_rows t s x).mpr (by rw [← h.get, e]), rfl⟩
    · intro hs
      obtain ⟨⟨s', x⟩, hr, e⟩ := List.mem_map.mp hs
      have e : s' = s := e
      subst e
      have := (Tr.mem_rows t s' x).mp hr
      rw [← h.get] at this
      exact Classical.byContradiction fun n => by rw [h1.mpr n] at this; cases this
def HeldOk (H : Hp) (es : List HeldE) : Prop := ∀ e ∈ es, H e.1 = some (.tup [.ref e.2.1, .ref e.2.2.1]) ∧ Itms H e.2.2.2.1 e.2.2.2.2
theorem HeldOk.modd {S : List Addr} {H H' : Hp} {es : List HeldE} (h : HeldOk H es) (m : Mod S H H') : HeldOk H' es := fun e he => ⟨m _ _ (h e he).1 (.inr ⟨_, rfl⟩), (h e he).2.modd m⟩
theorem HeldOk.same {H H' : Hp} {es : List HeldE} (h : HeldOk H es) (m : Same H H') : HeldOk H' es := h.modd (S := []) (Mod.same m)
/-- the list of what was told, with all lists as they were told -/
structure HeldW (H : Hp) (hl : Addr) (es : List HeldE) : Prop where
  main : H hl = some (.lst (heldV es))
  ok : HeldOk H es
  lst : ∀ p ∈ heldL es, H p.1 = some p.2
  ne : ∀ p ∈ heldL es, p.1 ≠ hl
namespace HeldW
variable {H H' : Hp} {hl : Addr} {es : List HeldE} {S : List Addr}
theorem modd (h : HeldW H hl es) (m : Mod S H H') (n1 : hl ∉ S) (n2 : ∀ p ∈ heldL es, p.1 ∉ S) : HeldW H' hl es :=
  ⟨m _ _ h.main (.inl n1), h.ok.modd m, fun p hp => m _ _ (h.lst p hp) (.inl (n2 p hp)), h.ne⟩
theorem same (h : HeldW H hl es) (m : Same H H') : HeldW H' hl es := h.modd (S := []) (Mod.same m) (by simp) (by simp)
theorem nil (e : H hl = some (.lst [])) : HeldW H hl [] := ⟨e, fun x hx => (by cases hx), fun p hp => (by cases hp), fun p hp => (by cases hp)⟩
theorem add {q F C : Addr} {xs : List V} {ds : List PyData} (h : HeldW H hl es) (m : Mod [hl] H H') (hF : H F = none) (hC : H C = none) (eF : H' F = some (.lst xs)) (eC : H' C = some (.lst xs)) (eq : H' q = some (.tup [.ref F, .ref C])) (iy : Itms H' xs ds)
    (eh : H' hl = some (.lst (heldV es ++ [.ref q]))) : HeldW H' hl (es ++ [(q, F, C, xs, ds)]) := by
  refine ⟨?_, fun e he => ?_, fun p hp => ?_, fun p hp => ?_⟩
  · rw [eh]
    unfold heldV
    rw [List.map_append]
    rfl
  · rcases List.mem_append.mp he with he | he
    · exact (h.ok.modd m) e he
    · rw [List.mem_singleton.mp he]
      exact ⟨eq, iy⟩
  · rw [heldL_snoc] at hp
    simp only [List.mem_append, List.mem_cons, List.not_mem_nil, or_false] at hp
    rcases hp with hp | rfl | rfl
    · exact m _ _ (h.lst p hp) (.inl (by simp only [List.mem_singleton]; exact h.ne p hp))
    · exact eF
    · exact eC
  · rw [heldL_snoc] at hp
    simp only [List.mem_append, List.mem_cons, List.not_mem_nil, or_false] at hp
    rcases hp with hp | rfl | rfl
    · exact h.ne p hp
    · exact (ne_of_none h.main hF).symm
    · exact (ne_of_none h.main hC).symm
/-- of a pair: the tuple, both lists, and that they are alike -/
theorem pair (h : HeldW H hl es) {e : HeldE} (he : e ∈ es) : H e.1 = some (.tup [.ref e.2.1, .ref e.2.2.1]) ∧ H e.2.1 = some (.lst e.2.2.2.1) ∧ H e.2.2.1 = some (.lst e.2.2.2.1) ∧ Itms H e.2.2.2.1 e.2.2.2.2 :=
  ⟨(h.ok e he).1, h.lst (e.2.1, .lst e.2.2.2.1) (List.mem_flatMap.mpr ⟨e, he, by simp⟩), h.lst (e.2.2.1, .lst e.2.2.2.1) (List.mem_flatMap.mpr ⟨e, he, by simp⟩), (h.ok e he).2⟩
end HeldW
end Br

/-! Rules: a list of anything against [] ; the last tuple of a list. -/
namespace Br
open PySem PySem.Spec PyProof.Rows L2
section
variable {X : Cx}
/-- xs != [] , whatever the items -/
theorem op_neNil (hu : X.A.units + 64 < cLine) : OpR X (compareOp .NotEq) (fun x y H Q => ∃ p q xs, x = .ref p ∧ y = .ref q ∧ H p = some (.lst xs) ∧ H q = some (.lst []) ∧ Q (.bl (!xs.isEmpty)) H) := by
  intro pins s σ H x y v u Q I rx ry h
  obtain ⟨p, q, xs, rfl, rfl, hp, hq, k⟩ := h
  cases rx
  cases ry
  obtain ⟨its, rv, pl, _⟩ := I.list (SqL.of (K := X.K) hp)
  obtain ⟨its2, rv2, pl2, _⟩ := I.list (SqL.of (K := X.K) hq)
  cases rv2
  have e1 := rv.length
  cases xs with
  | nil =>
    cases rv
    have h := SeqAt.RcNeAt.lists (A := X.A) (s := s) (e := fun _ => true) pl.isList pl2.isList rfl (by omega) (fun j h1 h2 => by simp at h1)
    exact h _ _ _ _ ⟨.bl _, H, I, rfl, k⟩
  | cons z xs =>
    have h := SeqAt.RcNeAt.lists_lengths (A := X.A) (s := s) pl.isList pl2.isList (by
      have : its.length = xs.length + 1 := by rw [← e1]; rfl
      simp [this]) (by omega)
    exact h _ _ _ _ ⟨.bl _, H, I, rfl, k⟩
theorem op_eqNil (hu : X.A.units + 64 < cLine) : OpR X (compareOp .Eq) (fun x y H Q => ∃ p q xs, x = .ref p ∧ y = .ref q ∧ H p = some (.lst xs) ∧ H q = some (.lst []) ∧ Q (.bl xs.isEmpty) H) := by
  intro pins s σ H x y v u Q I rx ry h
  obtain ⟨p, q, xs, rfl, rfl, hp, hq, k⟩ := h
  cases rx
  cases ry
  obtain ⟨its, rv, pl, _⟩ := I.list (SqL.of (K := X.K) hp)
  obtain ⟨its2, rv2, pl2, _⟩ := I.list (SqL.of (K := X.K) hq)
  cases rv2
  have e1 := rv.length
  cases xs with
  | nil =>
    cases rv
    have h := SeqAt.RcAt.lists (A := X.A) (s := s) (e := fun _ => true) pl.isList pl2.isList rfl (by omega) (fun j h1 h2 => by simp at h1)
    exact h _ _ _ _ ⟨.bl _, H, I, rfl, k⟩
  | cons z xs =>
    have h := SeqAt.RcAt.lists_lengths (A := X.A) (s := s) pl.isList pl2.isList (by
      have : its.length = xs.length + 1 := by rw [← e1]; rfl
      simp [this]) (by omega)
    exact h _ _ _ _ ⟨.bl _, H, I, rfl, k⟩
end
theorem LT.last {H : Hp} {p : Addr} {L : List (List V)} {row : List V} (h : LT H p (L ++ [row])) : ∃ (vs : List V) (c : Addr), H p = some (.lst (vs ++ [V.ref c])) ∧ H c = some (.tup row) ∧ vs.length = L.length ∧ ∀ (i : Nat) (row' : List V), L[i]? = some row' → ∃ a, vs[i]? = some (V.ref a) ∧ H a = some (.tup row') := by
  obtain ⟨vs, h1, h2, h3⟩ := h
  rw [List.length_append, List.length_singleton] at h2
  obtain ⟨c, e1, e2⟩ := h3 L.length row (by simp)
  have hv : vs = vs.dropLast ++ [V.ref c] := by
    have n0 : vs ≠ [] := by intro z; rw [z] at h2; simp at h2
    have e3 := List.dropLast_concat_getLast n0
    rw [← e3]
    congr 1
    · rw [e3]
    · congr 1
      have e4 : vs.getLast n0 = vs[vs.length - 1] := List.getLast_eq_getElem n0
      rw [e4]
      have e5 : vs[vs.length - 1]? = some (V.ref c) := by rw [h2]; exact e1
      rw [List.getElem?_eq_getElem (by omega)] at e5
      exact Option.some.inj e5
  have hl : vs.dropLast.length = L.length := by rw [List.length_dropLast, h2]; rfl
  refine ⟨vs.dropLast, c, by rw [← hv]; exact h1, e2, hl, fun i row' e => ?_⟩
  have hi : i < L.length := (List.getElem?_eq_some_iff.mp e).1
  obtain ⟨a, f1, f2⟩ := h3 i row' (by rw [List.getElem?_append_left hi]; exact e)
  refine ⟨a, ?_, f2⟩
  rw [hv, List.getElem?_append_left (by omega)] at f1
  exact f1
namespace AT
theorem way_at : ∀ (s : List Bool) (t : AT) (i : Nat) (x : AT), (t.way s)[i]? = some x → i ≤ s.length ∧ x = t.sub (s.take i) ∧ x ≠ nil
  | s, nil, i, x, h => by
    have : nil.way s = [] := by cases s <;> rfl
    rw [this] at h
    simp at h
  | [], nd a dx ka g l r, 0, x, h => by cases h; exact ⟨Nat.le_refl _, rfl, by intro z; cases z⟩
  | [], nd a dx ka g l r, i + 1, x, h => by cases h
  | b :: s, nd a dx ka g l r, 0, x, h => by cases h; exact ⟨Nat.zero_le _, rfl, by intro z; cases z⟩
  | b :: s, nd a dx ka g l r, i + 1, x, h => by
    obtain ⟨h1, h2, h3⟩ := way_at s (kid b l r) i x h
    exact ⟨Nat.succ_le_succ h1, h2, h3⟩
end AT
/-- the starts of a word that have a row, the shortest first -/
def fitsL (f : List Bool → Option Nat) (u : List Bool) (n : Nat) : List (List Bool) := ((List.range n).map fun i => u.take i).filter fun s => (f s).isSome
theorem fitsL_succ (f : List Bool → Option Nat) (u : List Bool) (n : Nat) : fitsL f u (n + 1) = fitsL f u n ++ (if (f (u.take n)).isSome = true then [u.take n] else []) := by
  unfold fitsL
  rw [List.range_succ, List.map_append, List.filter_append]
  congr 1
  show List.filter _ [u.take n] = _
  rw [List.filter_cons]
  split <;> rfl
theorem fitsL_len (f : List Bool → Option Nat) (u : List Bool) (n : Nat) : (fitsL f u n).length ≤ n := by
  unfold fitsL
  refine Nat.le_trans (List.length_filter_le _ _) ?_
  simp
/-- no knot, no row -/
theorem fitsL_way (t : AT) (u : List Bool) : fitsL t.tr.get u (t.way u).length = fitsL t.tr.get u (u.length + 1) := by
  have h0 := AT.way_len_le u t
  obtain ⟨d, hd⟩ : ∃ d, u.length + 1 = (t.way u).length + d := ⟨u.length + 1 - (t.way u).length, by omega⟩
  rw [hd]
  have : ∀ d, (t.way u).length + d ≤ u.length + 1 → fitsL t.tr.get u (t.way u).length = fitsL t.tr.get u ((t.way u).length + d) := by
    intro d
    induction d with
    | zero => intro _; rfl
    | succ d ih =>
      intro hle
      rw [ih (by omega), ← Nat.add_assoc, fitsL_succ]
      have hn : t.sub (u.take ((t.way u).length + d)) = .nil := Classical.byContradiction fun n => by
        have := AT.way_get u t _ (by omega) n
        have := (List.getElem?_eq_some_iff.mp this).1
        omega
      have hg := AT.goal_get (u.take ((t.way u).length + d)) t
      rw [hn] at hg
      rw [← hg]
      simp [AT.goal]
  exact this d (by omega)
end Br

/-! bitroads.table: knots, stretches, differences -/
namespace Br
open PySem PySem.Spec PyProof.Rows L2
open C8 (Cal Met Mak cal0 met0 mak0 pe_c pe_mk pe_mt pe_mt0 pe_gc Def)
/-- what is asked of the class of knots, of tables -/
structure Ks (K : PySem.W.Frag) (CK : Addr) : Prop where
  cl : Cls K CK
  nkids : NoAttr K CK "kids"
  ngoal : NoAttr K CK "goal"
  mro : PySem.W.mroIn K CK (.type "object") = some true
  eq : PySem.W.findIn K (.ref CK) "__eq__" = some (some (.builtin "object.__eq__"))
structure Ts (K : PySem.W.Frag) (CT : Addr) : Prop where
  cl : Cls K CT
  nwide : NoAttr K CT "wide"
  ntop : NoAttr K CT "top"
  namount : NoAttr K CT "amount"
/-- a method of the text: dvs its defaults that fill up -/
structure Mn (K : PySem.W.Frag) (C : Addr) (m : Str) (st : Stmt) (ps : List Str) (dvs : List V) : Prop where
  ex : ∃ (qual : Str) (f : Addr) (fd : FuncData) (ds : List Value), Cls K C ∧ Meth K C m f ∧ C8.Fun K m qual st f fd ∧ Binds K fd ps ds ∧ Vals dvs ds
/-- a class that is made by its name -/
structure Mkn (K : PySem.W.Frag) (mg : Str → Option Value) (x : Str) (C : Addr) (st : Stmt) (ps : List Str) : Prop where
  ex : ∃ (qual : Str) (f : Addr) (fd : FuncData), Mk K C f ∧ mg x = some (.ref C) ∧ C8.Fun K "__init__" qual st f fd ∧ Binds K fd ps []
section
variable {P : Program} {w : World} {K : PySem.W.Frag} {mg : Str → Option Value} {base : Heap} {CK CT : Addr}
theorem Mn.met {m : Str} {C : Addr} {st : Stmt} {N ps : List Str} {dvs : List V} {k : Nat} {sp : Sp} (D : Mn K C m st ps dvs) (S : FnScope N ps (C8.fnScope st)) (len : ∀ vs H Q E, sp vs H Q E → vs.length = ps.length)
    (hbody : ∀ (qual : Str) (f : Addr) (cdv : Value) (A : Around) (outer : List Env) (s : Shared) (H : Hp) (vs : List V) (Q : VK) (E : XK), Room k (A.deeper (envOfC qual (C8.fnScope st) s.heap.objs.size f cdv)) → sp vs H Q E →
      ∃ t, PSs (cxOf C8.CX0 P w K mg base N qual (C8.fnScope st) f cdv A outer s H E).nox (C8.fnBody st) t ∧ t { nx := fun _ H' => Q .non H', rt := Q } (start N vs) H) : Met P w K mg base (k + 1) C m sp dvs := by
  obtain ⟨qual, f, fd, ds, c, me, F, b, d⟩ := D.ex
  exact ⟨f, fd, ps, ds, c, me, C8.fn0 F S len fun cdv A outer s H vs Q E hr h => hbody qual f cdv A outer s H vs Q E hr h, b, d⟩
theorem Mkn.mak {x : Str} {C : Addr} {st : Stmt} {N ps : List Str} {k : Nat} {sp : Sp} (D : Mkn K mg x C st ps) (S : FnScope N ps (C8.fnScope st)) (len : ∀ vs H Q E, sp vs H Q E → vs.length = ps.length)
    (hbody : ∀ (qual : Str) (f : Addr) (cdv : Value) (A : Around) (outer : List Env) (s : Shared) (H : Hp) (vs : List V) (Q : VK) (E : XK), Room k (A.deeper (envOfC qual (C8.fnScope st) s.heap.objs.size f cdv)) → sp vs H Q E →
      ∃ t, PSs (cxOf C8.CX0 P w K mg base N qual (C8.fnScope st) f cdv A outer s H E).nox (C8.fnBody st) t ∧ t { nx := fun _ H' => Q .non H', rt := Q } (start N vs) H) : Mak P w K mg base (k + 1) x C sp [] := by
  obtain ⟨qual, f, fd, M, hm, F, b⟩ := D.ex
  exact mak0 M hm F b .nil S len fun cdv A outer s H vs Q E hr h => hbody qual f cdv A outer s H vs Q E hr h
/-- a def that is never called -/
theorem Dn.never {x : Str} {st : Stmt} {ps : List Str} {sp : Sp} {k : Nat} (D : Dn K mg x st ps) (h : ∀ vs H Q E, ¬ sp vs H Q E) : Cal P w K mg base k x sp [] := by
  obtain ⟨f, fd, D, b⟩ := D.ex
  exact ⟨f, fd, ps, [], ⟨fun vs H Q E q => (h _ _ _ _ q).elim, fun A outer s H args us vs Q E _ _ _ _ q => (h _ _ _ _ q).elim⟩, D.mgf, D.kp, b, .nil⟩
theorem dok_nils {k : Nat} : DOk (k + 1) (.list []) := dok_list fun d h => by cases h
theorem taken {L : List St3} (h : L.length < 100000) : L.length < sizeLine := Nat.lt_trans h (by decide)

abbrev s_add_stretch : Stmt := top 23
abbrev n_add_stretch : List Str := ["found", "first", "last", "road"]
theorem sc_add_stretch : FnScope n_add_stretch ["found", "first", "last", "road"] (C8.fnScope s_add_stretch) := ⟨rfl, rfl, rfl, by decide +kernel, rfl, by decide +kernel, by decide +kernel⟩
def spAdd : Sp := fun vs H Q _ => ∃ (p : Addr) (L : List St3) (a l : Nat) (r : Option Nat), vs = [.ref p, .int (a : Int), .int (l : Int), ov r] ∧ LT H p (L.map row3) ∧ L.length < 100000 ∧ ∀ H', Mod [p] H H' → LT H' p ((addS L a l r).map row3) → Q .non H'
theorem c_add_stretch (T : Glob mg) (D : Dn K mg "add_stretch" s_add_stretch ["found", "first", "last", "road"]) : Cal P w K mg base 1 "add_stretch" spAdd [] := by
  refine D.cal sc_add_stretch (fun vs H Q E h => ?_) (fun f cdv A outer s H vs Q E hr h => ?_)
  · obtain ⟨p, L, a, l, r, rfl, _⟩ := h
    rfl
  · obtain ⟨p, L, a, l, r, rfl, hL, hlen, k⟩ := h
    refine ⟨_, (pss_one (ps_if (PW.pt (pw_and (pt_cmpR (op_neD hr.units) (pv 0) (pe_lst pa_nil) (nomark _)) (pw_and1 (pt_cmpR op_eq (pe_ix ix_tup (pe_ix ix_list (pv 0) (pe_un un_neg pe_int) (fun _ _ => rfl)) pe_int (fun _ _ => rfl)) (pv 3) (nomark _)))))
      (pss_one (ps_asg (pe_tup (pa_cons (pe_ix ix_tup (pe_ix ix_list (pv 0) (pe_un un_neg pe_int) (fun _ _ => rfl)) pe_int (fun _ _ => rfl)) (pa_cons (pv 2) (pa_cons (pv 3) pa_nil)))) (pg_sub (pv 0) (pe_un un_neg pe_int) set_list)))
      (pss_one (ps_expr (pe_bm PySem.F.plainAttrs_list PySem.F.slot_list_append PySem.F.type_list_append mt_append (pv 0) (pa_cons (pe_tup (pa_cons (pv 1) (pa_cons (pv 2) (pa_cons (pv 3) pa_nil)))) pa_nil)))))), ?_⟩
    refine ⟨_, rfl, (by show 0 ≤ sizeLine; decide), fun q hq => ?_⟩
    have s1 : Same H (upd H q (.lst [])) := Same_upd (Same.refl H) hq
    have h1 := hL.same s1
    refine ⟨dRows (L.map row3), .list [], h1.dp flat3s, .lst (SqL.of upd_same) .nil, (dRows_ok flat3s).shaped, (dok_nils (k := 0)).shaped, _, rfl, ?_⟩
    generalize hH1 : upd H q (.lst []) = H1 at s1 h1
    have m1 : Mod [p] H H1 := Mod.same s1
    obtain ⟨vs, e1, e2, e3⟩ := h1
    rw [show PyData.eqv (dRows (L.map row3)) (.list []) = ((L.map row3).map fun row => PyData.tuple (row.map dOf)).isEmpty from eqv_nil _]
    have last : addS L a l r = L ++ [(a, l, r)] → ∀ t, H1 t = none → vs.length < sizeLine ∧ Q .non (upd (upd H1 t (.tup [.int (a : Int), .int (l : Int), ov r])) p (.lst (vs ++ [.ref t]))) := fun e t ht => by
      have n : t ≠ p := (ne_of_none e1 ht).symm
      refine ⟨by rw [e2, List.length_map]; exact taken hlen, k _ ((m1.new ht).upd (.inl (by simp)) fun xs z => ?_) ?_⟩
      · rw [upd_ne n.symm, e1] at z; cases z
      · rw [e, List.map_append]
        refine LT.snoc (row := row3 (a, l, r)) ((upd_ne n.symm).trans e1) e2 (fun i row hi => ?_) upd_same
        obtain ⟨c, h4, h5⟩ := e3 i row hi
        exact ⟨c, h4, (upd_ne (ne_of_none h5 ht)).trans h5⟩
    rcases List.eq_nil_or_concat L with rfl | ⟨M, ⟨x, y, z⟩, rfl⟩
    · refine iteF ?_
      refine iteF ?_
      refine ⟨_, rfl, .inl ⟨rfl, _, SqL.of e1⟩, _, rfl, _, rfl, _, rfl, (by show 3 ≤ sizeLine; decide), fun t ht => ?_⟩
      obtain ⟨g1, g2⟩ := last rfl t ht
      exact ⟨p, _, _, rfl, rfl, (upd_ne (ne_of_none e1 ht)).trans e1, g1, g2⟩
    · rw [List.concat_eq_append] at *
      have e0 : (!(((M ++ [(x, y, z)]).map row3).map fun row => PyData.tuple (row.map dOf)).isEmpty) = true := by simp
      rw [e0]
      refine iteT ?_
      have len2 : vs.length = M.length + 1 := by rw [e2]; simp
      obtain ⟨c, c1, c2⟩ := e3 M.length (row3 (x, y, z)) (by simp)
      have at1 : atI vs (-1) = some (V.ref c) := atI_end len2 c1
      refine ⟨_, rfl, _, rfl, p, _, _, _, rfl, rfl, SqL.of e1, at1, c, _, _, _, rfl, rfl, SqT.of c2, atI_nat (j := 2) rfl, _, rfl, ov_scal _ _, _, rfl, ?_⟩
      rw [ov_eq]
      refine ite2 (fun t1 => ?_) fun t1 => ?_
      · have t1 := of_decide_eq_true t1
        refine ⟨_, rfl, _, rfl, p, _, _, _, rfl, rfl, SqL.of e1, at1, c, _, _, _, rfl, rfl, SqT.of c2, atI_nat (j := 0) rfl, _, rfl, _, rfl, (by show 3 ≤ sizeLine; decide), fun t ht => ?_⟩
        have n : t ≠ p := (ne_of_none e1 ht).symm
        have ixn : ixN vs.length (-1) = some M.length := ix_last len2
        refine ⟨_, rfl, _, rfl, p, vs, _, M.length, rfl, rfl, (upd_ne n.symm).trans e1, ixn, ?_⟩
        refine k _ ((m1.new ht).upd (.inl (by simp)) fun xs z => ?_) ?_
        · rw [upd_ne n.symm, e1] at z; cases z
        · have e4 : (addS (M ++ [(x, y, z)]) a l r).map row3 = ((M ++ [(x, y, z)]).map row3).set M.length (row3 (x, l, r)) := by
            rw [addS_snoc, if_pos t1]
            simp
          rw [e4]
          refine LT.set (row := row3 (x, l, r)) ((upd_ne n.symm).trans e1) e2 (fun i row hi => ?_) upd_same
          obtain ⟨c, h4, h5⟩ := e3 i row hi
          exact ⟨c, h4, (upd_ne (ne_of_none h5 ht)).trans h5⟩
      · have t1 : ¬ z = r := fun e => t1 (decide_eq_true e)
        refine ⟨_, rfl, .inl ⟨rfl, _, SqL.of e1⟩, _, rfl, _, rfl, _, rfl, (by show 3 ≤ sizeLine; decide), fun t ht => ?_⟩
        obtain ⟨g1, g2⟩ := last (by rw [addS_snoc, if_neg t1, List.append_assoc]; rfl) t ht
        exact ⟨p, _, _, rfl, rfl, (upd_ne (ne_of_none e1 ht)).trans e1, g1, g2⟩
abbrev s_between : Stmt := top 24
abbrev n_between : List Str := ["ahead", "behind", "found", "one", "other", "first", "last", "is_over"]
theorem sc_between : FnScope n_between ["ahead", "behind"] (C8.fnScope s_between) := ⟨rfl, rfl, rfl, by decide +kernel, rfl, by decide +kernel, by decide +kernel⟩
/-- between, ahead of a turn -/
def BtW (H : Hp) (p q o : Addr) (A B : List St3) (f g : Nat → Option Nat) (a b : Nat) : Nat → L2.St → Hp → Prop := fun m σ H' =>
  ∃ (i j : Nat) (acc : List Df4) (pos : Nat) (v5 v6 v7 : Option V), m = (A.length - i) + (B.length - j) ∧ σ = [some (.ref p), some (.ref q), some (.ref o), some (.int (i : Int)), some (.int (j : Int)), v5, v6, v7] ∧ Same H H' ∧ LT H' o (acc.map row4) ∧
    acc.length ≤ i + j ∧ i ≤ A.length ∧ j ≤ B.length ∧ TlC f b pos (A.drop i) ∧ TlC g b pos (B.drop j) ∧ (∀ u v s t, (A.drop i).head? = some (u, s) → (B.drop j).head? = some (v, t) → u = pos ∨ v = pos) ∧ ∀ D, DTl f g b pos D → DTl f g b a (acc ++ D)
def spBetween : Sp := fun vs H Q _ => ∃ (p q : Addr) (A B : List St3) (f g : Nat → Option Nat) (a b : Nat), vs = [.ref p, .ref q] ∧ LT H p (A.map row3) ∧ LT H q (B.map row3) ∧ Tl f b a A ∧ Tl g b a B ∧ A.length + B.length < 100000 ∧
  ∀ H' o D, Same H H' → H o = none → LT H' o (D.map row4) → DTl f g b a D → Q (.ref o) H'
theorem c_between (T : Glob mg) (D : Dn K mg "between" s_between ["ahead", "behind"]) : Cal P w K mg base 1 "between" spBetween [] := by
  refine D.cal sc_between (fun vs H Q E h => ?_) (fun ff cdv AA outer s H vs Q E hr h => ?_)
  · obtain ⟨p, q, A, B, f, g, a, b, rfl, _⟩ := h
    rfl
  · obtain ⟨p, q, A, B, f, g, a, b, rfl, hA, hB, tA, tB, hlen, k⟩ := h
    refine ⟨_, (pss_cons (ps_set (i := 2) sc_between.nd rfl (by first | exact Or.inl rfl | exact Or.inr rfl) (pe_lst pa_nil))
      (pss_cons (ps_set (i := 3) sc_between.nd rfl (by first | exact Or.inl rfl | exact Or.inr rfl) pe_int)
      (pss_cons (ps_set (i := 4) sc_between.nd rfl (by first | exact Or.inl rfl | exact Or.inr rfl) pe_int)
      (pss_cons (ps_while PassesOwn.never (pt_cmpR op_lt (pv 3) (pe_callB call_len_seq (by rfl) T.g_len boot_len (pa_cons (pv 0) pa_nil)) (nomark _))
      (pss_cons (ps_set (i := 5) sc_between.nd rfl (by first | exact Or.inl rfl | exact Or.inr rfl) (pe_callB (call_max2 rfl) (by rfl) T.g_max (by decide +kernel) (pa_cons (pe_ix ix_tup (pe_ix ix_list (pv 0) (pv 3) (fun _ _ => rfl)) pe_int (fun _ _ => rfl)) (pa_cons (pe_ix ix_tup (pe_ix ix_list (pv 1) (pv 4) (fun _ _ => rfl)) pe_int (fun _ _ => rfl)) pa_nil))))
      (pss_cons (ps_set (i := 6) sc_between.nd rfl (by first | exact Or.inl rfl | exact Or.inr rfl) (pe_callB (call_min2 rfl) (by rfl) T.g_min (by decide +kernel) (pa_cons (pe_ix ix_tup (pe_ix ix_list (pv 0) (pv 3) (fun _ _ => rfl)) pe_int (fun _ _ => rfl)) (pa_cons (pe_ix ix_tup (pe_ix ix_list (pv 1) (pv 4) (fun _ _ => rfl)) pe_int (fun _ _ => rfl)) pa_nil))))
      (C8.pss_cut (ps_if (pt_cmpR op_ne (pe_ix ix_tup (pe_ix ix_list (pv 0) (pv 3) (fun _ _ => rfl)) pe_int (fun _ _ => rfl)) (pe_ix ix_tup (pe_ix ix_list (pv 1) (pv 4) (fun _ _ => rfl)) pe_int (fun _ _ => rfl)) (nomark _))
      (pss_one (ps_expr (pe_bm PySem.F.plainAttrs_list PySem.F.slot_list_append PySem.F.type_list_append mt_append (pv 2) (pa_cons (pe_tup (pa_cons (pv 5) (pa_cons (pv 6) (pa_cons (pe_ix ix_tup (pe_ix ix_list (pv 0) (pv 3) (fun _ _ => rfl)) pe_int (fun _ _ => rfl)) (pa_cons (pe_ix ix_tup (pe_ix ix_list (pv 1) (pv 4) (fun _ _ => rfl)) pe_int (fun _ _ => rfl)) pa_nil))))) pa_nil))))
      pss_nil)
      (pss_cons (ps_set (i := 7) sc_between.nd rfl (by first | exact Or.inl rfl | exact Or.inr rfl) (pe_cmpR op_eq (pe_ix ix_tup (pe_ix ix_list (pv 0) (pv 3) (fun _ _ => rfl)) pe_int (fun _ _ => rfl)) (pv 6) (nomark _)))
      (C8.pss_cut (ps_if (pt_cmpR op_eq (pe_ix ix_tup (pe_ix ix_list (pv 1) (pv 4) (fun _ _ => rfl)) pe_int (fun _ _ => rfl)) (pv 6) (nomark _))
      (pss_one (ps_aug (i := 4) sc_between.nd rfl (by first | exact Or.inl rfl | exact Or.inr rfl) pe_int ip_add))
      pss_nil)
      (pss_one (ps_if (pt_val (pv 7))
      (pss_one (ps_aug (i := 3) sc_between.nd rfl (by first | exact Or.inl rfl | exact Or.inr rfl) pe_int ip_add))
      pss_nil))))))))
      (pss_one (ps_ret (pv 2))))))), ?_⟩
    refine ⟨(by show 0 ≤ sizeLine; decide), fun o ho => ?_⟩
    have s0 : Same H (upd H o (.lst [])) := Same_upd (Same.refl H) ho
    refine ⟨BtW H p q o A B f g a b, ⟨_, 0, 0, [], a, none, none, none, rfl, rfl, s0, LT.nil, Nat.zero_le _, Nat.zero_le _, Nat.zero_le _, tA.c, tB.c, ?_, fun D h => h⟩, ?_⟩
    · intro u v s t hu hv
      cases A with
      | nil => cases hu
      | cons z A =>
        obtain ⟨x, y, r⟩ := z
        cases hu
        exact .inl tA.1
    rintro m σ H1 ⟨i, j, acc, pos, v5, v6, v7, rfl, rfl, s1, hO, hacc, hi, hj, cA, cB, hx, hD⟩
    have LA := hA.same s1
    have LB := hB.same s1
    have hpo : p ≠ o := by obtain ⟨vs, e, _⟩ := hA; exact ne_of_none e ho
    have hqo : q ≠ o := by obtain ⟨vs, e, _⟩ := hB; exact ne_of_none e ho
    obtain ⟨va0, ea0, la0, _⟩ := id LA
    rw [List.length_map] at la0
    refine ⟨_, rfl, _, rfl, p, va0, rfl, .inl (SqL.of ea0), _, _, rfl, rfl, _, rfl, ?_⟩
    refine ite2 (fun c => ?_) fun c => ?_
    · have c : i < A.length := by have := of_decide_eq_true c; omega
      obtain ⟨⟨x1, y1, r1⟩, A', dA⟩ : ∃ s A', A.drop i = s :: A' := ⟨A[i], A.drop (i + 1), List.drop_eq_getElem_cons c⟩
      have gA : A[i]? = some (x1, y1, r1) := by rw [← List.head?_drop, dA]; rfl
      have dA' : A.drop (i + 1) = A' := by rw [← List.tail_drop, dA]; rfl
      rw [dA] at cA hx
      have hjl : j < B.length := by
        refine Nat.lt_of_not_le fun hn => ?_
        rw [List.drop_eq_nil_of_le hn] at cB
        have cB : pos = b := cB
        obtain ⟨_, h2, h3, _⟩ := cA
        omega
      obtain ⟨⟨x2, y2, r2⟩, B', dB⟩ : ∃ s B', B.drop j = s :: B' := ⟨B[j], B.drop (j + 1), List.drop_eq_getElem_cons hjl⟩
      have gB : B[j]? = some (x2, y2, r2) := by rw [← List.head?_drop, dB]; rfl
      have dB' : B.drop (j + 1) = B' := by rw [← List.tail_drop, dB]; rfl
      rw [dB] at cB hx
      obtain ⟨q1, q2, q3, q4, q5⟩ := btw_step cA cB (hx _ _ _ _ rfl rfl) (last := min y1 y2) rfl
      have gA' : (A.map row3)[i]? = some [.int (x1 : Int), .int (y1 : Int), ov r1] := by rw [List.getElem?_map, gA]; rfl
      have gB' : (B.map row3)[j]? = some [.int (x2 : Int), .int (y2 : Int), ov r2] := by rw [List.getElem?_map, gB]; rfl
      obtain ⟨va, ca, a1, _, a3, a4⟩ := LA.read gA'
      obtain ⟨vb, cb, b1, _, b3, b4⟩ := LB.read gB'
      refine ⟨fun σ' H' => ∃ m', m' < _ ∧ BtW H p q o A B f g a b m' σ' H', fun _ _ h => h, ?_⟩
      -- first
      refine ⟨_, rfl, _, rfl, p, _, _, _, rfl, rfl, SqL.of a1, a3, ca, _, _, _, rfl, rfl, SqT.of a4, atI_nat (j := 0) rfl, ?_⟩
      refine ⟨_, rfl, _, rfl, q, _, _, _, rfl, rfl, SqL.of b1, b3, cb, _, _, _, rfl, rfl, SqT.of b4, atI_nat (j := 0) rfl, _, _, rfl, ?_⟩
      have eM : (if ((x2 : Nat) : Int) > ((x1 : Nat) : Int) then ((x2 : Nat) : Int) else ((x1 : Nat) : Int)) = ((pos : Nat) : Int) := by split <;> omega
      rw [eM]
      refine ⟨_, rfl, _, rfl, p, _, _, _, rfl, rfl, SqL.of a1, a3, ca, _, _, _, rfl, rfl, SqT.of a4, atI_nat (j := 1) rfl, ?_⟩
      refine ⟨_, rfl, _, rfl, q, _, _, _, rfl, rfl, SqL.of b1, b3, cb, _, _, _, rfl, rfl, SqT.of b4, atI_nat (j := 1) rfl, _, _, rfl, ?_⟩
      have eL : (if ((y2 : Nat) : Int) < ((y1 : Nat) : Int) then ((y2 : Nat) : Int) else ((y1 : Nat) : Int)) = ((min y1 y2 : Nat) : Int) := by split <;> omega
      rw [eL]
      generalize hlast : min y1 y2 = last at q2 q3 q4 q5 ⊢
      refine ⟨fun σ' H' => σ' = [some (.ref p), some (.ref q), some (.ref o), some (.int (i : Int)), some (.int (j : Int)), some (.int (pos : Int)), some (.int (last : Int)), v7] ∧ Same H H' ∧ LT H' o ((acc ++ (if r1 = r2 then [] else [(pos, last, r1, r2)])).map row4), ?_, ?_⟩
      · refine ⟨_, rfl, _, rfl, p, _, _, _, rfl, rfl, SqL.of a1, a3, ca, _, _, _, rfl, rfl, SqT.of a4, atI_nat (j := 2) rfl, ?_⟩
        refine ⟨_, rfl, _, rfl, q, _, _, _, rfl, rfl, SqL.of b1, b3, cb, _, _, _, rfl, rfl, SqT.of b4, atI_nat (j := 2) rfl, ov_scal _ _, _, rfl, ?_⟩
        rw [ov_eq]
        obtain ⟨vo, o1, o2, o3⟩ := hO
        refine ite2 (fun t1 => ?_) fun t1 => ?_
        · have t1 : ¬ r1 = r2 := by simpa using t1
          rw [if_neg t1]
          refine ⟨_, rfl, .inl ⟨rfl, _, SqL.of o1⟩, _, rfl, _, rfl, _, rfl, _, rfl, p, _, _, _, rfl, rfl, SqL.of a1, a3, ca, _, _, _, rfl, rfl, SqT.of a4, atI_nat (j := 2) rfl, ?_⟩
          refine ⟨_, rfl, _, rfl, q, _, _, _, rfl, rfl, SqL.of b1, b3, cb, _, _, _, rfl, rfl, SqT.of b4, atI_nat (j := 2) rfl, (by show 4 ≤ sizeLine; decide), fun t ht => ?_⟩
          have n : t ≠ o := (ne_of_none o1 ht).symm
          refine ⟨o, vo, _, rfl, rfl, (upd_ne n.symm).trans o1, ?_, rfl, ?_, ?_⟩
          · rw [o2, List.length_map]
            exact Nat.lt_trans (by omega : acc.length < 100000) (by decide)
          · exact Same_mut (Same_upd s1 ht) ho
          · rw [List.map_append]
            refine LT.snoc (row := row4 (pos, last, r1, r2)) ((upd_ne n.symm).trans o1) o2 (fun i row hi => ?_) upd_same
            obtain ⟨c, h4, h5⟩ := o3 i row hi
            exact ⟨c, h4, (upd_ne (ne_of_none h5 ht)).trans h5⟩
        · have t1 : r1 = r2 := by simpa using t1
          rw [if_pos t1, List.append_nil]
          exact ⟨rfl, s1, vo, o1, o2, o3⟩
      · rintro σ' H2 ⟨rfl, s2, hO2⟩
        have LA := hA.same s2
        have LB := hB.same s2
        obtain ⟨va, ca, a1, _, a3, a4⟩ := LA.read gA'
        obtain ⟨vb, cb, b1, _, b3, b4⟩ := LB.read gB'
        refine ⟨_, rfl, _, rfl, p, _, _, _, rfl, rfl, SqL.of a1, a3, ca, _, _, _, rfl, rfl, SqT.of a4, atI_nat (j := 1) rfl, _, rfl, rfl, ?_⟩
        have ed : ∀ x y : Nat, decide (V.int (x : Int) = V.int (y : Int)) = decide (x = y) := fun x y => by
          by_cases h : x = y
          · rw [decide_eq_true h, decide_eq_true (by rw [h])]
          · rw [decide_eq_false h, decide_eq_false (fun z => h (by injection z with z; omega))]
        rw [ed]
        refine ⟨fun σ' H' => σ' = [some (.ref p), some (.ref q), some (.ref o), some (.int (i : Int)), some (.int ((if y2 = last then j + 1 else j : Nat) : Int)), some (.int (pos : Int)), some (.int (last : Int)), some (.bl (decide (y1 = last)))] ∧ H' = H2, ?_, ?_⟩
        · refine ⟨_, rfl, _, rfl, q, _, _, _, rfl, rfl, SqL.of b1, b3, cb, _, _, _, rfl, rfl, SqT.of b4, atI_nat (j := 1) rfl, _, rfl, rfl, _, rfl, ?_⟩
          rw [ed]
          refine ite2 (fun t1 => ?_) fun t1 => ?_
          · have t1 : y2 = last := of_decide_eq_true t1
            rw [if_pos t1]
            exact ⟨_, rfl, _, _, rfl, rfl, rfl, rfl⟩
          · have t1 : ¬ y2 = last := fun z => t1 (decide_eq_true z)
            rw [if_neg t1]
            exact ⟨rfl, rfl⟩
        · rintro σ' H3 ⟨rfl, rfl⟩
          refine ⟨_, rfl, _, rfl, ?_⟩
          have hone : y1 = last ∨ y2 = last := by omega
          have fin : BtW H p q o A B f g a b ((A.length - (if y1 = last then i + 1 else i)) + (B.length - (if y2 = last then j + 1 else j))) [some (.ref p), some (.ref q), some (.ref o), some (.int ((if y1 = last then i + 1 else i : Nat) : Int)), some (.int ((if y2 = last then j + 1 else j : Nat) : Int)), some (.int (pos : Int)), some (.int (last : Int)), some (.bl (decide (y1 = last)))] H3 := by
            have eA : A.drop (if y1 = last then i + 1 else i) = if y1 = last then A' else (x1, y1, r1) :: A' := by split <;> assumption
            have eB : B.drop (if y2 = last then j + 1 else j) = if y2 = last then B' else (x2, y2, r2) :: B' := by split <;> assumption
            refine ⟨_, _, _, last + 1, _, _, _, rfl, rfl, s2, hO2, ?_, ?_, ?_, ?_, ?_, ?_, fun D hD2 => ?_⟩
            · rw [List.length_append]
              have h1 : (if r1 = r2 then [] else [(pos, last, r1, r2)]).length ≤ 1 := by split <;> simp
              have h2 : i + j + 1 ≤ (if y1 = last then i + 1 else i) + (if y2 = last then j + 1 else j) := by
                rcases hone with e | e
                · rw [if_pos e]
                  split <;> omega
                · rw [if_pos e]
                  split <;> omega
              exact Nat.le_trans (Nat.add_le_add hacc h1) h2
            · split <;> omega
            · split <;> omega
            · rw [eA]; exact q2
            · rw [eB]; exact q3
            · rw [eA, eB]; exact q4
            · rw [List.append_assoc]
              exact hD _ (q5 D hD2)
          have less : (A.length - (if y1 = last then i + 1 else i)) + (B.length - (if y2 = last then j + 1 else j)) < (A.length - i) + (B.length - j) := by
            rcases hone with e | e
            · rw [if_pos e]
              split <;> omega
            · rw [if_pos e]
              split <;> omega
          refine ite2 (fun t1 => ?_) fun t1 => ?_
          · have t1 : y1 = last := of_decide_eq_true t1
            refine ⟨_, rfl, _, _, rfl, rfl, _, less, ?_⟩
            rw [if_pos t1] at fin ⊢
            exact fin
          · have t1 : ¬ y1 = last := fun z => t1 (decide_eq_true z)
            refine ⟨_, less, ?_⟩
            rw [if_neg t1] at fin ⊢
            exact fin
    · have c : ¬ i < A.length := fun z => c (decide_eq_true (by omega))
      rw [List.drop_eq_nil_of_le (by omega)] at cA
      have cA : pos = b := cA
      subst cA
      refine ⟨_, rfl, k _ _ acc s1 ho hO ?_⟩
      have := hD [] fun n n1 n2 => by omega
      rw [List.append_nil] at this
      exact this
abbrev s_Knot_init : Stmt := inClass (top 25) 0
abbrev n_Knot_init : List Str := ["self"]
theorem sc_Knot_init : FnScope n_Knot_init ["self"] (C8.fnScope s_Knot_init) := ⟨rfl, rfl, rfl, by decide +kernel, rfl, by decide +kernel, by decide +kernel⟩
/-- a new knot: its own dict dx and its list of kids -/
def spKnot : Sp := fun vs H Q _ => ∃ (a C dx : Addr), vs = [.ref a] ∧ Ks K C ∧ H a = some (.ins C dx []) ∧ ∀ H' ka, H ka = none → Mod [a] H H' → H' a = some (.ins C dx (AT.kf ka none)) → H' ka = some (.lst [.non, .non]) → Q .non H'
theorem c_Knot_init (Kk : Ks K CK) (D : Mkn K mg "Knot" CK s_Knot_init ["self"]) : Mak P w K mg base 1 "Knot" CK (spKnot (K := K)) [] := by
  refine D.mak sc_Knot_init (fun vs H Q E h => ?_) (fun qual f cdv A outer s H vs Q E hr h => ?_)
  · obtain ⟨a, C, dx, rfl, _⟩ := h
    rfl
  · obtain ⟨a, C, dx, rfl, Kk, ha, k⟩ := h
    refine ⟨_, (pss_cons (ps_fld (pv 0) (pe_lst (pa_cons pe_non (pa_cons pe_non pa_nil))) rfl)
      (pss_one (ps_fld (pv 0) pe_non rfl))), ?_⟩
    refine ⟨(by show 2 ≤ sizeLine; decide), fun ka hk => ?_⟩
    have n : ka ≠ a := (ne_of_none ha hk).symm
    refine ⟨_, rfl, a, C, dx, _, rfl, (upd_ne n.symm).trans ha, Kk.cl, Kk.nkids, (by show 0 < 1000; decide), ?_⟩
    refine ⟨_, rfl, a, C, dx, _, rfl, upd_same, Kk.cl, Kk.ngoal, (by show 1 < 1000; decide), ?_⟩
    refine k _ ka hk ?_ upd_same ?_
    · have m1 : Mod [a] H (upd H ka (.lst [.non, .non])) := Mod.new Mod.refl hk
      refine (m1.upd (.inl (by simp)) fun xs z => ?_).upd (.inl (by simp)) fun xs z => ?_
      · rw [upd_ne n.symm, ha] at z; cases z
      · rw [upd_same] at z; cases z
    · rw [upd_ne n, upd_ne n]
      exact upd_same
theorem noneOr_val {K : PySem.W.Frag} {C : Addr} (Kk : Ks K C) {H : Hp} : ∀ {t : AT}, t.ok C H → NoneOr K H t.val
  | .nil, _ => .inl rfl
  | .nd a dx ka g l r, h => .inr ⟨a, C, dx, _, rfl, h.1, Kk.mro, Kk.eq⟩
theorem noneOr_same {K : PySem.W.Frag} {H H1 : Hp} {z : V} (h : NoneOr K H z) (s : Same H H1) : NoneOr K H1 z := by
  rcases h with rfl | ⟨a, C, dx, fs, rfl, h1, h2, h3⟩
  · exact .inl rfl
  · exact .inr ⟨a, C, dx, fs, rfl, s _ _ h1, h2, h3⟩
end
end Br

/-! bitroads.table: what is asked of a table -/
namespace Br
open PySem PySem.Spec PyProof.Rows L2
open C8 (Cal Met Mak cal0 met0 mak0 pe_c pe_mk pe_mt pe_mt0 pe_gc Def)
theorem tells_tl {t : Tr} {v : Nat} {s : List Bool} (hd : t.deep v) (hs : s.length ≤ v) : Tl (fT t v) (hi s v + 1) (lo s v) (tells t v s) := by
  have h := strs_tl (t := t) (w := v) (s := s) (deep_sub hd hs) hs
  have p := pow_pos2 (v - s.length)
  have e : hi s v + 1 = num s * 2 ^ (v - s.length) + 2 ^ (v - s.length) := by unfold hi lo; omega
  rw [e]
  exact h
theorem isSome_ov (g : Option Nat) : (!decide (ov g = .non)) = g.isSome := by cases g <;> simp [ov]
section
variable {P : Program} {w : World} {K : PySem.W.Frag} {mg : Str → Option Value} {base : Heap} {CK CT : Addr}
abbrev s_spread : Stmt := top 26
abbrev n_spread : List Str := ["knot", "first", "last", "road", "found", "middle"]
theorem sc_spread : FnScope n_spread ["knot", "first", "last", "road", "found"] (C8.fnScope s_spread) := ⟨rfl, rfl, rfl, by decide +kernel, rfl, by decide +kernel, by decide +kernel⟩
def spSpread (K : PySem.W.Frag) (n : Nat) : Sp := fun vs H Q _ => ∃ (C : Addr) (t : AT) (k a : Nat) (x : Option Nat) (p : Addr) (L : List St3), k < n ∧ vs = [t.val, .int (a : Int), .int ((a + 2 ^ k - 1 : Nat) : Int), ov x, .ref p] ∧ Ks K C ∧ t.ok C H ∧ t.tr.deep k ∧ p ∉ t.fp ∧
  LT H p (L.map row3) ∧ L.length + t.tr.size + 1 < 100000 ∧ ∀ H', Mod [p] H H' → LT H' p ((spr t.tr k a x L).map row3) → Q .non H'
theorem c_spread (T : Glob mg) (D : Dn K mg "spread" s_spread ["knot", "first", "last", "road", "found"]) (c_add_stretch : Cal P w K mg base 1 "add_stretch" spAdd []) : ∀ n, Cal P w K mg base (n + 1) "spread" (spSpread K n) []
  | 0 => D.never fun vs H Q E ⟨_, _, _, _, _, _, _, h, _⟩ => absurd h (Nat.not_lt_zero _)
  | n + 1 => by
    have c_spread := c_spread T D c_add_stretch n
    refine D.cal sc_spread (fun vs H Q E h => ?_) (fun f cdv A outer s H vs Q E hr h => ?_)
    · obtain ⟨C, t, k, a, x, p, L, _, rfl, _⟩ := h
      rfl
    · obtain ⟨C, t, k, a, x, p, L, hk, rfl, Kk, ht, hd, hp, hL, hlen, q⟩ := h
      refine ⟨_, (C8.pss_cut (ps_if (PW.pt (pw_and (pt_cmpR op_notN (pv 0) pe_non (nomark _)) (pw_and1 (pt_cmpR op_notN (pe_fld (pv 0) rfl) pe_non (nomark _)))))
      (pss_one (ps_set (i := 3) sc_spread.nd rfl (by first | exact Or.inl rfl | exact Or.inr rfl) (pe_fld (pv 0) rfl)))
      pss_nil)
      (pss_one (ps_if (PW.pt (pw_or (pt_cmpR op_isN (pv 0) pe_non (nomark _)) (pw_or1 (pt_cmpR (op_kids hr.units) (pe_fld (pv 0) rfl) (pe_lst (pa_cons pe_non (pa_cons pe_non pa_nil))) (nomark _)))))
      (pss_one (ps_expr (pe_c c_add_stretch hr (by first | decide | omega) rfl (pa_cons (pv 4) (pa_cons (pv 1) (pa_cons (pv 2) (pa_cons (pv 3) pa_nil)))))))
      (pss_cons (ps_set (i := 5) sc_spread.nd rfl (by first | exact Or.inl rfl | exact Or.inr rfl) (pe_op op_fdiv (pe_op op_add (pv 1) (pv 2)) pe_int))
      (pss_cons (ps_expr (pe_c c_spread hr (by first | decide | omega) rfl (pa_cons (pe_ix ix_list (pe_fld (pv 0) rfl) pe_int (fun _ _ => rfl)) (pa_cons (pv 1) (pa_cons (pv 5) (pa_cons (pv 3) (pa_cons (pv 4) pa_nil)))))))
      (pss_one (ps_expr (pe_c c_spread hr (by first | decide | omega) rfl (pa_cons (pe_ix ix_list (pe_fld (pv 0) rfl) pe_int (fun _ _ => rfl)) (pa_cons (pe_op op_add (pv 5) pe_int) (pa_cons (pv 2) (pa_cons (pv 3) (pa_cons (pv 4) pa_nil))))))))))))), ?_⟩
      cases t with
      | nil =>
        refine ⟨fun σ' H' => σ' = [some .non, some (.int (a : Int)), some (.int ((a + 2 ^ k - 1 : Nat) : Int)), some (ov x), some (.ref p), none] ∧ H' = H, ⟨_, rfl, rfl, _, rfl, iteF (iteF ⟨rfl, rfl⟩)⟩, ?_⟩
        rintro σ' H' ⟨rfl, rfl⟩
        refine ⟨_, rfl, rfl, _, rfl, iteT (iteT ?_)⟩
        exact ⟨_, rfl, _, rfl, _, rfl, _, rfl, p, L, a, a + 2 ^ k - 1, x, rfl, hL, (by have : (AT.nil).tr.size = 0 := rfl; omega), q⟩
      | nd b dx ka g l r =>
        obtain ⟨hb, hka, hl, hr'⟩ := ht
        refine ⟨fun σ' H' => σ' = [some (.ref b), some (.int (a : Int)), some (.int ((a + 2 ^ k - 1 : Nat) : Int)), some (ov (g.or x)), some (.ref p), none] ∧ H = H', ?_, ?_⟩
        · refine ⟨_, rfl, rfl, _, rfl, iteT ?_⟩
          refine ⟨_, rfl, b, C, dx, _, _, rfl, hb, Kk.cl, Kk.ngoal, rfl, rfl, _, rfl, ?_⟩
          rw [isSome_ov]
          cases g with
          | none => exact iteF ⟨rfl, rfl⟩
          | some y => exact iteT ⟨_, rfl, b, C, dx, _, _, rfl, hb, Kk.cl, Kk.ngoal, rfl, rfl, rfl⟩
        · rintro σ' H' ⟨rfl, rfl⟩
          refine ⟨_, rfl, rfl, _, rfl, iteF ?_⟩
          refine ⟨_, rfl, b, C, dx, _, _, rfl, hb, Kk.cl, Kk.nkids, rfl, (by show 2 ≤ sizeLine; decide), fun q1 hq1 => ?_⟩
          have s1 : Same H (upd H q1 (.lst [.non, .non])) := Same_upd (Same.refl H) hq1
          generalize hH1 : upd H q1 (.lst [.non, .non]) = H1 at s1
          have e1 : H1 q1 = some (.lst [.non, .non]) := by rw [← hH1]; exact upd_same
          refine ⟨ka, q1, _, _, rfl, rfl, s1 _ _ hka, e1, rfl, ?_, ?_, _, rfl, ?_⟩
          · intro z hz
            simp at hz
            exact hz
          · intro z hz
            rcases List.mem_cons.mp hz with rfl | hz
            · exact noneOr_same (noneOr_val Kk hl) s1
            · rcases List.mem_cons.mp hz with rfl | hz
              · exact noneOr_same (noneOr_val Kk hr') s1
              · cases hz
          · have ea : [l.val, r.val].all isNon = (l.tr.isNil && r.tr.isNil) := by
              show (isNon l.val && (isNon r.val && true)) = _
              rw [AT.isNon_val, AT.isNon_val, Bool.and_true]
            rw [ea]
            have hlen2 : L.length + (1 + l.tr.size + r.tr.size) + 1 < 100000 := hlen
            refine ite2 (fun c => ?_) fun c => ?_
            · have e : spr (AT.nd b dx ka g l r).tr k a x L = addS L a (a + 2 ^ k - 1) (g.or x) := by
                show spr (.nd g l.tr r.tr) k a x L = _
                unfold spr
                rw [if_pos c]
              refine ⟨_, rfl, _, rfl, _, rfl, _, rfl, p, L, a, a + 2 ^ k - 1, g.or x, rfl, hL.same s1, (by omega), fun H' m h => q H' ((Mod.same s1).trans m) ?_⟩
              rw [e]
              exact h
            · cases k with
              | zero =>
                obtain ⟨d1, d2⟩ := hd
                rw [d1, d2] at c
                exact (c rfl).elim
              | succ k =>
                obtain ⟨d1, d2⟩ := hd
                have e : spr (AT.nd b dx ka g l r).tr (k + 1) a x L = spr r.tr k (a + 2 ^ k) (g.or x) (spr l.tr k a (g.or x) L) := by
                  show spr (.nd g l.tr r.tr) (k + 1) a x L = _
                  rw [spr, if_neg c]
                  rfl
                have pk := pow_pos2 k
                have p2 : 2 ^ (k + 1) = 2 ^ k + 2 ^ k := by rw [Nat.pow_succ]; omega
                have hp1 : p ∉ l.fp := fun m => hp (by simp [AT.fp, m])
                have hp2 : p ∉ r.fp := fun m => hp (by simp [AT.fp, m])
                have hpk : ka ≠ p := fun e => hp (by simp [AT.fp, e])
                have hpb : b ≠ p := fun e => hp (by simp [AT.fp, e])
                have em : ((a : Int) + ((a + 2 ^ (k + 1) - 1 : Nat) : Int)) / 2 = ((a + 2 ^ k - 1 : Nat) : Int) := by omega
                refine ⟨_, rfl, _, rfl, _, _, rfl, rfl, _, _, rfl, rfl, ⟨by decide, by decide⟩, ?_⟩
                dsimp only
                rw [em]
                refine ⟨_, rfl, b, C, dx, _, _, rfl, s1 _ _ hb, Kk.cl, Kk.nkids, rfl, ka, _, _, _, rfl, rfl, SqL.of (s1 _ _ hka), atI_nat (j := 0) rfl, ?_⟩
                refine ⟨_, rfl, _, rfl, _, rfl, _, rfl, C, l, k, a, g.or x, p, L, (by omega), rfl, Kk, AT.ok_same hl s1, d1, hp1, hL.same s1, (by omega), fun H2 m2 h2 => ?_⟩
                have s2 : Mod [p] H H2 := (Mod.same s1).trans m2
                have eb : ((a + 2 ^ k - 1 : Nat) : Int) + 1 = ((a + 2 ^ k : Nat) : Int) := by omega
                refine ⟨_, rfl, b, C, dx, _, _, rfl, s2 _ _ hb (.inl (by simp [hpb])), Kk.cl, Kk.nkids, rfl, ka, _, _, _, rfl, rfl, SqL.of (s2 _ _ hka (.inl (by simp [hpk]))), atI_nat (j := 1) rfl, ?_⟩
                refine ⟨_, rfl, _, _, rfl, rfl, _, rfl, _, rfl, _, rfl, ?_⟩
                have el := spr_len l.tr k a (g.or x) L
                refine ⟨C, r, k, a + 2 ^ k, g.or x, p, _, (by omega), ?_, Kk, AT.ok_mod hr' s2 (fun y hy => by simp only [List.mem_singleton]; exact fun e => hp2 (e ▸ hy)), d2, hp2, h2, (by omega), fun H3 m3 h3 => q H3 (s2.trans m3) ?_⟩
                · show [r.val, V.int (((a + 2 ^ k - 1 : Nat) : Int) + 1), V.int ((a + 2 ^ (k + 1) - 1 : Nat) : Int), ov (g.or x), V.ref p] = _
                  rw [eb, show a + 2 ^ (k + 1) - 1 = a + 2 ^ k + 2 ^ k - 1 by omega]
                · rw [e]
                  exact h3
abbrev s_Table_init : Stmt := inClass (top 27) 0
abbrev n_Table_init : List Str := ["self", "width"]
theorem sc_Table_init : FnScope n_Table_init ["self", "width"] (C8.fnScope s_Table_init) := ⟨rfl, rfl, rfl, by decide +kernel, rfl, by decide +kernel, by decide +kernel⟩
def spTable (K : PySem.W.Frag) (CK : Addr) : Sp := fun vs H Q _ => ∃ (a C dx : Addr) (v : Nat), vs = [.ref a, .int (v : Int)] ∧ Ts K C ∧ Ks K CK ∧ H a = some (.ins C dx []) ∧ 1 ≤ v ∧ v ≤ 64 ∧ ∀ H' t, Mod [a] H H' → Tab CK C H' a v t → t.tr = .nd none .nil .nil → (∀ x ∈ t.fp, H x = none) → Q .non H'
theorem c_Table_init (T : Glob mg) (Tt : Ts K CT) (Kk : Ks K CK) (D : Mkn K mg "Table" CT s_Table_init ["self", "width"]) (c_is_width : Cal P w K mg base 2 "is_width" spWidth []) (c_Knot : Mak P w K mg base 1 "Knot" CK (spKnot (K := K)) []) : Mak P w K mg base 3 "Table" CT (spTable K CK) [] := by
  refine D.mak sc_Table_init (fun vs H Q E h => ?_) (fun qual f cdv A outer s H vs Q E hr h => ?_)
  · obtain ⟨a, C, dx, v, rfl, _⟩ := h
    rfl
  · obtain ⟨a, C, dx, v, rfl, Tt, Kk, ha, w1, w2, k⟩ := h
    refine ⟨_, (pss_cons (ps_if (pt_not (pt_val (pe_c c_is_width hr (by first | decide | omega) rfl (pa_cons (pv 1) pa_nil))))
      (pss_one (ps_never (st := _)))
      pss_nil)
      (pss_cons (ps_fld (pv 0) (pv 1) rfl)
      (pss_cons (ps_fld (pv 0) (pe_mk0 c_Knot hr (by first | decide | omega) rfl) rfl)
      (pss_one (ps_fld (pv 0) pe_int rfl))))), ?_⟩
    have ew : isAmong (.int (v : Int)) 1 64 = true := by
      show (decide ((1 : Int) ≤ (v : Int)) && decide ((v : Int) ≤ 64)) = true
      rw [decide_eq_true (by omega), decide_eq_true (by omega)]
      rfl
    refine ⟨_, rfl, _, rfl, .int _, ?_⟩
    rw [ew]
    refine ⟨_, rfl, iteF ?_⟩
    refine ⟨_, rfl, _, rfl, a, C, dx, _, rfl, ha, Tt.cl, Tt.nwide, (by show 0 < 1000; decide), fun n d hn hd nd => ?_⟩
    have na : n ≠ a := (ne_of_none (o := .ins C dx [("wide", .int (v : Int))]) upd_same hn).symm
    have da : d ≠ a := (ne_of_none (o := .ins C dx [("wide", .int (v : Int))]) upd_same hd).symm
    have hn0 : H n = none := by rw [upd_ne na] at hn; exact hn
    have hd0 : H d = none := by rw [upd_ne da] at hd; exact hd
    refine ⟨n, CK, d, rfl, Kk, upd_same, fun H3 ka hka m3 e1 e2 => ⟨rfl, ?_⟩⟩
    have nka : ka ≠ n := (ne_of_none (o := .ins CK d []) upd_same hka).symm
    have m2 : Mod [a] H (upd (upd (upd H a (.ins C dx [("wide", .int (v : Int))])) d (.own n)) n (.ins CK d [])) := by
      have h0 : Mod [a] H (upd H a (.ins C dx [("wide", .int (v : Int))])) := Mod.refl.upd (.inl (by simp)) fun xs z => by rw [ha] at z; cases z
      have h1 := h0.new (o := .own n) hd
      exact h1.new (by rw [upd_ne nd.symm]; exact hn)
    have ha2 : (upd (upd (upd H a (.ins C dx [("wide", .int (v : Int))])) d (.own n)) n (.ins CK d [])) a = some (.ins C dx [("wide", .int (v : Int))]) := by
      rw [upd_ne na.symm, upd_ne da.symm]
      exact upd_same
    have kaa : ka ≠ a := (ne_of_none ha2 hka).symm
    have hka0 : H ka = none := m2.free hka
    have m3' : Mod [a] H H3 := m2.step m3 fun x hx => by
      have : x = n := by simpa using hx
      subst this
      exact .inr hn0
    have ha3 : H3 a = some (.ins C dx [("wide", .int (v : Int))]) := m3 _ _ ha2 (.inl (by simp [na.symm]))
    generalize hH2 : (upd (upd (upd H a (.ins C dx [("wide", .int (v : Int))])) d (.own n)) n (.ins CK d [])) = H2 at *
    refine ⟨_, rfl, a, C, dx, _, rfl, ha3, Tt.cl, Tt.ntop, (by show 1 < 1000; decide), ?_⟩
    refine ⟨_, rfl, a, C, dx, _, rfl, upd_same, Tt.cl, Tt.namount, (by show 2 < 1000; decide), ?_⟩
    refine k _ (.nd n d ka none .nil .nil) ((m3'.upd (.inl (by simp)) fun xs z => ?_).upd (.inl (by simp)) fun xs z => ?_) ⟨⟨dx, ?_⟩, ⟨?_, ?_, trivial, trivial⟩, ?_, ⟨trivial, trivial⟩, ?_, w1, w2, (by show 1 ≤ 20000; decide)⟩ rfl ?_
    · rw [ha3] at z; cases z
    · rw [upd_same] at z; cases z
    · exact upd_same
    · rw [upd_ne na, upd_ne na]
      exact e1
    · rw [upd_ne kaa, upd_ne kaa]
      exact e2
    · simp [AT.fp, na.symm, nka.symm, kaa.symm]
    · cases v with
      | zero => exact ⟨rfl, rfl⟩
      | succ v => exact ⟨trivial, trivial⟩
    · intro x hx
      simp [AT.fp] at hx
      rcases hx with rfl | rfl
      · exact hn0
      · exact hka0
abbrev s_Table_width : Stmt := inClass (top 27) 1
abbrev n_Table_width : List Str := ["self"]
theorem sc_Table_width : FnScope n_Table_width ["self"] (C8.fnScope s_Table_width) := ⟨rfl, rfl, rfl, by decide +kernel, rfl, by decide +kernel, by decide +kernel⟩
def spTwidth (CK CT : Addr) : Sp := fun vs H Q _ => ∃ (T : Addr) (v : Nat) (t : AT), vs = [.ref T] ∧ Tab CK CT H T v t ∧ Q (.int (v : Int)) H
theorem c_Table_width (Tt : Ts K CT) (D : Mn K CT "width" s_Table_width ["self"] []) : Met P w K mg base 1 CT "width" (spTwidth CK CT) [] := by
  refine D.met sc_Table_width (fun vs H Q E h => ?_) (fun qual f cdv A outer s H vs Q E hr h => ?_)
  · obtain ⟨a, v, t, rfl, _⟩ := h
    rfl
  · obtain ⟨a, v, t, rfl, ht, k⟩ := h
    refine ⟨_, (pss_one (ps_ret (pe_fld (pv 0) rfl))), ?_⟩
    obtain ⟨dx, ho⟩ := ht.obj
    exact ⟨_, rfl, a, CT, dx, _, _, rfl, ho, Tt.cl, Tt.nwide, rfl, k⟩
abbrev s_Table_many : Stmt := inClass (top 27) 2
abbrev n_Table_many : List Str := ["self"]
theorem sc_Table_many : FnScope n_Table_many ["self"] (C8.fnScope s_Table_many) := ⟨rfl, rfl, rfl, by decide +kernel, rfl, by decide +kernel, by decide +kernel⟩
def spTmany (CK CT : Addr) : Sp := fun vs H Q _ => ∃ (T : Addr) (v : Nat) (t : AT), vs = [.ref T] ∧ Tab CK CT H T v t ∧ Q (.int ((t.tr.count : Nat) : Int)) H
theorem c_Table_many (Tt : Ts K CT) (D : Mn K CT "many" s_Table_many ["self"] []) : Met P w K mg base 1 CT "many" (spTmany CK CT) [] := by
  refine D.met sc_Table_many (fun vs H Q E h => ?_) (fun qual f cdv A outer s H vs Q E hr h => ?_)
  · obtain ⟨a, v, t, rfl, _⟩ := h
    rfl
  · obtain ⟨a, v, t, rfl, ht, k⟩ := h
    refine ⟨_, (pss_one (ps_ret (pe_fld (pv 0) rfl))), ?_⟩
    obtain ⟨dx, ho⟩ := ht.obj
    exact ⟨_, rfl, a, CT, dx, _, _, rfl, ho, Tt.cl, Tt.namount, rfl, k⟩
abbrev s_Table_need_start : Stmt := inClass (top 27) 3
abbrev n_Table_need_start : List Str := ["self", "start"]
theorem sc_Table_need_start : FnScope n_Table_need_start ["self", "start"] (C8.fnScope s_Table_need_start) := ⟨rfl, rfl, rfl, by decide +kernel, rfl, by decide +kernel, by decide +kernel⟩
def spNeedS (CK CT : Addr) : Sp := fun vs H Q _ => ∃ (T : Addr) (v : Nat) (t : AT) (s : List Bool), vs = [.ref T, .str (tx s)] ∧ Tab CK CT H T v t ∧ s.length ≤ v ∧ ∀ H', Same H H' → Q .non H'
theorem c_Table_need_start (T : Glob mg) (Tt : Ts K CT) (D : Mn K CT "need_start" s_Table_need_start ["self", "start"] []) (c_is_start : Cal P w K mg base 2 "is_start" spStart []) : Met P w K mg base 3 CT "need_start" (spNeedS CK CT) [] := by
  refine D.met sc_Table_need_start (fun vs H Q E h => ?_) (fun qual f cdv A outer s H vs Q E hr h => ?_)
  · obtain ⟨a, v, t, s, rfl, _⟩ := h
    rfl
  · obtain ⟨a, v, t, s, rfl, ht, hs, k⟩ := h
    refine ⟨_, (pss_one (ps_if (pt_not (pt_val (pe_c c_is_start hr (by first | decide | omega) rfl (pa_cons (pe_fld (pv 0) rfl) (pa_cons (pv 1) pa_nil)))))
      (pss_one (ps_never (st := _)))
      pss_nil)), ?_⟩
    obtain ⟨dx, ho⟩ := ht.obj
    refine ⟨_, rfl, a, CT, dx, _, _, rfl, ho, Tt.cl, Tt.nwide, rfl, _, rfl, _, _, rfl, thing_tx (by have := ht.w2; omega), fun H' s' => ?_⟩
    rw [isBits_tx, decide_eq_true (by omega), decide_eq_true (by omega)]
    exact ⟨_, rfl, iteF (k H' s')⟩
abbrev s_Table_need_word : Stmt := inClass (top 27) 4
abbrev n_Table_need_word : List Str := ["self", "word"]
theorem sc_Table_need_word : FnScope n_Table_need_word ["self", "word"] (C8.fnScope s_Table_need_word) := ⟨rfl, rfl, rfl, by decide +kernel, rfl, by decide +kernel, by decide +kernel⟩
def spNeedW (CK CT : Addr) : Sp := fun vs H Q _ => ∃ (T : Addr) (v : Nat) (t : AT) (s : List Bool), vs = [.ref T, .str (tx s)] ∧ Tab CK CT H T v t ∧ s.length = v ∧ ∀ H', Same H H' → Q .non H'
theorem c_Table_need_word (T : Glob mg) (Tt : Ts K CT) (D : Mn K CT "need_word" s_Table_need_word ["self", "word"] []) (c_is_word : Cal P w K mg base 2 "is_word" spWord []) : Met P w K mg base 3 CT "need_word" (spNeedW CK CT) [] := by
  refine D.met sc_Table_need_word (fun vs H Q E h => ?_) (fun qual f cdv A outer s H vs Q E hr h => ?_)
  · obtain ⟨a, v, t, s, rfl, _⟩ := h
    rfl
  · obtain ⟨a, v, t, s, rfl, ht, hs, k⟩ := h
    refine ⟨_, (pss_one (ps_if (pt_not (pt_val (pe_c c_is_word hr (by first | decide | omega) rfl (pa_cons (pe_fld (pv 0) rfl) (pa_cons (pv 1) pa_nil)))))
      (pss_one (ps_never (st := _)))
      pss_nil)), ?_⟩
    obtain ⟨dx, ho⟩ := ht.obj
    refine ⟨_, rfl, a, CT, dx, _, _, rfl, ho, Tt.cl, Tt.nwide, rfl, _, rfl, _, _, rfl, thing_tx (by have := ht.w2; omega), fun H' s' => ?_⟩
    rw [isBits_tx, decide_eq_true (by omega), decide_eq_true (by omega)]
    exact ⟨_, rfl, iteF (k H' s')⟩
abbrev s_Table_way : Stmt := inClass (top 27) 5
abbrev n_Table_way : List Str := ["self", "start", "found", "sign", "knot"]
theorem sc_Table_way : FnScope n_Table_way ["self", "start"] (C8.fnScope s_Table_way) := ⟨rfl, rfl, rfl, by decide +kernel, rfl, by decide +kernel, by decide +kernel⟩
def spWay (CK CT : Addr) : Sp := fun vs H Q _ => ∃ (T : Addr) (v : Nat) (t : AT) (s : List Bool), vs = [.ref T, .str (tx s)] ∧ Tab CK CT H T v t ∧ s.length ≤ v ∧ ∀ H' p, Same H H' → H p = none → H' p = some (.lst ((t.way s).map AT.val)) → Q (.ref p) H'
theorem c_Table_way (T : Glob mg) (Tt : Ts K CT) (Kk : Ks K CK) (D : Mn K CT "way" s_Table_way ["self", "start"] []) : Met P w K mg base 1 CT "way" (spWay CK CT) [] := by
  refine D.met sc_Table_way (fun vs H Q E h => ?_) (fun qual f cdv A outer s H vs Q E hr h => ?_)
  · obtain ⟨a, v, t, s, rfl, _⟩ := h
    rfl
  · obtain ⟨a, v, t, s, rfl, ht, hs, k⟩ := h
    refine ⟨_, (pss_cons (ps_set (i := 2) sc_Table_way.nd rfl (by first | exact Or.inl rfl | exact Or.inr rfl) (pe_lst (pa_cons (pe_fld (pv 0) rfl) pa_nil)))
      (pss_cons (ps_for PassesOwn.never rfl (pi_str (pv 1)) (pg_name (i := 3) sc_Table_way.nd rfl (by first | exact Or.inl rfl | exact Or.inr rfl))
      (pss_cons (ps_set (i := 4) sc_Table_way.nd rfl (by first | exact Or.inl rfl | exact Or.inr rfl) (pe_ix ix_list (pe_fld (pe_ix ix_list (pv 2) (pe_un un_neg pe_int) (fun _ _ => rfl)) rfl) (pe_m1 PySem.F.slot_str_index PySem.F.type_str_index mt_sindex (pe_gc rfl T.g_BITS) (pv 3)) (fun _ _ => rfl)))
      (pss_cons (ps_if (pt_cmpR op_isN (pv 4) pe_non (nomark _))
      (pss_one (ps_ret (pv 2)))
      pss_nil)
      (pss_one (ps_expr (pe_bm PySem.F.plainAttrs_list PySem.F.slot_list_append PySem.F.type_list_append mt_append (pv 2) (pa_cons (pv 4) pa_nil)))))))
      (pss_one (ps_ret (pv 2))))), ?_⟩
    obtain ⟨dx, ho⟩ := ht.obj
    refine ⟨_, rfl, a, CT, dx, _, _, rfl, ho, Tt.cl, Tt.ntop, rfl, (by show 1 ≤ sizeLine; decide), fun p hp => ?_⟩
    refine ⟨_, rfl, _, rfl, for_it walk_str (fun i σ H' => ∃ v3 v4, σ = [some (.ref a), some (.str (tx s)), some (.ref p), v3, v4] ∧ Same H H' ∧ H' p = some (.lst ((t.way (s.take i)).map AT.val)) ∧ t.sub (s.take i) ≠ .nil) ⟨none, none, rfl, Same_upd (Same.refl H) hp, ?_, ht.ne⟩ (fun _ _ _ _ _ => trivial) ?_ ?_⟩
    · have e : (t.way (s.take 0)).map AT.val = [t.val] := by
        rw [List.take_zero]
        have := ht.ne
        cases t with
        | nil => exact (this rfl).elim
        | nd => rfl
      rw [e]
      exact upd_same
    · rintro i x σ H1 H2 hi ⟨v3, v4, rfl, s1, h1, hn⟩ ⟨rfl, c, hc, rfl⟩
      obtain ⟨b, hb, rfl⟩ := tx_get hc
      have hil : i < s.length := (List.getElem?_eq_some_iff.mp hb).1
      have etk : (s.take i).length = i := by rw [List.length_take]; omega
      -- the last knot so far
      have wl : (t.way (s.take i)).length = i + 1 := by
        have h1 := (AT.way_len (s.take i) t).mpr hn
        have h2 := AT.way_len_le (s.take i) t
        rw [etk] at h1 h2
        omega
      have wg : (t.way (s.take i))[i]? = some (t.sub (s.take i)) := by
        have := AT.way_get (s.take i) t i (by omega)
        rw [List.take_take, Nat.min_self] at this
        exact this hn
      obtain ⟨b', dx', ka, g, l, r, eu⟩ : ∃ b' dx' ka g l r, t.sub (s.take i) = .nd b' dx' ka g l r := by
        cases e : t.sub (s.take i) with
        | nil => exact (hn e).elim
        | nd => exact ⟨_, _, _, _, _, _, rfl⟩
      have oku := AT.sub_ok (s.take i) ht.ok
      rw [eu] at oku
      obtain ⟨hb', hka, _, _⟩ := oku
      have at1 : atI ((t.way (s.take i)).map AT.val) (-1) = some (V.ref b') := atI_end (n := i) (by rw [List.length_map, wl]) (by rw [List.getElem?_map, wg, eu]; rfl)
      have ek : t.sub (s.take (i + 1)) = AT.kid b l r := by rw [take_snoc hb]; exact AT.sub_kid _ b eu
      refine ⟨_, rfl, _, rfl, p, _, _, _, rfl, rfl, SqL.of h1, at1, b', CK, dx', _, _, rfl, s1 _ _ hb', Kk.cl, Kk.nkids, rfl, ⟨_, rfl⟩, _, rfl, _, _, _, _, rfl, rfl, bits_index b, ka, _, _, _, rfl, rfl, SqL.of (s1 _ _ hka), atI_nat (AT.kid_val b l r), ?_⟩
      refine ⟨_, rfl, rfl, _, rfl, ?_⟩
      rw [AT.val_tr]
      refine ite2 (fun c => ?_) fun c => ?_
      · have en : t.sub (s.take (i + 1)) = .nil := by
          rw [ek]
          cases e : AT.kid b l r with
          | nil => rfl
          | nd => rw [e] at c; cases c
        refine ⟨_, rfl, k _ p s1 hp ?_⟩
        have ew : t.way s = t.way (s.take i) := by
          have h1 := AT.way_dead (s.take (i + 1)) (s.drop (i + 1)) t en
          rw [List.take_append_drop] at h1
          rw [h1, take_snoc hb, AT.way_snoc, ← take_snoc hb, en]
          exact List.append_nil _
        rw [ew]
        exact h1
      · have en : t.sub (s.take (i + 1)) ≠ .nil := by
          rw [ek]
          intro z
          rw [z] at c
          exact c rfl
        refine ⟨_, rfl, .inl ⟨rfl, _, SqL.of h1⟩, _, rfl, p, _, _, rfl, rfl, h1, ?_, _, _, rfl, ?_, ?_, en⟩
        · rw [List.length_map, wl]
          have := ht.w2
          exact Nat.lt_of_le_of_lt (by omega : i + 1 ≤ 1000) (by decide)
        · exact Same_mut s1 hp
        · have ew : t.way (s.take (i + 1)) = t.way (s.take i) ++ [AT.kid b l r] := by
            rw [take_snoc hb, AT.way_snoc, ← take_snoc hb, ek]
            rw [ek] at en
            cases e : AT.kid b l r with
            | nil => exact (en e).elim
            | nd => rfl
          rw [ew, List.map_append]
          exact upd_same
    · rintro σ H1 ⟨v3, v4, rfl, s1, h1, hn⟩
      refine ⟨_, rfl, k _ p s1 hp ?_⟩
      have e : s.take (tx s).cps.size = s := List.take_of_length_le (by show s.length ≤ (tx s).length; rw [tx_len]; exact Nat.le_refl _)
      rw [e] at h1
      exact h1
end
end Br

/-! bitroads.table: roads, stretches, rows put and taken -/
namespace Br
open PySem PySem.Spec PyProof.Rows L2
open C8 (Cal Met Mak cal0 met0 mak0 pe_c pe_mk pe_mt pe_mt0 pe_gc Def)
/-- the road so far, along a way -/
def sofar (l : List AT) : Option Nat := l.foldl (fun x n => n.goal.or x) none
theorem sofar_snoc (l : List AT) (u : AT) : sofar (l ++ [u]) = u.goal.or (sofar l) := by
  unfold sofar
  rw [List.foldl_append]
  rfl
theorem sofar_way (t : AT) (s : List Bool) : sofar (t.way s) = t.tr.road none s := AT.way_road s t none
theorem way_long (t : AT) (s : List Bool) : decide ((((t.way s).map AT.val).length : Int) > (((tx s).length : Nat) : Int)) = true ↔ t.sub s ≠ .nil := by
  rw [List.length_map, tx_len, decide_eq_true_iff]
  have := AT.way_len s t
  constructor
  · intro h
    exact this.mp (by omega)
  · intro h
    have := this.mpr h
    omega
/-- a knot of a way -/
theorem way_nd {CK : Addr} {H : Hp} {t u : AT} {s : List Bool} (ho : t.ok CK H) (h : u ∈ t.way s) : ∃ a dx ka g l r, u = .nd a dx ka g l r ∧ H a = some (.ins CK dx (AT.kf ka g)) ∧ H ka = some (.lst [l.val, r.val]) := by
  obtain ⟨i, _, e, hn⟩ := AT.way_mem s t u h
  have o := AT.sub_ok (s.take i) ho
  rw [← e] at o
  cases u with
  | nil => exact (hn rfl).elim
  | nd a dx ka g l r => exact ⟨a, dx, ka, g, l, r, rfl, o.1, o.2.1⟩
section
variable {P : Program} {w : World} {K : PySem.W.Frag} {mg : Str → Option Value} {base : Heap} {CK CT : Addr}
abbrev s_Table_road : Stmt := inClass (top 27) 11
abbrev n_Table_road : List Str := ["self", "word", "found", "knot"]
theorem sc_Table_road : FnScope n_Table_road ["self", "word"] (C8.fnScope s_Table_road) := ⟨rfl, rfl, rfl, by decide +kernel, rfl, by decide +kernel, by decide +kernel⟩
def spTroad (CK CT : Addr) : Sp := fun vs H Q _ => ∃ (T : Addr) (v : Nat) (t : AT) (s : List Bool), vs = [.ref T, .str (tx s)] ∧ Tab CK CT H T v t ∧ s.length = v ∧ ∀ H', Same H H' → Q (ov (t.tr.road none s)) H'
theorem c_Table_road (T : Glob mg) (Tt : Ts K CT) (Kk : Ks K CK) (D : Mn K CT "road" s_Table_road ["self", "word"] []) (m_need_word : Met P w K mg base 3 CT "need_word" (spNeedW CK CT) []) (m_way : Met P w K mg base 1 CT "way" (spWay CK CT) []) : Met P w K mg base 4 CT "road" (spTroad CK CT) [] := by
  refine D.met sc_Table_road (fun vs H Q E h => ?_) (fun qual f cdv A outer s H vs Q E hr h => ?_)
  · obtain ⟨a, v, t, s, rfl, _⟩ := h
    rfl
  · obtain ⟨a, v, t, s, rfl, ht, hs, k⟩ := h
    refine ⟨_, (pss_cons (ps_expr (pe_mt m_need_word hr (by first | decide | omega) (pv 0) (pa_cons (pv 1) pa_nil)))
      (pss_cons (ps_set (i := 2) sc_Table_road.nd rfl (by first | exact Or.inl rfl | exact Or.inr rfl) pe_non)
      (pss_cons (ps_for PassesOwn.never rfl (pi_list (pe_mt m_way hr (by first | decide | omega) (pv 0) (pa_cons (pv 1) pa_nil))) (pg_name (i := 3) sc_Table_road.nd rfl (by first | exact Or.inl rfl | exact Or.inr rfl))
      (pss_one (ps_if (pt_cmpR op_notN (pe_fld (pv 3) rfl) pe_non (nomark _))
      (pss_one (ps_set (i := 2) sc_Table_road.nd rfl (by first | exact Or.inl rfl | exact Or.inr rfl) (pe_fld (pv 3) rfl)))
      pss_nil)))
      (pss_one (ps_ret (pv 2)))))), ?_⟩
    obtain ⟨dx, ho⟩ := ht.obj
    refine ⟨_, rfl, a, dx, _, rfl, ho, rfl, _, rfl, a, v, t, s, rfl, ht, hs, fun H1 s1 => ?_⟩
    refine ⟨_, rfl, a, dx, _, rfl, s1 _ _ ho, rfl, _, rfl, a, v, t, s, rfl, ht.same s1, (by omega), fun H2 p s2 hp h2 => ?_⟩
    refine ⟨p, rfl, ⟨_, SqL.of h2⟩, for_it (walk_list (K := K) (a := p) (xs := (t.way s).map AT.val)) (fun i σ H' => ∃ v3, σ = [some (.ref a), some (.str (tx s)), some (ov (sofar ((t.way s).take i))), v3] ∧ H' = H2) ⟨none, rfl, rfl⟩ (fun i σ H' _ h => ?_) ?_ ?_⟩
    · obtain ⟨_, _, rfl⟩ := h
      exact SqL.of h2
    · rintro i x σ H3 H4 hi ⟨v3, rfl, rfl⟩ ⟨rfl, hx⟩
      rw [List.getElem?_map] at hx
      cases eu : (t.way s)[i]? with
      | none => rw [eu] at hx; cases hx
      | some u =>
        rw [eu] at hx
        cases hx
        obtain ⟨b, db, ka, g, l, r, rfl, hb, _⟩ := way_nd ht.ok (List.mem_of_getElem? eu)
        have hb2 := s2 _ _ (s1 _ _ hb)
        have e1 : sofar ((t.way s).take (i + 1)) = g.or (sofar ((t.way s).take i)) := by rw [take_snoc eu, sofar_snoc]; rfl
        refine ⟨_, rfl, b, CK, db, _, _, rfl, hb2, Kk.cl, Kk.ngoal, rfl, rfl, _, rfl, ?_⟩
        rw [isSome_ov]
        cases g with
        | none => exact iteF ⟨_, by rw [e1]; rfl, rfl⟩
        | some y => exact iteT ⟨_, rfl, b, CK, db, _, _, rfl, hb2, Kk.cl, Kk.ngoal, rfl, _, by rw [e1]; rfl, rfl⟩
    · rintro σ H3 ⟨v3, rfl, rfl⟩
      refine ⟨_, rfl, ?_⟩
      have e : sofar ((t.way s).take ((t.way s).map AT.val).length) = t.tr.road none s := by
        rw [List.length_map, List.take_length, sofar_way]
      rw [e]
      exact k _ (s1.trans s2)
abbrev s_Table_stretches : Stmt := inClass (top 27) 12
abbrev n_Table_stretches : List Str := ["self", "start", "knots", "road", "knot", "first", "last", "found"]
theorem sc_Table_stretches : FnScope n_Table_stretches ["self", "start"] (C8.fnScope s_Table_stretches) := ⟨rfl, rfl, rfl, by decide +kernel, rfl, by decide +kernel, by decide +kernel⟩
def spTstr (CK CT : Addr) : Sp := fun vs H Q _ => ∃ (T : Addr) (v : Nat) (t : AT) (s : List Bool), vs = [.ref T, .str (tx s)] ∧ Tab CK CT H T v t ∧ s.length ≤ v ∧ ∀ H' p, Same H H' → H p = none → LT H' p ((tells t.tr v s).map row3) → Q (.ref p) H'
theorem c_Table_stretches {dvs : List V} (T : Glob mg) (Tt : Ts K CT) (Kk : Ks K CK) (D : Mn K CT "stretches" s_Table_stretches ["self", "start"] dvs) (m_need_start : Met P w K mg base 3 CT "need_start" (spNeedS CK CT) []) (m_way : Met P w K mg base 1 CT "way" (spWay CK CT) [])
    (c_span_of : Cal P w K mg base 2 "span_of" spSpan []) (c_spread : Cal P w K mg base 66 "spread" (spSpread K 65) []) : Met P w K mg base 67 CT "stretches" (spTstr CK CT) dvs := by
  refine D.met sc_Table_stretches (fun vs H Q E h => ?_) (fun qual f cdv A outer s H vs Q E hr h => ?_)
  · obtain ⟨a, v, t, s, rfl, _⟩ := h
    rfl
  · obtain ⟨a, v, t, s, rfl, ht, hs, k⟩ := h
    refine ⟨_, (pss_cons (ps_expr (pe_mt m_need_start hr (by first | decide | omega) (pv 0) (pa_cons (pv 1) pa_nil)))
      (pss_cons (ps_set (i := 2) sc_Table_stretches.nd rfl (by first | exact Or.inl rfl | exact Or.inr rfl) (pe_mt m_way hr (by first | decide | omega) (pv 0) (pa_cons (pv 1) pa_nil)))
      (pss_cons (ps_set (i := 3) sc_Table_stretches.nd rfl (by first | exact Or.inl rfl | exact Or.inr rfl) pe_non)
      (pss_cons (ps_for PassesOwn.never rfl (pi_list (pv 2)) (pg_name (i := 4) sc_Table_stretches.nd rfl (by first | exact Or.inl rfl | exact Or.inr rfl))
      (pss_one (ps_if (pt_cmpR op_notN (pe_fld (pv 4) rfl) pe_non (nomark _))
      (pss_one (ps_set (i := 3) sc_Table_stretches.nd rfl (by first | exact Or.inl rfl | exact Or.inr rfl) (pe_fld (pv 4) rfl)))
      pss_nil)))
      (pss_cons (ps_asg (pe_c c_span_of hr (by first | decide | omega) rfl (pa_cons (pv 1) (pa_cons (pe_fld (pv 0) rfl) pa_nil))) (pg_tup rfl (pgs_cons (pg_name (i := 5) sc_Table_stretches.nd rfl (by first | exact Or.inl rfl | exact Or.inr rfl)) (pgs_cons (pg_name (i := 6) sc_Table_stretches.nd rfl (by first | exact Or.inl rfl | exact Or.inr rfl)) pgs_nil))))
      (pss_cons (ps_set (i := 7) sc_Table_stretches.nd rfl (by first | exact Or.inl rfl | exact Or.inr rfl) (pe_lst pa_nil))
      (pss_cons (ps_expr (pe_c c_spread hr (by first | decide | omega) rfl (pa_cons (pe_ifExp (pt_cmpR op_gt (pe_callB call_len_seq (by rfl) T.g_len boot_len (pa_cons (pv 2) pa_nil)) (pe_callB call_len_str (by rfl) T.g_len boot_len (pa_cons (pv 1) pa_nil)) (nomark _)) (pe_ix ix_list (pv 2) (pe_un un_neg pe_int) (fun _ _ => rfl)) pe_non) (pa_cons (pv 5) (pa_cons (pv 6) (pa_cons (pv 3) (pa_cons (pv 7) pa_nil)))))))
      (pss_one (ps_ret (pv 7)))))))))), ?_⟩
    obtain ⟨dx, ho⟩ := ht.obj
    refine ⟨_, rfl, a, dx, _, rfl, ho, rfl, _, rfl, a, v, t, s, rfl, ht, hs, fun H1 s1 => ?_⟩
    refine ⟨_, rfl, a, dx, _, rfl, s1 _ _ ho, rfl, _, rfl, a, v, t, s, rfl, ht.same s1, hs, fun H2 p s2 hp h2 => ?_⟩
    refine ⟨_, rfl, p, rfl, ⟨_, SqL.of h2⟩, for_it (walk_list (K := K) (a := p) (xs := (t.way s).map AT.val)) (fun i σ H' => ∃ v4, σ = [some (.ref a), some (.str (tx s)), some (.ref p), some (ov (sofar ((t.way s).take i))), v4, none, none, none] ∧ H' = H2) ⟨none, rfl, rfl⟩ (fun i σ H' _ h => ?_) ?_ ?_⟩
    · obtain ⟨_, _, rfl⟩ := h
      exact SqL.of h2
    · rintro i x σ H3 H4 hi ⟨v3, rfl, rfl⟩ ⟨rfl, hx⟩
      rw [List.getElem?_map] at hx
      cases eu : (t.way s)[i]? with
      | none => rw [eu] at hx; cases hx
      | some u =>
        rw [eu] at hx
        cases hx
        obtain ⟨b, db, ka, g, l, r, rfl, hb, _⟩ := way_nd ht.ok (List.mem_of_getElem? eu)
        have hb2 := s2 _ _ (s1 _ _ hb)
        have e1 : sofar ((t.way s).take (i + 1)) = g.or (sofar ((t.way s).take i)) := by rw [take_snoc eu, sofar_snoc]; rfl
        refine ⟨_, rfl, b, CK, db, _, _, rfl, hb2, Kk.cl, Kk.ngoal, rfl, rfl, _, rfl, ?_⟩
        rw [isSome_ov]
        cases g with
        | none => exact iteF ⟨_, by rw [e1]; rfl, rfl⟩
        | some y => exact iteT ⟨_, rfl, b, CK, db, _, _, rfl, hb2, Kk.cl, Kk.ngoal, rfl, _, by rw [e1]; rfl, rfl⟩
    · rintro σ H3 ⟨v3, rfl, rfl⟩
      have e : sofar ((t.way s).take ((t.way s).map AT.val).length) = t.tr.road none s := by
        rw [List.length_map, List.take_length, sofar_way]
      rw [e]
      have s12 := s1.trans s2
      refine ⟨_, rfl, _, rfl, a, CT, dx, _, _, rfl, s12 _ _ ho, Tt.cl, Tt.nwide, rfl, s, v, rfl, hs, ht.w2, fun q hq => ?_⟩
      have s3 := Same_upd s12 hq (o := .tup [.int ((lo s v : Nat) : Int), .int ((hi s v : Nat) : Int)])
      have np : p ≠ q := ne_of_none h2 hq
      refine ⟨q, _, rfl, SqT.of upd_same, rfl, _, _, rfl, _, _, rfl, rfl, ?_⟩
      refine ⟨Nat.zero_le _, fun o ho' => ?_⟩
      have s4 := Same_upd s3 ho' (o := .lst [])
      have npo : p ≠ o := ne_of_none ((upd_ne np).trans h2) ho'
      refine ⟨_, rfl, p, _, rfl, .inl (SqL.of ((upd_ne npo).trans ((upd_ne np).trans h2))), _, rfl, _, rfl, by rw [tx_len]; exact Nat.le_trans (by have := ht.w2; omega : s.length ≤ 1000) (by decide), _, _, rfl, rfl, _, rfl, ?_⟩
      have fin : ∀ H5, Same H H5 → LT H5 o [] → (∀ x ∈ t.fp, x ≠ o) → spSpread K 65 [(t.sub s).val, .int ((lo s v : Nat) : Int), .int ((hi s v : Nat) : Int), ov (t.tr.road none s), .ref o] H5 (fun _ H' => ∃ y, some (some (V.ref o)) = some (some y) ∧ Q y H') C8.E0 := fun H5 s5 h5 hn => by
        have hw2 := ht.w2
        have hsz := ht.sz
        have hsub := Tr.size_sub s t.tr
        refine ⟨CK, t.sub s, v - s.length, lo s v, t.tr.road none s, o, [], (by omega), ?_, Kk, AT.ok_same (AT.sub_ok s ht.ok) s5, ?_, ?_, h5, ?_, fun H6 m6 h6 => ?_⟩
        · show _ = [(t.sub s).val, V.int ((lo s v : Nat) : Int), V.int ((lo s v + 2 ^ (v - s.length) - 1 : Nat) : Int), _, _]
          rfl
        · rw [AT.sub_tr]
          exact deep_sub ht.deep hs
        · exact fun m => hn o (AT.sub_fp s t o m) rfl
        · rw [AT.sub_tr]
          show 0 + _ + 1 < 100000
          omega
        · refine ⟨_, rfl, k _ o (fun x u e => m6 _ _ (s5 _ _ e) (.inl ?_)) (s3.free ho') ?_⟩
          · have ho0 : H o = none := s3.free ho'
            simp only [List.mem_singleton]
            exact ne_of_none e ho0
          · rw [AT.sub_tr] at h6
            exact h6
      have hn : ∀ x ∈ t.fp, x ≠ o := fun x hx => by
        obtain ⟨u, eu⟩ := AT.ok_some ht.ok x hx
        exact ne_of_none (s3 _ _ eu) ho'
      refine ite2 (fun c => ?_) fun c => ?_
      · have hne : t.sub s ≠ .nil := (way_long t s).mp c
        have wl : ((t.way s).map AT.val).length = s.length + 1 := by
          have h1 := (AT.way_len s t).mpr hne
          have h2 := AT.way_len_le s t
          rw [List.length_map]
          omega
        have wg : ((t.way s).map AT.val)[s.length]? = some (t.sub s).val := by
          have := AT.way_get s t s.length (Nat.le_refl _)
          rw [List.take_length] at this
          rw [List.getElem?_map, this hne]
          rfl
        refine ⟨_, rfl, _, rfl, p, _, _, _, rfl, rfl, SqL.of ((upd_ne npo).trans ((upd_ne np).trans h2)), atI_end wl wg, _, rfl, _, rfl, _, rfl, _, rfl, ?_⟩
        exact fin _ s4 LT.nil hn
      · have hne : t.sub s = .nil := Classical.byContradiction fun n => c ((way_long t s).mpr n)
        have fin := fin _ s4 LT.nil hn
        rw [hne] at fin
        exact ⟨_, rfl, _, rfl, _, rfl, _, rfl, fin⟩
abbrev s_Table_has : Stmt := inClass (top 27) 8
abbrev n_Table_has : List Str := ["self", "start", "knots"]
theorem sc_Table_has : FnScope n_Table_has ["self", "start"] (C8.fnScope s_Table_has) := ⟨rfl, rfl, rfl, by decide +kernel, rfl, by decide +kernel, by decide +kernel⟩
def spThas (CK CT : Addr) : Sp := fun vs H Q _ => ∃ (T : Addr) (v : Nat) (t : AT) (s : List Bool), vs = [.ref T, .str (tx s)] ∧ Tab CK CT H T v t ∧ s.length ≤ v ∧ ∀ H', Same H H' → Q (.bl (t.tr.get s).isSome) H'
theorem c_Table_has (T : Glob mg) (Tt : Ts K CT) (Kk : Ks K CK) (D : Mn K CT "has" s_Table_has ["self", "start"] []) (m_need_start : Met P w K mg base 3 CT "need_start" (spNeedS CK CT) []) (m_way : Met P w K mg base 1 CT "way" (spWay CK CT) []) : Met P w K mg base 4 CT "has" (spThas CK CT) [] := by
  refine D.met sc_Table_has (fun vs H Q E h => ?_) (fun qual f cdv A outer s H vs Q E hr h => ?_)
  · obtain ⟨a, v, t, s, rfl, _⟩ := h
    rfl
  · obtain ⟨a, v, t, s, rfl, ht, hs, k⟩ := h
    refine ⟨_, (pss_cons (ps_expr (pe_mt m_need_start hr (by first | decide | omega) (pv 0) (pa_cons (pv 1) pa_nil)))
      (pss_cons (ps_set (i := 2) sc_Table_has.nd rfl (by first | exact Or.inl rfl | exact Or.inr rfl) (pe_mt m_way hr (by first | decide | omega) (pv 0) (pa_cons (pv 1) pa_nil)))
      (pss_one (ps_ret (pe_and (pe_cmpR op_gt (pe_callB call_len_seq (by rfl) T.g_len boot_len (pa_cons (pv 2) pa_nil)) (pe_callB call_len_str (by rfl) T.g_len boot_len (pa_cons (pv 1) pa_nil)) (nomark _)) (pe_one (pe_cmpR op_notN (pe_fld (pe_ix ix_list (pv 2) (pe_un un_neg pe_int) (fun _ _ => rfl)) rfl) pe_non (nomark _)))))))), ?_⟩
    obtain ⟨dx, ho⟩ := ht.obj
    refine ⟨_, rfl, a, dx, _, rfl, ho, rfl, _, rfl, a, v, t, s, rfl, ht, hs, fun H1 s1 => ?_⟩
    refine ⟨_, rfl, a, dx, _, rfl, s1 _ _ ho, rfl, _, rfl, a, v, t, s, rfl, ht.same s1, hs, fun H2 p s2 hp h2 => ?_⟩
    refine ⟨_, rfl, p, _, rfl, .inl (SqL.of h2), _, rfl, _, rfl, by rw [tx_len]; exact Nat.le_trans (by have := ht.w2; omega : s.length ≤ 1000) (by decide), _, _, rfl, rfl, _, rfl, ?_⟩
    have eg := AT.goal_get s t
    refine ite2 (fun c => ?_) fun c => ?_
    · have hne : t.sub s ≠ .nil := (way_long t s).mp c
      have wl : ((t.way s).map AT.val).length = s.length + 1 := by
        have h1 := (AT.way_len s t).mpr hne
        have h2 := AT.way_len_le s t
        rw [List.length_map]
        omega
      have wg : ((t.way s).map AT.val)[s.length]? = some (t.sub s).val := by
        have := AT.way_get s t s.length (Nat.le_refl _)
        rw [List.take_length] at this
        rw [List.getElem?_map, this hne]
        rfl
      have oks := AT.sub_ok s ht.ok
      cases e : t.sub s with
      | nil => exact (hne e).elim
      | nd b db ka g l r =>
        rw [e] at wg oks eg
        refine ⟨_, rfl, _, rfl, p, _, _, _, rfl, rfl, SqL.of h2, atI_end wl wg, b, CK, db, _, _, rfl, s2 _ _ (s1 _ _ oks.1), Kk.cl, Kk.ngoal, rfl, rfl, ?_⟩
        rw [isSome_ov, show g = t.tr.get s from eg]
        exact k _ (s1.trans s2)
    · have hne : t.sub s = .nil := Classical.byContradiction fun n => c ((way_long t s).mpr n)
      rw [hne] at eg
      have e2 : (t.tr.get s).isSome = false := by rw [← eg]; rfl
      have k2 := k _ (s1.trans s2)
      rw [e2] at k2
      exact k2
end
end Br

/-! bitroads.table: rows told, starts that fit -/
namespace Br
open PySem PySem.Spec PyProof.Rows L2
open C8 (Cal Met Mak cal0 met0 mak0 pe_c pe_mk pe_mt pe_mt0 pe_gc Def)
def rowR : List Bool × Nat → List V | (s, x) => [.str (tx s), .int (x : Nat)]
theorem cut_take (u : List Bool) (i : Nat) (h : i ≤ u.length) : cutS (tx u) none (some (i : Int)) = tx (u.take i) := by
  unfold cutS
  rw [tx_len, tx_cps, ← List.map_drop, ← List.map_take, HT.sIx_none, HT.sIx_nat, Nat.sub_zero, List.drop_zero, Nat.min_eq_left h]
  rfl
section
variable {P : Program} {w : World} {K : PySem.W.Frag} {mg : Str → Option Value} {base : Heap} {CK CT : Addr}
abbrev s_Table_rows : Stmt := inClass (top 27) 14
abbrev n_Table_rows : List Str := ["self", "found", "waiting", "start", "knot", "side"]
theorem sc_Table_rows : FnScope n_Table_rows ["self"] (C8.fnScope s_Table_rows) := ⟨rfl, rfl, rfl, by decide +kernel, rfl, by decide +kernel, by decide +kernel⟩
/-- what waits: beginnings and knots, the next one last -/
def waits (W : List (List Bool × AT)) : List (List V) := W.map fun q => [.str (tx q.1), q.2.val]
def waitR : List (List Bool × AT) → List (List Bool × Nat)
  | [] => []
  | (p, u) :: W => waitR W ++ u.tr.rowsAt p
theorem waitR_append (A B : List (List Bool × AT)) : waitR (A ++ B) = waitR B ++ waitR A := by
  induction A with
  | nil => show _ = _ ++ []; rw [List.append_nil]; rfl
  | cons q A ih => obtain ⟨p, u⟩ := q; show waitR (A ++ B) ++ _ = _ ++ (_ ++ _); rw [ih, List.append_assoc]
def waitN : List (List Bool × AT) → Nat
  | [] => 0
  | (_, u) :: W => u.tr.size + waitN W
theorem waitN_append (A B : List (List Bool × AT)) : waitN (A ++ B) = waitN A + waitN B := by
  induction A with
  | nil => show _ = 0 + _; rw [Nat.zero_add]; rfl
  | cons q A ih => obtain ⟨p, u⟩ := q; show u.tr.size + waitN (A ++ B) = u.tr.size + waitN A + waitN B; rw [ih]; omega
def spTrows (CK CT : Addr) : Sp := fun vs H Q _ => ∃ (T : Addr) (v : Nat) (t : AT), vs = [.ref T] ∧ Tab CK CT H T v t ∧ ∀ H' p, Same H H' → H p = none → LT H' p (t.tr.rows.map rowR) → Q (.ref p) H'
/-- rows, ahead of a turn -/
def RowsW (CK : Addr) (H : Hp) (T pf pw : Addr) (t : AT) : Nat → L2.St → Hp → Prop := fun m σ H' =>
  ∃ (acc : RowL) (W : List (List Bool × AT)) (v3 v4 v5 : Option V), m = waitN W ∧ σ = [some (.ref T), some (.ref pf), some (.ref pw), v3, v4, v5] ∧ Same H H' ∧ LT H' pf (acc.map rowR) ∧ LT H' pw (waits W) ∧
    (∀ q ∈ W, q.2 ≠ .nil ∧ q.2.ok CK H ∧ q.1.length + q.2.tr.size ≤ 20000) ∧ waitN W ≤ 20000 ∧ acc ++ waitR W = t.tr.rows
def gR (p : List Bool) : Option Nat → RowL
  | some x => [(p, x)]
  | none => []
theorem rowsAt_nd (p : List Bool) (g : Option Nat) (l r : Tr) : (Tr.nd g l r).rowsAt p = gR p g ++ (l.rowsAt (p ++ [false]) ++ r.rowsAt (p ++ [true])) := by cases g <;> rfl
def optW (p : List Bool) : AT → List (List Bool × AT)
  | .nil => []
  | u => [(p, u)]
theorem optW_R (p : List Bool) (u : AT) : waitR (optW p u) = u.tr.rowsAt p := by cases u <;> rfl
theorem optW_N (p : List Bool) (u : AT) : waitN (optW p u) = u.tr.size := by cases u <;> rfl
theorem optW_mem {p : List Bool} {u : AT} {q : List Bool × AT} (h : q ∈ optW p u) : q = (p, u) ∧ u ≠ .nil := by
  cases u with
  | nil => cases h
  | nd => exact ⟨List.mem_singleton.mp h, by intro z; cases z⟩
theorem waitN_len : ∀ {W : List (List Bool × AT)}, (∀ q ∈ W, q.2 ≠ .nil) → W.length ≤ waitN W
  | [], _ => Nat.le_refl _
  | (p, u) :: W, h => by
    have h1 := waitN_len (W := W) fun q hq => h q (List.mem_cons_of_mem _ hq)
    have h2 : u ≠ .nil := h (p, u) List.mem_cons_self
    have h3 : 1 ≤ u.tr.size := by
      cases u with
      | nil => exact (h2 rfl).elim
      | nd => show 1 ≤ 1 + _ + _; omega
    show W.length + 1 ≤ u.tr.size + waitN W
    omega
theorem c_Table_rows (T : Glob mg) (Tt : Ts K CT) (Kk : Ks K CK) (D : Mn K CT "rows" s_Table_rows ["self"] []) : Met P w K mg base 1 CT "rows" (spTrows CK CT) [] := by
  refine D.met sc_Table_rows (fun vs H Q E h => ?_) (fun qual f cdv A outer s0 H vs Q E hr h => ?_)
  · obtain ⟨a, v, t, rfl, _⟩ := h
    rfl
  · obtain ⟨a, v, t, rfl, ht, k⟩ := h
    refine ⟨_, (pss_cons (ps_set (i := 1) sc_Table_rows.nd rfl (by first | exact Or.inl rfl | exact Or.inr rfl) (pe_lst pa_nil))
      (pss_cons (ps_set (i := 2) sc_Table_rows.nd rfl (by first | exact Or.inl rfl | exact Or.inr rfl) (pe_lst (pa_cons (pe_tup (pa_cons pe_str (pa_cons (pe_fld (pv 0) rfl) pa_nil))) pa_nil)))
      (pss_cons (ps_while PassesOwn.never (pt_cmpR (op_neNil hr.units) (pv 2) (pe_lst pa_nil) (nomark _))
      (pss_cons (ps_asg (pe_bm0 PySem.F.plainAttrs_list PySem.F.slot_list_pop PySem.F.type_list_pop mt_pop (pv 2)) (pg_tup rfl (pgs_cons (pg_name (i := 3) sc_Table_rows.nd rfl (by first | exact Or.inl rfl | exact Or.inr rfl)) (pgs_cons (pg_name (i := 4) sc_Table_rows.nd rfl (by first | exact Or.inl rfl | exact Or.inr rfl)) pgs_nil))))
      (C8.pss_cut (ps_if (pt_cmpR op_notN (pe_fld (pv 4) rfl) pe_non (nomark _))
      (pss_one (ps_expr (pe_bm PySem.F.plainAttrs_list PySem.F.slot_list_append PySem.F.type_list_append mt_append (pv 1) (pa_cons (pe_tup (pa_cons (pv 3) (pa_cons (pe_fld (pv 4) rfl) pa_nil))) pa_nil))))
      pss_nil)
      (pss_one (ps_for PassesOwn.never rfl (pi_tup (pe_tup (pa_cons pe_int (pa_cons pe_int pa_nil)))) (pg_name (i := 5) sc_Table_rows.nd rfl (by first | exact Or.inl rfl | exact Or.inr rfl))
      (pss_one (ps_if (pt_cmpR op_notN (pe_ix ix_list (pe_fld (pv 4) rfl) (pv 5) (fun _ _ => rfl)) pe_non (nomark _))
      (pss_one (ps_expr (pe_bm PySem.F.plainAttrs_list PySem.F.slot_list_append PySem.F.type_list_append mt_append (pv 2) (pa_cons (pe_tup (pa_cons (pe_op op_add_str (pv 3) (pe_ix ix_str (pe_gc rfl T.g_BITS) (pv 5) (fun _ _ => rfl))) (pa_cons (pe_ix ix_list (pe_fld (pv 4) rfl) (pv 5) (fun _ _ => rfl)) pa_nil))) pa_nil))))
      pss_nil)))))))
      (pss_one (ps_ret (pv 1)))))), ?_⟩
    obtain ⟨dx, ho⟩ := ht.obj
    refine ⟨(by show 0 ≤ sizeLine; decide), fun pf hpf => ?_⟩
    have s1 := Same_upd (Same.refl H) hpf (o := .lst [])
    refine ⟨_, rfl, a, CT, dx, _, _, rfl, s1 _ _ ho, Tt.cl, Tt.ntop, rfl, (by show 2 ≤ sizeLine; decide), fun q0 hq0 => ?_⟩
    refine ⟨(by show 1 ≤ sizeLine; decide), fun pw hpw => ?_⟩
    have s2 := Same_upd s1 hq0 (o := .tup [.str "", t.val])
    have s3 := Same_upd s2 hpw (o := .lst [.ref q0])
    have hpw0 : H pw = none := s2.free hpw
    have nfq : pf ≠ q0 := ne_of_none (upd_same (H := H) (o := .lst [])) hq0
    have nfw : pf ≠ pw := ne_of_none ((upd_ne nfq).trans (upd_same (H := H) (o := .lst []))) hpw
    have nqw : q0 ≠ pw := ne_of_none upd_same hpw
    refine ⟨RowsW CK H a pf pw t, ⟨_, [], [([], t)], none, none, none, rfl, rfl, s3, ⟨[], (upd_ne nfw).trans ((upd_ne nfq).trans upd_same), rfl, fun i row h => (by simp at h)⟩, ⟨_, upd_same, rfl, fun i row h => ?_⟩, ?_, ?_, rfl⟩, ?_⟩
    · cases i with
      | zero =>
        cases h
        exact ⟨q0, rfl, by rw [upd_ne nqw, upd_same]; show _ = some (HO.tup [V.str (tx []), t.val]); rw [tx_nil]⟩
      | succ i => cases h
    · intro q hq
      rw [List.mem_singleton.mp hq]
      exact ⟨ht.ne, ht.ok, by have := ht.sz; show 0 + t.tr.size ≤ _; omega⟩
    · have := ht.sz; show t.tr.size + 0 ≤ _; omega
    rintro m σ H1 ⟨acc, W, v3, v4, v5, rfl, rfl, s4, hF, hW, hok, hN, hR⟩
    have lenW := waitN_len fun q hq => (hok q hq).1
    obtain ⟨vw, ew1, ew2, ew3⟩ := id hW
    refine ⟨_, rfl, (by show 0 ≤ sizeLine; decide), fun e he => ?_⟩
    have nwe : pw ≠ e := ne_of_none ew1 he
    have s5 : Same H1 (upd H1 e (.lst [])) := Same_upd (Same.refl H1) he
    refine ⟨pw, e, vw, rfl, rfl, s5 _ _ ew1, upd_same, _, rfl, ?_⟩
    have hF := hF.same s5
    have hW := hW.same s5
    have s4 := s4.trans s5
    generalize (upd H1 e (.lst [])) = H2 at hF hW s4 ⊢
    rcases List.eq_nil_or_concat W with rfl | ⟨M, ⟨p, u⟩, rfl⟩
    · have : vw = [] := by
        cases vw with
        | nil => rfl
        | cons => cases ew2
      rw [this]
      refine iteF ?_
      refine ⟨_, rfl, k H2 pf s4 hpf ?_⟩
      rw [show waitR [] = [] from rfl, List.append_nil] at hR
      rw [← hR]
      exact hF
    · rw [List.concat_eq_append] at *
      have hne : (!vw.isEmpty) = true := by
        cases vw with
        | nil => rw [waits, List.length_map, List.length_append] at ew2; simp at ew2
        | cons => rfl
      rw [hne]
      refine iteT ?_
      obtain ⟨un, uo, ul⟩ := hok (p, u) (by simp)
      have hokM : ∀ q ∈ M, q.2 ≠ .nil ∧ q.2.ok CK H ∧ q.1.length + q.2.tr.size ≤ 20000 := fun q hq => hok q (by simp [hq])
      cases u with
      | nil => exact (un rfl).elim
      | nd b db ka g l r =>
      obtain ⟨hb, hka, hl, hr'⟩ := uo
      have usz : (AT.nd b db ka g l r).tr.size = 1 + l.tr.size + r.tr.size := rfl
      rw [usz] at ul
      have ul : p.length + (1 + l.tr.size + r.tr.size) ≤ 20000 := ul
      have hNM : waitN M + (1 + l.tr.size + r.tr.size) ≤ 20000 := by
        rw [waitN_append] at hN
        have : waitN [(p, AT.nd b db ka g l r)] = 1 + l.tr.size + r.tr.size + 0 := rfl
        omega
      unfold waits at hW
      rw [List.map_append] at hW
      obtain ⟨vs, c, f1, f2, f3, f4⟩ := hW.last
      refine ⟨fun σ' H' => ∃ m', m' < _ ∧ RowsW CK H a pf pw t m' σ' H', fun _ _ h => h, ?_⟩
      have npw : pw ≠ pf := nfw.symm
      refine ⟨_, rfl, .inl ⟨rfl, _, SqL.of f1⟩, pw, _, V.ref c, rfl, rfl, f1, by simp, ?_⟩
      rw [List.dropLast_concat]
      have ncw : c ≠ pw := ne_of f2 f1 (by intro z; cases z)
      have s6 : Same H (upd H2 pw (.lst vs)) := Same_mut s4 hpw0
      have hM : LT (upd H2 pw (.lst vs)) pw (waits M) := ⟨vs, upd_same, by rw [f3]; rfl, fun i row e => by
        obtain ⟨c', g1, g2⟩ := f4 i row e
        exact ⟨c', g1, (upd_ne (ne_of g2 f1 (by intro z; cases z))).trans g2⟩⟩
      have hF : LT (upd H2 pw (.lst vs)) pf (acc.map rowR) := hF.modd (S := [pw]) (Mod.refl.upd (.inl (by simp)) fun xs z => by rw [f1] at z; cases z) (by simp [nfw])
      refine ⟨c, _, rfl, SqT.of ((upd_ne ncw).trans f2), rfl, _, _, rfl, _, _, rfl, rfl, ?_⟩
      generalize (upd H2 pw (.lst vs)) = H3 at s6 hM hF ⊢
      refine ⟨fun σ' H' => σ' = [some (.ref a), some (.ref pf), some (.ref pw), some (.str (tx p)), some (.ref b), v5] ∧ Same H H' ∧ LT H' pf ((acc ++ gR p g).map rowR) ∧ LT H' pw (waits M), ?_, ?_⟩
      · refine ⟨_, rfl, b, CK, db, _, _, rfl, s6 _ _ hb, Kk.cl, Kk.ngoal, rfl, rfl, _, rfl, ?_⟩
        rw [isSome_ov]
        cases g with
        | none => exact iteF ⟨rfl, s6, by show LT _ _ ((acc ++ []).map rowR); rw [List.append_nil]; exact hF, hM⟩
        | some x =>
          refine iteT ?_
          obtain ⟨va, a1, a2, a3⟩ := hF
          refine ⟨_, rfl, .inl ⟨rfl, _, SqL.of a1⟩, _, rfl, _, rfl, b, CK, db, _, _, rfl, s6 _ _ hb, Kk.cl, Kk.ngoal, rfl, (by show 2 ≤ sizeLine; decide), fun q hq => ?_⟩
          have nfq2 : pf ≠ q := ne_of_none a1 hq
          have hacc : acc.length ≤ 20000 := by
            have e := congrArg List.length hR
            rw [List.length_append, Tr.rows, Tr.len_rowsAt] at e
            have h1 := Tr.count_le t.tr
            have h2 := ht.sz
            omega
          refine ⟨pf, va, _, rfl, rfl, (upd_ne nfq2).trans a1, ?_, rfl, Same_mut (Same_upd s6 hq) hpf, ?_, ?_⟩
          · rw [a2, List.length_map]
            exact Nat.lt_of_le_of_lt hacc (by decide)
          · rw [List.map_append]
            refine LT.snoc (row := rowR (p, x)) ((upd_ne nfq2).trans a1) a2 (fun i row hi => ?_) upd_same
            obtain ⟨c', h4, h5⟩ := a3 i row hi
            exact ⟨c', h4, (upd_ne (ne_of_none h5 hq)).trans h5⟩
          · have hM' := hM.same (Same_upd (Same.refl H3) hq (o := .tup [.str (tx p), ov (some x)]))
            exact hM'.modd (S := [pf]) (Mod.refl.upd (.inl (by simp)) fun xs z => by rw [upd_ne nfq2, a1] at z; cases z) (by simp [npw])
      · rintro σ' H4 ⟨rfl, s7, hF4, hM4⟩
        refine ⟨(by show 2 ≤ sizeLine; decide), fun t2 ht2 => ?_⟩
        have s8 := Same_upd s7 ht2 (o := .tup [.int 1, .int 0])
        have s48 : Same H4 (upd H4 t2 (.tup [.int 1, .int 0])) := Same_upd (Same.refl H4) ht2
        have et2 : (upd H4 t2 (.tup [.int 1, .int 0])) t2 = some (.tup [.int 1, .int 0]) := upd_same
        have hF4 := hF4.same s48
        have hM4 := hM4.same s48
        refine ⟨t2, rfl, ⟨_, SqT.of upd_same⟩, ?_⟩
        generalize (upd H4 t2 (.tup [.int 1, .int 0])) = H5 at s8 et2 hF4 hM4 ⊢
        let F : Nat → List (List Bool × AT) := fun j => match j with
          | 0 => M
          | 1 => M ++ optW (p ++ [true]) r
          | _ => (M ++ optW (p ++ [true]) r) ++ optW (p ++ [false]) l
        have hFN : ∀ j, waitN (F j) ≤ waitN M + (l.tr.size + r.tr.size) := fun j => by
          match j with
          | 0 => show waitN M ≤ _; omega
          | 1 => show waitN (M ++ optW (p ++ [true]) r) ≤ _; rw [waitN_append, optW_N]; omega
          | j + 2 => show waitN ((M ++ optW (p ++ [true]) r) ++ optW (p ++ [false]) l) ≤ _; rw [waitN_append, waitN_append, optW_N, optW_N]; omega
        have hone : ∀ (y : Bool) (u : AT), u = AT.kid y l r → ∀ q ∈ optW (p ++ [y]) u, q.2 ≠ .nil ∧ q.2.ok CK H ∧ q.1.length + q.2.tr.size ≤ 20000 := fun y u e q hq => by
          obtain ⟨e1, e2⟩ := optW_mem hq
          rw [e1]
          refine ⟨e2, ?_, ?_⟩
          · rw [e]; exact AT.kid_ok hl hr'
          · show (p ++ [y]).length + u.tr.size ≤ 20000
            rw [List.length_append, List.length_singleton, e]
            cases y
            · show p.length + 1 + l.tr.size ≤ _; omega
            · show p.length + 1 + r.tr.size ≤ _; omega
        have hFok : ∀ j, ∀ q ∈ F j, q.2 ≠ .nil ∧ q.2.ok CK H ∧ q.1.length + q.2.tr.size ≤ 20000 := fun j q hq => by
          match j, hq with
          | 0, hq => exact hokM q hq
          | 1, hq =>
            rcases List.mem_append.mp hq with hq | hq
            · exact hokM q hq
            · exact hone true r rfl q hq
          | j + 2, hq =>
            rcases List.mem_append.mp hq with hq | hq
            · rcases List.mem_append.mp hq with hq | hq
              · exact hokM q hq
              · exact hone true r rfl q hq
            · exact hone false l rfl q hq
        refine for_it (walk_tup (K := K) (a := t2) (xs := [.int 1, .int 0])) (fun j σ H' => ∃ v5, σ = [some (.ref a), some (.ref pf), some (.ref pw), some (.str (tx p)), some (.ref b), v5] ∧ Same H H' ∧ H' t2 = some (.tup [.int 1, .int 0]) ∧ LT H' pf ((acc ++ gR p g).map rowR) ∧ LT H' pw (waits (F j)))
          ⟨_, rfl, s8, et2, hF4, hM4⟩ (fun j σ H' _ ⟨_, _, _, h, _⟩ => SqT.of h) ?_ ?_
        · rintro j x σ H6 H7 hj ⟨v5, rfl, s9, et, hF9, hW9⟩ ⟨rfl, hx⟩
          obtain ⟨y, ej, rfl⟩ : ∃ y : Bool, F (j + 1) = F j ++ optW (p ++ [y]) (AT.kid y l r) ∧ x = .int ((if y = true then 1 else 0 : Nat) : Int) := by
            match j, hx with
            | 0, hx => exact ⟨true, rfl, (Option.some.inj hx).symm⟩
            | 1, hx => exact ⟨false, rfl, (Option.some.inj hx).symm⟩
          refine ⟨_, rfl, b, CK, db, _, _, rfl, s9 _ _ hb, Kk.cl, Kk.nkids, rfl, _, rfl, ka, _, _, _, rfl, rfl, SqL.of (s9 _ _ hka), atI_nat (AT.kid_val y l r), rfl, _, rfl, ?_⟩
          rw [AT.val_tr]
          have hlen := waitN_len fun q hq => (hFok j q hq).1
          have hN := hFN j
          cases ek : AT.kid y l r with
          | nil =>
            rw [ek] at ej
            exact iteF ⟨_, rfl, s9, et, hF9, by rw [ej]; show LT _ _ (waits (F j ++ [])); rw [List.append_nil]; exact hW9⟩
          | nd b2 db2 ka2 g2 l2 r2 =>
            rw [ek] at ej
            refine iteT ?_
            obtain ⟨vw, w1, w2, w3⟩ := hW9
            refine ⟨_, rfl, .inl ⟨rfl, _, SqL.of w1⟩, _, rfl, _, rfl, _, _, bc y, rfl, rfl, (by rw [tx_len]; decide), ?_, _, _, rfl, rfl, ?_, ?_⟩
            · rw [tx_cps]
              refine atI_nat ?_
              cases y <;> rfl
            · rw [tx_len]
              exact Nat.le_trans (m := 30000) (Nat.add_le_add (by omega : p.length ≤ 29999) (Nat.le_refl 1)) (by decide)
            · rw [tx_one, tx_append]
              refine ⟨_, rfl, b, CK, db, _, _, rfl, s9 _ _ hb, Kk.cl, Kk.nkids, rfl, _, rfl, ka, _, _, _, rfl, rfl, SqL.of (s9 _ _ hka), atI_nat (AT.kid_val y l r), (by show 2 ≤ sizeLine; decide), fun q hq => ?_⟩
              have nwq : pw ≠ q := ne_of_none w1 hq
              rw [ek]
              refine ⟨pw, vw, _, rfl, rfl, (upd_ne nwq).trans w1, ?_, _, rfl, Same_mut (Same_upd s9 hq) hpw0, ?_, ?_, ?_⟩
              · rw [w2, waits, List.length_map]
                exact Nat.lt_of_le_of_lt (by omega : (F j).length ≤ 20000) (by decide)
              · have sq : Same H7 (upd H7 q (.tup [.str (tx (p ++ [y])), .ref b2])) := Same_upd (Same.refl H7) hq
                show (upd (upd H7 q (.tup [.str (tx (p ++ [y])), .ref b2])) pw (.lst (vw ++ [.ref q]))) t2 = _
                rw [upd_ne (ne_of (sq _ _ et) (sq _ _ w1) (by intro z; cases z))]
                exact sq _ _ et
              · have h1 := hF9.same (Same_upd (Same.refl H7) hq (o := .tup [.str (tx (p ++ [y])), .ref b2]))
                exact h1.modd (S := [pw]) (Mod.refl.upd (.inl (by simp)) fun xs z => by rw [upd_ne nwq, w1] at z; cases z) (by simp [nfw])
              · rw [ej]
                unfold waits
                rw [List.map_append]
                refine LT.snoc (row := [.str (tx (p ++ [y])), .ref b2]) ((upd_ne nwq).trans w1) w2 (fun i row hi => ?_) upd_same
                obtain ⟨c', h4, h5⟩ := w3 i row hi
                exact ⟨c', h4, (upd_ne (ne_of_none h5 hq)).trans h5⟩
        · rintro σ H6 ⟨v5, rfl, s9, et, hF9, hW9⟩
          refine ⟨waitN (F 2), ?_, _, F 2, _, _, _, rfl, rfl, s9, hF9, hW9, hFok 2, ?_, ?_⟩
          · have := hFN 2
            rw [waitN_append]
            show _ < waitN M + (1 + l.tr.size + r.tr.size + 0)
            omega
          · have := hFN 2
            omega
          · rw [← hR, waitR_append]
            show (acc ++ _) ++ waitR ((M ++ optW (p ++ [true]) r) ++ optW (p ++ [false]) l) = acc ++ (([] ++ (AT.nd b db ka g l r).tr.rowsAt p) ++ waitR M)
            rw [waitR_append, waitR_append, optW_R, optW_R, List.nil_append]
            rw [show (AT.nd b db ka g l r).tr = .nd g l.tr r.tr from rfl, rowsAt_nd]
            simp only [List.append_assoc]
end
end Br

/-! Borders of spans: between two that are neighbours all words go one road. -/
namespace Br
open PySem PySem.Spec PyProof.Rows L2
def lo0 (s : List Bool) (v : Nat) : Nat := num s * 2 ^ (v - s.length)
def be0 (s : List Bool) (v : Nat) : Nat := num s * 2 ^ (v - s.length) + 2 ^ (v - s.length)
theorem lo_be (s : List Bool) (v : Nat) : lo0 s v < be0 s v := by unfold lo0 be0; have := pow_pos2 (v - s.length); omega
theorem be_le {s : List Bool} {v : Nat} (h : s.length ≤ v) : be0 s v ≤ 2 ^ v := by
  have h1 := num_lt s
  have h2 : 2 ^ v = 2 ^ s.length * 2 ^ (v - s.length) := by rw [← Nat.pow_add]; congr 1; omega
  have h3 : (num s + 1) * 2 ^ (v - s.length) ≤ 2 ^ s.length * 2 ^ (v - s.length) := Nat.mul_le_mul_right _ h1
  rw [Nat.add_mul, Nat.one_mul] at h3
  unfold be0
  omega
theorem isPre_iff {s : List Bool} {v n : Nat} (hs : s.length ≤ v) (hn : n < 2 ^ v) : isPre s (word n v) = true ↔ lo0 s v ≤ n ∧ n < be0 s v := by
  constructor
  · intro h
    have h := of_decide_eq_true h
    have e : word n v = s ++ (word n v).drop s.length := by
      have := List.take_append_drop s.length (word n v)
      rw [h] at this
      exact this.symm
    have e2 := congrArg num e
    rw [num_word, Nat.mod_eq_of_lt hn, num_append, List.length_drop, word_len] at e2
    have h3 := num_lt ((word n v).drop s.length)
    rw [List.length_drop, word_len] at h3
    unfold lo0 be0
    omega
  · intro ⟨h1, h2⟩
    rw [word_split hs h1 h2]
    refine decide_eq_true ?_
    exact List.take_left
theorem best_congr {w w' : List Bool} : ∀ (L : List (List Bool)) (b : Option (List Bool)), (∀ s ∈ L, isPre s w = isPre s w') → L.foldl (best1 w) b = L.foldl (best1 w') b
  | [], _, _ => rfl
  | s :: L, b, h => by
    show L.foldl (best1 w) (best1 w b s) = L.foldl (best1 w') (best1 w' b s)
    have e : best1 w b s = best1 w' b s := by unfold best1; rw [h s List.mem_cons_self]
    rw [e]
    exact best_congr L _ fun u hu => h u (List.mem_cons_of_mem _ hu)
theorem roadOf_congr {rows : RowL} {w w' : List Bool} (h : ∀ r ∈ rows, isPre r.1 w = isPre r.1 w') : roadOf rows w = roadOf rows w' := by
  unfold roadOf
  have e : bestOf w (rows.map (·.1)) = bestOf w' (rows.map (·.1)) := best_congr _ none fun s hs => by
    obtain ⟨r, hr, rfl⟩ := List.mem_map.mp hs
    exact h r hr
  rw [e]
structure BordersOk (keys : List (List Bool)) (s : List Bool) (v : Nat) (B : List Nat) : Prop where
  rising : B.Pairwise (· < ·)
  mem : ∀ x, x ∈ B ↔ x = lo0 s v ∨ x = be0 s v ∨ ∃ k ∈ keys, (x = lo0 k v ∨ x = be0 k v) ∧ lo0 s v < x ∧ x < be0 s v
namespace BordersOk
variable {keys : List (List Bool)} {s : List Bool} {v : Nat} {B : List Nat}
theorem lt_of (h : BordersOk keys s v B) {i j a b : Nat} (hij : i < j) (ha : B[i]? = some a) (hb : B[j]? = some b) : a < b := by
  obtain ⟨h1, rfl⟩ := List.getElem?_eq_some_iff.mp ha
  obtain ⟨h2, rfl⟩ := List.getElem?_eq_some_iff.mp hb
  exact List.pairwise_iff_getElem.mp h.rising i j h1 h2 hij
theorem range (h : BordersOk keys s v B) {x : Nat} (hx : x ∈ B) : lo0 s v ≤ x ∧ x ≤ be0 s v := by
  have := lo_be s v
  rcases (h.mem x).mp hx with rfl | rfl | ⟨k, _, _, h1, h2⟩ <;> omega
theorem head (h : BordersOk keys s v B) : B[0]? = some (lo0 s v) := by
  have h1 : lo0 s v ∈ B := (h.mem _).mpr (.inl rfl)
  obtain ⟨i, hi⟩ := List.getElem?_of_mem h1
  cases i with
  | zero => exact hi
  | succ i =>
    have hl : 0 < B.length := by have := (List.getElem?_eq_some_iff.mp hi).1; omega
    have h0 : B[0]? = some B[0] := List.getElem?_eq_getElem hl
    have := h.lt_of (Nat.succ_pos i) h0 hi
    have := (h.range (List.mem_of_getElem? h0)).1
    omega
theorem last (h : BordersOk keys s v B) : B[B.length - 1]? = some (be0 s v) := by
  have h1 : be0 s v ∈ B := (h.mem _).mpr (.inr (.inl rfl))
  obtain ⟨i, hi⟩ := List.getElem?_of_mem h1
  have hl := (List.getElem?_eq_some_iff.mp hi).1
  by_cases e : i = B.length - 1
  · rw [← e]; exact hi
  · have h0 : B[B.length - 1]? = some B[B.length - 1] := List.getElem?_eq_getElem (by omega)
    have := h.lt_of (show i < B.length - 1 by omega) hi h0
    have := (h.range (List.mem_of_getElem? h0)).2
    omega
theorem two (h : BordersOk keys s v B) : 2 ≤ B.length := by
  have h1 := h.head
  have h2 := h.last
  have h3 := (List.getElem?_eq_some_iff.mp h1).1
  refine Nat.lt_of_not_le fun hn => ?_
  have : B.length - 1 = 0 := by omega
  rw [this, h1] at h2
  have := lo_be s v
  injection h2
  omega
/-- no border between two neighbours -/
theorem gap (h : BordersOk keys s v B) {j a b x : Nat} (ha : B[j]? = some a) (hb : B[j + 1]? = some b) (hx : x ∈ B) : x ≤ a ∨ b ≤ x := by
  obtain ⟨i, hi⟩ := List.getElem?_of_mem hx
  rcases Nat.lt_trichotomy i j with c | c | c
  · exact .inl (Nat.le_of_lt (h.lt_of c hi ha))
  · subst c; rw [ha] at hi; cases hi; exact .inl (Nat.le_refl _)
  · by_cases e : i = j + 1
    · subst e; rw [hb] at hi; cases hi; exact .inr (Nat.le_refl _)
    · exact .inr (Nat.le_of_lt (h.lt_of (show j + 1 < i by omega) hb hi))
theorem pre_eq (h : BordersOk keys s v B) (hs : s.length ≤ v) {j a b n : Nat} (ha : B[j]? = some a) (hb : B[j + 1]? = some b) (h1 : a ≤ n) (h2 : n < b) {k : List Bool} (hk : k ∈ keys) (hkl : k.length ≤ v) : isPre k (word n v) = isPre k (word a v) := by
  have ra := h.range (List.mem_of_getElem? ha)
  have rb := h.range (List.mem_of_getElem? hb)
  have hlt := h.lt_of (Nat.lt_succ_self j) ha hb
  have hbe := be_le hs
  have g1 : ∀ x, (x = lo0 k v ∨ x = be0 k v) → a < x → x ≤ n → False := fun x hx h3 h4 => by
    have hm : x ∈ B := (h.mem x).mpr (.inr (.inr ⟨k, hk, hx, by omega, by omega⟩))
    rcases h.gap ha hb hm with z | z <;> omega
  have e1 := isPre_iff (n := n) hkl (by omega)
  have e2 := isPre_iff (n := a) hkl (by omega)
  have iff : isPre k (word n v) = true ↔ isPre k (word a v) = true := by
    rw [e1, e2]
    constructor
    · intro ⟨h3, h4⟩
      refine ⟨Nat.le_of_not_lt fun z => g1 _ (.inl rfl) z h3, by omega⟩
    · intro ⟨h3, h4⟩
      refine ⟨by omega, Nat.lt_of_not_le fun z => g1 _ (.inr rfl) (by omega) z⟩
  cases e : isPre k (word a v) with
  | true => exact iff.mpr e
  | false =>
    cases e' : isPre k (word n v) with
    | false => rfl
    | true => rw [iff.mp e'] at e; cases e
theorem road_eq (h : BordersOk keys s v B) (hs : s.length ≤ v) {rows : RowL} (hr : ∀ r ∈ rows, r.1 ∈ keys ∧ r.1.length ≤ v) {j a b n : Nat} (ha : B[j]? = some a) (hb : B[j + 1]? = some b) (h1 : a ≤ n) (h2 : n < b) : roadOf rows (word n v) = roadOf rows (word a v) :=
  roadOf_congr fun r hm => h.pre_eq hs ha hb h1 h2 (hr r hm).1 (hr r hm).2
end BordersOk
end Br

/-! Differences told from the left: one span more. -/
namespace Br
/-- alike on what comes -/
theorem DTl.eqv {f g : Nat → Option Nat} {p l : Nat} (he : ∀ n, p ≤ n → n ≤ l → f n = g n) (hl : p ≤ l) : ∀ {D : List Df4} {a : Nat}, DTl f g p a D → DTl f g (l + 1) a D
  | [], a, h => fun n n1 n2 => by
    by_cases hn : n < p
    · exact h n n1 hn
    · exact he n (by omega) (by omega)
  | (x, y, u, w) :: D, a, h => by
    obtain ⟨h1, h2, h3, h4, h5, h6, h7, h8⟩ := h
    refine ⟨h1, h2, by omega, h4, h5, h6, fun _ hc => ?_, h8.eqv he hl⟩
    by_cases hy : y + 1 < p
    · exact h7 hy hc
    · have e := he (y + 1) (by omega) (by omega)
      rw [hc.1, hc.2] at e
      exact h4 e
theorem DTl.none_behind {f g : Nat → Option Nat} {p : Nat} : ∀ {D : List Df4}, DTl f g p p D → D = []
  | [], _ => rfl
  | (x, y, u, w) :: D, h => by obtain ⟨h1, h2, h3, _⟩ := h; omega
/-- the last difference goes on -/
theorem DTl.grow {f g : Nat → Option Nat} {p l u w : Nat} {x y : Option Nat} (hw : w + 1 = p) (hl : p ≤ l) (hf : ∀ n, p ≤ n → n ≤ l → f n = x ∧ g n = y) :
    ∀ {M : List Df4} {a : Nat}, DTl f g p a (M ++ [(u, w, x, y)]) → DTl f g (l + 1) a (M ++ [(u, l, x, y)])
  | [], a, h => by
    obtain ⟨h1, h2, h3, h4, h5, h6, h7, h8⟩ := h
    refine ⟨h1, by omega, by omega, h4, h5, fun n n1 n2 => ?_, fun z => by omega, fun n n1 n2 => by omega⟩
    by_cases hn : n ≤ w
    · exact h6 n n1 hn
    · exact hf n (by omega) n2
  | (x', y', u', w') :: M, a, h => by
    obtain ⟨h1, h2, h3, h4, h5, h6, h7, h8⟩ := h
    refine ⟨h1, h2, by omega, h4, h5, h6, fun _ hc => ?_, DTl.grow hw hl hf h8⟩
    by_cases hy : y' + 1 < p
    · exact h7 hy hc
    · have e : y' + 1 = p := by omega
      have h8 : DTl f g p (y' + 1) (M ++ [(u, w, x, y)]) := h8
      rw [e] at h8
      have := h8.none_behind
      simp at this
/-- a new difference -/
theorem DTl.more {f g : Nat → Option Nat} {p l : Nat} {x y : Option Nat} (hl : p ≤ l) (hne : x ≠ y) (hf : ∀ n, p ≤ n → n ≤ l → f n = x ∧ g n = y) :
    ∀ {D : List Df4} {a : Nat}, a ≤ p → (∀ M u w, D = M ++ [(u, w, x, y)] → w + 1 ≠ p) → DTl f g p a D → DTl f g (l + 1) a (D ++ [(p, l, x, y)])
  | [], a, ha, _, h => ⟨ha, hl, by omega, hne, h, hf, fun z => by omega, fun n n1 n2 => by omega⟩
  | (x', y', u', w') :: D, a, ha, hn, h => by
    obtain ⟨h1, h2, h3, h4, h5, h6, h7, h8⟩ := h
    refine ⟨h1, h2, by omega, h4, h5, h6, fun _ hc => ?_, DTl.more hl hne hf (by omega) (fun M u w e => hn ((x', y', u', w') :: M) u w (by rw [e]; rfl)) h8⟩
    by_cases hy : y' + 1 < p
    · exact h7 hy hc
    · have e : y' + 1 = p := by omega
      rw [e] at h8 hc
      have hD := h8.none_behind
      have h9 := hf p (Nat.le_refl _) hl
      rw [h9.1, h9.2] at hc
      obtain ⟨e1, e2⟩ := hc
      subst e1 e2
      exact hn [] x' y' (by rw [hD]; rfl) e
theorem DTl.len {f g : Nat → Option Nat} {b : Nat} : ∀ {D : List Df4} {a : Nat}, DTl f g b a D → a ≤ b → D.length ≤ b - a
  | [], _, _, _ => Nat.zero_le _
  | (x, y, u, w) :: D, a, h, ha => by
    obtain ⟨h1, h2, h3, h4, h5, h6, h7, h8⟩ := h
    have := h8.len (by omega)
    rw [List.length_cons]
    omega
end Br

/-! Rows that a table told, as dicts and lists; trees told by their rows. -/
namespace Br
open PySem PySem.Spec PyProof.Rows L2
namespace Tr
theorem rows_nd (t : Tr) : (t.rows.map (·.1)).Nodup := (Tr.sorted_rowsAt t []).imp fun {a b} h e => by
  subst e
  exact Tr.lt_irrefl a h
theorem rows_sorted (t : Tr) : (t.rows.map (·.1)).Pairwise lt := Tr.sorted_rowsAt t []
theorem pair_unique : ∀ {l m : List (List Bool × Nat)}, (l.map (·.1)).Pairwise lt → (m.map (·.1)).Pairwise lt → (∀ p, p ∈ l ↔ p ∈ m) → l = m
  | [], [], _, _, _ => rfl
  | [], b :: m, _, _, h => by have := (h b).mpr List.mem_cons_self; cases this
  | a :: l, [], _, _, h => by have := (h a).mp List.mem_cons_self; cases this
  | a :: l, b :: m, h1, h2, h => by
    rw [List.map_cons] at h1 h2
    obtain ⟨p1, q1⟩ := List.pairwise_cons.mp h1
    obtain ⟨p2, q2⟩ := List.pairwise_cons.mp h2
    have e : a = b := by
      rcases List.mem_cons.mp ((h a).mp List.mem_cons_self) with e | e
      · exact e
      · rcases List.mem_cons.mp ((h b).mpr List.mem_cons_self) with e' | e'
        · exact e'.symm
        · exact (lt_irrefl _ (lt_trans (p1 _ (List.mem_map.mpr ⟨b, e', rfl⟩)) (p2 _ (List.mem_map.mpr ⟨a, e, rfl⟩)))).elim
    subst e
    congr 1
    refine pair_unique q1 q2 fun s => ?_
    constructor
    · intro hs
      rcases List.mem_cons.mp ((h s).mp (List.mem_cons_of_mem _ hs)) with e | e
      · subst e; exact (lt_irrefl _ (p1 _ (List.mem_map.mpr ⟨s, hs, rfl⟩))).elim
      · exact e
    · intro hs
      rcases List.mem_cons.mp ((h s).mpr (List.mem_cons_of_mem _ hs)) with e | e
      · subst e; exact (lt_irrefl _ (p2 _ (List.mem_map.mpr ⟨s, hs, rfl⟩))).elim
      · exact e
theorem rows_of_get {t u : Tr} (h : ∀ s, t.get s = u.get s) : t.rows = u.rows :=
  pair_unique (rows_sorted t) (rows_sorted u) fun ⟨s, x⟩ => by rw [mem_rows, mem_rows, h]
theorem count_of_get {t u : Tr} (h : ∀ s, t.get s = u.get s) : t.count = u.count := by
  rw [← len_rowsAt t [], ← len_rowsAt u []]
  exact congrArg List.length (rows_of_get h)
theorem road_of_get {t u : Tr} (h : ∀ s, t.get s = u.get s) (x : Option Nat) (w : List Bool) : t.road x w = u.road x w := by
  rw [road_lng, road_lng, show t.get = u.get from funext h]
/-- trees without bare knots are told by their rows -/
theorem full_nil : ∀ {t : Tr}, t.full → (∀ s, t.get s = none) → t = nil
  | nil, _, _ => rfl
  | nd g l r, h, k => by
    obtain ⟨h1, h2, h3⟩ := h
    have e1 := full_nil h2 fun s => k (false :: s)
    have e2 := full_nil h3 fun s => k (true :: s)
    have e3 : g = none := k []
    subst e1 e2 e3
    cases h1
theorem full_unique : ∀ {t u : Tr}, t.full → u.full → (∀ s, t.get s = u.get s) → t = u
  | nil, u, _, h, k => (full_nil h fun s => by rw [← k, get_nil]).symm
  | nd g l r, nil, h, _, k => full_nil h fun s => by rw [k, get_nil]
  | nd g l r, nd g' l' r', h, h', k => by
    have e1 := full_unique h.2.1 h'.2.1 fun s => k (false :: s)
    have e2 := full_unique h.2.2 h'.2.2 fun s => k (true :: s)
    have e3 : g = g' := k []
    rw [e1, e2, e3]
theorem neat_unique {t u : Tr} (h : t.neat) (h' : u.neat) (k : ∀ s, t.get s = u.get s) : t = u := by
  cases t with
  | nil => exact h.elim
  | nd g l r => cases u with
    | nil => exact h'.elim
    | nd g' l' r' =>
      have e1 := full_unique h.1 h'.1 fun s => k (false :: s)
      have e2 := full_unique h.2 h'.2 fun s => k (true :: s)
      have e3 : g = g' := k []
      rw [e1, e2, e3]
end Tr
/-- a tree's own rows -/
theorem Agr.ofRows (t : Tr) : Agr t.rows t := by
  refine ⟨t.rows_nd, fun s => ?_, Tr.len_rowsAt t []⟩
  cases e : t.get s with
  | none =>
    refine rget_none.mpr fun h => ?_
    obtain ⟨⟨u, x⟩, h1, rfl⟩ := List.mem_map.mp h
    rw [Tr.mem_rows] at h1
    rw [e] at h1
    cases h1
  | some x =>
    have hm := (Tr.mem_rows t s x).mpr e
    have nd := t.rows_nd
    revert hm nd
    generalize t.rows = L
    intro hm nd
    induction L with
    | nil => cases hm
    | cons r L ih =>
      rw [rget_cons]
      rw [List.map_cons] at nd
      obtain ⟨n1, n2⟩ := List.nodup_cons.mp nd
      rcases List.mem_cons.mp hm with rfl | hm
      · rw [if_pos rfl]
      · rw [if_neg (fun (z : r.1 = s) => n1 (by show r.1 ∈ _; rw [z]; exact List.mem_map.mpr ⟨(s, x), hm, rfl⟩))]
        exact ih hm n2
/-- rows that tell the same, in another order -/
theorem RK_same {r1 r2 : RowL} (nd : (r1.map (·.1)).Nodup) (h : ∀ s, rget r1 s = rget r2 s) : ∀ p ∈ RK r1, valV (RK r2) p.1 = some p.2 ∧ flatB p.2 = true := by
  intro p hp
  obtain ⟨⟨s, x⟩, hr, rfl⟩ := List.mem_map.mp hp
  refine ⟨?_, rfl⟩
  show valV (RK r2) (.inr (tx s)) = some (.int (x : Int))
  have e : rget r1 s = some x := by
    clear h hp
    induction r1 with
    | nil => cases hr
    | cons r L ih =>
      rw [rget_cons]
      rw [List.map_cons] at nd
      obtain ⟨n1, n2⟩ := List.nodup_cons.mp nd
      rcases List.mem_cons.mp hr with rfl | hm
      · rw [if_pos rfl]
      · rw [if_neg (fun (z : r.1 = s) => n1 (by show r.1 ∈ _; rw [z]; exact List.mem_map.mpr ⟨(s, x), hm, rfl⟩))]
        exact ih n2 hm
  rw [RK_get, ← h, e]
  rfl
theorem Agr.same {r1 r2 : RowL} {t : Tr} (h1 : Agr r1 t) (h2 : Agr r2 t) : (RK r1).length = (RK r2).length ∧ ∀ p ∈ RK r1, valV (RK r2) p.1 = some p.2 ∧ flatB p.2 = true :=
  ⟨by rw [RK_len, RK_len, h1.len, h2.len], RK_same h1.nd fun s => by rw [h1.get, h2.get]⟩
/-! dict(..) of rows -/
theorem merge_rows (b : RowL) : ∀ a : RowL, mergeK (RK a) (RK b) = RK (b.foldl (fun acc r => rput acc r.1 r.2) a) := by
  induction b with
  | nil => intro a; rfl
  | cons r b ih =>
    intro a
    show mergeK (putK (RK a) (.inr (tx r.1)) (.int (r.2 : Int))) (RK b) = _
    rw [RK_put, ih]
    rfl
theorem fold_new (b : RowL) : ∀ a : RowL, ((a ++ b).map (·.1)).Nodup → b.foldl (fun acc r => rput acc r.1 r.2) a = a ++ b := by
  induction b with
  | nil => intro a _; exact (List.append_nil a).symm
  | cons r b ih =>
    intro a nd
    have e : rput a r.1 r.2 = a ++ [r] := by
      have h : rget a r.1 = none := rget_none.mpr fun hm => by
        rw [List.map_append, List.map_cons] at nd
        exact (List.nodup_append.mp nd).2.2 _ hm _ List.mem_cons_self rfl
      unfold rput
      rw [rany, h]
      rfl
    rw [List.foldl_cons, e, ih (a ++ [r]) (by rw [List.append_assoc]; exact nd), List.append_assoc]
    rfl
theorem merge_nd {b : RowL} (nd : (b.map (·.1)).Nodup) : mergeK [] (RK b) = RK b := by
  have := merge_rows b []
  rw [fold_new b [] nd] at this
  exact this
/-- a list of tuples (start, road) as pairs -/
theorem LT.pairs0 {H : Hp} {p : Addr} {rows : RowL} (h : LT H p (rows.map rowR)) : ∃ ps : List Addr, H p = some (.lst (ps.map V.ref)) ∧ Paired (fun p kv => H p = some (.tup [kV kv.1, kv.2])) ps (RK rows) := by
  obtain ⟨vs, h1, h2, h3⟩ := h
  rw [List.length_map] at h2
  have : ∀ (rows : RowL) (vs : List V), vs.length = rows.length → (∀ (i : Nat) (row : List V), (rows.map rowR)[i]? = some row → ∃ a, vs[i]? = some (V.ref a) ∧ H a = some (.tup row)) →
      ∃ ps : List Addr, vs = ps.map V.ref ∧ Paired (fun p kv => H p = some (.tup [kV kv.1, kv.2])) ps (RK rows) := by
    intro rows
    induction rows with
    | nil => intro vs h _; cases vs with
      | nil => exact ⟨[], rfl, .nil⟩
      | cons v vs => cases h
    | cons r rows ih => intro vs h k; cases vs with
      | nil => cases h
      | cons v vs =>
        obtain ⟨a, e1, e2⟩ := k 0 _ rfl
        obtain ⟨ps, e3, e4⟩ := ih vs (by simpa using h) fun i row e => by
          obtain ⟨a, f1, f2⟩ := k (i + 1) row (by simpa using e)
          exact ⟨a, by simpa using f1, f2⟩
        have e1 : v = V.ref a := by simpa using e1
        exact ⟨a :: ps, by rw [e1, e3]; rfl, .cons e2 e4⟩
  obtain ⟨ps, e1, e2⟩ := this rows vs h2 h3
  exact ⟨ps, by rw [h1, e1], e2⟩
theorem pmap {α β : Type} {F G : α → β → Prop} (h : ∀ a b, F a b → G a b) : ∀ {l : List α} {m : List β}, Paired F l m → Paired G l m
  | _, _, .nil => .nil
  | _, _, .cons x t => .cons (h _ _ x) (pmap h t)
theorem plen {α β : Type} {F : α → β → Prop} : ∀ {l : List α} {m : List β}, Paired F l m → l.length = m.length
  | _, _, .nil => rfl
  | _, _, .cons _ t => congrArg Nat.succ (plen t)
theorem LT.pairs {K : PySem.W.Frag} {H : Hp} {p : Addr} {rows : RowL} (h : LT H p (rows.map rowR)) : ∃ ps : List Addr, H p = some (.lst (ps.map V.ref)) ∧ Paired (fun p kv => SqT K H p [kV kv.1, kv.2]) ps (RK rows) := by
  obtain ⟨ps, h1, h2⟩ := h.pairs0
  exact ⟨ps, h1, pmap (fun _ _ e => SqT.of e) h2⟩
theorem flatR {L : RowL} : ∀ row ∈ L.map rowR, row.all flat = true := fun row h => by
  obtain ⟨⟨s, x⟩, _, rfl⟩ := List.mem_map.mp h
  show (flat (.str (tx s)) && (flat (.int (x : Int)) && true)) = true
  rw [flat_tx]
  rfl
/-! a comprehension's own names, forgotten -/
theorem wipe_get (σ : L2.St) : ∀ (vs : List Nat) (j : Nat), (wipe σ vs)[j]? = if j ∈ vs then (σ[j]?).map fun _ => none else σ[j]?
  | [], j => by simp [wipe]
  | v :: vs, j => by
    show ((wipe σ vs).set v none)[j]? = _
    by_cases e : v = j
    · subst e
      rw [if_pos List.mem_cons_self, List.getElem?_set_self', wipe_get σ vs v]
      split <;> cases σ[v]? <;> rfl
    · rw [List.getElem?_set_ne e, wipe_get σ vs j]
      have : (j ∈ v :: vs) ↔ j ∈ vs := by simp [Ne.symm e]
      simp only [this]
theorem wipe_set {σ : L2.St} {i : Nat} {x : Option V} {vs : List Nat} (h : i ∈ vs) : wipe (σ.set i x) vs = wipe σ vs := by
  refine List.ext_getElem? fun j => ?_
  rw [wipe_get, wipe_get]
  by_cases e : i = j
  · subst e
    rw [if_pos h, if_pos h, List.getElem?_set_self']
    cases σ[i]? <;> rfl
  · rw [List.getElem?_set_ne e]
theorem wipe_wipe {σ : L2.St} {vs : List Nat} : wipe (wipe σ vs) vs = wipe σ vs := by
  refine List.ext_getElem? fun j => ?_
  rw [wipe_get, wipe_get]
  by_cases h : j ∈ vs
  · rw [if_pos h, if_pos h]
    cases σ[j]? <;> rfl
  · rw [if_neg h]
theorem wipe2 {σ : L2.St} {i j : Nat} {x y : Option V} {vs : List Nat} (h1 : i ∈ vs) (h2 : j ∈ vs) : wipe (((wipe σ vs).set i x).set j y) vs = wipe σ vs := by
  rw [wipe_set h2, wipe_set h1, wipe_wipe]
theorem wipe4 {σ : L2.St} {i j k l : Nat} {x y z u : Option V} {vs : List Nat} (h1 : i ∈ vs) (h2 : j ∈ vs) (h3 : k ∈ vs) (h4 : l ∈ vs) : wipe (((((wipe σ vs).set i x).set j y).set k z).set l u) vs = wipe σ vs := by
  rw [wipe_set h4, wipe_set h3, wipe_set h2, wipe_set h1, wipe_wipe]
theorem unitsR {k : Nat} {A : Around} (r : Room k A) : A.units < cLine := by have := r.un; omega
theorem call_dictPK {X : Cx} (K : PySem.W.Frag) (hc : X.calm = true) (hK : X.K = K := by rfl) : CallR X (.type "dict") (fun xs H Q => ∃ (a : Addr) (ps : List Addr) (kvs : List (Key × V)), xs = [.ref a] ∧ SqL K H a (ps.map V.ref) ∧ Paired (fun p kv => SqT K H p [kV kv.1, kv.2]) ps kvs ∧
    ∀ p, H p = none → Q (.ref p) (upd H p (.dK (mergeK [] kvs)))) := by
  subst hK
  exact call_dictP hc
theorem cut_ints (ns : List Int) (lo hi : Option Int) : ∃ ns' : List Int, cutV (ns.map V.int) lo hi = ns'.map V.int ∧ ns'.length ≤ ns.length := by
  refine ⟨(ns.drop (HT.sIx ns.length 0 lo)).take (HT.sIx ns.length ns.length hi - HT.sIx ns.length 0 lo), ?_, ?_⟩
  · unfold cutV
    rw [List.length_map, List.map_take, List.map_drop]
  · rw [List.length_take, List.length_drop]
    omega
theorem cut_ints2 (ns : List Int) (a b : Nat) : ∃ ns' : List Int, cutV (ns.map V.int) (some (a : Int)) (some (b : Int)) = ns'.map V.int ∧ ns'.length ≤ b - a ∧ ns'.length ≤ ns.length := by
  refine ⟨(ns.drop (min a ns.length)).take (min b ns.length - min a ns.length), ?_, ?_, ?_⟩
  · unfold cutV
    rw [List.length_map, HT.sIx_nat, HT.sIx_nat, List.map_take, List.map_drop]
  · rw [List.length_take, List.length_drop]
    omega
  · rw [List.length_take, List.length_drop]
    omega
theorem DTl.swap {f g : Nat → Option Nat} {b : Nat} : ∀ {D : List Df4} {a : Nat}, DTl f g b a D → DTl g f b a (D.map fun d => (d.1, d.2.1, d.2.2.2, d.2.2.1))
  | [], _, h => fun n n1 n2 => (h n n1 n2).symm
  | (x, y, p, q) :: D, a, h => by
    obtain ⟨h1, h2, h3, h4, h5, h6, h7, h8⟩ := h
    exact ⟨h1, h2, h3, fun e => h4 e.symm, fun n n1 n2 => (h5 n n1 n2).symm, fun n n1 n2 => ⟨(h6 n n1 n2).2, (h6 n n1 n2).1⟩, fun z hc => h7 z ⟨hc.2, hc.1⟩, h8.swap⟩
theorem rget_mem {rows : RowL} {s : List Bool} {x : Nat} (h : rget rows s = some x) : (s, x) ∈ rows := by
  induction rows with
  | nil => cases h
  | cons r rows ih =>
    rw [rget_cons] at h
    split at h
    · rename_i e
      cases h
      rw [← e]
      exact List.mem_cons_self
    · exact List.mem_cons_of_mem _ (ih h)
theorem Agr.get_eq {r : RowL} {t u : Tr} (h : Agr r t) (k : Agr r u) (s : List Bool) : t.get s = u.get s := by rw [← h.get, k.get]
theorem Tr.get_deep : ∀ {s : List Bool} {t : Tr} {n : Nat} {x : Nat}, t.deep n → t.get s = some x → s.length ≤ n
  | [], _, _, _, _, _ => Nat.zero_le _
  | b :: s, .nil, n, x, _, h => by rw [Tr.get_nil] at h; cases h
  | b :: s, .nd g l r, 0, x, h, k => by
    obtain ⟨e1, e2⟩ := h
    subst e1 e2
    cases b
    · have k : Tr.nil.get s = some x := k
      rw [Tr.get_nil] at k; cases k
    · have k : Tr.nil.get s = some x := k
      rw [Tr.get_nil] at k; cases k
  | b :: s, .nd g l r, n + 1, x, h, k => by
    cases b
    · exact Nat.succ_le_succ (Tr.get_deep (s := s) h.1 k)
    · exact Nat.succ_le_succ (Tr.get_deep (s := s) h.2 k)
theorem Tr.rows_len {t : Tr} {n : Nat} (h : t.deep n) : ∀ r ∈ t.rows, r.1.length ≤ n := fun r hr => Tr.get_deep h ((Tr.mem_rows t r.1 r.2).mp hr)
/-- no difference where all roads are alike -/
theorem DTl.nil_of {f g : Nat → Option Nat} {a b : Nat} {D : List Df4} (h : ∀ n, a ≤ n → n < b → f n = g n) (k : DTl f g b a D) : D = [] := k.unique (E := []) h
end Br

/-! a table's text by the law -/
namespace Br
open PySem PySem.Spec PyProof.Rows L2
open C8 (Cal Met Mak cal0 met0 mak0 pe_c pe_mk pe_mt pe_mt0 pe_gc Def)
section
variable {P : Program} {w : World} {K : PySem.W.Frag} {mg : Str → Option Value} {base : Heap} {CK CT : Addr}
theorem ExtN_same' {H H' : Hp} (s : Same H H') : LamX.ExtN H H' := fun b o h _ => s b o h
theorem Agr.perm {rows : RowL} {t : Tr} (h : Agr rows t) : t.rows.Perm rows := by
  have nd : ∀ {L : RowL}, (L.map (·.1)).Nodup → L.Nodup := fun {L} h => (List.pairwise_map.mp h).imp fun {a b} n e => n (by rw [e])
  refine (List.perm_ext_iff_of_nodup (nd t.rows_nd) (nd h.nd)).mpr fun r => ?_
  obtain ⟨s, x⟩ := r
  rw [Tr.mem_rows, ← h.get]
  exact ⟨rget_mem, fun hm => by rw [h.get]; exact h.mem hm⟩
/-- a row as it is written -/
def rowT (r : List Bool × Nat) : Str := (if r.1 = [] then Str.ofString "-" else tx r.1) ++ Str.ofString " " ++ Str.ofString (toString ((r.2 : Nat) : Int))
def tableT (v : Nat) (L : RowL) : Str := Txt.join (Str.ofString "\n") ((Str.ofString "width " ++ Str.ofString (toString ((v : Nat) : Int))) :: L.map rowT)
theorem log_ok {n : Nat} (h : n ≤ 18446744073709551615) : ((n : Nat) : Int).natAbs.log2 < 1920 := by
  rw [Int.natAbs_natCast]
  by_cases e : n = 0
  · subst e; decide
  · refine (Nat.log2_lt e).mpr (Nat.lt_of_lt_of_le (Nat.lt_of_le_of_lt h (by decide : 18446744073709551615 < 2 ^ 64)) (Nat.pow_le_pow_right (by decide) (by decide)))
theorem num_len {n : Nat} (h : n ≤ 18446744073709551615) : (Str.ofString (toString ((n : Nat) : Int))).length ≤ 20 :=
  PyProof.Rows.toString_length_le (v := (n : Int)) (by omega) (by decide) (by
    have : (n : Int) ≤ 18446744073709551615 := by omega
    exact Int.lt_of_le_of_lt this (by decide))
theorem sum_le {l : List Nat} {c : Nat} (h : ∀ x ∈ l, x ≤ c) : l.sum ≤ l.length * c := by
  induction l with
  | nil => exact Nat.zero_le _
  | cons a l ih =>
    have h1 := h a List.mem_cons_self
    have h2 := ih fun x hx => h x (List.mem_cons_of_mem _ hx)
    rw [List.sum_cons, List.length_cons, Nat.succ_mul]
    omega
theorem rowT_len {r : List Bool × Nat} (h1 : r.1.length ≤ 64) (h2 : r.2 ≤ 18446744073709551615) : (rowT r).length ≤ 200 := by
  have h3 := num_len h2
  have z1 : (Str.ofString " ").length = 1 := by decide +kernel
  have z2 : (Str.ofString "-").length = 1 := by decide +kernel
  unfold rowT
  rw [Str.length_append, Str.length_append]
  split
  · omega
  · rw [tx_len]; omega
abbrev s_l_text : Stmt := top 44
abbrev n_l_text : List Str := ["_law_rows", "_law_wide", "_law_order", "_law_starts", "_law_lines", "_law_start_here"]
theorem sc_l_text : FnScope n_l_text ["_law_rows", "_law_wide", "_law_order"] (C8.fnScope s_l_text) := ⟨rfl, rfl, rfl, by decide +kernel, rfl, by decide +kernel, by decide +kernel⟩
abbrev textQ : Str := (envOfC "_law_text" (C8.fnScope s_l_text) 0 0 .none).qual ++ "<lambda>"
def spText (TT : List (Addr × Str)) : Sp := fun vs H Q _ => ∃ (d : Addr) (rows : RowL) (t : Tr) (v o : Nat), vs = [.ref d, .int (v : Int), .int (o : Int)] ∧ LamX.Tabs TT H ∧ H d = some (.dK (RK rows)) ∧ Agr rows t ∧ (∀ r ∈ rows, r.1.length ≤ v ∧ r.2 ≤ 18446744073709551615) ∧ rows.length ≤ 250 ∧ v ≤ 64 ∧ o < 2 ^ 62 ∧
  ∀ H' L, LamX.ExtN H H' → LamX.Tabs TT H' → L.Perm rows → (o = 0 → L = t.rows) → Q (.str (tableT v L)) H'
theorem c_l_text {TT : List (Addr × Str)} {cX PX : Addr} (T : Glob mg) (D : DnC K mg "_law_text" s_l_text ["_law_rows", "_law_wide", "_law_order"] cX) (TB : LamX.TabB base mg cX PX) (hmT : (PX, textQ) ∈ TT) (huT : ∀ p ∈ TT, p.1 = PX → p.2 = textQ)
    (c_l_mixed : Cal P w K mg base 1 "_law_mixed" spMixed []) : Cal P w K mg base 5 "_law_text" (spText TT) [] := by
  refine D.cal sc_l_text (fun vs H Q E h => ?_) (fun f A outer s H vs Q E hr h => ?_)
  · obtain ⟨d, rows, t, v, o, rfl, _⟩ := h
    rfl
  · obtain ⟨d, rows, t, v, o, rfl, hT, hd, ag, hrow, hlen, hv, ho, k⟩ := h
    have hu := hu_of hr
    refine ⟨_, (pss_cons (ps_set (i := 3) sc_l_text.nd rfl (by first | exact Or.inl rfl | exact Or.inr rfl) (pe_callB (call_sortedDA rfl) (by rfl) T.g_sorted (by decide +kernel) (pa_cons (pv 0) pa_nil)))
      (C8.pss_cut (ps_if (pt_cmpR op_gt (pv 2) pe_int (nomark _))
      (pss_one (ps_set (i := 3) sc_l_text.nd rfl (by first | exact Or.inl rfl | exact Or.inr rfl) (pe_sortLam (i := 2) (y := "_law_order") (k := 1) rfl rfl rfl (pv 0) rfl T.g_sorted TB rfl hmT huT (hr.mono (by first | decide | omega)) (lamS1_by (by show lamS1B (C8.fnScope s_l_text) _ _ = true; decide +kernel)) rfl (fun _ _ _ _ _ _ => rfl) rfl (by decide) (fun A outer s H f c' hr => (pe_c c_l_mixed hr (by first | decide | omega) rfl (pa_cons (pv 1) (pa_cons (pe_op op_add (pe_op op_mul (pe_callB call_len_str (by rfl) T.g_len boot_len (pa_cons (pv 0) pa_nil)) pe_int) (pe_m1 PySem.F.slot_str_count PySem.F.type_str_count mt_count (pv 0) pe_str)) pa_nil)))))))
      pss_nil)
      (pss_cons (ps_set (i := 4) sc_l_text.nd rfl (by first | exact Or.inl rfl | exact Or.inr rfl) (pe_lst (pa_cons (pe_op op_add_str pe_str (pe_callTy call_str_int (by rfl) T.g_str (by decide +kernel) (pa_cons (pv 1) pa_nil))) pa_nil)))
      (pss_cons (ps_for PassesOwn.never rfl (pi_list (pv 3)) (pg_name (i := 5) sc_l_text.nd rfl (by first | exact Or.inl rfl | exact Or.inr rfl))
      (pss_one (ps_expr (pe_bm PySem.F.plainAttrs_list PySem.F.slot_list_append PySem.F.type_list_append mt_append (pv 4) (pa_cons (pe_op op_add_str (pe_op op_add_str (pe_ifExp (pt_cmpR op_ne (pv 5) pe_str (nomark _)) (pv 5) pe_str) pe_str) (pe_callTy call_str_int (by rfl) T.g_str (by decide +kernel) (pa_cons (pe_dget hu (pv 0) (pv 5) (fun _ _ => rfl)) pa_nil))) pa_nil)))))
      (pss_one (ps_ret (pe_join pe_str (pv 4)))))))), ?_⟩
    have toK : (RK rows).map (·.1) = (rows.map fun r => tx r.1).map Sum.inr := by
      unfold RK
      rw [List.map_map, List.map_map]
      rfl
    have l250 : (rows.map fun r => tx r.1).length ≤ 100000 := by rw [List.length_map]; omega
    refine ⟨_, rfl, d, RK rows, rows.map (fun r => tx r.1), rfl, .inl hd, toK, l250, fun ys p hperm hsort hp => ?_⟩
    have ey := keys_sorted ag hperm hsort
    subst ey
    have s1 : Same H (upd H p (.lst (((t.rows.map (·.1)).map tx).map V.str))) := Same_upd (Same.refl H) hp
    have e1 : (upd H p (.lst (((t.rows.map (·.1)).map tx).map V.str))) p = some (.lst (t.rows.map fun r => V.str (tx r.1))) := by
      rw [upd_same, List.map_map, List.map_map]
      rfl
    generalize (upd H p (.lst (((t.rows.map (·.1)).map tx).map V.str))) = H1 at s1 e1 ⊢
    refine ⟨fun σ' H' => ∃ p' L, σ' = [some (.ref d), some (.int (v : Int)), some (.int (o : Int)), some (.ref p'), none, none] ∧ LamX.ExtN H H' ∧ LamX.Tabs TT H' ∧ H' p' = some (.lst (L.map fun r : List Bool × Nat => V.str (tx r.1))) ∧ L.Perm rows ∧ (o = 0 → L = t.rows), ?_, ?_⟩
    · refine ⟨_, rfl, _, _, rfl, rfl, _, rfl, ?_⟩
      refine ite2 (fun c => ?_) fun c => ?_
      · have c : 0 < o := by have := of_decide_eq_true c; omega
        refine ⟨_, rfl, hT.ext s1, d, RK rows, rows.map (fun r => tx r.1), fun x => match x with | .str z => ((mixed (o : Int) (((z.length : Nat) : Int) * 97 + Txt.count z (Str.ofString "1")) : Nat) : Int) | _ => 0, rfl, .inl (s1 _ _ hd), toK, l250, fun z hz H2 Q' q => ?_, fun H2 ys2 p2 e2 hT2 hperm2 _ hp2 => ?_⟩
        · obtain ⟨r, hr1, rfl⟩ := List.mem_map.mp hz
          have hz64 : (tx r.1).length ≤ 64 := by rw [tx_len]; exact Nat.le_trans (hrow r hr1).1 hv
          obtain ⟨b1, b2⟩ := count_bounds (tx r.1) (Str.ofString "1")
          refine ⟨_, rfl, _, rfl, _, rfl, Nat.le_trans hz64 (by decide), _, _, rfl, rfl, .inl ⟨by omega, by omega⟩, _, rfl, ⟨_, rfl⟩, _, _, rfl, rfl, _, _, rfl, rfl, (o : Int), _, rfl, ⟨by omega, by omega⟩, q⟩
        · obtain ⟨L, p1, rfl⟩ := perm_lift (fun r : List Bool × Nat => tx r.1) hperm2 rows rfl
          have s2 : Same H2 (upd H2 p2 (.lst ((L.map fun r => tx r.1).map V.str))) := Same_upd (Same.refl H2) hp2
          refine ⟨p2, L, rfl, (ExtN_same' s1).trans (e2.trans (ExtN_same' s2)), hT2.ext s2, ?_, p1, fun z => by omega⟩
          rw [upd_same, List.map_map]
          rfl
      · have c : o = 0 := by
          have : ¬ (0 : Int) < (o : Int) := fun z => c (decide_eq_true z)
          omega
        exact ⟨p, t.rows, rfl, ExtN_same' s1, hT.ext s1, e1, ag.perm, fun _ => rfl⟩
    rintro σ' H2 ⟨p', L, rfl, eN, hT2, hp', pL, eL⟩
    have zw : (Str.ofString "width ").length = 6 := by decide +kernel
    have z1 : (Str.ofString " ").length = 1 := by decide +kernel
    have z2 : (Str.ofString "-").length = 1 := by decide +kernel
    have sl : 1000 ≤ sizeLine := by decide
    have hnv := num_len (n := v) (by omega)
    have lL : L.length ≤ 250 := by rw [pL.length_eq]; exact hlen
    have hd2 := eN _ _ hd (by intro ps z; cases z)
    refine ⟨_, rfl, _, rfl, log_ok (by omega), _, _, rfl, rfl, (by show _ + _ ≤ sizeLine; omega), (by show 1 ≤ sizeLine; decide), fun q hq => ?_⟩
    refine ⟨_, rfl, p', rfl, ⟨_, SqL.of (Same_upd (Same.refl H2) hq _ _ hp')⟩, for_it (walk_list (K := K) (a := p') (xs := L.map fun r : List Bool × Nat => V.str (tx r.1))) (fun i σ H' => ∃ o5, σ = [some (.ref d), some (.int (v : Int)), some (.int (o : Int)), some (.ref p'), some (.ref q), o5] ∧ Same H2 H' ∧ H' q = some (.lst (((Str.ofString "width " ++ Str.ofString (toString ((v : Nat) : Int))) :: (L.take i).map rowT).map V.str)))
      ⟨none, rfl, Same_upd (Same.refl H2) hq, upd_same⟩ (fun i σ H' _ ⟨_, _, s, _⟩ => SqL.of (s _ _ hp')) ?_ ?_⟩
    · rintro i x σ H3 H4 hi ⟨o5, rfl, s3, h3⟩ ⟨rfl, hx⟩
      rw [List.getElem?_map] at hx
      cases er : L[i]? with
      | none => rw [er] at hx; cases hx
      | some r =>
        rw [er] at hx
        cases hx
        have hm : r ∈ rows := pL.mem_iff.mp (List.mem_of_getElem? er)
        obtain ⟨r1, r2⟩ := hrow r hm
        have hn := num_len r2
        have hval : DGet H4 d (kV (.inr (tx r.1))) (some (V.int (r.2 : Int))) := by
          have := DGet.k (k := (.inr (tx r.1) : Key)) (s3 _ _ hd2)
          rw [RK_get, ag.get, ag.mem hm] at this
          exact this
        have hcat : V.str ((if r.1 = [] then Str.ofString "-" else tx r.1) ++ Str.ofString " " ++ Str.ofString (toString ((r.2 : Nat) : Int))) = V.str (rowT r) := rfl
        have fin : ∃ acc : List V, H4 q = some (.lst acc) ∧ acc.length < sizeLine ∧ ∃ o5, [some (V.ref d), some (V.int (v : Int)), some (V.int (o : Int)), some (V.ref p'), some (V.ref q), some (V.str (tx r.1))] = [some (V.ref d), some (V.int (v : Int)), some (V.int (o : Int)), some (V.ref p'), some (V.ref q), o5] ∧ Same H2 (upd H4 q (.lst (acc ++ [V.str (rowT r)]))) ∧
            (upd H4 q (.lst (acc ++ [V.str (rowT r)]))) q = some (.lst (((Str.ofString "width " ++ Str.ofString (toString ((v : Nat) : Int))) :: (L.take (i + 1)).map rowT).map V.str)) := by
          refine ⟨_, h3, ?_, _, rfl, Same_mut s3 hq, ?_⟩
          · rw [List.length_map, List.length_cons, List.length_map, List.length_take]
            exact Nat.lt_of_le_of_lt (by omega : _ ≤ 1000) (by decide)
          · rw [upd_same, take_snoc er, List.map_append]
            simp
        obtain ⟨acc, f1, f2, f3⟩ := fin
        refine ⟨_, rfl, .inl ⟨rfl, _, SqL.of f1⟩, ?_⟩
        refine ⟨_, rfl, rfl, _, rfl, ?_⟩
        have en : (V.str (tx r.1) = V.str (Str.ofString "")) ↔ r.1 = [] := by
          constructor
          · intro e
            have e := V.str.inj e
            exact tx_inj (e.trans tx_nil.symm)
          · intro e
            rw [e, tx_nil]
        have lx : (tx r.1).length ≤ 64 := by rw [tx_len]; omega
        by_cases c : r.1 = []
        · have eT : rowT r = Str.ofString "-" ++ Str.ofString " " ++ Str.ofString (toString ((r.2 : Nat) : Int)) := by unfold rowT; rw [if_pos c]
          rw [decide_eq_true (en.mpr c)]
          refine iteF ?_
          rw [eT] at f3
          exact ⟨_, _, rfl, rfl, (by rw [z1, z2]; decide), _, rfl, _, rfl, d, _, rfl, hval, _, rfl, log_ok r2, _, _, rfl, rfl, (by rw [Str.length_append]; omega), q, acc, _, rfl, rfl, f1, f2, f3⟩
        · have eT : rowT r = tx r.1 ++ Str.ofString " " ++ Str.ofString (toString ((r.2 : Nat) : Int)) := by unfold rowT; rw [if_neg c]
          rw [decide_eq_false (fun e => c (en.mp e))]
          refine iteT ?_
          rw [eT] at f3
          exact ⟨_, rfl, _, _, rfl, rfl, (by omega), _, rfl, _, rfl, d, _, rfl, hval, _, rfl, log_ok r2, _, _, rfl, rfl, (by rw [Str.length_append]; omega), q, acc, _, rfl, rfl, f1, f2, f3⟩
    · rintro σ H3 ⟨o5, rfl, s3, h3⟩
      rw [List.length_map, List.take_length] at h3
      have hb : ∀ x ∈ ((Str.ofString "width " ++ Str.ofString (toString ((v : Nat) : Int))) :: L.map rowT).map (·.length), x ≤ 200 := fun x hx => by
        obtain ⟨y, hy, rfl⟩ := List.mem_map.mp hx
        rcases List.mem_cons.mp hy with rfl | hy
        · rw [Str.length_append]; omega
        · obtain ⟨r, hr1, rfl⟩ := List.mem_map.mp hy
          have := hrow r (pL.mem_iff.mp hr1)
          exact rowT_len (by omega) this.2
      have h1 := sum_le hb
      have zn : (Str.ofString "\n").length = 1 := by decide +kernel
      rw [List.length_map, List.length_cons, List.length_map] at h1
      refine ⟨⟨_, rfl⟩, _, rfl, _, q, _, rfl, rfl, .inl (SqL.of h3), ?_, k _ L (eN.trans (ExtN_same' s3)) (hT2.ext s3) pL eL⟩
      rw [zn, List.length_cons, List.length_map]
      omega
end
end Br

/-! bitroads.notes -/
namespace Br
open PySem PySem.Spec PyProof.Rows L2
open C8 (Cal Met Mak cal0 met0 mak0 pe_c pe_mk pe_mt pe_mt0 pe_gc Def)
/-- the constants of the notes -/
structure GlobN (mg : Str → Option Value) : Prop where
  g_FIGURES : ∃ u, mg "FIGURES" = some u ∧ RelV (.str (Str.ofString "0123456789")) u
  g_MOST_FIGURES : ∃ u, mg "MOST_FIGURES" = some u ∧ RelV (.int 20) u
  g_NOTHING : ∃ u, mg "NOTHING" = some u ∧ RelV (.str (Str.ofString "-")) u
section
variable {P : Program} {w : World} {K : PySem.W.Frag} {mg : Str → Option Value} {base : Heap} {CK CT : Addr}
theorem tx_empty (s : List Bool) : (V.str (tx s) = V.str (Str.ofString "")) ↔ s = [] := by
  constructor
  · intro e
    exact tx_inj ((V.str.inj e).trans tx_nil.symm)
  · intro e
    rw [e, tx_nil]
abbrev s_number_in : Stmt := top 32
abbrev n_number_in : List Str := ["word", "sign"]
theorem sc_number_in : FnScope n_number_in ["word"] (C8.fnScope s_number_in) := ⟨rfl, rfl, rfl, by decide +kernel, rfl, by decide +kernel, by decide +kernel⟩
def figs (w : Str) : Bool := w.cps.toList.all fun c => decide (c ∈ (Str.ofString "0123456789").cps.toList)
/-- the number that figures write -/
def numIn (w : Str) : Option Nat := if 1 ≤ w.length ∧ w.length ≤ 20 ∧ figs w = true then (if w.cps.toList.head? = some 48 ∧ w ≠ Str.ofString "0" then none else some (NumText.digitsVal w.cps.toList)) else none
theorem ofs_fig : (Str.ofString "0123456789").cps.toList = [48, 49, 50, 51, 52, 53, 54, 55, 56, 57] := by decide +kernel
theorem fig_iff (c : Nat) : c ∈ (Str.ofString "0123456789").cps.toList ↔ 48 ≤ c ∧ c ≤ 57 := by
  rw [ofs_fig]
  simp only [List.mem_cons, List.not_mem_nil, or_false]
  omega
theorem figs_iff (w : Str) : figs w = true ↔ NumText.AllDigits w.cps.toList := by
  unfold figs
  rw [List.all_eq_true]
  exact ⟨fun h c hc => (fig_iff c).mp (of_decide_eq_true (h c hc)), fun h c hc => decide_eq_true ((fig_iff c).mpr (h c hc))⟩
theorem numL_head (n : Nat) : (TL.numL n).head? = some 48 → n = 0 := by
  induction n using Nat.strongRecOn with
  | _ n ih =>
    by_cases h : n < 10
    · rw [TL.numL_lt h]
      intro e
      have := Option.some.inj e
      omega
    · rw [TL.numL_step (by omega)]
      intro e
      have ne := TL.numL_ne (n / 10)
      cases hh : TL.numL (n / 10) with
      | nil => exact absurd hh ne
      | cons a r =>
        have := ih (n / 10) (by omega) (by rw [hh]; rw [hh] at e; exact e)
        omega
theorem numIn_num {n : Nat} (h : n ≤ 18446744073709551615) : numIn (Str.ofString (toString ((n : Nat) : Int))) = some n := by
  have h1 := num_len h
  have tl : (Str.ofString (toString ((n : Nat) : Int))).cps.toList = TL.numL n := TL.tl_num n
  have hne : TL.numL n ≠ [] := TL.numL_ne n
  have hl : (Str.ofString (toString ((n : Nat) : Int))).length = (TL.numL n).length := by rw [← tl]; rfl
  unfold numIn
  have l1 : 1 ≤ (TL.numL n).length := Nat.pos_of_ne_zero fun e => hne (List.length_eq_zero_iff.mp e)
  rw [if_pos ⟨by omega, h1, (figs_iff _).mpr (by rw [tl]; exact TL.numL_digits n)⟩, tl, TL.numL_val]
  refine if_neg fun ⟨e1, e2⟩ => e2 ?_
  have n0 := numL_head n e1
  subst n0
  decide +kernel
def spNumIn : Sp := fun vs H Q _ => ∃ z : Str, vs = [.str z] ∧ z.length ≤ 100000 ∧ ∀ H', Same H H' → Q (ov (numIn z)) H'
theorem c_number_in (T : Glob mg) (TN : GlobN mg) (D : Dn K mg "number_in" s_number_in ["word"]) : Cal P w K mg base 1 "number_in" spNumIn [] := by
  refine D.cal sc_number_in (fun vs H Q E h => ?_) (fun f cdv A outer s0 H vs Q E hr h => ?_)
  · obtain ⟨z, rfl, _⟩ := h
    rfl
  · obtain ⟨z, rfl, hz, k⟩ := h
    refine ⟨_, (pss_cons (ps_if (PW.pt (pw_or (pt_not (pt_chain op_le op_le pe_int (pe_callB call_len_str (by rfl) T.g_len boot_len (pa_cons (pv 0) pa_nil)) (pe_gc rfl TN.g_MOST_FIGURES))) (pw_or1 (pt_not (pt_val (pe_callB (cr_all rfl) (by rfl) T.g_all (by decide +kernel) (pa_cons (pe_lc (own := [("sign", 1)]) (g := (gName 1)) (tt := tYes) rfl sc_number_in.nd (pi_str (pv 0)) (blkOk_by (own := [("sign", 1)]) (N := n_number_in) (sc := C8.fnScope s_number_in) (by decide +kernel)) (fun _ _ _ _ _ => (pg_name (i := 1) sc_number_in.nd rfl (by first | exact Or.inl rfl | exact Or.inr rfl))) (fun _ _ _ _ _ => pts_nil) (fun _ _ _ _ _ => (pe_cmpR op_in_sign (pv 1) (pe_gc rfl TN.g_FIGURES) (by rfl)))) pa_nil)))))))
      (pss_one (ps_ret pe_non))
      pss_nil)
      (pss_cons (ps_if (PW.pt (pw_and (pt_cmpR op_eq (pe_ix ix_str (pv 0) pe_int (fun _ _ => rfl)) pe_str (nomark _)) (pw_and1 (pt_cmpR op_ne (pv 0) pe_str (nomark _)))))
      (pss_one (ps_ret pe_non))
      pss_nil)
      (pss_one (ps_ret (pe_callTy call_int_str (by rfl) T.g_int (by decide +kernel) (pa_cons (pv 0) pa_nil)))))), ?_⟩
    refine ⟨_, rfl, _, rfl, Nat.le_trans hz (by decide), _, _, rfl, rfl, _, rfl, ?_⟩
    refine ite2 (fun c1 => ?_) fun c1 => ?_
    · have c1 : 1 ≤ z.length := by have := of_decide_eq_true c1; omega
      refine ⟨_, _, rfl, rfl, _, rfl, ?_⟩
      refine ite2 (fun c2 => ?_) fun c2 => ?_
      · have c2 : ¬ z.length ≤ 20 := fun h => by
          rw [decide_eq_true (by omega)] at c2
          cases c2
        have k2 := k _ (Same.refl H)
        rw [show numIn z = none by unfold numIn; rw [if_neg fun h => c2 h.2.1]] at k2
        exact iteT k2
      · have c2 : z.length ≤ 20 := by
          have : decide ((z.length : Int) ≤ 20) = true := by
            cases h : decide ((z.length : Int) ≤ 20) with
            | true => rfl
            | false => rw [h] at c2; exact absurd rfl c2
          have := of_decide_eq_true this
          omega
        refine ⟨_, rfl, _, rfl, fun D hD => ?_⟩
        refine lc_it walk_str (PvF H D fun i => (z.cps.toList.take i).map fun c => V.bl (decide (c ∈ (Str.ofString "0123456789").cps.toList))) (pv0 hD) (fun _ _ _ _ => trivial) ?_ ?_
        · rintro i x H1 H2 hi ⟨s1, h1⟩ ⟨rfl, c, hc, rfl⟩
          refine ⟨rfl, yesI ?_⟩
          have hc' : z.cps.toList[i]? = some c := by simpa using hc
          refine ⟨_, rfl, c, _, rfl, rfl, ?_⟩
          refine pv_in hD s1 h1 ?_ ?_
          · simp only [List.length_map, List.length_take]
            have : i < z.cps.size := hi
            have : z.length = z.cps.size := rfl
            omega
          · show ((z.cps.toList.take (i + 1)).map _) = _
            rw [take_snoc hc', List.map_append]
            rfl
        · rintro H1 ⟨s1, h1⟩
          refine ⟨_, z.cps.toList.map (fun c => decide (c ∈ (Str.ofString "0123456789").cps.toList)), rfl, SqL.of ?_, ?_⟩
          · rw [h1]
            show some (HO.lst ((z.cps.toList.take z.cps.size).map _)) = _
            rw [take_cps, List.map_map]
            rfl
          · have ef : (z.cps.toList.map (fun c => decide (c ∈ (Str.ofString "0123456789").cps.toList))).all id = figs z := by
              rw [List.all_map]
              rfl
            rw [ef]
            have k2 := k _ s1
            cases hf : figs z with
            | false =>
              rw [show numIn z = none by unfold numIn; rw [if_neg fun h => by rw [hf] at h; cases h.2.2]] at k2
              refine ⟨_, rfl, iteT k2⟩
            | true =>
              refine ⟨_, rfl, iteF ?_⟩
              obtain ⟨c, hc⟩ : ∃ c, z.cps.toList[0]? = some c := ⟨_, List.getElem?_eq_getElem (by have : z.length = z.cps.toList.length := rfl; omega)⟩
              refine ⟨_, rfl, z, 0, c, rfl, rfl, Nat.le_trans hz (by decide), atI_nat (j := 0) hc, rfl, _, rfl, ?_⟩
              have h0 : z.cps.toList.head? = some c := by rw [← hc, List.head?_eq_getElem?]
              have e0 : decide (V.str ⟨#[c]⟩ = V.str (Str.ofString "0")) = decide (c = 48) := by
                have z0 : Str.ofString "0" = ⟨#[48]⟩ := by decide +kernel
                rw [z0]
                simp
              rw [e0]
              have fin : numIn z = some (NumText.digitsVal z.cps.toList) → tRet (tCB (fun xs H Q => ∃ a n, xs = [V.str a] ∧ intText? a = some n ∧ a.length ≤ 640 ∧ Q (V.int n) H) (tCons (tVar 0) tNil)) { nx := fun x H' => Q V.non H', rt := Q } (L2.start n_number_in [V.str z]) H1 := fun en => by
                rw [en] at k2
                exact ⟨_, rfl, z, _, rfl, intText_digits ((figs_iff z).mp hf) (fun e => by rw [e] at hc; cases hc) (by omega), by omega, k2⟩
              have eN : numIn z = if z.cps.toList.head? = some 48 ∧ z ≠ Str.ofString "0" then none else some (NumText.digitsVal z.cps.toList) := by
                unfold numIn
                rw [if_pos ⟨c1, c2, hf⟩]
              refine ite2 (fun c3 => ?_) fun c3 => ?_
              · have c3 := of_decide_eq_true c3
                subst c3
                refine ⟨_, rfl, rfl, _, rfl, ?_⟩
                refine ite2 (fun c4 => ?_) fun c4 => ?_
                · rw [eN, if_pos ⟨h0, fun e => by subst e; simp at c4⟩] at k2
                  exact k2
                · refine fin ?_
                  rw [eN, if_neg]
                  rintro ⟨_, n⟩
                  refine c4 ?_
                  rw [decide_eq_false (fun e => n (V.str.inj e))]
                  rfl
              · refine fin ?_
                rw [eN, if_neg]
                rintro ⟨n, _⟩
                rw [h0] at n
                exact c3 (decide_eq_true (Option.some.inj n))
    · have k2 := k _ (Same.refl H)
      have c1 : ¬ 1 ≤ z.length := fun h => c1 (decide_eq_true (by omega))
      rw [show numIn z = none by unfold numIn; rw [if_neg fun h => c1 h.1]] at k2
      exact ⟨_, rfl, iteT k2⟩
end
end Br

/-! texts of tables, split -/
namespace Br
open PySem PySem.Spec PyProof.Rows L2
abbrev numT (n : Nat) : Str := Str.ofString (toString ((n : Nat) : Int))
theorem numT_len {n : Nat} (h : n ≤ 18446744073709551615) : (numT n).length ≤ 20 := num_len h
theorem tl_blank : TL.tl (Str.ofString " ") = [32] := by decide +kernel
theorem tl_line : TL.tl (Str.ofString "\n") = [10] := by decide +kernel
theorem tl_width : TL.tl (Str.ofString "width") = [119, 105, 100, 116, 104] := by decide +kernel
theorem tl_minus : TL.tl (Str.ofString "-") = [45] := by decide +kernel
theorem ofs_width : Str.ofString "width " = Str.ofString "width" ++ Str.ofString " " := by decide +kernel
theorem tl_tx (s : List Bool) : TL.tl (tx s) = s.map bc := tx_cps s
theorem tl_numT (n : Nat) : TL.tl (numT n) = TL.numL n := TL.tl_num n
theorem bc_free {s : List Bool} {c : Nat} (h : c < 48 ∨ 49 < c) : c ∉ s.map bc := fun hm => by
  obtain ⟨b, _, e⟩ := List.mem_map.mp hm
  cases b <;> simp [bc] at e <;> omega
/-- the start of a row, as it is written -/
def startT (s : List Bool) : Str := if s = [] then Str.ofString "-" else tx s
theorem startT_free {s : List Bool} {c : Nat} (h : c < 45 ∨ 49 < c) : c ∉ TL.tl (startT s) := by
  unfold startT
  split
  · rw [tl_minus]
    simp only [List.mem_cons, List.not_mem_nil, or_false]
    omega
  · rw [tl_tx]
    exact bc_free (by omega)
theorem numT_free {n c : Nat} (h : c < 48 ∨ 57 < c) : c ∉ TL.tl (numT n) := by
  rw [tl_numT]
  exact TL.numL_free h
theorem join2 (y a b : Str) : Txt.join y [a, b] = a ++ y ++ b := by
  rw [TL.join_eq]
  rfl
theorem split2 {a b : Str} (ha : 32 ∉ TL.tl a) (hb : 32 ∉ TL.tl b) : Txt.split (a ++ Str.ofString " " ++ b) (Str.ofString " ") = [a, b] := by
  rw [← join2]
  exact TL.split_join tl_blank (by decide +kernel) (by simp) fun p hp => by
    rcases List.mem_cons.mp hp with rfl | hp
    · exact ha
    · rw [List.mem_singleton.mp hp]
      exact hb
theorem split_row (r : List Bool × Nat) : Txt.split (rowT r) (Str.ofString " ") = [startT r.1, numT r.2] := split2 (startT_free (by omega)) (numT_free (by omega))
theorem headT_eq (v : Nat) : Str.ofString "width " ++ numT v = Str.ofString "width" ++ Str.ofString " " ++ numT v := by rw [ofs_width]
theorem split_head (v : Nat) : Txt.split (Str.ofString "width " ++ numT v) (Str.ofString " ") = [Str.ofString "width", numT v] := by
  rw [headT_eq]
  exact split2 (by rw [tl_width]; decide) (numT_free (by omega))
theorem row_free (r : List Bool × Nat) : 10 ∉ TL.tl (rowT r) := by
  show 10 ∉ TL.tl (startT r.1 ++ Str.ofString " " ++ numT r.2)
  rw [TL.tl_append, TL.tl_append]
  intro hm
  rcases List.mem_append.mp hm with hm | hm
  · rcases List.mem_append.mp hm with hm | hm
    · exact startT_free (by omega) hm
    · rw [tl_blank] at hm
      revert hm
      decide
  · exact numT_free (by omega) hm
theorem head_free (v : Nat) : 10 ∉ TL.tl (Str.ofString "width " ++ numT v) := by
  rw [headT_eq, TL.tl_append, TL.tl_append]
  intro hm
  rcases List.mem_append.mp hm with hm | hm
  · rw [tl_width, tl_blank] at hm
    revert hm
    decide
  · exact numT_free (by omega) hm
theorem split_table (v : Nat) (L : RowL) : Txt.split (tableT v L) (Str.ofString "\n") = (Str.ofString "width " ++ numT v) :: L.map rowT := by
  refine TL.split_join tl_line (by decide +kernel) (by simp) fun p hp => ?_
  rcases List.mem_cons.mp hp with rfl | hp
  · exact head_free v
  · obtain ⟨r, _, rfl⟩ := List.mem_map.mp hp
    exact row_free r
theorem startT_ne (s : List Bool) : startT s ≠ Str.ofString "" := by
  unfold startT
  split
  · decide +kernel
  · rename_i h
    exact fun e => h (tx_inj (e.trans tx_nil.symm))
theorem tx_minus (s : List Bool) : tx s ≠ Str.ofString "-" := fun e => by
  have : TL.tl (tx s) = [45] := by rw [e, tl_minus]
  rw [tl_tx] at this
  exact bc_free (s := s) (c := 45) (by omega) (by rw [this]; simp)
theorem startT_minus (s : List Bool) : startT s = Str.ofString "-" ↔ s = [] := by
  unfold startT
  split
  · rename_i h
    exact ⟨fun _ => h, fun _ => rfl⟩
  · rename_i h
    exact ⟨fun e => absurd e (tx_minus s), fun e => absurd e h⟩
theorem join_len (y : Str) (B : Nat) : ∀ parts : List Str, (∀ p ∈ parts, p.length ≤ B) → (Str.join y parts).length ≤ parts.length * (B + y.length)
  | [], _ => Nat.zero_le _
  | [x], h => by
    have := h x List.mem_cons_self
    show x.length ≤ 1 * (B + y.length)
    omega
  | x :: z :: r, h => by
    have h1 := h x List.mem_cons_self
    have h2 := join_len y B (z :: r) fun p hp => h p (List.mem_cons_of_mem _ hp)
    show (x ++ y ++ Str.join y (z :: r)).length ≤ _
    rw [Str.length_append, Str.length_append, List.length_cons (a := x), Nat.succ_mul]
    omega
theorem tableT_len {v : Nat} {L : RowL} (hv : v ≤ 64) (hr : ∀ r ∈ L, r.1.length ≤ v ∧ r.2 ≤ 18446744073709551615) : (tableT v L).length ≤ (L.length + 1) * 201 := by
  unfold tableT
  rw [TL.join_eq]
  have zn : (Str.ofString "\n").length = 1 := by decide +kernel
  have zw : (Str.ofString "width ").length = 6 := by decide +kernel
  have h := join_len (Str.ofString "\n") 200 ((Str.ofString "width " ++ Str.ofString (toString ((v : Nat) : Int))) :: L.map rowT) fun p hp => by
    rcases List.mem_cons.mp hp with rfl | hp
    · have := num_len (n := v) (by omega)
      rw [Str.length_append]
      omega
    · obtain ⟨r, hm, rfl⟩ := List.mem_map.mp hp
      have := hr r hm
      exact rowT_len (by omega) this.2
  rw [List.length_cons, List.length_map, zn] at h
  exact h
end Br

/-! bitroads.table: rows put and taken -/
namespace Br
open PySem PySem.Spec PyProof.Rows L2
open C8 (Cal Met Mak cal0 met0 mak0 pe_c pe_mk pe_mt pe_mt0 pe_gc Def)
/-- what a put is to bring about -/
def PutFin (CK T : Addr) (H1 : Hp) (t : AT) (s : List Bool) (x : Nat) (H3 : Hp) : Prop := ∃ t' : AT, Mod (T :: t.fp) H1 H3 ∧ t'.val = t.val ∧ t'.ok CK H3 ∧ (T :: t'.fp).Nodup ∧ t'.tr = t.tr.put s x ∧ ∀ a ∈ t'.fp, a ∈ t.fp ∨ H1 a = none
/-- .. once the rest of the way is gone beneath u -/
def PutGo (CK T : Addr) (H2 : Hp) (u : AT) (s : List Bool) (x : Nat) (F : Hp → Prop) : Prop := ∀ (H3 : Hp) (u' : AT), Mod (T :: u.fp) H2 H3 → u'.val = u.val → u'.ok CK H3 → (T :: u'.fp).Nodup → u'.tr = u.tr.put s x → (∀ a ∈ u'.fp, a ∈ u.fp ∨ H2 a = none) → F H3
theorem bit_ix (b : Bool) {xs : List V} (h : xs.length = 2) : ixN xs.length (((if b then 1 else 0 : Nat) : Nat) : Int) = some (if b then 1 else 0) := by
  rw [h]
  cases b <;> rfl
section
variable {P : Program} {w : World} {K : PySem.W.Frag} {mg : Str → Option Value} {base : Heap} {CK CT : Addr}
abbrev s_Table_put : Stmt := inClass (top 27) 6
abbrev n_Table_put : List Str := ["self", "start", "road", "ahead", "knot", "sign", "side"]
theorem sc_Table_put : FnScope n_Table_put ["self", "start", "road"] (C8.fnScope s_Table_put) := ⟨rfl, rfl, rfl, by decide +kernel, rfl, by decide +kernel, by decide +kernel⟩
def spTput (CK CT : Addr) : Sp := fun vs H Q _ => ∃ (T : Addr) (v : Nat) (t : AT) (s : List Bool) (x : Nat), vs = [.ref T, .str (tx s), .int (x : Int)] ∧ Tab CK CT H T v t ∧ s.length ≤ v ∧ x ≤ 18446744073709551615 ∧ t.tr.size + 66 ≤ 20000 ∧
  ∀ H' p t' D, Mod (T :: t.fp) H H' → H p = none → p ∉ T :: t'.fp → Tab CK CT H' T v t' → t'.tr = t.tr.put s x → (∀ a ∈ t'.fp, a ∈ t.fp ∨ H a = none) → LT H' p (D.map row4) → DTl (fT t.tr v) (fT (t.tr.put s x) v) (hi s v + 1) (lo s v) D → Q (.ref p) H'
theorem c_Table_put (T : Glob mg) (Tt : Ts K CT) (Kk : Ks K CK) (D : Mn K CT "put" s_Table_put ["self", "start", "road"] []) (m_need_start : Met P w K mg base 3 CT "need_start" (spNeedS CK CT) []) (c_is_road : Cal P w K mg base 2 "is_road" spRoad [])
    (m_stretches : Met P w K mg base 67 CT "stretches" (spTstr CK CT) []) (c_Knot : Mak P w K mg base 1 "Knot" CK (spKnot (K := K)) []) (c_between : Cal P w K mg base 1 "between" spBetween []) : Met P w K mg base 68 CT "put" (spTput CK CT) [] := by
  refine D.met sc_Table_put (fun vs H Q E h => ?_) (fun qual f cdv A outer s0 H vs Q E hr h => ?_)
  · obtain ⟨a, v, t, s, x, rfl, _⟩ := h
    rfl
  · obtain ⟨TA, v, t, s, x, rfl, ht, hs, hx, hz, k⟩ := h
    refine ⟨_, (pss_cons (ps_expr (pe_mt m_need_start hr (by first | decide | omega) (pv 0) (pa_cons (pv 1) pa_nil)))
      (pss_cons (ps_if (pt_not (pt_val (pe_c c_is_road hr (by first | decide | omega) rfl (pa_cons (pv 2) pa_nil))))
      (pss_one (ps_never (st := _)))
      pss_nil)
      (pss_cons (ps_set (i := 3) sc_Table_put.nd rfl (by first | exact Or.inl rfl | exact Or.inr rfl) (pe_mt m_stretches hr (by first | decide | omega) (pv 0) (pa_cons (pv 1) pa_nil)))
      (pss_cons (ps_set (i := 4) sc_Table_put.nd rfl (by first | exact Or.inl rfl | exact Or.inr rfl) (pe_fld (pv 0) rfl))
      (C8.pss_cut (ps_for PassesOwn.never rfl (pi_str (pv 1)) (pg_name (i := 5) sc_Table_put.nd rfl (by first | exact Or.inl rfl | exact Or.inr rfl))
      (pss_cons (ps_set (i := 6) sc_Table_put.nd rfl (by first | exact Or.inl rfl | exact Or.inr rfl) (pe_m1 PySem.F.slot_str_index PySem.F.type_str_index mt_sindex (pe_gc rfl T.g_BITS) (pv 5)))
      (C8.pss_cut (ps_if (pt_cmpR op_isN (pe_ix ix_list (pe_fld (pv 4) rfl) (pv 6) (fun _ _ => rfl)) pe_non (nomark _))
      (pss_one (ps_asg (pe_mk0 c_Knot hr (by first | decide | omega) rfl) (pg_sub (pe_fld (pv 4) rfl) (pv 6) set_list)))
      pss_nil)
      (pss_one (ps_set (i := 4) sc_Table_put.nd rfl (by first | exact Or.inl rfl | exact Or.inr rfl) (pe_ix ix_list (pe_fld (pv 4) rfl) (pv 6) (fun _ _ => rfl)))))))
      (C8.pss_cut (ps_if (pt_cmpR op_isN (pe_fld (pv 4) rfl) pe_non (nomark _))
      (pss_one (ps_fldaug (pv 0) pe_int in_add))
      pss_nil)
      (pss_cons (ps_fld (pv 4) (pv 2) rfl)
      (pss_one (ps_ret (pe_c c_between hr (by first | decide | omega) rfl (pa_cons (pv 3) (pa_cons (pe_mt m_stretches hr (by first | decide | omega) (pv 0) (pa_cons (pv 1) pa_nil)) pa_nil)))))))))))), ?_⟩
    obtain ⟨dT, ho⟩ := ht.obj
    have hv := ht.w2
    refine ⟨_, rfl, TA, dT, _, rfl, ho, rfl, _, rfl, TA, v, t, s, rfl, ht, hs, fun H0 s0' => ?_⟩
    have er : isAmong (.int (x : Int)) 0 18446744073709551615 = true := by
      show (decide ((0 : Int) ≤ (x : Int)) && decide ((x : Int) ≤ 18446744073709551615)) = true
      rw [decide_eq_true (by omega), decide_eq_true (by omega)]
      rfl
    refine ⟨_, rfl, _, rfl, .int _, ?_⟩
    rw [er]
    refine ⟨_, rfl, iteF ?_⟩
    refine ⟨_, rfl, TA, dT, _, rfl, s0' _ _ ho, rfl, _, rfl, TA, v, t, s, rfl, ht.same s0', hs, fun H1 p1 s1' hp1 hL1 => ?_⟩
    have s1 : Same H H1 := s0'.trans s1'
    have hp0 : H p1 = none := s0'.free hp1
    have ht1 := ht.same s1
    have ho1 := s1 _ _ ho
    have np1 : p1 ∉ TA :: t.fp := (ht.same s0').free hp1
    refine ⟨_, rfl, TA, CT, dT, _, _, rfl, ho1, Tt.cl, Tt.ntop, rfl, ?_⟩
    -- behind the way down
    refine ⟨fun σ' H2 => ∃ (a dx ka : Addr) (g : Option Nat) (l r : AT) (v5 v6 : Option V), σ' = [some (.ref TA), some (.str (tx s)), some (.int (x : Int)), some (.ref p1), some (.ref a), v5, v6] ∧ Mod (TA :: t.fp) H1 H2 ∧ H2 TA = H1 TA ∧ (AT.nd a dx ka g l r).ok CK H2 ∧ (TA :: (AT.nd a dx ka g l r).fp).Nodup ∧ (∀ a' ∈ (AT.nd a dx ka g l r).fp, a' ∈ t.fp ∨ H1 a' = none) ∧ g = t.tr.get s ∧
        PutGo CK TA H2 (AT.nd a dx ka g l r) [] x (PutFin CK TA H1 t s x), ?_, ?_⟩
    · refine ⟨_, rfl, _, rfl, for_it walk_str (fun i σ H2 => ∃ (u : AT) (v5 v6 : Option V), u ≠ .nil ∧ σ = [some (.ref TA), some (.str (tx s)), some (.int (x : Int)), some (.ref p1), some u.val, v5, v6] ∧ Mod (TA :: t.fp) H1 H2 ∧ H2 TA = H1 TA ∧ u.ok CK H2 ∧ (TA :: u.fp).Nodup ∧ (∀ a ∈ u.fp, a ∈ t.fp ∨ H1 a = none) ∧ u.tr.get (s.drop i) = t.tr.get s ∧
          PutGo CK TA H2 u (s.drop i) x (PutFin CK TA H1 t s x)) ⟨t, none, none, ht.ne, rfl, Mod.refl, rfl, ht1.ok, ht1.nd, fun a h => .inl h, rfl, fun H3 u' m e1 e2 e3 e4 e5 => ⟨u', m, e1, e2, e3, e4, e5⟩⟩ (fun _ _ _ _ _ => trivial) ?_ ?_⟩
      · rintro i y σ H9 H2 hi ⟨u, v5, v6, hn, rfl, m2, hT2, hu, nu, fu, hg, go⟩ ⟨rfl, c, hc, rfl⟩
        obtain ⟨b, hb, rfl⟩ := tx_get hc
        have dr : s.drop i = b :: s.drop (i + 1) := by
          rw [List.drop_eq_getElem_cons (List.getElem?_eq_some_iff.mp hb).1]
          congr 1
          exact (List.getElem?_eq_some_iff.mp hb).2
        cases u with
        | nil => exact (hn rfl).elim
        | nd a dx ka g l r =>
        obtain ⟨ha, hka, hl, hr'⟩ := id hu
        refine ⟨⟨_, rfl⟩, _, rfl, _, _, _, _, rfl, rfl, bits_index b, ?_⟩
        refine ⟨fun σ' H3 => ∃ (l2 r2 : AT), σ' = [some (.ref TA), some (.str (tx s)), some (.int (x : Int)), some (.ref p1), some (.ref a), some (.str ⟨#[bc b]⟩), some (.int ((if b then 1 else 0 : Nat) : Int))] ∧ Mod (TA :: t.fp) H1 H3 ∧ H3 TA = H1 TA ∧ (AT.nd a dx ka g l2 r2).ok CK H3 ∧ (TA :: (AT.nd a dx ka g l2 r2).fp).Nodup ∧ (∀ a' ∈ (AT.nd a dx ka g l2 r2).fp, a' ∈ t.fp ∨ H1 a' = none) ∧
          AT.kid b l2 r2 ≠ .nil ∧ (AT.nd a dx ka g l2 r2).tr.get (s.drop i) = t.tr.get s ∧ PutGo CK TA H3 (AT.nd a dx ka g l2 r2) (s.drop i) x (PutFin CK TA H1 t s x), ?_, ?_⟩
        · refine ⟨_, rfl, a, CK, dx, _, _, rfl, ha, Kk.cl, Kk.nkids, rfl, _, rfl, ka, _, _, _, rfl, rfl, SqL.of hka, atI_nat (AT.kid_val b l r), rfl, _, rfl, ?_⟩
          rw [AT.val_tr]
          refine ite2 (fun c => ?_) fun c => ?_
          · have ek : AT.kid b l r = .nil := by
              cases e : AT.kid b l r with
              | nil => rfl
              | nd => rw [e] at c; cases c
            refine fun n d hnn hd nd => ⟨n, CK, d, rfl, Kk, upd_same, fun H3 kb hkb m3 e1 e2 => ⟨rfl, ?_⟩⟩
            have s2 : Same H2 (upd (upd H2 d (.own n)) n (.ins CK d [])) := Same_upd (Same_upd (Same.refl H2) hd) (by rw [upd_ne nd.symm]; exact hnn)
            have hkb2 : H2 kb = none := s2.free hkb
            have hka3 : H3 ka = some (.lst [l.val, r.val]) := m3 _ _ (s2 _ _ hka) (.inl (by simp only [List.mem_singleton]; exact ne_of_none hka hnn))
            have nka : ka ≠ n := ne_of_none hka hnn
            have nkb : ka ≠ kb := ne_of_none hka hkb2
            have nnkb : n ≠ kb := ne_of_none (upd_same (H := upd H2 d (.own n)) (o := .ins CK d [])) hkb
            have m2' : Mod [] H2 H3 := (Mod.same s2).step m3 fun z hz => .inr (by rw [List.mem_singleton.mp hz]; exact hnn)
            have m23 : ∀ o, Mod (TA :: ka :: (AT.kid b l r).fp) H2 (upd H3 ka (.lst o)) := fun o => (m2'.mono (by simp)).upd (.inl (by simp)) fun xs z => by rw [hka3] at z; cases z
            refine ⟨_, rfl, a, CK, dx, _, _, rfl, m2' _ _ ha (.inl (by simp)), Kk.cl, Kk.nkids, rfl, _, rfl, ka, _, _, _, rfl, rfl, hka3, bit_ix b rfl, ?_⟩
            have uo : (AT.nd n d kb none .nil .nil).ok CK (upd H3 ka (.lst ([l.val, r.val].set (if b then 1 else 0) (.ref n)))) := ⟨(upd_ne nka.symm).trans e1, (upd_ne nkb.symm).trans e2, trivial, trivial⟩
            have hT : ∃ o, H2 TA = some o := ⟨_, hT2.trans ho1⟩
            have nTn : TA ≠ n := ne_of_none (hT2.trans ho1) hnn
            have nTk : TA ≠ kb := ne_of_none (hT2.trans ho1) hkb2
            obtain ⟨k1, k2, k3, k4⟩ := AT.kid_set hu nu hT (m23 _) (b := b) (u := .nd n d kb none .nil .nil) (by rw [upd_same]; cases b <;> rfl) uo (by simp [AT.fp, nTn, nTk, nnkb]) (fun z hz => by
              simp [AT.fp] at hz
              rcases hz with rfl | rfl
              · exact .inr hnn
              · exact .inr hkb2)
            have ekt : Tr.kid b l.tr r.tr = .nil := by rw [← AT.kid_tr, ek]; rfl
            refine ⟨_, _, rfl, ?_, ?_, k1, k2, fun z hz => ?_, ?_, ?_, ?_⟩
            · refine (m2.trans (Mod.mono m2' (by simp))).upd ?_ fun xs z => by rw [hka3] at z; cases z
              exact (fu ka (by simp [AT.fp])).imp (fun h => List.mem_cons_of_mem _ h) id
            · rw [upd_ne (ne_of (hT2.trans ho1) hka (by intro z; cases z))]
              rw [m2' _ _ (hT2.trans ho1) (.inl (by simp)), ho1]
            · rcases k3 z hz with h | h
              · exact fu z h
              · exact .inr (m2.free h)
            · cases b <;> (intro z; cases z)
            · rw [← hg, dr]
              show (AT.setk a dx ka g b l r (.nd n d kb none .nil .nil)).tr.get _ = _
              rw [AT.setk_tr]
              cases b
              · show (Tr.nd none .nil .nil).get _ = l.tr.get _
                rw [Tr.get_new, show l.tr = .nil from ekt, Tr.get_nil]
              · show (Tr.nd none .nil .nil).get _ = r.tr.get _
                rw [Tr.get_new, show r.tr = .nil from ekt, Tr.get_nil]
            · intro H5 u' m5 f1 f2 f3 f4 f5
              refine go H5 u' (k4.step m5 fun z hz => ?_) f1 f2 f3 ?_ fun z hz => ?_
              · rcases List.mem_cons.mp hz with rfl | hz
                · exact .inl List.mem_cons_self
                · exact (k3 z hz).imp (fun h => List.mem_cons_of_mem _ h) id
              · rw [f4, dr]
                show (AT.setk a dx ka g b l r (.nd n d kb none .nil .nil)).tr.put _ x = _
                rw [AT.setk_tr]
                cases b
                · show Tr.nd g (Tr.put (.nd none .nil .nil) _ x) r.tr = Tr.nd g (l.tr.put _ x) r.tr
                  rw [show l.tr = .nil from ekt, ← Tr.put_new]
                · show Tr.nd g l.tr (Tr.put (.nd none .nil .nil) _ x) = Tr.nd g l.tr (r.tr.put _ x)
                  rw [show r.tr = .nil from ekt, ← Tr.put_new]
              · rcases f5 z hz with h | h
                · exact k3 z h
                · exact .inr (k4.free h)
          · refine ⟨l, r, rfl, m2, hT2, hu, nu, fu, fun z => c (by rw [z]; rfl), hg, go⟩
        · rintro σ' H3 ⟨l2, r2, rfl, m3, hT3, hu3, nu3, fu3, hk3, hg3, go3⟩
          obtain ⟨ha, hka, hl, hr'⟩ := id hu3
          refine ⟨_, rfl, a, CK, dx, _, _, rfl, ha, Kk.cl, Kk.nkids, rfl, _, rfl, ka, _, _, _, rfl, rfl, SqL.of hka, atI_nat (AT.kid_val b l2 r2), ?_⟩
          have nk : (TA :: (AT.kid b l2 r2).fp).Nodup := by
            obtain ⟨n1, n2⟩ := List.nodup_cons.mp nu3
            refine List.nodup_cons.mpr ⟨fun z => n1 ?_, AT.kid_nd (List.nodup_cons.mp (List.nodup_cons.mp n2).2).2⟩
            have := AT.kid_fp z
            simp only [AT.fp, List.mem_cons]
            exact .inr (.inr this)
          have nTk : ka ∉ TA :: (AT.kid b l2 r2).fp := fun z => by
            obtain ⟨n1, n2⟩ := List.nodup_cons.mp nu3
            rcases List.mem_cons.mp z with e | z
            · exact n1 (by simp [AT.fp, e])
            · exact (List.nodup_cons.mp (List.nodup_cons.mp n2).2).1 (AT.kid_fp z)
          refine ⟨AT.kid b l2 r2, _, _, hk3, rfl, m3, hT3, AT.kid_ok hl hr', nk, fun z hz => fu3 z (by have := AT.kid_fp hz; simp only [AT.fp, List.mem_cons]; exact .inr (.inr this)), ?_, ?_⟩
          · rw [dr] at hg3
            rw [AT.kid_tr]
            exact hg3
          · intro H5 u' m5 f1 f2 f3 f4 f5
            obtain ⟨k1, k2, k3, k4⟩ := AT.kid_set hu3 nu3 ⟨_, hT3.trans ho1⟩ (b := b) (u := u') (m5.mono fun z hz => by
              rcases List.mem_cons.mp hz with rfl | hz
              · exact List.mem_cons_self
              · exact List.mem_cons_of_mem _ (List.mem_cons_of_mem _ hz)) (by
              rw [m5 _ _ hka (.inl nTk), f1]
              cases b <;> rfl) f2 f3 f5
            refine go3 H5 (AT.setk a dx ka g b l2 r2 u') k4 rfl k1 k2 ?_ k3
            rw [AT.setk_tr, f4, dr]
            cases b <;> rfl
      · rintro σ H2 ⟨u, v5, v6, hn, rfl, m2, hT2, hu, nu, fu, hg, go⟩
        have e : s.drop (tx s).cps.size = [] := List.drop_eq_nil_of_le (by show s.length ≤ (tx s).length; rw [tx_len]; exact Nat.le_refl _)
        rw [e] at hg go
        cases u with
        | nil => exact (hn rfl).elim
        | nd a dx ka g l r => exact ⟨a, dx, ka, g, l, r, v5, v6, rfl, m2, hT2, hu, nu, fu, hg, go⟩
    · rintro σ' H2 ⟨a, dx, ka, g, l, r, v5, v6, rfl, m2, hT2, hu, nu, fu, hg, go⟩
      obtain ⟨ha, hka, hl, hr'⟩ := id hu
      have hT2' := hT2.trans ho1
      have hcp := Tr.count_put x s t.tr
      have nTa : TA ≠ a := fun e => (List.nodup_cons.mp nu).1 (by simp [AT.fp, e])
      refine ⟨fun σ' H3 => σ' = [some (.ref TA), some (.str (tx s)), some (.int (x : Int)), some (.ref p1), some (.ref a), v5, v6] ∧ Mod [TA] H2 H3 ∧ H3 TA = some (.ins CT dT (tf v t (t.tr.put s x).count)), ?_, ?_⟩
      · refine ⟨_, rfl, a, CK, dx, _, _, rfl, ha, Kk.cl, Kk.ngoal, rfl, rfl, _, rfl, ?_⟩
        rw [ov_non]
        cases g with
        | none =>
          rw [← hg, if_pos rfl] at hcp
          refine iteT ⟨_, rfl, TA, CT, dT, _, _, rfl, hT2', Tt.cl, Tt.namount, rfl, _, _, rfl, rfl, _, _, hT2', (by show 3 < 1000; decide), rfl, Mod.refl.upd (.inl (by simp)) (fun xs z => by rw [hT2'] at z; cases z), ?_⟩
          rw [upd_same, hcp]
          rfl
        | some y =>
          rw [← hg, if_neg (by simp)] at hcp
          exact iteF ⟨rfl, Mod.refl, by rw [hcp]; exact hT2'⟩
      · rintro σ' H3 ⟨rfl, m3, hT3⟩
        have ha3 := m3 _ _ ha (.inl (by simp [nTa.symm]))
        have nak : a ≠ ka := ne_of ha hka (by intro z; cases z)
        refine ⟨_, rfl, _, rfl, a, CK, dx, _, rfl, ha3, Kk.cl, Kk.ngoal, (by show 2 < 1000; decide), ?_⟩
        have mu : Mod (TA :: (AT.nd a dx ka g l r).fp) H2 (upd H3 a (.ins CK dx (AT.kf ka (some x)))) := (m3.mono (by simp)).upd (.inl (by simp [AT.fp])) fun xs z => by rw [ha3] at z; cases z
        have okm : ∀ {u : AT}, (∀ z ∈ u.fp, z ∈ l.fp ++ r.fp) → u.ok CK H2 → u.ok CK (upd H3 a (.ins CK dx (AT.kf ka (some x)))) := fun {u} hz ou => by
          have m4 : Mod [TA, a] H2 (upd H3 a (.ins CK dx (AT.kf ka (some x)))) := (m3.mono (by simp)).upd (.inl (by simp)) fun xs z => by rw [ha3] at z; cases z
          refine AT.ok_mod ou m4 fun z hz2 => ?_
          have h3 := hz z hz2
          simp only [List.mem_cons, List.not_mem_nil, or_false, not_or]
          obtain ⟨n1, n2⟩ := List.nodup_cons.mp nu
          refine ⟨fun e => n1 ?_, fun e => (List.nodup_cons.mp n2).1 ?_⟩
          · rw [← e]; simp only [AT.fp, List.mem_cons]; exact .inr (.inr h3)
          · rw [← e]; exact List.mem_cons_of_mem _ h3
        obtain ⟨t', f1, f2, f3, f4, f5, f6⟩ := go (upd H3 a (.ins CK dx (AT.kf ka (some x)))) (.nd a dx ka (some x) l r) mu rfl ⟨upd_same, (upd_ne nak.symm).trans (m3 _ _ hka (.inl (by
            simp only [List.mem_singleton]
            exact fun e => (List.nodup_cons.mp nu).1 (by simp [AT.fp, e])))), okm (fun z h => List.mem_append.mpr (.inl h)) hl, okm (fun z h => List.mem_append.mpr (.inr h)) hr'⟩ nu rfl fun z h => .inl h
        have hT4 : (upd H3 a (.ins CK dx (AT.kf ka (some x)))) TA = some (.ins CT dT (tf v t' t'.tr.count)) := by
          rw [upd_ne nTa, hT3, f5]
          unfold tf
          rw [f2]
        have eH : upd H3 a (.ins CK dx (putF "goal" (.int (x : Int)) (AT.kf ka g))) = upd H3 a (.ins CK dx (AT.kf ka (some x))) := rfl
        rw [eH]
        generalize (upd H3 a (.ins CK dx (AT.kf ka (some x)))) = H4 at f1 f3 f6 hT4
        have htab : Tab CK CT H4 TA v t' := by
          refine ⟨⟨dT, hT4⟩, f3, f4, ?_, ?_, ht.w1, ht.w2, ?_⟩
          · rw [f5]; exact Tr.neat_put x ht.neat
          · rw [f5]; exact Tr.deep_put x ht.deep hs
          · rw [f5]
            have := Tr.size_put x s t.tr
            omega
        refine ⟨_, rfl, _, rfl, TA, dT, _, rfl, hT4, rfl, _, rfl, TA, v, t', s, rfl, htab, hs, fun H5 p2 s5 hp2 hL2 => ?_⟩
        have m5 : Mod (TA :: t.fp) H1 H5 := f1.thenSame s5
        have l1 := tells_len t.tr v s
        have l2 := tells_len t'.tr v s
        have hz2 := htab.sz
        have hz1 := ht.sz
        refine ⟨p1, p2, tells t.tr v s, tells t'.tr v s, fT t.tr v, fT t'.tr v, lo s v, hi s v + 1, rfl, hL1.modd m5 np1, hL2, tells_tl ht.deep hs, tells_tl htab.deep hs, (by omega), fun H6 o Df s6 ho6 hL3 hD => ?_⟩
        have m6 : Mod (TA :: t.fp) H H6 := (Mod.same s1).trans (m5.thenSame s6)
        refine k H6 o t' Df m6 (s1.free (m5.free ho6)) ((htab.same s5).free ho6) ((htab.same s5).same s6) f5 (fun z hz => (f6 z hz).imp id s1.free) hL3 ?_
        rw [f5] at hD
        exact hD
end
end Br

/-! bitroads.table: rows taken -/
namespace Br
open PySem PySem.Spec PyProof.Rows L2
open C8 (Cal Met Mak cal0 met0 mak0 pe_c pe_mk pe_mt pe_mt0 pe_gc Def)
section
variable {P : Program} {w : World} {K : PySem.W.Frag} {mg : Str → Option Value} {base : Heap} {CK CT : Addr}
end
end Br

/-! the laws' own defs: starts, roads, words; roads by rows -/
namespace Br
open PySem PySem.Spec PyProof.Rows L2
open C8 (Cal Met Mak cal0 met0 mak0 pe_c pe_mk pe_mt pe_mt0 pe_gc Def)
theorem cutS_tx (b : List Bool) (lo hi : Option Int) : cutS (tx b) lo hi = tx ((b.drop (HT.sIx b.length 0 lo)).take (HT.sIx b.length b.length hi - HT.sIx b.length 0 lo)) := by
  unfold cutS
  rw [tx_len]
  unfold tx
  simp
theorem mixed_lt (c k : Int) : mixed c k < 2147483629 := by unfold mixed; omega
theorem ofs_01 : (Str.ofString "01") = tx [false, true] := tx_01.symm
theorem ofs_10 : (Str.ofString "10") = tx [true, false] := tx_10.symm
def spLaw (K : PySem.W.Frag) : Sp := fun vs H Q _ => ∃ (a : Addr) (ns : List Int), vs = [.ref a] ∧ SqL K H a (ns.map V.int) ∧ ns.length ≤ 63 ∧ ∀ H', Q (.bl true) H'
def roadMax : Nat := 18446744073709551615
section
variable {P : Program} {w : World} {K : PySem.W.Frag} {mg : Str → Option Value} {base : Heap} {CK CT : Addr}
abbrev s_l_start : Stmt := top 41
abbrev n_l_start : List Str := ["_law_base", "_law_number", "_law_wide", "_law_size", "_law_at"]
theorem sc_l_start : FnScope n_l_start ["_law_base", "_law_number"] (C8.fnScope s_l_start) := ⟨rfl, rfl, rfl, by decide +kernel, rfl, by decide +kernel, by decide +kernel⟩
def spLStart : Sp := fun vs H Q _ => ∃ (b : List Bool) (n : Nat), vs = [.str (tx b), .int (n : Int)] ∧ b.length ≤ 64 ∧ ∀ H' s, Same H H' → s.length ≤ b.length → Q (.str (tx s)) H'
theorem c_l_start (T : Glob mg) (D : Dn K mg "_law_start" s_l_start ["_law_base", "_law_number"]) : Cal P w K mg base 1 "_law_start" spLStart [] := by
  refine D.cal sc_l_start (fun vs H Q E h => ?_) (fun f cdv A outer s H vs Q E hr h => ?_)
  · obtain ⟨b, n, rfl, _⟩ := h
    rfl
  · obtain ⟨b, n, rfl, hb, k⟩ := h
    refine ⟨_, (pss_cons (ps_set (i := 2) sc_l_start.nd rfl (by first | exact Or.inl rfl | exact Or.inr rfl) (pe_callB call_len_str (by rfl) T.g_len boot_len (pa_cons (pv 0) pa_nil)))
      (pss_cons (ps_set (i := 3) sc_l_start.nd rfl (by first | exact Or.inl rfl | exact Or.inr rfl) (pe_ix ix_list (pe_lst (pa_cons (pe_op op_mod (pe_op op_fdiv (pv 1) pe_int) (pe_op op_add (pv 2) pe_int)) (pa_cons (pe_callB (call_min2 rfl) (by rfl) T.g_min (by decide +kernel) (pa_cons (pv 2) (pa_cons (pe_op op_mod (pe_op op_fdiv (pv 1) pe_int) pe_int) pa_nil))) (pa_cons (pe_callB (call_max2 rfl) (by rfl) T.g_max (by decide +kernel) (pa_cons pe_int (pa_cons (pe_op op_sub (pv 2) (pe_op op_mod (pe_op op_fdiv (pv 1) pe_int) pe_int)) pa_nil))) pa_nil)))) (pe_op op_mod (pv 1) pe_int) (fun _ _ => rfl)))
      (pss_cons (ps_set (i := 4) sc_l_start.nd rfl (by first | exact Or.inl rfl | exact Or.inr rfl) (pe_op op_mod (pe_op op_fdiv (pv 1) pe_int) (pe_callB (call_max2 rfl) (by rfl) T.g_max (by decide +kernel) (pa_cons pe_int (pa_cons (pv 3) pa_nil)))))
      (pss_cons (ps_if (PW.pt (pw_or (pt_cmpR op_eq (pv 3) pe_int (nomark _)) (pw_or1 (pt_cmpR op_eq (pe_op op_mod (pe_op op_fdiv (pv 1) pe_int) pe_int) pe_int (nomark _)))))
      (pss_one (ps_ret (pe_slice sl_str (pv 0) po_none (po_some (pv 3)))))
      pss_nil)
      (pss_one (ps_ret (pe_op op_add_str (pe_op op_add_str (pe_slice sl_str (pv 0) po_none (po_some (pv 4))) (pe_ix ix_str pe_str (pe_m1 PySem.F.slot_str_index PySem.F.type_str_index mt_sindex pe_str (pe_ix ix_str (pv 0) (pv 4) (fun _ _ => rfl))) (fun _ _ => rfl))) (pe_slice sl_str (pv 0) (po_some (pe_op op_add (pv 4) pe_int)) (po_some (pv 3)))))))))), ?_⟩
    have lb : (tx b).length ≤ sizeLine := by rw [tx_len]; exact Nat.le_trans hb (by decide)
    have eb : (((tx b).length : Nat) : Int) = (b.length : Int) := by rw [tx_len]
    refine ⟨_, rfl, _, rfl, lb, ?_⟩
    rw [eb]
    refine ⟨_, rfl, _, _, rfl, rfl, ⟨by decide, by decide⟩, _, rfl, _, _, rfl, rfl, _, _, rfl, rfl, (by show (0 : Int) < (b.length : Int) + 1; omega), ?_⟩
    refine ⟨_, rfl, _, rfl, _, _, rfl, rfl, ⟨by decide, by decide⟩, _, _, rfl, rfl, (by show (0 : Int) < 5; decide), _, _, rfl, ?_⟩
    refine ⟨_, rfl, _, rfl, _, _, rfl, rfl, ⟨by decide, by decide⟩, _, _, rfl, rfl, (by show (0 : Int) < 4; decide), _, _, rfl, rfl, _, _, rfl, ?_⟩
    refine ⟨(by show 3 ≤ sizeLine; decide), fun p hp => ?_⟩
    obtain ⟨z, hz, hzl⟩ : ∃ z : Nat, atI [V.int ((n : Int) / 7 % ((b.length : Int) + 1)), V.int (if (n : Int) / 7 % 5 < (b.length : Int) then (n : Int) / 7 % 5 else (b.length : Int)), V.int (if (b.length : Int) - (n : Int) / 7 % 4 > 0 then (b.length : Int) - (n : Int) / 7 % 4 else 0)] ((n : Int) % 3) = some (V.int (z : Int)) ∧ z ≤ b.length := by
      have e3 : (n : Int) % 3 = ((n % 3 : Nat) : Int) := by omega
      rw [e3]
      have h3 : n % 3 < 3 := Nat.mod_lt _ (by decide)
      generalize n % 3 = j at h3
      match j, h3 with
      | 0, _ => exact ⟨n / 7 % (b.length + 1), atI_nat (j := 0) (by
          show some (V.int ((n : Int) / 7 % ((b.length : Int) + 1))) = _
          rw [show (n : Int) / 7 % ((b.length : Int) + 1) = ((n / 7 % (b.length + 1) : Nat) : Int) by push_cast; rfl]), Nat.lt_succ_iff.mp (Nat.mod_lt _ (Nat.succ_pos _))⟩
      | 1, _ => exact ⟨(if (n : Int) / 7 % 5 < (b.length : Int) then (n : Int) / 7 % 5 else (b.length : Int)).toNat, atI_nat (j := 1) (by
          show some (V.int _) = some (V.int _)
          congr 2
          split <;> omega), by split <;> omega⟩
      | 2, _ => exact ⟨(if (b.length : Int) - (n : Int) / 7 % 4 > 0 then (b.length : Int) - (n : Int) / 7 % 4 else 0).toNat, atI_nat (j := 2) (by
          show some (V.int _) = some (V.int _)
          congr 2
          split <;> omega), by split <;> omega⟩
    have s1 : Same H (upd H p (.lst [V.int ((n : Int) / 7 % ((b.length : Int) + 1)), V.int (if (n : Int) / 7 % 5 < (b.length : Int) then (n : Int) / 7 % 5 else (b.length : Int)), V.int (if (b.length : Int) - (n : Int) / 7 % 4 > 0 then (b.length : Int) - (n : Int) / 7 % 4 else 0)])) := Same_upd (Same.refl H) hp
    refine ⟨_, rfl, _, _, rfl, rfl, (by show (0 : Int) < 3; decide), p, _, _, _, rfl, rfl, SqL.of upd_same, hz, ?_⟩
    generalize (upd H p _) = H1 at s1 ⊢
    have emax : (if ((z : Nat) : Int) > 1 then ((z : Nat) : Int) else 1) = ((max 1 z : Nat) : Int) := by split <;> omega
    refine ⟨_, rfl, _, _, rfl, rfl, ⟨by decide, by decide⟩, _, rfl, _, _, rfl, ?_⟩
    rw [emax]
    refine ⟨_, _, rfl, rfl, (by show (0 : Int) < ((max 1 z : Nat) : Int); omega), ?_⟩
    have eat : (n : Int) / 500 % ((max 1 z : Nat) : Int) = ((n / 500 % max 1 z : Nat) : Int) := by push_cast; rfl
    have hat : n / 500 % max 1 z < max 1 z := Nat.mod_lt _ (by omega)
    dsimp only
    rw [eat]
    generalize n / 500 % max 1 z = j at hat
    have take1 : cutS (tx b) none (some ((z : Nat) : Int)) = tx (b.take z) := by
      rw [cutS_tx, HT.sIx_none, HT.sIx_nat, Nat.sub_zero, List.drop_zero, Nat.min_eq_left (by omega)]
    refine ⟨_, rfl, rfl, _, rfl, ?_⟩
    refine ite2 (fun c => ?_) fun c => ?_
    · refine iteT ⟨_, rfl, _, rfl, _, rfl, tx b, rfl, lb, ?_⟩
      rw [take1]
      exact k _ _ s1 (by rw [List.length_take]; omega)
    · have hz0 : z ≠ 0 := fun e => c (by rw [e]; rfl)
      refine ⟨_, rfl, _, _, rfl, rfl, ⟨by decide, by decide⟩, _, _, rfl, rfl, (by show (0 : Int) < 3; decide), rfl, _, rfl, ?_⟩
      refine ite2 (fun c2 => ?_) fun c2 => ?_
      · refine ⟨_, rfl, _, rfl, _, rfl, tx b, rfl, lb, ?_⟩
        rw [take1]
        exact k _ _ s1 (by rw [List.length_take]; omega)
      · have hj : j < z := by omega
        obtain ⟨y, hy⟩ : ∃ y, b[j]? = some y := ⟨b[j], List.getElem?_eq_getElem (by omega)⟩
        have take2 : cutS (tx b) none (some ((j : Nat) : Int)) = tx (b.take j) := by
          rw [cutS_tx, HT.sIx_none, HT.sIx_nat, Nat.sub_zero, List.drop_zero, Nat.min_eq_left (by omega)]
        have ej : ((j : Nat) : Int) + 1 = ((j + 1 : Nat) : Int) := by omega
        have take3 : cutS (tx b) (some (((j : Nat) : Int) + 1)) (some ((z : Nat) : Int)) = tx ((b.drop (j + 1)).take (z - (j + 1))) := by
          rw [ej, cutS_tx, HT.sIx_nat, HT.sIx_nat, Nat.min_eq_left (by omega), Nat.min_eq_left (by omega)]
        refine ⟨_, rfl, _, rfl, _, rfl, tx b, rfl, lb, ⟨_, rfl⟩, _, rfl, _, rfl, _, _, bc y, rfl, rfl, lb, ?_, _, _, (if y then 1 else 0), [], rfl, rfl, ?_, ?_⟩
        · rw [tx_cps]
          exact atI_nat (by rw [List.getElem?_map, hy]; rfl)
        · rw [ofs_01]
          exact bits_index y
        · refine ⟨_, _, bc (!y), rfl, rfl, (by decide +kernel), ?_, _, _, rfl, rfl, ?_, _, rfl, _, rfl, _, _, rfl, rfl, _, rfl, _, rfl, _, rfl, tx b, rfl, lb, ?_⟩
          · rw [ofs_10, tx_cps]
            refine atI_nat ?_
            cases y <;> rfl
          · rw [take2, tx_len]
            refine Nat.le_trans (m := 64 + 1) (Nat.add_le_add (by rw [List.length_take]; omega) (Nat.le_refl 1)) (by decide)
          · rw [take2, take3, tx_one, tx_append]
            refine ⟨_, _, rfl, rfl, ?_, ?_⟩
            · rw [tx_len, tx_len, List.length_append, List.length_take, List.length_take]
              exact Nat.le_trans (m := 200) (by simp only [List.length_singleton]; omega) (by decide)
            · rw [tx_append]
              refine k _ _ s1 ?_
              simp only [List.length_append, List.length_take, List.length_drop, List.length_singleton]
              omega
abbrev s_l_roads : Stmt := top 42
abbrev n_l_roads : List Str := ["_law_seed"]
theorem sc_l_roads : FnScope n_l_roads ["_law_seed"] (C8.fnScope s_l_roads) := ⟨rfl, rfl, rfl, by decide +kernel, rfl, by decide +kernel, by decide +kernel⟩
def spLRoads : Sp := fun vs H Q _ => ∃ n : Nat, vs = [.int (n : Int)] ∧ ∀ H' p (rs : List Nat), Same H H' → H p = none → H' p = some (.lst (rs.map fun r : Nat => V.int (r : Int))) → rs.length = 3 → (∀ r ∈ rs, r ≤ roadMax) → Q (.ref p) H'
theorem c_l_roads (T : Glob mg) (D : Dn K mg "_law_roads" s_l_roads ["_law_seed"]) (c_l_mixed : Cal P w K mg base 1 "_law_mixed" spMixed []) : Cal P w K mg base 2 "_law_roads" spLRoads [] := by
  refine D.cal sc_l_roads (fun vs H Q E h => ?_) (fun f cdv A outer s H vs Q E hr h => ?_)
  · obtain ⟨n, rfl, _⟩ := h
    rfl
  · obtain ⟨n, rfl, k⟩ := h
    refine ⟨_, (pss_one (ps_ret (pe_lst (pa_cons (pe_op op_mod (pe_op op_mul (pe_c c_l_mixed hr (by first | decide | omega) rfl (pa_cons (pv 0) (pa_cons pe_int pa_nil))) pe_int) (pe_op op_pow pe_int pe_int)) (pa_cons (pe_ix ix_list (pe_lst (pa_cons pe_int (pa_cons pe_int (pa_cons (pe_op op_sub (pe_op op_pow pe_int pe_int) pe_int) pa_nil)))) (pe_op op_mod (pv 0) pe_int) (fun _ _ => rfl)) (pa_cons (pe_op op_mod (pe_c c_l_mixed hr (by first | decide | omega) rfl (pa_cons (pv 0) (pa_cons pe_int pa_nil))) pe_int) pa_nil)))))), ?_⟩
    have m1 := mixed_lt (n : Int) 90
    have m2 := mixed_lt (n : Int) 91
    refine ⟨_, rfl, (n : Int), 90, rfl, ⟨by decide, by decide⟩, _, _, rfl, rfl, .inl ⟨by omega, by omega⟩, _, _, rfl, rfl, ⟨by decide, by decide, by decide⟩, _, _, rfl, rfl, (by show (0 : Int) < 2 ^ 64; decide), ?_⟩
    refine ⟨_, _, rfl, rfl, ⟨by decide, by decide, by decide⟩, _, _, rfl, rfl, (by show 3 ≤ sizeLine; decide), fun p hp => ?_⟩
    have h3 : n % 3 < 3 := Nat.mod_lt _ (by decide)
    obtain ⟨z, hz, hzl⟩ : ∃ z : Nat, atI [V.int 0, V.int 1, V.int (2 ^ (64 : Int).toNat - 1)] ((n : Int) % 3) = some (V.int (z : Int)) ∧ z ≤ roadMax := by
      have e3 : (n : Int) % 3 = ((n % 3 : Nat) : Int) := by omega
      rw [e3]
      generalize n % 3 = j at h3
      match j, h3 with
      | 0, _ => exact ⟨0, atI_nat (j := 0) rfl, by decide⟩
      | 1, _ => exact ⟨1, atI_nat (j := 1) rfl, by decide⟩
      | 2, _ => exact ⟨roadMax, atI_nat (j := 2) rfl, by decide⟩
    refine ⟨_, rfl, _, _, rfl, rfl, (by show (0 : Int) < 3; decide), p, _, _, _, rfl, rfl, SqL.of upd_same, hz, ?_⟩
    have s1 : Same H (upd H p (.lst [V.int 0, V.int 1, V.int (2 ^ (64 : Int).toNat - 1)])) := Same_upd (Same.refl H) hp
    refine ⟨_, rfl, (n : Int), 91, rfl, ⟨by decide, by decide⟩, _, _, rfl, rfl, (by show (0 : Int) < 5; decide), (by show 3 ≤ sizeLine; decide), fun q hq => ?_⟩
    refine k _ q [mixed (n : Int) 90 * 8589934583 % 2 ^ 64, z, mixed (n : Int) 91 % 5] (Same_upd s1 hq) (s1.free hq) ?_ rfl ?_
    · rw [upd_same]
      have e64 : (2 : Int) ^ (64 : Int).toNat = 18446744073709551616 := by decide
      have e64' : (2 : Nat) ^ 64 = 18446744073709551616 := by decide
      have a1 : ((mixed (n : Int) 90 : Nat) : Int) * 8589934583 % 2 ^ (64 : Int).toNat = ((mixed (n : Int) 90 * 8589934583 % 2 ^ 64 : Nat) : Int) := by rw [e64, e64']; omega
      have a3 : ((mixed (n : Int) 91 : Nat) : Int) % 5 = ((mixed (n : Int) 91 % 5 : Nat) : Int) := by omega
      dsimp only
      rw [a1, a3]
      rfl
    · intro r hr
      simp only [List.mem_cons, List.not_mem_nil, or_false] at hr
      rcases hr with e | e | e
      · rw [e]
        have h := Nat.mod_lt (mixed (n : Int) 90 * 8589934583) (show 0 < 18446744073709551616 by decide)
        rw [show (2 : Nat) ^ 64 = 18446744073709551616 by decide]
        exact Nat.le_of_lt_succ h
      · rw [e]
        exact hzl
      · rw [e]
        exact Nat.le_trans (Nat.le_of_lt (Nat.mod_lt _ (by decide))) (by decide : 5 ≤ roadMax)
end
end Br

/-! Rules: set(list of ints), sorted(set of ints) of any size. The first follows the hand layer's rule for a tuple. -/
namespace Br
open PySem PySem.Spec PyProof.Rows L2
section
variable {P : Program} {w : World} {A : Around} {E : Value → Shared → Prop} {s : Shared}
set_option maxHeartbeats 6400000 in
theorem call_set_ints {l : Addr} {items : Array Value} (ns : List Int) {Q : Value → Shared → Prop} (hh : A.handled = none) (hl : s.heap.IsList l items) (hit : IntsAre items.toList ns) (hb : ns.length + 1 < scanBound)
    (h : ∀ (h' : Heap) (tk c : Nat), SetR w h' s.heap.objs.size (fun j => decide (j ∈ ns)) c → c ≤ ns.length → (∀ b o, s.heap.get? b = some o → h'.get? b = some o) → Q (.ref s.heap.objs.size) { s with heap := h', toks := tk }) :
    wpAny (model P w) A (call (.type "set") [.ref l]) Q E s := by
  have hisz : items.size = ns.length := by have q := IntsAre.length hit; rw [Array.length_toList] at q; exact q
  let o0 : Obj := { cls := .type "set", dict := none, data := .set #[] 0 (.fresh 0 0 (!w.params.followText "set-order")) }
  have hS : (s.heap.push o0).get? s.heap.objs.size = some o0 := Heap.get?_push_size _ rfl
  obtain ⟨c, tl, hmro⟩ := F.called_set.mro
  have hmade := F.called_set.made
  have hsub := F.called_set.sub
  refine wpAny_call (codeAny_of_tree ?_)
  show wpAny _ _ (callAny (.type "set") _) _ _ _
  refine wpAny_pure ⟨Code.quiet_builtin _ (by decide +kernel), codeAny_builtin F.entry_type_call ?_⟩
  rw [Around.under_plain (weight_type_call_type "set" [.ref l] []) rfl]
  have h1 := F.called_set.notType
  have h2 := F.called_set.canCreate
  have hct := F.typeCall_set_1 (.ref l)
  repeat (any_goals (first | assumption | wp_step))
  refine codeAny_mono (code_set_led1 (.ref l) (E := E) (Q₁ := fun obj s₁ => obj = .ref s.heap.objs.size ∧ s₁ = { s with heap := s.heap.push o0 }) ⟨rfl, rfl⟩) fun r s₁ hr => ?_
  cases r with
  | error e => exact hr
  | ok fl =>
    cases fl with
    | ret obj =>
      obtain ⟨rfl, rfl⟩ := hr
      have hT : Shared.TypeIs { s with heap := s.heap.push o0 } (.ref s.heap.objs.size) "set" := ⟨_, hS, rfl⟩
      have hli := F.called_set.init.lookup
      have hbi := F.called_set.init.bind (.ref s.heap.objs.size)
      repeat (any_goals (first | assumption | wp_step))
      refine codeAny_mono (codeAny_call_builtin (R := wants (fun r s₂ => r = .none ∧ ∃ h' tk c, s₂ = { s with heap := h', toks := tk } ∧ SetR w h' s.heap.objs.size (fun j => decide (j ∈ ns)) c ∧ c ≤ ns.length ∧
          (∀ b o, s.heap.get? b = some o → h'.get? b = some o)) E) F.called_set.init.plain F.entry_set_init (check_set_init_1 hT ?_)) fun r₂ s₂ hr₂ => ?_
      · obtain ⟨ol, hol, hcl, nl, hdl⟩ := hl
        obtain ⟨ocls, odict, odata, oslots⟩ := ol
        simp only at hcl hdl
        subst hcl; subst hdl
        have hol' : (s.heap.push o0).get? l = some { cls := .type "list", dict := odict, data := .seq items nl, slots := oslots } := Heap.get?_push_of_some _ hol
        have hsls := F.sub_list_set
        have hslf := F.sub_list_frozenset
        have hne : (Value.type "list" == Value.type "dict") = false := by decide
        have hl1 : (s.heap.push o0).IsList l items := ⟨_, hol', rfl, nl, rfl⟩
        unfold Builtin.«set.__init__» noKeywords Builtin.Frozenset.updateFrom
        generalize hPI : pyIter = PI
        wp_walk
        subst hPI
        refine wpAny_pyIter_list hl1 ?_
        refine wpAny_bind (wpAny_runValue ?_)
        have hlS : l < s.heap.objs.size := Heap.lt_size hol
        have hh3 : A.in1.in1.in1.handled = none := by simp [hh]
        have hz1 : (s.heap.push o0).objs.size = s.heap.objs.size + 1 := Heap.size_push ..
        have hneI : l ≠ (s.heap.push o0).objs.size := by rw [hz1]; exact Nat.ne_of_lt (Nat.lt_succ_of_lt hlS)
        have hSf : s.heap.objs.size ∉ [(s.heap.push o0).objs.size, l] := by
          rw [hz1]
          simp only [List.mem_cons, List.mem_singleton, List.not_mem_nil, or_false, not_or]
          exact ⟨Nat.ne_of_lt (Nat.lt_succ_self _), Nat.ne_of_gt hlS⟩
        have hval : ∀ (i : Nat) (v : Value), items[i]? = some v → ∃ k t, ns[i]? = some k ∧ v = .int k t := fun i v hv => by
          have hi : i < ns.length := by rw [← hisz]; exact (Array.getElem?_eq_some_iff.mp hv).1
          obtain ⟨t, e⟩ := PyProof.Rows.IntsAre.int_at hit i v (by rw [Array.getElem?_toList]; exact hv)
          refine ⟨ns[i], t, List.getElem?_eq_getElem hi, ?_⟩
          rw [e, List.getD_eq_getElem?_getD, List.getElem?_eq_getElem hi] <;> rfl
        refine set_update_ints ((Walks.list hh3 _ l hneI items).toS) s.heap.objs.size hSf ns hisz hb hval (items.size - 0) 0 _ (by omega) (Nat.zero_le _)
          ⟨⟨_, Heap.get?_push_size _ rfl, rfl, rfl⟩, (hl1.push _)⟩ ?hS0 ?hR
        case hS0 =>
          have hget : ((s.heap.push o0).push { cls := .type "list_iterator", data := .fields #[.ref l, .int 0 0] }).get? s.heap.objs.size = some o0 := Heap.get?_push_of_some _ hS
          exact ⟨0, Nat.le_refl 0, setR_new_at hget⟩
        case hR =>
          intro s' c' hm hc' hS'
          obtain ⟨h', g2, d', tk', os'⟩ := s'
          have eg : g2 = s.gens := hm.gens
          have ed : d' = s.drawn := hm.drawn
          have eo : os' = s.os := hm.os
          subst eg; subst ed; subst eo
          show wpAny _ _ _ _ _ _
          refine wpAny_pure ?_
          show wpAny _ _ (ret Value.none) _ _ _
          rw [hisz] at hc'
          refine wpAny_pure ⟨rfl, h', tk', c', rfl, hS', hc', fun b o e => ?_⟩
          have hb0 : b < s.heap.objs.size := Heap.lt_size e
          exact hm.heap b o (by
            simp only [List.mem_cons, List.mem_singleton, List.not_mem_nil, or_false, not_or]
            exact ⟨Nat.ne_of_lt hb0, by rw [hz1]; exact Nat.ne_of_lt (Nat.lt_succ_of_lt hb0)⟩) (Heap.get?_push_of_some _ (Heap.get?_push_of_some _ e))
      · cases r₂ with
        | error e => exact hr₂
        | ok fl₂ =>
          cases fl₂ with
          | ret r =>
            obtain ⟨rfl, h', tk, c', rfl, hS', hc', hk'⟩ := hr₂
            repeat (any_goals (first | assumption | wp_step))
            exact h _ _ _ hS' hc' hk'
          | _ => exact hr₂.elim
    | _ => exact hr.elim
/-- sorted(set of ints), however many -/
theorem sorted_setN {a : Addr} {S : Int → Bool} {n : Nat} {Q : Value → Shared → Prop} (R : SetR w s.heap a S n) (hh : A.handled = none) (hn : n ≤ 4000)
    (hQ : ∀ s' p (out : Array Value) (c : Nat) (ns : List Int), (∀ b o, s.heap.get? b = some o → s'.heap.get? b = some o) → s'.gens = s.gens → s'.os = s.os → s.heap.objs.size ≤ p →
      s'.heap.get? p = some (seqObj "list" out c) → IntsAre out.toList ns → ns.Pairwise (· < ·) → (∀ k, k ∈ ns ↔ S k = true) → ns.length = n → Q (.ref p) s') :
    wpAny (model P w) A (call (.builtin "sorted") [.ref a]) Q E s := by
  obtain ⟨o, es, ep, t, ho, hex, hd, g, nd, hm, hb, hf, hsz, hr, hl⟩ := R
  refine Calls.call_function_entry kind_sorted plain_sorted entry_sorted (args_sorted1 _) ?_
  unfold Builtin.«sorted»
  refine wpAny_bind (m := checkCount "sorted" 1 1 _) (wpAny_pure ?_)
  refine wpAny_bind (collect_set (A := A.in1) hh ⟨o, ho, hex.1, hd⟩ hf hb hr hl fun s1 vs k1 hz g1 o1 pm => ?_)
  have hvl : vs.length = n := by rw [pm.length_eq, List.length_map, Array.length_toList]; exact hsz
  have hI : IntsAre vs (vs.map Builtin.Re.reRawOf) := ints_of vs fun v hv => by
    obtain ⟨e, he, q⟩ := List.mem_map.mp (pm.mem_iff.mp hv)
    obtain ⟨k, tk, h1, _⟩ := g e he
    exact ⟨k, tk, by rw [← q]; exact h1⟩
  have pk : (vs.map Builtin.Re.reRawOf).Perm (es.toList.map keyOf) := by
    have q := pm.map Builtin.Re.reRawOf
    rw [List.map_map] at q
    exact q
  have hfit : vs.length ≤ sizeLine := by rw [hvl, sizeLine_eq]; omega
  refine wpAny_bind (wpAny_newList ?_ hfit)
  have hoL : (s1.heap.push (seqObj "list" vs.toArray 0)).get? s1.heap.objs.size = some (seqObj "list" vs.toArray 0) := Heap.get?_push_size _ rfl
  refine wpAny_bind (wpAny_holding (wpAny_call_entry slot_list_sort ⟨_, hoL, rfl⟩ entry_list_sort
    (SrtO.list_sort_ord SrtO.swo_int hoL hfit (fun h2 => SrtO.ints_sortable hI h2) fun out h1 h2 => ⟨_, rfl, ?_⟩) (args_list_sort _)))
  obtain ⟨a1, a2, a3⟩ := SrtO.ints_out hI h1 h2
  obtain ⟨c, hc⟩ := sortedHeap_at (vs := vs) (out := out.toArray) hoL
  have pn : (out.map SrtO.iv).Perm (es.toList.map keyOf) := a2.trans pk
  refine wpAny_pure ⟨_, rfl, hQ _ s1.heap.objs.size out.toArray c (out.map SrtO.iv) (fun b u e => ?_) g1 o1 hz hc (by simpa using a1) (lt_of_le_nodup _ a3 (pn.nodup_iff.mpr nd)) (fun k => by rw [pn.mem_iff, ← hm k]) ?_⟩
  · have q := k1 b u e
    have hlt := Heap.lt_size q
    show (sortedHeap (s1.heap.push (seqObj "list" vs.toArray 0)) s1.heap.objs.size vs out.toArray).get? b = some u
    rw [sortedHeap_old (Nat.ne_of_lt hlt) (by rw [size_push']; exact Nat.lt_succ_of_lt hlt)]
    exact Heap.get?_push_of_some _ q
  · rw [pn.length_eq, List.length_map, Array.length_toList]; exact hsz
end
section
variable {X : Cx}
/-- set(xs), ints -/
theorem cr_setI (hc : X.calm = true) : CallR X (.type "set") (fun vs H Q => ∃ (l : Addr) (ns : List Int), vs = [V.ref l] ∧ SqL X.K H l (ns.map V.int) ∧ ns.length ≤ 1000 ∧
    ∀ (p : Addr) (c : Nat), c ≤ ns.length → H p = none → Q (.ref p) (upd H p (SetO X.w p (fun j => decide (j ∈ ns)) c))) := by
  intro pins s σ H vs us Q I r h
  obtain ⟨l, ns, rfl, hq, hl, q⟩ := h
  rw [Vals.ref1 r]
  obtain ⟨its, rv, pt, hz⟩ := I.list hq
  refine call_set_ints ns (I.ok.hd hc) pt.isList (by simpa using ints_of_vals rv) (by unfold scanBound; omega) fun h' tk c R1 hcn k => ?_
  exact ⟨.ref _, upd H s.heap.objs.size (SetO X.w s.heap.objs.size (fun j => decide (j ∈ ns)) c), I.laid (t' := tk) k (Nat.le_refl _) (setO_new R1), rfl, q _ c hcn (I.hok.fresh (Nat.le_refl _))⟩
/-- sorted(set) -/
theorem cr_sortedSetN (hc : X.calm = true) : CallR X (.builtin "sorted") (fun vs H Q => ∃ (a : Addr) (S : Int → Bool) (n : Nat), vs = [V.ref a] ∧ H a = some (SetO X.w a S n) ∧ n ≤ 4000 ∧
    ∀ (ns : List Int) (p : Addr), ns.Pairwise (· < ·) → (∀ k : Int, k ∈ ns ↔ S k = true) → ns.length = n → H p = none → Q (.ref p) (upd H p (.lst (ns.map V.int)))) := by
  intro pins s σ H vs us Q I r h
  obtain ⟨a, S, n, rfl, ha, hn4, q⟩ := h
  have R := setO_get I ha
  rw [Vals.ref1 r]
  refine sorted_setN R (I.ok.hd hc) hn4 fun s' p out c ns k g o hp hg hi hs hm hl => ?_
  have hlen : (ns.map V.int).length ≤ sizeLine := by rw [List.length_map, hl, sizeLine_eq]; omega
  have hn : H p = none := I.hok.fresh hp
  have J : Inv X pins σ (upd H p (.lst (ns.map V.int))) { s with heap := s'.heap, gens := s'.gens, drawn := s'.drawn, toks := s'.toks } :=
    I.call (ch := []) (Un.laid k hp hn) (I.hok.laid k hp ⟨hlen, out.toList, c, vals_of_ints hi, hg⟩) (by rw [g]; exact I.bare) (fun _ z => nomatch z)
  have e : s' = { s with heap := s'.heap, gens := s'.gens, drawn := s'.drawn, toks := s'.toks } := by
    cases s'
    cases s
    cases o
    rfl
  rw [e]
  exact ⟨.ref p, _, J, rfl, q ns p hs hm hl hn⟩
end
end Br

/-! what is plain; rows drawn, tables made of them -/
namespace Br
open PySem PySem.Spec PyProof.Rows L2
open C8 (Cal Met Mak cal0 met0 mak0 pe_c pe_mk pe_mt pe_mt0 pe_gc Def)
/-- a number or None -/
def nob : V → Bool
  | .int _ => true | .non => true | _ => false
theorem nob_ov (g : Option Nat) : nob (ov g) = true := by cases g <;> rfl
theorem nob_ty {K : PySem.W.Frag} {H : Hp} {x : V} (h : nob x = true) : ∃ n, TyX K H x (.type n) ∧ PySem.W.kitOne K (.type n) (.type "bool") = some false := by
  cases x with
  | int i => exact ⟨_, .base (.int i), kit_ty (r := false) (by decide +kernel)⟩
  | non => exact ⟨_, .base .non, kit_ty (r := false) (by decide +kernel)⟩
  | _ => cases h
theorem nob3 {L : List St3} : ∀ row ∈ L.map row3, row.all nob = true := fun row h => by
  obtain ⟨⟨a, l, r⟩, _, rfl⟩ := List.mem_map.mp h
  cases r <;> rfl
theorem nob4 {L : List Df4} : ∀ row ∈ L.map row4, row.all nob = true := fun row h => by
  obtain ⟨⟨a, l, r, q⟩, _, rfl⟩ := List.mem_map.mp h
  cases r <;> cases q <;> rfl
theorem rput_new {rows : RowL} {s : List Bool} (x : Nat) (h : rget rows s = none) : rput rows s x = rows ++ [(s, x)] := by
  unfold rput
  rw [rany, h]
  rfl
section
variable {P : Program} {w : World} {K : PySem.W.Frag} {mg : Str → Option Value} {base : Heap} {CK CT : Addr}
/-- rows that may be put -/
structure RowsOk (v : Nat) (rows : RowL) : Prop where
  nd : (rows.map (·.1)).Nodup
  len : ∀ r ∈ rows, r.1.length ≤ v
  max : ∀ r ∈ rows, r.2 ≤ roadMax
theorem RowsOk.put {v : Nat} {rows : RowL} (h : RowsOk v rows) {s : List Bool} {x : Nat} (hs : s.length ≤ v) (hx : x ≤ roadMax) : RowsOk v (rput rows s x) := by
  refine ⟨?_, Wd.put_len h.len hs x, fun r hr => ?_⟩
  · rw [rput_keys]
    split
    · exact h.nd
    · rename_i hn
      refine List.nodup_append.mpr ⟨h.nd, by simp, fun a ha b hb e => ?_⟩
      have hb : b = s := by simpa using hb
      have hs : rget rows s = none := by
        cases q : rget rows s with
        | none => rfl
        | some y => rw [q] at hn; exact (hn rfl).elim
      exact rget_none.mp hs (by rw [← hb, ← e]; exact ha)
  · unfold rput at hr
    split at hr
    · obtain ⟨r', hr', rfl⟩ := List.mem_map.mp hr
      split
      · exact hx
      · exact h.max r' hr'
    · rcases List.mem_append.mp hr with hr | hr
      · exact h.max r hr
      · rw [List.mem_singleton.mp hr]; exact hx
theorem RowsOk.drop {v : Nat} {rows : RowL} (h : RowsOk v rows) (s : List Bool) : RowsOk v (rdrop rows s) :=
  ⟨List.Nodup.sublist (List.Sublist.map _ List.filter_sublist) h.nd, Wd.drop_len h.len s, fun r hr => h.max r (List.mem_filter.mp hr).1⟩
theorem RowsOk.get {v : Nat} {rows : RowL} (h : RowsOk v rows) {r : List Bool × Nat} (hr : r ∈ rows) : rget rows r.1 = some r.2 := by
  have hn := h.nd
  clear h
  induction rows with
  | nil => cases hr
  | cons r0 rows ih =>
    rw [rget_cons]
    obtain ⟨n1, n2⟩ := List.nodup_cons.mp hn
    rcases List.mem_cons.mp hr with e | hr
    · rw [e, if_pos rfl]
    · rw [if_neg fun e => n1 (by show r0.1 ∈ _; rw [e]; exact List.mem_map.mpr ⟨r, hr, rfl⟩)]
      exact ih hr n2
abbrev s_l_drawn : Stmt := top 43
abbrev n_l_drawn : List Str := ["_law_cells", "_law_seed", "_law_wide", "_law_base", "_law_roads_here", "_law_rows", "_law_k", "_law_cell", "_law_number", "_law_start_here"]
theorem sc_l_drawn : FnScope n_l_drawn ["_law_cells", "_law_seed", "_law_wide"] (C8.fnScope s_l_drawn) := ⟨rfl, rfl, rfl, by decide +kernel, rfl, by decide +kernel, by decide +kernel⟩
def spDrawn (K : PySem.W.Frag) : Sp := fun vs H Q _ => ∃ (a : Addr) (ns : List Int) (seed v : Nat), vs = [.ref a, .int (seed : Int), .int (v : Int)] ∧ SqL K H a (ns.map V.int) ∧ ns.length ≤ 63 ∧ 1 ≤ v ∧ v ≤ 64 ∧
  ∀ H' d rows, Same H H' → H d = none → H' d = some (.dK (RK rows)) → RowsOk v rows → rows.length ≤ ns.length → Q (.ref d) H'
theorem c_l_drawn (T : Glob mg) (D : Dn K mg "_law_drawn" s_l_drawn ["_law_cells", "_law_seed", "_law_wide"]) (c_l_mixed : Cal P w K mg base 1 "_law_mixed" spMixed []) (c_l_bits : Cal P w K mg base 2 "_law_bits" spLBits []) (c_l_start : Cal P w K mg base 1 "_law_start" spLStart []) (c_l_roads : Cal P w K mg base 2 "_law_roads" spLRoads []) : Cal P w K mg base 3 "_law_drawn" (spDrawn K) [] := by
  refine D.cal sc_l_drawn (fun vs H Q E h => ?_) (fun f cdv A outer s0 H vs Q E hr h => ?_)
  · obtain ⟨a, ns, seed, v, rfl, _⟩ := h
    rfl
  · obtain ⟨a, ns, seed, v, rfl, ha, hns, w1, w2, k⟩ := h
    have hu := hu_of hr
    refine ⟨_, (pss_cons (ps_set (i := 3) sc_l_drawn.nd rfl (by first | exact Or.inl rfl | exact Or.inr rfl) (pe_c c_l_bits hr (by first | decide | omega) rfl (pa_cons (pv 1) (pa_cons (pv 2) pa_nil))))
      (pss_cons (ps_set (i := 4) sc_l_drawn.nd rfl (by first | exact Or.inl rfl | exact Or.inr rfl) (pe_c c_l_roads hr (by first | decide | omega) rfl (pa_cons (pv 1) pa_nil)))
      (pss_cons (ps_set (i := 5) sc_l_drawn.nd rfl (by first | exact Or.inl rfl | exact Or.inr rfl) pe_dnewK)
      (pss_cons (ps_for PassesOwn.never rfl (pi_enum rfl T.g_enumerate (pa_cons (pv 0) pa_nil)) (pg_tup rfl (pgs_cons (pg_name (i := 6) sc_l_drawn.nd rfl (by first | exact Or.inl rfl | exact Or.inr rfl)) (pgs_cons (pg_name (i := 7) sc_l_drawn.nd rfl (by first | exact Or.inl rfl | exact Or.inr rfl)) pgs_nil)))
      (pss_cons (ps_set (i := 8) sc_l_drawn.nd rfl (by first | exact Or.inl rfl | exact Or.inr rfl) (pe_c c_l_mixed hr (by first | decide | omega) rfl (pa_cons (pv 7) (pa_cons (pv 6) pa_nil))))
      (pss_cons (ps_set (i := 9) sc_l_drawn.nd rfl (by first | exact Or.inl rfl | exact Or.inr rfl) (pe_c c_l_start hr (by first | decide | omega) rfl (pa_cons (pv 3) (pa_cons (pv 8) pa_nil))))
      (pss_one (ps_if (PW.pt (pw_and (pt_cmpR op_eq (pe_op op_mod (pe_op op_fdiv (pv 8) pe_int) pe_int) pe_int (nomark _)) (pw_and1 (pt_cmpR (op_ne_d hu) (pv 5) pe_dnewK (nomark _)))))
      (pss_one (ps_expr (pe_dpop1 (pv 5) (pe_ix ix_list (pe_callTy (call_listD rfl) (by rfl) T.g_list (by decide +kernel) (pa_cons (pv 5) pa_nil)) (pe_op op_mod (pe_op op_fdiv (pv 8) pe_int) (pe_callB call_lenD (by rfl) T.g_len boot_len (pa_cons (pv 5) pa_nil))) (fun _ _ => rfl)) ⟨rfl, rfl, rfl, rfl⟩)))
      (pss_one (ps_dput hu (pv 5) (pv 9) (pe_ix ix_list (pv 4) (pe_op op_mod (pe_op op_fdiv (pv 8) pe_int) pe_int) (fun _ _ => rfl)) rfl)))))))
      (pss_one (ps_ret (pv 5))))))), ?_⟩
    refine ⟨_, rfl, _, rfl, (seed : Int), v, rfl, w2, fun H1 s1 => ?_⟩
    have lb := bitsL_len (seed : Int) v
    generalize bitsL (seed : Int) v = b at lb
    refine ⟨_, rfl, seed, rfl, fun H2 pr rs s2 hpr0 hpr rl rm => ?_⟩
    refine fun d hd => ?_
    have s12 := s1.trans s2
    have hd0 : H d = none := s12.free hd
    have s3 : Same H2 (upd H2 d (.dK [])) := Same_upd (Same.refl H2) hd
    have npd : pr ≠ d := ne_of_none hpr hd
    refine ⟨_, rfl, a, _, rfl, Same.seq (s12.trans s3) ha, for_it (walk_enum (K := K) (a := a) (xs := ns.map V.int)) (fun i σ H' => ∃ (l : List (Option V)) (rows : RowL), l.length = 4 ∧ σ = some (.ref a) :: some (.int (seed : Int)) :: some (.int (v : Int)) :: some (.str (tx b)) :: some (.ref pr) :: some (.ref d) :: l ∧ Same H H' ∧ H' pr = some (.lst (rs.map fun r : Nat => V.int (r : Int))) ∧
        H' d = some (.dK (RK rows)) ∧ RowsOk v rows ∧ rows.length ≤ i) ⟨_, [], by rfl, rfl, s12.trans s3, s3 _ _ hpr, upd_same, ⟨List.nodup_nil, fun r h => (by cases h), fun r h => (by cases h)⟩, Nat.le_refl _⟩ (fun i σ H' _ ⟨_, _, _, _, s, _⟩ => Same.seq s ha) ?_ ?_⟩
    · rintro i x σ H3 H4 hi ⟨l, rows, hl, rfl, s4, hpr4, hd4, ok, hrl⟩ ⟨tt, x0, y0, rfl, htt, rfl, ex0, ex1⟩
      cases ex0
      have ex1 : (ns.map V.int)[i]? = some y0 := ex1
      rw [List.getElem?_map] at ex1
      cases ec : ns[i]? with
      | none => rw [ec] at ex1; cases ex1
      | some c =>
        rw [ec] at ex1
        cases ex1
        have hins : i < ns.length := (List.getElem?_eq_some_iff.mp ec).1
        obtain ⟨l1, l2, l3, l4, rfl⟩ : ∃ l1 l2 l3 l4, l = [l1, l2, l3, l4] := by
          match l, hl with
          | [l1, l2, l3, l4], _ => exact ⟨_, _, _, _, rfl⟩
        have s5 : Same H3 (upd H3 tt (.tup [.int (i : Nat), .int c])) := Same_upd (Same.refl H3) htt
        refine ⟨tt, _, rfl, SqT.of upd_same, rfl, _, _, rfl, _, _, rfl, rfl, ?_⟩
        have s45 := s4.trans s5
        have hpr5 := s5 _ _ hpr4
        have hd5 := s5 _ _ hd4
        generalize (upd H3 tt (.tup [.int (i : Nat), .int c])) = H5 at s45 hpr5 hd5 ⊢
        refine ⟨_, rfl, _, rfl, c, _, rfl, ⟨by omega, by omega⟩, ?_⟩
        have hm := mixed_lt c (i : Nat)
        generalize mixed c (i : Nat) = m at hm
        refine ⟨_, rfl, _, rfl, b, m, rfl, by omega, fun H6 s s6 hs => ?_⟩
        have s46 := s45.trans s6
        have hpr6 := s6 _ _ hpr5
        have hd6 := s6 _ _ hd5
        have lenR : (RK rows).length < sizeLine := by rw [RK_len]; exact Nat.lt_of_le_of_lt (by omega : rows.length ≤ 100) (by decide)
        obtain ⟨rd, hrd, hrdm⟩ : ∃ rd : Nat, atI (rs.map fun r : Nat => V.int (r : Int)) ((m : Int) / 13 % 3) = some (V.int (rd : Int)) ∧ rd ≤ roadMax := by
          have hj : m / 13 % 3 < rs.length := by rw [rl]; exact Nat.mod_lt _ (by decide)
          refine ⟨rs[m / 13 % 3], ?_, rm _ (List.getElem_mem _)⟩
          rw [show (m : Int) / 13 % 3 = ((m / 13 % 3 : Nat) : Int) by omega]
          exact atI_nat (by rw [List.getElem?_map, List.getElem?_eq_getElem hj]; rfl)
        have put : ∀ H7, Same H H7 → H7 pr = some (.lst (rs.map fun r : Nat => V.int (r : Int))) → H7 d = some (.dK (RK rows)) → ∃ (l : List (Option V)) (rows' : RowL), l.length = 4 ∧ [some (.ref a), some (.int (seed : Int)), some (.int (v : Int)), some (.str (tx b)), some (.ref pr), some (.ref d), some (.int (i : Int)), some (.int c), some (.int (m : Int)), some (.str (tx s))] = some (.ref a) :: some (.int (seed : Int)) :: some (.int (v : Int)) :: some (.str (tx b)) :: some (.ref pr) :: some (.ref d) :: l ∧ Same H (upd H7 d (.dK (RK (rput rows s rd)))) ∧
            (upd H7 d (.dK (RK (rput rows s rd)))) pr = some (.lst (rs.map fun r : Nat => V.int (r : Int))) ∧ (upd H7 d (.dK (RK (rput rows s rd)))) d = some (.dK (RK rows')) ∧ RowsOk v rows' ∧ rows'.length ≤ i + 1 := fun H7 s7 hp7 hd7 => by
          refine ⟨_, rput rows s rd, by rfl, rfl, Same_mut s7 hd0, (upd_ne npd).trans hp7, upd_same, ok.put (by omega) hrdm, ?_⟩
          rw [rput_len]
          split <;> omega
        refine ⟨_, rfl, _, _, rfl, rfl, ⟨by decide, by decide⟩, _, _, rfl, rfl, (by show (0 : Int) < 7; decide), rfl, _, rfl, ?_⟩
        refine ite2 (fun c1 => ?_) fun c1 => ?_
        · refine ⟨_, rfl, fun q hq => ?_⟩
          have sq : Same H6 (upd H6 q (.dK [])) := Same_upd (Same.refl H6) hq
          refine ⟨d, q, _, rfl, rfl, sq _ _ hd6, upd_same, _, rfl, ?_⟩
          have s47 := s46.trans sq
          have hpr7 := sq _ _ hpr6
          have hd7 := sq _ _ hd6
          generalize (upd H6 q (.dK [])) = H7 at s47 hpr7 hd7 ⊢
          refine ite2 (fun c2 => ?_) fun c2 => ?_
          · have pos : 0 < rows.length := by
              rw [← RK_len]
              refine List.length_pos_iff.mpr fun e => ?_
              rw [e] at c2
              cases c2
            obtain ⟨y, hy⟩ : ∃ y, rows[m / 77 % rows.length]? = some y := ⟨_, List.getElem?_eq_getElem (Nat.mod_lt _ pos)⟩
            have hval : valV (RK rows) (.inr (tx y.1)) = some (V.int (y.2 : Int)) := by rw [RK_get, ok.get (List.mem_of_getElem? hy)]; rfl
            refine ⟨_, rfl, d, rfl, .inl ⟨_, .inl hd7⟩, _, rfl, d, _, rfl, .inl hd7, fun q2 hq2 => ?_⟩
            have sq2 : Same H7 (upd H7 q2 (.lst ((RK rows).map fun kv => kV kv.1))) := Same_upd (Same.refl H7) hq2
            refine ⟨_, rfl, _, _, rfl, rfl, ⟨by decide, by decide⟩, _, rfl, d, _, rfl, sq2 _ _ hd7, _, _, rfl, rfl, (by show (0 : Int) < ((RK rows).length : Int); rw [RK_len]; omega), q2, _, _, .str (tx y.1), rfl, rfl, SqL.of upd_same, ?_, _, .inr (tx y.1), _, sq2 _ _ hd7, rfl, hval, ?_⟩
            · rw [RK_len, show (m : Int) / 77 % (rows.length : Int) = ((m / 77 % rows.length : Nat) : Int) by push_cast; rfl]
              refine atI_nat ?_
              unfold RK
              rw [List.getElem?_map, List.getElem?_map, hy]
              rfl
            · rw [RK_drop]
              refine ⟨_, rdrop rows y.1, by rfl, rfl, Same_mut (s47.trans sq2) hd0, (upd_ne npd).trans (sq2 _ _ hpr7), upd_same, ok.drop y.1, ?_⟩
              have := rdrop_len (s := y.1) ok.nd
              omega
          · refine ⟨_, rfl, _, rfl, _, _, rfl, rfl, ⟨by decide, by decide⟩, _, _, rfl, rfl, (by show (0 : Int) < 3; decide), pr, _, _, _, rfl, rfl, SqL.of hpr7, hrd, ?_⟩
            refine ⟨_, rfl, _, rfl, d, _, rfl, DPut.k (k := (.inr (tx s) : Key)) hd7 lenR, ?_⟩
            rw [RK_put]
            exact put H7 s47 hpr7 hd7
        · refine ⟨_, rfl, _, rfl, _, _, rfl, rfl, ⟨by decide, by decide⟩, _, _, rfl, rfl, (by show (0 : Int) < 3; decide), pr, _, _, _, rfl, rfl, SqL.of hpr6, hrd, ?_⟩
          refine ⟨_, rfl, _, rfl, d, _, rfl, DPut.k (k := (.inr (tx s) : Key)) hd6 lenR, ?_⟩
          rw [RK_put]
          exact put H6 s46 hpr6 hd6
    · rintro σ H3 ⟨l, rows, hl, rfl, s4, hpr4, hd4, ok, hrl⟩
      rw [List.length_map] at hrl
      exact ⟨_, rfl, k H3 d rows s4 hd0 hd4 ok hrl⟩
end
end Br

/-! bitroads.notes: texts of tables read -/
namespace Br
open PySem PySem.Spec PyProof.Rows L2
open C8 (Cal Met Mak cal0 met0 mak0 pe_c pe_mk pe_mt pe_mt0 pe_gc Def)
section
variable {P : Program} {w : World} {K : PySem.W.Frag} {mg : Str → Option Value} {base : Heap} {CK CT : Addr}
abbrev s_width_in : Stmt := top 33
abbrev n_width_in : List Str := ["row", "words"]
theorem sc_width_in : FnScope n_width_in ["row"] (C8.fnScope s_width_in) := ⟨rfl, rfl, rfl, by decide +kernel, rfl, by decide +kernel, by decide +kernel⟩
def spWidthIn : Sp := fun vs H Q _ => ∃ v : Nat, vs = [.str (Str.ofString "width " ++ numT v)] ∧ 1 ≤ v ∧ v ≤ 64 ∧ ∀ H', Same H H' → Q (.int (v : Int)) H'
theorem c_width_in (T : Glob mg) (D : Dn K mg "width_in" s_width_in ["row"]) (c_number_in : Cal P w K mg base 1 "number_in" spNumIn []) (c_is_width : Cal P w K mg base 2 "is_width" spWidth []) : Cal P w K mg base 3 "width_in" spWidthIn [] := by
  refine D.cal sc_width_in (fun vs H Q E h => ?_) (fun f cdv A outer s0 H vs Q E hr h => ?_)
  · obtain ⟨v, rfl, _⟩ := h
    rfl
  · obtain ⟨v, rfl, w1, w2, k⟩ := h
    refine ⟨_, (pss_cons (ps_set (i := 1) sc_width_in.nd rfl (by first | exact Or.inl rfl | exact Or.inr rfl) (pe_split (pv 0) pe_str))
      (pss_cons (ps_if (PW.pt (pw_or (pt_cmpR op_ne (pe_callB call_len_seq (by rfl) T.g_len boot_len (pa_cons (pv 1) pa_nil)) pe_int (nomark _)) (pw_or (pt_cmpR op_ne (pe_ix ix_list (pv 1) pe_int (fun _ _ => rfl)) pe_str (nomark _)) (pw_or1 (pt_not (pt_val (pe_c c_is_width hr (by first | decide | omega) rfl (pa_cons (pe_c c_number_in hr (by first | decide | omega) rfl (pa_cons (pe_ix ix_list (pv 1) pe_int (fun _ _ => rfl)) pa_nil)) pa_nil))))))))
      (pss_one (ps_never (st := _)))
      pss_nil)
      (pss_one (ps_ret (pe_c c_number_in hr (by first | decide | omega) rfl (pa_cons (pe_ix ix_list (pv 1) pe_int (fun _ _ => rfl)) pa_nil)))))), ?_⟩
    have hnv := numT_len (n := v) (by omega)
    have zw : (Str.ofString "width ").length = 6 := by decide +kernel
    have lr : (Str.ofString "width " ++ numT v).length ≤ 26 := by rw [Str.length_append]; omega
    have sl : 1000 ≤ sizeLine := by decide
    refine ⟨_, rfl, ⟨_, rfl⟩, _, _, rfl, rfl, (by decide +kernel), (by omega), fun p hp => ?_⟩
    rw [split_head]
    have s1 : Same H (upd H p (.lst ([Str.ofString "width", numT v].map V.str))) := Same_upd (Same.refl H) hp
    have e1 : SqL K (upd H p (.lst ([Str.ofString "width", numT v].map V.str))) p [.str (Str.ofString "width"), .str (numT v)] := SqL.of upd_same
    generalize (upd H p (.lst ([Str.ofString "width", numT v].map V.str))) = H1 at s1 e1 ⊢
    refine ⟨_, rfl, p, _, rfl, .inl e1, rfl, _, rfl, iteF ?_⟩
    refine ⟨_, rfl, p, _, _, _, rfl, rfl, e1, atI_nat (j := 0) rfl, rfl, _, rfl, ?_⟩
    rw [decide_eq_true rfl]
    refine iteF ?_
    refine ⟨_, rfl, p, _, _, _, rfl, rfl, e1, atI_nat (j := 1) rfl, numT v, rfl, by omega, fun H2 s2 => ?_⟩
    rw [numIn_num (by omega)]
    refine ⟨_, rfl, .int _, ?_⟩
    have ea : isAmong (ov (some v)) 1 64 = true := by
      show (decide ((1 : Int) ≤ (v : Int)) && decide ((v : Int) ≤ 64)) = true
      rw [decide_eq_true (by omega), decide_eq_true (by omega)]
      rfl
    refine ⟨_, rfl, ?_⟩
    rw [ea]
    refine iteF ?_
    refine ⟨_, rfl, p, _, _, _, rfl, rfl, s2.seq e1, atI_nat (j := 1) rfl, numT v, rfl, by omega, fun H3 s3 => ?_⟩
    rw [numIn_num (by omega)]
    exact k _ ((s1.trans s2).trans s3)
abbrev s_row_in : Stmt := top 34
abbrev n_row_in : List Str := ["table", "row", "place", "words", "start"]
theorem sc_row_in : FnScope n_row_in ["table", "row", "place"] (C8.fnScope s_row_in) := ⟨rfl, rfl, rfl, by decide +kernel, rfl, by decide +kernel, by decide +kernel⟩
def spRowIn (CK CT : Addr) : Sp := fun vs H Q _ => ∃ (T : Addr) (v : Nat) (t : AT) (s : List Bool) (x : Nat) (pl : Int), vs = [.ref T, .str (rowT (s, x)), .int pl] ∧ Tab CK CT H T v t ∧ s.length ≤ v ∧ x ≤ 18446744073709551615 ∧ t.tr.get s = none ∧
  ∀ H' p, Same H H' → H p = none → H' p = some (.tup [.str (tx s), .int (x : Int)]) → Q (.ref p) H'
theorem c_row_in (T : Glob mg) (TN : GlobN mg) (D : Dn K mg "row_in" s_row_in ["table", "row", "place"]) (c_number_in : Cal P w K mg base 1 "number_in" spNumIn []) (c_is_road : Cal P w K mg base 2 "is_road" spRoad []) (c_is_start : Cal P w K mg base 2 "is_start" spStart [])
    (m_width : Met P w K mg base 1 CT "width" (spTwidth CK CT) []) (m_has : Met P w K mg base 4 CT "has" (spThas CK CT) []) : Cal P w K mg base 5 "row_in" (spRowIn CK CT) [] := by
  refine D.cal sc_row_in (fun vs H Q E h => ?_) (fun f cdv A outer s0 H vs Q E hr h => ?_)
  · obtain ⟨TA, v, t, s, x, pl, rfl, _⟩ := h
    rfl
  · obtain ⟨TA, v, t, s, x, pl, rfl, tb, hs, hx, hg, k⟩ := h
    refine ⟨_, (pss_cons (ps_set (i := 3) sc_row_in.nd rfl (by first | exact Or.inl rfl | exact Or.inr rfl) (pe_split (pv 1) pe_str))
      (pss_cons (ps_if (PW.pt (pw_or (pt_cmpR op_ne (pe_callB call_len_seq (by rfl) T.g_len boot_len (pa_cons (pv 3) pa_nil)) pe_int (nomark _)) (pw_or1 (pt_not (pt_val (pe_c c_is_road hr (by first | decide | omega) rfl (pa_cons (pe_c c_number_in hr (by first | decide | omega) rfl (pa_cons (pe_ix ix_list (pv 3) pe_int (fun _ _ => rfl)) pa_nil)) pa_nil)))))))
      (pss_one (ps_never (st := _)))
      pss_nil)
      (C8.pss_cut (ps_set (i := 4) sc_row_in.nd rfl (by first | exact Or.inl rfl | exact Or.inr rfl) (pe_ifExp (pt_cmpR op_eq (pe_ix ix_list (pv 3) pe_int (fun _ _ => rfl)) (pe_gc rfl TN.g_NOTHING) (nomark _)) pe_str (pe_ix ix_list (pv 3) pe_int (fun _ _ => rfl))))
      (pss_cons (ps_if (PW.pt (pw_or (pt_cmpR op_eq (pe_ix ix_list (pv 3) pe_int (fun _ _ => rfl)) pe_str (nomark _)) (pw_or (pt_not (pt_val (pe_c c_is_start hr (by first | decide | omega) rfl (pa_cons (pe_mt0 m_width hr (by first | decide | omega) (pv 0)) (pa_cons (pv 4) pa_nil))))) (pw_or1 (pt_val (pe_mt m_has hr (by first | decide | omega) (pv 0) (pa_cons (pv 4) pa_nil)))))))
      (pss_one (ps_never (st := _)))
      pss_nil)
      (pss_one (ps_ret (pe_tup (pa_cons (pv 4) (pa_cons (pe_c c_number_in hr (by first | decide | omega) rfl (pa_cons (pe_ix ix_list (pv 3) pe_int (fun _ _ => rfl)) pa_nil)) pa_nil))))))))), ?_⟩
    have hnx := numT_len hx
    have hv := tb.w2
    have lr := rowT_len (r := (s, x)) (Nat.le_trans hs hv) hx
    have sl : 1000 ≤ sizeLine := by decide
    refine ⟨_, rfl, ⟨_, rfl⟩, _, _, rfl, rfl, (by decide +kernel), (by omega), fun p hp => ?_⟩
    rw [split_row]
    have s1 : Same H (upd H p (.lst ([startT s, numT x].map V.str))) := Same_upd (Same.refl H) hp
    have e1 : SqL K (upd H p (.lst ([startT s, numT x].map V.str))) p [.str (startT s), .str (numT x)] := SqL.of upd_same
    generalize (upd H p (.lst ([startT s, numT x].map V.str))) = H1 at s1 e1 ⊢
    refine ⟨_, rfl, p, _, rfl, .inl e1, rfl, _, rfl, iteF ?_⟩
    refine ⟨_, rfl, p, _, _, _, rfl, rfl, e1, atI_nat (j := 1) rfl, numT x, rfl, by omega, fun H2 s2 => ?_⟩
    rw [numIn_num hx]
    refine ⟨_, rfl, .int _, ?_⟩
    have ea : isAmong (ov (some x)) 0 18446744073709551615 = true := by
      show (decide ((0 : Int) ≤ (x : Int)) && decide ((x : Int) ≤ 18446744073709551615)) = true
      rw [decide_eq_true (by omega), decide_eq_true (by omega)]
      rfl
    refine ⟨_, rfl, ?_⟩
    rw [ea]
    refine iteF ?_
    have e2 := s2.seq e1
    have s12 := s1.trans s2
    refine ⟨fun σ' H' => σ' = [some (.ref TA), some (.str (rowT (s, x))), some (.int pl), some (.ref p), some (.str (tx s))] ∧ H' = H2, ?_, ?_⟩
    · refine ⟨_, rfl, p, _, _, _, rfl, rfl, e2, atI_nat (j := 0) rfl, rfl, _, rfl, ?_⟩
      have em : decide (V.str (startT s) = V.str (Str.ofString "-")) = decide (s = []) := by
        rw [decide_eq_decide]
        exact ⟨fun e => (startT_minus s).mp (V.str.inj e), fun e => by rw [(startT_minus s).mpr e]⟩
      rw [em]
      refine ite2 (fun c => ?_) fun c => ?_
      · have c := of_decide_eq_true c
        subst c
        exact ⟨by rw [tx_nil]; rfl, rfl⟩
      · have c : s ≠ [] := fun e => c (decide_eq_true e)
        refine ⟨_, rfl, p, _, _, _, rfl, rfl, e2, atI_nat (j := 0) rfl, ?_, rfl⟩
        rw [show startT s = tx s by unfold startT; rw [if_neg c]]
        rfl
    rintro σ' H' ⟨rfl, rfl⟩
    refine ⟨_, rfl, p, _, _, _, rfl, rfl, e2, atI_nat (j := 0) rfl, rfl, _, rfl, ?_⟩
    rw [decide_eq_false (fun e => startT_ne s (V.str.inj e))]
    refine iteF ?_
    have tb2 := tb.same s12
    obtain ⟨dT, hT⟩ := tb2.obj
    refine ⟨_, rfl, TA, dT, _, rfl, hT, rfl, TA, v, t, rfl, tb2, _, rfl, _, _, rfl, thing_tx (by omega), fun H3 s3 => ?_⟩
    have eb : isBits (.str (tx s)) 0 (v : Int) = true := by
      rw [isBits_tx, decide_eq_true (by omega), decide_eq_true (by omega)]
      rfl
    rw [eb]
    refine ⟨_, rfl, iteF ?_⟩
    have tb3 := tb2.same s3
    refine ⟨_, rfl, TA, dT, _, rfl, s3 _ _ hT, rfl, _, rfl, TA, v, t, s, rfl, tb3, hs, fun H4 s4 => ?_⟩
    rw [hg]
    refine ⟨_, rfl, iteF ?_⟩
    have s14 := s3.trans s4
    refine ⟨_, rfl, _, rfl, p, _, _, _, rfl, rfl, s14.seq e2, atI_nat (j := 1) rfl, numT x, rfl, by omega, fun H5 s5 => ?_⟩
    rw [numIn_num hx]
    exact ⟨(by show 2 ≤ sizeLine; decide), fun q hq => k _ q (((s12.trans s14).trans s5).trans (Same_upd (Same.refl H5) hq)) (((s12.trans s14).trans s5).free hq) upd_same⟩
abbrev s_table_of : Stmt := top 35
abbrev n_table_of : List Str := ["text", "rows", "table", "place", "start", "road"]
theorem sc_table_of : FnScope n_table_of ["text"] (C8.fnScope s_table_of) := ⟨rfl, rfl, rfl, by decide +kernel, rfl, by decide +kernel, by decide +kernel⟩
def spTableOf (CK CT : Addr) : Sp := fun vs H Q _ => ∃ (v : Nat) (L : RowL), vs = [.str (tableT v L)] ∧ RowsOk v L ∧ L.length ≤ 250 ∧ 1 ≤ v ∧ v ≤ 64 ∧
  ∀ H' T t, Same H H' → (∀ a ∈ T :: AT.fp t, H a = none) → Tab CK CT H' T v t → Agr L t.tr → t.tr.size ≤ 1 + 66 * L.length → Q (.ref T) H'
theorem c_table_of (T : Glob mg) (Tt : Ts K CT) (Kk : Ks K CK) (D : Dn K mg "table_of" s_table_of ["text"]) (c_width_in : Cal P w K mg base 3 "width_in" spWidthIn []) (c_row_in : Cal P w K mg base 5 "row_in" (spRowIn CK CT) [])
    (c_Table : Mak P w K mg base 3 "Table" CT (spTable K CK) []) (m_put : Met P w K mg base 68 CT "put" (spTput CK CT) []) : Cal P w K mg base 69 "table_of" (spTableOf CK CT) [] := by
  refine D.cal sc_table_of (fun vs H Q E h => ?_) (fun f cdv A outer s0 H vs Q E hr h => ?_)
  · obtain ⟨v, L, rfl, _⟩ := h
    rfl
  · obtain ⟨v, L, rfl, ok, hlen, w1, w2, k⟩ := h
    have hu := hu_of hr
    refine ⟨_, (pss_cons (ps_if (pt_not (pt_val (pe_callB call_isi (by rfl) T.g_isinstance (by decide +kernel) (pa_cons (pv 0) (pa_cons (pe_bltn (v := .ty "str") (by rfl) T.g_str boot_str rfl) pa_nil)))))
      (pss_one (ps_never (st := _)))
      pss_nil)
      (pss_cons (ps_set (i := 1) sc_table_of.nd rfl (by first | exact Or.inl rfl | exact Or.inr rfl) (pe_split (pv 0) pe_str))
      (pss_cons (ps_set (i := 2) sc_table_of.nd rfl (by first | exact Or.inl rfl | exact Or.inr rfl) (pe_mk c_Table hr (by first | decide | omega) rfl (pa_cons (pe_c c_width_in hr (by first | decide | omega) rfl (pa_cons (pe_ix ix_list (pv 1) pe_int (fun _ _ => rfl)) pa_nil)) pa_nil)))
      (pss_cons (ps_for PassesOwn.never rfl (pi_range2 rfl T.g_range (pa_cons pe_int (pa_cons (pe_callB call_len_seq (by rfl) T.g_len boot_len (pa_cons (pv 1) pa_nil)) pa_nil))) (pg_name (i := 3) sc_table_of.nd rfl (by first | exact Or.inl rfl | exact Or.inr rfl))
      (pss_cons (ps_asg (pe_c c_row_in hr (by first | decide | omega) rfl (pa_cons (pv 2) (pa_cons (pe_ix ix_list (pv 1) (pv 3) (fun _ _ => rfl)) (pa_cons (pv 3) pa_nil)))) (pg_tup rfl (pgs_cons (pg_name (i := 4) sc_table_of.nd rfl (by first | exact Or.inl rfl | exact Or.inr rfl)) (pgs_cons (pg_name (i := 5) sc_table_of.nd rfl (by first | exact Or.inl rfl | exact Or.inr rfl)) pgs_nil))))
      (pss_one (ps_expr (pe_mt m_put hr (by first | decide | omega) (pv 2) (pa_cons (pv 4) (pa_cons (pv 5) pa_nil)))))))
      (pss_one (ps_ret (pv 2))))))), ?_⟩
    have hl := tableT_len (v := v) (L := L) w2 fun r hr => ⟨ok.len r hr, ok.max r hr⟩
    have sl : 100000 ≤ sizeLine := by decide
    refine ⟨_, rfl, _, _, _, _, _, rfl, .ty _, .base (.str _), kit_ty (r := true) (by decide +kernel), _, rfl, iteF ?_⟩
    refine ⟨_, rfl, ⟨_, rfl⟩, _, _, rfl, rfl, (by decide +kernel), (by omega), fun p hp => ?_⟩
    rw [split_table]
    generalize hxs : (((Str.ofString "width " ++ numT v) :: L.map rowT).map V.str) = xs
    have xl : xs.length = L.length + 1 := by rw [← hxs]; simp
    have x0 : xs[0]? = some (V.str (Str.ofString "width " ++ numT v)) := by rw [← hxs]; rfl
    have xi : ∀ (i : Nat) (r : List Bool × Nat), L[i]? = some r → xs[i + 1]? = some (V.str (rowT r)) := fun i r e => by
      rw [← hxs, List.map_cons, List.getElem?_cons_succ, List.map_map, List.getElem?_map, e]
      rfl
    have s1 : Same H (upd H p (.lst xs)) := Same_upd (Same.refl H) hp
    have e1 : (upd H p (.lst xs)) p = some (.lst xs) := upd_same
    generalize (upd H p (.lst xs)) = H1 at s1 e1 ⊢
    refine ⟨_, rfl, p, _, _, _, rfl, rfl, SqL.of e1, atI_nat (j := 0) x0, v, rfl, w1, w2, fun H2 s2 => fun TA dx0 hT0 hdx0 nd0 => ⟨TA, CT, dx0, v, rfl, Tt, Kk, upd_same, w1, w2, fun H3 t0 m3 tb0 et0 fr0 => ⟨rfl, ?_⟩⟩⟩
    have s3 := mk_same hT0 hdx0 m3
    have f0 := mk_fresh hT0 hdx0 fr0
    have s12 := s1.trans s2
    have ep3 := s3 _ _ (s2 _ _ e1)
    have fr1 : ∀ a ∈ TA :: t0.fp, H a = none := fun a ha => s12.free (f0 a ha)
    have npT : ∀ a ∈ TA :: t0.fp, a ≠ p := fun a ha e => by have := f0 a ha; rw [e, s2 _ _ e1] at this; cases this
    refine ⟨_, rfl, p, _, rfl, .inl (SqL.of ep3), _, _, rfl, ⟨by decide, by decide, by omega, by omega⟩, ?_⟩
    rw [xl]
    refine for_it (walk_range (lo := 1) (n := (((L.length + 1 : Nat) : Int) - 1).toNat)) (fun i σ H' => ∃ (t : AT) (v3 v4 v5 : Option V), σ = [some (.str (tableT v L)), some (.ref p), some (.ref TA), v3, v4, v5] ∧ Same H H' ∧ H' p = some (.lst xs) ∧ Tab CK CT H' TA v t ∧ (∀ a ∈ TA :: t.fp, H a = none ∧ a ≠ p) ∧ Agr (L.take i) t.tr ∧ t.tr.size ≤ 1 + 66 * i)
      ⟨t0, none, none, none, rfl, (s12.trans s3), ep3, tb0, fun a ha => ⟨fr1 a ha, npT a ha⟩, by rw [et0]; exact Agr.nil, by rw [et0]; decide⟩ (fun _ _ _ _ _ => trivial) ?_ ?_
    · rintro i x σ H4 H5 hi ⟨t, v3, v4, v5, rfl, s4, hp4, tb, fr, ag, sz⟩ ⟨rfl, rfl⟩
      have hil : i < L.length := by omega
      obtain ⟨r, er⟩ : ∃ r, L[i]? = some r := ⟨_, List.getElem?_eq_getElem hil⟩
      obtain ⟨s, x⟩ := r
      have hm := List.mem_of_getElem? er
      have hsv := ok.len _ hm
      have hsv : s.length ≤ v := hsv
      have hxm := ok.max _ hm
      have hxm : x ≤ 18446744073709551615 := hxm
      have hnone : rget (L.take i) s = none := rget_none.mpr fun hm2 => by
        obtain ⟨r', hr', e⟩ := List.mem_map.mp hm2
        obtain ⟨j, hj⟩ := List.getElem?_of_mem hr'
        have hji : j < i := by have := (List.getElem?_eq_some_iff.mp hj).1; rw [List.length_take] at this; omega
        rw [List.getElem?_take_of_lt hji] at hj
        have n1 := ok.nd
        have a1 : (L.map (·.1))[j]? = some s := by rw [List.getElem?_map, hj]; show some r'.1 = _; rw [e]
        have a2 : (L.map (·.1))[i]? = some s := by rw [List.getElem?_map, er]; rfl
        obtain ⟨b1, b2⟩ := List.getElem?_eq_some_iff.mp a1
        obtain ⟨b3, b4⟩ := List.getElem?_eq_some_iff.mp a2
        exact (List.pairwise_iff_getElem.mp n1 j i b1 b3 hji) (b2.trans b4.symm)
      have hgn : t.tr.get s = none := by rw [← ag.get]; exact hnone
      have eat : atI xs (1 + (i : Int)) = some (V.str (rowT (s, x))) := by
        rw [show (1 : Int) + (i : Int) = ((i + 1 : Nat) : Int) by omega]
        exact atI_nat (xi i _ er)
      refine ⟨_, rfl, _, rfl, _, rfl, p, _, _, _, rfl, rfl, SqL.of hp4, eat, _, rfl, TA, v, t, s, x, _, rfl, tb, hsv, hxm, hgn, fun H6 q s6 hq hq6 => ?_⟩
      refine ⟨q, _, rfl, SqT.of hq6, rfl, _, _, rfl, _, _, rfl, rfl, ?_⟩
      have tb6 := tb.same s6
      obtain ⟨dT, hT⟩ := tb6.obj
      refine ⟨_, rfl, TA, dT, _, rfl, hT, rfl, _, rfl, _, rfl, TA, v, t, s, x, rfl, tb6, hsv, hxm, by omega, fun H7 p7 t' Df m7 hp7 np tb7 et7 fr7 hL hD => ?_⟩
      have s46 := s4.trans s6
      refine ⟨t', _, _, _, rfl, fun a o e => m7 _ _ (s46 _ _ e) (.inl fun z => by rw [(fr a z).1] at e; cases e), m7 _ _ (s6 _ _ hp4) (.inl fun z => (fr p z).2 rfl), tb7, fun a ha => ?_, ?_, ?_⟩
      · rcases List.mem_cons.mp ha with rfl | ha
        · exact fr _ List.mem_cons_self
        · rcases fr7 a ha with z | z
          · exact fr a (List.mem_cons_of_mem _ z)
          · exact ⟨s46.free z, fun e => by rw [e, s6 _ _ hp4] at z; cases z⟩
      · rw [et7]
        have h1 := ag.put s x
        rw [rput_new x hnone, ← take_snoc er] at h1
        exact h1
      · rw [et7]
        have := Tr.size_put x s t.tr
        omega
    · rintro σ H4 ⟨t, v3, v4, v5, rfl, s4, hp4, tb, fr, ag, sz⟩
      have e : (((L.length + 1 : Nat) : Int) - 1).toNat = L.length := by omega
      rw [e] at ag sz
      rw [List.take_length] at ag
      exact ⟨_, rfl, k _ TA t s4 (fun a ha => (fr a ha).1) tb ag sz⟩
end
end Br

/-! odd texts, as lists of signs -/
namespace Br
open PySem PySem.Spec PyProof.Rows L2
def figsL (l : List Nat) : Bool := l.all fun c => decide (48 ≤ c) && decide (c ≤ 57)
def numInL (l : List Nat) : Option Nat := if 1 ≤ l.length ∧ l.length ≤ 20 ∧ figsL l = true then (if l.head? = some 48 ∧ l ≠ [48] then none else some (NumText.digitsVal l)) else none
theorem numIn_L (w : Str) : numIn w = numInL (TL.tl w) := by
  have e1 : figs w = figsL (TL.tl w) := by
    unfold figs figsL TL.tl
    congr 1
    funext c
    rw [← Bool.decide_and]
    exact decide_eq_decide.mpr (fig_iff c)
  have e2 : (w ≠ Str.ofString "0") ↔ (TL.tl w ≠ [48]) := by
    have z0 : TL.tl (Str.ofString "0") = [48] := by decide +kernel
    rw [← z0]
    exact ⟨fun n e => n (TL.ext_tl e), fun n e => n (by rw [e])⟩
  unfold numIn numInL
  rw [e1, TL.len_tl]
  by_cases h : 1 ≤ (TL.tl w).length ∧ (TL.tl w).length ≤ 20 ∧ figsL (TL.tl w) = true
  · rw [if_pos h, if_pos h]
    by_cases h2 : (TL.tl w).head? = some 48 ∧ TL.tl w ≠ [48]
    · rw [if_pos h2]
      exact if_pos ⟨h2.1, e2.mpr h2.2⟩
    · rw [if_neg h2]
      exact if_neg fun q => h2 ⟨q.1, e2.mp q.2⟩
  · rw [if_neg h, if_neg h]
def okN (lo hi : Nat) : Option Nat → Bool
  | some n => decide (lo ≤ n) && decide (n ≤ hi)
  | none => false
theorem among_ov (o : Option Nat) (lo hi : Nat) : isAmong (ov o) (lo : Int) (hi : Int) = okN lo hi o := by
  cases o with
  | none => rfl
  | some n =>
    show (decide ((lo : Int) ≤ (n : Int)) && decide ((n : Int) ≤ (hi : Int))) = (decide (lo ≤ n) && decide (n ≤ hi))
    rw [decide_eq_decide.mpr Int.ofNat_le, decide_eq_decide.mpr Int.ofNat_le]
/-- what is no first row -/
def badW (l : List Nat) : Bool := match TL.spl [32] 0 [] l with
  | [a, b] => !(a == [119, 105, 100, 116, 104]) || !okN 1 64 (numInL b)
  | _ => true
/-- what is no row, whatever stands ahead -/
def badL (v : Nat) (l : List Nat) : Bool := match TL.spl [32] 0 [] l with
  | [a, b] => !okN 0 18446744073709551615 (numInL b) || (a == [] || (!(a == [45]) && !(decide (a.length ≤ v) && a.all fun c => decide (c = 48 ∨ c = 49))))
  | _ => true
theorem spl_of (z : Str) : (Txt.split z (Str.ofString " ")).map TL.tl = TL.spl [32] 0 [] (TL.tl z) := by
  have h := TL.split_spl z (Str.ofString " ") (by rw [tl_blank]; simp) (TL.kind_ok (by decide +kernel))
  rw [tl_blank] at h
  exact h
theorem spl_sub (S : List Nat) : ∀ (l : List Nat) (k : Nat) (acc : List Nat), ∀ p ∈ TL.spl S k acc l, ∀ c ∈ p, c ∈ acc ∨ c ∈ l := by
  intro l
  induction l with
  | nil =>
    intro k acc p hp c hc
    rw [TL.spl_nil] at hp
    rw [List.mem_singleton.mp hp] at hc
    exact .inl hc
  | cons a l ih =>
    intro k acc p hp c hc
    cases k with
    | zero =>
      cases h : TL.pre S (a :: l) with
      | true =>
        rw [TL.spl_hit h] at hp
        rcases List.mem_cons.mp hp with rfl | hp
        · exact .inl hc
        · rcases ih _ _ p hp c hc with z | z
          · cases z
          · exact .inr (List.mem_cons_of_mem _ z)
      | false =>
        rw [TL.spl_miss h] at hp
        rcases ih _ _ p hp c hc with z | z
        · rcases List.mem_append.mp z with z | z
          · exact .inl z
          · rw [List.mem_singleton.mp z]; exact .inr List.mem_cons_self
        · exact .inr (List.mem_cons_of_mem _ z)
    | succ k =>
      have hp : p ∈ TL.spl S k acc l := hp
      rcases ih _ _ p hp c hc with z | z
      · exact .inl z
      · exact .inr (List.mem_cons_of_mem _ z)
theorem spl_len (S : List Nat) : ∀ (l : List Nat) (k : Nat) (acc : List Nat), ∀ p ∈ TL.spl S k acc l, p.length ≤ acc.length + l.length := by
  intro l
  induction l with
  | nil =>
    intro k acc p hp
    rw [TL.spl_nil] at hp
    rw [List.mem_singleton.mp hp]
    omega
  | cons a l ih =>
    intro k acc p hp
    rw [List.length_cons]
    cases k with
    | zero =>
      cases h : TL.pre S (a :: l) with
      | true =>
        rw [TL.spl_hit h] at hp
        rcases List.mem_cons.mp hp with rfl | hp
        · omega
        · have := ih _ _ p hp
          rw [List.length_nil] at this
          omega
      | false =>
        rw [TL.spl_miss h] at hp
        have := ih _ _ p hp
        rw [List.length_append, List.length_singleton] at this
        omega
    | succ k =>
      have hp : p ∈ TL.spl S k acc l := hp
      have := ih _ _ p hp
      omega
theorem part_len {z a : Str} (h : a ∈ Txt.split z (Str.ofString " ")) : a.length ≤ z.length := by
  have h1 : TL.tl a ∈ TL.spl [32] 0 [] (TL.tl z) := by rw [← spl_of]; exact List.mem_map.mpr ⟨a, h, rfl⟩
  have := spl_len [32] _ _ _ _ h1
  rw [TL.len_tl, TL.len_tl]
  simpa using this
def sokL (l : List Nat) : Bool := l.all fun c => decide (c < 1114112)
theorem part_sok {z a : Str} (h : a ∈ Txt.split z (Str.ofString " ")) (hz : sokL (TL.tl z) = true) : sokL (TL.tl a) = true := by
  have h1 : TL.tl a ∈ TL.spl [32] 0 [] (TL.tl z) := by rw [← spl_of]; exact List.mem_map.mpr ⟨a, h, rfl⟩
  unfold sokL at *
  rw [List.all_eq_true] at *
  intro c hc
  rcases spl_sub [32] _ _ _ _ h1 c hc with z | z
  · cases z
  · exact hz c z
end Br

/-! A refusal that is kept behind its except clause, and asked of what class it is. -/
namespace Br
open PySem PySem.Spec PyProof.Rows L2
/-- an error's object, of the class cls, at a; d: its own dict -/
def XO (cls : Value) (d : Option Addr) (a : Addr) : HO := .ext fun h => ∃ (oe : Obj) (vs : Array Value), h.get? a = some oe ∧ Zc cls d oe ∧ oe.data = .fields vs
section
variable {X : Cx} {pins : List (Addr × Obj)} {σ : L2.St} {H : Hp} {s : Shared} {a : Addr} {oe : Obj} {cls : Value} {d : Option Addr}
/-- behind the suite the error's object is tracked -/
theorem keep_inv (ok : X.Ok) (hex : X.ex = []) (I : Inv (X.suite a ((a, oe) :: (X.pn ++ pins))) [] σ H s) (hz : Zc cls d oe) (hv : ∃ vs, oe.data = .fields vs) (n0 : X.s_0.heap.get? a = none) (np : ∀ p ∈ X.pn ++ pins, p.1 ≠ a) :
    Inv X pins σ (upd H a (XO cls d a)) s := by
  have J : Inv X pins σ H s := I.unsuite ok
  have me := I.pin (a, oe) (List.mem_append_left _ List.mem_cons_self)
  obtain ⟨hget, hnone, hloc, _, hcell⟩ := me
  have ne0 : ∀ {b o}, X.s_0.heap.get? b = some o → b ≠ a := fun {b o} e z => by
    rw [z, n0] at e
    cases e
  have up : ∀ {b o}, H b = some o → upd H a (XO cls d a) b = some o := fun {b o} e => by
    have : b ≠ a := fun z => by rw [z, hnone] at e; cases e
    rw [upd_ne this]; exact e
  have cne : ∀ y c, X.env.cells.lookup y = some c → c ≠ a := fun y c e z => by
    obtain ⟨v, o, h1, h2⟩ := J.cell y c e
    rw [z, hget] at h1
    rw [← Option.some.inj h1] at h2
    exact hcell v h2
  obtain ⟨vs, hvs⟩ := hv
  refine ⟨ok, J.os, J.bare, ?_, J.loc, J.cell, ?_, ?_, ?_, ?_, J.len⟩
  · refine ⟨J.base.keep, J.base.slot, fun b o e1 e2 e3 => ?_, J.base.there, fun b xs e => up (J.base.tups b xs e), fun b o u e => up (J.base.frzs b o u e), fun b ps e => ?_⟩
    · rw [upd_ne (ne0 e1)]
      exact J.base.free b o e1 e2 e3
    · obtain ⟨more, z⟩ := J.base.tbls b ps e
      exact ⟨more, up z⟩
  · rw [upd_ne (Ne.symm hloc)]
    exact J.free
  · intro y c e
    rw [upd_ne (cne y c e)]
    exact J.freeC y c e
  · intro p hp
    obtain ⟨h1, h2, h3, h4, h5⟩ := J.pin p hp
    exact ⟨h1, by rw [upd_ne (np p hp)]; exact h2, h3, h4, h5⟩
  · intro b o e
    by_cases hb : b = a
    · subst hb
      rw [upd_same] at e
      obtain rfl := Option.some.inj e
      exact ⟨⟨oe, vs, hget, hz, hvs⟩, ⟨oe, hget⟩, fun h1 h2 ⟨o', v', q1, q2, q3⟩ st => ⟨o', v', st _ q1, q2, q3⟩⟩
    · rw [upd_ne hb] at e
      exact (J.hok b o e).stay (fun _ _ _ z => z) (fun _ z => up z) fun _ _ z => up z
end
/-- what the clause wishes of an error: that it is meant, and the suite's reading; behind it the object is tracked -/
def wKeep (K : PySem.W.Frag) (n : Nat) (c : Value) (i : Nat) (ts : Addr → Value → Option Addr → TS) (D : Ends) : WX := fun cls d σ H =>
  PySem.W.exmOne K cls c = some true ∧ ∀ a, H a = none → σ.length = n → ts a cls d { nx := fun σ' H' => D.nx (σ'.set i none) (upd H' a (XO cls d a)), rt := fun _ _ => False, bk := fun _ _ => False, ct := fun _ _ => False } (σ.set i (some (.ref a))) H
section
variable {X : Cx} {x n : Str} {c : Value} {i : Nat} {body suite : List Stmt} {b₀ : Stmt} {np pos pos' : Pos} {tb : WX → TS} {ts : Addr → Value → Option Addr → TS}
/-- try: body / except x as n: suite, where the suite keeps the error -/
theorem ps_try_keep (hstk : X.stack = X.env :: X.outer) (hfrm : X.env.frame = some X.env.locals) (hex : X.ex = []) (hnd : X.N.Nodup) (hix : X.N[i]? = some n) (hkind : X.env.kindOf n = some .local) (hname : Names X x c)
    (hbody : ∀ (W : WX) (pn : List (Addr × Obj)) (xe : Value → Shared → Prop), Takes (X.tr pn xe) W → PassesOwn (model X.prog X.w) X.A X.env xe → PSs (X.tr pn xe) body (tb W))
    (hsuite : ∀ (a : Addr) (oe : Obj) (cls : Value) (d : Option Addr) (pn : List (Addr × Obj)), PSs (X.suite a ((a, oe) :: pn)) (b₀ :: suite) (ts a cls d)) :
    PS X (.Try body [.ExceptHandler (some (.Name x np)) (some n) (b₀ :: suite) pos'] [] [] pos) (fun D σ H => tb (wKeep X.K X.N.length c i ts D) D σ H) := by
  refine ⟨fun pins s σ H D I hq => wpAny_Try_except ?_⟩
  have okX := I.ok
  have frm : X.A.frames = some (X.env :: X.outer) := okX.frames.trans (congrArg some hstk)
  refine wpAny_mono ((hbody (wKeep X.K X.N.length c i ts D) (X.pn ++ pins) _ ?takes PassesOwn.looking).run [] s σ H D (I.toTry _) hq) ?norm (fun e s1 he => he)
  case norm =>
    intro f s1 hsp
    cases f with
    | next => obtain ⟨σ1, H1, I1, q1⟩ := hsp; exact wpAny_execs_nil ⟨σ1, H1, I1.ofTry okX, q1⟩
    | brk => obtain ⟨σ1, H1, I1, q1⟩ := hsp; exact ⟨σ1, H1, I1.ofTry okX, q1⟩
    | cont => obtain ⟨σ1, H1, I1, q1⟩ := hsp; exact ⟨σ1, H1, I1.ofTry okX, q1⟩
    | ret u => obtain ⟨v1, σ1, H1, I1, r1, q1⟩ := hsp; exact ⟨v1, σ1, H1, I1.ofTry okX, r1, q1⟩
  case takes =>
    rintro u s1 ⟨a, B, s0, pins0, σ0, H0, cls, d, rfl, J0, nb, up, sky, na, os, ag, hm, hgo⟩
    have J : Inv X pins σ0 H0 s0 := J0.ofTry okX
    have sky2 : Sky B (X.env :: X.outer) a (Zc cls d) X.env.locals s1.heap := by rw [← hstk]; exact sky
    refine Sky.land Zc.steady frm hfrm sky2 fun h2 fl2 up2 => ?_
    have J2 : Inv X pins σ0 H0 { s1 with heap := h2 } := J.landed nb fl2.1 (up.trans up2) os ag
    -- the object is none of the frames
    have apart : ∀ {h : Heap} {o : Obj} {ws : Array Value}, h.FunFrames B (X.env :: X.outer) → h.get? a = some o → o.data = .fields ws → a ≠ X.env.locals ∧ a ∉ X.fs := fun {h o ws} ff e1 e2 => by
      have no : a ∉ frs (X.env :: X.outer) := fun hin => by
        obtain ⟨_, o', e3, hnf⟩ := ff.mem hin
        rw [e1] at e3
        obtain rfl := Option.some.inj e3
        exact hnf _ e2
      refine ⟨fun z => no (List.mem_filterMap.mpr ⟨X.env, List.mem_cons_self, by rw [hfrm, z]⟩), fun hin => ?_⟩
      obtain ⟨e, he, q⟩ := List.mem_filterMap.mp hin
      exact no (List.mem_filterMap.mpr ⟨e, List.mem_cons_of_mem _ he, q⟩)
    obtain ⟨o2, vs2, g2, z2, f2⟩ := fl2.there
    obtain ⟨nl2, nf2⟩ := apart fl2.2.2.1 g2 f2
    -- nor did it stand at the entry, nor is it pinned
    have hB : B.get? a = none := fl2.2.1
    have inB : ∀ b o, s0.heap.get? b = some o → b ≠ X.env.locals → b ∉ X.fs → b ≠ a := fun b o e1 e2 e3 z => by
      have := nb b o e1 fun hin => (List.mem_cons.mp (I.stkSub b hin)).elim e2 e3
      rw [z, hB] at this
      cases this
    have n0 : X.s_0.heap.get? a = none := by
      cases e : X.s_0.heap.get? a with
      | none => rfl
      | some o =>
        obtain ⟨o', e'⟩ := J.base.there a o e (by rw [hex]; exact List.not_mem_nil)
        exact (inB a o' e' nl2 nf2 rfl).elim
    have npin : ∀ p ∈ X.pn ++ pins, p.1 ≠ a := fun p hp => by
      obtain ⟨h1, _, h3, h4, _⟩ := J.pin p hp
      exact inB _ _ h1 h3 h4
    have S2 := J2.suite g2 f2 na nl2 nf2
    refine wpAny_handleBy_cons (codeAny_handlers_test ?_) (fun q => nomatch q)
    have LT : PySem.W.Looks (model X.prog X.w) h2 (typeOf (.ref a)) cls := fun A' Q' E' s' k q => wpAny_typeOf_ref (k _ _ g2) (by rw [z2.1]; exact q)
    have LM := PySem.W.exm_one (M := model X.prog X.w) J2.kIn LT hm
    have clause : ∀ {Q' : Value → Shared → Prop} {E' : Value → Shared → Prop}, Q' c { s1 with heap := h2 } → wpAny (model X.prog X.w) (X.A.mark (some (.ref a))) (eval (.Name x np) X.env) Q' E' { s1 with heap := h2 } := fun {Q' E'} q => by
      rcases hname with ⟨hg, hdb, hmod | ⟨hno, hb, hnn⟩⟩
      · exact ld_glob S2 hg hmod q hdb
      · exact ld_blt S2 hg hno hb q hnn hdb
    refine clause (LM.here (codeAny_handlers_suite_as (HandSPX.lands_againZ fl2 fun h3 fl3 up3 => ?_)))
    have J3 : Inv X pins σ0 H0 { s1 with heap := h3 } := J.landed nb fl3.1 ((up.trans up2).trans up3) os ag
    obtain ⟨o3, vs3, g3, z3, f3⟩ := fl3.there
    have S3 := J3.suite g3 f3 na nl2 nf2
    refine store_ok (X := X.suite a ((a, o3) :: (X.pn ++ pins))) (v := .ref a) S3 hnd hix (.inl hkind) rfl (fun s4 S4 => ?_) (.inr hkind)
    refine wpAny_mono ((hsuite a o3 cls d (X.pn ++ pins)).run [] s4 _ H0 _ S4 (hgo a na J.len)) (fun f s5 hsp => ?_) (fun _ _ z => z.elim)
    cases f with
    | next =>
      obtain ⟨σ5, H5, S5, q5⟩ := hsp
      exact gone_ok (X := X.suite a ((a, o3) :: (X.pn ++ pins))) S5 hnd hix hkind fun s6 S6 => ⟨_, _, keep_inv okX hex S6 z3 ⟨_, f3⟩ n0 npin, q5⟩
    | brk => obtain ⟨_, _, _, q5⟩ := hsp; exact q5.elim
    | cont => obtain ⟨_, _, _, q5⟩ := hsp; exact q5.elim
    | ret u => obtain ⟨_, _, _, _, _, q5⟩ := hsp; exact q5.elim
end
/-- isinstance of a kept error -/
def rIsX (K : PySem.W.Frag) : List V → Hp → VK → Prop := fun xs H Q => ∃ (a D : Addr) (c : V) (cv : Value) (b : Bool), xs = [.ref a, c] ∧ H a = some (XO (.ref D) none a) ∧ (∀ u, RelV c u → u = cv) ∧ ExcC K D ∧ PySem.W.kitOne K (.ref D) cv = some b ∧ Q (.bl b) H
theorem call_isX {X : Cx} : CallR X (.builtin "isinstance") (rIsX X.K) := by
  intro pins s σ H xs us Q I r h
  obtain ⟨a, D, c, cv, b, rfl, ha, hcv, C, e, q⟩ := h
  obtain ⟨u1, u2, rfl, r1, r2⟩ := vals2 r
  obtain rfl := hcv u2 r2
  obtain rfl : u1 = Value.ref a := r1
  obtain ⟨⟨oe, vs, h1, h2, h3⟩, _, _⟩ := (show ObjOk X.prog X.w H s.heap a (XO (.ref D) none a) from I.hok a _ ha)
  have J : PySem.W.InstAt s.heap a oe D none := by
    obtain ⟨oc, od, oda, osl⟩ := oe
    obtain ⟨z1, z2⟩ := h2
    dsimp only at z1 z2 h3
    subst z1 z2 h3
    exact ⟨h1, rfl, rfl, trivial⟩
  exact PySem.W.kia_one (PySem.W.handS_kitx_exc C.hg C.hk C.hs C.hd C.ha C.hn C.ht C.hm) I.kIn J e (fun z => nomatch z) fun tk => ⟨.bl b, H, I.tok tk, rfl, q⟩
/-- an own class of errors: may be raised, and asked for -/
structure ExcK (K : PySem.W.Frag) (mg : Str → Option Value) (x : Str) (C : Addr) : Prop where
  ex : PySem.W.excIn K C [.type "ValueError", .type "Exception", .type "BaseException", .type "object"] "ValueError.__new__" = true
  g : mg x = some (.ref C)
  k : PySem.W.keepIn K (.ref C) = true
  sb : PySem.W.subIn K (.ref C) (.type "BaseException") = some true
  ty : PySem.W.typeIn K (.ref C) = some (.type "type")
/-- of the classes cs an error of the class D is just of the j-th -/
structure Kit (K : PySem.W.Frag) (D : Addr) (cs : List Addr) (j : Nat) : Prop where
  is : ExcC K D
  ve : PySem.W.kitOne K (.ref D) (.type "ValueError") = some true
  of : ∀ (i : Nat) (C : Addr), cs[i]? = some C → PySem.W.kitOne K (.ref D) (.ref C) = some (decide (i = j))
theorem kit_ref {K : PySem.W.Frag} {D C : Addr} {b : Bool} (h1 : PySem.W.isClsIn K C = true) (ht : PySem.W.typeIn K (.ref C) = some (.type "type")) (h2 : PySem.W.subIn K (.ref D) (.ref C) = some b) (h3 : D = C → b = true) : PySem.W.kitOne K (.ref D) (.ref C) = some b := by
  unfold PySem.W.kitOne
  by_cases e : D = C
  · subst e
    rw [if_pos (beq_self_eq_true _), h3 rfl]
  · have ne : (Value.ref D == Value.ref C) = false := by
      cases q : (Value.ref D == Value.ref C) with
      | false => rfl
      | true => exact (e (Value.ref.inj (beq_iff_eq.mp q))).elim
    rw [ne, if_neg (fun z => nomatch z)]
    unfold PySem.W.kitCls
    have h1' : ((PySem.W.clsIn K C).isSome && PySem.W.typeIn K (.ref C) == some (.type "type")) = true := by
      unfold PySem.W.isClsIn at h1
      rw [ht]
      simpa using h1
    show (if ((PySem.W.clsIn K C).isSome && PySem.W.typeIn K (.ref C) == some (.type "type")) = true then PySem.W.subIn K (.ref D) (.ref C) else none) = some b
    rw [if_pos h1']
    exact h2
def refWords : List Str := ["width", "word", "start", "road", "steps", "row", "text"]
/-! ### defs that may raise, called -/
structure CalX (P : Program) (w : World) (K : PySem.W.Frag) (mg : Str → Option Value) (base : Heap) (k : Nat) (x : Str) (sp : Sp) : Prop where
  ex : ∃ (f : Addr) (fd : FuncData) (ps : List Str), FnOk P w K mg base (L2.CX P w) k f fd ps sp ∧ mg x = some (.ref f) ∧ PySem.W.keepIn K (.ref f) = true ∧ Binds K fd ps []
structure MetX (P : Program) (w : World) (K : PySem.W.Frag) (mg : Str → Option Value) (base : Heap) (k : Nat) (C : Addr) (m : Str) (sp : Sp) (dvs : List V) : Prop where
  ex : ∃ (f : Addr) (fd : FuncData) (ps : List Str) (ds : List Value), Cls K C ∧ Meth K C m f ∧ FnOk P w K mg base (L2.CX P w) k f fd ps sp ∧ Binds K fd ps ds ∧ Vals dvs ds
structure MakX (P : Program) (w : World) (K : PySem.W.Frag) (mg : Str → Option Value) (base : Heap) (k : Nat) (x : Str) (C : Addr) (sp : Sp) : Prop where
  ex : ∃ (f : Addr) (fd : FuncData) (ps : List Str), Mk K C f ∧ FnOk P w K mg base (L2.CX P w) k f fd ps sp ∧ mg x = some (.ref C) ∧ Binds K fd ps []
section
variable {P : Program} {w : World} {K : PySem.W.Frag} {mg : Str → Option Value} {base : Heap}
theorem fnX {x qual : Str} {st : Stmt} {f : Addr} {fd : FuncData} {N ps : List Str} {k : Nat} {sp : Sp} (F : C8.Fun K x qual st f fd) (S : FnScope N ps (C8.fnScope st)) (len : ∀ vs H Q E, sp vs H Q E → vs.length = ps.length)
    (hbody : ∀ (cdv : Value) (A : Around) (outer : List Env) (s : Shared) (H : Hp) (vs : List V) (Q : VK) (E : XK), Room k (A.deeper (envOfC qual (C8.fnScope st) s.heap.objs.size f cdv)) → sp vs H Q E →
      ∃ t, PSs (cxOf (L2.CX P w) P w K mg base N qual (C8.fnScope st) f cdv A outer s H E) (C8.fnBody st) t ∧ t { nx := fun _ H' => Q .non H', rt := Q } (L2.start N vs) H) : FnOk P w K mg base (L2.CX P w) (k + 1) f fd ps sp := by
  obtain ⟨oc, od, dV, kV, doc, pm, an, cdv, ct, osl, rfl, lk, hcd⟩ := F.ex
  exact fn_of lk hcd S len fun A outer s H vs Q E hr hsp => hbody cdv A outer s H vs Q E hr hsp
end
section
variable {X : Cx} {k j : Nat} {C : Addr} {x m : Str} {sp : Sp} {dvs : List V} {E : XK} {p pos apos : Pos} {e o : Expr} {es : List Expr} {ta : TE} {t : TA}
theorem pe_cX (c : CalX X.prog X.w X.K X.mg X.base k x sp) (hr : Room j X.A) (hk : k ≤ j) (hg : Gl X x) (hx : Passes (L2.CX X.prog X.w) X E) (ha : PA X (e :: es) t)
    (hdb : (x == ("__debug__" : Str)) = false := by decide) (he : starEach (e :: es) X.env = (false, eval e X.env) :: starEach es X.env := by rfl) (hpl : (backTo pos (starEach es X.env)).any (·.1) = false := by rfl) :
    PE X (.Call (.Name x p) (e :: es) [] pos) (tCall sp [] E t) := by
  obtain ⟨f, fd, ps, F, hm, kp, b⟩ := c.ex
  exact pe_call F (hr.mono hk) hg hm kp b .nil hx ha hdb he hpl
theorem pe_mkX (c : MakX X.prog X.w X.K X.mg X.base k x C sp) (hr : Room j X.A) (hk : k + 1 ≤ j) (hg : Gl X x) (hx : Passes (L2.CX X.prog X.w) X E) (ha : PA X (e :: es) t)
    (hdb : (x == ("__debug__" : Str)) = false := by decide) (he : starEach (e :: es) X.env = (false, eval e X.env) :: starEach es X.env := by rfl) (hpl : (backTo pos (starEach es X.env)).any (·.1) = false := by rfl) :
    PE X (.Call (.Name x p) (e :: es) [] pos) (tMake C sp [] E t) := by
  obtain ⟨f, fd, ps, M, F, hm, b⟩ := c.ex
  exact pe_make M F (hr.mono hk) hg hm b .nil hx ha hdb he hpl
theorem pe_mtX {pl : Sem Bool} (c : MetX X.prog X.w X.K X.mg X.base k C m sp dvs) (hr : Room j X.A) (hk : k ≤ j) (hx : Passes (L2.CX X.prog X.w) X E) (he : PE X o ta) (ha : PA X (e :: es) t)
    (hst : starEach (e :: es) X.env = (false, eval e X.env) :: starEach es X.env := by rfl) (hpl : (backTo pos (starEach es X.env)).any (·.1) = false := by rfl)
    (ht : eval (.Call (.Attribute o m apos) (e :: es) [] pos) X.env = (do let ov ← eval o X.env; standAt apos.atName; let (f, first) ← holding [ov] (getMethod ov m pl); callWith pos f first (backTo pos (starEach (e :: es) X.env)) (backToKw pos (keywordEach [] X.env))) := by rfl) :
    PE X (.Call (.Attribute o m apos) (e :: es) [] pos) (tMeth C m sp dvs E ta t) := by
  obtain ⟨f, fd, ps, ds, hc, hm, F, b, d⟩ := c.ex
  exact pe_meth (pl := pl) he hc hm F (hr.mono hk) b d hx ha hst hpl ht
/-- in a def that may raise: what its callees let out it lets out -/
theorem passE {P : Program} {w : World} {K : PySem.W.Frag} {mg : Str → Option Value} {base : Heap} {N : List Str} {qual : Str} {sc : Scope} {f : Addr} {cdv : Value} {A : Around} {outer : List Env} {s : Shared} {H : Hp} : Passes (L2.CX P w) (cxOf (L2.CX P w) P w K mg base N qual sc f cdv A outer s H E) E :=
  passes_call (takes_of rfl rfl rfl rfl) fun _ _ _ _ h => h
end
end Br

/-! An error of an own class with an own __init__ that calls its own base class's: made, raised, kept, asked, its field read. -/
namespace Br
open PySem PySem.Spec PyProof.Rows L2
/-- what is asked of the written part, so that OexC holds -/
def oexB (K : PySem.W.Frag) (C : Addr) : Bool := match K.lookup C with
  | some ⟨.type "type", _, .cls cd, sl⟩ => (match cd.mro, sl.toList with
    | .ref C' :: bm, [_, _, _, _, some (.builtin n), _] => C' == C && n == "ValueError.__new__" && !cd.hasDel && cd.hasDict && PySem.HandSPX.refsVE bm
    | _, _ => false)
  | _ => false
theorem oexB_cls {K : PySem.W.Frag} {C : Addr} (q : oexB K C = true) : ∃ nm q N bs bm sn sub ab col dd k0 k1 k2 k3 k5, K.lookup C = some (excClassObj nm q C N bs bm true sn sub ab col dd k0 k1 k2 k3 k5 "ValueError.__new__") ∧ PySem.HandSPX.refsVE bm = true := by
  unfold oexB at q
  split at q
  · rename_i dd cd sl ho
    split at q
    · rename_i C' bm k0 k1 k2 k3 n k5 hm hs
      rw [Bool.and_eq_true, Bool.and_eq_true, Bool.and_eq_true, Bool.and_eq_true] at q
      obtain ⟨⟨⟨⟨e1, e2⟩, e3⟩, e4⟩, e5⟩ := q
      have e1 := beq_iff_eq.mp e1
      have e2 := beq_iff_eq.mp e2
      have e3' : cd.hasDel = false := by simpa using e3
      clear e3
      obtain ⟨nm, bs, mro, ns, qn, hd, sn, sub, ab, col, dl⟩ := cd
      dsimp only at hm e3' e4
      subst hm e3' e4 e1 e2
      obtain ⟨l⟩ := sl
      have hs : l = _ := hs
      subst hs
      exact ⟨_, _, _, _, _, _, _, _, _, _, _, _, _, _, _, ho, e5⟩
    · cases q
  · cases q
theorem oex_of {K : PySem.W.Frag} {C : Addr} (h1 : oexB K C = true) (h2 : PySem.W.findIn K (.ref C) "__setattr__" = some (some (.builtin "object.__setattr__"))) (h3 : PySem.W.subIn K (.ref C) (.type "BaseException") = some true) (h4 : PySem.W.typeIn K (.ref C) = some (.type "type")) (h5 : PySem.W.keepIn K (.ref C) = true) : OexC K C :=
  ⟨oexB_cls h1, h2, h3, h4, h5⟩
/-- a base class of one's own whose __init__ is ValueError's -/
structure BaseI (K : PySem.W.Frag) (mg : Str → Option Value) (x : Str) (R : Addr) : Prop where
  g : mg x = some (.ref R)
  rd : PySem.W.readsIn K R (.type "type") = true
  ga : PySem.W.specialIn K (.ref R) "__getattribute__" = some (some (.builtin "type.__getattribute__"))
  at_ : PySem.W.findCls K (.ref R) (.type "type") "__init__" = some (.val (.builtin "ValueError.__init__"))
section
variable {X : Cx} {e : Expr} {es : List Expr} {ta : TA} {x : Str} {R : Addr} {p p1 p2 pos : Pos}
/-- R.__init__(self, ..) -/
theorem pe_baseinit {pl : Sem Bool} (hg : Gl X x) (B : BaseI X.K X.mg x R) (ha : PA X (e :: es) ta) (hdb : (x == ("__debug__" : Str)) = false := by decide)
    (hc : eval (.Call (.Attribute (.Name x p1) "__init__" p2) (e :: es) [] pos) X.env = (do
      let ov ← eval (.Name x p1) X.env
      standAt p2.atName
      let (f, first) ← holding [ov] (getMethod ov "__init__" pl)
      callWith pos f first (backTo pos (starEach (e :: es) X.env)) (backToKw pos (keywordEach [] X.env))) := by rfl)
    (he : starEach (e :: es) X.env = (false, eval e X.env) :: starEach es X.env := by rfl) (hpl : (backTo pos (starEach es X.env)).any (·.1) = false := by rfl) :
    PE X (.Call (.Attribute (.Name x p1) "__init__" p2) (e :: es) [] pos) (tVeI X.K ta) := by
  refine ⟨fun pins s σ H Q I h => ?_⟩
  refine PySem.W.methodCall_KW (ld_glob I hg B.g ?_ hdb) hc
  refine PySem.W.method_cls I.kIn B.ga (PySem.W.cls_value I.kIn B.rd B.at_ rfl ?_)
  refine PyProof.Rows.callWith_method1 (thn (ha.run pos pins _ σ H _ (I.tok _) h) fun us s1 hh => ?_) he hpl
  obtain ⟨vs, H1, I1, r1, a, C, ws, ev, hl, T, ea, q⟩ := hh
  subst ev
  cases r1 with
  | @cons _ u0 _ ur ra rw' =>
    have eu : u0 = Value.ref a := ra
    subst eu
    have hlen : ur.length ≤ sizeLine := by
      have z := Paired.length rw'
      rw [sizeLine_eq]
      omega
    exact oinit_ok T I1 ea hlen fun s' J => ⟨.non, H1, J, rfl, q⟩
end
theorem pa_mono {X : Cx} {es : List Expr} {ta : TA} (ha : PA X es ta) : PA X es (fun σ H Q => ∃ R, ta σ H R ∧ ∀ vs H', R vs H' → Q vs H') := by
  refine ⟨fun pos pins s σ H Q I h => ?_⟩
  obtain ⟨R, h1, h2⟩ := h
  refine wpAny_mono (ha.run pos pins s σ H R I h1) (fun us s1 hu => ?_) fun _ _ z => z
  obtain ⟨vs, H1, I1, r1, q1⟩ := hu
  exact ⟨vs, H1, I1, r1, h2 _ _ q1⟩
/-- what BadText's __init__ does: its one field is set -/
def spField (C : Addr) (f : Str) : Sp := fun vs H Q _ => ∃ (a : Addr) (y : V), vs = [.ref a, y] ∧ H a = some (exo a C none) ∧ ∀ d, H d = none → d ≠ a → Q .non (upd (upd H d (exd d [(f, y)])) a (exo a C (some d)))
/-- an own class with such an __init__ -/
structure FldX (P : Program) (w : World) (K : PySem.W.Frag) (mg : Str → Option Value) (base : Heap) (k : Nat) (x : Str) (C : Addr) (f : Str) : Prop where
  ex : ∃ (fI : Addr) (fd : FuncData) (ps : List Str), OexC K C ∧ PySem.W.findIn K (.ref C) "__init__" = some (some (.ref fI)) ∧ PySem.W.typeIn K (.ref fI) = some (.type "function") ∧ FnOk P w K mg base C8.CX0 k fI fd ps (spField C f) ∧ Binds K fd ps [] ∧ mg x = some (.ref C)
def tFldX (C : Addr) (f : Str) (ta : TA) : L2.St → Hp → XK → Prop := fun σ H Q => ta σ H fun vs H1 => ∃ y, vs = [y] ∧ ∀ d, H1 d = none → Q (.ref C) (some d) (upd H1 d (.xd [(f, y)]))
theorem fld_heap {H1 : Hp} {a d C : Addr} {f : Str} {y : V} (ha : H1 a = none) (hd : upd H1 a (exo a C none) d = none) (hda : d ≠ a) :
    upd (del (upd (upd (upd H1 a (exo a C none)) d (exd d [(f, y)])) a (exo a C (some d))) a) d (.xd [(f, y)]) = upd H1 d (.xd [(f, y)]) := by
  funext b
  by_cases h : b = d
  · rw [h, upd_same, upd_same]
  · rw [upd_ne h, upd_ne h]
    by_cases h2 : b = a
    · rw [h2, del_same, ha]
    · rw [del_ne h2, upd_ne h2, upd_ne h, upd_ne h2]
theorem pmk_fld {X : Cx} {k j : Nat} {x : Str} {C : Addr} {f : Str} {e : Expr} {es : List Expr} {ta : TA} {p pos : Pos} (F : FldX X.prog X.w X.K X.mg X.base k x C f) (hr : Room j X.A) (hk : k + 1 ≤ j) (hx : Passes C8.CX0 X (fun _ _ _ => False)) (hg : Gl X x) (ha : PA X (e :: es) ta)
    (hdb : (x == ("__debug__" : Str)) = false := by decide) (he : starEach (e :: es) X.env = (false, eval e X.env) :: starEach es X.env := by rfl) (hpl : (backTo pos (starEach es X.env)).any (·.1) = false := by rfl) :
    PMk X (.Call (.Name x p) (e :: es) [] pos) (tFldX C f ta) := by
  obtain ⟨fI, fd, ps, T, iC, tI, F1, b, hm⟩ := F.ex
  intro pins s σ H Q I h
  refine pmk_oex T iC tI F1 (hr.mono hk) b .nil hx hg hm (dvs := []) (pa_mono ha) hdb he hpl pins s σ H Q I ?_
  exact ⟨_, h, fun vs H1 hh => by
    obtain ⟨y, rfl, q⟩ := hh
    refine ⟨(by show 1 ≤ 1000; omega), fun a hna => ⟨a, y, rfl, upd_same, fun d hd hda => ⟨rfl, d, [(f, y)], upd_same, ?_, ?_, ?_⟩⟩⟩
    · rw [upd_ne hda, upd_same]
    · rw [upd_ne hda] at hd
      exact hd
    · rw [fld_heap hna hd hda]
      rw [upd_ne hda] at hd
      exact q d hd⟩
/-- isinstance of a kept error that has a dict -/
def rIsXd (K : PySem.W.Frag) : List V → Hp → VK → Prop := fun xs H Q => ∃ (a D dd : Addr) (fs : List (Str × V)) (c : V) (cv : Value) (b : Bool), xs = [.ref a, c] ∧ H a = some (XO (.ref D) (some dd) a) ∧ H dd = some (.xd fs) ∧ (∀ u, RelV c u → u = cv) ∧ ExcC K D ∧ PySem.W.kitOne K (.ref D) cv = some b ∧ Q (.bl b) H
theorem call_isXd {X : Cx} : CallR X (.builtin "isinstance") (rIsXd X.K) := by
  intro pins s σ H xs us Q I r h
  obtain ⟨a, D, dd, fs, c, cv, b, rfl, ha, hd, hcv, C, e, q⟩ := h
  obtain ⟨u1, u2, rfl, r1, r2⟩ := vals2 r
  obtain rfl := hcv u2 r2
  obtain rfl : u1 = Value.ref a := r1
  obtain ⟨⟨oe, vs, h1, h2, h3⟩, _, _⟩ := (show ObjOk X.prog X.w H s.heap a (XO (.ref D) (some dd) a) from I.hok a _ ha)
  obtain ⟨mA, hns, hr⟩ := (show ObjOk X.prog X.w H s.heap dd (.xd fs) from I.hok dd _ hd)
  obtain ⟨od, ho, hl⟩ := lookIn_ns hns
  have J : PySem.W.InstAt s.heap a oe D (some od) := by
    obtain ⟨oc, odi, oda, osl⟩ := oe
    obtain ⟨z1, z2⟩ := h2
    dsimp only at z1 z2 h3
    subst z1 z2 h3
    exact ⟨h1, rfl, rfl, ho⟩
  obtain ⟨cd, hc, _⟩ := PySem.W.any_some C.hd
  exact PySem.W.kia_one (PySem.W.kitx_exc (by rw [hc]; rfl) C.hg C.hk C.hs C.ha C.hn C.ht C.hm) I.kIn J e (fun z => nomatch z) fun tk => ⟨.bl b, H, I.tok tk, rfl, q⟩
/-- a kept error's field -/
def tXoF (K : PySem.W.Frag) (n : Str) (te : TE) : TE := fun σ H Q => te σ H fun x H1 => ∃ (a D dd : Addr) (fs : List (Str × V)) (v : V), x = .ref a ∧ H1 a = some (XO (.ref D) (some dd) a) ∧ H1 dd = some (.xd fs) ∧ XfC K D ∧ PySem.W.findIn K (.ref D) n = some none ∧ fs.lookup n = some v ∧ Q v H1
theorem pe_xof {X : Cx} {e : Expr} {te : TE} {pos : Pos} {n : Str} (he : PE X e te) (hb : attributeBase e n X.env (eval e X.env) = eval e X.env := by rfl) : PE X (.Attribute e n pos) (tXoF X.K n te) := by
  refine ⟨fun pins s σ H Q I h => ?_⟩
  refine attr_of hb (thn (he.run pins s σ H _ I h) fun u s1 hh => ?_)
  obtain ⟨x, H1, I1, rx, a, D, dd, fs, v, ex, ha, ea, T, hno, l, q⟩ := hh
  subst ex
  obtain rfl : u = Value.ref a := rx
  obtain ⟨⟨oe, vs, h1, hz, h3⟩, _, _⟩ := (show ObjOk X.prog X.w H1 s1.heap a (XO (.ref D) (some dd) a) from I1.hok a _ ha)
  obtain ⟨mA, hns, hr⟩ := (show ObjOk X.prog X.w H1 s1.heap dd (.xd fs) from I1.hok dd _ ea)
  obtain ⟨od, ho, hl⟩ := lookIn_ns hns
  obtain ⟨u, hu, ru⟩ := RelO.some_of (v := v) (o := mA n) (by rw [← l]; exact hr n)
  have J : PySem.W.InstAt s1.heap a oe D (some od) := by
    obtain ⟨oc, odi, oda, osl⟩ := oe
    obtain ⟨z1, z2⟩ := hz
    dsimp only at z1 z2 h3
    subst z1 z2 h3
    exact ⟨h1, rfl, rfl, ho⟩
  exact HandSPX.exc_get I1.kIn J T.ga T.gg T.exC (PySem.W.findObj_own T.hdC hno rfl (by rw [hl, hu])) (handed_of ru) ⟨v, H1, I1.tok _, ru, q⟩
end Br

/-! of what class an error is; what is told or refused -/
namespace Br
open PySem PySem.Spec PyProof.Rows L2
open C8 (Cal Met Mak cal0 met0 mak0 pe_c pe_mk pe_mt pe_mt0 pe_gc Def)
theorem LT.two {H : Hp} {p t u : Addr} {r1 r2 : List V} (ht : H t = some (.tup r1)) (hu : H u = some (.tup r2)) (hp : H p = none) : LT (upd H p (.lst [.ref t, .ref u])) p [r1, r2] := by
  refine ⟨_, upd_same, rfl, fun i row e => ?_⟩
  match i, e with
  | 0, e => cases e; exact ⟨t, rfl, (upd_ne (ne_of_none ht hp)).trans ht⟩
  | 1, e => cases e; exact ⟨u, rfl, (upd_ne (ne_of_none hu hp)).trans hu⟩
theorem LT.one1 {H : Hp} {p t : Addr} {r1 : List V} (ht : H t = some (.tup r1)) (hp : H p = none) : LT (upd H p (.lst [.ref t])) p [r1] := by
  refine ⟨_, upd_same, rfl, fun i row e => ?_⟩
  match i, e with
  | 0, e => cases e; exact ⟨t, rfl, (upd_ne (ne_of_none ht hp)).trans ht⟩
theorem LT.cat {H : Hp} {a b : Addr} {A B : List (List V)} (h : LT H a A) (k : LT H b B) : ∃ xs ys, H a = some (.lst xs) ∧ H b = some (.lst ys) ∧ xs.length = A.length ∧ ys.length = B.length ∧ ∀ p, H p = none → LT (upd H p (.lst (xs ++ ys))) p (A ++ B) := by
  obtain ⟨xs, x1, x2, x3⟩ := h
  obtain ⟨ys, y1, y2, y3⟩ := k
  refine ⟨xs, ys, x1, y1, x2, y2, fun p hp => ⟨_, upd_same, by rw [List.length_append, List.length_append, x2, y2], fun i row e => ?_⟩⟩
  by_cases hi : i < A.length
  · rw [List.getElem?_append_left hi] at e
    obtain ⟨c, e1, e2⟩ := x3 i row e
    exact ⟨c, by rw [List.getElem?_append_left (by omega)]; exact e1, (upd_ne (ne_of_none e2 hp)).trans e2⟩
  · rw [List.getElem?_append_right (by omega)] at e
    obtain ⟨c, e1, e2⟩ := y3 _ row e
    exact ⟨c, by rw [List.getElem?_append_right (by omega), x2]; exact e1, (upd_ne (ne_of_none e2 hp)).trans e2⟩
theorem kit_ve {K : PySem.W.Frag} {D : Addr} (h : PySem.W.subIn K (.ref D) (.type "ValueError") = some true) : PySem.W.kitOne K (.ref D) (.type "ValueError") = some true := by
  unfold PySem.W.kitOne
  have ne : (Value.ref D == Value.type "ValueError") = false := rfl
  rw [ne, if_neg (fun z => nomatch z)]
  unfold PySem.W.kitCls
  show (if PySem.W.kitMeta "ValueError" = true then PySem.W.subIn K (.ref D) (.type "ValueError") else none) = some true
  rw [if_pos (by decide +kernel)]
  exact h
theorem hTT {H : Hp} {cs : List (Addr × Addr)} {T : List (Addr × Str)} (h : ∀ p ∈ cs, H p.2 = some (.tbl #[])) (e : cs.map (·.2) = T.map (·.1)) : ∀ p ∈ T, H p.1 = some (.tbl #[]) := fun p hp => by
  have : p.1 ∈ cs.map (·.2) := by rw [e]; exact List.mem_map.mpr ⟨p, hp, rfl⟩
  obtain ⟨q, hq, eq⟩ := List.mem_map.mp this
  rw [← eq]
  exact h q hq
theorem Dn.calX {P : Program} {w : World} {K : PySem.W.Frag} {mg : Str → Option Value} {base : Heap} {x : Str} {st : Stmt} {N ps : List Str} {k : Nat} {sp : Sp} (D : Dn K mg x st ps) (S : FnScope N ps (C8.fnScope st)) (len : ∀ vs H Q E, sp vs H Q E → vs.length = ps.length)
    (hbody : ∀ (f : Addr) (cdv : Value) (A : Around) (outer : List Env) (s : Shared) (H : Hp) (vs : List V) (Q : VK) (E : XK), Room k (A.deeper (envOfC x (C8.fnScope st) s.heap.objs.size f cdv)) → sp vs H Q E →
      ∃ t, PSs (cxOf (L2.CX P w) P w K mg base N x (C8.fnScope st) f cdv A outer s H E) (C8.fnBody st) t ∧ t { nx := fun _ H' => Q .non H', rt := Q } (L2.start N vs) H) : CalX P w K mg base (k + 1) x sp := by
  obtain ⟨f, fd, D, b⟩ := D.ex
  exact ⟨f, fd, ps, fnX D.fn S len fun cdv A outer s H vs Q E hr h => hbody f cdv A outer s H vs Q E hr h, D.mgf, D.kp, b⟩
section
variable {P : Program} {w : World} {K : PySem.W.Frag} {mg : Str → Option Value} {base : Heap} {cW cd cS cR cP cN cT : Addr}
abbrev s_l_refusal : Stmt := top 45
abbrev n_l_refusal : List Str := ["_law_fault", "_law_some", "_law_found", "_law_word", "_law_is_so"]
theorem sc_l_refusal : FnScope n_l_refusal ["_law_fault"] (C8.fnScope s_l_refusal) := ⟨rfl, rfl, rfl, by decide +kernel, rfl, by decide +kernel, by decide +kernel⟩
def refRows (j : Nat) : List (List V) := [[.str "width", .bl (decide (0 = j))], [.str "word", .bl (decide (1 = j))], [.str "start", .bl (decide (2 = j))], [.str "road", .bl (decide (3 = j))], [.str "steps", .bl (decide (4 = j))], [.str "row", .bl (decide (5 = j))], [.str "text", .bl (decide (6 = j))]]
def spRefusal (K : PySem.W.Frag) (cs : List Addr) : Sp := fun vs H Q _ => ∃ (a D : Addr) (j : Nat) (w : Str), vs = [.ref a] ∧ H a = some (XO (.ref D) none a) ∧ Kit K D cs j ∧ refWords[j]? = some w ∧ ∀ H', Same H H' → Q (.str w) H'
theorem c_l_refusal (T : Glob mg) (D : Dn K mg "_law_refusal" s_l_refusal ["_law_fault"]) (gc_BadWidth : mg "BadWidth" = some (.ref cW)) (gc_BadWord : mg "BadWord" = some (.ref cd)) (gc_BadStart : mg "BadStart" = some (.ref cS)) (gc_BadRoad : mg "BadRoad" = some (.ref cR)) (gc_BadSteps : mg "BadSteps" = some (.ref cP))
    (gc_NoRow : mg "NoRow" = some (.ref cN)) (gc_BadText : mg "BadText" = some (.ref cT)) (gz_ValueError : mg "ValueError" = none) : Cal P w K mg base 1 "_law_refusal" (spRefusal K [cW, cd, cS, cR, cP, cN, cT]) [] := by
  refine D.cal sc_l_refusal (fun vs H Q E h => ?_) (fun f cdv A outer s0 H vs Q E hr h => ?_)
  · obtain ⟨a, D, j, w, rfl, _⟩ := h
    rfl
  · obtain ⟨a, DD, j, wd, rfl, ha, kt, hw, k⟩ := h
    refine ⟨_, (pss_cons (ps_set (i := 1) sc_l_refusal.nd rfl (by first | exact Or.inl rfl | exact Or.inr rfl) (pe_lst (pa_cons (pe_tup (pa_cons pe_str (pa_cons (pe_callB call_isX (by rfl) T.g_isinstance (by decide +kernel) (pa_cons (pv 0) (pa_cons (pe_glob (v := .ref _) rfl gc_BadWidth rfl) pa_nil))) pa_nil))) (pa_cons (pe_tup (pa_cons pe_str (pa_cons (pe_callB call_isX (by rfl) T.g_isinstance (by decide +kernel) (pa_cons (pv 0) (pa_cons (pe_glob (v := .ref _) rfl gc_BadWord rfl) pa_nil))) pa_nil))) pa_nil))))
      (pss_cons (ps_set (i := 1) sc_l_refusal.nd rfl (by first | exact Or.inl rfl | exact Or.inr rfl) (pe_op op_cat (pv 1) (pe_lst (pa_cons (pe_tup (pa_cons pe_str (pa_cons (pe_callB call_isX (by rfl) T.g_isinstance (by decide +kernel) (pa_cons (pv 0) (pa_cons (pe_glob (v := .ref _) rfl gc_BadStart rfl) pa_nil))) pa_nil))) (pa_cons (pe_tup (pa_cons pe_str (pa_cons (pe_callB call_isX (by rfl) T.g_isinstance (by decide +kernel) (pa_cons (pv 0) (pa_cons (pe_glob (v := .ref _) rfl gc_BadRoad rfl) pa_nil))) pa_nil))) pa_nil)))))
      (pss_cons (ps_set (i := 1) sc_l_refusal.nd rfl (by first | exact Or.inl rfl | exact Or.inr rfl) (pe_op op_cat (pv 1) (pe_lst (pa_cons (pe_tup (pa_cons pe_str (pa_cons (pe_callB call_isX (by rfl) T.g_isinstance (by decide +kernel) (pa_cons (pv 0) (pa_cons (pe_glob (v := .ref _) rfl gc_BadSteps rfl) pa_nil))) pa_nil))) (pa_cons (pe_tup (pa_cons pe_str (pa_cons (pe_callB call_isX (by rfl) T.g_isinstance (by decide +kernel) (pa_cons (pv 0) (pa_cons (pe_glob (v := .ref _) rfl gc_NoRow rfl) pa_nil))) pa_nil))) pa_nil)))))
      (pss_cons (ps_set (i := 1) sc_l_refusal.nd rfl (by first | exact Or.inl rfl | exact Or.inr rfl) (pe_op op_cat (pv 1) (pe_lst (pa_cons (pe_tup (pa_cons pe_str (pa_cons (pe_callB call_isX (by rfl) T.g_isinstance (by decide +kernel) (pa_cons (pv 0) (pa_cons (pe_glob (v := .ref _) rfl gc_BadText rfl) pa_nil))) pa_nil))) pa_nil))))
      (pss_cons (ps_setLc (i := 2) (own := [("_law_word", 3), ("_law_is_so", 4)]) (g := (gTup K 2 (gCons (gName 3) (gCons (gName 4) gNil)))) rfl sc_l_refusal.nd rfl (by first | rfl) (sw_true rfl rfl rfl (by decide +kernel)) (pi_list (pv 1)) (blkOk_by (own := [("_law_word", 3), ("_law_is_so", 4)]) (N := n_l_refusal) (sc := C8.fnScope s_l_refusal) (by decide +kernel)) (fun _ _ _ _ _ => (pg_tup rfl (pgs_cons (pg_name (i := 3) sc_l_refusal.nd rfl (by first | exact Or.inl rfl | exact Or.inr rfl)) (pgs_cons (pg_name (i := 4) sc_l_refusal.nd rfl (by first | exact Or.inl rfl | exact Or.inr rfl)) pgs_nil)))) (fun _ _ _ _ _ => (pts_one (pt_val (pv 4)))) (fun _ _ _ _ _ => (pv 3)))
      (pss_one (ps_ret (pe_ifExp (PW.pt (pw_and (pt_cmpR op_eq (pe_callB call_len_seq (by rfl) T.g_len boot_len (pa_cons (pv 2) pa_nil)) pe_int (nomark _)) (pw_and1 (pt_val (pe_callB call_isX (by rfl) T.g_isinstance (by decide +kernel) (pa_cons (pv 0) (pa_cons (pe_bltn (v := .ty "ValueError") (by rfl) gz_ValueError (by decide +kernel) rfl) pa_nil))))))) (pe_ix ix_list (pv 2) pe_int (fun _ _ => rfl)) pe_str)))))))), ?_⟩
    have g0 : Same H H := Same.refl H
    refine ⟨_, rfl, a, DD, _, _, _, rfl, g0 _ _ ha, fun u r => r, kt.is, kt.of 0 _ rfl, (by show 2 ≤ sizeLine; decide), fun t0 ht0 => ?_⟩
    have s1 : Same H (upd H t0 (.tup [.str "width", .bl (decide (0 = j))])) := Same_upd (Same.refl H) ht0
    have e0 : (upd H t0 (.tup [.str "width", .bl (decide (0 = j))])) t0 = some (.tup [.str "width", .bl (decide (0 = j))]) := upd_same
    generalize (upd H t0 (.tup [.str "width", .bl (decide (0 = j))])) = H1 at s1 e0 ⊢
    have g1 : Same H H1 := g0.trans s1
    refine ⟨_, rfl, a, DD, _, _, _, rfl, g1 _ _ ha, fun u r => r, kt.is, kt.of 1 _ rfl, (by show 2 ≤ sizeLine; decide), fun t1 ht1 => ?_⟩
    have s2 : Same H1 (upd H1 t1 (.tup [.str "word", .bl (decide (1 = j))])) := Same_upd (Same.refl H1) ht1
    have e1 : (upd H1 t1 (.tup [.str "word", .bl (decide (1 = j))])) t1 = some (.tup [.str "word", .bl (decide (1 = j))]) := upd_same
    generalize (upd H1 t1 (.tup [.str "word", .bl (decide (1 = j))])) = H2 at s2 e1 ⊢
    have g2 : Same H H2 := g1.trans s2
    refine ⟨(by show 2 ≤ sizeLine; decide), fun p1 hp1 => ?_⟩
    have L3 := LT.two (s2 _ _ e0) e1 hp1
    have s3 : Same H2 (upd H2 p1 (.lst [.ref t0, .ref t1])) := Same_upd (Same.refl H2) hp1
    generalize (upd H2 p1 (.lst [.ref t0, .ref t1])) = H3 at L3 s3 ⊢
    have g3 : Same H H3 := g2.trans s3
    have M3 := L3
    refine ⟨_, rfl, _, rfl, a, DD, _, _, _, rfl, g3 _ _ ha, fun u r => r, kt.is, kt.of 2 _ rfl, (by show 2 ≤ sizeLine; decide), fun t2 ht2 => ?_⟩
    have s4 : Same H3 (upd H3 t2 (.tup [.str "start", .bl (decide (2 = j))])) := Same_upd (Same.refl H3) ht2
    have e2 : (upd H3 t2 (.tup [.str "start", .bl (decide (2 = j))])) t2 = some (.tup [.str "start", .bl (decide (2 = j))]) := upd_same
    generalize (upd H3 t2 (.tup [.str "start", .bl (decide (2 = j))])) = H4 at s4 e2 ⊢
    have g4 : Same H H4 := g3.trans s4
    refine ⟨_, rfl, a, DD, _, _, _, rfl, g4 _ _ ha, fun u r => r, kt.is, kt.of 3 _ rfl, (by show 2 ≤ sizeLine; decide), fun t3 ht3 => ?_⟩
    have s5 : Same H4 (upd H4 t3 (.tup [.str "road", .bl (decide (3 = j))])) := Same_upd (Same.refl H4) ht3
    have e3 : (upd H4 t3 (.tup [.str "road", .bl (decide (3 = j))])) t3 = some (.tup [.str "road", .bl (decide (3 = j))]) := upd_same
    generalize (upd H4 t3 (.tup [.str "road", .bl (decide (3 = j))])) = H5 at s5 e3 ⊢
    have g5 : Same H H5 := g4.trans s5
    refine ⟨(by show 2 ≤ sizeLine; decide), fun q1 hq1 => ?_⟩
    have L6 := LT.two (s5 _ _ e2) e3 hq1
    have s6 : Same H5 (upd H5 q1 (.lst [.ref t2, .ref t3])) := Same_upd (Same.refl H5) hq1
    generalize (upd H5 q1 (.lst [.ref t2, .ref t3])) = H6 at L6 s6 ⊢
    have g6 : Same H H6 := g5.trans s6
    have M6 := M3.same ((s4.trans s5).trans s6)
    obtain ⟨xs6, ys6, x1, y1, xl, yl, hc⟩ := LT.cat M6 L6
    refine ⟨p1, q1, xs6, ys6, rfl, rfl, x1, y1, (by rw [xl, yl]; show 4 ≤ sizeLine; decide), fun p2 hp2 => ?_⟩
    have M7 := hc p2 hp2
    have s7 : Same H6 (upd H6 p2 (.lst (xs6 ++ ys6))) := Same_upd (Same.refl H6) hp2
    generalize (upd H6 p2 (.lst (xs6 ++ ys6))) = H7 at M7 s7 ⊢
    have g7 : Same H H7 := g6.trans s7
    clear hc x1 y1 xl yl
    refine ⟨_, rfl, _, rfl, a, DD, _, _, _, rfl, g7 _ _ ha, fun u r => r, kt.is, kt.of 4 _ rfl, (by show 2 ≤ sizeLine; decide), fun t4 ht4 => ?_⟩
    have s8 : Same H7 (upd H7 t4 (.tup [.str "steps", .bl (decide (4 = j))])) := Same_upd (Same.refl H7) ht4
    have e4 : (upd H7 t4 (.tup [.str "steps", .bl (decide (4 = j))])) t4 = some (.tup [.str "steps", .bl (decide (4 = j))]) := upd_same
    generalize (upd H7 t4 (.tup [.str "steps", .bl (decide (4 = j))])) = H8 at s8 e4 ⊢
    have g8 : Same H H8 := g7.trans s8
    refine ⟨_, rfl, a, DD, _, _, _, rfl, g8 _ _ ha, fun u r => r, kt.is, kt.of 5 _ rfl, (by show 2 ≤ sizeLine; decide), fun t5 ht5 => ?_⟩
    have s9 : Same H8 (upd H8 t5 (.tup [.str "row", .bl (decide (5 = j))])) := Same_upd (Same.refl H8) ht5
    have e5 : (upd H8 t5 (.tup [.str "row", .bl (decide (5 = j))])) t5 = some (.tup [.str "row", .bl (decide (5 = j))]) := upd_same
    generalize (upd H8 t5 (.tup [.str "row", .bl (decide (5 = j))])) = H9 at s9 e5 ⊢
    have g9 : Same H H9 := g8.trans s9
    refine ⟨(by show 2 ≤ sizeLine; decide), fun q2 hq2 => ?_⟩
    have L10 := LT.two (s9 _ _ e4) e5 hq2
    have s10 : Same H9 (upd H9 q2 (.lst [.ref t4, .ref t5])) := Same_upd (Same.refl H9) hq2
    generalize (upd H9 q2 (.lst [.ref t4, .ref t5])) = H10 at L10 s10 ⊢
    have g10 : Same H H10 := g9.trans s10
    have M10 := M7.same ((s8.trans s9).trans s10)
    obtain ⟨xs10, ys10, x1, y1, xl, yl, hc⟩ := LT.cat M10 L10
    refine ⟨p2, q2, xs10, ys10, rfl, rfl, x1, y1, (by rw [xl, yl]; show 6 ≤ sizeLine; decide), fun p3 hp3 => ?_⟩
    have M11 := hc p3 hp3
    have s11 : Same H10 (upd H10 p3 (.lst (xs10 ++ ys10))) := Same_upd (Same.refl H10) hp3
    generalize (upd H10 p3 (.lst (xs10 ++ ys10))) = H11 at M11 s11 ⊢
    have g11 : Same H H11 := g10.trans s11
    clear hc x1 y1 xl yl
    refine ⟨_, rfl, _, rfl, a, DD, _, _, _, rfl, g11 _ _ ha, fun u r => r, kt.is, kt.of 6 _ rfl, (by show 2 ≤ sizeLine; decide), fun t6 ht6 => ?_⟩
    have s12 : Same H11 (upd H11 t6 (.tup [.str "text", .bl (decide (6 = j))])) := Same_upd (Same.refl H11) ht6
    have e6 : (upd H11 t6 (.tup [.str "text", .bl (decide (6 = j))])) t6 = some (.tup [.str "text", .bl (decide (6 = j))]) := upd_same
    generalize (upd H11 t6 (.tup [.str "text", .bl (decide (6 = j))])) = H12 at s12 e6 ⊢
    have g12 : Same H H12 := g11.trans s12
    refine ⟨(by show 1 ≤ sizeLine; decide), fun q3 hq3 => ?_⟩
    have L13 := LT.one1 e6 hq3
    have s13 : Same H12 (upd H12 q3 (.lst [.ref t6])) := Same_upd (Same.refl H12) hq3
    generalize (upd H12 q3 (.lst [.ref t6])) = H13 at L13 s13 ⊢
    have g13 : Same H H13 := g12.trans s13
    have M13 := M11.same (s12.trans s13)
    obtain ⟨xs13, ys13, x1, y1, xl, yl, hc⟩ := LT.cat M13 L13
    refine ⟨p3, q3, xs13, ys13, rfl, rfl, x1, y1, (by rw [xl, yl]; show 7 ≤ sizeLine; decide), fun p4 hp4 => ?_⟩
    have M14 := hc p4 hp4
    have s14 : Same H13 (upd H13 p4 (.lst (xs13 ++ ys13))) := Same_upd (Same.refl H13) hp4
    generalize (upd H13 p4 (.lst (xs13 ++ ys13))) = H14 at M14 s14 ⊢
    have g14 : Same H H14 := g13.trans s14
    clear hc x1 y1 xl yl
    have M := M14
    have hp0 : H p4 = none := g13.free hp4
    generalize H14 = HH at *
    have M : LT HH p4 (refRows j) := M
    have gH : Same H HH := by assumption
    have hj : j < 7 := (List.getElem?_eq_some_iff.mp hw).1
    obtain ⟨vs, v1, v2, v3⟩ := M
    have v2 : vs.length = 7 := v2
    have rowAt : ∀ i, i < 7 → ∃ wi, (refRows j)[i]? = some [.str wi, .bl (decide (i = j))] ∧ refWords[i]? = some wi := fun i hi => by
      match i, hi with
      | 0, _ => exact ⟨_, rfl, rfl⟩
      | 1, _ => exact ⟨_, rfl, rfl⟩
      | 2, _ => exact ⟨_, rfl, rfl⟩
      | 3, _ => exact ⟨_, rfl, rfl⟩
      | 4, _ => exact ⟨_, rfl, rfl⟩
      | 5, _ => exact ⟨_, rfl, rfl⟩
      | 6, _ => exact ⟨_, rfl, rfl⟩
    refine ⟨_, rfl, p4, rfl, ⟨_, SqL.of v1⟩, fun D hD => ?_⟩
    refine lc_it (walk_list (K := K) (a := p4) (xs := vs)) (PvF HH D fun i => if j < i then [V.str wd] else []) (pv0 hD) (fun j H' _ h => SqL.of (h.1 _ _ v1)) ?_ ?_
    · rintro i x H1 H2 hi ⟨s1, h1⟩ ⟨rfl, hx⟩
      obtain ⟨wi, r1, r2⟩ := rowAt i (by omega)
      obtain ⟨c, c1, c2⟩ := v3 i _ r1
      rw [hx] at c1
      cases c1
      refine ⟨c, _, rfl, SqT.of (s1 _ _ c2), rfl, _, _, rfl, _, _, rfl, rfl, rfl, _, rfl, _, rfl, ?_⟩
      refine ite2 (fun e => ?_) fun e => ?_
      · have e : i = j := of_decide_eq_true e
        subst e
        rw [hw] at r2
        cases r2
        exact ⟨_, rfl, pv_in hD s1 h1 (by rw [if_neg (by omega)]; show 0 < 100000; decide) (by rw [if_pos (by omega), if_neg (by omega)]; rfl)⟩
      · have e : ¬ i = j := fun z => e (decide_eq_true z)
        refine pv_out s1 h1 ?_
        by_cases h : j < i
        · rw [if_pos h, if_pos (by omega)]
        · rw [if_neg h, if_neg (by omega)]
    · rintro H1 ⟨s1, h1⟩
      have h1 : H1 D = some (.lst (if j < vs.length then [V.str wd] else [])) := h1
      rw [v2, if_pos hj] at h1
      have s01 := gH.trans s1
      refine ⟨_, rfl, D, _, rfl, .inl (SqL.of h1), rfl, _, rfl, iteT ?_⟩
      refine ⟨_, rfl, a, DD, _, _, _, rfl, s01 _ _ ha, fun u r => r, kt.is, kt.ve, _, rfl, iteT ?_⟩
      exact ⟨_, rfl, D, _, _, _, rfl, rfl, SqL.of h1, atI_nat (j := 0) rfl, k _ s01⟩
end
end Br

/-! bitroads.table: the stretch of a word -/
namespace Br
open PySem PySem.Spec PyProof.Rows L2
open C8 (Cal Met Mak cal0 met0 mak0 pe_c pe_mk pe_mt pe_mt0 pe_gc Def)
/-- each number lies in a stretch -/
theorem Tl.find {f : Nat → Option Nat} {b : Nat} : ∀ {L : List St3} {a n : Nat}, Tl f b a L → a ≤ n → n < b → ∃ x y r, (x, y, r) ∈ L ∧ x ≤ n ∧ n ≤ y
  | [], a, n, h, h1, h2 => by have h : a = b := h; omega
  | (x, y, r) :: L, a, n, h, h1, h2 => by
    obtain ⟨rfl, k1, k2, k3, k4, k5⟩ := h
    by_cases hn : n ≤ y
    · exact ⟨x, y, r, List.mem_cons_self, h1, hn⟩
    · obtain ⟨x', y', r', m, q⟩ := k5.find (n := n) (by omega) h2
      exact ⟨x', y', r', List.mem_cons_of_mem _ m, q⟩
theorem Tl.le2 {f : Nat → Option Nat} {b : Nat} : ∀ {L : List St3} {a : Nat}, Tl f b a L → ∀ s ∈ L, s.1 ≤ s.2.1
  | [], _, _, s, h => by cases h
  | (x, y, r) :: L, a, h, s, hs => by
    obtain ⟨rfl, k1, k2, k3, k4, k5⟩ := h
    rcases List.mem_cons.mp hs with rfl | hs
    · exact k1
    · exact k5.le2 s hs
def within (n : Nat) (s : St3) : Bool := decide (s.1 ≤ n) && decide (n ≤ s.2.1)
section
variable {P : Program} {w : World} {K : PySem.W.Frag} {mg : Str → Option Value} {base : Heap} {CK CT : Addr}
end
end Br

/-! what a table refuses -/
namespace Br
open PySem PySem.Spec PyProof.Rows L2
open C8 (Cal Met Mak cal0 met0 mak0 pe_c pe_mk pe_mt pe_mt0 pe_gc Def)
section
variable {P : Program} {w : World} {K : PySem.W.Frag} {mg : Str → Option Value} {base : Heap} {CK CT BW BD BS BR NR : Addr}
theorem Mn.metX {m : Str} {C : Addr} {st : Stmt} {N ps : List Str} {dvs : List V} {k : Nat} {sp : Sp} (D : Mn K C m st ps dvs) (S : FnScope N ps (C8.fnScope st)) (len : ∀ vs H Q E, sp vs H Q E → vs.length = ps.length)
    (hbody : ∀ (qual : Str) (f : Addr) (cdv : Value) (A : Around) (outer : List Env) (s : Shared) (H : Hp) (vs : List V) (Q : VK) (E : XK), Room k (A.deeper (envOfC qual (C8.fnScope st) s.heap.objs.size f cdv)) → sp vs H Q E →
      ∃ t, PSs (cxOf (L2.CX P w) P w K mg base N qual (C8.fnScope st) f cdv A outer s H E) (C8.fnBody st) t ∧ t { nx := fun _ H' => Q .non H', rt := Q } (L2.start N vs) H) : MetX P w K mg base (k + 1) C m sp dvs := by
  obtain ⟨qual, f, fd, ds, c, me, F, b, d⟩ := D.ex
  exact ⟨f, fd, ps, ds, c, me, fnX F S len fun cdv A outer s H vs Q E hr h => hbody qual f cdv A outer s H vs Q E hr h, b, d⟩
theorem Mkn.makX {x : Str} {C : Addr} {st : Stmt} {N ps : List Str} {k : Nat} {sp : Sp} (D : Mkn K mg x C st ps) (S : FnScope N ps (C8.fnScope st)) (len : ∀ vs H Q E, sp vs H Q E → vs.length = ps.length)
    (hbody : ∀ (qual : Str) (f : Addr) (cdv : Value) (A : Around) (outer : List Env) (s : Shared) (H : Hp) (vs : List V) (Q : VK) (E : XK), Room k (A.deeper (envOfC qual (C8.fnScope st) s.heap.objs.size f cdv)) → sp vs H Q E →
      ∃ t, PSs (cxOf (L2.CX P w) P w K mg base N qual (C8.fnScope st) f cdv A outer s H E) (C8.fnBody st) t ∧ t { nx := fun _ H' => Q .non H', rt := Q } (L2.start N vs) H) : MakX P w K mg base (k + 1) x C sp := by
  obtain ⟨qual, f, fd, M, hm, F, b⟩ := D.ex
  exact ⟨f, fd, ps, M, fnX F S len fun cdv A outer s H vs Q E hr h => hbody qual f cdv A outer s H vs Q E hr h, hm, b⟩
theorem bits_ok {s : List Bool} {v : Nat} (h : s.length ≤ v) : isBits (.str (tx s)) 0 (v : Int) = true := by
  rw [isBits_tx, decide_eq_true (by omega), decide_eq_true (by omega)]
  rfl
def spTableX (BW : Addr) : Sp := fun vs H Q E => ∃ (a : Addr) (x : V), vs = [.ref a, x] ∧ Thing H x ∧ isAmong x 1 64 = false ∧ E (.ref BW) none H
theorem cx_Table_init (T : Glob mg) (xk_BadWidth : ExcK K mg "BadWidth" BW) (D : Mkn K mg "Table" CT s_Table_init ["self", "width"]) (c_is_width : Cal P w K mg base 2 "is_width" spWidth []) : MakX P w K mg base 3 "Table" CT (spTableX BW) := by
  refine D.makX sc_Table_init (fun vs H Q E h => ?_) (fun qual f cdv A outer s H vs Q E hr h => ?_)
  · obtain ⟨a, x, rfl, _⟩ := h
    rfl
  · obtain ⟨a, x, rfl, tx, ex, k⟩ := h
    refine ⟨_, (pss_cons (ps_if (pt_not (pt_val (pe_c c_is_width hr (by first | decide | omega) rfl (pa_cons (pv 1) pa_nil))))
      (pss_one (ps_raise rfl (takes_of rfl rfl rfl rfl) (pmk_own PySem.F.excBase_ValueError xk_BadWidth.ex xk_BadWidth.g xk_BadWidth.k (raises_own xk_BadWidth.sb xk_BadWidth.ty) rfl)))
      pss_nil)
      (pss_cons (ps_never (st := _)) (pss_cons (ps_never (st := _)) (pss_one (ps_never (st := _)))))), ?_⟩
    refine ⟨_, rfl, _, rfl, tx, ?_⟩
    rw [ex]
    exact ⟨_, rfl, iteT k⟩
def spNeedSX (CK CT BS : Addr) : Sp := fun vs H Q E => ∃ (T : Addr) (v : Nat) (t : AT) (x : V), vs = [.ref T, x] ∧ Tab CK CT H T v t ∧ Thing H x ∧ ((isBits x 0 v = false ∧ ∀ H', Same H H' → E (.ref BS) none H') ∨ (isBits x 0 v = true ∧ ∀ H', Same H H' → Q .non H'))
theorem mx_Table_need_start (T : Glob mg) (Tt : Ts K CT) (xk_BadStart : ExcK K mg "BadStart" BS) (D : Mn K CT "need_start" s_Table_need_start ["self", "start"] []) (c_is_start : Cal P w K mg base 2 "is_start" spStart []) : MetX P w K mg base 3 CT "need_start" (spNeedSX CK CT BS) [] := by
  refine D.metX sc_Table_need_start (fun vs H Q E h => ?_) (fun qual f cdv A outer s H vs Q E hr h => ?_)
  · obtain ⟨a, v, t, x, rfl, _⟩ := h
    rfl
  · obtain ⟨a, v, t, x, rfl, ht, hx, k⟩ := h
    refine ⟨_, (pss_one (ps_if (pt_not (pt_val (pe_c c_is_start hr (by first | decide | omega) rfl (pa_cons (pe_fld (pv 0) rfl) (pa_cons (pv 1) pa_nil)))))
      (pss_one (ps_raise rfl (takes_of rfl rfl rfl rfl) (pmk_own PySem.F.excBase_ValueError xk_BadStart.ex xk_BadStart.g xk_BadStart.k (raises_own xk_BadStart.sb xk_BadStart.ty) rfl)))
      pss_nil)), ?_⟩
    obtain ⟨dx, ho⟩ := ht.obj
    refine ⟨_, rfl, a, CT, dx, _, _, rfl, ho, Tt.cl, Tt.nwide, rfl, _, rfl, _, _, rfl, hx, fun H' s' => ?_⟩
    rcases k with ⟨e, k⟩ | ⟨e, k⟩
    · rw [e]
      exact ⟨_, rfl, iteT (k H' s')⟩
    · rw [e]
      exact ⟨_, rfl, iteF (k H' s')⟩
def spNeedWX (CK CT BD : Addr) : Sp := fun vs H Q E => ∃ (T : Addr) (v : Nat) (t : AT) (x : V), vs = [.ref T, x] ∧ Tab CK CT H T v t ∧ Thing H x ∧ isBits x v v = false ∧ ∀ H', Same H H' → E (.ref BD) none H'
theorem mx_Table_need_word (T : Glob mg) (Tt : Ts K CT) (xk_BadWord : ExcK K mg "BadWord" BD) (D : Mn K CT "need_word" s_Table_need_word ["self", "word"] []) (c_is_word : Cal P w K mg base 2 "is_word" spWord []) : MetX P w K mg base 3 CT "need_word" (spNeedWX CK CT BD) [] := by
  refine D.metX sc_Table_need_word (fun vs H Q E h => ?_) (fun qual f cdv A outer s H vs Q E hr h => ?_)
  · obtain ⟨a, v, t, x, rfl, _⟩ := h
    rfl
  · obtain ⟨a, v, t, x, rfl, ht, hx, e, k⟩ := h
    refine ⟨_, (pss_one (ps_if (pt_not (pt_val (pe_c c_is_word hr (by first | decide | omega) rfl (pa_cons (pe_fld (pv 0) rfl) (pa_cons (pv 1) pa_nil)))))
      (pss_one (ps_raise rfl (takes_of rfl rfl rfl rfl) (pmk_own PySem.F.excBase_ValueError xk_BadWord.ex xk_BadWord.g xk_BadWord.k (raises_own xk_BadWord.sb xk_BadWord.ty) rfl)))
      pss_nil)), ?_⟩
    obtain ⟨dx, ho⟩ := ht.obj
    refine ⟨_, rfl, a, CT, dx, _, _, rfl, ho, Tt.cl, Tt.nwide, rfl, _, rfl, _, _, rfl, hx, fun H' s' => ?_⟩
    rw [e]
    exact ⟨_, rfl, iteT (k H' s')⟩
def spTputX (CK CT BS BR : Addr) : Sp := fun vs H Q E => ∃ (T : Addr) (v : Nat) (t : AT) (x y : V), vs = [.ref T, x, y] ∧ Tab CK CT H T v t ∧ Thing H x ∧ Thing H y ∧
  ((isBits x 0 v = false ∧ ∀ H', Same H H' → E (.ref BS) none H') ∨ (isBits x 0 v = true ∧ isAmong y 0 18446744073709551615 = false ∧ ∀ H', Same H H' → E (.ref BR) none H'))
theorem mx_Table_put (T : Glob mg) (Tt : Ts K CT) (xk_BadRoad : ExcK K mg "BadRoad" BR) (D : Mn K CT "put" s_Table_put ["self", "start", "road"] []) (mx_need_start : MetX P w K mg base 3 CT "need_start" (spNeedSX CK CT BS) []) (c_is_road : Cal P w K mg base 2 "is_road" spRoad []) : MetX P w K mg base 4 CT "put" (spTputX CK CT BS BR) [] := by
  refine D.metX sc_Table_put (fun vs H Q E h => ?_) (fun qual f cdv A outer s H vs Q E hr h => ?_)
  · obtain ⟨a, v, t, x, y, rfl, _⟩ := h
    rfl
  · obtain ⟨a, v, t, x, y, rfl, ht, hx, hy, k⟩ := h
    refine ⟨_, (pss_cons (ps_expr (pe_mtX mx_need_start hr (by first | decide | omega) passE (pv 0) (pa_cons (pv 1) pa_nil)))
      (pss_cons (ps_if (pt_not (pt_val (pe_c c_is_road hr (by first | decide | omega) rfl (pa_cons (pv 2) pa_nil))))
      (pss_one (ps_raise rfl (takes_of rfl rfl rfl rfl) (pmk_own PySem.F.excBase_ValueError xk_BadRoad.ex xk_BadRoad.g xk_BadRoad.k (raises_own xk_BadRoad.sb xk_BadRoad.ty) rfl)))
      pss_nil)
      (pss_cons (ps_never (st := _)) (pss_cons (ps_never (st := _)) (pss_cons (ps_never (st := _)) (pss_cons (ps_never (st := _)) (pss_cons (ps_never (st := _)) (pss_one (ps_never (st := _)))))))))), ?_⟩
    obtain ⟨dx, ho⟩ := ht.obj
    rcases k with ⟨e, k⟩ | ⟨e, e2, k⟩
    · exact ⟨_, rfl, a, dx, _, rfl, ho, rfl, _, rfl, a, v, t, x, rfl, ht, hx, .inl ⟨e, k⟩⟩
    · refine ⟨_, rfl, a, dx, _, rfl, ho, rfl, _, rfl, a, v, t, x, rfl, ht, hx, .inr ⟨e, fun H1 s1 => ?_⟩⟩
      refine ⟨_, rfl, _, rfl, hy.same s1, ?_⟩
      rw [e2]
      exact ⟨_, rfl, iteT (k H1 s1)⟩
def spThasX (CK CT BS : Addr) : Sp := fun vs H Q E => ∃ (T : Addr) (v : Nat) (t : AT) (x : V), vs = [.ref T, x] ∧ Tab CK CT H T v t ∧ Thing H x ∧ ((isBits x 0 v = false ∧ ∀ H', Same H H' → E (.ref BS) none H') ∨ (∃ s, x = .str (tx s) ∧ s.length ≤ v ∧ ∀ H', Same H H' → Q (.bl (t.tr.get s).isSome) H'))
theorem mx_Table_has (T : Glob mg) (Tt : Ts K CT) (Kk : Ks K CK) (D : Mn K CT "has" s_Table_has ["self", "start"] []) (mx_need_start : MetX P w K mg base 3 CT "need_start" (spNeedSX CK CT BS) []) (m_way : Met P w K mg base 1 CT "way" (spWay CK CT) []) : MetX P w K mg base 4 CT "has" (spThasX CK CT BS) [] := by
  refine D.metX sc_Table_has (fun vs H Q E h => ?_) (fun qual f cdv A outer s H vs Q E hr h => ?_)
  · obtain ⟨a, v, t, x, rfl, _⟩ := h
    rfl
  · obtain ⟨a, v, t, x, rfl, ht, hx, k⟩ := h
    refine ⟨_, (pss_cons (ps_expr (pe_mtX mx_need_start hr (by first | decide | omega) passE (pv 0) (pa_cons (pv 1) pa_nil)))
      (pss_cons (ps_set (i := 2) sc_Table_has.nd rfl (by first | exact Or.inl rfl | exact Or.inr rfl) (pe_mt m_way hr (by first | decide | omega) (pv 0) (pa_cons (pv 1) pa_nil)))
      (pss_one (ps_ret (pe_and (pe_cmpR op_gt (pe_callB call_len_seq (by rfl) T.g_len boot_len (pa_cons (pv 2) pa_nil)) (pe_callB call_len_str (by rfl) T.g_len boot_len (pa_cons (pv 1) pa_nil)) (nomark _)) (pe_one (pe_cmpR op_notN (pe_fld (pe_ix ix_list (pv 2) (pe_un un_neg pe_int) (fun _ _ => rfl)) rfl) pe_non (nomark _)))))))), ?_⟩
    obtain ⟨dx, ho⟩ := ht.obj
    rcases k with ⟨e, k⟩ | ⟨s, rfl, hs, k⟩
    · exact ⟨_, rfl, a, dx, _, rfl, ho, rfl, _, rfl, a, v, t, x, rfl, ht, hx, .inl ⟨e, k⟩⟩
    refine ⟨_, rfl, a, dx, _, rfl, ho, rfl, _, rfl, a, v, t, _, rfl, ht, hx, .inr ⟨bits_ok hs, fun H1 s1 => ?_⟩⟩
    refine ⟨_, rfl, a, dx, _, rfl, s1 _ _ ho, rfl, _, rfl, a, v, t, s, rfl, ht.same s1, hs, fun H2 p s2 hp h2 => ?_⟩
    refine ⟨_, rfl, p, _, rfl, .inl (SqL.of h2), _, rfl, _, rfl, by rw [tx_len]; exact Nat.le_trans (by have := ht.w2; omega : s.length ≤ 1000) (by decide), _, _, rfl, rfl, _, rfl, ?_⟩
    have eg := AT.goal_get s t
    refine ite2 (fun c => ?_) fun c => ?_
    · have hne : t.sub s ≠ .nil := (way_long t s).mp c
      have wl : ((t.way s).map AT.val).length = s.length + 1 := by
        have h1 := (AT.way_len s t).mpr hne
        have h2 := AT.way_len_le s t
        rw [List.length_map]
        omega
      have wg : ((t.way s).map AT.val)[s.length]? = some (t.sub s).val := by
        have := AT.way_get s t s.length (Nat.le_refl _)
        rw [List.take_length] at this
        rw [List.getElem?_map, this hne]
        rfl
      have oks := AT.sub_ok s ht.ok
      cases e : t.sub s with
      | nil => exact (hne e).elim
      | nd b db ka g l r =>
        rw [e] at wg oks eg
        refine ⟨_, rfl, _, rfl, p, _, _, _, rfl, rfl, SqL.of h2, atI_end wl wg, b, CK, db, _, _, rfl, s2 _ _ (s1 _ _ oks.1), Kk.cl, Kk.ngoal, rfl, rfl, ?_⟩
        rw [isSome_ov, show g = t.tr.get s from eg]
        exact k _ (s1.trans s2)
    · have hne : t.sub s = .nil := Classical.byContradiction fun n => c ((way_long t s).mpr n)
      rw [hne] at eg
      have e2 : (t.tr.get s).isSome = false := by rw [← eg]; rfl
      have k2 := k _ (s1.trans s2)
      rw [e2] at k2
      exact k2
def spTstrX (CK CT BS : Addr) : Sp := fun vs H Q E => ∃ (T : Addr) (v : Nat) (t : AT) (x : V), vs = [.ref T, x] ∧ Tab CK CT H T v t ∧ Thing H x ∧ isBits x 0 v = false ∧ ∀ H', Same H H' → E (.ref BS) none H'
theorem mx_Table_stretches (T : Glob mg) (Tt : Ts K CT) (D : Mn K CT "stretches" s_Table_stretches ["self", "start"] []) (mx_need_start : MetX P w K mg base 3 CT "need_start" (spNeedSX CK CT BS) []) : MetX P w K mg base 4 CT "stretches" (spTstrX CK CT BS) [] := by
  refine D.metX sc_Table_stretches (fun vs H Q E h => ?_) (fun qual f cdv A outer s H vs Q E hr h => ?_)
  · obtain ⟨a, v, t, x, rfl, _⟩ := h
    rfl
  · obtain ⟨a, v, t, x, rfl, ht, hx, e, k⟩ := h
    refine ⟨_, (pss_cons (ps_expr (pe_mtX mx_need_start hr (by first | decide | omega) passE (pv 0) (pa_cons (pv 1) pa_nil)))
      (pss_cons (ps_never (st := _)) (pss_cons (ps_never (st := _)) (pss_cons (ps_never (st := _)) (pss_cons (ps_never (st := _)) (pss_cons (ps_never (st := _)) (pss_cons (ps_never (st := _)) (pss_one (ps_never (st := _)))))))))), ?_⟩
    obtain ⟨dx, ho⟩ := ht.obj
    exact ⟨_, rfl, a, dx, _, rfl, ho, rfl, _, rfl, a, v, t, x, rfl, ht, hx, .inl ⟨e, k⟩⟩
theorem mx_Table_road (T : Glob mg) (Tt : Ts K CT) (D : Mn K CT "road" s_Table_road ["self", "word"] []) (mx_need_word : MetX P w K mg base 3 CT "need_word" (spNeedWX CK CT BD) []) : MetX P w K mg base 4 CT "road" (spNeedWX CK CT BD) [] := by
  refine D.metX sc_Table_road (fun vs H Q E h => ?_) (fun qual f cdv A outer s H vs Q E hr h => ?_)
  · obtain ⟨a, v, t, x, rfl, _⟩ := h
    rfl
  · obtain ⟨a, v, t, x, rfl, ht, hx, e, k⟩ := h
    refine ⟨_, (pss_cons (ps_expr (pe_mtX mx_need_word hr (by first | decide | omega) passE (pv 0) (pa_cons (pv 1) pa_nil)))
      (pss_cons (ps_never (st := _)) (pss_cons (ps_never (st := _)) (pss_one (ps_never (st := _)))))), ?_⟩
    obtain ⟨dx, ho⟩ := ht.obj
    exact ⟨_, rfl, a, dx, _, rfl, ho, rfl, _, rfl, a, v, t, x, rfl, ht, hx, e, k⟩
end
end Br

/-! bitroads.notes: odd texts refused -/
namespace Br
open PySem PySem.Spec PyProof.Rows L2
open C8 (Cal Met Mak cal0 met0 mak0 pe_c pe_mk pe_mt pe_mt0 pe_gc Def)
/-- an own class of errors with an own __init__, as it stands -/
structure InitD (K : PySem.W.Frag) (mg : Str → Option Value) (x : Str) (C : Addr) (st : Stmt) (ps : List Str) : Prop where
  ex : ∃ (qual : Str) (f : Addr) (fd : FuncData), OexC K C ∧ PySem.W.findIn K (.ref C) "__init__" = some (some (.ref f)) ∧ PySem.W.typeIn K (.ref f) = some (.type "function") ∧ C8.Fun K "__init__" qual st f fd ∧ Binds K fd ps [] ∧ mg x = some (.ref C)
theorem thing_ov {H : Hp} (o : Option Nat) : Thing H (ov o) := by
  cases o with
  | none => exact .non
  | some n => exact .int _
section
variable {P : Program} {w : World} {K : PySem.W.Frag} {mg : Str → Option Value} {base : Heap} {CK CT BT RE cW cd cS cR cP cN : Addr}
abbrev s_BadText_init : Stmt := inClass (top 9) 0
abbrev n_BadText_init : List Str := ["self", "place"]
theorem sc_BadText_init : FnScope n_BadText_init ["self", "place"] (C8.fnScope s_BadText_init) := ⟨rfl, rfl, rfl, by decide +kernel, rfl, by decide +kernel, by decide +kernel⟩
theorem f_BadText (B_RoadsError : BaseI K mg "RoadsError" RE) (hno : PySem.W.findIn K (.ref BT) "place" = some none) (D : InitD K mg "BadText" BT s_BadText_init ["self", "place"]) : FldX P w K mg base 1 "BadText" BT "place" := by
  obtain ⟨qual, f, fd, T, iC, tI, F, b, hm⟩ := D.ex
  refine ⟨f, fd, _, T, iC, tI, C8.fn0 (k := 0) F sc_BadText_init (fun vs H Q E h => ?_) (fun cdv A outer s H vs Q E hr h => ?_), b, hm⟩
  · obtain ⟨a, y, rfl, _⟩ := h
    rfl
  · obtain ⟨a, y, rfl, ha, k⟩ := h
    refine ⟨_, (pss_cons (ps_expr (pe_baseinit rfl B_RoadsError (pa_cons (pv 0) (pa_cons pe_str pa_nil))))
      (pss_one (ps_ost (pv 0) (pv 1)))), ?_⟩
    refine ⟨_, rfl, a, BT, _, rfl, (by show 1 ≤ 1000; omega), T, ha, ?_⟩
    exact ⟨_, rfl, _, rfl, a, BT, rfl, T, hno, .inl ⟨ha, fun d hd hda => k d hd hda⟩⟩
def spWidthX (BT : Addr) : Sp := fun vs H Q E => ∃ z : Str, vs = [.str z] ∧ ((∃ v : Nat, z = Str.ofString "width " ++ numT v ∧ 1 ≤ v ∧ v ≤ 64 ∧ ∀ H', Same H H' → Q (.int (v : Int)) H') ∨
  (z.length ≤ 1000 ∧ badW (TL.tl z) = true ∧ ∀ H' d, Same H H' → H d = none → H' d = some (.xd [("place", .int 0)]) → E (.ref BT) (some d) H'))
theorem cx_width_in (T : Glob mg) (fx_BadText : FldX P w K mg base 1 "BadText" BT "place") (D : Dn K mg "width_in" s_width_in ["row"]) (c_number_in : Cal P w K mg base 1 "number_in" spNumIn []) (c_is_width : Cal P w K mg base 2 "is_width" spWidth []) : CalX P w K mg base 3 "width_in" (spWidthX BT) := by
  refine D.calX sc_width_in (fun vs H Q E h => ?_) (fun f cdv A outer s0 H vs Q E hr h => ?_)
  · obtain ⟨v, rfl, _⟩ := h
    rfl
  · obtain ⟨z, rfl, h⟩ := h
    refine ⟨_, (pss_cons (ps_set (i := 1) sc_width_in.nd rfl (by first | exact Or.inl rfl | exact Or.inr rfl) (pe_split (pv 0) pe_str))
      (pss_cons (ps_if (PW.pt (pw_or (pt_cmpR op_ne (pe_callB call_len_seq (by rfl) T.g_len boot_len (pa_cons (pv 1) pa_nil)) pe_int (nomark _)) (pw_or (pt_cmpR op_ne (pe_ix ix_list (pv 1) pe_int (fun _ _ => rfl)) pe_str (nomark _)) (pw_or1 (pt_not (pt_val (pe_c c_is_width hr (by first | decide | omega) rfl (pa_cons (pe_c c_number_in hr (by first | decide | omega) rfl (pa_cons (pe_ix ix_list (pv 1) pe_int (fun _ _ => rfl)) pa_nil)) pa_nil))))))))
      (pss_one (ps_raise rfl (takes_of rfl rfl rfl rfl) (pmk_fld fx_BadText hr (by first | decide | omega) C8.pass0 rfl (pa_cons pe_int pa_nil))))
      pss_nil)
      (pss_one (ps_ret (pe_c c_number_in hr (by first | decide | omega) rfl (pa_cons (pe_ix ix_list (pv 1) pe_int (fun _ _ => rfl)) pa_nil)))))), ?_⟩
    have sl : 100000 ≤ sizeLine := by decide
    rcases h with ⟨v, rfl, w1, w2, k⟩ | ⟨hz, hb, k⟩
    · have hnv := numT_len (n := v) (by omega)
      have zw : (Str.ofString "width ").length = 6 := by decide +kernel
      have lr : (Str.ofString "width " ++ numT v).length ≤ 26 := by rw [Str.length_append]; omega
      refine ⟨_, rfl, ⟨_, rfl⟩, _, _, rfl, rfl, (by decide +kernel), (by omega), fun p hp => ?_⟩
      rw [split_head]
      have s1 : Same H (upd H p (.lst ([Str.ofString "width", numT v].map V.str))) := Same_upd (Same.refl H) hp
      have e1 : SqL K (upd H p (.lst ([Str.ofString "width", numT v].map V.str))) p [.str (Str.ofString "width"), .str (numT v)] := SqL.of upd_same
      generalize (upd H p (.lst ([Str.ofString "width", numT v].map V.str))) = H1 at s1 e1 ⊢
      refine ⟨_, rfl, p, _, rfl, .inl e1, rfl, _, rfl, iteF ?_⟩
      refine ⟨_, rfl, p, _, _, _, rfl, rfl, e1, atI_nat (j := 0) rfl, rfl, _, rfl, ?_⟩
      rw [decide_eq_true rfl]
      refine iteF ?_
      refine ⟨_, rfl, p, _, _, _, rfl, rfl, e1, atI_nat (j := 1) rfl, numT v, rfl, by omega, fun H2 s2 => ?_⟩
      rw [numIn_num (by omega)]
      refine ⟨_, rfl, .int _, ?_⟩
      have ea : isAmong (ov (some v)) 1 64 = true := by
        show (decide ((1 : Int) ≤ (v : Int)) && decide ((v : Int) ≤ 64)) = true
        rw [decide_eq_true (by omega), decide_eq_true (by omega)]
        rfl
      refine ⟨_, rfl, ?_⟩
      rw [ea]
      refine iteF ?_
      refine ⟨_, rfl, p, _, _, _, rfl, rfl, s2.seq e1, atI_nat (j := 1) rfl, numT v, rfl, by omega, fun H3 s3 => ?_⟩
      rw [numIn_num (by omega)]
      exact k _ ((s1.trans s2).trans s3)
    · refine ⟨_, rfl, ⟨_, rfl⟩, _, _, rfl, rfl, (by decide +kernel), (by omega), fun p hp => ?_⟩
      have hm := spl_of z
      have hpl : ∀ a ∈ Txt.split z (Str.ofString " "), a.length ≤ 1000 := fun a ha => Nat.le_trans (part_len ha) hz
      generalize Txt.split z (Str.ofString " ") = ws at hm hpl ⊢
      have s1 : Same H (upd H p (.lst (ws.map V.str))) := Same_upd (Same.refl H) hp
      have e1 : SqL K (upd H p (.lst (ws.map V.str))) p (ws.map V.str) := SqL.of upd_same
      generalize (upd H p (.lst (ws.map V.str))) = H1 at s1 e1 ⊢
      have fin : ∀ H2, Same H1 H2 → ∀ d, H2 d = none → E (.ref BT) (some d) (upd H2 d (.xd [("place", .int 0)])) := fun H2 s2 d hd => k _ d ((s1.trans s2).trans (Same_upd (Same.refl H2) hd)) ((s1.trans s2).free hd) upd_same
      refine ⟨_, rfl, p, _, rfl, .inl e1, rfl, _, rfl, ?_⟩
      refine ite2 (fun c => ?_) fun c => ?_
      · exact ⟨_, rfl, fin H1 (Same.refl H1)⟩
      · have l2 : ws.length = 2 := by
          have c : (ws.length : Int) = 2 := by simpa using c
          omega
        match ws, l2 with
        | [a, b], _ =>
          have ha := hpl a (by simp)
          have hbl := hpl b (by simp)
          have hb : (!(TL.tl a == [119, 105, 100, 116, 104]) || !okN 1 64 (numInL (TL.tl b))) = true := by
            unfold badW at hb
            rw [← hm] at hb
            exact hb
          refine ⟨_, rfl, p, _, _, _, rfl, rfl, e1, atI_nat (j := 0) rfl, rfl, _, rfl, ?_⟩
          refine ite2 (fun c2 => ?_) fun c2 => ?_
          · exact ⟨_, rfl, fin H1 (Same.refl H1)⟩
          · have ea : a = Str.ofString "width" := by simpa using c2
            refine ⟨_, rfl, p, _, _, _, rfl, rfl, e1, atI_nat (j := 1) rfl, b, rfl, by omega, fun H2 s2 => ?_⟩
            have hno : isAmong (ov (numIn b)) 1 64 = false := by
              rw [show isAmong (ov (numIn b)) 1 64 = okN 1 64 (numIn b) from among_ov _ 1 64, numIn_L]
              rw [ea, tl_width] at hb
              simpa using hb
            refine ⟨_, rfl, thing_ov _, _, rfl, ?_⟩
            rw [hno]
            exact iteT ⟨_, rfl, fin H2 s2⟩
def spRowX (CK CT BT : Addr) : Sp := fun vs H Q E => ∃ (T : Addr) (v : Nat) (t : AT) (z : Str) (pl : Int), vs = [.ref T, .str z, .int pl] ∧ Tab CK CT H T v t ∧
  ((∃ (s : List Bool) (x : Nat), z = rowT (s, x) ∧ s.length ≤ v ∧ x ≤ 18446744073709551615 ∧ t.tr.get s = none ∧ ∀ H' p, Same H H' → H p = none → H' p = some (.tup [.str (tx s), .int (x : Int)]) → Q (.ref p) H') ∨
  (z.length ≤ 1000 ∧ sokL (TL.tl z) = true ∧ (badL v (TL.tl z) = true ∨ ∃ (s : List Bool) (x : Nat), z = rowT (s, x) ∧ s.length ≤ v ∧ x ≤ 18446744073709551615 ∧ t.tr.get s ≠ none) ∧
    ∀ H' d, Same H H' → H d = none → H' d = some (.xd [("place", .int pl)]) → E (.ref BT) (some d) H'))
theorem cx_row_in (T : Glob mg) (TN : GlobN mg) (fx_BadText : FldX P w K mg base 1 "BadText" BT "place") (D : Dn K mg "row_in" s_row_in ["table", "row", "place"]) (c_number_in : Cal P w K mg base 1 "number_in" spNumIn []) (c_is_road : Cal P w K mg base 2 "is_road" spRoad []) (c_is_start : Cal P w K mg base 2 "is_start" spStart [])
    (m_width : Met P w K mg base 1 CT "width" (spTwidth CK CT) []) (m_has : Met P w K mg base 4 CT "has" (spThas CK CT) []) : CalX P w K mg base 5 "row_in" (spRowX CK CT BT) := by
  refine D.calX sc_row_in (fun vs H Q E h => ?_) (fun f cdv A outer s0 H vs Q E hr h => ?_)
  · obtain ⟨TA, v, t, z, pl, rfl, _⟩ := h
    rfl
  · obtain ⟨TA, v, t, z, pl, rfl, tb, h⟩ := h
    refine ⟨_, (pss_cons (ps_set (i := 3) sc_row_in.nd rfl (by first | exact Or.inl rfl | exact Or.inr rfl) (pe_split (pv 1) pe_str))
      (pss_cons (ps_if (PW.pt (pw_or (pt_cmpR op_ne (pe_callB call_len_seq (by rfl) T.g_len boot_len (pa_cons (pv 3) pa_nil)) pe_int (nomark _)) (pw_or1 (pt_not (pt_val (pe_c c_is_road hr (by first | decide | omega) rfl (pa_cons (pe_c c_number_in hr (by first | decide | omega) rfl (pa_cons (pe_ix ix_list (pv 3) pe_int (fun _ _ => rfl)) pa_nil)) pa_nil)))))))
      (pss_one (ps_raise rfl (takes_of rfl rfl rfl rfl) (pmk_fld fx_BadText hr (by first | decide | omega) C8.pass0 rfl (pa_cons (pv 2) pa_nil))))
      pss_nil)
      (C8.pss_cut (ps_set (i := 4) sc_row_in.nd rfl (by first | exact Or.inl rfl | exact Or.inr rfl) (pe_ifExp (pt_cmpR op_eq (pe_ix ix_list (pv 3) pe_int (fun _ _ => rfl)) (pe_gc rfl TN.g_NOTHING) (nomark _)) pe_str (pe_ix ix_list (pv 3) pe_int (fun _ _ => rfl))))
      (pss_cons (ps_if (PW.pt (pw_or (pt_cmpR op_eq (pe_ix ix_list (pv 3) pe_int (fun _ _ => rfl)) pe_str (nomark _)) (pw_or (pt_not (pt_val (pe_c c_is_start hr (by first | decide | omega) rfl (pa_cons (pe_mt0 m_width hr (by first | decide | omega) (pv 0)) (pa_cons (pv 4) pa_nil))))) (pw_or1 (pt_val (pe_mt m_has hr (by first | decide | omega) (pv 0) (pa_cons (pv 4) pa_nil)))))))
      (pss_one (ps_raise rfl (takes_of rfl rfl rfl rfl) (pmk_fld fx_BadText hr (by first | decide | omega) C8.pass0 rfl (pa_cons (pv 2) pa_nil))))
      pss_nil)
      (pss_one (ps_ret (pe_tup (pa_cons (pv 4) (pa_cons (pe_c c_number_in hr (by first | decide | omega) rfl (pa_cons (pe_ix ix_list (pv 3) pe_int (fun _ _ => rfl)) pa_nil)) pa_nil))))))))), ?_⟩
    have hv := tb.w2
    have sl : 100000 ≤ sizeLine := by decide
    have good : ∀ (s : List Bool) (x : Nat), z = rowT (s, x) → s.length ≤ v → x ≤ 18446744073709551615 → z.length ≤ 200 := fun s x e h1 h2 => by
      rw [e]; exact rowT_len (r := (s, x)) (Nat.le_trans h1 hv) h2
    have hz : z.length ≤ 1000 := by
      rcases h with ⟨s, x, e, h1, h2, _⟩ | ⟨h1, _⟩
      · have := good s x e h1 h2
        omega
      · exact h1
    -- the words
    refine ⟨_, rfl, ⟨_, rfl⟩, _, _, rfl, rfl, (by decide +kernel), (by omega), fun p hp => ?_⟩
    have hm := spl_of z
    have hpl : ∀ a ∈ Txt.split z (Str.ofString " "), a.length ≤ 1000 := fun a ha => Nat.le_trans (part_len ha) hz
    have hps : sokL (TL.tl z) = true → ∀ a ∈ Txt.split z (Str.ofString " "), sokL (TL.tl a) = true := fun h a ha => part_sok ha h
    have hrow : ∀ (s : List Bool) (x : Nat), z = rowT (s, x) → Txt.split z (Str.ofString " ") = [startT s, numT x] := fun s x e => by rw [e]; exact split_row _
    generalize Txt.split z (Str.ofString " ") = ws at hm hpl hps hrow ⊢
    have s1 : Same H (upd H p (.lst (ws.map V.str))) := Same_upd (Same.refl H) hp
    have e1 : SqL K (upd H p (.lst (ws.map V.str))) p (ws.map V.str) := SqL.of upd_same
    generalize (upd H p (.lst (ws.map V.str))) = H1 at s1 e1 ⊢
    have finE : ∀ H2, Same H1 H2 → (∀ H' d, Same H H' → H d = none → H' d = some (.xd [("place", .int pl)]) → E (.ref BT) (some d) H') → ∀ d, H2 d = none → E (.ref BT) (some d) (upd H2 d (.xd [("place", .int pl)])) := fun H2 s2 k d hd => k _ d ((s1.trans s2).trans (Same_upd (Same.refl H2) hd)) ((s1.trans s2).free hd) upd_same
    have hcase : (∃ (s : List Bool) (x : Nat), ws = [startT s, numT x] ∧ s.length ≤ v ∧ x ≤ 18446744073709551615 ∧ ((t.tr.get s = none ∧ ∀ H' p, Same H H' → H p = none → H' p = some (.tup [.str (tx s), .int (x : Int)]) → Q (.ref p) H') ∨ (t.tr.get s ≠ none ∧ ∀ H' d, Same H H' → H d = none → H' d = some (.xd [("place", .int pl)]) → E (.ref BT) (some d) H'))) ∨
        (badL v (TL.tl z) = true ∧ sokL (TL.tl z) = true ∧ ∀ H' d, Same H H' → H d = none → H' d = some (.xd [("place", .int pl)]) → E (.ref BT) (some d) H') := by
      rcases h with ⟨s, x, e, h1, h2, h3, k⟩ | ⟨_, hs, hb | ⟨s, x, e, h1, h2, h3⟩, k⟩
      · exact .inl ⟨s, x, hrow s x e, h1, h2, .inl ⟨h3, k⟩⟩
      · exact .inr ⟨hb, hs, k⟩
      · exact .inl ⟨s, x, hrow s x e, h1, h2, .inr ⟨h3, k⟩⟩
    rcases hcase with ⟨s, x, rfl, hs, hx, hk⟩ | ⟨hb, hso, k⟩
    · have hnx := numT_len hx
      refine ⟨_, rfl, p, _, rfl, .inl e1, rfl, _, rfl, iteF ?_⟩
      refine ⟨_, rfl, p, _, _, _, rfl, rfl, e1, atI_nat (j := 1) rfl, numT x, rfl, by omega, fun H2 s2 => ?_⟩
      rw [numIn_num hx]
      refine ⟨_, rfl, .int _, ?_⟩
      have ea : isAmong (ov (some x)) 0 18446744073709551615 = true := by
        show (decide ((0 : Int) ≤ (x : Int)) && decide ((x : Int) ≤ 18446744073709551615)) = true
        rw [decide_eq_true (by omega), decide_eq_true (by omega)]
        rfl
      refine ⟨_, rfl, ?_⟩
      rw [ea]
      refine iteF ?_
      have e2 := s2.seq e1
      have s12 := s1.trans s2
      refine ⟨fun σ' H' => σ' = [some (.ref TA), some (.str z), some (.int pl), some (.ref p), some (.str (tx s))] ∧ H' = H2, ?_, ?_⟩
      · refine ⟨_, rfl, p, _, _, _, rfl, rfl, e2, atI_nat (j := 0) rfl, rfl, _, rfl, ?_⟩
        have em : decide (V.str (startT s) = V.str (Str.ofString "-")) = decide (s = []) := by
          rw [decide_eq_decide]
          exact ⟨fun e => (startT_minus s).mp (V.str.inj e), fun e => by rw [(startT_minus s).mpr e]⟩
        rw [em]
        refine ite2 (fun c => ?_) fun c => ?_
        · have c := of_decide_eq_true c
          subst c
          exact ⟨by rw [tx_nil]; rfl, rfl⟩
        · have c : s ≠ [] := fun e => c (decide_eq_true e)
          refine ⟨_, rfl, p, _, _, _, rfl, rfl, e2, atI_nat (j := 0) rfl, ?_, rfl⟩
          rw [show startT s = tx s by unfold startT; rw [if_neg c]]
          rfl
      rintro σ' H' ⟨rfl, rfl⟩
      refine ⟨_, rfl, p, _, _, _, rfl, rfl, e2, atI_nat (j := 0) rfl, rfl, _, rfl, ?_⟩
      rw [decide_eq_false (fun e => startT_ne s (V.str.inj e))]
      refine iteF ?_
      have tb2 := tb.same s12
      obtain ⟨dT, hT⟩ := tb2.obj
      refine ⟨_, rfl, TA, dT, _, rfl, hT, rfl, TA, v, t, rfl, tb2, _, rfl, _, _, rfl, thing_tx (by omega), fun H3 s3 => ?_⟩
      have eb : isBits (.str (tx s)) 0 (v : Int) = true := by
        rw [isBits_tx, decide_eq_true (by omega), decide_eq_true (by omega)]
        rfl
      rw [eb]
      refine ⟨_, rfl, iteF ?_⟩
      have tb3 := tb2.same s3
      refine ⟨_, rfl, TA, dT, _, rfl, s3 _ _ hT, rfl, _, rfl, TA, v, t, s, rfl, tb3, hs, fun H4 s4 => ?_⟩
      have s14 := s3.trans s4
      rcases hk with ⟨hg, k⟩ | ⟨hg, k⟩
      · rw [hg]
        refine ⟨_, rfl, iteF ?_⟩
        refine ⟨_, rfl, _, rfl, p, _, _, _, rfl, rfl, s14.seq e2, atI_nat (j := 1) rfl, numT x, rfl, by omega, fun H5 s5 => ?_⟩
        rw [numIn_num hx]
        exact ⟨(by show 2 ≤ sizeLine; decide), fun q hq => k _ q (((s12.trans s14).trans s5).trans (Same_upd (Same.refl H5) hq)) (((s12.trans s14).trans s5).free hq) upd_same⟩
      · have hi : (t.tr.get s).isSome = true := by
          cases e : t.tr.get s with
          | none => exact absurd e hg
          | some _ => rfl
        rw [hi]
        exact ⟨_, rfl, iteT ⟨_, rfl, _, rfl, finE H4 (s2.trans s14) k⟩⟩
    · have hps := hps hso
      refine ⟨_, rfl, p, _, rfl, .inl e1, rfl, _, rfl, ?_⟩
      refine ite2 (fun c => ⟨_, rfl, _, rfl, finE H1 (Same.refl H1) k⟩) fun c => ?_
      have l2 : ws.length = 2 := by
        have c : (ws.length : Int) = 2 := by simpa using c
        omega
      match ws, l2 with
      | [a, b], _ =>
        have ha := hpl a (by simp)
        have hbl := hpl b (by simp)
        have hsa := hps a (by simp)
        have hb : (!okN 0 18446744073709551615 (numInL (TL.tl b)) || (TL.tl a == [] || (!(TL.tl a == [45]) && !(decide ((TL.tl a).length ≤ v) && (TL.tl a).all fun c => decide (c = 48 ∨ c = 49))))) = true := by
          unfold badL at hb
          rw [← hm] at hb
          exact hb
        refine ⟨_, rfl, p, _, _, _, rfl, rfl, e1, atI_nat (j := 1) rfl, b, rfl, by omega, fun H2 s2 => ?_⟩
        have hno : isAmong (ov (numIn b)) 0 18446744073709551615 = okN 0 18446744073709551615 (numInL (TL.tl b)) := by
          rw [show isAmong (ov (numIn b)) 0 18446744073709551615 = okN 0 18446744073709551615 (numIn b) from among_ov _ 0 18446744073709551615, numIn_L]
        refine ⟨_, rfl, thing_ov _, _, rfl, ?_⟩
        rw [hno]
        have e2 := s2.seq e1
        have s12 := s1.trans s2
        cases hN : okN 0 18446744073709551615 (numInL (TL.tl b)) with
        | false => exact iteT ⟨_, rfl, _, rfl, finE H2 s2 k⟩
        | true =>
          rw [hN] at hb
          have hb : (TL.tl a == [] || (!(TL.tl a == [45]) && !(decide ((TL.tl a).length ≤ v) && (TL.tl a).all fun c => decide (c = 48 ∨ c = 49)))) = true := hb
          have a45 : a ≠ Str.ofString "-" := fun e => by
            rw [e, tl_minus] at hb
            cases hb
          refine iteF ?_
          refine ⟨fun σ' H' => σ' = [some (.ref TA), some (.str z), some (.int pl), some (.ref p), some (.str a)] ∧ H' = H2, ?_, ?_⟩
          · refine ⟨_, rfl, p, _, _, _, rfl, rfl, e2, atI_nat (j := 0) rfl, rfl, _, rfl, ?_⟩
            refine ite2 (fun c => ?_) fun c => ?_
            · exact absurd (V.str.inj (of_decide_eq_true c)) a45
            · exact ⟨_, rfl, p, _, _, _, rfl, rfl, e2, atI_nat (j := 0) rfl, rfl, rfl⟩
          rintro σ' H' ⟨rfl, rfl⟩
          refine ⟨_, rfl, p, _, _, _, rfl, rfl, e2, atI_nat (j := 0) rfl, rfl, _, rfl, ?_⟩
          refine ite2 (fun c => ⟨_, rfl, _, rfl, finE H' s2 k⟩) fun c => ?_
          have an : TL.tl a ≠ [] := fun e => c (decide_eq_true (by
            have z : a = Str.ofString "" := TL.ext_tl (e.trans (by decide +kernel))
            rw [z]))
          have tb2 := tb.same s12
          obtain ⟨dT, hT⟩ := tb2.obj
          have nb : isBits (.str a) 0 (v : Int) = false := by
            have e0 : (TL.tl a == []) = false := by simpa using an
            have e1 : (TL.tl a == [45]) = false := by
              cases q : (TL.tl a == [45]) with
              | false => rfl
              | true => exact absurd (TL.ext_tl ((beq_iff_eq.mp q).trans tl_minus.symm)) a45
            rw [e0, e1] at hb
            have hb : (!(decide ((TL.tl a).length ≤ v) && (TL.tl a).all fun c => decide (c = 48 ∨ c = 49))) = true := hb
            have hb : (decide ((TL.tl a).length ≤ v) && (TL.tl a).all fun c => decide (c = 48 ∨ c = 49)) = false := by
              cases q : (decide ((TL.tl a).length ≤ v) && (TL.tl a).all fun c => decide (c = 48 ∨ c = 49)) with
              | false => rfl
              | true => rw [q] at hb; cases hb
            show (decide ((0 : Int) ≤ (a.length : Int)) && decide ((a.length : Int) ≤ (v : Int)) && (TL.tl a).all (fun c => decide (c = 48 ∨ c = 49))) = false
            rw [decide_eq_true (by omega), Bool.true_and, show decide ((a.length : Int) ≤ (v : Int)) = decide ((TL.tl a).length ≤ v) from decide_eq_decide.mpr (by rw [← TL.len_tl]; exact Int.ofNat_le)]
            exact hb
          refine ⟨_, rfl, TA, dT, _, rfl, hT, rfl, TA, v, t, rfl, tb2, _, rfl, _, _, rfl, .str _ (by omega) hsa, fun H3 s3 => ?_⟩
          rw [nb]
          exact ⟨_, rfl, iteT ⟨_, rfl, _, rfl, finE H3 (s2.trans s3) k⟩⟩
def BadRow (v : Nat) (L : RowL) (b : Str) : Prop := b.length ≤ 1000 ∧ sokL (TL.tl b) = true ∧ (badL v (TL.tl b) = true ∨ ∃ r ∈ L, ∃ x, b = rowT (r.1, x) ∧ x ≤ 18446744073709551615)
def BadTx (H : Hp) (x : V) (pl : Nat) : Prop := (Thing H x ∧ isS x = false ∧ pl = 0) ∨ ∃ z : Str, x = .str z ∧ z.length ≤ 90000 ∧
  ((∃ w rest, Txt.split z (Str.ofString "\n") = w :: rest ∧ w.length ≤ 1000 ∧ badW (TL.tl w) = true ∧ pl = 0) ∨
   ∃ (v : Nat) (L : RowL) (b : Str) (rest : List Str), Txt.split z (Str.ofString "\n") = (Str.ofString "width " ++ numT v) :: (L.map rowT ++ b :: rest) ∧ RowsOk v L ∧ L.length + rest.length ≤ 250 ∧ 1 ≤ v ∧ v ≤ 64 ∧ BadRow v L b ∧ pl = 1 + L.length)
def spTableOfX (CK CT BT : Addr) : Sp := fun vs H Q E => (∃ (v : Nat) (L : RowL), vs = [.str (tableT v L)] ∧ RowsOk v L ∧ L.length ≤ 250 ∧ 1 ≤ v ∧ v ≤ 64 ∧ ∀ H' T, Same H H' → Q (.ref T) H') ∨
  ∃ (x : V) (pl : Nat), vs = [x] ∧ BadTx H x pl ∧ ∀ H' d, Same H H' → H d = none → H' d = some (.xd [("place", .int (pl : Int))]) → E (.ref BT) (some d) H'
theorem cx_table_of (T : Glob mg) (Tt : Ts K CT) (Kk : Ks K CK) (fx_BadText : FldX P w K mg base 1 "BadText" BT "place") (D : Dn K mg "table_of" s_table_of ["text"]) (cx_width_in : CalX P w K mg base 3 "width_in" (spWidthX BT)) (cx_row_in : CalX P w K mg base 5 "row_in" (spRowX CK CT BT))
    (c_Table : Mak P w K mg base 3 "Table" CT (spTable K CK) []) (m_put : Met P w K mg base 68 CT "put" (spTput CK CT) []) : CalX P w K mg base 69 "table_of" (spTableOfX CK CT BT) := by
  refine D.calX sc_table_of (fun vs H Q E h => ?_) (fun f cdv A outer s0 H vs Q E hr h => ?_)
  · rcases h with ⟨v, L, rfl, _⟩ | ⟨x, pl, rfl, _⟩ <;> rfl
  · have hu := hu_of hr
    have sl : 100000 ≤ sizeLine := by decide
    refine ⟨_, (pss_cons (ps_if (pt_not (pt_val (pe_callB call_isi (by rfl) T.g_isinstance (by decide +kernel) (pa_cons (pv 0) (pa_cons (pe_bltn (v := .ty "str") (by rfl) T.g_str boot_str rfl) pa_nil)))))
      (pss_one (ps_raise rfl (takes_of rfl rfl rfl rfl) (pmk_fld fx_BadText hr (by first | decide | omega) C8.pass0 rfl (pa_cons pe_int pa_nil))))
      pss_nil)
      (pss_cons (ps_set (i := 1) sc_table_of.nd rfl (by first | exact Or.inl rfl | exact Or.inr rfl) (pe_split (pv 0) pe_str))
      (pss_cons (ps_set (i := 2) sc_table_of.nd rfl (by first | exact Or.inl rfl | exact Or.inr rfl) (pe_mk c_Table hr (by first | decide | omega) rfl (pa_cons (pe_cX cx_width_in hr (by first | decide | omega) rfl passE (pa_cons (pe_ix ix_list (pv 1) pe_int (fun _ _ => rfl)) pa_nil)) pa_nil)))
      (pss_cons (ps_for (passes_of rfl) rfl (pi_range2 rfl T.g_range (pa_cons pe_int (pa_cons (pe_callB call_len_seq (by rfl) T.g_len boot_len (pa_cons (pv 1) pa_nil)) pa_nil))) (pg_name (i := 3) sc_table_of.nd rfl (by first | exact Or.inl rfl | exact Or.inr rfl))
      (pss_cons (ps_asg (pe_cX cx_row_in hr (by first | decide | omega) rfl passE (pa_cons (pv 2) (pa_cons (pe_ix ix_list (pv 1) (pv 3) (fun _ _ => rfl)) (pa_cons (pv 3) pa_nil)))) (pg_tup rfl (pgs_cons (pg_name (i := 4) sc_table_of.nd rfl (by first | exact Or.inl rfl | exact Or.inr rfl)) (pgs_cons (pg_name (i := 5) sc_table_of.nd rfl (by first | exact Or.inl rfl | exact Or.inr rfl)) pgs_nil))))
      (pss_one (ps_expr (pe_mt m_put hr (by first | decide | omega) (pv 2) (pa_cons (pv 4) (pa_cons (pv 5) pa_nil)))))))
      (pss_one (ps_ret (pv 2))))))), ?_⟩
    have hcase : (∃ (z : Str) (v : Nat) (L : RowL) (tail : List Str), vs = [.str z] ∧ z.length ≤ 90000 ∧ Txt.split z (Str.ofString "\n") = (Str.ofString "width " ++ numT v) :: (L.map rowT ++ tail) ∧ RowsOk v L ∧ L.length + tail.length ≤ 300 ∧ 1 ≤ v ∧ v ≤ 64 ∧
        (tail = [] → ∀ H' T, Same H H' → Q (.ref T) H') ∧ ∀ b rest, tail = b :: rest → BadRow v L b ∧ ∀ H' d, Same H H' → H d = none → H' d = some (.xd [("place", .int ((1 + L.length : Nat) : Int))]) → E (.ref BT) (some d) H') ∨
      (∃ (z w : Str) (rest : List Str), vs = [.str z] ∧ z.length ≤ 90000 ∧ Txt.split z (Str.ofString "\n") = w :: rest ∧ w.length ≤ 1000 ∧ badW (TL.tl w) = true ∧ ∀ H' d, Same H H' → H d = none → H' d = some (.xd [("place", .int 0)]) → E (.ref BT) (some d) H') ∨
      (∃ x, vs = [x] ∧ Thing H x ∧ isS x = false ∧ ∀ H' d, Same H H' → H d = none → H' d = some (.xd [("place", .int 0)]) → E (.ref BT) (some d) H') := by
      rcases h with ⟨v, L, rfl, ok, h1, h2, h3, k⟩ | ⟨x, pl, rfl, ⟨h1, h2, rfl⟩ | ⟨z, rfl, h1, ⟨w, rest, h2, h3, h4, rfl⟩ | ⟨v, L, b, rest, h2, ok, h3, h4, h5, h6, rfl⟩⟩, k⟩
      · have hl := tableT_len (v := v) (L := L) h3 fun r hr => ⟨ok.len r hr, ok.max r hr⟩
        exact .inl ⟨_, v, L, [], rfl, by omega, by rw [List.append_nil]; exact split_table v L, ok, by simp; omega, h2, h3, (fun _ => k), fun _ _ e => nomatch e⟩
      · exact .inr (.inr ⟨x, rfl, h1, h2, k⟩)
      · exact .inr (.inl ⟨z, w, rest, rfl, h1, h2, h3, h4, k⟩)
      · exact .inl ⟨z, v, L, b :: rest, rfl, h1, h2, ok, by rw [List.length_cons]; omega, h4, h5, (fun e => nomatch e), fun b' r' e => by cases e; exact ⟨h6, k⟩⟩
    rcases hcase with ⟨z, v, L, tail, rfl, hz, hsp, ok, hlen, w1, w2, kQ, kE⟩ | ⟨z, w, rest, rfl, hz, hsp, hw, hbw, k⟩ | ⟨x, rfl, hth, hns, k⟩
    · refine ⟨_, rfl, _, _, _, _, _, rfl, .ty _, .base (.str _), kit_ty (r := true) (by decide +kernel), _, rfl, iteF ?_⟩
      refine ⟨_, rfl, ⟨_, rfl⟩, _, _, rfl, rfl, (by decide +kernel), (by omega), fun p hp => ?_⟩
      rw [hsp]
      generalize hxs : (((Str.ofString "width " ++ numT v) :: (L.map rowT ++ tail)).map V.str) = xs
      have xl : xs.length = L.length + tail.length + 1 := by rw [← hxs]; simp
      have x0 : xs[0]? = some (V.str (Str.ofString "width " ++ numT v)) := by rw [← hxs]; rfl
      have xi : ∀ (i : Nat) (r : List Bool × Nat), L[i]? = some r → xs[i + 1]? = some (V.str (rowT r)) := fun i r e => by
        have hi : i < L.length := (List.getElem?_eq_some_iff.mp e).1
        rw [← hxs, List.map_cons, List.getElem?_cons_succ, List.getElem?_map, List.getElem?_append_left (by rw [List.length_map]; exact hi), List.getElem?_map, e]
        rfl
      have xb : ∀ b rest, tail = b :: rest → xs[L.length + 1]? = some (V.str b) := fun b rest e => by
        rw [← hxs, List.map_cons, List.getElem?_cons_succ, List.getElem?_map, List.getElem?_append_right (by simp), List.length_map, Nat.sub_self, e]
        rfl
      have s1 : Same H (upd H p (.lst xs)) := Same_upd (Same.refl H) hp
      have e1 : (upd H p (.lst xs)) p = some (.lst xs) := upd_same
      generalize (upd H p (.lst xs)) = H1 at s1 e1 ⊢
      refine ⟨_, rfl, p, _, _, _, rfl, rfl, SqL.of e1, atI_nat (j := 0) x0, _, rfl, .inl ⟨v, rfl, w1, w2, fun H2 s2 => fun TA dx0 hT0 hdx0 nd0 => ⟨TA, CT, dx0, v, rfl, Tt, Kk, upd_same, w1, w2, fun H3 t0 m3 tb0 et0 fr0 => ⟨rfl, ?_⟩⟩⟩⟩
      have s3 := mk_same hT0 hdx0 m3
      have f0 := mk_fresh hT0 hdx0 fr0
      have s12 := s1.trans s2
      have ep3 := s3 _ _ (s2 _ _ e1)
      have fr1 : ∀ a ∈ TA :: t0.fp, H a = none := fun a ha => s12.free (f0 a ha)
      have npT : ∀ a ∈ TA :: t0.fp, a ≠ p := fun a ha e => by have := f0 a ha; rw [e, s2 _ _ e1] at this; cases this
      refine ⟨_, rfl, p, _, rfl, .inl (SqL.of ep3), _, _, rfl, ⟨by decide, by decide, by omega, by omega⟩, ?_⟩
      rw [xl]
      refine for_it (walk_range (lo := 1) (n := (((L.length + tail.length + 1 : Nat) : Int) - 1).toNat)) (fun i σ H' => ∃ (t : AT) (v3 v4 v5 : Option V), σ = [some (.str z), some (.ref p), some (.ref TA), v3, v4, v5] ∧ Same H H' ∧ H' p = some (.lst xs) ∧ Tab CK CT H' TA v t ∧ (∀ a ∈ TA :: t.fp, H a = none ∧ a ≠ p) ∧ Agr (L.take i) t.tr ∧ t.tr.size ≤ 1 + 66 * i ∧ i ≤ L.length)
        ⟨t0, none, none, none, rfl, (s12.trans s3), ep3, tb0, fun a ha => ⟨fr1 a ha, npT a ha⟩, by rw [et0]; exact Agr.nil, by rw [et0]; decide, Nat.zero_le _⟩ (fun _ _ _ _ _ => trivial) ?_ ?_
      · rintro i x σ H4 H5 hi ⟨t, v3, v4, v5, rfl, s4, hp4, tb, fr, ag, sz, hiL⟩ ⟨rfl, rfl⟩
        by_cases hil : i < L.length
        · obtain ⟨r, er⟩ : ∃ r, L[i]? = some r := ⟨_, List.getElem?_eq_getElem hil⟩
          obtain ⟨s, x⟩ := r
          have hm := List.mem_of_getElem? er
          have hsv := ok.len _ hm
          have hsv : s.length ≤ v := hsv
          have hxm := ok.max _ hm
          have hxm : x ≤ 18446744073709551615 := hxm
          have hnone : rget (L.take i) s = none := rget_none.mpr fun hm2 => by
            obtain ⟨r', hr', e⟩ := List.mem_map.mp hm2
            obtain ⟨j, hj⟩ := List.getElem?_of_mem hr'
            have hji : j < i := by have := (List.getElem?_eq_some_iff.mp hj).1; rw [List.length_take] at this; omega
            rw [List.getElem?_take_of_lt hji] at hj
            have n1 := ok.nd
            have a1 : (L.map (·.1))[j]? = some s := by rw [List.getElem?_map, hj]; show some r'.1 = _; rw [e]
            have a2 : (L.map (·.1))[i]? = some s := by rw [List.getElem?_map, er]; rfl
            obtain ⟨b1, b2⟩ := List.getElem?_eq_some_iff.mp a1
            obtain ⟨b3, b4⟩ := List.getElem?_eq_some_iff.mp a2
            exact (List.pairwise_iff_getElem.mp n1 j i b1 b3 hji) (b2.trans b4.symm)
          have hgn : t.tr.get s = none := by rw [← ag.get]; exact hnone
          have eat : atI xs (1 + (i : Int)) = some (V.str (rowT (s, x))) := by
            rw [show (1 : Int) + (i : Int) = ((i + 1 : Nat) : Int) by omega]
            exact atI_nat (xi i _ er)
          refine ⟨_, rfl, _, rfl, _, rfl, p, _, _, _, rfl, rfl, SqL.of hp4, eat, _, rfl, TA, v, t, _, _, rfl, tb, .inl ⟨s, x, rfl, hsv, hxm, hgn, fun H6 q s6 hq hq6 => ?_⟩⟩
          refine ⟨q, _, rfl, SqT.of hq6, rfl, _, _, rfl, _, _, rfl, rfl, ?_⟩
          have tb6 := tb.same s6
          obtain ⟨dT, hT⟩ := tb6.obj
          refine ⟨_, rfl, TA, dT, _, rfl, hT, rfl, _, rfl, _, rfl, TA, v, t, s, x, rfl, tb6, hsv, hxm, by omega, fun H7 p7 t' Df m7 hp7 np tb7 et7 fr7 hL hD => ?_⟩
          have s46 := s4.trans s6
          refine ⟨t', _, _, _, rfl, fun a o e => m7 _ _ (s46 _ _ e) (.inl fun z => by rw [(fr a z).1] at e; cases e), m7 _ _ (s6 _ _ hp4) (.inl fun z => (fr p z).2 rfl), tb7, fun a ha => ?_, ?_, ?_, by omega⟩
          · rcases List.mem_cons.mp ha with rfl | ha
            · exact fr _ List.mem_cons_self
            · rcases fr7 a ha with z | z
              · exact fr a (List.mem_cons_of_mem _ z)
              · exact ⟨s46.free z, fun e => by rw [e, s6 _ _ hp4] at z; cases z⟩
          · rw [et7]
            have h1 := ag.put s x
            rw [rput_new x hnone, ← take_snoc er] at h1
            exact h1
          · rw [et7]
            have := Tr.size_put x s t.tr
            omega
        · have ei : i = L.length := by omega
          have hit : 0 < tail.length := by omega
          obtain ⟨b, rest, et⟩ : ∃ b rest, tail = b :: rest := by
            cases tail with
            | nil => exact absurd hit (by simp)
            | cons b r => exact ⟨b, r, rfl⟩
          obtain ⟨⟨hb1, hb2, hb3⟩, k⟩ := kE b rest et
          have eat : atI xs (1 + (i : Int)) = some (V.str b) := by
            rw [show (1 : Int) + (i : Int) = ((L.length + 1 : Nat) : Int) by omega]
            exact atI_nat (xb b rest et)
          rw [ei, List.take_length] at ag
          refine ⟨_, rfl, _, rfl, _, rfl, p, _, _, _, rfl, rfl, SqL.of hp4, eat, _, rfl, TA, v, t, _, _, rfl, tb, .inr ⟨hb1, hb2, ?_, fun H6 d s6 hd hx => ?_⟩⟩
          · rcases hb3 with h | ⟨r, hr, x, e, hx⟩
            · exact .inl h
            · exact .inr ⟨r.1, x, e, ok.len r hr, hx, by rw [ag.mem hr]; exact fun z => nomatch z⟩
          · refine k H6 d (s4.trans s6) (s4.free hd) ?_
            rw [hx, ei, show (1 : Int) + (L.length : Int) = ((1 + L.length : Nat) : Int) by omega]
      · rintro σ H4 ⟨t, v3, v4, v5, rfl, s4, hp4, tb, fr, ag, sz, hiL⟩
        have et : tail = [] := by
          have : tail.length = 0 := by omega
          exact List.length_eq_zero_iff.mp this
        exact ⟨_, rfl, kQ et _ TA s4⟩
    · refine ⟨_, rfl, _, _, _, _, _, rfl, .ty _, .base (.str _), kit_ty (r := true) (by decide +kernel), _, rfl, iteF ?_⟩
      refine ⟨_, rfl, ⟨_, rfl⟩, _, _, rfl, rfl, (by decide +kernel), (by omega), fun p hp => ?_⟩
      rw [hsp]
      have s1 : Same H (upd H p (.lst ((w :: rest).map V.str))) := Same_upd (Same.refl H) hp
      have e1 : (upd H p (.lst ((w :: rest).map V.str))) p = some (.lst ((w :: rest).map V.str)) := upd_same
      generalize (upd H p (.lst ((w :: rest).map V.str))) = H1 at s1 e1 ⊢
      exact ⟨_, rfl, p, _, _, _, rfl, rfl, SqL.of e1, atI_nat (j := 0) rfl, _, rfl, .inr ⟨hw, hbw, fun H2 d s2 hd hx => k H2 d (s1.trans s2) (s1.free hd) hx⟩⟩
    · obtain ⟨n1, t1, k1⟩ := hth.isStr (K := K)
      rw [hns] at k1
      exact ⟨_, rfl, _, _, _, _, _, rfl, .ty _, t1, k1, _, rfl, iteT ⟨_, rfl, fun d hd => k _ d (Same_upd (Same.refl H) hd) hd upd_same⟩⟩
end
end Br

/-! the place of a refusal -/
namespace Br
open PySem PySem.Spec PyProof.Rows L2
open C8 (Cal Met Mak cal0 met0 mak0 pe_c pe_mk pe_mt pe_mt0 pe_gc Def)
section
variable {P : Program} {w : World} {K : PySem.W.Frag} {mg : Str → Option Value} {base : Heap} {CK CT BT RE cW cd cS cR cP cN cT : Addr}
def spRefusalD (K : PySem.W.Frag) (cs : List Addr) : Sp := fun vs H Q _ => ∃ (a D dd : Addr) (fs : List (Str × V)) (j : Nat) (w : Str), vs = [.ref a] ∧ H a = some (XO (.ref D) (some dd) a) ∧ H dd = some (.xd fs) ∧ Kit K D cs j ∧ refWords[j]? = some w ∧ ∀ H', Same H H' → Q (.str w) H'
theorem cd_l_refusal (T : Glob mg) (D : Dn K mg "_law_refusal" s_l_refusal ["_law_fault"]) (gc_BadWidth : mg "BadWidth" = some (.ref cW)) (gc_BadWord : mg "BadWord" = some (.ref cd)) (gc_BadStart : mg "BadStart" = some (.ref cS)) (gc_BadRoad : mg "BadRoad" = some (.ref cR)) (gc_BadSteps : mg "BadSteps" = some (.ref cP))
    (gc_NoRow : mg "NoRow" = some (.ref cN)) (gc_BadText : mg "BadText" = some (.ref cT)) (gz_ValueError : mg "ValueError" = none) : Cal P w K mg base 1 "_law_refusal" (spRefusalD K [cW, cd, cS, cR, cP, cN, cT]) [] := by
  refine D.cal sc_l_refusal (fun vs H Q E h => ?_) (fun f cdv A outer s0 H vs Q E hr h => ?_)
  · obtain ⟨a, D, dd, fs, j, w, rfl, _⟩ := h
    rfl
  · obtain ⟨a, DD, dd, fs, j, wd, rfl, ha, hd, kt, hw, k⟩ := h
    refine ⟨_, (pss_cons (ps_set (i := 1) sc_l_refusal.nd rfl (by first | exact Or.inl rfl | exact Or.inr rfl) (pe_lst (pa_cons (pe_tup (pa_cons pe_str (pa_cons (pe_callB call_isXd (by rfl) T.g_isinstance (by decide +kernel) (pa_cons (pv 0) (pa_cons (pe_glob (v := .ref _) rfl gc_BadWidth rfl) pa_nil))) pa_nil))) (pa_cons (pe_tup (pa_cons pe_str (pa_cons (pe_callB call_isXd (by rfl) T.g_isinstance (by decide +kernel) (pa_cons (pv 0) (pa_cons (pe_glob (v := .ref _) rfl gc_BadWord rfl) pa_nil))) pa_nil))) pa_nil))))
      (pss_cons (ps_set (i := 1) sc_l_refusal.nd rfl (by first | exact Or.inl rfl | exact Or.inr rfl) (pe_op op_cat (pv 1) (pe_lst (pa_cons (pe_tup (pa_cons pe_str (pa_cons (pe_callB call_isXd (by rfl) T.g_isinstance (by decide +kernel) (pa_cons (pv 0) (pa_cons (pe_glob (v := .ref _) rfl gc_BadStart rfl) pa_nil))) pa_nil))) (pa_cons (pe_tup (pa_cons pe_str (pa_cons (pe_callB call_isXd (by rfl) T.g_isinstance (by decide +kernel) (pa_cons (pv 0) (pa_cons (pe_glob (v := .ref _) rfl gc_BadRoad rfl) pa_nil))) pa_nil))) pa_nil)))))
      (pss_cons (ps_set (i := 1) sc_l_refusal.nd rfl (by first | exact Or.inl rfl | exact Or.inr rfl) (pe_op op_cat (pv 1) (pe_lst (pa_cons (pe_tup (pa_cons pe_str (pa_cons (pe_callB call_isXd (by rfl) T.g_isinstance (by decide +kernel) (pa_cons (pv 0) (pa_cons (pe_glob (v := .ref _) rfl gc_BadSteps rfl) pa_nil))) pa_nil))) (pa_cons (pe_tup (pa_cons pe_str (pa_cons (pe_callB call_isXd (by rfl) T.g_isinstance (by decide +kernel) (pa_cons (pv 0) (pa_cons (pe_glob (v := .ref _) rfl gc_NoRow rfl) pa_nil))) pa_nil))) pa_nil)))))
      (pss_cons (ps_set (i := 1) sc_l_refusal.nd rfl (by first | exact Or.inl rfl | exact Or.inr rfl) (pe_op op_cat (pv 1) (pe_lst (pa_cons (pe_tup (pa_cons pe_str (pa_cons (pe_callB call_isXd (by rfl) T.g_isinstance (by decide +kernel) (pa_cons (pv 0) (pa_cons (pe_glob (v := .ref _) rfl gc_BadText rfl) pa_nil))) pa_nil))) pa_nil))))
      (pss_cons (ps_setLc (i := 2) (own := [("_law_word", 3), ("_law_is_so", 4)]) (g := (gTup K 2 (gCons (gName 3) (gCons (gName 4) gNil)))) rfl sc_l_refusal.nd rfl (by first | rfl) (sw_true rfl rfl rfl (by decide +kernel)) (pi_list (pv 1)) (blkOk_by (own := [("_law_word", 3), ("_law_is_so", 4)]) (N := n_l_refusal) (sc := C8.fnScope s_l_refusal) (by decide +kernel)) (fun _ _ _ _ _ => (pg_tup rfl (pgs_cons (pg_name (i := 3) sc_l_refusal.nd rfl (by first | exact Or.inl rfl | exact Or.inr rfl)) (pgs_cons (pg_name (i := 4) sc_l_refusal.nd rfl (by first | exact Or.inl rfl | exact Or.inr rfl)) pgs_nil)))) (fun _ _ _ _ _ => (pts_one (pt_val (pv 4)))) (fun _ _ _ _ _ => (pv 3)))
      (pss_one (ps_ret (pe_ifExp (PW.pt (pw_and (pt_cmpR op_eq (pe_callB call_len_seq (by rfl) T.g_len boot_len (pa_cons (pv 2) pa_nil)) pe_int (nomark _)) (pw_and1 (pt_val (pe_callB call_isXd (by rfl) T.g_isinstance (by decide +kernel) (pa_cons (pv 0) (pa_cons (pe_bltn (v := .ty "ValueError") (by rfl) gz_ValueError (by decide +kernel) rfl) pa_nil))))))) (pe_ix ix_list (pv 2) pe_int (fun _ _ => rfl)) pe_str)))))))), ?_⟩
    have g0 : Same H H := Same.refl H
    refine ⟨_, rfl, a, DD, dd, fs, _, _, _, rfl, g0 _ _ ha, g0 _ _ hd, fun u r => r, kt.is, kt.of 0 _ rfl, (by show 2 ≤ sizeLine; decide), fun t0 ht0 => ?_⟩
    have s1 : Same H (upd H t0 (.tup [.str "width", .bl (decide (0 = j))])) := Same_upd (Same.refl H) ht0
    have e0 : (upd H t0 (.tup [.str "width", .bl (decide (0 = j))])) t0 = some (.tup [.str "width", .bl (decide (0 = j))]) := upd_same
    generalize (upd H t0 (.tup [.str "width", .bl (decide (0 = j))])) = H1 at s1 e0 ⊢
    have g1 : Same H H1 := g0.trans s1
    refine ⟨_, rfl, a, DD, dd, fs, _, _, _, rfl, g1 _ _ ha, g1 _ _ hd, fun u r => r, kt.is, kt.of 1 _ rfl, (by show 2 ≤ sizeLine; decide), fun t1 ht1 => ?_⟩
    have s2 : Same H1 (upd H1 t1 (.tup [.str "word", .bl (decide (1 = j))])) := Same_upd (Same.refl H1) ht1
    have e1 : (upd H1 t1 (.tup [.str "word", .bl (decide (1 = j))])) t1 = some (.tup [.str "word", .bl (decide (1 = j))]) := upd_same
    generalize (upd H1 t1 (.tup [.str "word", .bl (decide (1 = j))])) = H2 at s2 e1 ⊢
    have g2 : Same H H2 := g1.trans s2
    refine ⟨(by show 2 ≤ sizeLine; decide), fun p1 hp1 => ?_⟩
    have L3 := LT.two (s2 _ _ e0) e1 hp1
    have s3 : Same H2 (upd H2 p1 (.lst [.ref t0, .ref t1])) := Same_upd (Same.refl H2) hp1
    generalize (upd H2 p1 (.lst [.ref t0, .ref t1])) = H3 at L3 s3 ⊢
    have g3 : Same H H3 := g2.trans s3
    have M3 := L3
    refine ⟨_, rfl, _, rfl, a, DD, dd, fs, _, _, _, rfl, g3 _ _ ha, g3 _ _ hd, fun u r => r, kt.is, kt.of 2 _ rfl, (by show 2 ≤ sizeLine; decide), fun t2 ht2 => ?_⟩
    have s4 : Same H3 (upd H3 t2 (.tup [.str "start", .bl (decide (2 = j))])) := Same_upd (Same.refl H3) ht2
    have e2 : (upd H3 t2 (.tup [.str "start", .bl (decide (2 = j))])) t2 = some (.tup [.str "start", .bl (decide (2 = j))]) := upd_same
    generalize (upd H3 t2 (.tup [.str "start", .bl (decide (2 = j))])) = H4 at s4 e2 ⊢
    have g4 : Same H H4 := g3.trans s4
    refine ⟨_, rfl, a, DD, dd, fs, _, _, _, rfl, g4 _ _ ha, g4 _ _ hd, fun u r => r, kt.is, kt.of 3 _ rfl, (by show 2 ≤ sizeLine; decide), fun t3 ht3 => ?_⟩
    have s5 : Same H4 (upd H4 t3 (.tup [.str "road", .bl (decide (3 = j))])) := Same_upd (Same.refl H4) ht3
    have e3 : (upd H4 t3 (.tup [.str "road", .bl (decide (3 = j))])) t3 = some (.tup [.str "road", .bl (decide (3 = j))]) := upd_same
    generalize (upd H4 t3 (.tup [.str "road", .bl (decide (3 = j))])) = H5 at s5 e3 ⊢
    have g5 : Same H H5 := g4.trans s5
    refine ⟨(by show 2 ≤ sizeLine; decide), fun q1 hq1 => ?_⟩
    have L6 := LT.two (s5 _ _ e2) e3 hq1
    have s6 : Same H5 (upd H5 q1 (.lst [.ref t2, .ref t3])) := Same_upd (Same.refl H5) hq1
    generalize (upd H5 q1 (.lst [.ref t2, .ref t3])) = H6 at L6 s6 ⊢
    have g6 : Same H H6 := g5.trans s6
    have M6 := M3.same ((s4.trans s5).trans s6)
    obtain ⟨xs6, ys6, x1, y1, xl, yl, hc⟩ := LT.cat M6 L6
    refine ⟨p1, q1, xs6, ys6, rfl, rfl, x1, y1, (by rw [xl, yl]; show 4 ≤ sizeLine; decide), fun p2 hp2 => ?_⟩
    have M7 := hc p2 hp2
    have s7 : Same H6 (upd H6 p2 (.lst (xs6 ++ ys6))) := Same_upd (Same.refl H6) hp2
    generalize (upd H6 p2 (.lst (xs6 ++ ys6))) = H7 at M7 s7 ⊢
    have g7 : Same H H7 := g6.trans s7
    clear hc x1 y1 xl yl
    refine ⟨_, rfl, _, rfl, a, DD, dd, fs, _, _, _, rfl, g7 _ _ ha, g7 _ _ hd, fun u r => r, kt.is, kt.of 4 _ rfl, (by show 2 ≤ sizeLine; decide), fun t4 ht4 => ?_⟩
    have s8 : Same H7 (upd H7 t4 (.tup [.str "steps", .bl (decide (4 = j))])) := Same_upd (Same.refl H7) ht4
    have e4 : (upd H7 t4 (.tup [.str "steps", .bl (decide (4 = j))])) t4 = some (.tup [.str "steps", .bl (decide (4 = j))]) := upd_same
    generalize (upd H7 t4 (.tup [.str "steps", .bl (decide (4 = j))])) = H8 at s8 e4 ⊢
    have g8 : Same H H8 := g7.trans s8
    refine ⟨_, rfl, a, DD, dd, fs, _, _, _, rfl, g8 _ _ ha, g8 _ _ hd, fun u r => r, kt.is, kt.of 5 _ rfl, (by show 2 ≤ sizeLine; decide), fun t5 ht5 => ?_⟩
    have s9 : Same H8 (upd H8 t5 (.tup [.str "row", .bl (decide (5 = j))])) := Same_upd (Same.refl H8) ht5
    have e5 : (upd H8 t5 (.tup [.str "row", .bl (decide (5 = j))])) t5 = some (.tup [.str "row", .bl (decide (5 = j))]) := upd_same
    generalize (upd H8 t5 (.tup [.str "row", .bl (decide (5 = j))])) = H9 at s9 e5 ⊢
    have g9 : Same H H9 := g8.trans s9
    refine ⟨(by show 2 ≤ sizeLine; decide), fun q2 hq2 => ?_⟩
    have L10 := LT.two (s9 _ _ e4) e5 hq2
    have s10 : Same H9 (upd H9 q2 (.lst [.ref t4, .ref t5])) := Same_upd (Same.refl H9) hq2
    generalize (upd H9 q2 (.lst [.ref t4, .ref t5])) = H10 at L10 s10 ⊢
    have g10 : Same H H10 := g9.trans s10
    have M10 := M7.same ((s8.trans s9).trans s10)
    obtain ⟨xs10, ys10, x1, y1, xl, yl, hc⟩ := LT.cat M10 L10
    refine ⟨p2, q2, xs10, ys10, rfl, rfl, x1, y1, (by rw [xl, yl]; show 6 ≤ sizeLine; decide), fun p3 hp3 => ?_⟩
    have M11 := hc p3 hp3
    have s11 : Same H10 (upd H10 p3 (.lst (xs10 ++ ys10))) := Same_upd (Same.refl H10) hp3
    generalize (upd H10 p3 (.lst (xs10 ++ ys10))) = H11 at M11 s11 ⊢
    have g11 : Same H H11 := g10.trans s11
    clear hc x1 y1 xl yl
    refine ⟨_, rfl, _, rfl, a, DD, dd, fs, _, _, _, rfl, g11 _ _ ha, g11 _ _ hd, fun u r => r, kt.is, kt.of 6 _ rfl, (by show 2 ≤ sizeLine; decide), fun t6 ht6 => ?_⟩
    have s12 : Same H11 (upd H11 t6 (.tup [.str "text", .bl (decide (6 = j))])) := Same_upd (Same.refl H11) ht6
    have e6 : (upd H11 t6 (.tup [.str "text", .bl (decide (6 = j))])) t6 = some (.tup [.str "text", .bl (decide (6 = j))]) := upd_same
    generalize (upd H11 t6 (.tup [.str "text", .bl (decide (6 = j))])) = H12 at s12 e6 ⊢
    have g12 : Same H H12 := g11.trans s12
    refine ⟨(by show 1 ≤ sizeLine; decide), fun q3 hq3 => ?_⟩
    have L13 := LT.one1 e6 hq3
    have s13 : Same H12 (upd H12 q3 (.lst [.ref t6])) := Same_upd (Same.refl H12) hq3
    generalize (upd H12 q3 (.lst [.ref t6])) = H13 at L13 s13 ⊢
    have g13 : Same H H13 := g12.trans s13
    have M13 := M11.same (s12.trans s13)
    obtain ⟨xs13, ys13, x1, y1, xl, yl, hc⟩ := LT.cat M13 L13
    refine ⟨p3, q3, xs13, ys13, rfl, rfl, x1, y1, (by rw [xl, yl]; show 7 ≤ sizeLine; decide), fun p4 hp4 => ?_⟩
    have M14 := hc p4 hp4
    have s14 : Same H13 (upd H13 p4 (.lst (xs13 ++ ys13))) := Same_upd (Same.refl H13) hp4
    generalize (upd H13 p4 (.lst (xs13 ++ ys13))) = H14 at M14 s14 ⊢
    have g14 : Same H H14 := g13.trans s14
    clear hc x1 y1 xl yl
    have M := M14
    have hp0 : H p4 = none := g13.free hp4
    generalize H14 = HH at *
    have M : LT HH p4 (refRows j) := M
    have gH : Same H HH := by assumption
    have hj : j < 7 := (List.getElem?_eq_some_iff.mp hw).1
    obtain ⟨vs, v1, v2, v3⟩ := M
    have v2 : vs.length = 7 := v2
    have rowAt : ∀ i, i < 7 → ∃ wi, (refRows j)[i]? = some [.str wi, .bl (decide (i = j))] ∧ refWords[i]? = some wi := fun i hi => by
      match i, hi with
      | 0, _ => exact ⟨_, rfl, rfl⟩
      | 1, _ => exact ⟨_, rfl, rfl⟩
      | 2, _ => exact ⟨_, rfl, rfl⟩
      | 3, _ => exact ⟨_, rfl, rfl⟩
      | 4, _ => exact ⟨_, rfl, rfl⟩
      | 5, _ => exact ⟨_, rfl, rfl⟩
      | 6, _ => exact ⟨_, rfl, rfl⟩
    refine ⟨_, rfl, p4, rfl, ⟨_, SqL.of v1⟩, fun D hD => ?_⟩
    refine lc_it (walk_list (K := K) (a := p4) (xs := vs)) (PvF HH D fun i => if j < i then [V.str wd] else []) (pv0 hD) (fun j H' _ h => SqL.of (h.1 _ _ v1)) ?_ ?_
    · rintro i x H1 H2 hi ⟨s1, h1⟩ ⟨rfl, hx⟩
      obtain ⟨wi, r1, r2⟩ := rowAt i (by omega)
      obtain ⟨c, c1, c2⟩ := v3 i _ r1
      rw [hx] at c1
      cases c1
      refine ⟨c, _, rfl, SqT.of (s1 _ _ c2), rfl, _, _, rfl, _, _, rfl, rfl, rfl, _, rfl, _, rfl, ?_⟩
      refine ite2 (fun e => ?_) fun e => ?_
      · have e : i = j := of_decide_eq_true e
        subst e
        rw [hw] at r2
        cases r2
        exact ⟨_, rfl, pv_in hD s1 h1 (by rw [if_neg (by omega)]; show 0 < 100000; decide) (by rw [if_pos (by omega), if_neg (by omega)]; rfl)⟩
      · have e : ¬ i = j := fun z => e (decide_eq_true z)
        refine pv_out s1 h1 ?_
        by_cases h : j < i
        · rw [if_pos h, if_pos (by omega)]
        · rw [if_neg h, if_neg (by omega)]
    · rintro H1 ⟨s1, h1⟩
      have h1 : H1 D = some (.lst (if j < vs.length then [V.str wd] else [])) := h1
      rw [v2, if_pos hj] at h1
      have s01 := gH.trans s1
      refine ⟨_, rfl, D, _, rfl, .inl (SqL.of h1), rfl, _, rfl, iteT ?_⟩
      refine ⟨_, rfl, a, DD, dd, fs, _, _, _, rfl, s01 _ _ ha, s01 _ _ hd, fun u r => r, kt.is, kt.ve, _, rfl, iteT ?_⟩
      exact ⟨_, rfl, D, _, _, _, rfl, rfl, SqL.of h1, atI_nat (j := 0) rfl, k _ s01⟩
theorem pss_some {X : Cx} {body : List Stmt} {t : XK → TS} {W : WX} (h : ∀ Ech : XK, (∀ cls d σ H, Ech cls d H → W cls d σ H) → PSs X body (t Ech)) : PSs X body (fun D σ H => ∃ Ech : XK, (∀ cls d σ' H', Ech cls d H' → W cls d σ' H') ∧ t Ech D σ H) := by
  refine ⟨fun pins s' σ' H' D I h' => ?_⟩
  obtain ⟨Ech, hW, h1⟩ := h'
  exact (h Ech hW).run pins s' σ' H' D I h1
abbrev s_l_place : Stmt := top 46
abbrev n_l_place : List Str := ["_law_text_here", "_law_fault", "e"]
theorem sc_l_place : FnScope n_l_place ["_law_text_here"] (C8.fnScope s_l_place) := ⟨rfl, rfl, rfl, by decide +kernel, rfl, by decide +kernel, by decide +kernel⟩
/-- a tuple of the word and the place -/
def spPlace (CK CT : Addr) : Sp := fun vs H Q _ => (∃ (v : Nat) (L : RowL), vs = [.str (tableT v L)] ∧ RowsOk v L ∧ L.length ≤ 250 ∧ 1 ≤ v ∧ v ≤ 64 ∧ ∀ H', Same H H' → Q .non H') ∨
  ∃ (x : V) (pl : Nat), vs = [x] ∧ BadTx H x pl ∧ ∀ H' p, Same H H' → H p = none → H' p = some (.tup [.str "text", .int (pl : Int), .bl false]) → Q (.ref p) H'
theorem c_l_place (T : Glob mg) (D : Dn K mg "_law_place" s_l_place ["_law_text_here"]) (gRE : mg "RoadsError" = some (.ref RE)) (ex : PySem.W.exmOne K (.ref cT) (.ref RE) = some true) (kt : Kit K cT [cW, cd, cS, cR, cP, cN, cT] 6) (xf : XfC K cT) (hno : PySem.W.findIn K (.ref cT) "place" = some none)
    (cx_table_of : CalX P w K mg base 69 "table_of" (spTableOfX CK CT cT)) (cd_l_refusal : Cal P w K mg base 1 "_law_refusal" (spRefusalD K [cW, cd, cS, cR, cP, cN, cT]) []) : Cal P w K mg base 70 "_law_place" (spPlace CK CT) [] := by
  refine D.cal sc_l_place (fun vs H Q E h => ?_) (fun f cdv A outer s0 H vs Q E hr h => ?_)
  · rcases h with ⟨v, L, rfl, _⟩ | ⟨x, pl, rfl, _⟩ <;> rfl
  · refine ⟨_, pss_cons (ps_set (i := 1) sc_l_place.nd rfl (Or.inl rfl) pe_non)
      (pss_cons (ps_try_keep (c := .ref RE) (i := 2) (ts := fun a cls d => _)
        (tb := fun W D σ H => ∃ Ech : XK, (∀ cls d σ' H', Ech cls d H' → W cls d σ' H') ∧ tDrop (tCall (spTableOfX CK CT cT) [] Ech (tCons (tVar 0) tNil)) D σ H)
        rfl rfl rfl sc_l_place.nd rfl rfl ⟨rfl, by decide, .inl gRE⟩ (fun W pn xe tk _ => ?_) (fun a oe cls d pn => pss_one (ps_set (i := 1) sc_l_place.nd rfl (Or.inl rfl) (pv 2))))
      (pss_cons (ps_if (pt_cmpR op_isN (pv 1) pe_non (nomark _)) (pss_one (ps_ret pe_non)) pss_nil)
      (pss_one (ps_ret (pe_tup (pa_cons (pe_c cd_l_refusal hr (by omega) rfl (pa_cons (pv 1) pa_nil)) (pa_cons (pe_xof (pv 1)) (pa_cons (pe_callB call_isi (by rfl) T.g_isinstance (by decide +kernel) (pa_cons (pe_xof (pv 1)) (pa_cons (pe_bltn (v := .ty "bool") (by rfl) T.g_bool boot_bool rfl) pa_nil))) pa_nil)))))))), ?_⟩
    · exact pss_some fun Ech hW => pss_one (ps_expr (pe_cX cx_table_of hr (by omega) rfl (passes_call tk hW) (pa_cons (pv 0) pa_nil)))
    · rcases h with ⟨v, L, rfl, ok, h1, h2, h3, k⟩ | ⟨x, pl, rfl, hb, k⟩
      · refine ⟨(fun _ _ _ => False : XK), fun _ _ _ _ z => z.elim, _, rfl, .inl ⟨v, L, rfl, ok, h1, h2, h3, fun H' TA s1 => ?_⟩⟩
        exact ⟨_, rfl, rfl, _, rfl, iteT (k H' s1)⟩
      · refine ⟨(fun cls d H' => cls = .ref cT ∧ ∃ dd, d = some dd ∧ Same H H' ∧ H dd = none ∧ H' dd = some (.xd [("place", .int (pl : Int))]) : XK), fun cls d σ' H' z => ?_, _, rfl, .inr ⟨x, pl, rfl, hb, fun H' d s1 hd hx => ⟨rfl, d, rfl, s1, hd, hx⟩⟩⟩
        obtain ⟨rfl, dd, rfl, s1, hd, hx⟩ := z
        refine ⟨ex, fun a ha hl => ?_⟩
        obtain ⟨x0, x1, x2, rfl⟩ : ∃ x0 x1 x2, σ' = [x0, x1, x2] := by
          match σ', hl with
          | [x0, x1, x2], _ => exact ⟨_, _, _, rfl⟩
        have s2 : Same H' (upd H' a (XO (.ref cT) (some dd) a)) := Same_upd (Same.refl _) ha
        have ex2 : (upd H' a (XO (.ref cT) (some dd) a)) a = some (XO (.ref cT) (some dd) a) := upd_same
        have hx2 := s2 _ _ hx
        refine ⟨.ref a, rfl, ?_⟩
        refine ⟨.ref a, rfl, rfl, _, rfl, iteF ?_⟩
        refine ⟨_, rfl, a, cT, dd, _, 6, "text", rfl, ex2, hx2, kt, rfl, fun H3 s3 => ?_⟩
        have ex3 := s3 _ _ ex2
        have hx3 := s3 _ _ hx2
        have s13 := (s1.trans s2).trans s3
        refine ⟨_, rfl, a, cT, dd, _, _, rfl, ex3, hx3, xf, hno, rfl, ?_⟩
        refine ⟨_, rfl, a, cT, dd, _, _, rfl, ex3, hx3, xf, hno, rfl, ?_⟩
        refine ⟨_, _, _, _, _, rfl, .ty _, .base (.int _), kit_ty (r := false) (by decide +kernel), ?_⟩
        exact ⟨(by show 3 ≤ sizeLine; decide), fun q hq => k _ q (s13.trans (Same_upd (Same.refl H3) hq)) (s13.free hq) upd_same⟩
end
end Br

/-! the law's odd texts -/
namespace Br
open PySem PySem.Spec PyProof.Rows L2
open C8 (Cal Met Mak cal0 met0 mak0 pe_c pe_mk pe_mt pe_mt0 pe_gc Def)
section
variable {P : Program} {w : World} {K : PySem.W.Frag} {mg : Str → Option Value} {base : Heap} {CK CT : Addr}
abbrev s_l_odd_width : Stmt := top 48
abbrev n_l_odd_width : List Str := ["_law_number", "_law_some"]
theorem sc_l_odd_width : FnScope n_l_odd_width ["_law_number"] (C8.fnScope s_l_odd_width) := ⟨rfl, rfl, rfl, by decide +kernel, rfl, by decide +kernel, by decide +kernel⟩
def oddWidths : List Str := ["", "width", "width 0", "width 65", "width 08", "width  8", "width 8 ", "Width 8", "8", "width x", "width -8", "width 8 8", " width 8", "width 999999999999999999999", "wide 8"]
def oddWidth (n : Int) : Str := oddWidths.getD (n % 15).toNat ""
def oddWB : List (List Nat) := oddWidths.map TL.tl
theorem oddWidths_bad : (oddWidths.all fun z => badW (TL.tl z) && decide (z.length ≤ 100) && !(TL.tl z).contains 10) = true := by decide +kernel
theorem oddWidth_ok (n : Int) : badW (TL.tl (oddWidth n)) = true ∧ (oddWidth n).length ≤ 100 ∧ 10 ∉ TL.tl (oddWidth n) := by
  have h := oddWidths_bad
  rw [List.all_eq_true] at h
  have hm : oddWidth n ∈ oddWidths := by
    unfold oddWidth
    have hi : (n % 15).toNat < oddWidths.length := by show _ < 15; omega
    rw [List.getD_eq_getElem?_getD, List.getElem?_eq_getElem hi]
    exact List.getElem_mem hi
  have := h _ hm
  rw [Bool.and_eq_true, Bool.and_eq_true] at this
  obtain ⟨⟨h1, h2⟩, h3⟩ := this
  exact ⟨h1, of_decide_eq_true h2, by simpa using h3⟩
def spOddW : Sp := fun vs H Q _ => ∃ n : Int, vs = [.int n] ∧ ∀ H', Same H H' → Q (.str (oddWidth n)) H'
theorem c_l_odd_width (T : Glob mg) (D : Dn K mg "_law_odd_width" s_l_odd_width ["_law_number"]) : Cal P w K mg base 1 "_law_odd_width" spOddW [] := by
  refine D.cal sc_l_odd_width (fun vs H Q E h => ?_) (fun f cdv A outer s H vs Q E hr h => ?_)
  · obtain ⟨n, rfl, _⟩ := h
    rfl
  · obtain ⟨n, rfl, k⟩ := h
    refine ⟨_, (pss_cons (ps_set (i := 1) sc_l_odd_width.nd rfl (by first | exact Or.inl rfl | exact Or.inr rfl) (pe_lst (pa_cons pe_str (pa_cons pe_str (pa_cons pe_str (pa_cons pe_str (pa_cons pe_str (pa_cons pe_str (pa_cons pe_str (pa_cons pe_str (pa_cons pe_str (pa_cons pe_str pa_nil))))))))))))
      (pss_one (ps_ret (pe_ix ix_list (pe_op op_cat (pv 1) (pe_lst (pa_cons pe_str (pa_cons pe_str (pa_cons pe_str (pa_cons pe_str (pa_cons pe_str pa_nil))))))) (pe_op op_mod (pv 0) pe_int) (fun _ _ => rfl))))), ?_⟩
    refine ⟨(by show 10 ≤ sizeLine; decide), fun p hp => ?_⟩
    have s1 : Same H (upd H p (.lst ((oddWidths.take 10).map V.str))) := Same_upd (Same.refl H) hp
    have e1 : (upd H p (.lst ((oddWidths.take 10).map V.str))) p = some (.lst ((oddWidths.take 10).map V.str)) := upd_same
    refine ⟨_, rfl, (by show 5 ≤ sizeLine; decide), fun q hq => ?_⟩
    have s2 : Same _ _ := Same_upd (o := .lst ((oddWidths.drop 10).map V.str)) (Same.refl _) hq
    refine ⟨p, q, _, _, rfl, rfl, s2 _ _ e1, upd_same, (by show 15 ≤ sizeLine; decide), fun r hr => ?_⟩
    have s3 : Same _ _ := Same_upd (o := .lst ((oddWidths.take 10).map V.str ++ (oddWidths.drop 10).map V.str)) (Same.refl _) hr
    refine ⟨_, rfl, _, _, rfl, rfl, (by show (0 : Int) < 15; decide), r, _, _, .str (oddWidth n), rfl, rfl, SqL.of upd_same, ?_, k _ ((s1.trans s2).trans s3)⟩
    have e : n % 15 = (((n % 15).toNat : Nat) : Int) := by omega
    rw [e]
    refine atI_nat ?_
    unfold oddWidth
    have h : (n % 15).toNat < oddWidths.length := by show _ < 15; omega
    generalize (n % 15).toNat = j at h
    show (oddWidths.map V.str)[j]? = _
    rw [List.getElem?_map, List.getD_eq_getElem?_getD, List.getElem?_eq_getElem h]
    rfl
abbrev s_l_odd_row : Stmt := top 47
abbrev n_l_odd_row : List Str := ["_law_number", "_law_wide", "_law_row", "_law_start_here", "_law_some"]
theorem sc_l_odd_row : FnScope n_l_odd_row ["_law_number", "_law_wide", "_law_row"] (C8.fnScope s_l_odd_row) := ⟨rfl, rfl, rfl, by decide +kernel, rfl, by decide +kernel, by decide +kernel⟩
def startO (c v : Nat) : Str := Txt.mul ⟨#[c]⟩ ((v : Nat) : Int)
def oddA (s : Str) : List Str := [Str.ofString "", s, s ++ Str.ofString " ", Str.ofString " " ++ s ++ Str.ofString " 1", s ++ Str.ofString "  1", s ++ Str.ofString "0 1", cutS s (some 1) none ++ Str.ofString "2 1"]
def oddB (s : Str) : List Str := [s ++ Str.ofString " 01", s ++ Str.ofString " -1", s ++ Str.ofString " +1", s ++ Str.ofString " x", s ++ Str.ofString " 18446744073709551616", Str.ofString " 5"]
def oddC (s z : Str) : List Str := [s ++ Str.ofString " " ++ Txt.mul (Str.ofString "9") 30, Str.ofString "- ", Str.ofString "--  1", Str.ofString "-- 1", Str.ofString "width 5", z ++ Str.ofString " ", z ++ Str.ofString "x", Str.ofString "-1 1", Str.ofString "0_ 1"]
def oddRows (s z : Str) : List Str := (oddA s ++ [s ++ Str.ofString " 1 1"]) ++ oddB s ++ oddC s z
def oddRow (n : Int) (v : Nat) (z : Str) : Str := (oddRows (startO (if n % 2 = 0 then 48 else 49) v) z).getD (n / 2 % 23).toNat (Str.ofString "")
theorem startO_len : ∀ c, c < 50 → ∀ v, v < 65 → (startO c v).length = v := by decide +kernel
theorem startO_cut : ∀ c, c < 50 → ∀ v, v < 65 → (cutS (startO c v) (some 1) none).length ≤ 64 := by decide +kernel
def okBad (v : Nat) (z : Str) : Bool := badL v (TL.tl z) && sokL (TL.tl z) && decide (z.length ≤ 200) && !(TL.tl z).contains 10
theorem oddRows_bad : ([48, 49].all fun c => widths.all fun v => (List.range 23).all fun i => i == 19 || i == 20 || okBad v ((oddRows (startO c v) (Str.ofString "")).getD i (Str.ofString ""))) = true := by decide +kernel
theorem widths_mem (n : Int) : widthL n ∈ widths := by
  unfold widthL
  have h : (n % 10).toNat < widths.length := by show _ < 10; omega
  rw [List.getD_eq_getElem?_getD, List.getElem?_eq_getElem h]
  exact List.getElem_mem h
/-- three parts, or a number with an x -/
theorem split_blank {a b : Str} (ha : 32 ∉ TL.tl a) (hb : 32 ∉ TL.tl b) : TL.spl [32] 0 [] (TL.tl (a ++ Str.ofString " " ++ b ++ Str.ofString " ")) = [TL.tl a, TL.tl b, []] := by
  rw [← spl_of]
  have e : a ++ Str.ofString " " ++ b ++ Str.ofString " " = Txt.join (Str.ofString " ") [a, b, Str.ofString ""] := by
    rw [TL.join_eq]
    refine TL.ext_tl ?_
    rw [TL.tl_join, TL.tl_append, TL.tl_append, TL.tl_append]
    have z : TL.tl (Str.ofString "") = [] := by decide +kernel
    simp [TL.joinL, z]
  rw [e, TL.split_join tl_blank (by decide +kernel) (by simp)]
  · have z : TL.tl (Str.ofString "") = [] := by decide +kernel
    simp [z]
  · intro p hp
    rcases List.mem_cons.mp hp with rfl | hp
    · exact ha
    · rcases List.mem_cons.mp hp with rfl | hp
      · exact hb
      · rw [List.mem_singleton.mp hp]
        decide +kernel
theorem tl_x : TL.tl (Str.ofString "x") = [120] := by decide +kernel
theorem split_x {a b : Str} (ha : 32 ∉ TL.tl a) (hb : 32 ∉ TL.tl b) : TL.spl [32] 0 [] (TL.tl (a ++ Str.ofString " " ++ b ++ Str.ofString "x")) = [TL.tl a, TL.tl b ++ [120]] := by
  rw [← spl_of]
  have e : a ++ Str.ofString " " ++ b ++ Str.ofString "x" = a ++ Str.ofString " " ++ (b ++ Str.ofString "x") := by
    refine TL.ext_tl ?_
    simp [TL.tl_append]
  have hbx : 32 ∉ TL.tl (b ++ Str.ofString "x") := by
    rw [TL.tl_append, tl_x]
    intro h
    rcases List.mem_append.mp h with h | h
    · exact hb h
    · revert h; decide
  rw [e, split2 ha hbx]
  simp [TL.tl_append, tl_x]
theorem num_x (l : List Nat) : numInL (l ++ [120]) = none := by
  unfold numInL
  refine if_neg fun h => ?_
  have := h.2.2
  unfold figsL at this
  rw [List.all_append] at this
  simp at this
theorem bad_blank {a b : Str} (v : Nat) (ha : 32 ∉ TL.tl a) (hb : 32 ∉ TL.tl b) : badL v (TL.tl (a ++ Str.ofString " " ++ b ++ Str.ofString " ")) = true := by
  unfold badL
  rw [split_blank ha hb]
theorem bad_x {a b : Str} (v : Nat) (ha : 32 ∉ TL.tl a) (hb : 32 ∉ TL.tl b) : badL v (TL.tl (a ++ Str.ofString " " ++ b ++ Str.ofString "x")) = true := by
  unfold badL
  rw [split_x ha hb]
  show (!okN 0 18446744073709551615 (numInL (TL.tl b ++ [120])) || _) = true
  rw [num_x]
  rfl
/-- an odd row, the last row of a table's text at hand -/
theorem oddRow_ok (n : Int) {v : Nat} {a b : Str} (hv : v ∈ widths) (ha : 32 ∉ TL.tl a) (hb : 32 ∉ TL.tl b) (ha2 : 10 ∉ TL.tl a) (hb2 : 10 ∉ TL.tl b) (sa : sokL (TL.tl a) = true) (sb : sokL (TL.tl b) = true) (hl : (a ++ Str.ofString " " ++ b).length ≤ 200) :
    badL v (TL.tl (oddRow n v (a ++ Str.ofString " " ++ b))) = true ∧ sokL (TL.tl (oddRow n v (a ++ Str.ofString " " ++ b))) = true ∧ (oddRow n v (a ++ Str.ofString " " ++ b)).length ≤ 201 ∧ 10 ∉ TL.tl (oddRow n v (a ++ Str.ofString " " ++ b)) := by
  have hi : (n / 2 % 23).toNat < 23 := by omega
  unfold oddRow
  generalize (n / 2 % 23).toNat = i at hi
  obtain ⟨c, hc, ec⟩ : ∃ c, c ∈ [48, 49] ∧ (if n % 2 = 0 then 48 else 49) = c := by
    by_cases h : n % 2 = 0
    · exact ⟨48, by simp, if_pos h⟩
    · exact ⟨49, by simp, if_neg h⟩
  rw [ec]
  have free : ∀ y : Str, (∀ q ∈ TL.tl y, q ≠ 10 ∧ q < 1114112) → sokL (TL.tl (a ++ Str.ofString " " ++ b ++ y)) = true ∧ 10 ∉ TL.tl (a ++ Str.ofString " " ++ b ++ y) := fun y hy => by
    rw [TL.tl_append, TL.tl_append, TL.tl_append, tl_blank]
    constructor
    · unfold sokL at *
      rw [List.all_append, List.all_append, List.all_append, sa, sb]
      have : (TL.tl y).all (fun c => decide (c < 1114112)) = true := List.all_eq_true.mpr fun q hq => decide_eq_true (hy q hq).2
      rw [this]
      rfl
    · intro h
      rcases List.mem_append.mp h with h | h
      · rcases List.mem_append.mp h with h | h
        · rcases List.mem_append.mp h with h | h
          · exact ha2 h
          · revert h; decide
        · exact hb2 h
      · exact (hy _ h).1 rfl
  by_cases h19 : i = 19
  · subst h19
    have e : (oddRows (startO c v) (a ++ Str.ofString " " ++ b)).getD 19 (Str.ofString "") = a ++ Str.ofString " " ++ b ++ Str.ofString " " := rfl
    rw [e]
    obtain ⟨f1, f2⟩ := free (Str.ofString " ") (by rw [tl_blank]; intro q hq; rw [List.mem_singleton.mp hq]; decide)
    exact ⟨bad_blank v ha hb, f1, by rw [Str.length_append]; have : (Str.ofString " ").length = 1 := by decide +kernel
                                     omega, f2⟩
  · by_cases h20 : i = 20
    · subst h20
      have e : (oddRows (startO c v) (a ++ Str.ofString " " ++ b)).getD 20 (Str.ofString "") = a ++ Str.ofString " " ++ b ++ Str.ofString "x" := rfl
      rw [e]
      obtain ⟨f1, f2⟩ := free (Str.ofString "x") (by rw [tl_x]; intro q hq; rw [List.mem_singleton.mp hq]; decide)
      exact ⟨bad_x v ha hb, f1, by rw [Str.length_append]; have : (Str.ofString "x").length = 1 := by decide +kernel
                                   omega, f2⟩
    · have e : (oddRows (startO c v) (a ++ Str.ofString " " ++ b)).getD i (Str.ofString "") = (oddRows (startO c v) (Str.ofString "")).getD i (Str.ofString "") := by
        unfold oddRows
        generalize startO c v = st
        match i, hi with
        | 0, _ | 1, _ | 2, _ | 3, _ | 4, _ | 5, _ | 6, _ | 7, _ | 8, _ | 9, _ | 10, _ | 11, _ | 12, _ | 13, _ | 14, _ | 15, _ | 16, _ | 17, _ | 18, _ | 21, _ | 22, _ => rfl
        | 19, _ => exact absurd rfl h19
        | 20, _ => exact absurd rfl h20
        | (k + 23), h => omega
      rw [e]
      have h := oddRows_bad
      rw [List.all_eq_true] at h
      have h := h c hc
      rw [List.all_eq_true] at h
      have h := h v hv
      rw [List.all_eq_true] at h
      have h := h i (List.mem_range.mpr hi)
      have q1 : (i == 19) = false := by simpa using h19
      have q2 : (i == 20) = false := by simpa using h20
      rw [q1, q2, Bool.false_or, Bool.false_or] at h
      unfold okBad at h
      rw [Bool.and_eq_true, Bool.and_eq_true, Bool.and_eq_true] at h
      obtain ⟨⟨⟨h1, h2⟩, h3⟩, h4⟩ := h
      have h3 := of_decide_eq_true h3
      exact ⟨h1, h2, by omega, by simpa using h4⟩
def spOddR : Sp := fun vs H Q _ => ∃ (n : Int) (v : Nat) (z : Str), vs = [.int n, .int (v : Int), .str z] ∧ v ≤ 64 ∧ z.length ≤ 1000 ∧ ∀ H', Same H H' → Q (.str (oddRow n v z)) H'
theorem c_l_odd_row (T : Glob mg) (D : Dn K mg "_law_odd_row" s_l_odd_row ["_law_number", "_law_wide", "_law_row"]) : Cal P w K mg base 1 "_law_odd_row" spOddR [] := by
  refine D.cal sc_l_odd_row (fun vs H Q E h => ?_) (fun f cdv A outer s H vs Q E hr h => ?_)
  · obtain ⟨n, v, z, rfl, _⟩ := h
    rfl
  · obtain ⟨n, v, z, rfl, hv, hz, k⟩ := h
    refine ⟨_, (pss_cons (ps_set (i := 3) sc_l_odd_row.nd rfl (by first | exact Or.inl rfl | exact Or.inr rfl) (pe_op op_mul_si (pe_ix ix_str pe_str (pe_op op_mod (pv 0) pe_int) (fun _ _ => rfl)) (pv 1)))
      (pss_cons (ps_set (i := 4) sc_l_odd_row.nd rfl (by first | exact Or.inl rfl | exact Or.inr rfl) (pe_lst (pa_cons pe_str (pa_cons (pv 3) (pa_cons (pe_op op_add_str (pv 3) pe_str) (pa_cons (pe_op op_add_str (pe_op op_add_str pe_str (pv 3)) pe_str) (pa_cons (pe_op op_add_str (pv 3) pe_str) (pa_cons (pe_op op_add_str (pv 3) pe_str) (pa_cons (pe_op op_add_str (pe_slice sl_str (pv 3) (po_some pe_int) po_none) pe_str) pa_nil)))))))))
      (pss_cons (ps_expr (pe_bm PySem.F.plainAttrs_list PySem.F.slot_list_append PySem.F.type_list_append mt_append (pv 4) (pa_cons (pe_op op_add_str (pv 3) pe_str) pa_nil)))
      (pss_cons (ps_set (i := 4) sc_l_odd_row.nd rfl (by first | exact Or.inl rfl | exact Or.inr rfl) (pe_op op_cat (pv 4) (pe_lst (pa_cons (pe_op op_add_str (pv 3) pe_str) (pa_cons (pe_op op_add_str (pv 3) pe_str) (pa_cons (pe_op op_add_str (pv 3) pe_str) (pa_cons (pe_op op_add_str (pv 3) pe_str) (pa_cons (pe_op op_add_str (pv 3) pe_str) (pa_cons pe_str pa_nil)))))))))
      (pss_cons (ps_set (i := 4) sc_l_odd_row.nd rfl (by first | exact Or.inl rfl | exact Or.inr rfl) (pe_op op_cat (pv 4) (pe_lst (pa_cons (pe_op op_add_str (pe_op op_add_str (pv 3) pe_str) (pe_op op_mul_si pe_str pe_int)) (pa_cons pe_str (pa_cons pe_str (pa_cons pe_str (pa_cons pe_str (pa_cons (pe_op op_add_str (pv 2) pe_str) (pa_cons (pe_op op_add_str (pv 2) pe_str) (pa_cons pe_str (pa_cons pe_str pa_nil))))))))))))
      (pss_one (ps_ret (pe_ix ix_list (pv 4) (pe_op op_mod (pe_op op_fdiv (pv 0) pe_int) pe_int) (fun _ _ => rfl))))))))), ?_⟩
    obtain ⟨c, hc, hc2, hat⟩ : ∃ c, c = (if n % 2 = 0 then 48 else 49) ∧ c < 50 ∧ atI (Str.ofString "01").cps.toList (n % 2) = some c := by
      have e : (Str.ofString "01").cps.toList = [48, 49] := by decide +kernel
      rw [e]
      by_cases h : n % 2 = 0
      · exact ⟨_, rfl, by rw [if_pos h]; omega, by rw [if_pos h, h]; rfl⟩
      · exact ⟨_, rfl, by rw [if_neg h]; omega, by rw [if_neg h, show n % 2 = 1 by omega]; rfl⟩
    refine ⟨_, rfl, _, _, rfl, rfl, (by show (0 : Int) < 2; decide), _, _, c, rfl, rfl, (by decide), hat, _, rfl, _, _, rfl, rfl, (by show 1 ≤ 1000; omega), (by omega), (by omega), ?_⟩
    have es : startO c v = Txt.mul ⟨#[c]⟩ ((v : Nat) : Int) := rfl
    rw [← es]
    have ls : (startO c v).length ≤ 1100 := by rw [startO_len c hc2 v (by omega)]; omega
    have lc : (cutS (startO c v) (some 1) none).length ≤ 1100 := Nat.le_trans (startO_cut c hc2 v (by omega)) (by decide)
    have eo : oddRow n v z = (oddRows (startO c v) z).getD (n / 2 % 23).toNat (Str.ofString "") := by unfold oddRow; rw [hc]
    rw [eo] at k
    generalize startO c v = st at ls lc k ⊢
    have sl : 10000 ≤ sizeLine := by decide
    have cl : ∀ a b : Str, a.length ≤ 1100 → b.length ≤ 1100 → a.length + b.length ≤ sizeLine := fun a b h1 h2 => by omega
    have cl2 : ∀ a b d : Str, a.length ≤ 1100 → b.length ≤ 1100 → d.length ≤ 1100 → (a ++ b).length + d.length ≤ sizeLine := fun a b d h1 h2 h3 => by rw [Str.length_append]; omega
    have L : ∀ a : Str, decide (a.length ≤ 1100) = true → a.length ≤ 1100 := fun a h => of_decide_eq_true h
    refine ⟨_, rfl, ?_⟩
    refine ⟨_, rfl, _, _, rfl, rfl, cl _ _ ls (L _ (by decide +kernel)), ?_⟩
    refine ⟨_, rfl, _, _, rfl, rfl, cl _ _ (L _ (by decide +kernel)) ls, _, _, rfl, rfl, cl2 _ _ _ (L _ (by decide +kernel)) ls (L _ (by decide +kernel)), ?_⟩
    refine ⟨_, rfl, _, _, rfl, rfl, cl _ _ ls (L _ (by decide +kernel)), ?_⟩
    refine ⟨_, rfl, _, _, rfl, rfl, cl _ _ ls (L _ (by decide +kernel)), ?_⟩
    refine ⟨_, rfl, _, rfl, _, rfl, (by omega), _, _, rfl, rfl, cl _ _ lc (L _ (by decide +kernel)), (by show 7 ≤ sizeLine; decide), fun p hp => ?_⟩
    have s1 : Same H (upd H p (.lst ((oddA st).map V.str))) := Same_upd (Same.refl H) hp
    have e1 : (upd H p (.lst ((oddA st).map V.str))) p = some (.lst ((oddA st).map V.str)) := upd_same
    refine ⟨_, rfl, .inl ⟨rfl, _, SqL.of e1⟩, ?_⟩
    refine ⟨_, rfl, _, _, rfl, rfl, cl _ _ ls (L _ (by decide +kernel)), p, _, _, rfl, rfl, e1, (by show 7 < sizeLine; decide), ?_⟩
    have s2 : Same H (upd (upd H p (.lst ((oddA st).map V.str))) p (.lst ((oddA st ++ [st ++ Str.ofString " 1 1"]).map V.str))) := fun a o e => by
      have ne : a ≠ p := fun z => by rw [z, hp] at e; cases e
      rw [upd_ne ne, upd_ne ne]
      exact e
    have e2 : (upd (upd H p (.lst ((oddA st).map V.str))) p (.lst ((oddA st ++ [st ++ Str.ofString " 1 1"]).map V.str))) p = some (.lst ((oddA st ++ [st ++ Str.ofString " 1 1"]).map V.str)) := upd_same
    refine ⟨_, rfl, ?_⟩
    refine ⟨_, rfl, _, _, rfl, rfl, cl _ _ ls (L _ (by decide +kernel)), ?_⟩
    refine ⟨_, rfl, _, _, rfl, rfl, cl _ _ ls (L _ (by decide +kernel)), ?_⟩
    refine ⟨_, rfl, _, _, rfl, rfl, cl _ _ ls (L _ (by decide +kernel)), ?_⟩
    refine ⟨_, rfl, _, _, rfl, rfl, cl _ _ ls (L _ (by decide +kernel)), ?_⟩
    refine ⟨_, rfl, _, _, rfl, rfl, cl _ _ ls (L _ (by decide +kernel)), (by show 6 ≤ sizeLine; decide), fun q hq => ?_⟩
    have s3 := Same_upd (o := .lst ((oddB st).map V.str)) (Same.refl _) hq
    refine ⟨p, q, _, _, rfl, rfl, s3 _ _ e2, upd_same, (by show 14 ≤ sizeLine; decide), fun p2 hp2 => ?_⟩
    have s4 := Same_upd (o := .lst (((oddA st ++ [st ++ Str.ofString " 1 1"]) ++ oddB st).map V.str)) (Same.refl _) hp2
    refine ⟨_, rfl, ?_⟩
    refine ⟨_, rfl, _, _, rfl, rfl, cl _ _ ls (L _ (by decide +kernel)), _, _, rfl, rfl, (by decide +kernel), (by omega), (by omega), _, _, rfl, rfl, cl2 _ _ _ ls (L _ (by decide +kernel)) (L _ (by decide +kernel)), ?_⟩
    refine ⟨_, rfl, _, _, rfl, rfl, cl _ _ (Nat.le_trans hz (by decide)) (L _ (by decide +kernel)), ?_⟩
    refine ⟨_, rfl, _, _, rfl, rfl, cl _ _ (Nat.le_trans hz (by decide)) (L _ (by decide +kernel)), (by show 9 ≤ sizeLine; decide), fun q2 hq2 => ?_⟩
    have s5 := Same_upd (o := .lst ((oddC st z).map V.str)) (Same.refl _) hq2
    refine ⟨p2, q2, _, _, rfl, rfl, s5 _ _ upd_same, upd_same, (by show 23 ≤ sizeLine; decide), fun p3 hp3 => ?_⟩
    have s6 := Same_upd (o := .lst ((oddRows st z).map V.str)) (Same.refl _) hp3
    refine ⟨_, rfl, _, rfl, _, _, rfl, rfl, ⟨by decide, by decide⟩, _, _, rfl, rfl, (by show (0 : Int) < 23; decide), p3, _, _, .str ((oddRows st z).getD (n / 2 % 23).toNat (Str.ofString "")), rfl, rfl, SqL.of upd_same, ?_, k _ ((((s2.trans s3).trans s4).trans s5).trans s6)⟩
    obtain ⟨j, hj, hjl⟩ : ∃ j : Nat, n / 2 % 23 = (j : Int) ∧ (n / 2 % 23).toNat = j := ⟨_, by omega, rfl⟩
    have h : j < (oddRows st z).length := by show _ < 23; omega
    rw [hjl, hj]
    refine atI_nat ?_
    show ((oddRows st z).map V.str)[j]? = _
    rw [List.getElem?_map, List.getD_eq_getElem?_getD, List.getElem?_eq_getElem h]
    rfl
end
end Br

/-! What stays where only tables of code objects grow. -/
namespace Br
open PySem PySem.Spec PyProof.Rows L2
theorem AT.ok_ext {C : Addr} {H H' : Hp} (e : LamX.ExtN H H') : ∀ {t : AT}, t.ok C H → t.ok C H'
  | .nil, _ => trivial
  | .nd a dx ka g l r, h => ⟨e _ _ h.1 (by intro ps z; cases z), e _ _ h.2.1 (by intro ps z; cases z), AT.ok_ext e h.2.2.1, AT.ok_ext e h.2.2.2⟩
theorem Tab.ext {CK CT T : Addr} {H H' : Hp} {v : Nat} {t : AT} (h : Tab CK CT H T v t) (e : LamX.ExtN H H') : Tab CK CT H' T v t := by
  obtain ⟨d, hd⟩ := h.obj
  exact ⟨⟨d, e _ _ hd (by intro ps z; cases z)⟩, AT.ok_ext e h.ok, h.nd, h.neat, h.deep, h.w1, h.w2, h.sz⟩
theorem ExtN_same {H H' : Hp} (s : Same H H') : LamX.ExtN H H' := fun b o h _ => s b o h
theorem LT.ext {H H' : Hp} {p : Addr} {L : List (List V)} (h : LT H p L) (e : LamX.ExtN H H') : LT H' p L := by
  obtain ⟨vs, h1, h2, h3⟩ := h
  refine ⟨vs, e _ _ h1 (by intro ps z; cases z), h2, fun i row hi => ?_⟩
  obtain ⟨c, e1, e2⟩ := h3 i row hi
  exact ⟨c, e1, e _ _ e2 (by intro ps z; cases z)⟩
end Br

/-! the law itself -/
namespace Br
open PySem PySem.Spec PyProof.Rows L2
open C8 (Cal Met Mak cal0 met0 mak0 pe_c pe_mk pe_mt pe_mt0 pe_gc Def)
theorem Agr.ex {rows : RowL} (nd : (rows.map (·.1)).Nodup) : ∃ t, Agr rows t := by
  have h : ∀ n, n ≤ rows.length → ∃ t, Agr (rows.take n) t := by
    intro n
    induction n with
    | zero => intro _; exact ⟨_, Agr.nil⟩
    | succ n ih =>
      intro hn
      obtain ⟨t, ht⟩ := ih (by omega)
      obtain ⟨r, er⟩ : ∃ r, rows[n]? = some r := ⟨_, List.getElem?_eq_getElem (by omega)⟩
      refine ⟨t.put r.1 r.2, ?_⟩
      have hp := ht.put r.1 r.2
      have hnone : rget (rows.take n) r.1 = none := rget_none.mpr fun hm => by
        rw [List.map_take] at hm
        obtain ⟨j, hj, e⟩ := List.getElem_of_mem hm
        rw [List.length_take, List.length_map] at hj
        rw [List.getElem_take] at e
        have a2 : (rows.map (·.1))[n]? = some r.1 := by rw [List.getElem?_map, er]; rfl
        obtain ⟨b3, b4⟩ := List.getElem?_eq_some_iff.mp a2
        exact (List.pairwise_iff_getElem.mp nd j n (by rw [List.length_map]; omega) b3 (by omega)) (e.trans b4.symm)
      rw [rput_new r.2 hnone, ← take_snoc er] at hp
      exact hp
  obtain ⟨t, ht⟩ := h rows.length (Nat.le_refl _)
  rw [List.take_length] at ht
  exact ⟨t, ht⟩
theorem cutV_take (xs : List V) (n : Nat) : cutV xs none (some (n : Int)) = xs.take n := by
  unfold cutV
  have e0 : HT.sIx xs.length 0 none = 0 := rfl
  have e1 : HT.sIx xs.length xs.length (some (n : Int)) = min n xs.length := HT.sIx_nat _ _ _
  rw [e0, e1, List.drop_zero, Nat.sub_zero]
  by_cases h : n ≤ xs.length
  · rw [Nat.min_eq_left h]
  · rw [Nat.min_eq_right (by omega), List.take_length, List.take_of_length_le (by omega)]
theorem cutV_drop (xs : List V) (n : Nat) : cutV xs (some (n : Int)) none = xs.drop n := by
  unfold cutV
  have e0 : HT.sIx xs.length xs.length none = xs.length := rfl
  have e1 : HT.sIx xs.length 0 (some (n : Int)) = min n xs.length := HT.sIx_nat _ _ _
  rw [e0, e1]
  by_cases h : n ≤ xs.length
  · rw [Nat.min_eq_left h]
    exact List.take_of_length_le (by rw [List.length_drop]; omega)
  · rw [Nat.min_eq_right (by omega), List.drop_length, List.drop_eq_nil_of_le (by omega)]
    exact List.take_nil
/-- a row of a table's text, or its head, split at the blank -/
abbrev headT (v : Nat) : Str := Str.ofString "width " ++ numT v
structure Bent (v pl : Nat) (bl : List Str) : Prop where
  free : ∀ z ∈ bl, 10 ∉ TL.tl z
  len : ∀ z ∈ bl, z.length ≤ 201
  many : bl.length ≤ 60
  bad : (∃ w rest, bl = w :: rest ∧ badW (TL.tl w) = true ∧ pl = 0) ∨ ∃ (L : RowL) (b : Str) (rest : List Str), bl = headT v :: (L.map rowT ++ b :: rest) ∧ RowsOk v L ∧ BadRow v L b ∧ pl = 1 + L.length
theorem Bent.ne {v pl : Nat} {bl : List Str} (h : Bent v pl bl) : bl ≠ [] := by
  rcases h.bad with ⟨w, rest, rfl, _⟩ | ⟨L, b, rest, rfl, _⟩ <;> simp
theorem Bent.tx {v pl : Nat} {bl : List Str} {H : Hp} (h : Bent v pl bl) (w1 : 1 ≤ v) (w2 : v ≤ 64) : BadTx H (.str (Txt.join (Str.ofString "\n") bl)) pl := by
  have hs : Txt.split (Txt.join (Str.ofString "\n") bl) (Str.ofString "\n") = bl := TL.split_join tl_line (by decide +kernel) h.ne h.free
  have zn : (Str.ofString "\n").length = 1 := by decide +kernel
  have hj := join_len (Str.ofString "\n") 201 bl h.len
  have hm := h.many
  refine .inr ⟨_, rfl, ?_, ?_⟩
  · rw [TL.join_eq]
    rw [zn] at hj
    have : bl.length * (201 + 1) ≤ 60 * 202 := Nat.mul_le_mul_right _ hm
    omega
  · rw [hs]
    rcases h.bad with ⟨w, rest, e, hb, rfl⟩ | ⟨L, b, rest, e, ok, hb, rfl⟩
    · exact .inl ⟨w, rest, e, by have := h.len w (by rw [e]; simp); omega, hb, rfl⟩
    · refine .inr ⟨v, L, b, rest, e, ok, ?_, w1, w2, hb, rfl⟩
      rw [e, List.length_cons, List.length_append, List.length_cons, List.length_map] at hm
      omega
theorem Bent.snoc {v pl : Nat} {bl : List Str} {z : Str} (h : Bent v pl bl) (hf : 10 ∉ TL.tl z) (hl : z.length ≤ 201) (hm : bl.length < 60) : Bent v pl (bl ++ [z]) := by
  refine ⟨fun y hy => ?_, fun y hy => ?_, by rw [List.length_append]; exact hm, ?_⟩
  · rcases List.mem_append.mp hy with hy | hy
    · exact h.free y hy
    · rw [List.mem_singleton.mp hy]; exact hf
  · rcases List.mem_append.mp hy with hy | hy
    · exact h.len y hy
    · rw [List.mem_singleton.mp hy]; exact hl
  · rcases h.bad with ⟨w, rest, e, hb, rfl⟩ | ⟨L, b, rest, e, ok, hb, rfl⟩
    · exact .inl ⟨w, rest ++ [z], by rw [e]; rfl, hb, rfl⟩
    · exact .inr ⟨L, b, rest ++ [z], by rw [e]; simp, ok, hb, rfl⟩
theorem rows_take {v : Nat} {L : RowL} (ok : RowsOk v L) (i : Nat) : RowsOk v (L.take i) :=
  ⟨by rw [List.map_take]; exact ok.nd.sublist (List.take_sublist _ _), fun r hr => ok.len r (List.mem_of_mem_take hr), fun r hr => ok.max r (List.mem_of_mem_take hr)⟩
theorem ls_free {v : Nat} {L : RowL} : ∀ z ∈ headT v :: L.map rowT, 10 ∉ TL.tl z := fun z hz => by
  rcases List.mem_cons.mp hz with rfl | hz
  · exact head_free v
  · obtain ⟨r, _, rfl⟩ := List.mem_map.mp hz
    exact row_free r
theorem ls_len {v : Nat} {L : RowL} (ok : RowsOk v L) (w2 : v ≤ 64) : ∀ z ∈ headT v :: L.map rowT, z.length ≤ 200 := fun z hz => by
  rcases List.mem_cons.mp hz with rfl | hz
  · have := numT_len (n := v) (by omega)
    have zw : (Str.ofString "width ").length = 6 := by decide +kernel
    rw [Str.length_append]
    omega
  · obtain ⟨r, hr, rfl⟩ := List.mem_map.mp hz
    exact rowT_len (Nat.le_trans (ok.len r hr) w2) (ok.max r hr)
theorem Bent.row {v i : Nat} {L : RowL} {b : Str} (ok : RowsOk v L) (w2 : v ≤ 64) (lL : L.length ≤ 40) (hi : i ≤ L.length) (hb : BadRow v (L.take i) b) (hf : 10 ∉ TL.tl b) (hl : b.length ≤ 201) :
    Bent v (1 + i) ((headT v :: L.map rowT).take (1 + i) ++ [b] ++ (headT v :: L.map rowT).drop (1 + i)) := by
  refine ⟨fun z hz => ?_, fun z hz => ?_, ?_, .inr ⟨L.take i, b, (L.map rowT).drop i, ?_, rows_take ok i, hb, by rw [List.length_take]; omega⟩⟩
  · rcases List.mem_append.mp hz with hz | hz
    · rcases List.mem_append.mp hz with hz | hz
      · exact ls_free z (List.mem_of_mem_take hz)
      · rw [List.mem_singleton.mp hz]; exact hf
    · exact ls_free z (List.mem_of_mem_drop hz)
  · rcases List.mem_append.mp hz with hz | hz
    · rcases List.mem_append.mp hz with hz | hz
      · exact Nat.le_succ_of_le (ls_len ok w2 z (List.mem_of_mem_take hz))
      · rw [List.mem_singleton.mp hz]; exact hl
    · exact Nat.le_succ_of_le (ls_len ok w2 z (List.mem_of_mem_drop hz))
  · simp only [List.length_append, List.length_take, List.length_drop, List.length_cons, List.length_map, List.length_nil]
    omega
  · rw [Nat.add_comm 1 i, List.take_succ_cons, List.drop_succ_cons, List.map_take]
    simp
theorem Bent.head {v : Nat} {L : RowL} {b : Str} (ok : RowsOk v L) (w2 : v ≤ 64) (lL : L.length ≤ 40) (hb : badW (TL.tl b) = true) (hf : 10 ∉ TL.tl b) (hl : b.length ≤ 201) :
    Bent v 0 ([b] ++ (headT v :: L.map rowT).drop 1) := by
  refine ⟨fun z hz => ?_, fun z hz => ?_, ?_, .inl ⟨b, L.map rowT, rfl, hb, rfl⟩⟩
  · rcases List.mem_append.mp hz with hz | hz
    · rw [List.mem_singleton.mp hz]; exact hf
    · exact ls_free z (List.mem_of_mem_drop hz)
  · rcases List.mem_append.mp hz with hz | hz
    · rw [List.mem_singleton.mp hz]; exact hl
    · exact Nat.le_succ_of_le (ls_len ok w2 z (List.mem_of_mem_drop hz))
  · simp only [List.length_append, List.length_drop, List.length_cons, List.length_map, List.length_nil]
    omega
/-- the last row of a text: two words -/
theorem ls_last {v : Nat} {L : RowL} : ∃ a b, (headT v :: L.map rowT)[L.length]? = some (a ++ Str.ofString " " ++ b) ∧ 32 ∉ TL.tl a ∧ 32 ∉ TL.tl b ∧ 10 ∉ TL.tl a ∧ 10 ∉ TL.tl b ∧ sokL (TL.tl a) = true ∧ sokL (TL.tl b) = true := by
  have sn : ∀ n, sokL (TL.tl (numT n)) = true := fun n => by
    unfold sokL
    rw [List.all_eq_true]
    intro c hc
    refine decide_eq_true ?_
    by_cases h : c < 1114112
    · exact h
    · exact absurd hc (numT_free (by omega))
  have ss : ∀ s, sokL (TL.tl (startT s)) = true := fun s => by
    unfold sokL
    rw [List.all_eq_true]
    intro c hc
    refine decide_eq_true ?_
    by_cases h : c < 1114112
    · exact h
    · exact absurd hc (startT_free (by omega))
  cases h : L.length with
  | zero => exact ⟨Str.ofString "width", numT v, by rw [← headT_eq]; rfl, by rw [tl_width]; decide, numT_free (by omega), by rw [tl_width]; decide, numT_free (by omega), by rw [tl_width]; decide, sn v⟩
  | succ n =>
    obtain ⟨r, er⟩ : ∃ r, L[n]? = some r := ⟨_, List.getElem?_eq_getElem (by omega)⟩
    exact ⟨startT r.1, numT r.2, by rw [List.getElem?_cons_succ, List.getElem?_map, er]; rfl, startT_free (by omega), numT_free (by omega), startT_free (by omega), numT_free (by omega), ss _, sn _⟩
theorem row_sok (r : List Bool × Nat) : sokL (TL.tl (rowT r)) = true := by
  show sokL (TL.tl (startT r.1 ++ Str.ofString " " ++ numT r.2)) = true
  unfold sokL
  rw [List.all_eq_true]
  intro c hc
  refine decide_eq_true ?_
  by_cases h : c < 1114112
  · exact h
  · rw [TL.tl_append, TL.tl_append, tl_blank] at hc
    rcases List.mem_append.mp hc with hc | hc
    · rcases List.mem_append.mp hc with hc | hc
      · exact absurd hc (startT_free (by omega))
      · rw [List.mem_singleton.mp hc]; omega
    · exact absurd hc (numT_free (by omega))
theorem mod_nat (m a b n : Nat) (e : Int) (h : e = ((b : Nat) : Int)) : ((n : Nat) : Int) + (m : Int) / (a : Int) % e = ((n + m / a % b : Nat) : Int) := by
  have z : ((m / a % b : Nat) : Int) = (m : Int) / (a : Int) % ((b : Nat) : Int) := by rw [Int.natCast_emod, Int.natCast_ediv]
  rw [h, ← z]
  omega
theorem sql_extN {K : PySem.W.Frag} {H H' : Hp} {a : Addr} {xs : List V} (h : SqL K H a xs) (e : LamX.ExtN H H') : SqL K H' a xs := by
  rcases h with (h | ⟨o, h⟩) | h
  · exact .inl (.inl (e _ _ h (fun ps z => nomatch z)))
  · exact .inl (.inr ⟨o, e _ _ h (fun ps z => nomatch z)⟩)
  · exact .inr h
theorem atI_fin {xs : List V} {n : Nat} {x : V} (h : xs.length = n + 1) (e : xs[n]? = some x) : atI xs (-1) = some x := by
  have z := take_snoc e
  rw [← h, List.take_length] at z
  rw [z]
  exact atI_last _ _
def d3 (pl : Int) : PyData := .tuple [.str "text", .int pl, .bool false]
theorem d3_ok (pl : Int) : DOk 1 (d3 pl) := dok_tup (k := 0) fun d hd => by
  simp only [List.mem_cons, List.not_mem_nil, or_false] at hd
  rcases hd with rfl | rfl | rfl
  · exact dok_str (by decide +kernel)
  · exact dok_int _
  · exact dok_bool _
theorem dp3 {K : PySem.W.Frag} {H : Hp} {p : Addr} {pl : Int} (h : H p = some (.tup [.str "text", .int pl, .bl false])) : Dp K H (.ref p) (d3 pl) := .tup (SqT.of h) (.cons (.str _) (.cons (.int _) (.cons (.bl _) .nil)))
section
variable {P : Program} {w : World} {K : PySem.W.Frag} {mg : Str → Option Value} {base : Heap} {CK CT : Addr} {TT : List (Addr × Str)}
abbrev s_law : Stmt := top 49
abbrev n_law : List Str := ["_law_script", "_law_seed", "_law_wide", "_law_rows", "_law_good", "_law_lines", "_law_odd", "_law_k", "_law_cell", "_law_number", "_law_at", "_law_bad", "_law_bent", "_law_again"]
theorem sc_law : FnScope n_law ["_law_script"] (C8.fnScope s_law) := ⟨rfl, rfl, rfl, by decide +kernel, rfl, by decide +kernel, by decide +kernel⟩
def spLawT (K : PySem.W.Frag) (T : List (Addr × Str)) : Sp := fun vs H Q _ => ∃ (a : Addr) (ns : List Int), vs = [.ref a] ∧ LamX.Tabs T H ∧ SqL K H a (ns.map V.int) ∧ ns.length ≤ 63 ∧ ∀ H', Q (.bl true) H'
theorem ok_law {f : Addr} {fd : FuncData} (F : C8.Fun K "law" "law" s_law f fd) (T : Glob mg) (c_l_cell_at : Cal P w K mg base 1 "_law_cell_at" (spCellAt K) []) (c_l_mixed : Cal P w K mg base 1 "_law_mixed" spMixed []) (c_l_width : Cal P w K mg base 1 "_law_width" spLWidth [])
    (c_l_drawn : Cal P w K mg base 3 "_law_drawn" (spDrawn K) []) (c_l_text : Cal P w K mg base 5 "_law_text" (spText TT) []) (c_l_odd_row : Cal P w K mg base 1 "_law_odd_row" spOddR []) (c_l_odd_width : Cal P w K mg base 1 "_law_odd_width" spOddW []) (c_l_place : Cal P w K mg base 70 "_law_place" (spPlace CK CT) []) :
    FnOk P w K mg base C8.CX0 71 f fd ["_law_script"] (spLawT K TT) := by
  refine C8.fn0 F sc_law (fun vs H Q E h => ?_) (fun cdv A outer s0 H vs Q E hr h => ?_)
  · obtain ⟨a, ns, rfl, _⟩ := h
    rfl
  · obtain ⟨a, ns, rfl, hTb, ha, hns, k⟩ := h
    have hu := hu_of hr
    refine ⟨_, (pss_cons (ps_set (i := 1) sc_law.nd rfl (by first | exact Or.inl rfl | exact Or.inr rfl) (pe_c c_l_mixed hr (by first | decide | omega) rfl (pa_cons (pe_c c_l_cell_at hr (by first | decide | omega) rfl (pa_cons (pv 0) (pa_cons pe_int pa_nil))) (pa_cons pe_int pa_nil))))
      (pss_cons (ps_set (i := 2) sc_law.nd rfl (by first | exact Or.inl rfl | exact Or.inr rfl) (pe_c c_l_width hr (by first | decide | omega) rfl (pa_cons (pe_op op_fdiv (pv 1) pe_int) pa_nil)))
      (pss_cons (ps_set (i := 3) sc_law.nd rfl (by first | exact Or.inl rfl | exact Or.inr rfl) (pe_c c_l_drawn hr (by first | decide | omega) rfl (pa_cons (pe_slice sl_list (pv 0) po_none (po_some pe_int)) (pa_cons (pv 1) (pa_cons (pv 2) pa_nil)))))
      (pss_cons (ps_set (i := 4) sc_law.nd rfl (by first | exact Or.inl rfl | exact Or.inr rfl) (pe_c c_l_text hr (by first | decide | omega) rfl (pa_cons (pv 3) (pa_cons (pv 2) (pa_cons pe_int pa_nil)))))
      (pss_cons (ps_set (i := 5) sc_law.nd rfl (by first | exact Or.inl rfl | exact Or.inr rfl) (pe_split (pv 4) pe_str))
      (C8.pss_cut (ps_set (i := 6) sc_law.nd rfl (by first | exact Or.inl rfl | exact Or.inr rfl) (pe_ix ix_list (pe_lst (pa_cons pe_non (pa_cons pe_int (pa_cons pe_bl (pa_cons (pe_lst (pa_cons (pv 4) pa_nil)) (pa_cons (pv 5) (pa_cons pe_dnewK (pa_cons (pe_tup (pa_cons pe_str pa_nil)) pa_nil)))))))) (pe_op op_mod (pe_op op_fdiv (pv 1) pe_int) pe_int) (fun _ _ => rfl)))
      (pss_cons (ps_if (PW.pt (pw_or (pt_cmpR (op_neD hr.units) (pe_c c_l_place hr (by first | decide | omega) rfl (pa_cons (pv 6) pa_nil)) (pe_tup (pa_cons pe_str (pa_cons pe_int (pa_cons pe_bl pa_nil)))) (nomark _)) (pw_or1 (pt_cmpR op_notN (pe_c c_l_place hr (by first | decide | omega) rfl (pa_cons (pv 4) pa_nil)) pe_non (nomark _)))))
      (pss_one (ps_ret pe_bl))
      pss_nil)
      (pss_cons (ps_for PassesOwn.never rfl (pi_enum rfl T.g_enumerate (pa_cons (pe_op op_cat (pe_slice sl_list (pv 0) po_none (po_some pe_int)) (pe_lst (pa_cons pe_int pa_nil))) pa_nil)) (pg_tup rfl (pgs_cons (pg_name (i := 7) sc_law.nd rfl (by first | exact Or.inl rfl | exact Or.inr rfl)) (pgs_cons (pg_name (i := 8) sc_law.nd rfl (by first | exact Or.inl rfl | exact Or.inr rfl)) pgs_nil)))
      (pss_cons (ps_set (i := 9) sc_law.nd rfl (by first | exact Or.inl rfl | exact Or.inr rfl) (pe_c c_l_mixed hr (by first | decide | omega) rfl (pa_cons (pv 8) (pa_cons (pe_op op_add pe_int (pv 7)) pa_nil))))
      (pss_cons (ps_set (i := 10) sc_law.nd rfl (by first | exact Or.inl rfl | exact Or.inr rfl) (pe_op op_add pe_int (pe_op op_mod (pe_op op_fdiv (pv 9) pe_int) (pe_callB call_len_seq (by rfl) T.g_len boot_len (pa_cons (pv 5) pa_nil)))))
      (pss_cons (ps_set (i := 11) sc_law.nd rfl (by first | exact Or.inl rfl | exact Or.inr rfl) (pe_c c_l_odd_row hr (by first | decide | omega) rfl (pa_cons (pe_op op_fdiv (pv 9) pe_int) (pa_cons (pv 2) (pa_cons (pe_ix ix_list (pv 5) (pe_un un_neg pe_int) (fun _ _ => rfl)) pa_nil)))))
      (C8.pss_cut (ps_set (i := 12) sc_law.nd rfl (by first | exact Or.inl rfl | exact Or.inr rfl) (pe_op op_cat (pe_op op_cat (pe_slice sl_list (pv 5) po_none (po_some (pv 10))) (pe_lst (pa_cons (pv 11) pa_nil))) (pe_slice sl_list (pv 5) (po_some (pv 10)) po_none)))
      (C8.pss_cut (ps_if (PW.pt (pw_and (pt_cmpR op_eq (pe_op op_mod (pv 9) pe_int) pe_int (nomark _)) (pw_and1 (pt_cmpR op_gt (pe_callB call_len_seq (by rfl) T.g_len boot_len (pa_cons (pv 5) pa_nil)) pe_int (nomark _)))))
      (pss_cons (ps_set (i := 10) sc_law.nd rfl (by first | exact Or.inl rfl | exact Or.inr rfl) (pe_op op_add pe_int (pe_op op_mod (pe_op op_fdiv (pv 9) pe_int) (pe_op op_sub (pe_callB call_len_seq (by rfl) T.g_len boot_len (pa_cons (pv 5) pa_nil)) pe_int))))
      (pss_cons (ps_set (i := 13) sc_law.nd rfl (by first | exact Or.inl rfl | exact Or.inr rfl) (pe_ix ix_list (pv 5) (pe_op op_add pe_int (pe_op op_mod (pe_op op_fdiv (pv 9) pe_int) (pe_op op_sub (pv 10) pe_int))) (fun _ _ => rfl)))
      (pss_one (ps_set (i := 12) sc_law.nd rfl (by first | exact Or.inl rfl | exact Or.inr rfl) (pe_op op_cat (pe_op op_cat (pe_slice sl_list (pv 5) po_none (po_some (pv 10))) (pe_lst (pa_cons (pv 13) pa_nil))) (pe_slice sl_list (pv 5) (po_some (pv 10)) po_none))))))
      pss_nil)
      (C8.pss_cut (ps_if (pt_cmpR op_eq (pe_op op_mod (pv 9) pe_int) pe_int (nomark _))
      (pss_cons (ps_set (i := 10) sc_law.nd rfl (by first | exact Or.inl rfl | exact Or.inr rfl) pe_int)
      (pss_one (ps_set (i := 12) sc_law.nd rfl (by first | exact Or.inl rfl | exact Or.inr rfl) (pe_op op_cat (pe_lst (pa_cons (pe_c c_l_odd_width hr (by first | decide | omega) rfl (pa_cons (pe_op op_fdiv (pv 9) pe_int) pa_nil)) pa_nil)) (pe_slice sl_list (pv 5) (po_some pe_int) po_none)))))
      pss_nil)
      (C8.pss_cut (ps_if (pt_cmpR op_eq (pe_op op_mod (pv 9) pe_int) pe_int (nomark _))
      (pss_one (ps_set (i := 12) sc_law.nd rfl (by first | exact Or.inl rfl | exact Or.inr rfl) (pe_op op_cat (pv 12) (pe_lst (pa_cons pe_str pa_nil)))))
      pss_nil)
      (pss_one (ps_if (pt_cmpR (op_neD hr.units) (pe_c c_l_place hr (by first | decide | omega) rfl (pa_cons (pe_join pe_str (pv 12)) pa_nil)) (pe_tup (pa_cons pe_str (pa_cons (pv 10) (pa_cons pe_bl pa_nil)))) (nomark _))
      (pss_one (ps_ret pe_bl))
      pss_nil))))))))))
      (pss_one (ps_ret (pe_cmpR op_isN (pe_c c_l_place hr (by first | decide | omega) rfl (pa_cons (pv 4) pa_nil)) pe_non (nomark _)))))))))))), ?_⟩
    refine ⟨_, rfl, a, ns, 0, rfl, ha, _, 0, rfl, ⟨by decide, by decide⟩, ?_⟩
    have hseed := mixed_lt (ns.getD 0 0) 0
    generalize mixed (ns.getD 0 0) 0 = seed at hseed
    refine ⟨_, rfl, _, _, rfl, rfl, ⟨by decide, by decide⟩, _, rfl, fun H1 s1 => ?_⟩
    obtain ⟨w1, w2⟩ := widthL_le ((seed : Int) / 3)
    have wm := widths_mem ((seed : Int) / 3)
    generalize widthL ((seed : Int) / 3) = v at w1 w2 wm
    refine ⟨_, rfl, _, rfl, a, _, rfl, Same.seq s1 ha, fun r hr2 => ?_⟩
    obtain ⟨ns', en, hns'⟩ := cut_ints ns none (some 40)
    have l40 : ns'.length ≤ 40 := by
      have e : (cutV (ns.map V.int) none (some ((40 : Nat) : Int))).length ≤ 40 := by rw [cutV_take, List.length_take]; omega
      rw [show cutV (ns.map V.int) none (some ((40 : Nat) : Int)) = _ from en, List.length_map] at e
      exact e
    rw [en]
    have s2 : Same H1 (upd H1 r (.lst (ns'.map V.int))) := Same_upd (Same.refl H1) hr2
    refine ⟨_, rfl, _, rfl, r, ns', seed, v, rfl, SqL.of upd_same, by omega, w1, w2, fun H3 d rows s3 hd0 hd ok hlen => ?_⟩
    have s13 := (s1.trans s2).trans s3
    obtain ⟨t, ag⟩ := Agr.ex ok.nd
    refine ⟨_, rfl, _, rfl, d, rows, t, v, 0, rfl, hTb.ext s13, hd, ag, fun r hr => ⟨ok.len r hr, ok.max r hr⟩, by omega, w2, by decide, fun H4 L e4 hT4 pL eL => ?_⟩
    have eL := eL rfl
    have okL : RowsOk v L := ⟨(pL.map (·.1)).nodup_iff.mpr ok.nd, fun r hr => ok.len r (pL.mem_iff.mp hr), fun r hr => ok.max r (pL.mem_iff.mp hr)⟩
    have lL : L.length ≤ 40 := by rw [pL.length_eq]; omega
    have hl := tableT_len (v := v) (L := L) w2 fun r hr => ⟨okL.len r hr, okL.max r hr⟩
    have sl : 100000 ≤ sizeLine := by decide
    refine ⟨_, rfl, ⟨_, rfl⟩, _, _, rfl, rfl, (by decide +kernel), (by omega), fun p hp => ?_⟩
    rw [split_table]
    generalize hls : ((Str.ofString "width " ++ numT v) :: L.map rowT) = ls
    have ll : ls.length = L.length + 1 := by rw [← hls]; simp
    have s5 : Same H4 (upd H4 p (.lst (ls.map V.str))) := Same_upd (Same.refl H4) hp
    have e5 : (upd H4 p (.lst (ls.map V.str))) p = some (.lst (ls.map V.str)) := upd_same
    have x5 : LamX.ExtN H (upd H4 p (.lst (ls.map V.str))) := (ExtN_same s13).trans (e4.trans (ExtN_same s5))
    generalize (upd H4 p (.lst (ls.map V.str))) = H5 at s5 e5 x5 ⊢
    refine ⟨fun σ' H' => ∃ x, σ' = [some (.ref a), some (.int (seed : Int)), some (.int (v : Int)), some (.ref d), some (.str (tableT v L)), some (.ref p), some x, none, none, none, none, none, none, none] ∧ Same H5 H' ∧ Thing H' x ∧ isS x = false, ?_, ?_⟩
    · refine ⟨_, rfl, (by show 1 ≤ sizeLine; decide), fun q1 hq1 => ?_⟩
      have s6 := Same_upd (o := .lst [.str (tableT v L)]) (Same.refl H5) hq1
      refine ⟨_, rfl, fun q2 hq2 => ?_⟩
      have s7 := Same_upd (o := .dK []) (Same.refl _) hq2
      refine ⟨(by show 1 ≤ sizeLine; decide), fun q3 hq3 => ⟨(by show 7 ≤ sizeLine; decide), fun q4 hq4 => ?_⟩⟩
      have s8 := Same_upd (o := .tup [.str (Str.ofString "width 8")]) (Same.refl _) hq3
      have s9 := Same_upd (o := .lst [.non, .int 5, .bl true, .ref q1, .ref p, .ref q2, .ref q3]) (Same.refl _) hq4
      have i6 : (upd H5 q1 (.lst [.str (tableT v L)])) q1 = some (.lst [.str (tableT v L)]) := upd_same
      have i7 := upd_same (H := upd H5 q1 (.lst [.str (tableT v L)])) (a := q2) (o := HO.dK [])
      have i8 := upd_same (H := upd (upd H5 q1 (.lst [.str (tableT v L)])) q2 (.dK [])) (a := q3) (o := HO.tup [.str (Str.ofString "width 8")])
      have i9 := upd_same (H := upd (upd (upd H5 q1 (.lst [.str (tableT v L)])) q2 (.dK [])) q3 (.tup [.str (Str.ofString "width 8")])) (a := q4) (o := HO.lst [.non, .int 5, .bl true, .ref q1, .ref p, .ref q2, .ref q3])
      have hx : ∃ x, atI [.non, .int 5, .bl true, .ref q1, .ref p, .ref q2, .ref q3] ((seed : Int) / 7 % 7) = some x ∧ Thing (upd (upd (upd (upd H5 q1 (.lst [.str (tableT v L)])) q2 (.dK [])) q3 (.tup [.str (Str.ofString "width 8")])) q4 (.lst [.non, .int 5, .bl true, .ref q1, .ref p, .ref q2, .ref q3])) x ∧ isS x = false := by
        have e : (seed : Int) / 7 % 7 = (((seed / 7 % 7 : Nat)) : Int) := by omega
        have hj : seed / 7 % 7 < 7 := by omega
        rw [e]
        generalize seed / 7 % 7 = j at hj
        match j, hj with
        | 0, _ => exact ⟨_, atI_nat (j := 0) rfl, .non, rfl⟩
        | 1, _ => exact ⟨_, atI_nat (j := 1) rfl, .int _, rfl⟩
        | 2, _ => exact ⟨_, atI_nat (j := 2) rfl, .bl _, rfl⟩
        | 3, _ => exact ⟨_, atI_nat (j := 3) rfl, .lst (s9 _ _ (s8 _ _ (s7 _ _ i6))), rfl⟩
        | 4, _ => exact ⟨_, atI_nat (j := 4) rfl, .lst (s9 _ _ (s8 _ _ (s7 _ _ (s6 _ _ e5)))), rfl⟩
        | 5, _ => exact ⟨_, atI_nat (j := 5) rfl, .dct (s9 _ _ (s8 _ _ i7)), rfl⟩
        | 6, _ => exact ⟨_, atI_nat (j := 6) rfl, .tup (s9 _ _ i8), rfl⟩
        | (m + 7), h => omega
      obtain ⟨x, hx1, hx2, hx3⟩ := hx
      exact ⟨_, rfl, _, _, rfl, rfl, ⟨by decide, by decide⟩, _, _, rfl, rfl, (by show (0 : Int) < 7; decide), q4, _, _, x, rfl, rfl, SqL.of i9, hx1, x, rfl, ((s6.trans s7).trans s8).trans s9, hx2, hx3⟩
    rintro σ' H6 ⟨x, rfl, s6, tx, ix⟩
    -- what is no text; the good text
    refine ⟨_, rfl, .inr ⟨x, 0, rfl, .inl ⟨tx, ix, rfl⟩, fun H7 p1 s7 hp1 hv1 => ?_⟩⟩
    refine ⟨(by show 3 ≤ sizeLine; decide), fun p2 hp2 => ?_⟩
    have s8 := Same_upd (o := .tup [.str "text", .int 0, .bl false]) (Same.refl H7) hp2
    refine ⟨d3 0, d3 0, dp3 (s8 _ _ hv1), dp3 upd_same, (d3_ok 0).shaped, (d3_ok 0).shaped, _, rfl, ?_⟩
    rw [SeqAt.eqv_refl _ (d3_ok 0).1]
    refine iteF ?_
    refine ⟨_, rfl, .inl ⟨v, L, rfl, okL, by omega, w1, w2, fun H9 s9 => ⟨rfl, _, rfl, iteF ?_⟩⟩⟩
    have s59 := ((s6.trans s7).trans s8).trans s9
    have e9 := s59 _ _ e5
    have x9 := x5.trans (ExtN_same s59)
    clear s6 s7 s8 s9 hv1 hp1 hp2
    -- the loop
    have ha9 := sql_extN ha x9
    refine ⟨_, rfl, _, rfl, a, _, rfl, ha9, fun r3 hr3 => ?_⟩
    obtain ⟨ns2, en2, hns2⟩ := cut_ints ns none (some 20)
    rw [en2]
    refine ⟨(by show 1 ≤ sizeLine; decide), fun r4 hr4 => ?_⟩
    have s10 := Same_upd (o := .lst (ns2.map V.int)) (Same.refl H9) hr3
    have s11 := Same_upd (o := .lst [.int 9]) (Same.refl _) hr4
    refine ⟨r3, r4, _, _, rfl, rfl, s11 _ _ upd_same, upd_same, (by rw [List.length_map]; show ns2.length + 1 ≤ sizeLine; omega), fun r5 hr5 => ?_⟩
    have en3 : ns2.map V.int ++ [V.int 9] = (ns2 ++ [9]).map V.int := by simp
    rw [en3]
    have l64 : (ns2 ++ [9]).length ≤ 64 := by rw [List.length_append]; show _ + 1 ≤ 64; omega
    generalize ns2 ++ [9] = cs at l64 ⊢
    have s12 := Same_upd (o := .lst (cs.map V.int)) (Same.refl _) hr5
    have e12 : (upd (upd (upd H9 r3 (.lst (ns2.map V.int))) r4 (.lst [.int 9])) r5 (.lst (cs.map V.int))) r5 = some (.lst (cs.map V.int)) := upd_same
    have ep12 := s12 _ _ (s11 _ _ (s10 _ _ e9))
    generalize (upd (upd (upd H9 r3 (.lst (ns2.map V.int))) r4 (.lst [.int 9])) r5 (.lst (cs.map V.int))) = H12 at e12 ep12 ⊢
    obtain ⟨wa, wb, lt1, lt2, lt3, lt4, lt5, lt6, lt7⟩ := ls_last (v := v) (L := L)
    rw [hls] at lt1
    have hll : (ls.map V.str).length = L.length + 1 := by rw [List.length_map, ll]
    have hlast : atI (ls.map V.str) (-1) = some (V.str (wa ++ Str.ofString " " ++ wb)) := atI_fin hll (by rw [List.getElem?_map, lt1]; rfl)
    have llast : (wa ++ Str.ofString " " ++ wb).length ≤ 200 := by
      have hm := List.mem_of_getElem? lt1
      rw [← hls] at hm
      exact ls_len okL w2 _ hm
    refine ⟨r5, _, rfl, SqL.of e12, for_it (walk_enum (K := K) (a := r5) (xs := cs.map V.int)) (fun i σ H' => ∃ (y7 y8 y9 y10 y11 y12 y13 : Option V), σ = [some (.ref a), some (.int (seed : Int)), some (.int (v : Int)), some (.ref d), some (.str (tableT v L)), some (.ref p), some x, y7, y8, y9, y10, y11, y12, y13] ∧ Same H12 H')
      ⟨none, none, none, none, none, none, none, rfl, Same.refl _⟩ (fun i σ H' _ ⟨_, _, _, _, _, _, _, _, s⟩ => SqL.of (s _ _ e12)) ?_ ?_⟩
    · rintro i x1 σ H13 H14 hi ⟨y7, y8, y9, y10, y11, y12, y13, rfl, s13'⟩ ⟨tt, x0, y0, rfl, htt, rfl, ex0, ex1⟩
      cases ex0
      have ex1 : (cs.map V.int)[i]? = some y0 := ex1
      rw [List.getElem?_map] at ex1
      cases ec : cs[i]? with
      | none => rw [ec] at ex1; cases ex1
      | some c =>
        rw [ec] at ex1
        cases ex1
        have s14 : Same H13 (upd H13 tt (.tup [.int (i : Nat), .int c])) := Same_upd (Same.refl H13) htt
        refine ⟨tt, _, rfl, SqT.of upd_same, rfl, _, _, rfl, _, _, rfl, rfl, ?_⟩
        have s15 := s13'.trans s14
        generalize (upd H13 tt (.tup [.int (i : Nat), .int c])) = H15 at s15 ⊢
        clear s14 s13'
        have hil : i < 64 := by rw [List.length_map] at hi; omega
        refine ⟨_, rfl, _, rfl, _, _, rfl, rfl, c, _, rfl, ⟨by omega, by omega⟩, ?_⟩
        generalize mixed c (30 + (i : Nat)) = m
        have ep15 := s15 _ _ ep12
        have lpos : (0 : Int) < (((ls.map V.str).length : Nat) : Int) := by omega
        refine ⟨_, rfl, _, _, rfl, rfl, ⟨by decide, by decide⟩, _, rfl, p, _, rfl, .inl (SqL.of ep15), _, _, rfl, rfl, lpos, _, _, rfl, rfl, ?_⟩
        obtain ⟨i0, hi0, ei0⟩ : ∃ i0 : Nat, i0 ≤ L.length ∧ (1 : Int) + (m : Int) / 3 % (((ls.map V.str).length : Nat) : Int) = ((1 + i0 : Nat) : Int) := by
          rw [hll]
          refine ⟨m / 3 % (L.length + 1), ?_, ?_⟩
          · have := Nat.mod_lt (m / 3) (show 0 < L.length + 1 by omega)
            omega
          · have e : ((m / 3 % (L.length + 1) : Nat) : Int) = (m : Int) / 3 % ((L.length + 1 : Nat) : Int) := by
              rw [Int.natCast_emod, Int.natCast_ediv]
              rfl
            rw [← e]
            omega
        have ev : (fun i j : Int => V.int (i + j)) 1 ((m : Int) / 3 % (((ls.map V.str).length : Nat) : Int)) = V.int ((1 + i0 : Nat) : Int) := congrArg V.int ei0
        rw [ev]
        refine ⟨_, rfl, _, _, rfl, rfl, ⟨by decide, by decide⟩, _, rfl, _, rfl, _, rfl, p, _, _, _, rfl, rfl, SqL.of ep15, hlast, _, v, _, rfl, w2, by omega, fun H16 s16 => ?_⟩
        obtain ⟨o1, o2, o3, o4⟩ := oddRow_ok ((m : Int) / 64) wm lt2 lt3 lt4 lt5 lt6 lt7 llast
        generalize oddRow ((m : Int) / 64) v (wa ++ Str.ofString " " ++ wb) = bad at o1 o2 o3 o4
        have s1_16 := s15.trans s16
        have ep16 := s16 _ _ ep15
        refine ⟨fun σ' H' => ∃ (b : Addr) (bl : List Str), σ' = [some (.ref a), some (.int (seed : Int)), some (.int (v : Int)), some (.ref d), some (.str (tableT v L)), some (.ref p), some x, some (.int (i : Nat)), some (.int c), some (.int (m : Int)), some (.int ((1 + i0 : Nat) : Int)), some (.str bad), some (.ref b), y13] ∧ Same H12 H' ∧ H' b = some (.lst (bl.map V.str)) ∧ Bent v (1 + i0) bl ∧ bl.length ≤ 50, ?_, ?_⟩
        · refine ⟨_, rfl, _, rfl, _, rfl, p, _, rfl, SqL.of ep16, fun b1 hb1 => ?_⟩
          rw [cutV_take]
          have t1 := Same_upd (o := .lst ((ls.map V.str).take (1 + i0))) (Same.refl H16) hb1
          refine ⟨_, rfl, (by show 1 ≤ sizeLine; decide), fun b2 hb2 => ?_⟩
          have t2 := Same_upd (o := .lst [.str bad]) (Same.refl _) hb2
          refine ⟨b1, b2, _, _, rfl, rfl, t2 _ _ upd_same, upd_same, (by rw [List.length_take]; show _ + 1 ≤ sizeLine; omega), fun b3 hb3 => ?_⟩
          have t3 := Same_upd (o := .lst ((ls.map V.str).take (1 + i0) ++ [.str bad])) (Same.refl _) hb3
          have ep19 := t3 _ _ (t2 _ _ (t1 _ _ ep16))
          refine ⟨_, rfl, _, rfl, _, rfl, p, _, rfl, SqL.of ep19, fun b4 hb4 => ?_⟩
          rw [cutV_drop]
          have t4 := Same_upd (o := .lst ((ls.map V.str).drop (1 + i0))) (Same.refl _) hb4
          refine ⟨b3, b4, _, _, rfl, rfl, t4 _ _ upd_same, upd_same, (by rw [List.length_append, List.length_take, List.length_drop]; show _ + 1 + _ ≤ sizeLine; omega), fun b5 hb5 => ?_⟩
          have t5 := Same_upd (o := .lst ((ls.map V.str).take (1 + i0) ++ [.str bad] ++ (ls.map V.str).drop (1 + i0))) (Same.refl _) hb5
          refine ⟨b5, ls.take (1 + i0) ++ [bad] ++ ls.drop (1 + i0), rfl, s1_16.trans ((((t1.trans t2).trans t3).trans t4).trans t5), ?_, ?_, ?_⟩
          · rw [upd_same]
            simp [List.map_take, List.map_drop]
          · rw [← hls]
            exact Bent.row okL w2 lL hi0 ⟨by omega, o2, .inl o1⟩ o4 o3
          · simp only [List.length_append, List.length_take, List.length_drop, List.length_cons, List.length_nil]
            omega
        rintro σ' H17 ⟨b, bl, rfl, s17, eb17, hB, lB⟩
        have ep17 := s17 _ _ ep12
        clear ep16 s1_16 s16 ep15 s15
        -- a row told twice
        refine ⟨fun σ' H' => ∃ (pl : Nat) (b : Addr) (bl : List Str) (y13 : Option V), σ' = [some (.ref a), some (.int (seed : Int)), some (.int (v : Int)), some (.ref d), some (.str (tableT v L)), some (.ref p), some x, some (.int (i : Nat)), some (.int c), some (.int (m : Int)), some (.int (pl : Int)), some (.str bad), some (.ref b), y13] ∧ Same H12 H' ∧ H' b = some (.lst (bl.map V.str)) ∧ Bent v pl bl ∧ bl.length ≤ 50, ?_, ?_⟩
        · refine ⟨_, rfl, _, _, rfl, rfl, (by show (0 : Int) < 5; decide), rfl, _, rfl, ?_⟩
          refine ite2 (fun c1 => ?_) fun c1 => ⟨_, b, bl, _, rfl, s17, eb17, hB, lB⟩
          refine ⟨_, rfl, p, _, rfl, .inl (SqL.of ep17), _, _, rfl, rfl, _, rfl, ?_⟩
          refine ite2 (fun c2 => ?_) fun c2 => ⟨_, b, bl, _, rfl, s17, eb17, hB, lB⟩
          have lL1 : 1 ≤ L.length := by have := of_decide_eq_true c2; omega
          have z1 : (((ls.map V.str).length : Nat) : Int) - 1 = ((L.length : Nat) : Int) := by omega
          refine ⟨_, rfl, _, _, rfl, rfl, ⟨by decide, by decide⟩, _, rfl, p, _, rfl, .inl (SqL.of ep17), _, _, rfl, rfl, _, _, rfl, rfl, (by rw [z1]; omega), _, _, rfl, rfl, ?_⟩
          have hi1 : m / 7 % L.length < L.length := Nat.mod_lt _ (by omega)
          have ev1 : (fun i j : Int => V.int (i + j)) 2 ((m : Int) / 7 % ((((ls.map V.str).length : Nat) : Int) - 1)) = V.int ((2 + m / 7 % L.length : Nat) : Int) := congrArg V.int (mod_nat m 7 L.length 2 _ z1)
          rw [ev1]
          generalize m / 7 % L.length = i1 at hi1
          have z2 : ((2 + i1 : Nat) : Int) - 1 = ((1 + i1 : Nat) : Int) := by omega
          have hj : m / 90 % (1 + i1) < 1 + i1 := Nat.mod_lt _ (by omega)
          have ev2 : (1 : Int) + ((m : Int) / 90 % (((2 + i1 : Nat) : Int) - 1)) = ((1 + m / 90 % (1 + i1) : Nat) : Int) := mod_nat m 90 (1 + i1) 1 _ z2
          obtain ⟨r0, er0⟩ : ∃ r0, L[m / 90 % (1 + i1)]? = some r0 := ⟨_, List.getElem?_eq_getElem (by omega)⟩
          have hat : atI (ls.map V.str) ((1 : Int) + ((m : Int) / 90 % (((2 + i1 : Nat) : Int) - 1))) = some (V.str (rowT r0)) := by
            rw [ev2]
            refine atI_nat ?_
            rw [← hls, List.map_cons, Nat.add_comm 1, List.getElem?_cons_succ, List.getElem?_map, List.getElem?_map, er0]
            rfl
          refine ⟨_, rfl, _, rfl, _, _, rfl, rfl, ⟨by decide, by decide⟩, _, rfl, _, _, rfl, rfl, _, _, rfl, rfl, (by rw [z2]; omega), _, _, rfl, rfl, p, _, _, _, rfl, rfl, SqL.of ep17, hat, ?_⟩
          have hr0 : r0 ∈ L.take (1 + i1) := by
            refine List.mem_of_getElem? (i := m / 90 % (1 + i1)) ?_
            rw [List.getElem?_take_of_lt hj]
            exact er0
          have hr0' := List.mem_of_mem_take hr0
          have lr0 : (rowT r0).length ≤ 200 := rowT_len (Nat.le_trans (okL.len r0 hr0') w2) (okL.max r0 hr0')
          refine ⟨_, rfl, _, rfl, _, rfl, p, _, rfl, SqL.of ep17, fun b1 hb1 => ?_⟩
          rw [cutV_take]
          have t1 := Same_upd (o := .lst ((ls.map V.str).take (2 + i1))) (Same.refl H17) hb1
          refine ⟨_, rfl, (by show 1 ≤ sizeLine; decide), fun b2 hb2 => ?_⟩
          have t2 := Same_upd (o := .lst [.str (rowT r0)]) (Same.refl _) hb2
          refine ⟨b1, b2, _, _, rfl, rfl, t2 _ _ upd_same, upd_same, (by rw [List.length_take]; show _ + 1 ≤ sizeLine; omega), fun b3 hb3 => ?_⟩
          have t3 := Same_upd (o := .lst ((ls.map V.str).take (2 + i1) ++ [.str (rowT r0)])) (Same.refl _) hb3
          have ep19 := t3 _ _ (t2 _ _ (t1 _ _ ep17))
          refine ⟨_, rfl, _, rfl, _, rfl, p, _, rfl, SqL.of ep19, fun b4 hb4 => ?_⟩
          rw [cutV_drop]
          have t4 := Same_upd (o := .lst ((ls.map V.str).drop (2 + i1))) (Same.refl _) hb4
          refine ⟨b3, b4, _, _, rfl, rfl, t4 _ _ upd_same, upd_same, (by rw [List.length_append, List.length_take, List.length_drop]; show _ + 1 + _ ≤ sizeLine; omega), fun b5 hb5 => ?_⟩
          have t5 := Same_upd (o := .lst ((ls.map V.str).take (2 + i1) ++ [.str (rowT r0)] ++ (ls.map V.str).drop (2 + i1))) (Same.refl _) hb5
          refine ⟨2 + i1, b5, ls.take (2 + i1) ++ [rowT r0] ++ ls.drop (2 + i1), _, rfl, s17.trans ((((t1.trans t2).trans t3).trans t4).trans t5), ?_, ?_, ?_⟩
          · rw [upd_same]
            simp [List.map_take, List.map_drop]
          · rw [← hls, show 2 + i1 = 1 + (1 + i1) by omega]
            exact Bent.row okL w2 lL (by omega) ⟨by omega, row_sok r0, .inr ⟨r0, hr0, r0.2, rfl, okL.max r0 hr0'⟩⟩ (row_free r0) (by omega)
          · simp only [List.length_append, List.length_take, List.length_drop, List.length_cons, List.length_nil]
            omega
        rintro σ' H18 ⟨pl, b1, bl1, y13a, rfl, s18, eb18, hB1, lB1⟩
        clear hB eb17
        have ep18 := s18 _ _ ep12
        -- an odd first row
        refine ⟨fun σ' H' => ∃ (pl : Nat) (b : Addr) (bl : List Str) (y13 : Option V), σ' = [some (.ref a), some (.int (seed : Int)), some (.int (v : Int)), some (.ref d), some (.str (tableT v L)), some (.ref p), some x, some (.int (i : Nat)), some (.int c), some (.int (m : Int)), some (.int (pl : Int)), some (.str bad), some (.ref b), y13] ∧ Same H12 H' ∧ H' b = some (.lst (bl.map V.str)) ∧ Bent v pl bl ∧ bl.length ≤ 50, ?_, ?_⟩
        · refine ⟨_, rfl, _, _, rfl, rfl, (by show (0 : Int) < 5; decide), rfl, _, rfl, ?_⟩
          refine ite2 (fun c1 => ?_) fun c1 => ⟨_, b1, bl1, _, rfl, s18, eb18, hB1, lB1⟩
          obtain ⟨o1, o2, o3⟩ := oddWidth_ok ((m : Int) / 5)
          refine ⟨_, rfl, _, _, rfl, rfl, ⟨by decide, by decide⟩, _, rfl, fun H19 s19 => ?_⟩
          generalize oddWidth ((m : Int) / 5) = ow at o1 o2 o3
          refine ⟨(by show 1 ≤ sizeLine; decide), fun b2 hb2 => ?_⟩
          have t2 := Same_upd (o := .lst [.str ow]) (Same.refl _) hb2
          have ep20 := t2 _ _ (s19 _ _ ep18)
          refine ⟨_, rfl, _, rfl, p, _, rfl, SqL.of ep20, fun b4 hb4 => ?_⟩
          rw [show cutV (ls.map V.str) (some 1) none = _ from cutV_drop (ls.map V.str) 1]
          have t4 := Same_upd (o := .lst ((ls.map V.str).drop 1)) (Same.refl _) hb4
          refine ⟨b2, b4, _, _, rfl, rfl, t4 _ _ upd_same, upd_same, (by rw [List.length_drop]; show 1 + _ ≤ sizeLine; omega), fun b5 hb5 => ?_⟩
          have t5 := Same_upd (o := .lst ([.str ow] ++ (ls.map V.str).drop 1)) (Same.refl _) hb5
          refine ⟨0, b5, [ow] ++ ls.drop 1, _, rfl, s18.trans (((s19.trans t2).trans t4).trans t5), ?_, ?_, ?_⟩
          · rw [upd_same]
            simp [List.map_drop]
          · rw [← hls]
            exact Bent.head okL w2 lL o1 o3 (by omega)
          · simp only [List.length_append, List.length_drop, List.length_cons, List.length_nil]
            omega
        rintro σ' H19 ⟨pl2, b2, bl2, y13b, rfl, s19, eb19, hB2, lB2⟩
        clear hB1 eb18
        -- one more odd row
        refine ⟨fun σ' H' => ∃ (pl : Nat) (b : Addr) (bl : List Str) (y13 : Option V), σ' = [some (.ref a), some (.int (seed : Int)), some (.int (v : Int)), some (.ref d), some (.str (tableT v L)), some (.ref p), some x, some (.int (i : Nat)), some (.int c), some (.int (m : Int)), some (.int (pl : Int)), some (.str bad), some (.ref b), y13] ∧ Same H12 H' ∧ H' b = some (.lst (bl.map V.str)) ∧ Bent v pl bl, ?_, ?_⟩
        · refine ⟨_, rfl, _, _, rfl, rfl, (by show (0 : Int) < 7; decide), rfl, _, rfl, ?_⟩
          refine ite2 (fun c1 => ?_) fun c1 => ⟨_, b2, bl2, _, rfl, s19, eb19, hB2⟩
          refine ⟨_, rfl, (by show 1 ≤ sizeLine; decide), fun b3 hb3 => ?_⟩
          have t3 := Same_upd (o := .lst [.str (Str.ofString "no row")]) (Same.refl _) hb3
          refine ⟨b2, b3, _, _, rfl, rfl, t3 _ _ eb19, upd_same, (by rw [List.length_map]; show _ + 1 ≤ sizeLine; omega), fun b5 hb5 => ?_⟩
          have t5 := Same_upd (o := .lst (bl2.map V.str ++ [.str (Str.ofString "no row")])) (Same.refl _) hb5
          refine ⟨pl2, b5, bl2 ++ [Str.ofString "no row"], _, rfl, s19.trans (t3.trans t5), ?_, hB2.snoc (by decide +kernel) (by decide +kernel) (by omega)⟩
          rw [upd_same]
          simp
        rintro σ' H20 ⟨pl3, b3, bl3, y13c, rfl, s20, eb20, hB3⟩
        clear hB2 eb19
        have hb : ∀ z ∈ bl3.map (·.length), z ≤ 201 := fun z hz => by
          obtain ⟨y, hy, rfl⟩ := List.mem_map.mp hz
          exact hB3.len y hy
        have hsum := sum_le hb
        have hmany := hB3.many
        have zn : (Str.ofString "\n").length = 1 := by decide +kernel
        rw [List.length_map] at hsum
        have hmul : bl3.length * 201 ≤ 60 * 201 := Nat.mul_le_mul_right _ hmany
        refine ⟨⟨_, rfl⟩, _, rfl, _, b3, _, rfl, rfl, .inl (SqL.of eb20), ?_, .inr ⟨_, pl3, rfl, hB3.tx w1 w2, fun H21 p1 s21 hp1 hv1 => ?_⟩⟩
        · rw [zn]
          omega
        refine ⟨_, rfl, (by show 3 ≤ sizeLine; decide), fun p2 hp2 => ?_⟩
        have s22 := Same_upd (o := .tup [.str "text", .int (pl3 : Int), .bl false]) (Same.refl H21) hp2
        refine ⟨d3 (pl3 : Int), d3 (pl3 : Int), dp3 (s22 _ _ hv1), dp3 upd_same, (d3_ok _).shaped, (d3_ok _).shaped, _, rfl, ?_⟩
        rw [SeqAt.eqv_refl _ (d3_ok _).1]
        exact iteF ⟨_, _, _, _, _, _, _, rfl, (s20.trans s21).trans s22⟩
    · rintro σ H13 ⟨y7, y8, y9, y10, y11, y12, y13, rfl, s13'⟩
      exact ⟨_, rfl, .inl ⟨v, L, rfl, okL, by omega, w1, w2, fun H9 s9 => ⟨rfl, k _⟩⟩⟩
end
end Br

/-! ### the end -/
namespace Br
open PySem PySem.Spec PyProof.Rows L2
open C8 (Cal Met Mak Def)
theorem all_mk {l : PySem.W.OpenLaw} {w : World} {K : PySem.W.Frag} {h : Heap} {mg : Str → Option Value} {fa fL fd0 fd1 fd2 fd3 fd4 fd5 fd6 fd7 fd8 fd9 fd10 fd11 fd12 fd13 fd14 fd15 fd16 fd17 fd18 fd19 fd20 fd21 fd22 cl_text fd23 fd24 fd25 fd26 C0 fm0_init C1 fm1_init fm1_width fm1_many fm1_need_start fm1_way fm1_put fm1_has fm1_stretches DTm1_stretches fm1_rows Pl_text E_RoadsError E_BadWidth E_BadWord E_BadStart E_BadRoad E_BadSteps E_NoRow E_BadText fx_BadText : Addr} (X : K.In h) (G : h.Ns mainGlobals mg) (hfa : mg "law" = some (.ref fa))
    {odL anL odd0 and0 odd1 and1 odd2 and2 odd3 and3 odd4 and4 odd5 and5 odd6 and6 odd7 and7 odd8 and8 odd9 and9 odd10 and10 odd11 and11 odd12 and12 odd13 and13 odd14 and14 odd15 and15 odd16 and16 odd17 and17 odd18 and18 odd19 and19 odd20 and20 odd21 and21 odd22 and22 odd23 and23 odd24 and24 odd25 and25 odd26 and26 odm0_init anm0_init odm1_init anm1_init odm1_width anm1_width odm1_many anm1_many odm1_need_start anm1_need_start odm1_way anm1_way odm1_put anm1_put odm1_has anm1_has odm1_stretches anm1_stretches odDm1_stretches odm1_rows anm1_rows odx_BadText anx_BadText : Option Addr} {slL sld0 sld1 sld2 sld3 sld4 sld5 sld6 sld7 sld8 sld9 sld10 sld11 sld12 sld13 sld14 sld15 sld16 sld17 sld18 sld19 sld20 sld21 sld22 sld23 sld24 sld25 sld26 slm0_init slm1_init slm1_width slm1_many slm1_need_start slm1_way slm1_put slm1_has slm1_stretches slDm1_stretches slm1_rows slx_BadText : Array (Option Value)} {ocL kVL dcL pmL cdL ctL ocd0 kVd0 dcd0 pmd0 cdd0 ctd0 ocd1 kVd1 dcd1 pmd1 cdd1 ctd1 ocd2 kVd2 dcd2 pmd2 cdd2 ctd2 ocd3 kVd3 dcd3 pmd3 cdd3 ctd3 ocd4 kVd4 dcd4 pmd4 cdd4 ctd4 ocd5 kVd5 dcd5 pmd5 cdd5 ctd5 ocd6 kVd6 dcd6 pmd6 cdd6 ctd6 ocd7 kVd7 dcd7 pmd7 cdd7 ctd7 ocd8 kVd8 dcd8 pmd8 cdd8 ctd8 ocd9 kVd9 dcd9 pmd9 cdd9 ctd9 ocd10 kVd10 dcd10 pmd10 cdd10 ctd10 ocd11 kVd11 dcd11 pmd11 cdd11 ctd11 ocd12 kVd12 dcd12 pmd12 cdd12 ctd12 ocd13 kVd13 dcd13 pmd13 cdd13 ctd13 ocd14 kVd14 dcd14 pmd14 cdd14 ctd14 ocd15 kVd15 dcd15 pmd15 cdd15 ctd15 ocd16 kVd16 dcd16 pmd16 cdd16 ctd16 ocd17 kVd17 dcd17 pmd17 cdd17 ctd17 ocd18 kVd18 dcd18 pmd18 cdd18 ctd18 ocd19 kVd19 dcd19 pmd19 cdd19 ctd19 ocd20 kVd20 dcd20 pmd20 cdd20 ctd20 ocd21 kVd21 dcd21 pmd21 cdd21 ctd21 ocd22 kVd22 dcd22 pmd22 ctd22 ocd23 kVd23 dcd23 pmd23 cdd23 ctd23 ocd24 kVd24 dcd24 pmd24 cdd24 ctd24 ocd25 kVd25 dcd25 pmd25 cdd25 ctd25 ocd26 kVd26 dcd26 pmd26 cdd26 ctd26 ocm0_init kVm0_init dcm0_init pmm0_init cdm0_init ctm0_init ocm1_init kVm1_init dcm1_init pmm1_init cdm1_init ctm1_init ocm1_width kVm1_width dcm1_width pmm1_width cdm1_width ctm1_width ocm1_many kVm1_many dcm1_many pmm1_many cdm1_many ctm1_many ocm1_need_start kVm1_need_start dcm1_need_start pmm1_need_start cdm1_need_start ctm1_need_start ocm1_way kVm1_way dcm1_way pmm1_way cdm1_way ctm1_way ocm1_put kVm1_put dcm1_put pmm1_put cdm1_put ctm1_put ocm1_has kVm1_has dcm1_has pmm1_has cdm1_has ctm1_has ocm1_stretches kVm1_stretches dcm1_stretches pmm1_stretches cdm1_stretches ctm1_stretches ocDm1_stretches ocm1_rows kVm1_rows dcm1_rows pmm1_rows cdm1_rows ctm1_rows ocx_BadText kVx_BadText dcx_BadText pmx_BadText cdx_BadText ctx_BadText : Value} {t_MOST_WIDTH t_MOST_ROAD t_BITS t_FIGURES t_MOST_FIGURES t_NOTHING tkm1_stretches : Tok} {nDm1_stretches : Nat}
    (ad0 : PySem.W.nsIn K mainGlobals "is_among" = some (some (.ref fd0)))
    (ld0 : K.lookup fd0 = some ⟨ocd0, odd0, .func (PySem.W.fnOf "is_among" "is_among" (C8.fnArgs s_is_among) (C8.fnBody s_is_among) (C8.fnScope s_is_among) .none kVd0 dcd0 pmd0 and0 cdd0 ctd0), sld0⟩)
    (cd0 : PySem.W.codeIn K cdd0 "is_among" = true)
    (kd0 : PySem.W.keepIn K (.ref fd0) = true)
    (ad1 : PySem.W.nsIn K mainGlobals "is_width" = some (some (.ref fd1)))
    (ld1 : K.lookup fd1 = some ⟨ocd1, odd1, .func (PySem.W.fnOf "is_width" "is_width" (C8.fnArgs s_is_width) (C8.fnBody s_is_width) (C8.fnScope s_is_width) .none kVd1 dcd1 pmd1 and1 cdd1 ctd1), sld1⟩)
    (cd1 : PySem.W.codeIn K cdd1 "is_width" = true)
    (kd1 : PySem.W.keepIn K (.ref fd1) = true)
    (ad2 : PySem.W.nsIn K mainGlobals "is_road" = some (some (.ref fd2)))
    (ld2 : K.lookup fd2 = some ⟨ocd2, odd2, .func (PySem.W.fnOf "is_road" "is_road" (C8.fnArgs s_is_road) (C8.fnBody s_is_road) (C8.fnScope s_is_road) .none kVd2 dcd2 pmd2 and2 cdd2 ctd2), sld2⟩)
    (cd2 : PySem.W.codeIn K cdd2 "is_road" = true)
    (kd2 : PySem.W.keepIn K (.ref fd2) = true)
    (ad3 : PySem.W.nsIn K mainGlobals "is_bits" = some (some (.ref fd3)))
    (ld3 : K.lookup fd3 = some ⟨ocd3, odd3, .func (PySem.W.fnOf "is_bits" "is_bits" (C8.fnArgs s_is_bits) (C8.fnBody s_is_bits) (C8.fnScope s_is_bits) .none kVd3 dcd3 pmd3 and3 cdd3 ctd3), sld3⟩)
    (cd3 : PySem.W.codeIn K cdd3 "is_bits" = true)
    (kd3 : PySem.W.keepIn K (.ref fd3) = true)
    (ad4 : PySem.W.nsIn K mainGlobals "is_word" = some (some (.ref fd4)))
    (ld4 : K.lookup fd4 = some ⟨ocd4, odd4, .func (PySem.W.fnOf "is_word" "is_word" (C8.fnArgs s_is_word) (C8.fnBody s_is_word) (C8.fnScope s_is_word) .none kVd4 dcd4 pmd4 and4 cdd4 ctd4), sld4⟩)
    (cd4 : PySem.W.codeIn K cdd4 "is_word" = true)
    (kd4 : PySem.W.keepIn K (.ref fd4) = true)
    (ad5 : PySem.W.nsIn K mainGlobals "is_start" = some (some (.ref fd5)))
    (ld5 : K.lookup fd5 = some ⟨ocd5, odd5, .func (PySem.W.fnOf "is_start" "is_start" (C8.fnArgs s_is_start) (C8.fnBody s_is_start) (C8.fnScope s_is_start) .none kVd5 dcd5 pmd5 and5 cdd5 ctd5), sld5⟩)
    (cd5 : PySem.W.codeIn K cdd5 "is_start" = true)
    (kd5 : PySem.W.keepIn K (.ref fd5) = true)
    (ad6 : PySem.W.nsIn K mainGlobals "number_of" = some (some (.ref fd6)))
    (ld6 : K.lookup fd6 = some ⟨ocd6, odd6, .func (PySem.W.fnOf "number_of" "number_of" (C8.fnArgs s_number_of) (C8.fnBody s_number_of) (C8.fnScope s_number_of) .none kVd6 dcd6 pmd6 and6 cdd6 ctd6), sld6⟩)
    (cd6 : PySem.W.codeIn K cdd6 "number_of" = true)
    (kd6 : PySem.W.keepIn K (.ref fd6) = true)
    (ad7 : PySem.W.nsIn K mainGlobals "span_of" = some (some (.ref fd7)))
    (ld7 : K.lookup fd7 = some ⟨ocd7, odd7, .func (PySem.W.fnOf "span_of" "span_of" (C8.fnArgs s_span_of) (C8.fnBody s_span_of) (C8.fnScope s_span_of) .none kVd7 dcd7 pmd7 and7 cdd7 ctd7), sld7⟩)
    (cd7 : PySem.W.codeIn K cdd7 "span_of" = true)
    (kd7 : PySem.W.keepIn K (.ref fd7) = true)
    (ad8 : PySem.W.nsIn K mainGlobals "add_stretch" = some (some (.ref fd8)))
    (ld8 : K.lookup fd8 = some ⟨ocd8, odd8, .func (PySem.W.fnOf "add_stretch" "add_stretch" (C8.fnArgs s_add_stretch) (C8.fnBody s_add_stretch) (C8.fnScope s_add_stretch) .none kVd8 dcd8 pmd8 and8 cdd8 ctd8), sld8⟩)
    (cd8 : PySem.W.codeIn K cdd8 "add_stretch" = true)
    (kd8 : PySem.W.keepIn K (.ref fd8) = true)
    (ad9 : PySem.W.nsIn K mainGlobals "between" = some (some (.ref fd9)))
    (ld9 : K.lookup fd9 = some ⟨ocd9, odd9, .func (PySem.W.fnOf "between" "between" (C8.fnArgs s_between) (C8.fnBody s_between) (C8.fnScope s_between) .none kVd9 dcd9 pmd9 and9 cdd9 ctd9), sld9⟩)
    (cd9 : PySem.W.codeIn K cdd9 "between" = true)
    (kd9 : PySem.W.keepIn K (.ref fd9) = true)
    (ad10 : PySem.W.nsIn K mainGlobals "spread" = some (some (.ref fd10)))
    (ld10 : K.lookup fd10 = some ⟨ocd10, odd10, .func (PySem.W.fnOf "spread" "spread" (C8.fnArgs s_spread) (C8.fnBody s_spread) (C8.fnScope s_spread) .none kVd10 dcd10 pmd10 and10 cdd10 ctd10), sld10⟩)
    (cd10 : PySem.W.codeIn K cdd10 "spread" = true)
    (kd10 : PySem.W.keepIn K (.ref fd10) = true)
    (ad11 : PySem.W.nsIn K mainGlobals "number_in" = some (some (.ref fd11)))
    (ld11 : K.lookup fd11 = some ⟨ocd11, odd11, .func (PySem.W.fnOf "number_in" "number_in" (C8.fnArgs s_number_in) (C8.fnBody s_number_in) (C8.fnScope s_number_in) .none kVd11 dcd11 pmd11 and11 cdd11 ctd11), sld11⟩)
    (cd11 : PySem.W.codeIn K cdd11 "number_in" = true)
    (kd11 : PySem.W.keepIn K (.ref fd11) = true)
    (ad12 : PySem.W.nsIn K mainGlobals "width_in" = some (some (.ref fd12)))
    (ld12 : K.lookup fd12 = some ⟨ocd12, odd12, .func (PySem.W.fnOf "width_in" "width_in" (C8.fnArgs s_width_in) (C8.fnBody s_width_in) (C8.fnScope s_width_in) .none kVd12 dcd12 pmd12 and12 cdd12 ctd12), sld12⟩)
    (cd12 : PySem.W.codeIn K cdd12 "width_in" = true)
    (kd12 : PySem.W.keepIn K (.ref fd12) = true)
    (ad13 : PySem.W.nsIn K mainGlobals "row_in" = some (some (.ref fd13)))
    (ld13 : K.lookup fd13 = some ⟨ocd13, odd13, .func (PySem.W.fnOf "row_in" "row_in" (C8.fnArgs s_row_in) (C8.fnBody s_row_in) (C8.fnScope s_row_in) .none kVd13 dcd13 pmd13 and13 cdd13 ctd13), sld13⟩)
    (cd13 : PySem.W.codeIn K cdd13 "row_in" = true)
    (kd13 : PySem.W.keepIn K (.ref fd13) = true)
    (ad14 : PySem.W.nsIn K mainGlobals "table_of" = some (some (.ref fd14)))
    (ld14 : K.lookup fd14 = some ⟨ocd14, odd14, .func (PySem.W.fnOf "table_of" "table_of" (C8.fnArgs s_table_of) (C8.fnBody s_table_of) (C8.fnScope s_table_of) .none kVd14 dcd14 pmd14 and14 cdd14 ctd14), sld14⟩)
    (cd14 : PySem.W.codeIn K cdd14 "table_of" = true)
    (kd14 : PySem.W.keepIn K (.ref fd14) = true)
    (ad15 : PySem.W.nsIn K mainGlobals "_law_cell_at" = some (some (.ref fd15)))
    (ld15 : K.lookup fd15 = some ⟨ocd15, odd15, .func (PySem.W.fnOf "_law_cell_at" "_law_cell_at" (C8.fnArgs s_l_cell_at) (C8.fnBody s_l_cell_at) (C8.fnScope s_l_cell_at) .none kVd15 dcd15 pmd15 and15 cdd15 ctd15), sld15⟩)
    (cd15 : PySem.W.codeIn K cdd15 "_law_cell_at" = true)
    (kd15 : PySem.W.keepIn K (.ref fd15) = true)
    (ad16 : PySem.W.nsIn K mainGlobals "_law_mixed" = some (some (.ref fd16)))
    (ld16 : K.lookup fd16 = some ⟨ocd16, odd16, .func (PySem.W.fnOf "_law_mixed" "_law_mixed" (C8.fnArgs s_l_mixed) (C8.fnBody s_l_mixed) (C8.fnScope s_l_mixed) .none kVd16 dcd16 pmd16 and16 cdd16 ctd16), sld16⟩)
    (cd16 : PySem.W.codeIn K cdd16 "_law_mixed" = true)
    (kd16 : PySem.W.keepIn K (.ref fd16) = true)
    (ad17 : PySem.W.nsIn K mainGlobals "_law_bits" = some (some (.ref fd17)))
    (ld17 : K.lookup fd17 = some ⟨ocd17, odd17, .func (PySem.W.fnOf "_law_bits" "_law_bits" (C8.fnArgs s_l_bits) (C8.fnBody s_l_bits) (C8.fnScope s_l_bits) .none kVd17 dcd17 pmd17 and17 cdd17 ctd17), sld17⟩)
    (cd17 : PySem.W.codeIn K cdd17 "_law_bits" = true)
    (kd17 : PySem.W.keepIn K (.ref fd17) = true)
    (ad18 : PySem.W.nsIn K mainGlobals "_law_width" = some (some (.ref fd18)))
    (ld18 : K.lookup fd18 = some ⟨ocd18, odd18, .func (PySem.W.fnOf "_law_width" "_law_width" (C8.fnArgs s_l_width) (C8.fnBody s_l_width) (C8.fnScope s_l_width) .none kVd18 dcd18 pmd18 and18 cdd18 ctd18), sld18⟩)
    (cd18 : PySem.W.codeIn K cdd18 "_law_width" = true)
    (kd18 : PySem.W.keepIn K (.ref fd18) = true)
    (ad19 : PySem.W.nsIn K mainGlobals "_law_start" = some (some (.ref fd19)))
    (ld19 : K.lookup fd19 = some ⟨ocd19, odd19, .func (PySem.W.fnOf "_law_start" "_law_start" (C8.fnArgs s_l_start) (C8.fnBody s_l_start) (C8.fnScope s_l_start) .none kVd19 dcd19 pmd19 and19 cdd19 ctd19), sld19⟩)
    (cd19 : PySem.W.codeIn K cdd19 "_law_start" = true)
    (kd19 : PySem.W.keepIn K (.ref fd19) = true)
    (ad20 : PySem.W.nsIn K mainGlobals "_law_roads" = some (some (.ref fd20)))
    (ld20 : K.lookup fd20 = some ⟨ocd20, odd20, .func (PySem.W.fnOf "_law_roads" "_law_roads" (C8.fnArgs s_l_roads) (C8.fnBody s_l_roads) (C8.fnScope s_l_roads) .none kVd20 dcd20 pmd20 and20 cdd20 ctd20), sld20⟩)
    (cd20 : PySem.W.codeIn K cdd20 "_law_roads" = true)
    (kd20 : PySem.W.keepIn K (.ref fd20) = true)
    (ad21 : PySem.W.nsIn K mainGlobals "_law_drawn" = some (some (.ref fd21)))
    (ld21 : K.lookup fd21 = some ⟨ocd21, odd21, .func (PySem.W.fnOf "_law_drawn" "_law_drawn" (C8.fnArgs s_l_drawn) (C8.fnBody s_l_drawn) (C8.fnScope s_l_drawn) .none kVd21 dcd21 pmd21 and21 cdd21 ctd21), sld21⟩)
    (cd21 : PySem.W.codeIn K cdd21 "_law_drawn" = true)
    (kd21 : PySem.W.keepIn K (.ref fd21) = true)
    (ad22 : PySem.W.nsIn K mainGlobals "_law_text" = some (some (.ref fd22)))
    (ld22 : K.lookup fd22 = some ⟨ocd22, odd22, .func (PySem.W.fnOf "_law_text" "_law_text" (C8.fnArgs s_l_text) (C8.fnBody s_l_text) (C8.fnScope s_l_text) .none kVd22 dcd22 pmd22 and22 (.ref cl_text) ctd22), sld22⟩)
    (cd22 : PySem.W.codeIn K (.ref cl_text) "_law_text" = true)
    (kd22 : PySem.W.keepIn K (.ref fd22) = true)
    (ad23 : PySem.W.nsIn K mainGlobals "_law_refusal" = some (some (.ref fd23)))
    (ld23 : K.lookup fd23 = some ⟨ocd23, odd23, .func (PySem.W.fnOf "_law_refusal" "_law_refusal" (C8.fnArgs s_l_refusal) (C8.fnBody s_l_refusal) (C8.fnScope s_l_refusal) .none kVd23 dcd23 pmd23 and23 cdd23 ctd23), sld23⟩)
    (cd23 : PySem.W.codeIn K cdd23 "_law_refusal" = true)
    (kd23 : PySem.W.keepIn K (.ref fd23) = true)
    (ad24 : PySem.W.nsIn K mainGlobals "_law_place" = some (some (.ref fd24)))
    (ld24 : K.lookup fd24 = some ⟨ocd24, odd24, .func (PySem.W.fnOf "_law_place" "_law_place" (C8.fnArgs s_l_place) (C8.fnBody s_l_place) (C8.fnScope s_l_place) .none kVd24 dcd24 pmd24 and24 cdd24 ctd24), sld24⟩)
    (cd24 : PySem.W.codeIn K cdd24 "_law_place" = true)
    (kd24 : PySem.W.keepIn K (.ref fd24) = true)
    (ad25 : PySem.W.nsIn K mainGlobals "_law_odd_row" = some (some (.ref fd25)))
    (ld25 : K.lookup fd25 = some ⟨ocd25, odd25, .func (PySem.W.fnOf "_law_odd_row" "_law_odd_row" (C8.fnArgs s_l_odd_row) (C8.fnBody s_l_odd_row) (C8.fnScope s_l_odd_row) .none kVd25 dcd25 pmd25 and25 cdd25 ctd25), sld25⟩)
    (cd25 : PySem.W.codeIn K cdd25 "_law_odd_row" = true)
    (kd25 : PySem.W.keepIn K (.ref fd25) = true)
    (ad26 : PySem.W.nsIn K mainGlobals "_law_odd_width" = some (some (.ref fd26)))
    (ld26 : K.lookup fd26 = some ⟨ocd26, odd26, .func (PySem.W.fnOf "_law_odd_width" "_law_odd_width" (C8.fnArgs s_l_odd_width) (C8.fnBody s_l_odd_width) (C8.fnScope s_l_odd_width) .none kVd26 dcd26 pmd26 and26 cdd26 ctd26), sld26⟩)
    (cd26 : PySem.W.codeIn K cdd26 "_law_odd_width" = true)
    (kd26 : PySem.W.keepIn K (.ref fd26) = true)
    (aC0 : PySem.W.nsIn K mainGlobals "Knot" = some (some (.ref C0)))
    (pg0 : PySem.W.plainGet K C0 Str.empty = true)
    (hd0 : PySem.W.hasDictIn K C0 = true)
    (po0 : PySem.W.plainOver K C0 = true)
    (sa0 : PySem.W.findIn K (.ref C0) "__setattr__" = some (some (.builtin "object.__setattr__")))
    (mk0 : PySem.W.makesIn K C0 = true)
    (kc0 : PySem.W.keepIn K (.ref C0) = true)
    (n0_kids : PySem.W.findIn K (.ref C0) "kids" = some none)
    (n0_goal : PySem.W.findIn K (.ref C0) "goal" = some none)
    (eqK : PySem.W.findIn K (.ref C0) "__eq__" = some (some (.builtin "object.__eq__")))
    (am0_init : PySem.W.findIn K (.ref C0) "__init__" = some (some (.ref fm0_init)))
    (im0_init : PySem.W.isFn K (.ref fm0_init) = true)
    (lm0_init : K.lookup fm0_init = some ⟨ocm0_init, odm0_init, .func (PySem.W.fnOf "__init__" "Knot.__init__" (C8.fnArgs s_Knot_init) (C8.fnBody s_Knot_init) (C8.fnScope s_Knot_init) .none kVm0_init dcm0_init pmm0_init anm0_init cdm0_init ctm0_init), slm0_init⟩)
    (cm0_init : PySem.W.codeIn K cdm0_init "Knot.__init__" = true)
    (km0_init : PySem.W.keepIn K (.ref fm0_init) = true)
    (aC1 : PySem.W.nsIn K mainGlobals "Table" = some (some (.ref C1)))
    (pg1 : PySem.W.plainGet K C1 Str.empty = true)
    (hd1 : PySem.W.hasDictIn K C1 = true)
    (po1 : PySem.W.plainOver K C1 = true)
    (sa1 : PySem.W.findIn K (.ref C1) "__setattr__" = some (some (.builtin "object.__setattr__")))
    (mk1 : PySem.W.makesIn K C1 = true)
    (kc1 : PySem.W.keepIn K (.ref C1) = true)
    (n1_wide : PySem.W.findIn K (.ref C1) "wide" = some none)
    (n1_top : PySem.W.findIn K (.ref C1) "top" = some none)
    (n1_amount : PySem.W.findIn K (.ref C1) "amount" = some none)
    (ica : PySem.W.findIn K (.ref C1) "__class__" = some (some (.builtin "object.__class__")))
    (icn : PySem.W.specialIn K (.builtin "object.__class__") "__get__" = some (some (.builtin "getset_descriptor.__get__")))
    (ict : PySem.W.takesIn K (.builtin "object.__class__") = some true)
    (icm : PySem.W.mroIn K C1 (.type "object") = some true)
    (am1_init : PySem.W.findIn K (.ref C1) "__init__" = some (some (.ref fm1_init)))
    (im1_init : PySem.W.isFn K (.ref fm1_init) = true)
    (lm1_init : K.lookup fm1_init = some ⟨ocm1_init, odm1_init, .func (PySem.W.fnOf "__init__" "Table.__init__" (C8.fnArgs s_Table_init) (C8.fnBody s_Table_init) (C8.fnScope s_Table_init) .none kVm1_init dcm1_init pmm1_init anm1_init cdm1_init ctm1_init), slm1_init⟩)
    (cm1_init : PySem.W.codeIn K cdm1_init "Table.__init__" = true)
    (km1_init : PySem.W.keepIn K (.ref fm1_init) = true)
    (am1_width : PySem.W.findIn K (.ref C1) "width" = some (some (.ref fm1_width)))
    (im1_width : PySem.W.isFn K (.ref fm1_width) = true)
    (lm1_width : K.lookup fm1_width = some ⟨ocm1_width, odm1_width, .func (PySem.W.fnOf "width" "Table.width" (C8.fnArgs s_Table_width) (C8.fnBody s_Table_width) (C8.fnScope s_Table_width) .none kVm1_width dcm1_width pmm1_width anm1_width cdm1_width ctm1_width), slm1_width⟩)
    (cm1_width : PySem.W.codeIn K cdm1_width "Table.width" = true)
    (km1_width : PySem.W.keepIn K (.ref fm1_width) = true)
    (am1_many : PySem.W.findIn K (.ref C1) "many" = some (some (.ref fm1_many)))
    (im1_many : PySem.W.isFn K (.ref fm1_many) = true)
    (lm1_many : K.lookup fm1_many = some ⟨ocm1_many, odm1_many, .func (PySem.W.fnOf "many" "Table.many" (C8.fnArgs s_Table_many) (C8.fnBody s_Table_many) (C8.fnScope s_Table_many) .none kVm1_many dcm1_many pmm1_many anm1_many cdm1_many ctm1_many), slm1_many⟩)
    (cm1_many : PySem.W.codeIn K cdm1_many "Table.many" = true)
    (km1_many : PySem.W.keepIn K (.ref fm1_many) = true)
    (am1_need_start : PySem.W.findIn K (.ref C1) "need_start" = some (some (.ref fm1_need_start)))
    (im1_need_start : PySem.W.isFn K (.ref fm1_need_start) = true)
    (lm1_need_start : K.lookup fm1_need_start = some ⟨ocm1_need_start, odm1_need_start, .func (PySem.W.fnOf "need_start" "Table.need_start" (C8.fnArgs s_Table_need_start) (C8.fnBody s_Table_need_start) (C8.fnScope s_Table_need_start) .none kVm1_need_start dcm1_need_start pmm1_need_start anm1_need_start cdm1_need_start ctm1_need_start), slm1_need_start⟩)
    (cm1_need_start : PySem.W.codeIn K cdm1_need_start "Table.need_start" = true)
    (km1_need_start : PySem.W.keepIn K (.ref fm1_need_start) = true)
    (am1_way : PySem.W.findIn K (.ref C1) "way" = some (some (.ref fm1_way)))
    (im1_way : PySem.W.isFn K (.ref fm1_way) = true)
    (lm1_way : K.lookup fm1_way = some ⟨ocm1_way, odm1_way, .func (PySem.W.fnOf "way" "Table.way" (C8.fnArgs s_Table_way) (C8.fnBody s_Table_way) (C8.fnScope s_Table_way) .none kVm1_way dcm1_way pmm1_way anm1_way cdm1_way ctm1_way), slm1_way⟩)
    (cm1_way : PySem.W.codeIn K cdm1_way "Table.way" = true)
    (km1_way : PySem.W.keepIn K (.ref fm1_way) = true)
    (am1_put : PySem.W.findIn K (.ref C1) "put" = some (some (.ref fm1_put)))
    (im1_put : PySem.W.isFn K (.ref fm1_put) = true)
    (lm1_put : K.lookup fm1_put = some ⟨ocm1_put, odm1_put, .func (PySem.W.fnOf "put" "Table.put" (C8.fnArgs s_Table_put) (C8.fnBody s_Table_put) (C8.fnScope s_Table_put) .none kVm1_put dcm1_put pmm1_put anm1_put cdm1_put ctm1_put), slm1_put⟩)
    (cm1_put : PySem.W.codeIn K cdm1_put "Table.put" = true)
    (km1_put : PySem.W.keepIn K (.ref fm1_put) = true)
    (am1_has : PySem.W.findIn K (.ref C1) "has" = some (some (.ref fm1_has)))
    (im1_has : PySem.W.isFn K (.ref fm1_has) = true)
    (lm1_has : K.lookup fm1_has = some ⟨ocm1_has, odm1_has, .func (PySem.W.fnOf "has" "Table.has" (C8.fnArgs s_Table_has) (C8.fnBody s_Table_has) (C8.fnScope s_Table_has) .none kVm1_has dcm1_has pmm1_has anm1_has cdm1_has ctm1_has), slm1_has⟩)
    (cm1_has : PySem.W.codeIn K cdm1_has "Table.has" = true)
    (km1_has : PySem.W.keepIn K (.ref fm1_has) = true)
    (am1_stretches : PySem.W.findIn K (.ref C1) "stretches" = some (some (.ref fm1_stretches)))
    (im1_stretches : PySem.W.isFn K (.ref fm1_stretches) = true)
    (lm1_stretches : K.lookup fm1_stretches = some ⟨ocm1_stretches, odm1_stretches, .func (PySem.W.fnOf "stretches" "Table.stretches" (C8.fnArgs s_Table_stretches) (C8.fnBody s_Table_stretches) (C8.fnScope s_Table_stretches) (.ref DTm1_stretches) kVm1_stretches dcm1_stretches pmm1_stretches anm1_stretches cdm1_stretches ctm1_stretches), slm1_stretches⟩)
    (cm1_stretches : PySem.W.codeIn K cdm1_stretches "Table.stretches" = true)
    (km1_stretches : PySem.W.keepIn K (.ref fm1_stretches) = true)
    (lDm1_stretches : K.lookup DTm1_stretches = some ⟨ocDm1_stretches, odDm1_stretches, .seq #[.str (Str.ofString "") tkm1_stretches] nDm1_stretches, slDm1_stretches⟩)
    (am1_rows : PySem.W.findIn K (.ref C1) "rows" = some (some (.ref fm1_rows)))
    (im1_rows : PySem.W.isFn K (.ref fm1_rows) = true)
    (lm1_rows : K.lookup fm1_rows = some ⟨ocm1_rows, odm1_rows, .func (PySem.W.fnOf "rows" "Table.rows" (C8.fnArgs s_Table_rows) (C8.fnBody s_Table_rows) (C8.fnScope s_Table_rows) .none kVm1_rows dcm1_rows pmm1_rows anm1_rows cdm1_rows ctm1_rows), slm1_rows⟩)
    (cm1_rows : PySem.W.codeIn K cdm1_rows "Table.rows" = true)
    (km1_rows : PySem.W.keepIn K (.ref fm1_rows) = true)
    (z_isinstance : PySem.W.nsIn K mainGlobals "isinstance" = some none)
    (z_len : PySem.W.nsIn K mainGlobals "len" = some none)
    (z_int : PySem.W.nsIn K mainGlobals "int" = some none)
    (z_bool : PySem.W.nsIn K mainGlobals "bool" = some none)
    (z_str : PySem.W.nsIn K mainGlobals "str" = some none)
    (z_list : PySem.W.nsIn K mainGlobals "list" = some none)
    (z_tuple : PySem.W.nsIn K mainGlobals "tuple" = some none)
    (z_dict : PySem.W.nsIn K mainGlobals "dict" = some none)
    (z_set : PySem.W.nsIn K mainGlobals "set" = some none)
    (z_range : PySem.W.nsIn K mainGlobals "range" = some none)
    (z_enumerate : PySem.W.nsIn K mainGlobals "enumerate" = some none)
    (z_sorted : PySem.W.nsIn K mainGlobals "sorted" = some none)
    (z_any : PySem.W.nsIn K mainGlobals "any" = some none)
    (z_all : PySem.W.nsIn K mainGlobals "all" = some none)
    (z_sum : PySem.W.nsIn K mainGlobals "sum" = some none)
    (z_min : PySem.W.nsIn K mainGlobals "min" = some none)
    (z_max : PySem.W.nsIn K mainGlobals "max" = some none)
    (z_ValueError : PySem.W.nsIn K mainGlobals "ValueError" = some none)
    (y_MOST_WIDTH : PySem.W.nsIn K mainGlobals "MOST_WIDTH" = some (some (.int 64 t_MOST_WIDTH)))
    (y_MOST_ROAD : PySem.W.nsIn K mainGlobals "MOST_ROAD" = some (some (.int 18446744073709551615 t_MOST_ROAD)))
    (y_BITS : PySem.W.nsIn K mainGlobals "BITS" = some (some (.str (Str.ofString "01") t_BITS)))
    (y_FIGURES : PySem.W.nsIn K mainGlobals "FIGURES" = some (some (.str (Str.ofString "0123456789") t_FIGURES)))
    (y_MOST_FIGURES : PySem.W.nsIn K mainGlobals "MOST_FIGURES" = some (some (.int 20 t_MOST_FIGURES)))
    (y_NOTHING : PySem.W.nsIn K mainGlobals "NOTHING" = some (some (.str (Str.ofString "-") t_NOTHING)))
    (aL : PySem.W.nsIn K mainGlobals "law" = some (some (.ref fL)))
    (lL : K.lookup fL = some ⟨ocL, odL, .func (PySem.W.fnOf "law" "law" (C8.fnArgs s_law) (C8.fnBody s_law) (C8.fnScope s_law) .none kVL dcL pmL anL cdL ctL), slL⟩)
    (cL : PySem.W.codeIn K cdL "law" = true)
    (hhl_text : PySem.W.codeHdIn K cl_text Pl_text = true)
    (hnl_text : K.lookup Pl_text = none)
    (h8 : ∀ p ∈ [Pl_text], h.get? p = some (PySem.W.tabObj #[]))
    (xa_RoadsError : PySem.W.nsIn K mainGlobals "RoadsError" = some (some (.ref E_RoadsError)))
    (xb_RoadsError : PySem.W.subIn K (.ref E_RoadsError) (.type "BaseException") = some true)
    (xd_RoadsError : PySem.W.hasDictIn K E_RoadsError = true)
    (xt_RoadsError : PySem.W.typeIn K (.ref E_RoadsError) = some (.type "type"))
    (xn : PySem.W.specialIn K (.builtin "object.__class__") "__get__" = some (some (.builtin "getset_descriptor.__get__")))
    (xk : PySem.W.takesIn K (.builtin "object.__class__") = some true)
    (xa_BadWidth : PySem.W.nsIn K mainGlobals "BadWidth" = some (some (.ref E_BadWidth)))
    (xi_BadWidth : PySem.W.isClsIn K E_BadWidth = true)
    (xt_BadWidth : PySem.W.typeIn K (.ref E_BadWidth) = some (.type "type"))
    (xa_BadWord : PySem.W.nsIn K mainGlobals "BadWord" = some (some (.ref E_BadWord)))
    (xi_BadWord : PySem.W.isClsIn K E_BadWord = true)
    (xt_BadWord : PySem.W.typeIn K (.ref E_BadWord) = some (.type "type"))
    (xa_BadStart : PySem.W.nsIn K mainGlobals "BadStart" = some (some (.ref E_BadStart)))
    (xi_BadStart : PySem.W.isClsIn K E_BadStart = true)
    (xt_BadStart : PySem.W.typeIn K (.ref E_BadStart) = some (.type "type"))
    (xa_BadRoad : PySem.W.nsIn K mainGlobals "BadRoad" = some (some (.ref E_BadRoad)))
    (xi_BadRoad : PySem.W.isClsIn K E_BadRoad = true)
    (xt_BadRoad : PySem.W.typeIn K (.ref E_BadRoad) = some (.type "type"))
    (xa_BadSteps : PySem.W.nsIn K mainGlobals "BadSteps" = some (some (.ref E_BadSteps)))
    (xi_BadSteps : PySem.W.isClsIn K E_BadSteps = true)
    (xt_BadSteps : PySem.W.typeIn K (.ref E_BadSteps) = some (.type "type"))
    (xa_NoRow : PySem.W.nsIn K mainGlobals "NoRow" = some (some (.ref E_NoRow)))
    (xi_NoRow : PySem.W.isClsIn K E_NoRow = true)
    (xt_NoRow : PySem.W.typeIn K (.ref E_NoRow) = some (.type "type"))
    (xa_BadText : PySem.W.nsIn K mainGlobals "BadText" = some (some (.ref E_BadText)))
    (xi_BadText : PySem.W.isClsIn K E_BadText = true)
    (xt_BadText : PySem.W.typeIn K (.ref E_BadText) = some (.type "type"))
    (xp_BadText : PySem.W.keepIn K (.ref E_BadText) = true)
    (xb_BadText : PySem.W.subIn K (.ref E_BadText) (.type "BaseException") = some true)
    (xg_BadText : PySem.W.findIn K (.ref E_BadText) "__getattribute__" = some (some (.builtin "BaseException.__getattribute__")))
    (xh_BadText : PySem.W.findIn K (.ref E_BadText) "__getattr__" = some none)
    (xd_BadText : PySem.W.hasDictIn K E_BadText = true)
    (xc_BadText : PySem.W.findIn K (.ref E_BadText) "__class__" = some (some (.builtin "object.__class__")))
    (xm_BadText : PySem.W.mroIn K E_BadText (.type "object") = some true)
    (xv_BadText : PySem.W.subIn K (.ref E_BadText) (.type "ValueError") = some true)
    (xr_BadText : PySem.W.subIn K (.ref E_BadText) (.ref E_RoadsError) = some true)
    (xs_BadText_BadWidth : PySem.W.subIn K (.ref E_BadText) (.ref E_BadWidth) = some false)
    (xs_BadText_BadWord : PySem.W.subIn K (.ref E_BadText) (.ref E_BadWord) = some false)
    (xs_BadText_BadStart : PySem.W.subIn K (.ref E_BadText) (.ref E_BadStart) = some false)
    (xs_BadText_BadRoad : PySem.W.subIn K (.ref E_BadText) (.ref E_BadRoad) = some false)
    (xs_BadText_BadSteps : PySem.W.subIn K (.ref E_BadText) (.ref E_BadSteps) = some false)
    (xs_BadText_NoRow : PySem.W.subIn K (.ref E_BadText) (.ref E_NoRow) = some false)
    (xs_BadText_BadText : PySem.W.subIn K (.ref E_BadText) (.ref E_BadText) = some true)
    (xo_BadText : oexB K E_BadText = true)
    (xsa_BadText : PySem.W.findIn K (.ref E_BadText) "__setattr__" = some (some (.builtin "object.__setattr__")))
    (xpl_BadText : PySem.W.findIn K (.ref E_BadText) "place" = some none)
    (ax_BadText : PySem.W.findIn K (.ref E_BadText) "__init__" = some (some (.ref fx_BadText)))
    (ix_BadText : PySem.W.isFn K (.ref fx_BadText) = true)
    (lx_BadText : K.lookup fx_BadText = some ⟨ocx_BadText, odx_BadText, .func (PySem.W.fnOf "__init__" "BadText.__init__" (C8.fnArgs s_BadText_init) (C8.fnBody s_BadText_init) (C8.fnScope s_BadText_init) .none kVx_BadText dcx_BadText pmx_BadText anx_BadText cdx_BadText ctx_BadText), slx_BadText⟩)
    (cx_BadText : PySem.W.codeIn K cdx_BadText "BadText.__init__" = true)
    (kx_BadText : PySem.W.keepIn K (.ref fx_BadText) = true)
    (xrd : PySem.W.readsIn K E_RoadsError (.type "type") = true)
    (xrg : PySem.W.specialIn K (.ref E_RoadsError) "__getattribute__" = some (some (.builtin "type.__getattribute__")))
    (xri : PySem.W.findCls K (.ref E_RoadsError) (.type "type") "__init__" = some (.val (.builtin "ValueError.__init__"))) :
    LamX.LawAtS l w K C8.CX0 71 63 "_law_script" mg fa h := by
  have e := hfa.symm.trans (PySem.W.mg_of X G aL)
  cases e
  have T : Glob mg := ⟨PySem.W.mg_none_of X G z_isinstance, PySem.W.mg_none_of X G z_len, PySem.W.mg_none_of X G z_int, PySem.W.mg_none_of X G z_bool, PySem.W.mg_none_of X G z_str, PySem.W.mg_none_of X G z_list, PySem.W.mg_none_of X G z_tuple, PySem.W.mg_none_of X G z_dict, PySem.W.mg_none_of X G z_set, PySem.W.mg_none_of X G z_range, PySem.W.mg_none_of X G z_enumerate, PySem.W.mg_none_of X G z_sorted, PySem.W.mg_none_of X G z_any, PySem.W.mg_none_of X G z_all, PySem.W.mg_none_of X G z_sum, PySem.W.mg_none_of X G z_min, PySem.W.mg_none_of X G z_max, ⟨_, PySem.W.mg_of X G y_MOST_WIDTH, ⟨_, rfl⟩⟩, ⟨_, PySem.W.mg_of X G y_MOST_ROAD, ⟨_, rfl⟩⟩, ⟨_, PySem.W.mg_of X G y_BITS, ⟨t_BITS, by rw [tx_01]⟩⟩⟩
  have TN : GlobN mg := ⟨⟨_, PySem.W.mg_of X G y_FIGURES, ⟨t_FIGURES, rfl⟩⟩, ⟨_, PySem.W.mg_of X G y_MOST_FIGURES, ⟨_, rfl⟩⟩, ⟨_, PySem.W.mg_of X G y_NOTHING, ⟨t_NOTHING, rfl⟩⟩⟩
  have Fd0 : C8.Fun K "is_among" "is_among" s_is_among fd0 _ := ⟨⟨_, _, _, _, _, _, _, _, _, _, rfl, ld0, cd0⟩⟩
  have bd0 := Fd0.binds rfl (ps := ["thing", "least", "most"]) fun _ _ _ _ _ _ us hl => match us, hl with | [_, _, _], _ => rfl
  have D_is_among : Dn K mg "is_among" s_is_among ["thing", "least", "most"] := ⟨fd0, _, ⟨Fd0, PySem.W.mg_of X G ad0, kd0⟩, bd0⟩
  have Fd1 : C8.Fun K "is_width" "is_width" s_is_width fd1 _ := ⟨⟨_, _, _, _, _, _, _, _, _, _, rfl, ld1, cd1⟩⟩
  have bd1 := Fd1.binds rfl (ps := ["thing"]) fun _ _ _ _ _ _ us hl => match us, hl with | [_], _ => rfl
  have D_is_width : Dn K mg "is_width" s_is_width ["thing"] := ⟨fd1, _, ⟨Fd1, PySem.W.mg_of X G ad1, kd1⟩, bd1⟩
  have Fd2 : C8.Fun K "is_road" "is_road" s_is_road fd2 _ := ⟨⟨_, _, _, _, _, _, _, _, _, _, rfl, ld2, cd2⟩⟩
  have bd2 := Fd2.binds rfl (ps := ["thing"]) fun _ _ _ _ _ _ us hl => match us, hl with | [_], _ => rfl
  have D_is_road : Dn K mg "is_road" s_is_road ["thing"] := ⟨fd2, _, ⟨Fd2, PySem.W.mg_of X G ad2, kd2⟩, bd2⟩
  have Fd3 : C8.Fun K "is_bits" "is_bits" s_is_bits fd3 _ := ⟨⟨_, _, _, _, _, _, _, _, _, _, rfl, ld3, cd3⟩⟩
  have bd3 := Fd3.binds rfl (ps := ["thing", "least", "most"]) fun _ _ _ _ _ _ us hl => match us, hl with | [_, _, _], _ => rfl
  have D_is_bits : Dn K mg "is_bits" s_is_bits ["thing", "least", "most"] := ⟨fd3, _, ⟨Fd3, PySem.W.mg_of X G ad3, kd3⟩, bd3⟩
  have Fd4 : C8.Fun K "is_word" "is_word" s_is_word fd4 _ := ⟨⟨_, _, _, _, _, _, _, _, _, _, rfl, ld4, cd4⟩⟩
  have bd4 := Fd4.binds rfl (ps := ["width", "thing"]) fun _ _ _ _ _ _ us hl => match us, hl with | [_, _], _ => rfl
  have D_is_word : Dn K mg "is_word" s_is_word ["width", "thing"] := ⟨fd4, _, ⟨Fd4, PySem.W.mg_of X G ad4, kd4⟩, bd4⟩
  have Fd5 : C8.Fun K "is_start" "is_start" s_is_start fd5 _ := ⟨⟨_, _, _, _, _, _, _, _, _, _, rfl, ld5, cd5⟩⟩
  have bd5 := Fd5.binds rfl (ps := ["width", "thing"]) fun _ _ _ _ _ _ us hl => match us, hl with | [_, _], _ => rfl
  have D_is_start : Dn K mg "is_start" s_is_start ["width", "thing"] := ⟨fd5, _, ⟨Fd5, PySem.W.mg_of X G ad5, kd5⟩, bd5⟩
  have Fd6 : C8.Fun K "number_of" "number_of" s_number_of fd6 _ := ⟨⟨_, _, _, _, _, _, _, _, _, _, rfl, ld6, cd6⟩⟩
  have bd6 := Fd6.binds rfl (ps := ["start"]) fun _ _ _ _ _ _ us hl => match us, hl with | [_], _ => rfl
  have D_number_of : Dn K mg "number_of" s_number_of ["start"] := ⟨fd6, _, ⟨Fd6, PySem.W.mg_of X G ad6, kd6⟩, bd6⟩
  have Fd7 : C8.Fun K "span_of" "span_of" s_span_of fd7 _ := ⟨⟨_, _, _, _, _, _, _, _, _, _, rfl, ld7, cd7⟩⟩
  have bd7 := Fd7.binds rfl (ps := ["start", "width"]) fun _ _ _ _ _ _ us hl => match us, hl with | [_, _], _ => rfl
  have D_span_of : Dn K mg "span_of" s_span_of ["start", "width"] := ⟨fd7, _, ⟨Fd7, PySem.W.mg_of X G ad7, kd7⟩, bd7⟩
  have Fd8 : C8.Fun K "add_stretch" "add_stretch" s_add_stretch fd8 _ := ⟨⟨_, _, _, _, _, _, _, _, _, _, rfl, ld8, cd8⟩⟩
  have bd8 := Fd8.binds rfl (ps := ["found", "first", "last", "road"]) fun _ _ _ _ _ _ us hl => match us, hl with | [_, _, _, _], _ => rfl
  have D_add_stretch : Dn K mg "add_stretch" s_add_stretch ["found", "first", "last", "road"] := ⟨fd8, _, ⟨Fd8, PySem.W.mg_of X G ad8, kd8⟩, bd8⟩
  have Fd9 : C8.Fun K "between" "between" s_between fd9 _ := ⟨⟨_, _, _, _, _, _, _, _, _, _, rfl, ld9, cd9⟩⟩
  have bd9 := Fd9.binds rfl (ps := ["ahead", "behind"]) fun _ _ _ _ _ _ us hl => match us, hl with | [_, _], _ => rfl
  have D_between : Dn K mg "between" s_between ["ahead", "behind"] := ⟨fd9, _, ⟨Fd9, PySem.W.mg_of X G ad9, kd9⟩, bd9⟩
  have Fd10 : C8.Fun K "spread" "spread" s_spread fd10 _ := ⟨⟨_, _, _, _, _, _, _, _, _, _, rfl, ld10, cd10⟩⟩
  have bd10 := Fd10.binds rfl (ps := ["knot", "first", "last", "road", "found"]) fun _ _ _ _ _ _ us hl => match us, hl with | [_, _, _, _, _], _ => rfl
  have D_spread : Dn K mg "spread" s_spread ["knot", "first", "last", "road", "found"] := ⟨fd10, _, ⟨Fd10, PySem.W.mg_of X G ad10, kd10⟩, bd10⟩
  have Fd11 : C8.Fun K "number_in" "number_in" s_number_in fd11 _ := ⟨⟨_, _, _, _, _, _, _, _, _, _, rfl, ld11, cd11⟩⟩
  have bd11 := Fd11.binds rfl (ps := ["word"]) fun _ _ _ _ _ _ us hl => match us, hl with | [_], _ => rfl
  have D_number_in : Dn K mg "number_in" s_number_in ["word"] := ⟨fd11, _, ⟨Fd11, PySem.W.mg_of X G ad11, kd11⟩, bd11⟩
  have Fd12 : C8.Fun K "width_in" "width_in" s_width_in fd12 _ := ⟨⟨_, _, _, _, _, _, _, _, _, _, rfl, ld12, cd12⟩⟩
  have bd12 := Fd12.binds rfl (ps := ["row"]) fun _ _ _ _ _ _ us hl => match us, hl with | [_], _ => rfl
  have D_width_in : Dn K mg "width_in" s_width_in ["row"] := ⟨fd12, _, ⟨Fd12, PySem.W.mg_of X G ad12, kd12⟩, bd12⟩
  have Fd13 : C8.Fun K "row_in" "row_in" s_row_in fd13 _ := ⟨⟨_, _, _, _, _, _, _, _, _, _, rfl, ld13, cd13⟩⟩
  have bd13 := Fd13.binds rfl (ps := ["table", "row", "place"]) fun _ _ _ _ _ _ us hl => match us, hl with | [_, _, _], _ => rfl
  have D_row_in : Dn K mg "row_in" s_row_in ["table", "row", "place"] := ⟨fd13, _, ⟨Fd13, PySem.W.mg_of X G ad13, kd13⟩, bd13⟩
  have Fd14 : C8.Fun K "table_of" "table_of" s_table_of fd14 _ := ⟨⟨_, _, _, _, _, _, _, _, _, _, rfl, ld14, cd14⟩⟩
  have bd14 := Fd14.binds rfl (ps := ["text"]) fun _ _ _ _ _ _ us hl => match us, hl with | [_], _ => rfl
  have D_table_of : Dn K mg "table_of" s_table_of ["text"] := ⟨fd14, _, ⟨Fd14, PySem.W.mg_of X G ad14, kd14⟩, bd14⟩
  have Fd15 : C8.Fun K "_law_cell_at" "_law_cell_at" s_l_cell_at fd15 _ := ⟨⟨_, _, _, _, _, _, _, _, _, _, rfl, ld15, cd15⟩⟩
  have bd15 := Fd15.binds rfl (ps := ["_law_script", "_law_k"]) fun _ _ _ _ _ _ us hl => match us, hl with | [_, _], _ => rfl
  have D_l_cell_at : Dn K mg "_law_cell_at" s_l_cell_at ["_law_script", "_law_k"] := ⟨fd15, _, ⟨Fd15, PySem.W.mg_of X G ad15, kd15⟩, bd15⟩
  have Fd16 : C8.Fun K "_law_mixed" "_law_mixed" s_l_mixed fd16 _ := ⟨⟨_, _, _, _, _, _, _, _, _, _, rfl, ld16, cd16⟩⟩
  have bd16 := Fd16.binds rfl (ps := ["_law_cell", "_law_k"]) fun _ _ _ _ _ _ us hl => match us, hl with | [_, _], _ => rfl
  have D_l_mixed : Dn K mg "_law_mixed" s_l_mixed ["_law_cell", "_law_k"] := ⟨fd16, _, ⟨Fd16, PySem.W.mg_of X G ad16, kd16⟩, bd16⟩
  have Fd17 : C8.Fun K "_law_bits" "_law_bits" s_l_bits fd17 _ := ⟨⟨_, _, _, _, _, _, _, _, _, _, rfl, ld17, cd17⟩⟩
  have bd17 := Fd17.binds rfl (ps := ["_law_number", "_law_size"]) fun _ _ _ _ _ _ us hl => match us, hl with | [_, _], _ => rfl
  have D_l_bits : Dn K mg "_law_bits" s_l_bits ["_law_number", "_law_size"] := ⟨fd17, _, ⟨Fd17, PySem.W.mg_of X G ad17, kd17⟩, bd17⟩
  have Fd18 : C8.Fun K "_law_width" "_law_width" s_l_width fd18 _ := ⟨⟨_, _, _, _, _, _, _, _, _, _, rfl, ld18, cd18⟩⟩
  have bd18 := Fd18.binds rfl (ps := ["_law_number"]) fun _ _ _ _ _ _ us hl => match us, hl with | [_], _ => rfl
  have D_l_width : Dn K mg "_law_width" s_l_width ["_law_number"] := ⟨fd18, _, ⟨Fd18, PySem.W.mg_of X G ad18, kd18⟩, bd18⟩
  have Fd19 : C8.Fun K "_law_start" "_law_start" s_l_start fd19 _ := ⟨⟨_, _, _, _, _, _, _, _, _, _, rfl, ld19, cd19⟩⟩
  have bd19 := Fd19.binds rfl (ps := ["_law_base", "_law_number"]) fun _ _ _ _ _ _ us hl => match us, hl with | [_, _], _ => rfl
  have D_l_start : Dn K mg "_law_start" s_l_start ["_law_base", "_law_number"] := ⟨fd19, _, ⟨Fd19, PySem.W.mg_of X G ad19, kd19⟩, bd19⟩
  have Fd20 : C8.Fun K "_law_roads" "_law_roads" s_l_roads fd20 _ := ⟨⟨_, _, _, _, _, _, _, _, _, _, rfl, ld20, cd20⟩⟩
  have bd20 := Fd20.binds rfl (ps := ["_law_seed"]) fun _ _ _ _ _ _ us hl => match us, hl with | [_], _ => rfl
  have D_l_roads : Dn K mg "_law_roads" s_l_roads ["_law_seed"] := ⟨fd20, _, ⟨Fd20, PySem.W.mg_of X G ad20, kd20⟩, bd20⟩
  have Fd21 : C8.Fun K "_law_drawn" "_law_drawn" s_l_drawn fd21 _ := ⟨⟨_, _, _, _, _, _, _, _, _, _, rfl, ld21, cd21⟩⟩
  have bd21 := Fd21.binds rfl (ps := ["_law_cells", "_law_seed", "_law_wide"]) fun _ _ _ _ _ _ us hl => match us, hl with | [_, _, _], _ => rfl
  have D_l_drawn : Dn K mg "_law_drawn" s_l_drawn ["_law_cells", "_law_seed", "_law_wide"] := ⟨fd21, _, ⟨Fd21, PySem.W.mg_of X G ad21, kd21⟩, bd21⟩
  have Fd22 : C8.Fun K "_law_text" "_law_text" s_l_text fd22 _ := ⟨⟨_, _, _, _, _, _, _, _, _, _, rfl, ld22, cd22⟩⟩
  have bd22 := Fd22.binds rfl (ps := ["_law_rows", "_law_wide", "_law_order"]) fun _ _ _ _ _ _ us hl => match us, hl with | [_, _, _], _ => rfl
  have D_l_text : DnC K mg "_law_text" s_l_text ["_law_rows", "_law_wide", "_law_order"] cl_text := ⟨fd22, _, _, _, _, _, _, _, _, _, ld22, cd22, PySem.W.mg_of X G ad22, kd22, bd22⟩
  have Fd23 : C8.Fun K "_law_refusal" "_law_refusal" s_l_refusal fd23 _ := ⟨⟨_, _, _, _, _, _, _, _, _, _, rfl, ld23, cd23⟩⟩
  have bd23 := Fd23.binds rfl (ps := ["_law_fault"]) fun _ _ _ _ _ _ us hl => match us, hl with | [_], _ => rfl
  have D_l_refusal : Dn K mg "_law_refusal" s_l_refusal ["_law_fault"] := ⟨fd23, _, ⟨Fd23, PySem.W.mg_of X G ad23, kd23⟩, bd23⟩
  have Fd24 : C8.Fun K "_law_place" "_law_place" s_l_place fd24 _ := ⟨⟨_, _, _, _, _, _, _, _, _, _, rfl, ld24, cd24⟩⟩
  have bd24 := Fd24.binds rfl (ps := ["_law_text_here"]) fun _ _ _ _ _ _ us hl => match us, hl with | [_], _ => rfl
  have D_l_place : Dn K mg "_law_place" s_l_place ["_law_text_here"] := ⟨fd24, _, ⟨Fd24, PySem.W.mg_of X G ad24, kd24⟩, bd24⟩
  have Fd25 : C8.Fun K "_law_odd_row" "_law_odd_row" s_l_odd_row fd25 _ := ⟨⟨_, _, _, _, _, _, _, _, _, _, rfl, ld25, cd25⟩⟩
  have bd25 := Fd25.binds rfl (ps := ["_law_number", "_law_wide", "_law_row"]) fun _ _ _ _ _ _ us hl => match us, hl with | [_, _, _], _ => rfl
  have D_l_odd_row : Dn K mg "_law_odd_row" s_l_odd_row ["_law_number", "_law_wide", "_law_row"] := ⟨fd25, _, ⟨Fd25, PySem.W.mg_of X G ad25, kd25⟩, bd25⟩
  have Fd26 : C8.Fun K "_law_odd_width" "_law_odd_width" s_l_odd_width fd26 _ := ⟨⟨_, _, _, _, _, _, _, _, _, _, rfl, ld26, cd26⟩⟩
  have bd26 := Fd26.binds rfl (ps := ["_law_number"]) fun _ _ _ _ _ _ us hl => match us, hl with | [_], _ => rfl
  have D_l_odd_width : Dn K mg "_law_odd_width" s_l_odd_width ["_law_number"] := ⟨fd26, _, ⟨Fd26, PySem.W.mg_of X G ad26, kd26⟩, bd26⟩
  have cl0 : Cls K C0 := ⟨pg0, hd0, po0, sa0⟩
  have Fm0_init : C8.Fun K "__init__" "Knot.__init__" s_Knot_init fm0_init _ := ⟨⟨_, _, _, _, _, _, _, _, _, _, rfl, lm0_init, cm0_init⟩⟩
  have bm0_init := Fm0_init.binds rfl (ps := ["self"]) fun _ _ _ _ _ _ us hl => match us, hl with | [_], _ => rfl
  have D_Knot_init : Mkn K mg "Knot" C0 s_Knot_init ["self"] := ⟨"Knot.__init__", fm0_init, _, ⟨mk0, am0_init, im0_init, kc0⟩, PySem.W.mg_of X G aC0, Fm0_init, bm0_init⟩
  have cl1 : Cls K C1 := ⟨pg1, hd1, po1, sa1⟩
  have Fm1_init : C8.Fun K "__init__" "Table.__init__" s_Table_init fm1_init _ := ⟨⟨_, _, _, _, _, _, _, _, _, _, rfl, lm1_init, cm1_init⟩⟩
  have bm1_init := Fm1_init.binds rfl (ps := ["self", "width"]) fun _ _ _ _ _ _ us hl => match us, hl with | [_, _], _ => rfl
  have D_Table_init : Mkn K mg "Table" C1 s_Table_init ["self", "width"] := ⟨"Table.__init__", fm1_init, _, ⟨mk1, am1_init, im1_init, kc1⟩, PySem.W.mg_of X G aC1, Fm1_init, bm1_init⟩
  have Fm1_width : C8.Fun K "width" "Table.width" s_Table_width fm1_width _ := ⟨⟨_, _, _, _, _, _, _, _, _, _, rfl, lm1_width, cm1_width⟩⟩
  have bm1_width := Fm1_width.binds rfl (ps := ["self"]) fun _ _ _ _ _ _ us hl => match us, hl with | [_], _ => rfl
  have D_Table_width : Mn K C1 "width" s_Table_width ["self"] [] := ⟨"Table.width", fm1_width, _, [], cl1, ⟨am1_width, im1_width, km1_width⟩, Fm1_width, bm1_width, .nil⟩
  have Fm1_many : C8.Fun K "many" "Table.many" s_Table_many fm1_many _ := ⟨⟨_, _, _, _, _, _, _, _, _, _, rfl, lm1_many, cm1_many⟩⟩
  have bm1_many := Fm1_many.binds rfl (ps := ["self"]) fun _ _ _ _ _ _ us hl => match us, hl with | [_], _ => rfl
  have D_Table_many : Mn K C1 "many" s_Table_many ["self"] [] := ⟨"Table.many", fm1_many, _, [], cl1, ⟨am1_many, im1_many, km1_many⟩, Fm1_many, bm1_many, .nil⟩
  have Fm1_need_start : C8.Fun K "need_start" "Table.need_start" s_Table_need_start fm1_need_start _ := ⟨⟨_, _, _, _, _, _, _, _, _, _, rfl, lm1_need_start, cm1_need_start⟩⟩
  have bm1_need_start := Fm1_need_start.binds rfl (ps := ["self", "start"]) fun _ _ _ _ _ _ us hl => match us, hl with | [_, _], _ => rfl
  have D_Table_need_start : Mn K C1 "need_start" s_Table_need_start ["self", "start"] [] := ⟨"Table.need_start", fm1_need_start, _, [], cl1, ⟨am1_need_start, im1_need_start, km1_need_start⟩, Fm1_need_start, bm1_need_start, .nil⟩
  have Fm1_way : C8.Fun K "way" "Table.way" s_Table_way fm1_way _ := ⟨⟨_, _, _, _, _, _, _, _, _, _, rfl, lm1_way, cm1_way⟩⟩
  have bm1_way := Fm1_way.binds rfl (ps := ["self", "start"]) fun _ _ _ _ _ _ us hl => match us, hl with | [_, _], _ => rfl
  have D_Table_way : Mn K C1 "way" s_Table_way ["self", "start"] [] := ⟨"Table.way", fm1_way, _, [], cl1, ⟨am1_way, im1_way, km1_way⟩, Fm1_way, bm1_way, .nil⟩
  have Fm1_put : C8.Fun K "put" "Table.put" s_Table_put fm1_put _ := ⟨⟨_, _, _, _, _, _, _, _, _, _, rfl, lm1_put, cm1_put⟩⟩
  have bm1_put := Fm1_put.binds rfl (ps := ["self", "start", "road"]) fun _ _ _ _ _ _ us hl => match us, hl with | [_, _, _], _ => rfl
  have D_Table_put : Mn K C1 "put" s_Table_put ["self", "start", "road"] [] := ⟨"Table.put", fm1_put, _, [], cl1, ⟨am1_put, im1_put, km1_put⟩, Fm1_put, bm1_put, .nil⟩
  have Fm1_has : C8.Fun K "has" "Table.has" s_Table_has fm1_has _ := ⟨⟨_, _, _, _, _, _, _, _, _, _, rfl, lm1_has, cm1_has⟩⟩
  have bm1_has := Fm1_has.binds rfl (ps := ["self", "start"]) fun _ _ _ _ _ _ us hl => match us, hl with | [_, _], _ => rfl
  have D_Table_has : Mn K C1 "has" s_Table_has ["self", "start"] [] := ⟨"Table.has", fm1_has, _, [], cl1, ⟨am1_has, im1_has, km1_has⟩, Fm1_has, bm1_has, .nil⟩
  have Fm1_stretches : C8.Fun K "stretches" "Table.stretches" s_Table_stretches fm1_stretches _ := ⟨⟨_, _, _, _, _, _, _, _, _, _, rfl, lm1_stretches, cm1_stretches⟩⟩
  have FDm1_stretches : FunD K "stretches" "Table.stretches" (C8.fnArgs s_Table_stretches) (C8.fnBody s_Table_stretches) (C8.fnScope s_Table_stretches) [.str (Str.ofString "")] [] fm1_stretches _ := ⟨⟨_, _, _, _, _, _, _, _, _, _, rfl, lm1_stretches, cm1_stretches, .inr ⟨by simp, DTm1_stretches, _, [.str (Str.ofString "") tkm1_stretches], nDm1_stretches, rfl, lDm1_stretches, rfl, .cons ⟨_, rfl⟩ .nil⟩, .inl rfl⟩, km1_stretches⟩
  have D_Table_stretches : Mn K C1 "stretches" s_Table_stretches ["self", "start"] [] := by
    obtain ⟨ds, vds, bds⟩ := FDm1_stretches.binds1 (ps := ["self", "start"]) 2 1 (by simp) rfl (fun _ _ _ _ _ _ _ us its hu hi => match us, its, hu, hi with | [_, _], [_], _, _ => ⟨_, rfl, rfl⟩)
    exact ⟨"Table.stretches", fm1_stretches, _, ds, cl1, ⟨am1_stretches, im1_stretches, km1_stretches⟩, Fm1_stretches, bds, vds⟩
  have E_Table_stretches : Mn K C1 "stretches" s_Table_stretches ["self", "start"] [.str (Str.ofString "")] := by
    obtain ⟨ds, vds, bds⟩ := FDm1_stretches.binds1 (ps := ["self", "start"]) 1 0 (by simp) rfl (fun _ _ _ _ _ _ _ us its hu hi => match us, its, hu, hi with | [_], [_], _, _ => ⟨_, rfl, rfl⟩)
    exact ⟨"Table.stretches", fm1_stretches, _, ds, cl1, ⟨am1_stretches, im1_stretches, km1_stretches⟩, Fm1_stretches, bds, vds⟩
  have Fm1_rows : C8.Fun K "rows" "Table.rows" s_Table_rows fm1_rows _ := ⟨⟨_, _, _, _, _, _, _, _, _, _, rfl, lm1_rows, cm1_rows⟩⟩
  have bm1_rows := Fm1_rows.binds rfl (ps := ["self"]) fun _ _ _ _ _ _ us hl => match us, hl with | [_], _ => rfl
  have D_Table_rows : Mn K C1 "rows" s_Table_rows ["self"] [] := ⟨"Table.rows", fm1_rows, _, [], cl1, ⟨am1_rows, im1_rows, km1_rows⟩, Fm1_rows, bm1_rows, .nil⟩
  have gc_BadWidth := PySem.W.mg_of X G xa_BadWidth
  have gc_BadWord := PySem.W.mg_of X G xa_BadWord
  have gc_BadStart := PySem.W.mg_of X G xa_BadStart
  have gc_BadRoad := PySem.W.mg_of X G xa_BadRoad
  have gc_BadSteps := PySem.W.mg_of X G xa_BadSteps
  have gc_NoRow := PySem.W.mg_of X G xa_NoRow
  have gc_BadText := PySem.W.mg_of X G xa_BadText
  have gRE := PySem.W.mg_of X G xa_RoadsError
  have gz_ValueError := PySem.W.mg_none_of X G z_ValueError
  have xC_BadText : ExcC K E_BadText := ⟨xg_BadText, xh_BadText, xb_BadText, xd_BadText, xc_BadText, xn, xk, xm_BadText⟩
  have kit_BadText : Kit K E_BadText [E_BadWidth, E_BadWord, E_BadStart, E_BadRoad, E_BadSteps, E_NoRow, E_BadText] 6 := ⟨xC_BadText, kit_ve xv_BadText, fun i C e => match i, e with
      | 0, e => by cases e; exact kit_ref xi_BadWidth xt_BadWidth xs_BadText_BadWidth (fun e => by have z := xs_BadText_BadText; rw [e] at z; have y := xs_BadText_BadWidth; rw [e] at y; rw [y] at z; cases z)
      | 1, e => by cases e; exact kit_ref xi_BadWord xt_BadWord xs_BadText_BadWord (fun e => by have z := xs_BadText_BadText; rw [e] at z; have y := xs_BadText_BadWord; rw [e] at y; rw [y] at z; cases z)
      | 2, e => by cases e; exact kit_ref xi_BadStart xt_BadStart xs_BadText_BadStart (fun e => by have z := xs_BadText_BadText; rw [e] at z; have y := xs_BadText_BadStart; rw [e] at y; rw [y] at z; cases z)
      | 3, e => by cases e; exact kit_ref xi_BadRoad xt_BadRoad xs_BadText_BadRoad (fun e => by have z := xs_BadText_BadText; rw [e] at z; have y := xs_BadText_BadRoad; rw [e] at y; rw [y] at z; cases z)
      | 4, e => by cases e; exact kit_ref xi_BadSteps xt_BadSteps xs_BadText_BadSteps (fun e => by have z := xs_BadText_BadText; rw [e] at z; have y := xs_BadText_BadSteps; rw [e] at y; rw [y] at z; cases z)
      | 5, e => by cases e; exact kit_ref xi_NoRow xt_NoRow xs_BadText_NoRow (fun e => by have z := xs_BadText_BadText; rw [e] at z; have y := xs_BadText_NoRow; rw [e] at y; rw [y] at z; cases z)
      | 6, e => by cases e; exact kit_ref xi_BadText xt_BadText xs_BadText_BadText (fun _ => rfl)⟩
  have exm_BadText : PySem.W.exmOne K (.ref E_BadText) (.ref E_RoadsError) = some true := PySem.W.exm_ref xb_RoadsError xd_RoadsError xt_RoadsError xr_BadText
  have Fx_BadText : C8.Fun K "__init__" "BadText.__init__" s_BadText_init fx_BadText _ := ⟨⟨_, _, _, _, _, _, _, _, _, _, rfl, lx_BadText, cx_BadText⟩⟩
  have bx_BadText := Fx_BadText.binds rfl (ps := ["self", "place"]) fun _ _ _ _ _ _ us hl => match us, hl with | [_, _], _ => rfl
  have oex_BadText := oex_of xo_BadText xsa_BadText xb_BadText xt_BadText xp_BadText
  have D_BadText_init : InitD K mg "BadText" E_BadText s_BadText_init ["self", "place"] := ⟨"BadText.__init__", fx_BadText, _, oex_BadText, ax_BadText, beq_iff_eq.mp ix_BadText, Fx_BadText, bx_BadText, gc_BadText⟩
  have xf_BadText : XfC K E_BadText := ⟨xg_BadText, xh_BadText, xb_BadText, xd_BadText⟩
  have B_RoadsError : BaseI K mg "RoadsError" E_RoadsError := ⟨gRE, xrd, xrg, xri⟩
  have FL : C8.Fun K "law" "law" s_law fa _ := ⟨⟨_, _, _, _, _, _, _, _, _, _, rfl, lL, cL⟩⟩
  refine ⟨PySem.W.fnOf "law" "law" (C8.fnArgs s_law) (C8.fnBody s_law) (C8.fnScope s_law) .none kVL dcL pmL anL cdL ctL, [(cl_text, Pl_text)], spLawT K [(Pl_text, textQ)], fun p hp => h8 p.2 (by revert p; simp), ?_, ?_, fun s v => .of_eq rfl, fun H a ns hl _ hT hS => ⟨a, ns, rfl, fun p hp => LamX.TabS.nil (hTT (T := [(Pl_text, textQ)]) hT (by rfl) p hp), hS, hl, fun _ => rfl⟩, fun base Kb Gb hTB => ?_⟩
  · intro p hp; simp only [List.mem_cons, List.not_mem_nil, or_false] at hp; rcases hp with rfl
    · exact hnl_text
  · intro p hp; simp only [List.mem_cons, List.not_mem_nil, or_false] at hp; rcases hp with rfl
    · exact PySem.W.codeHd_of_K X hhl_text
  have hm_l_text : (Pl_text, textQ) ∈ [(Pl_text, textQ)] := by simp
  have hu_l_text : ∀ p ∈ [(Pl_text, textQ)], p.1 = Pl_text → p.2 = textQ := fun p hp _ => by rw [List.mem_singleton.mp hp]
  have TB_l_text : LamX.TabB base mg cl_text Pl_text := hTB (cl_text, Pl_text) (by simp)
  have Kk : Ks K C0 := ⟨cl0, n0_kids, n0_goal, mro_obj mk0, eqK⟩
  have Tt : Ts K C1 := ⟨cl1, n1_wide, n1_top, n1_amount⟩
  have iT : C8.InsC K C1 := ⟨cl1, ica, icn, ict, icm, if_pos (beq_self_eq_true _)⟩
  have gT := PySem.W.mg_of X G aC1
  have w1 := c_is_among (P := l.prog) (w := w) (base := base) T D_is_among
  have w2 := c_is_bits (P := l.prog) (w := w) (base := base) T D_is_bits
  have w3 := c_is_width T D_is_width w1
  have w4 := c_is_road T D_is_road w1
  have w6 := c_is_start T D_is_start w2
  have w7 := c_span_of T D_span_of (c_number_of (P := l.prog) (w := w) (base := base) T D_number_of)
  have t1 := c_add_stretch (P := l.prog) (w := w) (base := base) T D_add_stretch
  have t2 := c_between (P := l.prog) (w := w) (base := base) T D_between
  have t3 := c_Knot_init (P := l.prog) (w := w) (base := base) Kk D_Knot_init
  have t5 := c_spread T D_spread t1 65
  have t6 := c_Table_init T Tt Kk D_Table_init w3 t3
  have t7 := c_Table_width (P := l.prog) (w := w) (mg := mg) (base := base) (CK := C0) Tt D_Table_width
  have t9 := c_Table_need_start (CK := C0) T Tt D_Table_need_start w6
  have t11 := c_Table_way (P := l.prog) (w := w) (base := base) T Tt Kk D_Table_way
  have t13 := c_Table_stretches T Tt Kk D_Table_stretches t9 t11 w7 t5
  have t14 := c_Table_put T Tt Kk D_Table_put t9 w4 t13 t3 t2
  have t16 := c_Table_has T Tt Kk D_Table_has t9 t11
  have n1 := c_number_in (P := l.prog) (w := w) (base := base) T TN D_number_in
  have l1 := c_l_cell_at (P := l.prog) (w := w) (base := base) T D_l_cell_at
  have l2 := c_l_mixed (P := l.prog) (w := w) (base := base) T D_l_mixed
  have l3 := c_l_width (P := l.prog) (w := w) (base := base) T D_l_width
  have l4 := c_l_bits T D_l_bits l2
  have l5 := c_l_start (P := l.prog) (w := w) (base := base) T D_l_start
  have l6 := c_l_roads T D_l_roads l2
  have l12 := c_l_drawn T D_l_drawn l2 l4 l5 l6
  have lx := c_l_text T D_l_text TB_l_text hm_l_text hu_l_text l2
  have fx := f_BadText (P := l.prog) (w := w) (base := base) B_RoadsError xpl_BadText D_BadText_init
  have x1 := cx_width_in T fx D_width_in n1 w3
  have x2 := cx_row_in T TN fx D_row_in n1 w4 w6 t7 t16
  have x3 := cx_table_of T Tt Kk fx D_table_of x1 x2 t6 t14
  have x4 := cd_l_refusal (P := l.prog) (w := w) (base := base) T D_l_refusal gc_BadWidth gc_BadWord gc_BadStart gc_BadRoad gc_BadSteps gc_NoRow gc_BadText gz_ValueError
  have x5 := c_l_place T D_l_place gRE exm_BadText kit_BadText xf_BadText xpl_BadText x3 x4
  have x6 := c_l_odd_row (P := l.prog) (w := w) (base := base) T D_l_odd_row
  have x7 := c_l_odd_width (P := l.prog) (w := w) (base := base) T D_l_odd_width
  exact ok_law FL T l1 l2 l3 l12 lx x6 x7 x5
theorem walk {l : PySem.W.OpenLaw} {q : Program} {loose : List Str} {XP : (Str → Option Value) → Heap → Prop} {YP : World → Heap → Prop} {d : DefRec} {K : Params → PySem.W.Frag} (hn : l.most = some 63) (hdf : d.params.defaults = [])
    (hY : ∀ (w : World) (h : Heap), YP w h → (K w.params).In h)
    (F : ∀ (w : World) (mg : Str → Option Value) (fa : Addr) (h : Heap), YP w h → (K w.params).In h → h.Ns mainGlobals mg → mg d.name = some (.ref fa) → LamX.LawAtS l w (K w.params) C8.CX0 71 63 "_law_script" mg fa h) :
    PySem.W.WalkO q loose XP YP l.row.toRowW d [] (fun f vs => PySem.call f vs) :=
  LamX.walk_ofTs (CX := fun _ => C8.CX0) hn (by decide) hdf ⟨rfl, by decide, by decide⟩ hY F fun _ _ _ _ _ z => z
end Br
open PySem PySem.W PyProof.Rows
set_option maxRecDepth 100000 in
set_option maxHeartbeats 0 in
theorem PySem.Challenge.cw_bitroads_k13_texts_refused_holds : PySem.Challenge.rw_bitroads_k13_texts_refused.Holds := by
  w_on; o_law; k_head; (case hw => w_witness2)
  k_fill
  refine Br.walk (l := PySem.Challenge.rw_bitroads_k13_texts_refused) rfl rfl (fun w h Y => PySem.W.km_in_of Y) ?F
  case F =>
    intro w mg fa h Y KX G hmg
    refine' Br.all_mk KX G hmg ?ad0 ?ld0 ?cd0 ?kd0 ?ad1 ?ld1 ?cd1 ?kd1 ?ad2 ?ld2 ?cd2 ?kd2 ?ad3 ?ld3 ?cd3 ?kd3 ?ad4 ?ld4 ?cd4 ?kd4 ?ad5 ?ld5 ?cd5 ?kd5 ?ad6 ?ld6 ?cd6 ?kd6 ?ad7 ?ld7 ?cd7 ?kd7 ?ad8 ?ld8 ?cd8 ?kd8 ?ad9 ?ld9 ?cd9 ?kd9 ?ad10 ?ld10 ?cd10 ?kd10 ?ad11 ?ld11 ?cd11 ?kd11 ?ad12 ?ld12 ?cd12 ?kd12 ?ad13 ?ld13 ?cd13 ?kd13 ?ad14 ?ld14 ?cd14 ?kd14 ?ad15 ?ld15 ?cd15 ?kd15 ?ad16 ?ld16 ?cd16 ?kd16 ?ad17 ?ld17 ?cd17 ?kd17 ?ad18 ?ld18 ?cd18 ?kd18 ?ad19 ?ld19 ?cd19 ?kd19 ?ad20 ?ld20 ?cd20 ?kd20 ?ad21 ?ld21 ?cd21 ?kd21 ?ad22 ?ld22 ?cd22 ?kd22 ?ad23 ?ld23 ?cd23 ?kd23 ?ad24 ?ld24 ?cd24 ?kd24 ?ad25 ?ld25 ?cd25 ?kd25 ?ad26 ?ld26 ?cd26 ?kd26 ?aC0 ?pg0 ?hd0 ?po0 ?sa0 ?mk0 ?kc0 ?n0_kids ?n0_goal ?eqK ?am0_init ?im0_init ?lm0_init ?cm0_init ?km0_init ?aC1 ?pg1 ?hd1 ?po1 ?sa1 ?mk1 ?kc1 ?n1_wide ?n1_top ?n1_amount ?ica ?icn ?ict ?icm ?am1_init ?im1_init ?lm1_init ?cm1_init ?km1_init ?am1_width ?im1_width ?lm1_width ?cm1_width ?km1_width ?am1_many ?im1_many ?lm1_many ?cm1_many ?km1_many ?am1_need_start ?im1_need_start ?lm1_need_start ?cm1_need_start ?km1_need_start ?am1_way ?im1_way ?lm1_way ?cm1_way ?km1_way ?am1_put ?im1_put ?lm1_put ?cm1_put ?km1_put ?am1_has ?im1_has ?lm1_has ?cm1_has ?km1_has ?am1_stretches ?im1_stretches ?lm1_stretches ?cm1_stretches ?km1_stretches ?lDm1_stretches ?am1_rows ?im1_rows ?lm1_rows ?cm1_rows ?km1_rows ?z_isinstance ?z_len ?z_int ?z_bool ?z_str ?z_list ?z_tuple ?z_dict ?z_set ?z_range ?z_enumerate ?z_sorted ?z_any ?z_all ?z_sum ?z_min ?z_max ?z_ValueError ?y_MOST_WIDTH ?y_MOST_ROAD ?y_BITS ?y_FIGURES ?y_MOST_FIGURES ?y_NOTHING ?aL ?lL ?cL ?hhl_text ?hnl_text (PySem.W.km_tabs_of Y) ?xa_RoadsError ?xb_RoadsError ?xd_RoadsError ?xt_RoadsError ?xn ?xk ?xa_BadWidth ?xi_BadWidth ?xt_BadWidth ?xa_BadWord ?xi_BadWord ?xt_BadWord ?xa_BadStart ?xi_BadStart ?xt_BadStart ?xa_BadRoad ?xi_BadRoad ?xt_BadRoad ?xa_BadSteps ?xi_BadSteps ?xt_BadSteps ?xa_NoRow ?xi_NoRow ?xt_NoRow ?xa_BadText ?xi_BadText ?xt_BadText ?xp_BadText ?xb_BadText ?xg_BadText ?xh_BadText ?xd_BadText ?xc_BadText ?xm_BadText ?xv_BadText ?xr_BadText ?xs_BadText_BadWidth ?xs_BadText_BadWord ?xs_BadText_BadStart ?xs_BadText_BadRoad ?xs_BadText_BadSteps ?xs_BadText_NoRow ?xs_BadText_BadText ?xo_BadText ?xsa_BadText ?xpl_BadText ?ax_BadText ?ix_BadText ?lx_BadText ?cx_BadText ?kx_BadText ?xrd ?xrg ?xri
    (case ad0 => k_is)
    (case ld0 => k_is)
    (case cd0 => k_is)
    (case kd0 => k_is)
    (case ad1 => k_is)
    (case ld1 => k_is)
    (case cd1 => k_is)
    (case kd1 => k_is)
    (case ad2 => k_is)
    (case ld2 => k_is)
    (case cd2 => k_is)
    (case kd2 => k_is)
    (case ad3 => k_is)
    (case ld3 => k_is)
    (case cd3 => k_is)
    (case kd3 => k_is)
    (case ad4 => k_is)
    (case ld4 => k_is)
    (case cd4 => k_is)
    (case kd4 => k_is)
    (case ad5 => k_is)
    (case ld5 => k_is)
    (case cd5 => k_is)
    (case kd5 => k_is)
    (case ad6 => k_is)
    (case ld6 => k_is)
    (case cd6 => k_is)
    (case kd6 => k_is)
    (case ad7 => k_is)
    (case ld7 => k_is)
    (case cd7 => k_is)
    (case kd7 => k_is)
    (case ad8 => k_is)
    (case ld8 => k_is)
    (case cd8 => k_is)
    (case kd8 => k_is)
    (case ad9 => k_is)
    (case ld9 => k_is)
    (case cd9 => k_is)
    (case kd9 => k_is)
    (case ad10 => k_is)
    (case ld10 => k_is)
    (case cd10 => k_is)
    (case kd10 => k_is)
    (case ad11 => k_is)
    (case ld11 => k_is)
    (case cd11 => k_is)
    (case kd11 => k_is)
    (case ad12 => k_is)
    (case ld12 => k_is)
    (case cd12 => k_is)
    (case kd12 => k_is)
    (case ad13 => k_is)
    (case ld13 => k_is)
    (case cd13 => k_is)
    (case kd13 => k_is)
    (case ad14 => k_is)
    (case ld14 => k_is)
    (case cd14 => k_is)
    (case kd14 => k_is)
    (case ad15 => k_is)
    (case ld15 => k_is)
    (case cd15 => k_is)
    (case kd15 => k_is)
    (case ad16 => k_is)
    (case ld16 => k_is)
    (case cd16 => k_is)
    (case kd16 => k_is)
    (case ad17 => k_is)
    (case ld17 => k_is)
    (case cd17 => k_is)
    (case kd17 => k_is)
    (case ad18 => k_is)
    (case ld18 => k_is)
    (case cd18 => k_is)
    (case kd18 => k_is)
    (case ad19 => k_is)
    (case ld19 => k_is)
    (case cd19 => k_is)
    (case kd19 => k_is)
    (case ad20 => k_is)
    (case ld20 => k_is)
    (case cd20 => k_is)
    (case kd20 => k_is)
    (case ad21 => k_is)
    (case ld21 => k_is)
    (case cd21 => k_is)
    (case kd21 => k_is)
    (case ad22 => k_is)
    (case ld22 => k_is)
    (case cd22 => k_is)
    (case kd22 => k_is)
    (case ad23 => k_is)
    (case ld23 => k_is)
    (case cd23 => k_is)
    (case kd23 => k_is)
    (case ad24 => k_is)
    (case ld24 => k_is)
    (case cd24 => k_is)
    (case kd24 => k_is)
    (case ad25 => k_is)
    (case ld25 => k_is)
    (case cd25 => k_is)
    (case kd25 => k_is)
    (case ad26 => k_is)
    (case ld26 => k_is)
    (case cd26 => k_is)
    (case kd26 => k_is)
    (case aC0 => k_is)
    (case pg0 => k_is)
    (case hd0 => k_is)
    (case po0 => k_is)
    (case sa0 => k_is)
    (case mk0 => k_is)
    (case kc0 => k_is)
    (case n0_kids => k_is)
    (case n0_goal => k_is)
    (case eqK => k_is)
    (case am0_init => k_is)
    (case im0_init => k_is)
    (case lm0_init => k_is)
    (case cm0_init => k_is)
    (case km0_init => k_is)
    (case aC1 => k_is)
    (case pg1 => k_is)
    (case hd1 => k_is)
    (case po1 => k_is)
    (case sa1 => k_is)
    (case mk1 => k_is)
    (case kc1 => k_is)
    (case n1_wide => k_is)
    (case n1_top => k_is)
    (case n1_amount => k_is)
    (case ica => k_is)
    (case icn => k_is)
    (case ict => k_is)
    (case icm => k_is)
    (case am1_init => k_is)
    (case im1_init => k_is)
    (case lm1_init => k_is)
    (case cm1_init => k_is)
    (case km1_init => k_is)
    (case am1_width => k_is)
    (case im1_width => k_is)
    (case lm1_width => k_is)
    (case cm1_width => k_is)
    (case km1_width => k_is)
    (case am1_many => k_is)
    (case im1_many => k_is)
    (case lm1_many => k_is)
    (case cm1_many => k_is)
    (case km1_many => k_is)
    (case am1_need_start => k_is)
    (case im1_need_start => k_is)
    (case lm1_need_start => k_is)
    (case cm1_need_start => k_is)
    (case km1_need_start => k_is)
    (case am1_way => k_is)
    (case im1_way => k_is)
    (case lm1_way => k_is)
    (case cm1_way => k_is)
    (case km1_way => k_is)
    (case am1_put => k_is)
    (case im1_put => k_is)
    (case lm1_put => k_is)
    (case cm1_put => k_is)
    (case km1_put => k_is)
    (case am1_has => k_is)
    (case im1_has => k_is)
    (case lm1_has => k_is)
    (case cm1_has => k_is)
    (case km1_has => k_is)
    (case am1_stretches => k_is)
    (case im1_stretches => k_is)
    (case lm1_stretches => k_is)
    (case cm1_stretches => k_is)
    (case km1_stretches => k_is)
    (case lDm1_stretches => k_is)
    (case am1_rows => k_is)
    (case im1_rows => k_is)
    (case lm1_rows => k_is)
    (case cm1_rows => k_is)
    (case km1_rows => k_is)
    (case z_isinstance => k_is)
    (case z_len => k_is)
    (case z_int => k_is)
    (case z_bool => k_is)
    (case z_str => k_is)
    (case z_list => k_is)
    (case z_tuple => k_is)
    (case z_dict => k_is)
    (case z_set => k_is)
    (case z_range => k_is)
    (case z_enumerate => k_is)
    (case z_sorted => k_is)
    (case z_any => k_is)
    (case z_all => k_is)
    (case z_sum => k_is)
    (case z_min => k_is)
    (case z_max => k_is)
    (case z_ValueError => k_is)
    (case y_MOST_WIDTH => k_is)
    (case y_MOST_ROAD => k_is)
    (case y_BITS => k_is)
    (case y_FIGURES => k_is)
    (case y_MOST_FIGURES => k_is)
    (case y_NOTHING => k_is)
    (case aL => k_is)
    (case lL => k_is)
    (case cL => k_is)
    (case xa_RoadsError => k_is)
    (case xb_RoadsError => k_is)
    (case xd_RoadsError => k_is)
    (case xt_RoadsError => k_is)
    (case xn => k_is)
    (case xk => k_is)
    (case xa_BadWidth => k_is)
    (case xi_BadWidth => k_is)
    (case xt_BadWidth => k_is)
    (case xa_BadWord => k_is)
    (case xi_BadWord => k_is)
    (case xt_BadWord => k_is)
    (case xa_BadStart => k_is)
    (case xi_BadStart => k_is)
    (case xt_BadStart => k_is)
    (case xa_BadRoad => k_is)
    (case xi_BadRoad => k_is)
    (case xt_BadRoad => k_is)
    (case xa_BadSteps => k_is)
    (case xi_BadSteps => k_is)
    (case xt_BadSteps => k_is)
    (case xa_NoRow => k_is)
    (case xi_NoRow => k_is)
    (case xt_NoRow => k_is)
    (case xa_BadText => k_is)
    (case xi_BadText => k_is)
    (case xt_BadText => k_is)
    (case xp_BadText => k_is)
    (case xb_BadText => k_is)
    (case xg_BadText => k_is)
    (case xh_BadText => k_is)
    (case xd_BadText => k_is)
    (case xc_BadText => k_is)
    (case xm_BadText => k_is)
    (case xv_BadText => k_is)
    (case xr_BadText => k_is)
    (case xs_BadText_BadWidth => k_is)
    (case xs_BadText_BadWord => k_is)
    (case xs_BadText_BadStart => k_is)
    (case xs_BadText_BadRoad => k_is)
    (case xs_BadText_BadSteps => k_is)
    (case xs_BadText_NoRow => k_is)
    (case xs_BadText_BadText => k_is)
    (case xsa_BadText => k_is)
    (case xpl_BadText => k_is)
    (case ax_BadText => k_is)
    (case ix_BadText => k_is)
    (case lx_BadText => k_is)
    (case cx_BadText => k_is)
    (case kx_BadText => k_is)
    (case xrg => k_is)
    (case xri => k_is)
    (case hhl_text => kernel_rfl)
    (case hnl_text => kernel_rfl)
    (case xo_BadText => kernel_rfl)
    (case xrd => kernel_rfl)
#print axioms PySem.Challenge.cw_bitroads_k13_texts_refused_holds
