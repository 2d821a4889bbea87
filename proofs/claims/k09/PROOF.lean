import PyProof.Rows.All
import Wide.All
import OpenK.AllK
import Wide.FinOn
import HandS.ForMost
import HandS.Codes
import HandS.Walk
import HandS.IsInst
import HandS.Deep
import HandS.TupAny
import HandS.SortInts
import HandS.Replace
import HandS.NoneIn
import HandS.DictComp
import HandS.WideBits
import HandS.Wide
import HandS.Conv
import PyProof.ListStr
import HandS.Nested
import HandS.Star
import HandS.More
import HandS.Defaults
import HandS.Dict
import HandS.Strs
import HandS.Set
import HandS.SetFor
import HandS.Style
import HandS.Lambda
import HandS.EndTab
import PySem.Challenge.RW_bitroads_k09_no_fewer_rows
set_option Elab.async false
set_option linter.all false
set_option maxRecDepth 100000
set_option maxHeartbeats 4000000
/-! Ground for all laws of this program: texts of bits, things of a told kind, words for readings. -/
namespace Br
open PySem PySem.Spec PyProof.Rows L2

/-! ### short tactics: steps of a reading that ask nothing new -/
local macro_rules | `(tactic| walk_at "v") => `(tactic| refine ⟨_, rfl, ?_⟩)
local macro_rules | `(tactic| walk_at "go") => `(tactic| repeat (first
  | refine ⟨_, rfl, ?_⟩
  | refine ⟨_, _, rfl, rfl, ?_⟩
  | refine ⟨_, _, rfl, rfl, (by show (0 : Int) < _; decide), ?_⟩
  | refine ⟨_, _, rfl, rfl, ⟨by decide, by decide⟩, ?_⟩
  | refine ⟨_, _, rfl, rfl, .inr ⟨by decide, by decide⟩, ?_⟩
  | refine ⟨_, _, rfl, rfl, .inl ⟨by decide, by decide⟩, ?_⟩))

/-! ### texts of bits -/
def bc (b : Bool) : Nat := if b then 49 else 48
def tx (l : List Bool) : Str := ⟨(l.map bc).toArray⟩
theorem bc_inj {a b : Bool} (h : bc a = bc b) : a = b := by cases a <;> cases b <;> simp [bc] at h <;> rfl
theorem tx_len (l : List Bool) : (tx l).length = l.length := by show ((l.map bc).toArray).size = _; simp
theorem tx_cps (l : List Bool) : (tx l).cps.toList = l.map bc := rfl
theorem tx_inj {a b : List Bool} (h : tx a = tx b) : a = b := by
  have e : (tx a).cps.toList = (tx b).cps.toList := by rw [h]
  rw [tx_cps, tx_cps] at e
  induction a generalizing b with
  | nil => cases b with
    | nil => rfl
    | cons y b => cases e
  | cons x a ih => cases b with
    | nil => cases e
    | cons y b =>
      rw [List.map_cons, List.map_cons] at e
      injection e with e1 e2
      rw [bc_inj e1, ih (by show (⟨_⟩ : Str) = ⟨_⟩; rw [e2]) e2]
theorem tx_eq (a b : List Bool) : (tx a = tx b) ↔ a = b := ⟨tx_inj, fun h => by rw [h]⟩
theorem tx_get {l : List Bool} {i c : Nat} (h : (tx l).cps[i]? = some c) : ∃ b, l[i]? = some b ∧ c = bc b := by
  have e : (l.map bc)[i]? = some c := by
    have z : ((l.map bc).toArray)[i]? = some c := h
    simpa using z
  rw [List.getElem?_map] at e
  cases q : l[i]? with
  | none => rw [q] at e; cases e
  | some b => rw [q] at e; exact ⟨b, rfl, (Option.some.inj e).symm⟩
theorem tx_append (a b : List Bool) : tx a ++ tx b = tx (a ++ b) := by
  show (⟨(tx a).cps ++ (tx b).cps⟩ : Str) = tx (a ++ b)
  unfold tx
  simp
theorem tx_nil : tx [] = ("" : Str) := by decide +kernel
theorem tx_0 : tx [false] = ("0" : Str) := by decide +kernel
theorem tx_1 : tx [true] = ("1" : Str) := by decide +kernel
theorem tx_01 : tx [false, true] = ("01" : Str) := by decide +kernel
theorem tx_10 : tx [true, false] = ("10" : Str) := by decide +kernel
theorem take_cps (z : Str) : z.cps.toList.take z.cps.size = z.cps.toList := by
  rw [← Array.length_toList, List.take_length]
/-- one sign of such a text -/
theorem tx_one (b : Bool) : (⟨#[bc b]⟩ : Str) = tx [b] := by cases b <;> rfl
/-- the number of a text of bits -/
def numF (n : Nat) (l : List Bool) : Nat := l.foldl (fun n b => 2 * n + (if b then 1 else 0)) n
def num (l : List Bool) : Nat := numF 0 l
theorem num_snoc (l : List Bool) (b : Bool) : num (l ++ [b]) = 2 * num l + (if b then 1 else 0) := by
  unfold num numF
  rw [List.foldl_append]
  rfl
theorem numF_eq (l : List Bool) : ∀ n, numF n l = n * 2 ^ l.length + num l := by
  induction l with
  | nil => intro n; simp [numF, num]
  | cons b l ih =>
    intro n
    have e1 : numF n (b :: l) = numF (2 * n + (if b then 1 else 0)) l := rfl
    have e2 : num (b :: l) = numF (0 + (if b then 1 else 0)) l := rfl
    rw [e1, e2, ih, ih, List.length_cons, Nat.pow_succ]
    have h1 : (2 * n + (if b then 1 else 0)) * 2 ^ l.length = n * (2 ^ l.length * 2) + (if b then 1 else 0) * 2 ^ l.length := by
      rw [Nat.add_mul, Nat.mul_comm 2 n, Nat.mul_assoc, Nat.mul_comm 2]
    rw [h1, Nat.zero_add]
    omega
theorem num_cons (b : Bool) (l : List Bool) : num (b :: l) = (if b then 1 else 0) * 2 ^ l.length + num l := by
  have e : num (b :: l) = numF (0 + (if b then 1 else 0)) l := rfl
  rw [e, numF_eq, Nat.zero_add]
theorem num_append (a b : List Bool) : num (a ++ b) = num a * 2 ^ b.length + num b := by
  have e : num (a ++ b) = numF (num a) b := by unfold num numF; rw [List.foldl_append]
  rw [e, numF_eq]
theorem num_lt (l : List Bool) : num l < 2 ^ l.length := by
  induction l with
  | nil => simp [num, numF]
  | cons b l ih =>
    rw [num_cons, List.length_cons, Nat.pow_succ]
    cases b
    · simp only [Bool.false_eq_true, if_false]; omega
    · simp only [if_true]; omega
theorem num_inj {a b : List Bool} (hl : a.length = b.length) (h : num a = num b) : a = b := by
  induction a generalizing b with
  | nil => cases b with
    | nil => rfl
    | cons y b => cases hl
  | cons x a ih => cases b with
    | nil => cases hl
    | cons y b =>
      have hl' : a.length = b.length := by simpa using hl
      rw [num_cons, num_cons, hl'] at h
      have h1 := num_lt a
      have h2 := num_lt b
      rw [hl'] at h1
      cases x <;> cases y
      · rw [ih hl' (by simpa using h)]
      · simp at h; omega
      · simp at h; omega
      · rw [ih hl' (by simpa using h)]
/-- the word of a number -/
def word (n w : Nat) : List Bool := (List.range w).map fun i => decide (n / 2 ^ (w - 1 - i) % 2 = 1)
theorem word_len (n w : Nat) : (word n w).length = w := by unfold word; simp
theorem word_succ (n w : Nat) : word n (w + 1) = word (n / 2) w ++ [decide (n % 2 = 1)] := by
  unfold word
  rw [List.range_succ, List.map_append]
  congr 1
  · refine List.map_congr_left fun i hi => ?_
    have hi := List.mem_range.mp hi
    have e : w + 1 - 1 - i = (w - 1 - i) + 1 := by omega
    rw [e, Nat.pow_succ, Nat.mul_comm, Nat.div_div_eq_div_mul]
  · simp
theorem num_word : ∀ (w n : Nat), num (word n w) = n % 2 ^ w
  | 0, n => by simp [word, num, numF, Nat.mod_one]
  | w + 1, n => by
    rw [word_succ, num_snoc, num_word w]
    have h1 : n % 2 ^ (w + 1) = 2 * (n / 2 % 2 ^ w) + n % 2 := by
      rw [Nat.pow_succ, Nat.mul_comm, Nat.mod_mul]
      omega
    rw [h1]
    rcases Nat.mod_two_eq_zero_or_one n with h | h <;> simp [h]
theorem word_num (l : List Bool) : word (num l) l.length = l :=
  num_inj (word_len _ _) (by rw [num_word, Nat.mod_eq_of_lt (num_lt l)])

theorem sjoin_tx : ∀ l : List Bool, Str.join ("" : Str) (l.map fun b => tx [b]) = tx l
  | [] => by rw [tx_nil]; rfl
  | [_] => rfl
  | b :: c :: r => by
    show tx [b] ++ ("" : Str) ++ Str.join ("" : Str) ((c :: r).map fun b => tx [b]) = _
    rw [sjoin_tx (c :: r), ← tx_nil, tx_append, tx_append]
    rfl
theorem join_tx (l : List Bool) : Txt.join ("" : Str) (l.map fun b => tx [b]) = tx l := (TL.join_eq _ _).trans (sjoin_tx l)

theorem tx_lens (l : List Bool) : ((l.map fun b => tx [b]).map (·.length)).sum = l.length := by
  induction l with
  | nil => rfl
  | cons b l ih =>
    rw [List.map_cons, List.map_cons, List.sum_cons, ih, List.length_cons, tx_len]
    simp only [List.length_cons, List.length_nil]
    omega
theorem len_empty : (Str.ofString "").length = 0 := by decide +kernel

/-! ### things of a told kind -/
inductive Thing (H : Hp) : V → Prop
  | non : Thing H .non
  | bl (b : Bool) : Thing H (.bl b)
  | int (i : Int) : Thing H (.int i)
  | str (z : Str) (h : z.length ≤ 100000) (h2 : z.cps.toList.all (fun c => decide (c < 1114112)) = true) : Thing H (.str z)
  | lst {a : Addr} {xs : List V} (h : H a = some (.lst xs)) : Thing H (.ref a)
  | tup {a : Addr} {xs : List V} (h : H a = some (.tup xs)) : Thing H (.ref a)
  | dct {a : Addr} {kvs : List (Key × V)} (h : H a = some (.dK kvs)) : Thing H (.ref a)
theorem Thing.same {H H' : Hp} (e : Same H H') {x : V} (t : Thing H x) : Thing H' x := by
  cases t with
  | non => exact .non
  | bl b => exact .bl b
  | int i => exact .int i
  | str z h h2 => exact .str z h h2
  | lst h => exact .lst (e _ _ h)
  | tup h => exact .tup (e _ _ h)
  | dct h => exact .dct (e _ _ h)
def kind : V → String
  | .non => "NoneType" | .bl _ => "bool" | .int _ => "int" | .str _ => "str" | _ => "other"
theorem Thing.ty {K : PySem.W.Frag} {H : Hp} {x : V} (t : Thing H x) : ∃ n, TyX K H x (.type n) ∧ (kind x = n ∨ (kind x = "other" ∧ (n = "list" ∨ n = "tuple" ∨ n = "dict"))) := by
  cases t with
  | non => exact ⟨_, .base .non, .inl rfl⟩
  | bl b => exact ⟨_, .base (.bl b), .inl rfl⟩
  | int i => exact ⟨_, .base (.int i), .inl rfl⟩
  | str z => exact ⟨_, .base (.str z), .inl rfl⟩
  | lst h => exact ⟨_, .base (.lst h), .inr ⟨rfl, .inl rfl⟩⟩
  | tup h => exact ⟨_, .base (.tup h), .inr ⟨rfl, .inr (.inl rfl)⟩⟩
  | dct h => exact ⟨_, .base (.dK h), .inr ⟨rfl, .inr (.inr rfl)⟩⟩
def isI : V → Bool
  | .int _ => true | .bl _ => true | _ => false
def isB : V → Bool
  | .bl _ => true | _ => false
def isS : V → Bool
  | .str _ => true | _ => false
theorem Thing.isInt {K : PySem.W.Frag} {H : Hp} {x : V} (t : Thing H x) : ∃ n, TyX K H x (.type n) ∧ PySem.W.kitOne K (.type n) (.type "int") = some (isI x) := by
  cases t with
  | non => exact ⟨_, .base .non, kit_ty (r := false) (by decide +kernel)⟩
  | bl b => exact ⟨_, .base (.bl b), kit_ty (r := true) (by decide +kernel)⟩
  | int i => exact ⟨_, .base (.int i), kit_ty (r := true) (by decide +kernel)⟩
  | str z => exact ⟨_, .base (.str z), kit_ty (r := false) (by decide +kernel)⟩
  | lst h => exact ⟨_, .base (.lst h), kit_ty (r := false) (by decide +kernel)⟩
  | tup h => exact ⟨_, .base (.tup h), kit_ty (r := false) (by decide +kernel)⟩
  | dct h => exact ⟨_, .base (.dK h), kit_ty (r := false) (by decide +kernel)⟩
theorem Thing.isBool {K : PySem.W.Frag} {H : Hp} {x : V} (t : Thing H x) : ∃ n, TyX K H x (.type n) ∧ PySem.W.kitOne K (.type n) (.type "bool") = some (isB x) := by
  cases t with
  | non => exact ⟨_, .base .non, kit_ty (r := false) (by decide +kernel)⟩
  | bl b => exact ⟨_, .base (.bl b), kit_ty (r := true) (by decide +kernel)⟩
  | int i => exact ⟨_, .base (.int i), kit_ty (r := false) (by decide +kernel)⟩
  | str z => exact ⟨_, .base (.str z), kit_ty (r := false) (by decide +kernel)⟩
  | lst h => exact ⟨_, .base (.lst h), kit_ty (r := false) (by decide +kernel)⟩
  | tup h => exact ⟨_, .base (.tup h), kit_ty (r := false) (by decide +kernel)⟩
  | dct h => exact ⟨_, .base (.dK h), kit_ty (r := false) (by decide +kernel)⟩
theorem Thing.isStr {K : PySem.W.Frag} {H : Hp} {x : V} (t : Thing H x) : ∃ n, TyX K H x (.type n) ∧ PySem.W.kitOne K (.type n) (.type "str") = some (isS x) := by
  cases t with
  | non => exact ⟨_, .base .non, kit_ty (r := false) (by decide +kernel)⟩
  | bl b => exact ⟨_, .base (.bl b), kit_ty (r := false) (by decide +kernel)⟩
  | int i => exact ⟨_, .base (.int i), kit_ty (r := false) (by decide +kernel)⟩
  | str z => exact ⟨_, .base (.str z), kit_ty (r := true) (by decide +kernel)⟩
  | lst h => exact ⟨_, .base (.lst h), kit_ty (r := false) (by decide +kernel)⟩
  | tup h => exact ⟨_, .base (.tup h), kit_ty (r := false) (by decide +kernel)⟩
  | dct h => exact ⟨_, .base (.dK h), kit_ty (r := false) (by decide +kernel)⟩
theorem sok_tx (l : List Bool) : (tx l).cps.toList.all (fun c => decide (c < 1114112)) = true := by
  rw [tx_cps, List.all_map, List.all_eq_true]
  intro b _
  cases b <;> rfl
theorem thing_tx {H : Hp} {l : List Bool} (h : l.length ≤ 100000) : Thing H (.str (tx l)) := .str _ (by rw [tx_len]; exact h) (sok_tx l)
/-- a whole number from lo to hi -/
def isAmong (x : V) (lo hi : Int) : Bool := match x with
  | .int i => decide (lo ≤ i) && decide (i ≤ hi)
  | _ => false
/-- a text of so many bits -/
def isBits (x : V) (lo hi : Int) : Bool := match x with
  | .str z => decide (lo ≤ (z.length : Int)) && decide ((z.length : Int) ≤ hi) && z.cps.toList.all (fun c => decide (c = 48 ∨ c = 49))
  | _ => false
theorem bits_tx (l : List Bool) : (tx l).cps.toList.all (fun c => decide (c = 48 ∨ c = 49)) = true := by
  rw [tx_cps, List.all_map, List.all_eq_true]
  intro b _
  cases b <;> rfl
theorem isBits_tx (l : List Bool) (lo hi : Int) : isBits (.str (tx l)) lo hi = (decide (lo ≤ (l.length : Int)) && decide ((l.length : Int) ≤ hi)) := by
  show (decide (lo ≤ ((tx l).length : Int)) && decide (((tx l).length : Int) ≤ hi) && (tx l).cps.toList.all (fun c => decide (c = 48 ∨ c = 49))) = _
  rw [bits_tx, tx_len, Bool.and_true]
theorem bits_of {z : Str} (h : z.cps.toList.all (fun c => decide (c = 48 ∨ c = 49)) = true) : ∃ l, z = tx l := by
  refine ⟨z.cps.toList.map fun c => decide (c = 49), ?_⟩
  have e : (z.cps.toList.map fun c => decide (c = 49)).map bc = z.cps.toList := by
    rw [List.map_map]
    refine (List.map_congr_left fun c hc => ?_).trans (List.map_id _)
    have q := of_decide_eq_true (List.all_eq_true.mp h c hc)
    rcases q with q | q <;> subst q <;> rfl
  obtain ⟨a⟩ := z
  show (⟨a⟩ : Str) = ⟨_⟩
  rw [e]

/-! ### shifts of numbers that are not negative -/
section
variable {X : Cx}
theorem op_shl1 : OpR X (binaryOp .LShift) (fun x y H Q => ∃ n k : Nat, x = .int (n : Int) ∧ y = .int (k : Int) ∧ k ≤ 1000 ∧ n < 2 ^ 64 ∧ Q (.int ((n * 2 ^ k : Nat) : Int)) H) := by
  intro pins s σ H x y v u Q I rx ry h
  obtain ⟨n, k, rfl, rfl, hk, hn, q⟩ := h
  refine op_shl pins s σ H _ _ v u Q I rx ry ⟨_, _, rfl, rfl, ⟨by omega, by omega, by omega⟩, ?_⟩
  have e : ((n : Int) * 2 ^ (k : Int).toNat) = ((n * 2 ^ k : Nat) : Int) := by
    rw [Int.toNat_natCast, Int.natCast_mul, Int.natCast_pow]
    rfl
  show Q (.int ((n : Int) * 2 ^ (k : Int).toNat)) H
  rw [e]
  exact q
end
theorem pow_pos2 (k : Nat) : 0 < 2 ^ k := Nat.pow_pos (by decide)
theorem mul64 {n : Nat} {j : Int} (h : n < 2 ^ 64) : CMul (n : Int) j := .inl ⟨by omega, by omega⟩
theorem pow64 {l : List Bool} {v : Nat} (h : l.length ≤ v) (hv : v ≤ 64) : num l < 2 ^ 64 :=
  Nat.lt_of_lt_of_le (num_lt l) (Nat.pow_le_pow_right (by decide) (Nat.le_trans h hv))

/-! ### data that may be compared -/
def DOk (k : Nat) (d : PyData) : Prop := PyData.canLay0 d = true ∧ PyData.depth d ≤ k
theorem dok_none {k : Nat} : DOk k .none := ⟨by simp only [PyData.canLay0], by simp only [PyData.depth]; omega⟩
theorem dok_bool {k : Nat} (b : Bool) : DOk k (.bool b) := ⟨by simp only [PyData.canLay0], by simp only [PyData.depth]; omega⟩
theorem dok_int {k : Nat} (i : Int) : DOk k (.int i) := ⟨by simp only [PyData.canLay0], by simp only [PyData.depth]; omega⟩
theorem dok_str {k : Nat} {z : Str} (h : z.cps.toList.all (fun c => decide (c < 1114112)) = true) : DOk k (.str z) := ⟨by
  simp only [PyData.canLay0]
  show z.cps.all (fun c => decide (c < 0x110000)) = true
  rw [← Array.all_toList]
  exact h, by simp only [PyData.depth]; omega⟩
theorem canAll {ds : List PyData} (h : ∀ d ∈ ds, PyData.canLay0 d = true) : PyData.canLayAll0 ds = true := by
  induction ds with
  | nil => simp only [PyData.canLayAll0]
  | cons d ds ih => simp only [PyData.canLayAll0, h d List.mem_cons_self, ih fun x hx => h x (List.mem_cons_of_mem _ hx), Bool.and_self]
theorem depAll {ds : List PyData} {k : Nat} (h : ∀ d ∈ ds, PyData.depth d ≤ k) : PyData.depthAll ds ≤ k := by
  induction ds with
  | nil => simp only [PyData.depthAll]; omega
  | cons d ds ih =>
    have h1 := h d List.mem_cons_self
    have h2 := ih fun x hx => h x (List.mem_cons_of_mem _ hx)
    simp only [PyData.depthAll]
    omega
theorem dok_list {k : Nat} {ds : List PyData} (h : ∀ d ∈ ds, DOk k d) : DOk (k + 1) (.list ds) :=
  ⟨by simp only [PyData.canLay0]; exact canAll fun d hd => (h d hd).1, by have := depAll fun d hd => (h d hd).2; simp only [PyData.depth]; omega⟩
theorem dok_tup {k : Nat} {ds : List PyData} (h : ∀ d ∈ ds, DOk k d) : DOk (k + 1) (.tuple ds) :=
  ⟨by simp only [PyData.canLay0]; exact canAll fun d hd => (h d hd).1, by have := depAll fun d hd => (h d hd).2; simp only [PyData.depth]; omega⟩
theorem DOk.shaped {k : Nat} {d : PyData} (h : DOk k d) (hk : k ≤ 64 := by decide) : SeqAt.shaped d = true := by
  show (PyData.canLay0 d && decide (PyData.depth d ≤ 64)) = true
  rw [h.1, decide_eq_true (Nat.le_trans h.2 hk)]
  rfl
theorem eqv_nil (ds : List PyData) : PyData.eqv (.list ds) (.list []) = ds.isEmpty := by cases ds <;> simp [PyData.eqv, PyData.eqvAll]

/-! ### heaps -/
theorem Same_upd {H H' : Hp} {p : Addr} {o : HO} (s : Same H H') (h : H' p = none) : Same H (upd H' p o) := fun b u e => by
  rw [upd_ne (ne_of_none (s _ _ e) h)]
  exact s _ _ e
/-- an object made since may change -/
theorem Same_mut {H H' : Hp} {p : Addr} {o : HO} (s : Same H H') (h : H p = none) : Same H (upd H' p o) := fun b u e => by
  rw [upd_ne (ne_of_none e h)]
  exact s _ _ e
theorem Same_t {H H1 H2 : Hp} (a : Same H H1) (b : Same H1 H2) : Same H H2 := fun c o h => b c o (a c o h)

/-! ### comprehensions whose turns leave the heap but for what they make: F i is the list behind i turns -/
def PvF (H1 : Hp) (D : Addr) (F : Nat → List V) (i : Nat) (H : Hp) : Prop := Same H1 H ∧ H D = some (.lst (F i))
section
variable {H1 H : Hp} {D : Addr} {F : Nat → List V} {i : Nat} {y : V}
theorem pv0 (hD : H1 D = none) (hF : F 0 = [] := by rfl) : PvF H1 D F 0 (upd H1 D (.lst [])) := ⟨Same_upd (Same.refl H1) hD, by rw [hF]; exact upd_same⟩
theorem pv_in (hD : H1 D = none) (s : Same H1 H) (h : H D = some (.lst (F i))) (hl : (F i).length < 100000) (e : F (i + 1) = F i ++ [y]) :
    ∃ acc, H D = some (.lst acc) ∧ acc.length < sizeLine ∧ PvF H1 D F (i + 1) (upd H D (.lst (acc ++ [y]))) :=
  ⟨_, h, Nat.lt_trans hl (by decide), Same_mut s hD, by rw [e]; exact upd_same⟩
theorem pv_out (s : Same H1 H) (h : H D = some (.lst (F i))) (e : F (i + 1) = F i) : PvF H1 D F (i + 1) H := ⟨s, by rw [e]; exact h⟩
end
/-- a comprehension without a test -/
theorem yesI {A B : Hp → Prop} {σ : L2.St} {H : Hp} (h : A H) : tYes σ H (fun b H3 => if b = true then A H3 else B H3) := iteT (B := B H) h
/-- the first i of a list -/
theorem take_snoc {α : Type} {l : List α} {i : Nat} {x : α} (h : l[i]? = some x) : l.take (i + 1) = l.take i ++ [x] := by
  rw [List.take_add_one, h]
  rfl
end Br

/-! Rules that the hand layer lacks: list(text), text * int, dict != {}. -/
namespace Br
open PySem PySem.Spec PyProof.Rows L2
section
variable {X : Cx}
/-- list(text): its signs -/
theorem call_list_str (hc : X.calm = true) : CallR X (.type "list") (fun xs H Q => ∃ z, xs = [.str z] ∧ z.length ≤ 100000 ∧ ∀ q, H q = none → Q (.ref q) (upd H q (.lst (z.cps.toList.map fun c => V.str ⟨#[c]⟩)))) := by
  intro pins s σ H xs us Q I r h
  obtain ⟨z, rfl, hz, q⟩ := h
  obtain ⟨u, rfl, rx⟩ := vals1 r
  obtain ⟨t, rfl⟩ := rx
  have hz' : z.cps.size ≤ 100000 := hz
  refine PySem.call_list_str (I.ok.hd hc) z t (fun h' tk acc' c' hkeep hS hacc => ?_) (Nat.le_trans hz' (by decide))
  refine ⟨.ref s.heap.objs.size, upd H s.heap.objs.size (.lst (z.cps.toList.map fun c => V.str ⟨#[c]⟩)), I.laid hkeep (Nat.le_refl _) (show ObjOk X.prog X.w _ _ _ (.lst _) from ⟨?_, acc'.toList, c', ?_, ?_⟩), rfl, q _ (I.hok.fresh (Nat.le_refl _))⟩
  · rw [List.length_map, Array.length_toList]
    exact Nat.le_trans hz' (by decide)
  · refine vals_of_at (by rw [List.length_map, Array.length_toList, Array.length_toList, hacc.1]) fun j x w h1 h2 => ?_
    obtain ⟨c, u, hc2, e⟩ := hacc.2 j w (by rw [← Array.getElem?_toList]; exact h2)
    have e2 : z.cps.toList[j]? = some c := by rw [Array.getElem?_toList]; exact hc2
    rw [List.getElem?_map, e2] at h1
    cases h1
    exact ⟨u, e⟩
  · rw [Array.toArray_toList]
    exact hS
/-- a text a small number of times -/
theorem op_mul_si : OpR X (binaryOp .Mult) (fun x y H Q => ∃ (z : Str) (n : Int), x = .str z ∧ y = .int n ∧ z.length ≤ 1000 ∧ 0 ≤ n ∧ n ≤ 1000 ∧ Q (.str (Txt.mul z n)) H) := by
  intro pins s σ H x y v u Q I rx ry h
  obtain ⟨z, n, rfl, rfl, hz, h0, hn, q⟩ := h
  obtain ⟨t, rfl⟩ := rx
  obtain ⟨t', rfl⟩ := ry
  refine SB.mul ⟨?_, fun h1 _ => ?_, fun h1 _ => ?_⟩ fun t' k => ⟨.str (Txt.mul z n), H, I.tok _, ⟨_, rfl⟩, q⟩
  · rw [Bool.or_eq_false_iff]
    exact ⟨decide_eq_false (by omega), decide_eq_false (by omega)⟩
  · have a : n * (9223372036854775 : Int) ≤ 2 ^ 63 - 1 := by omega
    have : (9223372036854775 : Int) ≤ (2 ^ 63 - 1) / n := Int.le_ediv_of_mul_le (by omega) (by rw [Int.mul_comm]; exact a)
    omega
  · have e : z.length * n.toNat ≤ 1000 * 1000 := Nat.mul_le_mul hz (by omega)
    unfold Builtin.Str.tooLong
    rw [decide_eq_false_iff_not]
    have : 1000 * 1000 ≤ sizeLine := by decide
    omega
/-- rows != {} -/
theorem op_ne_d (hu : X.A.units + 1 < cLine) : OpR X (compareOp .NotEq) (fun x y H Q => ∃ a b ks, x = .ref a ∧ y = .ref b ∧ H a = some (.dK ks) ∧ H b = some (.dK []) ∧ Q (.bl (!ks.isEmpty)) H) := by
  intro pins s σ H x y v u Q I rx ry h
  obtain ⟨a, b, ks, rfl, rfl, ea, eb, q⟩ := h
  obtain rfl : v = Value.ref a := rx
  obtain rfl : u = Value.ref b := ry
  obtain ⟨_, ya, va, ra, da⟩ := (show ObjOk X.prog X.w H s.heap a (.dK ks) from I.hok a _ ea)
  obtain ⟨_, yb, vb, rb, db⟩ := (show ObjOk X.prog X.w H s.heap b (.dK []) from I.hok b _ eb)
  cases rb
  cases ks with
  | nil =>
    cases ra
    exact PySem.W.keq_ne (knd := mixKind X.prog X.w) (r := true) ya yb da db (by omega) (fun _ => .nil) (fin_bl I q rfl)
  | cons p ks =>
    cases ra with
    | cons h t => exact PySem.W.keq_ne (knd := mixKind X.prog X.w) (r := true) ya yb da db (by omega) (fun e => nomatch e) (fin_bl I q rfl)
theorem units1 {k : Nat} {A : Around} (r : Room k A) : A.units + 65 < cLine := by have := r.un; omega
/-! rules that name the frame, for bodies of comprehensions -/
theorem pe_fldK (K : PySem.W.Frag) {o : Expr} {ta : TE} {f : Str} {pos : Pos} (ha : PE X o ta) (hb : attributeBase o f X.env (eval o X.env) = eval o X.env) (hK : X.K = K := by rfl) : PE X (.Attribute o f pos) (tFld K ta f) := by
  subst hK
  exact pe_fld ha hb
theorem ix_listK (K : PySem.W.Frag) (hK : X.K = K := by rfl) : IxR X (rIxL K) := by subst hK; exact ix_list
theorem ix_tupK (K : PySem.W.Frag) (hK : X.K = K := by rfl) : IxR X (rIxT K) := by subst hK; exact ix_tup
theorem call_len_seqK (K : PySem.W.Frag) (hK : X.K = K := by rfl) : CallR X (.builtin "len") (fun xs H Q => ∃ p ys, xs = [.ref p] ∧ (SqL K H p ys ∨ SqT K H p ys) ∧ Q (.int ys.length) H) := by subst hK; exact call_len_seq
theorem call_isiK (K : PySem.W.Frag) (hK : X.K = K := by rfl) : CallR X (.builtin "isinstance") (rIsi K) := by subst hK; exact call_isi
theorem op_eqDK (K : PySem.W.Frag) (hu : X.A.units + 64 < cLine) (hK : X.K = K := by rfl) : OpR X (compareOp .Eq) (rEqD K) := by subst hK; exact op_eqD hu
theorem op_neDK (K : PySem.W.Frag) (hu : X.A.units + 64 < cLine) (hK : X.K = K := by rfl) : OpR X (compareOp .NotEq) (rNeD K) := by subst hK; exact op_neD hu
end
end Br

/-! A def within a def that is handed on (kept in a dict) and called in another def's body: what its cells hold is told by a wider base. -/
namespace Br
open PySem PySem.Spec PyProof.Rows L2
open NdefX (NF FnO NOk CellsAt Caps slotAt)
/-- what the captured cells hold, by the base -/
structure CellsB (cl : List (Str × Addr)) (fr : List Str) (ws : List (Option V)) (B : Heap) : Prop where
  len : ws.length = fr.length
  all : ∀ y c, cl.lookup y = some c → ∃ v, B.IsCell c v
  inj : ∀ x y c, cl.lookup x = some c → cl.lookup y = some c → x = y
  has : ∀ (i : Nat) (y : Str), fr[i]? = some y → ∃ c, cl.lookup y = some c ∧ ∀ v, ws[i]? = some (some v) → ∃ u, RelV v u ∧ B.IsCell c (some u)
theorem CellsB.now {X : Cx} {pins : List (Addr × Obj)} {σ : L2.St} {H : Hp} {s : Shared} {cl : List (Str × Addr)} {fr : List Str} {ws : List (Option V)} (C : CellsB cl fr ws X.base) (I : Inv X pins σ H s) : CellsAt cl fr ws s.heap H := by
  refine ⟨C.len, fun y c e => ?_, C.inj, fun i y e => ?_⟩
  · obtain ⟨v, o, ho, hd⟩ := C.all y c e
    exact ⟨(I.bs c o ho).2, v, o, (I.bs c o ho).1, hd⟩
  · obtain ⟨c, hc, hv⟩ := C.has i y e
    refine ⟨c, hc, fun v ev => ?_⟩
    obtain ⟨u, r, o, ho, hd⟩ := hv v ev
    exact ⟨u, r, o, (I.bs c o ho).1, hd⟩
/-- the heap with just the told addresses, no larger -/
theorem only (h : Heap) (p : Addr → Bool) : ∃ G : Heap, G.objs.size = h.objs.size ∧ ∀ b, G.get? b = if p b = true then h.get? b else none := by
  refine ⟨PySem.W.hideAll h ((List.range h.objs.size).filter fun b => !p b), PySem.W.hideAll_size _ _, fun b => ?_⟩
  by_cases hp : p b = true
  · rw [if_pos hp]
    cases e : h.get? b with
    | some o =>
      refine PySem.W.hideAll_get _ e fun hm => ?_
      have := (List.mem_filter.mp hm).2
      rw [hp] at this
      cases this
    | none =>
      cases q : (PySem.W.hideAll h ((List.range h.objs.size).filter fun b => !p b)).get? b with
      | none => rfl
      | some o => rw [PySem.W.of_hideAll _ q] at e; cases e
  · rw [if_neg hp]
    cases q : (PySem.W.hideAll h ((List.range h.objs.size).filter fun b => !p b)).get? b with
    | none => rfl
    | some o =>
      have hb := Heap.lt_size (PySem.W.of_hideAll _ q)
      rw [PySem.W.hideAll_none _ (List.mem_filter.mpr ⟨List.mem_range.mpr hb, by simpa using hp⟩)] at q
      cases q
/-- the cells of the running frame join the base -/
theorem env_wide {X : Cx} {pins : List (Addr × Obj)} {σ : L2.St} {H : Hp} {s : Shared} {cl : List (Str × Addr)} {fr : List Str} {js : List Nat} (I : Inv X pins σ H s) (c : Caps X cl fr js) (hfn : ∀ y, X.fn y = true) :
    ∃ B : Heap, (∀ b o, X.base.get? b = some o → B.get? b = some o) ∧ CellsB cl fr (js.map (slotAt σ)) B ∧ Env0 X.prog X.w X.K X.mg B X.A X.stack s H := by
  classical
  obtain ⟨G, gs, gg⟩ := only s.heap fun b => decide ((∃ o, X.base.get? b = some o) ∨ ∃ y, cl.lookup y = some b)
  have g1 : ∀ b, ((∃ o, X.base.get? b = some o) ∨ ∃ y, cl.lookup y = some b) → G.get? b = s.heap.get? b := fun b hb => by
    rw [gg b, if_pos (decide_eq_true hb)]
  have g2 : ∀ b o, G.get? b = some o → s.heap.get? b = some o ∧ ((∃ o, X.base.get? b = some o) ∨ ∃ y, cl.lookup y = some b) := fun b o e => by
    rw [gg b] at e
    split at e
    · rename_i hp
      exact ⟨e, of_decide_eq_true hp⟩
    · cases e
  have sub : ∀ b o, X.base.get? b = some o → G.get? b = some o := fun b o e => (g1 b (.inl ⟨o, e⟩)).trans (I.bk b o e)
  have C := NdefX.cells_of I c
  have cell : ∀ y a, cl.lookup y = some a → ∀ v, s.heap.IsCell a v → G.IsCell a v := fun y a e v hv => by
    obtain ⟨o, ho, hd⟩ := hv
    exact ⟨o, (g1 a (.inr ⟨y, e⟩)).trans ho, hd⟩
  refine ⟨G, sub, ⟨C.len, fun y a e => ?_, C.inj, fun i y e => ?_⟩, ?_⟩
  · obtain ⟨v, hv⟩ := (C.all y a e).2
    exact ⟨v, cell y a e v hv⟩
  · obtain ⟨a, ha, hv⟩ := C.has i y e
    refine ⟨a, ha, fun v ev => ?_⟩
    obtain ⟨u, r, z⟩ := hv v ev
    exact ⟨u, r, cell y a ha _ z⟩
  · have e0 := I.env0
    have frame : ∀ L ∈ frs X.stack, G.get? L = none := fun L hL => by
      cases q : G.get? L with
      | none => rfl
      | some o =>
        exfalso
        obtain ⟨q1, q2⟩ := g2 L o q
        have hb := (I.stack.mem hL).1
        rcases q2 with ⟨o', q2⟩ | ⟨y, q2⟩
        · rw [hb] at q2; cases q2
        · have hc := c.sub y L q2
          rcases List.mem_cons.mp (I.stkSub L hL) with e | e
          · obtain ⟨v, oc, hoc, hd⟩ := I.cell y L hc
            obtain ⟨m, ⟨od, es, ep, hod, hdd, _⟩, _⟩ := I.loc
            rw [← e, hoc] at hod
            have := Option.some.inj hod
            subst this
            rw [hd] at hdd
            cases hdd
          · have hlt := I.ok.cab y L (hfn y) hc
            obtain ⟨_, o2, ho2, _⟩ := I.ok.funs.mem e
            exact absurd (Heap.lt_size ho2) (Nat.not_lt.mpr hlt)
    refine ⟨e0.frames, ⟨e0.mod.kin.keeps sub, e0.mod.glob.keeps sub, ?_, e0.mod.nolimit.keeps sub⟩, fun b o e => ?_, by rw [gs]; exact Nat.le_refl _, funFrames_none I.stack frame, e0.frf, e0.hok, e0.bare⟩
    · obtain ⟨mb, h1, h2⟩ := e0.mod.blt
      exact ⟨mb, h1.keeps sub, h2⟩
    · obtain ⟨q1, q2⟩ := g2 b o e
      refine ⟨q1, ?_⟩
      rcases q2 with ⟨o', q2⟩ | ⟨y, q2⟩
      · exact (I.bs b o' q2).2
      · exact I.freeC y b (c.sub y b q2)
/-- a def called whose promise speaks of the base, the running frame's cells in it -/
def tCallB (cl : List (Str × Addr)) (fr : List Str) (js : List Nat) (sp : Heap → Sp) (t : TA) : TE := fun σ H Q => t σ H fun vs H1 => ∀ B, CellsB cl fr (js.map (slotAt σ)) B → sp B vs H1 Q C8.E0
theorem pe_cB {X : Cx} {x : Str} {k j : Nat} {sp : Heap → Sp} {cl : List (Str × Addr)} {fr : List Str} {js : List Nat} {e : Expr} {es : List Expr} {t : TA} {p pos : Pos} (c : ∀ B, C8.Cal X.prog X.w X.K X.mg B k x (sp B) []) (hr : Room j X.A) (hk : k ≤ j) (hg : Gl X x) (cp : X.Ok → Caps X cl fr js) (hfn : ∀ y, X.fn y = true) (ha : PA X (e :: es) t)
    (hdb : (x == ("__debug__" : Str)) = false := by decide) (he : starEach (e :: es) X.env = (false, eval e X.env) :: starEach es X.env := by rfl) (hpl : (backTo pos (starEach es X.env)).any (·.1) = false := by rfl) :
    PE X (.Call (.Name x p) (e :: es) [] pos) (tCallB cl fr js sp t) := by
  obtain ⟨f, fd, ps, ds, F, hm, kp, b, d⟩ := (c X.base).ex
  refine ⟨fun pins s σ H Q I h => ?_⟩
  refine wpAny_Call_Name_kw (ld_glob I hg hm ?_ hdb)
  refine PySem.W.callWith_K (h₀ := X.base) I.ok.mod.kin kp (thn (ha.run pos pins s σ H _ I h) fun us s1 hh => ?_) he hpl
  obtain ⟨vs, H1, I1, r, q⟩ := hh
  refine ⟨I1.kIn, ?_⟩
  obtain ⟨B, _, CB, EB⟩ := env_wide I1 (cp I1.ok) hfn
  obtain ⟨f2, fd2, ps2, ds2, F2, hm2, kp2, b2, d2⟩ := (c B).ex
  have ef : f2 = f := Value.ref.inj (Option.some.inj (hm2.symm.trans hm))
  subst ef
  have hq := q B CB
  cases d2
  have hl : us.length = ps2.length := by rw [← r.length]; exact F2.len _ _ _ _ hq
  have bb := b2 s1 us I1.kIn (by rw [List.append_nil]; exact hl)
  rw [List.append_nil] at bb
  show wpAny _ _ (call (.ref f2) us) _ _ _
  refine wpAny_call (codeAny_mono (F2.run X.A X.stack s1 H1 ⟨us, []⟩ us vs Q C8.E0 (hr.mono hk) EB bb r hq) fun r2 s' hq' => ?_)
  cases r2 with
  | error er => exact C8.pass0 (E := C8.E0) pins σ H1 s1 er s' I1 hq'
  | ok fl =>
    cases fl with
    | ret u => exact I1.after hq'
    | next => exact False.elim hq'
    | brk => exact False.elim hq'
    | cont => exact False.elim hq'
/-- fe(..), fe a function made by a def within a def -/
def tCallV (X : Cx) (j : Nat) (sp : List (Option V) → Sp) (tf : TE) (t : TA) : TE := fun σ H Q => tf σ H fun y H1 => ∃ (f : Addr) (F : NF) (ps fr : List Str) (k : Nat) (ws : List (Option V)), y = .ref f ∧ H1 f = some (FnO f F) ∧ k ≤ j ∧ NOk X.prog X.w X.K X.mg X.base C8.CX0 k f F ps fr sp ∧ CellsB F.cl fr ws X.base ∧
  t σ H1 fun vs H2 => H2 f = some (FnO f F) ∧ H2 F.c = some (LamX.CodeO F.c F.qual) ∧ sp ws vs H2 Q C8.E0
theorem pe_callV {X : Cx} {j : Nat} {sp : List (Option V) → Sp} {fe e : Expr} {es : List Expr} {tf : TE} {t : TA} {pos : Pos} (hf : PE X fe tf) (hr : Room j X.A) (ha : PA X (e :: es) t)
    (ht : eval (.Call fe (e :: es) [] pos) X.env = (do callWith pos (← eval fe X.env) [] (backTo pos (starEach (e :: es) X.env)) (backToKw pos (keywordEach [] X.env))) := by rfl)
    (he : starEach (e :: es) X.env = (false, eval e X.env) :: starEach es X.env := by rfl) (hpl : (backTo pos (starEach es X.env)).any (·.1) = false := by rfl) : PE X (.Call fe (e :: es) [] pos) (tCallV X j sp tf t) := by
  refine ⟨fun pins s σ H Q I h => ?_⟩
  refine PyProof.Rows.Call_ (thn (hf.run pins s σ H _ I h) fun u s1 hh => ?_) ht
  obtain ⟨y, H1, I1, ry, f, F, ps, fr, k, ws, ey, h1, hk, N, C, q⟩ := hh
  subst ey
  obtain rfl : u = Value.ref f := ry
  refine PySem.W.callWith_F (first := []) (NdefX.fnAt_of I1 h1) (thn (ha.run pos pins s1 σ H1 _ I1 q) fun us s2 hh => ?_) he hpl
  obtain ⟨vs, H2, I2, r, h2, h3, q2⟩ := hh
  refine ⟨NdefX.fnAt_of I2 h2, ?_⟩
  show wpAny _ _ (call (.ref f) us) _ _ _
  refine wpAny_call (codeAny_mono (N.run X.A X.stack s2 H2 us vs ws Q C8.E0 (hr.mono hk) I2.env0 h2 h3 (C.now I2) r q2) fun r2 s' hq => ?_)
  cases r2 with
  | error er => exact C8.pass0 (E := C8.E0) pins σ H2 s2 er s' I2 hq
  | ok fl =>
    cases fl with
    | ret u => exact I2.after hq
    | next => exact False.elim hq
    | brk => exact False.elim hq
    | cont => exact False.elim hq
end Br

/-! A def within a def, its one parameter a cell (a comprehension captures it). -/
namespace Br
open PySem PySem.Spec PyProof.Rows L2
open NdefX (NF FnO NOk CellsAt ncx envF startF fnO_at codeO_at)
structure NScope1 (N : List Str) (x : Str) (fr : List Str) (sc : Scope) : Prop where
  kind : sc.kind = .function
  co : sc.isCoroutine = false
  gen : sc.isGenerator = false
  nd : N.Nodup
  pre : N.take (1 + fr.length) = x :: fr
  par : sc.names.lookup x = some .cell
  free : ∀ y ∈ sc.names, y.2 = .free → y.1 ∈ fr
  frk : ∀ y ∈ fr, sc.names.lookup y = some .free
  hd : sc.names.head? = some (x, .cell)
  tl : ∀ y ∈ sc.names.tail, y.2 ≠ .cell
def nsc1B (N : List Str) (x : Str) (fr : List Str) (sc : Scope) : Bool :=
  decide (sc.kind = .function) && !sc.isCoroutine && !sc.isGenerator && decide N.Nodup && decide (N.take (1 + fr.length) = x :: fr) && decide (sc.names.lookup x = some .cell) && sc.names.all (fun y => !decide (y.2 = .free) || decide (y.1 ∈ fr)) && fr.all (fun y => decide (sc.names.lookup y = some .free)) && decide (sc.names.head? = some (x, .cell)) && sc.names.tail.all (fun y => !decide (y.2 = .cell))
theorem nscope1_by {N : List Str} {x : Str} {fr : List Str} {sc : Scope} (h : nsc1B N x fr sc = true) : NScope1 N x fr sc := by
  unfold nsc1B at h
  simp only [Bool.and_eq_true, Bool.not_eq_true', decide_eq_true_eq, List.all_eq_true, Bool.or_eq_true, decide_eq_false_iff_not] at h
  obtain ⟨⟨⟨⟨⟨⟨⟨⟨⟨h1, h2⟩, h3⟩, h4⟩, h5⟩, h6⟩, h7⟩, h8⟩, h9⟩, h10⟩ := h
  exact ⟨h1, h2, h3, h4, h5, h6, fun y hy e => (h7 y hy).elim (fun z => absurd e z) id, h8, h9, h10⟩
theorem cells_none : ∀ (l : List (Str × NameKind)), (∀ y ∈ l, y.2 ≠ .cell) → ∀ (n : Nat) (acc : List (Str × Addr)) (h : Heap), cellsFrom n l acc = acc ∧ pushCells h l = h
  | [], _, _, _, _ => ⟨rfl, rfl⟩
  | (y, k) :: l, hl, n, acc, h => by
    have hk : (k == NameKind.cell) = false := by
      cases q : (k == NameKind.cell) with
      | false => rfl
      | true => exact absurd (beq_iff_eq.mp q) (hl (y, k) List.mem_cons_self)
    obtain ⟨h1, h2⟩ := cells_none l (fun y hy => hl y (List.mem_cons_of_mem _ hy)) n acc h
    unfold cellsFrom pushCells
    rw [hk]
    exact ⟨h1, h2⟩
theorem cells_one {sc : Scope} {x : Str} (hd : sc.names.head? = some (x, .cell)) (tl : ∀ y ∈ sc.names.tail, y.2 ≠ .cell) (n : Nat) (acc : List (Str × Addr)) (h : Heap) : cellsFrom n sc.names acc = (x, n) :: acc ∧ pushCells h sc.names = h.push { cls := .type "cell", data := .cell none } := by
  cases e : sc.names with
  | nil => rw [e] at hd; cases hd
  | cons a l =>
    rw [e] at hd tl
    cases hd
    obtain ⟨h1, h2⟩ := cells_none l tl (n + 1) ((x, n) :: acc) (h.push { cls := .type "cell", data := .cell none })
    unfold cellsFrom pushCells
    exact ⟨h1, h2⟩
section
variable {M : Model} {A : Around} {E : Value → Shared → Prop} {s : Shared}
theorem env_one {scope : Scope} {globals builtins : Addr} {cl : List (Str × Addr)} {x : Str} {v : Value} {qual : Str} {func : Option Addr} {code : Value} {Q : Env → Shared → Prop} (hk : scope.kind = .function) (par : scope.names.lookup x = some .cell) (hd : scope.names.head? = some (x, .cell)) (tl : ∀ y ∈ scope.names.tail, y.2 ≠ .cell)
    (hQ : ∀ h' : Heap, h'.Ns s.heap.objs.size (fun _ => none) → h'.IsCell (s.heap.objs.size + 1) (some v) → (∀ b o, s.heap.get? b = some o → h'.get? b = some o) → Q (newEnv scope s.heap.objs.size globals ((x, s.heap.objs.size + 1) :: cl) qual func code none builtins) { s with heap := h' }) :
    wpAny M A (newFunctionEnv scope globals cl [(x, v)] qual func code none builtins) Q E s := by
  simp only [newFunctionEnv, Option.isSome_none, Bool.false_eq_true, if_false]
  refine wpAny_bind (wpAny_alloc ?_)
  refine wpAny_bind (wpAny_layCells _ (fun name kind cells => by cases q : kind == NameKind.cell <;> simp [q]) _ _ _ _ ?_)
  have sz : ({ s with heap := s.heap.push { cls := .type "frame", data := .dict #[] } } : Shared).heap.objs.size = s.heap.objs.size + 1 := Heap.size_push ..
  rw [sz]
  obtain ⟨c1, c2⟩ := cells_one hd tl (s.heap.objs.size + 1) cl (s.heap.push { cls := .type "frame", data := .dict #[] })
  rw [c1, show pushCells ({ s with heap := s.heap.push { cls := .type "frame", data := .dict #[] } } : Shared).heap scope.names = _ from c2]
  have cell : ((s.heap.push { cls := .type "frame", data := .dict #[] }).push { cls := .type "cell", data := .cell none }).IsCell (s.heap.objs.size + 1) none := by
    refine ⟨_, Heap.get?_push_at (Heap.size_push ..).symm rfl, rfl⟩
  refine wpAny_bind ?_
  rw [List.forIn_cons]
  refine wpAny_bind (wpAny_bind (wpAny_storeName_cell (env := newEnv scope s.heap.objs.size globals ((x, s.heap.objs.size + 1) :: cl) qual func code none builtins) hk par (by simp [newEnv, List.lookup]) cell fun h' hc hs => ?_))
  refine wpAny_pure ?_
  simp only [List.forIn_nil]
  refine wpAny_pure (wpAny_pure (hQ h' ?_ hc fun b o e => ?_))
  · exact ((Heap.Ns.new s.heap (.type "frame")).keeps (fun b o e => Heap.get?_push_of_some _ e)).sameBut hs (Nat.ne_of_lt (Nat.lt_succ_self _))
  · have hb := Heap.lt_size e
    exact hs.extBut b o (Nat.ne_of_lt (Nat.lt_succ_of_lt hb)) (Heap.get?_push_of_some _ (Heap.get?_push_of_some _ e))
end
/-- the function's words with one more cell -/
abbrev NF.more (F : NF) (x : Str) (c : Addr) : NF := { F with cl := (x, c) :: F.cl }
section
variable {P : Program} {w : World} {K : PySem.W.Frag} {mg : Str → Option Value} {base : Heap} {N fr : List Str} {x : Str} {F : NF} {f : Addr} {k : Nat} {sp : List (Option V) → Sp}
theorem inv_start1 {A : Around} {outer : List Env} {s : Shared} {H : Hp} {E : XK} {u : Value} {v : V} {ws : List (Option V)} {h₁ : Heap} (S : NScope1 N x fr F.scope) (hd : A.handled = none) (e0 : Env0 P w K mg base A outer s H) (r : RelV v u) (C : CellsAt F.cl fr ws s.heap H) (hns : h₁.Ns s.heap.objs.size fun _ => none)
    (hc : h₁.IsCell (s.heap.objs.size + 1) (some u)) (kp : ∀ b o, s.heap.get? b = some o → h₁.get? b = some o) : Inv (ncx C8.CX0 P w K mg base N (NF.more F x (s.heap.objs.size + 1)) f A outer s H E) [] (startF N [v] ws) H { s with heap := h₁ } := by
  have hpl : 1 + fr.length ≤ N.length := by
    have q := congrArg List.length S.pre
    rw [List.length_take, List.length_cons] at q
    omega
  have noA : ∀ b : Addr, b ∉ (ncx C8.CX0 P w K mg base N (NF.more F x (s.heap.objs.size + 1)) f A outer s H E).ex := fun b z => absurd (show b ∈ ([] : List Addr) from z) (by simp)
  have cellK : ∀ {c : Addr} {v : Option Value}, s.heap.IsCell c v → h₁.IsCell c v := fun {c v} ⟨o, ho, hd⟩ => ⟨o, kp _ _ ho, hd⟩
  have old : ∀ y c, F.cl.lookup y = some c → c < s.heap.objs.size := fun y c e => by
    obtain ⟨v, o, ho, _⟩ := (C.all y c e).2
    exact Heap.lt_size ho
  have lk : ∀ y c, (((x, s.heap.objs.size + 1) :: F.cl : List (Str × Addr))).lookup y = some c → (y = x ∧ c = s.heap.objs.size + 1) ∨ (y ≠ x ∧ F.cl.lookup y = some c) := fun y c e => by
    rw [List.lookup_cons] at e
    cases q : (y == x) with
    | true => rw [q] at e; cases e; exact .inl ⟨beq_iff_eq.mp q, rfl⟩
    | false => rw [q] at e; exact .inr ⟨fun z => by rw [z] at q; simp at q, e⟩
  have lk2 : ∀ y c, y ≠ x → F.cl.lookup y = some c → (((x, s.heap.objs.size + 1) :: F.cl : List (Str × Addr))).lookup y = some c := fun y c n e => by
    rw [List.lookup_cons, show (y == x) = false from by simpa using n]
    exact e
  have frx : ∀ y ∈ fr, y ≠ x := fun y hy z => by
    have h1 := S.frk y hy
    rw [z, S.par] at h1
    cases h1
  have inj : ∀ y z c, (((x, s.heap.objs.size + 1) :: F.cl : List (Str × Addr))).lookup y = some c → (((x, s.heap.objs.size + 1) :: F.cl : List (Str × Addr))).lookup z = some c → y = z := fun y z c e1 e2 => by
    rcases lk y c e1 with ⟨a1, a2⟩ | ⟨a1, a2⟩ <;> rcases lk z c e2 with ⟨b1, b2⟩ | ⟨b1, b2⟩
    · rw [a1, b1]
    · exact absurd (old z c b2) (by rw [a2]; exact Nat.not_lt.mpr (Nat.le_succ _))
    · exact absurd (old y c a2) (by rw [b2]; exact Nat.not_lt.mpr (Nat.le_succ _))
    · exact C.inj y z c a2 b2
  refine ⟨⟨e0.mod, S.kind, rfl, rfl, Nat.le_refl _, inj, fun y hy => ?_, fun y c z _ => ?_, fun _ => hd, Around.frames_deeper e0.frames, .inr ⟨rfl, rfl⟩, fun b z => absurd z (noA b), e0.bs, e0.bsz, fun b _ _ => noA b,
      fun b z => absurd z (noA b), e0.funs, e0.frf⟩,
    rfl, e0.bare, Un.kept kp, ⟨_, hns, fun i y v' e1 e2 e3 => ?_⟩, fun y c e => ?_, e0.hok.fresh (Nat.le_refl _), fun y c e => ?_, fun q hq => absurd (show q ∈ ([] : List (Addr × Obj)) ++ [] from hq) (by simp), e0.hok.kept kp, ?_⟩
  · have hy : F.scope.names.lookup y = some .cell ∨ F.scope.names.lookup y = some .free := hy
    by_cases hyx : y = x
    · exact ⟨_, by rw [hyx]; exact List.lookup_cons_self⟩
    · rcases hy with hy | hy
      · exfalso
        have hm := PySem.mem_of_lookup hy
        cases e : F.scope.names with
        | nil => rw [e] at hm; cases hm
        | cons a l =>
          have h9 := S.hd
          have h10 := S.tl
          rw [e] at hm h9 h10
          cases h9
          rcases List.mem_cons.mp hm with z | z
          · exact hyx (Prod.mk.inj z).1
          · exact h10 _ z rfl
      · obtain ⟨i, hi⟩ := List.mem_iff_getElem?.mp (S.free _ (PySem.mem_of_lookup hy) rfl)
        obtain ⟨c, hc, _⟩ := C.has i y hi
        exact ⟨c, lk2 y c hyx hc⟩
  · have z : false = true := z
    cases z
  · have e1 : N[i]? = some y := e1
    have clen := C.len
    unfold startF at e2
    by_cases h1 : i = 0
    · subst h1
      have hq : (x :: fr)[0]? = some y := by
        rw [← S.pre, List.getElem?_take_of_lt (by omega)]
        exact e1
      cases hq
      cases e2
      exact ⟨u, r, .inr ⟨.inl S.par, s.heap.objs.size + 1, List.lookup_cons_self, hc⟩⟩
    · by_cases h2 : i < 1 + fr.length
      · have hq : (x :: fr)[i]? = some y := by
          rw [← S.pre, List.getElem?_take_of_lt h2]
          exact e1
        obtain ⟨j, rfl⟩ : ∃ j, i = j + 1 := ⟨i - 1, by omega⟩
        have hq : fr[j]? = some y := hq
        have e2 : (ws ++ List.replicate (N.length - 1 - ws.length) none)[j]? = some (some v') := e2
        rw [List.getElem?_append_left (by omega)] at e2
        obtain ⟨c, hcl, hv⟩ := C.has j y hq
        obtain ⟨u', ru, hu⟩ := hv v' e2
        have hm := List.mem_of_getElem? hq
        exact ⟨u', ru, .inr ⟨.inr (S.frk y hm), c, lk2 y c (frx y hm) hcl, cellK hu⟩⟩
      · obtain ⟨j, rfl⟩ : ∃ j, i = j + 1 := ⟨i - 1, by omega⟩
        have e2 : (ws ++ List.replicate (N.length - 1 - ws.length) none)[j]? = some (some v') := e2
        rw [List.getElem?_append_right (by omega), List.getElem?_replicate] at e2
        split at e2 <;> cases e2
  · rcases lk y c e with ⟨_, rfl⟩ | ⟨_, a2⟩
    · exact ⟨_, hc⟩
    · obtain ⟨v, z⟩ := (C.all y c a2).2
      exact ⟨v, cellK z⟩
  · rcases lk y c e with ⟨_, rfl⟩ | ⟨_, a2⟩
    · exact e0.hok.fresh (Nat.le_succ _)
    · exact (C.all y c a2).1
  · have clen := C.len
    unfold startF
    show _ = N.length
    rw [List.length_append, List.length_append, List.length_map, List.length_replicate, List.length_singleton]
    omega
theorem nok1_of (S : NScope1 N x fr F.scope) (hb : ∀ (doc pm ctv : Value) (u : Value), bindArgs (F.fd doc pm ctv) ⟨[u], []⟩ = pure [(x, u)]) (len : ∀ ws vs H Q E, sp ws vs H Q E → vs.length = 1)
    (hbody : ∀ (A : Around) (outer : List Env) (s : Shared) (H : Hp) (v : V) (ws : List (Option V)) (Q : VK) (E : XK), Room k (A.deeper (envF (NF.more F x (s.heap.objs.size + 1)) f s.heap.objs.size)) → sp ws [v] H Q E →
      ∃ t, PSs (ncx C8.CX0 P w K mg base N (NF.more F x (s.heap.objs.size + 1)) f A outer s H E) F.body t ∧ t { nx := fun _ H' => Q .non H', rt := Q } (startF N [v] ws) H) :
    NOk P w K mg base C8.CX0 (k + 1) f F [x] fr sp := by
  refine ⟨len, fun A outer s H us vs ws Q E hr e0 hf hc C r hsp => ?_⟩
  have hl := len _ _ _ _ _ hsp
  have lim : s.heap.NoLimit := e0.mod.nolimit.keeps fun b o e => (e0.bs b o e).1
  obtain ⟨od, sl, doc, pm, ctv, ho⟩ := fnO_at e0.hok hf
  match vs, hl, r with
  | [v], _, .cons (b := u) ru .nil =>
    refine codeAny_call_function hr.depth ho rfl S.co S.gen rfl (codeO_at e0.hok hc) ?_
    rw [hb doc pm ctv u]
    refine wpAny_pure (env_one S.kind S.par S.hd S.tl fun h₁ hns hcell kp => ⟨lim.keeps kp, ?_⟩)
    show codeAny _ _ (.func F.body (envF (NF.more F x (s.heap.objs.size + 1)) f s.heap.objs.size)) _ _
    refine codeAny_func ?_
    obtain ⟨t, ht, hq⟩ := hbody A outer s H v ws Q E (hr.deeper _) hsp
    have I : Inv (ncx C8.CX0 P w K mg base N (NF.more F x (s.heap.objs.size + 1)) f A outer s H E) [] (startF N [v] ws) H { s with heap := h₁ } := inv_start1 S hr.hd e0 ru C hns hcell kp
    refine wpAny_mono (ht.run [] _ (startF N [v] ws) H _ I hq) (fun fl s' hs => ?_) fun e s' hs => hs
    cases fl with
    | ret u' =>
      obtain ⟨v', σ', H', J, rv, q⟩ := hs
      exact ⟨v', H', J.os, J.bare, J.base, J.hok, rv, q⟩
    | next =>
      obtain ⟨σ', H', J, q⟩ := hs
      exact ⟨V.non, H', J.os, J.bare, J.base, J.hok, rfl, q⟩
    | brk =>
      obtain ⟨_, _, _, q⟩ := hs
      exact False.elim q
    | cont =>
      obtain ⟨_, _, _, q⟩ := hs
      exact False.elim q
end
end Br

/-! Rules: two knots' kids against [None, None]; C() of a class. -/
namespace Br
open PySem PySem.Spec PyProof.Rows L2
section
variable {X : Cx}
/-- a list of None and own instances == [None, ..] of one length -/
theorem op_kids (hu : X.A.units + 64 < cLine) : OpR X (compareOp .Eq) (fun x y H Q => ∃ p q xs ys, x = .ref p ∧ y = .ref q ∧ H p = some (.lst xs) ∧ H q = some (.lst ys) ∧ xs.length = ys.length ∧ (∀ z ∈ ys, z = .non) ∧ (∀ z ∈ xs, NoneOr X.K H z) ∧ Q (.bl (xs.all isNon)) H) := by
  intro pins s σ H x y v u Q I rx ry h
  obtain ⟨p, q, xs, ys, rfl, rfl, hp, hq, hl, hy, hx, k⟩ := h
  cases rx
  cases ry
  obtain ⟨its, rv, pl, _⟩ := I.list (SqL.of (K := X.K) hp)
  obtain ⟨its2, rv2, pl2, _⟩ := I.list (SqL.of (K := X.K) hq)
  have hu1 : X.A.in1.units < cLine := by show X.A.units + 1 < cLine; omega
  have e1 := rv.length
  have e2 := rv2.length
  have h := SeqAt.RcAt.lists (A := X.A) (s := s) (e := fun j => PySem.Numpy.isNone (its.toArray.getD j .none)) pl.isList pl2.isList (by simp; omega) (by omega) (fun j h1 h2 => by
    simp only [List.getElem_toArray]
    have h1' : j < its.length := by simpa using h1
    have h2' : j < its2.length := by simpa using h2
    have hx1 : xs[j]? = some (xs[j]'(by omega)) := List.getElem?_eq_getElem (by omega)
    have hy1 : ys[j]? = some (ys[j]'(by omega)) := List.getElem?_eq_getElem (by omega)
    obtain ⟨u1, g1, r1⟩ := rv.get hx1
    obtain ⟨u2, g2, r2⟩ := rv2.get hy1
    have z2 : ys[j]'(by omega) = .non := hy _ (List.getElem_mem _)
    rw [z2] at r2
    cases r2
    rw [List.getElem?_eq_getElem h1'] at g1
    rw [List.getElem?_eq_getElem h2'] at g2
    cases Option.some.inj g1
    rw [Option.some.inj g2]
    have eg : its.toArray.getD j .none = its[j] := by simp [h1']
    rw [eg]
    exact noneOr_eq I hu1 r1 (hx _ (List.getElem_mem _)))
  refine h _ _ _ _ ⟨.bl _, H, I, rfl, ?_⟩
  have ea : ((List.range its.toArray.size).all fun j => PySem.Numpy.isNone (its.toArray.getD j .none)) = xs.all isNon := by
    have e3 : ∀ {xs : List V} {us : List Value}, Vals xs us → (∀ z ∈ xs, NoneOr X.K H z) → ((List.range us.length).all fun j => PySem.Numpy.isNone (us.getD j .none)) = xs.all isNon := by
      intro xs us r
      induction r with
      | nil => intro _; rfl
      | cons r t ih =>
        intro f
        rw [List.length_cons, List.range_succ_eq_map, List.all_cons, List.all_cons, List.all_map]
        have e5 := ih fun z hz => f z (List.mem_cons_of_mem _ hz)
        rw [← e5]
        have e6 := isNone_of (K := X.K) (H := H) r (f _ List.mem_cons_self)
        simp only [List.getD_cons_zero]
        rw [e6]
        rfl
    have := e3 rv hx
    simpa using this
  rw [ea]
  exact k
/-- C() -/
theorem pe_mk0 {k j : Nat} {C : Addr} {x : Str} {sp : Sp} {dvs : List V} {p pos : Pos} (c : C8.Mak X.prog X.w X.K X.mg X.base k x C sp dvs) (hr : Room j X.A) (hk : k + 1 ≤ j) (hg : Gl X x)
    (hdb : (x == ("__debug__" : Str)) = false := by decide) : PE X (.Call (.Name x p) [] [] pos) (tMake C sp dvs C8.E0 tNil) := by
  obtain ⟨f, fd, ps, ds, M, F, hm, b, d⟩ := c.ex
  exact pe_make0 M F (hr.mono hk) hg hm b d C8.pass0 hdb
end
end Br

/-! Tables as trees: rows, roads, stretches, differences. Plain mathematics. -/
namespace Br
inductive Tr where
  | nil
  | nd (g : Option Nat) (l r : Tr)
namespace Tr
def kid (b : Bool) (l r : Tr) : Tr := if b then r else l
/-- the road of the row of just that start -/
def get : Tr → List Bool → Option Nat
  | nil, _ => none
  | nd g _ _, [] => g
  | nd _ l r, b :: s => (kid b l r).get s
def put : Tr → List Bool → Nat → Tr
  | nil, [], x => nd (some x) nil nil
  | nil, b :: s, x => if b then nd none nil (put nil s x) else nd none (put nil s x) nil
  | nd _ l r, [], x => nd (some x) l r
  | nd g l r, b :: s, x => if b then nd g l (put r s x) else nd g (put l s x) r
def bare : Tr → Bool
  | nd none nil nil => true
  | _ => false
def isNil : Tr → Bool
  | nil => true
  | _ => false
/-- what stays of a knot beneath the top -/
def prune (t : Tr) : Tr := if t.bare then nil else t
/-- the row of a start that has one less; bare knots on its way, but the top, are gone -/
def take : Tr → List Bool → Tr
  | nil, _ => nil
  | nd _ l r, [] => nd none l r
  | nd g l r, b :: s => if b then nd g l (prune (take r s)) else nd g (prune (take l s)) r
def count : Tr → Nat
  | nil => 0
  | nd g l r => (if g.isSome then 1 else 0) + l.count + r.count
/-- how many knots -/
def size : Tr → Nat
  | nil => 0
  | nd _ l r => 1 + l.size + r.size
/-- no longer than n signs lie beneath -/
def deep : Tr → Nat → Prop
  | nil, _ => True
  | nd _ l r, 0 => l = nil ∧ r = nil
  | nd _ l r, n + 1 => l.deep n ∧ r.deep n
/-- no bare knot -/
def full : Tr → Prop
  | nil => True
  | nd g l r => (nd g l r).bare = false ∧ l.full ∧ r.full
/-- no bare knot beneath -/
def neat : Tr → Prop
  | nil => False
  | nd _ l r => l.full ∧ r.full
def rowsAt : Tr → List Bool → List (List Bool × Nat)
  | nil, _ => []
  | nd g l r, p => (match g with | some x => [(p, x)] | none => []) ++ (l.rowsAt (p ++ [false]) ++ r.rowsAt (p ++ [true]))
def rows (t : Tr) : List (List Bool × Nat) := t.rowsAt []
/-- the road of the longest start so far -/
def road : Tr → Option Nat → List Bool → Option Nat
  | nil, x, _ => x
  | nd g _ _, x, [] => g.or x
  | nd g l r, x, b :: s => (kid b l r).road (g.or x) s
def sub : Tr → List Bool → Tr
  | t, [] => t
  | nil, _ :: _ => nil
  | nd _ l r, b :: s => (kid b l r).sub s

theorem get_nil (s : List Bool) : nil.get s = none := by cases s <;> rfl
theorem road_nil (x : Option Nat) (s : List Bool) : nil.road x s = x := by cases s <;> rfl
theorem sub_nil (s : List Bool) : nil.sub s = nil := by cases s <;> rfl
theorem get_put (x : Nat) : ∀ (s : List Bool) (t : Tr) (u : List Bool), (t.put s x).get u = if u = s then some x else t.get u
  | [], nil, [] => by rfl
  | [], nil, b :: u => by
    rw [if_neg (by simp), get_nil]
    show (kid b nil nil).get u = none
    cases b <;> exact get_nil u
  | [], nd g l r, [] => by rfl
  | [], nd g l r, b :: u => by rw [if_neg (by simp)]; rfl
  | c :: s, nil, [] => by rw [if_neg (by simp)]; cases c <;> rfl
  | c :: s, nil, b :: u => by
    rw [get_nil]
    have ih := get_put x s nil u
    rw [get_nil] at ih
    cases c <;> cases b
    · show ((put nil s x)).get u = _; rw [ih]; by_cases h : u = s <;> simp [h]
    · show nil.get u = _; rw [get_nil, if_neg (by simp)]
    · show nil.get u = _; rw [get_nil, if_neg (by simp)]
    · show ((put nil s x)).get u = _; rw [ih]; by_cases h : u = s <;> simp [h]
  | c :: s, nd g l r, [] => by rw [if_neg (by simp)]; cases c <;> rfl
  | c :: s, nd g l r, b :: u => by
    cases c <;> cases b
    · show (put l s x).get u = _; rw [get_put x s l u]; by_cases h : u = s <;> simp [h, get, kid]
    · show r.get u = _; rw [if_neg (by simp)]; rfl
    · show l.get u = _; rw [if_neg (by simp)]; rfl
    · show (put r s x).get u = _; rw [get_put x s r u]; by_cases h : u = s <;> simp [h, get, kid]
theorem get_prune (t : Tr) (u : List Bool) : t.prune.get u = t.get u := by
  unfold prune
  split
  · rename_i h
    match t, h with
    | nd none nil nil, _ =>
      rw [get_nil]
      cases u with
      | nil => rfl
      | cons b u =>
        show none = (kid b nil nil).get u
        cases b <;> exact (get_nil u).symm
  · rfl
theorem get_take : ∀ (s : List Bool) (t : Tr) (u : List Bool), (t.take s).get u = if u = s then none else t.get u
  | s, nil, u => by show nil.get u = _; rw [get_nil]; simp
  | [], nd g l r, [] => by rfl
  | [], nd g l r, b :: u => by rw [if_neg (by simp)]; rfl
  | c :: s, nd g l r, [] => by rw [if_neg (by simp)]; cases c <;> rfl
  | c :: s, nd g l r, b :: u => by
    cases c <;> cases b
    · show (prune (take l s)).get u = _; rw [get_prune, get_take s l u]; by_cases h : u = s <;> simp [h, get, kid]
    · show r.get u = _; rw [if_neg (by simp)]; rfl
    · show l.get u = _; rw [if_neg (by simp)]; rfl
    · show (prune (take r s)).get u = _; rw [get_prune, get_take s r u]; by_cases h : u = s <;> simp [h, get, kid]
/-- roads by a sub-tree -/
theorem or_or (g x : Option Nat) : g.or (g.or x) = g.or x := by cases g <;> rfl
theorem road_twice (x : Option Nat) : ∀ (t : Tr) (s : List Bool), (t.sub s).road (t.road x s) [] = t.road x s
  | nil, s => by rw [sub_nil, road_nil, road_nil]
  | nd g l r, [] => or_or g x
  | nd g l r, b :: s => by
    show ((kid b l r).sub s).road ((kid b l r).road (g.or x) s) [] = _
    exact road_twice (g.or x) _ s
theorem road_append (x : Option Nat) : ∀ (t : Tr) (s u : List Bool), t.road x (s ++ u) = (t.sub s).road (t.road x s) u
  | nil, s, u => by rw [sub_nil, road_nil, road_nil, road_nil]
  | nd g l r, [], u => by
    show (nd g l r).road x u = (nd g l r).road (g.or x) u
    cases u with
    | nil => exact (or_or g x).symm
    | cons b u =>
      show (kid b l r).road (g.or x) u = (kid b l r).road (g.or (g.or x)) u
      rw [or_or]
  | nd g l r, b :: s, u => by
    show (kid b l r).road (g.or x) (s ++ u) = ((kid b l r).sub s).road ((kid b l r).road (g.or x) s) u
    exact road_append (g.or x) _ s u
theorem put_ne_nil (t : Tr) (s : List Bool) (x : Nat) : t.put s x ≠ nil := by
  cases t with
  | nil => cases s with
    | nil => intro h; cases h
    | cons b s => cases b <;> intro h <;> cases h
  | nd g l r => cases s with
    | nil => intro h; cases h
    | cons b s => cases b <;> intro h <;> cases h
theorem deep_mono : ∀ {t : Tr} {n m : Nat}, t.deep n → n ≤ m → t.deep m
  | nil, _, _, _, _ => trivial
  | nd g l r, 0, 0, h, _ => h
  | nd g l r, 0, m + 1, h, _ => by obtain ⟨rfl, rfl⟩ := h; exact ⟨trivial, trivial⟩
  | nd g l r, n + 1, m + 1, h, k => ⟨deep_mono h.1 (by omega), deep_mono h.2 (by omega)⟩
theorem deep_put (x : Nat) : ∀ {s : List Bool} {t : Tr} {n : Nat}, t.deep n → s.length ≤ n → (t.put s x).deep n
  | [], nil, n, _, _ => by cases n with
    | zero => exact ⟨rfl, rfl⟩
    | succ n => exact ⟨trivial, trivial⟩
  | [], nd g l r, n, h, _ => by cases n with
    | zero => exact h
    | succ n => exact h
  | b :: s, nil, 0, _, k => by simp at k
  | b :: s, nil, n + 1, _, k => by
    have k2 : s.length ≤ n := Nat.le_of_succ_le_succ k
    cases b
    · exact ⟨deep_put x (t := nil) trivial k2, trivial⟩
    · exact ⟨trivial, deep_put x (t := nil) trivial k2⟩
  | b :: s, nd g l r, 0, _, k => by simp at k
  | b :: s, nd g l r, n + 1, h, k => by
    have k2 : s.length ≤ n := Nat.le_of_succ_le_succ k
    cases b
    · exact ⟨deep_put x h.1 k2, h.2⟩
    · exact ⟨h.1, deep_put x h.2 k2⟩
theorem deep_prune {t : Tr} {n : Nat} (h : t.deep n) : t.prune.deep n := by
  unfold prune
  split
  · trivial
  · exact h
theorem deep_take : ∀ {s : List Bool} {t : Tr} {n : Nat}, t.deep n → (t.take s).deep n
  | s, nil, n, _ => trivial
  | [], nd g l r, n, h => by cases n <;> exact h
  | b :: s, nd g l r, 0, h => by
    obtain ⟨rfl, rfl⟩ := h
    cases b <;> exact ⟨rfl, rfl⟩
  | b :: s, nd g l r, n + 1, h => by
    cases b
    · exact ⟨deep_prune (deep_take h.1), h.2⟩
    · exact ⟨h.1, deep_prune (deep_take h.2)⟩
theorem bare_put (t : Tr) (s : List Bool) (x : Nat) : (t.put s x).bare = false := by
  cases t with
  | nil => cases s with
    | nil => rfl
    | cons b s =>
      have h := put_ne_nil nil s x
      cases b
      · show (nd none (put nil s x) nil).bare = false
        cases e : put nil s x with
        | nil => exact (h e).elim
        | nd => rfl
      · show (nd none nil (put nil s x)).bare = false
        cases e : put nil s x with
        | nil => exact (h e).elim
        | nd => rfl
  | nd g l r => cases s with
    | nil => rfl
    | cons b s =>
      cases b
      · show (nd g (put l s x) r).bare = false
        have h := put_ne_nil l s x
        cases e : put l s x with
        | nil => exact (h e).elim
        | nd => cases g <;> rfl
      · show (nd g l (put r s x)).bare = false
        have h := put_ne_nil r s x
        cases e : put r s x with
        | nil => exact (h e).elim
        | nd => cases g <;> cases l <;> rfl
theorem full_put (x : Nat) : ∀ {s : List Bool} {t : Tr}, t.full → (t.put s x).full
  | [], nil, _ => ⟨rfl, trivial, trivial⟩
  | [], nd g l r, h => ⟨rfl, h.2.1, h.2.2⟩
  | b :: s, nil, h => by
    have hb := bare_put nil (b :: s) x
    cases b
    · exact ⟨hb, full_put x (t := nil) trivial, trivial⟩
    · exact ⟨hb, trivial, full_put x (t := nil) trivial⟩
  | b :: s, nd g l r, h => by
    have hb := bare_put (nd g l r) (b :: s) x
    cases b
    · exact ⟨hb, full_put x h.2.1, h.2.2⟩
    · exact ⟨hb, h.2.1, full_put x h.2.2⟩
theorem neat_put (x : Nat) {s : List Bool} {t : Tr} (h : t.neat) : (t.put s x).neat := by
  cases t with
  | nil => exact h.elim
  | nd g l r => cases s with
    | nil => exact h
    | cons b s => cases b
                  · exact ⟨full_put x h.1, h.2⟩
                  · exact ⟨h.1, full_put x h.2⟩
theorem full_prune {t : Tr} (h : t ≠ nil → t.neat) : t.prune.full := by
  unfold prune
  split
  · trivial
  · rename_i hb
    cases t with
    | nil => trivial
    | nd g l r =>
      obtain ⟨h1, h2⟩ := h (by intro z; cases z)
      exact ⟨Bool.eq_false_iff.mpr hb, h1, h2⟩
theorem neat_take : ∀ {s : List Bool} {t : Tr}, t.neat → (t.take s).neat
  | s, nil, h => h.elim
  | [], nd g l r, h => h
  | b :: s, nd g l r, h => by
    have fn : ∀ t : Tr, t.full → t ≠ nil → t.neat := fun t ht hn => by
      cases t with
      | nil => exact (hn rfl).elim
      | nd g l r => exact ht.2
    cases b
    · refine ⟨full_prune fun hn => ?_, h.2⟩
      cases l with
      | nil => exact (hn rfl).elim
      | nd g l r => exact neat_take (fn _ h.1 (by intro z; cases z))
    · refine ⟨h.1, full_prune fun hn => ?_⟩
      cases r with
      | nil => exact (hn rfl).elim
      | nd g l r => exact neat_take (fn _ h.2 (by intro z; cases z))
/-! rows and get -/
theorem mem_rowsAt (x : Nat) : ∀ (t : Tr) (p s : List Bool), (s, x) ∈ t.rowsAt p ↔ ∃ u, s = p ++ u ∧ t.get u = some x
  | nil, p, s => by
    constructor
    · intro h; cases h
    · rintro ⟨u, _, h⟩; rw [get_nil] at h; cases h
  | nd g l r, p, s => by
    show (s, x) ∈ (match g with | some x => [(p, x)] | none => []) ++ (l.rowsAt (p ++ [false]) ++ r.rowsAt (p ++ [true])) ↔ _
    rw [List.mem_append, List.mem_append, mem_rowsAt x l, mem_rowsAt x r]
    constructor
    · rintro (h | ⟨u, rfl, h⟩ | ⟨u, rfl, h⟩)
      · cases g with
        | none => cases h
        | some y =>
          have := List.mem_singleton.mp h
          injection this with h1 h2
          exact ⟨[], by rw [h1, List.append_nil], by rw [h2]; rfl⟩
      · exact ⟨false :: u, by rw [List.append_assoc]; rfl, h⟩
      · exact ⟨true :: u, by rw [List.append_assoc]; rfl, h⟩
    · rintro ⟨u, rfl, h⟩
      cases u with
      | nil =>
        left
        have h : g = some x := h
        subst h
        rw [List.append_nil]
        exact List.mem_singleton.mpr rfl
      | cons b u =>
        right
        cases b
        · left; exact ⟨u, by rw [List.append_assoc]; rfl, h⟩
        · right; exact ⟨u, by rw [List.append_assoc]; rfl, h⟩
theorem mem_rows (t : Tr) (s : List Bool) (x : Nat) : (s, x) ∈ t.rows ↔ t.get s = some x := by
  unfold rows
  rw [mem_rowsAt]
  constructor
  · rintro ⟨u, rfl, h⟩; exact h
  · intro h; exact ⟨s, rfl, h⟩
theorem len_rowsAt : ∀ (t : Tr) (p : List Bool), (t.rowsAt p).length = t.count
  | nil, p => rfl
  | nd g l r, p => by
    show ((match g with | some x => [(p, x)] | none => []) ++ (l.rowsAt (p ++ [false]) ++ r.rowsAt (p ++ [true]))).length = _
    rw [List.length_append, List.length_append, len_rowsAt l, len_rowsAt r]
    cases g <;> simp [count] <;> omega
/-- the order of texts of bits -/
def lt : List Bool → List Bool → Prop
  | [], [] => False
  | [], _ :: _ => True
  | _ :: _, [] => False
  | a :: s, b :: u => (a = false ∧ b = true) ∨ (a = b ∧ lt s u)
theorem lt_pre (p : List Bool) {s u : List Bool} (h : lt s u) : lt (p ++ s) (p ++ u) := by
  induction p with
  | nil => exact h
  | cons a p ih => exact .inr ⟨rfl, ih⟩
theorem sorted_rowsAt : ∀ (t : Tr) (p : List Bool), ((t.rowsAt p).map (·.1)).Pairwise lt
  | nil, p => List.Pairwise.nil
  | nd g l r, p => by
    show (((match g with | some x => [(p, x)] | none => []) ++ (l.rowsAt (p ++ [false]) ++ r.rowsAt (p ++ [true]))).map (·.1)).Pairwise lt
    rw [List.map_append, List.map_append]
    have below : ∀ (t : Tr) (q s : List Bool), s ∈ (t.rowsAt q).map (·.1) → ∃ u, s = q ++ u := fun t q s hs => by
      obtain ⟨⟨s', x⟩, h, rfl⟩ := List.mem_map.mp hs
      obtain ⟨u, hu, _⟩ := (mem_rowsAt x t q s').mp h
      exact ⟨u, hu⟩
    refine List.pairwise_append.mpr ⟨?_, List.pairwise_append.mpr ⟨sorted_rowsAt l _, sorted_rowsAt r _, ?_⟩, ?_⟩
    · cases g with
      | none => exact List.Pairwise.nil
      | some x => exact List.pairwise_singleton _ _
    · intro a ha b hb
      obtain ⟨u, rfl⟩ := below _ _ _ ha
      obtain ⟨v, rfl⟩ := below _ _ _ hb
      rw [List.append_assoc, List.append_assoc]
      exact lt_pre p (.inl ⟨rfl, rfl⟩)
    · intro a ha b hb
      cases g with
      | none => cases ha
      | some x =>
        have e : a = p := List.mem_singleton.mp ha
        subst e
        rcases List.mem_append.mp hb with hb | hb
        · obtain ⟨u, rfl⟩ := below _ _ _ hb
          rw [List.append_assoc]
          have := lt_pre a (s := []) (u := [false] ++ u) trivial
          rw [List.append_nil] at this
          exact this
        · obtain ⟨u, rfl⟩ := below _ _ _ hb
          rw [List.append_assoc]
          have := lt_pre a (s := []) (u := [true] ++ u) trivial
          rw [List.append_nil] at this
          exact this
theorem lt_irrefl : ∀ s : List Bool, ¬ lt s s
  | [], h => h
  | a :: s, h => by
    rcases h with ⟨h1, h2⟩ | ⟨_, h⟩
    · rw [h1] at h2; cases h2
    · exact lt_irrefl s h
theorem lt_trans : ∀ {s u v : List Bool}, lt s u → lt u v → lt s v
  | [], [], _, h, _ => h.elim
  | [], _ :: _, [], _, h => h.elim
  | [], _ :: _, _ :: _, _, _ => trivial
  | _ :: _, [], _, h, _ => h.elim
  | _ :: _, _ :: _, [], _, h => h.elim
  | a :: s, b :: u, c :: v, h1, h2 => by
    rcases h1 with ⟨rfl, rfl⟩ | ⟨rfl, h1⟩
    · rcases h2 with ⟨h, _⟩ | ⟨rfl, _⟩
      · cases h
      · exact .inl ⟨rfl, rfl⟩
    · rcases h2 with ⟨rfl, rfl⟩ | ⟨rfl, h2⟩
      · exact .inl ⟨rfl, rfl⟩
      · exact .inr ⟨rfl, lt_trans h1 h2⟩
theorem lt_total : ∀ s u : List Bool, lt s u ∨ s = u ∨ lt u s
  | [], [] => .inr (.inl rfl)
  | [], _ :: _ => .inl trivial
  | _ :: _, [] => .inr (.inr trivial)
  | a :: s, b :: u => by
    by_cases h : a = b
    · subst h
      rcases lt_total s u with h | h | h
      · exact .inl (.inr ⟨rfl, h⟩)
      · exact .inr (.inl (by rw [h]))
      · exact .inr (.inr (.inr ⟨rfl, h⟩))
    · cases a <;> cases b
      · exact absurd rfl h
      · exact .inl (.inl ⟨rfl, rfl⟩)
      · exact .inr (.inr (.inl ⟨rfl, rfl⟩))
      · exact absurd rfl h
/-- two rising lists of the same members are one -/
theorem sorted_unique : ∀ {l m : List (List Bool)}, l.Pairwise lt → m.Pairwise lt → (∀ s, s ∈ l ↔ s ∈ m) → l = m
  | [], [], _, _, _ => rfl
  | [], b :: m, _, _, h => by have := (h b).mpr List.mem_cons_self; cases this
  | a :: l, [], _, _, h => by have := (h a).mp List.mem_cons_self; cases this
  | a :: l, b :: m, h1, h2, h => by
    obtain ⟨p1, q1⟩ := List.pairwise_cons.mp h1
    obtain ⟨p2, q2⟩ := List.pairwise_cons.mp h2
    have e : a = b := by
      rcases List.mem_cons.mp ((h a).mp List.mem_cons_self) with e | e
      · exact e
      · rcases List.mem_cons.mp ((h b).mpr List.mem_cons_self) with e' | e'
        · exact e'.symm
        · exact (lt_irrefl a (lt_trans (p1 b e') (p2 a e))).elim
    subst e
    congr 1
    refine sorted_unique q1 q2 fun s => ?_
    constructor
    · intro hs
      rcases List.mem_cons.mp ((h s).mp (List.mem_cons_of_mem _ hs)) with e | e
      · subst e; exact (lt_irrefl s (p1 s hs)).elim
      · exact e
    · intro hs
      rcases List.mem_cons.mp ((h s).mpr (List.mem_cons_of_mem _ hs)) with e | e
      · subst e; exact (lt_irrefl s (p2 s hs)).elim
      · exact e
/-- a road by the longest start with a row: all starts of the word, the longest last -/
def lng (f : List Bool → Option Nat) (x : Option Nat) : List Bool → Option Nat
  | [] => (f []).or x
  | b :: s => lng (fun u => f (b :: u)) ((f []).or x) s
theorem road_lng : ∀ (t : Tr) (x : Option Nat) (s : List Bool), t.road x s = lng t.get x s
  | nil, x, s => by
    rw [road_nil]
    have : ∀ (s : List Bool) (x : Option Nat) (f : List Bool → Option Nat), (∀ u, f u = none) → lng f x s = x := by
      intro s
      induction s with
      | nil => intro x f h; show (f []).or x = x; rw [h]; rfl
      | cons b s ih => intro x f h; show lng _ ((f []).or x) s = x; rw [h, ih _ _ fun u => h _]; rfl
    exact (this s x _ get_nil).symm
  | nd g l r, x, [] => rfl
  | nd g l r, x, b :: s => road_lng (kid b l r) (g.or x) s
end Tr
end Br

/-! Stretches and differences: plain mathematics. -/
namespace Br
abbrev St3 := Nat × Nat × Option Nat
abbrev Df4 := Nat × Nat × Option Nat × Option Nat
/-- L tells f on a .. b - 1 by as few stretches as can be -/
def Tl (f : Nat → Option Nat) (b : Nat) : Nat → List St3 → Prop
  | a, [] => a = b
  | a, (x, y, r) :: L => x = a ∧ a ≤ y ∧ y < b ∧ (∀ n, a ≤ n → n ≤ y → f n = r) ∧ (y + 1 < b → f (y + 1) ≠ r) ∧ Tl f b (y + 1) L
/-- a stretch more behind others -/
def addS : List St3 → Nat → Nat → Option Nat → List St3
  | [], a, l, r => [(a, l, r)]
  | [(x, y, q)], a, l, r => if q = r then [(x, l, r)] else [(x, y, q), (a, l, r)]
  | s :: t :: L, a, l, r => s :: addS (t :: L) a l r
theorem addS_len (a l : Nat) (r : Option Nat) : ∀ L : List St3, (addS L a l r).length ≤ L.length + 1
  | [] => Nat.le_refl _
  | [(x, y, q)] => by unfold addS; split <;> simp
  | s :: t :: L => by
    show (s :: addS (t :: L) a l r).length ≤ _
    have := addS_len a l r (t :: L)
    simp only [List.length_cons] at this ⊢
    omega
theorem Tl.le {f : Nat → Option Nat} {b : Nat} : ∀ {L : List St3} {a : Nat}, Tl f b a L → a ≤ b
  | [], a, h => by rw [show a = b from h]; exact Nat.le_refl _
  | (x, y, r) :: L, a, h => by obtain ⟨_, h1, h2, _⟩ := h; omega
theorem Tl.snoc {f : Nat → Option Nat} {m l : Nat} {r : Option Nat} (hl : m ≤ l) (hf : ∀ n, m ≤ n → n ≤ l → f n = r) :
    ∀ {L : List St3} {a : Nat}, Tl f m a L → Tl f (l + 1) a (addS L m l r)
  | [], a, h => by
    have h : a = m := h
    subst h
    exact ⟨rfl, hl, by omega, hf, by omega, rfl⟩
  | [(x, y, q)], a, h => by
    obtain ⟨rfl, h1, h2, h3, h4, h5⟩ := h
    have h5 : y + 1 = m := h5
    unfold addS
    by_cases e : q = r
    · rw [if_pos e]
      subst e
      refine ⟨rfl, by omega, by omega, fun n n1 n2 => ?_, by omega, rfl⟩
      by_cases hn : n ≤ y
      · exact h3 n n1 hn
      · exact hf n (by omega) n2
    · rw [if_neg e]
      refine ⟨rfl, h1, by omega, h3, fun _ => ?_, ?_⟩
      · rw [hf (y + 1) (by omega) (by omega)]
        exact fun z => e z.symm
      · exact ⟨h5.symm, by omega, by omega, fun n n1 n2 => hf n (by omega) n2, by omega, rfl⟩
  | (x, y, q) :: t :: L, a, h => by
    obtain ⟨rfl, h1, h2, h3, h4, h5⟩ := h
    have h6 := h5.snoc hl hf
    have hlt : y + 1 < m := by
      obtain ⟨x2, y2, q2⟩ := t
      obtain ⟨_, k1, k2, _⟩ := h5
      omega
    exact ⟨rfl, h1, by omega, h3, fun _ => h4 hlt, h6⟩
theorem Tl.unique {f : Nat → Option Nat} {b : Nat} : ∀ {L M : List St3} {a : Nat}, Tl f b a L → Tl f b a M → L = M
  | [], [], _, _, _ => rfl
  | [], (x, y, r) :: M, a, h1, h2 => by
    have h1 : a = b := h1
    obtain ⟨_, k1, k2, _⟩ := h2
    omega
  | (x, y, r) :: L, [], a, h1, h2 => by
    have h2 : a = b := h2
    obtain ⟨_, k1, k2, _⟩ := h1
    omega
  | (x, y, r) :: L, (x', y', r') :: M, a, h1, h2 => by
    obtain ⟨rfl, a1, a2, a3, a4, a5⟩ := h1
    obtain ⟨rfl, b1, b2, b3, b4, b5⟩ := h2
    have er : r = r' := (a3 x' (Nat.le_refl _) a1).symm.trans (b3 x' (Nat.le_refl _) b1)
    subst er
    have ey : y = y' := by
      rcases Nat.lt_trichotomy y y' with h | h | h
      · exact absurd (b3 (y + 1) (by omega) (by omega)) (a4 (by omega))
      · exact h
      · exact absurd (a3 (y' + 1) (by omega) (by omega)) (b4 (by omega))
    subst ey
    rw [a5.unique b5]
theorem Tl.congr {f g : Nat → Option Nat} {b : Nat} : ∀ {L : List St3} {a : Nat}, (∀ n, a ≤ n → n < b → f n = g n) → Tl f b a L → Tl g b a L
  | [], _, _, h => h
  | (x, y, r) :: L, a, e, h => by
    obtain ⟨rfl, h1, h2, h3, h4, h5⟩ := h
    refine ⟨rfl, h1, h2, fun n n1 n2 => ?_, fun hy => ?_, h5.congr fun n n1 n2 => e n (by omega) n2⟩
    · rw [← e n n1 (by omega)]
      exact h3 n n1 n2
    · rw [← e (y + 1) (by omega) hy]
      exact h4 hy

/-- D tells where f and g part on a .. b - 1, by as few as can be -/
def DTl (f g : Nat → Option Nat) (b : Nat) : Nat → List Df4 → Prop
  | a, [] => ∀ n, a ≤ n → n < b → f n = g n
  | a, (x, y, p, q) :: D => a ≤ x ∧ x ≤ y ∧ y < b ∧ p ≠ q ∧ (∀ n, a ≤ n → n < x → f n = g n) ∧ (∀ n, x ≤ n → n ≤ y → f n = p ∧ g n = q) ∧ (y + 1 < b → ¬ (f (y + 1) = p ∧ g (y + 1) = q)) ∧ DTl f g b (y + 1) D
theorem DTl.gap {f g : Nat → Option Nat} {a m b : Nat} (h : a ≤ m) (e : ∀ n, a ≤ n → n < m → f n = g n) : ∀ {D : List Df4}, DTl f g b m D → DTl f g b a D
  | [], k => fun n n1 n2 => by
    by_cases hn : n < m
    · exact e n n1 hn
    · exact k n (by omega) n2
  | (x, y, p, q) :: D, k => by
    obtain ⟨k1, k2, k3, k4, k5, k6, k7, k8⟩ := k
    refine ⟨by omega, k2, k3, k4, fun n n1 n2 => ?_, k6, k7, k8⟩
    by_cases hn : n < m
    · exact e n n1 hn
    · exact k5 n (by omega) n2
theorem DTl.unique {f g : Nat → Option Nat} {b : Nat} : ∀ {D E : List Df4} {a : Nat}, DTl f g b a D → DTl f g b a E → D = E
  | [], [], _, _, _ => rfl
  | [], (x, y, p, q) :: E, a, h1, h2 => by
    obtain ⟨k1, k2, k3, k4, k5, k6, k7, k8⟩ := h2
    have := h1 x k1 (by omega)
    rw [(k6 x (Nat.le_refl _) k2).1, (k6 x (Nat.le_refl _) k2).2] at this
    exact absurd this k4
  | (x, y, p, q) :: D, [], a, h1, h2 => by
    obtain ⟨k1, k2, k3, k4, k5, k6, k7, k8⟩ := h1
    have := h2 x k1 (by omega)
    rw [(k6 x (Nat.le_refl _) k2).1, (k6 x (Nat.le_refl _) k2).2] at this
    exact absurd this k4
  | (x, y, p, q) :: D, (x', y', p', q') :: E, a, h1, h2 => by
    obtain ⟨k1, k2, k3, k4, k5, k6, k7, k8⟩ := h1
    obtain ⟨j1, j2, j3, j4, j5, j6, j7, j8⟩ := h2
    have ex : x = x' := by
      rcases Nat.lt_trichotomy x x' with h | h | h
      · have := j5 x k1 h
        rw [(k6 x (Nat.le_refl _) k2).1, (k6 x (Nat.le_refl _) k2).2] at this
        exact absurd this k4
      · exact h
      · have := k5 x' j1 h
        rw [(j6 x' (Nat.le_refl _) j2).1, (j6 x' (Nat.le_refl _) j2).2] at this
        exact absurd this j4
    subst ex
    have ep : p = p' := (k6 x (Nat.le_refl _) k2).1.symm.trans (j6 x (Nat.le_refl _) j2).1
    have eq : q = q' := (k6 x (Nat.le_refl _) k2).2.symm.trans (j6 x (Nat.le_refl _) j2).2
    subst ep eq
    have ey : y = y' := by
      rcases Nat.lt_trichotomy y y' with h | h | h
      · exact absurd (j6 (y + 1) (by omega) (by omega)) (k7 (by omega))
      · exact h
      · exact absurd (k6 (y' + 1) (by omega) (by omega)) (j7 (by omega))
    subst ey
    rw [k8.unique j8]
/-- one list of stretches from within its first one on -/
def TlC (f : Nat → Option Nat) (b p : Nat) : List St3 → Prop
  | [] => p = b
  | (x, y, r) :: L => x ≤ p ∧ p ≤ y ∧ y < b ∧ (∀ n, p ≤ n → n ≤ y → f n = r) ∧ (y + 1 < b → f (y + 1) ≠ r) ∧ Tl f b (y + 1) L
theorem Tl.c {f : Nat → Option Nat} {a b : Nat} : ∀ {L : List St3}, Tl f b a L → TlC f b a L
  | [], h => h
  | (x, y, r) :: L, h => by obtain ⟨rfl, h1⟩ := h; exact ⟨Nat.le_refl _, h1⟩

/-! the stretches of a tree -/
def spr : Tr → Nat → Nat → Option Nat → List St3 → List St3
  | .nil, k, a, x, L => addS L a (a + 2 ^ k - 1) x
  | .nd g l r, k, a, x, L => if (l.isNil && r.isNil) = true then addS L a (a + 2 ^ k - 1) (g.or x) else spr r (k - 1) (a + 2 ^ (k - 1)) (g.or x) (spr l (k - 1) a (g.or x) L)
theorem isNil_iff {t : Tr} : t.isNil = true ↔ t = .nil := by cases t <;> simp [Tr.isNil]
theorem word_cons (n k : Nat) : word n (k + 1) = decide (n / 2 ^ k % 2 = 1) :: word n k := by
  unfold word
  rw [List.range_succ_eq_map, List.map_cons, List.map_map]
  congr 1
  refine List.map_congr_left fun i _ => ?_
  show decide (n / 2 ^ (k + 1 - 1 - (i + 1)) % 2 = 1) = _
  rw [show k + 1 - 1 - (i + 1) = k - 1 - i by omega]
theorem word_mod (n k : Nat) : word (n % 2 ^ k) k = word n k :=
  num_inj (by rw [word_len, word_len]) (by rw [num_word, num_word, Nat.mod_mod])
theorem spr_tl {f : Nat → Option Nat} {A : Nat} : ∀ (t : Tr) (k a : Nat) (x : Option Nat) (L : List St3), t.deep k → Tl f a A L → (∀ n, a ≤ n → n < a + 2 ^ k → f n = t.road x (word (n - a) k)) → Tl f (a + 2 ^ k) A (spr t k a x L)
  | .nil, k, a, x, L, hd, hl, hf => by
    have p := pow_pos2 k
    have e : a + 2 ^ k - 1 + 1 = a + 2 ^ k := by omega
    have := hl.snoc (l := a + 2 ^ k - 1) (r := x) (by omega) fun n n1 n2 => (hf n n1 (by omega)).trans (Tr.road_nil _ _)
    rw [e] at this
    exact this
  | .nd g l r, k, a, x, L, hd, hl, hf => by
    have p := pow_pos2 k
    unfold spr
    by_cases h : (l.isNil && r.isNil) = true
    · rw [if_pos h]
      rw [Bool.and_eq_true, isNil_iff, isNil_iff] at h
      obtain ⟨rfl, rfl⟩ := h
      have e : a + 2 ^ k - 1 + 1 = a + 2 ^ k := by omega
      have := hl.snoc (l := a + 2 ^ k - 1) (r := g.or x) (by omega) fun n n1 n2 => (hf n n1 (by omega)).trans (by
        generalize word (n - a) k = w
        cases w with
        | nil => rfl
        | cons b w => show (Tr.kid b .nil .nil).road (g.or x) w = _; cases b <;> exact Tr.road_nil _ _)
      rw [e] at this
      exact this
    · rw [if_neg h]
      cases k with
      | zero => obtain ⟨rfl, rfl⟩ := hd; exact absurd rfl h
      | succ k =>
        obtain ⟨d1, d2⟩ := hd
        have p2 := pow_pos2 k
        have e2 : 2 ^ (k + 1) = 2 ^ k + 2 ^ k := by rw [Nat.pow_succ]; omega
        have h1 := spr_tl l k a (g.or x) L d1 hl fun n n1 n2 => by
          rw [hf n n1 (by omega), word_cons]
          have : (n - a) / 2 ^ k % 2 = 0 := by rw [Nat.div_eq_of_lt (by omega)]
          rw [this]
          rfl
        have h2 := spr_tl r k (a + 2 ^ k) (g.or x) _ d2 h1 fun n n1 n2 => by
          rw [hf n (by omega) (by omega), word_cons]
          have e3 : (n - a) / 2 ^ k = 1 := by
            rw [Nat.div_eq_iff p2]
            omega
          have e4 : (n - a) % 2 ^ k = n - (a + 2 ^ k) := by
            have := Nat.mod_add_div (n - a) (2 ^ k)
            rw [e3, Nat.mul_one] at this
            omega
          rw [e3, ← word_mod (n - a), e4]
          rfl
        show Tl f (a + 2 ^ (k + 1)) A (spr r (k + 1 - 1) _ _ _)
        have e5 : a + 2 ^ (k + 1) = a + 2 ^ k + 2 ^ k := by omega
        rw [e5]
        exact h2
theorem spr_len : ∀ (t : Tr) (k a : Nat) (x : Option Nat) (L : List St3), (spr t k a x L).length ≤ L.length + t.size + 1
  | .nil, k, a, x, L => by have := addS_len a (a + 2 ^ k - 1) x L; show (addS L a _ x).length ≤ _; simp only [Tr.size]; omega
  | .nd g l r, k, a, x, L => by
    unfold spr
    split
    · have := addS_len a (a + 2 ^ k - 1) (g.or x) L
      omega
    · have h1 := spr_len l (k - 1) a (g.or x) L
      have h2 := spr_len r (k - 1) (a + 2 ^ (k - 1)) (g.or x) (spr l (k - 1) a (g.or x) L)
      simp only [Tr.size]
      omega
/-- the road by numbers of words -/
def fT (t : Tr) (w n : Nat) : Option Nat := t.road none (word n w)
theorem word_split {s : List Bool} {w n : Nat} (hs : s.length ≤ w) (h1 : num s * 2 ^ (w - s.length) ≤ n) (h2 : n < num s * 2 ^ (w - s.length) + 2 ^ (w - s.length)) : word n w = s ++ word (n - num s * 2 ^ (w - s.length)) (w - s.length) := by
  have hn : n < 2 ^ w := by
    have h3 := num_lt s
    have h4 : (num s + 1) * 2 ^ (w - s.length) ≤ 2 ^ s.length * 2 ^ (w - s.length) := Nat.mul_le_mul_right _ h3
    rw [← Nat.pow_add, show s.length + (w - s.length) = w by omega, Nat.add_mul, Nat.one_mul] at h4
    omega
  refine num_inj (by rw [word_len, List.length_append, word_len]; omega) ?_
  rw [num_word, num_append, num_word, word_len, Nat.mod_eq_of_lt hn, Nat.mod_eq_of_lt (by omega)]
  omega
theorem strs_tl {t : Tr} {w : Nat} {s : List Bool} (hd : (t.sub s).deep (w - s.length)) (hs : s.length ≤ w) :
    Tl (fT t w) (num s * 2 ^ (w - s.length) + 2 ^ (w - s.length)) (num s * 2 ^ (w - s.length)) (spr (t.sub s) (w - s.length) (num s * 2 ^ (w - s.length)) (t.road none s) []) := by
  refine spr_tl (t.sub s) (w - s.length) _ (t.road none s) [] hd rfl fun n n1 n2 => ?_
  unfold fT
  rw [word_split hs n1 n2, Tr.road_append]
theorem deep_sub : ∀ {s : List Bool} {t : Tr} {n : Nat}, t.deep n → s.length ≤ n → (t.sub s).deep (n - s.length)
  | [], t, n, h, _ => h
  | b :: s, .nil, n, _, _ => by rw [Tr.sub_nil]; trivial
  | b :: s, .nd g l r, 0, _, k => by simp at k
  | b :: s, .nd g l r, n + 1, h, k => by
    have k2 : s.length ≤ n := Nat.le_of_succ_le_succ k
    have e : n + 1 - (b :: s).length = n - s.length := by rw [List.length_cons]; omega
    rw [e]
    cases b
    · exact deep_sub (t := l) h.1 k2
    · exact deep_sub (t := r) h.2 k2
end Br

/-! Trees of knots and lists of tuples as they stand in a heap. -/
namespace Br
open PySem PySem.Spec PyProof.Rows L2

/-- the last item -/
theorem ix_last {n m : Nat} (h : n = m + 1) : ixN n (-1) = some m := by
  unfold ixN
  rw [h, if_neg (by decide), if_pos (by omega)]
  congr 1
  omega
theorem atI_end {α : Type} {vs : List α} {v : α} {n : Nat} (h : vs.length = n + 1) (e : vs[n]? = some v) : atI vs (-1) = some v := by
  unfold atI
  rw [ix_last h]
  exact e
/-! ### what stays but for the objects of S; tuples stay always; nothing goes -/
structure Mod (S : List Addr) (H H' : Hp) : Prop where
  of : ∀ a o, H a = some o → (a ∉ S ∨ ∃ xs, o = .tup xs) → H' a = some o
  live : ∀ a o, H a = some o → ∃ u, H' a = some u
instance (S : List Addr) (H H' : Hp) : CoeFun (Mod S H H') (fun _ => ∀ a o, H a = some o → (a ∉ S ∨ ∃ xs, o = .tup xs) → H' a = some o) := ⟨Mod.of⟩
namespace Mod
variable {S T : List Addr} {H H1 H2 : Hp} {p : Addr} {o : HO}
theorem refl : Mod S H H := ⟨fun _ _ e _ => e, fun _ _ e => ⟨_, e⟩⟩
theorem same (h : Same H H1) : Mod S H H1 := ⟨fun a o e _ => h a o e, fun a o e => ⟨_, h a o e⟩⟩
theorem toSame (h : Mod [] H H1) : Same H H1 := fun a o e => h a o e (.inl (by simp))
theorem mono (h : Mod S H H1) (k : ∀ a ∈ S, a ∈ T) : Mod T H H1 := ⟨fun a o e c => h a o e (c.imp (fun n m => n (k a m)) id), h.live⟩
theorem free (h : Mod S H H1) (e : H1 p = none) : H p = none := by
  cases q : H p with
  | none => rfl
  | some o => obtain ⟨u, z⟩ := h.live p o q; rw [e] at z; cases z
theorem step (h1 : Mod S H H1) (h2 : Mod T H1 H2) (k : ∀ a ∈ T, a ∈ S ∨ H a = none) : Mod S H H2 := ⟨fun a o e c => by
  refine h2 a o (h1 a o e c) ?_
  rcases c with c | c
  · refine .inl fun m => ?_
    rcases k a m with k | k
    · exact c k
    · rw [e] at k; cases k
  · exact .inr c, fun a o e => by obtain ⟨u, z⟩ := h1.live a o e; exact h2.live a u z⟩
theorem trans (h1 : Mod S H H1) (h2 : Mod S H1 H2) : Mod S H H2 := h1.step h2 fun a m => .inl m
theorem thenSame (h1 : Mod S H H1) (h2 : Same H1 H2) : Mod S H H2 := h1.trans (Mod.same h2)
theorem new (h1 : Mod S H H1) (hp : H1 p = none) : Mod S H (upd H1 p o) := h1.thenSame fun a u z => by
  rw [upd_ne (ne_of_none z hp)]
  exact z
theorem upd (h1 : Mod S H H1) (hp : p ∈ S ∨ H p = none) (ht : ∀ xs, H1 p ≠ some (.tup xs)) : Mod S H (L2.upd H1 p o) := ⟨fun a u e c => by
  have z := h1 a u e c
  by_cases ea : a = p
  · subst ea
    rcases c with c | ⟨xs, rfl⟩
    · rcases hp with hp | hp
      · exact absurd hp c
      · rw [e] at hp; cases hp
    · exact absurd z (ht xs)
  · rw [upd_ne ea]
    exact z, fun a u e => by
  by_cases ea : a = p
  · subst ea
    exact ⟨_, upd_same⟩
  · rw [upd_ne ea]
    exact h1.live a u e⟩
end Mod

/-! ### roads as values -/
def ov : Option Nat → V
  | none => .non
  | some n => .int (n : Int)
theorem ov_non (g : Option Nat) : decide (ov g = .non) = g.isNone := by cases g <;> simp [ov]
theorem ov_inj {a b : Option Nat} (h : ov a = ov b) : a = b := by
  cases a with
  | none => cases b with
    | none => rfl
    | some y => cases h
  | some x => cases b with
    | none => cases h
    | some y =>
      have h : V.int (x : Int) = V.int (y : Int) := h
      injection h with h
      rw [Int.ofNat_inj.mp h]
theorem ov_eq (a b : Option Nat) : decide (ov a = ov b) = decide (a = b) := by
  by_cases h : a = b
  · rw [decide_eq_true h, decide_eq_true (by rw [h])]
  · rw [decide_eq_false h, decide_eq_false fun z => h (ov_inj z)]
theorem ov_scal (a b : Option Nat) : scal (ov a) (ov b) = true := by cases a <;> cases b <;> rfl

/-! ### trees of knots -/
inductive AT where
  | nil
  | nd (a dx ka : Addr) (g : Option Nat) (l r : AT)
namespace AT
def val : AT → V
  | nil => .non
  | nd a _ _ _ _ _ => .ref a
def tr : AT → Tr
  | nil => .nil
  | nd _ _ _ g l r => .nd g l.tr r.tr
def fp : AT → List Addr
  | nil => []
  | nd a _ ka _ l r => a :: ka :: (l.fp ++ r.fp)
def kf (ka : Addr) (g : Option Nat) : List (Str × V) := [("kids", .ref ka), ("goal", ov g)]
def ok (C : Addr) (H : Hp) : AT → Prop
  | nil => True
  | nd a dx ka g l r => H a = some (.ins C dx (kf ka g)) ∧ H ka = some (.lst [l.val, r.val]) ∧ l.ok C H ∧ r.ok C H
def kid (b : Bool) (l r : AT) : AT := if b then r else l
def sub : AT → List Bool → AT
  | t, [] => t
  | nil, _ :: _ => nil
  | nd _ _ _ _ l r, b :: s => (kid b l r).sub s
/-- the knots along a start -/
def way : AT → List Bool → List AT
  | nil, _ => []
  | t@(nd _ _ _ _ _ _), [] => [t]
  | t@(nd _ _ _ _ l r), b :: s => t :: (kid b l r).way s
def goal : AT → Option Nat
  | nil => none
  | nd _ _ _ g _ _ => g
variable {C : Addr} {H H1 : Hp} {S : List Addr}
theorem ok_mod : ∀ {t : AT}, t.ok C H → Mod S H H1 → (∀ a ∈ t.fp, a ∉ S) → t.ok C H1
  | nil, _, _, _ => trivial
  | nd a dx ka g l r, h, m, d => ⟨m _ _ h.1 (.inl (d a (by simp [fp]))), m _ _ h.2.1 (.inl (d ka (by simp [fp]))), ok_mod h.2.2.1 m fun x hx => d x (by simp [fp, hx]), ok_mod h.2.2.2 m fun x hx => d x (by simp [fp, hx])⟩
theorem ok_same {t : AT} (h : t.ok C H) (m : Same H H1) : t.ok C H1 := ok_mod (S := []) h (Mod.same m) (by simp)
theorem kid_tr (b : Bool) (l r : AT) : (kid b l r).tr = Tr.kid b l.tr r.tr := by cases b <;> rfl
theorem kid_ok {b : Bool} {l r : AT} (h : l.ok C H) (k : r.ok C H) : (kid b l r).ok C H := by cases b; exact h; exact k
theorem kid_fp {b : Bool} {l r : AT} {x : Addr} (h : x ∈ (kid b l r).fp) : x ∈ l.fp ++ r.fp := by
  cases b
  · exact List.mem_append.mpr (.inl h)
  · exact List.mem_append.mpr (.inr h)
theorem sub_tr : ∀ (s : List Bool) (t : AT), (t.sub s).tr = t.tr.sub s
  | [], _ => by rfl
  | b :: s, nil => by rfl
  | b :: s, nd a dx ka g l r => by
    show ((kid b l r).sub s).tr = (Tr.kid b l.tr r.tr).sub s
    rw [sub_tr s, kid_tr]
theorem sub_ok : ∀ (s : List Bool) {t : AT}, t.ok C H → (t.sub s).ok C H
  | [], _, h => h
  | b :: s, nil, h => trivial
  | b :: s, nd a dx ka g l r, h => sub_ok s (kid_ok h.2.2.1 h.2.2.2)
theorem sub_fp : ∀ (s : List Bool) (t : AT) (x : Addr), x ∈ (t.sub s).fp → x ∈ t.fp
  | [], _, _, h => h
  | b :: s, nil, _, h => h
  | b :: s, nd a dx ka g l r, x, h => by
    have := kid_fp (sub_fp s (kid b l r) x h)
    simp only [fp, List.mem_cons]
    exact .inr (.inr this)
theorem kid_nd {b : Bool} {l r : AT} (h : (l.fp ++ r.fp).Nodup) : (kid b l r).fp.Nodup := by
  cases b
  · exact (List.nodup_append.mp h).1
  · exact (List.nodup_append.mp h).2.1
theorem sub_nd : ∀ (s : List Bool) {t : AT}, t.fp.Nodup → (t.sub s).fp.Nodup
  | [], _, h => h
  | b :: s, nil, h => h
  | b :: s, nd a dx ka g l r, h => sub_nd s (kid_nd (List.nodup_cons.mp (List.nodup_cons.mp h).2).2)
theorem val_tr (t : AT) : decide (t.val = .non) = t.tr.isNil := by cases t <;> simp [val, tr, Tr.isNil]
theorem isNon_val (t : AT) : isNon t.val = t.tr.isNil := by cases t <;> rfl
theorem sub_snoc : ∀ (s : List Bool) (b : Bool) (t : AT), t.sub (s ++ [b]) = (t.sub s).sub [b]
  | [], b, t => rfl
  | c :: s, b, nil => by rfl
  | c :: s, b, nd a dx ka g l r => sub_snoc s b (kid c l r)
/-- the knots along a start: one for each beginning at hand -/
theorem way_get : ∀ (s : List Bool) (t : AT) (i : Nat), i ≤ s.length → t.sub (s.take i) ≠ nil → (t.way s)[i]? = some (t.sub (s.take i))
  | s, nil, i, h, n => by
    refine (n ?_).elim
    cases s.take i <;> rfl
  | [], nd a dx ka g l r, 0, h, n => rfl
  | [], nd a dx ka g l r, i + 1, h, n => by simp at h
  | b :: s, nd a dx ka g l r, 0, h, n => rfl
  | b :: s, nd a dx ka g l r, i + 1, h, n => way_get s (kid b l r) i (Nat.le_of_succ_le_succ h) n
theorem way_len_le : ∀ (s : List Bool) (t : AT), (t.way s).length ≤ s.length + 1
  | s, nil => by cases s <;> exact Nat.zero_le _
  | [], nd a dx ka g l r => Nat.le_refl _
  | b :: s, nd a dx ka g l r => Nat.succ_le_succ (way_len_le s (kid b l r))
theorem way_len : ∀ (s : List Bool) (t : AT), s.length < (t.way s).length ↔ t.sub s ≠ nil
  | [], nil => by simp [way, sub]
  | b :: s, nil => by simp [way, sub]
  | [], nd a dx ka g l r => by simp [way, sub]
  | b :: s, nd a dx ka g l r => by
    have := way_len s (kid b l r)
    show s.length + 1 < ((kid b l r).way s).length + 1 ↔ _
    show s.length + 1 < ((kid b l r).way s).length + 1 ↔ (kid b l r).sub s ≠ nil
    rw [← this]
    omega
theorem way_mem : ∀ (s : List Bool) (t : AT) (u : AT), u ∈ t.way s → ∃ i, i ≤ s.length ∧ u = t.sub (s.take i) ∧ u ≠ nil
  | s, nil, u, h => by cases s <;> cases h
  | [], nd a dx ka g l r, u, h => by
    rcases List.mem_cons.mp h with h | h
    · exact ⟨0, Nat.le_refl _, h, by rw [h]; intro z; cases z⟩
    · cases h
  | b :: s, nd a dx ka g l r, u, h => by
    rcases List.mem_cons.mp h with h | h
    · exact ⟨0, Nat.zero_le _, h, by rw [h]; intro z; cases z⟩
    · obtain ⟨i, h1, h2, h3⟩ := way_mem s (kid b l r) u h
      exact ⟨i + 1, Nat.succ_le_succ h1, h2, h3⟩
/-- the longest start's road, along the way -/
theorem way_road : ∀ (s : List Bool) (t : AT) (x : Option Nat), (t.way s).foldl (fun x n => n.goal.or x) x = t.tr.road x s
  | [], nil, x => rfl
  | b :: s, nil, x => rfl
  | [], nd a dx ka g l r, x => rfl
  | b :: s, nd a dx ka g l r, x => by
    show ((kid b l r).way s).foldl _ (g.or x) = (Tr.kid b l.tr r.tr).road (g.or x) s
    rw [way_road s, kid_tr]
theorem way_nil {t : AT} (h : t ≠ nil) (s : List Bool) : 0 < (t.way s).length := by
  cases t with
  | nil => exact (h rfl).elim
  | nd a dx ka g l r => cases s <;> exact Nat.succ_pos _
theorem goal_get : ∀ (s : List Bool) (t : AT), (t.sub s).goal = t.tr.get s
  | [], nil => rfl
  | b :: s, nil => rfl
  | [], nd a dx ka g l r => rfl
  | b :: s, nd a dx ka g l r => by
    show ((kid b l r).sub s).goal = (Tr.kid b l.tr r.tr).get s
    rw [goal_get s, kid_tr]
end AT

/-! ### lists of tuples -/
def LT (H : Hp) (p : Addr) (L : List (List V)) : Prop := ∃ vs : List V, H p = some (.lst vs) ∧ vs.length = L.length ∧ ∀ (i : Nat) (row : List V), L[i]? = some row → ∃ a, vs[i]? = some (V.ref a) ∧ H a = some (.tup row)
namespace LT
variable {H H1 : Hp} {p q : Addr} {L : List (List V)} {row : List V} {vs : List V}
theorem nil : LT (upd H p (.lst [])) p [] := ⟨[], upd_same, rfl, fun i row h => by simp at h⟩
theorem modd {S : List Addr} (h : LT H p L) (m : Mod S H H1) (hp : p ∉ S) : LT H1 p L := by
  obtain ⟨vs, h1, h2, h3⟩ := h
  refine ⟨vs, m _ _ h1 (.inl hp), h2, fun i row e => ?_⟩
  obtain ⟨a, h4, h5⟩ := h3 i row e
  exact ⟨a, h4, m _ _ h5 (.inr ⟨_, rfl⟩)⟩
theorem same (h : LT H p L) (m : Same H H1) : LT H1 p L := h.modd (S := []) (Mod.same m) (by simp)
theorem snoc (h1 : H p = some (.lst vs)) (h2 : vs.length = L.length) (h3 : ∀ (i : Nat) (row : List V), L[i]? = some row → ∃ a, vs[i]? = some (V.ref a) ∧ H a = some (.tup row)) (hq : H q = some (.tup row)) :
    LT (upd H p (.lst (vs ++ [.ref q]))) p (L ++ [row]) := by
  refine ⟨_, upd_same, by simp [h2], fun i row' e => ?_⟩
  by_cases hi : i < L.length
  · rw [List.getElem?_append_left hi] at e
    obtain ⟨a, h4, h5⟩ := h3 i row' e
    refine ⟨a, by rw [List.getElem?_append_left (by omega)]; exact h4, ?_⟩
    rw [upd_ne (ne_of h5 h1 (by intro z; cases z))]
    exact h5
  · rw [List.getElem?_append_right (by omega)] at e
    have hi0 : i - L.length = 0 := by
      cases z : i - L.length with
      | zero => rfl
      | succ k => rw [z] at e; cases e
    rw [hi0] at e
    cases e
    refine ⟨q, ?_, ?_⟩
    · rw [List.getElem?_append_right (by omega), h2, hi0]
      rfl
    · rw [upd_ne (ne_of hq h1 (by intro z; cases z))]
      exact hq
theorem set {j : Nat} (h1 : H p = some (.lst vs)) (h2 : vs.length = L.length) (h3 : ∀ (i : Nat) (row : List V), L[i]? = some row → ∃ a, vs[i]? = some (V.ref a) ∧ H a = some (.tup row)) (hq : H q = some (.tup row)) :
    LT (upd H p (.lst (vs.set j (.ref q)))) p (L.set j row) := by
  refine ⟨_, upd_same, by simp [h2], fun i row' e => ?_⟩
  by_cases hi : j = i
  · subst hi
    rw [List.getElem?_set_self' ] at e
    cases e2 : L[j]? with
    | none => rw [e2] at e; cases e
    | some r0 =>
      rw [e2] at e
      cases e
      have hj : j < L.length := (List.getElem?_eq_some_iff.mp e2).1
      refine ⟨q, ?_, ?_⟩
      · rw [List.getElem?_set_self (by omega)]
      · rw [upd_ne (ne_of hq h1 (by intro z; cases z))]
        exact hq
  · rw [List.getElem?_set_ne hi] at e
    obtain ⟨a, h4, h5⟩ := h3 i row' e
    refine ⟨a, by rw [List.getElem?_set_ne hi]; exact h4, ?_⟩
    rw [upd_ne (ne_of h5 h1 (by intro z; cases z))]
    exact h5
end LT
theorem LT.read {H : Hp} {p : Addr} {L : List (List V)} {i : Nat} {row : List V} (h : LT H p L) (e : L[i]? = some row) : ∃ vs c, H p = some (.lst vs) ∧ vs.length = L.length ∧ atI vs (i : Int) = some (V.ref c) ∧ H c = some (.tup row) := by
  obtain ⟨vs, h1, h2, h3⟩ := h
  obtain ⟨c, h4, h5⟩ := h3 i row e
  exact ⟨vs, c, h1, h2, atI_nat h4, h5⟩
def row3 : St3 → List V | (a, l, r) => [.int (a : Nat), .int (l : Nat), ov r]
def row4 : Df4 → List V | (a, l, r, q) => [.int (a : Nat), .int (l : Nat), ov r, ov q]
/-! flat values as data -/
def dOf : V → PyData
  | .int i => .int i
  | .bl b => .bool b
  | .str z => .str z
  | _ => .none
def flat : V → Bool
  | .non => true | .int _ => true | .bl _ => true
  | .str z => z.cps.toList.all (fun c => decide (c < 1114112))
  | _ => false
theorem flat_ov (g : Option Nat) : flat (ov g) = true := by cases g <;> rfl
theorem flat_tx (l : List Bool) : flat (.str (tx l)) = true := sok_tx l
theorem flat_dp {K : PySem.W.Frag} {H : Hp} {v : V} (h : flat v = true) : Dp K H v (dOf v) := by
  cases v <;> first | exact .non | exact .int _ | exact .bl _ | exact .str _ | cases h
theorem flat_dok {v : V} (h : flat v = true) {k : Nat} : DOk k (dOf v) := by
  cases v <;> first | exact dok_none | exact dok_int _ | exact dok_bool _ | exact dok_str h | cases h
theorem flat_all {K : PySem.W.Frag} {H : Hp} : ∀ {row : List V}, row.all flat = true → DpAll K H row (row.map dOf)
  | [], _ => .nil
  | v :: row, h => by
    rw [List.all_cons, Bool.and_eq_true] at h
    exact .cons (flat_dp h.1) (flat_all h.2)
def dRows (L : List (List V)) : PyData := .list (L.map fun row => .tuple (row.map dOf))
theorem LT.dp {K : PySem.W.Frag} {H : Hp} {p : Addr} {L : List (List V)} (h : LT H p L) (hf : ∀ row ∈ L, row.all flat = true) : Dp K H (.ref p) (dRows L) := by
  obtain ⟨vs, h1, h2, h3⟩ := h
  refine .lst (SqL.of h1) ?_
  clear h1
  induction L generalizing vs with
  | nil => cases vs with
    | nil => exact .nil
    | cons v vs => cases h2
  | cons row L ih => cases vs with
    | nil => cases h2
    | cons v vs =>
      obtain ⟨a, e, ha⟩ := h3 0 row rfl
      cases e
      exact .cons (.tup (SqT.of ha) (flat_all (hf row List.mem_cons_self))) (ih (fun r hr => hf r (List.mem_cons_of_mem _ hr)) vs (by simpa using h2) fun i row e => h3 (i + 1) row e)
theorem dRows_ok {L : List (List V)} (hf : ∀ row ∈ L, row.all flat = true) : DOk 2 (dRows L) := by
  refine dok_list fun d hd => ?_
  obtain ⟨row, hr, rfl⟩ := List.mem_map.mp hd
  refine dok_tup (k := 0) fun d hd => ?_
  obtain ⟨v, hv, rfl⟩ := List.mem_map.mp hd
  exact flat_dok (List.all_eq_true.mp (hf row hr) v hv)
theorem flat3 (s : St3) : (row3 s).all flat = true := by
  obtain ⟨a, l, r⟩ := s
  cases r <;> rfl
theorem flat4 (s : Df4) : (row4 s).all flat = true := by
  obtain ⟨a, l, r, q⟩ := s
  cases r <;> cases q <;> rfl
theorem flat3s {L : List St3} : ∀ row ∈ L.map row3, row.all flat = true := fun row h => by
  obtain ⟨s, _, rfl⟩ := List.mem_map.mp h
  exact flat3 s
theorem flat4s {L : List Df4} : ∀ row ∈ L.map row4, row.all flat = true := fun row h => by
  obtain ⟨s, _, rfl⟩ := List.mem_map.mp h
  exact flat4 s
/-- lists made shorter, longer -/
theorem addS_snoc (x y : Nat) (q : Option Nat) (a l : Nat) (r : Option Nat) : ∀ M : List St3, addS (M ++ [(x, y, q)]) a l r = if q = r then M ++ [(x, l, r)] else M ++ [(x, y, q), (a, l, r)]
  | [] => by show addS [(x, y, q)] a l r = _; unfold addS; rfl
  | [s] => by
    show s :: addS [(x, y, q)] a l r = _
    unfold addS
    split <;> rfl
  | s :: t :: M => by
    show s :: addS (t :: M ++ [(x, y, q)]) a l r = _
    rw [addS_snoc x y q a l r (t :: M)]
    split <;> rfl
/-- one turn of between -/
theorem btw_step {f g : Nat → Option Nat} {b pos x1 y1 x2 y2 : Nat} {r1 r2 : Option Nat} {A B : List St3} (h1 : TlC f b pos ((x1, y1, r1) :: A)) (h2 : TlC g b pos ((x2, y2, r2) :: B)) (hx : x1 = pos ∨ x2 = pos)
    {last : Nat} (hl : last = min y1 y2) :
    max x1 x2 = pos ∧ TlC f b (last + 1) (if y1 = last then A else (x1, y1, r1) :: A) ∧ TlC g b (last + 1) (if y2 = last then B else (x2, y2, r2) :: B) ∧
    (∀ u v s t, (if y1 = last then A else (x1, y1, r1) :: A).head? = some (u, s) → (if y2 = last then B else (x2, y2, r2) :: B).head? = some (v, t) → u = last + 1 ∨ v = last + 1) ∧
    ∀ D, DTl f g b (last + 1) D → DTl f g b pos ((if r1 = r2 then [] else [(pos, last, r1, r2)]) ++ D) := by
  obtain ⟨a1, a2, a3, a4, a5, a6⟩ := h1
  obtain ⟨b1, b2, b3, b4, b5, b6⟩ := h2
  have hp : pos ≤ last := by omega
  refine ⟨by omega, ?_, ?_, ?_, ?_⟩
  · by_cases e : y1 = last
    · rw [if_pos e, ← e]
      exact a6.c
    · rw [if_neg e]
      exact ⟨by omega, by omega, a3, fun n n1 n2 => a4 n (by omega) n2, a5, a6⟩
  · by_cases e : y2 = last
    · rw [if_pos e, ← e]
      exact b6.c
    · rw [if_neg e]
      exact ⟨by omega, by omega, b3, fun n n1 n2 => b4 n (by omega) n2, b5, b6⟩
  · intro u v s t hu hv
    by_cases e : y1 = last
    · rw [if_pos e] at hu
      left
      cases A with
      | nil => cases hu
      | cons z A =>
        obtain ⟨x, y, q⟩ := z
        cases hu
        rw [← e]
        exact a6.1
    · have e2 : y2 = last := by omega
      rw [if_pos e2] at hv
      right
      cases B with
      | nil => cases hv
      | cons z B =>
        obtain ⟨x, y, q⟩ := z
        cases hv
        rw [← e2]
        exact b6.1
  · intro D hD
    by_cases e : r1 = r2
    · rw [if_pos e]
      refine DTl.gap (m := last + 1) (by omega) (fun n n1 n2 => ?_) hD
      rw [a4 n n1 (by omega), b4 n n1 (by omega), e]
    · rw [if_neg e]
      refine ⟨Nat.le_refl _, hp, by omega, e, fun n n1 n2 => by omega, fun n n1 n2 => ⟨a4 n n1 (by omega), b4 n n1 (by omega)⟩, fun hb hc => ?_, hD⟩
      by_cases e1 : y1 = last
      · rw [e1] at a5
        exact a5 hb hc.1
      · have e2 : y2 = last := by omega
        rw [e2] at b5
        exact b5 hb hc.2
end Br

/-! More on trees of knots: counts, sizes, a kid in another's place. -/
namespace Br
open PySem PySem.Spec PyProof.Rows L2
namespace Tr
theorem count_prune (t : Tr) : t.prune.count = t.count := by
  unfold prune
  split
  · rename_i h
    match t, h with
    | nd none nil nil, _ => rfl
  · rfl
theorem count_put (x : Nat) : ∀ (s : List Bool) (t : Tr), (t.put s x).count = t.count + (if t.get s = none then 1 else 0)
  | [], nil => by rfl
  | [], nd g l r => by
    cases g with
    | none => show (if (some x).isSome = true then 1 else 0) + l.count + r.count = (if (none : Option Nat).isSome = true then 1 else 0) + l.count + r.count + (if (none : Option Nat) = none then 1 else 0); simp; omega
    | some y => show (if (some x).isSome = true then 1 else 0) + l.count + r.count = (if (some y).isSome = true then 1 else 0) + l.count + r.count + (if (some y) = none then 1 else 0); simp
  | b :: s, nil => by
    have h := count_put x s nil
    have h0 : nil.get s = none := get_nil s
    rw [h0, if_pos rfl] at h
    have h1 : nil.get (b :: s) = none := rfl
    rw [h1, if_pos rfl]
    have h3 : nil.count = 0 := rfl
    cases b
    · show 0 + (put nil s x).count + 0 = _; omega
    · show 0 + 0 + (put nil s x).count = _; omega
  | b :: s, nd g l r => by
    cases b
    · have h := count_put x s l
      show (if g.isSome = true then 1 else 0) + (put l s x).count + r.count = (if g.isSome = true then 1 else 0) + l.count + r.count + (if l.get s = none then 1 else 0)
      omega
    · have h := count_put x s r
      show (if g.isSome = true then 1 else 0) + l.count + (put r s x).count = (if g.isSome = true then 1 else 0) + l.count + r.count + (if r.get s = none then 1 else 0)
      omega
theorem count_take : ∀ (s : List Bool) (t : Tr), (t.take s).count + (if t.get s = none then 0 else 1) = t.count
  | s, nil => by rw [get_nil, if_pos rfl]; cases s <;> rfl
  | [], nd g l r => by
    cases g with
    | none => show 0 + l.count + r.count + (if (none : Option Nat) = none then 0 else 1) = 0 + l.count + r.count; simp
    | some y => show 0 + l.count + r.count + (if (some y) = none then 0 else 1) = (if (some y).isSome = true then 1 else 0) + l.count + r.count; simp; omega
  | b :: s, nd g l r => by
    cases b
    · have h := count_take s l
      show (if g.isSome = true then 1 else 0) + (prune (take l s)).count + r.count + (if l.get s = none then 0 else 1) = (if g.isSome = true then 1 else 0) + l.count + r.count
      rw [count_prune]
      omega
    · have h := count_take s r
      show (if g.isSome = true then 1 else 0) + l.count + (prune (take r s)).count + (if r.get s = none then 0 else 1) = (if g.isSome = true then 1 else 0) + l.count + r.count
      rw [count_prune]
      omega
theorem count_le : ∀ t : Tr, t.count ≤ t.size
  | nil => Nat.le_refl _
  | nd g l r => by
    have h1 := count_le l
    have h2 := count_le r
    show (if g.isSome = true then 1 else 0) + l.count + r.count ≤ 1 + l.size + r.size
    split <;> omega
theorem size_put (x : Nat) : ∀ (s : List Bool) (t : Tr), (t.put s x).size ≤ t.size + s.length + 1
  | [], nil => by show 1 + 0 + 0 ≤ _; simp [size]
  | [], nd g l r => by show 1 + l.size + r.size ≤ 1 + l.size + r.size + 0 + 1; omega
  | b :: s, nil => by
    have h := size_put x s nil
    have h3 : nil.size = 0 := rfl
    cases b
    · show 1 + (put nil s x).size + 0 ≤ 0 + (s.length + 1) + 1; omega
    · show 1 + 0 + (put nil s x).size ≤ 0 + (s.length + 1) + 1; omega
  | b :: s, nd g l r => by
    cases b
    · have h := size_put x s l
      show 1 + (put l s x).size + r.size ≤ 1 + l.size + r.size + (s.length + 1) + 1; omega
    · have h := size_put x s r
      show 1 + l.size + (put r s x).size ≤ 1 + l.size + r.size + (s.length + 1) + 1; omega
theorem size_prune (t : Tr) : t.prune.size ≤ t.size := by
  unfold prune
  split
  · exact Nat.zero_le _
  · exact Nat.le_refl _
theorem size_take : ∀ (s : List Bool) (t : Tr), (t.take s).size ≤ t.size
  | s, nil => by cases s <;> exact Nat.le_refl _
  | [], nd g l r => Nat.le_refl _
  | b :: s, nd g l r => by
    cases b
    · have h := size_take s l
      have h2 := size_prune (l.take s)
      show 1 + (prune (take l s)).size + r.size ≤ 1 + l.size + r.size; omega
    · have h := size_take s r
      have h2 := size_prune (r.take s)
      show 1 + l.size + (prune (take r s)).size ≤ 1 + l.size + r.size; omega
theorem size_sub : ∀ (s : List Bool) (t : Tr), (t.sub s).size ≤ t.size
  | [], t => Nat.le_refl _
  | b :: s, nil => Nat.le_refl _
  | b :: s, nd g l r => by
    cases b
    · have h := size_sub s l
      show (l.sub s).size ≤ 1 + l.size + r.size; omega
    · have h := size_sub s r
      show (r.sub s).size ≤ 1 + l.size + r.size; omega
theorem put_new (s : List Bool) (x : Nat) : put nil s x = put (nd none nil nil) s x := by
  cases s with
  | nil => rfl
  | cons b s => cases b <;> rfl
theorem get_new (s : List Bool) : (nd none nil nil).get s = none := by
  cases s with
  | nil => rfl
  | cons b s => cases b <;> exact get_nil s
end Tr
namespace AT
variable {C : Addr} {H H1 H2 H3 : Hp} {S : List Addr}
def opt : AT → List AT
  | nil => []
  | t => [t]
theorem way_snoc : ∀ (s : List Bool) (b : Bool) (t : AT), t.way (s ++ [b]) = t.way s ++ opt (t.sub (s ++ [b]))
  | [], b, nil => rfl
  | [], b, nd a dx ka g l r => by
    show _ :: (kid b l r).way [] = [_] ++ opt (kid b l r)
    cases kid b l r <;> rfl
  | c :: s, b, nil => rfl
  | c :: s, b, nd a dx ka g l r => by
    show _ :: (kid c l r).way (s ++ [b]) = _ :: ((kid c l r).way s ++ opt ((kid c l r).sub (s ++ [b])))
    rw [way_snoc s]
theorem way_dead : ∀ (s u : List Bool) (t : AT), t.sub s = nil → t.way (s ++ u) = t.way s
  | s, u, nil, _ => by
    have : ∀ v, nil.way v = [] := fun v => by cases v <;> rfl
    rw [this, this]
  | [], u, nd a dx ka g l r, h => by cases h
  | b :: s, u, nd a dx ka g l r, h => by
    show _ :: (kid b l r).way (s ++ u) = _ :: (kid b l r).way s
    rw [way_dead s u _ h]
theorem ok_some : ∀ {t : AT}, t.ok C H → ∀ a ∈ t.fp, ∃ o, H a = some o
  | nil, _, _, h => by cases h
  | nd a dx ka g l r, h, x, hx => by
    simp only [fp, List.mem_cons, List.mem_append] at hx
    rcases hx with rfl | rfl | hx | hx
    · exact ⟨_, h.1⟩
    · exact ⟨_, h.2.1⟩
    · exact ok_some h.2.2.1 x hx
    · exact ok_some h.2.2.2 x hx
/-- a knot with another kid -/
def setk (a dx ka : Addr) (g : Option Nat) (b : Bool) (l r u : AT) : AT := nd a dx ka g (if b then l else u) (if b then u else r)
theorem setk_tr (a dx ka : Addr) (g : Option Nat) (b : Bool) (l r u : AT) : (setk a dx ka g b l r u).tr = .nd g (if b then l.tr else u.tr) (if b then u.tr else r.tr) := by cases b <;> rfl
theorem kid_set {T a dx ka : Addr} {g : Option Nat} {b : Bool} {l r u : AT} (h : (nd a dx ka g l r).ok C H2) (n : (T :: (nd a dx ka g l r).fp).Nodup) (hT : ∃ o, H2 T = some o)
    (m : Mod (T :: ka :: (kid b l r).fp) H2 H3) (hka : H3 ka = some (.lst [if b then l.val else u.val, if b then u.val else r.val])) (uo : u.ok C H3) (un : (T :: u.fp).Nodup) (fr : ∀ x ∈ u.fp, x ∈ (kid b l r).fp ∨ H2 x = none) :
    (setk a dx ka g b l r u).ok C H3 ∧ (T :: (setk a dx ka g b l r u).fp).Nodup ∧ (∀ x ∈ (setk a dx ka g b l r u).fp, x ∈ (nd a dx ka g l r).fp ∨ H2 x = none) ∧ Mod (T :: (nd a dx ka g l r).fp) H2 H3 := by
  obtain ⟨h1, h2, h3, h4⟩ := h
  simp only [fp, List.nodup_cons, List.mem_cons, List.mem_append, not_or, List.nodup_append] at n
  obtain ⟨⟨nTa, nTk, nTl, nTr⟩, ⟨nak, nal, nar⟩, ⟨nkl, nkr⟩, nl, nr, nlr⟩ := n
  simp only [List.nodup_cons] at un
  have sa : ∀ x ∈ u.fp, ∀ o, H2 x = some o → x ∈ (kid b l r).fp := fun x hx o e => (fr x hx).resolve_right (by rw [e]; intro z; cases z)
  have ua : a ∉ u.fp := fun hx => by
    have := sa a hx _ h1
    cases b
    · exact nal this
    · exact nar this
  have uk : ka ∉ u.fp := fun hx => by
    have := sa ka hx _ h2
    cases b
    · exact nkl this
    · exact nkr this
  have ha3 : H3 a = some (.ins C dx (kf ka g)) := m _ _ h1 (.inl (by
    simp only [List.mem_cons, not_or]
    refine ⟨fun e => nTa e.symm, nak, ?_⟩
    cases b
    · exact nal
    · exact nar))
  cases b
  · have or' : r.ok C H3 := ok_mod h4 m fun x hx => by
      simp only [List.mem_cons, not_or]
      exact ⟨fun e => nTr (e ▸ hx), fun e => nkr (e ▸ hx), fun e => nlr x e x hx rfl⟩
    refine ⟨⟨ha3, hka, uo, or'⟩, ?_, ?_, ?_⟩
    · simp only [setk, fp, List.nodup_cons, List.mem_cons, List.mem_append, not_or, List.nodup_append]
      refine ⟨⟨nTa, nTk, un.1, nTr⟩, ⟨nak, ua, nar⟩, ⟨uk, nkr⟩, un.2, nr, fun x hx y hy e => ?_⟩
      subst e
      obtain ⟨o, eo⟩ := ok_some h4 x hy
      exact nlr x (sa x hx o eo) x hy rfl
    · intro x hx
      simp only [setk, fp, List.mem_cons, List.mem_append] at hx ⊢
      rcases hx with hx | hx | hx | hx
      · exact .inl (.inl hx)
      · exact .inl (.inr (.inl hx))
      · rcases fr x hx with z | z
        · exact .inl (.inr (.inr (.inl z)))
        · exact .inr z
      · exact .inl (.inr (.inr (.inr hx)))
    · refine m.mono fun x hx => ?_
      simp only [fp, List.mem_cons, List.mem_append] at hx ⊢
      rcases hx with hx | hx | hx
      · exact .inl hx
      · exact .inr (.inr (.inl hx))
      · exact .inr (.inr (.inr (.inl hx)))
  · have ol : l.ok C H3 := ok_mod h3 m fun x hx => by
      simp only [List.mem_cons, not_or]
      exact ⟨fun e => nTl (e ▸ hx), fun e => nkl (e ▸ hx), fun e => nlr x hx x e rfl⟩
    refine ⟨⟨ha3, hka, ol, uo⟩, ?_, ?_, ?_⟩
    · simp only [setk, fp, List.nodup_cons, List.mem_cons, List.mem_append, not_or, List.nodup_append]
      refine ⟨⟨nTa, nTk, nTl, un.1⟩, ⟨nak, nal, ua⟩, ⟨nkl, uk⟩, nl, un.2, fun x hx y hy e => ?_⟩
      subst e
      obtain ⟨o, eo⟩ := ok_some h3 x hx
      exact nlr x hx x (sa x hy o eo) rfl
    · intro x hx
      simp only [setk, fp, List.mem_cons, List.mem_append] at hx ⊢
      rcases hx with hx | hx | hx | hx
      · exact .inl (.inl hx)
      · exact .inl (.inr (.inl hx))
      · exact .inl (.inr (.inr (.inl hx)))
      · rcases fr x hx with z | z
        · exact .inl (.inr (.inr (.inr z)))
        · exact .inr z
    · refine m.mono fun x hx => ?_
      simp only [fp, List.mem_cons, List.mem_append] at hx ⊢
      rcases hx with hx | hx | hx
      · exact .inl hx
      · exact .inr (.inr (.inl hx))
      · exact .inr (.inr (.inr (.inr hx)))
theorem kid_val (b : Bool) (l r : AT) : [l.val, r.val][if b then 1 else 0]? = some (kid b l r).val := by cases b <;> rfl
theorem sub_kid (s : List Bool) (b : Bool) {t : AT} {a dx ka : Addr} {g : Option Nat} {l r : AT} (h : t.sub s = nd a dx ka g l r) : t.sub (s ++ [b]) = kid b l r := by
  rw [sub_snoc, h]
  rfl
end AT
/-- the stretches beneath a start -/
def tells (t : Tr) (v : Nat) (s : List Bool) : List St3 := spr (t.sub s) (v - s.length) (num s * 2 ^ (v - s.length)) (t.road none s) []
theorem tells_len (t : Tr) (v : Nat) (s : List Bool) : (tells t v s).length ≤ t.size + 1 := by
  have h := spr_len (t.sub s) (v - s.length) (num s * 2 ^ (v - s.length)) (t.road none s) []
  have h2 := Tr.size_sub s t
  have h3 : ([] : List St3).length = 0 := rfl
  unfold tells
  omega
/-- a table -/
def tf (v : Nat) (t : AT) (n : Nat) : List (Str × V) := [("wide", .int (v : Int)), ("top", t.val), ("amount", .int (n : Int))]
structure Tab (CK CT : Addr) (H : Hp) (T : Addr) (v : Nat) (t : AT) : Prop where
  obj : ∃ d, H T = some (.ins CT d (tf v t t.tr.count))
  ok : t.ok CK H
  nd : (T :: t.fp).Nodup
  neat : t.tr.neat
  deep : t.tr.deep v
  w1 : 1 ≤ v
  w2 : v ≤ 64
  sz : t.tr.size ≤ 20000
namespace Tab
variable {CK CT T : Addr} {H H1 : Hp} {v : Nat} {t : AT} {S : List Addr}
theorem modd (h : Tab CK CT H T v t) (m : Mod S H H1) (d : ∀ a ∈ T :: t.fp, a ∉ S) : Tab CK CT H1 T v t := by
  obtain ⟨dx, ho⟩ := h.obj
  exact ⟨⟨dx, m _ _ ho (.inl (d T List.mem_cons_self))⟩, AT.ok_mod h.ok m fun a ha => d a (List.mem_cons_of_mem _ ha), h.nd, h.neat, h.deep, h.w1, h.w2, h.sz⟩
theorem same (h : Tab CK CT H T v t) (m : Same H H1) : Tab CK CT H1 T v t := h.modd (S := []) (Mod.same m) (by simp)
theorem ne (h : Tab CK CT H T v t) : t ≠ .nil := fun e => by
  have := h.neat
  rw [e] at this
  exact this
theorem some_ (h : Tab CK CT H T v t) : ∀ a ∈ T :: t.fp, ∃ o, H a = some o := fun a ha => by
  rcases List.mem_cons.mp ha with rfl | ha
  · obtain ⟨d, e⟩ := h.obj
    exact ⟨_, e⟩
  · exact AT.ok_some h.ok a ha
theorem free (h : Tab CK CT H T v t) {p : Addr} (e : H p = none) : p ∉ T :: t.fp := fun m => by
  obtain ⟨o, z⟩ := h.some_ p m
  rw [e] at z
  cases z
end Tab
end Br

/-! Rules: a list of anything against [] ; the last tuple of a list. -/
namespace Br
open PySem PySem.Spec PyProof.Rows L2
section
variable {X : Cx}
/-- xs != [] , whatever the items -/
theorem op_neNil (hu : X.A.units + 64 < cLine) : OpR X (compareOp .NotEq) (fun x y H Q => ∃ p q xs, x = .ref p ∧ y = .ref q ∧ H p = some (.lst xs) ∧ H q = some (.lst []) ∧ Q (.bl (!xs.isEmpty)) H) := by
  intro pins s σ H x y v u Q I rx ry h
  obtain ⟨p, q, xs, rfl, rfl, hp, hq, k⟩ := h
  cases rx
  cases ry
  obtain ⟨its, rv, pl, _⟩ := I.list (SqL.of (K := X.K) hp)
  obtain ⟨its2, rv2, pl2, _⟩ := I.list (SqL.of (K := X.K) hq)
  cases rv2
  have e1 := rv.length
  cases xs with
  | nil =>
    cases rv
    have h := SeqAt.RcNeAt.lists (A := X.A) (s := s) (e := fun _ => true) pl.isList pl2.isList rfl (by omega) (fun j h1 h2 => by simp at h1)
    exact h _ _ _ _ ⟨.bl _, H, I, rfl, k⟩
  | cons z xs =>
    have h := SeqAt.RcNeAt.lists_lengths (A := X.A) (s := s) pl.isList pl2.isList (by
      have : its.length = xs.length + 1 := by rw [← e1]; rfl
      simp [this]) (by omega)
    exact h _ _ _ _ ⟨.bl _, H, I, rfl, k⟩
theorem op_eqNil (hu : X.A.units + 64 < cLine) : OpR X (compareOp .Eq) (fun x y H Q => ∃ p q xs, x = .ref p ∧ y = .ref q ∧ H p = some (.lst xs) ∧ H q = some (.lst []) ∧ Q (.bl xs.isEmpty) H) := by
  intro pins s σ H x y v u Q I rx ry h
  obtain ⟨p, q, xs, rfl, rfl, hp, hq, k⟩ := h
  cases rx
  cases ry
  obtain ⟨its, rv, pl, _⟩ := I.list (SqL.of (K := X.K) hp)
  obtain ⟨its2, rv2, pl2, _⟩ := I.list (SqL.of (K := X.K) hq)
  cases rv2
  have e1 := rv.length
  cases xs with
  | nil =>
    cases rv
    have h := SeqAt.RcAt.lists (A := X.A) (s := s) (e := fun _ => true) pl.isList pl2.isList rfl (by omega) (fun j h1 h2 => by simp at h1)
    exact h _ _ _ _ ⟨.bl _, H, I, rfl, k⟩
  | cons z xs =>
    have h := SeqAt.RcAt.lists_lengths (A := X.A) (s := s) pl.isList pl2.isList (by
      have : its.length = xs.length + 1 := by rw [← e1]; rfl
      simp [this]) (by omega)
    exact h _ _ _ _ ⟨.bl _, H, I, rfl, k⟩
end
theorem LT.last {H : Hp} {p : Addr} {L : List (List V)} {row : List V} (h : LT H p (L ++ [row])) : ∃ (vs : List V) (c : Addr), H p = some (.lst (vs ++ [V.ref c])) ∧ H c = some (.tup row) ∧ vs.length = L.length ∧ ∀ (i : Nat) (row' : List V), L[i]? = some row' → ∃ a, vs[i]? = some (V.ref a) ∧ H a = some (.tup row') := by
  obtain ⟨vs, h1, h2, h3⟩ := h
  rw [List.length_append, List.length_singleton] at h2
  obtain ⟨c, e1, e2⟩ := h3 L.length row (by simp)
  have hv : vs = vs.dropLast ++ [V.ref c] := by
    have n0 : vs ≠ [] := by intro z; rw [z] at h2; simp at h2
    have e3 := List.dropLast_concat_getLast n0
    rw [← e3]
    congr 1
    · rw [e3]
    · congr 1
      have e4 : vs.getLast n0 = vs[vs.length - 1] := List.getLast_eq_getElem n0
      rw [e4]
      have e5 : vs[vs.length - 1]? = some (V.ref c) := by rw [h2]; exact e1
      rw [List.getElem?_eq_getElem (by omega)] at e5
      exact Option.some.inj e5
  have hl : vs.dropLast.length = L.length := by rw [List.length_dropLast, h2]; rfl
  refine ⟨vs.dropLast, c, by rw [← hv]; exact h1, e2, hl, fun i row' e => ?_⟩
  have hi : i < L.length := (List.getElem?_eq_some_iff.mp e).1
  obtain ⟨a, f1, f2⟩ := h3 i row' (by rw [List.getElem?_append_left hi]; exact e)
  refine ⟨a, ?_, f2⟩
  rw [hv, List.getElem?_append_left (by omega)] at f1
  exact f1
namespace AT
theorem way_at : ∀ (s : List Bool) (t : AT) (i : Nat) (x : AT), (t.way s)[i]? = some x → i ≤ s.length ∧ x = t.sub (s.take i) ∧ x ≠ nil
  | s, nil, i, x, h => by
    have : nil.way s = [] := by cases s <;> rfl
    rw [this] at h
    simp at h
  | [], nd a dx ka g l r, 0, x, h => by cases h; exact ⟨Nat.le_refl _, rfl, by intro z; cases z⟩
  | [], nd a dx ka g l r, i + 1, x, h => by cases h
  | b :: s, nd a dx ka g l r, 0, x, h => by cases h; exact ⟨Nat.zero_le _, rfl, by intro z; cases z⟩
  | b :: s, nd a dx ka g l r, i + 1, x, h => by
    obtain ⟨h1, h2, h3⟩ := way_at s (kid b l r) i x h
    exact ⟨Nat.succ_le_succ h1, h2, h3⟩
end AT
/-- the starts of a word that have a row, the shortest first -/
def fitsL (f : List Bool → Option Nat) (u : List Bool) (n : Nat) : List (List Bool) := ((List.range n).map fun i => u.take i).filter fun s => (f s).isSome
theorem fitsL_succ (f : List Bool → Option Nat) (u : List Bool) (n : Nat) : fitsL f u (n + 1) = fitsL f u n ++ (if (f (u.take n)).isSome = true then [u.take n] else []) := by
  unfold fitsL
  rw [List.range_succ, List.map_append, List.filter_append]
  congr 1
  show List.filter _ [u.take n] = _
  rw [List.filter_cons]
  split <;> rfl
theorem fitsL_len (f : List Bool → Option Nat) (u : List Bool) (n : Nat) : (fitsL f u n).length ≤ n := by
  unfold fitsL
  refine Nat.le_trans (List.length_filter_le _ _) ?_
  simp
/-- no knot, no row -/
theorem fitsL_way (t : AT) (u : List Bool) : fitsL t.tr.get u (t.way u).length = fitsL t.tr.get u (u.length + 1) := by
  have h0 := AT.way_len_le u t
  obtain ⟨d, hd⟩ : ∃ d, u.length + 1 = (t.way u).length + d := ⟨u.length + 1 - (t.way u).length, by omega⟩
  rw [hd]
  have : ∀ d, (t.way u).length + d ≤ u.length + 1 → fitsL t.tr.get u (t.way u).length = fitsL t.tr.get u ((t.way u).length + d) := by
    intro d
    induction d with
    | zero => intro _; rfl
    | succ d ih =>
      intro hle
      rw [ih (by omega), ← Nat.add_assoc, fitsL_succ]
      have hn : t.sub (u.take ((t.way u).length + d)) = .nil := Classical.byContradiction fun n => by
        have := AT.way_get u t _ (by omega) n
        have := (List.getElem?_eq_some_iff.mp this).1
        omega
      have hg := AT.goal_get (u.take ((t.way u).length + d)) t
      rw [hn] at hg
      rw [← hg]
      simp [AT.goal]
  exact this d (by omega)
end Br

/-! bitroads.words -/
namespace Br
open PySem PySem.Spec PyProof.Rows L2
open C8 (Cal Met Mak cal0 met0 mak0 pe_c pe_mk pe_mt pe_mt0 pe_gc Def)
def top (i : Nat) : Stmt := PySem.Challenge.pw_bitroads_k09_no_fewer_rows.main.body.getD i (.Pass ⟨0, 0, 0, 0⟩)
/-- the built-ins are not shadowed; the module's constants -/
structure Glob (mg : Str → Option Value) : Prop where
  g_isinstance : mg "isinstance" = none
  g_len : mg "len" = none
  g_int : mg "int" = none
  g_bool : mg "bool" = none
  g_str : mg "str" = none
  g_list : mg "list" = none
  g_tuple : mg "tuple" = none
  g_dict : mg "dict" = none
  g_set : mg "set" = none
  g_range : mg "range" = none
  g_enumerate : mg "enumerate" = none
  g_sorted : mg "sorted" = none
  g_any : mg "any" = none
  g_all : mg "all" = none
  g_sum : mg "sum" = none
  g_min : mg "min" = none
  g_max : mg "max" = none
  g_MOST_WIDTH : ∃ u, mg "MOST_WIDTH" = some u ∧ RelV (.int 64) u
  g_MOST_ROAD : ∃ u, mg "MOST_ROAD" = some u ∧ RelV (.int 18446744073709551615) u
  g_BITS : ∃ u, mg "BITS" = some u ∧ RelV (.str (tx [false, true])) u
/-- a def of the text with all parameters given -/
structure Dn (K : PySem.W.Frag) (mg : Str → Option Value) (x : Str) (st : Stmt) (ps : List Str) : Prop where
  ex : ∃ (f : Addr) (fd : FuncData), Def K mg x st f fd ∧ Binds K fd ps []
section
variable {P : Program} {w : World} {K : PySem.W.Frag} {mg : Str → Option Value} {base : Heap}
theorem Dn.cal {x : Str} {st : Stmt} {N ps : List Str} {k : Nat} {sp : Sp} (D : Dn K mg x st ps) (S : FnScope N ps (C8.fnScope st)) (len : ∀ vs H Q E, sp vs H Q E → vs.length = ps.length)
    (hbody : ∀ (f : Addr) (cdv : Value) (A : Around) (outer : List Env) (s : Shared) (H : Hp) (vs : List V) (Q : VK) (E : XK), Room k (A.deeper (envOfC x (C8.fnScope st) s.heap.objs.size f cdv)) → sp vs H Q E →
      ∃ t, PSs (cxOf C8.CX0 P w K mg base N x (C8.fnScope st) f cdv A outer s H E).nox (C8.fnBody st) t ∧ t { nx := fun _ H' => Q .non H', rt := Q } (start N vs) H) : Cal P w K mg base (k + 1) x sp [] := by
  obtain ⟨f, fd, D, b⟩ := D.ex
  exact cal0 D b .nil S len fun cdv A outer s H vs Q E hr h => hbody f cdv A outer s H vs Q E hr h

abbrev s_is_among : Stmt := top 11
abbrev n_is_among : List Str := ["thing", "least", "most"]
theorem sc_is_among : FnScope n_is_among ["thing", "least", "most"] (C8.fnScope s_is_among) := ⟨rfl, rfl, rfl, by decide +kernel, rfl, by decide +kernel, by decide +kernel⟩
def spAmong : Sp := fun vs H Q _ => ∃ x lo hi, vs = [x, .int lo, .int hi] ∧ Thing H x ∧ Q (.bl (isAmong x lo hi)) H
theorem c_is_among (T : Glob mg) (D : Dn K mg "is_among" s_is_among ["thing", "least", "most"]) : Cal P w K mg base 1 "is_among" spAmong [] := by
  refine D.cal sc_is_among (fun vs H Q E h => ?_) (fun f cdv A outer s H vs Q E hr h => ?_)
  · obtain ⟨x, lo, hi, rfl, _⟩ := h
    rfl
  · obtain ⟨x, lo, hi, rfl, ht, k⟩ := h
    refine ⟨_, (pss_one (ps_ret (pe_and (pe_callB call_isi (by rfl) T.g_isinstance (by decide +kernel) (pa_cons (pv 0) (pa_cons (pe_bltn (v := .ty "int") (by rfl) T.g_int boot_int rfl) pa_nil))) (pe_and (pe_not (pe_callB call_isi (by rfl) T.g_isinstance (by decide +kernel) (pa_cons (pv 0) (pa_cons (pe_bltn (v := .ty "bool") (by rfl) T.g_bool boot_bool rfl) pa_nil)))) (pe_one (pe_chain op_le op_le (pv 1) (pv 0) (pv 2))))))), ?_⟩
    obtain ⟨n1, t1, k1⟩ := ht.isInt (K := K)
    obtain ⟨n2, t2, k2⟩ := ht.isBool (K := K)
    refine ⟨_, rfl, _, _, _, _, _, rfl, .ty _, t1, k1, _, rfl, ?_⟩
    cases x with
    | int i =>
      refine iteT ?_
      refine ⟨_, rfl, _, _, _, _, _, rfl, .ty _, t2, k2, _, rfl, _, rfl, ?_⟩
      refine iteT ?_
      refine ⟨_, rfl, _, rfl, _, _, rfl, rfl, _, rfl, ?_⟩
      refine ite2 (fun c => ?_) fun c => ?_
      · refine ⟨_, rfl, _, _, rfl, rfl, ?_⟩
        have e : isAmong (.int i) lo hi = decide (i ≤ hi) := by
          show (decide (lo ≤ i) && decide (i ≤ hi)) = _
          rw [c, Bool.true_and]
        rw [e] at k
        exact k
      · have e : isAmong (.int i) lo hi = false := by
          show (decide (lo ≤ i) && decide (i ≤ hi)) = _
          rw [Bool.eq_false_iff.mpr c, Bool.false_and]
        rw [e] at k
        exact k
    | bl b =>
      refine iteT ?_
      refine ⟨_, rfl, _, _, _, _, _, rfl, .ty _, t2, k2, _, rfl, _, rfl, ?_⟩
      exact iteF k
    | _ => exact iteF k
abbrev s_is_width : Stmt := top 12
abbrev n_is_width : List Str := ["thing"]
theorem sc_is_width : FnScope n_is_width ["thing"] (C8.fnScope s_is_width) := ⟨rfl, rfl, rfl, by decide +kernel, rfl, by decide +kernel, by decide +kernel⟩
def spWidth : Sp := fun vs H Q _ => ∃ x, vs = [x] ∧ Thing H x ∧ Q (.bl (isAmong x 1 64)) H
theorem c_is_width (T : Glob mg) (D : Dn K mg "is_width" s_is_width ["thing"]) (c_is_among : Cal P w K mg base 1 "is_among" spAmong []) : Cal P w K mg base 2 "is_width" spWidth [] := by
  refine D.cal sc_is_width (fun vs H Q E h => ?_) (fun f cdv A outer s H vs Q E hr h => ?_)
  · obtain ⟨x, rfl, _⟩ := h
    rfl
  · obtain ⟨x, rfl, ht, k⟩ := h
    exact ⟨_, (pss_one (ps_ret (pe_c c_is_among hr (by first | decide | omega) rfl (pa_cons (pv 0) (pa_cons pe_int (pa_cons (pe_gc rfl T.g_MOST_WIDTH) pa_nil)))))), _, rfl, _, _, _, rfl, ht, k⟩
abbrev s_is_road : Stmt := top 13
abbrev n_is_road : List Str := ["thing"]
theorem sc_is_road : FnScope n_is_road ["thing"] (C8.fnScope s_is_road) := ⟨rfl, rfl, rfl, by decide +kernel, rfl, by decide +kernel, by decide +kernel⟩
def spRoad : Sp := fun vs H Q _ => ∃ x, vs = [x] ∧ Thing H x ∧ Q (.bl (isAmong x 0 18446744073709551615)) H
theorem c_is_road (T : Glob mg) (D : Dn K mg "is_road" s_is_road ["thing"]) (c_is_among : Cal P w K mg base 1 "is_among" spAmong []) : Cal P w K mg base 2 "is_road" spRoad [] := by
  refine D.cal sc_is_road (fun vs H Q E h => ?_) (fun f cdv A outer s H vs Q E hr h => ?_)
  · obtain ⟨x, rfl, _⟩ := h
    rfl
  · obtain ⟨x, rfl, ht, k⟩ := h
    exact ⟨_, (pss_one (ps_ret (pe_c c_is_among hr (by first | decide | omega) rfl (pa_cons (pv 0) (pa_cons pe_int (pa_cons (pe_gc rfl T.g_MOST_ROAD) pa_nil)))))), _, rfl, _, _, _, rfl, ht, k⟩
abbrev s_is_bits : Stmt := top 14
abbrev n_is_bits : List Str := ["thing", "least", "most", "sign"]
theorem sc_is_bits : FnScope n_is_bits ["thing", "least", "most"] (C8.fnScope s_is_bits) := ⟨rfl, rfl, rfl, by decide +kernel, rfl, by decide +kernel, by decide +kernel⟩
def spBits : Sp := fun vs H Q _ => ∃ x lo hi, vs = [x, .int lo, .int hi] ∧ Thing H x ∧ ∀ H', Same H H' → Q (.bl (isBits x lo hi)) H'
theorem c_is_bits (T : Glob mg) (D : Dn K mg "is_bits" s_is_bits ["thing", "least", "most"]) : Cal P w K mg base 1 "is_bits" spBits [] := by
  refine D.cal sc_is_bits (fun vs H Q E h => ?_) (fun f cdv A outer s H vs Q E hr h => ?_)
  · obtain ⟨x, lo, hi, rfl, _⟩ := h
    rfl
  · obtain ⟨x, lo, hi, rfl, ht, k⟩ := h
    refine ⟨_, (pss_one (ps_ret (pe_and (pe_callB call_isi (by rfl) T.g_isinstance (by decide +kernel) (pa_cons (pv 0) (pa_cons (pe_bltn (v := .ty "str") (by rfl) T.g_str boot_str rfl) pa_nil))) (pe_and (pe_chain op_le op_le (pv 1) (pe_callB call_len_str (by rfl) T.g_len boot_len (pa_cons (pv 0) pa_nil)) (pv 2)) (pe_one (pe_callB (cr_all rfl) (by rfl) T.g_all (by decide +kernel) (pa_cons (pe_lc (own := [("sign", 3)]) (g := (gName 3)) (tt := tYes) rfl sc_is_bits.nd (pi_str (pv 0)) (blkOk_by (own := [("sign", 3)]) (N := n_is_bits) (sc := C8.fnScope s_is_bits) (by decide +kernel)) (fun _ _ _ _ _ => (pg_name (i := 3) sc_is_bits.nd rfl (by first | exact Or.inl rfl | exact Or.inr rfl))) (fun _ _ _ _ _ => pts_nil) (fun _ _ _ _ _ => (pe_cmpR op_in_sign (pv 3) (pe_gc rfl T.g_BITS) (by rfl)))) pa_nil))))))), ?_⟩
    obtain ⟨n1, t1, k1⟩ := ht.isStr (K := K)
    refine ⟨_, rfl, _, _, _, _, _, rfl, .ty _, t1, k1, _, rfl, ?_⟩
    cases x with
    | str z =>
      have hz : z.length ≤ 100000 := by cases ht; assumption
      refine iteT ?_
      refine ⟨_, rfl, _, rfl, _, rfl, Nat.le_trans hz (by decide), _, _, rfl, rfl, _, rfl, ?_⟩
      refine ite2 (fun c => ?_) fun c => ?_
      · refine ⟨_, rfl, _, _, rfl, rfl, _, rfl, ?_⟩
        refine ite2 (fun c2 => ?_) fun c2 => ?_
        · refine ⟨_, rfl, _, rfl, fun D hD => ?_⟩
          refine lc_it walk_str (PvF H D fun i => (z.cps.toList.take i).map fun c => V.bl (decide (c = 48 ∨ c = 49))) (pv0 hD) (fun _ _ _ _ => trivial) ?_ ?_
          · rintro i x H1 H2 hi ⟨s1, h1⟩ ⟨rfl, c, hc, rfl⟩
            refine ⟨rfl, yesI ?_⟩
            refine ⟨_, rfl, _, _, rfl, rfl, ?_⟩
            have hc' : z.cps.toList[i]? = some c := by simpa using hc
            refine pv_in hD s1 h1 ?_ ?_
            · simp only [List.length_map, List.length_take]
              have : i < z.cps.size := hi
              have : z.length = z.cps.size := rfl
              omega
            · show ((z.cps.toList.take (i + 1)).map _) = _
              rw [take_snoc hc', List.map_append]
              congr 1
              show [V.bl _] = [V.bl _]
              congr 2
              rw [tx_cps]
              simp [bc, or_comm]
          · rintro H1 ⟨s1, h1⟩
            refine ⟨_, z.cps.toList.map (fun c => decide (c = 48 ∨ c = 49)), rfl, SqL.of ?_, ?_⟩
            · rw [h1]
              show some (HO.lst ((z.cps.toList.take z.cps.size).map _)) = _
              rw [take_cps, List.map_map]
              rfl
            · have e : isBits (.str z) lo hi = (z.cps.toList.map (fun c => decide (c = 48 ∨ c = 49))).all id := by
                show (decide (lo ≤ (z.length : Int)) && decide ((z.length : Int) ≤ hi) && _) = _
                rw [c, c2, List.all_map]
                rfl
              rw [e] at k
              exact k H1 s1
        · have e : isBits (.str z) lo hi = false := by
            show (decide (lo ≤ (z.length : Int)) && decide ((z.length : Int) ≤ hi) && _) = _
            rw [Bool.eq_false_iff.mpr c2, Bool.and_false, Bool.false_and]
          rw [e] at k
          exact k H (Same.refl H)
      · have e : isBits (.str z) lo hi = false := by
          show (decide (lo ≤ (z.length : Int)) && decide ((z.length : Int) ≤ hi) && _) = _
          rw [Bool.eq_false_iff.mpr c, Bool.false_and, Bool.false_and]
        rw [e] at k
        refine ⟨_, rfl, iteF ?_⟩
        exact k H (Same.refl H)
    | _ => exact iteF (k H (Same.refl H))
abbrev s_is_word : Stmt := top 15
abbrev n_is_word : List Str := ["width", "thing"]
theorem sc_is_word : FnScope n_is_word ["width", "thing"] (C8.fnScope s_is_word) := ⟨rfl, rfl, rfl, by decide +kernel, rfl, by decide +kernel, by decide +kernel⟩
def spWord : Sp := fun vs H Q _ => ∃ x w, vs = [.int w, x] ∧ Thing H x ∧ ∀ H', Same H H' → Q (.bl (isBits x w w)) H'
theorem c_is_word (T : Glob mg) (D : Dn K mg "is_word" s_is_word ["width", "thing"]) (c_is_bits : Cal P w K mg base 1 "is_bits" spBits []) : Cal P w K mg base 2 "is_word" spWord [] := by
  refine D.cal sc_is_word (fun vs H Q E h => ?_) (fun f cdv A outer s H vs Q E hr h => ?_)
  · obtain ⟨x, w, rfl, _⟩ := h
    rfl
  · obtain ⟨x, w, rfl, ht, k⟩ := h
    exact ⟨_, (pss_one (ps_ret (pe_c c_is_bits hr (by first | decide | omega) rfl (pa_cons (pv 1) (pa_cons (pv 0) (pa_cons (pv 0) pa_nil)))))), _, rfl, _, rfl, _, rfl, _, _, _, rfl, ht, k⟩
abbrev s_is_start : Stmt := top 16
abbrev n_is_start : List Str := ["width", "thing"]
theorem sc_is_start : FnScope n_is_start ["width", "thing"] (C8.fnScope s_is_start) := ⟨rfl, rfl, rfl, by decide +kernel, rfl, by decide +kernel, by decide +kernel⟩
def spStart : Sp := fun vs H Q _ => ∃ x w, vs = [.int w, x] ∧ Thing H x ∧ ∀ H', Same H H' → Q (.bl (isBits x 0 w)) H'
theorem c_is_start (T : Glob mg) (D : Dn K mg "is_start" s_is_start ["width", "thing"]) (c_is_bits : Cal P w K mg base 1 "is_bits" spBits []) : Cal P w K mg base 2 "is_start" spStart [] := by
  refine D.cal sc_is_start (fun vs H Q E h => ?_) (fun f cdv A outer s H vs Q E hr h => ?_)
  · obtain ⟨x, w, rfl, _⟩ := h
    rfl
  · obtain ⟨x, w, rfl, ht, k⟩ := h
    exact ⟨_, (pss_one (ps_ret (pe_c c_is_bits hr (by first | decide | omega) rfl (pa_cons (pv 1) (pa_cons pe_int (pa_cons (pv 0) pa_nil)))))), _, rfl, _, rfl, _, _, _, rfl, ht, k⟩
/-! ### number_of, word_of, span_of -/
theorem bits_index (b : Bool) : Builtin.Str.occurrences (tx [false, true]) ⟨#[bc b]⟩ 0 (tx [false, true]).length 1 = [if b then 1 else 0] := by
  cases b <;> decide +kernel
abbrev s_number_of : Stmt := top 17
abbrev n_number_of : List Str := ["start", "number", "sign"]
theorem sc_number_of : FnScope n_number_of ["start"] (C8.fnScope s_number_of) := ⟨rfl, rfl, rfl, by decide +kernel, rfl, by decide +kernel, by decide +kernel⟩
def spNumber : Sp := fun vs H Q _ => ∃ l : List Bool, vs = [.str (tx l)] ∧ l.length ≤ 1000 ∧ Q (.int ((num l : Nat) : Int)) H
theorem c_number_of (T : Glob mg) (D : Dn K mg "number_of" s_number_of ["start"]) : Cal P w K mg base 1 "number_of" spNumber [] := by
  refine D.cal sc_number_of (fun vs H Q E h => ?_) (fun f cdv A outer s H vs Q E hr h => ?_)
  · obtain ⟨l, rfl, _⟩ := h
    rfl
  · obtain ⟨l, rfl, hl, k⟩ := h
    refine ⟨_, (pss_cons (ps_set (i := 1) sc_number_of.nd rfl (by first | exact Or.inl rfl | exact Or.inr rfl) pe_int)
      (pss_cons (ps_for PassesOwn.never rfl (pi_str (pv 0)) (pg_name (i := 2) sc_number_of.nd rfl (by first | exact Or.inl rfl | exact Or.inr rfl))
      (pss_one (ps_set (i := 1) sc_number_of.nd rfl (by first | exact Or.inl rfl | exact Or.inr rfl) (pe_op op_add (pe_op op_mul pe_int (pv 1)) (pe_m1 PySem.F.slot_str_index PySem.F.type_str_index mt_sindex (pe_gc rfl T.g_BITS) (pv 2))))))
      (pss_one (ps_ret (pv 1))))), ?_⟩
    refine ⟨_, rfl, _, rfl, for_it walk_str (fun i σ H' => ∃ v, σ = [some (.str (tx l)), some (.int ((num (l.take i) : Nat) : Int)), v] ∧ H' = H) ⟨none, rfl, rfl⟩ (fun _ _ _ _ _ => trivial) ?_ ?_⟩
    · rintro i x σ H1 H2 hi ⟨v, rfl, rfl⟩ ⟨rfl, c, hc, rfl⟩
      obtain ⟨b, hb, rfl⟩ := tx_get hc
      refine ⟨_, rfl, _, _, rfl, rfl, .inl ⟨by decide, by decide⟩, ⟨_, rfl⟩, _, rfl, _, _, _, _, rfl, rfl, bits_index b, _, _, rfl, rfl, ?_⟩
      refine ⟨some (.str ⟨#[bc b]⟩), ?_, rfl⟩
      have e : (2 * ((num (l.take i) : Nat) : Int) + ((if b then 1 else 0 : Nat) : Int)) = ((num (l.take (i + 1)) : Nat) : Int) := by
        rw [take_snoc hb, num_snoc]
        omega
      rw [← e]
      rfl
    · rintro σ H1 ⟨v, rfl, rfl⟩
      refine ⟨_, rfl, ?_⟩
      have e : l.take (tx l).cps.size = l := List.take_of_length_le (by show l.length ≤ (tx l).length; rw [tx_len]; exact Nat.le_refl _)
      rw [e]
      exact k
/-- the first and the last number of the words that a start fits -/
def lo (l : List Bool) (w : Nat) : Nat := num l * 2 ^ (w - l.length)
def hi (l : List Bool) (w : Nat) : Nat := lo l w + 2 ^ (w - l.length) - 1
theorem lo_le_hi (l : List Bool) (w : Nat) : lo l w ≤ hi l w := by unfold hi; have := pow_pos2 (w - l.length); omega
theorem lo_lt (l : List Bool) (w : Nat) (h : l.length ≤ w) : hi l w < 2 ^ w := by
  have h1 := num_lt l
  have h2 : 2 ^ w = 2 ^ l.length * 2 ^ (w - l.length) := by rw [← Nat.pow_add]; congr 1; omega
  have h3 : (num l + 1) * 2 ^ (w - l.length) ≤ 2 ^ l.length * 2 ^ (w - l.length) := Nat.mul_le_mul_right _ h1
  have h4 := pow_pos2 (w - l.length)
  rw [Nat.add_mul] at h3
  unfold hi lo
  omega
abbrev s_span_of : Stmt := top 18
abbrev n_span_of : List Str := ["start", "width", "size", "first"]
theorem sc_span_of : FnScope n_span_of ["start", "width"] (C8.fnScope s_span_of) := ⟨rfl, rfl, rfl, by decide +kernel, rfl, by decide +kernel, by decide +kernel⟩
def spSpan : Sp := fun vs H Q _ => ∃ (l : List Bool) (v : Nat), vs = [.str (tx l), .int (v : Int)] ∧ l.length ≤ v ∧ v ≤ 64 ∧ ∀ p, H p = none → Q (.ref p) (upd H p (.tup [.int ((lo l v : Nat) : Int), .int ((hi l v : Nat) : Int)]))
theorem c_span_of (T : Glob mg) (D : Dn K mg "span_of" s_span_of ["start", "width"]) (c_number_of : Cal P w K mg base 1 "number_of" spNumber []) : Cal P w K mg base 2 "span_of" spSpan [] := by
  refine D.cal sc_span_of (fun vs H Q E h => ?_) (fun f cdv A outer s H vs Q E hr h => ?_)
  · obtain ⟨l, v, rfl, _⟩ := h
    rfl
  · obtain ⟨l, v, rfl, hl, hv, k⟩ := h
    refine ⟨_, (pss_cons (ps_set (i := 2) sc_span_of.nd rfl (by first | exact Or.inl rfl | exact Or.inr rfl) (pe_op op_shl1 pe_int (pe_op op_sub (pv 1) (pe_callB call_len_str (by rfl) T.g_len boot_len (pa_cons (pv 0) pa_nil)))))
      (pss_cons (ps_set (i := 3) sc_span_of.nd rfl (by first | exact Or.inl rfl | exact Or.inr rfl) (pe_op op_mul (pe_c c_number_of hr (by first | decide | omega) rfl (pa_cons (pv 0) pa_nil)) (pv 2)))
      (pss_one (ps_ret (pe_tup (pa_cons (pv 3) (pa_cons (pe_op op_sub (pe_op op_add (pv 3) (pv 2)) pe_int) pa_nil))))))), ?_⟩
    have e1 : (v : Int) - ((tx l).length : Nat) = ((v - l.length : Nat) : Int) := by rw [tx_len]; omega
    refine ⟨_, rfl, _, rfl, _, rfl, by rw [tx_len]; exact Nat.le_trans (by omega) (by decide : 1000 ≤ sizeLine), _, _, rfl, rfl, 1, v - l.length, rfl, congrArg V.int e1, by omega, by decide, ?_⟩
    refine ⟨_, rfl, _, rfl, by omega, _, rfl, _, _, rfl, rfl, mul64 (pow64 hl hv), ?_⟩
    refine ⟨_, rfl, _, rfl, _, rfl, _, _, rfl, rfl, _, _, rfl, rfl, (by show 2 ≤ sizeLine; decide), fun p hp => ?_⟩
    have h1 := pow_pos2 (v - l.length)
    have a1 : ((num l : Nat) : Int) * ((1 * 2 ^ (v - l.length) : Nat) : Int) = ((lo l v : Nat) : Int) := by
      rw [← Int.natCast_mul, Nat.one_mul]
      rfl
    have a2 : ((num l : Nat) : Int) * ((1 * 2 ^ (v - l.length) : Nat) : Int) + ((1 * 2 ^ (v - l.length) : Nat) : Int) - 1 = ((hi l v : Nat) : Int) := by
      rw [a1]
      unfold hi
      omega
    have k := k p hp
    rw [← a2, ← a1] at k
    exact k
end
end Br

/-! bitroads.table: knots, stretches, differences -/
namespace Br
open PySem PySem.Spec PyProof.Rows L2
open C8 (Cal Met Mak cal0 met0 mak0 pe_c pe_mk pe_mt pe_mt0 pe_gc Def)
/-- what is asked of the class of knots, of tables -/
structure Ks (K : PySem.W.Frag) (CK : Addr) : Prop where
  cl : Cls K CK
  nkids : NoAttr K CK "kids"
  ngoal : NoAttr K CK "goal"
  mro : PySem.W.mroIn K CK (.type "object") = some true
  eq : PySem.W.findIn K (.ref CK) "__eq__" = some (some (.builtin "object.__eq__"))
structure Ts (K : PySem.W.Frag) (CT : Addr) : Prop where
  cl : Cls K CT
  nwide : NoAttr K CT "wide"
  ntop : NoAttr K CT "top"
  namount : NoAttr K CT "amount"
/-- a method of the text: dvs its defaults that fill up -/
structure Mn (K : PySem.W.Frag) (C : Addr) (m : Str) (st : Stmt) (ps : List Str) (dvs : List V) : Prop where
  ex : ∃ (qual : Str) (f : Addr) (fd : FuncData) (ds : List Value), Cls K C ∧ Meth K C m f ∧ C8.Fun K m qual st f fd ∧ Binds K fd ps ds ∧ Vals dvs ds
/-- a class that is made by its name -/
structure Mkn (K : PySem.W.Frag) (mg : Str → Option Value) (x : Str) (C : Addr) (st : Stmt) (ps : List Str) : Prop where
  ex : ∃ (qual : Str) (f : Addr) (fd : FuncData), Mk K C f ∧ mg x = some (.ref C) ∧ C8.Fun K "__init__" qual st f fd ∧ Binds K fd ps []
section
variable {P : Program} {w : World} {K : PySem.W.Frag} {mg : Str → Option Value} {base : Heap} {CK CT : Addr}
theorem Mn.met {m : Str} {C : Addr} {st : Stmt} {N ps : List Str} {dvs : List V} {k : Nat} {sp : Sp} (D : Mn K C m st ps dvs) (S : FnScope N ps (C8.fnScope st)) (len : ∀ vs H Q E, sp vs H Q E → vs.length = ps.length)
    (hbody : ∀ (qual : Str) (f : Addr) (cdv : Value) (A : Around) (outer : List Env) (s : Shared) (H : Hp) (vs : List V) (Q : VK) (E : XK), Room k (A.deeper (envOfC qual (C8.fnScope st) s.heap.objs.size f cdv)) → sp vs H Q E →
      ∃ t, PSs (cxOf C8.CX0 P w K mg base N qual (C8.fnScope st) f cdv A outer s H E).nox (C8.fnBody st) t ∧ t { nx := fun _ H' => Q .non H', rt := Q } (start N vs) H) : Met P w K mg base (k + 1) C m sp dvs := by
  obtain ⟨qual, f, fd, ds, c, me, F, b, d⟩ := D.ex
  exact ⟨f, fd, ps, ds, c, me, C8.fn0 F S len fun cdv A outer s H vs Q E hr h => hbody qual f cdv A outer s H vs Q E hr h, b, d⟩
theorem Mkn.mak {x : Str} {C : Addr} {st : Stmt} {N ps : List Str} {k : Nat} {sp : Sp} (D : Mkn K mg x C st ps) (S : FnScope N ps (C8.fnScope st)) (len : ∀ vs H Q E, sp vs H Q E → vs.length = ps.length)
    (hbody : ∀ (qual : Str) (f : Addr) (cdv : Value) (A : Around) (outer : List Env) (s : Shared) (H : Hp) (vs : List V) (Q : VK) (E : XK), Room k (A.deeper (envOfC qual (C8.fnScope st) s.heap.objs.size f cdv)) → sp vs H Q E →
      ∃ t, PSs (cxOf C8.CX0 P w K mg base N qual (C8.fnScope st) f cdv A outer s H E).nox (C8.fnBody st) t ∧ t { nx := fun _ H' => Q .non H', rt := Q } (start N vs) H) : Mak P w K mg base (k + 1) x C sp [] := by
  obtain ⟨qual, f, fd, M, hm, F, b⟩ := D.ex
  exact mak0 M hm F b .nil S len fun cdv A outer s H vs Q E hr h => hbody qual f cdv A outer s H vs Q E hr h
/-- a def that is never called -/
theorem Dn.never {x : Str} {st : Stmt} {ps : List Str} {sp : Sp} {k : Nat} (D : Dn K mg x st ps) (h : ∀ vs H Q E, ¬ sp vs H Q E) : Cal P w K mg base k x sp [] := by
  obtain ⟨f, fd, D, b⟩ := D.ex
  exact ⟨f, fd, ps, [], ⟨fun vs H Q E q => (h _ _ _ _ q).elim, fun A outer s H args us vs Q E _ _ _ _ q => (h _ _ _ _ q).elim⟩, D.mgf, D.kp, b, .nil⟩
theorem dok_nils {k : Nat} : DOk (k + 1) (.list []) := dok_list fun d h => by cases h
theorem taken {L : List St3} (h : L.length < 100000) : L.length < sizeLine := Nat.lt_trans h (by decide)

abbrev s_add_stretch : Stmt := top 20
abbrev n_add_stretch : List Str := ["found", "first", "last", "road"]
theorem sc_add_stretch : FnScope n_add_stretch ["found", "first", "last", "road"] (C8.fnScope s_add_stretch) := ⟨rfl, rfl, rfl, by decide +kernel, rfl, by decide +kernel, by decide +kernel⟩
def spAdd : Sp := fun vs H Q _ => ∃ (p : Addr) (L : List St3) (a l : Nat) (r : Option Nat), vs = [.ref p, .int (a : Int), .int (l : Int), ov r] ∧ LT H p (L.map row3) ∧ L.length < 100000 ∧ ∀ H', Mod [p] H H' → LT H' p ((addS L a l r).map row3) → Q .non H'
theorem c_add_stretch (T : Glob mg) (D : Dn K mg "add_stretch" s_add_stretch ["found", "first", "last", "road"]) : Cal P w K mg base 1 "add_stretch" spAdd [] := by
  refine D.cal sc_add_stretch (fun vs H Q E h => ?_) (fun f cdv A outer s H vs Q E hr h => ?_)
  · obtain ⟨p, L, a, l, r, rfl, _⟩ := h
    rfl
  · obtain ⟨p, L, a, l, r, rfl, hL, hlen, k⟩ := h
    refine ⟨_, (pss_one (ps_if (PW.pt (pw_and (pt_cmpR (op_neD hr.units) (pv 0) (pe_lst pa_nil) (nomark _)) (pw_and1 (pt_cmpR op_eq (pe_ix ix_tup (pe_ix ix_list (pv 0) (pe_un un_neg pe_int) (fun _ _ => rfl)) pe_int (fun _ _ => rfl)) (pv 3) (nomark _)))))
      (pss_one (ps_asg (pe_tup (pa_cons (pe_ix ix_tup (pe_ix ix_list (pv 0) (pe_un un_neg pe_int) (fun _ _ => rfl)) pe_int (fun _ _ => rfl)) (pa_cons (pv 2) (pa_cons (pv 3) pa_nil)))) (pg_sub (pv 0) (pe_un un_neg pe_int) set_list)))
      (pss_one (ps_expr (pe_bm PySem.F.plainAttrs_list PySem.F.slot_list_append PySem.F.type_list_append mt_append (pv 0) (pa_cons (pe_tup (pa_cons (pv 1) (pa_cons (pv 2) (pa_cons (pv 3) pa_nil)))) pa_nil)))))), ?_⟩
    refine ⟨_, rfl, (by show 0 ≤ sizeLine; decide), fun q hq => ?_⟩
    have s1 : Same H (upd H q (.lst [])) := Same_upd (Same.refl H) hq
    have h1 := hL.same s1
    refine ⟨dRows (L.map row3), .list [], h1.dp flat3s, .lst (SqL.of upd_same) .nil, (dRows_ok flat3s).shaped, (dok_nils (k := 0)).shaped, _, rfl, ?_⟩
    generalize hH1 : upd H q (.lst []) = H1 at s1 h1
    have m1 : Mod [p] H H1 := Mod.same s1
    obtain ⟨vs, e1, e2, e3⟩ := h1
    rw [show PyData.eqv (dRows (L.map row3)) (.list []) = ((L.map row3).map fun row => PyData.tuple (row.map dOf)).isEmpty from eqv_nil _]
    have last : addS L a l r = L ++ [(a, l, r)] → ∀ t, H1 t = none → vs.length < sizeLine ∧ Q .non (upd (upd H1 t (.tup [.int (a : Int), .int (l : Int), ov r])) p (.lst (vs ++ [.ref t]))) := fun e t ht => by
      have n : t ≠ p := (ne_of_none e1 ht).symm
      refine ⟨by rw [e2, List.length_map]; exact taken hlen, k _ ((m1.new ht).upd (.inl (by simp)) fun xs z => ?_) ?_⟩
      · rw [upd_ne n.symm, e1] at z; cases z
      · rw [e, List.map_append]
        refine LT.snoc (row := row3 (a, l, r)) ((upd_ne n.symm).trans e1) e2 (fun i row hi => ?_) upd_same
        obtain ⟨c, h4, h5⟩ := e3 i row hi
        exact ⟨c, h4, (upd_ne (ne_of_none h5 ht)).trans h5⟩
    rcases List.eq_nil_or_concat L with rfl | ⟨M, ⟨x, y, z⟩, rfl⟩
    · refine iteF ?_
      refine iteF ?_
      refine ⟨_, rfl, .inl ⟨rfl, _, SqL.of e1⟩, _, rfl, _, rfl, _, rfl, (by show 3 ≤ sizeLine; decide), fun t ht => ?_⟩
      obtain ⟨g1, g2⟩ := last rfl t ht
      exact ⟨p, _, _, rfl, rfl, (upd_ne (ne_of_none e1 ht)).trans e1, g1, g2⟩
    · rw [List.concat_eq_append] at *
      have e0 : (!(((M ++ [(x, y, z)]).map row3).map fun row => PyData.tuple (row.map dOf)).isEmpty) = true := by simp
      rw [e0]
      refine iteT ?_
      have len2 : vs.length = M.length + 1 := by rw [e2]; simp
      obtain ⟨c, c1, c2⟩ := e3 M.length (row3 (x, y, z)) (by simp)
      have at1 : atI vs (-1) = some (V.ref c) := atI_end len2 c1
      refine ⟨_, rfl, _, rfl, p, _, _, _, rfl, rfl, SqL.of e1, at1, c, _, _, _, rfl, rfl, SqT.of c2, atI_nat (j := 2) rfl, _, rfl, ov_scal _ _, _, rfl, ?_⟩
      rw [ov_eq]
      refine ite2 (fun t1 => ?_) fun t1 => ?_
      · have t1 := of_decide_eq_true t1
        refine ⟨_, rfl, _, rfl, p, _, _, _, rfl, rfl, SqL.of e1, at1, c, _, _, _, rfl, rfl, SqT.of c2, atI_nat (j := 0) rfl, _, rfl, _, rfl, (by show 3 ≤ sizeLine; decide), fun t ht => ?_⟩
        have n : t ≠ p := (ne_of_none e1 ht).symm
        have ixn : ixN vs.length (-1) = some M.length := ix_last len2
        refine ⟨_, rfl, _, rfl, p, vs, _, M.length, rfl, rfl, (upd_ne n.symm).trans e1, ixn, ?_⟩
        refine k _ ((m1.new ht).upd (.inl (by simp)) fun xs z => ?_) ?_
        · rw [upd_ne n.symm, e1] at z; cases z
        · have e4 : (addS (M ++ [(x, y, z)]) a l r).map row3 = ((M ++ [(x, y, z)]).map row3).set M.length (row3 (x, l, r)) := by
            rw [addS_snoc, if_pos t1]
            simp
          rw [e4]
          refine LT.set (row := row3 (x, l, r)) ((upd_ne n.symm).trans e1) e2 (fun i row hi => ?_) upd_same
          obtain ⟨c, h4, h5⟩ := e3 i row hi
          exact ⟨c, h4, (upd_ne (ne_of_none h5 ht)).trans h5⟩
      · have t1 : ¬ z = r := fun e => t1 (decide_eq_true e)
        refine ⟨_, rfl, .inl ⟨rfl, _, SqL.of e1⟩, _, rfl, _, rfl, _, rfl, (by show 3 ≤ sizeLine; decide), fun t ht => ?_⟩
        obtain ⟨g1, g2⟩ := last (by rw [addS_snoc, if_neg t1, List.append_assoc]; rfl) t ht
        exact ⟨p, _, _, rfl, rfl, (upd_ne (ne_of_none e1 ht)).trans e1, g1, g2⟩
abbrev s_between : Stmt := top 21
abbrev n_between : List Str := ["ahead", "behind", "found", "one", "other", "first", "last", "is_over"]
theorem sc_between : FnScope n_between ["ahead", "behind"] (C8.fnScope s_between) := ⟨rfl, rfl, rfl, by decide +kernel, rfl, by decide +kernel, by decide +kernel⟩
/-- between, ahead of a turn -/
def BtW (H : Hp) (p q o : Addr) (A B : List St3) (f g : Nat → Option Nat) (a b : Nat) : Nat → L2.St → Hp → Prop := fun m σ H' =>
  ∃ (i j : Nat) (acc : List Df4) (pos : Nat) (v5 v6 v7 : Option V), m = (A.length - i) + (B.length - j) ∧ σ = [some (.ref p), some (.ref q), some (.ref o), some (.int (i : Int)), some (.int (j : Int)), v5, v6, v7] ∧ Same H H' ∧ LT H' o (acc.map row4) ∧
    acc.length ≤ i + j ∧ i ≤ A.length ∧ j ≤ B.length ∧ TlC f b pos (A.drop i) ∧ TlC g b pos (B.drop j) ∧ (∀ u v s t, (A.drop i).head? = some (u, s) → (B.drop j).head? = some (v, t) → u = pos ∨ v = pos) ∧ ∀ D, DTl f g b pos D → DTl f g b a (acc ++ D)
def spBetween : Sp := fun vs H Q _ => ∃ (p q : Addr) (A B : List St3) (f g : Nat → Option Nat) (a b : Nat), vs = [.ref p, .ref q] ∧ LT H p (A.map row3) ∧ LT H q (B.map row3) ∧ Tl f b a A ∧ Tl g b a B ∧ A.length + B.length < 100000 ∧
  ∀ H' o D, Same H H' → H o = none → LT H' o (D.map row4) → DTl f g b a D → Q (.ref o) H'
theorem c_between (T : Glob mg) (D : Dn K mg "between" s_between ["ahead", "behind"]) : Cal P w K mg base 1 "between" spBetween [] := by
  refine D.cal sc_between (fun vs H Q E h => ?_) (fun ff cdv AA outer s H vs Q E hr h => ?_)
  · obtain ⟨p, q, A, B, f, g, a, b, rfl, _⟩ := h
    rfl
  · obtain ⟨p, q, A, B, f, g, a, b, rfl, hA, hB, tA, tB, hlen, k⟩ := h
    refine ⟨_, (pss_cons (ps_set (i := 2) sc_between.nd rfl (by first | exact Or.inl rfl | exact Or.inr rfl) (pe_lst pa_nil))
      (pss_cons (ps_set (i := 3) sc_between.nd rfl (by first | exact Or.inl rfl | exact Or.inr rfl) pe_int)
      (pss_cons (ps_set (i := 4) sc_between.nd rfl (by first | exact Or.inl rfl | exact Or.inr rfl) pe_int)
      (pss_cons (ps_while PassesOwn.never (pt_cmpR op_lt (pv 3) (pe_callB call_len_seq (by rfl) T.g_len boot_len (pa_cons (pv 0) pa_nil)) (nomark _))
      (pss_cons (ps_set (i := 5) sc_between.nd rfl (by first | exact Or.inl rfl | exact Or.inr rfl) (pe_callB (call_max2 rfl) (by rfl) T.g_max (by decide +kernel) (pa_cons (pe_ix ix_tup (pe_ix ix_list (pv 0) (pv 3) (fun _ _ => rfl)) pe_int (fun _ _ => rfl)) (pa_cons (pe_ix ix_tup (pe_ix ix_list (pv 1) (pv 4) (fun _ _ => rfl)) pe_int (fun _ _ => rfl)) pa_nil))))
      (pss_cons (ps_set (i := 6) sc_between.nd rfl (by first | exact Or.inl rfl | exact Or.inr rfl) (pe_callB (call_min2 rfl) (by rfl) T.g_min (by decide +kernel) (pa_cons (pe_ix ix_tup (pe_ix ix_list (pv 0) (pv 3) (fun _ _ => rfl)) pe_int (fun _ _ => rfl)) (pa_cons (pe_ix ix_tup (pe_ix ix_list (pv 1) (pv 4) (fun _ _ => rfl)) pe_int (fun _ _ => rfl)) pa_nil))))
      (C8.pss_cut (ps_if (pt_cmpR op_ne (pe_ix ix_tup (pe_ix ix_list (pv 0) (pv 3) (fun _ _ => rfl)) pe_int (fun _ _ => rfl)) (pe_ix ix_tup (pe_ix ix_list (pv 1) (pv 4) (fun _ _ => rfl)) pe_int (fun _ _ => rfl)) (nomark _))
      (pss_one (ps_expr (pe_bm PySem.F.plainAttrs_list PySem.F.slot_list_append PySem.F.type_list_append mt_append (pv 2) (pa_cons (pe_tup (pa_cons (pv 5) (pa_cons (pv 6) (pa_cons (pe_ix ix_tup (pe_ix ix_list (pv 0) (pv 3) (fun _ _ => rfl)) pe_int (fun _ _ => rfl)) (pa_cons (pe_ix ix_tup (pe_ix ix_list (pv 1) (pv 4) (fun _ _ => rfl)) pe_int (fun _ _ => rfl)) pa_nil))))) pa_nil))))
      pss_nil)
      (pss_cons (ps_set (i := 7) sc_between.nd rfl (by first | exact Or.inl rfl | exact Or.inr rfl) (pe_cmpR op_eq (pe_ix ix_tup (pe_ix ix_list (pv 0) (pv 3) (fun _ _ => rfl)) pe_int (fun _ _ => rfl)) (pv 6) (nomark _)))
      (C8.pss_cut (ps_if (pt_cmpR op_eq (pe_ix ix_tup (pe_ix ix_list (pv 1) (pv 4) (fun _ _ => rfl)) pe_int (fun _ _ => rfl)) (pv 6) (nomark _))
      (pss_one (ps_aug (i := 4) sc_between.nd rfl (by first | exact Or.inl rfl | exact Or.inr rfl) pe_int ip_add))
      pss_nil)
      (pss_one (ps_if (pt_val (pv 7))
      (pss_one (ps_aug (i := 3) sc_between.nd rfl (by first | exact Or.inl rfl | exact Or.inr rfl) pe_int ip_add))
      pss_nil))))))))
      (pss_one (ps_ret (pv 2))))))), ?_⟩
    refine ⟨(by show 0 ≤ sizeLine; decide), fun o ho => ?_⟩
    have s0 : Same H (upd H o (.lst [])) := Same_upd (Same.refl H) ho
    refine ⟨BtW H p q o A B f g a b, ⟨_, 0, 0, [], a, none, none, none, rfl, rfl, s0, LT.nil, Nat.zero_le _, Nat.zero_le _, Nat.zero_le _, tA.c, tB.c, ?_, fun D h => h⟩, ?_⟩
    · intro u v s t hu hv
      cases A with
      | nil => cases hu
      | cons z A =>
        obtain ⟨x, y, r⟩ := z
        cases hu
        exact .inl tA.1
    rintro m σ H1 ⟨i, j, acc, pos, v5, v6, v7, rfl, rfl, s1, hO, hacc, hi, hj, cA, cB, hx, hD⟩
    have LA := hA.same s1
    have LB := hB.same s1
    have hpo : p ≠ o := by obtain ⟨vs, e, _⟩ := hA; exact ne_of_none e ho
    have hqo : q ≠ o := by obtain ⟨vs, e, _⟩ := hB; exact ne_of_none e ho
    obtain ⟨va0, ea0, la0, _⟩ := id LA
    rw [List.length_map] at la0
    refine ⟨_, rfl, _, rfl, p, va0, rfl, .inl (SqL.of ea0), _, _, rfl, rfl, _, rfl, ?_⟩
    refine ite2 (fun c => ?_) fun c => ?_
    · have c : i < A.length := by have := of_decide_eq_true c; omega
      obtain ⟨⟨x1, y1, r1⟩, A', dA⟩ : ∃ s A', A.drop i = s :: A' := ⟨A[i], A.drop (i + 1), List.drop_eq_getElem_cons c⟩
      have gA : A[i]? = some (x1, y1, r1) := by rw [← List.head?_drop, dA]; rfl
      have dA' : A.drop (i + 1) = A' := by rw [← List.tail_drop, dA]; rfl
      rw [dA] at cA hx
      have hjl : j < B.length := by
        refine Nat.lt_of_not_le fun hn => ?_
        rw [List.drop_eq_nil_of_le hn] at cB
        have cB : pos = b := cB
        obtain ⟨_, h2, h3, _⟩ := cA
        omega
      obtain ⟨⟨x2, y2, r2⟩, B', dB⟩ : ∃ s B', B.drop j = s :: B' := ⟨B[j], B.drop (j + 1), List.drop_eq_getElem_cons hjl⟩
      have gB : B[j]? = some (x2, y2, r2) := by rw [← List.head?_drop, dB]; rfl
      have dB' : B.drop (j + 1) = B' := by rw [← List.tail_drop, dB]; rfl
      rw [dB] at cB hx
      obtain ⟨q1, q2, q3, q4, q5⟩ := btw_step cA cB (hx _ _ _ _ rfl rfl) (last := min y1 y2) rfl
      have gA' : (A.map row3)[i]? = some [.int (x1 : Int), .int (y1 : Int), ov r1] := by rw [List.getElem?_map, gA]; rfl
      have gB' : (B.map row3)[j]? = some [.int (x2 : Int), .int (y2 : Int), ov r2] := by rw [List.getElem?_map, gB]; rfl
      obtain ⟨va, ca, a1, _, a3, a4⟩ := LA.read gA'
      obtain ⟨vb, cb, b1, _, b3, b4⟩ := LB.read gB'
      refine ⟨fun σ' H' => ∃ m', m' < _ ∧ BtW H p q o A B f g a b m' σ' H', fun _ _ h => h, ?_⟩
      -- first
      refine ⟨_, rfl, _, rfl, p, _, _, _, rfl, rfl, SqL.of a1, a3, ca, _, _, _, rfl, rfl, SqT.of a4, atI_nat (j := 0) rfl, ?_⟩
      refine ⟨_, rfl, _, rfl, q, _, _, _, rfl, rfl, SqL.of b1, b3, cb, _, _, _, rfl, rfl, SqT.of b4, atI_nat (j := 0) rfl, _, _, rfl, ?_⟩
      have eM : (if ((x2 : Nat) : Int) > ((x1 : Nat) : Int) then ((x2 : Nat) : Int) else ((x1 : Nat) : Int)) = ((pos : Nat) : Int) := by split <;> omega
      rw [eM]
      refine ⟨_, rfl, _, rfl, p, _, _, _, rfl, rfl, SqL.of a1, a3, ca, _, _, _, rfl, rfl, SqT.of a4, atI_nat (j := 1) rfl, ?_⟩
      refine ⟨_, rfl, _, rfl, q, _, _, _, rfl, rfl, SqL.of b1, b3, cb, _, _, _, rfl, rfl, SqT.of b4, atI_nat (j := 1) rfl, _, _, rfl, ?_⟩
      have eL : (if ((y2 : Nat) : Int) < ((y1 : Nat) : Int) then ((y2 : Nat) : Int) else ((y1 : Nat) : Int)) = ((min y1 y2 : Nat) : Int) := by split <;> omega
      rw [eL]
      generalize hlast : min y1 y2 = last at q2 q3 q4 q5 ⊢
      refine ⟨fun σ' H' => σ' = [some (.ref p), some (.ref q), some (.ref o), some (.int (i : Int)), some (.int (j : Int)), some (.int (pos : Int)), some (.int (last : Int)), v7] ∧ Same H H' ∧ LT H' o ((acc ++ (if r1 = r2 then [] else [(pos, last, r1, r2)])).map row4), ?_, ?_⟩
      · refine ⟨_, rfl, _, rfl, p, _, _, _, rfl, rfl, SqL.of a1, a3, ca, _, _, _, rfl, rfl, SqT.of a4, atI_nat (j := 2) rfl, ?_⟩
        refine ⟨_, rfl, _, rfl, q, _, _, _, rfl, rfl, SqL.of b1, b3, cb, _, _, _, rfl, rfl, SqT.of b4, atI_nat (j := 2) rfl, ov_scal _ _, _, rfl, ?_⟩
        rw [ov_eq]
        obtain ⟨vo, o1, o2, o3⟩ := hO
        refine ite2 (fun t1 => ?_) fun t1 => ?_
        · have t1 : ¬ r1 = r2 := by simpa using t1
          rw [if_neg t1]
          refine ⟨_, rfl, .inl ⟨rfl, _, SqL.of o1⟩, _, rfl, _, rfl, _, rfl, _, rfl, p, _, _, _, rfl, rfl, SqL.of a1, a3, ca, _, _, _, rfl, rfl, SqT.of a4, atI_nat (j := 2) rfl, ?_⟩
          refine ⟨_, rfl, _, rfl, q, _, _, _, rfl, rfl, SqL.of b1, b3, cb, _, _, _, rfl, rfl, SqT.of b4, atI_nat (j := 2) rfl, (by show 4 ≤ sizeLine; decide), fun t ht => ?_⟩
          have n : t ≠ o := (ne_of_none o1 ht).symm
          refine ⟨o, vo, _, rfl, rfl, (upd_ne n.symm).trans o1, ?_, rfl, ?_, ?_⟩
          · rw [o2, List.length_map]
            exact Nat.lt_trans (by omega : acc.length < 100000) (by decide)
          · exact Same_mut (Same_upd s1 ht) ho
          · rw [List.map_append]
            refine LT.snoc (row := row4 (pos, last, r1, r2)) ((upd_ne n.symm).trans o1) o2 (fun i row hi => ?_) upd_same
            obtain ⟨c, h4, h5⟩ := o3 i row hi
            exact ⟨c, h4, (upd_ne (ne_of_none h5 ht)).trans h5⟩
        · have t1 : r1 = r2 := by simpa using t1
          rw [if_pos t1, List.append_nil]
          exact ⟨rfl, s1, vo, o1, o2, o3⟩
      · rintro σ' H2 ⟨rfl, s2, hO2⟩
        have LA := hA.same s2
        have LB := hB.same s2
        obtain ⟨va, ca, a1, _, a3, a4⟩ := LA.read gA'
        obtain ⟨vb, cb, b1, _, b3, b4⟩ := LB.read gB'
        refine ⟨_, rfl, _, rfl, p, _, _, _, rfl, rfl, SqL.of a1, a3, ca, _, _, _, rfl, rfl, SqT.of a4, atI_nat (j := 1) rfl, _, rfl, rfl, ?_⟩
        have ed : ∀ x y : Nat, decide (V.int (x : Int) = V.int (y : Int)) = decide (x = y) := fun x y => by
          by_cases h : x = y
          · rw [decide_eq_true h, decide_eq_true (by rw [h])]
          · rw [decide_eq_false h, decide_eq_false (fun z => h (by injection z with z; omega))]
        rw [ed]
        refine ⟨fun σ' H' => σ' = [some (.ref p), some (.ref q), some (.ref o), some (.int (i : Int)), some (.int ((if y2 = last then j + 1 else j : Nat) : Int)), some (.int (pos : Int)), some (.int (last : Int)), some (.bl (decide (y1 = last)))] ∧ H' = H2, ?_, ?_⟩
        · refine ⟨_, rfl, _, rfl, q, _, _, _, rfl, rfl, SqL.of b1, b3, cb, _, _, _, rfl, rfl, SqT.of b4, atI_nat (j := 1) rfl, _, rfl, rfl, _, rfl, ?_⟩
          rw [ed]
          refine ite2 (fun t1 => ?_) fun t1 => ?_
          · have t1 : y2 = last := of_decide_eq_true t1
            rw [if_pos t1]
            exact ⟨_, rfl, _, _, rfl, rfl, rfl, rfl⟩
          · have t1 : ¬ y2 = last := fun z => t1 (decide_eq_true z)
            rw [if_neg t1]
            exact ⟨rfl, rfl⟩
        · rintro σ' H3 ⟨rfl, rfl⟩
          refine ⟨_, rfl, _, rfl, ?_⟩
          have hone : y1 = last ∨ y2 = last := by omega
          have fin : BtW H p q o A B f g a b ((A.length - (if y1 = last then i + 1 else i)) + (B.length - (if y2 = last then j + 1 else j))) [some (.ref p), some (.ref q), some (.ref o), some (.int ((if y1 = last then i + 1 else i : Nat) : Int)), some (.int ((if y2 = last then j + 1 else j : Nat) : Int)), some (.int (pos : Int)), some (.int (last : Int)), some (.bl (decide (y1 = last)))] H3 := by
            have eA : A.drop (if y1 = last then i + 1 else i) = if y1 = last then A' else (x1, y1, r1) :: A' := by split <;> assumption
            have eB : B.drop (if y2 = last then j + 1 else j) = if y2 = last then B' else (x2, y2, r2) :: B' := by split <;> assumption
            refine ⟨_, _, _, last + 1, _, _, _, rfl, rfl, s2, hO2, ?_, ?_, ?_, ?_, ?_, ?_, fun D hD2 => ?_⟩
            · rw [List.length_append]
              have h1 : (if r1 = r2 then [] else [(pos, last, r1, r2)]).length ≤ 1 := by split <;> simp
              have h2 : i + j + 1 ≤ (if y1 = last then i + 1 else i) + (if y2 = last then j + 1 else j) := by
                rcases hone with e | e
                · rw [if_pos e]
                  split <;> omega
                · rw [if_pos e]
                  split <;> omega
              exact Nat.le_trans (Nat.add_le_add hacc h1) h2
            · split <;> omega
            · split <;> omega
            · rw [eA]; exact q2
            · rw [eB]; exact q3
            · rw [eA, eB]; exact q4
            · rw [List.append_assoc]
              exact hD _ (q5 D hD2)
          have less : (A.length - (if y1 = last then i + 1 else i)) + (B.length - (if y2 = last then j + 1 else j)) < (A.length - i) + (B.length - j) := by
            rcases hone with e | e
            · rw [if_pos e]
              split <;> omega
            · rw [if_pos e]
              split <;> omega
          refine ite2 (fun t1 => ?_) fun t1 => ?_
          · have t1 : y1 = last := of_decide_eq_true t1
            refine ⟨_, rfl, _, _, rfl, rfl, _, less, ?_⟩
            rw [if_pos t1] at fin ⊢
            exact fin
          · have t1 : ¬ y1 = last := fun z => t1 (decide_eq_true z)
            refine ⟨_, less, ?_⟩
            rw [if_neg t1] at fin ⊢
            exact fin
    · have c : ¬ i < A.length := fun z => c (decide_eq_true (by omega))
      rw [List.drop_eq_nil_of_le (by omega)] at cA
      have cA : pos = b := cA
      subst cA
      refine ⟨_, rfl, k _ _ acc s1 ho hO ?_⟩
      have := hD [] fun n n1 n2 => by omega
      rw [List.append_nil] at this
      exact this
abbrev s_Knot_init : Stmt := inClass (top 22) 0
abbrev n_Knot_init : List Str := ["self"]
theorem sc_Knot_init : FnScope n_Knot_init ["self"] (C8.fnScope s_Knot_init) := ⟨rfl, rfl, rfl, by decide +kernel, rfl, by decide +kernel, by decide +kernel⟩
/-- a new knot: its own dict dx and its list of kids -/
def spKnot : Sp := fun vs H Q _ => ∃ (a C dx : Addr), vs = [.ref a] ∧ Ks K C ∧ H a = some (.ins C dx []) ∧ ∀ H' ka, H ka = none → Mod [a] H H' → H' a = some (.ins C dx (AT.kf ka none)) → H' ka = some (.lst [.non, .non]) → Q .non H'
theorem c_Knot_init (Kk : Ks K CK) (D : Mkn K mg "Knot" CK s_Knot_init ["self"]) : Mak P w K mg base 1 "Knot" CK (spKnot (K := K)) [] := by
  refine D.mak sc_Knot_init (fun vs H Q E h => ?_) (fun qual f cdv A outer s H vs Q E hr h => ?_)
  · obtain ⟨a, C, dx, rfl, _⟩ := h
    rfl
  · obtain ⟨a, C, dx, rfl, Kk, ha, k⟩ := h
    refine ⟨_, (pss_cons (ps_fld (pv 0) (pe_lst (pa_cons pe_non (pa_cons pe_non pa_nil))) rfl)
      (pss_one (ps_fld (pv 0) pe_non rfl))), ?_⟩
    refine ⟨(by show 2 ≤ sizeLine; decide), fun ka hk => ?_⟩
    have n : ka ≠ a := (ne_of_none ha hk).symm
    refine ⟨_, rfl, a, C, dx, _, rfl, (upd_ne n.symm).trans ha, Kk.cl, Kk.nkids, (by show 0 < 1000; decide), ?_⟩
    refine ⟨_, rfl, a, C, dx, _, rfl, upd_same, Kk.cl, Kk.ngoal, (by show 1 < 1000; decide), ?_⟩
    refine k _ ka hk ?_ upd_same ?_
    · have m1 : Mod [a] H (upd H ka (.lst [.non, .non])) := Mod.new Mod.refl hk
      refine (m1.upd (.inl (by simp)) fun xs z => ?_).upd (.inl (by simp)) fun xs z => ?_
      · rw [upd_ne n.symm, ha] at z; cases z
      · rw [upd_same] at z; cases z
    · rw [upd_ne n, upd_ne n]
      exact upd_same
theorem noneOr_val {K : PySem.W.Frag} {C : Addr} (Kk : Ks K C) {H : Hp} : ∀ {t : AT}, t.ok C H → NoneOr K H t.val
  | .nil, _ => .inl rfl
  | .nd a dx ka g l r, h => .inr ⟨a, C, dx, _, rfl, h.1, Kk.mro, Kk.eq⟩
theorem noneOr_same {K : PySem.W.Frag} {H H1 : Hp} {z : V} (h : NoneOr K H z) (s : Same H H1) : NoneOr K H1 z := by
  rcases h with rfl | ⟨a, C, dx, fs, rfl, h1, h2, h3⟩
  · exact .inl rfl
  · exact .inr ⟨a, C, dx, fs, rfl, s _ _ h1, h2, h3⟩
end
end Br

/-! bitroads.table: what is asked of a table -/
namespace Br
open PySem PySem.Spec PyProof.Rows L2
open C8 (Cal Met Mak cal0 met0 mak0 pe_c pe_mk pe_mt pe_mt0 pe_gc Def)
theorem tells_tl {t : Tr} {v : Nat} {s : List Bool} (hd : t.deep v) (hs : s.length ≤ v) : Tl (fT t v) (hi s v + 1) (lo s v) (tells t v s) := by
  have h := strs_tl (t := t) (w := v) (s := s) (deep_sub hd hs) hs
  have p := pow_pos2 (v - s.length)
  have e : hi s v + 1 = num s * 2 ^ (v - s.length) + 2 ^ (v - s.length) := by unfold hi lo; omega
  rw [e]
  exact h
theorem isSome_ov (g : Option Nat) : (!decide (ov g = .non)) = g.isSome := by cases g <;> simp [ov]
section
variable {P : Program} {w : World} {K : PySem.W.Frag} {mg : Str → Option Value} {base : Heap} {CK CT : Addr}
abbrev s_spread : Stmt := top 23
abbrev n_spread : List Str := ["knot", "first", "last", "road", "found", "middle"]
theorem sc_spread : FnScope n_spread ["knot", "first", "last", "road", "found"] (C8.fnScope s_spread) := ⟨rfl, rfl, rfl, by decide +kernel, rfl, by decide +kernel, by decide +kernel⟩
def spSpread (K : PySem.W.Frag) (n : Nat) : Sp := fun vs H Q _ => ∃ (C : Addr) (t : AT) (k a : Nat) (x : Option Nat) (p : Addr) (L : List St3), k < n ∧ vs = [t.val, .int (a : Int), .int ((a + 2 ^ k - 1 : Nat) : Int), ov x, .ref p] ∧ Ks K C ∧ t.ok C H ∧ t.tr.deep k ∧ p ∉ t.fp ∧
  LT H p (L.map row3) ∧ L.length + t.tr.size + 1 < 100000 ∧ ∀ H', Mod [p] H H' → LT H' p ((spr t.tr k a x L).map row3) → Q .non H'
theorem c_spread (T : Glob mg) (D : Dn K mg "spread" s_spread ["knot", "first", "last", "road", "found"]) (c_add_stretch : Cal P w K mg base 1 "add_stretch" spAdd []) : ∀ n, Cal P w K mg base (n + 1) "spread" (spSpread K n) []
  | 0 => D.never fun vs H Q E ⟨_, _, _, _, _, _, _, h, _⟩ => absurd h (Nat.not_lt_zero _)
  | n + 1 => by
    have c_spread := c_spread T D c_add_stretch n
    refine D.cal sc_spread (fun vs H Q E h => ?_) (fun f cdv A outer s H vs Q E hr h => ?_)
    · obtain ⟨C, t, k, a, x, p, L, _, rfl, _⟩ := h
      rfl
    · obtain ⟨C, t, k, a, x, p, L, hk, rfl, Kk, ht, hd, hp, hL, hlen, q⟩ := h
      refine ⟨_, (C8.pss_cut (ps_if (PW.pt (pw_and (pt_cmpR op_notN (pv 0) pe_non (nomark _)) (pw_and1 (pt_cmpR op_notN (pe_fld (pv 0) rfl) pe_non (nomark _)))))
      (pss_one (ps_set (i := 3) sc_spread.nd rfl (by first | exact Or.inl rfl | exact Or.inr rfl) (pe_fld (pv 0) rfl)))
      pss_nil)
      (pss_one (ps_if (PW.pt (pw_or (pt_cmpR op_isN (pv 0) pe_non (nomark _)) (pw_or1 (pt_cmpR (op_kids hr.units) (pe_fld (pv 0) rfl) (pe_lst (pa_cons pe_non (pa_cons pe_non pa_nil))) (nomark _)))))
      (pss_one (ps_expr (pe_c c_add_stretch hr (by first | decide | omega) rfl (pa_cons (pv 4) (pa_cons (pv 1) (pa_cons (pv 2) (pa_cons (pv 3) pa_nil)))))))
      (pss_cons (ps_set (i := 5) sc_spread.nd rfl (by first | exact Or.inl rfl | exact Or.inr rfl) (pe_op op_fdiv (pe_op op_add (pv 1) (pv 2)) pe_int))
      (pss_cons (ps_expr (pe_c c_spread hr (by first | decide | omega) rfl (pa_cons (pe_ix ix_list (pe_fld (pv 0) rfl) pe_int (fun _ _ => rfl)) (pa_cons (pv 1) (pa_cons (pv 5) (pa_cons (pv 3) (pa_cons (pv 4) pa_nil)))))))
      (pss_one (ps_expr (pe_c c_spread hr (by first | decide | omega) rfl (pa_cons (pe_ix ix_list (pe_fld (pv 0) rfl) pe_int (fun _ _ => rfl)) (pa_cons (pe_op op_add (pv 5) pe_int) (pa_cons (pv 2) (pa_cons (pv 3) (pa_cons (pv 4) pa_nil))))))))))))), ?_⟩
      cases t with
      | nil =>
        refine ⟨fun σ' H' => σ' = [some .non, some (.int (a : Int)), some (.int ((a + 2 ^ k - 1 : Nat) : Int)), some (ov x), some (.ref p), none] ∧ H' = H, ⟨_, rfl, rfl, _, rfl, iteF (iteF ⟨rfl, rfl⟩)⟩, ?_⟩
        rintro σ' H' ⟨rfl, rfl⟩
        refine ⟨_, rfl, rfl, _, rfl, iteT (iteT ?_)⟩
        exact ⟨_, rfl, _, rfl, _, rfl, _, rfl, p, L, a, a + 2 ^ k - 1, x, rfl, hL, (by have : (AT.nil).tr.size = 0 := rfl; omega), q⟩
      | nd b dx ka g l r =>
        obtain ⟨hb, hka, hl, hr'⟩ := ht
        refine ⟨fun σ' H' => σ' = [some (.ref b), some (.int (a : Int)), some (.int ((a + 2 ^ k - 1 : Nat) : Int)), some (ov (g.or x)), some (.ref p), none] ∧ H = H', ?_, ?_⟩
        · refine ⟨_, rfl, rfl, _, rfl, iteT ?_⟩
          refine ⟨_, rfl, b, C, dx, _, _, rfl, hb, Kk.cl, Kk.ngoal, rfl, rfl, _, rfl, ?_⟩
          rw [isSome_ov]
          cases g with
          | none => exact iteF ⟨rfl, rfl⟩
          | some y => exact iteT ⟨_, rfl, b, C, dx, _, _, rfl, hb, Kk.cl, Kk.ngoal, rfl, rfl, rfl⟩
        · rintro σ' H' ⟨rfl, rfl⟩
          refine ⟨_, rfl, rfl, _, rfl, iteF ?_⟩
          refine ⟨_, rfl, b, C, dx, _, _, rfl, hb, Kk.cl, Kk.nkids, rfl, (by show 2 ≤ sizeLine; decide), fun q1 hq1 => ?_⟩
          have s1 : Same H (upd H q1 (.lst [.non, .non])) := Same_upd (Same.refl H) hq1
          generalize hH1 : upd H q1 (.lst [.non, .non]) = H1 at s1
          have e1 : H1 q1 = some (.lst [.non, .non]) := by rw [← hH1]; exact upd_same
          refine ⟨ka, q1, _, _, rfl, rfl, s1 _ _ hka, e1, rfl, ?_, ?_, _, rfl, ?_⟩
          · intro z hz
            simp at hz
            exact hz
          · intro z hz
            rcases List.mem_cons.mp hz with rfl | hz
            · exact noneOr_same (noneOr_val Kk hl) s1
            · rcases List.mem_cons.mp hz with rfl | hz
              · exact noneOr_same (noneOr_val Kk hr') s1
              · cases hz
          · have ea : [l.val, r.val].all isNon = (l.tr.isNil && r.tr.isNil) := by
              show (isNon l.val && (isNon r.val && true)) = _
              rw [AT.isNon_val, AT.isNon_val, Bool.and_true]
            rw [ea]
            have hlen2 : L.length + (1 + l.tr.size + r.tr.size) + 1 < 100000 := hlen
            refine ite2 (fun c => ?_) fun c => ?_
            · have e : spr (AT.nd b dx ka g l r).tr k a x L = addS L a (a + 2 ^ k - 1) (g.or x) := by
                show spr (.nd g l.tr r.tr) k a x L = _
                unfold spr
                rw [if_pos c]
              refine ⟨_, rfl, _, rfl, _, rfl, _, rfl, p, L, a, a + 2 ^ k - 1, g.or x, rfl, hL.same s1, (by omega), fun H' m h => q H' ((Mod.same s1).trans m) ?_⟩
              rw [e]
              exact h
            · cases k with
              | zero =>
                obtain ⟨d1, d2⟩ := hd
                rw [d1, d2] at c
                exact (c rfl).elim
              | succ k =>
                obtain ⟨d1, d2⟩ := hd
                have e : spr (AT.nd b dx ka g l r).tr (k + 1) a x L = spr r.tr k (a + 2 ^ k) (g.or x) (spr l.tr k a (g.or x) L) := by
                  show spr (.nd g l.tr r.tr) (k + 1) a x L = _
                  rw [spr, if_neg c]
                  rfl
                have pk := pow_pos2 k
                have p2 : 2 ^ (k + 1) = 2 ^ k + 2 ^ k := by rw [Nat.pow_succ]; omega
                have hp1 : p ∉ l.fp := fun m => hp (by simp [AT.fp, m])
                have hp2 : p ∉ r.fp := fun m => hp (by simp [AT.fp, m])
                have hpk : ka ≠ p := fun e => hp (by simp [AT.fp, e])
                have hpb : b ≠ p := fun e => hp (by simp [AT.fp, e])
                have em : ((a : Int) + ((a + 2 ^ (k + 1) - 1 : Nat) : Int)) / 2 = ((a + 2 ^ k - 1 : Nat) : Int) := by omega
                refine ⟨_, rfl, _, rfl, _, _, rfl, rfl, _, _, rfl, rfl, ⟨by decide, by decide⟩, ?_⟩
                dsimp only
                rw [em]
                refine ⟨_, rfl, b, C, dx, _, _, rfl, s1 _ _ hb, Kk.cl, Kk.nkids, rfl, ka, _, _, _, rfl, rfl, SqL.of (s1 _ _ hka), atI_nat (j := 0) rfl, ?_⟩
                refine ⟨_, rfl, _, rfl, _, rfl, _, rfl, C, l, k, a, g.or x, p, L, (by omega), rfl, Kk, AT.ok_same hl s1, d1, hp1, hL.same s1, (by omega), fun H2 m2 h2 => ?_⟩
                have s2 : Mod [p] H H2 := (Mod.same s1).trans m2
                have eb : ((a + 2 ^ k - 1 : Nat) : Int) + 1 = ((a + 2 ^ k : Nat) : Int) := by omega
                refine ⟨_, rfl, b, C, dx, _, _, rfl, s2 _ _ hb (.inl (by simp [hpb])), Kk.cl, Kk.nkids, rfl, ka, _, _, _, rfl, rfl, SqL.of (s2 _ _ hka (.inl (by simp [hpk]))), atI_nat (j := 1) rfl, ?_⟩
                refine ⟨_, rfl, _, _, rfl, rfl, _, rfl, _, rfl, _, rfl, ?_⟩
                have el := spr_len l.tr k a (g.or x) L
                refine ⟨C, r, k, a + 2 ^ k, g.or x, p, _, (by omega), ?_, Kk, AT.ok_mod hr' s2 (fun y hy => by simp only [List.mem_singleton]; exact fun e => hp2 (e ▸ hy)), d2, hp2, h2, (by omega), fun H3 m3 h3 => q H3 (s2.trans m3) ?_⟩
                · show [r.val, V.int (((a + 2 ^ k - 1 : Nat) : Int) + 1), V.int ((a + 2 ^ (k + 1) - 1 : Nat) : Int), ov (g.or x), V.ref p] = _
                  rw [eb, show a + 2 ^ (k + 1) - 1 = a + 2 ^ k + 2 ^ k - 1 by omega]
                · rw [e]
                  exact h3
abbrev s_Table_init : Stmt := inClass (top 24) 0
abbrev n_Table_init : List Str := ["self", "width"]
theorem sc_Table_init : FnScope n_Table_init ["self", "width"] (C8.fnScope s_Table_init) := ⟨rfl, rfl, rfl, by decide +kernel, rfl, by decide +kernel, by decide +kernel⟩
def spTable (K : PySem.W.Frag) (CK : Addr) : Sp := fun vs H Q _ => ∃ (a C dx : Addr) (v : Nat), vs = [.ref a, .int (v : Int)] ∧ Ts K C ∧ Ks K CK ∧ H a = some (.ins C dx []) ∧ 1 ≤ v ∧ v ≤ 64 ∧ ∀ H' t, Mod [a] H H' → Tab CK C H' a v t → t.tr = .nd none .nil .nil → (∀ x ∈ t.fp, H x = none) → Q .non H'
theorem c_Table_init (T : Glob mg) (Tt : Ts K CT) (Kk : Ks K CK) (D : Mkn K mg "Table" CT s_Table_init ["self", "width"]) (c_is_width : Cal P w K mg base 2 "is_width" spWidth []) (c_Knot : Mak P w K mg base 1 "Knot" CK (spKnot (K := K)) []) : Mak P w K mg base 3 "Table" CT (spTable K CK) [] := by
  refine D.mak sc_Table_init (fun vs H Q E h => ?_) (fun qual f cdv A outer s H vs Q E hr h => ?_)
  · obtain ⟨a, C, dx, v, rfl, _⟩ := h
    rfl
  · obtain ⟨a, C, dx, v, rfl, Tt, Kk, ha, w1, w2, k⟩ := h
    refine ⟨_, (pss_cons (ps_if (pt_not (pt_val (pe_c c_is_width hr (by first | decide | omega) rfl (pa_cons (pv 1) pa_nil))))
      (pss_one (ps_never (st := _)))
      pss_nil)
      (pss_cons (ps_fld (pv 0) (pv 1) rfl)
      (pss_cons (ps_fld (pv 0) (pe_mk0 c_Knot hr (by first | decide | omega) rfl) rfl)
      (pss_one (ps_fld (pv 0) pe_int rfl))))), ?_⟩
    have ew : isAmong (.int (v : Int)) 1 64 = true := by
      show (decide ((1 : Int) ≤ (v : Int)) && decide ((v : Int) ≤ 64)) = true
      rw [decide_eq_true (by omega), decide_eq_true (by omega)]
      rfl
    refine ⟨_, rfl, _, rfl, .int _, ?_⟩
    rw [ew]
    refine ⟨_, rfl, iteF ?_⟩
    refine ⟨_, rfl, _, rfl, a, C, dx, _, rfl, ha, Tt.cl, Tt.nwide, (by show 0 < 1000; decide), fun n d hn hd nd => ?_⟩
    have na : n ≠ a := (ne_of_none (o := .ins C dx [("wide", .int (v : Int))]) upd_same hn).symm
    have da : d ≠ a := (ne_of_none (o := .ins C dx [("wide", .int (v : Int))]) upd_same hd).symm
    have hn0 : H n = none := by rw [upd_ne na] at hn; exact hn
    have hd0 : H d = none := by rw [upd_ne da] at hd; exact hd
    refine ⟨n, CK, d, rfl, Kk, upd_same, fun H3 ka hka m3 e1 e2 => ⟨rfl, ?_⟩⟩
    have nka : ka ≠ n := (ne_of_none (o := .ins CK d []) upd_same hka).symm
    have m2 : Mod [a] H (upd (upd (upd H a (.ins C dx [("wide", .int (v : Int))])) d (.own n)) n (.ins CK d [])) := by
      have h0 : Mod [a] H (upd H a (.ins C dx [("wide", .int (v : Int))])) := Mod.refl.upd (.inl (by simp)) fun xs z => by rw [ha] at z; cases z
      have h1 := h0.new (o := .own n) hd
      exact h1.new (by rw [upd_ne nd.symm]; exact hn)
    have ha2 : (upd (upd (upd H a (.ins C dx [("wide", .int (v : Int))])) d (.own n)) n (.ins CK d [])) a = some (.ins C dx [("wide", .int (v : Int))]) := by
      rw [upd_ne na.symm, upd_ne da.symm]
      exact upd_same
    have kaa : ka ≠ a := (ne_of_none ha2 hka).symm
    have hka0 : H ka = none := m2.free hka
    have m3' : Mod [a] H H3 := m2.step m3 fun x hx => by
      have : x = n := by simpa using hx
      subst this
      exact .inr hn0
    have ha3 : H3 a = some (.ins C dx [("wide", .int (v : Int))]) := m3 _ _ ha2 (.inl (by simp [na.symm]))
    generalize hH2 : (upd (upd (upd H a (.ins C dx [("wide", .int (v : Int))])) d (.own n)) n (.ins CK d [])) = H2 at *
    refine ⟨_, rfl, a, C, dx, _, rfl, ha3, Tt.cl, Tt.ntop, (by show 1 < 1000; decide), ?_⟩
    refine ⟨_, rfl, a, C, dx, _, rfl, upd_same, Tt.cl, Tt.namount, (by show 2 < 1000; decide), ?_⟩
    refine k _ (.nd n d ka none .nil .nil) ((m3'.upd (.inl (by simp)) fun xs z => ?_).upd (.inl (by simp)) fun xs z => ?_) ⟨⟨dx, ?_⟩, ⟨?_, ?_, trivial, trivial⟩, ?_, ⟨trivial, trivial⟩, ?_, w1, w2, (by show 1 ≤ 20000; decide)⟩ rfl ?_
    · rw [ha3] at z; cases z
    · rw [upd_same] at z; cases z
    · exact upd_same
    · rw [upd_ne na, upd_ne na]
      exact e1
    · rw [upd_ne kaa, upd_ne kaa]
      exact e2
    · simp [AT.fp, na.symm, nka.symm, kaa.symm]
    · cases v with
      | zero => exact ⟨rfl, rfl⟩
      | succ v => exact ⟨trivial, trivial⟩
    · intro x hx
      simp [AT.fp] at hx
      rcases hx with rfl | rfl
      · exact hn0
      · exact hka0
abbrev s_Table_width : Stmt := inClass (top 24) 1
abbrev n_Table_width : List Str := ["self"]
theorem sc_Table_width : FnScope n_Table_width ["self"] (C8.fnScope s_Table_width) := ⟨rfl, rfl, rfl, by decide +kernel, rfl, by decide +kernel, by decide +kernel⟩
def spTwidth (CK CT : Addr) : Sp := fun vs H Q _ => ∃ (T : Addr) (v : Nat) (t : AT), vs = [.ref T] ∧ Tab CK CT H T v t ∧ Q (.int (v : Int)) H
theorem c_Table_width (Tt : Ts K CT) (D : Mn K CT "width" s_Table_width ["self"] []) : Met P w K mg base 1 CT "width" (spTwidth CK CT) [] := by
  refine D.met sc_Table_width (fun vs H Q E h => ?_) (fun qual f cdv A outer s H vs Q E hr h => ?_)
  · obtain ⟨a, v, t, rfl, _⟩ := h
    rfl
  · obtain ⟨a, v, t, rfl, ht, k⟩ := h
    refine ⟨_, (pss_one (ps_ret (pe_fld (pv 0) rfl))), ?_⟩
    obtain ⟨dx, ho⟩ := ht.obj
    exact ⟨_, rfl, a, CT, dx, _, _, rfl, ho, Tt.cl, Tt.nwide, rfl, k⟩
abbrev s_Table_many : Stmt := inClass (top 24) 2
abbrev n_Table_many : List Str := ["self"]
theorem sc_Table_many : FnScope n_Table_many ["self"] (C8.fnScope s_Table_many) := ⟨rfl, rfl, rfl, by decide +kernel, rfl, by decide +kernel, by decide +kernel⟩
def spTmany (CK CT : Addr) : Sp := fun vs H Q _ => ∃ (T : Addr) (v : Nat) (t : AT), vs = [.ref T] ∧ Tab CK CT H T v t ∧ Q (.int ((t.tr.count : Nat) : Int)) H
theorem c_Table_many (Tt : Ts K CT) (D : Mn K CT "many" s_Table_many ["self"] []) : Met P w K mg base 1 CT "many" (spTmany CK CT) [] := by
  refine D.met sc_Table_many (fun vs H Q E h => ?_) (fun qual f cdv A outer s H vs Q E hr h => ?_)
  · obtain ⟨a, v, t, rfl, _⟩ := h
    rfl
  · obtain ⟨a, v, t, rfl, ht, k⟩ := h
    refine ⟨_, (pss_one (ps_ret (pe_fld (pv 0) rfl))), ?_⟩
    obtain ⟨dx, ho⟩ := ht.obj
    exact ⟨_, rfl, a, CT, dx, _, _, rfl, ho, Tt.cl, Tt.namount, rfl, k⟩
abbrev s_Table_need_start : Stmt := inClass (top 24) 3
abbrev n_Table_need_start : List Str := ["self", "start"]
theorem sc_Table_need_start : FnScope n_Table_need_start ["self", "start"] (C8.fnScope s_Table_need_start) := ⟨rfl, rfl, rfl, by decide +kernel, rfl, by decide +kernel, by decide +kernel⟩
def spNeedS (CK CT : Addr) : Sp := fun vs H Q _ => ∃ (T : Addr) (v : Nat) (t : AT) (s : List Bool), vs = [.ref T, .str (tx s)] ∧ Tab CK CT H T v t ∧ s.length ≤ v ∧ ∀ H', Same H H' → Q .non H'
theorem c_Table_need_start (T : Glob mg) (Tt : Ts K CT) (D : Mn K CT "need_start" s_Table_need_start ["self", "start"] []) (c_is_start : Cal P w K mg base 2 "is_start" spStart []) : Met P w K mg base 3 CT "need_start" (spNeedS CK CT) [] := by
  refine D.met sc_Table_need_start (fun vs H Q E h => ?_) (fun qual f cdv A outer s H vs Q E hr h => ?_)
  · obtain ⟨a, v, t, s, rfl, _⟩ := h
    rfl
  · obtain ⟨a, v, t, s, rfl, ht, hs, k⟩ := h
    refine ⟨_, (pss_one (ps_if (pt_not (pt_val (pe_c c_is_start hr (by first | decide | omega) rfl (pa_cons (pe_fld (pv 0) rfl) (pa_cons (pv 1) pa_nil)))))
      (pss_one (ps_never (st := _)))
      pss_nil)), ?_⟩
    obtain ⟨dx, ho⟩ := ht.obj
    refine ⟨_, rfl, a, CT, dx, _, _, rfl, ho, Tt.cl, Tt.nwide, rfl, _, rfl, _, _, rfl, thing_tx (by have := ht.w2; omega), fun H' s' => ?_⟩
    rw [isBits_tx, decide_eq_true (by omega), decide_eq_true (by omega)]
    exact ⟨_, rfl, iteF (k H' s')⟩
abbrev s_Table_need_word : Stmt := inClass (top 24) 4
abbrev n_Table_need_word : List Str := ["self", "word"]
theorem sc_Table_need_word : FnScope n_Table_need_word ["self", "word"] (C8.fnScope s_Table_need_word) := ⟨rfl, rfl, rfl, by decide +kernel, rfl, by decide +kernel, by decide +kernel⟩
def spNeedW (CK CT : Addr) : Sp := fun vs H Q _ => ∃ (T : Addr) (v : Nat) (t : AT) (s : List Bool), vs = [.ref T, .str (tx s)] ∧ Tab CK CT H T v t ∧ s.length = v ∧ ∀ H', Same H H' → Q .non H'
theorem c_Table_need_word (T : Glob mg) (Tt : Ts K CT) (D : Mn K CT "need_word" s_Table_need_word ["self", "word"] []) (c_is_word : Cal P w K mg base 2 "is_word" spWord []) : Met P w K mg base 3 CT "need_word" (spNeedW CK CT) [] := by
  refine D.met sc_Table_need_word (fun vs H Q E h => ?_) (fun qual f cdv A outer s H vs Q E hr h => ?_)
  · obtain ⟨a, v, t, s, rfl, _⟩ := h
    rfl
  · obtain ⟨a, v, t, s, rfl, ht, hs, k⟩ := h
    refine ⟨_, (pss_one (ps_if (pt_not (pt_val (pe_c c_is_word hr (by first | decide | omega) rfl (pa_cons (pe_fld (pv 0) rfl) (pa_cons (pv 1) pa_nil)))))
      (pss_one (ps_never (st := _)))
      pss_nil)), ?_⟩
    obtain ⟨dx, ho⟩ := ht.obj
    refine ⟨_, rfl, a, CT, dx, _, _, rfl, ho, Tt.cl, Tt.nwide, rfl, _, rfl, _, _, rfl, thing_tx (by have := ht.w2; omega), fun H' s' => ?_⟩
    rw [isBits_tx, decide_eq_true (by omega), decide_eq_true (by omega)]
    exact ⟨_, rfl, iteF (k H' s')⟩
abbrev s_Table_way : Stmt := inClass (top 24) 5
abbrev n_Table_way : List Str := ["self", "start", "found", "sign", "knot"]
theorem sc_Table_way : FnScope n_Table_way ["self", "start"] (C8.fnScope s_Table_way) := ⟨rfl, rfl, rfl, by decide +kernel, rfl, by decide +kernel, by decide +kernel⟩
def spWay (CK CT : Addr) : Sp := fun vs H Q _ => ∃ (T : Addr) (v : Nat) (t : AT) (s : List Bool), vs = [.ref T, .str (tx s)] ∧ Tab CK CT H T v t ∧ s.length ≤ v ∧ ∀ H' p, Same H H' → H p = none → H' p = some (.lst ((t.way s).map AT.val)) → Q (.ref p) H'
theorem c_Table_way (T : Glob mg) (Tt : Ts K CT) (Kk : Ks K CK) (D : Mn K CT "way" s_Table_way ["self", "start"] []) : Met P w K mg base 1 CT "way" (spWay CK CT) [] := by
  refine D.met sc_Table_way (fun vs H Q E h => ?_) (fun qual f cdv A outer s H vs Q E hr h => ?_)
  · obtain ⟨a, v, t, s, rfl, _⟩ := h
    rfl
  · obtain ⟨a, v, t, s, rfl, ht, hs, k⟩ := h
    refine ⟨_, (pss_cons (ps_set (i := 2) sc_Table_way.nd rfl (by first | exact Or.inl rfl | exact Or.inr rfl) (pe_lst (pa_cons (pe_fld (pv 0) rfl) pa_nil)))
      (pss_cons (ps_for PassesOwn.never rfl (pi_str (pv 1)) (pg_name (i := 3) sc_Table_way.nd rfl (by first | exact Or.inl rfl | exact Or.inr rfl))
      (pss_cons (ps_set (i := 4) sc_Table_way.nd rfl (by first | exact Or.inl rfl | exact Or.inr rfl) (pe_ix ix_list (pe_fld (pe_ix ix_list (pv 2) (pe_un un_neg pe_int) (fun _ _ => rfl)) rfl) (pe_m1 PySem.F.slot_str_index PySem.F.type_str_index mt_sindex (pe_gc rfl T.g_BITS) (pv 3)) (fun _ _ => rfl)))
      (pss_cons (ps_if (pt_cmpR op_isN (pv 4) pe_non (nomark _))
      (pss_one (ps_ret (pv 2)))
      pss_nil)
      (pss_one (ps_expr (pe_bm PySem.F.plainAttrs_list PySem.F.slot_list_append PySem.F.type_list_append mt_append (pv 2) (pa_cons (pv 4) pa_nil)))))))
      (pss_one (ps_ret (pv 2))))), ?_⟩
    obtain ⟨dx, ho⟩ := ht.obj
    refine ⟨_, rfl, a, CT, dx, _, _, rfl, ho, Tt.cl, Tt.ntop, rfl, (by show 1 ≤ sizeLine; decide), fun p hp => ?_⟩
    refine ⟨_, rfl, _, rfl, for_it walk_str (fun i σ H' => ∃ v3 v4, σ = [some (.ref a), some (.str (tx s)), some (.ref p), v3, v4] ∧ Same H H' ∧ H' p = some (.lst ((t.way (s.take i)).map AT.val)) ∧ t.sub (s.take i) ≠ .nil) ⟨none, none, rfl, Same_upd (Same.refl H) hp, ?_, ht.ne⟩ (fun _ _ _ _ _ => trivial) ?_ ?_⟩
    · have e : (t.way (s.take 0)).map AT.val = [t.val] := by
        rw [List.take_zero]
        have := ht.ne
        cases t with
        | nil => exact (this rfl).elim
        | nd => rfl
      rw [e]
      exact upd_same
    · rintro i x σ H1 H2 hi ⟨v3, v4, rfl, s1, h1, hn⟩ ⟨rfl, c, hc, rfl⟩
      obtain ⟨b, hb, rfl⟩ := tx_get hc
      have hil : i < s.length := (List.getElem?_eq_some_iff.mp hb).1
      have etk : (s.take i).length = i := by rw [List.length_take]; omega
      -- the last knot so far
      have wl : (t.way (s.take i)).length = i + 1 := by
        have h1 := (AT.way_len (s.take i) t).mpr hn
        have h2 := AT.way_len_le (s.take i) t
        rw [etk] at h1 h2
        omega
      have wg : (t.way (s.take i))[i]? = some (t.sub (s.take i)) := by
        have := AT.way_get (s.take i) t i (by omega)
        rw [List.take_take, Nat.min_self] at this
        exact this hn
      obtain ⟨b', dx', ka, g, l, r, eu⟩ : ∃ b' dx' ka g l r, t.sub (s.take i) = .nd b' dx' ka g l r := by
        cases e : t.sub (s.take i) with
        | nil => exact (hn e).elim
        | nd => exact ⟨_, _, _, _, _, _, rfl⟩
      have oku := AT.sub_ok (s.take i) ht.ok
      rw [eu] at oku
      obtain ⟨hb', hka, _, _⟩ := oku
      have at1 : atI ((t.way (s.take i)).map AT.val) (-1) = some (V.ref b') := atI_end (n := i) (by rw [List.length_map, wl]) (by rw [List.getElem?_map, wg, eu]; rfl)
      have ek : t.sub (s.take (i + 1)) = AT.kid b l r := by rw [take_snoc hb]; exact AT.sub_kid _ b eu
      refine ⟨_, rfl, _, rfl, p, _, _, _, rfl, rfl, SqL.of h1, at1, b', CK, dx', _, _, rfl, s1 _ _ hb', Kk.cl, Kk.nkids, rfl, ⟨_, rfl⟩, _, rfl, _, _, _, _, rfl, rfl, bits_index b, ka, _, _, _, rfl, rfl, SqL.of (s1 _ _ hka), atI_nat (AT.kid_val b l r), ?_⟩
      refine ⟨_, rfl, rfl, _, rfl, ?_⟩
      rw [AT.val_tr]
      refine ite2 (fun c => ?_) fun c => ?_
      · have en : t.sub (s.take (i + 1)) = .nil := by
          rw [ek]
          cases e : AT.kid b l r with
          | nil => rfl
          | nd => rw [e] at c; cases c
        refine ⟨_, rfl, k _ p s1 hp ?_⟩
        have ew : t.way s = t.way (s.take i) := by
          have h1 := AT.way_dead (s.take (i + 1)) (s.drop (i + 1)) t en
          rw [List.take_append_drop] at h1
          rw [h1, take_snoc hb, AT.way_snoc, ← take_snoc hb, en]
          exact List.append_nil _
        rw [ew]
        exact h1
      · have en : t.sub (s.take (i + 1)) ≠ .nil := by
          rw [ek]
          intro z
          rw [z] at c
          exact c rfl
        refine ⟨_, rfl, .inl ⟨rfl, _, SqL.of h1⟩, _, rfl, p, _, _, rfl, rfl, h1, ?_, _, _, rfl, ?_, ?_, en⟩
        · rw [List.length_map, wl]
          have := ht.w2
          exact Nat.lt_of_le_of_lt (by omega : i + 1 ≤ 1000) (by decide)
        · exact Same_mut s1 hp
        · have ew : t.way (s.take (i + 1)) = t.way (s.take i) ++ [AT.kid b l r] := by
            rw [take_snoc hb, AT.way_snoc, ← take_snoc hb, ek]
            rw [ek] at en
            cases e : AT.kid b l r with
            | nil => exact (en e).elim
            | nd => rfl
          rw [ew, List.map_append]
          exact upd_same
    · rintro σ H1 ⟨v3, v4, rfl, s1, h1, hn⟩
      refine ⟨_, rfl, k _ p s1 hp ?_⟩
      have e : s.take (tx s).cps.size = s := List.take_of_length_le (by show s.length ≤ (tx s).length; rw [tx_len]; exact Nat.le_refl _)
      rw [e] at h1
      exact h1
end
end Br

/-! bitroads.table: roads, stretches, rows put and taken -/
namespace Br
open PySem PySem.Spec PyProof.Rows L2
open C8 (Cal Met Mak cal0 met0 mak0 pe_c pe_mk pe_mt pe_mt0 pe_gc Def)
/-- the road so far, along a way -/
def sofar (l : List AT) : Option Nat := l.foldl (fun x n => n.goal.or x) none
theorem sofar_snoc (l : List AT) (u : AT) : sofar (l ++ [u]) = u.goal.or (sofar l) := by
  unfold sofar
  rw [List.foldl_append]
  rfl
theorem sofar_way (t : AT) (s : List Bool) : sofar (t.way s) = t.tr.road none s := AT.way_road s t none
theorem way_long (t : AT) (s : List Bool) : decide ((((t.way s).map AT.val).length : Int) > (((tx s).length : Nat) : Int)) = true ↔ t.sub s ≠ .nil := by
  rw [List.length_map, tx_len, decide_eq_true_iff]
  have := AT.way_len s t
  constructor
  · intro h
    exact this.mp (by omega)
  · intro h
    have := this.mpr h
    omega
/-- a knot of a way -/
theorem way_nd {CK : Addr} {H : Hp} {t u : AT} {s : List Bool} (ho : t.ok CK H) (h : u ∈ t.way s) : ∃ a dx ka g l r, u = .nd a dx ka g l r ∧ H a = some (.ins CK dx (AT.kf ka g)) ∧ H ka = some (.lst [l.val, r.val]) := by
  obtain ⟨i, _, e, hn⟩ := AT.way_mem s t u h
  have o := AT.sub_ok (s.take i) ho
  rw [← e] at o
  cases u with
  | nil => exact (hn rfl).elim
  | nd a dx ka g l r => exact ⟨a, dx, ka, g, l, r, rfl, o.1, o.2.1⟩
section
variable {P : Program} {w : World} {K : PySem.W.Frag} {mg : Str → Option Value} {base : Heap} {CK CT : Addr}
abbrev s_Table_road : Stmt := inClass (top 24) 11
abbrev n_Table_road : List Str := ["self", "word", "found", "knot"]
theorem sc_Table_road : FnScope n_Table_road ["self", "word"] (C8.fnScope s_Table_road) := ⟨rfl, rfl, rfl, by decide +kernel, rfl, by decide +kernel, by decide +kernel⟩
def spTroad (CK CT : Addr) : Sp := fun vs H Q _ => ∃ (T : Addr) (v : Nat) (t : AT) (s : List Bool), vs = [.ref T, .str (tx s)] ∧ Tab CK CT H T v t ∧ s.length = v ∧ ∀ H', Same H H' → Q (ov (t.tr.road none s)) H'
theorem c_Table_road (T : Glob mg) (Tt : Ts K CT) (Kk : Ks K CK) (D : Mn K CT "road" s_Table_road ["self", "word"] []) (m_need_word : Met P w K mg base 3 CT "need_word" (spNeedW CK CT) []) (m_way : Met P w K mg base 1 CT "way" (spWay CK CT) []) : Met P w K mg base 4 CT "road" (spTroad CK CT) [] := by
  refine D.met sc_Table_road (fun vs H Q E h => ?_) (fun qual f cdv A outer s H vs Q E hr h => ?_)
  · obtain ⟨a, v, t, s, rfl, _⟩ := h
    rfl
  · obtain ⟨a, v, t, s, rfl, ht, hs, k⟩ := h
    refine ⟨_, (pss_cons (ps_expr (pe_mt m_need_word hr (by first | decide | omega) (pv 0) (pa_cons (pv 1) pa_nil)))
      (pss_cons (ps_set (i := 2) sc_Table_road.nd rfl (by first | exact Or.inl rfl | exact Or.inr rfl) pe_non)
      (pss_cons (ps_for PassesOwn.never rfl (pi_list (pe_mt m_way hr (by first | decide | omega) (pv 0) (pa_cons (pv 1) pa_nil))) (pg_name (i := 3) sc_Table_road.nd rfl (by first | exact Or.inl rfl | exact Or.inr rfl))
      (pss_one (ps_if (pt_cmpR op_notN (pe_fld (pv 3) rfl) pe_non (nomark _))
      (pss_one (ps_set (i := 2) sc_Table_road.nd rfl (by first | exact Or.inl rfl | exact Or.inr rfl) (pe_fld (pv 3) rfl)))
      pss_nil)))
      (pss_one (ps_ret (pv 2)))))), ?_⟩
    obtain ⟨dx, ho⟩ := ht.obj
    refine ⟨_, rfl, a, dx, _, rfl, ho, rfl, _, rfl, a, v, t, s, rfl, ht, hs, fun H1 s1 => ?_⟩
    refine ⟨_, rfl, a, dx, _, rfl, s1 _ _ ho, rfl, _, rfl, a, v, t, s, rfl, ht.same s1, (by omega), fun H2 p s2 hp h2 => ?_⟩
    refine ⟨p, rfl, ⟨_, SqL.of h2⟩, for_it (walk_list (K := K) (a := p) (xs := (t.way s).map AT.val)) (fun i σ H' => ∃ v3, σ = [some (.ref a), some (.str (tx s)), some (ov (sofar ((t.way s).take i))), v3] ∧ H' = H2) ⟨none, rfl, rfl⟩ (fun i σ H' _ h => ?_) ?_ ?_⟩
    · obtain ⟨_, _, rfl⟩ := h
      exact SqL.of h2
    · rintro i x σ H3 H4 hi ⟨v3, rfl, rfl⟩ ⟨rfl, hx⟩
      rw [List.getElem?_map] at hx
      cases eu : (t.way s)[i]? with
      | none => rw [eu] at hx; cases hx
      | some u =>
        rw [eu] at hx
        cases hx
        obtain ⟨b, db, ka, g, l, r, rfl, hb, _⟩ := way_nd ht.ok (List.mem_of_getElem? eu)
        have hb2 := s2 _ _ (s1 _ _ hb)
        have e1 : sofar ((t.way s).take (i + 1)) = g.or (sofar ((t.way s).take i)) := by rw [take_snoc eu, sofar_snoc]; rfl
        refine ⟨_, rfl, b, CK, db, _, _, rfl, hb2, Kk.cl, Kk.ngoal, rfl, rfl, _, rfl, ?_⟩
        rw [isSome_ov]
        cases g with
        | none => exact iteF ⟨_, by rw [e1]; rfl, rfl⟩
        | some y => exact iteT ⟨_, rfl, b, CK, db, _, _, rfl, hb2, Kk.cl, Kk.ngoal, rfl, _, by rw [e1]; rfl, rfl⟩
    · rintro σ H3 ⟨v3, rfl, rfl⟩
      refine ⟨_, rfl, ?_⟩
      have e : sofar ((t.way s).take ((t.way s).map AT.val).length) = t.tr.road none s := by
        rw [List.length_map, List.take_length, sofar_way]
      rw [e]
      exact k _ (s1.trans s2)
abbrev s_Table_stretches : Stmt := inClass (top 24) 12
abbrev n_Table_stretches : List Str := ["self", "start", "knots", "road", "knot", "first", "last", "found"]
theorem sc_Table_stretches : FnScope n_Table_stretches ["self", "start"] (C8.fnScope s_Table_stretches) := ⟨rfl, rfl, rfl, by decide +kernel, rfl, by decide +kernel, by decide +kernel⟩
def spTstr (CK CT : Addr) : Sp := fun vs H Q _ => ∃ (T : Addr) (v : Nat) (t : AT) (s : List Bool), vs = [.ref T, .str (tx s)] ∧ Tab CK CT H T v t ∧ s.length ≤ v ∧ ∀ H' p, Same H H' → H p = none → LT H' p ((tells t.tr v s).map row3) → Q (.ref p) H'
theorem c_Table_stretches {dvs : List V} (T : Glob mg) (Tt : Ts K CT) (Kk : Ks K CK) (D : Mn K CT "stretches" s_Table_stretches ["self", "start"] dvs) (m_need_start : Met P w K mg base 3 CT "need_start" (spNeedS CK CT) []) (m_way : Met P w K mg base 1 CT "way" (spWay CK CT) [])
    (c_span_of : Cal P w K mg base 2 "span_of" spSpan []) (c_spread : Cal P w K mg base 66 "spread" (spSpread K 65) []) : Met P w K mg base 67 CT "stretches" (spTstr CK CT) dvs := by
  refine D.met sc_Table_stretches (fun vs H Q E h => ?_) (fun qual f cdv A outer s H vs Q E hr h => ?_)
  · obtain ⟨a, v, t, s, rfl, _⟩ := h
    rfl
  · obtain ⟨a, v, t, s, rfl, ht, hs, k⟩ := h
    refine ⟨_, (pss_cons (ps_expr (pe_mt m_need_start hr (by first | decide | omega) (pv 0) (pa_cons (pv 1) pa_nil)))
      (pss_cons (ps_set (i := 2) sc_Table_stretches.nd rfl (by first | exact Or.inl rfl | exact Or.inr rfl) (pe_mt m_way hr (by first | decide | omega) (pv 0) (pa_cons (pv 1) pa_nil)))
      (pss_cons (ps_set (i := 3) sc_Table_stretches.nd rfl (by first | exact Or.inl rfl | exact Or.inr rfl) pe_non)
      (pss_cons (ps_for PassesOwn.never rfl (pi_list (pv 2)) (pg_name (i := 4) sc_Table_stretches.nd rfl (by first | exact Or.inl rfl | exact Or.inr rfl))
      (pss_one (ps_if (pt_cmpR op_notN (pe_fld (pv 4) rfl) pe_non (nomark _))
      (pss_one (ps_set (i := 3) sc_Table_stretches.nd rfl (by first | exact Or.inl rfl | exact Or.inr rfl) (pe_fld (pv 4) rfl)))
      pss_nil)))
      (pss_cons (ps_asg (pe_c c_span_of hr (by first | decide | omega) rfl (pa_cons (pv 1) (pa_cons (pe_fld (pv 0) rfl) pa_nil))) (pg_tup rfl (pgs_cons (pg_name (i := 5) sc_Table_stretches.nd rfl (by first | exact Or.inl rfl | exact Or.inr rfl)) (pgs_cons (pg_name (i := 6) sc_Table_stretches.nd rfl (by first | exact Or.inl rfl | exact Or.inr rfl)) pgs_nil))))
      (pss_cons (ps_set (i := 7) sc_Table_stretches.nd rfl (by first | exact Or.inl rfl | exact Or.inr rfl) (pe_lst pa_nil))
      (pss_cons (ps_expr (pe_c c_spread hr (by first | decide | omega) rfl (pa_cons (pe_ifExp (pt_cmpR op_gt (pe_callB call_len_seq (by rfl) T.g_len boot_len (pa_cons (pv 2) pa_nil)) (pe_callB call_len_str (by rfl) T.g_len boot_len (pa_cons (pv 1) pa_nil)) (nomark _)) (pe_ix ix_list (pv 2) (pe_un un_neg pe_int) (fun _ _ => rfl)) pe_non) (pa_cons (pv 5) (pa_cons (pv 6) (pa_cons (pv 3) (pa_cons (pv 7) pa_nil)))))))
      (pss_one (ps_ret (pv 7)))))))))), ?_⟩
    obtain ⟨dx, ho⟩ := ht.obj
    refine ⟨_, rfl, a, dx, _, rfl, ho, rfl, _, rfl, a, v, t, s, rfl, ht, hs, fun H1 s1 => ?_⟩
    refine ⟨_, rfl, a, dx, _, rfl, s1 _ _ ho, rfl, _, rfl, a, v, t, s, rfl, ht.same s1, hs, fun H2 p s2 hp h2 => ?_⟩
    refine ⟨_, rfl, p, rfl, ⟨_, SqL.of h2⟩, for_it (walk_list (K := K) (a := p) (xs := (t.way s).map AT.val)) (fun i σ H' => ∃ v4, σ = [some (.ref a), some (.str (tx s)), some (.ref p), some (ov (sofar ((t.way s).take i))), v4, none, none, none] ∧ H' = H2) ⟨none, rfl, rfl⟩ (fun i σ H' _ h => ?_) ?_ ?_⟩
    · obtain ⟨_, _, rfl⟩ := h
      exact SqL.of h2
    · rintro i x σ H3 H4 hi ⟨v3, rfl, rfl⟩ ⟨rfl, hx⟩
      rw [List.getElem?_map] at hx
      cases eu : (t.way s)[i]? with
      | none => rw [eu] at hx; cases hx
      | some u =>
        rw [eu] at hx
        cases hx
        obtain ⟨b, db, ka, g, l, r, rfl, hb, _⟩ := way_nd ht.ok (List.mem_of_getElem? eu)
        have hb2 := s2 _ _ (s1 _ _ hb)
        have e1 : sofar ((t.way s).take (i + 1)) = g.or (sofar ((t.way s).take i)) := by rw [take_snoc eu, sofar_snoc]; rfl
        refine ⟨_, rfl, b, CK, db, _, _, rfl, hb2, Kk.cl, Kk.ngoal, rfl, rfl, _, rfl, ?_⟩
        rw [isSome_ov]
        cases g with
        | none => exact iteF ⟨_, by rw [e1]; rfl, rfl⟩
        | some y => exact iteT ⟨_, rfl, b, CK, db, _, _, rfl, hb2, Kk.cl, Kk.ngoal, rfl, _, by rw [e1]; rfl, rfl⟩
    · rintro σ H3 ⟨v3, rfl, rfl⟩
      have e : sofar ((t.way s).take ((t.way s).map AT.val).length) = t.tr.road none s := by
        rw [List.length_map, List.take_length, sofar_way]
      rw [e]
      have s12 := s1.trans s2
      refine ⟨_, rfl, _, rfl, a, CT, dx, _, _, rfl, s12 _ _ ho, Tt.cl, Tt.nwide, rfl, s, v, rfl, hs, ht.w2, fun q hq => ?_⟩
      have s3 := Same_upd s12 hq (o := .tup [.int ((lo s v : Nat) : Int), .int ((hi s v : Nat) : Int)])
      have np : p ≠ q := ne_of_none h2 hq
      refine ⟨q, _, rfl, SqT.of upd_same, rfl, _, _, rfl, _, _, rfl, rfl, ?_⟩
      refine ⟨Nat.zero_le _, fun o ho' => ?_⟩
      have s4 := Same_upd s3 ho' (o := .lst [])
      have npo : p ≠ o := ne_of_none ((upd_ne np).trans h2) ho'
      refine ⟨_, rfl, p, _, rfl, .inl (SqL.of ((upd_ne npo).trans ((upd_ne np).trans h2))), _, rfl, _, rfl, by rw [tx_len]; exact Nat.le_trans (by have := ht.w2; omega : s.length ≤ 1000) (by decide), _, _, rfl, rfl, _, rfl, ?_⟩
      have fin : ∀ H5, Same H H5 → LT H5 o [] → (∀ x ∈ t.fp, x ≠ o) → spSpread K 65 [(t.sub s).val, .int ((lo s v : Nat) : Int), .int ((hi s v : Nat) : Int), ov (t.tr.road none s), .ref o] H5 (fun _ H' => ∃ y, some (some (V.ref o)) = some (some y) ∧ Q y H') C8.E0 := fun H5 s5 h5 hn => by
        have hw2 := ht.w2
        have hsz := ht.sz
        have hsub := Tr.size_sub s t.tr
        refine ⟨CK, t.sub s, v - s.length, lo s v, t.tr.road none s, o, [], (by omega), ?_, Kk, AT.ok_same (AT.sub_ok s ht.ok) s5, ?_, ?_, h5, ?_, fun H6 m6 h6 => ?_⟩
        · show _ = [(t.sub s).val, V.int ((lo s v : Nat) : Int), V.int ((lo s v + 2 ^ (v - s.length) - 1 : Nat) : Int), _, _]
          rfl
        · rw [AT.sub_tr]
          exact deep_sub ht.deep hs
        · exact fun m => hn o (AT.sub_fp s t o m) rfl
        · rw [AT.sub_tr]
          show 0 + _ + 1 < 100000
          omega
        · refine ⟨_, rfl, k _ o (fun x u e => m6 _ _ (s5 _ _ e) (.inl ?_)) (s3.free ho') ?_⟩
          · have ho0 : H o = none := s3.free ho'
            simp only [List.mem_singleton]
            exact ne_of_none e ho0
          · rw [AT.sub_tr] at h6
            exact h6
      have hn : ∀ x ∈ t.fp, x ≠ o := fun x hx => by
        obtain ⟨u, eu⟩ := AT.ok_some ht.ok x hx
        exact ne_of_none (s3 _ _ eu) ho'
      refine ite2 (fun c => ?_) fun c => ?_
      · have hne : t.sub s ≠ .nil := (way_long t s).mp c
        have wl : ((t.way s).map AT.val).length = s.length + 1 := by
          have h1 := (AT.way_len s t).mpr hne
          have h2 := AT.way_len_le s t
          rw [List.length_map]
          omega
        have wg : ((t.way s).map AT.val)[s.length]? = some (t.sub s).val := by
          have := AT.way_get s t s.length (Nat.le_refl _)
          rw [List.take_length] at this
          rw [List.getElem?_map, this hne]
          rfl
        refine ⟨_, rfl, _, rfl, p, _, _, _, rfl, rfl, SqL.of ((upd_ne npo).trans ((upd_ne np).trans h2)), atI_end wl wg, _, rfl, _, rfl, _, rfl, _, rfl, ?_⟩
        exact fin _ s4 LT.nil hn
      · have hne : t.sub s = .nil := Classical.byContradiction fun n => c ((way_long t s).mpr n)
        have fin := fin _ s4 LT.nil hn
        rw [hne] at fin
        exact ⟨_, rfl, _, rfl, _, rfl, _, rfl, fin⟩
abbrev s_Table_has : Stmt := inClass (top 24) 8
abbrev n_Table_has : List Str := ["self", "start", "knots"]
theorem sc_Table_has : FnScope n_Table_has ["self", "start"] (C8.fnScope s_Table_has) := ⟨rfl, rfl, rfl, by decide +kernel, rfl, by decide +kernel, by decide +kernel⟩
def spThas (CK CT : Addr) : Sp := fun vs H Q _ => ∃ (T : Addr) (v : Nat) (t : AT) (s : List Bool), vs = [.ref T, .str (tx s)] ∧ Tab CK CT H T v t ∧ s.length ≤ v ∧ ∀ H', Same H H' → Q (.bl (t.tr.get s).isSome) H'
theorem c_Table_has (T : Glob mg) (Tt : Ts K CT) (Kk : Ks K CK) (D : Mn K CT "has" s_Table_has ["self", "start"] []) (m_need_start : Met P w K mg base 3 CT "need_start" (spNeedS CK CT) []) (m_way : Met P w K mg base 1 CT "way" (spWay CK CT) []) : Met P w K mg base 4 CT "has" (spThas CK CT) [] := by
  refine D.met sc_Table_has (fun vs H Q E h => ?_) (fun qual f cdv A outer s H vs Q E hr h => ?_)
  · obtain ⟨a, v, t, s, rfl, _⟩ := h
    rfl
  · obtain ⟨a, v, t, s, rfl, ht, hs, k⟩ := h
    refine ⟨_, (pss_cons (ps_expr (pe_mt m_need_start hr (by first | decide | omega) (pv 0) (pa_cons (pv 1) pa_nil)))
      (pss_cons (ps_set (i := 2) sc_Table_has.nd rfl (by first | exact Or.inl rfl | exact Or.inr rfl) (pe_mt m_way hr (by first | decide | omega) (pv 0) (pa_cons (pv 1) pa_nil)))
      (pss_one (ps_ret (pe_and (pe_cmpR op_gt (pe_callB call_len_seq (by rfl) T.g_len boot_len (pa_cons (pv 2) pa_nil)) (pe_callB call_len_str (by rfl) T.g_len boot_len (pa_cons (pv 1) pa_nil)) (nomark _)) (pe_one (pe_cmpR op_notN (pe_fld (pe_ix ix_list (pv 2) (pe_un un_neg pe_int) (fun _ _ => rfl)) rfl) pe_non (nomark _)))))))), ?_⟩
    obtain ⟨dx, ho⟩ := ht.obj
    refine ⟨_, rfl, a, dx, _, rfl, ho, rfl, _, rfl, a, v, t, s, rfl, ht, hs, fun H1 s1 => ?_⟩
    refine ⟨_, rfl, a, dx, _, rfl, s1 _ _ ho, rfl, _, rfl, a, v, t, s, rfl, ht.same s1, hs, fun H2 p s2 hp h2 => ?_⟩
    refine ⟨_, rfl, p, _, rfl, .inl (SqL.of h2), _, rfl, _, rfl, by rw [tx_len]; exact Nat.le_trans (by have := ht.w2; omega : s.length ≤ 1000) (by decide), _, _, rfl, rfl, _, rfl, ?_⟩
    have eg := AT.goal_get s t
    refine ite2 (fun c => ?_) fun c => ?_
    · have hne : t.sub s ≠ .nil := (way_long t s).mp c
      have wl : ((t.way s).map AT.val).length = s.length + 1 := by
        have h1 := (AT.way_len s t).mpr hne
        have h2 := AT.way_len_le s t
        rw [List.length_map]
        omega
      have wg : ((t.way s).map AT.val)[s.length]? = some (t.sub s).val := by
        have := AT.way_get s t s.length (Nat.le_refl _)
        rw [List.take_length] at this
        rw [List.getElem?_map, this hne]
        rfl
      have oks := AT.sub_ok s ht.ok
      cases e : t.sub s with
      | nil => exact (hne e).elim
      | nd b db ka g l r =>
        rw [e] at wg oks eg
        refine ⟨_, rfl, _, rfl, p, _, _, _, rfl, rfl, SqL.of h2, atI_end wl wg, b, CK, db, _, _, rfl, s2 _ _ (s1 _ _ oks.1), Kk.cl, Kk.ngoal, rfl, rfl, ?_⟩
        rw [isSome_ov, show g = t.tr.get s from eg]
        exact k _ (s1.trans s2)
    · have hne : t.sub s = .nil := Classical.byContradiction fun n => c ((way_long t s).mpr n)
      rw [hne] at eg
      have e2 : (t.tr.get s).isSome = false := by rw [← eg]; rfl
      have k2 := k _ (s1.trans s2)
      rw [e2] at k2
      exact k2
end
end Br

/-! Rows in a dict, and the longest of them that fits a word. -/
namespace Br
open PySem PySem.Spec PyProof.Rows L2
abbrev RowL := List (List Bool × Nat)
/-- as a dict holds them -/
def RK (rows : RowL) : List (Key × V) := rows.map fun r => (.inr (tx r.1), .int (r.2 : Int))
def rget (rows : RowL) (s : List Bool) : Option Nat := (rows.find? fun r => decide (r.1 = s)).map (·.2)
def rput (rows : RowL) (s : List Bool) (x : Nat) : RowL := if (rows.any fun r => decide (r.1 = s)) = true then rows.map (fun r => if r.1 = s then (r.1, x) else r) else rows ++ [(s, x)]
def rdrop (rows : RowL) (s : List Bool) : RowL := rows.filter fun r => decide (r.1 ≠ s)
theorem key_eq (a b : List Bool) : ((Sum.inr (tx a) : Key) = .inr (tx b)) ↔ a = b := ⟨fun h => tx_inj (Sum.inr.inj h), fun h => by rw [h]⟩
theorem RK_len (rows : RowL) : (RK rows).length = rows.length := by simp [RK]
theorem RK_any (rows : RowL) (s : List Bool) : ((RK rows).any fun kv => decide (kv.1 = (.inr (tx s) : Key))) = rows.any fun r => decide (r.1 = s) := by
  unfold RK
  rw [List.any_map]
  congr 1
  funext r
  show decide ((Sum.inr (tx r.1) : Key) = .inr (tx s)) = decide (r.1 = s)
  by_cases h : r.1 = s
  · rw [decide_eq_true h, decide_eq_true ((key_eq _ _).mpr h)]
  · rw [decide_eq_false h, decide_eq_false fun z => h ((key_eq _ _).mp z)]
theorem RK_get (rows : RowL) (s : List Bool) : valV (RK rows) (.inr (tx s)) = (rget rows s).map fun n : Nat => V.int (n : Int) := by
  induction rows with
  | nil => rfl
  | cons r rows ih =>
    show valV ((.inr (tx r.1), .int (r.2 : Int)) :: RK rows) (.inr (tx s)) = _
    by_cases h : r.1 = s
    · rw [valV_pos (show ((Sum.inr (tx r.1), V.int (r.2 : Int)) : Key × V).1 = _ from (key_eq _ _).mpr h)]
      simp [rget, List.find?_cons, h]
    · rw [valV_neg (show ¬ ((Sum.inr (tx r.1), V.int (r.2 : Int)) : Key × V).1 = _ from fun z => h ((key_eq _ _).mp z)), ih]
      simp [rget, List.find?_cons, h]
theorem RK_put (rows : RowL) (s : List Bool) (x : Nat) : putK (RK rows) (.inr (tx s)) (.int (x : Int)) = RK (rput rows s x) := by
  unfold putK rput
  rw [RK_any]
  split
  · unfold RK
    rw [List.map_map, List.map_map]
    refine List.map_congr_left fun r _ => ?_
    show (if (Sum.inr (tx r.1) : Key) = .inr (tx s) then _ else _) = _
    by_cases h : r.1 = s
    · rw [if_pos ((key_eq _ _).mpr h)]
      show _ = (fun r : List Bool × Nat => ((.inr (tx r.1) : Key), V.int (r.2 : Int))) (if r.1 = s then (r.1, x) else r)
      rw [if_pos h]
    · rw [if_neg fun z => h ((key_eq _ _).mp z)]
      show _ = (fun r : List Bool × Nat => ((.inr (tx r.1) : Key), V.int (r.2 : Int))) (if r.1 = s then (r.1, x) else r)
      rw [if_neg h]
  · unfold RK
    rw [List.map_append]
    rfl
theorem RK_drop (rows : RowL) (s : List Bool) : dropK (RK rows) (.inr (tx s)) = RK (rdrop rows s) := by
  unfold dropK rdrop RK
  rw [List.filter_map]
  congr 1
  refine List.filter_congr fun r _ => ?_
  exact decide_eq_decide.mpr (not_congr (key_eq _ _))
theorem rget_cons (r : List Bool × Nat) (rows : RowL) (u : List Bool) : rget (r :: rows) u = if r.1 = u then some r.2 else rget rows u := by
  unfold rget
  rw [List.find?_cons]
  by_cases h : r.1 = u
  · rw [decide_eq_true h, if_pos h]; rfl
  · rw [decide_eq_false h, if_neg h]
theorem rget_none {rows : RowL} {u : List Bool} : rget rows u = none ↔ u ∉ rows.map (·.1) := by
  induction rows with
  | nil => simp [rget]
  | cons r rows ih =>
    rw [rget_cons]
    by_cases h : r.1 = u
    · rw [if_pos h]; simp [h]
    · rw [if_neg h, ih]
      simp only [List.map_cons, List.mem_cons, not_or]
      exact ⟨fun k => ⟨fun e => h e.symm, k⟩, fun k => k.2⟩
theorem rany {rows : RowL} {s : List Bool} : (rows.any fun r => decide (r.1 = s)) = (rget rows s).isSome := by
  induction rows with
  | nil => rfl
  | cons r rows ih =>
    rw [List.any_cons, rget_cons, ih]
    by_cases h : r.1 = s
    · rw [decide_eq_true h, if_pos h]; rfl
    · rw [decide_eq_false h, if_neg h]; rfl
theorem int_inj {a b : Option Nat} (h : (a.map fun n : Nat => V.int (n : Int)) = b.map fun n : Nat => V.int (n : Int)) : a = b := by
  cases a with
  | none => cases b with
    | none => rfl
    | some y => cases h
  | some x => cases b with
    | none => cases h
    | some y =>
      have h : V.int (x : Int) = V.int (y : Int) := Option.some.inj h
      injection h with h
      rw [Int.ofNat_inj.mp h]
theorem rget_put (rows : RowL) (s : List Bool) (x : Nat) (u : List Bool) : rget (rput rows s x) u = if u = s then some x else rget rows u := by
  refine int_inj ?_
  rw [← RK_get, ← RK_put, valV_put]
  by_cases h : u = s
  · rw [if_pos ((key_eq _ _).mpr h), if_pos h]; rfl
  · rw [if_neg (fun z => h ((key_eq _ _).mp z)), if_neg h, RK_get]
theorem rget_drop (rows : RowL) (s u : List Bool) : rget (rdrop rows s) u = if u = s then none else rget rows u := by
  unfold rdrop
  induction rows with
  | nil => simp [rget]
  | cons r rows ih =>
    rw [List.filter_cons]
    by_cases h : r.1 = s
    · rw [if_neg (by simp [h]), ih, rget_cons]
      by_cases e : u = s
      · rw [if_pos e, if_pos e]
      · rw [if_neg e, if_neg e, if_neg (fun z => e (z.symm.trans h))]
    · rw [if_pos (by simp [h]), rget_cons, rget_cons, ih]
      by_cases e : r.1 = u
      · rw [if_pos e, if_pos e, if_neg (fun z => h (e.trans z))]
      · rw [if_neg e, if_neg e]
theorem rput_keys (rows : RowL) (s : List Bool) (x : Nat) : (rput rows s x).map (·.1) = if (rget rows s).isSome = true then rows.map (·.1) else rows.map (·.1) ++ [s] := by
  unfold rput
  rw [rany]
  split
  · rw [List.map_map]
    refine List.map_congr_left fun r _ => ?_
    show (if r.1 = s then (r.1, x) else r).1 = r.1
    split <;> rfl
  · simp
theorem rput_len (rows : RowL) (s : List Bool) (x : Nat) : (rput rows s x).length = rows.length + (if rget rows s = none then 1 else 0) := by
  have h := congrArg List.length (rput_keys rows s x)
  rw [List.length_map] at h
  rw [h]
  cases e : rget rows s with
  | none => rw [if_neg (by simp)]; simp
  | some y => rw [if_pos (by simp), if_neg (by simp)]; simp
theorem rdrop_len {rows : RowL} {s : List Bool} (hn : (rows.map (·.1)).Nodup) : (rdrop rows s).length + (if rget rows s = none then 0 else 1) = rows.length := by
  unfold rdrop
  induction rows with
  | nil => rfl
  | cons r rows ih =>
    obtain ⟨n1, n2⟩ := List.nodup_cons.mp hn
    have ih := ih n2
    rw [List.filter_cons, rget_cons]
    by_cases h : r.1 = s
    · rw [if_neg (by simp [h]), if_pos h, if_neg (by simp)]
      have : rget rows s = none := rget_none.mpr (by rw [← h]; exact n1)
      rw [this, if_pos rfl] at ih
      simp only [List.length_cons]
      omega
    · rw [if_pos (by simp [h]), if_neg h]
      simp only [List.length_cons]
      omega
/-- a dict of rows and a tree that tell the same -/
structure Agr (rows : RowL) (t : Tr) : Prop where
  nd : (rows.map (·.1)).Nodup
  get : ∀ s, rget rows s = t.get s
  len : rows.length = t.count
theorem Agr.nil : Agr [] (.nd none .nil .nil) := ⟨List.nodup_nil, fun s => by rw [Tr.get_new]; rfl, rfl⟩
theorem Agr.put {rows : RowL} {t : Tr} (h : Agr rows t) (s : List Bool) (x : Nat) : Agr (rput rows s x) (t.put s x) := by
  refine ⟨?_, fun u => ?_, ?_⟩
  · rw [rput_keys]
    split
    · exact h.nd
    · rename_i hn
      refine List.nodup_append.mpr ⟨h.nd, by simp, fun a ha b hb e => ?_⟩
      have : b = s := by simpa using hb
      have hs : rget rows s = none := by
        cases q : rget rows s with
        | none => rfl
        | some y => rw [q] at hn; exact (hn rfl).elim
      exact rget_none.mp hs (by rw [← this, ← e]; exact ha)
  · rw [rget_put, Tr.get_put, h.get]
  · rw [rput_len, Tr.count_put, h.len, h.get]
theorem Agr.take {rows : RowL} {t : Tr} (h : Agr rows t) (s : List Bool) : Agr (rdrop rows s) (t.take s) := by
  refine ⟨?_, fun u => ?_, ?_⟩
  · exact List.Nodup.sublist (List.Sublist.map _ List.filter_sublist) h.nd
  · rw [rget_drop, Tr.get_take, h.get]
  · have h1 := rdrop_len (s := s) h.nd
    have h2 := Tr.count_take s t
    have h3 := h.len
    rw [h.get] at h1
    omega
theorem Agr.mem {rows : RowL} {t : Tr} (h : Agr rows t) {r : List Bool × Nat} (hr : r ∈ rows) : t.get r.1 = some r.2 := by
  rw [← h.get]
  have hn := h.nd
  clear h
  induction rows with
  | nil => cases hr
  | cons r0 rows ih =>
    rw [rget_cons]
    obtain ⟨n1, n2⟩ := List.nodup_cons.mp hn
    rcases List.mem_cons.mp hr with e | hr
    · rw [e, if_pos rfl]
    · rw [if_neg fun e => n1 (by show r0.1 ∈ _; rw [e]; exact List.mem_map.mpr ⟨r, hr, rfl⟩)]
      exact ih hr n2
/-! ### the longest start that fits -/
def isPre (s w : List Bool) : Bool := decide (w.take s.length = s)
theorem isPre_cons (b : Bool) (s w : List Bool) : isPre (b :: s) (b :: w) = isPre s w := by
  unfold isPre
  by_cases h : w.take s.length = s
  · rw [decide_eq_true h]; simp [h]
  · rw [decide_eq_false h]; simp [h]
theorem isPre_len {s w : List Bool} (h : isPre s w = true) : s.length ≤ w.length := by
  have h := of_decide_eq_true h
  have := congrArg List.length h
  rw [List.length_take] at this
  omega
theorem lng_none : ∀ (w : List Bool) (f : List Bool → Option Nat) (y : Option Nat), (∀ u, isPre u w = true → f u = none) → Tr.lng f y w = y
  | [], f, y, h => by show (f []).or y = y; rw [h [] (by simp [isPre])]; rfl
  | b :: w, f, y, h => by
    show Tr.lng (fun u => f (b :: u)) ((f []).or y) w = y
    rw [h [] (by simp [isPre])]
    exact lng_none w _ _ fun u hu => h (b :: u) (by rw [isPre_cons]; exact hu)
theorem lng_best : ∀ (w s : List Bool) (f : List Bool → Option Nat) (y : Option Nat) (x : Nat), isPre s w = true → f s = some x → (∀ u, isPre u w = true → f u ≠ none → u.length ≤ s.length) → Tr.lng f y w = some x
  | [], s, f, y, x, hp, hs, hm => by
    have : s = [] := by have := isPre_len hp; exact List.length_eq_zero_iff.mp (Nat.le_zero.mp this)
    subst this
    show (f []).or y = some x
    rw [hs]
    rfl
  | b :: w, [], f, y, x, hp, hs, hm => by
    show Tr.lng (fun u => f (b :: u)) ((f []).or y) w = some x
    rw [hs]
    refine lng_none w _ _ fun u hu => ?_
    cases e : f (b :: u) with
    | none => rfl
    | some z => have := hm (b :: u) (by rw [isPre_cons]; exact hu) (by rw [e]; simp); simp at this
  | b :: w, c :: s, f, y, x, hp, hs, hm => by
    have e : b = c := by
      have h := of_decide_eq_true hp
      simp at h
      exact h.1
    subst e
    rw [isPre_cons] at hp
    exact lng_best w s _ _ x hp hs fun u hu hn => by
      have := hm (b :: u) (by rw [isPre_cons]; exact hu) hn
      simpa using this
def longer (b : Option (List Bool)) (s : List Bool) : Bool := match b with
  | none => true
  | some u => decide (u.length < s.length)
def best1 (w : List Bool) (b : Option (List Bool)) (s : List Bool) : Option (List Bool) :=
  if (isPre s w && longer b s) = true then some s else b
def bestOf (w : List Bool) (L : List (List Bool)) : Option (List Bool) := L.foldl (best1 w) none
theorem bestOf_snoc (w : List Bool) (L : List (List Bool)) (s : List Bool) : bestOf w (L ++ [s]) = best1 w (bestOf w L) s := by
  unfold bestOf
  rw [List.foldl_append]
  rfl
def BestOk (w : List Bool) (L : List (List Bool)) (b : Option (List Bool)) : Prop := (∀ s, b = some s → s ∈ L ∧ isPre s w = true) ∧ ∀ u ∈ L, isPre u w = true → ∃ s, b = some s ∧ u.length ≤ s.length
theorem bestOk1 {w : List Bool} {L : List (List Bool)} {b : Option (List Bool)} (h : BestOk w L b) (s : List Bool) : BestOk w (L ++ [s]) (best1 w b s) := by
  unfold best1
  by_cases c : (isPre s w && longer b s) = true
  · rw [if_pos c]
    obtain ⟨c1, c2⟩ := Bool.and_eq_true_iff.mp c
    refine ⟨fun u e => ?_, fun u hu hp => ⟨s, rfl, ?_⟩⟩
    · cases e
      exact ⟨by simp, c1⟩
    · rcases List.mem_append.mp hu with hu | hu
      · obtain ⟨v, e, hv⟩ := h.2 u hu hp
        rw [e] at c2
        have := of_decide_eq_true c2
        omega
      · have : u = s := by simpa using hu
        rw [this]
        exact Nat.le_refl _
  · rw [if_neg c]
    refine ⟨fun u e => ⟨List.mem_append.mpr (.inl (h.1 u e).1), (h.1 u e).2⟩, fun u hu hp => ?_⟩
    rcases List.mem_append.mp hu with hu | hu
    · exact h.2 u hu hp
    · have e : u = s := by simpa using hu
      subst e
      rw [hp, Bool.true_and] at c
      cases b with
      | none => exact (c rfl).elim
      | some v => exact ⟨v, rfl, by
          have : ¬ v.length < u.length := fun z => c (decide_eq_true z)
          omega⟩
theorem bestOk (w : List Bool) : ∀ L : List (List Bool), BestOk w L (bestOf w L) := by
  intro L
  have : ∀ (M N : List (List Bool)) (b : Option (List Bool)), BestOk w N b → BestOk w (N ++ M) (M.foldl (best1 w) b) := by
    intro M
    induction M with
    | nil => intro N b h; rw [List.append_nil]; exact h
    | cons s M ih =>
      intro N b h
      have := ih (N ++ [s]) (best1 w b s) (bestOk1 h s)
      rw [List.append_assoc] at this
      exact this
  refine this L [] none ⟨fun s e => ?_, fun u hu => ?_⟩
  · cases e
  · cases hu
/-- the road that the rows tell -/
def roadOf (rows : RowL) (w : List Bool) : Option Nat := match bestOf w (rows.map (·.1)) with
  | none => none
  | some s => rget rows s
theorem roadOf_lng {rows : RowL} (w : List Bool) : roadOf rows w = Tr.lng (rget rows) none w := by
  unfold roadOf
  have h := bestOk w (rows.map (·.1))
  cases e : bestOf w (rows.map (·.1)) with
  | none =>
    rw [e] at h
    refine (lng_none w _ _ fun u hu => ?_).symm
    cases q : rget rows u with
    | none => rfl
    | some x =>
      have hm : u ∈ rows.map (·.1) := Classical.byContradiction fun n => by rw [rget_none.mpr n] at q; cases q
      obtain ⟨s, z, _⟩ := h.2 u hm hu
      cases z
  | some s =>
    rw [e] at h
    obtain ⟨h1, h2⟩ := h.1 s rfl
    cases q : rget rows s with
    | none => exact absurd h1 (rget_none.mp q)
    | some x =>
      show rget rows s = _
      rw [q]
      refine (lng_best w s _ _ x h2 q fun u hu hn => ?_).symm
      have hm : u ∈ rows.map (·.1) := Classical.byContradiction fun n => hn (rget_none.mpr n)
      obtain ⟨v, z, hv⟩ := h.2 u hm hu
      cases z
      exact hv
theorem Agr.road {rows : RowL} {t : Tr} (h : Agr rows t) (w : List Bool) : roadOf rows w = t.road none w := by
  rw [roadOf_lng, Tr.road_lng, funext h.get]
theorem startswith_tx (w s : List Bool) : Txt.startswith (tx w) (tx s) = isPre s w := by
  unfold Txt.startswith isPre
  rw [StrLaws.subAt_eq, List.drop_zero, tx_len, tx_len, tx_cps, tx_cps, ← List.map_take, Nat.zero_add]
  have hi : ∀ a b : List Bool, a.map bc = b.map bc → a = b := fun a b h => tx_inj (by unfold tx; rw [h])
  by_cases h : w.take s.length = s
  · have hl : s.length ≤ w.length := by
      have := congrArg List.length h
      rw [List.length_take] at this
      omega
    rw [decide_eq_true h, h, decide_eq_true hl]
    simp
  · rw [decide_eq_false h]
    have : ¬ ((w.take s.length).map bc == s.map bc) = true := fun z => h (hi _ _ (eq_of_beq z))
    rw [Bool.eq_false_iff.mpr this, Bool.and_false]
end Br

/-! bitroads.table: rows told, starts that fit -/
namespace Br
open PySem PySem.Spec PyProof.Rows L2
open C8 (Cal Met Mak cal0 met0 mak0 pe_c pe_mk pe_mt pe_mt0 pe_gc Def)
def rowR : List Bool × Nat → List V | (s, x) => [.str (tx s), .int (x : Nat)]
theorem cut_take (u : List Bool) (i : Nat) (h : i ≤ u.length) : cutS (tx u) none (some (i : Int)) = tx (u.take i) := by
  unfold cutS
  rw [tx_len, tx_cps, ← List.map_drop, ← List.map_take, HT.sIx_none, HT.sIx_nat, Nat.sub_zero, List.drop_zero, Nat.min_eq_left h]
  rfl
section
variable {P : Program} {w : World} {K : PySem.W.Frag} {mg : Str → Option Value} {base : Heap} {CK CT : Addr}
abbrev s_Table_rows : Stmt := inClass (top 24) 14
abbrev n_Table_rows : List Str := ["self", "found", "waiting", "start", "knot", "side"]
theorem sc_Table_rows : FnScope n_Table_rows ["self"] (C8.fnScope s_Table_rows) := ⟨rfl, rfl, rfl, by decide +kernel, rfl, by decide +kernel, by decide +kernel⟩
/-- what waits: beginnings and knots, the next one last -/
def waits (W : List (List Bool × AT)) : List (List V) := W.map fun q => [.str (tx q.1), q.2.val]
def waitR : List (List Bool × AT) → List (List Bool × Nat)
  | [] => []
  | (p, u) :: W => waitR W ++ u.tr.rowsAt p
theorem waitR_append (A B : List (List Bool × AT)) : waitR (A ++ B) = waitR B ++ waitR A := by
  induction A with
  | nil => show _ = _ ++ []; rw [List.append_nil]; rfl
  | cons q A ih => obtain ⟨p, u⟩ := q; show waitR (A ++ B) ++ _ = _ ++ (_ ++ _); rw [ih, List.append_assoc]
def waitN : List (List Bool × AT) → Nat
  | [] => 0
  | (_, u) :: W => u.tr.size + waitN W
theorem waitN_append (A B : List (List Bool × AT)) : waitN (A ++ B) = waitN A + waitN B := by
  induction A with
  | nil => show _ = 0 + _; rw [Nat.zero_add]; rfl
  | cons q A ih => obtain ⟨p, u⟩ := q; show u.tr.size + waitN (A ++ B) = u.tr.size + waitN A + waitN B; rw [ih]; omega
def spTrows (CK CT : Addr) : Sp := fun vs H Q _ => ∃ (T : Addr) (v : Nat) (t : AT), vs = [.ref T] ∧ Tab CK CT H T v t ∧ ∀ H' p, Same H H' → H p = none → LT H' p (t.tr.rows.map rowR) → Q (.ref p) H'
/-- rows, ahead of a turn -/
def RowsW (CK : Addr) (H : Hp) (T pf pw : Addr) (t : AT) : Nat → L2.St → Hp → Prop := fun m σ H' =>
  ∃ (acc : RowL) (W : List (List Bool × AT)) (v3 v4 v5 : Option V), m = waitN W ∧ σ = [some (.ref T), some (.ref pf), some (.ref pw), v3, v4, v5] ∧ Same H H' ∧ LT H' pf (acc.map rowR) ∧ LT H' pw (waits W) ∧
    (∀ q ∈ W, q.2 ≠ .nil ∧ q.2.ok CK H ∧ q.1.length + q.2.tr.size ≤ 20000) ∧ waitN W ≤ 20000 ∧ acc ++ waitR W = t.tr.rows
def gR (p : List Bool) : Option Nat → RowL
  | some x => [(p, x)]
  | none => []
theorem rowsAt_nd (p : List Bool) (g : Option Nat) (l r : Tr) : (Tr.nd g l r).rowsAt p = gR p g ++ (l.rowsAt (p ++ [false]) ++ r.rowsAt (p ++ [true])) := by cases g <;> rfl
def optW (p : List Bool) : AT → List (List Bool × AT)
  | .nil => []
  | u => [(p, u)]
theorem optW_R (p : List Bool) (u : AT) : waitR (optW p u) = u.tr.rowsAt p := by cases u <;> rfl
theorem optW_N (p : List Bool) (u : AT) : waitN (optW p u) = u.tr.size := by cases u <;> rfl
theorem optW_mem {p : List Bool} {u : AT} {q : List Bool × AT} (h : q ∈ optW p u) : q = (p, u) ∧ u ≠ .nil := by
  cases u with
  | nil => cases h
  | nd => exact ⟨List.mem_singleton.mp h, by intro z; cases z⟩
theorem waitN_len : ∀ {W : List (List Bool × AT)}, (∀ q ∈ W, q.2 ≠ .nil) → W.length ≤ waitN W
  | [], _ => Nat.le_refl _
  | (p, u) :: W, h => by
    have h1 := waitN_len (W := W) fun q hq => h q (List.mem_cons_of_mem _ hq)
    have h2 : u ≠ .nil := h (p, u) List.mem_cons_self
    have h3 : 1 ≤ u.tr.size := by
      cases u with
      | nil => exact (h2 rfl).elim
      | nd => show 1 ≤ 1 + _ + _; omega
    show W.length + 1 ≤ u.tr.size + waitN W
    omega
theorem c_Table_rows (T : Glob mg) (Tt : Ts K CT) (Kk : Ks K CK) (D : Mn K CT "rows" s_Table_rows ["self"] []) : Met P w K mg base 1 CT "rows" (spTrows CK CT) [] := by
  refine D.met sc_Table_rows (fun vs H Q E h => ?_) (fun qual f cdv A outer s0 H vs Q E hr h => ?_)
  · obtain ⟨a, v, t, rfl, _⟩ := h
    rfl
  · obtain ⟨a, v, t, rfl, ht, k⟩ := h
    refine ⟨_, (pss_cons (ps_set (i := 1) sc_Table_rows.nd rfl (by first | exact Or.inl rfl | exact Or.inr rfl) (pe_lst pa_nil))
      (pss_cons (ps_set (i := 2) sc_Table_rows.nd rfl (by first | exact Or.inl rfl | exact Or.inr rfl) (pe_lst (pa_cons (pe_tup (pa_cons pe_str (pa_cons (pe_fld (pv 0) rfl) pa_nil))) pa_nil)))
      (pss_cons (ps_while PassesOwn.never (pt_cmpR (op_neNil hr.units) (pv 2) (pe_lst pa_nil) (nomark _))
      (pss_cons (ps_asg (pe_bm0 PySem.F.plainAttrs_list PySem.F.slot_list_pop PySem.F.type_list_pop mt_pop (pv 2)) (pg_tup rfl (pgs_cons (pg_name (i := 3) sc_Table_rows.nd rfl (by first | exact Or.inl rfl | exact Or.inr rfl)) (pgs_cons (pg_name (i := 4) sc_Table_rows.nd rfl (by first | exact Or.inl rfl | exact Or.inr rfl)) pgs_nil))))
      (C8.pss_cut (ps_if (pt_cmpR op_notN (pe_fld (pv 4) rfl) pe_non (nomark _))
      (pss_one (ps_expr (pe_bm PySem.F.plainAttrs_list PySem.F.slot_list_append PySem.F.type_list_append mt_append (pv 1) (pa_cons (pe_tup (pa_cons (pv 3) (pa_cons (pe_fld (pv 4) rfl) pa_nil))) pa_nil))))
      pss_nil)
      (pss_one (ps_for PassesOwn.never rfl (pi_tup (pe_tup (pa_cons pe_int (pa_cons pe_int pa_nil)))) (pg_name (i := 5) sc_Table_rows.nd rfl (by first | exact Or.inl rfl | exact Or.inr rfl))
      (pss_one (ps_if (pt_cmpR op_notN (pe_ix ix_list (pe_fld (pv 4) rfl) (pv 5) (fun _ _ => rfl)) pe_non (nomark _))
      (pss_one (ps_expr (pe_bm PySem.F.plainAttrs_list PySem.F.slot_list_append PySem.F.type_list_append mt_append (pv 2) (pa_cons (pe_tup (pa_cons (pe_op op_add_str (pv 3) (pe_ix ix_str (pe_gc rfl T.g_BITS) (pv 5) (fun _ _ => rfl))) (pa_cons (pe_ix ix_list (pe_fld (pv 4) rfl) (pv 5) (fun _ _ => rfl)) pa_nil))) pa_nil))))
      pss_nil)))))))
      (pss_one (ps_ret (pv 1)))))), ?_⟩
    obtain ⟨dx, ho⟩ := ht.obj
    refine ⟨(by show 0 ≤ sizeLine; decide), fun pf hpf => ?_⟩
    have s1 := Same_upd (Same.refl H) hpf (o := .lst [])
    refine ⟨_, rfl, a, CT, dx, _, _, rfl, s1 _ _ ho, Tt.cl, Tt.ntop, rfl, (by show 2 ≤ sizeLine; decide), fun q0 hq0 => ?_⟩
    refine ⟨(by show 1 ≤ sizeLine; decide), fun pw hpw => ?_⟩
    have s2 := Same_upd s1 hq0 (o := .tup [.str "", t.val])
    have s3 := Same_upd s2 hpw (o := .lst [.ref q0])
    have hpw0 : H pw = none := s2.free hpw
    have nfq : pf ≠ q0 := ne_of_none (upd_same (H := H) (o := .lst [])) hq0
    have nfw : pf ≠ pw := ne_of_none ((upd_ne nfq).trans (upd_same (H := H) (o := .lst []))) hpw
    have nqw : q0 ≠ pw := ne_of_none upd_same hpw
    refine ⟨RowsW CK H a pf pw t, ⟨_, [], [([], t)], none, none, none, rfl, rfl, s3, ⟨[], (upd_ne nfw).trans ((upd_ne nfq).trans upd_same), rfl, fun i row h => (by simp at h)⟩, ⟨_, upd_same, rfl, fun i row h => ?_⟩, ?_, ?_, rfl⟩, ?_⟩
    · cases i with
      | zero =>
        cases h
        exact ⟨q0, rfl, by rw [upd_ne nqw, upd_same]; show _ = some (HO.tup [V.str (tx []), t.val]); rw [tx_nil]⟩
      | succ i => cases h
    · intro q hq
      rw [List.mem_singleton.mp hq]
      exact ⟨ht.ne, ht.ok, by have := ht.sz; show 0 + t.tr.size ≤ _; omega⟩
    · have := ht.sz; show t.tr.size + 0 ≤ _; omega
    rintro m σ H1 ⟨acc, W, v3, v4, v5, rfl, rfl, s4, hF, hW, hok, hN, hR⟩
    have lenW := waitN_len fun q hq => (hok q hq).1
    obtain ⟨vw, ew1, ew2, ew3⟩ := id hW
    refine ⟨_, rfl, (by show 0 ≤ sizeLine; decide), fun e he => ?_⟩
    have nwe : pw ≠ e := ne_of_none ew1 he
    have s5 : Same H1 (upd H1 e (.lst [])) := Same_upd (Same.refl H1) he
    refine ⟨pw, e, vw, rfl, rfl, s5 _ _ ew1, upd_same, _, rfl, ?_⟩
    have hF := hF.same s5
    have hW := hW.same s5
    have s4 := s4.trans s5
    generalize (upd H1 e (.lst [])) = H2 at hF hW s4 ⊢
    rcases List.eq_nil_or_concat W with rfl | ⟨M, ⟨p, u⟩, rfl⟩
    · have : vw = [] := by
        cases vw with
        | nil => rfl
        | cons => cases ew2
      rw [this]
      refine iteF ?_
      refine ⟨_, rfl, k H2 pf s4 hpf ?_⟩
      rw [show waitR [] = [] from rfl, List.append_nil] at hR
      rw [← hR]
      exact hF
    · rw [List.concat_eq_append] at *
      have hne : (!vw.isEmpty) = true := by
        cases vw with
        | nil => rw [waits, List.length_map, List.length_append] at ew2; simp at ew2
        | cons => rfl
      rw [hne]
      refine iteT ?_
      obtain ⟨un, uo, ul⟩ := hok (p, u) (by simp)
      have hokM : ∀ q ∈ M, q.2 ≠ .nil ∧ q.2.ok CK H ∧ q.1.length + q.2.tr.size ≤ 20000 := fun q hq => hok q (by simp [hq])
      cases u with
      | nil => exact (un rfl).elim
      | nd b db ka g l r =>
      obtain ⟨hb, hka, hl, hr'⟩ := uo
      have usz : (AT.nd b db ka g l r).tr.size = 1 + l.tr.size + r.tr.size := rfl
      rw [usz] at ul
      have ul : p.length + (1 + l.tr.size + r.tr.size) ≤ 20000 := ul
      have hNM : waitN M + (1 + l.tr.size + r.tr.size) ≤ 20000 := by
        rw [waitN_append] at hN
        have : waitN [(p, AT.nd b db ka g l r)] = 1 + l.tr.size + r.tr.size + 0 := rfl
        omega
      unfold waits at hW
      rw [List.map_append] at hW
      obtain ⟨vs, c, f1, f2, f3, f4⟩ := hW.last
      refine ⟨fun σ' H' => ∃ m', m' < _ ∧ RowsW CK H a pf pw t m' σ' H', fun _ _ h => h, ?_⟩
      have npw : pw ≠ pf := nfw.symm
      refine ⟨_, rfl, .inl ⟨rfl, _, SqL.of f1⟩, pw, _, V.ref c, rfl, rfl, f1, by simp, ?_⟩
      rw [List.dropLast_concat]
      have ncw : c ≠ pw := ne_of f2 f1 (by intro z; cases z)
      have s6 : Same H (upd H2 pw (.lst vs)) := Same_mut s4 hpw0
      have hM : LT (upd H2 pw (.lst vs)) pw (waits M) := ⟨vs, upd_same, by rw [f3]; rfl, fun i row e => by
        obtain ⟨c', g1, g2⟩ := f4 i row e
        exact ⟨c', g1, (upd_ne (ne_of g2 f1 (by intro z; cases z))).trans g2⟩⟩
      have hF : LT (upd H2 pw (.lst vs)) pf (acc.map rowR) := hF.modd (S := [pw]) (Mod.refl.upd (.inl (by simp)) fun xs z => by rw [f1] at z; cases z) (by simp [nfw])
      refine ⟨c, _, rfl, SqT.of ((upd_ne ncw).trans f2), rfl, _, _, rfl, _, _, rfl, rfl, ?_⟩
      generalize (upd H2 pw (.lst vs)) = H3 at s6 hM hF ⊢
      refine ⟨fun σ' H' => σ' = [some (.ref a), some (.ref pf), some (.ref pw), some (.str (tx p)), some (.ref b), v5] ∧ Same H H' ∧ LT H' pf ((acc ++ gR p g).map rowR) ∧ LT H' pw (waits M), ?_, ?_⟩
      · refine ⟨_, rfl, b, CK, db, _, _, rfl, s6 _ _ hb, Kk.cl, Kk.ngoal, rfl, rfl, _, rfl, ?_⟩
        rw [isSome_ov]
        cases g with
        | none => exact iteF ⟨rfl, s6, by show LT _ _ ((acc ++ []).map rowR); rw [List.append_nil]; exact hF, hM⟩
        | some x =>
          refine iteT ?_
          obtain ⟨va, a1, a2, a3⟩ := hF
          refine ⟨_, rfl, .inl ⟨rfl, _, SqL.of a1⟩, _, rfl, _, rfl, b, CK, db, _, _, rfl, s6 _ _ hb, Kk.cl, Kk.ngoal, rfl, (by show 2 ≤ sizeLine; decide), fun q hq => ?_⟩
          have nfq2 : pf ≠ q := ne_of_none a1 hq
          have hacc : acc.length ≤ 20000 := by
            have e := congrArg List.length hR
            rw [List.length_append, Tr.rows, Tr.len_rowsAt] at e
            have h1 := Tr.count_le t.tr
            have h2 := ht.sz
            omega
          refine ⟨pf, va, _, rfl, rfl, (upd_ne nfq2).trans a1, ?_, rfl, Same_mut (Same_upd s6 hq) hpf, ?_, ?_⟩
          · rw [a2, List.length_map]
            exact Nat.lt_of_le_of_lt hacc (by decide)
          · rw [List.map_append]
            refine LT.snoc (row := rowR (p, x)) ((upd_ne nfq2).trans a1) a2 (fun i row hi => ?_) upd_same
            obtain ⟨c', h4, h5⟩ := a3 i row hi
            exact ⟨c', h4, (upd_ne (ne_of_none h5 hq)).trans h5⟩
          · have hM' := hM.same (Same_upd (Same.refl H3) hq (o := .tup [.str (tx p), ov (some x)]))
            exact hM'.modd (S := [pf]) (Mod.refl.upd (.inl (by simp)) fun xs z => by rw [upd_ne nfq2, a1] at z; cases z) (by simp [npw])
      · rintro σ' H4 ⟨rfl, s7, hF4, hM4⟩
        refine ⟨(by show 2 ≤ sizeLine; decide), fun t2 ht2 => ?_⟩
        have s8 := Same_upd s7 ht2 (o := .tup [.int 1, .int 0])
        have s48 : Same H4 (upd H4 t2 (.tup [.int 1, .int 0])) := Same_upd (Same.refl H4) ht2
        have et2 : (upd H4 t2 (.tup [.int 1, .int 0])) t2 = some (.tup [.int 1, .int 0]) := upd_same
        have hF4 := hF4.same s48
        have hM4 := hM4.same s48
        refine ⟨t2, rfl, ⟨_, SqT.of upd_same⟩, ?_⟩
        generalize (upd H4 t2 (.tup [.int 1, .int 0])) = H5 at s8 et2 hF4 hM4 ⊢
        let F : Nat → List (List Bool × AT) := fun j => match j with
          | 0 => M
          | 1 => M ++ optW (p ++ [true]) r
          | _ => (M ++ optW (p ++ [true]) r) ++ optW (p ++ [false]) l
        have hFN : ∀ j, waitN (F j) ≤ waitN M + (l.tr.size + r.tr.size) := fun j => by
          match j with
          | 0 => show waitN M ≤ _; omega
          | 1 => show waitN (M ++ optW (p ++ [true]) r) ≤ _; rw [waitN_append, optW_N]; omega
          | j + 2 => show waitN ((M ++ optW (p ++ [true]) r) ++ optW (p ++ [false]) l) ≤ _; rw [waitN_append, waitN_append, optW_N, optW_N]; omega
        have hone : ∀ (y : Bool) (u : AT), u = AT.kid y l r → ∀ q ∈ optW (p ++ [y]) u, q.2 ≠ .nil ∧ q.2.ok CK H ∧ q.1.length + q.2.tr.size ≤ 20000 := fun y u e q hq => by
          obtain ⟨e1, e2⟩ := optW_mem hq
          rw [e1]
          refine ⟨e2, ?_, ?_⟩
          · rw [e]; exact AT.kid_ok hl hr'
          · show (p ++ [y]).length + u.tr.size ≤ 20000
            rw [List.length_append, List.length_singleton, e]
            cases y
            · show p.length + 1 + l.tr.size ≤ _; omega
            · show p.length + 1 + r.tr.size ≤ _; omega
        have hFok : ∀ j, ∀ q ∈ F j, q.2 ≠ .nil ∧ q.2.ok CK H ∧ q.1.length + q.2.tr.size ≤ 20000 := fun j q hq => by
          match j, hq with
          | 0, hq => exact hokM q hq
          | 1, hq =>
            rcases List.mem_append.mp hq with hq | hq
            · exact hokM q hq
            · exact hone true r rfl q hq
          | j + 2, hq =>
            rcases List.mem_append.mp hq with hq | hq
            · rcases List.mem_append.mp hq with hq | hq
              · exact hokM q hq
              · exact hone true r rfl q hq
            · exact hone false l rfl q hq
        refine for_it (walk_tup (K := K) (a := t2) (xs := [.int 1, .int 0])) (fun j σ H' => ∃ v5, σ = [some (.ref a), some (.ref pf), some (.ref pw), some (.str (tx p)), some (.ref b), v5] ∧ Same H H' ∧ H' t2 = some (.tup [.int 1, .int 0]) ∧ LT H' pf ((acc ++ gR p g).map rowR) ∧ LT H' pw (waits (F j)))
          ⟨_, rfl, s8, et2, hF4, hM4⟩ (fun j σ H' _ ⟨_, _, _, h, _⟩ => SqT.of h) ?_ ?_
        · rintro j x σ H6 H7 hj ⟨v5, rfl, s9, et, hF9, hW9⟩ ⟨rfl, hx⟩
          obtain ⟨y, ej, rfl⟩ : ∃ y : Bool, F (j + 1) = F j ++ optW (p ++ [y]) (AT.kid y l r) ∧ x = .int ((if y = true then 1 else 0 : Nat) : Int) := by
            match j, hx with
            | 0, hx => exact ⟨true, rfl, (Option.some.inj hx).symm⟩
            | 1, hx => exact ⟨false, rfl, (Option.some.inj hx).symm⟩
          refine ⟨_, rfl, b, CK, db, _, _, rfl, s9 _ _ hb, Kk.cl, Kk.nkids, rfl, _, rfl, ka, _, _, _, rfl, rfl, SqL.of (s9 _ _ hka), atI_nat (AT.kid_val y l r), rfl, _, rfl, ?_⟩
          rw [AT.val_tr]
          have hlen := waitN_len fun q hq => (hFok j q hq).1
          have hN := hFN j
          cases ek : AT.kid y l r with
          | nil =>
            rw [ek] at ej
            exact iteF ⟨_, rfl, s9, et, hF9, by rw [ej]; show LT _ _ (waits (F j ++ [])); rw [List.append_nil]; exact hW9⟩
          | nd b2 db2 ka2 g2 l2 r2 =>
            rw [ek] at ej
            refine iteT ?_
            obtain ⟨vw, w1, w2, w3⟩ := hW9
            refine ⟨_, rfl, .inl ⟨rfl, _, SqL.of w1⟩, _, rfl, _, rfl, _, _, bc y, rfl, rfl, (by rw [tx_len]; decide), ?_, _, _, rfl, rfl, ?_, ?_⟩
            · rw [tx_cps]
              refine atI_nat ?_
              cases y <;> rfl
            · rw [tx_len]
              exact Nat.le_trans (m := 30000) (Nat.add_le_add (by omega : p.length ≤ 29999) (Nat.le_refl 1)) (by decide)
            · rw [tx_one, tx_append]
              refine ⟨_, rfl, b, CK, db, _, _, rfl, s9 _ _ hb, Kk.cl, Kk.nkids, rfl, _, rfl, ka, _, _, _, rfl, rfl, SqL.of (s9 _ _ hka), atI_nat (AT.kid_val y l r), (by show 2 ≤ sizeLine; decide), fun q hq => ?_⟩
              have nwq : pw ≠ q := ne_of_none w1 hq
              rw [ek]
              refine ⟨pw, vw, _, rfl, rfl, (upd_ne nwq).trans w1, ?_, _, rfl, Same_mut (Same_upd s9 hq) hpw0, ?_, ?_, ?_⟩
              · rw [w2, waits, List.length_map]
                exact Nat.lt_of_le_of_lt (by omega : (F j).length ≤ 20000) (by decide)
              · have sq : Same H7 (upd H7 q (.tup [.str (tx (p ++ [y])), .ref b2])) := Same_upd (Same.refl H7) hq
                show (upd (upd H7 q (.tup [.str (tx (p ++ [y])), .ref b2])) pw (.lst (vw ++ [.ref q]))) t2 = _
                rw [upd_ne (ne_of (sq _ _ et) (sq _ _ w1) (by intro z; cases z))]
                exact sq _ _ et
              · have h1 := hF9.same (Same_upd (Same.refl H7) hq (o := .tup [.str (tx (p ++ [y])), .ref b2]))
                exact h1.modd (S := [pw]) (Mod.refl.upd (.inl (by simp)) fun xs z => by rw [upd_ne nwq, w1] at z; cases z) (by simp [nfw])
              · rw [ej]
                unfold waits
                rw [List.map_append]
                refine LT.snoc (row := [.str (tx (p ++ [y])), .ref b2]) ((upd_ne nwq).trans w1) w2 (fun i row hi => ?_) upd_same
                obtain ⟨c', h4, h5⟩ := w3 i row hi
                exact ⟨c', h4, (upd_ne (ne_of_none h5 hq)).trans h5⟩
        · rintro σ H6 ⟨v5, rfl, s9, et, hF9, hW9⟩
          refine ⟨waitN (F 2), ?_, _, F 2, _, _, _, rfl, rfl, s9, hF9, hW9, hFok 2, ?_, ?_⟩
          · have := hFN 2
            rw [waitN_append]
            show _ < waitN M + (1 + l.tr.size + r.tr.size + 0)
            omega
          · have := hFN 2
            omega
          · rw [← hR, waitR_append]
            show (acc ++ _) ++ waitR ((M ++ optW (p ++ [true]) r) ++ optW (p ++ [false]) l) = acc ++ (([] ++ (AT.nd b db ka g l r).tr.rowsAt p) ++ waitR M)
            rw [waitR_append, waitR_append, optW_R, optW_R, List.nil_append]
            rw [show (AT.nd b db ka g l r).tr = .nd g l.tr r.tr from rfl, rowsAt_nd]
            simp only [List.append_assoc]
end
end Br

/-! A dict whose keys are pairs of a text and a number or None, its values numbers. -/
namespace Br
open PySem PySem.Spec PyProof.Rows L2
def mKey (z : Str) (c : Option Int) : List (Option Key) := [some (.inr z), c.map .inl]
def mV (c : Option Int) : V := match c with
  | none => .non
  | some i => .int i
theorem mKey_inj {z z' : Str} {c c' : Option Int} (h : mKey z c = mKey z' c') : z = z' ∧ c = c' := by
  unfold mKey at h
  injection h with h1 h2
  injection h2 with h2 _
  refine ⟨by injection h1 with h1; injection h1, ?_⟩
  cases c with
  | none => cases c' with
    | none => rfl
    | some i => cases h2
  | some i => cases c' with
    | none => cases h2
    | some j =>
      have h2 : (some (Sum.inl i) : Option Key) = some (Sum.inl j) := h2
      injection h2 with h2
      injection h2 with h2
      rw [h2]
abbrev MX := List (List (Option Key) × Addr × Value)
/-- the dict at a -/
def MemO (P : Program) (w : World) (a : Addr) (xs : MX) : HO := .ext fun h => (a == sysModules) = false ∧ xs.length ≤ sizeLine ∧ ∃ o es ep, h.get? a = some o ∧ o.ExactDict ∧ o.data = .dict es ep ∧ es.toList = xs.map (entryOfKey (tupleKind (noneKind P w))) ∧ (xs.map (·.1)).Nodup
theorem memO_ne {P : Program} {w : World} {a : Addr} {xs : MX} {ys : List V} : MemO P w a xs ≠ .tup ys := fun z => by
  unfold MemO at z
  cases z
def MKeys (H : Hp) (xs : MX) : Prop := ∀ x ∈ xs, ∃ z c, x.1 = mKey z c ∧ H x.2.1 = some (.tup [.str z, mV c])
section
variable {P : Program} {w : World} {H : Hp} {h : Heap} {a b : Addr} {xs : MX} {z : Str} {c : Option Int}
theorem mKey_is (ok : HOk P w H h) (e : H b = some (.tup [.str z, mV c])) : (tupleKind (noneKind P w)).is h (mKey z c) b := by
  obtain ⟨_, its, r, o, h1, h2, n, h3⟩ := (show ObjOk P w H h b (.tup [.str z, mV c]) from ok b _ e)
  refine ⟨o, its.toArray, n, h1, h2, h3, ?_⟩
  cases r with
  | cons r1 r2 =>
    cases r2 with
    | cons r2 r3 =>
      cases r3
      obtain ⟨t, rfl⟩ := (show ∃ t, _ = Value.str z t from r1)
      refine .cons (mixKind_str P w z t) (.cons ?_ .nil)
      cases c with
      | none =>
        obtain rfl := (show _ = Value.none from r2)
        rfl
      | some i =>
        obtain ⟨t2, rfl⟩ := (show ∃ t, _ = Value.int i t from r2)
        exact mixKind_int P w i t2
theorem mem_at (ok : HOk P w H h) (e : H a = some (MemO P w a xs)) (k : MKeys H xs) : (a == sysModules) = false ∧ xs.length ≤ sizeLine ∧ h.DictOfH (tupleKind (noneKind P w)) a xs := by
  obtain ⟨⟨h1, h2, o, es, ep, h3, h4, h5, h6, h7⟩, _, _⟩ := ok a _ e
  refine ⟨h1, h2, o, es, ep, h3, h4, h5, h6, fun x hx => ?_, h7⟩
  obtain ⟨z, c, e1, e2⟩ := k x hx
  rw [e1]
  exact mKey_is ok e2
theorem memO_ok (h1 : (a == sysModules) = false) (h2 : xs.length ≤ sizeLine) {o : Obj} {es : Array DictEntry} {ep : Nat} (h3 : h.get? a = some o) (h4 : o.ExactDict) (h5 : o.data = .dict es ep) (h6 : es.toList = xs.map (entryOfKey (tupleKind (noneKind P w)))) (h7 : (xs.map (·.1)).Nodup) : ObjOk P w H h a (MemO P w a xs) :=
  ⟨⟨h1, h2, o, es, ep, h3, h4, h5, h6, h7⟩, ⟨o, h3⟩, fun g1 g2 ⟨q1, q2, o', es', ep', q3, q4, q5, q6, q7⟩ st => ⟨q1, q2, o', es', ep', st _ q3, q4, q5, q6, q7⟩⟩
end
section
variable {X : Cx} {o i e value : Expr} {pos pos' : Pos} {td ty tv : TE}
/-- {} -/
def tMNew (P : Program) (w : World) : TE := fun _ H Q => ∀ p, H p = none → Q (.ref p) (upd H p (MemO P w p []))
theorem pe_mnew : PE X (.Dict [] [] pos) (tMNew X.prog X.w) := by
  refine ⟨fun pins s σ H Q I h => ?_⟩
  refine wpAny_Dict_empty ⟨.ref s.heap.objs.size, _, I.laid (a := s.heap.objs.size) (o := MemO X.prog X.w s.heap.objs.size []) (t' := s.toks) (fun _ _ q => Heap.get?_push_of_some _ q) (Nat.le_refl _) ?_, rfl, h _ (I.hok.fresh (Nat.le_refl _))⟩
  exact memO_ok (beq_eq_false_iff_ne.mpr (Ne.symm (Nat.ne_of_lt I.big))) (Nat.zero_le _) (Heap.get?_push_size _ rfl) ⟨rfl, rfl, rfl⟩ (es := #[]) (ep := 0) rfl rfl List.nodup_nil
/-- y in d -/
def tMIn (P : Program) (w : World) (ty td : TE) : TE := fun σ H Q => ty σ H fun y H1 => td σ H1 fun x H2 => ∃ (a b : Addr) (xs : MX) (z : Str) (c : Option Int), x = .ref a ∧ y = .ref b ∧ H2 a = some (MemO P w a xs) ∧ MKeys H2 xs ∧ H2 b = some (.tup [.str z, mV c]) ∧ Q (.bl (atKey xs (mKey z c)).isSome) H2
theorem pc_min (hu : X.A.units + 1 < cLine) (hi : PE X i ty) (ho : PE X o td) : PC X .In i o (tMIn X.prog X.w ty td) := by
  refine ⟨fun pins s σ H Q I h => ?_⟩
  refine thn (hi.run pins s σ H _ I h) fun iv s1 hh => ?_
  obtain ⟨y, H1, I1, ry, q1⟩ := hh
  refine thn (ho.run pins s1 σ H1 _ I1 q1) fun u s2 hh => ?_
  obtain ⟨x, H2, I2, rx, a, b, xs, z, c, ex, ey, hm, hk, hb, q2⟩ := hh
  subst ex ey
  obtain rfl : u = Value.ref a := rx
  obtain rfl : iv = Value.ref b := ry
  obtain ⟨h1, h2, h3⟩ := mem_at I2.hok hm hk
  exact wpAny_in_heap (tupleKind_room_in1 hu) (mKey_is I2.hok hb) h1 h3 ⟨.bl _, H2, I2.tok _, rfl, q2⟩
/-- d[y], there -/
def tMGet (P : Program) (w : World) (td ty : TE) : TE := fun σ H Q => td σ H fun x H1 => ty σ H1 fun y H2 => ∃ (a b : Addr) (xs : MX) (z : Str) (c : Option Int) (p : Addr × Value) (n : Int), x = .ref a ∧ y = .ref b ∧ H2 a = some (MemO P w a xs) ∧ MKeys H2 xs ∧ H2 b = some (.tup [.str z, mV c]) ∧ atKey xs (mKey z c) = some p ∧ RelV (.int n) p.2 ∧ Q (.int n) H2
theorem pe_mget (hu : X.A.units + 1 < cLine) (ho : PE X o td) (hi : PE X i ty) (hs : NoSl i) : PE X (.Subscript o i pos) (tMGet X.prog X.w td ty) := by
  refine ⟨fun pins s σ H Q I h => ?_⟩
  refine subD_of PySem.F.slot_dict_getitem.lookup hs (thn (ho.run pins s σ H _ I h) fun u s1 hh => ?_)
  obtain ⟨x, H1, I1, rx, q1⟩ := hh
  refine thn (hi.run pins s1 σ H1 _ I1 q1) fun iv s2 hh => ?_
  obtain ⟨y, H2, I2, ry, a, b, xs, z, c, p, n, ex, ey, hm, hk, hb, hp, hn, q2⟩ := hh
  subst ex ey
  obtain rfl : u = Value.ref a := rx
  obtain rfl : iv = Value.ref b := ry
  obtain ⟨h1, h2, h3⟩ := mem_at I2.hok hm hk
  exact ⟨h3.typeIs, wpAny_getItem_heap (tupleKind_room_in1 hu) (mKey_is I2.hok hb) h3 hp ⟨.int n, H2, I2.tok _, hn, q2⟩⟩
/-- d[y] = n -/
def sMPut (P : Program) (w : World) (td ty tv : TE) : TS := fun D σ H => tv σ H fun v H1 => td σ H1 fun x H2 => ty σ H2 fun y H3 => ∃ (a b : Addr) (xs : MX) (z : Str) (c : Option Int) (n : Int), v = .int n ∧ x = .ref a ∧ y = .ref b ∧ H3 a = some (MemO P w a xs) ∧ MKeys H3 xs ∧ H3 b = some (.tup [.str z, mV c]) ∧ xs.length < sizeLine ∧
  ∀ xs', (xs'.map (·.1)).Nodup → (∀ x ∈ xs', x ∈ xs ∨ (x.1 = mKey z c ∧ H3 x.2.1 = some (.tup [.str z, mV c]) ∧ RelV (.int n) x.2.2)) → D.nx σ (upd H3 a (MemO P w a xs'))
theorem ps_mput (hu : X.A.units + 1 < cLine) (ho : PE X o td) (hi : PE X i ty) (hv : PE X value tv) (hs : swapsWith value (some (.Subscript o i pos')) pos.line X.env = pure false) :
    PS X (.Assign [.Subscript o i pos'] value pos) (sMPut X.prog X.w td ty tv) := by
  refine ⟨fun pins s σ H D I h => ?_⟩
  refine wpAny_Assign_Subscript (thn (hv.run pins s σ H _ I h) fun r s1 hh => ?_) hs
  obtain ⟨v, H1, I1, rv, q1⟩ := hh
  refine thn (ho.run pins s1 σ H1 _ I1 q1) fun u s2 hh => ?_
  obtain ⟨x, H2, I2, rx, q2⟩ := hh
  refine thn (hi.run pins s2 σ H2 _ I2 q2) fun iv s3 hh => ?_
  obtain ⟨y, H3, I3, ry, a, b, xs, z, c, n, ev, ex, ey, hm, hk, hb, hl, q3⟩ := hh
  subst ev ex ey
  obtain rfl : u = Value.ref a := rx
  obtain rfl : iv = Value.ref b := ry
  obtain ⟨h1, h2, h3⟩ := mem_at I3.hok hm hk
  refine wpAny_setItem_heap (hsz := h2) (tupleKind_room_in1 hu) (mKey_is I3.hok hb) h3 fun h' dd' hs => ?_
  obtain ⟨o, es, ep, g1, g2, g3, g4, g5, g6⟩ := dd'
  have hmem : ∀ x ∈ storedH xs (mKey z c) b r, x ∈ xs ∨ (x.1 = mKey z c ∧ H3 x.2.1 = some (.tup [.str z, mV c]) ∧ RelV (.int n) x.2.2) := fun x hx => by
    unfold storedH at hx
    split at hx
    · obtain ⟨y, hy, rfl⟩ := List.mem_map.mp hx
      unfold putAt
      split
      · rename_i e
        obtain ⟨z', c', e1, e2⟩ := hk y hy
        obtain ⟨rfl, rfl⟩ := mKey_inj (e.symm.trans e1)
        exact .inr ⟨e, e2, rv⟩
      · exact .inl hy
    · rcases List.mem_append.mp hx with hx | hx
      · exact .inl hx
      · rw [List.mem_singleton.mp hx]
        exact .inr ⟨rfl, hb, rv⟩
  have hlen : (storedH xs (mKey z c) b r).length ≤ sizeLine := by
    unfold storedH
    split
    · rw [List.length_map]; exact h2
    · rw [List.length_append]; exact hl
  refine ⟨σ, _, ?_, q3 _ g6 hmem⟩
  exact d_write I3 (by rw [hm]; exact True.intro) hs ⟨o, g1⟩ (memO_ok h1 hlen g1 g2 g3 g4 g6)
end
end Br

/-! Tables and the laws' own rows of them, side by side in one heap. -/
namespace Br
open PySem PySem.Spec PyProof.Rows L2
/-- another value at one index -/
def at1 {ι α : Type} [DecidableEq ι] (f : ι → α) (i : ι) (x : α) : ι → α := fun j => if j = i then x else f j
theorem at1_same {ι α : Type} [DecidableEq ι] (f : ι → α) (i : ι) (x : α) : at1 f i x i = x := if_pos rfl
theorem at1_ne {ι α : Type} [DecidableEq ι] (f : ι → α) {i j : ι} (x : α) (h : j ≠ i) : at1 f i x j = f j := if_neg h
/-- n deeds ago there was nothing; T: the tables, d: the dicts of rows; L: what stands as it is -/
structure Wd {ι : Type} [DecidableEq ι] (CK CT : Addr) (v : Nat) (T d : ι → Addr) (L : List (Addr × HO)) (H : Hp) (n : Nat) (t : ι → AT) (rows : ι → RowL) : Prop where
  tab : ∀ i, Tab CK CT H (T i) v (t i)
  own : ∀ i, H (d i) = some (.dK (RK (rows i)))
  agr : ∀ i, Agr (rows i) (t i).tr
  len : ∀ i, ∀ r ∈ rows i, r.1.length ≤ v
  siz : ∀ i, (t i).tr.size ≤ 1 + 66 * n
  fix : ∀ p ∈ L, H p.1 = some p.2
  fixd : ∀ p ∈ L, ∀ i, p.1 ≠ d i
  fixo : ∀ p ∈ L, ∀ i, p.1 ∉ T i :: (t i).fp
  dout : ∀ i j, d i ∉ T j :: (t j).fp
  dis : ∀ i j, i ≠ j → ∀ x ∈ T i :: (t i).fp, x ∉ T j :: (t j).fp
  dne : ∀ i j, i ≠ j → d i ≠ d j
namespace Wd
variable {ι : Type} [DecidableEq ι] {CK CT : Addr} {v n : Nat} {T d : ι → Addr} {L : List (Addr × HO)} {H H1 H2 : Hp} {t : ι → AT} {rows : ι → RowL}
theorem same (h : Wd CK CT v T d L H n t rows) (s : Same H H1) : Wd CK CT v T d L H1 n t rows :=
  ⟨fun i => (h.tab i).same s, fun i => s _ _ (h.own i), h.agr, h.len, h.siz, fun p hp => s _ _ (h.fix p hp), h.fixd, h.fixo, h.dout, h.dis, h.dne⟩
theorem mem_len (h : Wd CK CT v T d L H n t rows) (i : ι) {s : List Bool} (e : s ∈ (rows i).map (·.1)) : s.length ≤ v := by
  obtain ⟨r, hr, rfl⟩ := List.mem_map.mp e
  exact h.len i r hr
/-- rows and table of i become others -/
theorem step (h : Wd CK CT v T d L H n t rows) (i : ι) {rs : RowL} {t' : AT} (m : Mod (T i :: (t i).fp) (upd H (d i) (.dK (RK rs))) H2) (tb : Tab CK CT H2 (T i) v t') (fr : ∀ a ∈ t'.fp, a ∈ (t i).fp ∨ H a = none)
    (ag : Agr rs t'.tr) (ln : ∀ r ∈ rs, r.1.length ≤ v) (sz : t'.tr.size ≤ 1 + 66 * (n + 1)) : Wd CK CT v T d L H2 (n + 1) (at1 t i t') (at1 rows i rs) := by
  have fr2 : ∀ a ∈ T i :: t'.fp, a ∈ T i :: (t i).fp ∨ H a = none := fun a ha => by
    rcases List.mem_cons.mp ha with rfl | ha
    · exact .inl List.mem_cons_self
    · exact (fr a ha).imp (fun z => List.mem_cons_of_mem _ z) id
  have dno : ∀ j, ∀ x ∈ T j :: (t j).fp, x ≠ d i := fun j x hx e => h.dout i j (e ▸ hx)
  have stay : ∀ a o, H a = some o → a ≠ d i → a ∉ T i :: (t i).fp → H2 a = some o := fun a o e ne no => m a o ((upd_ne ne).trans e) (.inl no)
  refine ⟨fun j => ?_, fun j => ?_, fun j => ?_, fun j => ?_, fun j => ?_, fun p hp => stay _ _ (h.fix p hp) (h.fixd p hp i) (h.fixo p hp i), h.fixd, fun p hp j => ?_, fun j k => ?_, fun j k hjk => ?_, h.dne⟩
  · by_cases e : j = i
    · subst e; rw [at1_same]; exact tb
    · rw [at1_ne _ _ e]
      refine (h.tab j).modd (S := d i :: T i :: (t i).fp) ⟨fun a o ea c => ?_, fun a o ea => ?_⟩ fun a ha => ?_
      · refine m a o ((upd_ne ?_).trans ea) ?_
        · rcases c with c | ⟨xs, rfl⟩
          · exact fun z => c (by simp [z])
          · exact ne_of ea (h.own i) (by intro z; cases z)
        · exact c.imp (fun c z => c (List.mem_cons_of_mem _ z)) id
      · by_cases ed : a = d i
        · exact m.live a _ (by rw [ed]; exact upd_same)
        · exact m.live a o ((upd_ne ed).trans ea)
      · intro z
        rcases List.mem_cons.mp z with z | z
        · exact dno j a ha z
        · exact h.dis j i e a ha z
  · by_cases e : j = i
    · subst e; rw [at1_same]
      exact m _ _ upd_same (.inl (h.dout j j))
    · rw [at1_ne _ _ e]
      exact stay _ _ (h.own j) (h.dne j i e) (h.dout j i)
  · by_cases e : j = i
    · subst e; rw [at1_same, at1_same]; exact ag
    · rw [at1_ne _ _ e, at1_ne _ _ e]; exact h.agr j
  · by_cases e : j = i
    · subst e; rw [at1_same]; exact ln
    · rw [at1_ne _ _ e]; exact h.len j
  · by_cases e : j = i
    · subst e; rw [at1_same]; exact sz
    · rw [at1_ne _ _ e]
      have := h.siz j
      omega
  · by_cases e : j = i
    · subst e; rw [at1_same]
      intro z
      rcases fr2 _ z with z | z
      · exact h.fixo p hp j z
      · rw [h.fix p hp] at z; cases z
    · rw [at1_ne _ _ e]; exact h.fixo p hp j
  · by_cases e : k = i
    · subst e; rw [at1_same]
      intro z
      rcases fr2 _ z with z | z
      · exact h.dout j k z
      · rw [h.own j] at z; cases z
    · rw [at1_ne _ _ e]; exact h.dout j k
  · intro x hx hy
    by_cases e : j = i
    · subst e
      have ek : k ≠ j := fun z => hjk z.symm
      rw [at1_same] at hx
      rw [at1_ne _ _ ek] at hy
      rcases fr2 x hx with z | z
      · exact h.dis j k hjk x z hy
      · obtain ⟨o, eo⟩ := (h.tab k).some_ x hy
        rw [eo] at z; cases z
    · rw [at1_ne _ _ e] at hx
      by_cases e2 : k = i
      · subst e2
        rw [at1_same] at hy
        rcases fr2 x hy with z | z
        · exact h.dis j k hjk x hx z
        · obtain ⟨o, eo⟩ := (h.tab j).some_ x hx
          rw [eo] at z; cases z
      · rw [at1_ne _ _ e2] at hy
        exact h.dis j k hjk x hx hy
/-- other objects that stand -/
theorem reL {L' : List (Addr × HO)} (h : Wd CK CT v T d L H n t rows) (hL : ∀ p ∈ L', H p.1 = some p.2 ∧ (∀ i, p.1 ≠ d i) ∧ ∀ i, p.1 ∉ T i :: (t i).fp) : Wd CK CT v T d L' H n t rows :=
  ⟨h.tab, h.own, h.agr, h.len, h.siz, fun p hp => (hL p hp).1, fun p hp => (hL p hp).2.1, fun p hp => (hL p hp).2.2, h.dout, h.dis, h.dne⟩
/-- S changes, which is of no table and no dict of rows -/
theorem modd {L' : List (Addr × HO)} {S : List Addr} (h : Wd CK CT v T d L H n t rows) (m : Mod S H H1) (hS : ∀ a ∈ S, (∀ i, a ≠ d i) ∧ ∀ i, a ∉ T i :: (t i).fp) (hL : ∀ p ∈ L', p ∈ L ∧ p.1 ∉ S) : Wd CK CT v T d L' H1 n t rows :=
  ⟨fun i => (h.tab i).modd m fun a ha hs => (hS a hs).2 i ha, fun i => m _ _ (h.own i) (.inl fun hs => (hS _ hs).1 i rfl), h.agr, h.len, h.siz, fun p hp => m _ _ (h.fix p (hL p hp).1) (.inl (hL p hp).2), fun p hp => h.fixd p (hL p hp).1, fun p hp => h.fixo p (hL p hp).1, h.dout, h.dis, h.dne⟩
/-- what is new is of no table -/
theorem new (h : Wd CK CT v T d L H n t rows) {p : Addr} (e : H p = none) : (∀ i, p ≠ d i) ∧ ∀ i, p ∉ T i :: (t i).fp := ⟨fun i z => (by rw [z, h.own i] at e; cases e), fun i => (h.tab i).free e⟩
theorem put_len {v : Nat} {rows : RowL} (h : ∀ r ∈ rows, r.1.length ≤ v) {s : List Bool} (hs : s.length ≤ v) (x : Nat) : ∀ r ∈ rput rows s x, r.1.length ≤ v := by
  intro r hr
  have : r.1 ∈ (rput rows s x).map (·.1) := List.mem_map.mpr ⟨r, hr, rfl⟩
  rw [rput_keys] at this
  have ho : ∀ u ∈ rows.map (·.1), u.length ≤ v := fun u hu => by
    obtain ⟨q, hq, rfl⟩ := List.mem_map.mp hu
    exact h q hq
  split at this
  · exact ho _ this
  · rcases List.mem_append.mp this with z | z
    · exact ho _ z
    · rw [List.mem_singleton.mp z]; exact hs
theorem drop_len {v : Nat} {rows : RowL} (h : ∀ r ∈ rows, r.1.length ≤ v) (s : List Bool) : ∀ r ∈ rdrop rows s, r.1.length ≤ v := fun r hr => h r (List.mem_filter.mp hr).1
end Wd
section
variable {CK CT : Addr} {H H' : Hp} {x dx : Addr} {t : AT} {v : Nat}
theorem mk_same (hx : H x = none) (hdx : H dx = none) (m : Mod [x] (upd (upd H dx (.own x)) x (.ins CT dx [])) H') : Same H H' := fun b o e => by
  have n1 := ne_of_none e hx
  have n2 := ne_of_none e hdx
  exact m b o ((upd_ne n1).trans ((upd_ne n2).trans e)) (.inl (by simp [n1]))
theorem mk_fresh (hx : H x = none) (hdx : H dx = none) (fr : ∀ a ∈ t.fp, (upd (upd H dx (.own x)) x (.ins CT dx [])) a = none) : ∀ a ∈ x :: t.fp, H a = none := fun a ha => by
  rcases List.mem_cons.mp ha with rfl | ha
  · exact hx
  · have h := fr a ha
    have n1 : a ≠ x := fun e => by rw [e, upd_same] at h; cases h
    rw [upd_ne n1] at h
    have n2 : a ≠ dx := fun e => by rw [e, upd_same] at h; cases h
    rw [upd_ne n2] at h
    exact h
end
def bw {α : Type} (a b : α) (i : Bool) : α := if i then b else a
theorem bw_get {a b : Addr} (i : Bool) : [V.ref a, V.ref b][if i then 1 else 0]? = some (V.ref (bw a b i)) := by cases i <;> rfl
/-! lists that were told, with their copies: of each the pair, both lists, the items, these as data -/
abbrev HeldE := Addr × Addr × Addr × List V × List PyData
def heldV (es : List HeldE) : List V := es.map fun e => V.ref e.1
def heldL (es : List HeldE) : List (Addr × HO) := es.flatMap fun e => [(e.2.1, .lst e.2.2.2.1), (e.2.2.1, .lst e.2.2.2.1)]
theorem heldL_snoc (es : List HeldE) (e : HeldE) : heldL (es ++ [e]) = heldL es ++ [(e.2.1, .lst e.2.2.2.1), (e.2.2.1, .lst e.2.2.2.1)] := by
  unfold heldL
  rw [List.flatMap_append]
  simp
end Br

/-! Lists of flat things and tuples as data; rising texts. -/
namespace Br
open PySem PySem.Spec PyProof.Rows L2
/-- a flat thing, or a tuple of such, as data -/
def Itm (H : Hp) (v : V) (d : PyData) : Prop := (flat v = true ∧ d = dOf v) ∨ ∃ a row, v = .ref a ∧ H a = some (.tup row) ∧ row.all flat = true ∧ d = .tuple (row.map dOf)
theorem Itm.modd {S : List Addr} {H H' : Hp} {v : V} {d : PyData} (h : Itm H v d) (m : Mod S H H') : Itm H' v d := by
  rcases h with h | ⟨a, row, e, h1, h2, h3⟩
  · exact .inl h
  · exact .inr ⟨a, row, e, m _ _ h1 (.inr ⟨_, rfl⟩), h2, h3⟩
theorem Itm.dp {K : PySem.W.Frag} {H : Hp} {v : V} {d : PyData} (h : Itm H v d) : Dp K H v d := by
  rcases h with ⟨h, rfl⟩ | ⟨a, row, rfl, h1, h2, rfl⟩
  · exact flat_dp h
  · exact .tup (SqT.of h1) (flat_all h2)
theorem Itm.dok {H : Hp} {v : V} {d : PyData} (h : Itm H v d) : DOk 1 d := by
  rcases h with ⟨h, rfl⟩ | ⟨a, row, rfl, h1, h2, rfl⟩
  · exact flat_dok h
  · refine dok_tup (k := 0) fun d hd => ?_
    obtain ⟨v, hv, rfl⟩ := List.mem_map.mp hd
    exact flat_dok (List.all_eq_true.mp h2 v hv)
inductive Itms (H : Hp) : List V → List PyData → Prop
  | nil : Itms H [] []
  | cons {v : V} {d : PyData} {xs : List V} {ds : List PyData} : Itm H v d → Itms H xs ds → Itms H (v :: xs) (d :: ds)
namespace Itms
variable {K : PySem.W.Frag} {S : List Addr} {H H' : Hp} {xs ys : List V} {ds es : List PyData}
theorem modd (h : Itms H xs ds) (m : Mod S H H') : Itms H' xs ds := by
  induction h with
  | nil => exact .nil
  | cons a b ih => exact .cons (a.modd m) ih
theorem same (h : Itms H xs ds) (m : Same H H') : Itms H' xs ds := h.modd (S := []) (Mod.same m)
theorem dp (h : Itms H xs ds) : DpAll K H xs ds := by
  induction h with
  | nil => exact .nil
  | cons a b ih => exact .cons a.dp ih
theorem dok (h : Itms H xs ds) : DOk 2 (.list ds) := by
  refine dok_list fun d hd => ?_
  induction h with
  | nil => cases hd
  | cons a b ih =>
    rcases List.mem_cons.mp hd with rfl | hd
    · exact a.dok
    · exact ih hd
theorem append (h : Itms H xs ds) (k : Itms H ys es) : Itms H (xs ++ ys) (ds ++ es) := by
  induction h with
  | nil => exact k
  | cons a b ih => exact .cons a ih
theorem one {v : V} {d : PyData} (h : Itm H v d) : Itms H [v] [d] := .cons h .nil
theorem len (h : Itms H xs ds) : xs.length = ds.length := by
  induction h with
  | nil => rfl
  | cons a b ih => exact congrArg Nat.succ ih
theorem lst {p : Addr} (h : Itms H xs ds) (e : H p = some (.lst xs)) : Dp K H (.ref p) (.list ds) := .lst (SqL.of e) h.dp
/-- texts of bits -/
theorem txs (L : List (List Bool)) : Itms H (L.map fun s => V.str (tx s)) (L.map fun s => PyData.str (tx s)) := by
  induction L with
  | nil => exact .nil
  | cons s L ih => exact .cons (.inl ⟨flat_tx s, rfl⟩) ih
end Itms
/-- a list of tuples of flat things -/
theorem LT.itms {H : Hp} {p : Addr} {L : List (List V)} (h : LT H p L) (hf : ∀ row ∈ L, row.all flat = true) : ∃ xs, H p = some (.lst xs) ∧ xs.length = L.length ∧ Itms H xs (L.map fun row => .tuple (row.map dOf)) := by
  obtain ⟨vs, h1, h2, h3⟩ := h
  refine ⟨vs, h1, h2, ?_⟩
  clear h1
  induction L generalizing vs with
  | nil => cases vs with
    | nil => exact .nil
    | cons v vs => cases h2
  | cons row L ih => cases vs with
    | nil => cases h2
    | cons v vs =>
      obtain ⟨a, e, ha⟩ := h3 0 row rfl
      cases e
      exact .cons (.inr ⟨a, row, rfl, ha, hf row List.mem_cons_self, rfl⟩) (ih (fun r hr => hf r (List.mem_cons_of_mem _ hr)) vs (by simpa using h2) fun i row e => h3 (i + 1) row e)
/-! ### rising texts of bits -/
theorem ltCps_tx : ∀ a b : List Bool, ltCps (a.map bc) (b.map bc) = true ↔ Tr.lt a b
  | [], [] => by simp [ltCps, Tr.lt]
  | [], _ :: _ => by simp [ltCps, Tr.lt]
  | _ :: _, [] => by simp [ltCps, Tr.lt]
  | x :: a, y :: b => by
    have ih := ltCps_tx a b
    show (decide (bc x < bc y) || (bc x == bc y && ltCps (a.map bc) (b.map bc))) = true ↔ (x = false ∧ y = true) ∨ (x = y ∧ Tr.lt a b)
    rw [Bool.or_eq_true, Bool.and_eq_true, ih]
    cases x <;> cases y <;> simp [bc]
theorem rising_tx : ∀ (L : List (List Bool)) (p : List Bool), risingS (tx p) (L.map tx) = true → (p :: L).Nodup → (p :: L).Pairwise Tr.lt
  | [], p, _, _ => List.pairwise_singleton _ _
  | x :: L, p, h, nd => by
    have h : (!ltCps (x.map bc) (p.map bc) && risingS (tx x) (L.map tx)) = true := h
    rw [Bool.and_eq_true, Bool.not_eq_true'] at h
    obtain ⟨n1, n2⟩ := List.nodup_cons.mp nd
    have ih := rising_tx L x h.2 n2
    have hpx : Tr.lt p x := by
      rcases Tr.lt_total p x with z | z | z
      · exact z
      · exact (n1 (by simp [z])).elim
      · have := (ltCps_tx x p).mpr z
        rw [h.1] at this
        cases this
    refine List.pairwise_cons.mpr ⟨fun y hy => ?_, ih⟩
    rcases List.mem_cons.mp hy with rfl | hy
    · exact hpx
    · exact Tr.lt_trans hpx ((List.pairwise_cons.mp ih).1 y hy)
theorem sorted_tx {L : List (List Bool)} (h : sortedS (L.map tx) = true) (nd : L.Nodup) : L.Pairwise Tr.lt := by
  cases L with
  | nil => exact .nil
  | cons p L => exact rising_tx L p h nd
/-- the keys, sorted, are the tree's rows in their order -/
theorem keys_sorted {rows : RowL} {t : Tr} (h : Agr rows t) {ys : List Str} (hp : ys.Perm (rows.map fun r => tx r.1)) (hs : sortedS ys = true) : ys = (t.rows.map (·.1)).map tx := by
  obtain ⟨L, rfl⟩ : ∃ L : List (List Bool), ys = L.map tx := by
    have : ∀ y ∈ ys, ∃ l, y = tx l := fun y hy => by
      obtain ⟨r, _, e⟩ := List.mem_map.mp (hp.mem_iff.mp hy)
      exact ⟨_, e.symm⟩
    clear hp hs
    induction ys with
    | nil => exact ⟨[], rfl⟩
    | cons y ys ih =>
      obtain ⟨l, rfl⟩ := this y List.mem_cons_self
      obtain ⟨L, rfl⟩ := ih fun z hz => this z (List.mem_cons_of_mem _ hz)
      exact ⟨l :: L, rfl⟩
  have hmem : ∀ s, s ∈ L ↔ s ∈ rows.map (·.1) := fun s => by
    have h1 := hp.mem_iff (a := tx s)
    constructor
    · intro hs
      obtain ⟨r, hr, e⟩ := List.mem_map.mp (h1.mp (List.mem_map.mpr ⟨s, hs, rfl⟩))
      exact List.mem_map.mpr ⟨r, hr, tx_inj e⟩
    · intro hs
      obtain ⟨r, hr, e⟩ := List.mem_map.mp hs
      obtain ⟨u, hu, e2⟩ := List.mem_map.mp (h1.mpr (List.mem_map.mpr ⟨r, hr, by rw [← e]⟩))
      rw [← tx_inj e2]
      exact hu
  have hnd : L.Nodup := by
    have h2 : (rows.map fun r => tx r.1).Nodup := by
      have h3 := h.nd
      have e : (rows.map fun r => tx r.1) = (rows.map (·.1)).map tx := by rw [List.map_map]; rfl
      rw [e]
      exact List.pairwise_map.mpr (h3.imp fun {a b} n e => n (tx_inj e))
    have h4 := hp.nodup_iff.mpr h2
    exact (List.pairwise_map.mp h4).imp fun {a b} n e => n (by rw [e])
  have key : ∀ s, s ∈ L ↔ s ∈ (t.rowsAt []).map (·.1) := fun s => ?_
  · rw [Tr.sorted_unique (sorted_tx hs hnd) (Tr.sorted_rowsAt t []) key]; rfl
  · rw [hmem]
    show _ ↔ s ∈ t.rows.map (·.1)
    have h1 := rget_none (rows := rows) (u := s)
    constructor
    · intro hs
      cases e : rget rows s with
      | none => exact (h1.mp e hs).elim
      | some x => exact List.mem_map.mpr ⟨(s, x), (Tr.mem_rows t s x).mpr (by rw [← h.get, e]), rfl⟩
    · intro hs
      obtain ⟨⟨s', x⟩, hr, e⟩ := List.mem_map.mp hs
      have e : s' = s := e
      subst e
      have := (Tr.mem_rows t s' x).mp hr
      rw [← h.get] at this
      exact Classical.byContradiction fun n => by rw [h1.mpr n] at this; cases this
def HeldOk (H : Hp) (es : List HeldE) : Prop := ∀ e ∈ es, H e.1 = some (.tup [.ref e.2.1, .ref e.2.2.1]) ∧ Itms H e.2.2.2.1 e.2.2.2.2
theorem HeldOk.modd {S : List Addr} {H H' : Hp} {es : List HeldE} (h : HeldOk H es) (m : Mod S H H') : HeldOk H' es := fun e he => ⟨m _ _ (h e he).1 (.inr ⟨_, rfl⟩), (h e he).2.modd m⟩
theorem HeldOk.same {H H' : Hp} {es : List HeldE} (h : HeldOk H es) (m : Same H H') : HeldOk H' es := h.modd (S := []) (Mod.same m)
/-- the list of what was told, with all lists as they were told -/
structure HeldW (H : Hp) (hl : Addr) (es : List HeldE) : Prop where
  main : H hl = some (.lst (heldV es))
  ok : HeldOk H es
  lst : ∀ p ∈ heldL es, H p.1 = some p.2
  ne : ∀ p ∈ heldL es, p.1 ≠ hl
namespace HeldW
variable {H H' : Hp} {hl : Addr} {es : List HeldE} {S : List Addr}
theorem modd (h : HeldW H hl es) (m : Mod S H H') (n1 : hl ∉ S) (n2 : ∀ p ∈ heldL es, p.1 ∉ S) : HeldW H' hl es :=
  ⟨m _ _ h.main (.inl n1), h.ok.modd m, fun p hp => m _ _ (h.lst p hp) (.inl (n2 p hp)), h.ne⟩
theorem same (h : HeldW H hl es) (m : Same H H') : HeldW H' hl es := h.modd (S := []) (Mod.same m) (by simp) (by simp)
theorem nil (e : H hl = some (.lst [])) : HeldW H hl [] := ⟨e, fun x hx => (by cases hx), fun p hp => (by cases hp), fun p hp => (by cases hp)⟩
theorem add {q F C : Addr} {xs : List V} {ds : List PyData} (h : HeldW H hl es) (m : Mod [hl] H H') (hF : H F = none) (hC : H C = none) (eF : H' F = some (.lst xs)) (eC : H' C = some (.lst xs)) (eq : H' q = some (.tup [.ref F, .ref C])) (iy : Itms H' xs ds)
    (eh : H' hl = some (.lst (heldV es ++ [.ref q]))) : HeldW H' hl (es ++ [(q, F, C, xs, ds)]) := by
  refine ⟨?_, fun e he => ?_, fun p hp => ?_, fun p hp => ?_⟩
  · rw [eh]
    unfold heldV
    rw [List.map_append]
    rfl
  · rcases List.mem_append.mp he with he | he
    · exact (h.ok.modd m) e he
    · rw [List.mem_singleton.mp he]
      exact ⟨eq, iy⟩
  · rw [heldL_snoc] at hp
    simp only [List.mem_append, List.mem_cons, List.not_mem_nil, or_false] at hp
    rcases hp with hp | rfl | rfl
    · exact m _ _ (h.lst p hp) (.inl (by simp only [List.mem_singleton]; exact h.ne p hp))
    · exact eF
    · exact eC
  · rw [heldL_snoc] at hp
    simp only [List.mem_append, List.mem_cons, List.not_mem_nil, or_false] at hp
    rcases hp with hp | rfl | rfl
    · exact h.ne p hp
    · exact (ne_of_none h.main hF).symm
    · exact (ne_of_none h.main hC).symm
/-- of a pair: the tuple, both lists, and that they are alike -/
theorem pair (h : HeldW H hl es) {e : HeldE} (he : e ∈ es) : H e.1 = some (.tup [.ref e.2.1, .ref e.2.2.1]) ∧ H e.2.1 = some (.lst e.2.2.2.1) ∧ H e.2.2.1 = some (.lst e.2.2.2.1) ∧ Itms H e.2.2.2.1 e.2.2.2.2 :=
  ⟨(h.ok e he).1, h.lst (e.2.1, .lst e.2.2.2.1) (List.mem_flatMap.mpr ⟨e, he, by simp⟩), h.lst (e.2.2.1, .lst e.2.2.2.1) (List.mem_flatMap.mpr ⟨e, he, by simp⟩), (h.ok e he).2⟩
end HeldW
end Br

/-! bitroads.table: rows put and taken -/
namespace Br
open PySem PySem.Spec PyProof.Rows L2
open C8 (Cal Met Mak cal0 met0 mak0 pe_c pe_mk pe_mt pe_mt0 pe_gc Def)
/-- what a put is to bring about -/
def PutFin (CK T : Addr) (H1 : Hp) (t : AT) (s : List Bool) (x : Nat) (H3 : Hp) : Prop := ∃ t' : AT, Mod (T :: t.fp) H1 H3 ∧ t'.val = t.val ∧ t'.ok CK H3 ∧ (T :: t'.fp).Nodup ∧ t'.tr = t.tr.put s x ∧ ∀ a ∈ t'.fp, a ∈ t.fp ∨ H1 a = none
/-- .. once the rest of the way is gone beneath u -/
def PutGo (CK T : Addr) (H2 : Hp) (u : AT) (s : List Bool) (x : Nat) (F : Hp → Prop) : Prop := ∀ (H3 : Hp) (u' : AT), Mod (T :: u.fp) H2 H3 → u'.val = u.val → u'.ok CK H3 → (T :: u'.fp).Nodup → u'.tr = u.tr.put s x → (∀ a ∈ u'.fp, a ∈ u.fp ∨ H2 a = none) → F H3
theorem bit_ix (b : Bool) {xs : List V} (h : xs.length = 2) : ixN xs.length (((if b then 1 else 0 : Nat) : Nat) : Int) = some (if b then 1 else 0) := by
  rw [h]
  cases b <;> rfl
section
variable {P : Program} {w : World} {K : PySem.W.Frag} {mg : Str → Option Value} {base : Heap} {CK CT : Addr}
abbrev s_Table_put : Stmt := inClass (top 24) 6
abbrev n_Table_put : List Str := ["self", "start", "road", "ahead", "knot", "sign", "side"]
theorem sc_Table_put : FnScope n_Table_put ["self", "start", "road"] (C8.fnScope s_Table_put) := ⟨rfl, rfl, rfl, by decide +kernel, rfl, by decide +kernel, by decide +kernel⟩
def spTput (CK CT : Addr) : Sp := fun vs H Q _ => ∃ (T : Addr) (v : Nat) (t : AT) (s : List Bool) (x : Nat), vs = [.ref T, .str (tx s), .int (x : Int)] ∧ Tab CK CT H T v t ∧ s.length ≤ v ∧ x ≤ 18446744073709551615 ∧ t.tr.size + 66 ≤ 20000 ∧
  ∀ H' p t' D, Mod (T :: t.fp) H H' → H p = none → p ∉ T :: t'.fp → Tab CK CT H' T v t' → t'.tr = t.tr.put s x → (∀ a ∈ t'.fp, a ∈ t.fp ∨ H a = none) → LT H' p (D.map row4) → DTl (fT t.tr v) (fT (t.tr.put s x) v) (hi s v + 1) (lo s v) D → Q (.ref p) H'
theorem c_Table_put (T : Glob mg) (Tt : Ts K CT) (Kk : Ks K CK) (D : Mn K CT "put" s_Table_put ["self", "start", "road"] []) (m_need_start : Met P w K mg base 3 CT "need_start" (spNeedS CK CT) []) (c_is_road : Cal P w K mg base 2 "is_road" spRoad [])
    (m_stretches : Met P w K mg base 67 CT "stretches" (spTstr CK CT) []) (c_Knot : Mak P w K mg base 1 "Knot" CK (spKnot (K := K)) []) (c_between : Cal P w K mg base 1 "between" spBetween []) : Met P w K mg base 68 CT "put" (spTput CK CT) [] := by
  refine D.met sc_Table_put (fun vs H Q E h => ?_) (fun qual f cdv A outer s0 H vs Q E hr h => ?_)
  · obtain ⟨a, v, t, s, x, rfl, _⟩ := h
    rfl
  · obtain ⟨TA, v, t, s, x, rfl, ht, hs, hx, hz, k⟩ := h
    refine ⟨_, (pss_cons (ps_expr (pe_mt m_need_start hr (by first | decide | omega) (pv 0) (pa_cons (pv 1) pa_nil)))
      (pss_cons (ps_if (pt_not (pt_val (pe_c c_is_road hr (by first | decide | omega) rfl (pa_cons (pv 2) pa_nil))))
      (pss_one (ps_never (st := _)))
      pss_nil)
      (pss_cons (ps_set (i := 3) sc_Table_put.nd rfl (by first | exact Or.inl rfl | exact Or.inr rfl) (pe_mt m_stretches hr (by first | decide | omega) (pv 0) (pa_cons (pv 1) pa_nil)))
      (pss_cons (ps_set (i := 4) sc_Table_put.nd rfl (by first | exact Or.inl rfl | exact Or.inr rfl) (pe_fld (pv 0) rfl))
      (C8.pss_cut (ps_for PassesOwn.never rfl (pi_str (pv 1)) (pg_name (i := 5) sc_Table_put.nd rfl (by first | exact Or.inl rfl | exact Or.inr rfl))
      (pss_cons (ps_set (i := 6) sc_Table_put.nd rfl (by first | exact Or.inl rfl | exact Or.inr rfl) (pe_m1 PySem.F.slot_str_index PySem.F.type_str_index mt_sindex (pe_gc rfl T.g_BITS) (pv 5)))
      (C8.pss_cut (ps_if (pt_cmpR op_isN (pe_ix ix_list (pe_fld (pv 4) rfl) (pv 6) (fun _ _ => rfl)) pe_non (nomark _))
      (pss_one (ps_asg (pe_mk0 c_Knot hr (by first | decide | omega) rfl) (pg_sub (pe_fld (pv 4) rfl) (pv 6) set_list)))
      pss_nil)
      (pss_one (ps_set (i := 4) sc_Table_put.nd rfl (by first | exact Or.inl rfl | exact Or.inr rfl) (pe_ix ix_list (pe_fld (pv 4) rfl) (pv 6) (fun _ _ => rfl)))))))
      (C8.pss_cut (ps_if (pt_cmpR op_isN (pe_fld (pv 4) rfl) pe_non (nomark _))
      (pss_one (ps_fldaug (pv 0) pe_int in_add))
      pss_nil)
      (pss_cons (ps_fld (pv 4) (pv 2) rfl)
      (pss_one (ps_ret (pe_c c_between hr (by first | decide | omega) rfl (pa_cons (pv 3) (pa_cons (pe_mt m_stretches hr (by first | decide | omega) (pv 0) (pa_cons (pv 1) pa_nil)) pa_nil)))))))))))), ?_⟩
    obtain ⟨dT, ho⟩ := ht.obj
    have hv := ht.w2
    refine ⟨_, rfl, TA, dT, _, rfl, ho, rfl, _, rfl, TA, v, t, s, rfl, ht, hs, fun H0 s0' => ?_⟩
    have er : isAmong (.int (x : Int)) 0 18446744073709551615 = true := by
      show (decide ((0 : Int) ≤ (x : Int)) && decide ((x : Int) ≤ 18446744073709551615)) = true
      rw [decide_eq_true (by omega), decide_eq_true (by omega)]
      rfl
    refine ⟨_, rfl, _, rfl, .int _, ?_⟩
    rw [er]
    refine ⟨_, rfl, iteF ?_⟩
    refine ⟨_, rfl, TA, dT, _, rfl, s0' _ _ ho, rfl, _, rfl, TA, v, t, s, rfl, ht.same s0', hs, fun H1 p1 s1' hp1 hL1 => ?_⟩
    have s1 : Same H H1 := s0'.trans s1'
    have hp0 : H p1 = none := s0'.free hp1
    have ht1 := ht.same s1
    have ho1 := s1 _ _ ho
    have np1 : p1 ∉ TA :: t.fp := (ht.same s0').free hp1
    refine ⟨_, rfl, TA, CT, dT, _, _, rfl, ho1, Tt.cl, Tt.ntop, rfl, ?_⟩
    -- behind the way down
    refine ⟨fun σ' H2 => ∃ (a dx ka : Addr) (g : Option Nat) (l r : AT) (v5 v6 : Option V), σ' = [some (.ref TA), some (.str (tx s)), some (.int (x : Int)), some (.ref p1), some (.ref a), v5, v6] ∧ Mod (TA :: t.fp) H1 H2 ∧ H2 TA = H1 TA ∧ (AT.nd a dx ka g l r).ok CK H2 ∧ (TA :: (AT.nd a dx ka g l r).fp).Nodup ∧ (∀ a' ∈ (AT.nd a dx ka g l r).fp, a' ∈ t.fp ∨ H1 a' = none) ∧ g = t.tr.get s ∧
        PutGo CK TA H2 (AT.nd a dx ka g l r) [] x (PutFin CK TA H1 t s x), ?_, ?_⟩
    · refine ⟨_, rfl, _, rfl, for_it walk_str (fun i σ H2 => ∃ (u : AT) (v5 v6 : Option V), u ≠ .nil ∧ σ = [some (.ref TA), some (.str (tx s)), some (.int (x : Int)), some (.ref p1), some u.val, v5, v6] ∧ Mod (TA :: t.fp) H1 H2 ∧ H2 TA = H1 TA ∧ u.ok CK H2 ∧ (TA :: u.fp).Nodup ∧ (∀ a ∈ u.fp, a ∈ t.fp ∨ H1 a = none) ∧ u.tr.get (s.drop i) = t.tr.get s ∧
          PutGo CK TA H2 u (s.drop i) x (PutFin CK TA H1 t s x)) ⟨t, none, none, ht.ne, rfl, Mod.refl, rfl, ht1.ok, ht1.nd, fun a h => .inl h, rfl, fun H3 u' m e1 e2 e3 e4 e5 => ⟨u', m, e1, e2, e3, e4, e5⟩⟩ (fun _ _ _ _ _ => trivial) ?_ ?_⟩
      · rintro i y σ H9 H2 hi ⟨u, v5, v6, hn, rfl, m2, hT2, hu, nu, fu, hg, go⟩ ⟨rfl, c, hc, rfl⟩
        obtain ⟨b, hb, rfl⟩ := tx_get hc
        have dr : s.drop i = b :: s.drop (i + 1) := by
          rw [List.drop_eq_getElem_cons (List.getElem?_eq_some_iff.mp hb).1]
          congr 1
          exact (List.getElem?_eq_some_iff.mp hb).2
        cases u with
        | nil => exact (hn rfl).elim
        | nd a dx ka g l r =>
        obtain ⟨ha, hka, hl, hr'⟩ := id hu
        refine ⟨⟨_, rfl⟩, _, rfl, _, _, _, _, rfl, rfl, bits_index b, ?_⟩
        refine ⟨fun σ' H3 => ∃ (l2 r2 : AT), σ' = [some (.ref TA), some (.str (tx s)), some (.int (x : Int)), some (.ref p1), some (.ref a), some (.str ⟨#[bc b]⟩), some (.int ((if b then 1 else 0 : Nat) : Int))] ∧ Mod (TA :: t.fp) H1 H3 ∧ H3 TA = H1 TA ∧ (AT.nd a dx ka g l2 r2).ok CK H3 ∧ (TA :: (AT.nd a dx ka g l2 r2).fp).Nodup ∧ (∀ a' ∈ (AT.nd a dx ka g l2 r2).fp, a' ∈ t.fp ∨ H1 a' = none) ∧
          AT.kid b l2 r2 ≠ .nil ∧ (AT.nd a dx ka g l2 r2).tr.get (s.drop i) = t.tr.get s ∧ PutGo CK TA H3 (AT.nd a dx ka g l2 r2) (s.drop i) x (PutFin CK TA H1 t s x), ?_, ?_⟩
        · refine ⟨_, rfl, a, CK, dx, _, _, rfl, ha, Kk.cl, Kk.nkids, rfl, _, rfl, ka, _, _, _, rfl, rfl, SqL.of hka, atI_nat (AT.kid_val b l r), rfl, _, rfl, ?_⟩
          rw [AT.val_tr]
          refine ite2 (fun c => ?_) fun c => ?_
          · have ek : AT.kid b l r = .nil := by
              cases e : AT.kid b l r with
              | nil => rfl
              | nd => rw [e] at c; cases c
            refine fun n d hnn hd nd => ⟨n, CK, d, rfl, Kk, upd_same, fun H3 kb hkb m3 e1 e2 => ⟨rfl, ?_⟩⟩
            have s2 : Same H2 (upd (upd H2 d (.own n)) n (.ins CK d [])) := Same_upd (Same_upd (Same.refl H2) hd) (by rw [upd_ne nd.symm]; exact hnn)
            have hkb2 : H2 kb = none := s2.free hkb
            have hka3 : H3 ka = some (.lst [l.val, r.val]) := m3 _ _ (s2 _ _ hka) (.inl (by simp only [List.mem_singleton]; exact ne_of_none hka hnn))
            have nka : ka ≠ n := ne_of_none hka hnn
            have nkb : ka ≠ kb := ne_of_none hka hkb2
            have nnkb : n ≠ kb := ne_of_none (upd_same (H := upd H2 d (.own n)) (o := .ins CK d [])) hkb
            have m2' : Mod [] H2 H3 := (Mod.same s2).step m3 fun z hz => .inr (by rw [List.mem_singleton.mp hz]; exact hnn)
            have m23 : ∀ o, Mod (TA :: ka :: (AT.kid b l r).fp) H2 (upd H3 ka (.lst o)) := fun o => (m2'.mono (by simp)).upd (.inl (by simp)) fun xs z => by rw [hka3] at z; cases z
            refine ⟨_, rfl, a, CK, dx, _, _, rfl, m2' _ _ ha (.inl (by simp)), Kk.cl, Kk.nkids, rfl, _, rfl, ka, _, _, _, rfl, rfl, hka3, bit_ix b rfl, ?_⟩
            have uo : (AT.nd n d kb none .nil .nil).ok CK (upd H3 ka (.lst ([l.val, r.val].set (if b then 1 else 0) (.ref n)))) := ⟨(upd_ne nka.symm).trans e1, (upd_ne nkb.symm).trans e2, trivial, trivial⟩
            have hT : ∃ o, H2 TA = some o := ⟨_, hT2.trans ho1⟩
            have nTn : TA ≠ n := ne_of_none (hT2.trans ho1) hnn
            have nTk : TA ≠ kb := ne_of_none (hT2.trans ho1) hkb2
            obtain ⟨k1, k2, k3, k4⟩ := AT.kid_set hu nu hT (m23 _) (b := b) (u := .nd n d kb none .nil .nil) (by rw [upd_same]; cases b <;> rfl) uo (by simp [AT.fp, nTn, nTk, nnkb]) (fun z hz => by
              simp [AT.fp] at hz
              rcases hz with rfl | rfl
              · exact .inr hnn
              · exact .inr hkb2)
            have ekt : Tr.kid b l.tr r.tr = .nil := by rw [← AT.kid_tr, ek]; rfl
            refine ⟨_, _, rfl, ?_, ?_, k1, k2, fun z hz => ?_, ?_, ?_, ?_⟩
            · refine (m2.trans (Mod.mono m2' (by simp))).upd ?_ fun xs z => by rw [hka3] at z; cases z
              exact (fu ka (by simp [AT.fp])).imp (fun h => List.mem_cons_of_mem _ h) id
            · rw [upd_ne (ne_of (hT2.trans ho1) hka (by intro z; cases z))]
              rw [m2' _ _ (hT2.trans ho1) (.inl (by simp)), ho1]
            · rcases k3 z hz with h | h
              · exact fu z h
              · exact .inr (m2.free h)
            · cases b <;> (intro z; cases z)
            · rw [← hg, dr]
              show (AT.setk a dx ka g b l r (.nd n d kb none .nil .nil)).tr.get _ = _
              rw [AT.setk_tr]
              cases b
              · show (Tr.nd none .nil .nil).get _ = l.tr.get _
                rw [Tr.get_new, show l.tr = .nil from ekt, Tr.get_nil]
              · show (Tr.nd none .nil .nil).get _ = r.tr.get _
                rw [Tr.get_new, show r.tr = .nil from ekt, Tr.get_nil]
            · intro H5 u' m5 f1 f2 f3 f4 f5
              refine go H5 u' (k4.step m5 fun z hz => ?_) f1 f2 f3 ?_ fun z hz => ?_
              · rcases List.mem_cons.mp hz with rfl | hz
                · exact .inl List.mem_cons_self
                · exact (k3 z hz).imp (fun h => List.mem_cons_of_mem _ h) id
              · rw [f4, dr]
                show (AT.setk a dx ka g b l r (.nd n d kb none .nil .nil)).tr.put _ x = _
                rw [AT.setk_tr]
                cases b
                · show Tr.nd g (Tr.put (.nd none .nil .nil) _ x) r.tr = Tr.nd g (l.tr.put _ x) r.tr
                  rw [show l.tr = .nil from ekt, ← Tr.put_new]
                · show Tr.nd g l.tr (Tr.put (.nd none .nil .nil) _ x) = Tr.nd g l.tr (r.tr.put _ x)
                  rw [show r.tr = .nil from ekt, ← Tr.put_new]
              · rcases f5 z hz with h | h
                · exact k3 z h
                · exact .inr (k4.free h)
          · refine ⟨l, r, rfl, m2, hT2, hu, nu, fu, fun z => c (by rw [z]; rfl), hg, go⟩
        · rintro σ' H3 ⟨l2, r2, rfl, m3, hT3, hu3, nu3, fu3, hk3, hg3, go3⟩
          obtain ⟨ha, hka, hl, hr'⟩ := id hu3
          refine ⟨_, rfl, a, CK, dx, _, _, rfl, ha, Kk.cl, Kk.nkids, rfl, _, rfl, ka, _, _, _, rfl, rfl, SqL.of hka, atI_nat (AT.kid_val b l2 r2), ?_⟩
          have nk : (TA :: (AT.kid b l2 r2).fp).Nodup := by
            obtain ⟨n1, n2⟩ := List.nodup_cons.mp nu3
            refine List.nodup_cons.mpr ⟨fun z => n1 ?_, AT.kid_nd (List.nodup_cons.mp (List.nodup_cons.mp n2).2).2⟩
            have := AT.kid_fp z
            simp only [AT.fp, List.mem_cons]
            exact .inr (.inr this)
          have nTk : ka ∉ TA :: (AT.kid b l2 r2).fp := fun z => by
            obtain ⟨n1, n2⟩ := List.nodup_cons.mp nu3
            rcases List.mem_cons.mp z with e | z
            · exact n1 (by simp [AT.fp, e])
            · exact (List.nodup_cons.mp (List.nodup_cons.mp n2).2).1 (AT.kid_fp z)
          refine ⟨AT.kid b l2 r2, _, _, hk3, rfl, m3, hT3, AT.kid_ok hl hr', nk, fun z hz => fu3 z (by have := AT.kid_fp hz; simp only [AT.fp, List.mem_cons]; exact .inr (.inr this)), ?_, ?_⟩
          · rw [dr] at hg3
            rw [AT.kid_tr]
            exact hg3
          · intro H5 u' m5 f1 f2 f3 f4 f5
            obtain ⟨k1, k2, k3, k4⟩ := AT.kid_set hu3 nu3 ⟨_, hT3.trans ho1⟩ (b := b) (u := u') (m5.mono fun z hz => by
              rcases List.mem_cons.mp hz with rfl | hz
              · exact List.mem_cons_self
              · exact List.mem_cons_of_mem _ (List.mem_cons_of_mem _ hz)) (by
              rw [m5 _ _ hka (.inl nTk), f1]
              cases b <;> rfl) f2 f3 f5
            refine go3 H5 (AT.setk a dx ka g b l2 r2 u') k4 rfl k1 k2 ?_ k3
            rw [AT.setk_tr, f4, dr]
            cases b <;> rfl
      · rintro σ H2 ⟨u, v5, v6, hn, rfl, m2, hT2, hu, nu, fu, hg, go⟩
        have e : s.drop (tx s).cps.size = [] := List.drop_eq_nil_of_le (by show s.length ≤ (tx s).length; rw [tx_len]; exact Nat.le_refl _)
        rw [e] at hg go
        cases u with
        | nil => exact (hn rfl).elim
        | nd a dx ka g l r => exact ⟨a, dx, ka, g, l, r, v5, v6, rfl, m2, hT2, hu, nu, fu, hg, go⟩
    · rintro σ' H2 ⟨a, dx, ka, g, l, r, v5, v6, rfl, m2, hT2, hu, nu, fu, hg, go⟩
      obtain ⟨ha, hka, hl, hr'⟩ := id hu
      have hT2' := hT2.trans ho1
      have hcp := Tr.count_put x s t.tr
      have nTa : TA ≠ a := fun e => (List.nodup_cons.mp nu).1 (by simp [AT.fp, e])
      refine ⟨fun σ' H3 => σ' = [some (.ref TA), some (.str (tx s)), some (.int (x : Int)), some (.ref p1), some (.ref a), v5, v6] ∧ Mod [TA] H2 H3 ∧ H3 TA = some (.ins CT dT (tf v t (t.tr.put s x).count)), ?_, ?_⟩
      · refine ⟨_, rfl, a, CK, dx, _, _, rfl, ha, Kk.cl, Kk.ngoal, rfl, rfl, _, rfl, ?_⟩
        rw [ov_non]
        cases g with
        | none =>
          rw [← hg, if_pos rfl] at hcp
          refine iteT ⟨_, rfl, TA, CT, dT, _, _, rfl, hT2', Tt.cl, Tt.namount, rfl, _, _, rfl, rfl, _, _, hT2', (by show 3 < 1000; decide), rfl, Mod.refl.upd (.inl (by simp)) (fun xs z => by rw [hT2'] at z; cases z), ?_⟩
          rw [upd_same, hcp]
          rfl
        | some y =>
          rw [← hg, if_neg (by simp)] at hcp
          exact iteF ⟨rfl, Mod.refl, by rw [hcp]; exact hT2'⟩
      · rintro σ' H3 ⟨rfl, m3, hT3⟩
        have ha3 := m3 _ _ ha (.inl (by simp [nTa.symm]))
        have nak : a ≠ ka := ne_of ha hka (by intro z; cases z)
        refine ⟨_, rfl, _, rfl, a, CK, dx, _, rfl, ha3, Kk.cl, Kk.ngoal, (by show 2 < 1000; decide), ?_⟩
        have mu : Mod (TA :: (AT.nd a dx ka g l r).fp) H2 (upd H3 a (.ins CK dx (AT.kf ka (some x)))) := (m3.mono (by simp)).upd (.inl (by simp [AT.fp])) fun xs z => by rw [ha3] at z; cases z
        have okm : ∀ {u : AT}, (∀ z ∈ u.fp, z ∈ l.fp ++ r.fp) → u.ok CK H2 → u.ok CK (upd H3 a (.ins CK dx (AT.kf ka (some x)))) := fun {u} hz ou => by
          have m4 : Mod [TA, a] H2 (upd H3 a (.ins CK dx (AT.kf ka (some x)))) := (m3.mono (by simp)).upd (.inl (by simp)) fun xs z => by rw [ha3] at z; cases z
          refine AT.ok_mod ou m4 fun z hz2 => ?_
          have h3 := hz z hz2
          simp only [List.mem_cons, List.not_mem_nil, or_false, not_or]
          obtain ⟨n1, n2⟩ := List.nodup_cons.mp nu
          refine ⟨fun e => n1 ?_, fun e => (List.nodup_cons.mp n2).1 ?_⟩
          · rw [← e]; simp only [AT.fp, List.mem_cons]; exact .inr (.inr h3)
          · rw [← e]; exact List.mem_cons_of_mem _ h3
        obtain ⟨t', f1, f2, f3, f4, f5, f6⟩ := go (upd H3 a (.ins CK dx (AT.kf ka (some x)))) (.nd a dx ka (some x) l r) mu rfl ⟨upd_same, (upd_ne nak.symm).trans (m3 _ _ hka (.inl (by
            simp only [List.mem_singleton]
            exact fun e => (List.nodup_cons.mp nu).1 (by simp [AT.fp, e])))), okm (fun z h => List.mem_append.mpr (.inl h)) hl, okm (fun z h => List.mem_append.mpr (.inr h)) hr'⟩ nu rfl fun z h => .inl h
        have hT4 : (upd H3 a (.ins CK dx (AT.kf ka (some x)))) TA = some (.ins CT dT (tf v t' t'.tr.count)) := by
          rw [upd_ne nTa, hT3, f5]
          unfold tf
          rw [f2]
        have eH : upd H3 a (.ins CK dx (putF "goal" (.int (x : Int)) (AT.kf ka g))) = upd H3 a (.ins CK dx (AT.kf ka (some x))) := rfl
        rw [eH]
        generalize (upd H3 a (.ins CK dx (AT.kf ka (some x)))) = H4 at f1 f3 f6 hT4
        have htab : Tab CK CT H4 TA v t' := by
          refine ⟨⟨dT, hT4⟩, f3, f4, ?_, ?_, ht.w1, ht.w2, ?_⟩
          · rw [f5]; exact Tr.neat_put x ht.neat
          · rw [f5]; exact Tr.deep_put x ht.deep hs
          · rw [f5]
            have := Tr.size_put x s t.tr
            omega
        refine ⟨_, rfl, _, rfl, TA, dT, _, rfl, hT4, rfl, _, rfl, TA, v, t', s, rfl, htab, hs, fun H5 p2 s5 hp2 hL2 => ?_⟩
        have m5 : Mod (TA :: t.fp) H1 H5 := f1.thenSame s5
        have l1 := tells_len t.tr v s
        have l2 := tells_len t'.tr v s
        have hz2 := htab.sz
        have hz1 := ht.sz
        refine ⟨p1, p2, tells t.tr v s, tells t'.tr v s, fT t.tr v, fT t'.tr v, lo s v, hi s v + 1, rfl, hL1.modd m5 np1, hL2, tells_tl ht.deep hs, tells_tl htab.deep hs, (by omega), fun H6 o Df s6 ho6 hL3 hD => ?_⟩
        have m6 : Mod (TA :: t.fp) H H6 := (Mod.same s1).trans (m5.thenSame s6)
        refine k H6 o t' Df m6 (s1.free (m5.free ho6)) ((htab.same s5).free ho6) ((htab.same s5).same s6) f5 (fun z hz => (f6 z hz).imp id s1.free) hL3 ?_
        rw [f5] at hD
        exact hD
end
end Br

/-! bitroads.table: rows taken -/
namespace Br
open PySem PySem.Spec PyProof.Rows L2
open C8 (Cal Met Mak cal0 met0 mak0 pe_c pe_mk pe_mt pe_mt0 pe_gc Def)
section
variable {P : Program} {w : World} {K : PySem.W.Frag} {mg : Str → Option Value} {base : Heap} {CK CT : Addr}
end
end Br

/-! What the laws have in common: drawn numbers, texts, starts. -/
namespace Br
open PySem PySem.Spec PyProof.Rows L2
open C8 (Cal Met Mak cal0 met0 mak0 pe_c pe_mk pe_mt pe_mt0 pe_gc Def)
section
variable {P : Program} {w : World} {K : PySem.W.Frag} {mg : Str → Option Value} {base : Heap}
def mixA (c k : Int) : Int := (c % 1000000007 * 48271 + k * k * 69621 + 7919 * k + 12345) % 2147483629
def mixed (c k : Int) : Nat := (mixA c k * mixA c k % 2147483629 * 40692 % 2147483629).toNat
theorem mixed_eq (c k : Int) : mixA c k * mixA c k % 2147483629 * 40692 % 2147483629 = ((mixed c k : Nat) : Int) := by unfold mixed; omega
abbrev s_l_mixed : Stmt := top 32
abbrev n_l_mixed : List Str := ["_law_cell", "_law_k", "_law_number"]
theorem sc_l_mixed : FnScope n_l_mixed ["_law_cell", "_law_k"] (C8.fnScope s_l_mixed) := ⟨rfl, rfl, rfl, by decide +kernel, rfl, by decide +kernel, by decide +kernel⟩
def spMixed : Sp := fun vs H Q _ => ∃ c k : Int, vs = [.int c, .int k] ∧ (0 ≤ k ∧ k < 2 ^ 63) ∧ Q (.int ((mixed c k : Nat) : Int)) H
theorem c_l_mixed (T : Glob mg) (D : Dn K mg "_law_mixed" s_l_mixed ["_law_cell", "_law_k"]) : Cal P w K mg base 1 "_law_mixed" spMixed [] := by
  refine D.cal sc_l_mixed (fun vs H Q E h => ?_) (fun f cdv A outer s H vs Q E hr h => ?_)
  · obtain ⟨c, k, rfl, _⟩ := h
    rfl
  · obtain ⟨c, k, rfl, hk, q⟩ := h
    refine ⟨_, (pss_cons (ps_set (i := 2) sc_l_mixed.nd rfl (by first | exact Or.inl rfl | exact Or.inr rfl) (pe_op op_mod (pe_op op_add (pe_op op_add (pe_op op_add (pe_op op_mul (pe_op op_mod (pv 0) pe_int) pe_int) (pe_op op_mul (pe_op op_mul (pv 1) (pv 1)) pe_int)) (pe_op op_mul pe_int (pv 1))) pe_int) pe_int))
      (pss_one (ps_ret (pe_op op_mod (pe_op op_mul (pe_op op_mod (pe_op op_mul (pv 2) (pv 2)) pe_int) pe_int) pe_int)))), ?_⟩
    refine ⟨_, rfl, _, _, rfl, rfl, (by show (0 : Int) < 1000000007; decide), _, _, rfl, rfl, .inr ⟨by decide, by decide⟩, ?_⟩
    refine ⟨_, rfl, _, rfl, _, _, rfl, rfl, .inl ⟨by omega, by omega⟩, _, _, rfl, rfl, .inr ⟨by decide, by decide⟩, _, _, rfl, rfl, ?_⟩
    refine ⟨_, rfl, _, _, rfl, rfl, .inl ⟨by decide, by decide⟩, _, _, rfl, rfl, _, _, rfl, rfl, _, _, rfl, rfl, (by show (0 : Int) < 2147483629; decide), ?_⟩
    have b : (0 ≤ mixA c k) ∧ mixA c k < 2147483629 := by unfold mixA; omega
    refine ⟨_, rfl, _, rfl, _, _, rfl, rfl, .inl ⟨(by show -(2 ^ 64) < mixA c k; omega), (by show mixA c k < 2 ^ 64; omega)⟩, ?_⟩
    refine ⟨_, _, rfl, rfl, (by show (0 : Int) < 2147483629; decide), _, _, rfl, rfl, .inr ⟨by decide, by decide⟩, _, _, rfl, rfl, (by show (0 : Int) < 2147483629; decide), ?_⟩
    rw [← mixed_eq] at q
    exact q
def bitsL (n : Int) (v : Nat) : List Bool := (List.range v).map fun j => decide (mixed n ((j / 24 : Nat) : Int) / 2 ^ (j % 24) % 2 = 1)
theorem bitsL_len (n : Int) (v : Nat) : (bitsL n v).length = v := by unfold bitsL; simp
abbrev s_l_bits : Stmt := top 33
abbrev n_l_bits : List Str := ["_law_number", "_law_size", "_law_j"]
theorem sc_l_bits : FnScope n_l_bits ["_law_number", "_law_size"] (C8.fnScope s_l_bits) := ⟨rfl, rfl, rfl, by decide +kernel, rfl, by decide +kernel, by decide +kernel⟩
def spLBits : Sp := fun vs H Q _ => ∃ (n : Int) (v : Nat), vs = [.int n, .int (v : Int)] ∧ v ≤ 64 ∧ ∀ H', Same H H' → Q (.str (tx (bitsL n v))) H'
theorem c_l_bits (T : Glob mg) (D : Dn K mg "_law_bits" s_l_bits ["_law_number", "_law_size"]) (c_l_mixed : Cal P w K mg base 1 "_law_mixed" spMixed []) : Cal P w K mg base 2 "_law_bits" spLBits [] := by
  refine D.cal sc_l_bits (fun vs H Q E h => ?_) (fun f cdv A outer s H vs Q E hr h => ?_)
  · obtain ⟨n, v, rfl, _⟩ := h
    rfl
  · obtain ⟨n, v, rfl, hv, k⟩ := h
    refine ⟨_, (pss_one (ps_ret (pe_join pe_str (pe_lc (own := [("_law_j", 2)]) (g := (gName 2)) (tt := tYes) rfl sc_l_bits.nd (pi_range1 rfl T.g_range (pa_cons (pv 1) pa_nil)) (blkOk_by (own := [("_law_j", 2)]) (N := n_l_bits) (sc := C8.fnScope s_l_bits) (by decide +kernel)) (fun _ _ _ _ _ => (pg_name (i := 2) sc_l_bits.nd rfl (by first | exact Or.inl rfl | exact Or.inr rfl))) (fun _ _ _ _ _ => pts_nil) (fun _ _ _ _ _ => (pe_ix ix_str pe_str (pe_op op_odd (pe_op op_shrN (pe_c c_l_mixed hr (by first | decide | omega) rfl (pa_cons (pv 0) (pa_cons (pe_op op_fdiv (pv 2) pe_int) pa_nil))) (pe_op op_mod (pv 2) pe_int)) pe_int) (fun _ _ => rfl))))))), ?_⟩
    refine ⟨⟨_, rfl⟩, _, rfl, _, rfl, by omega, by omega, fun D hD => ?_⟩
    refine lc_it walk_range (PvF H D fun i => ((bitsL n v).take i).map fun b => V.str (tx [b])) (pv0 hD) (fun _ _ _ _ => trivial) ?_ ?_
    · rintro i x H1 H2 hi ⟨s1, h1⟩ ⟨rfl, rfl⟩
      have hi : i < v := by simpa using hi
      have e1 : (0 + (i : Int)) / 24 = ((i / 24 : Nat) : Int) := by omega
      have e2 : (0 + (i : Int)) % 24 = ((i % 24 : Nat) : Int) := by omega
      refine ⟨rfl, yesI ?_⟩
      refine ⟨_, rfl, _, rfl, _, _, rfl, rfl, ⟨by decide, by decide⟩, n, _, rfl, ⟨by omega, by omega⟩, ?_⟩
      rw [e1]
      refine ⟨_, rfl, _, _, rfl, rfl, (by show (0 : Int) < 24; decide), _, i % 24, rfl, congrArg V.int e2, mixed n ((i / 24 : Nat) : Int) / 2 ^ (i % 24), ?_, rfl, _, _, bc (decide (mixed n ((i / 24 : Nat) : Int) / 2 ^ (i % 24) % 2 = 1)), rfl, rfl, (by decide +kernel), ?_, ?_⟩
      · generalize mixed n ((i / 24 : Nat) : Int) = m
        show V.int ((m : Int) / 2 ^ (i % 24)) = V.int ((m / 2 ^ (i % 24) : Nat) : Int)
        rw [Int.natCast_ediv, Int.natCast_pow]
        rfl
      · refine atI_nat ?_
        rw [show (Str.ofString "01") = tx [false, true] from tx_01.symm, tx_cps]
        rcases Nat.mod_two_eq_zero_or_one (mixed n ((i / 24 : Nat) : Int) / 2 ^ (i % 24)) with h | h <;> rw [h] <;> rfl
      · refine pv_in hD s1 h1 ?_ ?_
        · simp only [List.length_map, List.length_take]
          rw [bitsL_len]
          omega
        · have hw : (bitsL n v)[i]? = some (decide (mixed n ((i / 24 : Nat) : Int) / 2 ^ (i % 24) % 2 = 1)) := by
            unfold bitsL
            rw [List.getElem?_map, List.getElem?_range hi]
            rfl
          rw [take_snoc hw, List.map_append, tx_one]
          rfl
    · rintro H1 ⟨s1, h1⟩
      refine ⟨_, _, (bitsL n v).map fun b => tx [b], rfl, rfl, .inl (SqL.of ?_), ?_, ?_⟩
      · refine h1.trans ?_
        have e : (bitsL n v).take (v : Int).toNat = bitsL n v := List.take_of_length_le (by rw [bitsL_len]; omega)
        show some (HO.lst (((bitsL n v).take (v : Int).toNat).map _)) = _
        rw [e, List.map_map]
        rfl
      · rw [tx_lens, List.length_map, bitsL_len, len_empty]
        omega
      · rw [show Txt.join (Str.ofString "") ((bitsL n v).map fun b => tx [b]) = tx (bitsL n v) from join_tx _]
        exact k H1 s1
def widths : List Nat := [1, 2, 3, 4, 5, 6, 8, 13, 33, 64]
def widthL (n : Int) : Nat := widths.getD (n % 10).toNat 1
theorem widthL_le (n : Int) : 1 ≤ widthL n ∧ widthL n ≤ 64 := by
  unfold widthL
  have h : (n % 10).toNat < 10 := by omega
  generalize (n % 10).toNat = j at h
  have : ∀ j, j < 10 → 1 ≤ widths.getD j 1 ∧ widths.getD j 1 ≤ 64 := by decide
  exact this j h
abbrev s_l_width : Stmt := top 34
abbrev n_l_width : List Str := ["_law_number"]
theorem sc_l_width : FnScope n_l_width ["_law_number"] (C8.fnScope s_l_width) := ⟨rfl, rfl, rfl, by decide +kernel, rfl, by decide +kernel, by decide +kernel⟩
def spLWidth : Sp := fun vs H Q _ => ∃ n : Int, vs = [.int n] ∧ ∀ H', Same H H' → Q (.int ((widthL n : Nat) : Int)) H'
theorem c_l_width (T : Glob mg) (D : Dn K mg "_law_width" s_l_width ["_law_number"]) : Cal P w K mg base 1 "_law_width" spLWidth [] := by
  refine D.cal sc_l_width (fun vs H Q E h => ?_) (fun f cdv A outer s H vs Q E hr h => ?_)
  · obtain ⟨n, rfl, _⟩ := h
    rfl
  · obtain ⟨n, rfl, k⟩ := h
    refine ⟨_, (pss_one (ps_ret (pe_ix ix_list (pe_lst (pa_cons pe_int (pa_cons pe_int (pa_cons pe_int (pa_cons pe_int (pa_cons pe_int (pa_cons pe_int (pa_cons pe_int (pa_cons pe_int (pa_cons pe_int (pa_cons pe_int pa_nil))))))))))) (pe_op op_mod (pv 0) pe_int) (fun _ _ => rfl)))), ?_⟩
    refine ⟨(by show 10 ≤ sizeLine; decide), fun p hp => ?_⟩
    refine ⟨_, rfl, _, _, rfl, rfl, (by show (0 : Int) < 10; decide), p, _, _, .int ((widthL n : Nat) : Int), rfl, rfl, SqL.of upd_same, ?_, k _ (Same_upd (Same.refl H) hp)⟩
    have e : n % 10 = (((n % 10).toNat : Nat) : Int) := by omega
    rw [e]
    refine atI_nat ?_
    unfold widthL
    have h : (n % 10).toNat < 10 := by omega
    generalize (n % 10).toNat = j at h
    have : ∀ j, j < 10 → ([V.int 1, V.int 2, V.int 3, V.int 4, V.int 5, V.int 6, V.int 8, V.int 13, V.int 33, V.int 64] : List V)[j]? = some (V.int ((widths.getD j 1 : Nat) : Int)) := by decide
    exact this j h
end
end Br

/-! the laws' own defs: starts, roads, words; roads by rows -/
namespace Br
open PySem PySem.Spec PyProof.Rows L2
open C8 (Cal Met Mak cal0 met0 mak0 pe_c pe_mk pe_mt pe_mt0 pe_gc Def)
theorem cutS_tx (b : List Bool) (lo hi : Option Int) : cutS (tx b) lo hi = tx ((b.drop (HT.sIx b.length 0 lo)).take (HT.sIx b.length b.length hi - HT.sIx b.length 0 lo)) := by
  unfold cutS
  rw [tx_len]
  unfold tx
  simp
theorem mixed_lt (c k : Int) : mixed c k < 2147483629 := by unfold mixed; omega
theorem ofs_01 : (Str.ofString "01") = tx [false, true] := tx_01.symm
theorem ofs_10 : (Str.ofString "10") = tx [true, false] := tx_10.symm
def spLaw (K : PySem.W.Frag) : Sp := fun vs H Q _ => ∃ (a : Addr) (ns : List Int), vs = [.ref a] ∧ SqL K H a (ns.map V.int) ∧ ns.length ≤ 63 ∧ ∀ H', Q (.bl true) H'
def roadMax : Nat := 18446744073709551615
section
variable {P : Program} {w : World} {K : PySem.W.Frag} {mg : Str → Option Value} {base : Heap} {CK CT : Addr}
abbrev s_l_start : Stmt := top 35
abbrev n_l_start : List Str := ["_law_base", "_law_number", "_law_wide", "_law_size", "_law_at"]
theorem sc_l_start : FnScope n_l_start ["_law_base", "_law_number"] (C8.fnScope s_l_start) := ⟨rfl, rfl, rfl, by decide +kernel, rfl, by decide +kernel, by decide +kernel⟩
def spLStart : Sp := fun vs H Q _ => ∃ (b : List Bool) (n : Nat), vs = [.str (tx b), .int (n : Int)] ∧ b.length ≤ 64 ∧ ∀ H' s, Same H H' → s.length ≤ b.length → Q (.str (tx s)) H'
theorem c_l_start (T : Glob mg) (D : Dn K mg "_law_start" s_l_start ["_law_base", "_law_number"]) : Cal P w K mg base 1 "_law_start" spLStart [] := by
  refine D.cal sc_l_start (fun vs H Q E h => ?_) (fun f cdv A outer s H vs Q E hr h => ?_)
  · obtain ⟨b, n, rfl, _⟩ := h
    rfl
  · obtain ⟨b, n, rfl, hb, k⟩ := h
    refine ⟨_, (pss_cons (ps_set (i := 2) sc_l_start.nd rfl (by first | exact Or.inl rfl | exact Or.inr rfl) (pe_callB call_len_str (by rfl) T.g_len boot_len (pa_cons (pv 0) pa_nil)))
      (pss_cons (ps_set (i := 3) sc_l_start.nd rfl (by first | exact Or.inl rfl | exact Or.inr rfl) (pe_ix ix_list (pe_lst (pa_cons (pe_op op_mod (pe_op op_fdiv (pv 1) pe_int) (pe_op op_add (pv 2) pe_int)) (pa_cons (pe_callB (call_min2 rfl) (by rfl) T.g_min (by decide +kernel) (pa_cons (pv 2) (pa_cons (pe_op op_mod (pe_op op_fdiv (pv 1) pe_int) pe_int) pa_nil))) (pa_cons (pe_callB (call_max2 rfl) (by rfl) T.g_max (by decide +kernel) (pa_cons pe_int (pa_cons (pe_op op_sub (pv 2) (pe_op op_mod (pe_op op_fdiv (pv 1) pe_int) pe_int)) pa_nil))) pa_nil)))) (pe_op op_mod (pv 1) pe_int) (fun _ _ => rfl)))
      (pss_cons (ps_set (i := 4) sc_l_start.nd rfl (by first | exact Or.inl rfl | exact Or.inr rfl) (pe_op op_mod (pe_op op_fdiv (pv 1) pe_int) (pe_callB (call_max2 rfl) (by rfl) T.g_max (by decide +kernel) (pa_cons pe_int (pa_cons (pv 3) pa_nil)))))
      (pss_cons (ps_if (PW.pt (pw_or (pt_cmpR op_eq (pv 3) pe_int (nomark _)) (pw_or1 (pt_cmpR op_eq (pe_op op_mod (pe_op op_fdiv (pv 1) pe_int) pe_int) pe_int (nomark _)))))
      (pss_one (ps_ret (pe_slice sl_str (pv 0) po_none (po_some (pv 3)))))
      pss_nil)
      (pss_one (ps_ret (pe_op op_add_str (pe_op op_add_str (pe_slice sl_str (pv 0) po_none (po_some (pv 4))) (pe_ix ix_str pe_str (pe_m1 PySem.F.slot_str_index PySem.F.type_str_index mt_sindex pe_str (pe_ix ix_str (pv 0) (pv 4) (fun _ _ => rfl))) (fun _ _ => rfl))) (pe_slice sl_str (pv 0) (po_some (pe_op op_add (pv 4) pe_int)) (po_some (pv 3)))))))))), ?_⟩
    have lb : (tx b).length ≤ sizeLine := by rw [tx_len]; exact Nat.le_trans hb (by decide)
    have eb : (((tx b).length : Nat) : Int) = (b.length : Int) := by rw [tx_len]
    refine ⟨_, rfl, _, rfl, lb, ?_⟩
    rw [eb]
    refine ⟨_, rfl, _, _, rfl, rfl, ⟨by decide, by decide⟩, _, rfl, _, _, rfl, rfl, _, _, rfl, rfl, (by show (0 : Int) < (b.length : Int) + 1; omega), ?_⟩
    refine ⟨_, rfl, _, rfl, _, _, rfl, rfl, ⟨by decide, by decide⟩, _, _, rfl, rfl, (by show (0 : Int) < 5; decide), _, _, rfl, ?_⟩
    refine ⟨_, rfl, _, rfl, _, _, rfl, rfl, ⟨by decide, by decide⟩, _, _, rfl, rfl, (by show (0 : Int) < 4; decide), _, _, rfl, rfl, _, _, rfl, ?_⟩
    refine ⟨(by show 3 ≤ sizeLine; decide), fun p hp => ?_⟩
    obtain ⟨z, hz, hzl⟩ : ∃ z : Nat, atI [V.int ((n : Int) / 7 % ((b.length : Int) + 1)), V.int (if (n : Int) / 7 % 5 < (b.length : Int) then (n : Int) / 7 % 5 else (b.length : Int)), V.int (if (b.length : Int) - (n : Int) / 7 % 4 > 0 then (b.length : Int) - (n : Int) / 7 % 4 else 0)] ((n : Int) % 3) = some (V.int (z : Int)) ∧ z ≤ b.length := by
      have e3 : (n : Int) % 3 = ((n % 3 : Nat) : Int) := by omega
      rw [e3]
      have h3 : n % 3 < 3 := Nat.mod_lt _ (by decide)
      generalize n % 3 = j at h3
      match j, h3 with
      | 0, _ => exact ⟨n / 7 % (b.length + 1), atI_nat (j := 0) (by
          show some (V.int ((n : Int) / 7 % ((b.length : Int) + 1))) = _
          rw [show (n : Int) / 7 % ((b.length : Int) + 1) = ((n / 7 % (b.length + 1) : Nat) : Int) by push_cast; rfl]), Nat.lt_succ_iff.mp (Nat.mod_lt _ (Nat.succ_pos _))⟩
      | 1, _ => exact ⟨(if (n : Int) / 7 % 5 < (b.length : Int) then (n : Int) / 7 % 5 else (b.length : Int)).toNat, atI_nat (j := 1) (by
          show some (V.int _) = some (V.int _)
          congr 2
          split <;> omega), by split <;> omega⟩
      | 2, _ => exact ⟨(if (b.length : Int) - (n : Int) / 7 % 4 > 0 then (b.length : Int) - (n : Int) / 7 % 4 else 0).toNat, atI_nat (j := 2) (by
          show some (V.int _) = some (V.int _)
          congr 2
          split <;> omega), by split <;> omega⟩
    have s1 : Same H (upd H p (.lst [V.int ((n : Int) / 7 % ((b.length : Int) + 1)), V.int (if (n : Int) / 7 % 5 < (b.length : Int) then (n : Int) / 7 % 5 else (b.length : Int)), V.int (if (b.length : Int) - (n : Int) / 7 % 4 > 0 then (b.length : Int) - (n : Int) / 7 % 4 else 0)])) := Same_upd (Same.refl H) hp
    refine ⟨_, rfl, _, _, rfl, rfl, (by show (0 : Int) < 3; decide), p, _, _, _, rfl, rfl, SqL.of upd_same, hz, ?_⟩
    generalize (upd H p _) = H1 at s1 ⊢
    have emax : (if ((z : Nat) : Int) > 1 then ((z : Nat) : Int) else 1) = ((max 1 z : Nat) : Int) := by split <;> omega
    refine ⟨_, rfl, _, _, rfl, rfl, ⟨by decide, by decide⟩, _, rfl, _, _, rfl, ?_⟩
    rw [emax]
    refine ⟨_, _, rfl, rfl, (by show (0 : Int) < ((max 1 z : Nat) : Int); omega), ?_⟩
    have eat : (n : Int) / 500 % ((max 1 z : Nat) : Int) = ((n / 500 % max 1 z : Nat) : Int) := by push_cast; rfl
    have hat : n / 500 % max 1 z < max 1 z := Nat.mod_lt _ (by omega)
    dsimp only
    rw [eat]
    generalize n / 500 % max 1 z = j at hat
    have take1 : cutS (tx b) none (some ((z : Nat) : Int)) = tx (b.take z) := by
      rw [cutS_tx, HT.sIx_none, HT.sIx_nat, Nat.sub_zero, List.drop_zero, Nat.min_eq_left (by omega)]
    refine ⟨_, rfl, rfl, _, rfl, ?_⟩
    refine ite2 (fun c => ?_) fun c => ?_
    · refine iteT ⟨_, rfl, _, rfl, _, rfl, tx b, rfl, lb, ?_⟩
      rw [take1]
      exact k _ _ s1 (by rw [List.length_take]; omega)
    · have hz0 : z ≠ 0 := fun e => c (by rw [e]; rfl)
      refine ⟨_, rfl, _, _, rfl, rfl, ⟨by decide, by decide⟩, _, _, rfl, rfl, (by show (0 : Int) < 3; decide), rfl, _, rfl, ?_⟩
      refine ite2 (fun c2 => ?_) fun c2 => ?_
      · refine ⟨_, rfl, _, rfl, _, rfl, tx b, rfl, lb, ?_⟩
        rw [take1]
        exact k _ _ s1 (by rw [List.length_take]; omega)
      · have hj : j < z := by omega
        obtain ⟨y, hy⟩ : ∃ y, b[j]? = some y := ⟨b[j], List.getElem?_eq_getElem (by omega)⟩
        have take2 : cutS (tx b) none (some ((j : Nat) : Int)) = tx (b.take j) := by
          rw [cutS_tx, HT.sIx_none, HT.sIx_nat, Nat.sub_zero, List.drop_zero, Nat.min_eq_left (by omega)]
        have ej : ((j : Nat) : Int) + 1 = ((j + 1 : Nat) : Int) := by omega
        have take3 : cutS (tx b) (some (((j : Nat) : Int) + 1)) (some ((z : Nat) : Int)) = tx ((b.drop (j + 1)).take (z - (j + 1))) := by
          rw [ej, cutS_tx, HT.sIx_nat, HT.sIx_nat, Nat.min_eq_left (by omega), Nat.min_eq_left (by omega)]
        refine ⟨_, rfl, _, rfl, _, rfl, tx b, rfl, lb, ⟨_, rfl⟩, _, rfl, _, rfl, _, _, bc y, rfl, rfl, lb, ?_, _, _, (if y then 1 else 0), [], rfl, rfl, ?_, ?_⟩
        · rw [tx_cps]
          exact atI_nat (by rw [List.getElem?_map, hy]; rfl)
        · rw [ofs_01]
          exact bits_index y
        · refine ⟨_, _, bc (!y), rfl, rfl, (by decide +kernel), ?_, _, _, rfl, rfl, ?_, _, rfl, _, rfl, _, _, rfl, rfl, _, rfl, _, rfl, _, rfl, tx b, rfl, lb, ?_⟩
          · rw [ofs_10, tx_cps]
            refine atI_nat ?_
            cases y <;> rfl
          · rw [take2, tx_len]
            refine Nat.le_trans (m := 64 + 1) (Nat.add_le_add (by rw [List.length_take]; omega) (Nat.le_refl 1)) (by decide)
          · rw [take2, take3, tx_one, tx_append]
            refine ⟨_, _, rfl, rfl, ?_, ?_⟩
            · rw [tx_len, tx_len, List.length_append, List.length_take, List.length_take]
              exact Nat.le_trans (m := 200) (by simp only [List.length_singleton]; omega) (by decide)
            · rw [tx_append]
              refine k _ _ s1 ?_
              simp only [List.length_append, List.length_take, List.length_drop, List.length_singleton]
              omega
abbrev s_l_roads : Stmt := top 36
abbrev n_l_roads : List Str := ["_law_seed"]
theorem sc_l_roads : FnScope n_l_roads ["_law_seed"] (C8.fnScope s_l_roads) := ⟨rfl, rfl, rfl, by decide +kernel, rfl, by decide +kernel, by decide +kernel⟩
def spLRoads : Sp := fun vs H Q _ => ∃ n : Nat, vs = [.int (n : Int)] ∧ ∀ H' p (rs : List Nat), Same H H' → H p = none → H' p = some (.lst (rs.map fun r : Nat => V.int (r : Int))) → rs.length = 3 → (∀ r ∈ rs, r ≤ roadMax) → Q (.ref p) H'
theorem c_l_roads (T : Glob mg) (D : Dn K mg "_law_roads" s_l_roads ["_law_seed"]) (c_l_mixed : Cal P w K mg base 1 "_law_mixed" spMixed []) : Cal P w K mg base 2 "_law_roads" spLRoads [] := by
  refine D.cal sc_l_roads (fun vs H Q E h => ?_) (fun f cdv A outer s H vs Q E hr h => ?_)
  · obtain ⟨n, rfl, _⟩ := h
    rfl
  · obtain ⟨n, rfl, k⟩ := h
    refine ⟨_, (pss_one (ps_ret (pe_lst (pa_cons (pe_op op_mod (pe_op op_mul (pe_c c_l_mixed hr (by first | decide | omega) rfl (pa_cons (pv 0) (pa_cons pe_int pa_nil))) pe_int) (pe_op op_pow pe_int pe_int)) (pa_cons (pe_ix ix_list (pe_lst (pa_cons pe_int (pa_cons pe_int (pa_cons (pe_op op_sub (pe_op op_pow pe_int pe_int) pe_int) pa_nil)))) (pe_op op_mod (pv 0) pe_int) (fun _ _ => rfl)) (pa_cons (pe_op op_mod (pe_c c_l_mixed hr (by first | decide | omega) rfl (pa_cons (pv 0) (pa_cons pe_int pa_nil))) pe_int) pa_nil)))))), ?_⟩
    have m1 := mixed_lt (n : Int) 90
    have m2 := mixed_lt (n : Int) 91
    refine ⟨_, rfl, (n : Int), 90, rfl, ⟨by decide, by decide⟩, _, _, rfl, rfl, .inl ⟨by omega, by omega⟩, _, _, rfl, rfl, ⟨by decide, by decide, by decide⟩, _, _, rfl, rfl, (by show (0 : Int) < 2 ^ 64; decide), ?_⟩
    refine ⟨_, _, rfl, rfl, ⟨by decide, by decide, by decide⟩, _, _, rfl, rfl, (by show 3 ≤ sizeLine; decide), fun p hp => ?_⟩
    have h3 : n % 3 < 3 := Nat.mod_lt _ (by decide)
    obtain ⟨z, hz, hzl⟩ : ∃ z : Nat, atI [V.int 0, V.int 1, V.int (2 ^ (64 : Int).toNat - 1)] ((n : Int) % 3) = some (V.int (z : Int)) ∧ z ≤ roadMax := by
      have e3 : (n : Int) % 3 = ((n % 3 : Nat) : Int) := by omega
      rw [e3]
      generalize n % 3 = j at h3
      match j, h3 with
      | 0, _ => exact ⟨0, atI_nat (j := 0) rfl, by decide⟩
      | 1, _ => exact ⟨1, atI_nat (j := 1) rfl, by decide⟩
      | 2, _ => exact ⟨roadMax, atI_nat (j := 2) rfl, by decide⟩
    refine ⟨_, rfl, _, _, rfl, rfl, (by show (0 : Int) < 3; decide), p, _, _, _, rfl, rfl, SqL.of upd_same, hz, ?_⟩
    have s1 : Same H (upd H p (.lst [V.int 0, V.int 1, V.int (2 ^ (64 : Int).toNat - 1)])) := Same_upd (Same.refl H) hp
    refine ⟨_, rfl, (n : Int), 91, rfl, ⟨by decide, by decide⟩, _, _, rfl, rfl, (by show (0 : Int) < 5; decide), (by show 3 ≤ sizeLine; decide), fun q hq => ?_⟩
    refine k _ q [mixed (n : Int) 90 * 8589934583 % 2 ^ 64, z, mixed (n : Int) 91 % 5] (Same_upd s1 hq) (s1.free hq) ?_ rfl ?_
    · rw [upd_same]
      have e64 : (2 : Int) ^ (64 : Int).toNat = 18446744073709551616 := by decide
      have e64' : (2 : Nat) ^ 64 = 18446744073709551616 := by decide
      have a1 : ((mixed (n : Int) 90 : Nat) : Int) * 8589934583 % 2 ^ (64 : Int).toNat = ((mixed (n : Int) 90 * 8589934583 % 2 ^ 64 : Nat) : Int) := by rw [e64, e64']; omega
      have a3 : ((mixed (n : Int) 91 : Nat) : Int) % 5 = ((mixed (n : Int) 91 % 5 : Nat) : Int) := by omega
      dsimp only
      rw [a1, a3]
      rfl
    · intro r hr
      simp only [List.mem_cons, List.not_mem_nil, or_false] at hr
      rcases hr with e | e | e
      · rw [e]
        have h := Nat.mod_lt (mixed (n : Int) 90 * 8589934583) (show 0 < 18446744073709551616 by decide)
        rw [show (2 : Nat) ^ 64 = 18446744073709551616 by decide]
        exact Nat.le_of_lt_succ h
      · rw [e]
        exact hzl
      · rw [e]
        exact Nat.le_trans (Nat.le_of_lt (Nat.mod_lt _ (by decide))) (by decide : 5 ≤ roadMax)
end
end Br

/-! Rules: set(list of ints), sorted(set of ints) of any size. The first follows the hand layer's rule for a tuple. -/
namespace Br
open PySem PySem.Spec PyProof.Rows L2
section
variable {P : Program} {w : World} {A : Around} {E : Value → Shared → Prop} {s : Shared}
set_option maxHeartbeats 6400000 in
theorem call_set_ints {l : Addr} {items : Array Value} (ns : List Int) {Q : Value → Shared → Prop} (hh : A.handled = none) (hl : s.heap.IsList l items) (hit : IntsAre items.toList ns) (hb : ns.length + 1 < scanBound)
    (h : ∀ (h' : Heap) (tk c : Nat), SetR w h' s.heap.objs.size (fun j => decide (j ∈ ns)) c → c ≤ ns.length → (∀ b o, s.heap.get? b = some o → h'.get? b = some o) → Q (.ref s.heap.objs.size) { s with heap := h', toks := tk }) :
    wpAny (model P w) A (call (.type "set") [.ref l]) Q E s := by
  have hisz : items.size = ns.length := by have q := IntsAre.length hit; rw [Array.length_toList] at q; exact q
  let o0 : Obj := { cls := .type "set", dict := none, data := .set #[] 0 (.fresh 0 0 (!w.params.followText "set-order")) }
  have hS : (s.heap.push o0).get? s.heap.objs.size = some o0 := Heap.get?_push_size _ rfl
  obtain ⟨c, tl, hmro⟩ := F.called_set.mro
  have hmade := F.called_set.made
  have hsub := F.called_set.sub
  refine wpAny_call (codeAny_of_tree ?_)
  show wpAny _ _ (callAny (.type "set") _) _ _ _
  refine wpAny_pure ⟨Code.quiet_builtin _ (by decide +kernel), codeAny_builtin F.entry_type_call ?_⟩
  rw [Around.under_plain (weight_type_call_type "set" [.ref l] []) rfl]
  have h1 := F.called_set.notType
  have h2 := F.called_set.canCreate
  have hct := F.typeCall_set_1 (.ref l)
  repeat (any_goals (first | assumption | wp_step))
  refine codeAny_mono (code_set_led1 (.ref l) (E := E) (Q₁ := fun obj s₁ => obj = .ref s.heap.objs.size ∧ s₁ = { s with heap := s.heap.push o0 }) ⟨rfl, rfl⟩) fun r s₁ hr => ?_
  cases r with
  | error e => exact hr
  | ok fl =>
    cases fl with
    | ret obj =>
      obtain ⟨rfl, rfl⟩ := hr
      have hT : Shared.TypeIs { s with heap := s.heap.push o0 } (.ref s.heap.objs.size) "set" := ⟨_, hS, rfl⟩
      have hli := F.called_set.init.lookup
      have hbi := F.called_set.init.bind (.ref s.heap.objs.size)
      repeat (any_goals (first | assumption | wp_step))
      refine codeAny_mono (codeAny_call_builtin (R := wants (fun r s₂ => r = .none ∧ ∃ h' tk c, s₂ = { s with heap := h', toks := tk } ∧ SetR w h' s.heap.objs.size (fun j => decide (j ∈ ns)) c ∧ c ≤ ns.length ∧
          (∀ b o, s.heap.get? b = some o → h'.get? b = some o)) E) F.called_set.init.plain F.entry_set_init (check_set_init_1 hT ?_)) fun r₂ s₂ hr₂ => ?_
      · obtain ⟨ol, hol, hcl, nl, hdl⟩ := hl
        obtain ⟨ocls, odict, odata, oslots⟩ := ol
        simp only at hcl hdl
        subst hcl; subst hdl
        have hol' : (s.heap.push o0).get? l = some { cls := .type "list", dict := odict, data := .seq items nl, slots := oslots } := Heap.get?_push_of_some _ hol
        have hsls := F.sub_list_set
        have hslf := F.sub_list_frozenset
        have hne : (Value.type "list" == Value.type "dict") = false := by decide
        have hl1 : (s.heap.push o0).IsList l items := ⟨_, hol', rfl, nl, rfl⟩
        unfold Builtin.«set.__init__» noKeywords Builtin.Frozenset.updateFrom
        generalize hPI : pyIter = PI
        wp_walk
        subst hPI
        refine wpAny_pyIter_list hl1 ?_
        refine wpAny_bind (wpAny_runValue ?_)
        have hlS : l < s.heap.objs.size := Heap.lt_size hol
        have hh3 : A.in1.in1.in1.handled = none := by simp [hh]
        have hz1 : (s.heap.push o0).objs.size = s.heap.objs.size + 1 := Heap.size_push ..
        have hneI : l ≠ (s.heap.push o0).objs.size := by rw [hz1]; exact Nat.ne_of_lt (Nat.lt_succ_of_lt hlS)
        have hSf : s.heap.objs.size ∉ [(s.heap.push o0).objs.size, l] := by
          rw [hz1]
          simp only [List.mem_cons, List.mem_singleton, List.not_mem_nil, or_false, not_or]
          exact ⟨Nat.ne_of_lt (Nat.lt_succ_self _), Nat.ne_of_gt hlS⟩
        have hval : ∀ (i : Nat) (v : Value), items[i]? = some v → ∃ k t, ns[i]? = some k ∧ v = .int k t := fun i v hv => by
          have hi : i < ns.length := by rw [← hisz]; exact (Array.getElem?_eq_some_iff.mp hv).1
          obtain ⟨t, e⟩ := PyProof.Rows.IntsAre.int_at hit i v (by rw [Array.getElem?_toList]; exact hv)
          refine ⟨ns[i], t, List.getElem?_eq_getElem hi, ?_⟩
          rw [e, List.getD_eq_getElem?_getD, List.getElem?_eq_getElem hi] <;> rfl
        refine set_update_ints ((Walks.list hh3 _ l hneI items).toS) s.heap.objs.size hSf ns hisz hb hval (items.size - 0) 0 _ (by omega) (Nat.zero_le _)
          ⟨⟨_, Heap.get?_push_size _ rfl, rfl, rfl⟩, (hl1.push _)⟩ ?hS0 ?hR
        case hS0 =>
          have hget : ((s.heap.push o0).push { cls := .type "list_iterator", data := .fields #[.ref l, .int 0 0] }).get? s.heap.objs.size = some o0 := Heap.get?_push_of_some _ hS
          exact ⟨0, Nat.le_refl 0, setR_new_at hget⟩
        case hR =>
          intro s' c' hm hc' hS'
          obtain ⟨h', g2, d', tk', os'⟩ := s'
          have eg : g2 = s.gens := hm.gens
          have ed : d' = s.drawn := hm.drawn
          have eo : os' = s.os := hm.os
          subst eg; subst ed; subst eo
          show wpAny _ _ _ _ _ _
          refine wpAny_pure ?_
          show wpAny _ _ (ret Value.none) _ _ _
          rw [hisz] at hc'
          refine wpAny_pure ⟨rfl, h', tk', c', rfl, hS', hc', fun b o e => ?_⟩
          have hb0 : b < s.heap.objs.size := Heap.lt_size e
          exact hm.heap b o (by
            simp only [List.mem_cons, List.mem_singleton, List.not_mem_nil, or_false, not_or]
            exact ⟨Nat.ne_of_lt hb0, by rw [hz1]; exact Nat.ne_of_lt (Nat.lt_succ_of_lt hb0)⟩) (Heap.get?_push_of_some _ (Heap.get?_push_of_some _ e))
      · cases r₂ with
        | error e => exact hr₂
        | ok fl₂ =>
          cases fl₂ with
          | ret r =>
            obtain ⟨rfl, h', tk, c', rfl, hS', hc', hk'⟩ := hr₂
            repeat (any_goals (first | assumption | wp_step))
            exact h _ _ _ hS' hc' hk'
          | _ => exact hr₂.elim
    | _ => exact hr.elim
/-- sorted(set of ints), however many -/
theorem sorted_setN {a : Addr} {S : Int → Bool} {n : Nat} {Q : Value → Shared → Prop} (R : SetR w s.heap a S n) (hh : A.handled = none) (hn : n ≤ 4000)
    (hQ : ∀ s' p (out : Array Value) (c : Nat) (ns : List Int), (∀ b o, s.heap.get? b = some o → s'.heap.get? b = some o) → s'.gens = s.gens → s'.os = s.os → s.heap.objs.size ≤ p →
      s'.heap.get? p = some (seqObj "list" out c) → IntsAre out.toList ns → ns.Pairwise (· < ·) → (∀ k, k ∈ ns ↔ S k = true) → ns.length = n → Q (.ref p) s') :
    wpAny (model P w) A (call (.builtin "sorted") [.ref a]) Q E s := by
  obtain ⟨o, es, ep, t, ho, hex, hd, g, nd, hm, hb, hf, hsz, hr, hl⟩ := R
  refine Calls.call_function_entry kind_sorted plain_sorted entry_sorted (args_sorted1 _) ?_
  unfold Builtin.«sorted»
  refine wpAny_bind (m := checkCount "sorted" 1 1 _) (wpAny_pure ?_)
  refine wpAny_bind (collect_set (A := A.in1) hh ⟨o, ho, hex.1, hd⟩ hf hb hr hl fun s1 vs k1 hz g1 o1 pm => ?_)
  have hvl : vs.length = n := by rw [pm.length_eq, List.length_map, Array.length_toList]; exact hsz
  have hI : IntsAre vs (vs.map Builtin.Re.reRawOf) := ints_of vs fun v hv => by
    obtain ⟨e, he, q⟩ := List.mem_map.mp (pm.mem_iff.mp hv)
    obtain ⟨k, tk, h1, _⟩ := g e he
    exact ⟨k, tk, by rw [← q]; exact h1⟩
  have pk : (vs.map Builtin.Re.reRawOf).Perm (es.toList.map keyOf) := by
    have q := pm.map Builtin.Re.reRawOf
    rw [List.map_map] at q
    exact q
  have hfit : vs.length ≤ sizeLine := by rw [hvl, sizeLine_eq]; omega
  refine wpAny_bind (wpAny_newList ?_ hfit)
  have hoL : (s1.heap.push (seqObj "list" vs.toArray 0)).get? s1.heap.objs.size = some (seqObj "list" vs.toArray 0) := Heap.get?_push_size _ rfl
  refine wpAny_bind (wpAny_holding (wpAny_call_entry slot_list_sort ⟨_, hoL, rfl⟩ entry_list_sort
    (SrtO.list_sort_ord SrtO.swo_int hoL hfit (fun h2 => SrtO.ints_sortable hI h2) fun out h1 h2 => ⟨_, rfl, ?_⟩) (args_list_sort _)))
  obtain ⟨a1, a2, a3⟩ := SrtO.ints_out hI h1 h2
  obtain ⟨c, hc⟩ := sortedHeap_at (vs := vs) (out := out.toArray) hoL
  have pn : (out.map SrtO.iv).Perm (es.toList.map keyOf) := a2.trans pk
  refine wpAny_pure ⟨_, rfl, hQ _ s1.heap.objs.size out.toArray c (out.map SrtO.iv) (fun b u e => ?_) g1 o1 hz hc (by simpa using a1) (lt_of_le_nodup _ a3 (pn.nodup_iff.mpr nd)) (fun k => by rw [pn.mem_iff, ← hm k]) ?_⟩
  · have q := k1 b u e
    have hlt := Heap.lt_size q
    show (sortedHeap (s1.heap.push (seqObj "list" vs.toArray 0)) s1.heap.objs.size vs out.toArray).get? b = some u
    rw [sortedHeap_old (Nat.ne_of_lt hlt) (by rw [size_push']; exact Nat.lt_succ_of_lt hlt)]
    exact Heap.get?_push_of_some _ q
  · rw [pn.length_eq, List.length_map, Array.length_toList]; exact hsz
end
section
variable {X : Cx}
/-- set(xs), ints -/
theorem cr_setI (hc : X.calm = true) : CallR X (.type "set") (fun vs H Q => ∃ (l : Addr) (ns : List Int), vs = [V.ref l] ∧ SqL X.K H l (ns.map V.int) ∧ ns.length ≤ 1000 ∧
    ∀ (p : Addr) (c : Nat), c ≤ ns.length → H p = none → Q (.ref p) (upd H p (SetO X.w p (fun j => decide (j ∈ ns)) c))) := by
  intro pins s σ H vs us Q I r h
  obtain ⟨l, ns, rfl, hq, hl, q⟩ := h
  rw [Vals.ref1 r]
  obtain ⟨its, rv, pt, hz⟩ := I.list hq
  refine call_set_ints ns (I.ok.hd hc) pt.isList (by simpa using ints_of_vals rv) (by unfold scanBound; omega) fun h' tk c R1 hcn k => ?_
  exact ⟨.ref _, upd H s.heap.objs.size (SetO X.w s.heap.objs.size (fun j => decide (j ∈ ns)) c), I.laid (t' := tk) k (Nat.le_refl _) (setO_new R1), rfl, q _ c hcn (I.hok.fresh (Nat.le_refl _))⟩
/-- sorted(set) -/
theorem cr_sortedSetN (hc : X.calm = true) : CallR X (.builtin "sorted") (fun vs H Q => ∃ (a : Addr) (S : Int → Bool) (n : Nat), vs = [V.ref a] ∧ H a = some (SetO X.w a S n) ∧ n ≤ 4000 ∧
    ∀ (ns : List Int) (p : Addr), ns.Pairwise (· < ·) → (∀ k : Int, k ∈ ns ↔ S k = true) → ns.length = n → H p = none → Q (.ref p) (upd H p (.lst (ns.map V.int)))) := by
  intro pins s σ H vs us Q I r h
  obtain ⟨a, S, n, rfl, ha, hn4, q⟩ := h
  have R := setO_get I ha
  rw [Vals.ref1 r]
  refine sorted_setN R (I.ok.hd hc) hn4 fun s' p out c ns k g o hp hg hi hs hm hl => ?_
  have hlen : (ns.map V.int).length ≤ sizeLine := by rw [List.length_map, hl, sizeLine_eq]; omega
  have hn : H p = none := I.hok.fresh hp
  have J : Inv X pins σ (upd H p (.lst (ns.map V.int))) { s with heap := s'.heap, gens := s'.gens, drawn := s'.drawn, toks := s'.toks } :=
    I.call (ch := []) (Un.laid k hp hn) (I.hok.laid k hp ⟨hlen, out.toList, c, vals_of_ints hi, hg⟩) (by rw [g]; exact I.bare) (fun _ z => nomatch z)
  have e : s' = { s with heap := s'.heap, gens := s'.gens, drawn := s'.drawn, toks := s'.toks } := by
    cases s'
    cases s
    cases o
    rfl
  rw [e]
  exact ⟨.ref p, _, J, rfl, q ns p hs hm hl hn⟩
end
end Br

/-! what is plain; rows drawn, tables made of them -/
namespace Br
open PySem PySem.Spec PyProof.Rows L2
open C8 (Cal Met Mak cal0 met0 mak0 pe_c pe_mk pe_mt pe_mt0 pe_gc Def)
/-- a number or None -/
def nob : V → Bool
  | .int _ => true | .non => true | _ => false
theorem nob_ov (g : Option Nat) : nob (ov g) = true := by cases g <;> rfl
theorem nob_ty {K : PySem.W.Frag} {H : Hp} {x : V} (h : nob x = true) : ∃ n, TyX K H x (.type n) ∧ PySem.W.kitOne K (.type n) (.type "bool") = some false := by
  cases x with
  | int i => exact ⟨_, .base (.int i), kit_ty (r := false) (by decide +kernel)⟩
  | non => exact ⟨_, .base .non, kit_ty (r := false) (by decide +kernel)⟩
  | _ => cases h
theorem nob3 {L : List St3} : ∀ row ∈ L.map row3, row.all nob = true := fun row h => by
  obtain ⟨⟨a, l, r⟩, _, rfl⟩ := List.mem_map.mp h
  cases r <;> rfl
theorem nob4 {L : List Df4} : ∀ row ∈ L.map row4, row.all nob = true := fun row h => by
  obtain ⟨⟨a, l, r, q⟩, _, rfl⟩ := List.mem_map.mp h
  cases r <;> cases q <;> rfl
theorem rput_new {rows : RowL} {s : List Bool} (x : Nat) (h : rget rows s = none) : rput rows s x = rows ++ [(s, x)] := by
  unfold rput
  rw [rany, h]
  rfl
section
variable {P : Program} {w : World} {K : PySem.W.Frag} {mg : Str → Option Value} {base : Heap} {CK CT : Addr}
/-- rows that may be put -/
structure RowsOk (v : Nat) (rows : RowL) : Prop where
  nd : (rows.map (·.1)).Nodup
  len : ∀ r ∈ rows, r.1.length ≤ v
  max : ∀ r ∈ rows, r.2 ≤ roadMax
theorem RowsOk.put {v : Nat} {rows : RowL} (h : RowsOk v rows) {s : List Bool} {x : Nat} (hs : s.length ≤ v) (hx : x ≤ roadMax) : RowsOk v (rput rows s x) := by
  refine ⟨?_, Wd.put_len h.len hs x, fun r hr => ?_⟩
  · rw [rput_keys]
    split
    · exact h.nd
    · rename_i hn
      refine List.nodup_append.mpr ⟨h.nd, by simp, fun a ha b hb e => ?_⟩
      have hb : b = s := by simpa using hb
      have hs : rget rows s = none := by
        cases q : rget rows s with
        | none => rfl
        | some y => rw [q] at hn; exact (hn rfl).elim
      exact rget_none.mp hs (by rw [← hb, ← e]; exact ha)
  · unfold rput at hr
    split at hr
    · obtain ⟨r', hr', rfl⟩ := List.mem_map.mp hr
      split
      · exact hx
      · exact h.max r' hr'
    · rcases List.mem_append.mp hr with hr | hr
      · exact h.max r hr
      · rw [List.mem_singleton.mp hr]; exact hx
theorem RowsOk.drop {v : Nat} {rows : RowL} (h : RowsOk v rows) (s : List Bool) : RowsOk v (rdrop rows s) :=
  ⟨List.Nodup.sublist (List.Sublist.map _ List.filter_sublist) h.nd, Wd.drop_len h.len s, fun r hr => h.max r (List.mem_filter.mp hr).1⟩
theorem RowsOk.get {v : Nat} {rows : RowL} (h : RowsOk v rows) {r : List Bool × Nat} (hr : r ∈ rows) : rget rows r.1 = some r.2 := by
  have hn := h.nd
  clear h
  induction rows with
  | nil => cases hr
  | cons r0 rows ih =>
    rw [rget_cons]
    obtain ⟨n1, n2⟩ := List.nodup_cons.mp hn
    rcases List.mem_cons.mp hr with e | hr
    · rw [e, if_pos rfl]
    · rw [if_neg fun e => n1 (by show r0.1 ∈ _; rw [e]; exact List.mem_map.mpr ⟨r, hr, rfl⟩)]
      exact ih hr n2
abbrev s_l_drawn : Stmt := top 37
abbrev n_l_drawn : List Str := ["_law_cells", "_law_seed", "_law_wide", "_law_base", "_law_roads_here", "_law_rows", "_law_k", "_law_cell", "_law_number", "_law_start_here"]
theorem sc_l_drawn : FnScope n_l_drawn ["_law_cells", "_law_seed", "_law_wide"] (C8.fnScope s_l_drawn) := ⟨rfl, rfl, rfl, by decide +kernel, rfl, by decide +kernel, by decide +kernel⟩
def spDrawn (K : PySem.W.Frag) : Sp := fun vs H Q _ => ∃ (a : Addr) (ns : List Int) (seed v : Nat), vs = [.ref a, .int (seed : Int), .int (v : Int)] ∧ SqL K H a (ns.map V.int) ∧ ns.length ≤ 63 ∧ 1 ≤ v ∧ v ≤ 64 ∧
  ∀ H' d rows, Same H H' → H d = none → H' d = some (.dK (RK rows)) → RowsOk v rows → rows.length ≤ ns.length → Q (.ref d) H'
theorem c_l_drawn (T : Glob mg) (D : Dn K mg "_law_drawn" s_l_drawn ["_law_cells", "_law_seed", "_law_wide"]) (c_l_mixed : Cal P w K mg base 1 "_law_mixed" spMixed []) (c_l_bits : Cal P w K mg base 2 "_law_bits" spLBits []) (c_l_start : Cal P w K mg base 1 "_law_start" spLStart []) (c_l_roads : Cal P w K mg base 2 "_law_roads" spLRoads []) : Cal P w K mg base 3 "_law_drawn" (spDrawn K) [] := by
  refine D.cal sc_l_drawn (fun vs H Q E h => ?_) (fun f cdv A outer s0 H vs Q E hr h => ?_)
  · obtain ⟨a, ns, seed, v, rfl, _⟩ := h
    rfl
  · obtain ⟨a, ns, seed, v, rfl, ha, hns, w1, w2, k⟩ := h
    have hu := hu_of hr
    refine ⟨_, (pss_cons (ps_set (i := 3) sc_l_drawn.nd rfl (by first | exact Or.inl rfl | exact Or.inr rfl) (pe_c c_l_bits hr (by first | decide | omega) rfl (pa_cons (pv 1) (pa_cons (pv 2) pa_nil))))
      (pss_cons (ps_set (i := 4) sc_l_drawn.nd rfl (by first | exact Or.inl rfl | exact Or.inr rfl) (pe_c c_l_roads hr (by first | decide | omega) rfl (pa_cons (pv 1) pa_nil)))
      (pss_cons (ps_set (i := 5) sc_l_drawn.nd rfl (by first | exact Or.inl rfl | exact Or.inr rfl) pe_dnewK)
      (pss_cons (ps_for PassesOwn.never rfl (pi_enum rfl T.g_enumerate (pa_cons (pv 0) pa_nil)) (pg_tup rfl (pgs_cons (pg_name (i := 6) sc_l_drawn.nd rfl (by first | exact Or.inl rfl | exact Or.inr rfl)) (pgs_cons (pg_name (i := 7) sc_l_drawn.nd rfl (by first | exact Or.inl rfl | exact Or.inr rfl)) pgs_nil)))
      (pss_cons (ps_set (i := 8) sc_l_drawn.nd rfl (by first | exact Or.inl rfl | exact Or.inr rfl) (pe_c c_l_mixed hr (by first | decide | omega) rfl (pa_cons (pv 7) (pa_cons (pv 6) pa_nil))))
      (pss_cons (ps_set (i := 9) sc_l_drawn.nd rfl (by first | exact Or.inl rfl | exact Or.inr rfl) (pe_c c_l_start hr (by first | decide | omega) rfl (pa_cons (pv 3) (pa_cons (pv 8) pa_nil))))
      (pss_one (ps_if (PW.pt (pw_and (pt_cmpR op_eq (pe_op op_mod (pe_op op_fdiv (pv 8) pe_int) pe_int) pe_int (nomark _)) (pw_and1 (pt_cmpR (op_ne_d hu) (pv 5) pe_dnewK (nomark _)))))
      (pss_one (ps_expr (pe_dpop1 (pv 5) (pe_ix ix_list (pe_callTy (call_listD rfl) (by rfl) T.g_list (by decide +kernel) (pa_cons (pv 5) pa_nil)) (pe_op op_mod (pe_op op_fdiv (pv 8) pe_int) (pe_callB call_lenD (by rfl) T.g_len boot_len (pa_cons (pv 5) pa_nil))) (fun _ _ => rfl)) ⟨rfl, rfl, rfl, rfl⟩)))
      (pss_one (ps_dput hu (pv 5) (pv 9) (pe_ix ix_list (pv 4) (pe_op op_mod (pe_op op_fdiv (pv 8) pe_int) pe_int) (fun _ _ => rfl)) rfl)))))))
      (pss_one (ps_ret (pv 5))))))), ?_⟩
    refine ⟨_, rfl, _, rfl, (seed : Int), v, rfl, w2, fun H1 s1 => ?_⟩
    have lb := bitsL_len (seed : Int) v
    generalize bitsL (seed : Int) v = b at lb
    refine ⟨_, rfl, seed, rfl, fun H2 pr rs s2 hpr0 hpr rl rm => ?_⟩
    refine fun d hd => ?_
    have s12 := s1.trans s2
    have hd0 : H d = none := s12.free hd
    have s3 : Same H2 (upd H2 d (.dK [])) := Same_upd (Same.refl H2) hd
    have npd : pr ≠ d := ne_of_none hpr hd
    refine ⟨_, rfl, a, _, rfl, Same.seq (s12.trans s3) ha, for_it (walk_enum (K := K) (a := a) (xs := ns.map V.int)) (fun i σ H' => ∃ (l : List (Option V)) (rows : RowL), l.length = 4 ∧ σ = some (.ref a) :: some (.int (seed : Int)) :: some (.int (v : Int)) :: some (.str (tx b)) :: some (.ref pr) :: some (.ref d) :: l ∧ Same H H' ∧ H' pr = some (.lst (rs.map fun r : Nat => V.int (r : Int))) ∧
        H' d = some (.dK (RK rows)) ∧ RowsOk v rows ∧ rows.length ≤ i) ⟨_, [], by rfl, rfl, s12.trans s3, s3 _ _ hpr, upd_same, ⟨List.nodup_nil, fun r h => (by cases h), fun r h => (by cases h)⟩, Nat.le_refl _⟩ (fun i σ H' _ ⟨_, _, _, _, s, _⟩ => Same.seq s ha) ?_ ?_⟩
    · rintro i x σ H3 H4 hi ⟨l, rows, hl, rfl, s4, hpr4, hd4, ok, hrl⟩ ⟨tt, x0, y0, rfl, htt, rfl, ex0, ex1⟩
      cases ex0
      have ex1 : (ns.map V.int)[i]? = some y0 := ex1
      rw [List.getElem?_map] at ex1
      cases ec : ns[i]? with
      | none => rw [ec] at ex1; cases ex1
      | some c =>
        rw [ec] at ex1
        cases ex1
        have hins : i < ns.length := (List.getElem?_eq_some_iff.mp ec).1
        obtain ⟨l1, l2, l3, l4, rfl⟩ : ∃ l1 l2 l3 l4, l = [l1, l2, l3, l4] := by
          match l, hl with
          | [l1, l2, l3, l4], _ => exact ⟨_, _, _, _, rfl⟩
        have s5 : Same H3 (upd H3 tt (.tup [.int (i : Nat), .int c])) := Same_upd (Same.refl H3) htt
        refine ⟨tt, _, rfl, SqT.of upd_same, rfl, _, _, rfl, _, _, rfl, rfl, ?_⟩
        have s45 := s4.trans s5
        have hpr5 := s5 _ _ hpr4
        have hd5 := s5 _ _ hd4
        generalize (upd H3 tt (.tup [.int (i : Nat), .int c])) = H5 at s45 hpr5 hd5 ⊢
        refine ⟨_, rfl, _, rfl, c, _, rfl, ⟨by omega, by omega⟩, ?_⟩
        have hm := mixed_lt c (i : Nat)
        generalize mixed c (i : Nat) = m at hm
        refine ⟨_, rfl, _, rfl, b, m, rfl, by omega, fun H6 s s6 hs => ?_⟩
        have s46 := s45.trans s6
        have hpr6 := s6 _ _ hpr5
        have hd6 := s6 _ _ hd5
        have lenR : (RK rows).length < sizeLine := by rw [RK_len]; exact Nat.lt_of_le_of_lt (by omega : rows.length ≤ 100) (by decide)
        obtain ⟨rd, hrd, hrdm⟩ : ∃ rd : Nat, atI (rs.map fun r : Nat => V.int (r : Int)) ((m : Int) / 13 % 3) = some (V.int (rd : Int)) ∧ rd ≤ roadMax := by
          have hj : m / 13 % 3 < rs.length := by rw [rl]; exact Nat.mod_lt _ (by decide)
          refine ⟨rs[m / 13 % 3], ?_, rm _ (List.getElem_mem _)⟩
          rw [show (m : Int) / 13 % 3 = ((m / 13 % 3 : Nat) : Int) by omega]
          exact atI_nat (by rw [List.getElem?_map, List.getElem?_eq_getElem hj]; rfl)
        have put : ∀ H7, Same H H7 → H7 pr = some (.lst (rs.map fun r : Nat => V.int (r : Int))) → H7 d = some (.dK (RK rows)) → ∃ (l : List (Option V)) (rows' : RowL), l.length = 4 ∧ [some (.ref a), some (.int (seed : Int)), some (.int (v : Int)), some (.str (tx b)), some (.ref pr), some (.ref d), some (.int (i : Int)), some (.int c), some (.int (m : Int)), some (.str (tx s))] = some (.ref a) :: some (.int (seed : Int)) :: some (.int (v : Int)) :: some (.str (tx b)) :: some (.ref pr) :: some (.ref d) :: l ∧ Same H (upd H7 d (.dK (RK (rput rows s rd)))) ∧
            (upd H7 d (.dK (RK (rput rows s rd)))) pr = some (.lst (rs.map fun r : Nat => V.int (r : Int))) ∧ (upd H7 d (.dK (RK (rput rows s rd)))) d = some (.dK (RK rows')) ∧ RowsOk v rows' ∧ rows'.length ≤ i + 1 := fun H7 s7 hp7 hd7 => by
          refine ⟨_, rput rows s rd, by rfl, rfl, Same_mut s7 hd0, (upd_ne npd).trans hp7, upd_same, ok.put (by omega) hrdm, ?_⟩
          rw [rput_len]
          split <;> omega
        refine ⟨_, rfl, _, _, rfl, rfl, ⟨by decide, by decide⟩, _, _, rfl, rfl, (by show (0 : Int) < 7; decide), rfl, _, rfl, ?_⟩
        refine ite2 (fun c1 => ?_) fun c1 => ?_
        · refine ⟨_, rfl, fun q hq => ?_⟩
          have sq : Same H6 (upd H6 q (.dK [])) := Same_upd (Same.refl H6) hq
          refine ⟨d, q, _, rfl, rfl, sq _ _ hd6, upd_same, _, rfl, ?_⟩
          have s47 := s46.trans sq
          have hpr7 := sq _ _ hpr6
          have hd7 := sq _ _ hd6
          generalize (upd H6 q (.dK [])) = H7 at s47 hpr7 hd7 ⊢
          refine ite2 (fun c2 => ?_) fun c2 => ?_
          · have pos : 0 < rows.length := by
              rw [← RK_len]
              refine List.length_pos_iff.mpr fun e => ?_
              rw [e] at c2
              cases c2
            obtain ⟨y, hy⟩ : ∃ y, rows[m / 77 % rows.length]? = some y := ⟨_, List.getElem?_eq_getElem (Nat.mod_lt _ pos)⟩
            have hval : valV (RK rows) (.inr (tx y.1)) = some (V.int (y.2 : Int)) := by rw [RK_get, ok.get (List.mem_of_getElem? hy)]; rfl
            refine ⟨_, rfl, d, rfl, .inl ⟨_, .inl hd7⟩, _, rfl, d, _, rfl, .inl hd7, fun q2 hq2 => ?_⟩
            have sq2 : Same H7 (upd H7 q2 (.lst ((RK rows).map fun kv => kV kv.1))) := Same_upd (Same.refl H7) hq2
            refine ⟨_, rfl, _, _, rfl, rfl, ⟨by decide, by decide⟩, _, rfl, d, _, rfl, sq2 _ _ hd7, _, _, rfl, rfl, (by show (0 : Int) < ((RK rows).length : Int); rw [RK_len]; omega), q2, _, _, .str (tx y.1), rfl, rfl, SqL.of upd_same, ?_, _, .inr (tx y.1), _, sq2 _ _ hd7, rfl, hval, ?_⟩
            · rw [RK_len, show (m : Int) / 77 % (rows.length : Int) = ((m / 77 % rows.length : Nat) : Int) by push_cast; rfl]
              refine atI_nat ?_
              unfold RK
              rw [List.getElem?_map, List.getElem?_map, hy]
              rfl
            · rw [RK_drop]
              refine ⟨_, rdrop rows y.1, by rfl, rfl, Same_mut (s47.trans sq2) hd0, (upd_ne npd).trans (sq2 _ _ hpr7), upd_same, ok.drop y.1, ?_⟩
              have := rdrop_len (s := y.1) ok.nd
              omega
          · refine ⟨_, rfl, _, rfl, _, _, rfl, rfl, ⟨by decide, by decide⟩, _, _, rfl, rfl, (by show (0 : Int) < 3; decide), pr, _, _, _, rfl, rfl, SqL.of hpr7, hrd, ?_⟩
            refine ⟨_, rfl, _, rfl, d, _, rfl, DPut.k (k := (.inr (tx s) : Key)) hd7 lenR, ?_⟩
            rw [RK_put]
            exact put H7 s47 hpr7 hd7
        · refine ⟨_, rfl, _, rfl, _, _, rfl, rfl, ⟨by decide, by decide⟩, _, _, rfl, rfl, (by show (0 : Int) < 3; decide), pr, _, _, _, rfl, rfl, SqL.of hpr6, hrd, ?_⟩
          refine ⟨_, rfl, _, rfl, d, _, rfl, DPut.k (k := (.inr (tx s) : Key)) hd6 lenR, ?_⟩
          rw [RK_put]
          exact put H6 s46 hpr6 hd6
    · rintro σ H3 ⟨l, rows, hl, rfl, s4, hpr4, hd4, ok, hrl⟩
      rw [List.length_map] at hrl
      exact ⟨_, rfl, k H3 d rows s4 hd0 hd4 ok hrl⟩
abbrev s_l_table : Stmt := top 38
abbrev n_l_table : List Str := ["_law_rows", "_law_wide", "_law_table_here", "_law_start_here"]
theorem sc_l_table : FnScope n_l_table ["_law_rows", "_law_wide"] (C8.fnScope s_l_table) := ⟨rfl, rfl, rfl, by decide +kernel, rfl, by decide +kernel, by decide +kernel⟩
def spLTable (CK CT : Addr) : Sp := fun vs H Q _ => ∃ (d : Addr) (rows : RowL) (v : Nat), vs = [.ref d, .int (v : Int)] ∧ H d = some (.dK (RK rows)) ∧ RowsOk v rows ∧ rows.length ≤ 250 ∧ 1 ≤ v ∧ v ≤ 64 ∧
  ∀ H' T t, Same H H' → (∀ a ∈ T :: AT.fp t, H a = none) → Tab CK CT H' T v t → Agr rows t.tr → t.tr.size ≤ 1 + 66 * rows.length → Q (.ref T) H'
theorem c_l_table (T : Glob mg) (Tt : Ts K CT) (Kk : Ks K CK) (D : Dn K mg "_law_table" s_l_table ["_law_rows", "_law_wide"]) (c_Table : Mak P w K mg base 3 "Table" CT (spTable K CK) []) (m_put : Met P w K mg base 68 CT "put" (spTput CK CT) []) : Cal P w K mg base 69 "_law_table" (spLTable CK CT) [] := by
  refine D.cal sc_l_table (fun vs H Q E h => ?_) (fun f cdv A outer s0 H vs Q E hr h => ?_)
  · obtain ⟨d, rows, v, rfl, _⟩ := h
    rfl
  · obtain ⟨d, rows, v, rfl, hd, ok, hlen, w1, w2, k⟩ := h
    have hu := hu_of hr
    refine ⟨_, (pss_cons (ps_set (i := 2) sc_l_table.nd rfl (by first | exact Or.inl rfl | exact Or.inr rfl) (pe_mk c_Table hr (by first | decide | omega) rfl (pa_cons (pv 1) pa_nil)))
      (pss_cons (ps_lock (ps_for PassesOwn.never rfl (pi_keys (pv 0)) (pg_name (i := 3) sc_l_table.nd rfl (by first | exact Or.inl rfl | exact Or.inr rfl))
      (pss_one (ps_expr (pe_mt m_put hr (by first | decide | omega) (pv 2) (pa_cons (pv 3) (pa_cons (pe_dget hu (pv 0) (pv 3) (fun _ _ => rfl)) pa_nil)))))))
      (pss_one (ps_ret (pv 2))))), ?_⟩
    refine ⟨_, rfl, fun TA dx0 hT0 hdx0 nd0 => ⟨TA, CT, dx0, v, rfl, Tt, Kk, upd_same, w1, w2, fun H1 t0 m1 tb0 et0 fr0 => ⟨rfl, ?_⟩⟩⟩
    have s1 := mk_same hT0 hdx0 m1
    have f0 := mk_fresh hT0 hdx0 fr0
    have hd1 := s1 _ _ hd
    refine ⟨d, _, hd1, trivial, fun od => ?_⟩
    have nd0 : ∀ a ∈ TA :: t0.fp, a ≠ d := fun a ha e => by have := f0 a ha; rw [e, hd] at this; cases this
    refine ⟨_, rfl, d, od, rfl, .inl ⟨RK rows, upd_same, for_it walk_keys (fun i σ H' => ∃ (t : AT) (v3 : Option V), σ = [some (.ref d), some (.int (v : Int)), some (.ref TA), v3] ∧ (∀ a o, H a = some o → a ≠ d → H' a = some o) ∧ H' d = some (.frz od (.dK (RK rows))) ∧ Tab CK CT H' TA v t ∧ (∀ a ∈ TA :: t.fp, H a = none) ∧ Agr (rows.take i) t.tr ∧ t.tr.size ≤ 1 + 66 * i)
      ⟨t0, none, rfl, fun a o e n => (upd_ne n).trans (s1 _ _ e), upd_same, tb0.modd (S := [d]) (Mod.refl.upd (.inl (by simp)) fun xs z => by rw [hd1] at z; cases z) (fun a ha => by simp only [List.mem_singleton]; exact nd0 a ha), f0, by rw [et0]; exact Agr.nil, by rw [et0]; decide⟩ (fun i σ H' _ h => ?_) ?_ ?_⟩⟩
    · obtain ⟨_, _, _, _, h, _⟩ := h
      exact h
    · rintro i x σ H2 H3 hi ⟨t, v3, rfl, st, hfr, tb, fr, ag, sz⟩ ⟨rfl, kk, vv, hkk, rfl⟩
      unfold RK at hkk
      rw [List.getElem?_map] at hkk
      cases er : rows[i]? with
      | none => rw [er] at hkk; cases hkk
      | some r =>
        obtain ⟨s, x⟩ := r
        rw [er] at hkk
        cases hkk
        have hm := List.mem_of_getElem? er
        have hil := (List.getElem?_eq_some_iff.mp er).1
        obtain ⟨dT, hT⟩ := tb.obj
        have hval : some (V.int (x : Int)) = valV (RK rows) (.inr (tx s)) := by rw [RK_get, ok.get hm]; rfl
        refine ⟨_, rfl, TA, dT, _, rfl, hT, rfl, _, rfl, _, rfl, _, rfl, d, _, rfl, .inl ⟨RK rows, .inr (tx s), .inr ⟨od, hfr⟩, rfl, hval⟩, TA, v, t, s, x, rfl, tb, ok.len _ hm, ok.max _ hm, by omega, fun H4 p t' Df m4 hp np tb4 et4 fr4 hL hD => ?_⟩
        have nfd : d ∉ TA :: t.fp := fun z => by have := fr d z; rw [hd] at this; cases this
        refine ⟨t', _, rfl, fun a o e n => m4 _ _ (st a o e n) (.inl fun z => by have := fr a z; rw [e] at this; cases this), m4 _ _ hfr (.inl nfd), tb4, fun a ha => ?_, ?_, ?_⟩
        · rcases List.mem_cons.mp ha with rfl | ha
          · exact fr _ List.mem_cons_self
          · rcases fr4 a ha with z | z
            · exact fr a (List.mem_cons_of_mem _ z)
            · cases e : H a with
              | none => rfl
              | some o =>
                by_cases ed : a = d
                · rw [ed, hfr] at z; cases z
                · rw [st a o e ed] at z; cases z
        · rw [et4]
          have h1 := ag.put s x
          have h2 : rget (rows.take i) s = none := rget_none.mpr fun hm2 => by
            obtain ⟨r', hr', e⟩ := List.mem_map.mp hm2
            obtain ⟨j, hj⟩ := List.getElem?_of_mem hr'
            have hji : j < i := by have := (List.getElem?_eq_some_iff.mp hj).1; rw [List.length_take] at this; omega
            rw [List.getElem?_take_of_lt hji] at hj
            have n1 := ok.nd
            have a1 : (rows.map (·.1))[j]? = some s := by rw [List.getElem?_map, hj]; show some r'.1 = _; rw [e]
            have a2 : (rows.map (·.1))[i]? = some s := by rw [List.getElem?_map, er]; rfl
            obtain ⟨b1, b2⟩ := List.getElem?_eq_some_iff.mp a1
            obtain ⟨b3, b4⟩ := List.getElem?_eq_some_iff.mp a2
            exact (List.pairwise_iff_getElem.mp n1 j i b1 b3 hji) (b2.trans b4.symm)
          rw [rput_new x h2, ← take_snoc er] at h1
          exact h1
        · rw [et4]
          have := Tr.size_put x s t.tr
          have := ok.len _ hm
          have : s.length ≤ v := this
          omega
    · rintro σ H2 ⟨t, v3, rfl, st, hfr, tb, fr, ag, sz⟩
      refine ⟨hfr, _, rfl, ?_⟩
      rw [RK_len] at ag sz
      rw [List.take_length] at ag
      refine k _ TA t (fun a o e => ?_) fr (tb.modd (S := [d]) (Mod.refl.upd (.inl (by simp)) fun xs z => by rw [hfr] at z; cases z) (fun a ha => ?_)) ag sz
      · by_cases ed : a = d
        · subst ed; rw [upd_same, ← e, hd]
        · rw [upd_ne ed]; exact st a o e ed
      · simp only [List.mem_singleton]
        intro e
        have := fr a ha
        rw [e, hd] at this
        cases this
end
end Br

/-! The fewest rows of a tree's roads. Plain mathematics. -/
namespace Br
namespace Tr
def sortN (l : List Nat) : List Nat := l.mergeSort fun a b => decide (a ≤ b)
theorem mem_sortN {l : List Nat} {x : Nat} : x ∈ sortN l ↔ x ∈ l := (List.mergeSort_perm l _).mem_iff
theorem sortN_nil {l : List Nat} : sortN l = [] ↔ l = [] := by
  have := (List.mergeSort_perm l fun a b => decide (a ≤ b)).length_eq
  unfold sortN
  rw [← List.length_eq_zero_iff, ← List.length_eq_zero_iff, this]
def both (A B : List Nat) : List Nat := A.filter fun x => decide (x ∈ B)
theorem mem_both {A B : List Nat} {x : Nat} : x ∈ both A B ↔ x ∈ A ∧ x ∈ B := by unfold both; rw [List.mem_filter, decide_eq_true_eq]
def shared (A B : List Nat) : List Nat := if A = [] ∨ B = [] then [] else if both A B ≠ [] then both A B else sortN (A ++ B)
theorem shared_nil {A B : List Nat} : shared A B = [] ↔ A = [] ∨ B = [] := by
  unfold shared
  by_cases h : A = [] ∨ B = []
  · rw [if_pos h]; exact ⟨fun _ => h, fun _ => rfl⟩
  · rw [if_neg h]
    refine ⟨fun e => ?_, fun e => (h e).elim⟩
    split at e
    · rename_i z; exact (z e).elim
    · rw [sortN_nil] at e
      exact .inl (List.append_eq_nil_iff.mp e).1
/-- no knots beneath -/
def leaf : Tr → Bool
  | nil => true
  | nd _ nil nil => true
  | _ => false
/-- the roads of which any may come from above -/
def fset : Tr → Option Nat → List Nat
  | nil, y => y.toList
  | nd g l r, y => if (nd g l r).leaf = true then (g.or y).toList else shared (fset l (g.or y)) (fset r (g.or y))
def isIn (c : Option Nat) (S : List Nat) : Prop := ∃ x, c = some x ∧ x ∈ S
/-- a row more if c comes from above -/
noncomputable def pn (S : List Nat) (c : Option Nat) : Nat := open Classical in if S = [] ∨ isIn c S then 0 else 1
theorem pn_le (S : List Nat) (c : Option Nat) : pn S c ≤ 1 := by unfold pn; split <;> omega
theorem pn_nil (c : Option Nat) : pn [] c = 0 := by unfold pn; rw [if_pos (.inl rfl)]
theorem pn_in {S : List Nat} {c : Option Nat} (h : isIn c S) : pn S c = 0 := by unfold pn; rw [if_pos (.inr h)]
theorem pn_out {S : List Nat} {c : Option Nat} (n : S ≠ []) (h : ¬ isIn c S) : pn S c = 1 := by unfold pn; rw [if_neg (fun z => z.elim n h)]
theorem not_in_none (S : List Nat) : ¬ isIn none S := fun ⟨x, e, _⟩ => by cases e
/-- what two halves cost more than each alone -/
noncomputable def extra (A B : List Nat) : Nat := open Classical in if A = [] ∨ B = [] then pn A none + pn B none else if both A B ≠ [] then 0 else 1
noncomputable def low : Tr → Option Nat → Nat
  | nil, _ => 0
  | nd g l r, y => if (nd g l r).leaf = true then 0 else low l (g.or y) + low r (g.or y) + extra (fset l (g.or y)) (fset r (g.or y))
theorem road_leaf {t : Tr} (h : t.leaf = true) (y : Option Nat) (w : List Bool) : t.road y w = (match t with | nil => y | nd g _ _ => g.or y) := by
  cases t with
  | nil => exact road_nil y w
  | nd g l r =>
    cases l with
    | nd _ _ _ => cases h
    | nil => cases r with
      | nd _ _ _ => cases h
      | nil => cases w with
        | nil => rfl
        | cons b w =>
          show (kid b nil nil).road (g.or y) w = _
          cases b <;> exact road_nil _ w
theorem road_zero : ∀ (t : Tr) (c : Option Nat) (w : List Bool), t.count = 0 → t.road c w = c
  | nil, c, w, _ => road_nil c w
  | nd g l r, c, w, h => by
    cases g with
    | some x => simp [count] at h
    | none =>
      have h : (if (none : Option Nat).isSome then 1 else 0) + l.count + r.count = 0 := h
      have e : (none : Option Nat).or c = c := by cases c <;> rfl
      cases w with
      | nil => exact e
      | cons b w =>
        show (kid b l r).road ((none : Option Nat).or c) w = c
        rw [e]
        cases b
        · exact road_zero l c w (by omega)
        · exact road_zero r c w (by omega)
/-- where no road is shared, some word has none -/
theorem fset_nil : ∀ (t : Tr) (y : Option Nat) (n : Nat), t.deep n → fset t y = [] → ∃ w : List Bool, w.length = n ∧ t.road y w = none
  | nil, y, n, _, h => ⟨List.replicate n false, List.length_replicate, by rw [road_nil]; cases y with | none => rfl | some x => cases h⟩
  | nd g l r, y, n, hd, h => by
    rw [fset] at h
    by_cases hl : (nd g l r).leaf = true
    · rw [if_pos hl] at h
      refine ⟨List.replicate n false, List.length_replicate, ?_⟩
      rw [road_leaf hl]
      show g.or y = none
      cases e : g.or y with
      | none => rfl
      | some x => rw [e] at h; cases h
    · rw [if_neg hl] at h
      cases n with
      | zero =>
        obtain ⟨e1, e2⟩ := hd
        subst e1 e2
        exact (hl rfl).elim
      | succ n =>
        obtain ⟨h1, h2⟩ := hd
        rcases shared_nil.mp h with h | h
        · obtain ⟨w, e, k⟩ := fset_nil l _ n h1 h
          exact ⟨false :: w, by rw [List.length_cons, e], k⟩
        · obtain ⟨w, e, k⟩ := fset_nil r _ n h2 h
          exact ⟨true :: w, by rw [List.length_cons, e], k⟩
/-- no table of the same roads has less rows -/
theorem low_le : ∀ (t : Tr) (y c : Option Nat) (n : Nat) (u : Tr), t.deep n → (∀ w : List Bool, w.length = n → u.road c w = t.road y w) → low t y + pn (fset t y) c ≤ u.count := by
  have lf : ∀ (t : Tr) (y z c : Option Nat) (n : Nat) (u : Tr), (∀ w, t.road y w = z) → (∀ w : List Bool, w.length = n → u.road c w = t.road y w) → pn z.toList c ≤ u.count := fun t y z c n u ht h => by
    by_cases e : u.count = 0
    · have h1 := h (List.replicate n false) List.length_replicate
      rw [road_zero u c _ e, ht] at h1
      subst h1
      cases c with
      | none => rw [show (none : Option Nat).toList = [] from rfl, pn_nil]; omega
      | some x => rw [pn_in ⟨x, rfl, by simp⟩]; omega
    · have := pn_le z.toList c
      omega
  intro t
  induction t with
  | nil =>
    intro y c n u _ h
    have := lf nil y y c n u (fun w => road_nil y w) h
    show 0 + pn y.toList c ≤ u.count
    omega
  | nd g l r ihl ihr =>
    intro y c n u hd h
    rw [low, fset]
    by_cases hl : (nd g l r).leaf = true
    · rw [if_pos hl, if_pos hl]
      have := lf (nd g l r) y (g.or y) c n u (fun w => road_leaf hl y w) h
      omega
    · rw [if_neg hl, if_neg hl]
      cases n with
      | zero =>
        obtain ⟨e1, e2⟩ := hd
        subst e1 e2
        exact (hl rfl).elim
      | succ n =>
        have hdn := hd
        obtain ⟨h1, h2⟩ := hd
        obtain ⟨g2, l2, r2, hc, hr⟩ : ∃ g2 l2 r2, (if (g2 : Option Nat).isSome then 1 else 0) + l2.count + r2.count = u.count ∧ ∀ b w, u.road c (b :: w) = (kid b l2 r2).road (g2.or c) w := by
          cases u with
          | nil => exact ⟨none, nil, nil, rfl, fun b w => by
              have e : (none : Option Nat).or c = c := by cases c <;> rfl
              rw [road_nil, e]
              cases b <;> exact (road_nil c w).symm⟩
          | nd g2 l2 r2 => exact ⟨g2, l2, r2, rfl, fun b w => rfl⟩
        have i1 := ihl (g.or y) (g2.or c) n l2 h1 fun w hw => by
          have := h (false :: w) (by rw [List.length_cons, hw])
          rw [hr] at this
          exact this
        have i2 := ihr (g.or y) (g2.or c) n r2 h2 fun w hw => by
          have := h (true :: w) (by rw [List.length_cons, hw])
          rw [hr] at this
          exact this
        have none_ : shared (fset l (g.or y)) (fset r (g.or y)) = [] → g2 = none ∧ c = none := fun e => by
          obtain ⟨w, hw, hn⟩ := fset_nil (nd g l r) y (n + 1) hdn (by rw [fset, if_neg hl]; exact e)
          have h3 := h w hw
          rw [hn] at h3
          cases w with
          | nil => cases hw
          | cons b w =>
            rw [hr] at h3
            cases q : g2.or c with
            | some x =>
              rw [q] at h3
              have : ∀ (t : Tr) (w : List Bool) (x : Nat), t.road (some x) w ≠ none := fun t w => by
                induction w generalizing t with
                | nil => intro x; cases t with
                  | nil => intro z; rw [road_nil] at z; cases z
                  | nd g l r => intro z; have z : g.or (some x) = none := z; cases g <;> cases z
                | cons b w ih => intro x; cases t with
                  | nil => intro z; rw [road_nil] at z; cases z
                  | nd g l r =>
                    intro z
                    have z : (kid b l r).road (g.or (some x)) w = none := z
                    cases g with
                    | none => exact ih _ x z
                    | some y => exact ih _ y z
              exact (this _ w x h3).elim
            | none =>
              cases g2 with
              | none => cases c with
                | none => exact ⟨rfl, rfl⟩
                | some x => cases q
              | some x => cases q
        generalize fset l (g.or y) = A at *
        generalize fset r (g.or y) = B at *
        generalize low l (g.or y) = a at *
        generalize low r (g.or y) = b at *
        suffices extra A B + pn (shared A B) c ≤ (if (g2 : Option Nat).isSome then 1 else 0) + pn A (g2.or c) + pn B (g2.or c) by omega
        by_cases hS : A = [] ∨ B = []
        · have e := shared_nil.mpr hS
          obtain ⟨rfl, rfl⟩ := none_ e
          unfold extra
          rw [if_pos hS, e, pn_nil]
          show pn A none + pn B none + 0 ≤ 0 + pn A none + pn B none
          omega
        · have nA : A ≠ [] := fun e => hS (.inl e)
          have nB : B ≠ [] := fun e => hS (.inr e)
          have ex : extra A B = if both A B ≠ [] then 0 else 1 := by
            unfold extra
            rw [if_neg hS]
          have sh : shared A B = if both A B ≠ [] then both A B else sortN (A ++ B) := by
            unfold shared
            rw [if_neg hS]
          have nS : shared A B ≠ [] := fun e => hS (shared_nil.mp e)
          have two : ∀ d, both A B = [] → 1 ≤ pn A d + pn B d := fun d hb => by
            by_cases p : isIn d A
            · by_cases q : isIn d B
              · obtain ⟨x, rfl, hx⟩ := p
                obtain ⟨x', e, hx'⟩ := q
                cases e
                have : x ∈ both A B := mem_both.mpr ⟨hx, hx'⟩
                rw [hb] at this
                cases this
              · rw [pn_out nB q]; omega
            · rw [pn_out nA p]; omega
          have p1 := pn_le (shared A B) c
          rw [ex]
          cases g2 with
          | some x =>
            show _ ≤ 1 + pn A (some x) + pn B (some x)
            split
            · omega
            · rename_i hb
              have := two (some x) (Classical.not_not.mp hb)
              omega
          | none =>
            have e : (none : Option Nat).or c = c := by cases c <;> rfl
            rw [e]
            show _ ≤ 0 + pn A c + pn B c
            split
            · rename_i hb
              rw [if_pos hb] at sh
              by_cases p : isIn c A
              · by_cases q : isIn c B
                · obtain ⟨x, rfl, hx⟩ := p
                  obtain ⟨x', e, hx'⟩ := q
                  cases e
                  rw [pn_in (S := shared A B) ⟨x, rfl, by rw [sh]; exact mem_both.mpr ⟨hx, hx'⟩⟩]
                  omega
                · rw [pn_out nB q]; omega
              · rw [pn_out nA p]; omega
            · rename_i hb
              rw [if_neg hb] at sh
              have t2 := two c (Classical.not_not.mp hb)
              by_cases p : isIn c (shared A B)
              · rw [pn_in p]; omega
              · have q1 : ¬ isIn c A := fun ⟨x, e, hx⟩ => p ⟨x, e, by rw [sh]; exact mem_sortN.mpr (List.mem_append.mpr (.inl hx))⟩
                have q2 : ¬ isIn c B := fun ⟨x, e, hx⟩ => p ⟨x, e, by rw [sh]; exact mem_sortN.mpr (List.mem_append.mpr (.inr hx))⟩
                rw [pn_out nA q1, pn_out nB q2]
                omega
/-! ### the rows that are laid -/
def inn (c : Option Nat) (S : List Nat) : Bool := match c with
  | none => false
  | some x => decide (x ∈ S)
theorem inn_iff {c : Option Nat} {S : List Nat} : inn c S = true ↔ isIn c S := by
  cases c with
  | none => exact ⟨fun h => (by cases h), fun ⟨x, e, _⟩ => (by cases e)⟩
  | some x => exact ⟨fun h => ⟨x, rfl, of_decide_eq_true h⟩, fun ⟨y, e, h⟩ => by cases e; exact decide_eq_true h⟩
/-- the row laid, if any -/
def rowOf (S : List Nat) (c : Option Nat) : Option Nat := if inn c S = true then none else S.head?
/-- the road from then on -/
def pick (S : List Nat) (c : Option Nat) : Option Nat := (rowOf S c).or c
def layT : Tr → Option Nat → Option Nat → Tr
  | nil, y, c => nd (rowOf y.toList c) nil nil
  | nd g l r, y, c => if (nd g l r).leaf = true then nd (rowOf (g.or y).toList c) nil nil else
      nd (rowOf (shared (fset l (g.or y)) (fset r (g.or y))) c) (layT l (g.or y) (pick (shared (fset l (g.or y)) (fset r (g.or y))) c)) (layT r (g.or y) (pick (shared (fset l (g.or y)) (fset r (g.or y))) c))
theorem row_pn (S : List Nat) (c : Option Nat) : (if (rowOf S c).isSome then 1 else 0) = pn S c := by
  unfold rowOf
  by_cases h : inn c S = true
  · rw [if_pos h, pn_in (inn_iff.mp h)]; rfl
  · rw [if_neg h]
    cases S with
    | nil => rw [pn_nil]; rfl
    | cons x S => rw [pn_out (by simp) fun z => h (inn_iff.mpr z)]; rfl
theorem pick_in {S : List Nat} (n : S ≠ []) (c : Option Nat) : isIn (pick S c) S := by
  unfold pick rowOf
  by_cases h : inn c S = true
  · rw [if_pos h]
    have e : (none : Option Nat).or c = c := by cases c <;> rfl
    rw [e]
    exact inn_iff.mp h
  · rw [if_neg h]
    cases S with
    | nil => exact (n rfl).elim
    | cons x S => exact ⟨x, rfl, List.mem_cons_self⟩
theorem pick_nil (c : Option Nat) : pick [] c = c := by
  unfold pick rowOf
  cases c <;> rfl
theorem isIn_one {c : Option Nat} {y : Option Nat} (h : isIn c y.toList) : c = y := by
  obtain ⟨x, rfl, hx⟩ := h
  cases y with
  | none => cases hx
  | some y => rw [List.mem_singleton.mp hx]
theorem pick_one {y c : Option Nat} (h : y.toList = [] → c = none) : pick y.toList c = y := by
  cases y with
  | none => rw [h rfl]; rfl
  | some x => exact isIn_one (pick_in (by simp) c)
/-- beneath: whether a half may get none -/
theorem half_none {A B : List Nat} {c : Option Nat} (h : shared A B = [] → c = none) {X : List Nat} (hX : X = A ∨ X = B) : X = [] → pick (shared A B) c = none := fun e => by
  have hs : shared A B = [] := shared_nil.mpr (by rcases hX with rfl | rfl; exact .inl e; exact .inr e)
  rw [hs, pick_nil, h hs]
theorem halves {A B : List Nat} {c : Option Nat} (h : shared A B = [] → c = none) : pn A (pick (shared A B) c) + pn B (pick (shared A B) c) = extra A B := by
  by_cases hS : A = [] ∨ B = []
  · have e := shared_nil.mpr hS
    rw [e, pick_nil, h e]
    unfold extra
    rw [if_pos hS]
  · have nA : A ≠ [] := fun e => hS (.inl e)
    have nB : B ≠ [] := fun e => hS (.inr e)
    have hp := pick_in (fun e => hS (shared_nil.mp e)) c (S := shared A B)
    unfold extra
    rw [if_neg hS]
    generalize pick (shared A B) c = d at hp
    obtain ⟨x, rfl, hx⟩ := hp
    unfold shared at hx
    rw [if_neg hS] at hx
    by_cases hb : both A B ≠ []
    · rw [if_pos hb] at hx ⊢
      obtain ⟨h1, h2⟩ := mem_both.mp hx
      rw [pn_in ⟨x, rfl, h1⟩, pn_in ⟨x, rfl, h2⟩]
    · rw [if_neg hb] at hx ⊢
      have hb := Classical.not_not.mp hb
      have no : ¬ (x ∈ A ∧ x ∈ B) := fun z => by
        have := mem_both.mpr z
        rw [hb] at this
        cases this
      rcases List.mem_append.mp (mem_sortN.mp hx) with h1 | h1
      · rw [pn_in ⟨x, rfl, h1⟩, pn_out nB fun ⟨z, e, hz⟩ => no (by cases e; exact ⟨h1, hz⟩)]
      · rw [pn_in (S := B) ⟨x, rfl, h1⟩, pn_out nA fun ⟨z, e, hz⟩ => no (by cases e; exact ⟨hz, h1⟩)]
theorem layT_count : ∀ (t : Tr) (y c : Option Nat), (fset t y = [] → c = none) → (layT t y c).count = low t y + pn (fset t y) c
  | nil, y, c, h => by
    show (if (rowOf y.toList c).isSome then 1 else 0) + 0 + 0 = 0 + pn y.toList c
    rw [row_pn]; omega
  | nd g l r, y, c, h => by
    rw [fset] at h ⊢
    rw [layT, low]
    by_cases hl : (nd g l r).leaf = true
    · rw [if_pos hl, if_pos hl, if_pos hl]
      show (if (rowOf (g.or y).toList c).isSome then 1 else 0) + 0 + 0 = 0 + pn (g.or y).toList c
      rw [row_pn]; omega
    · rw [if_neg hl] at h
      rw [if_neg hl, if_neg hl, if_neg hl]
      have h1 := layT_count l (g.or y) (pick (shared (fset l (g.or y)) (fset r (g.or y))) c) (half_none h (.inl rfl))
      have h2 := layT_count r (g.or y) (pick (shared (fset l (g.or y)) (fset r (g.or y))) c) (half_none h (.inr rfl))
      have h3 := halves h
      show (if (rowOf (shared (fset l (g.or y)) (fset r (g.or y))) c).isSome then 1 else 0) + _ + _ = _
      rw [row_pn, h1, h2]
      omega
theorem layT_deep : ∀ (t : Tr) (y c : Option Nat) (n : Nat), t.deep n → (layT t y c).deep n
  | nil, y, c, n, _ => by cases n; exact ⟨rfl, rfl⟩; exact ⟨trivial, trivial⟩
  | nd g l r, y, c, n, h => by
    rw [layT]
    by_cases hl : (nd g l r).leaf = true
    · rw [if_pos hl]
      cases n; exact ⟨rfl, rfl⟩; exact ⟨trivial, trivial⟩
    · rw [if_neg hl]
      cases n with
      | zero =>
        obtain ⟨e1, e2⟩ := h
        subst e1 e2
        exact (hl rfl).elim
      | succ n => exact ⟨layT_deep l _ _ n h.1, layT_deep r _ _ n h.2⟩
theorem layT_road : ∀ (t : Tr) (y c : Option Nat) (n : Nat), t.deep n → (fset t y = [] → c = none) → ∀ w : List Bool, w.length = n → (layT t y c).road c w = t.road y w
  | nil, y, c, n, _, h, w, _ => by
    rw [road_nil, road_leaf (t := layT nil y c) rfl]
    exact pick_one h
  | nd g l r, y, c, n, hd, h, w, hw => by
    rw [fset] at h
    rw [layT]
    by_cases hl : (nd g l r).leaf = true
    · rw [if_pos hl] at h ⊢
      rw [road_leaf hl, road_leaf (t := nd (rowOf (g.or y).toList c) nil nil) rfl]
      exact pick_one h
    · rw [if_neg hl] at h ⊢
      cases n with
      | zero =>
        obtain ⟨e1, e2⟩ := hd
        subst e1 e2
        exact (hl rfl).elim
      | succ n =>
        cases w with
        | nil => cases hw
        | cons b w =>
          have hw : w.length = n := by rw [List.length_cons] at hw; omega
          have h1 := layT_road l (g.or y) (pick (shared (fset l (g.or y)) (fset r (g.or y))) c) n hd.1 (half_none h (.inl rfl)) w hw
          have h2 := layT_road r (g.or y) (pick (shared (fset l (g.or y)) (fset r (g.or y))) c) n hd.2 (half_none h (.inr rfl)) w hw
          cases b
          · exact h1
          · exact h2
/-- a table's fewest rows: its roads, and no table of these roads has less -/
theorem fewest_ok {t : Tr} {n : Nat} (h : t.deep n) : (∀ w : List Bool, w.length = n → (layT t none none).road none w = t.road none w) ∧ (layT t none none).deep n ∧ ∀ u : Tr, (∀ w : List Bool, w.length = n → u.road none w = t.road none w) → (layT t none none).count ≤ u.count := by
  refine ⟨layT_road t none none n h fun _ => rfl, layT_deep t none none n h, fun u hu => ?_⟩
  rw [layT_count t none none fun _ => rfl]
  exact low_le t none none n u h hu
end Tr
end Br

/-! The fewest rows as the law finds them: all roads tried. -/
namespace Br
namespace Tr
/-- the road at the top of a tree, y: that from above -/
def top (t : Tr) (y : Option Nat) : Option Nat := match t with
  | nil => y
  | nd g _ _ => g.or y
/-- where all words go one way -/
def lsLeaf (y c : Option Nat) : Nat := if y = c then 0 else if y = none then 1000 else 1
def ls (roads : List Nat) : Tr → Option Nat → Option Nat → Nat
  | nil, y, c => lsLeaf y c
  | nd g l r, y, c => if (nd g l r).leaf = true then lsLeaf (g.or y) c else
      (c :: roads.map some).foldl (fun acc own => min acc ((if own = c then 0 else 1) + ls roads l (g.or y) own + ls roads r (g.or y) own)) 1000
theorem low_count (t : Tr) (y : Option Nat) (n : Nat) (h : t.deep n) : low t y ≤ t.count := by
  have := low_le t y y n t h fun _ _ => rfl
  omega
theorem fset_all {p : Nat → Prop} : ∀ (t : Tr) (y : Option Nat), (∀ s x, t.get s = some x → p x) → (∀ x, y = some x → p x) → ∀ x ∈ fset t y, p x
  | nil, y, _, hy, x, hx => by
    cases y with
    | none => cases hx
    | some z => rw [List.mem_singleton.mp hx]; exact hy z rfl
  | nd g l r, y, ht, hy, x, hx => by
    rw [fset] at hx
    have hg : ∀ z, g.or y = some z → p z := fun z hz => by
      cases g with
      | none => exact hy z (by cases y <;> simpa using hz)
      | some a => exact ht [] z (by show some a = some z; exact hz)
    have h1 := fset_all l (g.or y) (fun s x h => ht (false :: s) x h) hg
    have h2 := fset_all r (g.or y) (fun s x h => ht (true :: s) x h) hg
    split at hx
    · cases e : g.or y with
      | none => rw [e] at hx; cases hx
      | some z => rw [e] at hx; rw [List.mem_singleton.mp hx]; exact hg z e
    · unfold shared at hx
      split at hx
      · cases hx
      · split at hx
        · exact h1 x (mem_both.mp hx).1
        · rcases List.mem_append.mp (mem_sortN.mp hx) with h | h
          · exact h1 x h
          · exact h2 x h
theorem foldl_min (f : Option Nat → Nat) : ∀ (L : List (Option Nat)) (a : Nat), L.foldl (fun acc o => min acc (f o)) a ≤ a ∧ (∀ o ∈ L, L.foldl (fun acc o => min acc (f o)) a ≤ f o) ∧ ∀ m, m ≤ a → (∀ o ∈ L, m ≤ f o) → m ≤ L.foldl (fun acc o => min acc (f o)) a
  | [], a => ⟨Nat.le_refl _, fun o h => (by cases h), fun m h _ => h⟩
  | o :: L, a => by
    obtain ⟨h1, h2, h3⟩ := foldl_min f L (min a (f o))
    refine ⟨Nat.le_trans h1 (Nat.min_le_left _ _), fun q hq => ?_, fun m hm hq => h3 m (Nat.le_min.mpr ⟨hm, hq o List.mem_cons_self⟩) fun q hq' => hq q (List.mem_cons_of_mem _ hq')⟩
    rcases List.mem_cons.mp hq with rfl | hq
    · exact Nat.le_trans h1 (Nat.min_le_right _ _)
    · exact h2 q hq
theorem lsLeaf_eq (y c : Option Nat) : lsLeaf y c = if y.toList = [] ∧ c ≠ none then 1000 else pn y.toList c := by
  unfold lsLeaf
  cases y with
  | none =>
    cases c with
    | none => rw [if_pos rfl, if_neg (fun h => h.2 rfl), show (none : Option Nat).toList = [] from rfl, pn_nil]
    | some x => rw [if_neg (fun h => nomatch h), if_pos rfl, if_pos ⟨rfl, fun h => nomatch h⟩]
  | some x =>
    have e2 : ¬ ((some x).toList = [] ∧ c ≠ none) := fun h => nomatch h.1
    by_cases h : some x = c
    · rw [if_pos h, if_neg e2, pn_in ⟨x, h.symm, by simp⟩]
    · rw [if_neg h, if_neg (fun z => nomatch z), if_neg e2, pn_out (by simp) fun ⟨z, e, hz⟩ => h (by rw [e]; simp at hz; rw [hz])]
/-- as many as are laid -/
theorem ls_eq {roads : List Nat} : ∀ (t : Tr) (y c : Option Nat) (n : Nat), t.deep n → t.count ≤ 900 → (∀ s x, t.get s = some x → x ∈ roads) → (∀ x, y = some x → x ∈ roads) →
    ls roads t y c = if fset t y = [] ∧ c ≠ none then 1000 else low t y + pn (fset t y) c
  | nil, y, c, n, _, _, _, _ => by
    rw [show ls roads nil y c = lsLeaf y c from rfl, lsLeaf_eq, show fset nil y = y.toList from rfl, show low nil y = 0 from rfl, Nat.zero_add]
  | nd g l r, y, c, n, hd, hcnt, ht, hy => by
    rw [ls, low, fset]
    by_cases hl : (nd g l r).leaf = true
    · rw [if_pos hl, if_pos hl, if_pos hl, lsLeaf_eq, Nat.zero_add]
    · rw [if_neg hl, if_neg hl, if_neg hl]
      cases n with
      | zero =>
        obtain ⟨e1, e2⟩ := hd
        subst e1 e2
        exact (hl rfl).elim
      | succ n =>
        have hg : ∀ z, g.or y = some z → z ∈ roads := fun z hz => by
          cases g with
          | none => exact hy z (by cases y <;> simpa using hz)
          | some a => exact ht [] z (by show some a = some z; exact hz)
        have hc : l.count + r.count ≤ (nd g l r).count := by
          show _ ≤ (if g.isSome then 1 else 0) + l.count + r.count
          omega
        have hlc := low_count l (g.or y) n hd.1
        have hrc := low_count r (g.or y) n hd.2
        have i1 := fun own => ls_eq l (g.or y) own n hd.1 (by omega) (fun s x h => ht (false :: s) x h) hg
        have i2 := fun own => ls_eq r (g.or y) own n hd.2 (by omega) (fun s x h => ht (true :: s) x h) hg
        have mA := fset_all (p := (· ∈ roads)) l (g.or y) (fun s x h => ht (false :: s) x h) hg
        have mB := fset_all (p := (· ∈ roads)) r (g.or y) (fun s x h => ht (true :: s) x h) hg
        have pl := fun own => pn_le (fset l (g.or y)) own
        have pr := fun own => pn_le (fset r (g.or y)) own
        generalize fset l (g.or y) = A at *
        generalize fset r (g.or y) = B at *
        generalize low l (g.or y) = a at *
        generalize low r (g.or y) = b at *
        obtain ⟨f1, f2, f3⟩ := foldl_min (fun own => (if own = c then 0 else 1) + ls roads l (g.or y) own + ls roads r (g.or y) own) (c :: roads.map some) 1000
        have own_none : ∀ o ∈ c :: roads.map some, c ≠ none → o ≠ none := fun o ho hn => by
          rcases List.mem_cons.mp ho with rfl | ho
          · exact hn
          · obtain ⟨x, _, rfl⟩ := List.mem_map.mp ho
            exact fun z => nomatch z
        by_cases hS : shared A B = [] ∧ c ≠ none
        · rw [if_pos hS]
          refine Nat.le_antisymm f1 (f3 1000 (Nat.le_refl _) fun o ho => ?_)
          have on := own_none o ho hS.2
          rcases shared_nil.mp hS.1 with h | h
          · have := i1 o
            rw [if_pos ⟨h, on⟩] at this
            show 1000 ≤ _ + ls roads l (g.or y) o + _
            omega
          · have := i2 o
            rw [if_pos ⟨h, on⟩] at this
            show 1000 ≤ _ + _ + ls roads r (g.or y) o
            omega
        · rw [if_neg hS]
          have hS' : shared A B = [] → c = none := fun e => by
            cases h : c with
            | none => rfl
            | some x => exact (hS ⟨e, by rw [h]; exact fun z => nomatch z⟩).elim
          have hh := halves hS'
          have hpk : pick (shared A B) c ∈ c :: roads.map some := by
            by_cases e : shared A B = []
            · rw [e, pick_nil]; exact List.mem_cons_self
            · obtain ⟨x, hx, hm⟩ := pick_in e c
              rw [hx]
              refine List.mem_cons_of_mem _ (List.mem_map.mpr ⟨x, ?_, rfl⟩)
              unfold shared at hm
              split at hm
              · cases hm
              · split at hm
                · exact mA x (mem_both.mp hm).1
                · rcases List.mem_append.mp (mem_sortN.mp hm) with h | h
                  · exact mA x h
                  · exact mB x h
          have cost : (if pick (shared A B) c = c then 0 else 1) ≤ pn (shared A B) c := by
            split
            · omega
            · rename_i h
              have := row_pn (shared A B) c
              rw [← this]
              unfold pick at h
              cases e : rowOf (shared A B) c with
              | none => rw [e] at h; exact (h (by cases c <;> rfl)).elim
              | some x => exact Nat.le_refl _
          have ea : ls roads l (g.or y) (pick (shared A B) c) = a + pn A (pick (shared A B) c) := by
            rw [i1, if_neg fun h => h.2 (half_none hS' (.inl rfl) h.1)]
          have eb : ls roads r (g.or y) (pick (shared A B) c) = b + pn B (pick (shared A B) c) := by
            rw [i2, if_neg fun h => h.2 (half_none hS' (.inr rfl) h.1)]
          have up := f2 _ hpk
          rw [ea, eb] at up
          have hxt : extra A B ≤ 2 := by rw [← hh]; have := pl (pick (shared A B) c); have := pr (pick (shared A B) c); omega
          have hps := pn_le (shared A B) c
          refine Nat.le_antisymm (by omega) (f3 _ (by omega) fun o ho => ?_)
          show _ ≤ (if o = c then 0 else 1) + ls roads l (g.or y) o + ls roads r (g.or y) o
          rw [i1, i2]
          by_cases n1 : A = [] ∧ o ≠ none
          · rw [if_pos n1]
            split <;> omega
          · rw [if_neg n1]
            by_cases n2 : B = [] ∧ o ≠ none
            · rw [if_pos n2]
              omega
            · rw [if_neg n2]
              suffices extra A B + pn (shared A B) c ≤ (if o = c then 0 else 1) + pn A o + pn B o by omega
              by_cases hE : A = [] ∨ B = []
              · have e := shared_nil.mpr hE
                have cn := hS' e
                have on : o = none := by
                  rcases hE with h | h
                  · cases q : o with
                    | none => rfl
                    | some x => exact (n1 ⟨h, by rw [q]; exact fun z => nomatch z⟩).elim
                  · cases q : o with
                    | none => rfl
                    | some x => exact (n2 ⟨h, by rw [q]; exact fun z => nomatch z⟩).elim
                rw [e, pn_nil, cn, on]
                unfold extra
                rw [if_pos hE]
                omega
              · have nA : A ≠ [] := fun e => hE (.inl e)
                have nB : B ≠ [] := fun e => hE (.inr e)
                have ex : extra A B = if both A B ≠ [] then 0 else 1 := by
                  unfold extra
                  rw [if_neg hE]
                have sh : shared A B = if both A B ≠ [] then both A B else sortN (A ++ B) := by
                  unfold shared
                  rw [if_neg hE]
                have two : both A B = [] → 1 ≤ pn A o + pn B o := fun hb => by
                  by_cases p : isIn o A
                  · by_cases q : isIn o B
                    · obtain ⟨x, rfl, hx⟩ := p
                      obtain ⟨x', e, hx'⟩ := q
                      cases e
                      have : x ∈ both A B := mem_both.mpr ⟨hx, hx'⟩
                      rw [hb] at this
                      cases this
                    · rw [pn_out nB q]; omega
                  · rw [pn_out nA p]; omega
                rw [ex]
                by_cases oc : o = c
                · rw [if_pos oc, ← oc]
                  by_cases hb : both A B ≠ []
                  · rw [if_pos hb] at sh ⊢
                    by_cases p : isIn o A
                    · by_cases q : isIn o B
                      · obtain ⟨x, rfl, hx⟩ := p
                        obtain ⟨x', e, hx'⟩ := q
                        cases e
                        rw [pn_in (S := shared A B) ⟨x, rfl, by rw [sh]; exact mem_both.mpr ⟨hx, hx'⟩⟩]
                        omega
                      · have := pn_le (shared A B) o
                        rw [pn_out nB q]; omega
                    · have := pn_le (shared A B) o
                      rw [pn_out nA p]; omega
                  · rw [if_neg hb] at sh ⊢
                    have hb := Classical.not_not.mp hb
                    have t2 := two hb
                    by_cases p : isIn o A
                    · obtain ⟨x, rfl, hx⟩ := p
                      rw [pn_in (S := shared A B) ⟨x, rfl, by rw [sh]; exact mem_sortN.mpr (List.mem_append.mpr (.inl hx))⟩]
                      omega
                    · by_cases q : isIn o B
                      · obtain ⟨x, rfl, hx⟩ := q
                        rw [pn_in (S := shared A B) ⟨x, rfl, by rw [sh]; exact mem_sortN.mpr (List.mem_append.mpr (.inr hx))⟩]
                        omega
                      · have := pn_le (shared A B) o
                        rw [pn_out nA p, pn_out nB q]; omega
                · rw [if_neg oc]
                  by_cases hb : both A B ≠ []
                  · rw [if_pos hb]; omega
                  · rw [if_neg hb]
                    have := two (Classical.not_not.mp hb)
                    omega
theorem ls_laid {roads : List Nat} {t : Tr} {n : Nat} (h : t.deep n) (hc : t.count ≤ 900) (ht : ∀ s x, t.get s = some x → x ∈ roads) : ls roads t none none = (layT t none none).count := by
  rw [ls_eq t none none n h hc ht (fun x e => nomatch e), if_neg (fun z => z.2 rfl), layT_count t none none fun _ => rfl]
end Tr
end Br

/-! the road at a start, by a def within a def -/
namespace Br
open PySem PySem.Spec PyProof.Rows L2
open C8 (Cal Met Mak cal0 met0 mak0 pe_c pe_mk pe_mt pe_mt0 pe_gc Def)
open NdefX (NF FnO NOk)
abbrev subStmt (st : Stmt) (i : Nat) : Stmt := match (C8.fnBody st)[i]? with
  | some s => s
  | none => st
theorem fits_last (f : List Bool → Option Nat) (u : List Bool) : (fitsL f u (u.length + 1) = [] ∧ Tr.lng f none u = none) ∨ ∃ s x L, fitsL f u (u.length + 1) = L ++ [s] ∧ f s = some x ∧ Tr.lng f none u = some x := by
  have key : ∀ n, (fitsL f u n = [] ∧ ∀ k, k < n → f (u.take k) = none) ∨ ∃ k x L, k < n ∧ fitsL f u n = L ++ [u.take k] ∧ f (u.take k) = some x ∧ ∀ j, j < n → f (u.take j) ≠ none → j ≤ k := by
    intro n
    induction n with
    | zero => exact .inl ⟨rfl, fun k h => by omega⟩
    | succ n ih =>
      rw [fitsL_succ]
      cases e : f (u.take n) with
      | some x =>
        refine .inr ⟨n, x, fitsL f u n, by omega, by simp, e, fun j hj _ => by omega⟩
      | none =>
        rw [if_neg (by simp), List.append_nil]
        rcases ih with ⟨h1, h2⟩ | ⟨k, x, L, h1, h2, h3, h4⟩
        · refine .inl ⟨h1, fun k hk => ?_⟩
          by_cases c : k = n
          · rw [c]; exact e
          · exact h2 k (by omega)
        · refine .inr ⟨k, x, L, by omega, h2, h3, fun j hj hne => ?_⟩
          by_cases c : j = n
          · rw [c] at hne; exact absurd e hne
          · exact h4 j (by omega) hne
  have pre : ∀ z, isPre z u = true → z = u.take z.length ∧ z.length ≤ u.length := fun z h => ⟨(of_decide_eq_true h).symm, isPre_len h⟩
  rcases key (u.length + 1) with ⟨h1, h2⟩ | ⟨k, x, L, h1, h2, h3, h4⟩
  · refine .inl ⟨h1, lng_none u f none fun z hz => ?_⟩
    obtain ⟨e, hl⟩ := pre z hz
    rw [e]
    exact h2 _ (by omega)
  · refine .inr ⟨u.take k, x, L, h2, h3, lng_best u (u.take k) f none x (decide_eq_true (by rw [List.length_take, Nat.min_eq_left (by omega)])) h3 fun z hz hne => ?_⟩
    obtain ⟨e, hl⟩ := pre z hz
    rw [e] at hne
    rw [List.length_take, Nat.min_eq_left (by omega)]
    exact h4 _ (by omega) hne
section
variable {P : Program} {w : World} {K : PySem.W.Frag} {mg : Str → Option Value} {base : Heap} {CK CT : Addr}
abbrev s_l_due : Stmt := top 40
abbrev n_l_due : List Str := ["_law_rows", "_law_goal", "_law_kept", "_law_start_here"]
theorem sc_l_due : FnScope n_l_due ["_law_rows"] (C8.fnScope s_l_due) := ⟨rfl, rfl, rfl, by decide +kernel, rfl, by decide +kernel, by decide +kernel⟩
abbrev s_l_due_l_goal : Stmt := subStmt s_l_due 0
abbrev n_l_due_l_goal : List Str := ["_law_start_here", "_law_rows", "_law_fits", "_law_size"]
theorem sc_l_due_l_goal : NScope1 n_l_due_l_goal "_law_start_here" ["_law_rows"] (C8.fnScope s_l_due_l_goal) := nscope1_by (by decide +kernel)
def spGoal : List (Option V) → Sp := fun ws vs H Q _ => ∃ (d : Addr) (rows : RowL) (u : List Bool), ws = [some (.ref d)] ∧ vs = [.str (tx u)] ∧ H d = some (.dK (RK rows)) ∧ u.length ≤ 1000 ∧ ∀ H', Same H H' → Q (ov (Tr.lng (rget rows) none u)) H'
theorem n_goal (T : Glob mg) {f : Addr} {cl : List (Str × Addr)} {c : Addr} {qual : Str} : NOk P w K mg base C8.CX0 1 f (NF.of s_l_due_l_goal "_law_goal" qual cl c) ["_law_start_here"] ["_law_rows"] spGoal := by
  refine nok1_of (k := 0) sc_l_due_l_goal (fun doc pm ctv u => rfl) (fun ws vs H Q E h => ?_) (fun A outer s0 H v ws Q E hr h => ?_)
  · obtain ⟨d, rows, u, _, rfl, _⟩ := h
    rfl
  · obtain ⟨d, rows, u, rfl, ev, hd, hl, k⟩ := h
    cases ev
    have hu := hu_of hr
    refine ⟨_, (pss_cons (ps_setLc (i := 2) (own := [("_law_size", 3)]) (g := (gName 3)) rfl sc_l_due_l_goal.nd rfl (by first | rfl) (sw_true rfl rfl rfl (by decide +kernel)) (pi_range1 rfl T.g_range (pa_cons (pe_op op_add (pe_callB call_len_str (by rfl) T.g_len boot_len (pa_cons (pv 0) pa_nil)) pe_int) pa_nil)) (blkOk_by (own := [("_law_size", 3)]) (N := n_l_due_l_goal) (sc := C8.fnScope s_l_due_l_goal) (by decide +kernel)) (fun _ _ _ _ _ => (pg_name (i := 3) sc_l_due_l_goal.nd rfl (by first | exact Or.inl rfl | exact Or.inr rfl))) (fun _ _ _ _ _ => (pts_one (pt_cmp (pc_din hu (pe_slice sl_str (pv 0) po_none (po_some (pv 3))) (pv 1))))) (fun _ _ _ _ _ => (pe_slice sl_str (pv 0) po_none (po_some (pv 3)))))
      (pss_one (ps_ret (pe_ifExp (pt_cmpR (op_neNil hr.units) (pv 2) (pe_lst pa_nil) (nomark _)) (pe_dget hu (pv 1) (pe_ix ix_list (pv 2) (pe_un un_neg pe_int) (fun _ _ => rfl)) (fun _ _ => rfl)) pe_non)))), ?_⟩
    have lb : (tx u).length ≤ sizeLine := by rw [tx_len]; exact Nat.le_trans hl (by decide)
    refine ⟨_, rfl, _, rfl, lb, _, _, rfl, rfl, _, rfl, by rw [tx_len]; omega, by rw [tx_len]; omega, fun D hD => ?_⟩
    refine lc_it walk_range (PvF H D fun i => (fitsL (rget rows) u i).map fun s => V.str (tx s)) (pv0 hD) (fun _ _ _ _ => trivial) ?_ ?_
    · rintro i x H1 H2 hi ⟨s1, h1⟩ ⟨rfl, rfl⟩
      have hi : i ≤ u.length := by
        have e : (((tx u).length : Int) + 1).toNat = u.length + 1 := by rw [tx_len]; omega
        rw [e] at hi
        omega
      have e0 : (0 : Int) + (i : Nat) = (i : Int) := by omega
      dsimp only
      rw [e0]
      refine ⟨rfl, ?_⟩
      refine ⟨_, rfl, _, rfl, _, rfl, tx u, rfl, lb, _, rfl, d, (rget rows (u.take i)).map fun n : Nat => V.int (n : Int), rfl, ?_, ?_⟩
      · rw [cut_take u i hi, ← RK_get]
        exact DGet.k (k := (.inr (tx (u.take i)) : Key)) (s1 _ _ hd)
      · refine ⟨_, rfl, ?_⟩
        rw [Option.isSome_map]
        refine ite2 (fun c => ?_) fun c => ?_
        · refine ⟨_, rfl, _, rfl, _, rfl, tx u, rfl, lb, ?_⟩
          rw [cut_take u i hi]
          refine pv_in hD s1 h1 ?_ ?_
          · rw [List.length_map]
            have := fitsL_len (rget rows) u i
            omega
          · show (fitsL (rget rows) u (i + 1)).map _ = _
            rw [fitsL_succ, if_pos c, List.map_append]
            rfl
        · refine pv_out s1 h1 ?_
          show (fitsL (rget rows) u (i + 1)).map _ = _
          rw [fitsL_succ, if_neg c, List.append_nil]
    · rintro H3 ⟨s3, h3⟩
      have e : (((tx u).length : Int) + 1).toNat = u.length + 1 := by rw [tx_len]; omega
      have h3 : H3 D = some (.lst ((fitsL (rget rows) u (((tx u).length : Int) + 1).toNat).map fun s => V.str (tx s))) := h3
      rw [e] at h3
      refine ⟨_, rfl, (by show 0 ≤ sizeLine; decide), fun p hp => ?_⟩
      have s4 := Same_upd (o := .lst []) (Same.refl H3) hp
      refine ⟨D, p, _, rfl, rfl, s4 _ _ h3, upd_same, _, rfl, ?_⟩
      have k2 := k _ (s3.trans s4)
      rcases fits_last (rget rows) u with ⟨f1, f2⟩ | ⟨s, x, L, f1, f2, f3⟩
      · rw [f2] at k2
        rw [f1]
        exact iteF k2
      · rw [f3] at k2
        rw [f1] at h3 ⊢
        refine ite2 (fun _ => ?_) fun c => (c (by simp)).elim
        have hat : atI ((L ++ [s]).map fun s => V.str (tx s)) (-1) = some (V.str (tx s)) := by
          rw [List.map_append]
          exact atI_last _ _
        have hg : DGet (upd H3 p (.lst [])) d (V.str (tx s)) (some (ov (some x))) := by
          have := DGet.k (k := (.inr (tx s) : Key)) (s4 _ _ (s3 _ _ hd))
          rw [RK_get, f2] at this
          exact this
        exact ⟨_, rfl, _, rfl, _, rfl, D, _, _, V.str (tx s), rfl, rfl, SqL.of (s4 _ _ h3), hat, d, _, rfl, hg, k2⟩
end
end Br

/-! Borders of spans: between two that are neighbours all words go one road. -/
namespace Br
open PySem PySem.Spec PyProof.Rows L2
def lo0 (s : List Bool) (v : Nat) : Nat := num s * 2 ^ (v - s.length)
def be0 (s : List Bool) (v : Nat) : Nat := num s * 2 ^ (v - s.length) + 2 ^ (v - s.length)
theorem lo_be (s : List Bool) (v : Nat) : lo0 s v < be0 s v := by unfold lo0 be0; have := pow_pos2 (v - s.length); omega
theorem be_le {s : List Bool} {v : Nat} (h : s.length ≤ v) : be0 s v ≤ 2 ^ v := by
  have h1 := num_lt s
  have h2 : 2 ^ v = 2 ^ s.length * 2 ^ (v - s.length) := by rw [← Nat.pow_add]; congr 1; omega
  have h3 : (num s + 1) * 2 ^ (v - s.length) ≤ 2 ^ s.length * 2 ^ (v - s.length) := Nat.mul_le_mul_right _ h1
  rw [Nat.add_mul, Nat.one_mul] at h3
  unfold be0
  omega
theorem isPre_iff {s : List Bool} {v n : Nat} (hs : s.length ≤ v) (hn : n < 2 ^ v) : isPre s (word n v) = true ↔ lo0 s v ≤ n ∧ n < be0 s v := by
  constructor
  · intro h
    have h := of_decide_eq_true h
    have e : word n v = s ++ (word n v).drop s.length := by
      have := List.take_append_drop s.length (word n v)
      rw [h] at this
      exact this.symm
    have e2 := congrArg num e
    rw [num_word, Nat.mod_eq_of_lt hn, num_append, List.length_drop, word_len] at e2
    have h3 := num_lt ((word n v).drop s.length)
    rw [List.length_drop, word_len] at h3
    unfold lo0 be0
    omega
  · intro ⟨h1, h2⟩
    rw [word_split hs h1 h2]
    refine decide_eq_true ?_
    exact List.take_left
theorem best_congr {w w' : List Bool} : ∀ (L : List (List Bool)) (b : Option (List Bool)), (∀ s ∈ L, isPre s w = isPre s w') → L.foldl (best1 w) b = L.foldl (best1 w') b
  | [], _, _ => rfl
  | s :: L, b, h => by
    show L.foldl (best1 w) (best1 w b s) = L.foldl (best1 w') (best1 w' b s)
    have e : best1 w b s = best1 w' b s := by unfold best1; rw [h s List.mem_cons_self]
    rw [e]
    exact best_congr L _ fun u hu => h u (List.mem_cons_of_mem _ hu)
theorem roadOf_congr {rows : RowL} {w w' : List Bool} (h : ∀ r ∈ rows, isPre r.1 w = isPre r.1 w') : roadOf rows w = roadOf rows w' := by
  unfold roadOf
  have e : bestOf w (rows.map (·.1)) = bestOf w' (rows.map (·.1)) := best_congr _ none fun s hs => by
    obtain ⟨r, hr, rfl⟩ := List.mem_map.mp hs
    exact h r hr
  rw [e]
structure BordersOk (keys : List (List Bool)) (s : List Bool) (v : Nat) (B : List Nat) : Prop where
  rising : B.Pairwise (· < ·)
  mem : ∀ x, x ∈ B ↔ x = lo0 s v ∨ x = be0 s v ∨ ∃ k ∈ keys, (x = lo0 k v ∨ x = be0 k v) ∧ lo0 s v < x ∧ x < be0 s v
namespace BordersOk
variable {keys : List (List Bool)} {s : List Bool} {v : Nat} {B : List Nat}
theorem lt_of (h : BordersOk keys s v B) {i j a b : Nat} (hij : i < j) (ha : B[i]? = some a) (hb : B[j]? = some b) : a < b := by
  obtain ⟨h1, rfl⟩ := List.getElem?_eq_some_iff.mp ha
  obtain ⟨h2, rfl⟩ := List.getElem?_eq_some_iff.mp hb
  exact List.pairwise_iff_getElem.mp h.rising i j h1 h2 hij
theorem range (h : BordersOk keys s v B) {x : Nat} (hx : x ∈ B) : lo0 s v ≤ x ∧ x ≤ be0 s v := by
  have := lo_be s v
  rcases (h.mem x).mp hx with rfl | rfl | ⟨k, _, _, h1, h2⟩ <;> omega
theorem head (h : BordersOk keys s v B) : B[0]? = some (lo0 s v) := by
  have h1 : lo0 s v ∈ B := (h.mem _).mpr (.inl rfl)
  obtain ⟨i, hi⟩ := List.getElem?_of_mem h1
  cases i with
  | zero => exact hi
  | succ i =>
    have hl : 0 < B.length := by have := (List.getElem?_eq_some_iff.mp hi).1; omega
    have h0 : B[0]? = some B[0] := List.getElem?_eq_getElem hl
    have := h.lt_of (Nat.succ_pos i) h0 hi
    have := (h.range (List.mem_of_getElem? h0)).1
    omega
theorem last (h : BordersOk keys s v B) : B[B.length - 1]? = some (be0 s v) := by
  have h1 : be0 s v ∈ B := (h.mem _).mpr (.inr (.inl rfl))
  obtain ⟨i, hi⟩ := List.getElem?_of_mem h1
  have hl := (List.getElem?_eq_some_iff.mp hi).1
  by_cases e : i = B.length - 1
  · rw [← e]; exact hi
  · have h0 : B[B.length - 1]? = some B[B.length - 1] := List.getElem?_eq_getElem (by omega)
    have := h.lt_of (show i < B.length - 1 by omega) hi h0
    have := (h.range (List.mem_of_getElem? h0)).2
    omega
theorem two (h : BordersOk keys s v B) : 2 ≤ B.length := by
  have h1 := h.head
  have h2 := h.last
  have h3 := (List.getElem?_eq_some_iff.mp h1).1
  refine Nat.lt_of_not_le fun hn => ?_
  have : B.length - 1 = 0 := by omega
  rw [this, h1] at h2
  have := lo_be s v
  injection h2
  omega
/-- no border between two neighbours -/
theorem gap (h : BordersOk keys s v B) {j a b x : Nat} (ha : B[j]? = some a) (hb : B[j + 1]? = some b) (hx : x ∈ B) : x ≤ a ∨ b ≤ x := by
  obtain ⟨i, hi⟩ := List.getElem?_of_mem hx
  rcases Nat.lt_trichotomy i j with c | c | c
  · exact .inl (Nat.le_of_lt (h.lt_of c hi ha))
  · subst c; rw [ha] at hi; cases hi; exact .inl (Nat.le_refl _)
  · by_cases e : i = j + 1
    · subst e; rw [hb] at hi; cases hi; exact .inr (Nat.le_refl _)
    · exact .inr (Nat.le_of_lt (h.lt_of (show j + 1 < i by omega) hb hi))
theorem pre_eq (h : BordersOk keys s v B) (hs : s.length ≤ v) {j a b n : Nat} (ha : B[j]? = some a) (hb : B[j + 1]? = some b) (h1 : a ≤ n) (h2 : n < b) {k : List Bool} (hk : k ∈ keys) (hkl : k.length ≤ v) : isPre k (word n v) = isPre k (word a v) := by
  have ra := h.range (List.mem_of_getElem? ha)
  have rb := h.range (List.mem_of_getElem? hb)
  have hlt := h.lt_of (Nat.lt_succ_self j) ha hb
  have hbe := be_le hs
  have g1 : ∀ x, (x = lo0 k v ∨ x = be0 k v) → a < x → x ≤ n → False := fun x hx h3 h4 => by
    have hm : x ∈ B := (h.mem x).mpr (.inr (.inr ⟨k, hk, hx, by omega, by omega⟩))
    rcases h.gap ha hb hm with z | z <;> omega
  have e1 := isPre_iff (n := n) hkl (by omega)
  have e2 := isPre_iff (n := a) hkl (by omega)
  have iff : isPre k (word n v) = true ↔ isPre k (word a v) = true := by
    rw [e1, e2]
    constructor
    · intro ⟨h3, h4⟩
      refine ⟨Nat.le_of_not_lt fun z => g1 _ (.inl rfl) z h3, by omega⟩
    · intro ⟨h3, h4⟩
      refine ⟨by omega, Nat.lt_of_not_le fun z => g1 _ (.inr rfl) (by omega) z⟩
  cases e : isPre k (word a v) with
  | true => exact iff.mpr e
  | false =>
    cases e' : isPre k (word n v) with
    | false => rfl
    | true => rw [iff.mp e'] at e; cases e
theorem road_eq (h : BordersOk keys s v B) (hs : s.length ≤ v) {rows : RowL} (hr : ∀ r ∈ rows, r.1 ∈ keys ∧ r.1.length ≤ v) {j a b n : Nat} (ha : B[j]? = some a) (hb : B[j + 1]? = some b) (h1 : a ≤ n) (h2 : n < b) : roadOf rows (word n v) = roadOf rows (word a v) :=
  roadOf_congr fun r hm => h.pre_eq hs ha hb h1 h2 (hr r hm).1 (hr r hm).2
end BordersOk
end Br

/-! Differences told from the left: one span more. -/
namespace Br
/-- alike on what comes -/
theorem DTl.eqv {f g : Nat → Option Nat} {p l : Nat} (he : ∀ n, p ≤ n → n ≤ l → f n = g n) (hl : p ≤ l) : ∀ {D : List Df4} {a : Nat}, DTl f g p a D → DTl f g (l + 1) a D
  | [], a, h => fun n n1 n2 => by
    by_cases hn : n < p
    · exact h n n1 hn
    · exact he n (by omega) (by omega)
  | (x, y, u, w) :: D, a, h => by
    obtain ⟨h1, h2, h3, h4, h5, h6, h7, h8⟩ := h
    refine ⟨h1, h2, by omega, h4, h5, h6, fun _ hc => ?_, h8.eqv he hl⟩
    by_cases hy : y + 1 < p
    · exact h7 hy hc
    · have e := he (y + 1) (by omega) (by omega)
      rw [hc.1, hc.2] at e
      exact h4 e
theorem DTl.none_behind {f g : Nat → Option Nat} {p : Nat} : ∀ {D : List Df4}, DTl f g p p D → D = []
  | [], _ => rfl
  | (x, y, u, w) :: D, h => by obtain ⟨h1, h2, h3, _⟩ := h; omega
/-- the last difference goes on -/
theorem DTl.grow {f g : Nat → Option Nat} {p l u w : Nat} {x y : Option Nat} (hw : w + 1 = p) (hl : p ≤ l) (hf : ∀ n, p ≤ n → n ≤ l → f n = x ∧ g n = y) :
    ∀ {M : List Df4} {a : Nat}, DTl f g p a (M ++ [(u, w, x, y)]) → DTl f g (l + 1) a (M ++ [(u, l, x, y)])
  | [], a, h => by
    obtain ⟨h1, h2, h3, h4, h5, h6, h7, h8⟩ := h
    refine ⟨h1, by omega, by omega, h4, h5, fun n n1 n2 => ?_, fun z => by omega, fun n n1 n2 => by omega⟩
    by_cases hn : n ≤ w
    · exact h6 n n1 hn
    · exact hf n (by omega) n2
  | (x', y', u', w') :: M, a, h => by
    obtain ⟨h1, h2, h3, h4, h5, h6, h7, h8⟩ := h
    refine ⟨h1, h2, by omega, h4, h5, h6, fun _ hc => ?_, DTl.grow hw hl hf h8⟩
    by_cases hy : y' + 1 < p
    · exact h7 hy hc
    · have e : y' + 1 = p := by omega
      have h8 : DTl f g p (y' + 1) (M ++ [(u, w, x, y)]) := h8
      rw [e] at h8
      have := h8.none_behind
      simp at this
/-- a new difference -/
theorem DTl.more {f g : Nat → Option Nat} {p l : Nat} {x y : Option Nat} (hl : p ≤ l) (hne : x ≠ y) (hf : ∀ n, p ≤ n → n ≤ l → f n = x ∧ g n = y) :
    ∀ {D : List Df4} {a : Nat}, a ≤ p → (∀ M u w, D = M ++ [(u, w, x, y)] → w + 1 ≠ p) → DTl f g p a D → DTl f g (l + 1) a (D ++ [(p, l, x, y)])
  | [], a, ha, _, h => ⟨ha, hl, by omega, hne, h, hf, fun z => by omega, fun n n1 n2 => by omega⟩
  | (x', y', u', w') :: D, a, ha, hn, h => by
    obtain ⟨h1, h2, h3, h4, h5, h6, h7, h8⟩ := h
    refine ⟨h1, h2, by omega, h4, h5, h6, fun _ hc => ?_, DTl.more hl hne hf (by omega) (fun M u w e => hn ((x', y', u', w') :: M) u w (by rw [e]; rfl)) h8⟩
    by_cases hy : y' + 1 < p
    · exact h7 hy hc
    · have e : y' + 1 = p := by omega
      rw [e] at h8 hc
      have hD := h8.none_behind
      have h9 := hf p (Nat.le_refl _) hl
      rw [h9.1, h9.2] at hc
      obtain ⟨e1, e2⟩ := hc
      subst e1 e2
      exact hn [] x' y' (by rw [hD]; rfl) e
theorem DTl.len {f g : Nat → Option Nat} {b : Nat} : ∀ {D : List Df4} {a : Nat}, DTl f g b a D → a ≤ b → D.length ≤ b - a
  | [], _, _, _ => Nat.zero_le _
  | (x, y, u, w) :: D, a, h, ha => by
    obtain ⟨h1, h2, h3, h4, h5, h6, h7, h8⟩ := h
    have := h8.len (by omega)
    rw [List.length_cons]
    omega
end Br

/-! Rows that a table told, as dicts and lists; trees told by their rows. -/
namespace Br
open PySem PySem.Spec PyProof.Rows L2
namespace Tr
theorem rows_nd (t : Tr) : (t.rows.map (·.1)).Nodup := (Tr.sorted_rowsAt t []).imp fun {a b} h e => by
  subst e
  exact Tr.lt_irrefl a h
theorem rows_sorted (t : Tr) : (t.rows.map (·.1)).Pairwise lt := Tr.sorted_rowsAt t []
theorem pair_unique : ∀ {l m : List (List Bool × Nat)}, (l.map (·.1)).Pairwise lt → (m.map (·.1)).Pairwise lt → (∀ p, p ∈ l ↔ p ∈ m) → l = m
  | [], [], _, _, _ => rfl
  | [], b :: m, _, _, h => by have := (h b).mpr List.mem_cons_self; cases this
  | a :: l, [], _, _, h => by have := (h a).mp List.mem_cons_self; cases this
  | a :: l, b :: m, h1, h2, h => by
    rw [List.map_cons] at h1 h2
    obtain ⟨p1, q1⟩ := List.pairwise_cons.mp h1
    obtain ⟨p2, q2⟩ := List.pairwise_cons.mp h2
    have e : a = b := by
      rcases List.mem_cons.mp ((h a).mp List.mem_cons_self) with e | e
      · exact e
      · rcases List.mem_cons.mp ((h b).mpr List.mem_cons_self) with e' | e'
        · exact e'.symm
        · exact (lt_irrefl _ (lt_trans (p1 _ (List.mem_map.mpr ⟨b, e', rfl⟩)) (p2 _ (List.mem_map.mpr ⟨a, e, rfl⟩)))).elim
    subst e
    congr 1
    refine pair_unique q1 q2 fun s => ?_
    constructor
    · intro hs
      rcases List.mem_cons.mp ((h s).mp (List.mem_cons_of_mem _ hs)) with e | e
      · subst e; exact (lt_irrefl _ (p1 _ (List.mem_map.mpr ⟨s, hs, rfl⟩))).elim
      · exact e
    · intro hs
      rcases List.mem_cons.mp ((h s).mpr (List.mem_cons_of_mem _ hs)) with e | e
      · subst e; exact (lt_irrefl _ (p2 _ (List.mem_map.mpr ⟨s, hs, rfl⟩))).elim
      · exact e
theorem rows_of_get {t u : Tr} (h : ∀ s, t.get s = u.get s) : t.rows = u.rows :=
  pair_unique (rows_sorted t) (rows_sorted u) fun ⟨s, x⟩ => by rw [mem_rows, mem_rows, h]
theorem count_of_get {t u : Tr} (h : ∀ s, t.get s = u.get s) : t.count = u.count := by
  rw [← len_rowsAt t [], ← len_rowsAt u []]
  exact congrArg List.length (rows_of_get h)
theorem road_of_get {t u : Tr} (h : ∀ s, t.get s = u.get s) (x : Option Nat) (w : List Bool) : t.road x w = u.road x w := by
  rw [road_lng, road_lng, show t.get = u.get from funext h]
/-- trees without bare knots are told by their rows -/
theorem full_nil : ∀ {t : Tr}, t.full → (∀ s, t.get s = none) → t = nil
  | nil, _, _ => rfl
  | nd g l r, h, k => by
    obtain ⟨h1, h2, h3⟩ := h
    have e1 := full_nil h2 fun s => k (false :: s)
    have e2 := full_nil h3 fun s => k (true :: s)
    have e3 : g = none := k []
    subst e1 e2 e3
    cases h1
theorem full_unique : ∀ {t u : Tr}, t.full → u.full → (∀ s, t.get s = u.get s) → t = u
  | nil, u, _, h, k => (full_nil h fun s => by rw [← k, get_nil]).symm
  | nd g l r, nil, h, _, k => full_nil h fun s => by rw [k, get_nil]
  | nd g l r, nd g' l' r', h, h', k => by
    have e1 := full_unique h.2.1 h'.2.1 fun s => k (false :: s)
    have e2 := full_unique h.2.2 h'.2.2 fun s => k (true :: s)
    have e3 : g = g' := k []
    rw [e1, e2, e3]
theorem neat_unique {t u : Tr} (h : t.neat) (h' : u.neat) (k : ∀ s, t.get s = u.get s) : t = u := by
  cases t with
  | nil => exact h.elim
  | nd g l r => cases u with
    | nil => exact h'.elim
    | nd g' l' r' =>
      have e1 := full_unique h.1 h'.1 fun s => k (false :: s)
      have e2 := full_unique h.2 h'.2 fun s => k (true :: s)
      have e3 : g = g' := k []
      rw [e1, e2, e3]
end Tr
/-- a tree's own rows -/
theorem Agr.ofRows (t : Tr) : Agr t.rows t := by
  refine ⟨t.rows_nd, fun s => ?_, Tr.len_rowsAt t []⟩
  cases e : t.get s with
  | none =>
    refine rget_none.mpr fun h => ?_
    obtain ⟨⟨u, x⟩, h1, rfl⟩ := List.mem_map.mp h
    rw [Tr.mem_rows] at h1
    rw [e] at h1
    cases h1
  | some x =>
    have hm := (Tr.mem_rows t s x).mpr e
    have nd := t.rows_nd
    revert hm nd
    generalize t.rows = L
    intro hm nd
    induction L with
    | nil => cases hm
    | cons r L ih =>
      rw [rget_cons]
      rw [List.map_cons] at nd
      obtain ⟨n1, n2⟩ := List.nodup_cons.mp nd
      rcases List.mem_cons.mp hm with rfl | hm
      · rw [if_pos rfl]
      · rw [if_neg (fun (z : r.1 = s) => n1 (by show r.1 ∈ _; rw [z]; exact List.mem_map.mpr ⟨(s, x), hm, rfl⟩))]
        exact ih hm n2
/-- rows that tell the same, in another order -/
theorem RK_same {r1 r2 : RowL} (nd : (r1.map (·.1)).Nodup) (h : ∀ s, rget r1 s = rget r2 s) : ∀ p ∈ RK r1, valV (RK r2) p.1 = some p.2 ∧ flatB p.2 = true := by
  intro p hp
  obtain ⟨⟨s, x⟩, hr, rfl⟩ := List.mem_map.mp hp
  refine ⟨?_, rfl⟩
  show valV (RK r2) (.inr (tx s)) = some (.int (x : Int))
  have e : rget r1 s = some x := by
    clear h hp
    induction r1 with
    | nil => cases hr
    | cons r L ih =>
      rw [rget_cons]
      rw [List.map_cons] at nd
      obtain ⟨n1, n2⟩ := List.nodup_cons.mp nd
      rcases List.mem_cons.mp hr with rfl | hm
      · rw [if_pos rfl]
      · rw [if_neg (fun (z : r.1 = s) => n1 (by show r.1 ∈ _; rw [z]; exact List.mem_map.mpr ⟨(s, x), hm, rfl⟩))]
        exact ih n2 hm
  rw [RK_get, ← h, e]
  rfl
theorem Agr.same {r1 r2 : RowL} {t : Tr} (h1 : Agr r1 t) (h2 : Agr r2 t) : (RK r1).length = (RK r2).length ∧ ∀ p ∈ RK r1, valV (RK r2) p.1 = some p.2 ∧ flatB p.2 = true :=
  ⟨by rw [RK_len, RK_len, h1.len, h2.len], RK_same h1.nd fun s => by rw [h1.get, h2.get]⟩
/-! dict(..) of rows -/
theorem merge_rows (b : RowL) : ∀ a : RowL, mergeK (RK a) (RK b) = RK (b.foldl (fun acc r => rput acc r.1 r.2) a) := by
  induction b with
  | nil => intro a; rfl
  | cons r b ih =>
    intro a
    show mergeK (putK (RK a) (.inr (tx r.1)) (.int (r.2 : Int))) (RK b) = _
    rw [RK_put, ih]
    rfl
theorem fold_new (b : RowL) : ∀ a : RowL, ((a ++ b).map (·.1)).Nodup → b.foldl (fun acc r => rput acc r.1 r.2) a = a ++ b := by
  induction b with
  | nil => intro a _; exact (List.append_nil a).symm
  | cons r b ih =>
    intro a nd
    have e : rput a r.1 r.2 = a ++ [r] := by
      have h : rget a r.1 = none := rget_none.mpr fun hm => by
        rw [List.map_append, List.map_cons] at nd
        exact (List.nodup_append.mp nd).2.2 _ hm _ List.mem_cons_self rfl
      unfold rput
      rw [rany, h]
      rfl
    rw [List.foldl_cons, e, ih (a ++ [r]) (by rw [List.append_assoc]; exact nd), List.append_assoc]
    rfl
theorem merge_nd {b : RowL} (nd : (b.map (·.1)).Nodup) : mergeK [] (RK b) = RK b := by
  have := merge_rows b []
  rw [fold_new b [] nd] at this
  exact this
/-- a list of tuples (start, road) as pairs -/
theorem LT.pairs0 {H : Hp} {p : Addr} {rows : RowL} (h : LT H p (rows.map rowR)) : ∃ ps : List Addr, H p = some (.lst (ps.map V.ref)) ∧ Paired (fun p kv => H p = some (.tup [kV kv.1, kv.2])) ps (RK rows) := by
  obtain ⟨vs, h1, h2, h3⟩ := h
  rw [List.length_map] at h2
  have : ∀ (rows : RowL) (vs : List V), vs.length = rows.length → (∀ (i : Nat) (row : List V), (rows.map rowR)[i]? = some row → ∃ a, vs[i]? = some (V.ref a) ∧ H a = some (.tup row)) →
      ∃ ps : List Addr, vs = ps.map V.ref ∧ Paired (fun p kv => H p = some (.tup [kV kv.1, kv.2])) ps (RK rows) := by
    intro rows
    induction rows with
    | nil => intro vs h _; cases vs with
      | nil => exact ⟨[], rfl, .nil⟩
      | cons v vs => cases h
    | cons r rows ih => intro vs h k; cases vs with
      | nil => cases h
      | cons v vs =>
        obtain ⟨a, e1, e2⟩ := k 0 _ rfl
        obtain ⟨ps, e3, e4⟩ := ih vs (by simpa using h) fun i row e => by
          obtain ⟨a, f1, f2⟩ := k (i + 1) row (by simpa using e)
          exact ⟨a, by simpa using f1, f2⟩
        have e1 : v = V.ref a := by simpa using e1
        exact ⟨a :: ps, by rw [e1, e3]; rfl, .cons e2 e4⟩
  obtain ⟨ps, e1, e2⟩ := this rows vs h2 h3
  exact ⟨ps, by rw [h1, e1], e2⟩
theorem pmap {α β : Type} {F G : α → β → Prop} (h : ∀ a b, F a b → G a b) : ∀ {l : List α} {m : List β}, Paired F l m → Paired G l m
  | _, _, .nil => .nil
  | _, _, .cons x t => .cons (h _ _ x) (pmap h t)
theorem plen {α β : Type} {F : α → β → Prop} : ∀ {l : List α} {m : List β}, Paired F l m → l.length = m.length
  | _, _, .nil => rfl
  | _, _, .cons _ t => congrArg Nat.succ (plen t)
theorem LT.pairs {K : PySem.W.Frag} {H : Hp} {p : Addr} {rows : RowL} (h : LT H p (rows.map rowR)) : ∃ ps : List Addr, H p = some (.lst (ps.map V.ref)) ∧ Paired (fun p kv => SqT K H p [kV kv.1, kv.2]) ps (RK rows) := by
  obtain ⟨ps, h1, h2⟩ := h.pairs0
  exact ⟨ps, h1, pmap (fun _ _ e => SqT.of e) h2⟩
theorem flatR {L : RowL} : ∀ row ∈ L.map rowR, row.all flat = true := fun row h => by
  obtain ⟨⟨s, x⟩, _, rfl⟩ := List.mem_map.mp h
  show (flat (.str (tx s)) && (flat (.int (x : Int)) && true)) = true
  rw [flat_tx]
  rfl
/-! a comprehension's own names, forgotten -/
theorem wipe_get (σ : L2.St) : ∀ (vs : List Nat) (j : Nat), (wipe σ vs)[j]? = if j ∈ vs then (σ[j]?).map fun _ => none else σ[j]?
  | [], j => by simp [wipe]
  | v :: vs, j => by
    show ((wipe σ vs).set v none)[j]? = _
    by_cases e : v = j
    · subst e
      rw [if_pos List.mem_cons_self, List.getElem?_set_self', wipe_get σ vs v]
      split <;> cases σ[v]? <;> rfl
    · rw [List.getElem?_set_ne e, wipe_get σ vs j]
      have : (j ∈ v :: vs) ↔ j ∈ vs := by simp [Ne.symm e]
      simp only [this]
theorem wipe_set {σ : L2.St} {i : Nat} {x : Option V} {vs : List Nat} (h : i ∈ vs) : wipe (σ.set i x) vs = wipe σ vs := by
  refine List.ext_getElem? fun j => ?_
  rw [wipe_get, wipe_get]
  by_cases e : i = j
  · subst e
    rw [if_pos h, if_pos h, List.getElem?_set_self']
    cases σ[i]? <;> rfl
  · rw [List.getElem?_set_ne e]
theorem wipe_wipe {σ : L2.St} {vs : List Nat} : wipe (wipe σ vs) vs = wipe σ vs := by
  refine List.ext_getElem? fun j => ?_
  rw [wipe_get, wipe_get]
  by_cases h : j ∈ vs
  · rw [if_pos h, if_pos h]
    cases σ[j]? <;> rfl
  · rw [if_neg h]
theorem wipe2 {σ : L2.St} {i j : Nat} {x y : Option V} {vs : List Nat} (h1 : i ∈ vs) (h2 : j ∈ vs) : wipe (((wipe σ vs).set i x).set j y) vs = wipe σ vs := by
  rw [wipe_set h2, wipe_set h1, wipe_wipe]
theorem wipe4 {σ : L2.St} {i j k l : Nat} {x y z u : Option V} {vs : List Nat} (h1 : i ∈ vs) (h2 : j ∈ vs) (h3 : k ∈ vs) (h4 : l ∈ vs) : wipe (((((wipe σ vs).set i x).set j y).set k z).set l u) vs = wipe σ vs := by
  rw [wipe_set h4, wipe_set h3, wipe_set h2, wipe_set h1, wipe_wipe]
theorem unitsR {k : Nat} {A : Around} (r : Room k A) : A.units < cLine := by have := r.un; omega
theorem call_dictPK {X : Cx} (K : PySem.W.Frag) (hc : X.calm = true) (hK : X.K = K := by rfl) : CallR X (.type "dict") (fun xs H Q => ∃ (a : Addr) (ps : List Addr) (kvs : List (Key × V)), xs = [.ref a] ∧ SqL K H a (ps.map V.ref) ∧ Paired (fun p kv => SqT K H p [kV kv.1, kv.2]) ps kvs ∧
    ∀ p, H p = none → Q (.ref p) (upd H p (.dK (mergeK [] kvs)))) := by
  subst hK
  exact call_dictP hc
theorem cut_ints (ns : List Int) (lo hi : Option Int) : ∃ ns' : List Int, cutV (ns.map V.int) lo hi = ns'.map V.int ∧ ns'.length ≤ ns.length := by
  refine ⟨(ns.drop (HT.sIx ns.length 0 lo)).take (HT.sIx ns.length ns.length hi - HT.sIx ns.length 0 lo), ?_, ?_⟩
  · unfold cutV
    rw [List.length_map, List.map_take, List.map_drop]
  · rw [List.length_take, List.length_drop]
    omega
theorem cut_ints2 (ns : List Int) (a b : Nat) : ∃ ns' : List Int, cutV (ns.map V.int) (some (a : Int)) (some (b : Int)) = ns'.map V.int ∧ ns'.length ≤ b - a ∧ ns'.length ≤ ns.length := by
  refine ⟨(ns.drop (min a ns.length)).take (min b ns.length - min a ns.length), ?_, ?_, ?_⟩
  · unfold cutV
    rw [List.length_map, HT.sIx_nat, HT.sIx_nat, List.map_take, List.map_drop]
  · rw [List.length_take, List.length_drop]
    omega
  · rw [List.length_take, List.length_drop]
    omega
theorem DTl.swap {f g : Nat → Option Nat} {b : Nat} : ∀ {D : List Df4} {a : Nat}, DTl f g b a D → DTl g f b a (D.map fun d => (d.1, d.2.1, d.2.2.2, d.2.2.1))
  | [], _, h => fun n n1 n2 => (h n n1 n2).symm
  | (x, y, p, q) :: D, a, h => by
    obtain ⟨h1, h2, h3, h4, h5, h6, h7, h8⟩ := h
    exact ⟨h1, h2, h3, fun e => h4 e.symm, fun n n1 n2 => (h5 n n1 n2).symm, fun n n1 n2 => ⟨(h6 n n1 n2).2, (h6 n n1 n2).1⟩, fun z hc => h7 z ⟨hc.2, hc.1⟩, h8.swap⟩
theorem rget_mem {rows : RowL} {s : List Bool} {x : Nat} (h : rget rows s = some x) : (s, x) ∈ rows := by
  induction rows with
  | nil => cases h
  | cons r rows ih =>
    rw [rget_cons] at h
    split at h
    · rename_i e
      cases h
      rw [← e]
      exact List.mem_cons_self
    · exact List.mem_cons_of_mem _ (ih h)
theorem Agr.get_eq {r : RowL} {t u : Tr} (h : Agr r t) (k : Agr r u) (s : List Bool) : t.get s = u.get s := by rw [← h.get, k.get]
theorem Tr.get_deep : ∀ {s : List Bool} {t : Tr} {n : Nat} {x : Nat}, t.deep n → t.get s = some x → s.length ≤ n
  | [], _, _, _, _, _ => Nat.zero_le _
  | b :: s, .nil, n, x, _, h => by rw [Tr.get_nil] at h; cases h
  | b :: s, .nd g l r, 0, x, h, k => by
    obtain ⟨e1, e2⟩ := h
    subst e1 e2
    cases b
    · have k : Tr.nil.get s = some x := k
      rw [Tr.get_nil] at k; cases k
    · have k : Tr.nil.get s = some x := k
      rw [Tr.get_nil] at k; cases k
  | b :: s, .nd g l r, n + 1, x, h, k => by
    cases b
    · exact Nat.succ_le_succ (Tr.get_deep (s := s) h.1 k)
    · exact Nat.succ_le_succ (Tr.get_deep (s := s) h.2 k)
theorem Tr.rows_len {t : Tr} {n : Nat} (h : t.deep n) : ∀ r ∈ t.rows, r.1.length ≤ n := fun r hr => Tr.get_deep h ((Tr.mem_rows t r.1 r.2).mp hr)
/-- no difference where all roads are alike -/
theorem DTl.nil_of {f g : Nat → Option Nat} {a b : Nat} {D : List Df4} (h : ∀ n, a ≤ n → n < b → f n = g n) (k : DTl f g b a D) : D = [] := k.unique (E := []) h
end Br

/-! The fewest rows at a start: what the law keeps of it, rows beneath a start. -/
namespace Br
open PySem PySem.Spec PyProof.Rows L2
namespace Tr
theorem or_self (g y : Option Nat) : g.or (g.or y) = g.or y := by cases g <;> rfl
theorem sub_app : ∀ (t : Tr) (s u : List Bool), t.sub (s ++ u) = (t.sub s).sub u
  | t, [], u => by cases t <;> rfl
  | nil, b :: s, u => by rw [sub_nil]; exact (sub_nil u).symm
  | nd g l r, b :: s, u => sub_app (kid b l r) s u
theorem get_sub : ∀ (t : Tr) (s u : List Bool), (t.sub s).get u = t.get (s ++ u)
  | t, [], u => by cases t <;> rfl
  | nil, b :: s, u => by rw [sub_nil]; exact get_nil u
  | nd g l r, b :: s, u => get_sub (kid b l r) s u
theorem ls_top (roads : List Nat) (t : Tr) (y c : Option Nat) : ls roads t (t.top y) c = ls roads t y c := by
  cases t with
  | nil => rfl
  | nd g l r =>
    show ls roads (nd g l r) (g.or y) c = _
    rw [ls, ls, or_self]
/-- the fewest rows at a start -/
def lsv (roads : List Nat) (t : Tr) (u : List Bool) (c : Option Nat) : Nat := ls roads (t.sub u) (t.road none u) c
theorem lsv_nil (roads : List Nat) (t : Tr) (c : Option Nat) : lsv roads t [] c = ls roads t none c := by
  have e1 : t.sub [] = t := by cases t <;> rfl
  have e2 : t.road none [] = t.top none := by cases t <;> rfl
  unfold lsv
  rw [e1, e2, ls_top]
theorem top_road (t : Tr) (u : List Bool) : (t.sub u).top (t.road none u) = t.road none u := by
  have h := road_twice none t u
  cases e : t.sub u with
  | nil => rfl
  | nd g l r =>
    rw [e] at h
    exact h
theorem lsv_kid {roads : List Nat} {t : Tr} {u : List Bool} {g : Option Nat} {l r : Tr} (e : t.sub u = nd g l r) (b : Bool) (c : Option Nat) : lsv roads t (u ++ [b]) c = ls roads (kid b l r) (t.road none u) c := by
  have h := top_road t u
  rw [e] at h
  have h : g.or (t.road none u) = t.road none u := h
  unfold lsv
  rw [sub_app, e, road_append, e]
  show ls roads ((kid b l r).sub []) ((kid b l r).road (g.or (t.road none u)) []) c = _
  rw [h]
  have e1 : (kid b l r).sub [] = kid b l r := by cases kid b l r <;> rfl
  have e2 : ∀ y, (kid b l r).road y [] = (kid b l r).top y := fun y => by cases kid b l r <;> rfl
  rw [e1, e2, ls_top]
theorem lsv_leaf {roads : List Nat} {t : Tr} {u : List Bool} (h : (t.sub u).leaf = true) (c : Option Nat) : lsv roads t u c = lsLeaf (t.road none u) c := by
  have k := top_road t u
  unfold lsv
  cases e : t.sub u with
  | nil => rfl
  | nd g l r =>
    rw [e] at h k
    have k : g.or (t.road none u) = t.road none u := k
    rw [ls, if_pos h, k]
theorem lsv_step {roads : List Nat} {t : Tr} {u : List Bool} (h : ¬ (t.sub u).leaf = true) (c : Option Nat) :
    lsv roads t u c = (c :: roads.map some).foldl (fun acc own => min acc ((if own = c then 0 else 1) + lsv roads t (u ++ [false]) own + lsv roads t (u ++ [true]) own)) 1000 := by
  cases e : t.sub u with
  | nil => rw [e] at h; exact (h rfl).elim
  | nd g l r =>
    have k := top_road t u
    rw [e] at h k
    have k : g.or (t.road none u) = t.road none u := k
    have e1 : lsv roads t u c = ls roads (nd g l r) (t.road none u) c := by unfold lsv; rw [e]
    rw [e1, ls, if_neg h, k]
    congr 1
    funext acc own
    rw [lsv_kid e, lsv_kid e]
    rfl
theorem deep_sub {t : Tr} {u : List Bool} {k : Nat} (h : (t.sub u).deep (k + 1)) (b : Bool) : (t.sub (u ++ [b])).deep k := by
  rw [sub_app]
  cases e : t.sub u with
  | nil => rw [sub_nil]; trivial
  | nd g l r =>
    rw [e] at h
    show ((kid b l r).sub []).deep k
    have e1 : (kid b l r).sub [] = kid b l r := by cases kid b l r <;> rfl
    rw [e1]
    cases b
    · exact h.1
    · exact h.2
theorem leaf_zero {t : Tr} (h : t.deep 0) : t.leaf = true := by
  cases t with
  | nil => rfl
  | nd g l r => obtain ⟨h1, h2⟩ := h; subst h1 h2; rfl
/-- the kids have no bare knot -/
def kfull : Tr → Prop
  | nil => True
  | nd _ l r => l.full ∧ r.full
theorem kfull_of : ∀ {t : Tr}, t.full → t.kfull
  | nil, _ => trivial
  | nd g l r, h => h.2
theorem kfull_neat : ∀ {t : Tr}, t.neat → t.kfull
  | nil, h => h.elim
  | nd g l r, h => h
theorem kfull_sub : ∀ (u : List Bool) {t : Tr}, t.kfull → (t.sub u).kfull
  | [], t, h => by
    have e1 : t.sub [] = t := by cases t <;> rfl
    rw [e1]; exact h
  | b :: u, nil, h => trivial
  | b :: u, nd g l r, h => kfull_sub u (t := kid b l r) (kfull_of (by cases b; exact h.1; exact h.2))
theorem leaf_iff {t : Tr} (h : t.kfull) : t.leaf = true ↔ ∀ s, s ≠ [] → t.get s = none := by
  cases t with
  | nil => exact ⟨fun _ s _ => get_nil s, fun _ => rfl⟩
  | nd g l r =>
    constructor
    · intro e s hs
      cases l with
      | nd _ _ _ => cases e
      | nil => cases r with
        | nd _ _ _ => cases e
        | nil => cases s with
          | nil => exact (hs rfl).elim
          | cons b s =>
            show (kid b nil nil).get s = none
            cases b <;> exact get_nil s
    · intro k
      have e1 := full_nil h.1 fun s => k (false :: s) (by simp)
      have e2 := full_nil h.2 fun s => k (true :: s) (by simp)
      subst e1 e2
      rfl
/-- the starts that are asked about -/
def spots : Tr → List Bool → List (List Bool)
  | nil, p => [p]
  | nd _ l r, p => p :: (spots l (p ++ [false]) ++ spots r (p ++ [true]))
theorem spots_len : ∀ (t : Tr) (p : List Bool), (t.spots p).length = 2 * t.size + 1
  | nil, p => rfl
  | nd g l r, p => by
    show (spots l (p ++ [false]) ++ spots r (p ++ [true])).length + 1 = 2 * (1 + l.size + r.size) + 1
    rw [List.length_append, spots_len l, spots_len r]
    omega
theorem spots_top (t : Tr) (p : List Bool) : p ∈ t.spots p := by
  cases t with
  | nil => exact List.mem_singleton.mpr rfl
  | nd g l r => exact List.mem_cons_self
theorem spots_sub : ∀ (u : List Bool) (b : Bool) (t : Tr) (p : List Bool), t.sub u ≠ nil → p ++ (u ++ [b]) ∈ t.spots p
  | [], b, nil, p, h => (h rfl).elim
  | [], b, nd g l r, p, _ => by
    refine List.mem_cons_of_mem _ (List.mem_append.mpr ?_)
    cases b
    · exact .inl (spots_top l _)
    · exact .inr (spots_top r _)
  | a :: u, b, nil, p, h => (h (sub_nil _)).elim
  | a :: u, b, nd g l r, p, h => by
    refine List.mem_cons_of_mem _ (List.mem_append.mpr ?_)
    cases a
    · have := spots_sub u b l (p ++ [false]) h
      rw [List.append_assoc] at this
      exact .inl this
    · have := spots_sub u b r (p ++ [true]) h
      rw [List.append_assoc] at this
      exact .inr this
end Tr
theorem nodup_sub_len {α : Type} [DecidableEq α] : ∀ {l m : List α}, l.Nodup → (∀ x ∈ l, x ∈ m) → l.length ≤ m.length
  | [], m, _, _ => Nat.zero_le _
  | x :: l, m, nd, h => by
    obtain ⟨n1, n2⟩ := List.nodup_cons.mp nd
    have hx := h x List.mem_cons_self
    have := nodup_sub_len (m := m.erase x) n2 fun y hy => (List.mem_erase_of_ne fun (e : y = x) => n1 (by rw [← e]; exact hy)).mpr (h y (List.mem_cons_of_mem _ hy))
    rw [List.length_erase_of_mem hx] at this
    have : 0 < m.length := List.length_pos_of_mem hx
    rw [List.length_cons]
    omega
theorem LT.same2 {H : Hp} {p d : Addr} {L : List (List V)} {o o' : HO} (h : LT H p L) (hd : H d = some o) (n1 : ∀ vs, o ≠ .lst vs) (n2 : ∀ vs, o ≠ .tup vs) : LT (upd H d o') p L := by
  obtain ⟨vs, h1, h2, h3⟩ := h
  refine ⟨vs, (upd_ne fun z => ?_).trans h1, h2, fun i row hi => ?_⟩
  · rw [z, hd] at h1
    exact n1 _ (Option.some.inj h1)
  · obtain ⟨c, e1, e2⟩ := h3 i row hi
    refine ⟨c, e1, (upd_ne fun z => ?_).trans e2⟩
    rw [z, hd] at e2
    exact n2 _ (Option.some.inj e2)
/-! rows beneath a start -/
def pref (u : List Bool) (R : RowL) : RowL := R.filter fun r => isPre u r.1
theorem pref_get (u : List Bool) : ∀ (R : RowL) (s : List Bool), isPre u s = true → rget (pref u R) s = rget R s
  | [], s, _ => rfl
  | r :: R, s, h => by
    unfold pref
    rw [List.filter_cons, rget_cons]
    have ih := pref_get u R s h
    unfold pref at ih
    by_cases e : r.1 = s
    · rw [if_pos e, e, if_pos h, rget_cons, if_pos e]
    · rw [if_neg e]
      split
      · rw [rget_cons, if_neg e]; exact ih
      · exact ih
theorem pref_nd {u : List Bool} {R : RowL} (h : (R.map (·.1)).Nodup) : ((pref u R).map (·.1)).Nodup := h.sublist (List.filter_sublist.map _)
theorem pref_len (u : List Bool) (R : RowL) : (pref u R).length ≤ R.length := List.length_filter_le _ _
theorem isPre_app (u w : List Bool) : isPre u (u ++ w) = true := decide_eq_true (by simp)
theorem isPre_get {u s : List Bool} (h : isPre u s = true) : ∃ w, s = u ++ w := ⟨s.drop u.length, by
  have e : s.take u.length = u := of_decide_eq_true h
  exact (List.take_append_drop u.length s).symm.trans (by rw [e])⟩
theorem isPre_more {u s : List Bool} {b : Bool} (h : isPre (u ++ [b]) s = true) : isPre u s = true := by
  obtain ⟨w, rfl⟩ := isPre_get h
  rw [List.append_assoc]
  exact isPre_app _ _
theorem mem_rget {R : RowL} (nd : (R.map (·.1)).Nodup) {r : List Bool × Nat} (h : r ∈ R) : rget R r.1 = some r.2 := by
  induction R with
  | nil => cases h
  | cons q R ih =>
    rw [rget_cons]
    rw [List.map_cons] at nd
    obtain ⟨n1, n2⟩ := List.nodup_cons.mp nd
    rcases List.mem_cons.mp h with rfl | hm
    · rw [if_pos rfl]
    · rw [if_neg fun z => n1 (by rw [z]; exact List.mem_map.mpr ⟨r, hm, rfl⟩)]
      exact ih n2 hm
/-- the starts beneath, but the start itself -/
def deepL (u : List Bool) (R : RowL) : List (List Bool) := (R.map (·.1)).filter fun s => decide (s ≠ u)
theorem deepL_nil {u : List Bool} {R : RowL} {t : Tr} (kf : t.kfull) (hp : ∀ r ∈ R, isPre u r.1 = true) (nd : (R.map (·.1)).Nodup) (hg : ∀ s, isPre u s = true → rget R s = t.get s) : (deepL u R).isEmpty = (t.sub u).leaf := by
  have key : (deepL u R = []) ↔ (t.sub u).leaf = true := by
    rw [Tr.leaf_iff (Tr.kfull_sub u kf)]
    constructor
    · intro h s hs
      rw [Tr.get_sub, ← hg _ (isPre_app u s)]
      refine rget_none.mpr fun hm => ?_
      have : u ++ s ∈ deepL u R := List.mem_filter.mpr ⟨hm, decide_eq_true fun e => hs (by simpa using e)⟩
      rw [h] at this
      cases this
    · intro h
      refine List.eq_nil_iff_forall_not_mem.mpr fun s hs => ?_
      obtain ⟨h1, h2⟩ := List.mem_filter.mp hs
      have h2 := of_decide_eq_true h2
      obtain ⟨r, hr, rfl⟩ := List.mem_map.mp h1
      obtain ⟨w, hw⟩ := isPre_get (hp r hr)
      have e := hg _ (hp r hr)
      rw [mem_rget nd hr, hw, ← Tr.get_sub, h w fun z => h2 (by rw [hw, z, List.append_nil])] at e
      cases e
  cases q : (t.sub u).leaf with
  | true => rw [key.mpr q]; rfl
  | false =>
    cases z : deepL u R with
    | nil => rw [key.mp z] at q; cases q
    | cons a l => rfl
/-! what is kept -/
def ci (c : Option Nat) : Option Int := c.map fun n : Nat => (n : Int)
theorem mV_ci (c : Option Nat) : mV (ci c) = ov c := by cases c <;> rfl
theorem ci_inj {a b : Option Nat} (h : ci a = ci b) : a = b := by
  cases a with
  | none => cases b with
    | none => rfl
    | some y => cases h
  | some x => cases b with
    | none => cases h
    | some y =>
      have h : some (x : Int) = some (y : Int) := h
      injection h with h
      rw [Int.ofNat_inj.mp h]
structure MemOk (roads : List Nat) (t : Tr) (H : Hp) (xs : MX) : Prop where
  nd : (xs.map (·.1)).Nodup
  all : ∀ x ∈ xs, ∃ (z : List Bool) (c : Option Nat), x.1 = mKey (tx z) (ci c) ∧ H x.2.1 = some (.tup [.str (tx z), ov c]) ∧ RelV (.int (Tr.lsv roads t z c : Int)) x.2.2 ∧ z ∈ t.spots [] ∧ c ∈ none :: roads.map some
namespace MemOk
variable {roads : List Nat} {t : Tr} {H H' : Hp} {xs : MX}
theorem keys (h : MemOk roads t H xs) : MKeys H xs := fun x hx => by
  obtain ⟨z, c, e1, e2, _⟩ := h.all x hx
  exact ⟨tx z, ci c, e1, by rw [mV_ci]; exact e2⟩
theorem len (h : MemOk roads t H xs) : xs.length ≤ (2 * t.size + 1) * (roads.length + 1) := by
  have := nodup_sub_len (m := (t.spots []).flatMap fun z => (none :: roads.map some).map fun c => mKey (tx z) (ci c)) h.nd fun k hk => by
    obtain ⟨x, hx, rfl⟩ := List.mem_map.mp hk
    obtain ⟨z, c, e1, _, _, hz, hc⟩ := h.all x hx
    rw [e1]
    exact List.mem_flatMap.mpr ⟨z, hz, List.mem_map.mpr ⟨c, hc, rfl⟩⟩
  rw [List.length_map] at this
  refine Nat.le_trans this (Nat.le_of_eq ?_)
  rw [← Tr.spots_len t []]
  generalize t.spots [] = Z
  clear this
  induction Z with
  | nil => show 0 = 0 * _; rw [Nat.zero_mul]
  | cons a Z ih =>
    rw [List.flatMap_cons, List.length_append, ih, List.length_map, List.length_cons, List.length_map, List.length_cons, Nat.succ_mul]
    omega
theorem same (h : MemOk roads t H xs) (s : Same H H') : MemOk roads t H' xs := ⟨h.nd, fun x hx => by
  obtain ⟨z, c, e1, e2, e3⟩ := h.all x hx
  exact ⟨z, c, e1, s _ _ e2, e3⟩⟩
theorem mod (h : MemOk roads t H xs) (hm : ∀ a ys, H a = some (.tup ys) → H' a = some (.tup ys)) : MemOk roads t H' xs := ⟨h.nd, fun x hx => by
  obtain ⟨z, c, e1, e2, e3⟩ := h.all x hx
  exact ⟨z, c, e1, hm _ _ e2, e3⟩⟩
theorem val (h : MemOk roads t H xs) {z : List Bool} {c : Option Nat} {p : Addr × Value} (e : atKey xs (mKey (tx z) (ci c)) = some p) : RelV (.int (Tr.lsv roads t z c : Int)) p.2 := by
  unfold atKey at e
  cases q : xs.find? fun x => decide (x.1 = mKey (tx z) (ci c)) with
  | none => rw [q] at e; cases e
  | some x =>
    rw [q] at e
    cases e
    have e1 : x.1 = mKey (tx z) (ci c) := of_decide_eq_true (by have := List.find?_some q; exact this)
    obtain ⟨z', c', e2, _, e3, _⟩ := h.all x (List.mem_of_find?_eq_some q)
    obtain ⟨h1, h2⟩ := mKey_inj (e1.symm.trans e2)
    rw [tx_inj h1, ci_inj h2]
    exact e3
theorem put {xs' : MX} {z : List Bool} {c : Option Nat} {b : Addr} (h : MemOk roads t H xs) (hz : z ∈ t.spots []) (hc : c ∈ none :: roads.map some) (hb : H b = some (.tup [.str (tx z), ov c])) (nd : (xs'.map (·.1)).Nodup)
    (hx : ∀ x ∈ xs', x ∈ xs ∨ (x.1 = mKey (tx z) (ci c) ∧ H x.2.1 = some (.tup [.str (tx z), mV (ci c)]) ∧ RelV (.int (Tr.lsv roads t z c : Int)) x.2.2)) : MemOk roads t H xs' := ⟨nd, fun x h' => by
  rcases hx x h' with k | ⟨k1, k2, k3⟩
  · exact h.all x k
  · exact ⟨z, c, k1, by rw [← mV_ci]; exact k2, k3, hz, hc⟩⟩
end MemOk
end Br


/-! the fewest rows: the code of it -/
namespace Br
open PySem PySem.Spec PyProof.Rows L2
open C8 (Cal Met Mak cal0 met0 mak0 pe_c pe_mk pe_mt pe_mt0 pe_gc Def)
theorem op_inDK {X : Cx} (K : PySem.W.Frag) (hu : X.A.units + 65 < cLine) (hK : X.K = K := by rfl) : OpR X (compareOp .In) (rInD K) := by subst hK; exact op_inD hu
abbrev nl (A : List Nat) : List V := A.map fun m : Nat => V.int (m : Int)
theorem nl_flat (A : List Nat) : (nl A).all flat = true := by
  induction A with
  | nil => rfl
  | cons x A ih => exact ih
abbrev nd_ (A : List Nat) : List PyData := (nl A).map dOf
theorem nl_dok (A : List Nat) : DOk 1 (.list (nd_ A)) := dok_list (k := 0) fun d hd => by
  obtain ⟨v, hv, rfl⟩ := List.mem_map.mp hd
  exact flat_dok (List.all_eq_true.mp (nl_flat A) v hv)
theorem nl_any (A : List Nat) (x : Nat) : ((nd_ A).any fun z => PyData.eqv z (.int (x : Int))) = decide (x ∈ A) := by
  induction A with
  | nil => rfl
  | cons y A ih =>
    show (((y : Int) == (x : Int)) || (nd_ A).any fun z => PyData.eqv z (.int (x : Int))) = _
    rw [ih]
    by_cases e : y = x
    · subst e; simp
    · rw [show ((y : Int) == (x : Int)) = false from beq_eq_false_iff_ne.mpr (by omega), Bool.false_or]
      exact decide_eq_decide.mpr ⟨fun h => List.mem_cons_of_mem _ h, fun h => (List.mem_cons.mp h).resolve_left fun z => e z.symm⟩
theorem both_snoc (A B : List Nat) (x : Nat) : Tr.both (A ++ [x]) B = Tr.both A B ++ (if x ∈ B then [x] else []) := by
  unfold Tr.both
  rw [List.filter_append]
  by_cases h : x ∈ B <;> simp [h]
theorem sorted_eq : ∀ {l m : List Int}, l.Perm m → l.Pairwise (· ≤ ·) → m.Pairwise (· ≤ ·) → l = m
  | [], m, h, _, _ => h.nil_eq
  | x :: l, [], h, _, _ => by have := h.length_eq; simp at this
  | x :: l, y :: m, h, hl, hm => by
    obtain ⟨l1, l2⟩ := List.pairwise_cons.mp hl
    obtain ⟨m1, m2⟩ := List.pairwise_cons.mp hm
    have e : x = y := by
      have h1 : y ≤ x := by
        rcases List.mem_cons.mp (h.mem_iff.mp (List.mem_cons_self (a := x))) with e | e
        · omega
        · exact m1 x e
      have h2 : x ≤ y := by
        rcases List.mem_cons.mp (h.mem_iff.mpr (List.mem_cons_self (a := y))) with e | e
        · omega
        · exact l1 y e
      omega
    subst e
    rw [sorted_eq h.cons_inv l2 m2]
theorem sorted_nl {l : List Int} {A : List Nat} (h : l.Perm (A.map fun m : Nat => (m : Int))) (hs : l.Pairwise (· ≤ ·)) : l.map V.int = nl (Tr.sortN A) := by
  have h1 : ((Tr.sortN A).map fun m : Nat => (m : Int)).Perm (A.map fun m : Nat => (m : Int)) := (List.mergeSort_perm A _).map _
  have h2 : ((Tr.sortN A).map fun m : Nat => (m : Int)).Pairwise (· ≤ ·) := by
    have := List.pairwise_mergeSort (le := fun a b : Nat => decide (a ≤ b)) (fun a b c => by simp only [decide_eq_true_eq]; omega) (fun a b => by simp only [Bool.or_eq_true, decide_eq_true_eq]; omega) A
    exact List.pairwise_map.mpr (this.imp fun {a b} h => by have := of_decide_eq_true h; omega)
  rw [sorted_eq (h.trans h1.symm) hs h2, List.map_map]
  rfl
section
variable {P : Program} {w : World} {K : PySem.W.Frag} {mg : Str → Option Value} {base : Heap} {CK CT : Addr}
abbrev s_shared : Stmt := top 28
abbrev n_shared : List Str := ["pair", "one", "other", "both", "road"]
theorem sc_shared : FnScope n_shared ["pair"] (C8.fnScope s_shared) := ⟨rfl, rfl, rfl, by decide +kernel, rfl, by decide +kernel, by decide +kernel⟩
def spShared : Sp := fun vs H Q _ => ∃ (p a b : Addr) (A B : List Nat), vs = [.ref p] ∧ H p = some (.lst [.ref a, .ref b]) ∧ H a = some (.lst (nl A)) ∧ H b = some (.lst (nl B)) ∧ A.length + B.length ≤ 50000 ∧
  ∀ H' q, Same H H' → H q = none → H' q = some (.lst (nl (Tr.shared A B))) → Q (.ref q) H'
theorem c_shared (T : Glob mg) (D : Dn K mg "shared" s_shared ["pair"]) : Cal P w K mg base 1 "shared" spShared [] := by
  refine D.cal sc_shared (fun vs H Q E h => ?_) (fun f cdv AA outer s0 H vs Q E hr h => ?_)
  · obtain ⟨p, a, b, A, B, rfl, _⟩ := h
    rfl
  · obtain ⟨p, a, b, A, B, rfl, hp, ha, hb, hlen, k⟩ := h
    refine ⟨_, (pss_cons (ps_asg (pv 0) (pg_unl rfl (pgs_cons (pg_name (i := 1) sc_shared.nd rfl (by first | exact Or.inl rfl | exact Or.inr rfl)) (pgs_cons (pg_name (i := 2) sc_shared.nd rfl (by first | exact Or.inl rfl | exact Or.inr rfl)) pgs_nil))))
      (pss_cons (ps_if (PW.pt (pw_or (pt_cmpR (op_eqD hr.units) (pv 1) (pe_lst pa_nil) (nomark _)) (pw_or1 (pt_cmpR (op_eqD hr.units) (pv 2) (pe_lst pa_nil) (nomark _)))))
      (pss_one (ps_ret (pe_lst pa_nil)))
      pss_nil)
      (pss_cons (ps_setLc (i := 3) (own := [("road", 4)]) (g := (gName 4)) rfl sc_shared.nd rfl (by first | rfl) (sw_true rfl rfl rfl (by decide +kernel)) (pi_list (pv 1)) (blkOk_by (own := [("road", 4)]) (N := n_shared) (sc := C8.fnScope s_shared) (by decide +kernel)) (fun _ _ _ _ _ => (pg_name (i := 4) sc_shared.nd rfl (by first | exact Or.inl rfl | exact Or.inr rfl))) (fun _ _ _ _ _ => (pts_one (pt_cmpR (op_inDK K (units1 hr)) (pv 4) (pv 2) (by rfl)))) (fun _ _ _ _ _ => (pv 4)))
      (pss_one (ps_ret (pe_ifExp (pt_cmpR (op_neD hr.units) (pv 3) (pe_lst pa_nil) (nomark _)) (pv 3) (pe_callB cr_sortedI (by rfl) T.g_sorted (by decide +kernel) (pa_cons (pe_op op_cat (pv 1) (pv 2)) pa_nil)))))))), ?_⟩
    refine ⟨_, rfl, p, _, rfl, SqL.of hp, rfl, _, _, rfl, _, _, rfl, rfl, ?_⟩
    refine ⟨_, rfl, (by show 0 ≤ sizeLine; decide), fun e1 he1 => ?_⟩
    have s1 : Same H (upd H e1 (.lst [])) := Same_upd (Same.refl H) he1
    refine ⟨.list (nd_ A), .list [], .lst (SqL.of (s1 _ _ ha)) (flat_all (nl_flat A)), .lst (SqL.of upd_same) .nil, (nl_dok A).shaped, (dok_nils (k := 0)).shaped, _, rfl, ?_⟩
    rw [show PyData.eqv (.list (nd_ A)) (.list []) = (nd_ A).isEmpty from eqv_nil _]
    generalize (upd H e1 (.lst [])) = H1 at s1 ⊢
    have ret0 : ∀ H2, Same H H2 → (A = [] ∨ B = []) → ∀ q, H2 q = none → Q (.ref q) (upd H2 q (.lst [])) := fun H2 s2 h q hq => by
      refine k _ q (Same_upd s2 hq) (s2.free hq) ?_
      rw [upd_same, Tr.shared_nil.mpr h]
      rfl
    cases A with
    | nil => refine iteT ?_; refine iteT ?_; exact ⟨(by show 0 ≤ sizeLine; decide), fun q hq => ret0 H1 s1 (.inl rfl) q hq⟩
    | cons x0 A =>
      refine iteF ?_
      refine ⟨_, rfl, (by show 0 ≤ sizeLine; decide), fun e2 he2 => ?_⟩
      have s2 : Same H (upd H1 e2 (.lst [])) := Same_upd s1 he2
      refine ⟨.list (nd_ B), .list [], .lst (SqL.of (s2 _ _ hb)) (flat_all (nl_flat B)), .lst (SqL.of upd_same) .nil, (nl_dok B).shaped, (dok_nils (k := 0)).shaped, _, rfl, ?_⟩
      rw [show PyData.eqv (.list (nd_ B)) (.list []) = (nd_ B).isEmpty from eqv_nil _]
      generalize (upd H1 e2 (.lst [])) = H2 at s2 ⊢
      cases B with
      | nil => refine iteT ?_; exact ⟨(by show 0 ≤ sizeLine; decide), fun q hq => ret0 H2 s2 (.inr rfl) q hq⟩
      | cons y0 B =>
        have nS : ¬ (x0 :: A = [] ∨ y0 :: B = []) := by rintro (z | z) <;> cases z
        refine iteF ?_
        generalize x0 :: A = A at *
        generalize y0 :: B = B at *
        refine ⟨_, rfl, a, rfl, ⟨_, SqL.of (s2 _ _ ha)⟩, fun D hD => ?_⟩
        refine lc_it (walk_list (K := K) (a := a) (xs := nl A)) (PvF H2 D fun j => nl (Tr.both (A.take j) B)) (pv0 hD) (fun j H' _ h => SqL.of (h.1 _ _ (s2 _ _ ha))) ?_ ?_
        · rintro j x H3 H4 hj ⟨s3, h3⟩ ⟨rfl, hx⟩
          rw [List.getElem?_map] at hx
          cases ey : A[j]? with
          | none => rw [ey] at hx; cases hx
          | some y =>
            rw [ey] at hx
            cases hx
            have ej : Tr.both (A.take (j + 1)) B = Tr.both (A.take j) B ++ (if y ∈ B then [y] else []) := by rw [take_snoc ey, both_snoc]
            have hl : (Tr.both (A.take j) B).length ≤ A.length := Nat.le_trans (List.length_filter_le _ _) (by rw [List.length_take]; omega)
            refine ⟨rfl, ?_⟩
            refine ⟨_, rfl, _, rfl, .int (y : Int), nd_ B, flat_dp (v := .int (y : Int)) rfl, .lst (SqL.of ((s2.trans s3) _ _ hb)) (flat_all (nl_flat B)), (flat_dok (v := .int (y : Int)) rfl (k := 0)).shaped, (nl_dok B).shaped, _, rfl, ?_⟩
            rw [nl_any]
            refine ite2 (fun c => ?_) fun c => ?_
            · rw [if_pos (of_decide_eq_true c)] at ej
              refine ⟨_, rfl, pv_in hD s3 h3 ?_ (by show nl (Tr.both (A.take (j + 1)) B) = _; rw [ej]; show List.map _ _ = _; rw [List.map_append]; rfl)⟩
              rw [List.length_map]
              omega
            · rw [if_neg (fun z => c (decide_eq_true z)), List.append_nil] at ej
              exact pv_out s3 h3 (by show nl (Tr.both (A.take (j + 1)) B) = _; rw [ej])
        · rintro H3 ⟨s3, h3⟩
          have h3 : H3 D = some (.lst (nl (Tr.both (A.take (nl A).length) B))) := h3
          rw [List.length_map, List.take_length] at h3
          have s23 := s2.trans s3
          have sh : Tr.shared A B = if Tr.both A B ≠ [] then Tr.both A B else Tr.sortN (A ++ B) := by
            unfold Tr.shared
            rw [if_neg nS]
          refine ⟨_, rfl, (by show 0 ≤ sizeLine; decide), fun e3 he3 => ?_⟩
          have nD : D ≠ e3 := ne_of_none h3 he3
          have s4 : Same H (upd H3 e3 (.lst [])) := Same_upd s23 he3
          have h4 : (upd H3 e3 (.lst [])) D = some (.lst (nl (Tr.both A B))) := (upd_ne nD).trans h3
          refine ⟨.list (nd_ (Tr.both A B)), .list [], .lst (SqL.of h4) (flat_all (nl_flat _)), .lst (SqL.of upd_same) .nil, (nl_dok _).shaped, (dok_nils (k := 0)).shaped, _, rfl, ?_⟩
          rw [show PyData.eqv (.list (nd_ (Tr.both A B))) (.list []) = (nd_ (Tr.both A B)).isEmpty from eqv_nil _]
          generalize (upd H3 e3 (.lst [])) = H4 at s4 h4 ⊢
          cases hc : Tr.both A B with
          | nil =>
            rw [hc, if_neg (fun z => z rfl)] at sh
            refine iteF ?_
            refine ⟨_, rfl, _, rfl, a, b, _, _, rfl, rfl, s4 _ _ ha, s4 _ _ hb, ?_, fun p3 hp3 => ?_⟩
            · rw [List.length_map, List.length_map]
              exact Nat.le_trans hlen (by decide)
            refine ⟨p3, (A ++ B).map fun m : Nat => (m : Int), rfl, SqL.of ?_, fun ns' p4 hpm hso hp4 => ?_⟩
            · rw [upd_same, ← List.map_append, List.map_map]
              rfl
            · refine k _ p4 (Same_upd (Same_upd s4 hp3) hp4) ((Same_upd s4 hp3).free hp4) ?_
              rw [upd_same, sh, sorted_nl hpm hso]
          | cons z0 Z =>
            rw [hc, if_pos (by simp)] at sh
            refine iteT ?_
            exact ⟨_, rfl, k _ D s4 (s2.free hD) (by rw [h4, sh, hc])⟩
end
end Br

/-! the fewest rows, as the law finds them -/
namespace Br
open PySem PySem.Spec PyProof.Rows L2
open C8 (Cal Met Mak cal0 met0 mak0 pe_c pe_mk pe_mt pe_mt0 pe_gc Def)
open NdefX (NF FnO NOk)
/-- what is handed on: known, road, roads -/
def KP (m f L : Addr) : List (Key × V) := [(.inr (Str.ofString "known"), .ref m), (.inr (Str.ofString "road"), .ref f), (.inr (Str.ofString "roads"), .ref L)]
theorem k_ne1 : ¬ (Sum.inr (Str.ofString "known") : Key) = .inr (Str.ofString "road") := by decide +kernel
theorem k_ne2 : ¬ (Sum.inr (Str.ofString "known") : Key) = .inr (Str.ofString "roads") := by decide +kernel
theorem k_ne3 : ¬ (Sum.inr (Str.ofString "road") : Key) = .inr (Str.ofString "roads") := by decide +kernel
theorem KP_known (m f L : Addr) : valV (KP m f L) (.inr (Str.ofString "known")) = some (V.ref m) := valV_pos rfl
theorem KP_road (m f L : Addr) : valV (KP m f L) (.inr (Str.ofString "road")) = some (V.ref f) := (valV_neg k_ne1).trans (valV_pos rfl)
theorem KP_roads (m f L : Addr) : valV (KP m f L) (.inr (Str.ofString "roads")) = some (V.ref L) := (valV_neg k_ne2).trans ((valV_neg k_ne3).trans (valV_pos rfl))
structure Kept (P : Program) (w : World) (K : PySem.W.Frag) (mg : Str → Option Value) (B : Heap) (H : Hp) (kp m f L d0 : Addr) (F : NF) (rows : RowL) (roads : List Nat) : Prop where
  hk : H kp = some (.dK (KP m f L))
  hL : H L = some (.lst (nl roads))
  hf : H f = some (FnO f F)
  hc : H F.c = some (LamX.CodeO F.c F.qual)
  hd : H d0 = some (.dK (RK rows))
  fm : f ≠ m
  cm : F.c ≠ m
  ok : NOk P w K mg B C8.CX0 1 f F ["_law_start_here"] ["_law_rows"] spGoal
  cl : CellsB F.cl ["_law_rows"] [some (.ref d0)] B
theorem memO_dK {P : Program} {w : World} {a : Addr} {xs : MX} {ks : List (Key × V)} : HO.dK ks ≠ MemO P w a xs := fun z => by
  unfold MemO at z
  cases z
theorem memO_lst {P : Program} {w : World} {a : Addr} {xs : MX} {ks : List V} : HO.lst ks ≠ MemO P w a xs := fun z => by
  unfold MemO at z
  cases z
theorem memO_tup {P : Program} {w : World} {a : Addr} {xs : MX} {ks : List V} : HO.tup ks ≠ MemO P w a xs := fun z => by
  unfold MemO at z
  cases z
theorem Kept.mod {P : Program} {w : World} {K : PySem.W.Frag} {mg : Str → Option Value} {B : Heap} {H H' : Hp} {kp m f L d0 : Addr} {F : NF} {rows : RowL} {roads : List Nat} {xs : MX} (h : Kept P w K mg B H kp m f L d0 F rows roads) (hm : H m = some (MemO P w m xs)) (M : Mod [m] H H') : Kept P w K mg B H' kp m f L d0 F rows roads :=
  ⟨M _ _ h.hk (.inl (by simp [ne_of h.hk hm memO_dK])), M _ _ h.hL (.inl (by simp [ne_of h.hL hm memO_lst])), M _ _ h.hf (.inl (by simp [h.fm])), M _ _ h.hc (.inl (by simp [h.cm])), M _ _ h.hd (.inl (by simp [ne_of h.hd hm memO_dK])), h.fm, h.cm, h.ok, h.cl⟩
theorem Kept.same {P : Program} {w : World} {K : PySem.W.Frag} {mg : Str → Option Value} {B : Heap} {H H' : Hp} {kp m f L d0 : Addr} {F : NF} {rows : RowL} {roads : List Nat} (h : Kept P w K mg B H kp m f L d0 F rows roads) (M : Same H H') : Kept P w K mg B H' kp m f L d0 F rows roads :=
  ⟨M _ _ h.hk, M _ _ h.hL, M _ _ h.hf, M _ _ h.hc, M _ _ h.hd, h.fm, h.cm, h.ok, h.cl⟩
theorem str_ne (a b : List Bool) : (!decide (kV (Sum.inr (tx a)) = V.str (tx b))) = decide (a ≠ b) := by
  by_cases h : a = b
  · subst h; simp [kV]
  · have : ¬ (kV (Sum.inr (tx a)) = V.str (tx b)) := fun z => h (tx_inj (by injection z))
    rw [decide_eq_true h, decide_eq_false this]
    rfl
theorem min_int (a x y z : Nat) : (if (x : Int) + (y : Int) + (z : Int) < (a : Int) then (x : Int) + (y : Int) + (z : Int) else (a : Int)) = ((min a (x + y + z) : Nat) : Int) := by
  split <;> omega
/-- the dict's rows are all beneath the start -/
structure Deeper (t : Tr) (u : List Bool) (R : RowL) : Prop where
  nd : (R.map (·.1)).Nodup
  get : ∀ s, isPre u s = true → rget R s = t.get s
  len : ∀ r ∈ R, r.1.length ≤ 1000
  many : R.length ≤ 1000
theorem Deeper.pref {t : Tr} {u : List Bool} {R : RowL} (h : Deeper t u R) (b : Bool) : Deeper t (u ++ [b]) (pref u R) :=
  ⟨pref_nd h.nd, fun s hs => (pref_get u R s (isPre_more hs)).trans (h.get s (isPre_more hs)), fun r hr => h.len r (List.mem_filter.mp hr).1, Nat.le_trans (pref_len u R) h.many⟩
section
variable {P : Program} {w : World} {K : PySem.W.Frag} {mg : Str → Option Value} {base : Heap} {CK CT : Addr}
abbrev s_l_least : Stmt := top 39
abbrev n_l_least : List Str := ["_law_rows", "_law_start_here", "_law_given", "_law_kept", "_law_deeper", "_law_one", "_law_key", "_law_road", "_law_least_here", "_law_own", "_law_many"]
theorem sc_l_least : FnScope n_l_least ["_law_rows", "_law_start_here", "_law_given", "_law_kept"] (C8.fnScope s_l_least) := ⟨rfl, rfl, rfl, by decide +kernel, rfl, by decide +kernel, by decide +kernel⟩
def spLeast (P : Program) (w : World) (K : PySem.W.Frag) (mg : Str → Option Value) (n : Nat) (B : Heap) : Sp := fun vs H Q _ => ∃ (d kp m f L d0 : Addr) (F : NF) (R rows : RowL) (u : List Bool) (c : Option Nat) (t : Tr) (roads : List Nat) (xs : MX) (k : Nat), k < n ∧ vs = [.ref d, .str (tx u), ov c, .ref kp] ∧
  H d = some (.dK (RK R)) ∧ Deeper t u R ∧ Kept P w K mg B H kp m f L d0 F rows roads ∧ H m = some (MemO P w m xs) ∧ MemOk roads t H xs ∧ (∀ s, rget rows s = t.get s) ∧ t.neat ∧ (t.sub u).deep k ∧ u.length + k ≤ 1000 ∧ t.size ≤ 20000 ∧ roads.length ≤ 300 ∧ u ∈ t.spots [] ∧ c ∈ none :: roads.map some ∧
  ∀ H' xs', Mod [m] H H' → H' m = some (MemO P w m xs') → MemOk roads t H' xs' → Q (.int (Tr.lsv roads t u c : Int)) H'
theorem c_l_least (T : Glob mg) (D : Dn K mg "_law_least" s_l_least ["_law_rows", "_law_start_here", "_law_given", "_law_kept"]) : ∀ n, Cal P w K mg base (n + 1) "_law_least" (spLeast P w K mg n base) []
  | 0 => D.never fun vs H Q E ⟨_, _, _, _, _, _, _, _, _, _, _, _, _, _, _, h, _⟩ => absurd h (Nat.not_lt_zero _)
  | n + 1 => by
    have c_l_least := c_l_least T D n
    refine D.cal sc_l_least (fun vs H Q E h => ?_) (fun f0 cdv A outer s0 H vs Q E hr h => ?_)
    · obtain ⟨d, kp, m, f, L, d0, F, R, rows, u, c, t, roads, xs, k, _, rfl, _⟩ := h
      rfl
    · obtain ⟨d, kp, m, f, L, d0, F, R, rows, u, c, t, roads, xs, k, hk, rfl, hd, dp, kt, hm, mo, ag, nt, de, hl, hz, hrl, hus, hcs, q⟩ := h
      have hu := hu_of hr
      refine ⟨_, (pss_cons (ps_set (i := 4) sc_l_least.nd rfl (by first | exact Or.inl rfl | exact Or.inr rfl) (pe_callTy (call_dictP rfl) (by rfl) T.g_dict (by decide +kernel) (pa_cons (pe_lock (pe_lc (own := [("_law_one", 5)]) (g := (gName 5)) rfl sc_l_least.nd (pi_keys (pv 0)) (blkOk_by (own := [("_law_one", 5)]) (N := n_l_least) (sc := C8.fnScope s_l_least) (by decide +kernel)) (fun _ _ _ _ _ => (pg_name (i := 5) sc_l_least.nd rfl (by first | exact Or.inl rfl | exact Or.inr rfl))) (fun _ _ _ _ _ => (pts_one (pt_val (pe_m1 PySem.F.slot_str_startswith PySem.F.type_str_startswith mt_startswith (pv 5) (pv 1))))) (fun _ _ _ _ _ => (pe_tup (pa_cons (pv 5) (pa_cons (pe_dget hu (pv 0) (pv 5) (fun _ _ => rfl)) pa_nil)))))) pa_nil)))
      (pss_cons (ps_set (i := 6) sc_l_least.nd rfl (by first | exact Or.inl rfl | exact Or.inr rfl) (pe_tup (pa_cons (pv 1) (pa_cons (pv 2) pa_nil))))
      (pss_cons (ps_if (pt_cmp (pc_min hu (pv 6) (pe_dget hu (pv 3) pe_str (fun _ _ => rfl))))
      (pss_one (ps_ret (pe_mget hu (pe_dget hu (pv 3) pe_str (fun _ _ => rfl)) (pv 6) (fun _ _ => rfl))))
      pss_nil)
      (pss_cons (ps_set (i := 7) sc_l_least.nd rfl (by first | exact Or.inl rfl | exact Or.inr rfl) (pe_callV (sp := spGoal) (pe_dget hu (pv 3) pe_str (fun _ _ => rfl)) hr (pa_cons (pv 1) pa_nil)))
      (C8.pss_cut (ps_if (pt_cmpR (op_eqNil hr.units) (pe_lock (pe_lc (own := [("_law_one", 5)]) (g := (gName 5)) rfl sc_l_least.nd (pi_keys (pv 4)) (blkOk_by (own := [("_law_one", 5)]) (N := n_l_least) (sc := C8.fnScope s_l_least) (by decide +kernel)) (fun _ _ _ _ _ => (pg_name (i := 5) sc_l_least.nd rfl (by first | exact Or.inl rfl | exact Or.inr rfl))) (fun _ _ _ _ _ => (pts_one (pt_cmpR op_ne (pv 5) (pv 1) (nomark _)))) (fun _ _ _ _ _ => (pv 5)))) (pe_lst pa_nil) (nomark _))
      (pss_one (ps_if (pt_cmpR op_isN (pv 7) pe_non (nomark _))
      (pss_one (ps_set (i := 8) sc_l_least.nd rfl (by first | exact Or.inl rfl | exact Or.inr rfl) (pe_ifExp (pt_cmpR op_isN (pv 2) pe_non (nomark _)) pe_int pe_int)))
      (pss_one (ps_set (i := 8) sc_l_least.nd rfl (by first | exact Or.inl rfl | exact Or.inr rfl) (pe_callTy call_int1 (by rfl) T.g_int (by decide +kernel) (pa_cons (pe_cmpR op_ne (pv 7) (pv 2) (nomark _)) pa_nil))))))
      (pss_cons (ps_set (i := 8) sc_l_least.nd rfl (by first | exact Or.inl rfl | exact Or.inr rfl) pe_int)
      (pss_one (ps_for PassesOwn.never rfl (pi_list (pe_op op_cat (pe_lst (pa_cons (pv 2) pa_nil)) (pe_dget hu (pv 3) pe_str (fun _ _ => rfl)))) (pg_name (i := 9) sc_l_least.nd rfl (by first | exact Or.inl rfl | exact Or.inr rfl))
      (pss_cons (ps_set (i := 10) sc_l_least.nd rfl (by first | exact Or.inl rfl | exact Or.inr rfl) (pe_op op_add (pe_callTy call_int1 (by rfl) T.g_int (by decide +kernel) (pa_cons (pe_cmpR op_ne (pv 9) (pv 2) (nomark _)) pa_nil)) (pe_c c_l_least hr (by first | decide | omega) rfl (pa_cons (pv 4) (pa_cons (pe_op op_add_str (pv 1) pe_str) (pa_cons (pv 9) (pa_cons (pv 3) pa_nil)))))))
      (pss_one (ps_set (i := 8) sc_l_least.nd rfl (by first | exact Or.inl rfl | exact Or.inr rfl) (pe_callB (call_min2 rfl) (by rfl) T.g_min (by decide +kernel) (pa_cons (pv 8) (pa_cons (pe_op op_add (pv 10) (pe_c c_l_least hr (by first | decide | omega) rfl (pa_cons (pv 4) (pa_cons (pe_op op_add_str (pv 1) pe_str) (pa_cons (pv 9) (pa_cons (pv 3) pa_nil)))))) pa_nil))))))))))
      (pss_cons (ps_mput hu (pe_dget hu (pv 3) pe_str (fun _ _ => rfl)) (pv 6) (pv 8) rfl)
      (pss_one (ps_ret (pv 8))))))))), ?_⟩
      refine ⟨d, _, hd, trivial, fun od => ?_⟩
      have lu : (tx u).length ≤ sizeLine := by rw [tx_len]; exact Nat.le_trans (m := 1000) (by omega) (by decide)
      refine ⟨_, rfl, d, od, rfl, .inl ⟨RK R, upd_same, fun D hD => ?_⟩⟩
      have nD : D ≠ d := fun z => by rw [z, upd_same] at hD; cases hD
      have hD0 : H D = none := by rw [upd_ne nD] at hD; exact hD
      refine lc_it walk_keys (fun i H' => (∀ a o, H a = some o → a ≠ d → H' a = some o) ∧ H' d = some (.frz od (.dK (RK R))) ∧ LT H' D ((pref u (R.take i)).map rowR))
        ⟨fun a o e n => (upd_ne (ne_of_none e hD0)).trans ((upd_ne n).trans e), (upd_ne nD.symm).trans upd_same, LT.nil⟩ (fun i H' _ h => h.2.1) ?_ ?_
      · rintro i x H2 H3 hi ⟨st, fr, lt⟩ ⟨rfl, kk, vv, hkk, rfl⟩
        unfold RK at hkk
        rw [List.getElem?_map] at hkk
        cases er : R[i]? with
        | none => rw [er] at hkk; cases hkk
        | some r =>
          rw [er] at hkk
          cases hkk
          have hmr := List.mem_of_getElem? er
          have hil := (List.getElem?_eq_some_iff.mp er).1
          have hcur : rget R r.1 = some r.2 := mem_rget dp.nd hmr
          refine ⟨rfl, ?_⟩
          refine ⟨_, rfl, ⟨_, rfl⟩, _, rfl, _, _, rfl, rfl, _, rfl, ?_⟩
          rw [startswith_tx]
          refine ite2 (fun cc => ?_) fun cc => ?_
          · have hval : DGet H3 d (kV (.inr (tx r.1))) (some (V.int (r.2 : Int))) := .inl ⟨RK R, .inr (tx r.1), .inr ⟨od, fr⟩, rfl, by rw [RK_get, hcur]; rfl⟩
            refine ⟨_, rfl, _, rfl, _, rfl, d, _, rfl, hval, (by show 2 ≤ sizeLine; decide), fun p hp => ?_⟩
            obtain ⟨vs, v1, v2, v3⟩ := lt
            have np : p ≠ D := (ne_of_none v1 hp).symm
            have ep : pref u (R.take (i + 1)) = pref u (R.take i) ++ [r] := by
              rw [take_snoc er]
              unfold pref
              rw [List.filter_append, List.filter_cons_of_pos (by simpa using cc), List.filter_nil]
            refine ⟨vs, (upd_ne np.symm).trans v1, ?_, fun a o e n => ?_, ?_, ?_⟩
            · rw [v2, List.length_map]
              have := pref_len u (R.take i)
              rw [List.length_take] at this
              have := dp.many
              exact Nat.lt_of_le_of_lt (m := 1000) (by omega) (by decide)
            · exact (upd_ne (ne_of_none e hD0)).trans ((upd_ne (ne_of_none (st a o e n) hp)).trans (st a o e n))
            · exact (upd_ne nD.symm).trans ((upd_ne (ne_of_none fr hp)).trans fr)
            · rw [ep, List.map_append]
              refine LT.snoc (row := rowR r) ((upd_ne np.symm).trans v1) v2 (fun j row hj => ?_) upd_same
              obtain ⟨c', h4, h5⟩ := v3 j row hj
              exact ⟨c', h4, (upd_ne (ne_of_none h5 hp)).trans h5⟩
          · refine ⟨st, fr, ?_⟩
            have ep : pref u (R.take (i + 1)) = pref u (R.take i) := by
              rw [take_snoc er]
              unfold pref
              rw [List.filter_append, List.filter_cons_of_neg (by simpa using cc), List.filter_nil, List.append_nil]
            rw [ep]
            exact lt
      · rintro H2 ⟨st, fr, lt⟩
        rw [RK_len, List.take_length] at lt
        refine ⟨fr, ?_⟩
        have s1 : Same H (upd H2 d (.dK (RK R))) := fun a o e => by
          by_cases ed : a = d
          · subst ed; rw [upd_same, ← e, hd]
          · rw [upd_ne ed]; exact st a o e ed
        have lt1 : LT (upd H2 d (.dK (RK R))) D ((pref u R).map rowR) := lt.same2 fr (by intro vs z; cases z) (by intro vs z; cases z)
        generalize (upd H2 d (.dK (RK R))) = H3 at s1 lt1 ⊢
        clear st fr lt
        obtain ⟨ps, e1, e2⟩ := LT.pairs (K := K) lt1
        refine ⟨D, ps, RK (pref u R), rfl, SqL.of e1, e2, fun d4 hd4 => ?_⟩
        rw [merge_nd (pref_nd dp.nd)]
        have s2 : Same H3 (upd H3 d4 (.dK (RK (pref u R)))) := Same_upd (Same.refl H3) hd4
        have e4 : (upd H3 d4 (.dK (RK (pref u R)))) d4 = some (.dK (RK (pref u R))) := upd_same
        generalize (upd H3 d4 (.dK (RK (pref u R)))) = H4 at s2 e4 ⊢
        have s12 := s1.trans s2
        refine ⟨_, rfl, _, rfl, (by show 2 ≤ sizeLine; decide), fun p6 hp6 => ?_⟩
        have s3 : Same H4 (upd H4 p6 (.tup [.str (tx u), ov c])) := Same_upd (Same.refl H4) hp6
        have e6 : (upd H4 p6 (.tup [.str (tx u), ov c])) p6 = some (.tup [.str (tx u), ov c]) := upd_same
        generalize (upd H4 p6 (.tup [.str (tx u), ov c])) = H5 at s3 e6 ⊢
        have s13 := s12.trans s3
        have e6' : H5 p6 = some (.tup [.str (tx u), mV (ci c)]) := by rw [mV_ci]; exact e6
        have e4 := s3 _ _ e4
        have kt5 := kt.same s13
        have hm5 := s13 _ _ hm
        have mo5 := mo.same s13
        clear s3 s2 s12
        have gk : DGet H5 kp (.str (Str.ofString "known")) (some (.ref m)) := by
          have := DGet.k (k := (.inr (Str.ofString "known") : Key)) kt5.hk
          rw [KP_known] at this
          exact this
        refine ⟨_, rfl, _, rfl, kp, _, rfl, gk, m, p6, xs, tx u, ci c, rfl, rfl, hm5, mo5.keys, e6', ?_⟩
        refine ⟨_, rfl, ?_⟩
        refine ite2 (fun hin => ?_) fun hin => ?_
        · obtain ⟨pp, hpp⟩ := Option.isSome_iff_exists.mp hin
          refine ⟨_, rfl, kp, _, rfl, gk, _, rfl, m, p6, xs, tx u, ci c, pp, (Tr.lsv roads t u c : Int), rfl, rfl, hm5, mo5.keys, e6', hpp, mo5.val hpp, ?_⟩
          exact q H5 xs (Mod.same s13) hm5 mo5
        · have gr : DGet H5 kp (.str (Str.ofString "road")) (some (.ref f)) := by
            have := DGet.k (k := (.inr (Str.ofString "road") : Key)) kt5.hk
            rw [KP_road] at this
            exact this
          refine ⟨_, rfl, kp, _, rfl, gr, f, F, _, _, 1, _, rfl, kt5.hf, by omega, kt5.ok, kt5.cl, _, rfl, kt5.hf, kt5.hc, d0, rows, u, rfl, rfl, kt5.hd, by omega, fun H6 s6 => ?_⟩
          have hroad : Tr.lng (rget rows) none u = t.road none u := by rw [Tr.road_lng, funext ag]
          rw [hroad]
          have e4' := s6 _ _ e4
          have e6b := s6 _ _ e6
          have dpR : Deeper t (u ++ [false]) (pref u R) := dp.pref false
          have dpR2 : Deeper t (u ++ [true]) (pref u R) := dp.pref true
          have hleaf := deepL_nil (t := t) (u := u) (R := pref u R) (Tr.kfull_neat nt) (fun r hr => (List.mem_filter.mp hr).2) (pref_nd dp.nd) fun s hs => (pref_get u R s hs).trans (dp.get s hs)
          have plen := Nat.le_trans (pref_len u R) dp.many
          have pndR := dpR.nd
          generalize pref u R = S at e4' dpR dpR2 hleaf plen pndR ⊢
          refine ⟨fun σ' H' => ∃ (v9 v10 : Option V) (xs' : MX), σ' = [some (.ref d), some (.str (tx u)), some (ov c), some (.ref kp), some (.ref d4), none, some (.ref p6), some (ov (t.road none u)), some (.int (Tr.lsv roads t u c : Int)), v9, v10] ∧ Mod [m] H H' ∧ H' m = some (MemO P w m xs') ∧ MemOk roads t H' xs' ∧ H' p6 = some (.tup [.str (tx u), ov c]) ∧ H' kp = some (.dK (KP m f L)), ?_, ?_⟩
          rotate_left
          · rintro σ' H' ⟨v9, v10, xs', rfl, M, hm', mo', e6', hk'⟩
            have gk' : DGet H' kp (.str (Str.ofString "known")) (some (.ref m)) := by
              have := DGet.k (k := (.inr (Str.ofString "known") : Key)) hk'
              rw [KP_known] at this
              exact this
            have hlen : xs'.length < sizeLine := by
              refine Nat.lt_of_le_of_lt (Nat.le_trans mo'.len (Nat.mul_le_mul (by omega : 2 * t.size + 1 ≤ 40001) (by omega : roads.length + 1 ≤ 301))) (by decide)
            have e6k : H' p6 = some (.tup [.str (tx u), mV (ci c)]) := by rw [mV_ci]; exact e6'
            refine ⟨_, rfl, _, rfl, kp, _, rfl, gk', _, rfl, m, p6, xs', tx u, ci c, (Tr.lsv roads t u c : Int), rfl, rfl, rfl, hm', mo'.keys, e6k, hlen, fun xs'' nd hx => ?_⟩
            have nt6 : ∀ ys, H' m ≠ some (.tup ys) := fun ys z => by
              rw [hm'] at z
              exact memO_tup (Option.some.inj z).symm
            have M2 : Mod [m] H' (upd H' m (MemO P w m xs'')) := Mod.refl.upd (.inl (by simp)) nt6
            refine ⟨_, rfl, q _ xs'' (M.trans M2) upd_same ((mo'.put hus hcs e6' nd hx).mod fun a ys h => M2 _ _ h (.inr ⟨_, rfl⟩))⟩
          refine ⟨d4, _, e4', trivial, fun od2 => ?_⟩
          refine ⟨_, rfl, d4, od2, rfl, .inl ⟨RK S, upd_same, fun D2 hD2 => ?_⟩⟩
          have nD2 : D2 ≠ d4 := fun z => by rw [z, upd_same] at hD2; cases hD2
          have hD20 : H6 D2 = none := by rw [upd_ne nD2] at hD2; exact hD2
          refine lc_it walk_keys (fun i H' => (∀ a o, H6 a = some o → a ≠ d4 → H' a = some o) ∧ H' d4 = some (.frz od2 (.dK (RK S))) ∧ H' D2 = some (.lst ((deepL u (S.take i)).map fun s => V.str (tx s))))
            ⟨fun a o e n => (upd_ne (ne_of_none e hD20)).trans ((upd_ne n).trans e), (upd_ne nD2.symm).trans upd_same, upd_same⟩ (fun i H' _ h => h.2.1) ?_ ?_
          · rintro i x H7 H8 hi ⟨st, fr, h7⟩ ⟨rfl, kk, vv, hkk, rfl⟩
            unfold RK at hkk
            rw [List.getElem?_map] at hkk
            cases er : S[i]? with
            | none => rw [er] at hkk; cases hkk
            | some r =>
              rw [er] at hkk
              cases hkk
              refine ⟨rfl, ?_⟩
              refine ⟨_, rfl, _, rfl, rfl, _, rfl, ?_⟩
              have edl : deepL u (S.take (i + 1)) = deepL u (S.take i) ++ (if r.1 ≠ u then [r.1] else []) := by
                rw [take_snoc er]
                unfold deepL
                rw [List.map_append, List.filter_append]
                congr 1
                by_cases z : r.1 = u
                · rw [if_neg (not_not_intro z)]; simp [z]
                · rw [if_pos z]; simp [z]
              rw [str_ne]
              refine ite2 (fun cc => ?_) fun cc => ?_
              · have cc := of_decide_eq_true cc
                rw [if_pos cc] at edl
                refine ⟨_, rfl, _, h7, ?_, fun a o e n => (upd_ne (ne_of_none e hD20)).trans (st a o e n), (upd_ne nD2.symm).trans fr, ?_⟩
                · rw [List.length_map]
                  unfold deepL
                  have := List.length_filter_le (fun s => decide (s ≠ u)) ((S.take i).map (·.1))
                  rw [List.length_map, List.length_take] at this
                  exact Nat.lt_of_le_of_lt (m := 1000) (by omega) (by decide)
                · rw [upd_same, edl, List.map_append]
                  rfl
              · have cc : ¬ (r.1 ≠ u) := fun z => cc (decide_eq_true z)
                rw [if_neg cc, List.append_nil] at edl
                exact ⟨st, fr, by rw [edl]; exact h7⟩
          · rintro H7 ⟨st, fr, h7⟩
            rw [RK_len, List.take_length] at h7
            refine ⟨fr, ?_⟩
            have s7 : Same H6 (upd H7 d4 (.dK (RK S))) := fun a o e => by
              by_cases ed : a = d4
              · subst ed; rw [upd_same, ← e, e4']
              · rw [upd_ne ed]; exact st a o e ed
            have h7b : (upd H7 d4 (.dK (RK S))) D2 = some (.lst ((deepL u S).map fun s => V.str (tx s))) := (upd_ne nD2).trans h7
            generalize (upd H7 d4 (.dK (RK S))) = H8 at s7 h7b ⊢
            clear st fr h7
            refine ⟨(by show 0 ≤ sizeLine; decide), fun p9 hp9 => ?_⟩
            have s8 : Same H8 (upd H8 p9 (.lst [])) := Same_upd (Same.refl H8) hp9
            have e9 : (upd H8 p9 (.lst [])) p9 = some (.lst []) := upd_same
            have h9b := s8 _ _ h7b
            generalize (upd H8 p9 (.lst [])) = H9 at s8 e9 h9b ⊢
            refine ⟨D2, p9, _, rfl, rfl, h9b, e9, _, rfl, ?_⟩
            have hemp : ((deepL u S).map fun s => V.str (tx s)).isEmpty = (t.sub u).leaf := by rw [← hleaf]; cases deepL u S <;> rfl
            rw [hemp]
            have s69 := s7.trans s8
            have s9 := (s13.trans s6).trans s69
            have kt9 := kt.same s9
            have hm9 := s9 _ _ hm
            have mo9 := mo.same s9
            have e4 := s69 _ _ e4'
            have e6 := s69 _ _ e6b
            clear e4' e6b e6' h9b e9 h7b hemp s69 s8 s7
            refine ite2 (fun lf => ?_) fun lf => ?_
            · have ev := Tr.lsv_leaf (roads := roads) lf c
              generalize t.road none u = y at ev ⊢
              refine ⟨_, rfl, rfl, _, rfl, ?_⟩
              rw [ov_non]
              cases y with
              | none =>
                refine iteT ?_
                refine ⟨_, rfl, rfl, _, rfl, ?_⟩
                rw [ov_non]
                cases c with
                | none => exact iteT ⟨none, none, xs, by rw [ev]; rfl, Mod.same s9, hm9, mo9, e6, kt9.hk⟩
                | some x => exact iteF ⟨none, none, xs, by rw [ev]; rfl, Mod.same s9, hm9, mo9, e6, kt9.hk⟩
              | some x =>
                refine iteF ?_
                refine ⟨_, rfl, _, rfl, ov_scal _ _, .inr ⟨_, rfl, ?_⟩⟩
                refine ⟨none, none, xs, ?_, Mod.same s9, hm9, mo9, e6, kt9.hk⟩
                by_cases z : some x = c
                · have e2 : Tr.lsLeaf (some x) c = 0 := if_pos z
                  rw [ev, e2, ov_eq, decide_eq_true z]; rfl
                · have e2 : Tr.lsLeaf (some x) c = 1 := by
                    unfold Tr.lsLeaf
                    rw [if_neg z, if_neg fun h => nomatch h]
                  rw [ev, e2, ov_eq, decide_eq_false z]; rfl
            · cases k with
              | zero => exact (lf (Tr.leaf_zero de)).elim
              | succ k =>
                have ev := Tr.lsv_step (roads := roads) lf c
                have sne : t.sub u ≠ .nil := fun z => lf (by rw [z]; rfl)
                have e0 : Str.ofString "0" = tx [false] := by decide +kernel
                have e1' : Str.ofString "1" = tx [true] := by decide +kernel
                refine ⟨_, rfl, (by show 1 ≤ sizeLine; decide), fun pa hpa => ?_⟩
                have sa : Same H9 (upd H9 pa (.lst [ov c])) := Same_upd (Same.refl H9) hpa
                have epa : (upd H9 pa (.lst [ov c])) pa = some (.lst [ov c]) := upd_same
                generalize (upd H9 pa (.lst [ov c])) = H10 at sa epa ⊢
                have kt10 := kt9.same sa
                have gL : DGet H10 kp (.str (Str.ofString "roads")) (some (.ref L)) := by
                  have := DGet.k (k := (.inr (Str.ofString "roads") : Key)) kt10.hk
                  rw [KP_roads] at this
                  exact this
                refine ⟨_, rfl, kp, _, rfl, gL, pa, L, _, _, rfl, rfl, epa, kt10.hL, ?_, fun pb hpb => ?_⟩
                · show 1 + (nl roads).length ≤ sizeLine
                  rw [List.length_map]
                  exact Nat.le_trans (m := 1000) (by omega) (by decide)
                have eown : [ov c] ++ nl roads = (c :: roads.map some).map ov := by
                  rw [List.map_cons, List.map_map]
                  rfl
                rw [eown]
                have sb : Same H10 (upd H10 pb (.lst ((c :: roads.map some).map ov))) := Same_upd (Same.refl H10) hpb
                have epb : (upd H10 pb (.lst ((c :: roads.map some).map ov))) pb = some (.lst ((c :: roads.map some).map ov)) := upd_same
                generalize (upd H10 pb (.lst ((c :: roads.map some).map ov))) = H11 at sb epb ⊢
                have sab := sa.trans sb
                have kt11 := kt9.same sab
                have hm11 := sab _ _ hm9
                have mo11 := mo9.same sab
                have e4 := sab _ _ e4
                have e6 := sab _ _ e6
                have s11 := s9.trans sab
                clear sa sb sab epa kt10 gL kt9 hm9 mo9 s9
                have hmem : ∀ o ∈ c :: roads.map some, o ∈ none :: roads.map some := fun o ho => by
                  rcases List.mem_cons.mp ho with rfl | ho
                  · exact hcs
                  · exact List.mem_cons_of_mem _ ho
                generalize hown : c :: roads.map some = own at ev hmem epb ⊢
                refine ⟨pb, rfl, ⟨_, SqL.of epb⟩, for_it (walk_list (K := K) (a := pb) (xs := own.map ov)) (fun i σ H' => ∃ (v9 v10 : Option V) (xs' : MX), σ = [some (.ref d), some (.str (tx u)), some (ov c), some (.ref kp), some (.ref d4), none, some (.ref p6), some (ov (t.road none u)), some (.int (((own.take i).foldl (fun acc own => min acc ((if own = c then 0 else 1) + Tr.lsv roads t (u ++ [false]) own + Tr.lsv roads t (u ++ [true]) own)) 1000 : Nat) : Int)), v9, v10] ∧ Mod [m] H11 H' ∧ H' m = some (MemO P w m xs') ∧ MemOk roads t H' xs')
                  ⟨none, none, xs, rfl, Mod.refl, hm11, mo11⟩ (fun i σ H' _ h => ?_) ?_ ?_⟩
                · obtain ⟨_, _, _, _, M, _⟩ := h
                  exact SqL.of (M _ _ epb (.inl (by simp [ne_of epb hm11 memO_lst])))
                · rintro i x σ H12 H13 hi ⟨v9, v10, xs2, rfl, M12, hm12, mo12⟩ ⟨rfl, hx⟩
                  rw [List.getElem?_map] at hx
                  cases er : own[i]? with
                  | none => rw [er] at hx; cases hx
                  | some o =>
                    rw [er] at hx
                    cases hx
                    have ho := hmem o (List.mem_of_getElem? er)
                    rw [take_snoc er, List.foldl_append]
                    generalize (own.take i).foldl (fun acc own => min acc ((if own = c then 0 else 1) + Tr.lsv roads t (u ++ [false]) own + Tr.lsv roads t (u ++ [true]) own)) 1000 = acc
                    have hd13 : ∀ H', Mod [m] H11 H' → H' d4 = some (.dK (RK S)) := fun H' M => M _ _ e4 (.inl (by simp [ne_of e4 hm11 memO_dK]))
                    have sp : ∀ b, u ++ [b] ∈ t.spots [] := fun b => Tr.spots_sub u b t [] sne
                    have ll : ∀ b : Bool, (u ++ [b]).length + k ≤ 1000 := fun b => by rw [List.length_append, List.length_singleton]; omega
                    have lsz : (tx u).length + 1 ≤ sizeLine := by rw [tx_len]; exact Nat.le_trans (m := 1001) (by omega) (by decide)
                    refine ⟨_, rfl, _, rfl, ov_scal _ _, .inr ⟨_, rfl, ?_⟩⟩
                    rw [ov_eq, show (if (!decide (o = c)) = true then (1 : Int) else 0) = ((if o = c then 0 else 1 : Nat) : Int) by by_cases z : o = c <;> simp [z]]
                    refine ⟨_, rfl, _, rfl, _, _, rfl, rfl, lsz, ?_⟩
                    rw [e0, tx_append]
                    refine ⟨_, rfl, _, rfl, d4, kp, m, f, L, d0, F, S, rows, u ++ [false], o, t, roads, xs2, k, by omega, rfl, hd13 _ M12, dpR, kt11.mod hm11 M12, hm12, mo12, ag, nt, Tr.deep_sub de false, ll false, hz, hrl, sp false, ho, fun H14 xs3 M14 hm14 mo14 => ?_⟩
                    have M14 := M12.trans M14
                    refine ⟨_, _, rfl, rfl, ?_⟩
                    refine ⟨_, rfl, _, rfl, _, rfl, _, rfl, _, _, rfl, rfl, lsz, ?_⟩
                    rw [e1', tx_append]
                    refine ⟨_, rfl, _, rfl, d4, kp, m, f, L, d0, F, S, rows, u ++ [true], o, t, roads, xs3, k, by omega, rfl, hd13 _ M14, dpR2, kt11.mod hm11 M14, hm14, mo14, ag, nt, Tr.deep_sub de true, ll true, hz, hrl, sp true, ho, fun H15 xs4 M15 hm15 mo15 => ?_⟩
                    have M15 := M14.trans M15
                    refine ⟨_, _, rfl, rfl, _, _, rfl, ?_⟩
                    refine ⟨some (ov o), some (.int (((if o = c then 0 else 1 : Nat) : Int) + (Tr.lsv roads t (u ++ [false]) o : Int))), xs4, ?_, M15, hm15, mo15⟩
                    show [_, _, _, _, _, _, _, _, some (V.int (if ((if o = c then 0 else 1 : Nat) : Int) + (Tr.lsv roads t (u ++ [false]) o : Int) + (Tr.lsv roads t (u ++ [true]) o : Int) < (acc : Int) then ((if o = c then 0 else 1 : Nat) : Int) + (Tr.lsv roads t (u ++ [false]) o : Int) + (Tr.lsv roads t (u ++ [true]) o : Int) else (acc : Int))), _, _] = _
                    rw [min_int]
                    rfl
                · rintro σ H12 ⟨v9, v10, xs2, rfl, M12, hm12, mo12⟩
                  rw [List.length_map, List.take_length, ← ev]
                  exact ⟨v9, v10, xs2, rfl, (Mod.same s11).trans M12, hm12, mo12, M12 _ _ e6 (.inr ⟨_, rfl⟩), (kt11.mod hm11 M12).hk⟩
end
end Br

/-! defs whose code object is known: they make lambdas -/
namespace Br
open PySem PySem.Spec PyProof.Rows L2
open C8 (Cal)
/-- a def of the text whose code's object is at c -/
structure DnC (K : PySem.W.Frag) (mg : Str → Option Value) (x : Str) (st : Stmt) (ps : List Str) (c : Addr) : Prop where
  ex : ∃ (f : Addr) (oc dV kV doc pm ct : Value) (od an : Option Addr) (osl : Array (Option Value)), K.lookup f = some ⟨oc, od, .func (PySem.W.fnOf x x (C8.fnArgs st) (C8.fnBody st) (C8.fnScope st) dV kV doc pm an (.ref c) ct), osl⟩ ∧ PySem.W.codeIn K (.ref c) x = true ∧
    mg x = some (.ref f) ∧ PySem.W.keepIn K (.ref f) = true ∧ Binds K (PySem.W.fnOf x x (C8.fnArgs st) (C8.fnBody st) (C8.fnScope st) dV kV doc pm an (.ref c) ct) ps []
section
variable {P : Program} {w : World} {K : PySem.W.Frag} {mg : Str → Option Value} {base : Heap}
/-- a def whose code's object is known -/
theorem fn0C {x qual : Str} {st : Stmt} {f c : Addr} {N ps : List Str} {k : Nat} {sp : Sp} {oc dV kV doc pm ct : Value} {od an : Option Addr} {osl : Array (Option Value)} (lk : K.lookup f = some ⟨oc, od, .func (PySem.W.fnOf x qual (C8.fnArgs st) (C8.fnBody st) (C8.fnScope st) dV kV doc pm an (.ref c) ct), osl⟩) (hcd : PySem.W.codeIn K (.ref c) qual = true)
    (S : FnScope N ps (C8.fnScope st)) (len : ∀ vs H Q E, sp vs H Q E → vs.length = ps.length)
    (hbody : ∀ (A : Around) (outer : List Env) (s : Shared) (H : Hp) (vs : List V) (Q : VK) (E : XK), Room k (A.deeper (envOfC qual (C8.fnScope st) s.heap.objs.size f (.ref c))) → sp vs H Q E →
      ∃ t, PSs (cxOf C8.CX0 P w K mg base N qual (C8.fnScope st) f (.ref c) A outer s H E).nox (C8.fnBody st) t ∧ t { nx := fun _ H' => Q .non H', rt := Q } (L2.start N vs) H) : FnOk P w K mg base C8.CX0 (k + 1) f (PySem.W.fnOf x qual (C8.fnArgs st) (C8.fnBody st) (C8.fnScope st) dV kV doc pm an (.ref c) ct) ps sp :=
  fn_of lk hcd S len fun A outer s H vs Q E hr hsp => by
    obtain ⟨t, h, q⟩ := hbody A outer s H vs Q E hr hsp
    exact ⟨t, h.nox, q⟩
theorem DnC.cal {x : Str} {st : Stmt} {N ps : List Str} {c : Addr} {k : Nat} {sp : Sp} (D : DnC K mg x st ps c) (S : FnScope N ps (C8.fnScope st)) (len : ∀ vs H Q E, sp vs H Q E → vs.length = ps.length)
    (hbody : ∀ (f : Addr) (A : Around) (outer : List Env) (s : Shared) (H : Hp) (vs : List V) (Q : VK) (E : XK), Room k (A.deeper (envOfC x (C8.fnScope st) s.heap.objs.size f (.ref c))) → sp vs H Q E →
      ∃ t, PSs (cxOf C8.CX0 P w K mg base N x (C8.fnScope st) f (.ref c) A outer s H E).nox (C8.fnBody st) t ∧ t { nx := fun _ H' => Q .non H', rt := Q } (start N vs) H) : Cal P w K mg base (k + 1) x sp [] := by
  obtain ⟨f, oc, dV, kV, doc, pm, ct, od, an, osl, lk, hc, hm, hk, hb⟩ := D.ex
  exact ⟨f, _, ps, [], fn0C lk hc S len fun A outer s H vs Q E hr h => hbody f A outer s H vs Q E hr h, hm, hk, hb, .nil⟩
end
end Br

/-! how many rows the law finds -/
namespace Br
open PySem PySem.Spec PyProof.Rows L2
open C8 (Cal Met Mak cal0 met0 mak0 pe_c pe_mk pe_mt pe_mt0 pe_gc Def)
open NdefX (NF FnO NOk NTab TabsN)
theorem KP_merge (m f L : Addr) : mergeK [] (KP m f L) = KP m f L := by
  have h1 : ¬ Str.ofString "known" = Str.ofString "road" := by decide +kernel
  have h2 : ¬ Str.ofString "known" = Str.ofString "roads" := by decide +kernel
  have h3 : ¬ Str.ofString "road" = Str.ofString "roads" := by decide +kernel
  simp [mergeK, KP, putK, h1, h2, h3]
theorem natsI {ns : List Int} (h : ∀ k ∈ ns, ∃ m : Nat, k = (m : Int)) : ∃ B : List Nat, ns = B.map fun m : Nat => (m : Int) := by
  induction ns with
  | nil => exact ⟨[], rfl⟩
  | cons n ns ih =>
    obtain ⟨m, rfl⟩ := h n List.mem_cons_self
    obtain ⟨B, rfl⟩ := ih fun k hk => h k (List.mem_cons_of_mem _ hk)
    exact ⟨m :: B, rfl⟩
section
variable {P : Program} {w : World} {K : PySem.W.Frag} {mg : Str → Option Value} {base : Heap} {CK CT cD PD : Addr}
def spDue (TD : List NTab) : Sp := fun vs H Q _ => ∃ (d : Addr) (rows : RowL) (t : Tr), vs = [.ref d] ∧ TabsN TD H ∧ H d = some (.dK (RK rows)) ∧ (rows.map (·.1)).Nodup ∧ (∀ r ∈ rows, r.1.length ≤ 64) ∧ rows.length ≤ 250 ∧ (∀ s, rget rows s = t.get s) ∧ t.neat ∧ t.deep 64 ∧ t.size ≤ 20000 ∧
  ∀ H' roads, LamX.ExtN H H' → TabsN TD H' → (∀ s x, t.get s = some x → x ∈ roads) → Q (.int (Tr.ls roads t none none : Int)) H'
theorem c_l_due {TD : List NTab} (T : Glob mg) (TB : LamX.TabB base mg cD PD) (hmT : (PD, fun _ _ => (envOfC "_law_due" (C8.fnScope s_l_due) 0 0 .none).qual ++ "_law_goal") ∈ TD) (huT : ∀ p ∈ TD, p.1 = PD → p.2 = fun _ _ => (envOfC "_law_due" (C8.fnScope s_l_due) 0 0 .none).qual ++ "_law_goal")
    (D : DnC K mg "_law_due" s_l_due ["_law_rows"] cD) (c_l_least : ∀ B, Cal P w K mg B 66 "_law_least" (spLeast P w K mg 65 B) []) : Cal P w K mg base 67 "_law_due" (spDue TD) [] := by
  refine D.cal sc_l_due (fun vs H Q E h => ?_) (fun f0 A outer s0 H vs Q E hr h => ?_)
  · obtain ⟨d, rows, t, rfl, _⟩ := h
    rfl
  · obtain ⟨d, rows, t, rfl, hT, hd, hnd, hlen, hmany, ag, nt, de, hz, k⟩ := h
    have hu := hu_of hr
    refine ⟨_, (pss_cons (NdefX.ps_ndefMS (st := s_l_due_l_goal) (i := 1) (name := "_law_goal") rfl TB rfl hmT rfl huT (NdefX.ndef_free (fr := ["_law_rows"]) (by show NdefX.ndefB (C8.fnScope s_l_due) (C8.fnScope s_l_due_l_goal) ["_law_rows"] = true; decide +kernel)) rfl rfl rfl sc_l_due.nd rfl (Or.inl rfl) (Or.inl rfl))
      (pss_cons (ps_set (i := 2) sc_l_due.nd rfl (by first | exact Or.inl rfl | exact Or.inr rfl) (pe_disp (pps_cons pe_str pe_mnew (pps_cons pe_str (pv 1) (pps_cons pe_str (pe_callB (cr_sortedSetN rfl) (by rfl) T.g_sorted (by decide +kernel) (pa_cons (pe_callTy (cr_setI rfl) (by rfl) T.g_set (by decide +kernel) (pa_cons (pe_lock (pe_lc (own := [("_law_start_here", 3)]) (g := (gName 3)) (tt := tYes) rfl sc_l_due.nd (pi_keys (pv 0)) (blkOk_by (own := [("_law_start_here", 3)]) (N := n_l_due) (sc := C8.fnScope s_l_due) (by decide +kernel)) (fun _ _ _ _ _ => (pg_name (i := 3) sc_l_due.nd rfl (by first | exact Or.inl rfl | exact Or.inr rfl))) (fun _ _ _ _ _ => pts_nil) (fun _ _ _ _ _ => (pe_dget hu (pv 0) (pv 3) (fun _ _ => rfl))))) pa_nil)) pa_nil)) pps_nil))) (by rfl) (by rfl) (fun z => by cases z) (by decide)))
      (pss_one (ps_ret (pe_cB (cl := _) c_l_least hr (by first | decide | omega) rfl (fun ok => NdefX.Caps.made (scope := C8.fnScope s_l_due_l_goal) (fr := ["_law_rows"]) (js := [0]) ok (NdefX.ndef_free (fr := ["_law_rows"]) (by show NdefX.ndefB (C8.fnScope s_l_due) (C8.fnScope s_l_due_l_goal) ["_law_rows"] = true; decide +kernel)) (NdefX.ndef_fr (by show NdefX.ndefB (C8.fnScope s_l_due) (C8.fnScope s_l_due_l_goal) ["_law_rows"] = true; decide +kernel)) rfl) (fun _ => rfl) (pa_cons (pv 0) (pa_cons pe_str (pa_cons pe_non (pa_cons (pv 2) pa_nil))))))))), ?_⟩
    refine ⟨hT, fun f c' H1 x1 nn T1 hf0 hf1 hc1 => ?_⟩
    have hd1 := x1 _ _ hd (by intro ps z; cases z)
    intro p hp
    have s2 : Same H1 (upd H1 p (.dK [])) := Same_upd (Same.refl H1) hp
    have ep : (upd H1 p (.dK [])) p = some (.dK []) := upd_same
    generalize (upd H1 p (.dK [])) = H2 at s2 ep ⊢
    intro m hm
    have s3 : Same H2 (upd H2 m (MemO P w m [])) := Same_upd (Same.refl H2) hm
    have em : (upd H2 m (MemO P w m [])) m = some (MemO P w m []) := upd_same
    generalize hg3 : (upd H2 m (MemO P w m [])) = H3 at s3 em
    show tPairs _ _ (upd H2 m (MemO P w m [])) _
    rw [hg3]
    have hd3 := s3 _ _ (s2 _ _ hd1)
    refine ⟨_, rfl, d, _, hd3, trivial, fun od => ?_⟩
    refine ⟨_, rfl, d, od, rfl, .inl ⟨RK rows, upd_same, fun D2 hD2 => ?_⟩⟩
    have nD2 : D2 ≠ d := fun z => by rw [z, upd_same] at hD2; cases hD2
    have hD20 : H3 D2 = none := by rw [upd_ne nD2] at hD2; exact hD2
    refine lc_it walk_keys (fun i H' => (∀ a o, H3 a = some o → a ≠ d → H' a = some o) ∧ H' d = some (.frz od (.dK (RK rows))) ∧ H' D2 = some (.lst (((rows.take i).map fun r => (r.2 : Int)).map V.int)))
      ⟨fun a o e n => (upd_ne (ne_of_none e hD20)).trans ((upd_ne n).trans e), (upd_ne nD2.symm).trans upd_same, upd_same⟩ (fun i H' _ h => h.2.1) ?_ ?_
    · rintro i x H7 H8 hi ⟨st, fr, h7⟩ ⟨rfl, kk, vv, hkk, rfl⟩
      unfold RK at hkk
      rw [List.getElem?_map] at hkk
      cases er : rows[i]? with
      | none => rw [er] at hkk; cases hkk
      | some r =>
        rw [er] at hkk
        cases hkk
        have hcur : rget rows r.1 = some r.2 := mem_rget hnd (List.mem_of_getElem? er)
        have hval : DGet H8 d (kV (.inr (tx r.1))) (some (V.int (r.2 : Int))) := .inl ⟨RK rows, .inr (tx r.1), .inr ⟨od, fr⟩, rfl, by rw [RK_get, hcur]; rfl⟩
        refine ⟨rfl, yesI ?_⟩
        refine ⟨_, rfl, _, rfl, d, _, rfl, hval, _, h7, ?_, fun a o e n => (upd_ne (ne_of_none e hD20)).trans (st a o e n), (upd_ne nD2.symm).trans fr, ?_⟩
        · rw [List.length_map, List.length_map, List.length_take]
          exact Nat.lt_of_le_of_lt (m := 250) (by omega) (by decide)
        · rw [upd_same, take_snoc er, List.map_append, List.map_append]
          rfl
    · rintro H7 ⟨st, fr, h7⟩
      rw [RK_len, List.take_length] at h7
      refine ⟨fr, ?_⟩
      have s4 : Same H3 (upd H7 d (.dK (RK rows))) := fun a o e => by
        by_cases ed : a = d
        · subst ed; rw [upd_same, ← e, hd3]
        · rw [upd_ne ed]; exact st a o e ed
      have h7b : (upd H7 d (.dK (RK rows))) D2 = some (.lst ((rows.map fun r => (r.2 : Int)).map V.int)) := (upd_ne nD2).trans h7
      generalize (upd H7 d (.dK (RK rows))) = H8 at s4 h7b ⊢
      clear st fr h7
      refine ⟨D2, _, rfl, SqL.of h7b, (by rw [List.length_map]; omega), fun q c hc hq => ?_⟩
      rw [List.length_map] at hc
      have s5 : Same H8 (upd H8 q (SetO w q (fun j => decide (j ∈ rows.map fun r => (r.2 : Int))) c)) := Same_upd (Same.refl H8) hq
      have eq5 : (upd H8 q (SetO w q (fun j => decide (j ∈ rows.map fun r => (r.2 : Int))) c)) q = some (SetO w q (fun j => decide (j ∈ rows.map fun r => (r.2 : Int))) c) := upd_same
      refine ⟨q, _, c, rfl, eq5, by omega, fun ns L hpw hmem hl hL => ?_⟩
      obtain ⟨roads, rfl⟩ := natsI (ns := ns) fun x hx => by
        have := of_decide_eq_true ((hmem x).mp hx)
        obtain ⟨r, _, e⟩ := List.mem_map.mp this
        exact ⟨r.2, e.symm⟩
      have hL2 : (upd H8 q (SetO w q (fun j => decide (j ∈ rows.map fun r => (r.2 : Int))) c)) L = none := hL
      clear hL
      generalize hg6 : (upd H8 q (SetO w q (fun j => decide (j ∈ rows.map fun r => (r.2 : Int))) c)) = H9 at s5 eq5 hL2
      have s6 : Same H9 (upd H9 L (.lst ((roads.map fun m : Nat => (m : Int)).map V.int))) := Same_upd (Same.refl H9) hL2
      have eL : (upd H9 L (.lst ((roads.map fun m : Nat => (m : Int)).map V.int))) L = some (.lst (nl roads)) := by rw [upd_same, List.map_map]; rfl
      generalize hg7 : (upd H9 L (.lst ((roads.map fun m : Nat => (m : Int)).map V.int))) = HA at s6 eL
      show tPairs [] _ (upd (upd H8 q (SetO w q (fun j => decide (j ∈ rows.map fun r => (r.2 : Int))) c)) L (.lst ((roads.map fun m : Nat => (m : Int)).map V.int))) _
      rw [hg6, hg7]
      have s3A := (s4.trans s5).trans s6
      have s2A := s3.trans s3A
      have npL : L ≠ p := fun z => by
        have := ((s3.trans s4).trans s5) _ _ ep
        rw [← z, hL2] at this
        cases this
      have npm : p ≠ m := ne_of_none ep hm
      have npf : f ≠ p := ne_of_none hf1 hp
      have npc : c' ≠ p := ne_of_none hc1 hp
      have npd : d ≠ p := ne_of_none hd1 hp
      have nfm : f ≠ m := ne_of_none (s2 _ _ hf1) hm
      have ncm : c' ≠ m := ne_of_none (s2 _ _ hc1) hm
      refine ⟨s2A _ _ ep, KP m f L, rfl, by show 3 ≤ 15; decide, ?_⟩
      rw [KP_merge]
      have s1A := s2.trans s2A
      have s1B : Same H1 (upd HA p (.dK (KP m f L))) := fun a o e => (upd_ne (ne_of_none e hp)).trans (s1A _ _ e)
      have ek : (upd HA p (.dK (KP m f L))) p = some (.dK (KP m f L)) := upd_same
      have emB : (upd HA p (.dK (KP m f L))) m = some (MemO P w m []) := (upd_ne npm.symm).trans (s3A _ _ em)
      have eLB : (upd HA p (.dK (KP m f L))) L = some (.lst (nl roads)) := (upd_ne npL).trans eL
      generalize (upd HA p (.dK (KP m f L))) = HB at s1B ek emB eLB ⊢
      have hroads : ∀ s x, t.get s = some x → x ∈ roads := fun s x e => by
        rw [← ag] at e
        have h1 := (hmem (x : Int)).mpr (decide_eq_true (List.mem_map.mpr ⟨(s, x), rget_mem e, rfl⟩))
        obtain ⟨m', hm', e'⟩ := List.mem_map.mp h1
        rw [show x = m' by omega]
        exact hm'
      have hrl : roads.length ≤ 300 := by
        rw [List.length_map] at hl
        omega
      refine ⟨_, rfl, _, rfl, fun B CB => ?_⟩
      refine ⟨d, p, m, f, L, d, _, rows, rows, [], none, t, roads, [], 64, by omega, ?_, s1B _ _ hd1, ⟨hnd, fun s _ => ag s, fun r hr => Nat.le_trans (hlen r hr) (by decide), by omega⟩, ⟨ek, eLB, s1B _ _ hf1, s1B _ _ hc1, s1B _ _ hd1, nfm, ncm, n_goal T, CB⟩, emB, ⟨List.nodup_nil, fun x hx => (by cases hx)⟩, ag, nt, ?_, by decide, hz, hrl, Tr.spots_top t [], List.mem_cons_self, fun H' xs' M hm' mo' => ?_⟩
      · rw [tx_nil]; rfl
      · have e1 : t.sub [] = t := by cases t <;> rfl
        rw [e1]; exact de
      · rw [Tr.lsv_nil]
        have hm1 : H1 m = none := s2.free hm
        have s1C : Same H1 H' := fun a o e => M _ _ (s1B _ _ e) (.inl (by simp [ne_of_none e hm1]))
        exact k H' roads (fun a o e n => s1C _ _ (x1 _ _ e n)) (T1.ext s1C) hroads
end
end Br

/-! parts of a table -/
namespace Br
open PySem PySem.Spec PyProof.Rows L2
open C8 (Cal Met Mak cal0 met0 mak0 pe_c pe_mk pe_mt pe_mt0 pe_gc Def)
/-- what is read of the class Part -/
structure Ps (K : PySem.W.Frag) (CP : Addr) : Prop where
  cl : Cls K CP
  nstart : NoAttr K CP "start"
  nhalves : NoAttr K CP "halves"
  nsome : NoAttr K CP "some"
/-- a part's fields -/
def pfl (s : List Bool) (ph ps : Addr) : List (Str × V) := [("start", .str (tx s)), ("halves", .ref ph), ("some", .ref ps)]
/-- a part of the tree t beneath the start s, y the road from above; G says what stands -/
def PartAt (G : Addr → HO → Prop) (CP : Addr) : Tr → Option Nat → List Bool → Addr → Prop
  | .nil, y, s, p => ∃ dx ph ps, G p (.ins CP dx (pfl s ph ps)) ∧ G ph (.lst []) ∧ G ps (.lst (nl y.toList))
  | .nd g l r, y, s, p => ∃ dx ph ps, G p (.ins CP dx (pfl s ph ps)) ∧ G ps (.lst (nl (Tr.fset (.nd g l r) y))) ∧
      (if (Tr.nd g l r).leaf = true then G ph (.lst []) else ∃ p1 p2, G ph (.lst [.ref p1, .ref p2]) ∧ PartAt G CP l (g.or y) (s ++ [false]) p1 ∧ PartAt G CP r (g.or y) (s ++ [true]) p2)
theorem PartAt.mono {G G' : Addr → HO → Prop} {CP : Addr} (h : ∀ a o, G a o → G' a o) : ∀ {t : Tr} {y : Option Nat} {s : List Bool} {p : Addr}, PartAt G CP t y s p → PartAt G' CP t y s p
  | .nil, y, s, p, ⟨dx, ph, ps, h1, h2, h3⟩ => ⟨dx, ph, ps, h _ _ h1, h _ _ h2, h _ _ h3⟩
  | .nd g l r, y, s, p, k => by
    unfold PartAt at k ⊢
    obtain ⟨dx, ph, ps, h1, h3, h4⟩ := k
    refine ⟨dx, ph, ps, h _ _ h1, h _ _ h3, ?_⟩
    split
    · rename_i hl
      rw [if_pos hl] at h4
      exact h _ _ h4
    · rename_i hl
      rw [if_neg hl] at h4
      obtain ⟨p1, p2, h5, h6, h7⟩ := h4
      exact ⟨p1, p2, h _ _ h5, h6.mono h, h7.mono h⟩
section
variable {P : Program} {w : World} {K : PySem.W.Frag} {mg : Str → Option Value} {base : Heap} {CK CT CP : Addr}
abbrev s_Part_init : Stmt := inClass (top 26) 0
abbrev n_Part_init : List Str := ["self", "start", "halves", "some"]
theorem sc_Part_init : FnScope n_Part_init ["self", "start", "halves", "some"] (C8.fnScope s_Part_init) := ⟨rfl, rfl, rfl, by decide +kernel, rfl, by decide +kernel, by decide +kernel⟩
def spPart (K : PySem.W.Frag) : Sp := fun vs H Q _ => ∃ (a C dx : Addr) (s : List Bool) (ph ps : Addr), vs = [.ref a, .str (tx s), .ref ph, .ref ps] ∧ Ps K C ∧ H a = some (.ins C dx []) ∧ ∀ H', Mod [a] H H' → H' a = some (.ins C dx (pfl s ph ps)) → Q .non H'
theorem c_Part_init (Pp : Ps K CP) (D : Mkn K mg "Part" CP s_Part_init ["self", "start", "halves", "some"]) : Mak P w K mg base 1 "Part" CP (spPart K) [] := by
  refine D.mak sc_Part_init (fun vs H Q E h => ?_) (fun qual f cdv A outer s0 H vs Q E hr h => ?_)
  · obtain ⟨a, C, dx, s, ph, ps, rfl, _⟩ := h
    rfl
  · obtain ⟨a, C, dx, s, ph, ps, rfl, Pp, ha, k⟩ := h
    refine ⟨_, (pss_cons (ps_fld (pv 0) (pv 1) rfl)
      (pss_cons (ps_fld (pv 0) (pv 2) rfl)
      (pss_one (ps_fld (pv 0) (pv 3) rfl)))), ?_⟩
    refine ⟨_, rfl, _, rfl, a, C, dx, _, rfl, ha, Pp.cl, Pp.nstart, (by show 0 < 1000; decide), ?_⟩
    refine ⟨_, rfl, _, rfl, a, C, dx, _, rfl, upd_same, Pp.cl, Pp.nhalves, (by show 1 < 1000; decide), ?_⟩
    refine ⟨_, rfl, _, rfl, a, C, dx, _, rfl, upd_same, Pp.cl, Pp.nsome, (by show 2 < 1000; decide), ?_⟩
    refine k _ ?_ upd_same
    refine ((Mod.refl.upd (.inl (by simp)) fun xs z => ?_).upd (.inl (by simp)) fun xs z => ?_).upd (.inl (by simp)) fun xs z => ?_
    · rw [ha] at z; cases z
    · rw [upd_same] at z; cases z
    · rw [upd_same] at z; cases z
end
end Br

/-! the parts of a table are made -/
namespace Br
open PySem PySem.Spec PyProof.Rows L2
open C8 (Cal Met Mak cal0 met0 mak0 pe_c pe_mk pe_mt pe_mt0 pe_gc Def)
theorem fset_len : ∀ (t : Tr) (y : Option Nat), (Tr.fset t y).length ≤ t.size + 1
  | .nil, y => by cases y <;> simp [Tr.fset, Tr.size]
  | .nd g l r, y => by
    rw [Tr.fset]
    have h1 := fset_len l (g.or y)
    have h2 := fset_len r (g.or y)
    have e : (Tr.nd g l r).size = 1 + l.size + r.size := rfl
    split
    · cases g.or y <;> simp
    · unfold Tr.shared
      split
      · exact Nat.zero_le _
      · split
        · exact Nat.le_trans (List.length_filter_le _ _) (by omega)
        · have := (List.mergeSort_perm (Tr.fset l (g.or y) ++ Tr.fset r (g.or y)) fun a b => decide (a ≤ b)).length_eq
          unfold Tr.sortN
          rw [this, List.length_append]
          omega
theorem PartAt.here {G : Addr → HO → Prop} {CP : Addr} : ∀ {t : Tr} {y : Option Nat} {s : List Bool} {p : Addr}, PartAt G CP t y s p → ∃ dx ph ps, G p (.ins CP dx (pfl s ph ps)) ∧ G ps (.lst (nl (Tr.fset t y)))
  | .nil, y, s, p, ⟨dx, ph, ps, h1, h2, h3⟩ => ⟨dx, ph, ps, h1, h3⟩
  | .nd g l r, y, s, p, k => by
    unfold PartAt at k
    obtain ⟨dx, ph, ps, h1, h3, h4⟩ := k
    exact ⟨dx, ph, ps, h1, h3⟩
section
variable {P : Program} {w : World} {K : PySem.W.Frag} {mg : Str → Option Value} {base : Heap} {CK CT CP : Addr}
abbrev s_part_of : Stmt := top 27
abbrev n_part_of : List Str := ["knot", "start", "road", "halves", "half"]
theorem sc_part_of : FnScope n_part_of ["knot", "start", "road"] (C8.fnScope s_part_of) := ⟨rfl, rfl, rfl, by decide +kernel, rfl, by decide +kernel, by decide +kernel⟩
def spPartOf (K : PySem.W.Frag) (CP : Addr) (n : Nat) : Sp := fun vs H Q _ => ∃ (C : Addr) (t : AT) (k : Nat) (s : List Bool) (y : Option Nat), k < n ∧ vs = [t.val, .str (tx s), ov y] ∧ Ks K C ∧ Ps K CP ∧ t.ok C H ∧ t.tr.deep k ∧ s.length + k ≤ 1000 ∧ t.tr.size ≤ 20000 ∧
  ∀ H' p, Same H H' → PartAt (fun a o => H' a = some o ∧ H a = none) CP t.tr y s p → Q (.ref p) H'
theorem c_part_of (T : Glob mg) (D : Dn K mg "part_of" s_part_of ["knot", "start", "road"]) (c_Part : Mak P w K mg base 1 "Part" CP (spPart K) []) (c_shared : Cal P w K mg base 1 "shared" spShared []) : ∀ n, Cal P w K mg base (n + 2) "part_of" (spPartOf K CP n) []
  | 0 => D.never fun vs H Q E ⟨_, _, _, _, _, h, _⟩ => absurd h (Nat.not_lt_zero _)
  | n + 1 => by
    have c_part_of := c_part_of T D c_Part c_shared n
    refine D.cal sc_part_of (fun vs H Q E h => ?_) (fun f cdv A outer s0 H vs Q E hr h => ?_)
    · obtain ⟨C, t, k, s, y, _, rfl, _⟩ := h
      rfl
    · obtain ⟨C, t, k, s, y, hk, rfl, Kk, Pp, ht, hd, hs, hz, q⟩ := h
      refine ⟨_, (C8.pss_cut (ps_if (PW.pt (pw_and (pt_cmpR op_notN (pv 0) pe_non (nomark _)) (pw_and1 (pt_cmpR op_notN (pe_fld (pv 0) rfl) pe_non (nomark _)))))
      (pss_one (ps_set (i := 2) sc_part_of.nd rfl (by first | exact Or.inl rfl | exact Or.inr rfl) (pe_fld (pv 0) rfl)))
      pss_nil)
      (pss_cons (ps_if (PW.pt (pw_or (pt_cmpR op_isN (pv 0) pe_non (nomark _)) (pw_or1 (pt_cmpR (op_kids hr.units) (pe_fld (pv 0) rfl) (pe_lst (pa_cons pe_non (pa_cons pe_non pa_nil))) (nomark _)))))
      (pss_one (ps_ret (pe_mk c_Part hr (by first | decide | omega) rfl (pa_cons (pv 1) (pa_cons (pe_lst pa_nil) (pa_cons (pe_ifExp (pt_cmpR op_notN (pv 2) pe_non (nomark _)) (pe_lst (pa_cons (pv 2) pa_nil)) (pe_lst pa_nil)) pa_nil))))))
      pss_nil)
      (pss_cons (ps_set (i := 3) sc_part_of.nd rfl (by first | exact Or.inl rfl | exact Or.inr rfl) (pe_lst (pa_cons (pe_c c_part_of hr (by first | decide | omega) rfl (pa_cons (pe_ix ix_list (pe_fld (pv 0) rfl) pe_int (fun _ _ => rfl)) (pa_cons (pe_op op_add_str (pv 1) pe_str) (pa_cons (pv 2) pa_nil)))) (pa_cons (pe_c c_part_of hr (by first | decide | omega) rfl (pa_cons (pe_ix ix_list (pe_fld (pv 0) rfl) pe_int (fun _ _ => rfl)) (pa_cons (pe_op op_add_str (pv 1) pe_str) (pa_cons (pv 2) pa_nil)))) pa_nil))))
      (pss_one (ps_ret (pe_mk c_Part hr (by first | decide | omega) rfl (pa_cons (pv 1) (pa_cons (pv 3) (pa_cons (pe_c c_shared hr (by first | decide | omega) rfl (pa_cons (pe_lc (own := [("half", 4)]) (g := (gName 4)) (tt := tYes) rfl sc_part_of.nd (pi_list (pv 3)) (blkOk_by (own := [("half", 4)]) (N := n_part_of) (sc := C8.fnScope s_part_of) (by decide +kernel)) (fun _ _ _ _ _ => (pg_name (i := 4) sc_part_of.nd rfl (by first | exact Or.inl rfl | exact Or.inr rfl))) (fun _ _ _ _ _ => pts_nil) (fun _ _ _ _ _ => (pe_fldK K (pv 4) rfl))) pa_nil)) pa_nil))))))))), ?_⟩
      cases t with
      | nil =>
        refine ⟨fun σ' H' => σ' = [some .non, some (.str (tx s)), some (ov y), none, none] ∧ H = H', ⟨_, rfl, rfl, _, rfl, iteF (iteF ⟨rfl, rfl⟩)⟩, ?_⟩
        rintro σ' H' ⟨rfl, rfl⟩
        refine ⟨_, rfl, rfl, _, rfl, iteT (iteT ?_)⟩
        refine ⟨_, rfl, (by show 0 ≤ sizeLine; decide), fun ph hph => ?_⟩
        have s1 : Same H (upd H ph (.lst [])) := Same_upd (Same.refl H) hph
        have e1 : (upd H ph (.lst [])) ph = some (.lst []) := upd_same
        generalize (upd H ph (.lst [])) = H1 at s1 e1 ⊢
        have fin : ∀ ps H2, H1 ps = none → H2 = upd H1 ps (.lst (nl y.toList)) → ∀ x dx, H2 x = none → H2 dx = none → dx ≠ x → ∀ H', Mod [x] (upd (upd H2 dx (.own x)) x (.ins CP dx [])) H' → H' x = some (.ins CP dx (pfl s ph ps)) → Q (.ref x) H' := fun ps H2 hps e2 x dx hx hdx nd H' m ex => by
          have s2 : Same H1 H2 := by rw [e2]; exact Same_upd (Same.refl H1) hps
          have eps : H2 ps = some (.lst (nl y.toList)) := by rw [e2]; exact upd_same
          have s3 := mk_same hx hdx m
          exact q H' x ((s1.trans s2).trans s3) ⟨dx, ph, ps, ⟨ex, (s1.trans s2).free hx⟩, ⟨(s2.trans s3) _ _ e1, hph⟩, ⟨s3 _ _ eps, s1.free hps⟩⟩
        refine ⟨_, rfl, rfl, _, rfl, ?_⟩
        cases y with
        | none =>
          refine iteF ?_
          refine ⟨(by show 0 ≤ sizeLine; decide), fun ps hps => ?_⟩
          exact fun x dx hx hdx nd => ⟨x, CP, dx, s, ph, ps, rfl, Pp, upd_same, fun H' m ex => ⟨rfl, fin ps _ hps rfl x dx hx hdx nd H' m ex⟩⟩
        | some z =>
          refine iteT ?_
          refine ⟨_, rfl, (by show 1 ≤ sizeLine; decide), fun ps hps => ?_⟩
          exact fun x dx hx hdx nd => ⟨x, CP, dx, s, ph, ps, rfl, Pp, upd_same, fun H' m ex => ⟨rfl, fin ps _ hps rfl x dx hx hdx nd H' m ex⟩⟩
      | nd b dx ka g l r =>
        obtain ⟨hb, hka, hl, hr'⟩ := ht
        refine ⟨fun σ' H' => σ' = [some (.ref b), some (.str (tx s)), some (ov (g.or y)), none, none] ∧ H = H', ?_, ?_⟩
        · refine ⟨_, rfl, rfl, _, rfl, iteT ?_⟩
          refine ⟨_, rfl, b, C, dx, _, _, rfl, hb, Kk.cl, Kk.ngoal, rfl, rfl, _, rfl, ?_⟩
          rw [isSome_ov]
          cases g with
          | none => exact iteF ⟨by cases y <;> rfl, rfl⟩
          | some z => exact iteT ⟨_, rfl, b, C, dx, _, _, rfl, hb, Kk.cl, Kk.ngoal, rfl, rfl, rfl⟩
        · rintro σ' H' ⟨rfl, rfl⟩
          refine ⟨_, rfl, rfl, _, rfl, iteF ?_⟩
          refine ⟨_, rfl, b, C, dx, _, _, rfl, hb, Kk.cl, Kk.nkids, rfl, (by show 2 ≤ sizeLine; decide), fun q1 hq1 => ?_⟩
          have s1 : Same H (upd H q1 (.lst [.non, .non])) := Same_upd (Same.refl H) hq1
          have e1 : (upd H q1 (.lst [.non, .non])) q1 = some (.lst [.non, .non]) := upd_same
          generalize (upd H q1 (.lst [.non, .non])) = H1 at s1 e1 ⊢
          refine ⟨ka, q1, _, _, rfl, rfl, s1 _ _ hka, e1, rfl, ?_, ?_, _, rfl, ?_⟩
          · intro z hz
            simp at hz
            exact hz
          · intro z hz
            rcases List.mem_cons.mp hz with rfl | hz
            · exact noneOr_same (noneOr_val Kk hl) s1
            · rcases List.mem_cons.mp hz with rfl | hz
              · exact noneOr_same (noneOr_val Kk hr') s1
              · cases hz
          have ea : [l.val, r.val].all isNon = (l.tr.isNil && r.tr.isNil) := by
            show (isNon l.val && (isNon r.val && true)) = _
            rw [AT.isNon_val, AT.isNon_val, Bool.and_true]
          rw [ea]
          have el : (l.tr.isNil && r.tr.isNil) = (Tr.nd g l.tr r.tr).leaf := by
            cases l.tr <;> cases r.tr <;> rfl
          rw [el]
          refine ite2 (fun c => ?_) fun c => ?_
          · have c : (Tr.nd g l.tr r.tr).leaf = true := c
            refine ⟨_, rfl, (by show 0 ≤ sizeLine; decide), fun ph hph => ?_⟩
            have s2 : Same H1 (upd H1 ph (.lst [])) := Same_upd (Same.refl H1) hph
            have e2 : (upd H1 ph (.lst [])) ph = some (.lst []) := upd_same
            generalize (upd H1 ph (.lst [])) = H2 at s2 e2 ⊢
            have s12 := s1.trans s2
            have fin : ∀ ps H3, H2 ps = none → H3 = upd H2 ps (.lst (nl (g.or y).toList)) → ∀ x dx, H3 x = none → H3 dx = none → dx ≠ x → ∀ H', Mod [x] (upd (upd H3 dx (.own x)) x (.ins CP dx [])) H' → H' x = some (.ins CP dx (pfl s ph ps)) → Q (.ref x) H' := fun ps H3 hps e3 x dx hx hdx nd H' m ex => by
              have s3 : Same H2 H3 := by rw [e3]; exact Same_upd (Same.refl H2) hps
              have eps : H3 ps = some (.lst (nl (g.or y).toList)) := by rw [e3]; exact upd_same
              have s4 := mk_same hx hdx m
              refine q H' x ((s12.trans s3).trans s4) ?_
              show PartAt _ CP (.nd g l.tr r.tr) y s x
              unfold PartAt
              refine ⟨dx, ph, ps, ⟨ex, (s12.trans s3).free hx⟩, ⟨?_, s12.free hps⟩, ?_⟩
              · rw [Tr.fset, if_pos c]; exact s4 _ _ eps
              · rw [if_pos c]; exact ⟨(s3.trans s4) _ _ e2, s1.free hph⟩
            refine ⟨_, rfl, rfl, _, rfl, ?_⟩
            cases hgy : g.or y with
            | none =>
              rw [hgy] at fin
              refine iteF ?_
              refine ⟨(by show 0 ≤ sizeLine; decide), fun ps hps => ?_⟩
              exact fun x dx hx hdx nd => ⟨x, CP, dx, s, ph, ps, rfl, Pp, upd_same, fun H' m ex => ⟨rfl, fin ps _ hps rfl x dx hx hdx nd H' m ex⟩⟩
            | some z =>
              rw [hgy] at fin
              refine iteT ?_
              refine ⟨_, rfl, (by show 1 ≤ sizeLine; decide), fun ps hps => ?_⟩
              exact fun x dx hx hdx nd => ⟨x, CP, dx, s, ph, ps, rfl, Pp, upd_same, fun H' m ex => ⟨rfl, fin ps _ hps rfl x dx hx hdx nd H' m ex⟩⟩
          · have c : ¬ (Tr.nd g l.tr r.tr).leaf = true := c
            cases k with
            | zero =>
              obtain ⟨d1, d2⟩ := hd
              rw [d1, d2] at c
              exact (c rfl).elim
            | succ k =>
              obtain ⟨d1, d2⟩ := hd
              have e0 : Str.ofString "0" = tx [false] := by decide +kernel
              have e1' : Str.ofString "1" = tx [true] := by decide +kernel
              have zl : l.tr.size ≤ 20000 ∧ r.tr.size ≤ 20000 := by
                have : 1 + l.tr.size + r.tr.size ≤ 20000 := hz
                omega
              refine ⟨_, rfl, b, C, dx, _, _, rfl, s1 _ _ hb, Kk.cl, Kk.nkids, rfl, ka, _, _, _, rfl, rfl, SqL.of (s1 _ _ hka), atI_nat (j := 0) rfl, ?_⟩
              refine ⟨_, rfl, _, _, rfl, rfl, (by rw [e0, tx_len, tx_len]; exact Nat.le_trans (by show s.length + 1 ≤ 2000; omega) (by decide)), ?_⟩
              rw [e0, tx_append]
              refine ⟨_, rfl, C, l, k, s ++ [false], g.or y, by omega, rfl, Kk, Pp, AT.ok_same hl s1, d1, (by rw [List.length_append, List.length_singleton]; omega), zl.1, fun H2 p1 s2 hp1 => ?_⟩
              have s12 := s1.trans s2
              refine ⟨_, rfl, b, C, dx, _, _, rfl, s12 _ _ hb, Kk.cl, Kk.nkids, rfl, ka, _, _, _, rfl, rfl, SqL.of (s12 _ _ hka), atI_nat (j := 1) rfl, ?_⟩
              refine ⟨_, rfl, _, _, rfl, rfl, (by rw [e1', tx_len, tx_len]; exact Nat.le_trans (by show s.length + 1 ≤ 2000; omega) (by decide)), ?_⟩
              rw [e1', tx_append]
              refine ⟨_, rfl, C, r, k, s ++ [true], g.or y, by omega, rfl, Kk, Pp, AT.ok_same hr' s12, d2, (by rw [List.length_append, List.length_singleton]; omega), zl.2, fun H3 p2 s3 hp2 => ?_⟩
              have s13 := s12.trans s3
              refine ⟨(by show 2 ≤ sizeLine; decide), fun ph hph => ?_⟩
              obtain ⟨da, pa, sa, ga1, ga2⟩ := hp1.here
              obtain ⟨db, pb, sb, gb1, gb2⟩ := hp2.here
              have s4 : Same H3 (upd H3 ph (.lst [.ref p1, .ref p2])) := Same_upd (Same.refl H3) hph
              have e4 : (upd H3 ph (.lst [.ref p1, .ref p2])) ph = some (.lst [.ref p1, .ref p2]) := upd_same
              generalize (upd H3 ph (.lst [.ref p1, .ref p2])) = H4 at s4 e4 ⊢
              have s34 := s3.trans s4
              refine ⟨_, rfl, _, rfl, _, rfl, ph, rfl, ⟨_, SqL.of e4⟩, fun D hD => ?_⟩
              refine lc_it (walk_list (K := K) (a := ph) (xs := [V.ref p1, V.ref p2])) (PvF H4 D fun j => [V.ref sa, V.ref sb].take j) (pv0 hD) (fun j H' _ h => SqL.of (h.1 _ _ e4)) ?_ ?_
              · rintro j x H5 H6 hj ⟨s5, h5⟩ ⟨rfl, hx⟩
                have s45 := s4.trans s5
                have s345 := s34.trans s5
                match j, hx with
                | 0, hx =>
                  cases hx
                  refine ⟨rfl, _, rfl, p1, CP, da, _, _, rfl, s345 _ _ ga1.1, Pp.cl, Pp.nsome, rfl, ?_⟩
                  exact pv_in hD s5 h5 (by show 0 < 100000; decide) rfl
                | 1, hx =>
                  cases hx
                  refine ⟨rfl, _, rfl, p2, CP, db, _, _, rfl, s45 _ _ gb1.1, Pp.cl, Pp.nsome, rfl, ?_⟩
                  exact pv_in hD s5 h5 (by show 1 < 100000; decide) rfl
              · rintro H5 ⟨s5, h5⟩
                have h5 : H5 D = some (.lst [V.ref sa, V.ref sb]) := h5
                have s45 := s4.trans s5
                have s345 := s34.trans s5
                have f1 := fset_len l.tr (g.or y)
                have f2 := fset_len r.tr (g.or y)
                refine ⟨D, sa, sb, Tr.fset l.tr (g.or y), Tr.fset r.tr (g.or y), rfl, h5, s345 _ _ ga2.1, s45 _ _ gb2.1, by omega, fun H6 pq s6 hpq e6 => ?_⟩
                refine fun x dx' hx hdx nd => ⟨x, CP, dx', s, ph, pq, rfl, Pp, upd_same, fun H' m ex => ⟨rfl, ?_⟩⟩
                have s7 := mk_same hx hdx m
                have s47 := (s45.trans s6).trans s7
                have s37 := s3.trans s47
                have s06 := (s13.trans s45).trans s6
                refine q H' x (s06.trans s7) ?_
                show PartAt _ CP (.nd g l.tr r.tr) y s x
                unfold PartAt
                refine ⟨dx', ph, pq, ⟨ex, s06.free hx⟩, ⟨?_, (s13.trans s45).free hpq⟩, ?_⟩
                · rw [Tr.fset, if_neg c]; exact s7 _ _ e6
                · rw [if_neg c]
                  exact ⟨p1, p2, ⟨((s5.trans s6).trans s7) _ _ e4, s13.free hph⟩, hp1.mono fun a o h => ⟨s37 _ _ h.1, s1.free h.2⟩, hp2.mono fun a o h => ⟨s47 _ _ h.1, s12.free h.2⟩⟩
end
end Br

/-! the rows are laid -/
namespace Br
open PySem PySem.Spec PyProof.Rows L2
open C8 (Cal Met Mak cal0 met0 mak0 pe_c pe_mk pe_mt pe_mt0 pe_gc Def)
/-- a row that is laid bears a road that may come from above -/
theorem rowOf_mem {S : List Nat} {c : Option Nat} {x : Nat} (h : Tr.rowOf S c = some x) : x ∈ S := by
  unfold Tr.rowOf at h
  split at h
  · cases h
  · cases S with
    | nil => cases h
    | cons y S => cases h; exact List.mem_cons_self
/-- every road that may be laid is one of the tree's or comes from above -/
theorem fset_max {m : Nat} : ∀ (t : Tr) (y : Option Nat), (∀ s x, t.get s = some x → x ≤ m) → (∀ x, y = some x → x ≤ m) → ∀ x ∈ Tr.fset t y, x ≤ m
  | .nil, y, _, hy, x, hx => by
    cases y with
    | none => cases hx
    | some z => rw [List.mem_singleton.mp hx]; exact hy z rfl
  | .nd g l r, y, ht, hy, x, hx => by
    rw [Tr.fset] at hx
    have hg : ∀ z, g.or y = some z → z ≤ m := fun z hz => by
      cases g with
      | none => exact hy z (by cases y <;> simpa using hz)
      | some a => exact ht [] z (by show some a = some z; exact hz)
    have h1 := fset_max l (g.or y) (fun s x h => ht (false :: s) x h) hg
    have h2 := fset_max r (g.or y) (fun s x h => ht (true :: s) x h) hg
    split at hx
    · cases e : g.or y with
      | none => rw [e] at hx; cases hx
      | some z => rw [e] at hx; rw [List.mem_singleton.mp hx]; exact hg z e
    · unfold Tr.shared at hx
      split at hx
      · cases hx
      · split at hx
        · exact h1 x (Tr.mem_both.mp hx).1
        · rcases List.mem_append.mp (Tr.mem_sortN.mp hx) with h | h
          · exact h1 x h
          · exact h2 x h
theorem layT_max {m : Nat} : ∀ (t : Tr) (y c : Option Nat), (∀ s x, t.get s = some x → x ≤ m) → (∀ x, y = some x → x ≤ m) → ∀ s x, (Tr.layT t y c).get s = some x → x ≤ m
  | .nil, y, c, ht, hy, s, x, h => by
    cases s with
    | nil => exact fset_max .nil y ht hy x (rowOf_mem (c := c) h)
    | cons b s =>
      have h : (Tr.kid b Tr.nil Tr.nil).get s = some x := by cases b <;> exact h
      cases b
      · have h : Tr.nil.get s = some x := h
        rw [Tr.get_nil] at h; cases h
      · have h : Tr.nil.get s = some x := h
        rw [Tr.get_nil] at h; cases h
  | .nd g l r, y, c, ht, hy, s, x, h => by
    have hg : ∀ z, g.or y = some z → z ≤ m := fun z hz => by
      cases g with
      | none => exact hy z (by cases y <;> simpa using hz)
      | some a => exact ht [] z (by show some a = some z; exact hz)
    rw [Tr.layT] at h
    split at h
    · rename_i hl
      cases s with
      | nil =>
        have h : Tr.rowOf (g.or y).toList c = some x := h
        have := rowOf_mem h
        cases e : g.or y with
        | none => rw [e] at this; cases this
        | some z => rw [e] at this; rw [List.mem_singleton.mp this]; exact hg z e
      | cons b s =>
        cases b
        · have h : Tr.nil.get s = some x := h
          rw [Tr.get_nil] at h; cases h
        · have h : Tr.nil.get s = some x := h
          rw [Tr.get_nil] at h; cases h
    · rename_i hl
      cases s with
      | nil =>
        have h : Tr.rowOf (Tr.shared (Tr.fset l (g.or y)) (Tr.fset r (g.or y))) c = some x := h
        exact fset_max (.nd g l r) y ht hy x (by rw [Tr.fset, if_neg hl]; exact rowOf_mem h)
      | cons b s =>
        cases b
        · exact layT_max l (g.or y) _ (fun s x h => ht (false :: s) x h) hg s x h
        · exact layT_max r (g.or y) _ (fun s x h => ht (true :: s) x h) hg s x h
theorem nl_anyO (A : List Nat) (c : Option Nat) : ((nd_ A).any fun z => PyData.eqv z (dOf (ov c))) = Tr.inn c A := by
  cases c with
  | some x => exact nl_any A x
  | none =>
    induction A with
    | nil => rfl
    | cons y A ih => exact ih
section
variable {P : Program} {w : World} {K : PySem.W.Frag} {mg : Str → Option Value} {base : Heap} {CK CT CP : Addr}
abbrev s_lay : Stmt := top 29
abbrev n_lay : List Str := ["part", "road", "table", "half"]
theorem sc_lay : FnScope n_lay ["part", "road", "table"] (C8.fnScope s_lay) := ⟨rfl, rfl, rfl, by decide +kernel, rfl, by decide +kernel, by decide +kernel⟩
def spLay (K : PySem.W.Frag) (CK CT CP : Addr) (n : Nat) : Sp := fun vs H Q _ => ∃ (p T : Addr) (t : Tr) (y c : Option Nat) (k : Nat) (s : List Bool) (v : Nat) (tt : AT) (rows : RowL), k < n ∧ vs = [.ref p, ov c, .ref T] ∧ Ps K CP ∧ Tab CK CT H T v tt ∧ Agr rows tt.tr ∧
  PartAt (fun a o => H a = some o ∧ a ∉ T :: tt.fp) CP t y s p ∧ t.deep k ∧ s.length + k ≤ v ∧ (Tr.fset t y = [] → c = none) ∧ (∀ u ∈ rows.map (·.1), isPre s u = false) ∧ (∀ u x, t.get u = some x → x ≤ 18446744073709551615) ∧ (∀ x, y = some x → x ≤ 18446744073709551615) ∧ t.size ≤ 20000 ∧ tt.tr.size + 66 * (Tr.layT t y c).count ≤ 19900 ∧
  ∀ H' tt', Mod (T :: tt.fp) H H' → Tab CK CT H' T v tt' → (∀ a ∈ tt'.fp, a ∈ tt.fp ∨ H a = none) → Agr (rows ++ (Tr.layT t y c).rowsAt s) tt'.tr → tt'.tr.size ≤ tt.tr.size + 66 * (Tr.layT t y c).count → Q .non H'
theorem c_lay (T : Glob mg) (Tt : Ts K CT) (D : Dn K mg "lay" s_lay ["part", "road", "table"]) (m_put : Met P w K mg base 68 CT "put" (spTput CK CT) []) : ∀ n, Cal P w K mg base (n + 69) "lay" (spLay K CK CT CP n) []
  | 0 => D.never fun vs H Q E ⟨_, _, _, _, _, _, _, _, _, _, h, _⟩ => absurd h (Nat.not_lt_zero _)
  | n + 1 => by
    have c_lay := c_lay T Tt D m_put n
    refine D.cal sc_lay (fun vs H Q E h => ?_) (fun f cdv A outer s0 H vs Q E hr h => ?_)
    · obtain ⟨p, T, t, y, c, k, s, v, tt, rows, _, rfl, _⟩ := h
      rfl
    · obtain ⟨p, TA, t, y, c, k, s, v, tt, rows, hk, rfl, Pp, tb, ag, hp, hd, hs, hc, hn, hm, hy, hz, hsz, q⟩ := h
      refine ⟨_, (C8.pss_cut (ps_if (PW.pt (pw_and (pt_cmpR (op_neD hr.units) (pe_fld (pv 0) rfl) (pe_lst pa_nil) (nomark _)) (pw_and1 (pt_cmpR (op_notInD (units1 hr)) (pv 1) (pe_fld (pv 0) rfl) (by rfl)))))
      (pss_cons (ps_set (i := 1) sc_lay.nd rfl (by first | exact Or.inl rfl | exact Or.inr rfl) (pe_ix ix_list (pe_fld (pv 0) rfl) pe_int (fun _ _ => rfl)))
      (pss_one (ps_expr (pe_mt m_put hr (by first | decide | omega) (pv 2) (pa_cons (pe_fld (pv 0) rfl) (pa_cons (pv 1) pa_nil))))))
      pss_nil)
      (pss_one (ps_for PassesOwn.never rfl (pi_list (pe_fld (pv 0) rfl)) (pg_name (i := 3) sc_lay.nd rfl (by first | exact Or.inl rfl | exact Or.inr rfl))
      (pss_one (ps_expr (pe_c c_lay hr (by first | decide | omega) rfl (pa_cons (pv 3) (pa_cons (pv 1) (pa_cons (pv 2) pa_nil))))))))), ?_⟩
      obtain ⟨dx, ph, ps, g1, g2⟩ := hp.here
      have cl := fset_len t y
      refine ⟨fun σ' H' => ∃ tt', σ' = [some (.ref p), some (ov (Tr.pick (Tr.fset t y) c)), some (.ref TA), none] ∧ Mod (TA :: tt.fp) H H' ∧ Tab CK CT H' TA v tt' ∧ (∀ a ∈ tt'.fp, a ∈ tt.fp ∨ H a = none) ∧ Agr (rows ++ (match Tr.rowOf (Tr.fset t y) c with | some x => [(s, x)] | none => [])) tt'.tr ∧
        tt'.tr.size ≤ tt.tr.size + 66 * (if (Tr.rowOf (Tr.fset t y) c).isSome then 1 else 0), ?_, ?_⟩
      · refine ⟨_, rfl, p, CP, dx, _, _, rfl, g1.1, Pp.cl, Pp.nsome, rfl, (by show 0 ≤ sizeLine; decide), fun e he => ?_⟩
        have s1 : Same H (upd H e (.lst [])) := Same_upd (Same.refl H) he
        refine ⟨.list (nd_ (Tr.fset t y)), .list [], .lst (SqL.of (s1 _ _ g2.1)) (flat_all (nl_flat _)), .lst (SqL.of upd_same) .nil, (nl_dok _).shaped, (dok_nils (k := 0)).shaped, _, rfl, ?_⟩
        rw [show PyData.eqv (.list (nd_ (Tr.fset t y))) (.list []) = (nd_ (Tr.fset t y)).isEmpty from eqv_nil _]
        generalize (upd H e (.lst [])) = H1 at s1 ⊢
        have m1 : Mod (TA :: tt.fp) H H1 := Mod.same s1
        have stay : Tr.rowOf (Tr.fset t y) c = none → ∃ tt', [some (V.ref p), some (ov c), some (V.ref TA), none] = [some (.ref p), some (ov (Tr.pick (Tr.fset t y) c)), some (.ref TA), none] ∧ Mod (TA :: tt.fp) H H1 ∧ Tab CK CT H1 TA v tt' ∧ (∀ a ∈ tt'.fp, a ∈ tt.fp ∨ H a = none) ∧ Agr (rows ++ (match Tr.rowOf (Tr.fset t y) c with | some x => [(s, x)] | none => [])) tt'.tr ∧
            tt'.tr.size ≤ tt.tr.size + 66 * (if (Tr.rowOf (Tr.fset t y) c).isSome then 1 else 0) := fun e => by
          refine ⟨tt, ?_, m1, tb.same s1, fun a h => .inl h, ?_, by omega⟩
          · unfold Tr.pick; rw [e]; cases c <;> rfl
          · rw [e]; show Agr (rows ++ []) _; rw [List.append_nil]; exact ag
        by_cases hS : Tr.fset t y = []
        · rw [show (nd_ (Tr.fset t y)).isEmpty = true by rw [hS]; rfl]
          exact iteF (iteF (stay (by rw [hS]; cases c <;> rfl)))
        rw [show (nd_ (Tr.fset t y)).isEmpty = false by cases q : Tr.fset t y with | nil => exact (hS q).elim | cons a b => rfl]
        refine iteT ?_
        refine ⟨_, rfl, _, rfl, p, CP, dx, _, _, rfl, s1 _ _ g1.1, Pp.cl, Pp.nsome, rfl, dOf (ov c), nd_ (Tr.fset t y), flat_dp (by cases c <;> rfl), .lst (SqL.of (s1 _ _ g2.1)) (flat_all (nl_flat _)), (flat_dok (v := ov c) (by cases c <;> rfl) (k := 0)).shaped, (nl_dok _).shaped, _, rfl, ?_⟩
        rw [nl_anyO]
        cases hi : Tr.inn c (Tr.fset t y) with
        | true => exact iteF (stay (by unfold Tr.rowOf; rw [if_pos hi]))
        | false =>
          refine iteT ?_
          obtain ⟨x, S', hx⟩ : ∃ x S', Tr.fset t y = x :: S' := by
            cases q : Tr.fset t y with
            | nil => exact (hS q).elim
            | cons a b => exact ⟨a, b, rfl⟩
          have er : Tr.rowOf (Tr.fset t y) c = some x := by unfold Tr.rowOf; rw [hi, hx]; rfl
          have xm := fset_max t y hm hy x (by rw [hx]; exact List.mem_cons_self)
          have tb1 := tb.same s1
          obtain ⟨dT, hT⟩ := tb1.obj
          refine ⟨_, rfl, p, CP, dx, _, _, rfl, s1 _ _ g1.1, Pp.cl, Pp.nsome, rfl, ps, _, _, _, rfl, rfl, SqL.of (s1 _ _ g2.1), (by rw [hx]; exact atI_nat (j := 0) rfl), ?_⟩
          refine ⟨_, rfl, TA, dT, _, rfl, hT, rfl, _, rfl, p, CP, dx, _, _, rfl, s1 _ _ g1.1, Pp.cl, Pp.nstart, rfl, _, rfl, TA, v, tt, s, x, rfl, tb1, by omega, xm, by omega, fun H4 q4 t' Df m4 hq4 nq4 tb4 et4 fr4 hL hD => ?_⟩
          have hw2 := tb.w2
          refine ⟨t', ?_, m1.trans m4, tb4, fun a ha => (fr4 a ha).imp id s1.free, ?_, ?_⟩
          · unfold Tr.pick; rw [er]; rfl
          · rw [er, et4]
            show Agr (rows ++ [(s, x)]) _
            have h1 := ag.put s x
            rw [rput_new x (rget_none.mpr fun hm => by have := hn s hm; rw [show isPre s s = true by simp [isPre]] at this; cases this)] at h1
            exact h1
          · rw [er, et4]
            have := Tr.size_put x s tt.tr
            show _ ≤ tt.tr.size + 66 * 1
            omega
      · rintro σ' H1 ⟨tt1, rfl, m1, tb1, fr1, ag1, sz1⟩
        have hpre : ∀ (b : Bool) (u : List Bool), isPre s u = false → isPre (s ++ [b]) u = false := fun b u h => by
          cases e : isPre (s ++ [b]) u with
          | false => rfl
          | true =>
            unfold isPre at h e
            have e := of_decide_eq_true e
            have h := of_decide_eq_false h
            refine (h ?_).elim
            have e2 := congrArg (List.take s.length) e
            rw [List.take_take, List.take_left, Nat.min_eq_left (by simp)] at e2
            exact e2
        have hself : ∀ b : Bool, isPre (s ++ [b]) s = false := fun b => by
          cases e : isPre (s ++ [b]) s with
          | false => rfl
          | true => have := isPre_len e; simp at this; omega
        have hoth : ∀ u : List Bool, isPre (s ++ [true]) ((s ++ [false]) ++ u) = false := fun u => by
          unfold isPre
          refine decide_eq_false fun e => ?_
          rw [List.append_assoc, List.length_append, List.take_length_add_append] at e
          have := List.append_cancel_left e
          cases this
        have hrow : ∀ u ∈ (rows ++ (match Tr.rowOf (Tr.fset t y) c with | some x => [(s, x)] | none => [])).map (·.1), u ∈ rows.map (·.1) ∨ u = s := fun u hu => by
          rw [List.map_append] at hu
          rcases List.mem_append.mp hu with hu | hu
          · exact .inl hu
          · right
            cases e : Tr.rowOf (Tr.fset t y) c with
            | none => rw [e] at hu; cases hu
            | some x => rw [e] at hu; simpa using hu
        have key1 : ∀ (b : Bool), ∀ u ∈ (rows ++ (match Tr.rowOf (Tr.fset t y) c with | some x => [(s, x)] | none => [])).map (·.1), isPre (s ++ [b]) u = false := fun b u hu => by
          rcases hrow u hu with h | rfl
          · exact hpre b u (hn u h)
          · exact hself b
        have none_ : ∀ (g : Option Nat) (l r : Tr), t = .nd g l r → (Tr.nd g l r).leaf = true → Tr.layT t y c = .nd (Tr.rowOf (Tr.fset t y) c) .nil .nil := fun g l r e hl => by
          subst e
          rw [Tr.layT, Tr.fset, if_pos hl, if_pos hl]
        -- the halves
        have hh : (∃ ph', H p = some (.ins CP dx (pfl s ph' ps)) ∧ H ph' = some (.lst []) ∧ ph' ∉ TA :: tt.fp ∧ Tr.layT t y c = .nd (Tr.rowOf (Tr.fset t y) c) .nil .nil) ∨
            (∃ g l r ph' p1 p2, t = .nd g l r ∧ (Tr.nd g l r).leaf ≠ true ∧ H p = some (.ins CP dx (pfl s ph' ps)) ∧ H ph' = some (.lst [.ref p1, .ref p2]) ∧ ph' ∉ TA :: tt.fp ∧ PartAt (fun a o => H a = some o ∧ a ∉ TA :: tt.fp) CP l (g.or y) (s ++ [false]) p1 ∧ PartAt (fun a o => H a = some o ∧ a ∉ TA :: tt.fp) CP r (g.or y) (s ++ [true]) p2) := by
          have same : ∀ {dx' ph' ps'}, H p = some (.ins CP dx' (pfl s ph' ps')) → H p = some (.ins CP dx (pfl s ph' ps)) := fun {dx' ph' ps'} h => by
            have e := g1.1.symm.trans h
            have e := Option.some.inj e
            injection e with e1 e2 e3
            unfold pfl at e3
            simp only [List.cons.injEq, Prod.mk.injEq, V.ref.injEq, true_and, and_true] at e3
            rw [e2, e3.2]
            exact h
          cases t with
          | nil =>
            obtain ⟨dx', ph', ps', h1, h2, h3⟩ := hp
            exact .inl ⟨ph', same h1.1, h2.1, h2.2, rfl⟩
          | nd g l r =>
            unfold PartAt at hp
            obtain ⟨dx', ph', ps', h1, h3, h4⟩ := hp
            by_cases hl : (Tr.nd g l r).leaf = true
            · rw [if_pos hl] at h4
              exact .inl ⟨ph', same h1.1, h4.1, h4.2, none_ g l r rfl hl⟩
            · rw [if_neg hl] at h4
              obtain ⟨p1, p2, h5, h6, h7⟩ := h4
              exact .inr ⟨g, l, r, ph', p1, p2, rfl, hl, same h1.1, h5.1, h5.2, h6, h7⟩
        have np : p ∉ TA :: tt.fp := g1.2
        rcases hh with ⟨ph', hpo, hph, nph, elay⟩ | ⟨g, l, r, ph', p1, p2, rfl, hl, hpo, hph, nph, hp1, hp2⟩
        · refine ⟨_, rfl, p, CP, dx, _, _, rfl, m1 _ _ hpo (.inl np), Pp.cl, Pp.nhalves, rfl, ph', rfl, ⟨_, SqL.of (m1 _ _ hph (.inl nph))⟩, for_it (walk_list (K := K) (a := ph') (xs := [])) (fun i σ H' => ∃ v3, σ = [some (.ref p), some (ov (Tr.pick (Tr.fset t y) c)), some (.ref TA), v3] ∧ H' = H1) ⟨none, rfl, rfl⟩ (fun i σ H' _ ⟨_, _, e⟩ => by rw [e]; exact SqL.of (m1 _ _ hph (.inl nph))) (fun i x σ H2 H3 hi _ _ => absurd hi (Nat.not_lt_zero _)) ?_⟩
          rintro σ H2 ⟨v3, rfl, rfl⟩
          refine q H2 tt1 m1 tb1 fr1 ?_ ?_
          · rw [elay]
            have : ∀ o : Option Nat, (Tr.nd o .nil .nil).rowsAt s = (match o with | some x => [(s, x)] | none => []) := fun o => by cases o <;> rfl
            rw [this]
            exact ag1
          · rw [elay]
            exact sz1
        · cases k with
          | zero =>
            obtain ⟨d1, d2⟩ := hd
            subst d1 d2
            exact (hl rfl).elim
          | succ k =>
            obtain ⟨d1, d2⟩ := hd
            have efs : Tr.fset (.nd g l r) y = Tr.shared (Tr.fset l (g.or y)) (Tr.fset r (g.or y)) := by rw [Tr.fset, if_neg hl]
            have elay : Tr.layT (.nd g l r) y c = .nd (Tr.rowOf (Tr.fset (.nd g l r) y) c) (Tr.layT l (g.or y) (Tr.pick (Tr.fset (.nd g l r) y) c)) (Tr.layT r (g.or y) (Tr.pick (Tr.fset (.nd g l r) y) c)) := by rw [Tr.layT, if_neg hl, ← efs]
            have hgy : ∀ x, g.or y = some x → x ≤ 18446744073709551615 := fun z hz => by
              cases g with
              | none => exact hy z (by cases y <;> simpa using hz)
              | some a => exact hm [] z (by show some a = some z; exact hz)
            have hcs : Tr.shared (Tr.fset l (g.or y)) (Tr.fset r (g.or y)) = [] → c = none := fun e => hc (by rw [efs]; exact e)
            have hh1 := Tr.half_none hcs (X := Tr.fset l (g.or y)) (.inl rfl)
            have hh2 := Tr.half_none hcs (X := Tr.fset r (g.or y)) (.inr rfl)
            rw [← efs] at hh1 hh2
            have zl : l.size ≤ 20000 ∧ r.size ≤ 20000 := by
              have : 1 + l.size + r.size ≤ 20000 := hz
              omega
            have ecount : (Tr.layT (.nd g l r) y c).count = (if (Tr.rowOf (Tr.fset (.nd g l r) y) c).isSome then 1 else 0) + (Tr.layT l (g.or y) (Tr.pick (Tr.fset (.nd g l r) y) c)).count + (Tr.layT r (g.or y) (Tr.pick (Tr.fset (.nd g l r) y) c)).count := by rw [elay]; rfl
            have erows : (Tr.layT (.nd g l r) y c).rowsAt s = (match Tr.rowOf (Tr.fset (.nd g l r) y) c with | some x => [(s, x)] | none => []) ++ ((Tr.layT l (g.or y) (Tr.pick (Tr.fset (.nd g l r) y) c)).rowsAt (s ++ [false]) ++ (Tr.layT r (g.or y) (Tr.pick (Tr.fset (.nd g l r) y) c)).rowsAt (s ++ [true])) := by
              rw [elay]
              cases Tr.rowOf (Tr.fset (.nd g l r) y) c <;> rfl
            rw [erows] at q
            rw [ecount] at q hsz
            generalize hR : (match Tr.rowOf (Tr.fset (.nd g l r) y) c with | some x => [(s, x)] | none => []) = R at *
            generalize hN : (if (Tr.rowOf (Tr.fset (.nd g l r) y) c).isSome then 1 else 0) = N at *
            generalize hdd : Tr.pick (Tr.fset (.nd g l r) y) c = d at *
            generalize hL1 : Tr.layT l (g.or y) d = L1 at *
            generalize hL2 : Tr.layT r (g.or y) d = L2 at *
            refine ⟨_, rfl, p, CP, dx, _, _, rfl, m1 _ _ hpo (.inl np), Pp.cl, Pp.nhalves, rfl, ph', rfl, ⟨_, SqL.of (m1 _ _ hph (.inl nph))⟩, for_it (walk_list (K := K) (a := ph') (xs := [V.ref p1, V.ref p2])) (fun i σ H' => ∃ tt' v3, σ = [some (.ref p), some (ov d), some (.ref TA), v3] ∧ Mod (TA :: tt.fp) H H' ∧ Tab CK CT H' TA v tt' ∧ (∀ a ∈ tt'.fp, a ∈ tt.fp ∨ H a = none) ∧
                Agr (rows ++ (R ++ ((if 1 ≤ i then L1.rowsAt (s ++ [false]) else []) ++ (if 2 ≤ i then L2.rowsAt (s ++ [true]) else [])))) tt'.tr ∧ tt'.tr.size ≤ tt.tr.size + 66 * (N + (if 1 ≤ i then L1.count else 0) + (if 2 ≤ i then L2.count else 0)))
              ⟨tt1, none, rfl, m1, tb1, fr1, (by rw [if_neg (by omega), if_neg (by omega), List.append_nil, List.append_nil]; exact ag1), (by rw [if_neg (by omega), if_neg (by omega)]; exact sz1)⟩ (fun i σ H' _ ⟨_, _, _, m, _⟩ => SqL.of (m _ _ hph (.inl nph))) ?_ ?_⟩
            · rintro i x σ H2 H3 hi ⟨tt2, v3, rfl, m2, tb2, fr2, ag2, sz2⟩ ⟨rfl, hx⟩
              have nin2 : ∀ a o, H a = some o ∧ a ∉ TA :: tt.fp → H3 a = some o ∧ a ∉ TA :: tt2.fp := fun a o h => ⟨m2 _ _ h.1 (.inl h.2), fun z => by
                rcases List.mem_cons.mp z with e | z
                · exact h.2 (by rw [e]; exact List.mem_cons_self)
                · rcases fr2 a z with z | z
                  · exact h.2 (List.mem_cons_of_mem _ z)
                  · rw [h.1] at z; cases z⟩
              have step : ∀ {H4 : Hp} {tt4 : AT}, Mod (TA :: tt2.fp) H3 H4 → (∀ a ∈ tt4.fp, a ∈ tt2.fp ∨ H3 a = none) → Mod (TA :: tt.fp) H H4 ∧ ∀ a ∈ tt4.fp, a ∈ tt.fp ∨ H a = none := fun {H4 tt4} m f => ⟨m2.step m fun a ha => by
                rcases List.mem_cons.mp ha with e | ha
                · exact .inl (by rw [e]; exact List.mem_cons_self)
                · exact (fr2 a ha).imp (fun z => List.mem_cons_of_mem _ z) id, fun a ha => by
                rcases f a ha with z | z
                · exact fr2 a z
                · exact .inr (m2.free z)⟩
              match i, hx with
              | 0, hx =>
                cases hx
                rw [if_neg (by omega), if_neg (by omega), List.append_nil, List.append_nil] at ag2
                rw [if_neg (by omega), if_neg (by omega)] at sz2
                refine ⟨_, rfl, _, rfl, _, rfl, p1, TA, l, g.or y, d, k, s ++ [false], v, tt2, rows ++ R, by omega, rfl, Pp, tb2, ag2, hp1.mono nin2, d1, (by rw [List.length_append, List.length_singleton]; omega), hh1, key1 false, fun u x h => hm (false :: u) x h, hgy, zl.1, (by rw [hL1]; omega), fun H4 tt4 m4 tb4 fr4 ag4 sz4 => ?_⟩
                obtain ⟨m4', fr4'⟩ := step m4 fr4
                rw [hL1] at ag4 sz4
                refine ⟨tt4, _, rfl, m4', tb4, fr4', ?_, ?_⟩
                · rw [if_pos (by omega), if_neg (by omega), List.append_nil, ← List.append_assoc]
                  exact ag4
                · rw [if_pos (by omega), if_neg (by omega)]
                  omega
              | 1, hx =>
                cases hx
                rw [if_pos (by omega), if_neg (by omega), List.append_nil] at ag2
                rw [if_pos (by omega), if_neg (by omega)] at sz2
                refine ⟨_, rfl, _, rfl, _, rfl, p2, TA, r, g.or y, d, k, s ++ [true], v, tt2, rows ++ (R ++ L1.rowsAt (s ++ [false])), by omega, rfl, Pp, tb2, ag2, hp2.mono nin2, d2, (by rw [List.length_append, List.length_singleton]; omega), hh2, ?_, fun u x h => hm (true :: u) x h, hgy, zl.2, (by rw [hL2]; omega), fun H4 tt4 m4 tb4 fr4 ag4 sz4 => ?_⟩
                · intro u hu
                  rw [← List.append_assoc, List.map_append] at hu
                  rcases List.mem_append.mp hu with hu | hu
                  · exact key1 true u hu
                  · obtain ⟨⟨a, x⟩, h1, rfl⟩ := List.mem_map.mp hu
                    obtain ⟨u', rfl, _⟩ := (Tr.mem_rowsAt x L1 (s ++ [false]) a).mp h1
                    exact hoth u'
                · obtain ⟨m4', fr4'⟩ := step m4 fr4
                  rw [hL2] at ag4 sz4
                  refine ⟨tt4, _, rfl, m4', tb4, fr4', ?_, ?_⟩
                  · rw [if_pos (by omega), if_pos (by omega)]
                    have e : rows ++ (R ++ (L1.rowsAt (s ++ [false]) ++ L2.rowsAt (s ++ [true]))) = rows ++ (R ++ L1.rowsAt (s ++ [false])) ++ L2.rowsAt (s ++ [true]) := by simp only [List.append_assoc]
                    rw [e]
                    exact ag4
                  · rw [if_pos (by omega), if_pos (by omega)]
                    omega
            · rintro σ H2 ⟨tt2, v3, rfl, m2, tb2, fr2, ag2, sz2⟩
              exact q H2 tt2 m2 tb2 fr2 ag2 sz2
abbrev s_fewest : Stmt := top 30
abbrev n_fewest : List Str := ["table", "found"]
theorem sc_fewest : FnScope n_fewest ["table"] (C8.fnScope s_fewest) := ⟨rfl, rfl, rfl, by decide +kernel, rfl, by decide +kernel, by decide +kernel⟩
def spFewest (CK CT : Addr) : Sp := fun vs H Q _ => ∃ (T : Addr) (v : Nat) (t : AT), vs = [.ref T] ∧ Tab CK CT H T v t ∧ (∀ u x, t.tr.get u = some x → x ≤ 18446744073709551615) ∧ t.tr.count ≤ 250 ∧
  ∀ H' F f, Same H H' → (∀ a ∈ F :: AT.fp f, H a = none) → Tab CK CT H' F v f → Agr ((Tr.layT t.tr none none).rowsAt []) f.tr → f.tr.size ≤ 1 + 66 * (Tr.layT t.tr none none).count → Q (.ref F) H'
theorem c_fewest (T : Glob mg) (Tt : Ts K CT) (Kk : Ks K CK) (Pp : Ps K CP) (D : Dn K mg "fewest" s_fewest ["table"]) (m_width : Met P w K mg base 1 CT "width" (spTwidth CK CT) []) (c_Table : Mak P w K mg base 3 "Table" CT (spTable K CK) [])
    (c_part_of : Cal P w K mg base 67 "part_of" (spPartOf K CP 65) []) (c_lay : Cal P w K mg base 134 "lay" (spLay K CK CT CP 65) []) : Cal P w K mg base 135 "fewest" (spFewest CK CT) [] := by
  refine D.cal sc_fewest (fun vs H Q E h => ?_) (fun f cdv A outer s0 H vs Q E hr h => ?_)
  · obtain ⟨T, v, t, rfl, _⟩ := h
    rfl
  · obtain ⟨TA, v, t, rfl, tb, hm, hcnt, q⟩ := h
    refine ⟨_, (pss_cons (ps_set (i := 1) sc_fewest.nd rfl (by first | exact Or.inl rfl | exact Or.inr rfl) (pe_mk c_Table hr (by first | decide | omega) rfl (pa_cons (pe_mt0 m_width hr (by first | decide | omega) (pv 0)) pa_nil)))
      (pss_cons (ps_expr (pe_c c_lay hr (by first | decide | omega) rfl (pa_cons (pe_c c_part_of hr (by first | decide | omega) rfl (pa_cons (pe_fld (pv 0) rfl) (pa_cons pe_str (pa_cons pe_non pa_nil)))) (pa_cons pe_non (pa_cons (pv 1) pa_nil)))))
      (pss_one (ps_ret (pv 1))))), ?_⟩
    obtain ⟨d, hT⟩ := tb.obj
    have fo := Tr.fewest_ok tb.deep
    have fc := fo.2.2 t.tr fun _ _ => rfl
    refine ⟨_, rfl, TA, d, _, rfl, hT, rfl, TA, v, t, rfl, tb, fun F dx hF hdx nd => ⟨F, CT, dx, v, rfl, Tt, Kk, upd_same, tb.w1, tb.w2, fun H1 f0 m1 tb0 et0 fr0 => ⟨rfl, ?_⟩⟩⟩
    have s1 := mk_same hF hdx m1
    have f0n := mk_fresh hF hdx fr0
    have tb1 := tb.same s1
    refine ⟨_, rfl, TA, CT, d, _, _, rfl, s1 _ _ hT, Tt.cl, Tt.ntop, rfl, CK, t, v, [], none, by have := tb.w2; omega, by rw [tx_nil]; rfl, Kk, Pp, tb1.ok, tb1.deep, (by show 0 + v ≤ 1000; have := tb.w2; omega), tb1.sz, fun H2 p s2 hp => ?_⟩
    have tb2 := tb0.same s2
    have hsz0 : f0.tr.size = 1 := by rw [et0]; rfl
    refine ⟨_, rfl, p, F, t.tr, none, none, v, [], v, f0, [], by have := tb.w2; omega, rfl, Pp, tb2, by rw [et0]; exact Agr.nil, hp.mono fun a o h => ⟨h.1, fun z => by obtain ⟨o', e⟩ := tb0.some_ a z; rw [h.2] at e; cases e⟩, tb.deep, (by show 0 + v ≤ v; omega), fun _ => rfl, fun u hu => (by cases hu), hm, fun x e => (by cases e), tb.sz, by omega, fun H3 f m3 tb3 fr3 ag3 sz3 => ?_⟩
    have s12 := s1.trans s2
    have m13 : Mod [] H H3 := (Mod.same s12).step m3 fun a ha => .inr (f0n a ha)
    refine ⟨_, rfl, q H3 F f m13.toSame (fun a ha => ?_) tb3 ?_ ?_⟩
    · rcases List.mem_cons.mp ha with rfl | ha
      · exact hF
      · rcases fr3 a ha with z | z
        · exact f0n a (List.mem_cons_of_mem _ z)
        · exact s12.free z
    · rw [List.nil_append] at ag3
      exact ag3
    · omega
end
end Br

/-! the law itself -/
namespace Br
open PySem PySem.Spec PyProof.Rows L2
open C8 (Cal Met Mak cal0 met0 mak0 pe_c pe_mk pe_mt pe_mt0 pe_gc Def)
theorem range13 : ∀ m : Nat, m < 64 → Builtin.Range.small 0 (m : Int) 13 = true ∧ Builtin.Range.rangeSize 0 (m : Int) 13 = (m + 12) / 13 := by decide +kernel
theorem hTT {H : Hp} {cs : List (Addr × Addr)} {T : List (Addr × Str)} (h : ∀ p ∈ cs, H p.2 = some (.tbl #[])) (e : cs.map (·.2) = T.map (·.1)) : ∀ p ∈ T, H p.1 = some (.tbl #[]) := fun p hp => by
  have : p.1 ∈ cs.map (·.2) := by rw [e]; exact List.mem_map.mpr ⟨p, hp, rfl⟩
  obtain ⟨q, hq, eq⟩ := List.mem_map.mp this
  rw [← eq]
  exact h q hq
section
variable {P : Program} {w : World} {K : PySem.W.Frag} {mg : Str → Option Value} {base : Heap} {CK CT PD : Addr} {TT : List (Addr × Str)}
abbrev s_law : Stmt := top 41
abbrev n_law : List Str := ["_law_script", "_law_k", "_law_cells", "_law_seed", "_law_cell", "_law_wide", "_law_rows"]
theorem sc_law : FnScope n_law ["_law_script"] (C8.fnScope s_law) := ⟨rfl, rfl, rfl, by decide +kernel, rfl, by decide +kernel, by decide +kernel⟩
abbrev dueQ : Str := (envOfC "_law_due" (C8.fnScope s_l_due) 0 0 .none).qual ++ "_law_goal"
def spLawT (K : PySem.W.Frag) (T : List (Addr × Str)) : Sp := fun vs H Q _ => ∃ (a : Addr) (ns : List Int), vs = [.ref a] ∧ LamX.Tabs T H ∧ SqL K H a (ns.map V.int) ∧ ns.length ≤ 63 ∧ ∀ H', Q (.bl true) H'
theorem SqL.extN {K : PySem.W.Frag} {H H' : Hp} {a : Addr} {xs : List V} (h : SqL K H a xs) (e : LamX.ExtN H H') : SqL K H' a xs :=
  h.elim (fun h => .inl (h.elim (fun h => .inl (e _ _ h (by intro ps z; cases z))) fun ⟨o, h⟩ => .inr ⟨o, e _ _ h (by intro ps z; cases z)⟩)) fun h => .inr h
theorem ok_law {f : Addr} {fd : FuncData} (F : C8.Fun K "law" "law" s_law f fd) (hmT : (PD, dueQ) ∈ TT) (T : Glob mg) (Kk : Ks K CK) (Tt : Ts K CT) (c_l_mixed : Cal P w K mg base 1 "_law_mixed" spMixed []) (c_l_width : Cal P w K mg base 1 "_law_width" spLWidth [])
    (c_l_drawn : Cal P w K mg base 3 "_law_drawn" (spDrawn K) []) (c_l_table : Cal P w K mg base 69 "_law_table" (spLTable CK CT) []) (c_fewest : Cal P w K mg base 135 "fewest" (spFewest CK CT) []) (m_many : Met P w K mg base 1 CT "many" (spTmany CK CT) [])
    (c_l_due : Cal P w K mg base 67 "_law_due" (spDue [(PD, fun _ _ => dueQ)]) []) :
    FnOk P w K mg base C8.CX0 136 f fd ["_law_script"] (spLawT K TT) := by
  refine C8.fn0 F sc_law (fun vs H Q E h => ?_) (fun cdv A outer s0 H vs Q E hr h => ?_)
  · obtain ⟨a, ns, rfl, _⟩ := h
    rfl
  · obtain ⟨a, ns, rfl, hTb, ha, hns, k⟩ := h
    have hu := hu_of hr
    have hT : NdefX.TabsN [(PD, fun _ _ => dueQ)] H := fun p hp => by
      rw [List.mem_singleton.mp hp]
      exact NdefX.TabN.of (hTb _ hmT)
    refine ⟨_, (pss_cons (ps_for PassesOwn.never rfl (pi_range3 rfl T.g_range (pa_cons pe_int (pa_cons (pe_callB (call_max2 rfl) (by rfl) T.g_max (by decide +kernel) (pa_cons pe_int (pa_cons (pe_callB (call_min2 rfl) (by rfl) T.g_min (by decide +kernel) (pa_cons (pe_callB call_len_seq (by rfl) T.g_len boot_len (pa_cons (pv 0) pa_nil)) (pa_cons pe_int pa_nil))) pa_nil))) (pa_cons pe_int pa_nil)))) (pg_name (i := 1) sc_law.nd rfl (by first | exact Or.inl rfl | exact Or.inr rfl))
      (pss_cons (ps_set (i := 2) sc_law.nd rfl (by first | exact Or.inl rfl | exact Or.inr rfl) (pe_slice sl_list (pv 0) (po_some (pv 1)) (po_some (pe_op op_add (pv 1) pe_int))))
      (pss_cons (ps_set (i := 3) sc_law.nd rfl (by first | exact Or.inl rfl | exact Or.inr rfl) (pe_c c_l_mixed hr (by first | decide | omega) rfl (pa_cons (pe_callB (cr_sum rfl) (by rfl) T.g_sum (by decide +kernel) (pa_cons (pe_lc (own := [("_law_cell", 4)]) (g := (gName 4)) (tt := tYes) rfl sc_law.nd (pi_list (pv 2)) (blkOk_by (own := [("_law_cell", 4)]) (N := n_law) (sc := C8.fnScope s_law) (by decide +kernel)) (fun _ _ _ _ _ => (pg_name (i := 4) sc_law.nd rfl (by first | exact Or.inl rfl | exact Or.inr rfl))) (fun _ _ _ _ _ => pts_nil) (fun _ _ _ _ _ => (pe_op op_mod (pv 4) pe_int))) pa_nil)) (pa_cons (pv 1) pa_nil))))
      (pss_cons (ps_set (i := 5) sc_law.nd rfl (by first | exact Or.inl rfl | exact Or.inr rfl) (pe_c c_l_width hr (by first | decide | omega) rfl (pa_cons (pe_op op_fdiv (pv 3) pe_int) pa_nil)))
      (pss_cons (ps_set (i := 6) sc_law.nd rfl (by first | exact Or.inl rfl | exact Or.inr rfl) (pe_c c_l_drawn hr (by first | decide | omega) rfl (pa_cons (pv 2) (pa_cons (pv 3) (pa_cons (pv 5) pa_nil)))))
      (pss_one (ps_if (pt_cmpR op_ne (pe_mt0 m_many hr (by first | decide | omega) (pe_c c_fewest hr (by first | decide | omega) rfl (pa_cons (pe_c c_l_table hr (by first | decide | omega) rfl (pa_cons (pv 6) (pa_cons (pv 5) pa_nil))) pa_nil))) (pe_c c_l_due hr (by first | decide | omega) rfl (pa_cons (pv 6) pa_nil)) (nomark _))
      (pss_one (ps_ret pe_bl))
      pss_nil)))))))
      (pss_one (ps_ret pe_bl))), ?_⟩
    obtain ⟨m, hm, em⟩ : ∃ m : Nat, m < 64 ∧ (if (if 63 < ((ns.length : Nat) : Int) then 63 else ((ns.length : Nat) : Int)) > 1 then (if 63 < ((ns.length : Nat) : Int) then 63 else ((ns.length : Nat) : Int)) else 1) = (m : Int) := by
      refine ⟨max 1 (min ns.length 63), by omega, ?_⟩
      split <;> split <;> omega
    refine ⟨_, rfl, a, _, rfl, .inl ha, _, _, rfl, _, _, rfl, ?_⟩
    rw [List.length_map, em]
    refine ⟨_, _, _, _, rfl, ⟨by decide, by decide, (range13 m hm).1, (range13 m hm).2⟩, for_it walk_rangeC (fun i σ H' => ∃ l1 l2 l3 l4 l5 l6 : Option V, σ = [some (.ref a), l1, l2, l3, l4, l5, l6] ∧ SqL K H' a (ns.map V.int) ∧ NdefX.TabsN [(PD, fun _ _ => dueQ)] H') ⟨none, none, none, none, none, none, rfl, ha, hT⟩ (fun _ _ _ _ _ => trivial) ?_ ?_⟩
    · rintro i x σ H1 H2 hi ⟨l1, l2, l3, l4, l5, l6, rfl, ha1, hT1⟩ ⟨rfl, rfl⟩
      have hi6 : i < 6 := Nat.lt_of_lt_of_le hi (by omega : (m + 12) / 13 ≤ 6)
      obtain ⟨kk, ek, hkk⟩ : ∃ kk : Nat, (0 : Int) + (i : Nat) * 13 = (kk : Int) ∧ kk < 100 := ⟨13 * i, by omega, by omega⟩
      dsimp only
      rw [ek]
      refine ⟨_, rfl, _, rfl, _, rfl, _, rfl, _, _, rfl, rfl, _, rfl, a, _, rfl, ha1, fun p1 hp1 => ?_⟩
      obtain ⟨ns', en, hns'⟩ := cut_ints ns (some (kk : Int)) (some ((kk : Int) + 14))
      rw [en]
      have s2 : Same H2 (upd H2 p1 (.lst (ns'.map V.int))) := Same_upd (Same.refl H2) hp1
      have e2 : (upd H2 p1 (.lst (ns'.map V.int))) p1 = some (.lst (ns'.map V.int)) := upd_same
      generalize (upd H2 p1 (.lst (ns'.map V.int))) = H3 at s2 e2 ⊢
      refine ⟨_, rfl, p1, rfl, ⟨_, SqL.of e2⟩, fun D hD => ?_⟩
      refine lc_it (walk_list (K := K) (a := p1) (xs := ns'.map V.int)) (fun i H' => Same H3 H' ∧ H' D = some (.lst (((ns'.take i).map fun n => n % 1000003).map V.int))) ⟨Same_upd (Same.refl H3) hD, upd_same⟩ (fun i H' _ h => SqL.of (h.1 _ _ e2)) ?_ ?_
      · rintro j x H4 H5 hj ⟨s4, h4⟩ ⟨rfl, hx⟩
        rw [List.getElem?_map] at hx
        cases er : ns'[j]? with
        | none => rw [er] at hx; cases hx
        | some n =>
          rw [er] at hx
          cases hx
          refine ⟨rfl, yesI ?_⟩
          refine ⟨_, rfl, _, _, rfl, rfl, (by show (0 : Int) < _; decide), _, h4, ?_, Same_mut s4 hD, ?_⟩
          · rw [List.length_map, List.length_map, List.length_take]
            exact Nat.lt_of_le_of_lt (m := 100) (by omega) (by decide)
          · rw [upd_same, take_snoc er, List.map_append, List.map_append]
            rfl
      rintro H4 ⟨s4, h4⟩
      rw [List.length_map, List.take_length] at h4
      refine ⟨D, _, rfl, SqL.of h4, _, rfl, _, (kk : Int), rfl, ⟨by omega, by omega⟩, ?_⟩
      generalize mixed _ (kk : Int) = seed
      refine ⟨_, rfl, _, _, rfl, rfl, ⟨by decide, by decide⟩, _, rfl, fun H5 s5 => ?_⟩
      obtain ⟨w1, w2⟩ := widthL_le ((seed : Int) / 3)
      generalize widthL ((seed : Int) / 3) = v at w1 w2 ⊢
      have s35 := s4.trans s5
      refine ⟨_, rfl, _, rfl, _, rfl, p1, ns', seed, v, rfl, SqL.of (s35 _ _ e2), by omega, w1, w2, fun H6 d rows s6 hd0 hd ok hlen => ?_⟩
      refine ⟨_, rfl, _, rfl, d, rows, v, rfl, hd, ok, by omega, w1, w2, fun H7 TA t s7 frT tb ag sz => ?_⟩
      have hmax : ∀ u x, t.tr.get u = some x → x ≤ 18446744073709551615 := fun u x e => by
        rw [← ag.get] at e
        exact ok.max _ (rget_mem e)
      have cnt : t.tr.count ≤ 63 := by rw [← ag.len]; omega
      refine ⟨TA, v, t, rfl, tb, hmax, by omega, fun H8 FA f s8 frF fb fag fsz => ?_⟩
      have fcnt : f.tr.count = (Tr.layT t.tr none none).count := by rw [← fag.len, Tr.len_rowsAt]
      obtain ⟨dF, hF⟩ := fb.obj
      have s28 := ((s2.trans s35).trans s6).trans (s7.trans s8)
      refine ⟨FA, dF, _, rfl, hF, rfl, FA, v, f, rfl, fb, ?_⟩
      refine ⟨_, rfl, d, rows, t.tr, rfl, hT1.ext s28, (s7.trans s8) _ _ hd, ok.nd, fun r hr => Nat.le_trans (ok.len r hr) w2, by omega, ag.get, tb.neat, Tr.deep_mono tb.deep w2, by omega, fun H9 roads x9 T9 hroads => ?_⟩
      rw [Tr.ls_laid (Tr.deep_mono tb.deep w2) (by omega) hroads, fcnt]
      refine ⟨rfl, _, rfl, ?_⟩
      rw [decide_eq_true rfl]
      refine iteF ⟨_, _, _, _, _, _, rfl, SqL.extN (Same.seq s28 ha1) x9, T9⟩
    · rintro σ H2 ⟨l1, l2, l3, l4, l5, l6, rfl, ha1, hT1⟩
      exact k _
end
end Br

/-! ### the end -/
namespace Br
open PySem PySem.Spec PyProof.Rows L2
open C8 (Cal Met Mak Def)
theorem all_mk {l : PySem.W.OpenLaw} {w : World} {K : PySem.W.Frag} {h : Heap} {mg : Str → Option Value} {fa fL fd0 fd1 fd2 fd3 fd4 fd5 fd6 fd7 fd8 fd9 fd10 fd11 fd12 fd13 fd14 fd15 fd16 fd17 fd18 fd19 fd20 fd21 fd22 fd23 cl_due C0 fm0_init C1 fm1_init fm1_width fm1_many fm1_need_start fm1_way fm1_put fm1_stretches DTm1_stretches fm1_rows C2 fm2_init Pl_due : Addr} (X : K.In h) (G : h.Ns mainGlobals mg) (hfa : mg "law" = some (.ref fa))
    {odL anL odd0 and0 odd1 and1 odd2 and2 odd3 and3 odd4 and4 odd5 and5 odd6 and6 odd7 and7 odd8 and8 odd9 and9 odd10 and10 odd11 and11 odd12 and12 odd13 and13 odd14 and14 odd15 and15 odd16 and16 odd17 and17 odd18 and18 odd19 and19 odd20 and20 odd21 and21 odd22 and22 odd23 and23 odm0_init anm0_init odm1_init anm1_init odm1_width anm1_width odm1_many anm1_many odm1_need_start anm1_need_start odm1_way anm1_way odm1_put anm1_put odm1_stretches anm1_stretches odDm1_stretches odm1_rows anm1_rows odm2_init anm2_init : Option Addr} {slL sld0 sld1 sld2 sld3 sld4 sld5 sld6 sld7 sld8 sld9 sld10 sld11 sld12 sld13 sld14 sld15 sld16 sld17 sld18 sld19 sld20 sld21 sld22 sld23 slm0_init slm1_init slm1_width slm1_many slm1_need_start slm1_way slm1_put slm1_stretches slDm1_stretches slm1_rows slm2_init : Array (Option Value)} {ocL kVL dcL pmL cdL ctL ocd0 kVd0 dcd0 pmd0 cdd0 ctd0 ocd1 kVd1 dcd1 pmd1 cdd1 ctd1 ocd2 kVd2 dcd2 pmd2 cdd2 ctd2 ocd3 kVd3 dcd3 pmd3 cdd3 ctd3 ocd4 kVd4 dcd4 pmd4 cdd4 ctd4 ocd5 kVd5 dcd5 pmd5 cdd5 ctd5 ocd6 kVd6 dcd6 pmd6 cdd6 ctd6 ocd7 kVd7 dcd7 pmd7 cdd7 ctd7 ocd8 kVd8 dcd8 pmd8 cdd8 ctd8 ocd9 kVd9 dcd9 pmd9 cdd9 ctd9 ocd10 kVd10 dcd10 pmd10 cdd10 ctd10 ocd11 kVd11 dcd11 pmd11 cdd11 ctd11 ocd12 kVd12 dcd12 pmd12 cdd12 ctd12 ocd13 kVd13 dcd13 pmd13 cdd13 ctd13 ocd14 kVd14 dcd14 pmd14 cdd14 ctd14 ocd15 kVd15 dcd15 pmd15 cdd15 ctd15 ocd16 kVd16 dcd16 pmd16 cdd16 ctd16 ocd17 kVd17 dcd17 pmd17 cdd17 ctd17 ocd18 kVd18 dcd18 pmd18 cdd18 ctd18 ocd19 kVd19 dcd19 pmd19 cdd19 ctd19 ocd20 kVd20 dcd20 pmd20 cdd20 ctd20 ocd21 kVd21 dcd21 pmd21 cdd21 ctd21 ocd22 kVd22 dcd22 pmd22 cdd22 ctd22 ocd23 kVd23 dcd23 pmd23 ctd23 ocm0_init kVm0_init dcm0_init pmm0_init cdm0_init ctm0_init ocm1_init kVm1_init dcm1_init pmm1_init cdm1_init ctm1_init ocm1_width kVm1_width dcm1_width pmm1_width cdm1_width ctm1_width ocm1_many kVm1_many dcm1_many pmm1_many cdm1_many ctm1_many ocm1_need_start kVm1_need_start dcm1_need_start pmm1_need_start cdm1_need_start ctm1_need_start ocm1_way kVm1_way dcm1_way pmm1_way cdm1_way ctm1_way ocm1_put kVm1_put dcm1_put pmm1_put cdm1_put ctm1_put ocm1_stretches kVm1_stretches dcm1_stretches pmm1_stretches cdm1_stretches ctm1_stretches ocDm1_stretches ocm1_rows kVm1_rows dcm1_rows pmm1_rows cdm1_rows ctm1_rows ocm2_init kVm2_init dcm2_init pmm2_init cdm2_init ctm2_init : Value} {t_MOST_WIDTH t_MOST_ROAD t_BITS tkm1_stretches : Tok} {nDm1_stretches : Nat}
    (ad0 : PySem.W.nsIn K mainGlobals "is_among" = some (some (.ref fd0)))
    (ld0 : K.lookup fd0 = some ⟨ocd0, odd0, .func (PySem.W.fnOf "is_among" "is_among" (C8.fnArgs s_is_among) (C8.fnBody s_is_among) (C8.fnScope s_is_among) .none kVd0 dcd0 pmd0 and0 cdd0 ctd0), sld0⟩)
    (cd0 : PySem.W.codeIn K cdd0 "is_among" = true)
    (kd0 : PySem.W.keepIn K (.ref fd0) = true)
    (ad1 : PySem.W.nsIn K mainGlobals "is_width" = some (some (.ref fd1)))
    (ld1 : K.lookup fd1 = some ⟨ocd1, odd1, .func (PySem.W.fnOf "is_width" "is_width" (C8.fnArgs s_is_width) (C8.fnBody s_is_width) (C8.fnScope s_is_width) .none kVd1 dcd1 pmd1 and1 cdd1 ctd1), sld1⟩)
    (cd1 : PySem.W.codeIn K cdd1 "is_width" = true)
    (kd1 : PySem.W.keepIn K (.ref fd1) = true)
    (ad2 : PySem.W.nsIn K mainGlobals "is_road" = some (some (.ref fd2)))
    (ld2 : K.lookup fd2 = some ⟨ocd2, odd2, .func (PySem.W.fnOf "is_road" "is_road" (C8.fnArgs s_is_road) (C8.fnBody s_is_road) (C8.fnScope s_is_road) .none kVd2 dcd2 pmd2 and2 cdd2 ctd2), sld2⟩)
    (cd2 : PySem.W.codeIn K cdd2 "is_road" = true)
    (kd2 : PySem.W.keepIn K (.ref fd2) = true)
    (ad3 : PySem.W.nsIn K mainGlobals "is_bits" = some (some (.ref fd3)))
    (ld3 : K.lookup fd3 = some ⟨ocd3, odd3, .func (PySem.W.fnOf "is_bits" "is_bits" (C8.fnArgs s_is_bits) (C8.fnBody s_is_bits) (C8.fnScope s_is_bits) .none kVd3 dcd3 pmd3 and3 cdd3 ctd3), sld3⟩)
    (cd3 : PySem.W.codeIn K cdd3 "is_bits" = true)
    (kd3 : PySem.W.keepIn K (.ref fd3) = true)
    (ad4 : PySem.W.nsIn K mainGlobals "is_word" = some (some (.ref fd4)))
    (ld4 : K.lookup fd4 = some ⟨ocd4, odd4, .func (PySem.W.fnOf "is_word" "is_word" (C8.fnArgs s_is_word) (C8.fnBody s_is_word) (C8.fnScope s_is_word) .none kVd4 dcd4 pmd4 and4 cdd4 ctd4), sld4⟩)
    (cd4 : PySem.W.codeIn K cdd4 "is_word" = true)
    (kd4 : PySem.W.keepIn K (.ref fd4) = true)
    (ad5 : PySem.W.nsIn K mainGlobals "is_start" = some (some (.ref fd5)))
    (ld5 : K.lookup fd5 = some ⟨ocd5, odd5, .func (PySem.W.fnOf "is_start" "is_start" (C8.fnArgs s_is_start) (C8.fnBody s_is_start) (C8.fnScope s_is_start) .none kVd5 dcd5 pmd5 and5 cdd5 ctd5), sld5⟩)
    (cd5 : PySem.W.codeIn K cdd5 "is_start" = true)
    (kd5 : PySem.W.keepIn K (.ref fd5) = true)
    (ad6 : PySem.W.nsIn K mainGlobals "number_of" = some (some (.ref fd6)))
    (ld6 : K.lookup fd6 = some ⟨ocd6, odd6, .func (PySem.W.fnOf "number_of" "number_of" (C8.fnArgs s_number_of) (C8.fnBody s_number_of) (C8.fnScope s_number_of) .none kVd6 dcd6 pmd6 and6 cdd6 ctd6), sld6⟩)
    (cd6 : PySem.W.codeIn K cdd6 "number_of" = true)
    (kd6 : PySem.W.keepIn K (.ref fd6) = true)
    (ad7 : PySem.W.nsIn K mainGlobals "span_of" = some (some (.ref fd7)))
    (ld7 : K.lookup fd7 = some ⟨ocd7, odd7, .func (PySem.W.fnOf "span_of" "span_of" (C8.fnArgs s_span_of) (C8.fnBody s_span_of) (C8.fnScope s_span_of) .none kVd7 dcd7 pmd7 and7 cdd7 ctd7), sld7⟩)
    (cd7 : PySem.W.codeIn K cdd7 "span_of" = true)
    (kd7 : PySem.W.keepIn K (.ref fd7) = true)
    (ad8 : PySem.W.nsIn K mainGlobals "add_stretch" = some (some (.ref fd8)))
    (ld8 : K.lookup fd8 = some ⟨ocd8, odd8, .func (PySem.W.fnOf "add_stretch" "add_stretch" (C8.fnArgs s_add_stretch) (C8.fnBody s_add_stretch) (C8.fnScope s_add_stretch) .none kVd8 dcd8 pmd8 and8 cdd8 ctd8), sld8⟩)
    (cd8 : PySem.W.codeIn K cdd8 "add_stretch" = true)
    (kd8 : PySem.W.keepIn K (.ref fd8) = true)
    (ad9 : PySem.W.nsIn K mainGlobals "between" = some (some (.ref fd9)))
    (ld9 : K.lookup fd9 = some ⟨ocd9, odd9, .func (PySem.W.fnOf "between" "between" (C8.fnArgs s_between) (C8.fnBody s_between) (C8.fnScope s_between) .none kVd9 dcd9 pmd9 and9 cdd9 ctd9), sld9⟩)
    (cd9 : PySem.W.codeIn K cdd9 "between" = true)
    (kd9 : PySem.W.keepIn K (.ref fd9) = true)
    (ad10 : PySem.W.nsIn K mainGlobals "spread" = some (some (.ref fd10)))
    (ld10 : K.lookup fd10 = some ⟨ocd10, odd10, .func (PySem.W.fnOf "spread" "spread" (C8.fnArgs s_spread) (C8.fnBody s_spread) (C8.fnScope s_spread) .none kVd10 dcd10 pmd10 and10 cdd10 ctd10), sld10⟩)
    (cd10 : PySem.W.codeIn K cdd10 "spread" = true)
    (kd10 : PySem.W.keepIn K (.ref fd10) = true)
    (ad11 : PySem.W.nsIn K mainGlobals "part_of" = some (some (.ref fd11)))
    (ld11 : K.lookup fd11 = some ⟨ocd11, odd11, .func (PySem.W.fnOf "part_of" "part_of" (C8.fnArgs s_part_of) (C8.fnBody s_part_of) (C8.fnScope s_part_of) .none kVd11 dcd11 pmd11 and11 cdd11 ctd11), sld11⟩)
    (cd11 : PySem.W.codeIn K cdd11 "part_of" = true)
    (kd11 : PySem.W.keepIn K (.ref fd11) = true)
    (ad12 : PySem.W.nsIn K mainGlobals "shared" = some (some (.ref fd12)))
    (ld12 : K.lookup fd12 = some ⟨ocd12, odd12, .func (PySem.W.fnOf "shared" "shared" (C8.fnArgs s_shared) (C8.fnBody s_shared) (C8.fnScope s_shared) .none kVd12 dcd12 pmd12 and12 cdd12 ctd12), sld12⟩)
    (cd12 : PySem.W.codeIn K cdd12 "shared" = true)
    (kd12 : PySem.W.keepIn K (.ref fd12) = true)
    (ad13 : PySem.W.nsIn K mainGlobals "lay" = some (some (.ref fd13)))
    (ld13 : K.lookup fd13 = some ⟨ocd13, odd13, .func (PySem.W.fnOf "lay" "lay" (C8.fnArgs s_lay) (C8.fnBody s_lay) (C8.fnScope s_lay) .none kVd13 dcd13 pmd13 and13 cdd13 ctd13), sld13⟩)
    (cd13 : PySem.W.codeIn K cdd13 "lay" = true)
    (kd13 : PySem.W.keepIn K (.ref fd13) = true)
    (ad14 : PySem.W.nsIn K mainGlobals "fewest" = some (some (.ref fd14)))
    (ld14 : K.lookup fd14 = some ⟨ocd14, odd14, .func (PySem.W.fnOf "fewest" "fewest" (C8.fnArgs s_fewest) (C8.fnBody s_fewest) (C8.fnScope s_fewest) .none kVd14 dcd14 pmd14 and14 cdd14 ctd14), sld14⟩)
    (cd14 : PySem.W.codeIn K cdd14 "fewest" = true)
    (kd14 : PySem.W.keepIn K (.ref fd14) = true)
    (ad15 : PySem.W.nsIn K mainGlobals "_law_mixed" = some (some (.ref fd15)))
    (ld15 : K.lookup fd15 = some ⟨ocd15, odd15, .func (PySem.W.fnOf "_law_mixed" "_law_mixed" (C8.fnArgs s_l_mixed) (C8.fnBody s_l_mixed) (C8.fnScope s_l_mixed) .none kVd15 dcd15 pmd15 and15 cdd15 ctd15), sld15⟩)
    (cd15 : PySem.W.codeIn K cdd15 "_law_mixed" = true)
    (kd15 : PySem.W.keepIn K (.ref fd15) = true)
    (ad16 : PySem.W.nsIn K mainGlobals "_law_bits" = some (some (.ref fd16)))
    (ld16 : K.lookup fd16 = some ⟨ocd16, odd16, .func (PySem.W.fnOf "_law_bits" "_law_bits" (C8.fnArgs s_l_bits) (C8.fnBody s_l_bits) (C8.fnScope s_l_bits) .none kVd16 dcd16 pmd16 and16 cdd16 ctd16), sld16⟩)
    (cd16 : PySem.W.codeIn K cdd16 "_law_bits" = true)
    (kd16 : PySem.W.keepIn K (.ref fd16) = true)
    (ad17 : PySem.W.nsIn K mainGlobals "_law_width" = some (some (.ref fd17)))
    (ld17 : K.lookup fd17 = some ⟨ocd17, odd17, .func (PySem.W.fnOf "_law_width" "_law_width" (C8.fnArgs s_l_width) (C8.fnBody s_l_width) (C8.fnScope s_l_width) .none kVd17 dcd17 pmd17 and17 cdd17 ctd17), sld17⟩)
    (cd17 : PySem.W.codeIn K cdd17 "_law_width" = true)
    (kd17 : PySem.W.keepIn K (.ref fd17) = true)
    (ad18 : PySem.W.nsIn K mainGlobals "_law_start" = some (some (.ref fd18)))
    (ld18 : K.lookup fd18 = some ⟨ocd18, odd18, .func (PySem.W.fnOf "_law_start" "_law_start" (C8.fnArgs s_l_start) (C8.fnBody s_l_start) (C8.fnScope s_l_start) .none kVd18 dcd18 pmd18 and18 cdd18 ctd18), sld18⟩)
    (cd18 : PySem.W.codeIn K cdd18 "_law_start" = true)
    (kd18 : PySem.W.keepIn K (.ref fd18) = true)
    (ad19 : PySem.W.nsIn K mainGlobals "_law_roads" = some (some (.ref fd19)))
    (ld19 : K.lookup fd19 = some ⟨ocd19, odd19, .func (PySem.W.fnOf "_law_roads" "_law_roads" (C8.fnArgs s_l_roads) (C8.fnBody s_l_roads) (C8.fnScope s_l_roads) .none kVd19 dcd19 pmd19 and19 cdd19 ctd19), sld19⟩)
    (cd19 : PySem.W.codeIn K cdd19 "_law_roads" = true)
    (kd19 : PySem.W.keepIn K (.ref fd19) = true)
    (ad20 : PySem.W.nsIn K mainGlobals "_law_drawn" = some (some (.ref fd20)))
    (ld20 : K.lookup fd20 = some ⟨ocd20, odd20, .func (PySem.W.fnOf "_law_drawn" "_law_drawn" (C8.fnArgs s_l_drawn) (C8.fnBody s_l_drawn) (C8.fnScope s_l_drawn) .none kVd20 dcd20 pmd20 and20 cdd20 ctd20), sld20⟩)
    (cd20 : PySem.W.codeIn K cdd20 "_law_drawn" = true)
    (kd20 : PySem.W.keepIn K (.ref fd20) = true)
    (ad21 : PySem.W.nsIn K mainGlobals "_law_table" = some (some (.ref fd21)))
    (ld21 : K.lookup fd21 = some ⟨ocd21, odd21, .func (PySem.W.fnOf "_law_table" "_law_table" (C8.fnArgs s_l_table) (C8.fnBody s_l_table) (C8.fnScope s_l_table) .none kVd21 dcd21 pmd21 and21 cdd21 ctd21), sld21⟩)
    (cd21 : PySem.W.codeIn K cdd21 "_law_table" = true)
    (kd21 : PySem.W.keepIn K (.ref fd21) = true)
    (ad22 : PySem.W.nsIn K mainGlobals "_law_least" = some (some (.ref fd22)))
    (ld22 : K.lookup fd22 = some ⟨ocd22, odd22, .func (PySem.W.fnOf "_law_least" "_law_least" (C8.fnArgs s_l_least) (C8.fnBody s_l_least) (C8.fnScope s_l_least) .none kVd22 dcd22 pmd22 and22 cdd22 ctd22), sld22⟩)
    (cd22 : PySem.W.codeIn K cdd22 "_law_least" = true)
    (kd22 : PySem.W.keepIn K (.ref fd22) = true)
    (ad23 : PySem.W.nsIn K mainGlobals "_law_due" = some (some (.ref fd23)))
    (ld23 : K.lookup fd23 = some ⟨ocd23, odd23, .func (PySem.W.fnOf "_law_due" "_law_due" (C8.fnArgs s_l_due) (C8.fnBody s_l_due) (C8.fnScope s_l_due) .none kVd23 dcd23 pmd23 and23 (.ref cl_due) ctd23), sld23⟩)
    (cd23 : PySem.W.codeIn K (.ref cl_due) "_law_due" = true)
    (kd23 : PySem.W.keepIn K (.ref fd23) = true)
    (aC0 : PySem.W.nsIn K mainGlobals "Knot" = some (some (.ref C0)))
    (pg0 : PySem.W.plainGet K C0 Str.empty = true)
    (hd0 : PySem.W.hasDictIn K C0 = true)
    (po0 : PySem.W.plainOver K C0 = true)
    (sa0 : PySem.W.findIn K (.ref C0) "__setattr__" = some (some (.builtin "object.__setattr__")))
    (mk0 : PySem.W.makesIn K C0 = true)
    (kc0 : PySem.W.keepIn K (.ref C0) = true)
    (n0_kids : PySem.W.findIn K (.ref C0) "kids" = some none)
    (n0_goal : PySem.W.findIn K (.ref C0) "goal" = some none)
    (eqK : PySem.W.findIn K (.ref C0) "__eq__" = some (some (.builtin "object.__eq__")))
    (am0_init : PySem.W.findIn K (.ref C0) "__init__" = some (some (.ref fm0_init)))
    (im0_init : PySem.W.isFn K (.ref fm0_init) = true)
    (lm0_init : K.lookup fm0_init = some ⟨ocm0_init, odm0_init, .func (PySem.W.fnOf "__init__" "Knot.__init__" (C8.fnArgs s_Knot_init) (C8.fnBody s_Knot_init) (C8.fnScope s_Knot_init) .none kVm0_init dcm0_init pmm0_init anm0_init cdm0_init ctm0_init), slm0_init⟩)
    (cm0_init : PySem.W.codeIn K cdm0_init "Knot.__init__" = true)
    (km0_init : PySem.W.keepIn K (.ref fm0_init) = true)
    (aC1 : PySem.W.nsIn K mainGlobals "Table" = some (some (.ref C1)))
    (pg1 : PySem.W.plainGet K C1 Str.empty = true)
    (hd1 : PySem.W.hasDictIn K C1 = true)
    (po1 : PySem.W.plainOver K C1 = true)
    (sa1 : PySem.W.findIn K (.ref C1) "__setattr__" = some (some (.builtin "object.__setattr__")))
    (mk1 : PySem.W.makesIn K C1 = true)
    (kc1 : PySem.W.keepIn K (.ref C1) = true)
    (n1_wide : PySem.W.findIn K (.ref C1) "wide" = some none)
    (n1_top : PySem.W.findIn K (.ref C1) "top" = some none)
    (n1_amount : PySem.W.findIn K (.ref C1) "amount" = some none)
    (am1_init : PySem.W.findIn K (.ref C1) "__init__" = some (some (.ref fm1_init)))
    (im1_init : PySem.W.isFn K (.ref fm1_init) = true)
    (lm1_init : K.lookup fm1_init = some ⟨ocm1_init, odm1_init, .func (PySem.W.fnOf "__init__" "Table.__init__" (C8.fnArgs s_Table_init) (C8.fnBody s_Table_init) (C8.fnScope s_Table_init) .none kVm1_init dcm1_init pmm1_init anm1_init cdm1_init ctm1_init), slm1_init⟩)
    (cm1_init : PySem.W.codeIn K cdm1_init "Table.__init__" = true)
    (km1_init : PySem.W.keepIn K (.ref fm1_init) = true)
    (am1_width : PySem.W.findIn K (.ref C1) "width" = some (some (.ref fm1_width)))
    (im1_width : PySem.W.isFn K (.ref fm1_width) = true)
    (lm1_width : K.lookup fm1_width = some ⟨ocm1_width, odm1_width, .func (PySem.W.fnOf "width" "Table.width" (C8.fnArgs s_Table_width) (C8.fnBody s_Table_width) (C8.fnScope s_Table_width) .none kVm1_width dcm1_width pmm1_width anm1_width cdm1_width ctm1_width), slm1_width⟩)
    (cm1_width : PySem.W.codeIn K cdm1_width "Table.width" = true)
    (km1_width : PySem.W.keepIn K (.ref fm1_width) = true)
    (am1_many : PySem.W.findIn K (.ref C1) "many" = some (some (.ref fm1_many)))
    (im1_many : PySem.W.isFn K (.ref fm1_many) = true)
    (lm1_many : K.lookup fm1_many = some ⟨ocm1_many, odm1_many, .func (PySem.W.fnOf "many" "Table.many" (C8.fnArgs s_Table_many) (C8.fnBody s_Table_many) (C8.fnScope s_Table_many) .none kVm1_many dcm1_many pmm1_many anm1_many cdm1_many ctm1_many), slm1_many⟩)
    (cm1_many : PySem.W.codeIn K cdm1_many "Table.many" = true)
    (km1_many : PySem.W.keepIn K (.ref fm1_many) = true)
    (am1_need_start : PySem.W.findIn K (.ref C1) "need_start" = some (some (.ref fm1_need_start)))
    (im1_need_start : PySem.W.isFn K (.ref fm1_need_start) = true)
    (lm1_need_start : K.lookup fm1_need_start = some ⟨ocm1_need_start, odm1_need_start, .func (PySem.W.fnOf "need_start" "Table.need_start" (C8.fnArgs s_Table_need_start) (C8.fnBody s_Table_need_start) (C8.fnScope s_Table_need_start) .none kVm1_need_start dcm1_need_start pmm1_need_start anm1_need_start cdm1_need_start ctm1_need_start), slm1_need_start⟩)
    (cm1_need_start : PySem.W.codeIn K cdm1_need_start "Table.need_start" = true)
    (km1_need_start : PySem.W.keepIn K (.ref fm1_need_start) = true)
    (am1_way : PySem.W.findIn K (.ref C1) "way" = some (some (.ref fm1_way)))
    (im1_way : PySem.W.isFn K (.ref fm1_way) = true)
    (lm1_way : K.lookup fm1_way = some ⟨ocm1_way, odm1_way, .func (PySem.W.fnOf "way" "Table.way" (C8.fnArgs s_Table_way) (C8.fnBody s_Table_way) (C8.fnScope s_Table_way) .none kVm1_way dcm1_way pmm1_way anm1_way cdm1_way ctm1_way), slm1_way⟩)
    (cm1_way : PySem.W.codeIn K cdm1_way "Table.way" = true)
    (km1_way : PySem.W.keepIn K (.ref fm1_way) = true)
    (am1_put : PySem.W.findIn K (.ref C1) "put" = some (some (.ref fm1_put)))
    (im1_put : PySem.W.isFn K (.ref fm1_put) = true)
    (lm1_put : K.lookup fm1_put = some ⟨ocm1_put, odm1_put, .func (PySem.W.fnOf "put" "Table.put" (C8.fnArgs s_Table_put) (C8.fnBody s_Table_put) (C8.fnScope s_Table_put) .none kVm1_put dcm1_put pmm1_put anm1_put cdm1_put ctm1_put), slm1_put⟩)
    (cm1_put : PySem.W.codeIn K cdm1_put "Table.put" = true)
    (km1_put : PySem.W.keepIn K (.ref fm1_put) = true)
    (am1_stretches : PySem.W.findIn K (.ref C1) "stretches" = some (some (.ref fm1_stretches)))
    (im1_stretches : PySem.W.isFn K (.ref fm1_stretches) = true)
    (lm1_stretches : K.lookup fm1_stretches = some ⟨ocm1_stretches, odm1_stretches, .func (PySem.W.fnOf "stretches" "Table.stretches" (C8.fnArgs s_Table_stretches) (C8.fnBody s_Table_stretches) (C8.fnScope s_Table_stretches) (.ref DTm1_stretches) kVm1_stretches dcm1_stretches pmm1_stretches anm1_stretches cdm1_stretches ctm1_stretches), slm1_stretches⟩)
    (cm1_stretches : PySem.W.codeIn K cdm1_stretches "Table.stretches" = true)
    (km1_stretches : PySem.W.keepIn K (.ref fm1_stretches) = true)
    (lDm1_stretches : K.lookup DTm1_stretches = some ⟨ocDm1_stretches, odDm1_stretches, .seq #[.str (Str.ofString "") tkm1_stretches] nDm1_stretches, slDm1_stretches⟩)
    (am1_rows : PySem.W.findIn K (.ref C1) "rows" = some (some (.ref fm1_rows)))
    (im1_rows : PySem.W.isFn K (.ref fm1_rows) = true)
    (lm1_rows : K.lookup fm1_rows = some ⟨ocm1_rows, odm1_rows, .func (PySem.W.fnOf "rows" "Table.rows" (C8.fnArgs s_Table_rows) (C8.fnBody s_Table_rows) (C8.fnScope s_Table_rows) .none kVm1_rows dcm1_rows pmm1_rows anm1_rows cdm1_rows ctm1_rows), slm1_rows⟩)
    (cm1_rows : PySem.W.codeIn K cdm1_rows "Table.rows" = true)
    (km1_rows : PySem.W.keepIn K (.ref fm1_rows) = true)
    (aC2 : PySem.W.nsIn K mainGlobals "Part" = some (some (.ref C2)))
    (pg2 : PySem.W.plainGet K C2 Str.empty = true)
    (hd2 : PySem.W.hasDictIn K C2 = true)
    (po2 : PySem.W.plainOver K C2 = true)
    (sa2 : PySem.W.findIn K (.ref C2) "__setattr__" = some (some (.builtin "object.__setattr__")))
    (mk2 : PySem.W.makesIn K C2 = true)
    (kc2 : PySem.W.keepIn K (.ref C2) = true)
    (n2_start : PySem.W.findIn K (.ref C2) "start" = some none)
    (n2_halves : PySem.W.findIn K (.ref C2) "halves" = some none)
    (n2_some : PySem.W.findIn K (.ref C2) "some" = some none)
    (am2_init : PySem.W.findIn K (.ref C2) "__init__" = some (some (.ref fm2_init)))
    (im2_init : PySem.W.isFn K (.ref fm2_init) = true)
    (lm2_init : K.lookup fm2_init = some ⟨ocm2_init, odm2_init, .func (PySem.W.fnOf "__init__" "Part.__init__" (C8.fnArgs s_Part_init) (C8.fnBody s_Part_init) (C8.fnScope s_Part_init) .none kVm2_init dcm2_init pmm2_init anm2_init cdm2_init ctm2_init), slm2_init⟩)
    (cm2_init : PySem.W.codeIn K cdm2_init "Part.__init__" = true)
    (km2_init : PySem.W.keepIn K (.ref fm2_init) = true)
    (z_isinstance : PySem.W.nsIn K mainGlobals "isinstance" = some none)
    (z_len : PySem.W.nsIn K mainGlobals "len" = some none)
    (z_int : PySem.W.nsIn K mainGlobals "int" = some none)
    (z_bool : PySem.W.nsIn K mainGlobals "bool" = some none)
    (z_str : PySem.W.nsIn K mainGlobals "str" = some none)
    (z_list : PySem.W.nsIn K mainGlobals "list" = some none)
    (z_tuple : PySem.W.nsIn K mainGlobals "tuple" = some none)
    (z_dict : PySem.W.nsIn K mainGlobals "dict" = some none)
    (z_set : PySem.W.nsIn K mainGlobals "set" = some none)
    (z_range : PySem.W.nsIn K mainGlobals "range" = some none)
    (z_enumerate : PySem.W.nsIn K mainGlobals "enumerate" = some none)
    (z_sorted : PySem.W.nsIn K mainGlobals "sorted" = some none)
    (z_any : PySem.W.nsIn K mainGlobals "any" = some none)
    (z_all : PySem.W.nsIn K mainGlobals "all" = some none)
    (z_sum : PySem.W.nsIn K mainGlobals "sum" = some none)
    (z_min : PySem.W.nsIn K mainGlobals "min" = some none)
    (z_max : PySem.W.nsIn K mainGlobals "max" = some none)
    (y_MOST_WIDTH : PySem.W.nsIn K mainGlobals "MOST_WIDTH" = some (some (.int 64 t_MOST_WIDTH)))
    (y_MOST_ROAD : PySem.W.nsIn K mainGlobals "MOST_ROAD" = some (some (.int 18446744073709551615 t_MOST_ROAD)))
    (y_BITS : PySem.W.nsIn K mainGlobals "BITS" = some (some (.str (Str.ofString "01") t_BITS)))
    (aL : PySem.W.nsIn K mainGlobals "law" = some (some (.ref fL)))
    (lL : K.lookup fL = some ⟨ocL, odL, .func (PySem.W.fnOf "law" "law" (C8.fnArgs s_law) (C8.fnBody s_law) (C8.fnScope s_law) .none kVL dcL pmL anL cdL ctL), slL⟩)
    (cL : PySem.W.codeIn K cdL "law" = true)
    (hhl_due : PySem.W.codeHdIn K cl_due Pl_due = true)
    (hnl_due : K.lookup Pl_due = none)
    (h8 : ∀ p ∈ [Pl_due], h.get? p = some (PySem.W.tabObj #[])) :
    LamX.LawAtS l w K C8.CX0 136 63 "_law_script" mg fa h := by
  have e := hfa.symm.trans (PySem.W.mg_of X G aL)
  cases e
  have T : Glob mg := ⟨PySem.W.mg_none_of X G z_isinstance, PySem.W.mg_none_of X G z_len, PySem.W.mg_none_of X G z_int, PySem.W.mg_none_of X G z_bool, PySem.W.mg_none_of X G z_str, PySem.W.mg_none_of X G z_list, PySem.W.mg_none_of X G z_tuple, PySem.W.mg_none_of X G z_dict, PySem.W.mg_none_of X G z_set, PySem.W.mg_none_of X G z_range, PySem.W.mg_none_of X G z_enumerate, PySem.W.mg_none_of X G z_sorted, PySem.W.mg_none_of X G z_any, PySem.W.mg_none_of X G z_all, PySem.W.mg_none_of X G z_sum, PySem.W.mg_none_of X G z_min, PySem.W.mg_none_of X G z_max, ⟨_, PySem.W.mg_of X G y_MOST_WIDTH, ⟨_, rfl⟩⟩, ⟨_, PySem.W.mg_of X G y_MOST_ROAD, ⟨_, rfl⟩⟩, ⟨_, PySem.W.mg_of X G y_BITS, ⟨t_BITS, by rw [tx_01]⟩⟩⟩
  have Fd0 : C8.Fun K "is_among" "is_among" s_is_among fd0 _ := ⟨⟨_, _, _, _, _, _, _, _, _, _, rfl, ld0, cd0⟩⟩
  have bd0 := Fd0.binds rfl (ps := ["thing", "least", "most"]) fun _ _ _ _ _ _ us hl => match us, hl with | [_, _, _], _ => rfl
  have D_is_among : Dn K mg "is_among" s_is_among ["thing", "least", "most"] := ⟨fd0, _, ⟨Fd0, PySem.W.mg_of X G ad0, kd0⟩, bd0⟩
  have Fd1 : C8.Fun K "is_width" "is_width" s_is_width fd1 _ := ⟨⟨_, _, _, _, _, _, _, _, _, _, rfl, ld1, cd1⟩⟩
  have bd1 := Fd1.binds rfl (ps := ["thing"]) fun _ _ _ _ _ _ us hl => match us, hl with | [_], _ => rfl
  have D_is_width : Dn K mg "is_width" s_is_width ["thing"] := ⟨fd1, _, ⟨Fd1, PySem.W.mg_of X G ad1, kd1⟩, bd1⟩
  have Fd2 : C8.Fun K "is_road" "is_road" s_is_road fd2 _ := ⟨⟨_, _, _, _, _, _, _, _, _, _, rfl, ld2, cd2⟩⟩
  have bd2 := Fd2.binds rfl (ps := ["thing"]) fun _ _ _ _ _ _ us hl => match us, hl with | [_], _ => rfl
  have D_is_road : Dn K mg "is_road" s_is_road ["thing"] := ⟨fd2, _, ⟨Fd2, PySem.W.mg_of X G ad2, kd2⟩, bd2⟩
  have Fd3 : C8.Fun K "is_bits" "is_bits" s_is_bits fd3 _ := ⟨⟨_, _, _, _, _, _, _, _, _, _, rfl, ld3, cd3⟩⟩
  have bd3 := Fd3.binds rfl (ps := ["thing", "least", "most"]) fun _ _ _ _ _ _ us hl => match us, hl with | [_, _, _], _ => rfl
  have D_is_bits : Dn K mg "is_bits" s_is_bits ["thing", "least", "most"] := ⟨fd3, _, ⟨Fd3, PySem.W.mg_of X G ad3, kd3⟩, bd3⟩
  have Fd4 : C8.Fun K "is_word" "is_word" s_is_word fd4 _ := ⟨⟨_, _, _, _, _, _, _, _, _, _, rfl, ld4, cd4⟩⟩
  have bd4 := Fd4.binds rfl (ps := ["width", "thing"]) fun _ _ _ _ _ _ us hl => match us, hl with | [_, _], _ => rfl
  have D_is_word : Dn K mg "is_word" s_is_word ["width", "thing"] := ⟨fd4, _, ⟨Fd4, PySem.W.mg_of X G ad4, kd4⟩, bd4⟩
  have Fd5 : C8.Fun K "is_start" "is_start" s_is_start fd5 _ := ⟨⟨_, _, _, _, _, _, _, _, _, _, rfl, ld5, cd5⟩⟩
  have bd5 := Fd5.binds rfl (ps := ["width", "thing"]) fun _ _ _ _ _ _ us hl => match us, hl with | [_, _], _ => rfl
  have D_is_start : Dn K mg "is_start" s_is_start ["width", "thing"] := ⟨fd5, _, ⟨Fd5, PySem.W.mg_of X G ad5, kd5⟩, bd5⟩
  have Fd6 : C8.Fun K "number_of" "number_of" s_number_of fd6 _ := ⟨⟨_, _, _, _, _, _, _, _, _, _, rfl, ld6, cd6⟩⟩
  have bd6 := Fd6.binds rfl (ps := ["start"]) fun _ _ _ _ _ _ us hl => match us, hl with | [_], _ => rfl
  have D_number_of : Dn K mg "number_of" s_number_of ["start"] := ⟨fd6, _, ⟨Fd6, PySem.W.mg_of X G ad6, kd6⟩, bd6⟩
  have Fd7 : C8.Fun K "span_of" "span_of" s_span_of fd7 _ := ⟨⟨_, _, _, _, _, _, _, _, _, _, rfl, ld7, cd7⟩⟩
  have bd7 := Fd7.binds rfl (ps := ["start", "width"]) fun _ _ _ _ _ _ us hl => match us, hl with | [_, _], _ => rfl
  have D_span_of : Dn K mg "span_of" s_span_of ["start", "width"] := ⟨fd7, _, ⟨Fd7, PySem.W.mg_of X G ad7, kd7⟩, bd7⟩
  have Fd8 : C8.Fun K "add_stretch" "add_stretch" s_add_stretch fd8 _ := ⟨⟨_, _, _, _, _, _, _, _, _, _, rfl, ld8, cd8⟩⟩
  have bd8 := Fd8.binds rfl (ps := ["found", "first", "last", "road"]) fun _ _ _ _ _ _ us hl => match us, hl with | [_, _, _, _], _ => rfl
  have D_add_stretch : Dn K mg "add_stretch" s_add_stretch ["found", "first", "last", "road"] := ⟨fd8, _, ⟨Fd8, PySem.W.mg_of X G ad8, kd8⟩, bd8⟩
  have Fd9 : C8.Fun K "between" "between" s_between fd9 _ := ⟨⟨_, _, _, _, _, _, _, _, _, _, rfl, ld9, cd9⟩⟩
  have bd9 := Fd9.binds rfl (ps := ["ahead", "behind"]) fun _ _ _ _ _ _ us hl => match us, hl with | [_, _], _ => rfl
  have D_between : Dn K mg "between" s_between ["ahead", "behind"] := ⟨fd9, _, ⟨Fd9, PySem.W.mg_of X G ad9, kd9⟩, bd9⟩
  have Fd10 : C8.Fun K "spread" "spread" s_spread fd10 _ := ⟨⟨_, _, _, _, _, _, _, _, _, _, rfl, ld10, cd10⟩⟩
  have bd10 := Fd10.binds rfl (ps := ["knot", "first", "last", "road", "found"]) fun _ _ _ _ _ _ us hl => match us, hl with | [_, _, _, _, _], _ => rfl
  have D_spread : Dn K mg "spread" s_spread ["knot", "first", "last", "road", "found"] := ⟨fd10, _, ⟨Fd10, PySem.W.mg_of X G ad10, kd10⟩, bd10⟩
  have Fd11 : C8.Fun K "part_of" "part_of" s_part_of fd11 _ := ⟨⟨_, _, _, _, _, _, _, _, _, _, rfl, ld11, cd11⟩⟩
  have bd11 := Fd11.binds rfl (ps := ["knot", "start", "road"]) fun _ _ _ _ _ _ us hl => match us, hl with | [_, _, _], _ => rfl
  have D_part_of : Dn K mg "part_of" s_part_of ["knot", "start", "road"] := ⟨fd11, _, ⟨Fd11, PySem.W.mg_of X G ad11, kd11⟩, bd11⟩
  have Fd12 : C8.Fun K "shared" "shared" s_shared fd12 _ := ⟨⟨_, _, _, _, _, _, _, _, _, _, rfl, ld12, cd12⟩⟩
  have bd12 := Fd12.binds rfl (ps := ["pair"]) fun _ _ _ _ _ _ us hl => match us, hl with | [_], _ => rfl
  have D_shared : Dn K mg "shared" s_shared ["pair"] := ⟨fd12, _, ⟨Fd12, PySem.W.mg_of X G ad12, kd12⟩, bd12⟩
  have Fd13 : C8.Fun K "lay" "lay" s_lay fd13 _ := ⟨⟨_, _, _, _, _, _, _, _, _, _, rfl, ld13, cd13⟩⟩
  have bd13 := Fd13.binds rfl (ps := ["part", "road", "table"]) fun _ _ _ _ _ _ us hl => match us, hl with | [_, _, _], _ => rfl
  have D_lay : Dn K mg "lay" s_lay ["part", "road", "table"] := ⟨fd13, _, ⟨Fd13, PySem.W.mg_of X G ad13, kd13⟩, bd13⟩
  have Fd14 : C8.Fun K "fewest" "fewest" s_fewest fd14 _ := ⟨⟨_, _, _, _, _, _, _, _, _, _, rfl, ld14, cd14⟩⟩
  have bd14 := Fd14.binds rfl (ps := ["table"]) fun _ _ _ _ _ _ us hl => match us, hl with | [_], _ => rfl
  have D_fewest : Dn K mg "fewest" s_fewest ["table"] := ⟨fd14, _, ⟨Fd14, PySem.W.mg_of X G ad14, kd14⟩, bd14⟩
  have Fd15 : C8.Fun K "_law_mixed" "_law_mixed" s_l_mixed fd15 _ := ⟨⟨_, _, _, _, _, _, _, _, _, _, rfl, ld15, cd15⟩⟩
  have bd15 := Fd15.binds rfl (ps := ["_law_cell", "_law_k"]) fun _ _ _ _ _ _ us hl => match us, hl with | [_, _], _ => rfl
  have D_l_mixed : Dn K mg "_law_mixed" s_l_mixed ["_law_cell", "_law_k"] := ⟨fd15, _, ⟨Fd15, PySem.W.mg_of X G ad15, kd15⟩, bd15⟩
  have Fd16 : C8.Fun K "_law_bits" "_law_bits" s_l_bits fd16 _ := ⟨⟨_, _, _, _, _, _, _, _, _, _, rfl, ld16, cd16⟩⟩
  have bd16 := Fd16.binds rfl (ps := ["_law_number", "_law_size"]) fun _ _ _ _ _ _ us hl => match us, hl with | [_, _], _ => rfl
  have D_l_bits : Dn K mg "_law_bits" s_l_bits ["_law_number", "_law_size"] := ⟨fd16, _, ⟨Fd16, PySem.W.mg_of X G ad16, kd16⟩, bd16⟩
  have Fd17 : C8.Fun K "_law_width" "_law_width" s_l_width fd17 _ := ⟨⟨_, _, _, _, _, _, _, _, _, _, rfl, ld17, cd17⟩⟩
  have bd17 := Fd17.binds rfl (ps := ["_law_number"]) fun _ _ _ _ _ _ us hl => match us, hl with | [_], _ => rfl
  have D_l_width : Dn K mg "_law_width" s_l_width ["_law_number"] := ⟨fd17, _, ⟨Fd17, PySem.W.mg_of X G ad17, kd17⟩, bd17⟩
  have Fd18 : C8.Fun K "_law_start" "_law_start" s_l_start fd18 _ := ⟨⟨_, _, _, _, _, _, _, _, _, _, rfl, ld18, cd18⟩⟩
  have bd18 := Fd18.binds rfl (ps := ["_law_base", "_law_number"]) fun _ _ _ _ _ _ us hl => match us, hl with | [_, _], _ => rfl
  have D_l_start : Dn K mg "_law_start" s_l_start ["_law_base", "_law_number"] := ⟨fd18, _, ⟨Fd18, PySem.W.mg_of X G ad18, kd18⟩, bd18⟩
  have Fd19 : C8.Fun K "_law_roads" "_law_roads" s_l_roads fd19 _ := ⟨⟨_, _, _, _, _, _, _, _, _, _, rfl, ld19, cd19⟩⟩
  have bd19 := Fd19.binds rfl (ps := ["_law_seed"]) fun _ _ _ _ _ _ us hl => match us, hl with | [_], _ => rfl
  have D_l_roads : Dn K mg "_law_roads" s_l_roads ["_law_seed"] := ⟨fd19, _, ⟨Fd19, PySem.W.mg_of X G ad19, kd19⟩, bd19⟩
  have Fd20 : C8.Fun K "_law_drawn" "_law_drawn" s_l_drawn fd20 _ := ⟨⟨_, _, _, _, _, _, _, _, _, _, rfl, ld20, cd20⟩⟩
  have bd20 := Fd20.binds rfl (ps := ["_law_cells", "_law_seed", "_law_wide"]) fun _ _ _ _ _ _ us hl => match us, hl with | [_, _, _], _ => rfl
  have D_l_drawn : Dn K mg "_law_drawn" s_l_drawn ["_law_cells", "_law_seed", "_law_wide"] := ⟨fd20, _, ⟨Fd20, PySem.W.mg_of X G ad20, kd20⟩, bd20⟩
  have Fd21 : C8.Fun K "_law_table" "_law_table" s_l_table fd21 _ := ⟨⟨_, _, _, _, _, _, _, _, _, _, rfl, ld21, cd21⟩⟩
  have bd21 := Fd21.binds rfl (ps := ["_law_rows", "_law_wide"]) fun _ _ _ _ _ _ us hl => match us, hl with | [_, _], _ => rfl
  have D_l_table : Dn K mg "_law_table" s_l_table ["_law_rows", "_law_wide"] := ⟨fd21, _, ⟨Fd21, PySem.W.mg_of X G ad21, kd21⟩, bd21⟩
  have Fd22 : C8.Fun K "_law_least" "_law_least" s_l_least fd22 _ := ⟨⟨_, _, _, _, _, _, _, _, _, _, rfl, ld22, cd22⟩⟩
  have bd22 := Fd22.binds rfl (ps := ["_law_rows", "_law_start_here", "_law_given", "_law_kept"]) fun _ _ _ _ _ _ us hl => match us, hl with | [_, _, _, _], _ => rfl
  have D_l_least : Dn K mg "_law_least" s_l_least ["_law_rows", "_law_start_here", "_law_given", "_law_kept"] := ⟨fd22, _, ⟨Fd22, PySem.W.mg_of X G ad22, kd22⟩, bd22⟩
  have Fd23 : C8.Fun K "_law_due" "_law_due" s_l_due fd23 _ := ⟨⟨_, _, _, _, _, _, _, _, _, _, rfl, ld23, cd23⟩⟩
  have bd23 := Fd23.binds rfl (ps := ["_law_rows"]) fun _ _ _ _ _ _ us hl => match us, hl with | [_], _ => rfl
  have D_l_due : DnC K mg "_law_due" s_l_due ["_law_rows"] cl_due := ⟨fd23, _, _, _, _, _, _, _, _, _, ld23, cd23, PySem.W.mg_of X G ad23, kd23, bd23⟩
  have cl0 : Cls K C0 := ⟨pg0, hd0, po0, sa0⟩
  have Fm0_init : C8.Fun K "__init__" "Knot.__init__" s_Knot_init fm0_init _ := ⟨⟨_, _, _, _, _, _, _, _, _, _, rfl, lm0_init, cm0_init⟩⟩
  have bm0_init := Fm0_init.binds rfl (ps := ["self"]) fun _ _ _ _ _ _ us hl => match us, hl with | [_], _ => rfl
  have D_Knot_init : Mkn K mg "Knot" C0 s_Knot_init ["self"] := ⟨"Knot.__init__", fm0_init, _, ⟨mk0, am0_init, im0_init, kc0⟩, PySem.W.mg_of X G aC0, Fm0_init, bm0_init⟩
  have cl1 : Cls K C1 := ⟨pg1, hd1, po1, sa1⟩
  have Fm1_init : C8.Fun K "__init__" "Table.__init__" s_Table_init fm1_init _ := ⟨⟨_, _, _, _, _, _, _, _, _, _, rfl, lm1_init, cm1_init⟩⟩
  have bm1_init := Fm1_init.binds rfl (ps := ["self", "width"]) fun _ _ _ _ _ _ us hl => match us, hl with | [_, _], _ => rfl
  have D_Table_init : Mkn K mg "Table" C1 s_Table_init ["self", "width"] := ⟨"Table.__init__", fm1_init, _, ⟨mk1, am1_init, im1_init, kc1⟩, PySem.W.mg_of X G aC1, Fm1_init, bm1_init⟩
  have Fm1_width : C8.Fun K "width" "Table.width" s_Table_width fm1_width _ := ⟨⟨_, _, _, _, _, _, _, _, _, _, rfl, lm1_width, cm1_width⟩⟩
  have bm1_width := Fm1_width.binds rfl (ps := ["self"]) fun _ _ _ _ _ _ us hl => match us, hl with | [_], _ => rfl
  have D_Table_width : Mn K C1 "width" s_Table_width ["self"] [] := ⟨"Table.width", fm1_width, _, [], cl1, ⟨am1_width, im1_width, km1_width⟩, Fm1_width, bm1_width, .nil⟩
  have Fm1_many : C8.Fun K "many" "Table.many" s_Table_many fm1_many _ := ⟨⟨_, _, _, _, _, _, _, _, _, _, rfl, lm1_many, cm1_many⟩⟩
  have bm1_many := Fm1_many.binds rfl (ps := ["self"]) fun _ _ _ _ _ _ us hl => match us, hl with | [_], _ => rfl
  have D_Table_many : Mn K C1 "many" s_Table_many ["self"] [] := ⟨"Table.many", fm1_many, _, [], cl1, ⟨am1_many, im1_many, km1_many⟩, Fm1_many, bm1_many, .nil⟩
  have Fm1_need_start : C8.Fun K "need_start" "Table.need_start" s_Table_need_start fm1_need_start _ := ⟨⟨_, _, _, _, _, _, _, _, _, _, rfl, lm1_need_start, cm1_need_start⟩⟩
  have bm1_need_start := Fm1_need_start.binds rfl (ps := ["self", "start"]) fun _ _ _ _ _ _ us hl => match us, hl with | [_, _], _ => rfl
  have D_Table_need_start : Mn K C1 "need_start" s_Table_need_start ["self", "start"] [] := ⟨"Table.need_start", fm1_need_start, _, [], cl1, ⟨am1_need_start, im1_need_start, km1_need_start⟩, Fm1_need_start, bm1_need_start, .nil⟩
  have Fm1_way : C8.Fun K "way" "Table.way" s_Table_way fm1_way _ := ⟨⟨_, _, _, _, _, _, _, _, _, _, rfl, lm1_way, cm1_way⟩⟩
  have bm1_way := Fm1_way.binds rfl (ps := ["self", "start"]) fun _ _ _ _ _ _ us hl => match us, hl with | [_, _], _ => rfl
  have D_Table_way : Mn K C1 "way" s_Table_way ["self", "start"] [] := ⟨"Table.way", fm1_way, _, [], cl1, ⟨am1_way, im1_way, km1_way⟩, Fm1_way, bm1_way, .nil⟩
  have Fm1_put : C8.Fun K "put" "Table.put" s_Table_put fm1_put _ := ⟨⟨_, _, _, _, _, _, _, _, _, _, rfl, lm1_put, cm1_put⟩⟩
  have bm1_put := Fm1_put.binds rfl (ps := ["self", "start", "road"]) fun _ _ _ _ _ _ us hl => match us, hl with | [_, _, _], _ => rfl
  have D_Table_put : Mn K C1 "put" s_Table_put ["self", "start", "road"] [] := ⟨"Table.put", fm1_put, _, [], cl1, ⟨am1_put, im1_put, km1_put⟩, Fm1_put, bm1_put, .nil⟩
  have Fm1_stretches : C8.Fun K "stretches" "Table.stretches" s_Table_stretches fm1_stretches _ := ⟨⟨_, _, _, _, _, _, _, _, _, _, rfl, lm1_stretches, cm1_stretches⟩⟩
  have FDm1_stretches : FunD K "stretches" "Table.stretches" (C8.fnArgs s_Table_stretches) (C8.fnBody s_Table_stretches) (C8.fnScope s_Table_stretches) [.str (Str.ofString "")] [] fm1_stretches _ := ⟨⟨_, _, _, _, _, _, _, _, _, _, rfl, lm1_stretches, cm1_stretches, .inr ⟨by simp, DTm1_stretches, _, [.str (Str.ofString "") tkm1_stretches], nDm1_stretches, rfl, lDm1_stretches, rfl, .cons ⟨_, rfl⟩ .nil⟩, .inl rfl⟩, km1_stretches⟩
  have D_Table_stretches : Mn K C1 "stretches" s_Table_stretches ["self", "start"] [] := by
    obtain ⟨ds, vds, bds⟩ := FDm1_stretches.binds1 (ps := ["self", "start"]) 2 1 (by simp) rfl (fun _ _ _ _ _ _ _ us its hu hi => match us, its, hu, hi with | [_, _], [_], _, _ => ⟨_, rfl, rfl⟩)
    exact ⟨"Table.stretches", fm1_stretches, _, ds, cl1, ⟨am1_stretches, im1_stretches, km1_stretches⟩, Fm1_stretches, bds, vds⟩
  have E_Table_stretches : Mn K C1 "stretches" s_Table_stretches ["self", "start"] [.str (Str.ofString "")] := by
    obtain ⟨ds, vds, bds⟩ := FDm1_stretches.binds1 (ps := ["self", "start"]) 1 0 (by simp) rfl (fun _ _ _ _ _ _ _ us its hu hi => match us, its, hu, hi with | [_], [_], _, _ => ⟨_, rfl, rfl⟩)
    exact ⟨"Table.stretches", fm1_stretches, _, ds, cl1, ⟨am1_stretches, im1_stretches, km1_stretches⟩, Fm1_stretches, bds, vds⟩
  have Fm1_rows : C8.Fun K "rows" "Table.rows" s_Table_rows fm1_rows _ := ⟨⟨_, _, _, _, _, _, _, _, _, _, rfl, lm1_rows, cm1_rows⟩⟩
  have bm1_rows := Fm1_rows.binds rfl (ps := ["self"]) fun _ _ _ _ _ _ us hl => match us, hl with | [_], _ => rfl
  have D_Table_rows : Mn K C1 "rows" s_Table_rows ["self"] [] := ⟨"Table.rows", fm1_rows, _, [], cl1, ⟨am1_rows, im1_rows, km1_rows⟩, Fm1_rows, bm1_rows, .nil⟩
  have cl2 : Cls K C2 := ⟨pg2, hd2, po2, sa2⟩
  have Fm2_init : C8.Fun K "__init__" "Part.__init__" s_Part_init fm2_init _ := ⟨⟨_, _, _, _, _, _, _, _, _, _, rfl, lm2_init, cm2_init⟩⟩
  have bm2_init := Fm2_init.binds rfl (ps := ["self", "start", "halves", "some"]) fun _ _ _ _ _ _ us hl => match us, hl with | [_, _, _, _], _ => rfl
  have D_Part_init : Mkn K mg "Part" C2 s_Part_init ["self", "start", "halves", "some"] := ⟨"Part.__init__", fm2_init, _, ⟨mk2, am2_init, im2_init, kc2⟩, PySem.W.mg_of X G aC2, Fm2_init, bm2_init⟩
  have FL : C8.Fun K "law" "law" s_law fa _ := ⟨⟨_, _, _, _, _, _, _, _, _, _, rfl, lL, cL⟩⟩
  refine ⟨PySem.W.fnOf "law" "law" (C8.fnArgs s_law) (C8.fnBody s_law) (C8.fnScope s_law) .none kVL dcL pmL anL cdL ctL, [(cl_due, Pl_due)], spLawT K [(Pl_due, dueQ)], fun p hp => h8 p.2 (by revert p; simp), ?_, ?_, fun s v => .of_eq rfl, fun H a ns hl _ hT hS => ⟨a, ns, rfl, fun p hp => LamX.TabS.nil (hTT (T := [(Pl_due, dueQ)]) hT (by rfl) p hp), hS, hl, fun _ => rfl⟩, fun base Kb Gb hTB => ?_⟩
  · intro p hp; simp only [List.mem_cons, List.not_mem_nil, or_false] at hp; rcases hp with rfl
    · exact hnl_due
  · intro p hp; simp only [List.mem_cons, List.not_mem_nil, or_false] at hp; rcases hp with rfl
    · exact PySem.W.codeHd_of_K X hhl_due
  have hm_l_due : (Pl_due, dueQ) ∈ [(Pl_due, dueQ)] := by simp
  have hu_l_due : ∀ p ∈ [(Pl_due, dueQ)], p.1 = Pl_due → p.2 = dueQ := fun p hp _ => by rw [List.mem_singleton.mp hp]
  have TB_l_due : LamX.TabB base mg cl_due Pl_due := hTB (cl_due, Pl_due) (by simp)
  have Kk : Ks K C0 := ⟨cl0, n0_kids, n0_goal, mro_obj mk0, eqK⟩
  have Tt : Ts K C1 := ⟨cl1, n1_wide, n1_top, n1_amount⟩
  have Pp : Ps K C2 := ⟨cl2, n2_start, n2_halves, n2_some⟩
  have w1 := c_is_among (P := l.prog) (w := w) (base := base) T D_is_among
  have w2 := c_is_bits (P := l.prog) (w := w) (base := base) T D_is_bits
  have w3 := c_is_width T D_is_width w1
  have w4 := c_is_road T D_is_road w1
  have w6 := c_is_start T D_is_start w2
  have w7 := c_span_of T D_span_of (c_number_of (P := l.prog) (w := w) (base := base) T D_number_of)
  have t1 := c_add_stretch (P := l.prog) (w := w) (base := base) T D_add_stretch
  have t2 := c_between (P := l.prog) (w := w) (base := base) T D_between
  have t3 := c_Knot_init (P := l.prog) (w := w) (base := base) Kk D_Knot_init
  have t5 := c_spread T D_spread t1 65
  have t6 := c_Table_init T Tt Kk D_Table_init w3 t3
  have t7 := c_Table_width (P := l.prog) (w := w) (mg := mg) (base := base) (CK := C0) Tt D_Table_width
  have t8 := c_Table_many (P := l.prog) (w := w) (mg := mg) (base := base) (CK := C0) Tt D_Table_many
  have t9 := c_Table_need_start (CK := C0) T Tt D_Table_need_start w6
  have t11 := c_Table_way (P := l.prog) (w := w) (base := base) T Tt Kk D_Table_way
  have t13 := c_Table_stretches T Tt Kk D_Table_stretches t9 t11 w7 t5
  have t14 := c_Table_put T Tt Kk D_Table_put t9 w4 t13 t3 t2
  have t15 := c_Table_rows (P := l.prog) (w := w) (base := base) T Tt Kk D_Table_rows
  have f1 := c_Part_init (P := l.prog) (w := w) (mg := mg) (base := base) Pp D_Part_init
  have f2 := c_shared (P := l.prog) (w := w) (base := base) T D_shared
  have f3 := c_part_of T D_part_of f1 f2 65
  have f4 := c_lay (CP := C2) T Tt D_lay t14 65
  have f5 := c_fewest T Tt Kk Pp D_fewest t7 t6 f3 f4
  have l2 := c_l_mixed (P := l.prog) (w := w) (base := base) T D_l_mixed
  have l3 := c_l_width (P := l.prog) (w := w) (base := base) T D_l_width
  have l4 := c_l_bits T D_l_bits l2
  have l5 := c_l_start (P := l.prog) (w := w) (base := base) T D_l_start
  have l6 := c_l_roads T D_l_roads l2
  have l12 := c_l_drawn T D_l_drawn l2 l4 l5 l6
  have l13 := c_l_table T Tt Kk D_l_table t6 t14
  have lz := fun B => c_l_least (P := l.prog) (w := w) (base := B) T D_l_least 65
  have ld := c_l_due (TD := [(Pl_due, fun _ _ => dueQ)]) T TB_l_due List.mem_cons_self (fun p hp _ => by rw [List.mem_singleton.mp hp]) D_l_due lz
  exact ok_law FL hm_l_due T Kk Tt l2 l3 l12 l13 f5 t8 ld
theorem walk {l : PySem.W.OpenLaw} {q : Program} {loose : List Str} {XP : (Str → Option Value) → Heap → Prop} {YP : World → Heap → Prop} {d : DefRec} {K : Params → PySem.W.Frag} (hn : l.most = some 63) (hdf : d.params.defaults = [])
    (hY : ∀ (w : World) (h : Heap), YP w h → (K w.params).In h)
    (F : ∀ (w : World) (mg : Str → Option Value) (fa : Addr) (h : Heap), YP w h → (K w.params).In h → h.Ns mainGlobals mg → mg d.name = some (.ref fa) → LamX.LawAtS l w (K w.params) C8.CX0 136 63 "_law_script" mg fa h) :
    PySem.W.WalkO q loose XP YP l.row.toRowW d [] (fun f vs => PySem.call f vs) :=
  LamX.walk_ofTs (CX := fun _ => C8.CX0) hn (by decide) hdf ⟨rfl, by decide, by decide⟩ hY F fun _ _ _ _ _ z => z
end Br
open PySem PySem.W PyProof.Rows
set_option maxRecDepth 100000 in
set_option maxHeartbeats 0 in
theorem PySem.Challenge.cw_bitroads_k09_no_fewer_rows_holds : PySem.Challenge.rw_bitroads_k09_no_fewer_rows.Holds := by
  w_on; o_law; k_head; (case hw => w_witness2)
  k_fill
  refine Br.walk (l := PySem.Challenge.rw_bitroads_k09_no_fewer_rows) rfl rfl (fun w h Y => PySem.W.km_in_of Y) ?F
  case F =>
    intro w mg fa h Y KX G hmg
    refine' Br.all_mk KX G hmg ?ad0 ?ld0 ?cd0 ?kd0 ?ad1 ?ld1 ?cd1 ?kd1 ?ad2 ?ld2 ?cd2 ?kd2 ?ad3 ?ld3 ?cd3 ?kd3 ?ad4 ?ld4 ?cd4 ?kd4 ?ad5 ?ld5 ?cd5 ?kd5 ?ad6 ?ld6 ?cd6 ?kd6 ?ad7 ?ld7 ?cd7 ?kd7 ?ad8 ?ld8 ?cd8 ?kd8 ?ad9 ?ld9 ?cd9 ?kd9 ?ad10 ?ld10 ?cd10 ?kd10 ?ad11 ?ld11 ?cd11 ?kd11 ?ad12 ?ld12 ?cd12 ?kd12 ?ad13 ?ld13 ?cd13 ?kd13 ?ad14 ?ld14 ?cd14 ?kd14 ?ad15 ?ld15 ?cd15 ?kd15 ?ad16 ?ld16 ?cd16 ?kd16 ?ad17 ?ld17 ?cd17 ?kd17 ?ad18 ?ld18 ?cd18 ?kd18 ?ad19 ?ld19 ?cd19 ?kd19 ?ad20 ?ld20 ?cd20 ?kd20 ?ad21 ?ld21 ?cd21 ?kd21 ?ad22 ?ld22 ?cd22 ?kd22 ?ad23 ?ld23 ?cd23 ?kd23 ?aC0 ?pg0 ?hd0 ?po0 ?sa0 ?mk0 ?kc0 ?n0_kids ?n0_goal ?eqK ?am0_init ?im0_init ?lm0_init ?cm0_init ?km0_init ?aC1 ?pg1 ?hd1 ?po1 ?sa1 ?mk1 ?kc1 ?n1_wide ?n1_top ?n1_amount ?am1_init ?im1_init ?lm1_init ?cm1_init ?km1_init ?am1_width ?im1_width ?lm1_width ?cm1_width ?km1_width ?am1_many ?im1_many ?lm1_many ?cm1_many ?km1_many ?am1_need_start ?im1_need_start ?lm1_need_start ?cm1_need_start ?km1_need_start ?am1_way ?im1_way ?lm1_way ?cm1_way ?km1_way ?am1_put ?im1_put ?lm1_put ?cm1_put ?km1_put ?am1_stretches ?im1_stretches ?lm1_stretches ?cm1_stretches ?km1_stretches ?lDm1_stretches ?am1_rows ?im1_rows ?lm1_rows ?cm1_rows ?km1_rows ?aC2 ?pg2 ?hd2 ?po2 ?sa2 ?mk2 ?kc2 ?n2_start ?n2_halves ?n2_some ?am2_init ?im2_init ?lm2_init ?cm2_init ?km2_init ?z_isinstance ?z_len ?z_int ?z_bool ?z_str ?z_list ?z_tuple ?z_dict ?z_set ?z_range ?z_enumerate ?z_sorted ?z_any ?z_all ?z_sum ?z_min ?z_max ?y_MOST_WIDTH ?y_MOST_ROAD ?y_BITS ?aL ?lL ?cL ?hhl_due ?hnl_due (PySem.W.km_tabs_of Y)
    (case ad0 => k_is)
    (case ld0 => k_is)
    (case cd0 => k_is)
    (case kd0 => k_is)
    (case ad1 => k_is)
    (case ld1 => k_is)
    (case cd1 => k_is)
    (case kd1 => k_is)
    (case ad2 => k_is)
    (case ld2 => k_is)
    (case cd2 => k_is)
    (case kd2 => k_is)
    (case ad3 => k_is)
    (case ld3 => k_is)
    (case cd3 => k_is)
    (case kd3 => k_is)
    (case ad4 => k_is)
    (case ld4 => k_is)
    (case cd4 => k_is)
    (case kd4 => k_is)
    (case ad5 => k_is)
    (case ld5 => k_is)
    (case cd5 => k_is)
    (case kd5 => k_is)
    (case ad6 => k_is)
    (case ld6 => k_is)
    (case cd6 => k_is)
    (case kd6 => k_is)
    (case ad7 => k_is)
    (case ld7 => k_is)
    (case cd7 => k_is)
    (case kd7 => k_is)
    (case ad8 => k_is)
    (case ld8 => k_is)
    (case cd8 => k_is)
    (case kd8 => k_is)
    (case ad9 => k_is)
    (case ld9 => k_is)
    (case cd9 => k_is)
    (case kd9 => k_is)
    (case ad10 => k_is)
    (case ld10 => k_is)
    (case cd10 => k_is)
    (case kd10 => k_is)
    (case ad11 => k_is)
    (case ld11 => k_is)
    (case cd11 => k_is)
    (case kd11 => k_is)
    (case ad12 => k_is)
    (case ld12 => k_is)
    (case cd12 => k_is)
    (case kd12 => k_is)
    (case ad13 => k_is)
    (case ld13 => k_is)
    (case cd13 => k_is)
    (case kd13 => k_is)
    (case ad14 => k_is)
    (case ld14 => k_is)
    (case cd14 => k_is)
    (case kd14 => k_is)
    (case ad15 => k_is)
    (case ld15 => k_is)
    (case cd15 => k_is)
    (case kd15 => k_is)
    (case ad16 => k_is)
    (case ld16 => k_is)
    (case cd16 => k_is)
    (case kd16 => k_is)
    (case ad17 => k_is)
    (case ld17 => k_is)
    (case cd17 => k_is)
    (case kd17 => k_is)
    (case ad18 => k_is)
    (case ld18 => k_is)
    (case cd18 => k_is)
    (case kd18 => k_is)
    (case ad19 => k_is)
    (case ld19 => k_is)
    (case cd19 => k_is)
    (case kd19 => k_is)
    (case ad20 => k_is)
    (case ld20 => k_is)
    (case cd20 => k_is)
    (case kd20 => k_is)
    (case ad21 => k_is)
    (case ld21 => k_is)
    (case cd21 => k_is)
    (case kd21 => k_is)
    (case ad22 => k_is)
    (case ld22 => k_is)
    (case cd22 => k_is)
    (case kd22 => k_is)
    (case ad23 => k_is)
    (case ld23 => k_is)
    (case cd23 => k_is)
    (case kd23 => k_is)
    (case aC0 => k_is)
    (case pg0 => k_is)
    (case hd0 => k_is)
    (case po0 => k_is)
    (case sa0 => k_is)
    (case mk0 => k_is)
    (case kc0 => k_is)
    (case n0_kids => k_is)
    (case n0_goal => k_is)
    (case eqK => k_is)
    (case am0_init => k_is)
    (case im0_init => k_is)
    (case lm0_init => k_is)
    (case cm0_init => k_is)
    (case km0_init => k_is)
    (case aC1 => k_is)
    (case pg1 => k_is)
    (case hd1 => k_is)
    (case po1 => k_is)
    (case sa1 => k_is)
    (case mk1 => k_is)
    (case kc1 => k_is)
    (case n1_wide => k_is)
    (case n1_top => k_is)
    (case n1_amount => k_is)
    (case am1_init => k_is)
    (case im1_init => k_is)
    (case lm1_init => k_is)
    (case cm1_init => k_is)
    (case km1_init => k_is)
    (case am1_width => k_is)
    (case im1_width => k_is)
    (case lm1_width => k_is)
    (case cm1_width => k_is)
    (case km1_width => k_is)
    (case am1_many => k_is)
    (case im1_many => k_is)
    (case lm1_many => k_is)
    (case cm1_many => k_is)
    (case km1_many => k_is)
    (case am1_need_start => k_is)
    (case im1_need_start => k_is)
    (case lm1_need_start => k_is)
    (case cm1_need_start => k_is)
    (case km1_need_start => k_is)
    (case am1_way => k_is)
    (case im1_way => k_is)
    (case lm1_way => k_is)
    (case cm1_way => k_is)
    (case km1_way => k_is)
    (case am1_put => k_is)
    (case im1_put => k_is)
    (case lm1_put => k_is)
    (case cm1_put => k_is)
    (case km1_put => k_is)
    (case am1_stretches => k_is)
    (case im1_stretches => k_is)
    (case lm1_stretches => k_is)
    (case cm1_stretches => k_is)
    (case km1_stretches => k_is)
    (case lDm1_stretches => k_is)
    (case am1_rows => k_is)
    (case im1_rows => k_is)
    (case lm1_rows => k_is)
    (case cm1_rows => k_is)
    (case km1_rows => k_is)
    (case aC2 => k_is)
    (case pg2 => k_is)
    (case hd2 => k_is)
    (case po2 => k_is)
    (case sa2 => k_is)
    (case mk2 => k_is)
    (case kc2 => k_is)
    (case n2_start => k_is)
    (case n2_halves => k_is)
    (case n2_some => k_is)
    (case am2_init => k_is)
    (case im2_init => k_is)
    (case lm2_init => k_is)
    (case cm2_init => k_is)
    (case km2_init => k_is)
    (case z_isinstance => k_is)
    (case z_len => k_is)
    (case z_int => k_is)
    (case z_bool => k_is)
    (case z_str => k_is)
    (case z_list => k_is)
    (case z_tuple => k_is)
    (case z_dict => k_is)
    (case z_set => k_is)
    (case z_range => k_is)
    (case z_enumerate => k_is)
    (case z_sorted => k_is)
    (case z_any => k_is)
    (case z_all => k_is)
    (case z_sum => k_is)
    (case z_min => k_is)
    (case z_max => k_is)
    (case y_MOST_WIDTH => k_is)
    (case y_MOST_ROAD => k_is)
    (case y_BITS => k_is)
    (case aL => k_is)
    (case lL => k_is)
    (case cL => k_is)
    (case hhl_due => kernel_rfl)
    (case hnl_due => kernel_rfl)
#print axioms PySem.Challenge.cw_bitroads_k09_no_fewer_rows_holds
