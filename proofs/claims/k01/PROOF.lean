import PyProof.Rows.All
import Wide.All
import OpenK.AllK
import Wide.FinOn
import HandS.ForMost
import HandS.Codes
import HandS.Walk
import HandS.IsInst
import HandS.Deep
import HandS.TupAny
import HandS.SortInts
import HandS.Replace
import HandS.NoneIn
import HandS.DictComp
import HandS.WideBits
import HandS.Wide
import HandS.Conv
import PyProof.ListStr
import PySem.Challenge.RW_bitroads_k01_words_and_spans
set_option Elab.async false
set_option linter.all false
set_option maxRecDepth 100000
set_option maxHeartbeats 4000000
/-! Ground for all laws of this program: texts of bits, things of a told kind, words for readings. -/
namespace Br
open PySem PySem.Spec PyProof.Rows L2

/-! ### short tactics: steps of a reading that ask nothing new -/
local macro_rules | `(tactic| walk_at "v") => `(tactic| refine ⟨_, rfl, ?_⟩)
local macro_rules | `(tactic| walk_at "go") => `(tactic| repeat (first
  | refine ⟨_, rfl, ?_⟩
  | refine ⟨_, _, rfl, rfl, ?_⟩
  | refine ⟨_, _, rfl, rfl, (by show (0 : Int) < _; decide), ?_⟩
  | refine ⟨_, _, rfl, rfl, ⟨by decide, by decide⟩, ?_⟩
  | refine ⟨_, _, rfl, rfl, .inr ⟨by decide, by decide⟩, ?_⟩
  | refine ⟨_, _, rfl, rfl, .inl ⟨by decide, by decide⟩, ?_⟩))

/-! ### texts of bits -/
def bc (b : Bool) : Nat := if b then 49 else 48
def tx (l : List Bool) : Str := ⟨(l.map bc).toArray⟩
theorem bc_inj {a b : Bool} (h : bc a = bc b) : a = b := by cases a <;> cases b <;> simp [bc] at h <;> rfl
theorem tx_len (l : List Bool) : (tx l).length = l.length := by show ((l.map bc).toArray).size = _; simp
theorem tx_cps (l : List Bool) : (tx l).cps.toList = l.map bc := rfl
theorem tx_inj {a b : List Bool} (h : tx a = tx b) : a = b := by
  have e : (tx a).cps.toList = (tx b).cps.toList := by rw [h]
  rw [tx_cps, tx_cps] at e
  induction a generalizing b with
  | nil => cases b with
    | nil => rfl
    | cons y b => cases e
  | cons x a ih => cases b with
    | nil => cases e
    | cons y b =>
      rw [List.map_cons, List.map_cons] at e
      injection e with e1 e2
      rw [bc_inj e1, ih (by show (⟨_⟩ : Str) = ⟨_⟩; rw [e2]) e2]
theorem tx_eq (a b : List Bool) : (tx a = tx b) ↔ a = b := ⟨tx_inj, fun h => by rw [h]⟩
theorem tx_get {l : List Bool} {i c : Nat} (h : (tx l).cps[i]? = some c) : ∃ b, l[i]? = some b ∧ c = bc b := by
  have e : (l.map bc)[i]? = some c := by
    have z : ((l.map bc).toArray)[i]? = some c := h
    simpa using z
  rw [List.getElem?_map] at e
  cases q : l[i]? with
  | none => rw [q] at e; cases e
  | some b => rw [q] at e; exact ⟨b, rfl, (Option.some.inj e).symm⟩
theorem tx_append (a b : List Bool) : tx a ++ tx b = tx (a ++ b) := by
  show (⟨(tx a).cps ++ (tx b).cps⟩ : Str) = tx (a ++ b)
  unfold tx
  simp
theorem tx_nil : tx [] = ("" : Str) := by decide +kernel
theorem tx_0 : tx [false] = ("0" : Str) := by decide +kernel
theorem tx_1 : tx [true] = ("1" : Str) := by decide +kernel
theorem tx_01 : tx [false, true] = ("01" : Str) := by decide +kernel
theorem tx_10 : tx [true, false] = ("10" : Str) := by decide +kernel
theorem take_cps (z : Str) : z.cps.toList.take z.cps.size = z.cps.toList := by
  rw [← Array.length_toList, List.take_length]
/-- one sign of such a text -/
theorem tx_one (b : Bool) : (⟨#[bc b]⟩ : Str) = tx [b] := by cases b <;> rfl
/-- the number of a text of bits -/
def numF (n : Nat) (l : List Bool) : Nat := l.foldl (fun n b => 2 * n + (if b then 1 else 0)) n
def num (l : List Bool) : Nat := numF 0 l
theorem num_snoc (l : List Bool) (b : Bool) : num (l ++ [b]) = 2 * num l + (if b then 1 else 0) := by
  unfold num numF
  rw [List.foldl_append]
  rfl
theorem numF_eq (l : List Bool) : ∀ n, numF n l = n * 2 ^ l.length + num l := by
  induction l with
  | nil => intro n; simp [numF, num]
  | cons b l ih =>
    intro n
    have e1 : numF n (b :: l) = numF (2 * n + (if b then 1 else 0)) l := rfl
    have e2 : num (b :: l) = numF (0 + (if b then 1 else 0)) l := rfl
    rw [e1, e2, ih, ih, List.length_cons, Nat.pow_succ]
    have h1 : (2 * n + (if b then 1 else 0)) * 2 ^ l.length = n * (2 ^ l.length * 2) + (if b then 1 else 0) * 2 ^ l.length := by
      rw [Nat.add_mul, Nat.mul_comm 2 n, Nat.mul_assoc, Nat.mul_comm 2]
    rw [h1, Nat.zero_add]
    omega
theorem num_cons (b : Bool) (l : List Bool) : num (b :: l) = (if b then 1 else 0) * 2 ^ l.length + num l := by
  have e : num (b :: l) = numF (0 + (if b then 1 else 0)) l := rfl
  rw [e, numF_eq, Nat.zero_add]
theorem num_append (a b : List Bool) : num (a ++ b) = num a * 2 ^ b.length + num b := by
  have e : num (a ++ b) = numF (num a) b := by unfold num numF; rw [List.foldl_append]
  rw [e, numF_eq]
theorem num_lt (l : List Bool) : num l < 2 ^ l.length := by
  induction l with
  | nil => simp [num, numF]
  | cons b l ih =>
    rw [num_cons, List.length_cons, Nat.pow_succ]
    cases b
    · simp only [Bool.false_eq_true, if_false]; omega
    · simp only [if_true]; omega
theorem num_inj {a b : List Bool} (hl : a.length = b.length) (h : num a = num b) : a = b := by
  induction a generalizing b with
  | nil => cases b with
    | nil => rfl
    | cons y b => cases hl
  | cons x a ih => cases b with
    | nil => cases hl
    | cons y b =>
      have hl' : a.length = b.length := by simpa using hl
      rw [num_cons, num_cons, hl'] at h
      have h1 := num_lt a
      have h2 := num_lt b
      rw [hl'] at h1
      cases x <;> cases y
      · rw [ih hl' (by simpa using h)]
      · simp at h; omega
      · simp at h; omega
      · rw [ih hl' (by simpa using h)]
/-- the word of a number -/
def word (n w : Nat) : List Bool := (List.range w).map fun i => decide (n / 2 ^ (w - 1 - i) % 2 = 1)
theorem word_len (n w : Nat) : (word n w).length = w := by unfold word; simp
theorem word_succ (n w : Nat) : word n (w + 1) = word (n / 2) w ++ [decide (n % 2 = 1)] := by
  unfold word
  rw [List.range_succ, List.map_append]
  congr 1
  · refine List.map_congr_left fun i hi => ?_
    have hi := List.mem_range.mp hi
    have e : w + 1 - 1 - i = (w - 1 - i) + 1 := by omega
    rw [e, Nat.pow_succ, Nat.mul_comm, Nat.div_div_eq_div_mul]
  · simp
theorem num_word : ∀ (w n : Nat), num (word n w) = n % 2 ^ w
  | 0, n => by simp [word, num, numF, Nat.mod_one]
  | w + 1, n => by
    rw [word_succ, num_snoc, num_word w]
    have h1 : n % 2 ^ (w + 1) = 2 * (n / 2 % 2 ^ w) + n % 2 := by
      rw [Nat.pow_succ, Nat.mul_comm, Nat.mod_mul]
      omega
    rw [h1]
    rcases Nat.mod_two_eq_zero_or_one n with h | h <;> simp [h]
theorem word_num (l : List Bool) : word (num l) l.length = l :=
  num_inj (word_len _ _) (by rw [num_word, Nat.mod_eq_of_lt (num_lt l)])

theorem sjoin_tx : ∀ l : List Bool, Str.join ("" : Str) (l.map fun b => tx [b]) = tx l
  | [] => by rw [tx_nil]; rfl
  | [_] => rfl
  | b :: c :: r => by
    show tx [b] ++ ("" : Str) ++ Str.join ("" : Str) ((c :: r).map fun b => tx [b]) = _
    rw [sjoin_tx (c :: r), ← tx_nil, tx_append, tx_append]
    rfl
theorem join_tx (l : List Bool) : Txt.join ("" : Str) (l.map fun b => tx [b]) = tx l := (TL.join_eq _ _).trans (sjoin_tx l)

theorem tx_lens (l : List Bool) : ((l.map fun b => tx [b]).map (·.length)).sum = l.length := by
  induction l with
  | nil => rfl
  | cons b l ih =>
    rw [List.map_cons, List.map_cons, List.sum_cons, ih, List.length_cons, tx_len]
    simp only [List.length_cons, List.length_nil]
    omega
theorem len_empty : (Str.ofString "").length = 0 := by decide +kernel

/-! ### things of a told kind -/
inductive Thing (H : Hp) : V → Prop
  | non : Thing H .non
  | bl (b : Bool) : Thing H (.bl b)
  | int (i : Int) : Thing H (.int i)
  | str (z : Str) (h : z.length ≤ 100000) (h2 : z.cps.toList.all (fun c => decide (c < 1114112)) = true) : Thing H (.str z)
  | lst {a : Addr} {xs : List V} (h : H a = some (.lst xs)) : Thing H (.ref a)
  | tup {a : Addr} {xs : List V} (h : H a = some (.tup xs)) : Thing H (.ref a)
  | dct {a : Addr} {kvs : List (Key × V)} (h : H a = some (.dK kvs)) : Thing H (.ref a)
theorem Thing.same {H H' : Hp} (e : Same H H') {x : V} (t : Thing H x) : Thing H' x := by
  cases t with
  | non => exact .non
  | bl b => exact .bl b
  | int i => exact .int i
  | str z h h2 => exact .str z h h2
  | lst h => exact .lst (e _ _ h)
  | tup h => exact .tup (e _ _ h)
  | dct h => exact .dct (e _ _ h)
def kind : V → String
  | .non => "NoneType" | .bl _ => "bool" | .int _ => "int" | .str _ => "str" | _ => "other"
theorem Thing.ty {K : PySem.W.Frag} {H : Hp} {x : V} (t : Thing H x) : ∃ n, TyX K H x (.type n) ∧ (kind x = n ∨ (kind x = "other" ∧ (n = "list" ∨ n = "tuple" ∨ n = "dict"))) := by
  cases t with
  | non => exact ⟨_, .base .non, .inl rfl⟩
  | bl b => exact ⟨_, .base (.bl b), .inl rfl⟩
  | int i => exact ⟨_, .base (.int i), .inl rfl⟩
  | str z => exact ⟨_, .base (.str z), .inl rfl⟩
  | lst h => exact ⟨_, .base (.lst h), .inr ⟨rfl, .inl rfl⟩⟩
  | tup h => exact ⟨_, .base (.tup h), .inr ⟨rfl, .inr (.inl rfl)⟩⟩
  | dct h => exact ⟨_, .base (.dK h), .inr ⟨rfl, .inr (.inr rfl)⟩⟩
def isI : V → Bool
  | .int _ => true | .bl _ => true | _ => false
def isB : V → Bool
  | .bl _ => true | _ => false
def isS : V → Bool
  | .str _ => true | _ => false
theorem Thing.isInt {K : PySem.W.Frag} {H : Hp} {x : V} (t : Thing H x) : ∃ n, TyX K H x (.type n) ∧ PySem.W.kitOne K (.type n) (.type "int") = some (isI x) := by
  cases t with
  | non => exact ⟨_, .base .non, kit_ty (r := false) (by decide +kernel)⟩
  | bl b => exact ⟨_, .base (.bl b), kit_ty (r := true) (by decide +kernel)⟩
  | int i => exact ⟨_, .base (.int i), kit_ty (r := true) (by decide +kernel)⟩
  | str z => exact ⟨_, .base (.str z), kit_ty (r := false) (by decide +kernel)⟩
  | lst h => exact ⟨_, .base (.lst h), kit_ty (r := false) (by decide +kernel)⟩
  | tup h => exact ⟨_, .base (.tup h), kit_ty (r := false) (by decide +kernel)⟩
  | dct h => exact ⟨_, .base (.dK h), kit_ty (r := false) (by decide +kernel)⟩
theorem Thing.isBool {K : PySem.W.Frag} {H : Hp} {x : V} (t : Thing H x) : ∃ n, TyX K H x (.type n) ∧ PySem.W.kitOne K (.type n) (.type "bool") = some (isB x) := by
  cases t with
  | non => exact ⟨_, .base .non, kit_ty (r := false) (by decide +kernel)⟩
  | bl b => exact ⟨_, .base (.bl b), kit_ty (r := true) (by decide +kernel)⟩
  | int i => exact ⟨_, .base (.int i), kit_ty (r := false) (by decide +kernel)⟩
  | str z => exact ⟨_, .base (.str z), kit_ty (r := false) (by decide +kernel)⟩
  | lst h => exact ⟨_, .base (.lst h), kit_ty (r := false) (by decide +kernel)⟩
  | tup h => exact ⟨_, .base (.tup h), kit_ty (r := false) (by decide +kernel)⟩
  | dct h => exact ⟨_, .base (.dK h), kit_ty (r := false) (by decide +kernel)⟩
theorem Thing.isStr {K : PySem.W.Frag} {H : Hp} {x : V} (t : Thing H x) : ∃ n, TyX K H x (.type n) ∧ PySem.W.kitOne K (.type n) (.type "str") = some (isS x) := by
  cases t with
  | non => exact ⟨_, .base .non, kit_ty (r := false) (by decide +kernel)⟩
  | bl b => exact ⟨_, .base (.bl b), kit_ty (r := false) (by decide +kernel)⟩
  | int i => exact ⟨_, .base (.int i), kit_ty (r := false) (by decide +kernel)⟩
  | str z => exact ⟨_, .base (.str z), kit_ty (r := true) (by decide +kernel)⟩
  | lst h => exact ⟨_, .base (.lst h), kit_ty (r := false) (by decide +kernel)⟩
  | tup h => exact ⟨_, .base (.tup h), kit_ty (r := false) (by decide +kernel)⟩
  | dct h => exact ⟨_, .base (.dK h), kit_ty (r := false) (by decide +kernel)⟩
theorem sok_tx (l : List Bool) : (tx l).cps.toList.all (fun c => decide (c < 1114112)) = true := by
  rw [tx_cps, List.all_map, List.all_eq_true]
  intro b _
  cases b <;> rfl
theorem thing_tx {H : Hp} {l : List Bool} (h : l.length ≤ 100000) : Thing H (.str (tx l)) := .str _ (by rw [tx_len]; exact h) (sok_tx l)
/-- a whole number from lo to hi -/
def isAmong (x : V) (lo hi : Int) : Bool := match x with
  | .int i => decide (lo ≤ i) && decide (i ≤ hi)
  | _ => false
/-- a text of so many bits -/
def isBits (x : V) (lo hi : Int) : Bool := match x with
  | .str z => decide (lo ≤ (z.length : Int)) && decide ((z.length : Int) ≤ hi) && z.cps.toList.all (fun c => decide (c = 48 ∨ c = 49))
  | _ => false
theorem bits_tx (l : List Bool) : (tx l).cps.toList.all (fun c => decide (c = 48 ∨ c = 49)) = true := by
  rw [tx_cps, List.all_map, List.all_eq_true]
  intro b _
  cases b <;> rfl
theorem isBits_tx (l : List Bool) (lo hi : Int) : isBits (.str (tx l)) lo hi = (decide (lo ≤ (l.length : Int)) && decide ((l.length : Int) ≤ hi)) := by
  show (decide (lo ≤ ((tx l).length : Int)) && decide (((tx l).length : Int) ≤ hi) && (tx l).cps.toList.all (fun c => decide (c = 48 ∨ c = 49))) = _
  rw [bits_tx, tx_len, Bool.and_true]
theorem bits_of {z : Str} (h : z.cps.toList.all (fun c => decide (c = 48 ∨ c = 49)) = true) : ∃ l, z = tx l := by
  refine ⟨z.cps.toList.map fun c => decide (c = 49), ?_⟩
  have e : (z.cps.toList.map fun c => decide (c = 49)).map bc = z.cps.toList := by
    rw [List.map_map]
    refine (List.map_congr_left fun c hc => ?_).trans (List.map_id _)
    have q := of_decide_eq_true (List.all_eq_true.mp h c hc)
    rcases q with q | q <;> subst q <;> rfl
  obtain ⟨a⟩ := z
  show (⟨a⟩ : Str) = ⟨_⟩
  rw [e]

/-! ### shifts of numbers that are not negative -/
section
variable {X : Cx}
theorem op_shl1 : OpR X (binaryOp .LShift) (fun x y H Q => ∃ n k : Nat, x = .int (n : Int) ∧ y = .int (k : Int) ∧ k ≤ 1000 ∧ n < 2 ^ 64 ∧ Q (.int ((n * 2 ^ k : Nat) : Int)) H) := by
  intro pins s σ H x y v u Q I rx ry h
  obtain ⟨n, k, rfl, rfl, hk, hn, q⟩ := h
  refine op_shl pins s σ H _ _ v u Q I rx ry ⟨_, _, rfl, rfl, ⟨by omega, by omega, by omega⟩, ?_⟩
  have e : ((n : Int) * 2 ^ (k : Int).toNat) = ((n * 2 ^ k : Nat) : Int) := by
    rw [Int.toNat_natCast, Int.natCast_mul, Int.natCast_pow]
    rfl
  show Q (.int ((n : Int) * 2 ^ (k : Int).toNat)) H
  rw [e]
  exact q
end
theorem pow_pos2 (k : Nat) : 0 < 2 ^ k := Nat.pow_pos (by decide)
theorem mul64 {n : Nat} {j : Int} (h : n < 2 ^ 64) : CMul (n : Int) j := .inl ⟨by omega, by omega⟩
theorem pow64 {l : List Bool} {v : Nat} (h : l.length ≤ v) (hv : v ≤ 64) : num l < 2 ^ 64 :=
  Nat.lt_of_lt_of_le (num_lt l) (Nat.pow_le_pow_right (by decide) (Nat.le_trans h hv))

/-! ### data that may be compared -/
def DOk (k : Nat) (d : PyData) : Prop := PyData.canLay0 d = true ∧ PyData.depth d ≤ k
theorem dok_none {k : Nat} : DOk k .none := ⟨by simp only [PyData.canLay0], by simp only [PyData.depth]; omega⟩
theorem dok_bool {k : Nat} (b : Bool) : DOk k (.bool b) := ⟨by simp only [PyData.canLay0], by simp only [PyData.depth]; omega⟩
theorem dok_int {k : Nat} (i : Int) : DOk k (.int i) := ⟨by simp only [PyData.canLay0], by simp only [PyData.depth]; omega⟩
theorem dok_str {k : Nat} {z : Str} (h : z.cps.toList.all (fun c => decide (c < 1114112)) = true) : DOk k (.str z) := ⟨by
  simp only [PyData.canLay0]
  show z.cps.all (fun c => decide (c < 0x110000)) = true
  rw [← Array.all_toList]
  exact h, by simp only [PyData.depth]; omega⟩
theorem canAll {ds : List PyData} (h : ∀ d ∈ ds, PyData.canLay0 d = true) : PyData.canLayAll0 ds = true := by
  induction ds with
  | nil => simp only [PyData.canLayAll0]
  | cons d ds ih => simp only [PyData.canLayAll0, h d List.mem_cons_self, ih fun x hx => h x (List.mem_cons_of_mem _ hx), Bool.and_self]
theorem depAll {ds : List PyData} {k : Nat} (h : ∀ d ∈ ds, PyData.depth d ≤ k) : PyData.depthAll ds ≤ k := by
  induction ds with
  | nil => simp only [PyData.depthAll]; omega
  | cons d ds ih =>
    have h1 := h d List.mem_cons_self
    have h2 := ih fun x hx => h x (List.mem_cons_of_mem _ hx)
    simp only [PyData.depthAll]
    omega
theorem dok_list {k : Nat} {ds : List PyData} (h : ∀ d ∈ ds, DOk k d) : DOk (k + 1) (.list ds) :=
  ⟨by simp only [PyData.canLay0]; exact canAll fun d hd => (h d hd).1, by have := depAll fun d hd => (h d hd).2; simp only [PyData.depth]; omega⟩
theorem dok_tup {k : Nat} {ds : List PyData} (h : ∀ d ∈ ds, DOk k d) : DOk (k + 1) (.tuple ds) :=
  ⟨by simp only [PyData.canLay0]; exact canAll fun d hd => (h d hd).1, by have := depAll fun d hd => (h d hd).2; simp only [PyData.depth]; omega⟩
theorem DOk.shaped {k : Nat} {d : PyData} (h : DOk k d) (hk : k ≤ 64 := by decide) : SeqAt.shaped d = true := by
  show (PyData.canLay0 d && decide (PyData.depth d ≤ 64)) = true
  rw [h.1, decide_eq_true (Nat.le_trans h.2 hk)]
  rfl
theorem eqv_nil (ds : List PyData) : PyData.eqv (.list ds) (.list []) = ds.isEmpty := by cases ds <;> simp [PyData.eqv, PyData.eqvAll]

/-! ### heaps -/
theorem Same_upd {H H' : Hp} {p : Addr} {o : HO} (s : Same H H') (h : H' p = none) : Same H (upd H' p o) := fun b u e => by
  rw [upd_ne (ne_of_none (s _ _ e) h)]
  exact s _ _ e
/-- an object made since may change -/
theorem Same_mut {H H' : Hp} {p : Addr} {o : HO} (s : Same H H') (h : H p = none) : Same H (upd H' p o) := fun b u e => by
  rw [upd_ne (ne_of_none e h)]
  exact s _ _ e
theorem Same_t {H H1 H2 : Hp} (a : Same H H1) (b : Same H1 H2) : Same H H2 := fun c o h => b c o (a c o h)

/-! ### comprehensions whose turns leave the heap but for what they make: F i is the list behind i turns -/
def PvF (H1 : Hp) (D : Addr) (F : Nat → List V) (i : Nat) (H : Hp) : Prop := Same H1 H ∧ H D = some (.lst (F i))
section
variable {H1 H : Hp} {D : Addr} {F : Nat → List V} {i : Nat} {y : V}
theorem pv0 (hD : H1 D = none) (hF : F 0 = [] := by rfl) : PvF H1 D F 0 (upd H1 D (.lst [])) := ⟨Same_upd (Same.refl H1) hD, by rw [hF]; exact upd_same⟩
theorem pv_in (hD : H1 D = none) (s : Same H1 H) (h : H D = some (.lst (F i))) (hl : (F i).length < 100000) (e : F (i + 1) = F i ++ [y]) :
    ∃ acc, H D = some (.lst acc) ∧ acc.length < sizeLine ∧ PvF H1 D F (i + 1) (upd H D (.lst (acc ++ [y]))) :=
  ⟨_, h, Nat.lt_trans hl (by decide), Same_mut s hD, by rw [e]; exact upd_same⟩
theorem pv_out (s : Same H1 H) (h : H D = some (.lst (F i))) (e : F (i + 1) = F i) : PvF H1 D F (i + 1) H := ⟨s, by rw [e]; exact h⟩
end
/-- a comprehension without a test -/
theorem yesI {A B : Hp → Prop} {σ : L2.St} {H : Hp} (h : A H) : tYes σ H (fun b H3 => if b = true then A H3 else B H3) := iteT (B := B H) h
/-- the first i of a list -/
theorem take_snoc {α : Type} {l : List α} {i : Nat} {x : α} (h : l[i]? = some x) : l.take (i + 1) = l.take i ++ [x] := by
  rw [List.take_add_one, h]
  rfl
end Br

/-! Rules that the hand layer lacks: list(text), text * int, dict != {}. -/
namespace Br
open PySem PySem.Spec PyProof.Rows L2
section
variable {X : Cx}
/-- list(text): its signs -/
theorem call_list_str (hc : X.calm = true) : CallR X (.type "list") (fun xs H Q => ∃ z, xs = [.str z] ∧ z.length ≤ 100000 ∧ ∀ q, H q = none → Q (.ref q) (upd H q (.lst (z.cps.toList.map fun c => V.str ⟨#[c]⟩)))) := by
  intro pins s σ H xs us Q I r h
  obtain ⟨z, rfl, hz, q⟩ := h
  obtain ⟨u, rfl, rx⟩ := vals1 r
  obtain ⟨t, rfl⟩ := rx
  have hz' : z.cps.size ≤ 100000 := hz
  refine PySem.call_list_str (I.ok.hd hc) z t (fun h' tk acc' c' hkeep hS hacc => ?_) (Nat.le_trans hz' (by decide))
  refine ⟨.ref s.heap.objs.size, upd H s.heap.objs.size (.lst (z.cps.toList.map fun c => V.str ⟨#[c]⟩)), I.laid hkeep (Nat.le_refl _) (show ObjOk X.prog X.w _ _ _ (.lst _) from ⟨?_, acc'.toList, c', ?_, ?_⟩), rfl, q _ (I.hok.fresh (Nat.le_refl _))⟩
  · rw [List.length_map, Array.length_toList]
    exact Nat.le_trans hz' (by decide)
  · refine vals_of_at (by rw [List.length_map, Array.length_toList, Array.length_toList, hacc.1]) fun j x w h1 h2 => ?_
    obtain ⟨c, u, hc2, e⟩ := hacc.2 j w (by rw [← Array.getElem?_toList]; exact h2)
    have e2 : z.cps.toList[j]? = some c := by rw [Array.getElem?_toList]; exact hc2
    rw [List.getElem?_map, e2] at h1
    cases h1
    exact ⟨u, e⟩
  · rw [Array.toArray_toList]
    exact hS
/-- a text a small number of times -/
theorem op_mul_si : OpR X (binaryOp .Mult) (fun x y H Q => ∃ (z : Str) (n : Int), x = .str z ∧ y = .int n ∧ z.length ≤ 1000 ∧ 0 ≤ n ∧ n ≤ 1000 ∧ Q (.str (Txt.mul z n)) H) := by
  intro pins s σ H x y v u Q I rx ry h
  obtain ⟨z, n, rfl, rfl, hz, h0, hn, q⟩ := h
  obtain ⟨t, rfl⟩ := rx
  obtain ⟨t', rfl⟩ := ry
  refine SB.mul ⟨?_, fun h1 _ => ?_, fun h1 _ => ?_⟩ fun t' k => ⟨.str (Txt.mul z n), H, I.tok _, ⟨_, rfl⟩, q⟩
  · rw [Bool.or_eq_false_iff]
    exact ⟨decide_eq_false (by omega), decide_eq_false (by omega)⟩
  · have a : n * (9223372036854775 : Int) ≤ 2 ^ 63 - 1 := by omega
    have : (9223372036854775 : Int) ≤ (2 ^ 63 - 1) / n := Int.le_ediv_of_mul_le (by omega) (by rw [Int.mul_comm]; exact a)
    omega
  · have e : z.length * n.toNat ≤ 1000 * 1000 := Nat.mul_le_mul hz (by omega)
    unfold Builtin.Str.tooLong
    rw [decide_eq_false_iff_not]
    have : 1000 * 1000 ≤ sizeLine := by decide
    omega
/-- rows != {} -/
theorem op_ne_d (hu : X.A.units + 1 < cLine) : OpR X (compareOp .NotEq) (fun x y H Q => ∃ a b ks, x = .ref a ∧ y = .ref b ∧ H a = some (.dK ks) ∧ H b = some (.dK []) ∧ Q (.bl (!ks.isEmpty)) H) := by
  intro pins s σ H x y v u Q I rx ry h
  obtain ⟨a, b, ks, rfl, rfl, ea, eb, q⟩ := h
  obtain rfl : v = Value.ref a := rx
  obtain rfl : u = Value.ref b := ry
  obtain ⟨_, ya, va, ra, da⟩ := (show ObjOk X.prog X.w H s.heap a (.dK ks) from I.hok a _ ea)
  obtain ⟨_, yb, vb, rb, db⟩ := (show ObjOk X.prog X.w H s.heap b (.dK []) from I.hok b _ eb)
  cases rb
  cases ks with
  | nil =>
    cases ra
    exact PySem.W.keq_ne (knd := mixKind X.prog X.w) (r := true) ya yb da db (by omega) (fun _ => .nil) (fin_bl I q rfl)
  | cons p ks =>
    cases ra with
    | cons h t => exact PySem.W.keq_ne (knd := mixKind X.prog X.w) (r := true) ya yb da db (by omega) (fun e => nomatch e) (fin_bl I q rfl)
end
end Br

/-! The fewest spans of a stretch: greedy from the left, and by halves. -/
namespace Br
/-- the greedy starts from f to l -/
inductive Gr (l w : Nat) : Nat → List (List Bool) → Prop
  | nil {f : Nat} : l < f → Gr l w f []
  | cons {f k : Nat} {ss : List (List Bool)} : f ≤ l → f % 2 ^ k = 0 → f + 2 ^ k ≤ l + 1 → ¬ (f % 2 ^ (k + 1) = 0 ∧ f + 2 ^ (k + 1) ≤ l + 1) → k ≤ w → Gr l w (f + 2 ^ k) ss → Gr l w f (word (f / 2 ^ k) (w - k) :: ss)
theorem pow_lt_of {k w l : Nat} (h : 2 ^ k ≤ l + 1) (hl : l < 2 ^ w) : k ≤ w := by
  rcases Nat.lt_or_ge w k with h1 | h1
  · have : 2 ^ (w + 1) ≤ 2 ^ k := Nat.pow_le_pow_right (by decide) h1
    rw [Nat.pow_succ] at this
    have := pow_pos2 w
    omega
  · exact h1
/-- how many spans of a block of 2 ^ k numbers from b on are needed for what of f .. l lies in it -/
def hv (f l : Nat) : Nat → Nat → Nat
  | b, 0 => if b + 1 ≤ f ∨ l < b then 0 else 1
  | b, k + 1 => if b + 2 ^ (k + 1) ≤ f ∨ l < b then 0 else if f ≤ b ∧ b + 2 ^ (k + 1) ≤ l + 1 then 1 else hv f l b k + hv f l (b + 2 ^ k) k
theorem hv_left {f l : Nat} : ∀ {k b : Nat}, b + 2 ^ k ≤ f → hv f l b k = 0
  | 0, b, h => by unfold hv; rw [if_pos (.inl (by simpa using h))]
  | k + 1, b, h => by unfold hv; rw [if_pos (.inl h)]
theorem hv_right {f l : Nat} : ∀ {k b : Nat}, l < b → hv f l b k = 0
  | 0, b, h => by unfold hv; rw [if_pos (.inr h)]
  | k + 1, b, h => by unfold hv; rw [if_pos (.inr h)]
theorem hv_empty {f l : Nat} (h : l < f) : ∀ {k b : Nat}, hv f l b k = 0
  | 0, b => by unfold hv; rw [if_pos (by omega)]
  | k + 1, b => by
    have p := pow_pos2 (k + 1)
    unfold hv
    split
    · rfl
    · rw [if_neg (by omega), hv_empty h, hv_empty h]
theorem hv_free {f g l : Nat} : ∀ {k b : Nat}, f ≤ b → g ≤ b → hv f l b k = hv g l b k
  | 0, b, h1, h2 => by
    unfold hv
    have e : (b + 1 ≤ f ∨ l < b) ↔ (b + 1 ≤ g ∨ l < b) := by omega
    simp only [e]
  | k + 1, b, h1, h2 => by
    have p := pow_pos2 (k + 1)
    have e1 : (b + 2 ^ (k + 1) ≤ f ∨ l < b) ↔ (b + 2 ^ (k + 1) ≤ g ∨ l < b) := by omega
    have e2 : (f ≤ b ∧ b + 2 ^ (k + 1) ≤ l + 1) ↔ (g ≤ b ∧ b + 2 ^ (k + 1) ≤ l + 1) := by omega
    unfold hv
    simp only [e1, e2]
    rw [hv_free (f := f) (g := g) h1 h2, hv_free (f := f) (g := g) (b := b + 2 ^ k) (by omega) (by omega)]
theorem mod_of_le {f j k : Nat} (h : j ≤ k) (hf : f % 2 ^ k = 0) : f % 2 ^ j = 0 := by
  have d : 2 ^ j ∣ 2 ^ k := Nat.pow_dvd_pow 2 h
  exact Nat.mod_eq_zero_of_dvd (Nat.dvd_trans d (Nat.dvd_of_mod_eq_zero hf))
/-- a piece that is not longer than a block, and begins in it, ends in it -/
theorem in_block {f b j k : Nat} (h : j ≤ k) (hf : f % 2 ^ j = 0) (hb : b % 2 ^ k = 0) (h2 : f < b + 2 ^ k) : f + 2 ^ j ≤ b + 2 ^ k := by
  have e : (b + 2 ^ k) % 2 ^ j = 0 := by
    have d1 : 2 ^ j ∣ b := Nat.dvd_of_mod_eq_zero (mod_of_le h hb)
    have d2 : 2 ^ j ∣ 2 ^ k := Nat.pow_dvd_pow 2 h
    exact Nat.mod_eq_zero_of_dvd (Nat.dvd_add d1 d2)
  have d : 2 ^ j ∣ b + 2 ^ k - f := Nat.dvd_sub (Nat.dvd_of_mod_eq_zero e) (Nat.dvd_of_mod_eq_zero hf)
  have := Nat.le_of_dvd (by omega) d
  omega
theorem hv_step {f l j : Nat} (hl : f ≤ l) (hj : f % 2 ^ j = 0) (hj2 : f + 2 ^ j ≤ l + 1) (hm : ¬ (f % 2 ^ (j + 1) = 0 ∧ f + 2 ^ (j + 1) ≤ l + 1)) :
    ∀ {k b : Nat}, b % 2 ^ k = 0 → b ≤ f → f < b + 2 ^ k → j ≤ k → hv f l b k = 1 + hv (f + 2 ^ j) l b k
  | 0, b, hb, h1, h2, h3 => by
    have : j = 0 := by omega
    subst this
    have : b = f := by simp at h2; omega
    subst this
    unfold hv
    rw [if_neg (by omega), if_pos (by simp)]
  | k + 1, b, hb, h1, h2, h3 => by
    have pj := pow_pos2 j
    have pk := pow_pos2 k
    have e2 : 2 ^ (k + 1) = 2 * 2 ^ k := by rw [Nat.pow_succ, Nat.mul_comm]
    by_cases full : f = b ∧ b + 2 ^ (k + 1) ≤ l + 1
    · obtain ⟨rfl, full⟩ := full
      have ej : j = k + 1 := by
        rcases Nat.lt_or_ge j (k + 1) with h | h
        · have h4 : 2 ^ (j + 1) ≤ 2 ^ (k + 1) := Nat.pow_le_pow_right (by decide) h
          exact absurd ⟨mod_of_le h hb, by omega⟩ hm
        · omega
      subst ej
      rw [hv_left (f := f + 2 ^ (k + 1)) (Nat.le_refl _)]
      unfold hv
      rw [if_neg (by omega), if_pos ⟨Nat.le_refl _, full⟩]
    · have hjk : j ≤ k := by
        rcases Nat.lt_or_ge k j with h | h
        · have ej : j = k + 1 := by omega
          subst ej
          refine absurd ⟨?_, ?_⟩ full
          · have d1 := Nat.dvd_of_mod_eq_zero hj
            have d2 := Nat.dvd_of_mod_eq_zero hb
            have d := Nat.dvd_sub d1 d2
            rcases Nat.eq_zero_or_pos (f - b) with z | z
            · omega
            · have := Nat.le_of_dvd z d
              omega
          · have d1 := Nat.dvd_of_mod_eq_zero hj
            have d2 := Nat.dvd_of_mod_eq_zero hb
            have d := Nat.dvd_sub d1 d2
            rcases Nat.eq_zero_or_pos (f - b) with z | z
            · omega
            · have := Nat.le_of_dvd z d
              omega
        · exact h
      have hbk : b % 2 ^ k = 0 := mod_of_le (Nat.le_succ k) hb
      have hbk2 : (b + 2 ^ k) % 2 ^ k = 0 := by rw [Nat.add_mod_right]; exact hbk
      have el : hv f l b (k + 1) = hv f l b k + hv f l (b + 2 ^ k) k := by
        conv => lhs; unfold hv
        rw [if_neg (by omega), if_neg (by omega)]
      rw [el]
      rcases Nat.lt_or_ge f (b + 2 ^ k) with hf | hf
      · have hb3 := in_block hjk hj hbk hf
        have er : hv (f + 2 ^ j) l b (k + 1) = hv (f + 2 ^ j) l b k + hv (f + 2 ^ j) l (b + 2 ^ k) k := by
          conv => lhs; unfold hv
          rw [if_neg (by omega), if_neg (by omega)]
        rw [er, hv_step hl hj hj2 hm hbk h1 hf hjk, hv_free (f := f) (g := f + 2 ^ j) (b := b + 2 ^ k) (by omega) hb3, Nat.add_assoc]
      · have hb3 := in_block hjk hj hbk2 (by omega)
        rw [hv_left (f := f) (b := b) hf, Nat.zero_add, hv_step hl hj hj2 hm hbk2 hf (by omega) hjk]
        rcases Nat.lt_or_ge (f + 2 ^ j) (b + 2 ^ (k + 1)) with h5 | h5
        · have er : hv (f + 2 ^ j) l b (k + 1) = hv (f + 2 ^ j) l b k + hv (f + 2 ^ j) l (b + 2 ^ k) k := by
            conv => lhs; unfold hv
            rw [if_neg (by omega), if_neg (by omega)]
          rw [er, hv_left (f := f + 2 ^ j) (b := b) (by omega), Nat.zero_add]
        · rw [hv_left (f := f + 2 ^ j) (k := k + 1) h5, hv_left (f := f + 2 ^ j) (b := b + 2 ^ k) (k := k) (by omega)]
theorem gr_len {l w : Nat} (hl : l < 2 ^ w) : ∀ {f : Nat} {ss : List (List Bool)}, Gr l w f ss → ss.length = hv f l 0 w := by
  intro f ss g
  induction g with
  | nil h => rw [hv_empty h]; rfl
  | cons h1 h2 h3 h4 h5 g ih => rw [List.length_cons, ih, hv_step h1 h2 h3 h4 (Nat.zero_mod _) (Nat.zero_le _) (by omega) h5, Nat.add_comm]
theorem hv_a {f l : Nat} : ∀ {k b : Nat}, f ≤ b → hv f l b k ≤ k + 1
  | 0, b, h => by unfold hv; split <;> omega
  | k + 1, b, h => by
    have pk := pow_pos2 k
    have e2 : 2 ^ (k + 1) = 2 * 2 ^ k := by rw [Nat.pow_succ, Nat.mul_comm]
    unfold hv
    split
    · omega
    · split
      · omega
      · rcases Nat.lt_or_ge l (b + 2 ^ k) with h1 | h1
        · rw [hv_right h1]
          have := hv_a (l := l) (k := k) h
          omega
        · have h2 := hv_a (f := f) (l := l) (k := k) (b := b + 2 ^ k) (by omega)
          have h3 : hv f l b k ≤ 1 := by
            cases k with
            | zero => unfold hv; split <;> omega
            | succ k => unfold hv; split
                        · omega
                        · rw [if_pos ⟨h, by omega⟩]; omega
          omega
theorem hv_b {f l : Nat} : ∀ {k b : Nat}, b + 2 ^ k ≤ l + 1 → hv f l b k ≤ k + 1
  | 0, b, h => by unfold hv; split <;> omega
  | k + 1, b, h => by
    have pk := pow_pos2 k
    have e2 : 2 ^ (k + 1) = 2 * 2 ^ k := by rw [Nat.pow_succ, Nat.mul_comm]
    unfold hv
    split
    · omega
    · split
      · omega
      · rcases Nat.lt_or_ge f (b + 2 ^ k) with h1 | h1
        · have h2 := hv_b (f := f) (l := l) (k := k) (b := b) (by omega)
          have h3 : hv f l (b + 2 ^ k) k ≤ 1 := by
            cases k with
            | zero => unfold hv; split <;> omega
            | succ k => unfold hv; split
                        · omega
                        · rw [if_pos ⟨by omega, by omega⟩]; omega
          omega
        · rw [hv_left h1]
          have := hv_b (f := f) (l := l) (k := k) (b := b + 2 ^ k) (by omega)
          omega
theorem hv_le {f l : Nat} : ∀ {k b : Nat}, hv f l b k ≤ 2 * k + 2
  | 0, b => by unfold hv; split <;> omega
  | k + 1, b => by
    unfold hv
    split
    · omega
    · split
      · omega
      · rcases Nat.lt_or_ge l (b + 2 ^ k) with h1 | h1
        · rw [hv_right h1]
          have := hv_le (f := f) (l := l) (k := k) (b := b)
          omega
        · rcases Nat.lt_or_ge f (b + 2 ^ k) with h2 | h2
          · have h3 := hv_b (f := f) (l := l) (k := k) (b := b) (by omega)
            have h4 := hv_a (f := f) (l := l) (k := k) (b := b + 2 ^ k) (by omega)
            omega
          · rw [hv_left h2]
            have := hv_le (f := f) (l := l) (k := k) (b := b + 2 ^ k)
            omega
theorem gr_ex {l w : Nat} (hl : l < 2 ^ w) : ∀ (n f : Nat), l + 1 - f ≤ n → ∃ ss, Gr l w f ss
  | 0, f, h => ⟨[], .nil (by omega)⟩
  | n + 1, f, h => by
    rcases Nat.lt_or_ge l f with h1 | h1
    · exact ⟨[], .nil h1⟩
    · have : ∀ (m k : Nat), w - k ≤ m → f % 2 ^ k = 0 → f + 2 ^ k ≤ l + 1 → ∃ j, f % 2 ^ j = 0 ∧ f + 2 ^ j ≤ l + 1 ∧ ¬ (f % 2 ^ (j + 1) = 0 ∧ f + 2 ^ (j + 1) ≤ l + 1) := by
        intro m
        induction m with
        | zero =>
          intro k hk a b
          refine ⟨k, a, b, fun z => ?_⟩
          have := pow_lt_of (k := k + 1) (l := l) (w := w) (by omega) hl
          omega
        | succ m ih =>
          intro k hk a b
          by_cases z : f % 2 ^ (k + 1) = 0 ∧ f + 2 ^ (k + 1) ≤ l + 1
          · exact ih (k + 1) (by omega) z.1 z.2
          · exact ⟨k, a, b, z⟩
      obtain ⟨j, a, b, c⟩ := this w 0 (Nat.le_refl _) (by simp [Nat.mod_one]) (by omega)
      have pj := pow_pos2 j
      obtain ⟨ss, g⟩ := gr_ex hl n (f + 2 ^ j) (by omega)
      exact ⟨_, .cons h1 a b c (pow_lt_of (l := l) (by omega) hl) g⟩
end Br

/-! bitroads.words -/
namespace Br
open PySem PySem.Spec PyProof.Rows L2
open C8 (Cal Met Mak cal0 met0 mak0 pe_c pe_mk pe_mt pe_mt0 pe_gc Def)
def top (i : Nat) : Stmt := PySem.Challenge.pw_bitroads_k01_words_and_spans.main.body.getD i (.Pass ⟨0, 0, 0, 0⟩)
/-- the built-ins are not shadowed; the module's constants -/
structure Glob (mg : Str → Option Value) : Prop where
  g_isinstance : mg "isinstance" = none
  g_len : mg "len" = none
  g_int : mg "int" = none
  g_bool : mg "bool" = none
  g_str : mg "str" = none
  g_list : mg "list" = none
  g_tuple : mg "tuple" = none
  g_dict : mg "dict" = none
  g_set : mg "set" = none
  g_range : mg "range" = none
  g_enumerate : mg "enumerate" = none
  g_sorted : mg "sorted" = none
  g_any : mg "any" = none
  g_all : mg "all" = none
  g_sum : mg "sum" = none
  g_min : mg "min" = none
  g_max : mg "max" = none
  g_MOST_WIDTH : ∃ u, mg "MOST_WIDTH" = some u ∧ RelV (.int 64) u
  g_MOST_ROAD : ∃ u, mg "MOST_ROAD" = some u ∧ RelV (.int 18446744073709551615) u
  g_BITS : ∃ u, mg "BITS" = some u ∧ RelV (.str (tx [false, true])) u
/-- a def of the text with all parameters given -/
structure Dn (K : PySem.W.Frag) (mg : Str → Option Value) (x : Str) (st : Stmt) (ps : List Str) : Prop where
  ex : ∃ (f : Addr) (fd : FuncData), Def K mg x st f fd ∧ Binds K fd ps []
section
variable {P : Program} {w : World} {K : PySem.W.Frag} {mg : Str → Option Value} {base : Heap}
theorem Dn.cal {x : Str} {st : Stmt} {N ps : List Str} {k : Nat} {sp : Sp} (D : Dn K mg x st ps) (S : FnScope N ps (C8.fnScope st)) (len : ∀ vs H Q E, sp vs H Q E → vs.length = ps.length)
    (hbody : ∀ (f : Addr) (cdv : Value) (A : Around) (outer : List Env) (s : Shared) (H : Hp) (vs : List V) (Q : VK) (E : XK), Room k (A.deeper (envOfC x (C8.fnScope st) s.heap.objs.size f cdv)) → sp vs H Q E →
      ∃ t, PSs (cxOf C8.CX0 P w K mg base N x (C8.fnScope st) f cdv A outer s H E).nox (C8.fnBody st) t ∧ t { nx := fun _ H' => Q .non H', rt := Q } (start N vs) H) : Cal P w K mg base (k + 1) x sp [] := by
  obtain ⟨f, fd, D, b⟩ := D.ex
  exact cal0 D b .nil S len fun cdv A outer s H vs Q E hr h => hbody f cdv A outer s H vs Q E hr h

/-! ### is_among, is_width, is_road -/
abbrev s_is_among : Stmt := top 4
abbrev n_is_among : List Str := ["thing", "least", "most"]
theorem sc_is_among : FnScope n_is_among ["thing", "least", "most"] (C8.fnScope s_is_among) := ⟨rfl, rfl, rfl, by decide +kernel, rfl, by decide +kernel, by decide +kernel⟩
def spAmong : Sp := fun vs H Q _ => ∃ x lo hi, vs = [x, .int lo, .int hi] ∧ Thing H x ∧ Q (.bl (isAmong x lo hi)) H
theorem c_is_among (T : Glob mg) (D : Dn K mg "is_among" s_is_among ["thing", "least", "most"]) : Cal P w K mg base 1 "is_among" spAmong [] := by
  refine D.cal sc_is_among (fun vs H Q E h => ?_) (fun f cdv A outer s H vs Q E hr h => ?_)
  · obtain ⟨x, lo, hi, rfl, _⟩ := h
    rfl
  · obtain ⟨x, lo, hi, rfl, ht, k⟩ := h
    refine ⟨_, (pss_one (ps_ret (pe_and (pe_callB call_isi (by rfl) T.g_isinstance (by decide +kernel) (pa_cons (pv 0) (pa_cons (pe_bltn (v := .ty "int") (by rfl) T.g_int boot_int rfl) pa_nil))) (pe_and (pe_not (pe_callB call_isi (by rfl) T.g_isinstance (by decide +kernel) (pa_cons (pv 0) (pa_cons (pe_bltn (v := .ty "bool") (by rfl) T.g_bool boot_bool rfl) pa_nil)))) (pe_one (pe_chain op_le op_le (pv 1) (pv 0) (pv 2))))))), ?_⟩
    obtain ⟨n1, t1, k1⟩ := ht.isInt (K := K)
    obtain ⟨n2, t2, k2⟩ := ht.isBool (K := K)
    refine ⟨_, rfl, _, _, _, _, _, rfl, .ty _, t1, k1, _, rfl, ?_⟩
    cases x with
    | int i =>
      refine iteT ?_
      refine ⟨_, rfl, _, _, _, _, _, rfl, .ty _, t2, k2, _, rfl, _, rfl, ?_⟩
      refine iteT ?_
      refine ⟨_, rfl, _, rfl, _, _, rfl, rfl, _, rfl, ?_⟩
      refine ite2 (fun c => ?_) fun c => ?_
      · refine ⟨_, rfl, _, _, rfl, rfl, ?_⟩
        have e : isAmong (.int i) lo hi = decide (i ≤ hi) := by
          show (decide (lo ≤ i) && decide (i ≤ hi)) = _
          rw [c, Bool.true_and]
        rw [e] at k
        exact k
      · have e : isAmong (.int i) lo hi = false := by
          show (decide (lo ≤ i) && decide (i ≤ hi)) = _
          rw [Bool.eq_false_iff.mpr c, Bool.false_and]
        rw [e] at k
        exact k
    | bl b =>
      refine iteT ?_
      refine ⟨_, rfl, _, _, _, _, _, rfl, .ty _, t2, k2, _, rfl, _, rfl, ?_⟩
      exact iteF k
    | _ => exact iteF k
abbrev s_is_width : Stmt := top 5
abbrev n_is_width : List Str := ["thing"]
theorem sc_is_width : FnScope n_is_width ["thing"] (C8.fnScope s_is_width) := ⟨rfl, rfl, rfl, by decide +kernel, rfl, by decide +kernel, by decide +kernel⟩
def spWidth : Sp := fun vs H Q _ => ∃ x, vs = [x] ∧ Thing H x ∧ Q (.bl (isAmong x 1 64)) H
theorem c_is_width (T : Glob mg) (D : Dn K mg "is_width" s_is_width ["thing"]) (c_is_among : Cal P w K mg base 1 "is_among" spAmong []) : Cal P w K mg base 2 "is_width" spWidth [] := by
  refine D.cal sc_is_width (fun vs H Q E h => ?_) (fun f cdv A outer s H vs Q E hr h => ?_)
  · obtain ⟨x, rfl, _⟩ := h
    rfl
  · obtain ⟨x, rfl, ht, k⟩ := h
    exact ⟨_, (pss_one (ps_ret (pe_c c_is_among hr (by first | decide | omega) rfl (pa_cons (pv 0) (pa_cons pe_int (pa_cons (pe_gc rfl T.g_MOST_WIDTH) pa_nil)))))), _, rfl, _, _, _, rfl, ht, k⟩
abbrev s_is_road : Stmt := top 6
abbrev n_is_road : List Str := ["thing"]
theorem sc_is_road : FnScope n_is_road ["thing"] (C8.fnScope s_is_road) := ⟨rfl, rfl, rfl, by decide +kernel, rfl, by decide +kernel, by decide +kernel⟩
def spRoad : Sp := fun vs H Q _ => ∃ x, vs = [x] ∧ Thing H x ∧ Q (.bl (isAmong x 0 18446744073709551615)) H
theorem c_is_road (T : Glob mg) (D : Dn K mg "is_road" s_is_road ["thing"]) (c_is_among : Cal P w K mg base 1 "is_among" spAmong []) : Cal P w K mg base 2 "is_road" spRoad [] := by
  refine D.cal sc_is_road (fun vs H Q E h => ?_) (fun f cdv A outer s H vs Q E hr h => ?_)
  · obtain ⟨x, rfl, _⟩ := h
    rfl
  · obtain ⟨x, rfl, ht, k⟩ := h
    exact ⟨_, (pss_one (ps_ret (pe_c c_is_among hr (by first | decide | omega) rfl (pa_cons (pv 0) (pa_cons pe_int (pa_cons (pe_gc rfl T.g_MOST_ROAD) pa_nil)))))), _, rfl, _, _, _, rfl, ht, k⟩
/-! ### is_bits, is_word, is_start -/
abbrev s_is_bits : Stmt := top 7
abbrev n_is_bits : List Str := ["thing", "least", "most", "sign"]
theorem sc_is_bits : FnScope n_is_bits ["thing", "least", "most"] (C8.fnScope s_is_bits) := ⟨rfl, rfl, rfl, by decide +kernel, rfl, by decide +kernel, by decide +kernel⟩
def spBits : Sp := fun vs H Q _ => ∃ x lo hi, vs = [x, .int lo, .int hi] ∧ Thing H x ∧ ∀ H', Same H H' → Q (.bl (isBits x lo hi)) H'
theorem c_is_bits (T : Glob mg) (D : Dn K mg "is_bits" s_is_bits ["thing", "least", "most"]) : Cal P w K mg base 1 "is_bits" spBits [] := by
  refine D.cal sc_is_bits (fun vs H Q E h => ?_) (fun f cdv A outer s H vs Q E hr h => ?_)
  · obtain ⟨x, lo, hi, rfl, _⟩ := h
    rfl
  · obtain ⟨x, lo, hi, rfl, ht, k⟩ := h
    refine ⟨_, (pss_one (ps_ret (pe_and (pe_callB call_isi (by rfl) T.g_isinstance (by decide +kernel) (pa_cons (pv 0) (pa_cons (pe_bltn (v := .ty "str") (by rfl) T.g_str boot_str rfl) pa_nil))) (pe_and (pe_chain op_le op_le (pv 1) (pe_callB call_len_str (by rfl) T.g_len boot_len (pa_cons (pv 0) pa_nil)) (pv 2)) (pe_one (pe_callB (cr_all rfl) (by rfl) T.g_all (by decide +kernel) (pa_cons (pe_lc (own := [("sign", 3)]) (g := (gName 3)) (tt := tYes) rfl sc_is_bits.nd (pi_str (pv 0)) (blkOk_by (own := [("sign", 3)]) (N := n_is_bits) (sc := C8.fnScope s_is_bits) (by decide +kernel)) (fun _ _ _ _ _ => (pg_name (i := 3) sc_is_bits.nd rfl (by first | exact Or.inl rfl | exact Or.inr rfl))) (fun _ _ _ _ _ => pts_nil) (fun _ _ _ _ _ => (pe_cmpR op_in_sign (pv 3) (pe_gc rfl T.g_BITS) (by rfl)))) pa_nil))))))), ?_⟩
    obtain ⟨n1, t1, k1⟩ := ht.isStr (K := K)
    refine ⟨_, rfl, _, _, _, _, _, rfl, .ty _, t1, k1, _, rfl, ?_⟩
    cases x with
    | str z =>
      have hz : z.length ≤ 100000 := by cases ht; assumption
      refine iteT ?_
      refine ⟨_, rfl, _, rfl, _, rfl, Nat.le_trans hz (by decide), _, _, rfl, rfl, _, rfl, ?_⟩
      refine ite2 (fun c => ?_) fun c => ?_
      · refine ⟨_, rfl, _, _, rfl, rfl, _, rfl, ?_⟩
        refine ite2 (fun c2 => ?_) fun c2 => ?_
        · refine ⟨_, rfl, _, rfl, fun D hD => ?_⟩
          refine lc_it walk_str (PvF H D fun i => (z.cps.toList.take i).map fun c => V.bl (decide (c = 48 ∨ c = 49))) (pv0 hD) (fun _ _ _ _ => trivial) ?_ ?_
          · rintro i x H1 H2 hi ⟨s1, h1⟩ ⟨rfl, c, hc, rfl⟩
            refine ⟨rfl, yesI ?_⟩
            refine ⟨_, rfl, _, _, rfl, rfl, ?_⟩
            have hc' : z.cps.toList[i]? = some c := by simpa using hc
            refine pv_in hD s1 h1 ?_ ?_
            · simp only [List.length_map, List.length_take]
              have : i < z.cps.size := hi
              have : z.length = z.cps.size := rfl
              omega
            · show ((z.cps.toList.take (i + 1)).map _) = _
              rw [take_snoc hc', List.map_append]
              congr 1
              show [V.bl _] = [V.bl _]
              congr 2
              rw [tx_cps]
              simp [bc, or_comm]
          · rintro H1 ⟨s1, h1⟩
            refine ⟨_, z.cps.toList.map (fun c => decide (c = 48 ∨ c = 49)), rfl, SqL.of ?_, ?_⟩
            · rw [h1]
              show some (HO.lst ((z.cps.toList.take z.cps.size).map _)) = _
              rw [take_cps, List.map_map]
              rfl
            · have e : isBits (.str z) lo hi = (z.cps.toList.map (fun c => decide (c = 48 ∨ c = 49))).all id := by
                show (decide (lo ≤ (z.length : Int)) && decide ((z.length : Int) ≤ hi) && _) = _
                rw [c, c2, List.all_map]
                rfl
              rw [e] at k
              exact k H1 s1
        · have e : isBits (.str z) lo hi = false := by
            show (decide (lo ≤ (z.length : Int)) && decide ((z.length : Int) ≤ hi) && _) = _
            rw [Bool.eq_false_iff.mpr c2, Bool.and_false, Bool.false_and]
          rw [e] at k
          exact k H (Same.refl H)
      · have e : isBits (.str z) lo hi = false := by
          show (decide (lo ≤ (z.length : Int)) && decide ((z.length : Int) ≤ hi) && _) = _
          rw [Bool.eq_false_iff.mpr c, Bool.false_and, Bool.false_and]
        rw [e] at k
        refine ⟨_, rfl, iteF ?_⟩
        exact k H (Same.refl H)
    | _ => exact iteF (k H (Same.refl H))
abbrev s_is_word : Stmt := top 8
abbrev n_is_word : List Str := ["width", "thing"]
theorem sc_is_word : FnScope n_is_word ["width", "thing"] (C8.fnScope s_is_word) := ⟨rfl, rfl, rfl, by decide +kernel, rfl, by decide +kernel, by decide +kernel⟩
def spWord : Sp := fun vs H Q _ => ∃ x w, vs = [.int w, x] ∧ Thing H x ∧ ∀ H', Same H H' → Q (.bl (isBits x w w)) H'
theorem c_is_word (T : Glob mg) (D : Dn K mg "is_word" s_is_word ["width", "thing"]) (c_is_bits : Cal P w K mg base 1 "is_bits" spBits []) : Cal P w K mg base 2 "is_word" spWord [] := by
  refine D.cal sc_is_word (fun vs H Q E h => ?_) (fun f cdv A outer s H vs Q E hr h => ?_)
  · obtain ⟨x, w, rfl, _⟩ := h
    rfl
  · obtain ⟨x, w, rfl, ht, k⟩ := h
    exact ⟨_, (pss_one (ps_ret (pe_c c_is_bits hr (by first | decide | omega) rfl (pa_cons (pv 1) (pa_cons (pv 0) (pa_cons (pv 0) pa_nil)))))), _, rfl, _, rfl, _, rfl, _, _, _, rfl, ht, k⟩
abbrev s_is_start : Stmt := top 9
abbrev n_is_start : List Str := ["width", "thing"]
theorem sc_is_start : FnScope n_is_start ["width", "thing"] (C8.fnScope s_is_start) := ⟨rfl, rfl, rfl, by decide +kernel, rfl, by decide +kernel, by decide +kernel⟩
def spStart : Sp := fun vs H Q _ => ∃ x w, vs = [.int w, x] ∧ Thing H x ∧ ∀ H', Same H H' → Q (.bl (isBits x 0 w)) H'
theorem c_is_start (T : Glob mg) (D : Dn K mg "is_start" s_is_start ["width", "thing"]) (c_is_bits : Cal P w K mg base 1 "is_bits" spBits []) : Cal P w K mg base 2 "is_start" spStart [] := by
  refine D.cal sc_is_start (fun vs H Q E h => ?_) (fun f cdv A outer s H vs Q E hr h => ?_)
  · obtain ⟨x, w, rfl, _⟩ := h
    rfl
  · obtain ⟨x, w, rfl, ht, k⟩ := h
    exact ⟨_, (pss_one (ps_ret (pe_c c_is_bits hr (by first | decide | omega) rfl (pa_cons (pv 1) (pa_cons pe_int (pa_cons (pv 0) pa_nil)))))), _, rfl, _, rfl, _, _, _, rfl, ht, k⟩
/-! ### number_of, word_of, span_of -/
theorem bits_index (b : Bool) : Builtin.Str.occurrences (tx [false, true]) ⟨#[bc b]⟩ 0 (tx [false, true]).length 1 = [if b then 1 else 0] := by
  cases b <;> decide +kernel
abbrev s_number_of : Stmt := top 10
abbrev n_number_of : List Str := ["start", "number", "sign"]
theorem sc_number_of : FnScope n_number_of ["start"] (C8.fnScope s_number_of) := ⟨rfl, rfl, rfl, by decide +kernel, rfl, by decide +kernel, by decide +kernel⟩
def spNumber : Sp := fun vs H Q _ => ∃ l : List Bool, vs = [.str (tx l)] ∧ l.length ≤ 1000 ∧ Q (.int ((num l : Nat) : Int)) H
theorem c_number_of (T : Glob mg) (D : Dn K mg "number_of" s_number_of ["start"]) : Cal P w K mg base 1 "number_of" spNumber [] := by
  refine D.cal sc_number_of (fun vs H Q E h => ?_) (fun f cdv A outer s H vs Q E hr h => ?_)
  · obtain ⟨l, rfl, _⟩ := h
    rfl
  · obtain ⟨l, rfl, hl, k⟩ := h
    refine ⟨_, (pss_cons (ps_set (i := 1) sc_number_of.nd rfl (by first | exact Or.inl rfl | exact Or.inr rfl) pe_int)
      (pss_cons (ps_for PassesOwn.never rfl (pi_str (pv 0)) (pg_name (i := 2) sc_number_of.nd rfl (by first | exact Or.inl rfl | exact Or.inr rfl))
      (pss_one (ps_set (i := 1) sc_number_of.nd rfl (by first | exact Or.inl rfl | exact Or.inr rfl) (pe_op op_add (pe_op op_mul pe_int (pv 1)) (pe_m1 PySem.F.slot_str_index PySem.F.type_str_index mt_sindex (pe_gc rfl T.g_BITS) (pv 2))))))
      (pss_one (ps_ret (pv 1))))), ?_⟩
    refine ⟨_, rfl, _, rfl, for_it walk_str (fun i σ H' => ∃ v, σ = [some (.str (tx l)), some (.int ((num (l.take i) : Nat) : Int)), v] ∧ H' = H) ⟨none, rfl, rfl⟩ (fun _ _ _ _ _ => trivial) ?_ ?_⟩
    · rintro i x σ H1 H2 hi ⟨v, rfl, rfl⟩ ⟨rfl, c, hc, rfl⟩
      obtain ⟨b, hb, rfl⟩ := tx_get hc
      refine ⟨_, rfl, _, _, rfl, rfl, .inl ⟨by decide, by decide⟩, ⟨_, rfl⟩, _, rfl, _, _, _, _, rfl, rfl, bits_index b, _, _, rfl, rfl, ?_⟩
      refine ⟨some (.str ⟨#[bc b]⟩), ?_, rfl⟩
      have e : (2 * ((num (l.take i) : Nat) : Int) + ((if b then 1 else 0 : Nat) : Int)) = ((num (l.take (i + 1)) : Nat) : Int) := by
        rw [take_snoc hb, num_snoc]
        omega
      rw [← e]
      rfl
    · rintro σ H1 ⟨v, rfl, rfl⟩
      refine ⟨_, rfl, ?_⟩
      have e : l.take (tx l).cps.size = l := List.take_of_length_le (by show l.length ≤ (tx l).length; rw [tx_len]; exact Nat.le_refl _)
      rw [e]
      exact k
abbrev s_word_of : Stmt := top 11
abbrev n_word_of : List Str := ["number", "width", "place"]
theorem sc_word_of : FnScope n_word_of ["number", "width"] (C8.fnScope s_word_of) := ⟨rfl, rfl, rfl, by decide +kernel, rfl, by decide +kernel, by decide +kernel⟩
def spWordOf : Sp := fun vs H Q _ => ∃ n v : Nat, vs = [.int (n : Int), .int (v : Int)] ∧ v ≤ 1000 ∧ ∀ H', Same H H' → Q (.str (tx (word n v))) H'
theorem c_word_of (T : Glob mg) (D : Dn K mg "word_of" s_word_of ["number", "width"]) : Cal P w K mg base 1 "word_of" spWordOf [] := by
  refine D.cal sc_word_of (fun vs H Q E h => ?_) (fun f cdv A outer s H vs Q E hr h => ?_)
  · obtain ⟨n, v, rfl, _⟩ := h
    rfl
  · obtain ⟨n, v, rfl, hv, k⟩ := h
    refine ⟨_, (pss_one (ps_ret (pe_join pe_str (pe_lc (own := [("place", 2)]) (g := (gName 2)) (tt := tYes) rfl sc_word_of.nd (pi_range1 rfl T.g_range (pa_cons (pv 1) pa_nil)) (blkOk_by (own := [("place", 2)]) (N := n_word_of) (sc := C8.fnScope s_word_of) (by decide +kernel)) (fun _ _ _ _ _ => (pg_name (i := 2) sc_word_of.nd rfl (by first | exact Or.inl rfl | exact Or.inr rfl))) (fun _ _ _ _ _ => pts_nil) (fun _ _ _ _ _ => (pe_ix ix_str (pe_gc rfl T.g_BITS) (pe_op op_odd (pe_op op_shrN (pv 0) (pe_op op_sub (pe_op op_sub (pv 1) pe_int) (pv 2))) pe_int) (fun _ _ => rfl))))))), ?_⟩
    refine ⟨⟨_, rfl⟩, _, rfl, _, rfl, by omega, by omega, fun D hD => ?_⟩
    refine lc_it walk_range (PvF H D fun i => ((word n v).take i).map fun b => V.str (tx [b])) (pv0 hD) (fun _ _ _ _ => trivial) ?_ ?_
    · rintro i x H1 H2 hi ⟨s1, h1⟩ ⟨rfl, rfl⟩
      have hi : i < v := by simpa using hi
      have ei : (v : Int) - 1 - (0 + (i : Nat)) = ((v - 1 - i : Nat) : Int) := by omega
      refine ⟨rfl, yesI ?_⟩
      refine ⟨_, rfl, _, rfl, _, _, rfl, rfl, _, rfl, _, _, rfl, rfl, _, v - 1 - i, rfl, congrArg V.int ei, n / 2 ^ (v - 1 - i), ?_, rfl, _, _, bc (decide (n / 2 ^ (v - 1 - i) % 2 = 1)), rfl, rfl, by rw [tx_len]; decide, ?_, ?_⟩
      · show V.int ((n : Int) / 2 ^ (v - 1 - i)) = V.int ((n / 2 ^ (v - 1 - i) : Nat) : Int)
        rw [Int.natCast_ediv, Int.natCast_pow]
        rfl
      · rw [tx_cps]
        refine atI_nat ?_
        rcases Nat.mod_two_eq_zero_or_one (n / 2 ^ (v - 1 - i)) with h | h <;> rw [h] <;> rfl
      · refine pv_in hD s1 h1 ?_ ?_
        · simp only [List.length_map, List.length_take]
          rw [word_len]
          omega
        · have hw : (word n v)[i]? = some (decide (n / 2 ^ (v - 1 - i) % 2 = 1)) := by
            unfold word
            rw [List.getElem?_map, List.getElem?_range hi]
            rfl
          rw [take_snoc hw, List.map_append, tx_one]
          rfl
    · rintro H1 ⟨s1, h1⟩
      refine ⟨_, _, (word n v).map fun b => tx [b], rfl, rfl, .inl (SqL.of ?_), ?_, ?_⟩
      · refine h1.trans ?_
        have e : (word n v).take (v : Int).toNat = word n v := List.take_of_length_le (by rw [word_len]; omega)
        show some (HO.lst (((word n v).take (v : Int).toNat).map _)) = _
        rw [e, List.map_map]
        rfl
      · rw [tx_lens, List.length_map, word_len, len_empty]
        omega
      · have e : Txt.join (Str.ofString "") ((word n v).map fun b => tx [b]) = tx (word n v) := join_tx _
        rw [e]
        exact k H1 s1
abbrev s_span_of : Stmt := top 12
abbrev n_span_of : List Str := ["start", "width", "size", "first"]
theorem sc_span_of : FnScope n_span_of ["start", "width"] (C8.fnScope s_span_of) := ⟨rfl, rfl, rfl, by decide +kernel, rfl, by decide +kernel, by decide +kernel⟩
/-- the first and the last number of the words that a start fits -/
def lo (l : List Bool) (w : Nat) : Nat := num l * 2 ^ (w - l.length)
def hi (l : List Bool) (w : Nat) : Nat := lo l w + 2 ^ (w - l.length) - 1
theorem lo_le_hi (l : List Bool) (w : Nat) : lo l w ≤ hi l w := by unfold hi; have := pow_pos2 (w - l.length); omega
theorem lo_lt (l : List Bool) (w : Nat) (h : l.length ≤ w) : hi l w < 2 ^ w := by
  have h1 := num_lt l
  have h2 : 2 ^ w = 2 ^ l.length * 2 ^ (w - l.length) := by rw [← Nat.pow_add]; congr 1; omega
  have h3 : (num l + 1) * 2 ^ (w - l.length) ≤ 2 ^ l.length * 2 ^ (w - l.length) := Nat.mul_le_mul_right _ h1
  have h4 := pow_pos2 (w - l.length)
  rw [Nat.add_mul] at h3
  unfold hi lo
  omega
def spSpan : Sp := fun vs H Q _ => ∃ (l : List Bool) (v : Nat), vs = [.str (tx l), .int (v : Int)] ∧ l.length ≤ v ∧ v ≤ 64 ∧ ∀ p, H p = none → Q (.ref p) (upd H p (.tup [.int ((lo l v : Nat) : Int), .int ((hi l v : Nat) : Int)]))
theorem c_span_of (T : Glob mg) (D : Dn K mg "span_of" s_span_of ["start", "width"]) (c_number_of : Cal P w K mg base 1 "number_of" spNumber []) : Cal P w K mg base 2 "span_of" spSpan [] := by
  refine D.cal sc_span_of (fun vs H Q E h => ?_) (fun f cdv A outer s H vs Q E hr h => ?_)
  · obtain ⟨l, v, rfl, _⟩ := h
    rfl
  · obtain ⟨l, v, rfl, hl, hv, k⟩ := h
    refine ⟨_, (pss_cons (ps_set (i := 2) sc_span_of.nd rfl (by first | exact Or.inl rfl | exact Or.inr rfl) (pe_op op_shl1 pe_int (pe_op op_sub (pv 1) (pe_callB call_len_str (by rfl) T.g_len boot_len (pa_cons (pv 0) pa_nil)))))
      (pss_cons (ps_set (i := 3) sc_span_of.nd rfl (by first | exact Or.inl rfl | exact Or.inr rfl) (pe_op op_mul (pe_c c_number_of hr (by first | decide | omega) rfl (pa_cons (pv 0) pa_nil)) (pv 2)))
      (pss_one (ps_ret (pe_tup (pa_cons (pv 3) (pa_cons (pe_op op_sub (pe_op op_add (pv 3) (pv 2)) pe_int) pa_nil))))))), ?_⟩
    have e1 : (v : Int) - ((tx l).length : Nat) = ((v - l.length : Nat) : Int) := by rw [tx_len]; omega
    refine ⟨_, rfl, _, rfl, _, rfl, by rw [tx_len]; exact Nat.le_trans (by omega) (by decide : 1000 ≤ sizeLine), _, _, rfl, rfl, 1, v - l.length, rfl, congrArg V.int e1, by omega, by decide, ?_⟩
    refine ⟨_, rfl, _, rfl, by omega, _, rfl, _, _, rfl, rfl, mul64 (pow64 hl hv), ?_⟩
    refine ⟨_, rfl, _, rfl, _, rfl, _, _, rfl, rfl, _, _, rfl, rfl, (by show 2 ≤ sizeLine; decide), fun p hp => ?_⟩
    have h1 := pow_pos2 (v - l.length)
    have a1 : ((num l : Nat) : Int) * ((1 * 2 ^ (v - l.length) : Nat) : Int) = ((lo l v : Nat) : Int) := by
      rw [← Int.natCast_mul, Nat.one_mul]
      rfl
    have a2 : ((num l : Nat) : Int) * ((1 * 2 ^ (v - l.length) : Nat) : Int) + ((1 * 2 ^ (v - l.length) : Nat) : Int) - 1 = ((hi l v : Nat) : Int) := by
      rw [a1]
      unfold hi
      omega
    have k := k p hp
    rw [← a2, ← a1] at k
    exact k
end
end Br

/-! bitroads.words: starts_for -/
namespace Br
open PySem PySem.Spec PyProof.Rows L2
open C8 (Cal Met Mak cal0 met0 mak0 pe_c pe_mk pe_mt pe_mt0 pe_gc Def)
theorem args2 {a b c d : Int} (h1 : a = b) (h2 : c = d) : [V.int a, V.int c] = [V.int b, V.int d] := by rw [h1, h2]
section
variable {P : Program} {w : World} {K : PySem.W.Frag} {mg : Str → Option Value} {base : Heap}
abbrev s_starts_for : Stmt := top 13
abbrev n_starts_for : List Str := ["first", "last", "width", "found", "free"]
theorem sc_starts_for : FnScope n_starts_for ["first", "last", "width"] (C8.fnScope s_starts_for) := ⟨rfl, rfl, rfl, by decide +kernel, rfl, by decide +kernel, by decide +kernel⟩
def spStarts : Sp := fun vs H Q _ => ∃ f l v : Nat, vs = [.int (f : Int), .int (l : Int), .int (v : Int)] ∧ f ≤ l ∧ l < 2 ^ v ∧ v ≤ 64 ∧
  ∀ ss H' p, Gr l v f ss → Same H H' → H p = none → H' p = some (.lst (ss.map fun b => .str (tx b))) → Q (.ref p) H'
/-- behind some turns: what stands from f on completes the list -/
def StW (H : Hp) (l v f0 : Nat) (p : Addr) (m : Nat) (σ : L2.St) (H' : Hp) : Prop :=
  ∃ (f : Nat) (acc : List (List Bool)) (o : Option V), m = l + 1 - f ∧ σ = [some (.int (f : Int)), some (.int (l : Int)), some (.int (v : Int)), some (.ref p), o] ∧ Same H H' ∧ H' p = some (.lst (acc.map fun b => .str (tx b))) ∧ f ≤ 2 ^ v ∧
    ∀ ss, Gr l v f ss → Gr l v f0 (acc ++ ss)
def StI (H : Hp) (l v f : Nat) (p : Addr) (acc : List (List Bool)) (m : Nat) (σ : L2.St) (H' : Hp) : Prop :=
  ∃ k : Nat, m = v + 1 - k ∧ σ = [some (.int (f : Int)), some (.int (l : Int)), some (.int (v : Int)), some (.ref p), some (.int (k : Int))] ∧ H' = H ∧ f % 2 ^ k = 0 ∧ f + 2 ^ k ≤ l + 1
theorem c_starts_for (T : Glob mg) (D : Dn K mg "starts_for" s_starts_for ["first", "last", "width"]) (c_word_of : Cal P w K mg base 1 "word_of" spWordOf []) : Cal P w K mg base 2 "starts_for" spStarts [] := by
  refine D.cal sc_starts_for (fun vs H Q E h => ?_) (fun f cdv A outer s H vs Q E hr h => ?_)
  · obtain ⟨f, l, v, rfl, _⟩ := h
    rfl
  · obtain ⟨f0, l, v, rfl, hfl, hl, hv, k⟩ := h
    have hv64 : 2 ^ v ≤ 2 ^ 64 := Nat.pow_le_pow_right (by decide) hv
    refine ⟨_, (pss_cons (ps_set (i := 3) sc_starts_for.nd rfl (by first | exact Or.inl rfl | exact Or.inr rfl) (pe_lst pa_nil))
      (pss_cons (ps_while PassesOwn.never (pt_cmpR op_le (pv 0) (pv 1) (nomark _))
      (pss_cons (ps_set (i := 4) sc_starts_for.nd rfl (by first | exact Or.inl rfl | exact Or.inr rfl) pe_int)
      (pss_cons (ps_while PassesOwn.never (PW.pt (pw_and (pt_cmpR op_eq (pe_op op_mod (pv 0) (pe_op op_shl1 pe_int (pv 4))) pe_int (nomark _)) (pw_and1 (pt_cmpR op_le (pe_op op_sub (pe_op op_add (pv 0) (pe_op op_shl1 pe_int (pv 4))) pe_int) (pv 1) (nomark _)))))
      (pss_one (ps_aug (i := 4) sc_starts_for.nd rfl (by first | exact Or.inl rfl | exact Or.inr rfl) pe_int ip_add)))
      (pss_cons (ps_expr (pe_bm PySem.F.plainAttrs_list PySem.F.slot_list_append PySem.F.type_list_append mt_append (pv 3) (pa_cons (pe_c c_word_of hr (by first | decide | omega) rfl (pa_cons (pe_op op_shrN (pv 0) (pv 4)) (pa_cons (pe_op op_sub (pv 2) (pv 4)) pa_nil))) pa_nil)))
      (pss_one (ps_aug (i := 0) sc_starts_for.nd rfl (by first | exact Or.inl rfl | exact Or.inr rfl) (pe_op op_shl1 pe_int (pv 4)) ip_add))))))
      (pss_one (ps_ret (pv 3))))), ?_⟩
    refine ⟨Nat.zero_le _, fun p hp => ?_⟩
    refine ⟨StW H l v f0 p, ⟨l + 1 - f0, f0, [], none, rfl, rfl, Same_upd (Same.refl H) hp, upd_same, by omega, fun ss h => h⟩, ?_⟩
    rintro m σ H1 ⟨f, acc, o, rfl, rfl, s1, h1, hf, hk⟩
    refine ⟨_, rfl, _, rfl, _, _, rfl, rfl, _, rfl, ?_⟩
    refine ite2 (fun c => ?_) fun c => ?_
    · have c : f ≤ l := by simpa using c
      refine ⟨fun σ' H' => ∃ m', m' < l + 1 - f ∧ StW H l v f0 p m' σ' H', fun _ _ h => h, ?_⟩
      refine ⟨StI H1 l v f p acc, ⟨v + 1, 0, rfl, rfl, rfl, by simp [Nat.mod_one], by omega⟩, ?_⟩
      rintro m σ H2 ⟨k1, rfl, rfl, rfl, b1, b2⟩
      have hk1 : k1 ≤ v := pow_lt_of (l := l) (by omega) hl
      have e2 : ((2 * 2 ^ k1 : Nat) : Int) = ((2 ^ (k1 + 1) : Nat) : Int) := by rw [Nat.pow_succ, Nat.mul_comm]
      have pk := pow_pos2 k1
      have pk2 : 2 ^ (k1 + 1) = 2 * 2 ^ k1 := by rw [Nat.pow_succ, Nat.mul_comm]
      have go : f % 2 ^ (k1 + 1) = 0 ∧ f + 2 ^ (k1 + 1) ≤ l + 1 → ∃ m', m' < v + 1 - k1 ∧ StI H2 l v f p acc m' [some (.int (f : Int)), some (.int (l : Int)), some (.int (v : Int)), some (.ref p), some (.int ((k1 : Int) + 1))] H2 := fun ⟨q1, q2⟩ => by
        have hk2 : k1 + 1 ≤ v := pow_lt_of (l := l) (by omega) hl
        exact ⟨v + 1 - (k1 + 1), by omega, k1 + 1, rfl, rfl, rfl, q1, q2⟩
      -- behind the inner loop
      have out : ¬ (f % 2 ^ (k1 + 1) = 0 ∧ f + 2 ^ (k1 + 1) ≤ l + 1) → ∀ H3, Same H2 H3 → ∃ m', m' < l + 1 - f ∧ StW H l v f0 p m' [some (.int ((f : Int) + ((1 * 2 ^ k1 : Nat) : Int))), some (.int (l : Int)), some (.int (v : Int)), some (.ref p), some (.int (k1 : Int))] (upd H3 p (.lst ((acc.map fun b => V.str (tx b)) ++ [V.str (tx (word (f / 2 ^ k1) (v - k1)))]))) := fun nq H3 s3 => by
        refine ⟨l + 1 - (f + 2 ^ k1), by omega, f + 2 ^ k1, acc ++ [word (f / 2 ^ k1) (v - k1)], some (.int (k1 : Int)), rfl, ?_, Same_mut (s1.trans s3) hp, ?_, by omega, fun ss g => ?_⟩
        · rw [Nat.one_mul, Int.natCast_add]
        · rw [List.map_append]
          exact upd_same
        · rw [List.append_assoc]
          exact hk _ (.cons c b1 b2 nq hk1 g)
      have ek : (v : Int) - (k1 : Int) = ((v - k1 : Nat) : Int) := by omega
      have ed : (f : Int) / 2 ^ k1 = ((f / 2 ^ k1 : Nat) : Int) := by
        rw [Int.natCast_ediv, Int.natCast_pow]
        rfl
      have len1 : (acc.map fun b => V.str (tx b)).length < sizeLine := by
        obtain ⟨ss, g⟩ := gr_ex hl _ f (Nat.le_refl _)
        have e := gr_len hl (hk ss g)
        have b := hv_le (f := f0) (l := l) (k := v) (b := 0)
        rw [List.length_append] at e
        rw [List.length_map]
        exact Nat.lt_of_le_of_lt (by omega : acc.length ≤ 1000) (by decide)
      refine ⟨_, rfl, _, rfl, 2, k1, rfl, rfl, by omega, by decide, _, _, rfl, rfl, (by show (0 : Int) < ((2 * 2 ^ k1 : Nat) : Int); omega), rfl, _, rfl, ?_⟩
      refine ite2 (fun t1 => ?_) fun t1 => ?_
      · have t1 : f % 2 ^ (k1 + 1) = 0 := by
          have z := of_decide_eq_true t1
          injection z with z
          rw [e2] at z
          have z2 : ((f % 2 ^ (k1 + 1) : Nat) : Int) = 0 := z
          omega
        refine ⟨_, rfl, _, rfl, 2, k1, rfl, rfl, by omega, by decide, _, _, rfl, rfl, _, _, rfl, rfl, _, rfl, _, _, rfl, rfl, _, rfl, ?_⟩
        refine ite2 (fun t2 => ?_) fun t2 => ?_
        · have t2 : f + 2 ^ (k1 + 1) ≤ l + 1 := by
            have z : (f : Int) + ((2 * 2 ^ k1 : Nat) : Int) - 1 ≤ (l : Int) := of_decide_eq_true t2
            rw [e2] at z
            omega
          refine ⟨fun σ' H' => ∃ m', m' < v + 1 - k1 ∧ StI H2 l v f p acc m' σ' H', fun _ _ h => h, ?_⟩
          exact ⟨_, rfl, _, _, rfl, rfl, go ⟨t1, t2⟩⟩
        · have t2 : ¬ f + 2 ^ (k1 + 1) ≤ l + 1 := fun z => t2 (decide_eq_true (by
            show (f : Int) + ((2 * 2 ^ k1 : Nat) : Int) - 1 ≤ (l : Int)
            rw [e2]
            omega))
          refine ⟨_, rfl, .inl ⟨rfl, _, SqL.of h1⟩, _, rfl, _, rfl, _, k1, rfl, rfl, _, rfl, _, rfl, _, _, rfl, rfl, f / 2 ^ k1, v - k1, args2 ed ek, by omega, fun H3 s3 => ?_⟩
          refine ⟨p, _, _, rfl, rfl, s3 _ _ h1, len1, ?_⟩
          exact ⟨_, rfl, _, rfl, 1, k1, rfl, rfl, by omega, by decide, _, _, rfl, rfl, out (fun z => t2 z.2) H3 s3⟩
      · have t1 : ¬ f % 2 ^ (k1 + 1) = 0 := fun z => t1 (decide_eq_true (by
            show V.int ((f : Int) % ((2 * 2 ^ k1 : Nat) : Int)) = V.int 0
            rw [e2, ← Int.natCast_emod, z]
            rfl))
        refine ⟨_, rfl, .inl ⟨rfl, _, SqL.of h1⟩, _, rfl, _, rfl, _, k1, rfl, rfl, _, rfl, _, rfl, _, _, rfl, rfl, f / 2 ^ k1, v - k1, args2 ed ek, by omega, fun H3 s3 => ?_⟩
        refine ⟨p, _, _, rfl, rfl, s3 _ _ h1, len1, ?_⟩
        exact ⟨_, rfl, _, rfl, 1, k1, rfl, rfl, by omega, by decide, _, _, rfl, rfl, out (fun z => t1 z.1) H3 s3⟩
    · refine ⟨_, rfl, ?_⟩
      have c : l < f := by simpa using c
      have g := hk [] (.nil c)
      rw [List.append_nil] at g
      exact k acc H1 p g s1 hp h1
end
end Br

/-! What the laws have in common: drawn numbers, texts, starts. -/
namespace Br
open PySem PySem.Spec PyProof.Rows L2
open C8 (Cal Met Mak cal0 met0 mak0 pe_c pe_mk pe_mt pe_mt0 pe_gc Def)
section
variable {P : Program} {w : World} {K : PySem.W.Frag} {mg : Str → Option Value} {base : Heap}
def mixA (c k : Int) : Int := (c % 1000000007 * 48271 + k * k * 69621 + 7919 * k + 12345) % 2147483629
def mixed (c k : Int) : Nat := (mixA c k * mixA c k % 2147483629 * 40692 % 2147483629).toNat
theorem mixed_eq (c k : Int) : mixA c k * mixA c k % 2147483629 * 40692 % 2147483629 = ((mixed c k : Nat) : Int) := by unfold mixed; omega
abbrev s_l_mixed : Stmt := top 15
abbrev n_l_mixed : List Str := ["_law_cell", "_law_k", "_law_number_here"]
theorem sc_l_mixed : FnScope n_l_mixed ["_law_cell", "_law_k"] (C8.fnScope s_l_mixed) := ⟨rfl, rfl, rfl, by decide +kernel, rfl, by decide +kernel, by decide +kernel⟩
def spMixed : Sp := fun vs H Q _ => ∃ c k : Int, vs = [.int c, .int k] ∧ (0 ≤ k ∧ k < 2 ^ 63) ∧ Q (.int ((mixed c k : Nat) : Int)) H
theorem c_l_mixed (T : Glob mg) (D : Dn K mg "_law_mixed" s_l_mixed ["_law_cell", "_law_k"]) : Cal P w K mg base 1 "_law_mixed" spMixed [] := by
  refine D.cal sc_l_mixed (fun vs H Q E h => ?_) (fun f cdv A outer s H vs Q E hr h => ?_)
  · obtain ⟨c, k, rfl, _⟩ := h
    rfl
  · obtain ⟨c, k, rfl, hk, q⟩ := h
    refine ⟨_, (pss_cons (ps_set (i := 2) sc_l_mixed.nd rfl (by first | exact Or.inl rfl | exact Or.inr rfl) (pe_op op_mod (pe_op op_add (pe_op op_add (pe_op op_add (pe_op op_mul (pe_op op_mod (pv 0) pe_int) pe_int) (pe_op op_mul (pe_op op_mul (pv 1) (pv 1)) pe_int)) (pe_op op_mul pe_int (pv 1))) pe_int) pe_int))
      (pss_one (ps_ret (pe_op op_mod (pe_op op_mul (pe_op op_mod (pe_op op_mul (pv 2) (pv 2)) pe_int) pe_int) pe_int)))), ?_⟩
    refine ⟨_, rfl, _, _, rfl, rfl, (by show (0 : Int) < 1000000007; decide), _, _, rfl, rfl, .inr ⟨by decide, by decide⟩, ?_⟩
    refine ⟨_, rfl, _, rfl, _, _, rfl, rfl, .inl ⟨by omega, by omega⟩, _, _, rfl, rfl, .inr ⟨by decide, by decide⟩, _, _, rfl, rfl, ?_⟩
    refine ⟨_, rfl, _, _, rfl, rfl, .inl ⟨by decide, by decide⟩, _, _, rfl, rfl, _, _, rfl, rfl, _, _, rfl, rfl, (by show (0 : Int) < 2147483629; decide), ?_⟩
    have b : (0 ≤ mixA c k) ∧ mixA c k < 2147483629 := by unfold mixA; omega
    refine ⟨_, rfl, _, rfl, _, _, rfl, rfl, .inl ⟨(by show -(2 ^ 64) < mixA c k; omega), (by show mixA c k < 2 ^ 64; omega)⟩, ?_⟩
    refine ⟨_, _, rfl, rfl, (by show (0 : Int) < 2147483629; decide), _, _, rfl, rfl, .inr ⟨by decide, by decide⟩, _, _, rfl, rfl, (by show (0 : Int) < 2147483629; decide), ?_⟩
    rw [← mixed_eq] at q
    exact q
def bitsL (n : Int) (v : Nat) : List Bool := (List.range v).map fun j => decide (mixed n ((j / 24 : Nat) : Int) / 2 ^ (j % 24) % 2 = 1)
theorem bitsL_len (n : Int) (v : Nat) : (bitsL n v).length = v := by unfold bitsL; simp
abbrev s_l_bits : Stmt := top 16
abbrev n_l_bits : List Str := ["_law_number_here", "_law_size", "_law_j"]
theorem sc_l_bits : FnScope n_l_bits ["_law_number_here", "_law_size"] (C8.fnScope s_l_bits) := ⟨rfl, rfl, rfl, by decide +kernel, rfl, by decide +kernel, by decide +kernel⟩
def spLBits : Sp := fun vs H Q _ => ∃ (n : Int) (v : Nat), vs = [.int n, .int (v : Int)] ∧ v ≤ 64 ∧ ∀ H', Same H H' → Q (.str (tx (bitsL n v))) H'
theorem c_l_bits (T : Glob mg) (D : Dn K mg "_law_bits" s_l_bits ["_law_number_here", "_law_size"]) (c_l_mixed : Cal P w K mg base 1 "_law_mixed" spMixed []) : Cal P w K mg base 2 "_law_bits" spLBits [] := by
  refine D.cal sc_l_bits (fun vs H Q E h => ?_) (fun f cdv A outer s H vs Q E hr h => ?_)
  · obtain ⟨n, v, rfl, _⟩ := h
    rfl
  · obtain ⟨n, v, rfl, hv, k⟩ := h
    refine ⟨_, (pss_one (ps_ret (pe_join pe_str (pe_lc (own := [("_law_j", 2)]) (g := (gName 2)) (tt := tYes) rfl sc_l_bits.nd (pi_range1 rfl T.g_range (pa_cons (pv 1) pa_nil)) (blkOk_by (own := [("_law_j", 2)]) (N := n_l_bits) (sc := C8.fnScope s_l_bits) (by decide +kernel)) (fun _ _ _ _ _ => (pg_name (i := 2) sc_l_bits.nd rfl (by first | exact Or.inl rfl | exact Or.inr rfl))) (fun _ _ _ _ _ => pts_nil) (fun _ _ _ _ _ => (pe_ix ix_str pe_str (pe_op op_odd (pe_op op_shrN (pe_c c_l_mixed hr (by first | decide | omega) rfl (pa_cons (pv 0) (pa_cons (pe_op op_fdiv (pv 2) pe_int) pa_nil))) (pe_op op_mod (pv 2) pe_int)) pe_int) (fun _ _ => rfl))))))), ?_⟩
    refine ⟨⟨_, rfl⟩, _, rfl, _, rfl, by omega, by omega, fun D hD => ?_⟩
    refine lc_it walk_range (PvF H D fun i => ((bitsL n v).take i).map fun b => V.str (tx [b])) (pv0 hD) (fun _ _ _ _ => trivial) ?_ ?_
    · rintro i x H1 H2 hi ⟨s1, h1⟩ ⟨rfl, rfl⟩
      have hi : i < v := by simpa using hi
      have e1 : (0 + (i : Int)) / 24 = ((i / 24 : Nat) : Int) := by omega
      have e2 : (0 + (i : Int)) % 24 = ((i % 24 : Nat) : Int) := by omega
      refine ⟨rfl, yesI ?_⟩
      refine ⟨_, rfl, _, rfl, _, _, rfl, rfl, ⟨by decide, by decide⟩, n, _, rfl, ⟨by omega, by omega⟩, ?_⟩
      rw [e1]
      refine ⟨_, rfl, _, _, rfl, rfl, (by show (0 : Int) < 24; decide), _, i % 24, rfl, congrArg V.int e2, mixed n ((i / 24 : Nat) : Int) / 2 ^ (i % 24), ?_, rfl, _, _, bc (decide (mixed n ((i / 24 : Nat) : Int) / 2 ^ (i % 24) % 2 = 1)), rfl, rfl, (by decide +kernel), ?_, ?_⟩
      · generalize mixed n ((i / 24 : Nat) : Int) = m
        show V.int ((m : Int) / 2 ^ (i % 24)) = V.int ((m / 2 ^ (i % 24) : Nat) : Int)
        rw [Int.natCast_ediv, Int.natCast_pow]
        rfl
      · refine atI_nat ?_
        rw [show (Str.ofString "01") = tx [false, true] from tx_01.symm, tx_cps]
        rcases Nat.mod_two_eq_zero_or_one (mixed n ((i / 24 : Nat) : Int) / 2 ^ (i % 24)) with h | h <;> rw [h] <;> rfl
      · refine pv_in hD s1 h1 ?_ ?_
        · simp only [List.length_map, List.length_take]
          rw [bitsL_len]
          omega
        · have hw : (bitsL n v)[i]? = some (decide (mixed n ((i / 24 : Nat) : Int) / 2 ^ (i % 24) % 2 = 1)) := by
            unfold bitsL
            rw [List.getElem?_map, List.getElem?_range hi]
            rfl
          rw [take_snoc hw, List.map_append, tx_one]
          rfl
    · rintro H1 ⟨s1, h1⟩
      refine ⟨_, _, (bitsL n v).map fun b => tx [b], rfl, rfl, .inl (SqL.of ?_), ?_, ?_⟩
      · refine h1.trans ?_
        have e : (bitsL n v).take (v : Int).toNat = bitsL n v := List.take_of_length_le (by rw [bitsL_len]; omega)
        show some (HO.lst (((bitsL n v).take (v : Int).toNat).map _)) = _
        rw [e, List.map_map]
        rfl
      · rw [tx_lens, List.length_map, bitsL_len, len_empty]
        omega
      · rw [show Txt.join (Str.ofString "") ((bitsL n v).map fun b => tx [b]) = tx (bitsL n v) from join_tx _]
        exact k H1 s1
def widths : List Nat := [1, 2, 3, 4, 5, 6, 8, 13, 33, 64]
def widthL (n : Int) : Nat := widths.getD (n % 10).toNat 1
theorem widthL_le (n : Int) : 1 ≤ widthL n ∧ widthL n ≤ 64 := by
  unfold widthL
  have h : (n % 10).toNat < 10 := by omega
  generalize (n % 10).toNat = j at h
  have : ∀ j, j < 10 → 1 ≤ widths.getD j 1 ∧ widths.getD j 1 ≤ 64 := by decide
  exact this j h
abbrev s_l_width : Stmt := top 17
abbrev n_l_width : List Str := ["_law_number_here"]
theorem sc_l_width : FnScope n_l_width ["_law_number_here"] (C8.fnScope s_l_width) := ⟨rfl, rfl, rfl, by decide +kernel, rfl, by decide +kernel, by decide +kernel⟩
def spLWidth : Sp := fun vs H Q _ => ∃ n : Int, vs = [.int n] ∧ ∀ H', Same H H' → Q (.int ((widthL n : Nat) : Int)) H'
theorem c_l_width (T : Glob mg) (D : Dn K mg "_law_width" s_l_width ["_law_number_here"]) : Cal P w K mg base 1 "_law_width" spLWidth [] := by
  refine D.cal sc_l_width (fun vs H Q E h => ?_) (fun f cdv A outer s H vs Q E hr h => ?_)
  · obtain ⟨n, rfl, _⟩ := h
    rfl
  · obtain ⟨n, rfl, k⟩ := h
    refine ⟨_, (pss_one (ps_ret (pe_ix ix_list (pe_lst (pa_cons pe_int (pa_cons pe_int (pa_cons pe_int (pa_cons pe_int (pa_cons pe_int (pa_cons pe_int (pa_cons pe_int (pa_cons pe_int (pa_cons pe_int (pa_cons pe_int pa_nil))))))))))) (pe_op op_mod (pv 0) pe_int) (fun _ _ => rfl)))), ?_⟩
    refine ⟨(by show 10 ≤ sizeLine; decide), fun p hp => ?_⟩
    refine ⟨_, rfl, _, _, rfl, rfl, (by show (0 : Int) < 10; decide), p, _, _, .int ((widthL n : Nat) : Int), rfl, rfl, SqL.of upd_same, ?_, k _ (Same_upd (Same.refl H) hp)⟩
    have e : n % 10 = (((n % 10).toNat : Nat) : Int) := by omega
    rw [e]
    refine atI_nat ?_
    unfold widthL
    have h : (n % 10).toNat < 10 := by omega
    generalize (n % 10).toNat = j at h
    have : ∀ j, j < 10 → ([V.int 1, V.int 2, V.int 3, V.int 4, V.int 5, V.int 6, V.int 8, V.int 13, V.int 33, V.int 64] : List V)[j]? = some (V.int ((widths.getD j 1 : Nat) : Int)) := by decide
    exact this j h
def wordL (b : List Bool) (n : Nat) : List Bool := (b.set (n % b.length) (decide (n / 10000 % 2 = 1))).set (n / 100 % b.length) (decide (n / 10000 % 2 = 1))
theorem wordL_len (b : List Bool) (n : Nat) : (wordL b n).length = b.length := by unfold wordL; simp
abbrev s_l_word : Stmt := top 18
abbrev n_l_word : List Str := ["_law_base", "_law_number_here", "_law_signs", "_law_at"]
theorem sc_l_word : FnScope n_l_word ["_law_base", "_law_number_here"] (C8.fnScope s_l_word) := ⟨rfl, rfl, rfl, by decide +kernel, rfl, by decide +kernel, by decide +kernel⟩
def spLWord : Sp := fun vs H Q _ => ∃ (b : List Bool) (n : Nat), vs = [.str (tx b), .int (n : Int)] ∧ 0 < b.length ∧ b.length ≤ 64 ∧ ∀ H', Same H H' → Q (.str (tx (wordL b n))) H'
theorem c_l_word (T : Glob mg) (D : Dn K mg "_law_word" s_l_word ["_law_base", "_law_number_here"]) : Cal P w K mg base 1 "_law_word" spLWord [] := by
  refine D.cal sc_l_word (fun vs H Q E h => ?_) (fun f cdv A outer s H vs Q E hr h => ?_)
  · obtain ⟨b, n, rfl, _⟩ := h
    rfl
  · obtain ⟨b, n, rfl, hb, hb2, k⟩ := h
    have lb : (tx b).length ≤ sizeLine := by rw [tx_len]; exact Nat.le_trans hb2 (by decide)
    have sg : ((tx b).cps.toList.map fun c => V.str ⟨#[c]⟩) = b.map fun x => V.str (tx [x]) := by
      rw [tx_cps, List.map_map]
      exact List.map_congr_left fun x _ => by rw [← tx_one]; rfl
    have len0 : (0 : Int) < ((tx b).length : Nat) := by rw [tx_len]; omega
    have em : ∀ m : Nat, ((m : Int) % ((tx b).length : Nat)) = ((m % b.length : Nat) : Int) := fun m => by rw [tx_len]; omega
    refine ⟨_, (pss_cons (ps_set (i := 2) sc_l_word.nd rfl (by first | exact Or.inl rfl | exact Or.inr rfl) (pe_callTy (call_list_str rfl) (by rfl) T.g_list (by decide +kernel) (pa_cons (pv 0) pa_nil)))
      (pss_cons (ps_for PassesOwn.never rfl (pi_tup (pe_tup (pa_cons (pe_op op_mod (pv 1) (pe_callB call_len_str (by rfl) T.g_len boot_len (pa_cons (pv 0) pa_nil))) (pa_cons (pe_op op_mod (pe_op op_fdiv (pv 1) pe_int) (pe_callB call_len_str (by rfl) T.g_len boot_len (pa_cons (pv 0) pa_nil))) pa_nil)))) (pg_name (i := 3) sc_l_word.nd rfl (by first | exact Or.inl rfl | exact Or.inr rfl))
      (pss_one (ps_asg (pe_ix ix_str pe_str (pe_op op_mod (pe_op op_fdiv (pv 1) pe_int) pe_int) (fun _ _ => rfl)) (pg_sub (pv 2) (pv 3) set_list))))
      (pss_one (ps_ret (pe_join pe_str (pv 2)))))), ?_⟩
    refine ⟨_, rfl, _, rfl, (by rw [tx_len]; omega), fun L hL => ?_⟩
    rw [sg]
    refine ⟨_, rfl, _, rfl, _, rfl, lb, _, _, rfl, rfl, len0, ?_⟩
    refine ⟨_, rfl, _, _, rfl, rfl, ⟨by decide, by decide⟩, _, rfl, _, rfl, lb, _, _, rfl, rfl, len0, (by show 2 ≤ sizeLine; decide), fun t ht => ?_⟩
    have nlt : t ≠ L := (ne_of_none upd_same ht).symm
    have ht0 : H t = none := by rw [upd_ne nlt] at ht; exact ht
    let F : Nat → List Bool := fun i => match i with
      | 0 => b
      | 1 => b.set (n % b.length) (decide (n / 10000 % 2 = 1))
      | _ => wordL b n
    have hF : ∀ i, (F i).length = b.length := fun i => by
      match i with
      | 0 => rfl
      | 1 => show (b.set _ _).length = _; simp
      | (j + 2) => exact wordL_len b n
    refine ⟨t, rfl, ⟨_, Or.inl (Or.inl upd_same)⟩, for_tup (K := K) (a := t) (xs := [V.int ((n : Int) % ((tx b).length : Nat)), V.int ((n : Int) / 100 % ((tx b).length : Nat))])
      (fun i σ H' => ∃ v, σ = [some (.str (tx b)), some (.int (n : Int)), some (.ref L), v] ∧ Same H H' ∧ H' L = some (.lst ((F i).map fun x => V.str (tx [x]))) ∧ H' t = some (.tup [V.int ((n : Int) % ((tx b).length : Nat)), V.int ((n : Int) / 100 % ((tx b).length : Nat))]))
      ⟨none, rfl, Same_upd (Same_upd (Same.refl H) hL) ht, (upd_ne nlt.symm).trans upd_same, upd_same⟩ (fun i σ H' _ ⟨_, _, _, _, h4⟩ => .inl (.inl h4)) ?_ ?_⟩
    · rintro i x σ H1 hx ⟨v, rfl, s1, h1, h2⟩
      -- the place
      obtain ⟨j, hj, ej, eF⟩ : ∃ j : Nat, j < b.length ∧ x = V.int (j : Int) ∧ F (i + 1) = (F i).set j (decide (n / 10000 % 2 = 1)) := by
        match i, hx with
        | 0, hx =>
          have z : V.int ((n : Int) % ((tx b).length : Nat)) = x := Option.some.inj hx
          exact ⟨n % b.length, Nat.mod_lt _ hb, by rw [← z, em], rfl⟩
        | 1, hx =>
          have z : V.int ((n : Int) / 100 % ((tx b).length : Nat)) = x := Option.some.inj hx
          refine ⟨n / 100 % b.length, Nat.mod_lt _ hb, ?_, rfl⟩
          rw [← z, show (n : Int) / 100 = ((n / 100 : Nat) : Int) by omega, em]
        | (j + 2), hx => cases hx
      subst ej
      refine ⟨_, rfl, _, _, rfl, rfl, ⟨by decide, by decide⟩, _, _, rfl, rfl, (by show (0 : Int) < 2; decide), _, _, bc (decide (n / 10000 % 2 = 1)), rfl, rfl, (by decide +kernel), ?_, ?_⟩
      · rw [show (n : Int) / 10000 % 2 = ((n / 10000 % 2 : Nat) : Int) by omega]
        refine atI_nat ?_
        rw [show (Str.ofString "01") = tx [false, true] from tx_01.symm, tx_cps]
        rcases Nat.mod_two_eq_zero_or_one (n / 10000) with h | h <;> rw [h] <;> rfl
      · refine ⟨_, rfl, _, rfl, L, _, _, j, rfl, rfl, h1, ?_, ?_⟩
        · unfold ixN
          rw [List.length_map, hF, if_pos (by omega), if_pos (by omega), Int.toNat_natCast]
        · refine ⟨_, rfl, fun c o e => ?_, ?_, ?_⟩
          · rw [upd_ne (ne_of_none e hL)]
            exact s1 c o e
          · rw [upd_same, eF, List.map_set, tx_one]
          · rw [upd_ne nlt]
            exact h2
    · rintro σ H1 ⟨v, rfl, s1, h1, h2⟩
      refine ⟨⟨_, rfl⟩, _, rfl, _, _, (wordL b n).map fun x => tx [x], rfl, rfl, .inl (SqL.of ?_), ?_, ?_⟩
      · refine h1.trans ?_
        rw [List.map_map]
        rfl
      · rw [tx_lens, List.length_map, wordL_len, len_empty]
        omega
      · rw [show Txt.join (Str.ofString "") ((wordL b n).map fun x => tx [x]) = tx (wordL b n) from join_tx _]
        exact k H1 s1
theorem one_sign (b : Bool) : decide (V.str ⟨#[bc b]⟩ = V.str (Str.ofString "1")) = b := by
  rw [tx_one]
  cases b <;> decide +kernel
abbrev s_l_number : Stmt := top 19
abbrev n_l_number : List Str := ["_law_text", "_law_number_here", "_law_sign"]
theorem sc_l_number : FnScope n_l_number ["_law_text"] (C8.fnScope s_l_number) := ⟨rfl, rfl, rfl, by decide +kernel, rfl, by decide +kernel, by decide +kernel⟩
theorem c_l_number (T : Glob mg) (D : Dn K mg "_law_number" s_l_number ["_law_text"]) : Cal P w K mg base 1 "_law_number" spNumber [] := by
  refine D.cal sc_l_number (fun vs H Q E h => ?_) (fun f cdv A outer s H vs Q E hr h => ?_)
  · obtain ⟨l, rfl, _⟩ := h
    rfl
  · obtain ⟨l, rfl, hl, k⟩ := h
    refine ⟨_, (pss_cons (ps_set (i := 1) sc_l_number.nd rfl (by first | exact Or.inl rfl | exact Or.inr rfl) pe_int)
      (pss_cons (ps_for PassesOwn.never rfl (pi_str (pv 0)) (pg_name (i := 2) sc_l_number.nd rfl (by first | exact Or.inl rfl | exact Or.inr rfl))
      (pss_one (ps_set (i := 1) sc_l_number.nd rfl (by first | exact Or.inl rfl | exact Or.inr rfl) (pe_op op_add (pe_op op_mul (pv 1) pe_int) (pe_callTy call_int1 (by rfl) T.g_int (by decide +kernel) (pa_cons (pe_cmpR op_eq (pv 2) pe_str (nomark _)) pa_nil))))))
      (pss_one (ps_ret (pv 1))))), ?_⟩
    refine ⟨_, rfl, _, rfl, for_it walk_str (fun i σ H' => ∃ v, σ = [some (.str (tx l)), some (.int ((num (l.take i) : Nat) : Int)), v] ∧ H' = H) ⟨none, rfl, rfl⟩ (fun _ _ _ _ _ => trivial) ?_ ?_⟩
    · rintro i x σ H1 H2 hi ⟨v, rfl, rfl⟩ ⟨rfl, c, hc, rfl⟩
      obtain ⟨b, hb, rfl⟩ := tx_get hc
      refine ⟨_, rfl, _, _, rfl, rfl, .inr ⟨by decide, by decide⟩, _, rfl, rfl, .inr ⟨_, rfl, ?_⟩⟩
      rw [one_sign b]
      refine ⟨_, _, rfl, rfl, some (.str ⟨#[bc b]⟩), ?_, rfl⟩
      have e : (((num (l.take i) : Nat) : Int) * 2 + (if b = true then 1 else 0)) = ((num (l.take (i + 1)) : Nat) : Int) := by
        rw [take_snoc hb, num_snoc]
        cases b <;> simp <;> omega
      rw [← e]
      rfl
    · rintro σ H1 ⟨v, rfl, rfl⟩
      refine ⟨_, rfl, ?_⟩
      have e : l.take (tx l).cps.size = l := List.take_of_length_le (by show l.length ≤ (tx l).length; rw [tx_len]; exact Nat.le_refl _)
      rw [e]
      exact k
abbrev s_l_span : Stmt := top 20
abbrev n_l_span : List Str := ["_law_start", "_law_wide", "_law_size"]
theorem sc_l_span : FnScope n_l_span ["_law_start", "_law_wide"] (C8.fnScope s_l_span) := ⟨rfl, rfl, rfl, by decide +kernel, rfl, by decide +kernel, by decide +kernel⟩
/-- the first number, and the one behind the last -/
def spLSpan : Sp := fun vs H Q _ => ∃ (l : List Bool) (v : Nat), vs = [.str (tx l), .int (v : Int)] ∧ l.length ≤ v ∧ v ≤ 64 ∧ ∀ p, H p = none → Q (.ref p) (upd H p (.tup [.int ((lo l v : Nat) : Int), .int (((hi l v + 1 : Nat) : Nat) : Int)]))
theorem c_l_span (T : Glob mg) (D : Dn K mg "_law_span" s_l_span ["_law_start", "_law_wide"]) (c_l_number : Cal P w K mg base 1 "_law_number" spNumber []) : Cal P w K mg base 2 "_law_span" spLSpan [] := by
  refine D.cal sc_l_span (fun vs H Q E h => ?_) (fun f cdv A outer s H vs Q E hr h => ?_)
  · obtain ⟨l, v, rfl, _⟩ := h
    rfl
  · obtain ⟨l, v, rfl, hl, hv, k⟩ := h
    refine ⟨_, (pss_cons (ps_set (i := 2) sc_l_span.nd rfl (by first | exact Or.inl rfl | exact Or.inr rfl) (pe_op op_shl1 pe_int (pe_op op_sub (pv 1) (pe_callB call_len_str (by rfl) T.g_len boot_len (pa_cons (pv 0) pa_nil)))))
      (pss_one (ps_ret (pe_tup (pa_cons (pe_op op_mul (pe_c c_l_number hr (by first | decide | omega) rfl (pa_cons (pv 0) pa_nil)) (pv 2)) (pa_cons (pe_op op_add (pe_op op_mul (pe_c c_l_number hr (by first | decide | omega) rfl (pa_cons (pv 0) pa_nil)) (pv 2)) (pv 2)) pa_nil)))))), ?_⟩
    have e1 : (v : Int) - ((tx l).length : Nat) = ((v - l.length : Nat) : Int) := by rw [tx_len]; omega
    refine ⟨_, rfl, _, rfl, _, rfl, by rw [tx_len]; exact Nat.le_trans (by omega) (by decide : 1000 ≤ sizeLine), _, _, rfl, rfl, 1, v - l.length, rfl, congrArg V.int e1, by omega, by decide, ?_⟩
    refine ⟨_, rfl, _, rfl, by omega, _, rfl, _, _, rfl, rfl, mul64 (pow64 hl hv), ?_⟩
    refine ⟨_, rfl, _, rfl, by omega, _, rfl, _, _, rfl, rfl, mul64 (pow64 hl hv), _, rfl, _, _, rfl, rfl, (by show 2 ≤ sizeLine; decide), fun p hp => ?_⟩
    have h1 := pow_pos2 (v - l.length)
    have a1 : ((num l : Nat) : Int) * ((1 * 2 ^ (v - l.length) : Nat) : Int) = ((lo l v : Nat) : Int) := by
      rw [← Int.natCast_mul, Nat.one_mul]
      rfl
    have a2 : ((num l : Nat) : Int) * ((1 * 2 ^ (v - l.length) : Nat) : Int) + ((1 * 2 ^ (v - l.length) : Nat) : Int) = ((hi l v + 1 : Nat) : Int) := by
      rw [a1]
      unfold hi
      omega
    have k := k p hp
    rw [← a2, ← a1] at k
    exact k
end
end Br

/-! The first law's own defs. -/
namespace Br
open PySem PySem.Spec PyProof.Rows L2
open C8 (Cal Met Mak cal0 met0 mak0 pe_c pe_mk pe_mt pe_mt0 pe_gc Def)
section
variable {P : Program} {w : World} {K : PySem.W.Frag} {mg : Str → Option Value} {base : Heap}
/-- a def that calls itself: a promise by depth -/
theorem Dn.none {x : Str} {st : Stmt} {ps : List Str} {sp : Sp} (D : Dn K mg x st ps) (h : ∀ vs H Q E, ¬ sp vs H Q E) : Cal P w K mg base 0 x sp [] := by
  obtain ⟨f, fd, D, b⟩ := D.ex
  exact ⟨f, fd, ps, [], ⟨fun vs H Q E q => (h _ _ _ _ q).elim, fun A outer s H args us vs Q E _ _ _ _ q => (h _ _ _ _ q).elim⟩, D.mgf, D.kp, b, .nil⟩
abbrev s_l_halves : Stmt := top 21
abbrev n_l_halves : List Str := ["_law_first", "_law_last", "_law_begin", "_law_size", "_law_half"]
theorem sc_l_halves : FnScope n_l_halves ["_law_first", "_law_last", "_law_begin", "_law_size"] (C8.fnScope s_l_halves) := ⟨rfl, rfl, rfl, by decide +kernel, rfl, by decide +kernel, by decide +kernel⟩
def spHalves (n : Nat) : Sp := fun vs H Q _ => ∃ f l b j : Nat, j < n ∧ vs = [.int (f : Int), .int (l : Int), .int (b : Int), .int ((2 ^ j : Nat) : Int)] ∧ Q (.int ((hv f l b j : Nat) : Int)) H
theorem c_l_halves (T : Glob mg) (D : Dn K mg "_law_halves" s_l_halves ["_law_first", "_law_last", "_law_begin", "_law_size"]) : ∀ n, Cal P w K mg base n "_law_halves" (spHalves n) []
  | 0 => D.none fun vs H Q E ⟨_, _, _, _, h, _⟩ => absurd h (Nat.not_lt_zero _)
  | n + 1 => by
    have c_l_halves := c_l_halves T D n
    refine D.cal sc_l_halves (fun vs H Q E h => ?_) (fun f cdv A outer s H vs Q E hr h => ?_)
    · obtain ⟨f, l, b, j, _, rfl, _⟩ := h
      rfl
    · obtain ⟨f, l, b, j, hj, rfl, k⟩ := h
      have pj := pow_pos2 j
      refine ⟨_, (pss_cons (ps_if (PW.pt (pw_or (pt_cmpR op_le (pe_op op_add (pv 2) (pv 3)) (pv 0) (nomark _)) (pw_or1 (pt_cmpR op_gt (pv 2) (pv 1) (nomark _)))))
      (pss_one (ps_ret pe_int))
      pss_nil)
      (pss_cons (ps_if (PW.pt (pw_and (pt_cmpR op_le (pv 0) (pv 2) (nomark _)) (pw_and1 (pt_cmpR op_le (pe_op op_sub (pe_op op_add (pv 2) (pv 3)) pe_int) (pv 1) (nomark _)))))
      (pss_one (ps_ret pe_int))
      pss_nil)
      (pss_cons (ps_set (i := 4) sc_l_halves.nd rfl (by first | exact Or.inl rfl | exact Or.inr rfl) (pe_op op_fdiv (pv 3) pe_int))
      (pss_one (ps_ret (pe_op op_add (pe_c c_l_halves hr (by first | decide | omega) rfl (pa_cons (pv 0) (pa_cons (pv 1) (pa_cons (pv 2) (pa_cons (pv 4) pa_nil))))) (pe_c c_l_halves hr (by first | decide | omega) rfl (pa_cons (pv 0) (pa_cons (pv 1) (pa_cons (pe_op op_add (pv 2) (pv 4)) (pa_cons (pv 4) pa_nil))))))))))), ?_⟩
      refine ⟨_, rfl, _, rfl, _, _, rfl, rfl, _, rfl, _, _, rfl, rfl, _, rfl, ?_⟩
      refine ite2 (fun c1 => ?_) fun c1 => ?_
      · have c1 : b + 2 ^ j ≤ f := by have := of_decide_eq_true c1; omega
        refine iteT ?_
        rw [hv_left c1] at k
        exact k
      have c1 : ¬ b + 2 ^ j ≤ f := fun z => c1 (decide_eq_true (by omega))
      refine ⟨_, rfl, _, rfl, _, _, rfl, rfl, _, rfl, ?_⟩
      refine ite2 (fun c2 => ?_) fun c2 => ?_
      · have c2 : l < b := by have := of_decide_eq_true c2; omega
        rw [hv_right c2] at k
        exact k
      have c2 : ¬ l < b := fun z => c2 (decide_eq_true (by omega))
      refine ⟨_, rfl, _, rfl, _, _, rfl, rfl, _, rfl, ?_⟩
      have full : f ≤ b ∧ b + 2 ^ j ≤ l + 1 → hv f l b j = 1 := fun h => by
        cases j with
        | zero => unfold hv; rw [if_neg (by omega)]
        | succ j => unfold hv; rw [if_neg (by omega), if_pos h]
      have part : ¬ (f ≤ b ∧ b + 2 ^ j ≤ l + 1) → ∃ j', j = j' + 1 ∧ hv f l b j = hv f l b j' + hv f l (b + 2 ^ j') j' := fun h => by
        cases j with
        | zero => exfalso; apply h; constructor <;> omega
        | succ j' => exact ⟨j', rfl, by conv => lhs; unfold hv
                                        rw [if_neg (by omega), if_neg h]⟩
      refine ite2 (fun c3 => ?_) fun c3 => ?_
      · have c3 : f ≤ b := by have := of_decide_eq_true c3; omega
        refine ⟨_, rfl, _, rfl, _, _, rfl, rfl, _, _, rfl, rfl, _, rfl, _, _, rfl, rfl, _, rfl, ?_⟩
        refine ite2 (fun c4 => ?_) fun c4 => ?_
        · have c4 : b + 2 ^ j ≤ l + 1 := by have := of_decide_eq_true c4; omega
          rw [full ⟨c3, c4⟩] at k
          exact k
        · have c4 : ¬ b + 2 ^ j ≤ l + 1 := fun z => c4 (decide_eq_true (by omega))
          obtain ⟨j', rfl, e⟩ := part fun z => c4 z.2
          rw [e, Int.natCast_add] at k
          have e2 : ((2 ^ (j' + 1) : Nat) : Int) / 2 = ((2 ^ j' : Nat) : Int) := by rw [Nat.pow_succ]; omega
          refine ⟨_, rfl, _, _, rfl, rfl, ⟨by decide, by decide⟩, ?_⟩
          dsimp only
          rw [e2]
          refine ⟨_, rfl, _, rfl, _, rfl, _, rfl, f, l, b, j', by omega, rfl, ?_⟩
          refine ⟨_, rfl, _, rfl, _, rfl, _, rfl, _, _, rfl, rfl, _, rfl, f, l, b + 2 ^ j', j', by omega, by rw [Int.natCast_add]; rfl, ?_⟩
          exact ⟨_, _, rfl, rfl, k⟩
      · have c3 : ¬ f ≤ b := fun z => c3 (decide_eq_true (by omega))
        obtain ⟨j', rfl, e⟩ := part fun z => c3 z.1
        rw [e, Int.natCast_add] at k
        have e2 : ((2 ^ (j' + 1) : Nat) : Int) / 2 = ((2 ^ j' : Nat) : Int) := by rw [Nat.pow_succ]; omega
        refine ⟨_, rfl, _, _, rfl, rfl, ⟨by decide, by decide⟩, ?_⟩
        dsimp only
        rw [e2]
        refine ⟨_, rfl, _, rfl, _, rfl, _, rfl, f, l, b, j', by omega, rfl, ?_⟩
        refine ⟨_, rfl, _, rfl, _, rfl, _, rfl, _, _, rfl, rfl, _, rfl, f, l, b + 2 ^ j', j', by omega, by rw [Int.natCast_add]; rfl, ?_⟩
        exact ⟨_, _, rfl, rfl, k⟩
abbrev s_l_is_bits : Stmt := top 23
abbrev n_l_is_bits : List Str := ["_law_thing", "_law_least", "_law_most", "_law_sign"]
theorem sc_l_is_bits : FnScope n_l_is_bits ["_law_thing", "_law_least", "_law_most"] (C8.fnScope s_l_is_bits) := ⟨rfl, rfl, rfl, by decide +kernel, rfl, by decide +kernel, by decide +kernel⟩
theorem c_l_is_bits (T : Glob mg) (D : Dn K mg "_law_is_bits" s_l_is_bits ["_law_thing", "_law_least", "_law_most"]) : Cal P w K mg base 1 "_law_is_bits" spBits [] := by
  refine D.cal sc_l_is_bits (fun vs H Q E h => ?_) (fun f cdv A outer s H vs Q E hr h => ?_)
  · obtain ⟨x, lo, hi, rfl, _⟩ := h
    rfl
  · obtain ⟨x, lo, hi, rfl, ht, k⟩ := h
    refine ⟨_, (pss_cons (ps_if (PW.pt (pw_or (pt_not (pt_val (pe_callB call_isi (by rfl) T.g_isinstance (by decide +kernel) (pa_cons (pv 0) (pa_cons (pe_bltn (v := .ty "str") (by rfl) T.g_str boot_str rfl) pa_nil))))) (pw_or1 (pt_not (pt_chain op_le op_le (pv 1) (pe_callB call_len_str (by rfl) T.g_len boot_len (pa_cons (pv 0) pa_nil)) (pv 2))))))
      (pss_one (ps_ret pe_bl))
      pss_nil)
      (pss_one (ps_ret (pe_cmpR (op_eqD hr.units) (pe_lc (own := [("_law_sign", 3)]) (g := (gName 3)) rfl sc_l_is_bits.nd (pi_str (pv 0)) (blkOk_by (own := [("_law_sign", 3)]) (N := n_l_is_bits) (sc := C8.fnScope s_l_is_bits) (by decide +kernel)) (fun _ _ _ _ _ => (pg_name (i := 3) sc_l_is_bits.nd rfl (by first | exact Or.inl rfl | exact Or.inr rfl))) (fun _ _ _ _ _ => (pts_one (PW.pt (pw_and (pt_cmpR op_ne (pv 3) pe_str (nomark _)) (pw_and1 (pt_cmpR op_ne (pv 3) pe_str (nomark _))))))) (fun _ _ _ _ _ => (pv 3))) (pe_lst pa_nil) (nomark _))))), ?_⟩
    obtain ⟨n1, t1, k1⟩ := ht.isStr (K := K)
    refine ⟨_, rfl, _, _, _, _, _, rfl, .ty _, t1, k1, _, rfl, ?_⟩
    cases x with
    | str z =>
      obtain ⟨hz, hz2⟩ : z.length ≤ 100000 ∧ z.cps.toList.all (fun c => decide (c < 1114112)) = true := by cases ht; constructor <;> assumption
      refine iteF ?_
      refine ⟨_, rfl, _, rfl, _, rfl, Nat.le_trans hz (by decide), _, _, rfl, rfl, _, rfl, ?_⟩
      have no : (decide (lo ≤ (z.length : Int)) && decide ((z.length : Int) ≤ hi)) = false → isBits (.str z) lo hi = false := fun e => by
        show (decide (lo ≤ (z.length : Int)) && decide ((z.length : Int) ≤ hi) && _) = _
        rw [e, Bool.false_and]
      refine ite2 (fun c => ?_) fun c => ?_
      · refine ⟨_, rfl, _, _, rfl, rfl, _, rfl, ?_⟩
        by_cases c2 : decide ((z.length : Int) ≤ hi) = true
        · rw [c2]
          refine iteF ?_
          refine ⟨_, rfl, _, rfl, fun D hD => ?_⟩
          let bad : Nat → Bool := fun c => !decide (c = 48 ∨ c = 49)
          have hb : ∀ c, (!decide (V.str ⟨#[c]⟩ = V.str (Str.ofString "0"))) = !decide (c = 48) ∧ (!decide (V.str ⟨#[c]⟩ = V.str (Str.ofString "1"))) = !decide (c = 49) := fun c => by
            rw [← tx_0, ← tx_1]
            constructor
            · congr 1
              rw [decide_eq_decide]
              constructor
              · intro e
                injection e with e
                injection e with e
                injection e with e
                injection e
              · rintro rfl; rfl
            · congr 1
              rw [decide_eq_decide]
              constructor
              · intro e
                injection e with e
                injection e with e
                injection e with e
                injection e
              · rintro rfl; rfl
          refine lc_it walk_str (PvF H D fun i => ((z.cps.toList.take i).filter bad).map fun c => V.str ⟨#[c]⟩) (pv0 hD) (fun _ _ _ _ => trivial) ?_ ?_
          · rintro i x H1 H2 hi ⟨s1, h1⟩ ⟨rfl, c, hc, rfl⟩
            have hc' : z.cps.toList[i]? = some c := by simpa using hc
            have hlen : (((z.cps.toList.take i).filter bad).map fun c => V.str ⟨#[c]⟩).length < 100000 := by
              rw [List.length_map]
              refine Nat.lt_of_le_of_lt (List.length_filter_le _ _) ?_
              rw [List.length_take]
              have : i < z.cps.size := hi
              have : z.length = z.cps.size := rfl
              omega
            have e1 : ∀ b, bad c = b → ((z.cps.toList.take (i + 1)).filter bad).map (fun c => V.str ⟨#[c]⟩) = ((z.cps.toList.take i).filter bad).map (fun c => V.str ⟨#[c]⟩) ++ (if b = true then [V.str ⟨#[c]⟩] else []) := fun b hb => by
              rw [take_snoc hc', List.filter_append, List.map_append, List.filter_cons, hb]
              cases b <;> rfl
            refine ⟨rfl, ?_⟩
            refine ⟨_, rfl, rfl, _, rfl, ?_⟩
            rw [(hb c).1]
            by_cases q1 : c = 48
            · rw [decide_eq_true q1]
              refine iteF (iteF ?_)
              exact pv_out s1 h1 ((e1 false (by subst q1; rfl)).trans (List.append_nil _))
            rw [decide_eq_false q1]
            refine iteT ?_
            refine ⟨_, rfl, rfl, _, rfl, ?_⟩
            rw [(hb c).2]
            by_cases q2 : c = 49
            · rw [decide_eq_true q2]
              refine iteF ?_
              exact pv_out s1 h1 ((e1 false (by subst q2; rfl)).trans (List.append_nil _))
            rw [decide_eq_false q2]
            refine iteT ?_
            refine ⟨_, rfl, ?_⟩
            exact pv_in hD s1 h1 hlen (e1 true (by show (!decide (c = 48 ∨ c = 49)) = true; rw [decide_eq_false (by omega)]; rfl))
          · rintro H1 ⟨s1, h1⟩
            refine ⟨Nat.zero_le _, fun p hp => ?_⟩
            have nDp : D ≠ p := ne_of_none h1 hp
            have da : DpAll K (upd H1 p (.lst [])) (((z.cps.toList.take z.cps.size).filter bad).map fun c => V.str ⟨#[c]⟩) (((z.cps.toList.take z.cps.size).filter bad).map fun c => PyData.str ⟨#[c]⟩) := by
              generalize (z.cps.toList.take z.cps.size).filter bad = l
              induction l with
              | nil => exact .nil
              | cons c l ih => exact .cons (.str _) ih
            refine ⟨_, _, .lst (SqL.of (by rw [upd_ne nDp]; exact h1)) da, .lst (SqL.of upd_same) .nil, ?_, by decide +kernel, ?_⟩
            · refine (dok_list (k := 0) fun d hd => ?_).shaped
              obtain ⟨c, hc, rfl⟩ := List.mem_map.mp hd
              refine dok_str ?_
              have := List.all_eq_true.mp hz2 c (List.mem_of_mem_take (List.mem_filter.mp hc).1)
              show ([c].all _) = true
              rw [List.all_cons, this]
              rfl
            · rw [eqv_nil]
              have e : isBits (.str z) lo hi = (((z.cps.toList.take z.cps.size).filter bad).map fun c => PyData.str ⟨#[c]⟩).isEmpty := by
                show (decide (lo ≤ (z.length : Int)) && decide ((z.length : Int) ≤ hi) && _) = _
                rw [c, c2, Bool.true_and, Bool.true_and, take_cps, Bool.eq_iff_iff, List.all_eq_true, List.isEmpty_iff, List.map_eq_nil_iff, List.filter_eq_nil_iff]
                constructor
                · intro h a ha
                  have := h a ha
                  simp only [bad, this, Bool.not_true]
                  decide
                · intro h a ha
                  have := h a ha
                  simpa only [bad, Bool.not_eq_true, Bool.not_eq_false', ne_eq] using this
              rw [e] at k
              exact k _ (Same_upd s1 hp)
        · rw [Bool.eq_false_iff.mpr c2]
          refine iteT ?_
          rw [no (by rw [Bool.eq_false_iff.mpr c2, Bool.and_false])] at k
          exact k H (Same.refl H)
      · refine ⟨_, rfl, iteT ?_⟩
        rw [no (by rw [Bool.eq_false_iff.mpr c, Bool.false_and])] at k
        exact k H (Same.refl H)
    | _ => exact iteT (k H (Same.refl H))
abbrev s_l_is : Stmt := top 25
abbrev n_l_is : List Str := ["_law_thing", "_law_due"]
theorem sc_l_is : FnScope n_l_is ["_law_thing", "_law_due"] (C8.fnScope s_l_is) := ⟨rfl, rfl, rfl, by decide +kernel, rfl, by decide +kernel, by decide +kernel⟩
def spIs : Sp := fun vs H Q _ => ∃ a b : Bool, vs = [.bl a, .bl b] ∧ Q (.bl (decide (a = b))) H
theorem c_l_is (T : Glob mg) (D : Dn K mg "_law_is" s_l_is ["_law_thing", "_law_due"]) : Cal P w K mg base 1 "_law_is" spIs [] := by
  refine D.cal sc_l_is (fun vs H Q E h => ?_) (fun f cdv A outer s H vs Q E hr h => ?_)
  · obtain ⟨a, b, rfl, _⟩ := h
    rfl
  · obtain ⟨a, b, rfl, k⟩ := h
    refine ⟨_, (pss_one (ps_ret (pe_and (pe_callB call_isi (by rfl) T.g_isinstance (by decide +kernel) (pa_cons (pv 0) (pa_cons (pe_bltn (v := .ty "bool") (by rfl) T.g_bool boot_bool rfl) pa_nil))) (pe_one (pe_cmpR op_eq (pv 0) (pv 1) (nomark _)))))), ?_⟩
    refine ⟨_, rfl, _, _, _, _, true, rfl, .ty _, .base (.bl a), kit_ty (by decide +kernel), _, rfl, ?_⟩
    refine iteT ?_
    refine ⟨_, rfl, _, rfl, rfl, ?_⟩
    have e : decide (V.bl a = V.bl b) = decide (a = b) := by
      rw [decide_eq_decide]
      exact ⟨fun h => by injection h, fun h => by rw [h]⟩
    rw [e]
    exact k
abbrev s_l_is_among : Stmt := top 24
abbrev n_l_is_among : List Str := ["_law_thing", "_law_least", "_law_most"]
theorem sc_l_is_among : FnScope n_l_is_among ["_law_thing", "_law_least", "_law_most"] (C8.fnScope s_l_is_among) := ⟨rfl, rfl, rfl, by decide +kernel, rfl, by decide +kernel, by decide +kernel⟩
theorem c_l_is_among (T : Glob mg) (D : Dn K mg "_law_is_among" s_l_is_among ["_law_thing", "_law_least", "_law_most"]) : Cal P w K mg base 1 "_law_is_among" spAmong [] := by
  refine D.cal sc_l_is_among (fun vs H Q E h => ?_) (fun f cdv A outer s H vs Q E hr h => ?_)
  · obtain ⟨x, lo, hi, rfl, _⟩ := h
    rfl
  · obtain ⟨x, lo, hi, rfl, ht, k⟩ := h
    refine ⟨_, (pss_one (ps_ret (pe_and (pe_callB call_isi (by rfl) T.g_isinstance (by decide +kernel) (pa_cons (pv 0) (pa_cons (pe_bltn (v := .ty "int") (by rfl) T.g_int boot_int rfl) pa_nil))) (pe_and (pe_not (pe_callB call_isi (by rfl) T.g_isinstance (by decide +kernel) (pa_cons (pv 0) (pa_cons (pe_bltn (v := .ty "bool") (by rfl) T.g_bool boot_bool rfl) pa_nil)))) (pe_one (pe_chain op_le op_le (pv 1) (pv 0) (pv 2))))))), ?_⟩
    obtain ⟨n1, t1, k1⟩ := ht.isInt (K := K)
    obtain ⟨n2, t2, k2⟩ := ht.isBool (K := K)
    refine ⟨_, rfl, _, _, _, _, _, rfl, .ty _, t1, k1, _, rfl, ?_⟩
    cases x with
    | int i =>
      refine iteT ?_
      refine ⟨_, rfl, _, _, _, _, _, rfl, .ty _, t2, k2, _, rfl, _, rfl, ?_⟩
      refine iteT ?_
      refine ⟨_, rfl, _, rfl, _, _, rfl, rfl, _, rfl, ?_⟩
      refine ite2 (fun c => ?_) fun c => ?_
      · refine ⟨_, rfl, _, _, rfl, rfl, ?_⟩
        have e : isAmong (.int i) lo hi = decide (i ≤ hi) := by
          show (decide (lo ≤ i) && decide (i ≤ hi)) = _
          rw [c, Bool.true_and]
        rw [e] at k
        exact k
      · have e : isAmong (.int i) lo hi = false := by
          show (decide (lo ≤ i) && decide (i ≤ hi)) = _
          rw [Bool.eq_false_iff.mpr c, Bool.false_and]
        rw [e] at k
        exact k
    | bl b =>
      refine iteT ?_
      refine ⟨_, rfl, _, _, _, _, _, rfl, .ty _, t2, k2, _, rfl, _, rfl, ?_⟩
      exact iteF k
    | _ => exact iteF k
abbrev s_l_covered : Stmt := top 22
abbrev n_l_covered : List Str := ["_law_one", "_law_other", "_law_wide", "_law_first", "_law_last", "_law_found", "_law_start"]
theorem sc_l_covered : FnScope n_l_covered ["_law_one", "_law_other", "_law_wide"] (C8.fnScope s_l_covered) := ⟨rfl, rfl, rfl, by decide +kernel, rfl, by decide +kernel, by decide +kernel⟩
def spCovered : Sp := fun vs H Q _ => ∃ (a b : List Bool) (v : Nat), vs = [.str (tx a), .str (tx b), .int (v : Int)] ∧ a.length = v ∧ b.length = v ∧ v ≤ 64 ∧ ∀ H', Same H H' → Q (.bl true) H'
theorem perm2 {x y : Int} {l : List Int} (p : l.Perm [x, y]) (s : l.Pairwise (· ≤ ·)) : ∃ a b, l = [a, b] ∧ a ≤ b ∧ (a = x ∨ a = y) ∧ (b = x ∨ b = y) := by
  have h := p.length_eq
  match l, h with
  | [a, b], _ =>
    refine ⟨a, b, rfl, ?_, ?_, ?_⟩
    · exact (List.pairwise_cons.mp s).1 b List.mem_cons_self
    · have := p.mem_iff.mp (List.mem_cons_self (a := a) (l := [b]))
      simpa using this
    · have := p.mem_iff.mp (List.mem_cons_of_mem a (List.mem_cons_self (a := b) (l := [])))
      simpa using this
theorem gr_span {f k v : Nat} (hf : f % 2 ^ k = 0) (h : f + 2 ^ k ≤ 2 ^ v) (hk : k ≤ v) : lo (word (f / 2 ^ k) (v - k)) v = f ∧ hi (word (f / 2 ^ k) (v - k)) v + 1 = f + 2 ^ k := by
  have e : v - (v - k) = k := by omega
  have p := pow_pos2 k
  have e2 : 2 ^ v = 2 ^ (v - k) * 2 ^ k := by rw [← Nat.pow_add]; congr 1; omega
  have hlt : f / 2 ^ k < 2 ^ (v - k) := by
    rw [Nat.div_lt_iff_lt_mul p, ← e2]
    omega
  have h1 : lo (word (f / 2 ^ k) (v - k)) v = f := by
    unfold lo
    rw [num_word, word_len, e, Nat.mod_eq_of_lt hlt]
    exact Nat.div_mul_cancel (Nat.dvd_of_mod_eq_zero hf)
  refine ⟨h1, ?_⟩
  unfold hi
  rw [h1, word_len, e]
  omega
theorem c_l_covered (T : Glob mg) (D : Dn K mg "_law_covered" s_l_covered ["_law_one", "_law_other", "_law_wide"]) (c_l_number : Cal P w K mg base 1 "_law_number" spNumber []) (c_starts_for : Cal P w K mg base 2 "starts_for" spStarts []) (c_l_halves : Cal P w K mg base 66 "_law_halves" (spHalves 66) [])
    (c_l_is_bits : Cal P w K mg base 1 "_law_is_bits" spBits []) (c_l_span : Cal P w K mg base 2 "_law_span" spLSpan []) : Cal P w K mg base 67 "_law_covered" spCovered [] := by
  refine D.cal sc_l_covered (fun vs H Q E h => ?_) (fun f cdv A outer s H vs Q E hr h => ?_)
  · obtain ⟨a, b, v, rfl, _⟩ := h
    rfl
  · obtain ⟨a, b, v, rfl, ha, hb, hv, k⟩ := h
    refine ⟨_, (pss_cons (ps_asg (pe_callB cr_sortedI (by rfl) T.g_sorted (by decide +kernel) (pa_cons (pe_lst (pa_cons (pe_c c_l_number hr (by first | decide | omega) rfl (pa_cons (pv 0) pa_nil)) (pa_cons (pe_c c_l_number hr (by first | decide | omega) rfl (pa_cons (pv 1) pa_nil)) pa_nil))) pa_nil)) (pg_unl rfl (pgs_cons (pg_name (i := 3) sc_l_covered.nd rfl (by first | exact Or.inl rfl | exact Or.inr rfl)) (pgs_cons (pg_name (i := 4) sc_l_covered.nd rfl (by first | exact Or.inl rfl | exact Or.inr rfl)) pgs_nil))))
      (pss_cons (ps_set (i := 5) sc_l_covered.nd rfl (by first | exact Or.inl rfl | exact Or.inr rfl) (pe_c c_starts_for hr (by first | decide | omega) rfl (pa_cons (pv 3) (pa_cons (pv 4) (pa_cons (pv 2) pa_nil)))))
      (pss_cons (ps_if (PW.pt (pw_or (pt_not (pt_val (pe_callB call_isi (by rfl) T.g_isinstance (by decide +kernel) (pa_cons (pv 5) (pa_cons (pe_bltn (v := .ty "list") (by rfl) T.g_list boot_list rfl) pa_nil))))) (pw_or1 (pt_cmpR op_ne (pe_callB call_len_seq (by rfl) T.g_len boot_len (pa_cons (pv 5) pa_nil)) (pe_c c_l_halves hr (by first | decide | omega) rfl (pa_cons (pv 3) (pa_cons (pv 4) (pa_cons pe_int (pa_cons (pe_op op_shl1 pe_int (pv 2)) pa_nil))))) (nomark _)))))
      (pss_one (ps_ret pe_bl))
      pss_nil)
      (pss_cons (ps_for PassesOwn.never rfl (pi_list (pv 5)) (pg_name (i := 6) sc_l_covered.nd rfl (by first | exact Or.inl rfl | exact Or.inr rfl))
      (pss_cons (ps_if (PW.pt (pw_or (pt_not (pt_val (pe_c c_l_is_bits hr (by first | decide | omega) rfl (pa_cons (pv 6) (pa_cons pe_int (pa_cons (pv 2) pa_nil)))))) (pw_or1 (pt_cmpR op_ne (pe_ix ix_tup (pe_c c_l_span hr (by first | decide | omega) rfl (pa_cons (pv 6) (pa_cons (pv 2) pa_nil))) pe_int (fun _ _ => rfl)) (pv 3) (nomark _)))))
      (pss_one (ps_ret pe_bl))
      pss_nil)
      (pss_one (ps_set (i := 3) sc_l_covered.nd rfl (by first | exact Or.inl rfl | exact Or.inr rfl) (pe_ix ix_tup (pe_c c_l_span hr (by first | decide | omega) rfl (pa_cons (pv 6) (pa_cons (pv 2) pa_nil))) pe_int (fun _ _ => rfl))))))
      (pss_one (ps_ret (pe_cmpR op_eq (pv 3) (pe_op op_add (pv 4) pe_int) (nomark _)))))))), ?_⟩
    refine ⟨_, rfl, _, rfl, by omega, _, rfl, _, rfl, by omega, (by show 2 ≤ sizeLine; decide), fun p hp => ?_⟩
    refine ⟨p, [((num a : Nat) : Int), ((num b : Nat) : Int)], rfl, SqL.of upd_same, fun ns q hperm hsort hq => ?_⟩
    obtain ⟨x, y, rfl, hxy, hx, hy⟩ := perm2 hperm hsort
    have bd : ∀ z : Int, (z = ((num a : Nat) : Int) ∨ z = ((num b : Nat) : Int)) → ∃ n : Nat, z = (n : Int) ∧ n < 2 ^ v := fun z hz => by
      rcases hz with rfl | rfl
      · exact ⟨num a, rfl, by have := num_lt a; rw [ha] at this; exact this⟩
      · exact ⟨num b, rfl, by have := num_lt b; rw [hb] at this; exact this⟩
    obtain ⟨f, rfl, hf⟩ := bd x hx
    obtain ⟨l, rfl, hl⟩ := bd y hy
    have hfl : f ≤ l := by omega
    have s0 : Same H (upd (upd H p (.lst [.int ((num a : Nat) : Int), .int ((num b : Nat) : Int)])) q (.lst [.int (f : Int), .int (l : Int)])) := Same_upd (Same_upd (Same.refl H) hp) hq
    refine ⟨q, _, rfl, SqL.of upd_same, rfl, _, _, rfl, _, _, rfl, rfl, ?_⟩
    refine ⟨_, rfl, _, rfl, _, rfl, f, l, v, rfl, hfl, hl, hv, fun ss H1 L g s1 hL0 hL => ?_⟩
    have s2 : Same H H1 := s0.trans s1
    refine ⟨_, rfl, _, _, _, _, true, rfl, .ty _, .base (.lst hL), kit_ty (by decide +kernel), _, rfl, ?_⟩
    refine iteF ?_
    refine ⟨_, rfl, L, _, rfl, .inl (SqL.of hL), ?_⟩
    refine ⟨_, rfl, _, rfl, _, rfl, 1, v, rfl, rfl, by omega, by decide, f, l, 0, v, by omega, by rw [Nat.one_mul]; rfl, rfl, _, rfl, ?_⟩
    have elen : (!decide (V.int (((ss.map fun b => V.str (tx b)).length : Nat) : Int) = V.int ((Br.hv f l 0 v : Nat) : Int))) = false := by
      rw [List.length_map, gr_len hl g]
      simp
    rw [elen]
    refine iteF ?_
    refine ⟨_, rfl, L, rfl, ⟨_, SqL.of hL⟩, for_it (walk_list (K := K) (a := L) (xs := ss.map fun b => V.str (tx b))) (fun i σ H' => ∃ (c : Nat) (o : Option V), σ = [some (.str (tx a)), some (.str (tx b)), some (.int (v : Int)), some (.int (c : Int)), some (.int (l : Int)), some (.ref L), o] ∧ Same H1 H' ∧ Gr l v c (ss.drop i) ∧ c ≤ l + 1)
      ⟨f, none, rfl, Same.refl H1, g, by omega⟩ (fun i σ H' _ ⟨_, _, _, s3, _⟩ => SqL.of (s3 _ _ hL)) ?_ ?_⟩
    · rintro i x σ H2 H3 hi ⟨c, o, rfl, s3, gi, hc⟩ ⟨rfl, hx⟩
      rw [List.length_map] at hi
      rw [List.getElem?_map] at hx
      have hd : ss.drop i = ss[i] :: ss.drop (i + 1) := List.drop_eq_getElem_cons hi
      rw [List.getElem?_eq_getElem hi] at hx
      have hx : V.str (tx ss[i]) = x := Option.some.inj hx
      subst hx
      rw [hd] at gi
      generalize hs : ss[i] = t at gi
      cases gi with
      | @cons _ k1 _ g1 g2 g3 g4 g5 g6 =>
        obtain ⟨q1, q2⟩ := gr_span g2 (by omega) g5
        have bits : isBits (.str (tx (word (c / 2 ^ k1) (v - k1)))) 0 (v : Int) = true := by
          rw [isBits_tx, word_len, decide_eq_true (by omega), decide_eq_true (by omega)]
          rfl
        refine ⟨_, rfl, _, rfl, _, _, _, rfl, thing_tx (by rw [word_len]; omega), fun H4 s4 => ?_⟩
        rw [bits]
        refine ⟨_, rfl, iteF ?_⟩
        refine ⟨_, rfl, _, rfl, _, _, rfl, by rw [word_len]; omega, hv, fun t1 ht1 => ?_⟩
        refine ⟨_, _, _, _, rfl, rfl, Or.inl (Or.inl upd_same), atI_nat (j := 0) rfl, _, rfl, rfl, _, rfl, ?_⟩
        rw [q1]
        have e0 : (!decide (V.int (c : Int) = V.int (c : Int))) = false := by simp
        rw [e0]
        refine iteF ?_
        refine ⟨_, rfl, _, rfl, _, _, rfl, by rw [word_len]; omega, hv, fun t2 ht2 => ?_⟩
        refine ⟨_, _, _, _, rfl, rfl, Or.inl (Or.inl upd_same), atI_nat (j := 1) rfl, c + 2 ^ k1, some (.str (tx (word (c / 2 ^ k1) (v - k1)))), ?_, Same_upd (Same_upd (s3.trans s4) ht1) ht2, g6, g3⟩
        rw [q2]
        rfl
    · rintro σ H2 ⟨c, o, rfl, s3, gi, hc⟩
      rw [List.length_map, List.drop_length] at gi
      cases gi with
      | nil h =>
        have e : c = l + 1 := by omega
        subst e
        refine ⟨_, rfl, _, rfl, _, _, rfl, rfl, rfl, ?_⟩
        have e0 : decide (V.int ((l + 1 : Nat) : Int) = V.int ((l : Int) + 1)) = true := decide_eq_true rfl
        rw [e0]
        exact k _ (s2.trans s3)
abbrev s_l_kinds_right : Stmt := top 26
abbrev n_l_kinds_right : List Str := ["_law_word_here", "_law_wide", "_law_number_here", "_law_odd", "_law_thing", "_law_some"]
theorem sc_l_kinds_right : FnScope n_l_kinds_right ["_law_word_here", "_law_wide", "_law_number_here"] (C8.fnScope s_l_kinds_right) := ⟨rfl, rfl, rfl, by decide +kernel, rfl, by decide +kernel, by decide +kernel⟩
def spKinds : Sp := fun vs H Q _ => ∃ (b : List Bool) (v n : Nat), vs = [.str (tx b), .int (v : Int), .int (n : Int)] ∧ b.length = v ∧ 1 ≤ v ∧ v ≤ 64 ∧ n < 2 ^ 62 ∧ ∀ H', Same H H' → Q (.bl true) H'
theorem sok_append {a b : Str} (h : a.cps.toList.all (fun c => decide (c < 1114112)) = true) (h2 : b.cps.toList.all (fun c => decide (c < 1114112)) = true) : (a ++ b).cps.toList.all (fun c => decide (c < 1114112)) = true := by
  rw [Str.cps_append, Array.toList_append, List.all_append, h, h2]
  rfl
theorem cutS_tx (b : List Bool) (lo hi : Option Int) : cutS (tx b) lo hi = tx ((b.drop (HT.sIx b.length 0 lo)).take (HT.sIx b.length b.length hi - HT.sIx b.length 0 lo)) := by
  unfold cutS
  rw [tx_len, tx_cps, ← List.map_drop, ← List.map_take]
  rfl
theorem sok_cut (b : List Bool) (lo hi : Option Int) : (cutS (tx b) lo hi).cps.toList.all (fun c => decide (c < 1114112)) = true := by
  rw [cutS_tx]
  exact sok_tx _
theorem pick {xs : List V} {n j : Nat} (hl : xs.length = n) (hn : 0 < n) (H : Hp) (h : ∀ x ∈ xs, Thing H x) : ∃ v, atI xs ((j % n : Nat) : Int) = some v ∧ Thing H v := by
  have hj : j % n < xs.length := by rw [hl]; exact Nat.mod_lt _ hn
  exact ⟨xs[j % n], atI_nat (List.getElem?_eq_getElem hj), h _ (List.getElem_mem hj)⟩
theorem c_l_kinds_right (T : Glob mg) (D : Dn K mg "_law_kinds_right" s_l_kinds_right ["_law_word_here", "_law_wide", "_law_number_here"]) (c_l_is : Cal P w K mg base 1 "_law_is" spIs []) (c_is_word : Cal P w K mg base 2 "is_word" spWord []) (c_is_start : Cal P w K mg base 2 "is_start" spStart [])
    (c_is_width : Cal P w K mg base 2 "is_width" spWidth []) (c_is_road : Cal P w K mg base 2 "is_road" spRoad []) (c_l_is_bits : Cal P w K mg base 1 "_law_is_bits" spBits []) (c_l_is_among : Cal P w K mg base 1 "_law_is_among" spAmong []) : Cal P w K mg base 3 "_law_kinds_right" spKinds [] := by
  refine D.cal sc_l_kinds_right (fun vs H Q E h => ?_) (fun f cdv A outer s H vs Q E hr h => ?_)
  · obtain ⟨b, v, n, rfl, _⟩ := h
    rfl
  · obtain ⟨b, v, n, rfl, hb, hv1, hv, hn, k⟩ := h
    refine ⟨_, (pss_cons (ps_set (i := 3) sc_l_kinds_right.nd rfl (by first | exact Or.inl rfl | exact Or.inr rfl) (pe_lst (pa_cons (pv 0) (pa_cons (pe_op op_add_str (pv 0) pe_str) (pa_cons (pe_slice sl_str (pv 0) (po_some pe_int) po_none) (pa_cons (pe_op op_add_str (pe_slice sl_str (pv 0) po_none (po_some (pe_un un_neg pe_int))) pe_str) (pa_cons pe_str (pa_cons pe_non (pa_cons pe_bl (pa_cons (pv 2) (pa_cons (pe_callTy (call_list_str rfl) (by rfl) T.g_list (by decide +kernel) (pa_cons (pv 0) pa_nil)) (pa_cons (pe_tup (pa_cons (pv 0) pa_nil)) (pa_cons pe_dnewK (pa_cons (pe_op op_add_str pe_str (pe_slice sl_str (pv 0) (po_some pe_int) po_none)) pa_nil))))))))))))))
      (pss_cons (ps_for PassesOwn.never rfl (pi_tup (pe_tup (pa_cons (pe_ix ix_list (pv 3) (pe_op op_mod (pv 2) pe_int) (fun _ _ => rfl)) (pa_cons (pe_ix ix_list (pv 3) (pe_op op_mod (pe_op op_fdiv (pv 2) pe_int) pe_int) (fun _ _ => rfl)) pa_nil)))) (pg_name (i := 4) sc_l_kinds_right.nd rfl (by first | exact Or.inl rfl | exact Or.inr rfl))
      (pss_cons (ps_if (pt_not (pt_val (pe_c c_l_is hr (by first | decide | omega) rfl (pa_cons (pe_c c_is_word hr (by first | decide | omega) rfl (pa_cons (pv 1) (pa_cons (pv 4) pa_nil))) (pa_cons (pe_c c_l_is_bits hr (by first | decide | omega) rfl (pa_cons (pv 4) (pa_cons (pv 1) (pa_cons (pv 1) pa_nil)))) pa_nil)))))
      (pss_one (ps_ret pe_bl))
      pss_nil)
      (pss_one (ps_if (pt_not (pt_val (pe_c c_l_is hr (by first | decide | omega) rfl (pa_cons (pe_c c_is_start hr (by first | decide | omega) rfl (pa_cons (pv 1) (pa_cons (pv 4) pa_nil))) (pa_cons (pe_c c_l_is_bits hr (by first | decide | omega) rfl (pa_cons (pv 4) (pa_cons pe_int (pa_cons (pv 1) pa_nil)))) pa_nil)))))
      (pss_one (ps_ret pe_bl))
      pss_nil))))
      (pss_cons (ps_set (i := 5) sc_l_kinds_right.nd rfl (by first | exact Or.inl rfl | exact Or.inr rfl) (pe_lst (pa_cons pe_int (pa_cons pe_int (pa_cons pe_int (pa_cons pe_int (pa_cons pe_bl (pa_cons pe_non (pa_cons pe_str (pa_cons (pe_lst (pa_cons pe_int pa_nil)) (pa_cons (pe_un un_neg pe_int) (pa_cons (pe_op op_pow pe_int pe_int) (pa_cons (pe_op op_sub (pe_op op_pow pe_int pe_int) pe_int) (pa_cons (pe_op op_pow pe_int pe_int) (pa_cons (pe_op op_mul (pv 2) (pv 2)) pa_nil)))))))))))))))
      (pss_cons (ps_for PassesOwn.never rfl (pi_tup (pe_tup (pa_cons (pe_ix ix_list (pv 5) (pe_op op_mod (pe_op op_fdiv (pv 2) pe_int) pe_int) (fun _ _ => rfl)) (pa_cons (pe_ix ix_list (pv 5) (pe_op op_mod (pe_op op_fdiv (pv 2) pe_int) pe_int) (fun _ _ => rfl)) pa_nil)))) (pg_name (i := 4) sc_l_kinds_right.nd rfl (by first | exact Or.inl rfl | exact Or.inr rfl))
      (pss_cons (ps_if (pt_not (pt_val (pe_c c_l_is hr (by first | decide | omega) rfl (pa_cons (pe_c c_is_width hr (by first | decide | omega) rfl (pa_cons (pv 4) pa_nil)) (pa_cons (pe_c c_l_is_among hr (by first | decide | omega) rfl (pa_cons (pv 4) (pa_cons pe_int (pa_cons pe_int pa_nil)))) pa_nil)))))
      (pss_one (ps_ret pe_bl))
      pss_nil)
      (pss_one (ps_if (pt_not (pt_val (pe_c c_l_is hr (by first | decide | omega) rfl (pa_cons (pe_c c_is_road hr (by first | decide | omega) rfl (pa_cons (pv 4) pa_nil)) (pa_cons (pe_c c_l_is_among hr (by first | decide | omega) rfl (pa_cons (pv 4) (pa_cons pe_int (pa_cons (pe_op op_sub (pe_op op_pow pe_int pe_int) pe_int) pa_nil)))) pa_nil)))))
      (pss_one (ps_ret pe_bl))
      pss_nil))))
      (pss_one (ps_ret pe_bl)))))), ?_⟩
    have lb : (tx b).length ≤ 64 := by rw [tx_len]; omega
    have z0 : (Str.ofString "0").length = 1 := by decide +kernel
    have z2 : (Str.ofString "2").length = 1 := by decide +kernel
    have zb : (Str.ofString " ").length = 1 := by decide +kernel
    have sl : (64 : Nat) + 10 ≤ sizeLine := by decide
    have c1 := cutS_length (tx b) (some 1) none
    have c2 := cutS_length (tx b) none (some (-1))
    refine ⟨_, rfl, _, rfl, _, _, rfl, rfl, (by omega), _, rfl, _, rfl, _, rfl, (by omega), ?_⟩
    refine ⟨_, rfl, _, rfl, _, rfl, _, rfl, (by omega), _, _, rfl, rfl, (by show (cutS (tx b) none (some (-1))).length + _ ≤ sizeLine; omega), ?_⟩
    refine ⟨_, rfl, _, rfl, _, rfl, (by omega), fun L hL => ?_⟩
    refine ⟨_, rfl, (by show 1 ≤ sizeLine; decide), fun t ht d hd => ⟨_, rfl, _, rfl, _, rfl, (by omega), _, _, rfl, rfl, (by omega), (by show 12 ≤ sizeLine; decide), fun p hp => ?_⟩⟩
    have nLt : L ≠ t := ne_of_none upd_same ht
    have ntd : t ≠ d := ne_of_none upd_same hd
    have nLd : L ≠ d := ne_of_none ((upd_ne nLt).trans upd_same) hd
    have ndp : d ≠ p := ne_of_none upd_same hp
    have ntp : t ≠ p := ne_of_none ((upd_ne ntd).trans upd_same) hp
    have nLp : L ≠ p := ne_of_none ((upd_ne nLd).trans ((upd_ne nLt).trans upd_same)) hp
    generalize hH : upd _ p _ = H4
    have s4 : Same H H4 := by rw [← hH]; exact Same_upd (Same_upd (Same_upd (Same_upd (Same.refl H) hL) ht) hd) hp
    have fL : ∃ xs, H4 L = some (.lst xs) := ⟨_, by rw [← hH]; exact (upd_ne nLp).trans ((upd_ne nLd).trans ((upd_ne nLt).trans upd_same))⟩
    have fT : ∃ xs, H4 t = some (.tup xs) := ⟨_, by rw [← hH]; exact (upd_ne ntp).trans ((upd_ne ntd).trans upd_same)⟩
    have fD : ∃ xs, H4 d = some (.dK xs) := ⟨_, by rw [← hH]; exact (upd_ne ndp).trans upd_same⟩
    obtain ⟨_, fL⟩ := fL
    obtain ⟨_, fT⟩ := fT
    obtain ⟨_, fD⟩ := fD
    have fP : ∃ xs, H4 p = some (.lst xs) ∧ xs.length = 12 ∧ ∀ x ∈ xs, Thing H4 x := by
      refine ⟨_, by rw [← hH]; exact upd_same, rfl, fun x hx => ?_⟩
      simp only [List.mem_cons, List.not_mem_nil, or_false] at hx
      have sb := sok_tx b
      rcases hx with rfl | rfl | rfl | rfl | rfl | rfl | rfl | rfl | rfl | rfl | rfl | rfl
      · exact .str _ (by omega) sb
      · exact .str _ (by show (tx b ++ Str.ofString "0").length ≤ _; rw [Str.length_append]; omega) (sok_append sb (by decide +kernel))
      · exact .str _ (by omega) (sok_cut b _ _)
      · exact .str _ (by show (cutS (tx b) none (some (-1)) ++ Str.ofString "2").length ≤ _; rw [Str.length_append]; omega) (sok_append (sok_cut b _ _) (by decide +kernel))
      · exact .str _ (by decide +kernel) (by decide +kernel)
      · exact .non
      · exact .bl _
      · exact .int _
      · exact .lst fL
      · exact .tup fT
      · exact .dct fD
      · exact .str _ (by show (Str.ofString " " ++ cutS (tx b) (some 1) none).length ≤ _; rw [Str.length_append]; omega) (sok_append (by decide +kernel) (sok_cut b _ _))
    obtain ⟨xs, fP, lx, tx12⟩ := fP
    have m1 : (n : Int) % 12 = ((n % 12 : Nat) : Int) := by omega
    have m2 : (n : Int) / 12 % 12 = ((n / 12 % 12 : Nat) : Int) := by omega
    obtain ⟨x1, e1, t1⟩ := pick (j := n) lx (by decide) H4 tx12
    obtain ⟨x2, e2, t2⟩ := pick (j := n / 12) lx (by decide) H4 tx12
    rw [← m1] at e1
    rw [← m2] at e2
    refine ⟨_, rfl, _, rfl, _, _, rfl, rfl, (by show (0 : Int) < 12; decide), p, xs, _, x1, rfl, rfl, SqL.of fP, e1, ?_⟩
    refine ⟨_, rfl, _, rfl, _, _, rfl, rfl, ⟨by decide, by decide⟩, _, _, rfl, rfl, (by show (0 : Int) < 12; decide), p, xs, _, x2, rfl, rfl, SqL.of fP, e2, (by show 2 ≤ sizeLine; decide), fun q hq => ?_⟩
    refine ⟨q, rfl, ⟨_, Or.inl (Or.inl upd_same)⟩, for_it (walk_tup (K := K) (a := q) (xs := [x1, x2])) (fun i σ H' => ∃ o1 o2, σ = [some (.str (tx b)), some (.int (v : Int)), some (.int (n : Int)), some (.ref p), o1, o2] ∧ Same (upd H4 q (.tup [x1, x2])) H')
      ⟨none, none, rfl, Same.refl _⟩ (fun i σ H' _ ⟨_, _, _, s5⟩ => Or.inl (Or.inl (s5 _ _ upd_same))) ?_ ?_⟩
    · rintro i x σ H5 H6 hi ⟨o1, o2, rfl, s5⟩ ⟨rfl, hx⟩
      have tX : Thing H6 x := by
        have z := Same_upd (o := .tup [x1, x2]) (Same.refl H4) hq
        have : x = x1 ∨ x = x2 := by
          match i, hx with
          | 0, hx => exact .inl (Option.some.inj hx).symm
          | 1, hx => exact .inr (Option.some.inj hx).symm
          | (j + 2), hx => cases hx
        rcases this with rfl | rfl
        · exact t1.same (z.trans s5)
        · exact t2.same (z.trans s5)
      refine ⟨_, rfl, _, rfl, x, _, rfl, tX, fun H7 s7 => ?_⟩
      refine ⟨_, rfl, _, rfl, _, rfl, x, _, _, rfl, tX.same s7, fun H8 s8 => ?_⟩
      refine ⟨_, _, rfl, _, rfl, ?_⟩
      rw [decide_eq_true rfl]
      refine iteF ?_
      refine ⟨_, rfl, _, rfl, x, _, rfl, tX.same (s7.trans s8), fun H9 s9 => ?_⟩
      refine ⟨_, rfl, _, rfl, x, _, _, rfl, tX.same ((s7.trans s8).trans s9), fun H10 s10 => ?_⟩
      refine ⟨_, _, rfl, _, rfl, ?_⟩
      rw [decide_eq_true rfl]
      refine iteF ?_
      exact ⟨_, _, rfl, (((s5.trans s7).trans s8).trans s9).trans s10⟩
    · rintro σ H5 ⟨o1, o2, rfl, s5⟩
      have s6 : Same H H5 := (s4.trans (Same_upd (Same.refl H4) hq)).trans s5
      have z8 : (Str.ofString "8").length ≤ 100000 := by decide +kernel
      refine ⟨(by show 1 ≤ sizeLine; decide), fun L2 hL2 => ⟨_, rfl, _, _, rfl, rfl, ⟨by decide, by decide, by decide⟩, _, _, rfl, rfl, ⟨by decide, by decide, by decide⟩, _, _, rfl, rfl, _, _, rfl, rfl, ⟨by decide, by decide, by decide⟩, ?_⟩⟩
      refine ⟨_, rfl, _, rfl, _, _, rfl, rfl, .inl ⟨by omega, by omega⟩, (by show 13 ≤ sizeLine; decide), fun p2 hp2 => ?_⟩
      have nL2 : L2 ≠ p2 := ne_of_none upd_same hp2
      generalize hH2 : upd _ p2 _ = H6
      have s7 : Same H5 H6 := by rw [← hH2]; exact Same_upd (Same_upd (Same.refl H5) hL2) hp2
      have fL2 : ∃ xs, H6 L2 = some (.lst xs) := ⟨_, by rw [← hH2]; exact (upd_ne nL2).trans upd_same⟩
      obtain ⟨_, fL2⟩ := fL2
      have fP2 : ∃ xs, H6 p2 = some (.lst xs) ∧ xs.length = 13 ∧ ∀ x ∈ xs, Thing H6 x := by
        refine ⟨_, by rw [← hH2]; exact upd_same, rfl, fun x hx => ?_⟩
        simp only [List.mem_cons, List.not_mem_nil, or_false] at hx
        rcases hx with rfl | rfl | rfl | rfl | rfl | rfl | rfl | rfl | rfl | rfl | rfl | rfl | rfl
        all_goals first | exact .int _ | exact .bl _ | exact .non | exact .str _ z8 (by decide +kernel) | exact .lst fL2
      obtain ⟨ys, fP2, ly, ty⟩ := fP2
      have m3 : (n : Int) / 144 % 13 = ((n / 144 % 13 : Nat) : Int) := by omega
      have m4 : (n : Int) / 1900 % 13 = ((n / 1900 % 13 : Nat) : Int) := by omega
      obtain ⟨y1, e3, t3⟩ := pick (j := n / 144) ly (by decide) H6 ty
      obtain ⟨y2, e4, t4⟩ := pick (j := n / 1900) ly (by decide) H6 ty
      rw [← m3] at e3
      rw [← m4] at e4
      refine ⟨_, rfl, _, rfl, _, _, rfl, rfl, ⟨by decide, by decide⟩, _, _, rfl, rfl, (by show (0 : Int) < 13; decide), p2, ys, _, y1, rfl, rfl, SqL.of fP2, e3, ?_⟩
      refine ⟨_, rfl, _, rfl, _, _, rfl, rfl, ⟨by decide, by decide⟩, _, _, rfl, rfl, (by show (0 : Int) < 13; decide), p2, ys, _, y2, rfl, rfl, SqL.of fP2, e4, (by show 2 ≤ sizeLine; decide), fun q2 hq2 => ?_⟩
      refine ⟨q2, rfl, ⟨_, Or.inl (Or.inl upd_same)⟩, for_it (walk_tup (K := K) (a := q2) (xs := [y1, y2])) (fun i σ H' => ∃ o1, σ = [some (.str (tx b)), some (.int (v : Int)), some (.int (n : Int)), some (.ref p), o1, some (.ref p2)] ∧ Same (upd H6 q2 (.tup [y1, y2])) H')
        ⟨_, rfl, Same.refl _⟩ (fun i σ H' _ ⟨_, _, s8⟩ => Or.inl (Or.inl (s8 _ _ upd_same))) ?_ ?_⟩
      · rintro i x σ H7 H8 hi ⟨o1, rfl, s8⟩ ⟨rfl, hx⟩
        have tX : Thing H8 x := by
          have z := Same_upd (o := .tup [y1, y2]) (Same.refl H6) hq2
          have : x = y1 ∨ x = y2 := by
            match i, hx with
            | 0, hx => exact .inl (Option.some.inj hx).symm
            | 1, hx => exact .inr (Option.some.inj hx).symm
            | (j + 2), hx => cases hx
          rcases this with rfl | rfl
          · exact t3.same (z.trans s8)
          · exact t4.same (z.trans s8)
        refine ⟨_, rfl, x, rfl, tX, ?_⟩
        refine ⟨_, rfl, x, _, _, rfl, tX, ?_⟩
        refine ⟨_, _, rfl, _, rfl, ?_⟩
        rw [decide_eq_true rfl]
        refine iteF ?_
        refine ⟨_, rfl, x, rfl, tX, ?_⟩
        refine ⟨_, rfl, _, _, rfl, rfl, ⟨by decide, by decide, by decide⟩, _, _, rfl, rfl, x, _, _, rfl, tX, ?_⟩
        refine ⟨_, _, rfl, _, rfl, ?_⟩
        rw [decide_eq_true (show isAmong x 0 18446744073709551615 = isAmong x 0 ((2 : Int) ^ (64 : Int).toNat - 1) from rfl)]
        refine iteF ?_
        exact ⟨_, rfl, s8⟩
      · rintro σ H7 ⟨o1, rfl, s8⟩
        exact k _ ((s6.trans s7).trans ((Same_upd (Same.refl H6) hq2).trans s8))
abbrev s_law : Stmt := top 27
abbrev n_law : List Str := ["_law_script", "_law_k", "_law_cell", "_law_number_here", "_law_wide", "_law_word_here", "_law_due", "_law_found", "_law_start", "_law_first", "_law_behind"]
theorem sc_law : FnScope n_law ["_law_script"] (C8.fnScope s_law) := ⟨rfl, rfl, rfl, by decide +kernel, rfl, by decide +kernel, by decide +kernel⟩
def spLaw (K : PySem.W.Frag) : Sp := fun vs H Q _ => ∃ (a : Addr) (ns : List Int), vs = [.ref a] ∧ SqL K H a (ns.map V.int) ∧ ns.length ≤ 63 ∧ ∀ H', Q (.bl true) H'
theorem mixed_lt (c k : Int) : mixed c k < 2147483629 := by unfold mixed; omega
theorem ok_law {f : Addr} {fd : FuncData} (F : C8.Fun K "law" "law" s_law f fd) (T : Glob mg) (c_l_mixed : Cal P w K mg base 1 "_law_mixed" spMixed []) (c_l_width : Cal P w K mg base 1 "_law_width" spLWidth []) (c_l_bits : Cal P w K mg base 2 "_law_bits" spLBits []) (c_l_number : Cal P w K mg base 1 "_law_number" spNumber [])
    (c_number_of : Cal P w K mg base 1 "number_of" spNumber []) (c_word_of : Cal P w K mg base 1 "word_of" spWordOf []) (c_l_span : Cal P w K mg base 2 "_law_span" spLSpan []) (c_span_of : Cal P w K mg base 2 "span_of" spSpan []) (c_l_covered : Cal P w K mg base 67 "_law_covered" spCovered [])
    (c_l_word : Cal P w K mg base 1 "_law_word" spLWord []) (c_l_kinds_right : Cal P w K mg base 3 "_law_kinds_right" spKinds []) : FnOk P w K mg base C8.CX0 68 f fd ["_law_script"] (spLaw K) := by
  refine C8.fn0 F sc_law (fun vs H Q E h => ?_) (fun cdv A outer s H vs Q E hr h => ?_)
  · obtain ⟨a, ns, rfl, _⟩ := h
    rfl
  · obtain ⟨a, ns, rfl, ha, hns, k⟩ := h
    refine ⟨_, (pss_cons (ps_for PassesOwn.never rfl (pi_enum rfl T.g_enumerate (pa_cons (pe_op op_cat (pe_slice sl_list (pv 0) po_none (po_some pe_int)) (pe_lst (pa_cons pe_int pa_nil))) pa_nil)) (pg_tup rfl (pgs_cons (pg_name (i := 1) sc_law.nd rfl (by first | exact Or.inl rfl | exact Or.inr rfl)) (pgs_cons (pg_name (i := 2) sc_law.nd rfl (by first | exact Or.inl rfl | exact Or.inr rfl)) pgs_nil)))
      (pss_cons (ps_set (i := 3) sc_law.nd rfl (by first | exact Or.inl rfl | exact Or.inr rfl) (pe_c c_l_mixed hr (by first | decide | omega) rfl (pa_cons (pv 2) (pa_cons (pv 1) pa_nil))))
      (pss_cons (ps_set (i := 4) sc_law.nd rfl (by first | exact Or.inl rfl | exact Or.inr rfl) (pe_c c_l_width hr (by first | decide | omega) rfl (pa_cons (pv 3) pa_nil)))
      (pss_cons (ps_set (i := 5) sc_law.nd rfl (by first | exact Or.inl rfl | exact Or.inr rfl) (pe_c c_l_bits hr (by first | decide | omega) rfl (pa_cons (pv 3) (pa_cons (pv 4) pa_nil))))
      (pss_cons (ps_set (i := 6) sc_law.nd rfl (by first | exact Or.inl rfl | exact Or.inr rfl) (pe_c c_l_number hr (by first | decide | omega) rfl (pa_cons (pv 5) pa_nil)))
      (pss_cons (ps_set (i := 7) sc_law.nd rfl (by first | exact Or.inl rfl | exact Or.inr rfl) (pe_c c_number_of hr (by first | decide | omega) rfl (pa_cons (pv 5) pa_nil)))
      (pss_cons (ps_if (PW.pt (pw_or (pt_val (pe_callB call_isi (by rfl) T.g_isinstance (by decide +kernel) (pa_cons (pv 7) (pa_cons (pe_bltn (v := .ty "bool") (by rfl) T.g_bool boot_bool rfl) pa_nil)))) (pw_or (pt_cmpR op_ne (pv 7) (pv 6) (nomark _)) (pw_or1 (pt_cmpR op_ne (pe_c c_word_of hr (by first | decide | omega) rfl (pa_cons (pv 6) (pa_cons (pv 4) pa_nil))) (pv 5) (nomark _))))))
      (pss_one (ps_ret pe_bl))
      pss_nil)
      (pss_cons (ps_set (i := 8) sc_law.nd rfl (by first | exact Or.inl rfl | exact Or.inr rfl) (pe_slice sl_str (pv 5) po_none (po_some (pe_op op_mod (pe_op op_fdiv (pv 3) pe_int) (pe_op op_add (pv 4) pe_int)))))
      (pss_cons (ps_asg (pe_c c_l_span hr (by first | decide | omega) rfl (pa_cons (pv 8) (pa_cons (pv 4) pa_nil))) (pg_tup rfl (pgs_cons (pg_name (i := 9) sc_law.nd rfl (by first | exact Or.inl rfl | exact Or.inr rfl)) (pgs_cons (pg_name (i := 10) sc_law.nd rfl (by first | exact Or.inl rfl | exact Or.inr rfl)) pgs_nil))))
      (pss_cons (ps_if (PW.pt (pw_or (pt_cmpR op_ne (pe_c c_number_of hr (by first | decide | omega) rfl (pa_cons (pv 8) pa_nil)) (pe_c c_l_number hr (by first | decide | omega) rfl (pa_cons (pv 8) pa_nil)) (nomark _)) (pw_or1 (pt_cmpR (op_neD hr.units) (pe_c c_span_of hr (by first | decide | omega) rfl (pa_cons (pv 8) (pa_cons (pv 4) pa_nil))) (pe_tup (pa_cons (pv 9) (pa_cons (pe_op op_sub (pv 10) pe_int) pa_nil))) (nomark _)))))
      (pss_one (ps_ret pe_bl))
      pss_nil)
      (pss_cons (ps_if (pt_not (pt_val (pe_c c_l_covered hr (by first | decide | omega) rfl (pa_cons (pv 5) (pa_cons (pe_c c_l_word hr (by first | decide | omega) rfl (pa_cons (pv 5) (pa_cons (pe_op op_fdiv (pv 3) pe_int) pa_nil))) (pa_cons (pv 4) pa_nil))))))
      (pss_one (ps_ret pe_bl))
      pss_nil)
      (pss_cons (ps_if (pt_not (pt_val (pe_c c_l_covered hr (by first | decide | omega) rfl (pa_cons (pv 5) (pa_cons (pe_c c_l_bits hr (by first | decide | omega) rfl (pa_cons (pe_op op_add (pv 3) pe_int) (pa_cons (pv 4) pa_nil))) (pa_cons (pv 4) pa_nil))))))
      (pss_one (ps_ret pe_bl))
      pss_nil)
      (pss_one (ps_if (pt_not (pt_val (pe_c c_l_kinds_right hr (by first | decide | omega) rfl (pa_cons (pv 5) (pa_cons (pv 4) (pa_cons (pe_c c_l_mixed hr (by first | decide | omega) rfl (pa_cons (pv 3) (pa_cons pe_int pa_nil))) pa_nil))))))
      (pss_one (ps_ret pe_bl))
      pss_nil))))))))))))))
      (pss_one (ps_ret pe_bl))), ?_⟩
    refine ⟨_, rfl, _, rfl, a, _, rfl, ha, fun p hp => ?_⟩
    refine ⟨(by show 1 ≤ sizeLine; decide), fun q hq => ?_⟩
    have npq : p ≠ q := ne_of_none upd_same hq
    have lc := cutV_length (ns.map V.int) none (some 60)
    rw [List.length_map] at lc
    refine ⟨p, q, _, _, rfl, rfl, (upd_ne npq).trans upd_same, upd_same, ?_, fun r hr2 => ?_⟩
    · show (cutV (ns.map V.int) none (some 60)).length + 1 ≤ sizeLine
      exact Nat.le_trans (by omega : _ ≤ 64) (by decide)
    have allInt : ∀ x ∈ cutV (ns.map V.int) none (some 60) ++ [V.int 3], ∃ c : Int, x = .int c := by
      intro x hx
      rcases List.mem_append.mp hx with hx | hx
      · obtain ⟨c, _, rfl⟩ := List.mem_map.mp (List.mem_of_mem_drop (List.mem_of_mem_take hx))
        exact ⟨c, rfl⟩
      · exact ⟨3, List.mem_singleton.mp hx⟩
    have len : (cutV (ns.map V.int) none (some 60) ++ [V.int 3]).length ≤ 64 := by
      rw [List.length_append, List.length_singleton]
      omega
    generalize cutV (ns.map V.int) none (some 60) ++ [V.int 3] = xs at *
    generalize hH : upd _ r _ = H1
    have f1 : H1 r = some (.lst xs) := by rw [← hH]; exact upd_same
    refine ⟨r, xs, rfl, SqL.of f1, for_it (walk_enum (K := K) (a := r) (xs := xs)) (fun i σ H' => ∃ l : List (Option V), l.length = 10 ∧ σ = some (.ref a) :: l ∧ Same H1 H')
      ⟨_, by rfl, rfl, Same.refl _⟩ (fun i σ H' _ ⟨_, _, _, s2⟩ => SqL.of (s2 _ _ f1)) ?_ ?_⟩
    · rintro i x σ H2 H3 hik ⟨l, hl, rfl, s2⟩ ⟨t, x0, y0, rfl, ht, rfl, e0, e1⟩
      cases e0
      obtain ⟨c, rfl⟩ := allInt y0 (List.mem_of_getElem? e1)
      obtain ⟨l1, l2, l3, l4, l5, l6, l7, l8, l9, l10, rfl⟩ : ∃ l1 l2 l3 l4 l5 l6 l7 l8 l9 l10, l = [l1, l2, l3, l4, l5, l6, l7, l8, l9, l10] := by
        match l, hl with
        | [l1, l2, l3, l4, l5, l6, l7, l8, l9, l10], _ => exact ⟨_, _, _, _, _, _, _, _, _, _, rfl⟩
      have s3 := Same_upd (o := .tup [.int (i : Nat), .int c]) s2 ht
      refine ⟨t, _, rfl, Or.inl (Or.inl upd_same), rfl, _, _, rfl, _, _, rfl, rfl, ?_⟩
      refine ⟨_, rfl, _, rfl, c, _, rfl, ⟨by omega, by omega⟩, ?_⟩
      have hm := mixed_lt c (i : Nat)
      generalize mixed c (i : Nat) = m at hm
      obtain ⟨w1, w2⟩ := widthL_le (m : Int)
      refine ⟨_, rfl, _, rfl, fun H4 s4 => ?_⟩
      generalize widthL (m : Int) = v at w1 w2
      refine ⟨_, rfl, _, rfl, (m : Int), v, rfl, w2, fun H5 s5 => ?_⟩
      have lb := bitsL_len (m : Int) v
      generalize bitsL (m : Int) v = b at lb
      refine ⟨_, rfl, b, rfl, by omega, _, rfl, b, rfl, by omega, ?_⟩
      refine ⟨_, rfl, _, _, _, _, false, rfl, .ty _, .base (.int _), kit_ty (by decide +kernel), _, rfl, ?_⟩
      refine iteF ?_
      refine ⟨_, rfl, _, rfl, rfl, _, rfl, ?_⟩
      rw [decide_eq_true rfl]
      refine iteF ?_
      refine ⟨_, rfl, _, rfl, num b, v, rfl, by omega, fun H6 s6 => ?_⟩
      have ew : word (num b) v = b := by have := word_num b; rw [lb] at this; exact this
      rw [ew]
      refine ⟨_, rfl, rfl, _, rfl, ?_⟩
      rw [decide_eq_true rfl]
      refine iteF ?_
      have lb2 : (tx b).length ≤ sizeLine := by rw [tx_len, lb]; exact Nat.le_trans w2 (by decide)
      have ei : (m : Int) / 10 % ((v : Int) + 1) = ((m / 10 % (v + 1) : Nat) : Int) := by push_cast; rfl
      refine ⟨_, rfl, _, rfl, _, _, rfl, rfl, ⟨by decide, by decide⟩, _, rfl, _, _, rfl, rfl, _, _, rfl, rfl, (by show (0 : Int) < (v : Int) + 1; omega), _, rfl, tx b, rfl, lb2, ?_⟩
      have hj : m / 10 % (v + 1) ≤ v := Nat.lt_succ_iff.mp (Nat.mod_lt (m / 10) (Nat.succ_pos v))
      have es : cutS (tx b) none (some ((m : Int) / 10 % ((v : Int) + 1))) = tx (b.take (m / 10 % (v + 1))) := by
        rw [ei, cutS_tx, HT.sIx_none, HT.sIx_nat, Nat.sub_zero, List.drop_zero, Nat.min_eq_left (by omega)]
      rw [es]
      have lst : (b.take (m / 10 % (v + 1))).length ≤ v := by rw [List.length_take]; omega
      generalize b.take (m / 10 % (v + 1)) = st at lst
      have s7 : Same H1 H6 := ((s3.trans s4).trans s5).trans s6
      refine ⟨_, rfl, _, rfl, st, v, rfl, lst, w2, fun t1 ht1 => ?_⟩
      refine ⟨t1, _, rfl, Or.inl (Or.inl upd_same), rfl, _, _, rfl, _, _, rfl, rfl, ?_⟩
      refine ⟨_, rfl, st, rfl, by omega, _, rfl, st, rfl, by omega, rfl, _, rfl, ?_⟩
      rw [decide_eq_true rfl]
      refine iteF ?_
      refine ⟨_, rfl, _, rfl, st, v, rfl, lst, w2, fun t2 ht2 => ?_⟩
      refine ⟨_, rfl, _, rfl, _, _, rfl, rfl, (by show 2 ≤ sizeLine; decide), fun t3 ht3 => ?_⟩
      have n23 : t2 ≠ t3 := ne_of_none upd_same ht3
      have eh : ((hi st v + 1 : Nat) : Int) - 1 = ((hi st v : Nat) : Int) := by omega
      have dt : ∀ (H : Hp) (t : Addr), H t = some (.tup [V.int ((lo st v : Nat) : Int), V.int ((hi st v : Nat) : Int)]) → Dp K H (.ref t) (.tuple [.int ((lo st v : Nat) : Int), .int ((hi st v : Nat) : Int)]) := fun H t h =>
        .tup (Or.inl (Or.inl h)) (.cons (.int _) (.cons (.int _) .nil))
      have dk : DOk 1 (.tuple [.int ((lo st v : Nat) : Int), .int ((hi st v : Nat) : Int)]) := dok_tup fun d hd => by
        simp only [List.mem_cons, List.not_mem_nil, or_false] at hd
        rcases hd with rfl | rfl <;> exact dok_int _
      refine ⟨_, _, dt _ t2 ((upd_ne n23).trans upd_same), dt _ t3 (by rw [← eh]; exact upd_same), dk.shaped, dk.shaped, _, rfl, ?_⟩
      rw [SeqAt.eqv_refl _ dk.1]
      refine iteF ?_
      generalize hHt : upd _ t3 _ = Ht
      have s8 : Same H1 Ht := by rw [← hHt]; exact Same_upd (Same_upd (Same_upd s7 ht1) ht2) ht3
      -- covered, twice
      refine ⟨_, rfl, _, rfl, _, rfl, _, _, rfl, rfl, ⟨by decide, by decide⟩, b, m / 10, by show [V.str (tx b), V.int ((m : Int) / 10)] = _; rw [show (m : Int) / 10 = ((m / 10 : Nat) : Int) by omega], by omega, by omega, fun H7 s9 => ?_⟩
      refine ⟨_, rfl, b, wordL b (m / 10), v, rfl, lb, by rw [wordL_len, lb], w2, fun H8 s10 => ?_⟩
      refine ⟨_, rfl, iteF ?_⟩
      refine ⟨_, rfl, _, rfl, _, _, rfl, rfl, _, rfl, (m : Int) + 7, v, rfl, w2, fun H9 s11 => ?_⟩
      refine ⟨_, rfl, b, bitsL ((m : Int) + 7) v, v, rfl, lb, bitsL_len _ _, w2, fun H10 s12 => ?_⟩
      refine ⟨_, rfl, iteF ?_⟩
      have hm2 := mixed_lt (m : Int) 5
      refine ⟨_, rfl, _, rfl, _, rfl, (m : Int), 5, rfl, ⟨by decide, by decide⟩, b, v, mixed (m : Int) 5, rfl, lb, w1, w2, by omega, fun H11 s13 => ?_⟩
      refine ⟨_, rfl, iteF ?_⟩
      exact ⟨_, by rfl, rfl, ((((s8.trans s9).trans s10).trans s11).trans s12).trans s13⟩
    · rintro σ H2 ⟨l, hl, rfl, s2⟩
      exact k _
end
end Br

/-! ### the end -/
namespace Br
open PySem PySem.Spec PyProof.Rows L2
open C8 (Cal Met Mak Def)
theorem all_mk {l : PySem.W.OpenLaw} {w : World} {K : PySem.W.Frag} {h : Heap} {mg : Str → Option Value} {fa fL fd0 fd1 fd2 fd3 fd4 fd5 fd6 fd7 fd8 fd9 fd10 fd11 fd12 fd13 fd14 fd15 fd16 fd17 fd18 fd19 fd20 fd21 : Addr} (X : K.In h) (G : h.Ns mainGlobals mg) (hfa : mg "law" = some (.ref fa))
    {odL anL odd0 and0 odd1 and1 odd2 and2 odd3 and3 odd4 and4 odd5 and5 odd6 and6 odd7 and7 odd8 and8 odd9 and9 odd10 and10 odd11 and11 odd12 and12 odd13 and13 odd14 and14 odd15 and15 odd16 and16 odd17 and17 odd18 and18 odd19 and19 odd20 and20 odd21 and21 : Option Addr} {slL sld0 sld1 sld2 sld3 sld4 sld5 sld6 sld7 sld8 sld9 sld10 sld11 sld12 sld13 sld14 sld15 sld16 sld17 sld18 sld19 sld20 sld21 : Array (Option Value)} {ocL kVL dcL pmL cdL ctL ocd0 kVd0 dcd0 pmd0 cdd0 ctd0 ocd1 kVd1 dcd1 pmd1 cdd1 ctd1 ocd2 kVd2 dcd2 pmd2 cdd2 ctd2 ocd3 kVd3 dcd3 pmd3 cdd3 ctd3 ocd4 kVd4 dcd4 pmd4 cdd4 ctd4 ocd5 kVd5 dcd5 pmd5 cdd5 ctd5 ocd6 kVd6 dcd6 pmd6 cdd6 ctd6 ocd7 kVd7 dcd7 pmd7 cdd7 ctd7 ocd8 kVd8 dcd8 pmd8 cdd8 ctd8 ocd9 kVd9 dcd9 pmd9 cdd9 ctd9 ocd10 kVd10 dcd10 pmd10 cdd10 ctd10 ocd11 kVd11 dcd11 pmd11 cdd11 ctd11 ocd12 kVd12 dcd12 pmd12 cdd12 ctd12 ocd13 kVd13 dcd13 pmd13 cdd13 ctd13 ocd14 kVd14 dcd14 pmd14 cdd14 ctd14 ocd15 kVd15 dcd15 pmd15 cdd15 ctd15 ocd16 kVd16 dcd16 pmd16 cdd16 ctd16 ocd17 kVd17 dcd17 pmd17 cdd17 ctd17 ocd18 kVd18 dcd18 pmd18 cdd18 ctd18 ocd19 kVd19 dcd19 pmd19 cdd19 ctd19 ocd20 kVd20 dcd20 pmd20 cdd20 ctd20 ocd21 kVd21 dcd21 pmd21 cdd21 ctd21 : Value} {t_MOST_WIDTH t_MOST_ROAD t_BITS : Tok}
    (ad0 : PySem.W.nsIn K mainGlobals "is_among" = some (some (.ref fd0)))
    (ld0 : K.lookup fd0 = some ⟨ocd0, odd0, .func (PySem.W.fnOf "is_among" "is_among" (C8.fnArgs s_is_among) (C8.fnBody s_is_among) (C8.fnScope s_is_among) .none kVd0 dcd0 pmd0 and0 cdd0 ctd0), sld0⟩)
    (cd0 : PySem.W.codeIn K cdd0 "is_among" = true)
    (kd0 : PySem.W.keepIn K (.ref fd0) = true)
    (ad1 : PySem.W.nsIn K mainGlobals "is_width" = some (some (.ref fd1)))
    (ld1 : K.lookup fd1 = some ⟨ocd1, odd1, .func (PySem.W.fnOf "is_width" "is_width" (C8.fnArgs s_is_width) (C8.fnBody s_is_width) (C8.fnScope s_is_width) .none kVd1 dcd1 pmd1 and1 cdd1 ctd1), sld1⟩)
    (cd1 : PySem.W.codeIn K cdd1 "is_width" = true)
    (kd1 : PySem.W.keepIn K (.ref fd1) = true)
    (ad2 : PySem.W.nsIn K mainGlobals "is_road" = some (some (.ref fd2)))
    (ld2 : K.lookup fd2 = some ⟨ocd2, odd2, .func (PySem.W.fnOf "is_road" "is_road" (C8.fnArgs s_is_road) (C8.fnBody s_is_road) (C8.fnScope s_is_road) .none kVd2 dcd2 pmd2 and2 cdd2 ctd2), sld2⟩)
    (cd2 : PySem.W.codeIn K cdd2 "is_road" = true)
    (kd2 : PySem.W.keepIn K (.ref fd2) = true)
    (ad3 : PySem.W.nsIn K mainGlobals "is_bits" = some (some (.ref fd3)))
    (ld3 : K.lookup fd3 = some ⟨ocd3, odd3, .func (PySem.W.fnOf "is_bits" "is_bits" (C8.fnArgs s_is_bits) (C8.fnBody s_is_bits) (C8.fnScope s_is_bits) .none kVd3 dcd3 pmd3 and3 cdd3 ctd3), sld3⟩)
    (cd3 : PySem.W.codeIn K cdd3 "is_bits" = true)
    (kd3 : PySem.W.keepIn K (.ref fd3) = true)
    (ad4 : PySem.W.nsIn K mainGlobals "is_word" = some (some (.ref fd4)))
    (ld4 : K.lookup fd4 = some ⟨ocd4, odd4, .func (PySem.W.fnOf "is_word" "is_word" (C8.fnArgs s_is_word) (C8.fnBody s_is_word) (C8.fnScope s_is_word) .none kVd4 dcd4 pmd4 and4 cdd4 ctd4), sld4⟩)
    (cd4 : PySem.W.codeIn K cdd4 "is_word" = true)
    (kd4 : PySem.W.keepIn K (.ref fd4) = true)
    (ad5 : PySem.W.nsIn K mainGlobals "is_start" = some (some (.ref fd5)))
    (ld5 : K.lookup fd5 = some ⟨ocd5, odd5, .func (PySem.W.fnOf "is_start" "is_start" (C8.fnArgs s_is_start) (C8.fnBody s_is_start) (C8.fnScope s_is_start) .none kVd5 dcd5 pmd5 and5 cdd5 ctd5), sld5⟩)
    (cd5 : PySem.W.codeIn K cdd5 "is_start" = true)
    (kd5 : PySem.W.keepIn K (.ref fd5) = true)
    (ad6 : PySem.W.nsIn K mainGlobals "number_of" = some (some (.ref fd6)))
    (ld6 : K.lookup fd6 = some ⟨ocd6, odd6, .func (PySem.W.fnOf "number_of" "number_of" (C8.fnArgs s_number_of) (C8.fnBody s_number_of) (C8.fnScope s_number_of) .none kVd6 dcd6 pmd6 and6 cdd6 ctd6), sld6⟩)
    (cd6 : PySem.W.codeIn K cdd6 "number_of" = true)
    (kd6 : PySem.W.keepIn K (.ref fd6) = true)
    (ad7 : PySem.W.nsIn K mainGlobals "word_of" = some (some (.ref fd7)))
    (ld7 : K.lookup fd7 = some ⟨ocd7, odd7, .func (PySem.W.fnOf "word_of" "word_of" (C8.fnArgs s_word_of) (C8.fnBody s_word_of) (C8.fnScope s_word_of) .none kVd7 dcd7 pmd7 and7 cdd7 ctd7), sld7⟩)
    (cd7 : PySem.W.codeIn K cdd7 "word_of" = true)
    (kd7 : PySem.W.keepIn K (.ref fd7) = true)
    (ad8 : PySem.W.nsIn K mainGlobals "span_of" = some (some (.ref fd8)))
    (ld8 : K.lookup fd8 = some ⟨ocd8, odd8, .func (PySem.W.fnOf "span_of" "span_of" (C8.fnArgs s_span_of) (C8.fnBody s_span_of) (C8.fnScope s_span_of) .none kVd8 dcd8 pmd8 and8 cdd8 ctd8), sld8⟩)
    (cd8 : PySem.W.codeIn K cdd8 "span_of" = true)
    (kd8 : PySem.W.keepIn K (.ref fd8) = true)
    (ad9 : PySem.W.nsIn K mainGlobals "starts_for" = some (some (.ref fd9)))
    (ld9 : K.lookup fd9 = some ⟨ocd9, odd9, .func (PySem.W.fnOf "starts_for" "starts_for" (C8.fnArgs s_starts_for) (C8.fnBody s_starts_for) (C8.fnScope s_starts_for) .none kVd9 dcd9 pmd9 and9 cdd9 ctd9), sld9⟩)
    (cd9 : PySem.W.codeIn K cdd9 "starts_for" = true)
    (kd9 : PySem.W.keepIn K (.ref fd9) = true)
    (ad10 : PySem.W.nsIn K mainGlobals "_law_mixed" = some (some (.ref fd10)))
    (ld10 : K.lookup fd10 = some ⟨ocd10, odd10, .func (PySem.W.fnOf "_law_mixed" "_law_mixed" (C8.fnArgs s_l_mixed) (C8.fnBody s_l_mixed) (C8.fnScope s_l_mixed) .none kVd10 dcd10 pmd10 and10 cdd10 ctd10), sld10⟩)
    (cd10 : PySem.W.codeIn K cdd10 "_law_mixed" = true)
    (kd10 : PySem.W.keepIn K (.ref fd10) = true)
    (ad11 : PySem.W.nsIn K mainGlobals "_law_bits" = some (some (.ref fd11)))
    (ld11 : K.lookup fd11 = some ⟨ocd11, odd11, .func (PySem.W.fnOf "_law_bits" "_law_bits" (C8.fnArgs s_l_bits) (C8.fnBody s_l_bits) (C8.fnScope s_l_bits) .none kVd11 dcd11 pmd11 and11 cdd11 ctd11), sld11⟩)
    (cd11 : PySem.W.codeIn K cdd11 "_law_bits" = true)
    (kd11 : PySem.W.keepIn K (.ref fd11) = true)
    (ad12 : PySem.W.nsIn K mainGlobals "_law_width" = some (some (.ref fd12)))
    (ld12 : K.lookup fd12 = some ⟨ocd12, odd12, .func (PySem.W.fnOf "_law_width" "_law_width" (C8.fnArgs s_l_width) (C8.fnBody s_l_width) (C8.fnScope s_l_width) .none kVd12 dcd12 pmd12 and12 cdd12 ctd12), sld12⟩)
    (cd12 : PySem.W.codeIn K cdd12 "_law_width" = true)
    (kd12 : PySem.W.keepIn K (.ref fd12) = true)
    (ad13 : PySem.W.nsIn K mainGlobals "_law_word" = some (some (.ref fd13)))
    (ld13 : K.lookup fd13 = some ⟨ocd13, odd13, .func (PySem.W.fnOf "_law_word" "_law_word" (C8.fnArgs s_l_word) (C8.fnBody s_l_word) (C8.fnScope s_l_word) .none kVd13 dcd13 pmd13 and13 cdd13 ctd13), sld13⟩)
    (cd13 : PySem.W.codeIn K cdd13 "_law_word" = true)
    (kd13 : PySem.W.keepIn K (.ref fd13) = true)
    (ad14 : PySem.W.nsIn K mainGlobals "_law_number" = some (some (.ref fd14)))
    (ld14 : K.lookup fd14 = some ⟨ocd14, odd14, .func (PySem.W.fnOf "_law_number" "_law_number" (C8.fnArgs s_l_number) (C8.fnBody s_l_number) (C8.fnScope s_l_number) .none kVd14 dcd14 pmd14 and14 cdd14 ctd14), sld14⟩)
    (cd14 : PySem.W.codeIn K cdd14 "_law_number" = true)
    (kd14 : PySem.W.keepIn K (.ref fd14) = true)
    (ad15 : PySem.W.nsIn K mainGlobals "_law_span" = some (some (.ref fd15)))
    (ld15 : K.lookup fd15 = some ⟨ocd15, odd15, .func (PySem.W.fnOf "_law_span" "_law_span" (C8.fnArgs s_l_span) (C8.fnBody s_l_span) (C8.fnScope s_l_span) .none kVd15 dcd15 pmd15 and15 cdd15 ctd15), sld15⟩)
    (cd15 : PySem.W.codeIn K cdd15 "_law_span" = true)
    (kd15 : PySem.W.keepIn K (.ref fd15) = true)
    (ad16 : PySem.W.nsIn K mainGlobals "_law_halves" = some (some (.ref fd16)))
    (ld16 : K.lookup fd16 = some ⟨ocd16, odd16, .func (PySem.W.fnOf "_law_halves" "_law_halves" (C8.fnArgs s_l_halves) (C8.fnBody s_l_halves) (C8.fnScope s_l_halves) .none kVd16 dcd16 pmd16 and16 cdd16 ctd16), sld16⟩)
    (cd16 : PySem.W.codeIn K cdd16 "_law_halves" = true)
    (kd16 : PySem.W.keepIn K (.ref fd16) = true)
    (ad17 : PySem.W.nsIn K mainGlobals "_law_covered" = some (some (.ref fd17)))
    (ld17 : K.lookup fd17 = some ⟨ocd17, odd17, .func (PySem.W.fnOf "_law_covered" "_law_covered" (C8.fnArgs s_l_covered) (C8.fnBody s_l_covered) (C8.fnScope s_l_covered) .none kVd17 dcd17 pmd17 and17 cdd17 ctd17), sld17⟩)
    (cd17 : PySem.W.codeIn K cdd17 "_law_covered" = true)
    (kd17 : PySem.W.keepIn K (.ref fd17) = true)
    (ad18 : PySem.W.nsIn K mainGlobals "_law_is_bits" = some (some (.ref fd18)))
    (ld18 : K.lookup fd18 = some ⟨ocd18, odd18, .func (PySem.W.fnOf "_law_is_bits" "_law_is_bits" (C8.fnArgs s_l_is_bits) (C8.fnBody s_l_is_bits) (C8.fnScope s_l_is_bits) .none kVd18 dcd18 pmd18 and18 cdd18 ctd18), sld18⟩)
    (cd18 : PySem.W.codeIn K cdd18 "_law_is_bits" = true)
    (kd18 : PySem.W.keepIn K (.ref fd18) = true)
    (ad19 : PySem.W.nsIn K mainGlobals "_law_is_among" = some (some (.ref fd19)))
    (ld19 : K.lookup fd19 = some ⟨ocd19, odd19, .func (PySem.W.fnOf "_law_is_among" "_law_is_among" (C8.fnArgs s_l_is_among) (C8.fnBody s_l_is_among) (C8.fnScope s_l_is_among) .none kVd19 dcd19 pmd19 and19 cdd19 ctd19), sld19⟩)
    (cd19 : PySem.W.codeIn K cdd19 "_law_is_among" = true)
    (kd19 : PySem.W.keepIn K (.ref fd19) = true)
    (ad20 : PySem.W.nsIn K mainGlobals "_law_is" = some (some (.ref fd20)))
    (ld20 : K.lookup fd20 = some ⟨ocd20, odd20, .func (PySem.W.fnOf "_law_is" "_law_is" (C8.fnArgs s_l_is) (C8.fnBody s_l_is) (C8.fnScope s_l_is) .none kVd20 dcd20 pmd20 and20 cdd20 ctd20), sld20⟩)
    (cd20 : PySem.W.codeIn K cdd20 "_law_is" = true)
    (kd20 : PySem.W.keepIn K (.ref fd20) = true)
    (ad21 : PySem.W.nsIn K mainGlobals "_law_kinds_right" = some (some (.ref fd21)))
    (ld21 : K.lookup fd21 = some ⟨ocd21, odd21, .func (PySem.W.fnOf "_law_kinds_right" "_law_kinds_right" (C8.fnArgs s_l_kinds_right) (C8.fnBody s_l_kinds_right) (C8.fnScope s_l_kinds_right) .none kVd21 dcd21 pmd21 and21 cdd21 ctd21), sld21⟩)
    (cd21 : PySem.W.codeIn K cdd21 "_law_kinds_right" = true)
    (kd21 : PySem.W.keepIn K (.ref fd21) = true)
    (z_isinstance : PySem.W.nsIn K mainGlobals "isinstance" = some none)
    (z_len : PySem.W.nsIn K mainGlobals "len" = some none)
    (z_int : PySem.W.nsIn K mainGlobals "int" = some none)
    (z_bool : PySem.W.nsIn K mainGlobals "bool" = some none)
    (z_str : PySem.W.nsIn K mainGlobals "str" = some none)
    (z_list : PySem.W.nsIn K mainGlobals "list" = some none)
    (z_tuple : PySem.W.nsIn K mainGlobals "tuple" = some none)
    (z_dict : PySem.W.nsIn K mainGlobals "dict" = some none)
    (z_set : PySem.W.nsIn K mainGlobals "set" = some none)
    (z_range : PySem.W.nsIn K mainGlobals "range" = some none)
    (z_enumerate : PySem.W.nsIn K mainGlobals "enumerate" = some none)
    (z_sorted : PySem.W.nsIn K mainGlobals "sorted" = some none)
    (z_any : PySem.W.nsIn K mainGlobals "any" = some none)
    (z_all : PySem.W.nsIn K mainGlobals "all" = some none)
    (z_sum : PySem.W.nsIn K mainGlobals "sum" = some none)
    (z_min : PySem.W.nsIn K mainGlobals "min" = some none)
    (z_max : PySem.W.nsIn K mainGlobals "max" = some none)
    (y_MOST_WIDTH : PySem.W.nsIn K mainGlobals "MOST_WIDTH" = some (some (.int 64 t_MOST_WIDTH)))
    (y_MOST_ROAD : PySem.W.nsIn K mainGlobals "MOST_ROAD" = some (some (.int 18446744073709551615 t_MOST_ROAD)))
    (y_BITS : PySem.W.nsIn K mainGlobals "BITS" = some (some (.str (Str.ofString "01") t_BITS)))
    (aL : PySem.W.nsIn K mainGlobals "law" = some (some (.ref fL)))
    (lL : K.lookup fL = some ⟨ocL, odL, .func (PySem.W.fnOf "law" "law" (C8.fnArgs s_law) (C8.fnBody s_law) (C8.fnScope s_law) .none kVL dcL pmL anL cdL ctL), slL⟩)
    (cL : PySem.W.codeIn K cdL "law" = true) :
    ∃ fd : FuncData, (∀ (s : Shared) (v : Value), BindsTo s fd ⟨[v], []⟩ [("_law_script", v)]) ∧ ∀ base : Heap, K.In base → base.Ns mainGlobals mg → FnOk l.prog w K mg base C8.CX0 68 fa fd ["_law_script"] (spLaw K) := by
  have e := hfa.symm.trans (PySem.W.mg_of X G aL)
  cases e
  have T : Glob mg := ⟨PySem.W.mg_none_of X G z_isinstance, PySem.W.mg_none_of X G z_len, PySem.W.mg_none_of X G z_int, PySem.W.mg_none_of X G z_bool, PySem.W.mg_none_of X G z_str, PySem.W.mg_none_of X G z_list, PySem.W.mg_none_of X G z_tuple, PySem.W.mg_none_of X G z_dict, PySem.W.mg_none_of X G z_set, PySem.W.mg_none_of X G z_range, PySem.W.mg_none_of X G z_enumerate, PySem.W.mg_none_of X G z_sorted, PySem.W.mg_none_of X G z_any, PySem.W.mg_none_of X G z_all, PySem.W.mg_none_of X G z_sum, PySem.W.mg_none_of X G z_min, PySem.W.mg_none_of X G z_max, ⟨_, PySem.W.mg_of X G y_MOST_WIDTH, ⟨_, rfl⟩⟩, ⟨_, PySem.W.mg_of X G y_MOST_ROAD, ⟨_, rfl⟩⟩, ⟨_, PySem.W.mg_of X G y_BITS, ⟨t_BITS, by rw [tx_01]⟩⟩⟩
  have Fd0 : C8.Fun K "is_among" "is_among" s_is_among fd0 _ := ⟨⟨_, _, _, _, _, _, _, _, _, _, rfl, ld0, cd0⟩⟩
  have bd0 := Fd0.binds rfl (ps := ["thing", "least", "most"]) fun _ _ _ _ _ _ us hl => match us, hl with | [_, _, _], _ => rfl
  have D_is_among : Dn K mg "is_among" s_is_among ["thing", "least", "most"] := ⟨fd0, _, ⟨Fd0, PySem.W.mg_of X G ad0, kd0⟩, bd0⟩
  have Fd1 : C8.Fun K "is_width" "is_width" s_is_width fd1 _ := ⟨⟨_, _, _, _, _, _, _, _, _, _, rfl, ld1, cd1⟩⟩
  have bd1 := Fd1.binds rfl (ps := ["thing"]) fun _ _ _ _ _ _ us hl => match us, hl with | [_], _ => rfl
  have D_is_width : Dn K mg "is_width" s_is_width ["thing"] := ⟨fd1, _, ⟨Fd1, PySem.W.mg_of X G ad1, kd1⟩, bd1⟩
  have Fd2 : C8.Fun K "is_road" "is_road" s_is_road fd2 _ := ⟨⟨_, _, _, _, _, _, _, _, _, _, rfl, ld2, cd2⟩⟩
  have bd2 := Fd2.binds rfl (ps := ["thing"]) fun _ _ _ _ _ _ us hl => match us, hl with | [_], _ => rfl
  have D_is_road : Dn K mg "is_road" s_is_road ["thing"] := ⟨fd2, _, ⟨Fd2, PySem.W.mg_of X G ad2, kd2⟩, bd2⟩
  have Fd3 : C8.Fun K "is_bits" "is_bits" s_is_bits fd3 _ := ⟨⟨_, _, _, _, _, _, _, _, _, _, rfl, ld3, cd3⟩⟩
  have bd3 := Fd3.binds rfl (ps := ["thing", "least", "most"]) fun _ _ _ _ _ _ us hl => match us, hl with | [_, _, _], _ => rfl
  have D_is_bits : Dn K mg "is_bits" s_is_bits ["thing", "least", "most"] := ⟨fd3, _, ⟨Fd3, PySem.W.mg_of X G ad3, kd3⟩, bd3⟩
  have Fd4 : C8.Fun K "is_word" "is_word" s_is_word fd4 _ := ⟨⟨_, _, _, _, _, _, _, _, _, _, rfl, ld4, cd4⟩⟩
  have bd4 := Fd4.binds rfl (ps := ["width", "thing"]) fun _ _ _ _ _ _ us hl => match us, hl with | [_, _], _ => rfl
  have D_is_word : Dn K mg "is_word" s_is_word ["width", "thing"] := ⟨fd4, _, ⟨Fd4, PySem.W.mg_of X G ad4, kd4⟩, bd4⟩
  have Fd5 : C8.Fun K "is_start" "is_start" s_is_start fd5 _ := ⟨⟨_, _, _, _, _, _, _, _, _, _, rfl, ld5, cd5⟩⟩
  have bd5 := Fd5.binds rfl (ps := ["width", "thing"]) fun _ _ _ _ _ _ us hl => match us, hl with | [_, _], _ => rfl
  have D_is_start : Dn K mg "is_start" s_is_start ["width", "thing"] := ⟨fd5, _, ⟨Fd5, PySem.W.mg_of X G ad5, kd5⟩, bd5⟩
  have Fd6 : C8.Fun K "number_of" "number_of" s_number_of fd6 _ := ⟨⟨_, _, _, _, _, _, _, _, _, _, rfl, ld6, cd6⟩⟩
  have bd6 := Fd6.binds rfl (ps := ["start"]) fun _ _ _ _ _ _ us hl => match us, hl with | [_], _ => rfl
  have D_number_of : Dn K mg "number_of" s_number_of ["start"] := ⟨fd6, _, ⟨Fd6, PySem.W.mg_of X G ad6, kd6⟩, bd6⟩
  have Fd7 : C8.Fun K "word_of" "word_of" s_word_of fd7 _ := ⟨⟨_, _, _, _, _, _, _, _, _, _, rfl, ld7, cd7⟩⟩
  have bd7 := Fd7.binds rfl (ps := ["number", "width"]) fun _ _ _ _ _ _ us hl => match us, hl with | [_, _], _ => rfl
  have D_word_of : Dn K mg "word_of" s_word_of ["number", "width"] := ⟨fd7, _, ⟨Fd7, PySem.W.mg_of X G ad7, kd7⟩, bd7⟩
  have Fd8 : C8.Fun K "span_of" "span_of" s_span_of fd8 _ := ⟨⟨_, _, _, _, _, _, _, _, _, _, rfl, ld8, cd8⟩⟩
  have bd8 := Fd8.binds rfl (ps := ["start", "width"]) fun _ _ _ _ _ _ us hl => match us, hl with | [_, _], _ => rfl
  have D_span_of : Dn K mg "span_of" s_span_of ["start", "width"] := ⟨fd8, _, ⟨Fd8, PySem.W.mg_of X G ad8, kd8⟩, bd8⟩
  have Fd9 : C8.Fun K "starts_for" "starts_for" s_starts_for fd9 _ := ⟨⟨_, _, _, _, _, _, _, _, _, _, rfl, ld9, cd9⟩⟩
  have bd9 := Fd9.binds rfl (ps := ["first", "last", "width"]) fun _ _ _ _ _ _ us hl => match us, hl with | [_, _, _], _ => rfl
  have D_starts_for : Dn K mg "starts_for" s_starts_for ["first", "last", "width"] := ⟨fd9, _, ⟨Fd9, PySem.W.mg_of X G ad9, kd9⟩, bd9⟩
  have Fd10 : C8.Fun K "_law_mixed" "_law_mixed" s_l_mixed fd10 _ := ⟨⟨_, _, _, _, _, _, _, _, _, _, rfl, ld10, cd10⟩⟩
  have bd10 := Fd10.binds rfl (ps := ["_law_cell", "_law_k"]) fun _ _ _ _ _ _ us hl => match us, hl with | [_, _], _ => rfl
  have D_l_mixed : Dn K mg "_law_mixed" s_l_mixed ["_law_cell", "_law_k"] := ⟨fd10, _, ⟨Fd10, PySem.W.mg_of X G ad10, kd10⟩, bd10⟩
  have Fd11 : C8.Fun K "_law_bits" "_law_bits" s_l_bits fd11 _ := ⟨⟨_, _, _, _, _, _, _, _, _, _, rfl, ld11, cd11⟩⟩
  have bd11 := Fd11.binds rfl (ps := ["_law_number_here", "_law_size"]) fun _ _ _ _ _ _ us hl => match us, hl with | [_, _], _ => rfl
  have D_l_bits : Dn K mg "_law_bits" s_l_bits ["_law_number_here", "_law_size"] := ⟨fd11, _, ⟨Fd11, PySem.W.mg_of X G ad11, kd11⟩, bd11⟩
  have Fd12 : C8.Fun K "_law_width" "_law_width" s_l_width fd12 _ := ⟨⟨_, _, _, _, _, _, _, _, _, _, rfl, ld12, cd12⟩⟩
  have bd12 := Fd12.binds rfl (ps := ["_law_number_here"]) fun _ _ _ _ _ _ us hl => match us, hl with | [_], _ => rfl
  have D_l_width : Dn K mg "_law_width" s_l_width ["_law_number_here"] := ⟨fd12, _, ⟨Fd12, PySem.W.mg_of X G ad12, kd12⟩, bd12⟩
  have Fd13 : C8.Fun K "_law_word" "_law_word" s_l_word fd13 _ := ⟨⟨_, _, _, _, _, _, _, _, _, _, rfl, ld13, cd13⟩⟩
  have bd13 := Fd13.binds rfl (ps := ["_law_base", "_law_number_here"]) fun _ _ _ _ _ _ us hl => match us, hl with | [_, _], _ => rfl
  have D_l_word : Dn K mg "_law_word" s_l_word ["_law_base", "_law_number_here"] := ⟨fd13, _, ⟨Fd13, PySem.W.mg_of X G ad13, kd13⟩, bd13⟩
  have Fd14 : C8.Fun K "_law_number" "_law_number" s_l_number fd14 _ := ⟨⟨_, _, _, _, _, _, _, _, _, _, rfl, ld14, cd14⟩⟩
  have bd14 := Fd14.binds rfl (ps := ["_law_text"]) fun _ _ _ _ _ _ us hl => match us, hl with | [_], _ => rfl
  have D_l_number : Dn K mg "_law_number" s_l_number ["_law_text"] := ⟨fd14, _, ⟨Fd14, PySem.W.mg_of X G ad14, kd14⟩, bd14⟩
  have Fd15 : C8.Fun K "_law_span" "_law_span" s_l_span fd15 _ := ⟨⟨_, _, _, _, _, _, _, _, _, _, rfl, ld15, cd15⟩⟩
  have bd15 := Fd15.binds rfl (ps := ["_law_start", "_law_wide"]) fun _ _ _ _ _ _ us hl => match us, hl with | [_, _], _ => rfl
  have D_l_span : Dn K mg "_law_span" s_l_span ["_law_start", "_law_wide"] := ⟨fd15, _, ⟨Fd15, PySem.W.mg_of X G ad15, kd15⟩, bd15⟩
  have Fd16 : C8.Fun K "_law_halves" "_law_halves" s_l_halves fd16 _ := ⟨⟨_, _, _, _, _, _, _, _, _, _, rfl, ld16, cd16⟩⟩
  have bd16 := Fd16.binds rfl (ps := ["_law_first", "_law_last", "_law_begin", "_law_size"]) fun _ _ _ _ _ _ us hl => match us, hl with | [_, _, _, _], _ => rfl
  have D_l_halves : Dn K mg "_law_halves" s_l_halves ["_law_first", "_law_last", "_law_begin", "_law_size"] := ⟨fd16, _, ⟨Fd16, PySem.W.mg_of X G ad16, kd16⟩, bd16⟩
  have Fd17 : C8.Fun K "_law_covered" "_law_covered" s_l_covered fd17 _ := ⟨⟨_, _, _, _, _, _, _, _, _, _, rfl, ld17, cd17⟩⟩
  have bd17 := Fd17.binds rfl (ps := ["_law_one", "_law_other", "_law_wide"]) fun _ _ _ _ _ _ us hl => match us, hl with | [_, _, _], _ => rfl
  have D_l_covered : Dn K mg "_law_covered" s_l_covered ["_law_one", "_law_other", "_law_wide"] := ⟨fd17, _, ⟨Fd17, PySem.W.mg_of X G ad17, kd17⟩, bd17⟩
  have Fd18 : C8.Fun K "_law_is_bits" "_law_is_bits" s_l_is_bits fd18 _ := ⟨⟨_, _, _, _, _, _, _, _, _, _, rfl, ld18, cd18⟩⟩
  have bd18 := Fd18.binds rfl (ps := ["_law_thing", "_law_least", "_law_most"]) fun _ _ _ _ _ _ us hl => match us, hl with | [_, _, _], _ => rfl
  have D_l_is_bits : Dn K mg "_law_is_bits" s_l_is_bits ["_law_thing", "_law_least", "_law_most"] := ⟨fd18, _, ⟨Fd18, PySem.W.mg_of X G ad18, kd18⟩, bd18⟩
  have Fd19 : C8.Fun K "_law_is_among" "_law_is_among" s_l_is_among fd19 _ := ⟨⟨_, _, _, _, _, _, _, _, _, _, rfl, ld19, cd19⟩⟩
  have bd19 := Fd19.binds rfl (ps := ["_law_thing", "_law_least", "_law_most"]) fun _ _ _ _ _ _ us hl => match us, hl with | [_, _, _], _ => rfl
  have D_l_is_among : Dn K mg "_law_is_among" s_l_is_among ["_law_thing", "_law_least", "_law_most"] := ⟨fd19, _, ⟨Fd19, PySem.W.mg_of X G ad19, kd19⟩, bd19⟩
  have Fd20 : C8.Fun K "_law_is" "_law_is" s_l_is fd20 _ := ⟨⟨_, _, _, _, _, _, _, _, _, _, rfl, ld20, cd20⟩⟩
  have bd20 := Fd20.binds rfl (ps := ["_law_thing", "_law_due"]) fun _ _ _ _ _ _ us hl => match us, hl with | [_, _], _ => rfl
  have D_l_is : Dn K mg "_law_is" s_l_is ["_law_thing", "_law_due"] := ⟨fd20, _, ⟨Fd20, PySem.W.mg_of X G ad20, kd20⟩, bd20⟩
  have Fd21 : C8.Fun K "_law_kinds_right" "_law_kinds_right" s_l_kinds_right fd21 _ := ⟨⟨_, _, _, _, _, _, _, _, _, _, rfl, ld21, cd21⟩⟩
  have bd21 := Fd21.binds rfl (ps := ["_law_word_here", "_law_wide", "_law_number_here"]) fun _ _ _ _ _ _ us hl => match us, hl with | [_, _, _], _ => rfl
  have D_l_kinds_right : Dn K mg "_law_kinds_right" s_l_kinds_right ["_law_word_here", "_law_wide", "_law_number_here"] := ⟨fd21, _, ⟨Fd21, PySem.W.mg_of X G ad21, kd21⟩, bd21⟩
  have FL : C8.Fun K "law" "law" s_law fa _ := ⟨⟨_, _, _, _, _, _, _, _, _, _, rfl, lL, cL⟩⟩
  refine ⟨PySem.W.fnOf "law" "law" (C8.fnArgs s_law) (C8.fnBody s_law) (C8.fnScope s_law) .none kVL dcL pmL anL cdL ctL, fun s v => .of_eq rfl, fun base Kb Gb => ?_⟩
  have c1 := c_is_among (P := l.prog) (w := w) (base := base) T D_is_among
  have c2 := c_is_bits (P := l.prog) (w := w) (base := base) T D_is_bits
  have c3 := c_number_of (P := l.prog) (w := w) (base := base) T D_number_of
  have c4 := c_word_of (P := l.prog) (w := w) (base := base) T D_word_of
  have c5 := c_l_mixed (P := l.prog) (w := w) (base := base) T D_l_mixed
  have c6 := c_l_number (P := l.prog) (w := w) (base := base) T D_l_number
  have c7 := c_l_is_bits (P := l.prog) (w := w) (base := base) T D_l_is_bits
  have c8 := c_l_span T D_l_span c6
  have c9 := c_l_covered T D_l_covered c6 (c_starts_for T D_starts_for c4) (c_l_halves T D_l_halves 66) c7 c8
  have c10 := c_l_kinds_right T D_l_kinds_right (c_l_is T D_l_is) (c_is_word T D_is_word c2) (c_is_start T D_is_start c2) (c_is_width T D_is_width c1) (c_is_road T D_is_road c1) c7 (c_l_is_among T D_l_is_among)
  exact ok_law FL T c5 (c_l_width T D_l_width) (c_l_bits T D_l_bits c5) c6 c3 c4 c8 (c_span_of T D_span_of c3) c9 (c_l_word T D_l_word) c10
theorem walk {l : PySem.W.OpenLaw} {q : Program} {loose : List Str} {XP : (Str → Option Value) → Heap → Prop} {YP : World → Heap → Prop} {d : DefRec} {K : Params → PySem.W.Frag} (hn : l.most = some 63) (hdf : d.params.defaults = [])
    (hY : ∀ (w : World) (h : Heap), YP w h → (K w.params).In h)
    (F : ∀ (w : World) (mg : Str → Option Value) (fa : Addr) (h : Heap), (K w.params).In h → h.Ns mainGlobals mg → mg d.name = some (.ref fa) →
      ∃ fd : FuncData, (∀ (s : Shared) (u : Value), BindsTo s fd ⟨[u], []⟩ [("_law_script", u)]) ∧ ∀ base : Heap, (K w.params).In base → base.Ns mainGlobals mg → FnOk l.prog w (K w.params) mg base C8.CX0 68 fa fd ["_law_script"] (spLaw (K w.params))) :
    PySem.W.WalkO q loose XP YP l.row.toRowW d [] (fun f vs => PySem.call f vs) :=
  L2.walk_of (n := 63) (k := 68) (x := "_law_script") (CX := fun _ => C8.CX0) (sp := fun w => spLaw (K w.params)) hn (by decide) hdf ⟨rfl, by decide, by decide⟩ hY F (fun _ _ a ns hl _ hS => ⟨a, ns, rfl, hS, hl, fun _ => rfl⟩) fun _ _ _ _ _ z => z
end Br
open PySem PySem.W PyProof.Rows
set_option maxRecDepth 100000 in
set_option maxHeartbeats 0 in
theorem PySem.Challenge.cw_bitroads_k01_words_and_spans_holds : PySem.Challenge.rw_bitroads_k01_words_and_spans.Holds := by
  w_on; o_law; k_head; (case hw => w_witness2)
  k_fill
  refine Br.walk (l := PySem.Challenge.rw_bitroads_k01_words_and_spans) rfl rfl (fun w h Y => PySem.W.kIn_of Y) ?F
  case F =>
    intro w mg fa h KX G hmg
    refine' Br.all_mk KX G hmg ?ad0 ?ld0 ?cd0 ?kd0 ?ad1 ?ld1 ?cd1 ?kd1 ?ad2 ?ld2 ?cd2 ?kd2 ?ad3 ?ld3 ?cd3 ?kd3 ?ad4 ?ld4 ?cd4 ?kd4 ?ad5 ?ld5 ?cd5 ?kd5 ?ad6 ?ld6 ?cd6 ?kd6 ?ad7 ?ld7 ?cd7 ?kd7 ?ad8 ?ld8 ?cd8 ?kd8 ?ad9 ?ld9 ?cd9 ?kd9 ?ad10 ?ld10 ?cd10 ?kd10 ?ad11 ?ld11 ?cd11 ?kd11 ?ad12 ?ld12 ?cd12 ?kd12 ?ad13 ?ld13 ?cd13 ?kd13 ?ad14 ?ld14 ?cd14 ?kd14 ?ad15 ?ld15 ?cd15 ?kd15 ?ad16 ?ld16 ?cd16 ?kd16 ?ad17 ?ld17 ?cd17 ?kd17 ?ad18 ?ld18 ?cd18 ?kd18 ?ad19 ?ld19 ?cd19 ?kd19 ?ad20 ?ld20 ?cd20 ?kd20 ?ad21 ?ld21 ?cd21 ?kd21 ?z_isinstance ?z_len ?z_int ?z_bool ?z_str ?z_list ?z_tuple ?z_dict ?z_set ?z_range ?z_enumerate ?z_sorted ?z_any ?z_all ?z_sum ?z_min ?z_max ?y_MOST_WIDTH ?y_MOST_ROAD ?y_BITS ?aL ?lL ?cL
    (case ad0 => k_is)
    (case ld0 => k_is)
    (case cd0 => k_is)
    (case kd0 => k_is)
    (case ad1 => k_is)
    (case ld1 => k_is)
    (case cd1 => k_is)
    (case kd1 => k_is)
    (case ad2 => k_is)
    (case ld2 => k_is)
    (case cd2 => k_is)
    (case kd2 => k_is)
    (case ad3 => k_is)
    (case ld3 => k_is)
    (case cd3 => k_is)
    (case kd3 => k_is)
    (case ad4 => k_is)
    (case ld4 => k_is)
    (case cd4 => k_is)
    (case kd4 => k_is)
    (case ad5 => k_is)
    (case ld5 => k_is)
    (case cd5 => k_is)
    (case kd5 => k_is)
    (case ad6 => k_is)
    (case ld6 => k_is)
    (case cd6 => k_is)
    (case kd6 => k_is)
    (case ad7 => k_is)
    (case ld7 => k_is)
    (case cd7 => k_is)
    (case kd7 => k_is)
    (case ad8 => k_is)
    (case ld8 => k_is)
    (case cd8 => k_is)
    (case kd8 => k_is)
    (case ad9 => k_is)
    (case ld9 => k_is)
    (case cd9 => k_is)
    (case kd9 => k_is)
    (case ad10 => k_is)
    (case ld10 => k_is)
    (case cd10 => k_is)
    (case kd10 => k_is)
    (case ad11 => k_is)
    (case ld11 => k_is)
    (case cd11 => k_is)
    (case kd11 => k_is)
    (case ad12 => k_is)
    (case ld12 => k_is)
    (case cd12 => k_is)
    (case kd12 => k_is)
    (case ad13 => k_is)
    (case ld13 => k_is)
    (case cd13 => k_is)
    (case kd13 => k_is)
    (case ad14 => k_is)
    (case ld14 => k_is)
    (case cd14 => k_is)
    (case kd14 => k_is)
    (case ad15 => k_is)
    (case ld15 => k_is)
    (case cd15 => k_is)
    (case kd15 => k_is)
    (case ad16 => k_is)
    (case ld16 => k_is)
    (case cd16 => k_is)
    (case kd16 => k_is)
    (case ad17 => k_is)
    (case ld17 => k_is)
    (case cd17 => k_is)
    (case kd17 => k_is)
    (case ad18 => k_is)
    (case ld18 => k_is)
    (case cd18 => k_is)
    (case kd18 => k_is)
    (case ad19 => k_is)
    (case ld19 => k_is)
    (case cd19 => k_is)
    (case kd19 => k_is)
    (case ad20 => k_is)
    (case ld20 => k_is)
    (case cd20 => k_is)
    (case kd20 => k_is)
    (case ad21 => k_is)
    (case ld21 => k_is)
    (case cd21 => k_is)
    (case kd21 => k_is)
    (case z_isinstance => k_is)
    (case z_len => k_is)
    (case z_int => k_is)
    (case z_bool => k_is)
    (case z_str => k_is)
    (case z_list => k_is)
    (case z_tuple => k_is)
    (case z_dict => k_is)
    (case z_set => k_is)
    (case z_range => k_is)
    (case z_enumerate => k_is)
    (case z_sorted => k_is)
    (case z_any => k_is)
    (case z_all => k_is)
    (case z_sum => k_is)
    (case z_min => k_is)
    (case z_max => k_is)
    (case y_MOST_WIDTH => k_is)
    (case y_MOST_ROAD => k_is)
    (case y_BITS => k_is)
    (case aL => k_is)
    (case lL => k_is)
    (case cL => k_is)
#print axioms PySem.Challenge.cw_bitroads_k01_words_and_spans_holds
