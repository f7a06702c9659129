import PyProof.Rows.All
import Wide.All
import OpenK.AllK
import Wide.FinOn
import HandS.ForMost
import HandS.StrMore
import HandS.Wide
import HandS.IsInst
import KE.KIntText
import KE.IntTextText
import HandS.Rev
import HandS.MapObj
import HandS.WideBits
import HandS.ForExc
import HandS.ExcIs
import HandS.Replace
import HandS.ReplaceLit
import HandS.Walk
import PySem.Challenge.RW_isthmus_k02_texts_read_back
set_option Elab.async false
set_option linter.all false
set_option maxRecDepth 100000
set_option maxHeartbeats 4000000
namespace Mt
open PySem PySem.NumText

/-! ### digits -/
def dec (n : Nat) : List Nat := (Nat.toDigits 10 n).map Char.toNat
def decI (n : Int) : List Nat := if n < 0 then 45 :: dec n.natAbs else dec n.natAbs
theorem dec_val (n : Nat) : digitsVal (dec n) = n := PySem.W.KIN.val_back n
theorem dec_all (n : Nat) : AllDigits (dec n) := fun c hc => by
  obtain ⟨ch, hch, e⟩ := List.mem_map.mp hc
  rw [← e]
  exact PyProof.Rows.digit_range (Nat.isDigit_of_mem_toDigits (by decide) (by decide) hch)
theorem dec_lt {n : Nat} (h : n < 10) : dec n = [(Nat.digitChar n).toNat] := by
  unfold dec
  rw [Nat.toDigits_of_lt_base h]
  rfl
theorem dec_step {n : Nat} (h : 10 ≤ n) : dec n = dec (n / 10) ++ dec (n % 10) := by
  have hm : n % 10 < 10 := Nat.mod_lt n (by decide)
  have t : Nat.toDigits 10 (n / 10) ++ Nat.toDigits 10 (n % 10) = Nat.toDigits 10 (10 * (n / 10) + n % 10) := Nat.toDigits_append_toDigits (by decide) (by omega) hm
  rw [Nat.div_add_mod] at t
  unfold dec
  rw [← t, List.map_append]
theorem dec_ne (n : Nat) : dec n ≠ [] := by
  by_cases h : n < 10
  · rw [dec_lt h]; intro e; cases e
  · rw [dec_step (by omega), dec_lt (n := n % 10) (Nat.mod_lt n (by decide))]
    intro e
    have := congrArg List.length e
    simp at this
theorem digit_big : ∀ d : Nat, d < 10 → 1 ≤ d → 49 ≤ (Nat.digitChar d).toNat := by decide
theorem dec_head (n : Nat) (h : 1 ≤ n) : ∃ c r, dec n = c :: r ∧ 49 ≤ c := by
  induction n using Nat.strongRecOn with
  | _ n ih =>
    by_cases h1 : n < 10
    · exact ⟨_, [], dec_lt h1, digit_big n h1 h⟩
    · obtain ⟨c, r, e, hc⟩ := ih (n / 10) (by omega) (by omega)
      exact ⟨c, r ++ dec (n % 10), by rw [dec_step (by omega), e]; rfl, hc⟩
theorem back (c : Nat) (h : c ≤ 57) : (Char.ofNat c).toNat = c := by
  have : ∀ c : Nat, c < 58 → (Char.ofNat c).toNat = c := by decide
  exact this c (by omega)
/-- the digits of a number, none too many -/
def Canon (cs : List Nat) : Prop := AllDigits cs ∧ (cs.length = 1 ∨ ∃ c r, cs = c :: r ∧ 49 ≤ c)
theorem canon_dec {cs : List Nat} (h : Canon cs) : dec (digitsVal cs) = cs := by
  obtain ⟨ha, hl⟩ := h
  have hn : ∃ n, cs.length = n + 1 := by
    rcases hl with hl | ⟨c, r, e, _⟩
    · exact ⟨0, hl⟩
    · exact ⟨r.length, by rw [e]; rfl⟩
  obtain ⟨n, hn⟩ := hn
  unfold dec
  rw [toDigits_digitsVal n cs hn ha (by
    rcases hl with hl | hl
    · left; omega
    · exact Or.inr hl)]
  rw [List.map_map]
  conv => rhs; rw [← List.map_id cs]
  apply List.map_congr_left
  intro c hc
  exact back c (ha c hc).2
theorem canon_of (n : Nat) : Canon (dec n) := by
  refine ⟨dec_all n, ?_⟩
  by_cases h : n = 0
  · left; rw [h, dec_lt (by decide)]; rfl
  · exact Or.inr (dec_head n (by omega))
theorem val_append (a : List Nat) : ∀ b : List Nat, digitsVal (a ++ b) = digitsVal a * 10 ^ b.length + digitsVal b := by
  intro b
  have aux : ∀ (b : List Nat) (x : Nat), b.foldl (fun acc c => acc * 10 + (c - 48)) x = x * 10 ^ b.length + digitsVal b := by
    intro b
    induction b with
    | nil => intro x; simp [digitsVal]
    | cons c b ih =>
      intro x
      rw [List.foldl_cons, ih]
      have e : digitsVal (c :: b) = (0 * 10 + (c - 48)) * 10 ^ b.length + digitsVal b := by
        show b.foldl _ (0 * 10 + (c - 48)) = _
        rw [ih]
      rw [e, List.length_cons, Nat.pow_succ, Nat.add_mul, Nat.zero_mul, Nat.zero_add, Nat.add_assoc]
      congr 1
      rw [Nat.mul_assoc, Nat.mul_comm 10]
  show (a ++ b).foldl _ 0 = _
  rw [List.foldl_append, aux]
  rfl
theorem val_lt : ∀ cs : List Nat, AllDigits cs → digitsVal cs < 10 ^ cs.length := by
  intro cs
  induction cs with
  | nil => intro _; decide
  | cons c r ih =>
    intro h
    have e := val_append [c] r
    have hc := h.head
    have h1 := ih h.tail
    have e1 : digitsVal [c] = c - 48 := by show 0 * 10 + (c - 48) = c - 48; omega
    rw [e1] at e
    show digitsVal ([c] ++ r) < _
    rw [e, List.length_cons, Nat.pow_succ]
    have h2 : (c - 48) * 10 ^ r.length ≤ 9 * 10 ^ r.length := Nat.mul_le_mul_right _ (by omega)
    omega
theorem val_ge {c : Nat} {r : List Nat} (h : 49 ≤ c) : 10 ^ r.length ≤ digitsVal (c :: r) := by
  have e := val_append [c] r
  have e1 : digitsVal [c] = c - 48 := by show 0 * 10 + (c - 48) = c - 48; omega
  rw [e1] at e
  show _ ≤ digitsVal ([c] ++ r)
  rw [e]
  have h2 : 1 * 10 ^ r.length ≤ (c - 48) * 10 ^ r.length := Nat.mul_le_mul_right _ (by omega)
  omega
theorem dec_len {n k : Nat} (h : n < 10 ^ k) (hk : 1 ≤ k) : (dec n).length ≤ k := by
  by_cases h0 : n = 0
  · rw [h0, dec_lt (by decide)]; exact hk
  · obtain ⟨c, r, e, hc⟩ := dec_head n (by omega)
    have h1 := val_ge (r := r) hc
    rw [← e, dec_val] at h1
    rw [e, List.length_cons]
    by_cases h2 : r.length < k
    · exact h2
    · have := Nat.pow_le_pow_right (show 0 < 10 by decide) (show k ≤ r.length by omega)
      omega
theorem val_zeros (n : Nat) : digitsVal (List.replicate n 48) = 0 := by
  induction n with
  | zero => rfl
  | succ n ih => rw [List.replicate_succ, digitsVal_zero, ih]
theorem all_zeros (n : Nat) : AllDigits (List.replicate n 48) := fun c hc => by rw [List.eq_of_mem_replicate hc]; decide
theorem all_append {a b : List Nat} (ha : AllDigits a) (hb : AllDigits b) : AllDigits (a ++ b) := fun c hc => (List.mem_append.mp hc).elim (ha c) (hb c)
theorem val_one_zeros (n : Nat) : digitsVal (49 :: List.replicate n 48) = 10 ^ n := by
  have e := val_append [49] (List.replicate n 48)
  rw [val_zeros, List.length_replicate] at e
  show digitsVal ([49] ++ _) = _
  rw [e]
  have : digitsVal [49] = 1 := rfl
  rw [this]; omega

/-! ### a number cut in pieces of fifty figures -/
def pad (k n : Nat) : List Nat := List.replicate (k - (dec n).length) 48 ++ dec n
theorem pad_val (k n : Nat) : digitsVal (pad k n) = n := by
  unfold pad
  rw [val_append, val_zeros, dec_val]; omega
theorem pad_len {k n : Nat} (h : n < 10 ^ k) (hk : 1 ≤ k) : (pad k n).length = k := by
  unfold pad
  rw [List.length_append, List.length_replicate]
  have := dec_len h hk
  omega
theorem pad_all (k n : Nat) : AllDigits (pad k n) := all_append (all_zeros _) (dec_all _)
structure Cut (n0 v : Nat) (ps : List (List Nat)) : Prop where
  dig : ∀ p ∈ ps, AllDigits p ∧ p.length = 50
  eq : n0 = v * 10 ^ (50 * ps.length) + digitsVal ps.reverse.flatten
  big : ps = [] ∨ 1 ≤ v
theorem Cut.start (n : Nat) : Cut n n [] where
  dig := fun _ h => nomatch h
  eq := by simp [digitsVal]
  big := .inl rfl
theorem flat_len : ∀ {ps : List (List Nat)}, (∀ p ∈ ps, AllDigits p ∧ p.length = 50) → ps.flatten.length = 50 * ps.length ∧ AllDigits ps.flatten
  | [], _ => ⟨rfl, fun _ h => nomatch h⟩
  | p :: ps, h => by
    obtain ⟨h1, h2⟩ := flat_len (ps := ps) fun q hq => h q (List.mem_cons_of_mem _ hq)
    obtain ⟨h3, h4⟩ := h p (List.mem_cons_self ..)
    rw [List.flatten_cons, List.length_append, h1, h4, List.length_cons]
    exact ⟨by omega, all_append h3 h2⟩
theorem Cut.rev {n0 v : Nat} {ps : List (List Nat)} (h : Cut n0 v ps) : ps.reverse.flatten.length = 50 * ps.length ∧ AllDigits ps.reverse.flatten := by
  have := flat_len (ps := ps.reverse) fun p hp => h.dig p (List.mem_reverse.mp hp)
  rw [List.length_reverse] at this
  exact this
theorem Cut.turn {n0 v : Nat} {ps : List (List Nat)} (h : Cut n0 v ps) (hv : 10 ^ 50 ≤ v) : Cut n0 (v / 10 ^ 50) (ps ++ [pad 50 (v % 10 ^ 50)]) := by
  have hm : v % 10 ^ 50 < 10 ^ 50 := Nat.mod_lt _ (by decide)
  refine ⟨fun p hp => ?_, ?_, .inr (by exact (Nat.one_le_div_iff (by decide)).mpr hv)⟩
  · rcases List.mem_append.mp hp with hp | hp
    · exact h.dig p hp
    · rw [List.mem_singleton.mp hp]
      exact ⟨pad_all _ _, pad_len hm (by decide)⟩
  · obtain ⟨h1, _⟩ := h.rev
    rw [List.reverse_append, List.reverse_singleton, List.singleton_append, List.flatten_cons, val_append, pad_val, h1, List.length_append, List.length_singleton]
    have e := h.eq
    have e2 : v = v / 10 ^ 50 * 10 ^ 50 + v % 10 ^ 50 := by rw [Nat.mul_comm]; exact (Nat.div_add_mod v _).symm
    rw [Nat.mul_add, Nat.mul_one, Nat.pow_add, ← Nat.add_assoc, Nat.mul_comm (10 ^ (50 * ps.length)) (10 ^ 50), ← Nat.mul_assoc, ← Nat.add_mul, ← e2]
    exact e
theorem Cut.text {n0 v : Nat} {ps : List (List Nat)} (h : Cut n0 v ps) : dec v ++ ps.reverse.flatten = dec n0 := by
  obtain ⟨h1, h2⟩ := h.rev
  have c : Canon (dec v ++ ps.reverse.flatten) := by
    refine ⟨all_append (dec_all v) h2, ?_⟩
    rcases h.big with e | e
    · subst e
      have := (canon_of v).2
      simpa using this
    · obtain ⟨c, r, e, hc⟩ := dec_head v e
      exact .inr ⟨c, r ++ ps.reverse.flatten, by rw [e]; rfl, hc⟩
  have := canon_dec c
  rw [val_append, dec_val, h1, ← h.eq] at this
  exact this.symm
/-- so many pieces are not more than the figures -/
theorem Cut.few {n0 v : Nat} {ps : List (List Nat)} (h : Cut n0 v ps) : 50 * ps.length ≤ (dec n0).length := by
  rw [← h.text, List.length_append, h.rev.1]; omega

/-! ### texts -/
abbrev cs (x : Str) : List Nat := x.cps.toList
def mk (l : List Nat) : Str := ⟨l.toArray⟩
theorem cs_mk (l : List Nat) : cs (mk l) = l := by simp [cs, mk]
theorem mk_cs (x : Str) : mk (cs x) = x := by cases x; simp [cs, mk]
theorem len_cs (x : Str) : x.length = (cs x).length := by simp [cs, Str.length]
theorem str_ext {x y : Str} (h : cs x = cs y) : x = y := by rw [← mk_cs x, ← mk_cs y, h]
theorem cs_app (x y : Str) : cs (x ++ y) = cs x ++ cs y := by
  show (x.cps ++ y.cps).toList = _
  rw [Array.toList_append]
theorem cs_num (n : Int) (h : 0 ≤ n) : cs (Str.ofString (toString n)) = dec n.toNat := by
  obtain ⟨m, rfl⟩ := Int.eq_ofNat_of_zero_le h
  rw [show (cs (Str.ofString (toString ((m : Nat) : Int)))) = (Nat.toDigits 10 m).map Char.toNat from PySem.W.KIN.signs_num m]
  rfl
theorem cs_num_neg (n : Int) (h : n < 0) : cs (Str.ofString (toString n)) = decI n := by
  obtain ⟨m, rfl⟩ : ∃ m : Nat, n = Int.negSucc m := by
    cases n with
    | ofNat m => exact absurd h (by simp)
    | negSucc m => exact ⟨m, rfl⟩
  unfold decI
  rw [if_pos h]
  show (Str.ofString ("-" ++ Nat.repr (m + 1))).cps.toList = _
  rw [PyProof.Rows.signs_ofString, String.toList_append, List.map_append, Nat.toList_repr]
  rfl
theorem cs_int (n : Int) : cs (Str.ofString (toString n)) = decI n := by
  by_cases h : n < 0
  · exact cs_num_neg n h
  · rw [cs_num n (by omega)]
    unfold decI
    rw [if_neg h]
    congr 1; omega

/-- glued with blanks -/
def gl : List (List Nat) → List Nat
  | [] => []
  | [x] => x
  | x :: y :: r => x ++ 32 :: gl (y :: r)
theorem cs_join : ∀ ys : List Str, cs (Str.join (Str.ofString " ") ys) = gl (ys.map cs)
  | [] => rfl
  | [x] => rfl
  | x :: y :: r => by
    rw [PyProof.Rows.join_cons_cons, cs_app, cs_app, cs_join (y :: r)]
    show cs x ++ cs (Str.ofString " ") ++ _ = cs x ++ 32 :: gl (cs y :: r.map cs)
    have : cs (Str.ofString " ") = [32] := by decide +kernel
    rw [this, List.append_assoc]
    rfl
theorem cs_join0 : ∀ ys : List Str, cs (Str.join (Str.ofString "") ys) = (ys.map cs).flatten
  | [] => rfl
  | [x] => by show cs x = [cs x].flatten; simp
  | x :: y :: r => by
    rw [PyProof.Rows.join_cons_cons, cs_app, cs_app, cs_join0 (y :: r)]
    have : cs (Str.ofString "") = [] := by decide +kernel
    rw [this, List.append_nil]
    rfl
theorem gl_len : ∀ xs : List (List Nat), (gl xs).length + 1 = (xs.map (·.length + 1)).sum + (if xs = [] then 1 else 0)
  | [] => rfl
  | [x] => by simp [gl]
  | x :: y :: r => by
    have := gl_len (y :: r)
    rw [if_neg (by simp)] at this
    rw [if_neg (by simp)]
    show (x ++ 32 :: gl (y :: r)).length + 1 = _
    rw [List.length_append, List.length_cons, List.map_cons, List.sum_cons]
    omega

/-! ### data -/
inductive D where
  | s (x : List Nat)
  | i (n : Int)
  | t (xs : List D)
mutual
def txt : D → List Nat
  | .s x => x
  | .i n => decI n
  | .t xs => 40 :: (gl (txts xs) ++ [41])
def txts : List D → List (List Nat)
  | [] => []
  | x :: r => txt x :: txts r
end
mutual
def deep : D → Nat
  | .s _ => 0
  | .i _ => 0
  | .t xs => deeps xs + 1
def deeps : List D → Nat
  | [] => 0
  | x :: r => max (deep x) (deeps r)
end
theorem txts_map : ∀ xs : List D, txts xs = xs.map txt
  | [] => rfl
  | x :: r => by show txt x :: txts r = _; rw [txts_map r]; rfl
theorem deeps_le {n : Nat} : ∀ {xs : List D}, deeps xs ≤ n ↔ ∀ x ∈ xs, deep x ≤ n
  | [] => by simp [deeps]
  | x :: r => by
    show max (deep x) (deeps r) ≤ n ↔ _
    rw [Nat.max_le, deeps_le (xs := r)]
    simp
theorem gl_mem : ∀ {xs : List (List Nat)} {x : List Nat}, x ∈ xs → x.length ≤ (gl xs).length
  | [], _, h => nomatch h
  | [y], x, h => by rw [List.mem_singleton.mp h]; exact Nat.le_refl _
  | y :: z :: r, x, h => by
    show _ ≤ (y ++ 32 :: gl (z :: r)).length
    rw [List.length_append, List.length_cons]
    rcases List.mem_cons.mp h with h | h
    · rw [h]; omega
    · have := gl_mem h
      omega
end Mt
namespace Mt
open PySem PySem.NumText
/-! ### words, numbers -/
def isL (c : Nat) : Bool := decide (97 ≤ c) && decide (c ≤ 122)
def isD (c : Nat) : Bool := decide (48 ≤ c) && decide (c ≤ 57)
def dl (c : Nat) : Bool := c == 40 || c == 41 || c == 32
theorem isL_iff {c : Nat} : isL c = true ↔ 97 ≤ c ∧ c ≤ 122 := by unfold isL; rw [Bool.and_eq_true, decide_eq_true_eq, decide_eq_true_eq]
theorem isD_iff {c : Nat} : isD c = true ↔ 48 ≤ c ∧ c ≤ 57 := by unfold isD; rw [Bool.and_eq_true, decide_eq_true_eq, decide_eq_true_eq]
theorem allD_iff {l : List Nat} : l.all isD = true ↔ AllDigits l := by
  rw [List.all_eq_true]
  exact ⟨fun h c hc => isD_iff.mp (h c hc), fun h c hc => isD_iff.mpr (h c hc)⟩
theorem dl_false {c : Nat} : dl c = false ↔ c ≠ 40 ∧ c ≠ 41 ∧ c ≠ 32 := by
  unfold dl
  rw [Bool.or_eq_false_iff, Bool.or_eq_false_iff, beq_eq_false_iff_ne, beq_eq_false_iff_ne, beq_eq_false_iff_ne, and_assoc]
theorem dl_L {c : Nat} (h : isL c = true) : dl c = false := by
  have := isL_iff.mp h
  exact dl_false.mpr ⟨by omega, by omega, by omega⟩
theorem dl_D {c : Nat} (h : isD c = true) : dl c = false := by
  have := isD_iff.mp h
  exact dl_false.mpr ⟨by omega, by omega, by omega⟩
mutual
/-- data that has a text -/
def wf : D → Bool
  | .s w => !w.isEmpty && w.all isL
  | .i _ => true
  | .t ds => wfs ds
def wfs : List D → Bool
  | [] => true
  | x :: r => wf x && wfs r
end
theorem wfs_cons {x : D} {r : List D} : wfs (x :: r) = true ↔ wf x = true ∧ wfs r = true := by
  show (wf x && wfs r) = true ↔ _
  rw [Bool.and_eq_true]
theorem wfs_append {a b : List D} : wfs (a ++ b) = true ↔ wfs a = true ∧ wfs b = true := by
  induction a with
  | nil => simp [wfs]
  | cons x r ih => rw [List.cons_append, wfs_cons, wfs_cons, ih, and_assoc]
theorem wf_s {w : List Nat} : wf (.s w) = true ↔ w ≠ [] ∧ w.all isL = true := by
  show (!w.isEmpty && w.all isL) = true ↔ _
  cases w <;> simp
def isAtom : D → Bool
  | .t _ => false
  | _ => true
def figs (neg : Bool) (ds : List Nat) : Option D :=
  if ds.isEmpty then none else if ds.head? = some 48 ∧ (ds ≠ [48] ∨ neg = true) then none else some (.i (if neg then -((digitsVal ds : Nat) : Int) else ((digitsVal ds : Nat) : Int)))
def unsign : List Nat → Bool × List Nat
  | 45 :: r => (true, r)
  | l => (false, l)
/-- what «read_plain» makes -/
def plainD (p : List Nat) : Option D :=
  if !p.isEmpty && p.all isL then some (.s p)
  else if !(unsign p).2.isEmpty && (unsign p).2.all isD then figs (unsign p).1 (unsign p).2 else none
theorem unsign_cons {c : Nat} {r : List Nat} (h : c ≠ 45) : unsign (c :: r) = (false, c :: r) := by
  unfold unsign
  split
  · rename_i e; injection e with e1 _; exact absurd e1 h
  · rfl
theorem decI_cons (n : Int) : (n < 0 ∧ ∃ c r, decI n = 45 :: c :: r ∧ AllDigits (c :: r) ∧ 49 ≤ c ∧ n = -((digitsVal (c :: r) : Nat) : Int)) ∨ (0 ≤ n ∧ ∃ c r, decI n = c :: r ∧ AllDigits (c :: r) ∧ (c = 48 → r = []) ∧ n = ((digitsVal (c :: r) : Nat) : Int)) := by
  by_cases h : n < 0
  · left
    obtain ⟨c, r, e, hc⟩ := dec_head n.natAbs (by omega)
    refine ⟨h, c, r, by unfold decI; rw [if_pos h, e], by rw [← e]; exact dec_all _, hc, ?_⟩
    rw [← e, dec_val]; omega
  · right
    have e0 : decI n = dec n.natAbs := by unfold decI; rw [if_neg h]
    by_cases hz : n.natAbs = 0
    · refine ⟨by omega, 48, [], by rw [e0, hz]; decide +kernel, fun c hc => by rw [List.mem_singleton.mp hc]; decide, fun _ => rfl, ?_⟩
      have : digitsVal [48] = 0 := rfl
      rw [this]; omega
    · obtain ⟨c, r, e, hc⟩ := dec_head n.natAbs (by omega)
      refine ⟨by omega, c, r, by rw [e0, e], by rw [← e]; exact dec_all _, fun h => by omega, ?_⟩
      rw [← e, dec_val]; omega
theorem figs_some {neg : Bool} {ds : List Nat} {d : D} (ha : AllDigits ds) (h : figs neg ds = some d) : txt d = (if neg then 45 :: ds else ds) ∧ wf d = true ∧ isAtom d = true := by
  unfold figs at h
  split at h
  · cases h
  rename_i hne
  split at h
  · cases h
  rename_i h0
  injection h with h
  subst h
  refine ⟨?_, rfl, rfl⟩
  obtain ⟨c, r, rfl⟩ : ∃ c r, ds = c :: r := by
    cases ds with
    | nil => exact absurd rfl hne
    | cons c r => exact ⟨c, r, rfl⟩
  have hc := ha.head
  have canon : Canon (c :: r) := by
    refine ⟨ha, ?_⟩
    by_cases e : c = 48
    · left
      subst e
      by_cases er : r = []
      · rw [er]; rfl
      · exact absurd ⟨rfl, .inl (by simpa using er)⟩ h0
    · exact .inr ⟨c, r, rfl, by omega⟩
  cases neg with
  | false =>
    show decI ((digitsVal (c :: r) : Nat) : Int) = c :: r
    unfold decI
    rw [if_neg (by omega), Int.natAbs_natCast, canon_dec canon]
  | true =>
    show decI (-((digitsVal (c :: r) : Nat) : Int)) = 45 :: c :: r
    have hz : digitsVal (c :: r) ≠ 0 := fun e => by
      have := canon_dec canon
      rw [e] at this
      have e2 : c :: r = [48] := this.symm.trans (by decide +kernel)
      rw [e2] at h0
      exact h0 ⟨rfl, .inr rfl⟩
    unfold decI
    rw [if_pos (by omega), Int.natAbs_neg, Int.natAbs_natCast, canon_dec canon]
theorem unsign_eq (p : List Nat) : p = (if (unsign p).1 then 45 :: (unsign p).2 else (unsign p).2) := by
  unfold unsign
  split <;> rfl
theorem plain_some {p : List Nat} {d : D} (h : plainD p = some d) : txt d = p ∧ wf d = true ∧ isAtom d = true := by
  unfold plainD at h
  split at h
  · rename_i hw
    injection h with h
    subst h
    exact ⟨rfl, hw, rfl⟩
  · split at h
    · rename_i hd
      rw [Bool.and_eq_true] at hd
      have := figs_some (allD_iff.mp hd.2) h
      rw [← unsign_eq] at this
      exact this
    · cases h
theorem figs_of {n : Int} : ∃ neg ds, decI n = (if neg then 45 :: ds else ds) ∧ AllDigits ds ∧ ds ≠ [] ∧ figs neg ds = some (.i n) ∧ unsign (decI n) = (neg, ds) := by
  rcases decI_cons n with ⟨h, c, r, e, ha, hc, hv⟩ | ⟨h, c, r, e, ha, hc, hv⟩
  · refine ⟨true, c :: r, e, ha, by simp, ?_, by rw [e]; rfl⟩
    unfold figs
    rw [if_neg (by simp), if_neg (by
      rintro ⟨h, _⟩
      simp at h
      omega)]
    rw [if_pos rfl, ← hv]
  · have h45 : c ≠ 45 := by have := ha.head; omega
    refine ⟨false, c :: r, e, ha, by simp, ?_, by rw [e, unsign_cons h45]⟩
    unfold figs
    rw [if_neg (by simp), if_neg (by
      rintro ⟨h, h2⟩
      simp at h
      have := hc h
      subst h this
      rcases h2 with h2 | h2
      · exact h2 rfl
      · cases h2)]
    rw [if_neg (by simp), ← hv]
theorem plain_of {d : D} (hw : wf d = true) (ha : isAtom d = true) : plainD (txt d) = some d := by
  cases d with
  | s w =>
    show plainD w = some (.s w)
    unfold plainD
    rw [if_pos (show (!w.isEmpty && w.all isL) = true from hw)]
  | i n =>
    obtain ⟨neg, ds, e, hd, hne, hf, hu⟩ := figs_of (n := n)
    show plainD (decI n) = some (.i n)
    unfold plainD
    rw [hu]
    have hnl : ¬ ((!(decI n).isEmpty && (decI n).all isL) = true) := by
      intro h
      rw [Bool.and_eq_true, List.all_eq_true] at h
      obtain ⟨c, r, rfl⟩ : ∃ c r, ds = c :: r := by
        cases ds with
        | nil => exact absurd rfl hne
        | cons c r => exact ⟨c, r, rfl⟩
      have hm : c ∈ decI n := by
        rw [e]; cases neg <;> simp
      have h1 := isL_iff.mp (h.2 c hm)
      have h2 := hd.head
      omega
    rw [if_neg hnl, if_pos]
    · exact hf
    · rw [Bool.and_eq_true]
      refine ⟨?_, allD_iff.mpr hd⟩
      cases ds with
      | nil => exact absurd rfl hne
      | cons c r => rfl
  | t ds => cases ha

/-! ### parts of a text -/
def glue (c : Nat) (r : List Nat) (ps : List (List Nat)) : List (List Nat) := match r, ps with
  | x :: _, p :: ps => if dl x then [c] :: p :: ps else (c :: p) :: ps
  | _, ps => [c] :: ps
def sp : List Nat → List (List Nat)
  | [] => []
  | c :: r => if dl c then [c] :: sp r else glue c r (sp r)
/-- an end of a part -/
def Stop (r : List Nat) : Prop := r = [] ∨ ∃ c r', r = c :: r' ∧ dl c = true
theorem sp_ne {c : Nat} {r : List Nat} : ∃ p ps, sp (c :: r) = p :: ps := by
  show ∃ p ps, (if dl c then [c] :: sp r else glue c r (sp r)) = p :: ps
  split
  · exact ⟨_, _, rfl⟩
  · unfold glue
    split
    · split <;> exact ⟨_, _, rfl⟩
    · exact ⟨_, _, rfl⟩
theorem sp_part : ∀ {w r : List Nat}, w ≠ [] → (∀ c ∈ w, dl c = false) → Stop r → sp (w ++ r) = w :: sp r
  | [], _, h, _, _ => absurd rfl h
  | [c], r, _, hw, hs => by
    have hc := hw c (List.mem_singleton.mpr rfl)
    show (if dl c then [c] :: sp r else glue c r (sp r)) = _
    rw [if_neg (by rw [hc]; decide)]
    rcases hs with rfl | ⟨x, r', rfl, hx⟩
    · rfl
    · obtain ⟨p, ps, e⟩ := sp_ne (c := x) (r := r')
      rw [e]
      show (if dl x then [c] :: p :: ps else (c :: p) :: ps) = _
      rw [if_pos hx]
  | c :: x :: w, r, _, hw, hs => by
    have hc := hw c (List.mem_cons_self ..)
    have hx := hw x (List.mem_cons_of_mem _ (List.mem_cons_self ..))
    have ih := sp_part (w := x :: w) (r := r) (by simp) (fun d hd => hw d (List.mem_cons_of_mem _ hd)) hs
    show (if dl c then [c] :: sp (x :: w ++ r) else glue c (x :: (w ++ r)) (sp (x :: w ++ r))) = _
    rw [if_neg (by rw [hc]; decide), ih]
    show (if dl x then _ else (c :: (x :: w)) :: sp r) = _
    rw [if_neg (by rw [hx]; decide)]
theorem sp_dl {c : Nat} {r : List Nat} (h : dl c = true) : sp (c :: r) = [c] :: sp r := by
  show (if dl c then _ else _) = _
  rw [if_pos h]
theorem sp_flat : ∀ l : List Nat, (sp l).flatten = l
  | [] => rfl
  | c :: r => by
    have ih := sp_flat r
    show (if dl c then [c] :: sp r else glue c r (sp r)).flatten = _
    split
    · rw [List.flatten_cons, ih]; rfl
    · cases r with
      | nil => rfl
      | cons x r' =>
        obtain ⟨p, ps, e⟩ := sp_ne (c := x) (r := r')
        rw [e] at ih ⊢
        show (if dl x then [c] :: p :: ps else (c :: p) :: ps).flatten = _
        split
        · rw [List.flatten_cons, ih]; rfl
        · rw [List.flatten_cons] at ih ⊢
          rw [List.cons_append, ih]
mutual
def toks : D → List (List Nat)
  | .s w => [w]
  | .i n => [decI n]
  | .t ds => [40] :: (tokss ds ++ [[41]])
def tokss : List D → List (List Nat)
  | [] => []
  | x :: r => match r with
    | [] => toks x
    | _ :: _ => toks x ++ [32] :: tokss r
end
theorem txt_atom_ne {d : D} (hw : wf d = true) (ha : isAtom d = true) : txt d ≠ [] ∧ ∀ c ∈ txt d, dl c = false := by
  cases d with
  | s w =>
    obtain ⟨h1, h2⟩ := wf_s.mp hw
    exact ⟨h1, fun c hc => dl_L (List.all_eq_true.mp h2 c hc)⟩
  | i n =>
    rcases decI_cons n with ⟨_, c, r, e, hd, _, _⟩ | ⟨_, c, r, e, hd, _, _⟩
    · show decI n ≠ [] ∧ ∀ c ∈ decI n, dl c = false
      rw [e]
      refine ⟨by simp, fun x hx => ?_⟩
      rcases List.mem_cons.mp hx with rfl | hx
      · decide
      · exact dl_D (isD_iff.mpr (hd x hx))
    · show decI n ≠ [] ∧ ∀ c ∈ decI n, dl c = false
      rw [e]
      exact ⟨by simp, fun x hx => dl_D (isD_iff.mpr (hd x hx))⟩
  | t _ => cases ha
mutual
theorem sp_toks : ∀ (d : D) (r : List Nat), wf d = true → Stop r → sp (txt d ++ r) = toks d ++ sp r
  | .s w, r, hw, hs => by
    obtain ⟨h1, h2⟩ := txt_atom_ne hw rfl
    exact sp_part h1 h2 hs
  | .i n, r, hw, hs => by
    obtain ⟨h1, h2⟩ := txt_atom_ne (d := .i n) hw rfl
    exact sp_part h1 h2 hs
  | .t ds, r, hw, hs => by
    show sp (40 :: ((gl (txts ds) ++ [41]) ++ r)) = _
    rw [sp_dl (by decide), List.append_assoc, List.singleton_append, sp_tokss ds (41 :: r) hw (.inr ⟨41, r, rfl, by decide⟩)]
    show [40] :: (tokss ds ++ sp (41 :: r)) = [40] :: (tokss ds ++ [[41]]) ++ sp r
    rw [sp_dl (by decide)]
    simp
theorem sp_tokss : ∀ (ds : List D) (r : List Nat), wfs ds = true → Stop r → sp (gl (txts ds) ++ r) = tokss ds ++ sp r
  | [], r, _, _ => rfl
  | [x], r, hw, hs => by
    have h := wfs_cons.mp hw
    exact sp_toks x r h.1 hs
  | x :: y :: r', r, hw, hs => by
    have h := wfs_cons.mp hw
    show sp ((txt x ++ 32 :: gl (txts (y :: r'))) ++ r) = _
    rw [List.append_assoc, List.cons_append, sp_toks x _ h.1 (.inr ⟨32, _, rfl, by decide⟩), sp_dl (by decide), sp_tokss (y :: r') r h.2 hs]
    show _ = (toks x ++ [32] :: tokss (y :: r')) ++ sp r
    simp
end

/-! ### the stack machine -/
abbrev Stk := List (List D × Bool)
def putS : Stk → D → Option Stk
  | (row, true) :: R, d => some ((row ++ [d], false) :: R)
  | _, _ => none
def step (st : Stk) (p : List Nat) : Option Stk :=
  if p = [40] then (match st with
    | (_, true) :: _ => some (([], true) :: st)
    | _ => none)
  else if p = [41] then (match st with
    | (row, wants) :: R => if R.isEmpty || (wants && !row.isEmpty) then none else putS R (.t row)
    | _ => none)
  else if p = [32] then (match st with
    | (row, wants) :: R => if R.isEmpty || wants then none else some ((row, true) :: R)
    | _ => none)
  else match plainD p with
    | some d => putS st d
    | none => none
def runS : Stk → List (List Nat) → Option Stk
  | st, [] => some st
  | st, p :: ps => match step st p with
    | some st' => runS st' ps
    | none => none
def mrun (l : List Nat) : Option D := match runS [([], true)] (sp l) with
  | some [([d], _)] => some d
  | _ => none
theorem runS_append : ∀ (ps qs : List (List Nat)) (st : Stk), runS st (ps ++ qs) = (runS st ps).bind fun st' => runS st' qs
  | [], _, _ => rfl
  | p :: ps, qs, st => by
    show (match step st p with | some st' => runS st' (ps ++ qs) | none => none) = (match step st p with | some st' => runS st' ps | none => none).bind _
    cases step st p with
    | none => rfl
    | some st' => exact runS_append ps qs st'
theorem txt_not_sign {d : D} (hw : wf d = true) (ha : isAtom d = true) : txt d ≠ [40] ∧ txt d ≠ [41] ∧ txt d ≠ [32] := by
  obtain ⟨_, h⟩ := txt_atom_ne hw ha
  refine ⟨fun e => ?_, fun e => ?_, fun e => ?_⟩ <;> (rw [e] at h; have := h _ (List.mem_singleton.mpr rfl); revert this; decide)
theorem step_atom {d : D} {row : List D} {R : Stk} (hw : wf d = true) (ha : isAtom d = true) : step ((row, true) :: R) (txt d) = some ((row ++ [d], false) :: R) := by
  obtain ⟨h1, h2, h3⟩ := txt_not_sign hw ha
  unfold step
  rw [if_neg h1, if_neg h2, if_neg h3, plain_of hw ha]
  rfl
mutual
theorem run_toks : ∀ (d : D) (row : List D) (R : Stk), wf d = true → runS ((row, true) :: R) (toks d) = some ((row ++ [d], false) :: R)
  | .s w, row, R, hw => by
    show (match step ((row, true) :: R) w with | some st' => runS st' [] | none => none) = _
    rw [show step ((row, true) :: R) w = _ from step_atom hw rfl]
    rfl
  | .i n, row, R, hw => by
    show (match step ((row, true) :: R) (decI n) with | some st' => runS st' [] | none => none) = _
    rw [show step ((row, true) :: R) (decI n) = _ from step_atom (d := .i n) hw rfl]
    rfl
  | .t ds, row, R, hw => by
    show runS (([], true) :: (row, true) :: R) (tokss ds ++ [[41]]) = _
    rw [runS_append]
    cases ds with
    | nil => rfl
    | cons x r =>
      rw [run_tokss (x :: r) [] ((row, true) :: R) hw (by simp) (by simp)]
      rfl
theorem run_tokss : ∀ (ds : List D) (acc : List D) (R : Stk), wfs ds = true → ds ≠ [] → R ≠ [] → runS ((acc, true) :: R) (tokss ds) = some ((acc ++ ds, false) :: R)
  | [], _, _, _, h, _ => absurd rfl h
  | [x], acc, R, hw, _, _ => run_toks x acc R (wfs_cons.mp hw).1
  | x :: y :: r, acc, R, hw, _, hR => by
    have h := wfs_cons.mp hw
    show runS ((acc, true) :: R) (toks x ++ [32] :: tokss (y :: r)) = _
    rw [runS_append, run_toks x acc R h.1]
    show (match step ((acc ++ [x], false) :: R) [32] with | some st' => runS st' (tokss (y :: r)) | none => none) = _
    have e : step ((acc ++ [x], false) :: R) [32] = some ((acc ++ [x], true) :: R) := by
      unfold step
      rw [if_neg (by decide), if_neg (by decide), if_pos rfl]
      show (if R.isEmpty || false then none else _) = _
      rw [if_neg (by cases R <;> simp at hR ⊢)]
    rw [e]
    show runS ((acc ++ [x], true) :: R) (tokss (y :: r)) = _
    rw [run_tokss (y :: r) (acc ++ [x]) R h.2 (by simp) hR]
    simp
end
theorem mrun_txt {d : D} (hw : wf d = true) : mrun (txt d) = some d := by
  have e := sp_toks d [] hw (.inl rfl)
  rw [List.append_nil] at e
  unfold mrun
  rw [e, show sp [] = [] from rfl, List.append_nil, run_toks d [] [] hw]
  rfl
/-- the text that a stack has read -/
def encR (r : List D × Bool) : List Nat := gl (txts r.1) ++ (if r.2 && !r.1.isEmpty then [32] else [])
def enc : Stk → List Nat
  | [] => []
  | [r] => encR r
  | r :: R => enc R ++ 40 :: encR r
structure Good (st : Stk) : Prop where
  ne : st ≠ []
  wf : ∀ r ∈ st, wfs r.1 = true
  em : ∀ r ∈ st, r.1 = [] → r.2 = true
  bot : ∀ r, st.getLast? = some r → (r.1 = [] ∧ r.2 = true) ∨ ∃ d, r.1 = [d] ∧ r.2 = false
theorem gl_snoc (xs : List (List Nat)) (y : List Nat) (h : xs ≠ []) : gl (xs ++ [y]) = gl xs ++ 32 :: y := by
  induction xs with
  | nil => exact absurd rfl h
  | cons x r ih =>
    cases r with
    | nil => rfl
    | cons z r =>
      have := ih (by simp)
      show x ++ 32 :: gl ((z :: r) ++ [y]) = (x ++ 32 :: gl (z :: r)) ++ 32 :: y
      rw [this]; simp
theorem encR_put (row : List D) (d : D) : encR (row ++ [d], false) = encR (row, true) ++ txt d := by
  unfold encR
  rw [txts_map, txts_map, List.map_append]
  show gl (row.map txt ++ [txt d]) ++ [] = _
  rw [List.append_nil]
  cases row with
  | nil => rfl
  | cons x r =>
    rw [gl_snoc _ _ (by simp)]
    show _ = gl _ ++ [32] ++ txt d
    simp
theorem enc_cons (r : List D × Bool) {R : Stk} (h : R ≠ []) : enc (r :: R) = enc R ++ 40 :: encR r := by
  cases R with
  | nil => exact absurd rfl h
  | cons _ _ => rfl
theorem bot_tail {r : List D × Bool} {R : Stk} (hR : R ≠ []) : (r :: R).getLast? = R.getLast? := by
  cases R with
  | nil => exact absurd rfl hR
  | cons a b => rfl
theorem put_good {st st' : Stk} {d : D} (hd : wf d = true) (g : Good st) (h : putS st d = some st') : Good st' ∧ enc st' = enc st ++ txt d := by
  match st, h with
  | (row, true) :: R, h =>
    injection h with h
    subst h
    refine ⟨⟨by simp, fun r hr => ?_, fun r hr => ?_, fun r hr => ?_⟩, ?_⟩
    · rcases List.mem_cons.mp hr with rfl | hr
      · exact wfs_append.mpr ⟨g.wf _ (List.mem_cons_self ..), wfs_cons.mpr ⟨hd, rfl⟩⟩
      · exact g.wf r (List.mem_cons_of_mem _ hr)
    · rcases List.mem_cons.mp hr with rfl | hr
      · intro e; simp at e
      · exact g.em r (List.mem_cons_of_mem _ hr)
    · by_cases hR : R = []
      · subst hR
        have hr' : (row ++ [d], false) = r := Option.some.inj hr
        subst hr'
        rcases g.bot (row, true) rfl with ⟨h1, _⟩ | ⟨_, _, h2⟩
        · have h1 : row = [] := h1
          subst h1
          exact .inr ⟨_, rfl, rfl⟩
        · cases h2
      · rw [bot_tail hR] at hr
        exact g.bot r (by rw [bot_tail hR]; exact hr)
    · by_cases hR : R = []
      · subst hR
        exact encR_put row d
      · rw [enc_cons _ hR, enc_cons _ hR, encR_put]
        simp
theorem Good.tail {r : List D × Bool} {R : Stk} (g : Good (r :: R)) (hR : R ≠ []) : Good R :=
  ⟨hR, fun r hr => g.wf r (List.mem_cons_of_mem _ hr), fun r hr => g.em r (List.mem_cons_of_mem _ hr), fun r hr => g.bot r (by rw [bot_tail hR]; exact hr)⟩
theorem Good.more {R : Stk} (g : Good R) {row : List D} {w : Bool} (h : wfs row = true) (e : row = [] → w = true) : Good ((row, w) :: R) :=
  ⟨by simp, fun r hr => by
    rcases List.mem_cons.mp hr with rfl | hr
    · exact h
    · exact g.wf r hr, fun r hr => by
    rcases List.mem_cons.mp hr with rfl | hr
    · exact e
    · exact g.em r hr, fun r hr => g.bot r (by rw [bot_tail g.ne] at hr; exact hr)⟩
theorem step_open (st : Stk) : step st [40] = (match st with
    | (_, true) :: _ => some (([], true) :: st)
    | _ => none) := by
  unfold step
  rw [if_pos rfl]
theorem step_close (row : List D) (wants : Bool) (R : Stk) : step ((row, wants) :: R) [41] = if R.isEmpty || (wants && !row.isEmpty) then none else putS R (.t row) := by
  unfold step
  rw [if_neg (by decide), if_pos rfl]
theorem step_blank (row : List D) (wants : Bool) (R : Stk) : step ((row, wants) :: R) [32] = if R.isEmpty || wants then none else some ((row, true) :: R) := by
  unfold step
  rw [if_neg (by decide), if_neg (by decide), if_pos rfl]
theorem step_plain {st : Stk} {p : List Nat} (h1 : p ≠ [40]) (h2 : p ≠ [41]) (h3 : p ≠ [32]) : step st p = (match plainD p with
    | some d => putS st d
    | none => none) := by
  unfold step
  rw [if_neg h1, if_neg h2, if_neg h3]
theorem step_good {st st' : Stk} {p : List Nat} (g : Good st) (h : step st p = some st') : Good st' ∧ enc st' = enc st ++ p := by
  obtain ⟨⟨row, wants⟩, R, rfl⟩ : ∃ r R, st = r :: R := by
    cases st with
    | nil => exact absurd rfl g.ne
    | cons r R => exact ⟨r, R, rfl⟩
  by_cases h1 : p = [40]
  · subst h1
    rw [step_open] at h
    cases wants with
    | false => cases h
    | true =>
      have h : some (([], true) :: (row, true) :: R) = some st' := h
      injection h with h
      subst h
      refine ⟨g.more rfl fun _ => rfl, ?_⟩
      rw [enc_cons _ (by simp)]; rfl
  by_cases h2 : p = [41]
  · subst h2
    rw [step_close] at h
    split at h
    · cases h
    rename_i hc
    rw [Bool.or_eq_true] at hc
    have hR : R ≠ [] := fun e => hc (.inl (by rw [e]; rfl))
    obtain ⟨g1, e1⟩ := put_good (show wf (.t row) = true from g.wf _ (List.mem_cons_self ..)) (g.tail hR) h
    refine ⟨g1, ?_⟩
    rw [e1, enc_cons _ hR]
    have : encR (row, wants) = gl (txts row) := by
      have hq : (wants && !row.isEmpty) = false := by
        cases hq : (wants && !row.isEmpty) with
        | false => rfl
        | true => exact absurd (.inr hq) hc
      show gl (txts row) ++ (if (wants && !row.isEmpty) = true then [32] else []) = _
      rw [hq, if_neg (by decide), List.append_nil]
    rw [this]
    show enc R ++ 40 :: (gl (txts row) ++ [41]) = _
    simp
  by_cases h3 : p = [32]
  · subst h3
    rw [step_blank] at h
    split at h
    · cases h
    rename_i hc
    rw [Bool.or_eq_true] at hc
    injection h with h
    subst h
    have hR : R ≠ [] := fun e => hc (.inl (by rw [e]; rfl))
    have hwa : wants = false := by
      cases wants with
      | false => rfl
      | true => exact absurd (.inr rfl) hc
    subst hwa
    have hne : row ≠ [] := fun e => by
      have := g.em _ (List.mem_cons_self ..) e
      cases this
    refine ⟨(g.tail hR).more (g.wf _ (List.mem_cons_self ..)) (fun e => absurd e hne), ?_⟩
    rw [enc_cons _ hR, enc_cons _ hR]
    have e1 : encR (row, true) = gl (txts row) ++ [32] := by
      show gl (txts row) ++ (if (true && !row.isEmpty) = true then [32] else []) = _
      rw [if_pos (by cases row <;> simp at hne ⊢)]
    have e2 : encR (row, false) = gl (txts row) := by
      show gl (txts row) ++ [] = _
      rw [List.append_nil]
    rw [e1, e2]
    simp
  rw [step_plain h1 h2 h3] at h
  cases hp : plainD p with
  | none => rw [hp] at h; cases h
  | some d =>
    rw [hp] at h
    obtain ⟨e1, e2, _⟩ := plain_some hp
    rw [← e1]
    exact put_good e2 g h
theorem run_good : ∀ (ps : List (List Nat)) {st st' : Stk}, Good st → runS st ps = some st' → Good st' ∧ enc st' = enc st ++ ps.flatten
  | [], st, st', g, h => by
    have h : some st = some st' := h
    injection h with h
    subst h
    exact ⟨g, by simp⟩
  | p :: ps, st, st', g, h => by
    have h : (match step st p with | some st' => runS st' ps | none => none) = some st' := h
    cases hs : step st p with
    | none => rw [hs] at h; cases h
    | some s1 =>
      rw [hs] at h
      obtain ⟨g1, e1⟩ := step_good g hs
      obtain ⟨g2, e2⟩ := run_good ps g1 h
      exact ⟨g2, by rw [e2, e1, List.flatten_cons, List.append_assoc]⟩
theorem good0 : Good [([], true)] := ⟨by simp, fun r hr => by rw [List.mem_singleton.mp hr]; rfl, fun r hr _ => by rw [List.mem_singleton.mp hr], fun r hr => by
  have : ([], true) = r := Option.some.inj hr
  subst this
  exact .inl ⟨rfl, rfl⟩⟩
theorem mrun_some {l : List Nat} {d : D} (h : mrun l = some d) : txt d = l ∧ wf d = true := by
  unfold mrun at h
  split at h
  · rename_i d' w hr
    injection h with h
    subst h
    obtain ⟨g, e⟩ := run_good _ good0 hr
    rw [sp_flat] at e
    have hw : w = false := by
      rcases g.bot _ rfl with ⟨h1, _⟩ | ⟨_, _, h2⟩
      · cases h1
      · exact h2
    subst hw
    refine ⟨?_, (wfs_cons.mp (g.wf _ (List.mem_cons_self ..))).1⟩
    have e : txt d' ++ [] = [] ++ l := e
    simpa using e
  · cases h
end Mt
namespace Mt
open PySem PySem.NumText
/-! ### the law's own reading -/
def spanL (p : Nat → Bool) : List Nat → List Nat × List Nat
  | [] => ([], [])
  | c :: r => if p c then ((c :: (spanL p r).1), (spanL p r).2) else ([], c :: r)
theorem span_eq (p : Nat → Bool) : ∀ l : List Nat, l = (spanL p l).1 ++ (spanL p l).2
  | [] => rfl
  | c :: r => by
    show c :: r = (if p c then _ else _ : List Nat × List Nat).1 ++ (if p c then _ else _ : List Nat × List Nat).2
    split
    · show c :: r = (c :: (spanL p r).1) ++ (spanL p r).2
      rw [List.cons_append, ← span_eq p r]
    · rfl
theorem span_all (p : Nat → Bool) : ∀ l : List Nat, (spanL p l).1.all p = true
  | [] => rfl
  | c :: r => by
    show (if p c then _ else _ : List Nat × List Nat).1.all p = true
    split
    · rename_i h
      show (p c && _) = true
      rw [h, span_all p r]; rfl
    · rfl
theorem span_of (p : Nat → Bool) : ∀ {w r : List Nat}, w.all p = true → (r = [] ∨ ∃ c r', r = c :: r' ∧ p c = false) → spanL p (w ++ r) = (w, r)
  | [], r, _, h => by
    rcases h with rfl | ⟨c, r', rfl, hc⟩
    · rfl
    · show (if p c then _ else _) = _
      rw [if_neg (by rw [hc]; decide)]
  | c :: w, r, hw, h => by
    have hw' : (p c && w.all p) = true := hw
    rw [Bool.and_eq_true] at hw'
    show (if p c then _ else _) = _
    rw [if_pos hw'.1]
    show (c :: (spanL p (w ++ r)).1, (spanL p (w ++ r)).2) = _
    rw [span_of p hw'.2 h]
def atm (l : List Nat) : Option (D × List Nat) :=
  if !(spanL isL l).1.isEmpty then some (.s (spanL isL l).1, (spanL isL l).2)
  else match figs (unsign l).1 (spanL isD (unsign l).2).1 with
    | some d => some (d, (spanL isD (unsign l).2).2)
    | none => none
def lp (f : List Nat → Option (D × List Nat)) : Nat → List D → List Nat → Option (D × List Nat)
  | 0, _, _ => none
  | k + 1, acc, l => match f l with
    | none => none
    | some (d, r) => match r with
      | [] => none
      | c :: r' => if c = 41 then some (.t (acc ++ [d]), r') else if c = 32 then lp f k (acc ++ [d]) r' else none
def itm (N : Nat) : Nat → List Nat → Option (D × List Nat)
  | 0, _ => none
  | n + 1, l => match l with
    | [] => atm []
    | c :: r => if c = 40 then (if r.head? = some 41 then some (.t [], r.tail) else lp (itm N n) N [] r) else atm (c :: r)
theorem atm_some {l r : List Nat} {d : D} (h : atm l = some (d, r)) : wf d = true ∧ l = txt d ++ r := by
  unfold atm at h
  split at h
  · rename_i hw
    injection h with h
    injection h with h1 h2
    subst h1 h2
    refine ⟨?_, span_eq isL l⟩
    show (!(spanL isL l).1.isEmpty && (spanL isL l).1.all isL) = true
    rw [hw, span_all]; rfl
  · split at h
    · rename_i d' hd
      injection h with h
      injection h with h1 h2
      subst h1 h2
      obtain ⟨e1, e2, _⟩ := figs_some (allD_iff.mp (span_all isD _)) hd
      refine ⟨e2, ?_⟩
      rw [e1]
      have u := unsign_eq l
      have q := span_eq isD (unsign l).2
      cases hb : (unsign l).1 with
      | true =>
        rw [hb, if_pos rfl] at u
        rw [if_pos rfl, List.cons_append, ← q]
        exact u
      | false =>
        rw [hb, if_neg (by decide)] at u
        rw [if_neg (by decide), ← q]
        exact u
    · cases h
theorem lp_some {f : List Nat → Option (D × List Nat)} (hf : ∀ l d r, f l = some (d, r) → wf d = true ∧ l = txt d ++ r) :
    ∀ (k : Nat) (acc : List D) (l : List Nat) {d : D} {r : List Nat}, lp f k acc l = some (d, r) → ∃ ds, ds ≠ [] ∧ d = .t (acc ++ ds) ∧ wfs ds = true ∧ l = gl (txts ds) ++ 41 :: r
  | 0, _, _, _, _, h => by cases h
  | k + 1, acc, l, d, r, h => by
    have h : (match f l with
      | none => none
      | some (d, r) => match r with
        | [] => none
        | c :: r' => if c = 41 then some (.t (acc ++ [d]), r') else if c = 32 then lp f k (acc ++ [d]) r' else none) = some (d, r) := h
    cases hl : f l with
    | none => rw [hl] at h; cases h
    | some p =>
      obtain ⟨d1, r1⟩ := p
      rw [hl] at h
      obtain ⟨w1, e1⟩ := hf l d1 r1 hl
      cases r1 with
      | nil => cases h
      | cons c r' =>
        have h : (if c = 41 then some (D.t (acc ++ [d1]), r') else if c = 32 then lp f k (acc ++ [d1]) r' else none) = some (d, r) := h
        split at h
        · rename_i hc
          injection h with h
          injection h with h1 h2
          subst h1 h2 hc
          exact ⟨[d1], by simp, rfl, wfs_cons.mpr ⟨w1, rfl⟩, e1⟩
        · split at h
          · rename_i hc
            subst hc
            obtain ⟨ds, hne, hd, hw, hr⟩ := lp_some hf k (acc ++ [d1]) r' h
            refine ⟨d1 :: ds, by simp, by rw [hd]; simp, wfs_cons.mpr ⟨w1, hw⟩, ?_⟩
            cases ds with
            | nil => exact absurd rfl hne
            | cons x y =>
              rw [e1, hr]
              show _ = (txt d1 ++ 32 :: gl (txts (x :: y))) ++ 41 :: r
              simp
          · cases h
theorem itm_some (N : Nat) : ∀ (n : Nat) (l : List Nat) (d : D) (r : List Nat), itm N n l = some (d, r) → wf d = true ∧ l = txt d ++ r
  | 0, _, _, _, h => by cases h
  | n + 1, l, d, r, h => by
    cases l with
    | nil => exact atm_some h
    | cons c l =>
      have q : (if c = 40 then (if l.head? = some 41 then some (D.t [], l.tail) else lp (itm N n) N [] l) else atm (c :: l)) = some (d, r) := h
      clear h
      split at q
      · rename_i hc
        subst hc
        split at q
        · rename_i h1
          injection q with q
          injection q with h2 h3
          subst h2 h3
          cases l with
          | nil => cases h1
          | cons x y =>
            have : x = 41 := Option.some.inj h1
            subst this
            exact ⟨rfl, rfl⟩
        · obtain ⟨ds, _, rfl, hw, e⟩ := lp_some (itm_some N n) N [] l q
          refine ⟨hw, ?_⟩
          rw [e]
          show _ = (40 :: (gl (txts ds) ++ [41])) ++ r
          simp
      · exact atm_some q
/-- what may stand behind a thing -/
def After (r : List Nat) : Prop := r = [] ∨ ∃ c r', r = c :: r' ∧ (c = 41 ∨ c = 32)
theorem after_not {r : List Nat} (h : After r) (p : Nat → Bool) (h1 : p 41 = false) (h2 : p 32 = false) : r = [] ∨ ∃ c r', r = c :: r' ∧ p c = false := by
  rcases h with h | ⟨c, r', e, h⟩
  · exact .inl h
  · exact .inr ⟨c, r', e, by rcases h with rfl | rfl <;> assumption⟩
theorem atm_of {d : D} {r : List Nat} (hw : wf d = true) (ha : isAtom d = true) (hr : After r) : atm (txt d ++ r) = some (d, r) := by
  cases d with
  | s w =>
    have e := span_of isL (w := w) (r := r) (wf_s.mp hw).2 (after_not hr _ (by decide) (by decide))
    show atm (w ++ r) = _
    unfold atm
    rw [e]
    have : w ≠ [] := (wf_s.mp hw).1
    rw [if_pos (by cases w <;> simp at this ⊢)]
  | i n =>
    obtain ⟨neg, ds, e, hd, hne, hf, hu⟩ := figs_of (n := n)
    show atm (decI n ++ r) = _
    have hsp : spanL isD (ds ++ r) = (ds, r) := span_of isD (allD_iff.mpr hd) (after_not hr _ (by decide) (by decide))
    obtain ⟨c, t, rfl⟩ : ∃ c t, ds = c :: t := by
      cases ds with
      | nil => exact absurd rfl hne
      | cons c r => exact ⟨c, r, rfl⟩
    have hc := hd.head
    have hnl : (spanL isL (decI n ++ r)).1 = [] := by
      rw [e]
      cases neg with
      | true =>
        show (if isL 45 then _ else _ : List Nat × List Nat).1 = []
        rw [if_neg (by decide)]
      | false =>
        show (if isL c then _ else _ : List Nat × List Nat).1 = []
        rw [if_neg (by rw [isL_iff]; omega)]
    have hun : unsign (decI n ++ r) = (neg, (c :: t) ++ r) := by
      rw [e]
      cases neg with
      | true => rfl
      | false => exact unsign_cons (by omega)
    unfold atm
    rw [hnl, if_neg (by simp), hun]
    show (match figs neg (spanL isD (c :: t ++ r)).1 with | some d => some (d, (spanL isD (c :: t ++ r)).2) | none => none) = _
    rw [hsp, hf]
  | t _ => cases ha
theorem lp_of {f : List Nat → Option (D × List Nat)} : ∀ (k : Nat) (ds acc : List D) (r : List Nat), ds ≠ [] → ds.length ≤ k → (∀ d ∈ ds, ∀ r, After r → f (txt d ++ r) = some (d, r)) → lp f k acc (gl (txts ds) ++ 41 :: r) = some (.t (acc ++ ds), r)
  | 0, ds, _, _, hne, hk, _ => by
    cases ds with
    | nil => exact absurd rfl hne
    | cons _ _ => simp at hk
  | k + 1, [], _, _, hne, _, _ => absurd rfl hne
  | k + 1, [x], acc, r, _, _, hf => by
    have e := hf x (List.mem_singleton.mpr rfl) (41 :: r) (.inr ⟨41, r, rfl, .inl rfl⟩)
    show (match f (txt x ++ 41 :: r) with
      | none => none
      | some (d, r) => match r with
        | [] => none
        | c :: r' => if c = 41 then some (D.t (acc ++ [d]), r') else if c = 32 then lp f k (acc ++ [d]) r' else none) = _
    rw [e]
    rfl
  | k + 1, x :: y :: t, acc, r, _, hk, hf => by
    have e := hf x (List.mem_cons_self ..) (32 :: (gl (txts (y :: t)) ++ 41 :: r)) (.inr ⟨32, _, rfl, .inr rfl⟩)
    have ih := lp_of k (y :: t) (acc ++ [x]) r (by simp) (by simp at hk ⊢; omega) fun d hd => hf d (List.mem_cons_of_mem _ hd)
    have e2 : gl (txts (x :: y :: t)) ++ 41 :: r = txt x ++ 32 :: (gl (txts (y :: t)) ++ 41 :: r) := by
      show (txt x ++ 32 :: gl (txts (y :: t))) ++ 41 :: r = _
      simp
    rw [e2]
    show (match f (txt x ++ 32 :: (gl (txts (y :: t)) ++ 41 :: r)) with
      | none => none
      | some (d, r) => match r with
        | [] => none
        | c :: r' => if c = 41 then some (D.t (acc ++ [d]), r') else if c = 32 then lp f k (acc ++ [d]) r' else none) = _
    rw [e]
    show (if (32 : Nat) = 41 then _ else if (32 : Nat) = 32 then lp f k (acc ++ [x]) (gl (txts (y :: t)) ++ 41 :: r) else none) = _
    rw [if_neg (by decide), if_pos rfl, ih]
    simp
theorem txt_head_t (ds : List D) (hne : ds ≠ []) (hw : wfs ds = true) (r : List Nat) : (gl (txts ds) ++ 41 :: r).head? ≠ some 41 := by
  obtain ⟨x, t, rfl⟩ : ∃ x t, ds = x :: t := by
    cases ds with
    | nil => exact absurd rfl hne
    | cons x t => exact ⟨x, t, rfl⟩
  have h1 := (wfs_cons.mp hw).1
  have : ∃ c s, txt x = c :: s ∧ c ≠ 41 := by
    cases hx : isAtom x with
    | true =>
      obtain ⟨a, b⟩ := txt_atom_ne h1 hx
      cases e : txt x with
      | nil => exact absurd e a
      | cons c s =>
        have := (dl_false.mp (b c (by rw [e]; exact List.mem_cons_self ..))).2.1
        exact ⟨c, s, rfl, this⟩
    | false =>
      cases x with
      | s _ => cases hx
      | i _ => cases hx
      | t ys => exact ⟨40, _, rfl, by decide⟩
  obtain ⟨c, s, e, hc⟩ := this
  have : ∃ s', gl (txts (x :: t)) = c :: s' := by
    cases t with
    | nil => exact ⟨s, e⟩
    | cons y t => exact ⟨s ++ 32 :: gl (txts (y :: t)), by show txt x ++ _ = _; rw [e]; rfl⟩
  obtain ⟨s', e'⟩ := this
  rw [e']
  intro h
  exact hc (Option.some.inj h)
theorem itm_of (N : Nat) : ∀ (n : Nat) (d : D) (r : List Nat), wf d = true → deep d < n → (txt d).length ≤ N → After r → itm N n (txt d ++ r) = some (d, r)
  | 0, _, _, _, h, _, _ => absurd h (by omega)
  | n + 1, d, r, hw, hd, hN, hr => by
    cases hx : isAtom d with
    | true =>
      obtain ⟨a, b⟩ := txt_atom_ne hw hx
      have e := atm_of hw hx hr
      cases ht : txt d with
      | nil => exact absurd ht a
      | cons c s =>
        rw [ht] at e b
        have hc := (dl_false.mp (b c (List.mem_cons_self ..))).1
        show (if c = 40 then _ else atm (c :: (s ++ r))) = _
        rw [if_neg hc]
        exact e
    | false =>
      cases d with
      | s _ => cases hx
      | i _ => cases hx
      | t ds =>
        show itm N (n + 1) (40 :: ((gl (txts ds) ++ [41]) ++ r)) = _
        rw [List.append_assoc, List.singleton_append]
        show (if (40 : Nat) = 40 then (if (gl (txts ds) ++ 41 :: r).head? = some 41 then some (D.t [], (gl (txts ds) ++ 41 :: r).tail) else lp (itm N n) N [] (gl (txts ds) ++ 41 :: r)) else atm (40 :: (gl (txts ds) ++ 41 :: r))) = _
        rw [if_pos rfl]
        by_cases hne : ds = []
        · subst hne
          rfl
        · rw [if_neg (txt_head_t ds hne hw r)]
          have hlen : (gl (txts ds)).length + 2 ≤ N := by
            have : (40 :: (gl (txts ds) ++ [41])).length ≤ N := hN
            rw [List.length_cons, List.length_append, List.length_singleton] at this
            omega
          have hdl : ds.length ≤ N := by
            have h1 := gl_len (txts ds)
            have h2 : ds.length ≤ ((txts ds).map (·.length + 1)).sum := by
              rw [txts_map]
              clear h1 hlen hN hd hw hx hne
              induction ds with
              | nil => exact Nat.le_refl _
              | cons x r ih =>
                simp only [List.map_cons, List.sum_cons, List.length_cons] at ih ⊢
                omega
            split at h1 <;> omega
          have hd' : deeps ds + 1 < n + 1 := hd
          exact lp_of N ds [] r hne hdl fun d hdm r' hr' => itm_of N n d r' (by
            have : ∀ {ds : List D}, wfs ds = true → ∀ d ∈ ds, wf d = true := by
              intro ds
              induction ds with
              | nil => intro _ d h; cases h
              | cons x r ih =>
                intro h d hd
                rcases List.mem_cons.mp hd with rfl | hd
                · exact (wfs_cons.mp h).1
                · exact ih (wfs_cons.mp h).2 d hd
            exact this hw d hdm) (by
              have := deeps_le.mp (Nat.le_refl (deeps ds)) d hdm
              omega) (by
              have : (txt d).length ≤ (gl (txts ds)).length := gl_mem (by rw [txts_map]; exact List.mem_map_of_mem hdm)
              omega) hr'

/-! ### open brackets -/
def bal (l : List Nat) : Int := (l.count 40 : Int) - (l.count 41 : Int)
theorem bal_append (a b : List Nat) : bal (a ++ b) = bal a + bal b := by
  unfold bal
  rw [List.count_append, List.count_append]
  omega
def Bal (n : Nat) (l : List Nat) : Prop := ∀ i, bal (l.take i) ≤ n
theorem bal_one (c : Nat) : -1 ≤ bal [c] ∧ bal [c] ≤ 1 := by
  unfold bal
  rw [List.count_singleton, List.count_singleton]
  split <;> split <;> omega
theorem bal_nil : bal [] = 0 := rfl
theorem bal_plain {l : List Nat} (h : ∀ c ∈ l, dl c = false) : bal l = 0 := by
  unfold bal
  rw [List.count_eq_zero.mpr (fun hm => by have := h _ hm; revert this; decide), List.count_eq_zero.mpr (fun hm => by have := h _ hm; revert this; decide)]
  rfl
mutual
theorem bal_txt : ∀ (d : D), wf d = true → bal (txt d) = 0
  | .s w, hw => bal_plain (txt_atom_ne hw rfl).2
  | .i n, hw => bal_plain (txt_atom_ne (d := .i n) hw rfl).2
  | .t ds, hw => by
    have := bal_gl ds hw
    show bal ([40] ++ (gl (txts ds) ++ [41])) = 0
    rw [bal_append, bal_append, this]
    rfl
theorem bal_gl : ∀ (ds : List D), wfs ds = true → bal (gl (txts ds)) = 0
  | [], _ => rfl
  | [x], hw => bal_txt x (wfs_cons.mp hw).1
  | x :: y :: r, hw => by
    have h := wfs_cons.mp hw
    show bal (txt x ++ ([32] ++ gl (txts (y :: r)))) = 0
    rw [bal_append, bal_append, bal_txt x h.1, bal_gl (y :: r) h.2]
    rfl
end
theorem take_app {a b : List Nat} (i : Nat) : bal ((a ++ b).take i) = bal (a.take i) + bal (b.take (i - a.length)) := by
  rw [List.take_append, bal_append]
theorem plain_take {l : List Nat} (h : ∀ c ∈ l, dl c = false) (i : Nat) : bal (l.take i) = 0 := bal_plain fun c hc => h c (List.mem_of_mem_take hc)
mutual
theorem Bal_txt : ∀ (d : D) (i : Nat), wf d = true → bal ((txt d).take i) ≤ deep d
  | .s w, i, hw => by rw [show bal ((txt (.s w)).take i) = 0 from plain_take (txt_atom_ne hw rfl).2 i]; exact Int.le_refl _
  | .i n, i, hw => by rw [show bal ((txt (.i n)).take i) = 0 from plain_take (txt_atom_ne (d := .i n) hw rfl).2 i]; exact Int.le_refl _
  | .t ds, i, hw => by
    have h1 := Bal_gl ds (i - 1) hw
    show bal (([40] ++ (gl (txts ds) ++ [41])).take i) ≤ ((deeps ds + 1 : Nat) : Int)
    rw [take_app, take_app]
    have h2 : bal ([40].take i) ≤ 1 := by
      cases i with
      | zero => decide
      | succ i => rw [List.take_of_length_le (by simp)]; decide
    have h3 : bal ([41].take (i - [40].length - (gl (txts ds)).length)) ≤ 0 := by
      cases (i - [40].length - (gl (txts ds)).length) with
      | zero => decide
      | succ i => rw [List.take_of_length_le (by simp)]; decide
    show _ + (bal ((gl (txts ds)).take (i - 1)) + _) ≤ _
    omega
theorem Bal_gl : ∀ (ds : List D) (i : Nat), wfs ds = true → bal ((gl (txts ds)).take i) ≤ deeps ds
  | [], i, _ => by show bal (([] : List Nat).take i) ≤ _; rw [List.take_nil]; exact Int.le_refl _
  | [x], i, hw => by
    have := Bal_txt x i (wfs_cons.mp hw).1
    show _ ≤ ((max (deep x) 0 : Nat) : Int)
    have e : bal ((gl (txts [x])).take i) = bal ((txt x).take i) := rfl
    omega
  | x :: y :: r, i, hw => by
    have h := wfs_cons.mp hw
    have h1 := Bal_txt x i h.1
    have h2 := bal_txt x h.1
    have h3 := Bal_gl (y :: r) (i - (txt x).length - 1) h.2
    show bal ((txt x ++ ([32] ++ gl (txts (y :: r)))).take i) ≤ ((max (deep x) (deeps (y :: r)) : Nat) : Int)
    rw [take_app]
    by_cases hi : i ≤ (txt x).length
    · rw [show i - (txt x).length = 0 by omega]
      show _ + bal [] ≤ _
      rw [bal_nil]
      omega
    · rw [List.take_of_length_le (by omega), h2, take_app]
      have h4 : bal ([32].take (i - (txt x).length)) = 0 := by
        cases (i - (txt x).length) with
        | zero => rfl
        | succ i => rw [List.take_of_length_le (by simp)]; rfl
      rw [h4]
      show 0 + (0 + bal ((gl (txts (y :: r))).take (i - (txt x).length - 1))) ≤ _
      omega
end
theorem Bal.of {d : D} {n : Nat} (hw : wf d = true) (h : deep d ≤ n) : Bal n (txt d) := fun i => by
  have := Bal_txt d i hw
  omega
theorem Bal.mono {n m : Nat} {l : List Nat} (b : Bal n l) (h : n ≤ m) : Bal m l := fun i => by
  have := b i
  omega
/-- behind an open bracket -/
theorem Bal.down {n : Nat} {r : List Nat} (b : Bal n (40 :: r)) : 1 ≤ n ∧ Bal (n - 1) r := by
  have h1 := b 1
  have h1 : (1 : Int) ≤ n := h1
  refine ⟨by omega, fun i => ?_⟩
  have h2 := b (i + 1)
  have e : bal ((40 :: r).take (i + 1)) = bal ([40] ++ r.take i) := rfl
  rw [e, bal_append, show bal [40] = 1 from rfl] at h2
  omega
/-- behind a thing -/
theorem Bal.past {n : Nat} {d : D} {r : List Nat} (hw : wf d = true) (b : Bal n (txt d ++ r)) : Bal n r := fun i => by
  have := b ((txt d).length + i)
  rw [take_app, List.take_of_length_le (by omega), bal_txt d hw, show (txt d).length + i - (txt d).length = i by omega] at this
  omega
theorem Bal.skip {n c : Nat} {r : List Nat} (hc : c ≠ 41) (b : Bal n (c :: r)) : Bal n r := fun i => by
  have := b (i + 1)
  have e : bal ((c :: r).take (i + 1)) = bal ([c] ++ r.take i) := rfl
  rw [e, bal_append] at this
  have h : 0 ≤ bal [c] := by
    unfold bal
    rw [List.count_singleton, List.count_singleton]
    split
    · split <;> omega
    · split
      · rename_i h1 h2; exact absurd (by simpa using h2) hc
      · omega
  omega
mutual
theorem peak : ∀ (d : D), wf d = true → ∃ i, i ≤ (txt d).length ∧ bal ((txt d).take i) = deep d
  | .s _, _ => ⟨0, Nat.zero_le _, rfl⟩
  | .i _, _ => ⟨0, Nat.zero_le _, rfl⟩
  | .t ds, hw => by
    obtain ⟨i, hi, e⟩ := peaks ds hw
    refine ⟨i + 1, ?_, ?_⟩
    · show i + 1 ≤ (40 :: (gl (txts ds) ++ [41])).length
      rw [List.length_cons, List.length_append]
      omega
    · show bal ([40] ++ (gl (txts ds) ++ [41]).take i) = ((deeps ds + 1 : Nat) : Int)
      rw [bal_append, List.take_append, show i - (gl (txts ds)).length = 0 by omega, List.take_zero, List.append_nil, e]
      show 1 + _ = _
      omega
theorem peaks : ∀ (ds : List D), wfs ds = true → ∃ i, i ≤ (gl (txts ds)).length ∧ bal ((gl (txts ds)).take i) = deeps ds
  | [], _ => ⟨0, Nat.zero_le _, rfl⟩
  | [x], hw => by
    obtain ⟨i, hi, e⟩ := peak x (wfs_cons.mp hw).1
    refine ⟨i, hi, ?_⟩
    show bal ((txt x).take i) = ((max (deep x) 0 : Nat) : Int)
    rw [e]; omega
  | x :: y :: r, hw => by
    have h := wfs_cons.mp hw
    obtain ⟨i, hi, e⟩ := peak x h.1
    obtain ⟨j, hj, e2⟩ := peaks (y :: r) h.2
    have hx := bal_txt x h.1
    have hl : (gl (txts (x :: y :: r))).length = (txt x).length + 1 + (gl (txts (y :: r))).length := by
      show (txt x ++ 32 :: gl (txts (y :: r))).length = _
      rw [List.length_append, List.length_cons]; omega
    by_cases hc : deeps (y :: r) ≤ deep x
    · refine ⟨i, by omega, ?_⟩
      show bal ((txt x ++ ([32] ++ gl (txts (y :: r)))).take i) = ((max (deep x) (deeps (y :: r)) : Nat) : Int)
      rw [List.take_append, show i - (txt x).length = 0 by omega, List.take_zero, List.append_nil, e]
      omega
    · refine ⟨(txt x).length + 1 + j, by omega, ?_⟩
      show bal ((txt x ++ ([32] ++ gl (txts (y :: r)))).take ((txt x).length + 1 + j)) = ((max (deep x) (deeps (y :: r)) : Nat) : Int)
      rw [take_app, List.take_of_length_le (by omega), hx, show (txt x).length + 1 + j - (txt x).length = j + 1 by omega]
      show 0 + bal ([32] ++ (gl (txts (y :: r))).take j) = _
      rw [bal_append, e2]
      show 0 + (0 + _) = _
      omega
end
theorem Bal.deep_le {d : D} {n : Nat} (hw : wf d = true) (b : Bal n (txt d)) : Mt.deep d ≤ n := by
  obtain ⟨i, _, e⟩ := peak d hw
  have := b i
  omega
/-- the two readings agree -/
theorem read_agree {l : List Nat} {n : Nat} (b : Bal n l) : (∀ d, mrun l = some d → itm l.length (n + 1) l = some (d, [])) ∧ (∀ d, itm l.length (n + 1) l = some (d, []) → mrun l = some d) := by
  refine ⟨fun d h => ?_, fun d h => ?_⟩
  · obtain ⟨e, hw⟩ := mrun_some h
    subst e
    have := itm_of (txt d).length (n + 1) d [] hw (Nat.lt_succ_of_le (b.deep_le hw)) (Nat.le_refl _) (.inl rfl)
    rwa [List.append_nil] at this
  · obtain ⟨hw, e⟩ := itm_some _ _ _ _ _ h
    rw [List.append_nil] at e
    subst e
    exact mrun_txt hw
end Mt
namespace Mt
open PySem PySem.Spec PyProof.Rows L2 PySem.NumText
section
variable {X : Cx}
theorem foldl_rep (a : Array Nat) : ∀ (n : Nat) (b : Array Nat), ((List.replicate n a).foldl (· ++ ·) b).toList = b.toList ++ (List.replicate n a.toList).flatten
  | 0, b => by simp
  | n + 1, b => by
    rw [List.replicate_succ, List.foldl_cons, foldl_rep a n, List.replicate_succ, List.flatten_cons, Array.toList_append, List.append_assoc]
/-- text * number -/
def rMulS : R2 := fun x y H Q => ∃ z k, x = .str z ∧ y = .int k ∧ 0 ≤ k ∧ k ≤ 1000000 ∧ z.length ≤ 1 ∧ Q (.str (mk (List.replicate k.toNat (cs z)).flatten)) H
theorem op_mulS : OpR X (binaryOp .Mult) rMulS := by
  intro pins s σ H x y u v Q I rx ry h
  obtain ⟨z, k, rfl, rfl, h0, h1, hz, q⟩ := h
  obtain ⟨t, rfl⟩ := rx
  obtain ⟨t2, rfl⟩ := ry
  have hs : sizeLine = 16777216 := by decide
  refine PySem.P.mul_str (by
    rw [decide_eq_false (by omega), decide_eq_false (by omega)]; rfl) (fun hk _ => ?_) (fun _ _ => ?_) ?_
  · have : (z.length : Int) ≤ 1 := by omega
    have h2 : (1 : Int) ≤ (2 ^ 63 - 1) / k := by
      apply (Int.le_ediv_iff_mul_le (by omega)).mpr
      omega
    omega
  · unfold Builtin.Str.tooLong
    rw [decide_eq_false]
    rw [hs]
    have : z.length * k.toNat ≤ 1 * k.toNat := Nat.mul_le_mul_right _ hz
    omega
  · by_cases hk : k < 1
    · have e : k = 0 := by omega
      subst e
      rw [if_pos (by decide)]
      refine ⟨by decide, ⟨.str _, H, I.tok _, ⟨_, rfl⟩, ?_⟩⟩
      exact q
    · rw [if_neg hk]
      by_cases hb : (k == 1 || z.length == 0) = true
      · rw [if_pos hb]
        have e : mk (List.replicate k.toNat (cs z)).flatten = z := by
          rw [← mk_cs z]
          congr 1
          rw [cs_mk]
          rw [Bool.or_eq_true, beq_iff_eq, beq_iff_eq] at hb
          rcases hb with hb | hb
          · subst hb; simp
          · have : cs z = [] := List.length_eq_zero_iff.mp (by rw [← len_cs]; exact hb)
            rw [this]; simp
        rw [e] at q
        exact ⟨.str _, H, I, ⟨_, rfl⟩, q⟩
      · rw [if_neg hb]
        have e : (⟨(List.replicate k.toNat z.cps).foldl (· ++ ·) #[]⟩ : Str) = mk (List.replicate k.toNat (cs z)).flatten := by
          apply str_ext
          rw [cs_mk]
          show ((List.replicate k.toNat z.cps).foldl (· ++ ·) #[]).toList = _
          rw [foldl_rep]
          rfl
        rw [e]
        refine ⟨?_, ⟨.str _, H, I.tok _, ⟨_, rfl⟩, q⟩⟩
        show (mk _).length ≤ sizeLine
        rw [len_cs, cs_mk, hs]
        have : (List.replicate k.toNat (cs z)).flatten.length = k.toNat * (cs z).length := by simp
        rw [this, ← len_cs]
        have : k.toNat * z.length ≤ k.toNat * 1 := Nat.mul_le_mul_left _ hz
        omega
end

/-! ### text.join(reversed(list)) -/
section
variable {prog : Program} {w : World} {A : Around} {E : Value → Shared → Prop} {s : Shared}
theorem join_rev {it l : Addr} {items : Array Value} {x : Str} {t : Tok} {ys : List Str} {Q : Value → Shared → Prop}
    (hh : A.handled = none) (hit : s.heap.IsRevIter it l ((items.size : Int) - 1)) (hl : s.heap.IsList l items) (hne : l ≠ it) (hn : items.size ≤ sizeLine)
    (hP : ∀ acc : Array Value, ItemsOf (fun i v => items[items.size - 1 - i]? = some v) acc items.size → StrsAre acc.toList ys)
    (hok : (ys.map (·.length)).sum + ys.length * x.length ≤ 16777216)
    (hq : ∀ (h' : Heap) (tk : Nat) (t' : Tok) (k : Nat), (∀ b o, b ≠ it → s.heap.get? b = some o → h'.get? b = some o) → Q (.str (Txt.join x ys) t') { s with heap := h', toks := k }) :
    wpAny (model prog w) A (call (.builtin "str.join") [.str x t, .ref it]) Q E s := by
  have hh1 : A.in1.handled = none := hh
  have hTI : s.TypeIs (.ref it) "list_reverseiterator" := hit.typeIs
  refine wpAny_call (codeAny_call_builtin F.slot_str_join.plain F.entry_str_join
    (F.slot_str_join.check _ _ _ _ _ _ _ _ (typeIs_str _ _ _) (F.args_str_join_2 _ _) ?_))
  rw [join_tree_other]
  refine wpAny_bind (wpAny_typeOf hTI ?_)
  show wpAny _ A.in1 ((pyIter (.ref it)).tryCatch _ >>= fun i2 => collect i2 >>= fun got => joinTail x got) _ _ s
  refine wpAny_bind (wpAny_tryCatch (wpAny_pyIter_revIter hit ?_))
  refine wpAny_bind (RT.collect_rev (A := A.in1) hh1 hit hl hne hn fun h' tk acc hk hacc => ?_)
  obtain ⟨l2, hl2, ht⟩ := strsAre_values (hP acc hacc)
  subst ht
  rw [hl2]
  have hok2 := joinOk_of hok
  unfold JoinOk at hok2
  rw [Bool.not_eq_true'] at hok2
  have g : Gives (joinTail x (strValues l2)) (joinMade x l2) := by
    rcases l2 with _ | ⟨p, _ | ⟨q, r⟩⟩ <;> exact gives_joinTail x _ hok2
  exact g prog w A (wants Q E) _ (post_join l2 ⟨joinFit_length hok2, fun t' k => hq h' tk t' k hk⟩)
end

section
variable {X : Cx}
theorem strs_rev : ∀ {us : List Value} {ys : List Str}, StrsAre us ys → StrsAre us.reverse ys.reverse := by
  intro us ys h
  obtain ⟨l, rfl, rfl⟩ := strsAre_values h
  have : ∀ l : List (Str × Tok), StrsAre (strValues l).reverse (l.map (·.1)).reverse := by
    intro l
    have e : (strValues l).reverse = strValues l.reverse := by simp [strValues]
    rw [e, ← List.map_reverse]
    generalize l.reverse = m
    induction m with
    | nil => exact .nil
    | cons p r ih => exact .cons _ _ ih
  exact this l
theorem acc_rev {its : List Value} {acc : Array Value} (h : ItemsOf (fun i v => its.toArray[its.toArray.size - 1 - i]? = some v) acc its.toArray.size) : acc.toList = its.reverse := by
  have hs : its.toArray.size = its.length := List.size_toArray
  apply List.ext_getElem?
  intro j
  have hl : acc.toList.length = its.length := by rw [Array.length_toList, h.1, hs]
  by_cases hj : j < its.length
  · have hja : j < acc.toList.length := by omega
    have e2 := h.2 j _ (by rw [← Array.getElem?_toList]; exact List.getElem?_eq_getElem hja)
    rw [List.getElem?_eq_getElem hja, List.getElem?_reverse hj, ← e2, hs]
    simp
  · rw [List.getElem?_eq_none (by omega), List.getElem?_eq_none (by rw [List.length_reverse]; omega)]
/-- sep.join(reversed(xs)), xs a list of texts -/
def tJoinRev (K : PySem.W.Frag) (to te : TE) : TE := fun σ H Q => to σ H fun x H1 => (∃ a, x = .str a) ∧ te σ H1 fun v H2 =>
  ∃ (a : Str) (l : Addr) (ys : List Str), x = .str a ∧ v = .ref l ∧ SqL K H2 l (ys.map V.str) ∧
    (ys.map (·.length)).sum + ys.length * a.length ≤ 16777216 ∧ Q (.str (Txt.join a ys.reverse)) H2
theorem pe_joinRev {o e : Expr} {to te : TE} {apos pos p2 pos2 : Pos} (hc : X.calm = true) (hg : Gl X "reversed") (hm : X.mg "reversed" = none) (ho : PE X o to) (he : PE X e te)
    (hs : starEach [e] X.env = (false, eval e X.env) :: starEach [] X.env := by rfl)
    (hs1 : starEach [.Call (.Name "reversed" p2) [e] [] pos2] X.env = [(false, eval (.Call (.Name "reversed" p2) [e] [] pos2) X.env)] := by rfl)
    (hbase : attributeBase o "join" X.env (eval o X.env) = eval o X.env := by rfl) (hline : (apos.endLine == pos.line) = true := by rfl) :
    PE X (.Call (.Attribute o "join" apos) [.Call (.Name "reversed" p2) [e] [] pos2] [] pos) (tJoinRev X.K to te) := by
  refine ⟨fun pins s σ H Q I h => ?_⟩
  refine PySem.Call_method1 hbase hs1 hline (thn (ho.run pins s σ H _ I h) fun v s1 ⟨x, H1, I1, r1, q1⟩ => ?_)
  obtain ⟨⟨a, rfl⟩, q1⟩ := q1
  obtain ⟨t, rfl⟩ := _root_.id r1
  refine ⟨"str", _, F.plainAttrs_str, F.slot_str_join, F.type_str_join, typeIs_str _ _ _, (fun _ e => nomatch e),
    Calls.callWith_builtin rfl (Calls.evalArgs_plain (Calls.spliced_cons ?_))⟩
  refine Call_ (ld_blt I1 hg hm PyProof.Rows.boot_reversed (PyProof.Rows.callWith_type1
    (args_cons (thn (he.run pins s1 σ H1 _ I1 q1) fun u s2 ⟨y, H2, I2, r2, q2⟩ => args_nil ?_) hs) hs rfl))
  obtain ⟨a2, l, ys, ea, ey, hq, hz, q⟩ := q2
  cases ea
  subst ey
  obtain rfl : u = Value.ref l := r2
  obtain ⟨its, rv, pl, hsz⟩ := I2.list hq
  refine call_reversed_list pl.isList ?_
  refine Calls.spliced_nil ?_
  obtain ⟨f0, f1, f2, f3, f4, f5⟩ := I2.fpOk (H' := H2) (b := s2.heap.objs.size) (Nat.le_refl _) (I2.hok.fresh (Nat.le_refl _))
  have hl2 := pl.isList
  obtain ⟨ol, hol, _⟩ := id hl2
  have hne : l ≠ s2.heap.objs.size := Nat.ne_of_lt (Heap.lt_size hol)
  have hn : its.toArray.size ≤ sizeLine := by rw [List.size_toArray, ← rv.length]; exact hsz
  have I3 : Inv X pins σ H2 { s2 with heap := s2.heap.push (revObj l ((its.toArray.size : Int) - 1)) } :=
    I2.kept (t' := s2.toks) fun b o e => Heap.get?_push_of_some _ e
  refine join_rev (ys := ys.reverse) (s := { s2 with heap := s2.heap.push (revObj l ((its.toArray.size : Int) - 1)) }) (I2.ok.hd hc)
    ⟨_, Heap.get?_push_size _ rfl, rfl, rfl⟩ (hl2.push _) hne hn (fun acc hacc => ?_) ?_ fun h' tk t' k hk => ?_
  · rw [acc_rev hacc]
    exact strs_rev (strs_of_vals rv)
  · rw [List.map_reverse, List.sum_reverse, List.length_reverse]
    exact hz
  · exact ⟨.str _, H2, I3.turned (t' := k) (fun b o hb e => hk b o hb e) f0 f1 f3 f4 f5, ⟨t', rfl⟩, q⟩
end
/-- the figures of a number, filled with zeros -/
theorem cs_zfill (r : Int) (h0 : 0 ≤ r) (h1 : r < 10 ^ 50) : cs (Txt.zfill (Str.ofString (toString r)) 50) = pad 50 r.toNat := by
  have hl := dec_len (n := r.toNat) (k := 50) (by omega) (by decide)
  have e := cs_num r h0
  have el : (Str.ofString (toString r)).length = (dec r.toNat).length := by rw [len_cs, e]
  unfold Txt.zfill pad
  by_cases h : (50 : Int) ≤ (Str.ofString (toString r)).length
  · rw [if_pos h, e]
    have : 50 - (dec r.toNat).length = 0 := by omega
    rw [this]; rfl
  · rw [if_neg h]
    unfold zfilled
    have hd : ∀ c, (Str.ofString (toString r)).cps[0]? = some c → c ≠ 43 ∧ c ≠ 45 := by
      intro c hc
      have : c ∈ dec r.toNat := by
        rw [← e]
        exact Array.mem_toList_iff.mpr (Array.mem_of_getElem? hc)
      have := dec_all _ c this
      omega
    split
    · rename_i hc; exact absurd rfl (hd _ hc).1
    · rename_i hc; exact absurd rfl (hd _ hc).2
    · show (Builtin.Str.padded _ _ _ _).cps.toList = _
      unfold Builtin.Str.padded
      simp only [Array.toList_append, Array.toList_replicate, List.replicate_zero, List.append_nil]
      show List.replicate (50 - (Str.ofString (toString r)).length) 48 ++ cs _ = _
      rw [e, el]
end Mt
namespace Mt
open PySem PySem.Spec PyProof.Rows L2 PySem.NumText
def topS (i : Nat) : Stmt := PySem.Challenge.pw_isthmus_k02_texts_read_back.main.body.getD i (.Pass ⟨0, 0, 0, 0⟩)
abbrev sReadNum : Stmt := topS 5
abbrev sReadPlain : Stmt := topS 6
abbrev sSplit : Stmt := topS 7
abbrev sPut : Stmt := topS 8
abbrev sRead : Stmt := topS 9
abbrev sBox : Stmt := topS 11
abbrev sTake : Stmt := topS 12
abbrev sWord : Stmt := topS 13
abbrev sFig : Stmt := topS 14
abbrev sNum : Stmt := topS 15
abbrev sInt : Stmt := topS 16
abbrev sSamp : Stmt := topS 17
abbrev sPlain : Stmt := topS 18
abbrev sNest : Stmt := topS 19
abbrev sRun : Stmt := topS 20
abbrev sItem : Stmt := topS 21
abbrev sLread : Stmt := topS 22
abbrev sSame : Stmt := topS 23
abbrev sAsked : Stmt := topS 24
abbrev sSpoilt : Stmt := topS 25
abbrev sLaw : Stmt := topS 26

/-! ### heaps: the box's list changes, all else stays -/
structure Gr (b : Addr) (H H' : Hp) : Prop where
  keep : ∀ a o, a ≠ b → H a = some o → H' a = some o
  box : ∃ n : Int, 0 ≤ n ∧ H' b = some (.lst [.int n])
def BoxAt (H : Hp) (b : Addr) : Prop := ∃ n : Int, 0 ≤ n ∧ H b = some (.lst [.int n])
theorem Gr.refl {b : Addr} {H : Hp} (h : BoxAt H b) : Gr b H H := ⟨fun _ _ _ h => h, h⟩
theorem Gr.trans {b : Addr} {H H1 H2 : Hp} (x : Gr b H H1) (y : Gr b H1 H2) : Gr b H H2 := ⟨fun a o n h => y.keep a o n (x.keep a o n h), y.box⟩
theorem Gr.new {b p : Addr} {H H' : Hp} {o : HO} (x : Gr b H H') (h : H' p = none) : Gr b H (upd H' p o) where
  keep := fun a u n e => by
    have q := x.keep a u n e
    rw [upd_ne (ne_of_none q h)]; exact q
  box := by
    obtain ⟨n, h0, e⟩ := x.box
    exact ⟨n, h0, by rw [upd_ne (ne_of_none e h)]; exact e⟩
/-- an object that H does not know changes -/
theorem Gr.mut {b p : Addr} {H H' : Hp} {o : HO} (x : Gr b H H') (h : H p = none) (hb : p ≠ b) : Gr b H (upd H' p o) where
  keep := fun a u n e => by rw [upd_ne (ne_of_none e h)]; exact x.keep a u n e
  box := by
    obtain ⟨n, h0, e⟩ := x.box
    exact ⟨n, h0, by rw [upd_ne (Ne.symm hb)]; exact e⟩
theorem Gr.free {b p : Addr} {H H' : Hp} (x : Gr b H H') (hb : BoxAt H b) (h : H' p = none) : H p = none ∧ p ≠ b := by
  have hpb : p ≠ b := fun e => by
    obtain ⟨n, _, q⟩ := x.box
    rw [e, q] at h; cases h
  refine ⟨?_, hpb⟩
  cases q : H p with
  | none => rfl
  | some u => rw [x.keep p u hpb q] at h; cases h
theorem Gr.boxAt {b : Addr} {H H' : Hp} (x : Gr b H H') : BoxAt H' b := x.box

def spTake : Sp := fun vs H Q _ => ∃ (b : Addr) (m : Int), vs = [.ref b, .int m] ∧ BoxAt H b ∧ 0 < m ∧ m < 4000000 ∧
  ∀ (r : Int) (H' : Hp), 0 ≤ r → r < m → Gr b H H' → Q (.int r) H'
/-- a def of the box alone -/
def spB (G : V → Hp → Prop) : Sp := fun vs H Q _ => ∃ b : Addr, vs = [.ref b] ∧ BoxAt H b ∧ ∀ (v : V) (H' : Hp), Gr b H H' → G v H' → Q v H'
def spBox (K : PySem.W.Frag) : Sp := fun vs H Q _ => ∃ (a : Addr) (ns : List Int) (k : Int), vs = [.ref a, .int k] ∧ SqL K H a (ns.map V.int) ∧ 0 ≤ k ∧
  ∀ (p : Addr) (H' : Hp), Same H H' → BoxAt H' p → H p = none → Q (.ref p) H'
theorem at_int {ns : List Int} {k : Int} (h0 : 0 ≤ k) (h : k < (ns.length : Int)) : ∃ v : Int, atI (ns.map V.int) k = some (.int v) := by
  obtain ⟨j, rfl⟩ := Int.eq_ofNat_of_zero_le h0
  have hj : j < ns.length := by omega
  exact ⟨ns[j], atI_nat (by rw [List.getElem?_map, List.getElem?_eq_getElem hj]; rfl)⟩
section
variable {P : Program} {w : World} {K : PySem.W.Frag} {mg : Str → Option Value} {base : Heap} {f g : Addr} {fd gd : FuncData}
theorem scTake : FnScope ["box", "many", "told"] ["box", "many"] (defScope sTake) := ⟨rfl, rfl, rfl, by decide +kernel, rfl, by decide +kernel, by decide +kernel⟩
theorem ok_take (F : Fun K "_law_take" "_law_take" sTake f fd) (mi : mg "int" = none) : FnOk P w K mg base CX0 1 f fd ["box", "many"] spTake := by
  refine F.ok scTake (fun vs H Q E h => ?_) (fun cdv A outer s H vs Q E hr h => ?_)
  · obtain ⟨b, m, rfl, _⟩ := h
    rfl
  obtain ⟨b, m, rfl, ⟨n, hn, hb⟩, h0, h1, q⟩ := h
  refine ⟨_, pss_cons (ps_set (i := 2) scTake.nd rfl (Or.inl rfl)
      (pe_op op_mod (pe_callTy call_int1 rfl mi boot_int (pa_cons (pe_ix ix_list (pv 0) pe_int (fun _ _ => rfl)) pa_nil)) (pv 1)))
    (pss_cons (ps_asg (pe_op op_fdiv (pe_ix ix_list (pv 0) pe_int (fun _ _ => rfl)) (pv 1)) (pg_sub (pv 0) pe_int set_list))
    (pss_one (ps_ret (pv 2)))), ?_⟩
  refine ⟨_, rfl, b, _, 0, _, rfl, rfl, SqL.of hb, rfl, .inl ⟨n, rfl, _, rfl, n, m, rfl, rfl, h0, ?_⟩⟩
  refine ⟨_, rfl, b, _, 0, _, rfl, rfl, SqL.of hb, rfl, _, rfl, n, m, rfl, rfl, ⟨h0, by omega⟩, ?_⟩
  refine ⟨_, rfl, b, _, 0, 0, rfl, rfl, hb, rfl, ?_⟩
  refine ⟨_, rfl, q _ _ (Int.emod_nonneg _ (by omega)) (Int.emod_lt_of_pos _ h0) ⟨fun a o hne e => ?_, n / m, Int.ediv_nonneg hn (by omega), upd_same⟩⟩
  rw [upd_ne hne]; exact e

theorem scBox : FnScope ["script", "at", "cell"] ["script", "at"] (defScope sBox) := ⟨rfl, rfl, rfl, by decide +kernel, rfl, by decide +kernel, by decide +kernel⟩
theorem ok_box (F : Fun K "_law_box" "_law_box" sBox f fd) (mi : mg "int" = none) (ma : mg "abs" = none) (ml : mg "len" = none) : FnOk P w K mg base CX0 1 f fd ["script", "at"] (spBox K) := by
  refine F.ok scBox (fun vs H Q E h => ?_) (fun cdv A outer s H vs Q E hr h => ?_)
  · obtain ⟨a, ns, k, rfl, _⟩ := h
    rfl
  obtain ⟨a, ns, k, rfl, hS, hk, q⟩ := h
  refine ⟨_, pss_cons (ps_set (i := 2) scBox.nd rfl (Or.inl rfl) pe_int)
    (pss_cons (ps_if (pt_cmpR op_lt (pv 1) (pe_callB call_len_seq rfl ml PySem.boot_len (pa_cons (pv 0) pa_nil)) (nomark _))
      (pss_one (ps_set (i := 2) scBox.nd rfl (Or.inl rfl) (pe_callB call_abs rfl ma boot_abs (pa_cons (pe_callTy call_int1 rfl mi boot_int (pa_cons (pe_ix ix_list (pv 0) (pv 1) (fun _ _ => rfl)) pa_nil)) pa_nil)))) pss_nil)
    (pss_cons (ps_if (pt_cmpR op_lt (pv 2) (pe_op op_pow pe_int pe_int) (nomark _))
      (pss_one (ps_set (i := 2) scBox.nd rfl (Or.inl rfl) (pe_op op_mul (pv 2) pe_int))) pss_nil)
    (pss_one (ps_ret (pe_lst (pa_cons (pe_op op_mul (pe_op op_mul (pe_op op_mul (pe_op op_mul (pe_op op_mul (pe_op op_mul (pe_op op_mul (pe_op op_mul (pv 2) pe_int) pe_int) pe_int) pe_int) pe_int) pe_int) pe_int) pe_int) pa_nil)))))), ?_⟩
  -- behind the second if
  have fin : ∀ (c : Int) (σ : L2.St), 0 ≤ c → σ[2]? = some (some (V.int c)) → 
    (tLst (tCons (tOp (rI CMul fun i j => .int (i * j)) (tOp (rI CMul fun i j => .int (i * j)) (tOp (rI CMul fun i j => .int (i * j)) (tOp (rI CMul fun i j => .int (i * j)) (tOp (rI CMul fun i j => .int (i * j)) (tOp (rI CMul fun i j => .int (i * j)) (tOp (rI CMul fun i j => .int (i * j)) (tOp (rI CMul fun i j => .int (i * j)) (tVar 2) (tC (.int 2147483647))) (tC (.int 1000000007))) (tC (.int 998244353))) (tC (.int 4294967291))) (tC (.int 982451653))) (tC (.int 67280421310721))) (tC (.int 2305843009213693951))) (tC (.int 999999999989))) tNil)) σ H Q := by
    intro c σ hc e
    refine ⟨_, e, c, _, rfl, rfl, .inr ⟨by decide, by decide⟩, _, _, rfl, rfl, .inr ⟨by decide, by decide⟩, _, _, rfl, rfl, .inr ⟨by decide, by decide⟩, _, _, rfl, rfl, .inr ⟨by decide, by decide⟩,
      _, _, rfl, rfl, .inr ⟨by decide, by decide⟩, _, _, rfl, rfl, .inr ⟨by decide, by decide⟩, _, _, rfl, rfl, .inr ⟨by decide, by decide⟩, _, _, rfl, rfl, .inr ⟨by decide, by decide⟩, (by show 1 ≤ sizeLine; decide), fun p hp => ?_⟩
    refine q p _ (fun x o e => by rw [upd_ne (ne_of_none e hp)]; exact e) ⟨_, ?_, upd_same⟩ hp
    repeat (first | exact hc | refine Int.mul_nonneg ?_ (by decide))
  have mid : ∀ (c : Int) (σ : L2.St), 0 ≤ c → σ.length = 3 → σ[2]? = some (some (V.int c)) → 
     (tIfS (tTest (tOp (rI0 fun i j => .bl (decide (i < j))) (tVar 2) (tOp (rI CPow fun i j => .int (i ^ j.toNat)) (tC (.int 10)) (tC (.int 18))))) (tAsg (tOp (rI CMul fun i j => .int (i * j)) (tVar 2) (tC (.int 998244359987710471))) (gName 2)) tNext)
     { nx := fun σ H => (tLst (tCons (tOp (rI CMul fun i j => .int (i * j)) (tOp (rI CMul fun i j => .int (i * j)) (tOp (rI CMul fun i j => .int (i * j)) (tOp (rI CMul fun i j => .int (i * j)) (tOp (rI CMul fun i j => .int (i * j)) (tOp (rI CMul fun i j => .int (i * j)) (tOp (rI CMul fun i j => .int (i * j)) (tOp (rI CMul fun i j => .int (i * j)) (tVar 2) (tC (.int 2147483647))) (tC (.int 1000000007))) (tC (.int 998244353))) (tC (.int 4294967291))) (tC (.int 982451653))) (tC (.int 67280421310721))) (tC (.int 2305843009213693951))) (tC (.int 999999999989))) tNil)) σ H Q, rt := Q } σ H := by
    intro c σ hc hl e
    refine ⟨_, e, _, _, rfl, rfl, ⟨by decide, by decide, by decide⟩, _, _, rfl, rfl, _, rfl, ?_⟩
    refine ite2 (fun _ => ?_) (fun _ => ?_)
    · refine ⟨_, e, _, _, rfl, rfl, .inr ⟨by decide, by decide⟩, ?_⟩
      exact fin (c * 998244359987710471) _ (Int.mul_nonneg hc (by decide)) (List.getElem?_set_self (by rw [hl]; decide))
    · exact fin c σ hc e
  refine ⟨_, rfl, _, rfl, a, _, rfl, .inl hS, _, _, rfl, rfl, _, rfl, ?_⟩
  refine ite2 (fun c => ?_) (fun c => ?_)
  · have c' : k < (((ns.map V.int).length : Nat) : Int) := of_decide_eq_true c
    rw [List.length_map] at c'
    obtain ⟨v, ea⟩ := at_int hk c'
    refine ⟨_, rfl, _, rfl, a, _, k, _, rfl, rfl, hS, ea, .inl ⟨_, rfl, _, rfl, ?_⟩⟩
    refine mid _ _ ?_ rfl rfl
    split <;> omega
  · exact mid 0 _ (by decide) rfl rfl

/-- the callee «_law_take» as it stands -/
structure Tk (P : Program) (w : World) (K : PySem.W.Frag) (mg : Str → Option Value) (base : Heap) (g : Addr) (gd : FuncData) : Prop where
  ok : FnOk P w K mg base CX0 1 g gd ["box", "many"] spTake
  b : Binds K gd ["box", "many"] []
  k : PySem.W.keepIn K (.ref g) = true
  m : mg "_law_take" = some (.ref g)
structure Cal (P : Program) (w : World) (K : PySem.W.Frag) (mg : Str → Option Value) (base : Heap) (x : Str) (n : Nat) (ps : List Str) (sp : Sp) (g : Addr) (gd : FuncData) : Prop where
  ok : FnOk P w K mg base CX0 n g gd ps sp
  b : Binds K gd ps []
  k : PySem.W.keepIn K (.ref g) = true
  m : mg x = some (.ref g)

def Word (l : List Nat) : Prop := (∀ c ∈ l, 97 ≤ c ∧ c ≤ 122) ∧ 1 ≤ l.length ∧ l.length ≤ 68
def gWord : V → Hp → Prop := fun v _ => ∃ x : Str, v = .str x ∧ Word (cs x)
def alphabet : Str := Str.ofString "abcdefghijklmnopqrstuvwxyz"
theorem alpha_at : ∀ r : Nat, r < 26 → (cs alphabet)[r]? = some (97 + r) := by decide +kernel
theorem alpha_len : alphabet.length ≤ sizeLine := by decide +kernel
theorem scWord : FnScope ["box", "many", "k"] ["box"] (defScope sWord) := ⟨rfl, rfl, rfl, by decide +kernel, rfl, by decide +kernel, by decide +kernel⟩
/-- texts of one sign, joined -/
theorem one_sign_join {ys : List Str} {n : Nat} (h : ∀ y ∈ ys, y.length = 1) (hn : ys.length = n) : (ys.map (·.length)).sum = n ∧ ((ys.map cs).flatten).length = n := by
  subst hn
  induction ys with
  | nil => exact ⟨rfl, rfl⟩
  | cons y r ih =>
    obtain ⟨h1, h2⟩ := ih fun z hz => h z (List.mem_cons_of_mem _ hz)
    have h3 := h y (List.mem_cons_self ..)
    rw [List.map_cons, List.sum_cons, List.map_cons, List.flatten_cons, List.length_append, h1, h2, ← len_cs, h3, List.length_cons]
    omega
theorem ok_word (F : Fun K "_law_word" "_law_word" sWord f fd) (T : Cal P w K mg base "_law_take" 1 ["box", "many"] spTake g gd) (mr : mg "range" = none) :
    FnOk P w K mg base CX0 2 f fd ["box"] (spB gWord) := by
  refine F.ok scWord (fun vs H Q E h => ?_) (fun cdv A outer s H vs Q E hr h => ?_)
  · obtain ⟨b, rfl, _⟩ := h
    rfl
  obtain ⟨b, rfl, hb, q⟩ := h
  refine ⟨_, pss_cons (ps_set (i := 1) scWord.nd rfl (Or.inl rfl)
      (pe_ifExp (pt_cmpR op_gt (pe_call T.ok hr rfl T.m T.k T.b .nil pass0 (pa_cons (pv 0) (pa_cons pe_int pa_nil))) pe_int (nomark _))
        (pe_op op_add pe_int (pe_call T.ok hr rfl T.m T.k T.b .nil pass0 (pa_cons (pv 0) (pa_cons pe_int pa_nil))))
        (pe_op op_add pe_int (pe_call T.ok hr rfl T.m T.k T.b .nil pass0 (pa_cons (pv 0) (pa_cons pe_int pa_nil))))))
    (pss_one (ps_ret (pe_join pe_str
      (pe_lc (own := [("k", 2)]) (g := gName 2) (tt := tYes) rfl scWord.nd (pi_range1 rfl mr (pa_cons (pv 1) pa_nil)) (blkOk_by (N := ["box", "many", "k"]) (sc := defScope sWord) (by decide +kernel))
        (fun _ _ _ _ _ => pg_name (i := 2) scWord.nd rfl (Or.inl rfl)) (fun _ _ _ _ _ => pts_nil)
        (fun _ _ _ _ _ => pe_ix ix_str pe_str (pe_call T.ok hr rfl T.m T.k T.b .nil pass0 (pa_cons (pv 0) (pa_cons pe_int pa_nil))) (fun _ _ => rfl)))))), ?_⟩
  refine ⟨_, rfl, b, 6, rfl, hb, by decide, by decide, fun r1 H1 h1 h2 g1 => ⟨_, _, rfl, rfl, _, rfl, ?_⟩⟩
  suffices key : ∀ (m : Int) (H2 : Hp), 1 ≤ m → m ≤ 68 → Gr b H H2 →
      (tM1 (fun x xs H Q => ∃ a p, ∃ ys : List Str, x = V.str a ∧ xs = [V.ref p] ∧ (SqL K H p (ys.map V.str) ∨ SqT K H p (ys.map V.str)) ∧ (ys.map (·.length)).sum + ys.length * a.length ≤ 16777216 ∧ Q (.str (Txt.join a ys)) H)
        (tC (.str (Str.ofString ""))) (tLc (iRng1 (tCons (tVar 1) tNil)) (gName 2) tYes (tOp rIxS (tC (.str alphabet)) (tCall spTake [] E0 (tCons (tVar 0) (tCons (tC (.int 26)) tNil)))) [2])) [some (.ref b), some (.int m), none] H2 Q by
    refine ite2 (fun _ => ?_) (fun _ => ?_)
    · refine ⟨_, rfl, b, 8, rfl, g1.boxAt, by decide, by decide, fun r2 H2 h3 h4 g2 => ⟨_, _, rfl, rfl, ?_⟩⟩
      exact key _ H2 (by omega) (by omega) (g1.trans g2)
    · refine ⟨_, rfl, b, 60, rfl, g1.boxAt, by decide, by decide, fun r2 H2 h3 h4 g2 => ⟨_, _, rfl, rfl, ?_⟩⟩
      exact key _ H2 (by omega) (by omega) (g1.trans g2)
  intro m H2 hm1 hm2 g2
  refine ⟨⟨_, rfl⟩, _, rfl, m, rfl, by omega, by omega, fun D hD => ?_⟩
  obtain ⟨hD0, hDb⟩ := g2.free hb hD
  refine lc_range (lo := 0) (n := m.toNat) (fun i H3 => Gr b H H3 ∧ ∃ ys : List Str, H3 D = some (.lst (ys.map V.str)) ∧ ys.length = i ∧ ∀ y ∈ ys, y.length = 1 ∧ ∀ c ∈ cs y, 97 ≤ c ∧ c ≤ 122) ?_ (fun i H3 hi p => ?_) (fun H3 p => ?_)
  · exact ⟨g2.new hD, [], upd_same, rfl, fun _ h => nomatch h⟩
  · obtain ⟨g3, ys, hys, hl, hc⟩ := p
    refine ⟨rfl, ?_⟩
    refine ⟨_, rfl, b, 26, rfl, g3.boxAt, by decide, by decide, fun r H4 h3 h4 g4 => ?_⟩
    obtain ⟨j, rfl⟩ := Int.eq_ofNat_of_zero_le h3
    have hj : j < 26 := by omega
    refine ⟨_, _, _, rfl, rfl, alpha_len, atI_nat (alpha_at j hj), ys.map V.str, g4.keep D _ hDb hys, ?_, (g3.trans g4).mut hD0 hDb, ys ++ [⟨#[97 + j]⟩], ?_, ?_, ?_⟩
    · rw [List.length_map, hl]
      exact Nat.lt_of_lt_of_le (show i < 68 by omega) (by decide)
    · rw [upd_same, List.map_append]; rfl
    · rw [List.length_append, hl]; rfl
    · intro y hy
      rcases List.mem_append.mp hy with hy | hy
      · exact hc y hy
      · rw [List.mem_singleton.mp hy]
        refine ⟨rfl, fun c hc => ?_⟩
        have : c = 97 + j := by simpa [cs] using hc
        omega
  · obtain ⟨g3, ys, hys, hl, hc⟩ := p
    obtain ⟨e1, e2⟩ := one_sign_join (fun y hy => (hc y hy).1) hl
    refine ⟨_, D, ys, rfl, rfl, .inl (SqL.of hys), ?_, q _ H3 g3 ⟨_, rfl, ?_⟩⟩
    · rw [e1]
      have : (Str.ofString "").length = 0 := by decide +kernel
      rw [this]; omega
    · have ej : cs (Txt.join (Str.ofString "") ys) = (ys.map cs).flatten := by
        show cs (Builtin.Str.glued _ _) = _
        rw [StrLaws.glued_eq_join, cs_join0]
      rw [ej]
      refine ⟨fun c hcm => ?_, by omega, by omega⟩
      obtain ⟨l, hl1, hl2⟩ := List.mem_flatten.mp hcm
      obtain ⟨y, hy, rfl⟩ := List.mem_map.mp hl1
      exact (hc y hy).2 c hl2
end
end Mt
namespace Mt
open PySem PySem.Spec PyProof.Rows L2 PySem.NumText
theorem cs_cut (z : Str) (lo hi : Nat) (h : lo ≤ hi) : cs (cutS z (some (lo : Int)) (some (hi : Int))) = ((cs z).drop lo).take (hi - lo) := by
  show (((cs z).drop (HT.sIx z.length 0 (some (lo : Int)))).take (HT.sIx z.length z.length (some (hi : Int)) - HT.sIx z.length 0 (some (lo : Int)))).toArray.toList = _
  rw [HT.sIx_nat, HT.sIx_nat, List.toList_toArray, len_cs]
  by_cases h1 : (cs z).length ≤ lo
  · rw [show min lo (cs z).length = (cs z).length by omega, List.drop_eq_nil_of_le h1, List.drop_eq_nil_of_le (Nat.le_refl _), List.take_nil, List.take_nil]
  · rw [show min lo (cs z).length = lo by omega]
    by_cases h2 : hi ≤ (cs z).length
    · rw [show min hi (cs z).length = hi by omega]
    · rw [show min hi (cs z).length = (cs z).length by omega, List.take_of_length_le (by rw [List.length_drop]; omega), List.take_of_length_le (by rw [List.length_drop]; omega)]
theorem cs_cut1 (z : Str) : cs (cutS z (some 1) none) = (cs z).drop 1 := by
  show (((cs z).drop (HT.sIx z.length 0 (some ((1 : Nat) : Int)))).take (HT.sIx z.length z.length none - HT.sIx z.length 0 (some ((1 : Nat) : Int)))).toArray.toList = _
  rw [HT.sIx_nat, HT.sIx_none, List.toList_toArray, len_cs]
  by_cases h1 : (cs z).length ≤ 1
  · rw [Nat.min_eq_right h1, List.drop_eq_nil_of_le h1, List.drop_eq_nil_of_le (Nat.le_refl _), List.take_nil]
  · rw [Nat.min_eq_left (by omega), List.take_of_length_le (by rw [List.length_drop]; omega)]
theorem line_big : (16777216 : Nat) ≤ sizeLine := by decide
theorem str_len {x : Str} {n : Nat} (h : (cs x).length ≤ n) (hn : n ≤ 16777216) : x.length ≤ sizeLine := by
  rw [len_cs]; exact Nat.le_trans h (Nat.le_trans hn line_big)
theorem cs_lit0 : cs (Str.ofString "0") = [48] := by decide +kernel
theorem cs_lit1 : cs (Str.ofString "1") = [49] := by decide +kernel
theorem rep_one (n : Nat) (c : Nat) : (List.replicate n [c]).flatten = List.replicate n c := by
  induction n with
  | zero => rfl
  | succ n ih => rw [List.replicate_succ, List.flatten_cons, ih, List.replicate_succ]; rfl
theorem dig1 {r : Int} (h0 : 0 ≤ r) (h1 : r < 10) : (Str.ofString (toString r)).length = 1 ∧ ∀ c ∈ cs (Str.ofString (toString r)), 48 ≤ c ∧ c ≤ 57 := by
  rw [len_cs, cs_num r h0]
  exact ⟨by rw [dec_lt (by omega)]; rfl, dec_all _⟩
theorem log_small {r : Int} (h0 : 0 ≤ r) (h1 : r < 2 ^ 1900) : r.natAbs.log2 < 1920 := by
  have : r.natAbs < 2 ^ 1900 := by omega
  by_cases h : r.natAbs = 0
  · rw [h]; decide
  · have := (Nat.log2_lt h).mpr this
    omega

section
variable {P : Program} {w : World} {K : PySem.W.Frag} {mg : Str → Option Value} {base : Heap} {f g : Addr} {fd gd : FuncData}
def gFig : V → Hp → Prop := fun v _ => ∃ x : Str, v = .str x ∧ Canon (cs x) ∧ (cs x).length ≤ 4400
theorem scFig : FnScope ["box", "many", "row", "k"] ["box"] (defScope sFig) := ⟨rfl, rfl, rfl, by decide +kernel, rfl, by decide +kernel, by decide +kernel⟩
theorem menu9 : ∀ j : Nat, j < 9 → ∃ m : Int, ([V.int 1, V.int 2, V.int 3, V.int 4, V.int 9, V.int 19, V.int 41, V.int 51, V.int 4400] : List V)[j]? = some (V.int m) ∧ 1 ≤ m ∧ m ≤ 4400
  | 0, _ => ⟨1, rfl, by decide, by decide⟩ | 1, _ => ⟨2, rfl, by decide, by decide⟩ | 2, _ => ⟨3, rfl, by decide, by decide⟩ | 3, _ => ⟨4, rfl, by decide, by decide⟩
  | 4, _ => ⟨9, rfl, by decide, by decide⟩ | 5, _ => ⟨19, rfl, by decide, by decide⟩ | 6, _ => ⟨41, rfl, by decide, by decide⟩ | 7, _ => ⟨51, rfl, by decide, by decide⟩
  | 8, _ => ⟨4400, rfl, by decide, by decide⟩ | n + 9, h => absurd h (by omega)
theorem menu3 : ∀ j : Nat, j < 3 → ∃ x : Str, ([V.str (Str.ofString "1"), V.str (Str.ofString "9"), V.str (Str.ofString "5")] : List V)[j]? = some (V.str x) ∧ ∃ c, cs x = [c] ∧ 49 ≤ c ∧ c ≤ 57
  | 0, _ => ⟨_, rfl, 49, by decide +kernel, by decide, by decide⟩ | 1, _ => ⟨_, rfl, 57, by decide +kernel, by decide, by decide⟩ | 2, _ => ⟨_, rfl, 53, by decide +kernel, by decide, by decide⟩
  | n + 3, h => absurd h (by omega)
theorem ok_fig (F : Fun K "_law_figures" "_law_figures" sFig f fd) (T : Cal P w K mg base "_law_take" 1 ["box", "many"] spTake g gd) (mr : mg "range" = none) (mm : mg "min" = none) (ms : mg "str" = none) (ml : mg "len" = none) :
    FnOk P w K mg base CX0 2 f fd ["box"] (spB gFig) := by
  refine F.ok scFig (fun vs H Q E h => ?_) (fun cdv A outer s H vs Q E hr h => ?_)
  · obtain ⟨b, rfl, _⟩ := h
    rfl
  obtain ⟨b, rfl, hb, q⟩ := h
  refine ⟨_, pss_cons (ps_set (i := 1) scFig.nd rfl (Or.inl rfl)
      (pe_ifExp (pt_cmpR op_eq (pe_call T.ok hr rfl T.m T.k T.b .nil pass0 (pa_cons (pv 0) (pa_cons pe_int pa_nil))) pe_int (nomark _))
        (pe_ix ix_list (pe_lst (pa_cons pe_int (pa_cons pe_int (pa_cons pe_int (pa_cons pe_int (pa_cons pe_int (pa_cons pe_int (pa_cons pe_int (pa_cons pe_int (pa_cons pe_int pa_nil)))))))))) (pe_call T.ok hr rfl T.m T.k T.b .nil pass0 (pa_cons (pv 0) (pa_cons pe_int pa_nil))) (fun _ _ => rfl))
        (pe_op op_add pe_int (pe_call T.ok hr rfl T.m T.k T.b .nil pass0 (pa_cons (pv 0) (pa_cons pe_int pa_nil))))))
    (pss_cons (ps_set (i := 2) scFig.nd rfl (Or.inl rfl) (pe_join pe_str
      (pe_lc (own := [("k", 3)]) (g := gName 3) (tt := tYes) rfl scFig.nd (pi_range1 rfl mr (pa_cons (pe_callB (call_min2 rfl) rfl mm boot_min (pa_cons (pv 1) (pa_cons pe_int pa_nil))) pa_nil)) (blkOk_by (N := ["box", "many", "row", "k"]) (sc := defScope sFig) (by decide +kernel))
        (fun _ _ _ _ _ => pg_name (i := 3) scFig.nd rfl (Or.inl rfl)) (fun _ _ _ _ _ => pts_nil)
        (fun _ _ _ _ _ => pe_callTy call_str_int rfl ms boot_str (pa_cons (pe_call T.ok hr rfl T.m T.k T.b .nil pass0 (pa_cons (pv 0) (pa_cons pe_int pa_nil))) pa_nil)))))
    (pss_cons (ps_set (i := 2) scFig.nd rfl (Or.inl rfl) (pe_op op_add_str (pe_op op_add_str
        (pe_ix ix_list (pe_lst (pa_cons pe_str (pa_cons pe_str (pa_cons pe_str pa_nil)))) (pe_call T.ok hr rfl T.m T.k T.b .nil pass0 (pa_cons (pv 0) (pa_cons pe_int pa_nil))) (fun _ _ => rfl))
        (pe_slice sl_str (pv 2) (po_some pe_int) po_none))
        (pe_op op_mulS pe_str (pe_op op_sub (pv 1) (pe_callB call_len_str rfl ml PySem.boot_len (pa_cons (pv 2) pa_nil))))))
    (pss_one (ps_ret (pe_ifExp (PW.pt (pw_and (pt_cmpR op_eq (pv 1) pe_int (nomark _)) (pw_and1 (pt_cmpR op_eq (pe_call T.ok hr rfl T.m T.k T.b .nil pass0 (pa_cons (pv 0) (pa_cons pe_int pa_nil))) pe_int (nomark _)))))
      pe_str (pv 2)))))), ?_⟩
  refine ⟨_, rfl, b, 12, rfl, hb, by decide, by decide, fun r1 H1 h1 h2 g1 => ⟨rfl, _, rfl, ?_⟩⟩
  suffices key : ∀ (m : Int) (H2 : Hp), 1 ≤ m → m ≤ 4400 → Gr b H H2 →
      (tAsg (tM1 (fun x xs H Q => ∃ a p, ∃ ys : List Str, x = V.str a ∧ xs = [V.ref p] ∧ (SqL K H p (ys.map V.str) ∨ SqT K H p (ys.map V.str)) ∧ (ys.map (·.length)).sum + ys.length * a.length ≤ 16777216 ∧ Q (.str (Txt.join a ys)) H)
        (tC (.str (Str.ofString ""))) (tLc (iRng1 (tCons (tCB (fun xs H Q => ∃ i j, xs = [V.int i, V.int j] ∧ Q (.int (if j < i then j else i)) H) (tCons (tVar 1) (tCons (tC (.int 40)) tNil))) tNil)) (gName 3) tYes
          (tCB (fun xs H Q => ∃ i : Int, xs = [V.int i] ∧ i.natAbs.log2 < 1920 ∧ Q (.str (toString i)) H) (tCons (tCall spTake [] E0 (tCons (tVar 0) (tCons (tC (.int 10)) tNil))) tNil)) [3])) (gName 2))
      { nx := fun σ H => tAsg (tOp (fun x y H Q => ∃ i j, x = .str i ∧ y = .str j ∧ i.length + j.length ≤ sizeLine ∧ Q (.str (i ++ j)) H)
          (tOp (fun x y H Q => ∃ i j, x = .str i ∧ y = .str j ∧ i.length + j.length ≤ sizeLine ∧ Q (.str (i ++ j)) H)
            (tOp (rIxL K) (tLst (tCons (tC (.str (Str.ofString "1"))) (tCons (tC (.str (Str.ofString "9"))) (tCons (tC (.str (Str.ofString "5"))) tNil)))) (tCall spTake [] E0 (tCons (tVar 0) (tCons (tC (.int 3)) tNil))))
            (tSl rSlS (tVar 2) (tPart (tC (.int 1))) tNoPart))
          (tOp rMulS (tC (.str (Str.ofString "0"))) (tOp (rI0 fun i j => .int (i - j)) (tVar 1) (tCB (fun xs H Q => ∃ z : Str, xs = [V.str z] ∧ z.length ≤ sizeLine ∧ Q (.int z.length) H) (tCons (tVar 2) tNil))))) (gName 2)
          { nx := fun σ H => tRet (tIf (tAnd (tTest (tOp rEq (tVar 1) (tC (.int 1)))) (tTest (tOp rEq (tCall spTake [] E0 (tCons (tVar 0) (tCons (tC (.int 3)) tNil))) (tC (.int 0))))) (tC (.str (Str.ofString "0"))) (tVar 2)) { nx := fun _ H' => Q .non H', rt := Q } σ H, rt := Q } σ H, rt := Q }
      [some (.ref b), some (.int m), none, none] H2 by
    refine ite2 (fun _ => ?_) (fun _ => ?_)
    · refine ⟨(by show 9 ≤ sizeLine; decide), fun p hp => ?_⟩
      have g1' := g1.new (o := .lst [V.int 1, V.int 2, V.int 3, V.int 4, V.int 9, V.int 19, V.int 41, V.int 51, V.int 4400]) hp
      obtain ⟨hp0, hpb⟩ := g1.free hb hp
      refine ⟨_, rfl, b, 9, rfl, g1'.boxAt, by decide, by decide, fun r2 H2 h3 h4 g2 => ?_⟩
      obtain ⟨j, rfl⟩ := Int.eq_ofNat_of_zero_le h3
      obtain ⟨m, hm, hm1, hm2⟩ := menu9 j (by omega)
      refine ⟨p, _, _, _, rfl, rfl, SqL.of (g2.keep p _ hpb upd_same), atI_nat hm, ?_⟩
      exact key m H2 hm1 hm2 (g1'.trans g2)
    · refine ⟨_, rfl, b, 12, rfl, g1.boxAt, by decide, by decide, fun r2 H2 h3 h4 g2 => ⟨_, _, rfl, rfl, ?_⟩⟩
      exact key _ H2 (by omega) (by omega) (g1.trans g2)
  intro m H2 hm1 hm2 g2
  obtain ⟨m40, hm40, hl1, hl2, hl3⟩ : ∃ m40 : Int, (if (40 : Int) < m then (40 : Int) else m) = m40 ∧ 1 ≤ m40 ∧ m40 ≤ 40 ∧ m40 ≤ m := by
    by_cases h : (40 : Int) < m
    · exact ⟨40, if_pos h, by omega, by omega, by omega⟩
    · exact ⟨m, if_neg h, by omega, by omega, by omega⟩
  refine ⟨⟨_, rfl⟩, _, rfl, m, 40, rfl, ?_⟩
  rw [hm40]
  refine ⟨m40, rfl, by omega, by omega, fun D hD => ?_⟩
  obtain ⟨hD0, hDb⟩ := g2.free hb hD
  refine lc_range (lo := 0) (n := m40.toNat) (fun i H3 => Gr b H H3 ∧ ∃ ys : List Str, H3 D = some (.lst (ys.map V.str)) ∧ ys.length = i ∧ ∀ y ∈ ys, y.length = 1 ∧ ∀ c ∈ cs y, 48 ≤ c ∧ c ≤ 57) ?_ (fun i H3 hi p => ?_) (fun H3 p => ?_)
  · exact ⟨g2.new hD, [], upd_same, rfl, fun _ h => nomatch h⟩
  · obtain ⟨g3, ys, hys, hl, hc⟩ := p
    refine ⟨rfl, ?_⟩
    refine ⟨_, rfl, b, 10, rfl, g3.boxAt, by decide, by decide, fun r H4 h3 h4 g4 => ?_⟩
    refine ⟨r, rfl, log_small h3 (by omega), ys.map V.str, g4.keep D _ hDb hys, ?_, (g3.trans g4).mut hD0 hDb, ys ++ [Str.ofString (toString r)], ?_, ?_, ?_⟩
    · rw [List.length_map, hl]
      exact Nat.lt_of_lt_of_le (show i < 68 by omega) (by decide)
    · rw [upd_same, List.map_append]; rfl
    · rw [List.length_append, hl]; rfl
    · intro y hy
      rcases List.mem_append.mp hy with hy | hy
      · exact hc y hy
      · rw [List.mem_singleton.mp hy]
        exact dig1 h3 h4
  · obtain ⟨g3, ys, hys, hl, hc⟩ := p
    obtain ⟨e1, e2⟩ := one_sign_join (fun y hy => (hc y hy).1) hl
    refine ⟨_, D, ys, rfl, rfl, .inl (SqL.of hys), ?_, ?_⟩
    · rw [e1]
      have : (Str.ofString "").length = 0 := by decide +kernel
      rw [this]; omega
    have ej : cs (Txt.join (Str.ofString "") ys) = (ys.map cs).flatten := by
      show cs (Builtin.Str.glued _ _) = _
      rw [StrLaws.glued_eq_join, cs_join0]
    have row : ∃ row : Str, row = Txt.join (Str.ofString "") ys := ⟨_, rfl⟩
    obtain ⟨row, hrow⟩ := row
    have hrl : (cs row).length = m40.toNat := by rw [hrow, ej, e2]
    have hra : AllDigits (cs row) := by
      rw [hrow, ej]
      intro c hcm
      obtain ⟨l, hl1, hl2⟩ := List.mem_flatten.mp hcm
      obtain ⟨y, hy, rfl⟩ := List.mem_map.mp hl1
      exact (hc y hy).2 c hl2
    rw [← hrow]
    refine ⟨(by show 3 ≤ sizeLine; decide), fun p hp => ?_⟩
    have g3' := g3.new (o := .lst [V.str (Str.ofString "1"), V.str (Str.ofString "9"), V.str (Str.ofString "5")]) hp
    obtain ⟨hp0, hpb⟩ := g3.free hb hp
    refine ⟨_, rfl, b, 3, rfl, g3'.boxAt, by decide, by decide, fun r2 H4 h3 h4 g4 => ?_⟩
    obtain ⟨j, rfl⟩ := Int.eq_ofNat_of_zero_le h3
    obtain ⟨x1, hx1, c1, hc1, hc2, hc3⟩ := menu3 j (by omega)
    have hx1l : x1.length = 1 := by rw [len_cs, hc1]; rfl
    refine ⟨p, _, _, _, rfl, rfl, SqL.of (g4.keep p _ hpb upd_same), atI_nat hx1, _, rfl, _, rfl, row, rfl, str_len (n := 40) (by omega) (by decide), x1, _, rfl, rfl, ?_, ?_⟩
    · have : (cutS row (some 1) none).length ≤ 40 := by rw [len_cs, cs_cut1, List.length_drop]; omega
      have := line_big
      omega
    refine ⟨_, rfl, _, rfl, row, rfl, str_len (n := 40) (by omega) (by decide), m, _, rfl, rfl, _, _, rfl, rfl, ?_, ?_, by decide +kernel, ?_⟩
    · rw [len_cs, hrl]; omega
    · rw [len_cs, hrl]; omega
    obtain ⟨z, hz⟩ : ∃ z : Nat, (m - ((row.length : Nat) : Int)).toNat = z := ⟨_, rfl⟩
    have hzl : z ≤ 4400 ∧ z + m40.toNat = m.toNat := by
      rw [len_cs, hrl] at hz
      omega
    rw [hz, cs_lit0, rep_one]
    have h1 : cs (x1 ++ cutS row (some 1) none) = c1 :: (cs row).drop 1 := by rw [cs_app, hc1, cs_cut1]; rfl
    refine ⟨_, _, rfl, rfl, ?_, ?_⟩
    · rw [len_cs, h1, len_cs, cs_mk, List.length_replicate, List.length_cons, List.length_drop]
      have := line_big
      omega
    obtain ⟨full, hfull⟩ : ∃ full : Str, full = x1 ++ cutS row (some 1) none ++ mk (List.replicate z 48) := ⟨_, rfl⟩
    have hf : cs full = c1 :: ((cs row).drop 1 ++ List.replicate z 48) := by rw [hfull, cs_app, h1, cs_mk]; rfl
    rw [← hfull]
    have good : Canon (cs full) ∧ (cs full).length ≤ 4400 := by
      rw [hf]
      refine ⟨⟨fun c hc => ?_, .inr ⟨_, _, rfl, hc2⟩⟩, ?_⟩
      · rcases List.mem_cons.mp hc with rfl | hc
        · omega
        · exact all_append (fun d hd => hra d (List.mem_of_mem_drop hd)) (all_zeros z) c hc
      · rw [List.length_cons, List.length_append, List.length_drop, List.length_replicate]
        omega
    refine ⟨_, rfl, rfl, _, rfl, ?_⟩
    refine ite2 (fun _ => ?_) (fun _ => ?_)
    · refine ⟨_, rfl, b, 3, rfl, (g3'.trans g4).boxAt, by decide, by decide, fun r3 H5 _ _ g5 => ⟨rfl, _, rfl, ?_⟩⟩
      refine ite2 (fun _ => ?_) (fun _ => ?_)
      · refine q _ H5 ((g3'.trans g4).trans g5) ⟨_, rfl, ?_, ?_⟩
        · rw [cs_lit0]; exact ⟨fun c hc => by rw [List.mem_singleton.mp hc]; decide, .inl rfl⟩
        · rw [cs_lit0]; decide
      · exact ⟨_, rfl, q _ H5 ((g3'.trans g4).trans g5) ⟨_, rfl, good⟩⟩
    · exact ⟨_, rfl, q _ H4 (g3'.trans g4) ⟨_, rfl, good⟩⟩
end
end Mt
namespace Mt
open PySem PySem.Spec PyProof.Rows L2 PySem.NumText
theorem all_take {l : List Nat} (h : AllDigits l) (n : Nat) : AllDigits (l.take n) := fun c hc => h c (List.mem_of_mem_take hc)
theorem all_drop {l : List Nat} (h : AllDigits l) (n : Nat) : AllDigits (l.drop n) := fun c hc => h c (List.mem_of_mem_drop hc)
theorem val_small {l : List Nat} (h : AllDigits l) {n k : Nat} (hl : l.length ≤ n) (hk : 4 * n ≤ k) : digitsVal l < 2 ^ k := by
  have h1 := val_lt l h
  have h2 : 10 ^ l.length ≤ 10 ^ n := Nat.pow_le_pow_right (by decide) hl
  have h3 : (10 : Nat) ^ n ≤ 16 ^ n := Nat.pow_le_pow_left (by decide) n
  have h4 : (16 : Nat) ^ n = 2 ^ (4 * n) := by rw [show (16 : Nat) = 2 ^ 4 by decide, ← Nat.pow_mul]
  have h5 : 2 ^ (4 * n) ≤ 2 ^ k := Nat.pow_le_pow_right (by decide) hk
  omega
theorem all_one (n : Nat) : AllDigits (49 :: List.replicate n 48) := fun d hd => by
  rcases List.mem_cons.mp hd with rfl | hd
  · decide
  · exact all_zeros _ d hd
theorem text_one (x : Str) (n : Nat) (hn : n ≤ 600) (h : cs x = 49 :: List.replicate n 48) : intText? x = some (((10 ^ n : Nat) : Nat) : Int) ∧ x.length ≤ 640 := by
  have hl : x.length ≤ 640 := by rw [len_cs, h, List.length_cons, List.length_replicate]; omega
  refine ⟨?_, hl⟩
  have e := intText_digits (x := x) (by show AllDigits (cs x); rw [h]; exact all_one n) (by show cs x ≠ []; rw [h]; exact fun z => nomatch z) (by omega)
  rw [e]
  show some (((digitsVal (cs x) : Nat)) : Int) = _
  rw [h, val_one_zeros]
theorem text_dig (x : Str) (hl : (cs x).length ≤ 600) (h : AllDigits (cs x)) (hne : cs x ≠ []) : intText? x = some ((digitsVal (cs x) : Nat) : Int) ∧ x.length ≤ 640 :=
  ⟨intText_digits h hne (by rw [len_cs]; omega), by rw [len_cs]; omega⟩
section
variable {P : Program} {w : World} {K : PySem.W.Frag} {mg : Str → Option Value} {base : Heap} {f g : Addr} {fd gd : FuncData}
def spNum : Sp := fun vs H Q _ => ∃ x : Str, vs = [.str x] ∧ AllDigits (cs x) ∧ (cs x).length ≤ 2000000 ∧ Q (.int (digitsVal (cs x) : Nat)) H
theorem scNum : FnScope ["figures", "whole", "k", "part"] ["figures"] (defScope sNum) := ⟨rfl, rfl, rfl, by decide +kernel, rfl, by decide +kernel, by decide +kernel⟩
theorem take_step (l : List Nat) (i : Nat) : digitsVal (l.take (500 * (i + 1))) = digitsVal (l.take (500 * i)) * 10 ^ ((l.drop (500 * i)).take 500).length + digitsVal ((l.drop (500 * i)).take 500) := by
  rw [← val_append]
  congr 1
  rw [show 500 * (i + 1) = 500 * i + 500 by omega, List.take_add]
theorem ok_num (F : Fun K "_law_number" "_law_number" sNum f fd) (mr : mg "range" = none) (mi : mg "int" = none) (ml : mg "len" = none) : FnOk P w K mg base CX0 1 f fd ["figures"] spNum := by
  refine F.ok scNum (fun vs H Q E h => ?_) (fun cdv A outer s H vs Q E hr h => ?_)
  · obtain ⟨b, rfl, _⟩ := h
    rfl
  obtain ⟨x, rfl, hd, hl, q⟩ := h
  refine ⟨_, pss_cons (ps_set (i := 1) scNum.nd rfl (Or.inl rfl) pe_int)
    (pss_cons (ps_for PassesOwn.never rfl (pi_range1 rfl mr (pa_cons (pe_op op_add (pe_op op_fdiv (pe_callB call_len_str rfl ml PySem.boot_len (pa_cons (pv 0) pa_nil)) pe_int) pe_int) pa_nil)) (pg_name (i := 2) scNum.nd rfl (Or.inl rfl))
      (pss_cons (ps_set (i := 3) scNum.nd rfl (Or.inl rfl) (pe_slice sl_str (pv 0) (po_some (pe_op op_mul pe_int (pv 2))) (po_some (pe_op op_add (pe_op op_mul pe_int (pv 2)) pe_int))))
      (pss_one (ps_if (pt_cmpR op_ne (pv 3) pe_str (nomark _))
        (pss_one (ps_set (i := 1) scNum.nd rfl (Or.inl rfl) (pe_op op_add (pe_op op_mulX (pv 1) (pe_callTy call_int_str rfl mi boot_int (pa_cons (pe_op op_add_str pe_str (pe_op op_mulS pe_str (pe_callB call_len_str rfl ml PySem.boot_len (pa_cons (pv 3) pa_nil)))) pa_nil)))
          (pe_callTy call_int_str rfl mi boot_int (pa_cons (pv 3) pa_nil))))) pss_nil))))
    (pss_one (ps_ret (pv 1)))), ?_⟩
  have hxl : x.length = (cs x).length := len_cs x
  refine ⟨_, rfl, x, rfl, str_len (n := 2000000) hl (by decide), _, _, rfl, rfl, ⟨by decide, by decide⟩, _, _, rfl, rfl, ?_⟩
  obtain ⟨n, hn⟩ : ∃ n : Nat, ((x.length : Nat) : Int) / 500 + 1 = (n : Int) := ⟨((cs x).length / 500 + 1), by rw [hxl]; omega⟩
  have hn2 : (cs x).length ≤ 500 * n ∧ n ≤ 4001 := by rw [hxl] at hn; omega
  refine ⟨n, congrArg (fun j => [V.int j]) hn, by omega, by omega, ?_⟩
  refine for_range (n := n) (fun i σ H' => H' = H ∧ ∃ a b, σ = [some (.str x), some (.int (digitsVal ((cs x).take (500 * i)) : Nat)), a, b]) ?_ (fun i σ H' hi p => ?_) (fun σ H' p => ?_)
  · exact ⟨rfl, _, _, rfl⟩
  · obtain ⟨rfl, a, b, rfl⟩ := p
    have ei : (500 : Int) * (0 + (i : Int)) = ((500 * i : Nat) : Int) := by omega
    obtain ⟨part, hpart⟩ : ∃ part : Str, part = cutS x (some (500 * (0 + (i : Int)))) (some (500 * (0 + (i : Int)) + 500)) := ⟨_, rfl⟩
    have hp : cs part = ((cs x).drop (500 * i)).take 500 := by
      rw [hpart, ei, show ((500 * i : Nat) : Int) + 500 = ((500 * i + 500 : Nat) : Int) by omega, cs_cut _ _ _ (by omega), show 500 * i + 500 - 500 * i = 500 by omega]
    have hpl : (cs part).length ≤ 500 := by rw [hp, List.length_take]; omega
    have hpd : AllDigits (cs part) := by rw [hp]; exact all_take (all_drop hd _) _
    have st := take_step (cs x) i
    rw [← hp] at st
    refine ⟨_, rfl, _, rfl, _, _, rfl, rfl, .inl ⟨by decide, by decide⟩, _, rfl, _, rfl, _, _, rfl, rfl, .inl ⟨by decide, by decide⟩, _, _, rfl, rfl, _, rfl, x, rfl, str_len (n := 2000000) hl (by decide), ?_⟩
    rw [← hpart]
    refine ⟨_, rfl, rfl, _, rfl, ?_⟩
    refine ite2 (fun c => ?_) (fun c => ?_)
    · have hne : cs part ≠ [] := fun e => by
        have : part = Str.ofString "" := str_ext (by rw [e]; decide +kernel)
        rw [this] at c
        simp at c
      have e1 : cs (Str.ofString "1" ++ mk (List.replicate part.length 48)) = 49 :: List.replicate part.length 48 := by rw [cs_app, cs_lit1, cs_mk]; rfl
      have hw : digitsVal ((cs x).take (500 * i)) < 2 ^ 8000000 := val_small (all_take hd _) (n := 2000000) (by rw [List.length_take]; omega) (by decide)
      have ht : 10 ^ part.length < 2 ^ 2004 := by
        have := val_small (all_one part.length) (n := 501) (k := 2004) (by rw [List.length_cons, List.length_replicate, len_cs]; omega) (by decide)
        rwa [val_one_zeros] at this
      obtain ⟨t1, t2⟩ := text_one _ part.length (by rw [len_cs]; omega) e1
      obtain ⟨t3, t4⟩ := text_dig part (by omega) hpd hne
      have hb := line_big
      refine ⟨_, rfl, _, rfl, part, rfl, str_len (n := 500) hpl (by decide), Str.ofString "0", _, rfl, rfl, by omega, by rw [len_cs]; omega, by decide +kernel, ?_⟩
      rw [Int.toNat_natCast, cs_lit0, rep_one]
      refine ⟨_, _, rfl, rfl, ?_, ?_⟩
      · rw [len_cs, cs_lit1, len_cs, cs_mk, List.length_replicate, len_cs]
        show 1 + _ ≤ _
        omega
      refine ⟨_, _, rfl, t1, t2, ?_⟩
      refine ⟨_, _, rfl, rfl, mulx_ok (a := 8000000) (b := 2004) (by rw [Int.natAbs_natCast]; exact hw) (by rw [Int.natAbs_natCast]; exact ht) (by decide), ?_⟩
      refine ⟨_, rfl, part, _, rfl, t3, t4, _, _, rfl, rfl, ?_⟩
      have ev : ((digitsVal ((cs x).take (500 * i)) : Nat) : Int) * ((10 ^ part.length : Nat) : Int) + ((digitsVal (cs part) : Nat) : Int) = ((digitsVal ((cs x).take (500 * (i + 1))) : Nat) : Int) := by
        rw [st, len_cs, Int.natCast_add, Int.natCast_mul]
      exact ⟨rfl, some (.int (0 + (i : Int))), some (.str part), congrArg (fun z => [some (V.str x), some (V.int z), some (V.int (0 + (i : Int))), some (V.str part)]) ev⟩
    · have hne : cs part = [] := by
        have : part = Str.ofString "" := by simpa using c
        rw [this]; decide +kernel
      rw [hne] at st
      have ev : ((digitsVal ((cs x).take (500 * i)) : Nat) : Int) = ((digitsVal ((cs x).take (500 * (i + 1))) : Nat) : Int) := by
        rw [st]; simp [digitsVal]
      exact ⟨rfl, some (.int (0 + (i : Int))), some (.str part), congrArg (fun z => [some (V.str x), some (V.int z), some (V.int (0 + (i : Int))), some (V.str part)]) ev⟩
  · obtain ⟨rfl, a, b, rfl⟩ := p
    refine ⟨_, rfl, ?_⟩
    rw [List.take_of_length_le hn2.1]
    exact q
end
end Mt
namespace Mt
open PySem PySem.Spec PyProof.Rows L2 PySem.NumText
/-! ### data in the heap -/
mutual
inductive Be (H : Hp) : V → D → Prop
  | s {x : Str} {l : List Nat} (h : cs x = l) : Be H (.str x) (.s l)
  | i {n : Int} : Be H (.int n) (.i n)
  | t {a : Addr} {vs : List V} {ds : List D} (h : H a = some (.tup vs)) (r : BeL H vs ds) : Be H (.ref a) (.t ds)
inductive BeL (H : Hp) : List V → List D → Prop
  | nil : BeL H [] []
  | cons {v : V} {d : D} {vs : List V} {ds : List D} (h : Be H v d) (r : BeL H vs ds) : BeL H (v :: vs) (d :: ds)
end
mutual
theorem Be.mono {H H' : Hp} (e : ∀ a xs, H a = some (.tup xs) → H' a = some (.tup xs)) : ∀ {v : V} {d : D}, Be H v d → Be H' v d
  | _, _, .s h => .s h
  | _, _, .i => .i
  | _, _, .t h r => .t (e _ _ h) (BeL.mono e r)
theorem BeL.mono {H H' : Hp} (e : ∀ a xs, H a = some (.tup xs) → H' a = some (.tup xs)) : ∀ {vs : List V} {ds : List D}, BeL H vs ds → BeL H' vs ds
  | _, _, .nil => .nil
  | _, _, .cons h r => .cons (Be.mono e h) (BeL.mono e r)
end
theorem BeL.len {H : Hp} : ∀ {vs : List V} {ds : List D}, BeL H vs ds → vs.length = ds.length
  | _, _, .nil => rfl
  | _, _, .cons _ r => by rw [List.length_cons, List.length_cons, r.len]
theorem BeL.get {H : Hp} : ∀ {vs : List V} {ds : List D} {i : Nat} {v : V}, BeL H vs ds → vs[i]? = some v → ∃ d, ds[i]? = some d ∧ Be H v d
  | _, _, _, _, .nil, e => by simp at e
  | _, _, 0, _, .cons h _, e => by simp at e; subst e; exact ⟨_, rfl, h⟩
  | _, _, i + 1, _, .cons _ r, e => by
    obtain ⟨d, e2, h⟩ := BeL.get (i := i) r (by simpa using e)
    exact ⟨d, by simpa using e2, h⟩
theorem BeL.get2 {H : Hp} : ∀ {vs : List V} {ds : List D} {i : Nat}, BeL H vs ds → i < ds.length → ∃ v d, vs[i]? = some v ∧ ds[i]? = some d ∧ Be H v d := fun {vs ds i} r hi => by
  have h : i < vs.length := by rw [r.len]; exact hi
  obtain ⟨d, e2, h2⟩ := r.get (List.getElem?_eq_getElem h)
  exact ⟨_, d, List.getElem?_eq_getElem h, e2, h2⟩
theorem BeL.snoc {H : Hp} {v : V} {d : D} (h : Be H v d) : ∀ {vs : List V} {ds : List D}, BeL H vs ds → BeL H (vs ++ [v]) (ds ++ [d])
  | _, _, .nil => .cons h .nil
  | _, _, .cons g r => .cons g (r.snoc h)
theorem same_tup {H H' : Hp} (e : Same H H') : ∀ a xs, H a = some (.tup xs) → H' a = some (.tup xs) := fun a xs h => e a _ h
theorem gr_tup {b : Addr} {H H' : Hp} (g : Gr b H H') (hb : BoxAt H b) : ∀ a xs, H a = some (.tup xs) → H' a = some (.tup xs) := fun a xs h => g.keep a _ (fun e => by
  obtain ⟨n, _, q⟩ := hb
  rw [e, q] at h; cases h) h
theorem same_new {H : Hp} {p : Addr} (h : H p = none) (o : HO) : Same H (upd H p o) := fun b u q => by rw [upd_ne (ne_of_none q h)]; exact q
theorem same_mut {H H' : Hp} {p : Addr} {o : HO} (e : Same H H') (h : H p = none) : Same H (upd H' p o) := fun b u q => by rw [upd_ne (ne_of_none q h)]; exact e b u q
theorem Gr.same {b : Addr} {H H1 H' : Hp} (g : Gr b H H1) (hb : BoxAt H b) (e : Same H1 H') : Gr b H H' := ⟨fun a o n h => e a o (g.keep a o n h), by
  obtain ⟨n, h0, q⟩ := g.box
  exact ⟨n, h0, e b _ q⟩⟩

/-! ### displays of data -/
def Mks (te : TE) (σ : L2.St) (d : D) : Prop := ∀ (H : Hp) (Q : VK), (∀ v H', Same H H' → Be H' v d → Q v H') → te σ H Q
def MkA (ta : TA) (σ : L2.St) (ds : List D) : Prop := ∀ (H : Hp) (Q : List V → Hp → Prop), (∀ vs H', Same H H' → BeL H' vs ds → Q vs H') → ta σ H Q
theorem mk_str {σ : L2.St} {x : Str} : Mks (tC (.str x)) σ (.s (cs x)) := fun H Q q => q _ H (Same.refl H) (.s rfl)
theorem mk_int {σ : L2.St} {n : Int} : Mks (tC (.int n)) σ (.i n) := fun H Q q => q _ H (Same.refl H) .i
theorem mk_var {σ : L2.St} {i : Nat} {x : Str} (h : σ[i]? = some (some (.str x))) : Mks (tVar i) σ (.s (cs x)) := fun H Q q => ⟨_, h, q _ H (Same.refl H) (.s rfl)⟩
theorem mka_nil {σ : L2.St} : MkA tNil σ [] := fun H Q q => q _ H (Same.refl H) .nil
theorem mka_cons {σ : L2.St} {te : TE} {ta : TA} {d : D} {ds : List D} (h : Mks te σ d) (r : MkA ta σ ds) : MkA (tCons te ta) σ (d :: ds) := fun H Q q =>
  h H _ fun v H1 e1 b1 => r H1 _ fun vs H2 e2 b2 => q _ H2 (e1.trans e2) (.cons (b1.mono (same_tup e2)) b2)
theorem mk_tup {σ : L2.St} {ta : TA} {ds : List D} (h : MkA ta σ ds) (hl : ds.length ≤ 1000) : Mks (tTup ta) σ (.t ds) := fun H Q q =>
  h H _ fun vs H1 e1 b1 => ⟨by rw [b1.len]; exact Nat.le_of_lt (small1000 hl), fun p hp => q _ _ (e1.trans (same_new hp _)) (.t upd_same (b1.mono (same_tup (same_new hp _))))⟩

/-! ### sizes -/
mutual
def small : D → Bool
  | .s _ => true
  | .i n => decide (0 ≤ n ∧ n < 10)
  | .t xs => smalls xs
def smalls : List D → Bool
  | [] => true
  | x :: r => small x && smalls r
end
theorem smalls_get : ∀ {ds : List D} {i : Nat} {d : D}, smalls ds = true → ds[i]? = some d → small d = true
  | [], _, _, _, e => by simp at e
  | x :: r, 0, d, h, e => by
    have h' : (small x && smalls r) = true := h
    rw [Bool.and_eq_true] at h'
    simp at e; subst e; exact h'.1
  | x :: r, i + 1, d, h, e => by
    have h' : (small x && smalls r) = true := h
    rw [Bool.and_eq_true] at h'
    exact smalls_get h'.2 (by simpa using e)
section
variable {P : Program} {w : World} {K : PySem.W.Frag} {mg : Str → Option Value} {base : Heap} {f g : Addr} {fd gd : FuncData}

/-! ### integers -/
def gInt : V → Hp → Prop := fun v H => ∃ (p : Addr) (n : Int) (x : Str), v = .ref p ∧ H p = some (.tup [.int n, .str x]) ∧ cs x = decI n ∧ (cs x).length ≤ 4401
theorem scInt : FnScope ["box", "figures"] ["box"] (defScope sInt) := ⟨rfl, rfl, rfl, by decide +kernel, rfl, by decide +kernel, by decide +kernel⟩
theorem canon_decI {l : List Nat} (h : Canon l) : decI ((digitsVal l : Nat) : Int) = l := by
  unfold decI
  rw [if_neg (by omega), Int.natAbs_natCast, canon_dec h]
theorem canon_neg {l : List Nat} (h : Canon l) (hne : l ≠ [48]) : decI (-((digitsVal l : Nat) : Int)) = 45 :: l := by
  have hz : digitsVal l ≠ 0 := fun e => by
    have := canon_dec h
    rw [e] at this
    exact hne (this.symm.trans (by decide +kernel))
  unfold decI
  rw [if_pos (by omega), Int.natAbs_neg, Int.natAbs_natCast, canon_dec h]
variable {g2 g3 : Addr} {gd2 gd3 : FuncData}
theorem ok_int (F : Fun K "_law_integer" "_law_integer" sInt f fd) (T : Cal P w K mg base "_law_take" 1 ["box", "many"] spTake g gd) (G : Cal P w K mg base "_law_figures" 2 ["box"] (spB gFig) g2 gd2) (M : Cal P w K mg base "_law_number" 1 ["figures"] spNum g3 gd3) :
    FnOk P w K mg base CX0 3 f fd ["box"] (spB gInt) := by
  refine F.ok scInt (fun vs H Q E h => ?_) (fun cdv A outer s H vs Q E hr h => ?_)
  · obtain ⟨b, rfl, _⟩ := h
    rfl
  obtain ⟨b, rfl, hb, q⟩ := h
  refine ⟨_, pss_cons (ps_set (i := 1) scInt.nd rfl (Or.inl rfl) (pe_call G.ok hr rfl G.m G.k G.b .nil pass0 (pa_cons (pv 0) pa_nil)))
    (pss_cons (ps_if (PW.pt (pw_and (pt_cmpR op_ne (pv 1) pe_str (nomark _)) (pw_and1 (pt_cmpR op_eq (pe_call T.ok (hr.mono (by decide)) rfl T.m T.k T.b .nil pass0 (pa_cons (pv 0) (pa_cons pe_int pa_nil))) pe_int (nomark _)))))
      (pss_one (ps_ret (pe_tup (pa_cons (pe_un un_neg (pe_call M.ok (hr.mono (by decide)) rfl M.m M.k M.b .nil pass0 (pa_cons (pv 1) pa_nil))) (pa_cons (pe_op op_add_str pe_str (pv 1)) pa_nil))))) pss_nil)
    (pss_one (ps_ret (pe_tup (pa_cons (pe_call M.ok (hr.mono (by decide)) rfl M.m M.k M.b .nil pass0 (pa_cons (pv 1) pa_nil)) (pa_cons (pv 1) pa_nil)))))), ?_⟩
  refine ⟨_, rfl, b, rfl, hb, fun v H1 g1 hv => ?_⟩
  obtain ⟨x, rfl, hc, hl⟩ := hv
  have last : ∀ H2, Gr b H H2 → (tRet (tTup (tCons (tCall spNum [] E0 (tCons (tVar 1) tNil)) (tCons (tVar 1) tNil))) { nx := fun _ H' => Q .non H', rt := Q } [some (.ref b), some (.str x)] H2) := by
    intro H2 gg
    refine ⟨_, rfl, x, rfl, hc.1, (by omega), _, rfl, (by show 2 ≤ sizeLine; decide), fun p hp => ?_⟩
    exact q _ _ (gg.new hp) ⟨p, _, x, rfl, upd_same, (canon_decI hc).symm, by omega⟩
  refine ⟨_, rfl, rfl, _, rfl, ?_⟩
  refine ite2 (fun c => ?_) (fun c => last H1 g1)
  have hne : cs x ≠ [48] := fun e => by
    have : x = Str.ofString "0" := str_ext (by rw [e, cs_lit0])
    rw [this] at c
    simp at c
  refine ⟨_, rfl, b, 3, rfl, g1.boxAt, by decide, by decide, fun r H2 _ _ g2 => ⟨rfl, _, rfl, ?_⟩⟩
  refine ite2 (fun _ => ?_) (fun _ => last H2 (g1.trans g2))
  have hb := line_big
  have e1 : cs (Str.ofString "-" ++ x) = 45 :: cs x := by rw [cs_app]; rfl
  refine ⟨_, rfl, x, rfl, hc.1, (by omega), _, rfl, _, rfl, _, _, rfl, rfl, ?_, (by show 2 ≤ sizeLine; decide), fun p hp => ?_⟩
  · rw [len_cs, len_cs]
    show 1 + _ ≤ _
    omega
  · exact q _ _ ((g1.trans g2).new hp) ⟨p, _, _, rfl, upd_same, by rw [e1, canon_neg hc hne], by rw [e1, List.length_cons]; omega⟩

/-! ### samples -/
def gData (n m : Nat) : V → Hp → Prop := fun v H => ∃ d, Be H v d ∧ small d = true ∧ deep d ≤ n ∧ (txt d).length ≤ m ∧ wf d = true
def rowsL (a0 a1 a2 a3 a4 a5 a6 a7 a8 a9 a10 a11 a12 : List Nat) (x : D) : List D := [.t [.s a0, .i 3], .t [.s a1, x, .t [.s a2, .i 4], .t [.s a3, .i 4, .t [.s a4, x]]], .t [.t [x, .t [.s a2, .i 2]]], .t [x, .t [.s a5, .i 4, .i 0]], .t []] ++
  [.t [.s a6, .i 2, x, .t [.s a0, .i 3], .t [.s a5, .i 2, .i 0], .t [.t [.s a5, .i 3, .i 1], .t [.s a4, .s a7]]]] ++
  [.t [.s a8, x, .t [.s a9, .t [.s a2, .i 3]], .t [.s a10, .t [.s a0, .i 0], .t [.s a11, .t [.s a0, .i 2], .t [.s a4, x], .t [.s a5, .i 2, .i 1]]]]] ++
  [.t [.s a12, x, .t [.s a0, .i 2], .t [.s a0, .i 1], .t [.s a5, .i 2, .i 1], .t [.s a5, .i 2, .i 0], .t [], .t [.s a4, x]]]
theorem wfs_all : ∀ {ds : List D}, (∀ d ∈ ds, wf d = true) → wfs ds = true
  | [], _ => rfl
  | x :: r, h => wfs_cons.mpr ⟨h x (List.mem_cons_self ..), wfs_all fun d hd => h d (List.mem_cons_of_mem _ hd)⟩
theorem wf_word {l : List Nat} (h1 : ∀ c ∈ l, 97 ≤ c ∧ c ≤ 122) (h2 : 1 ≤ l.length) : wf (.s l) = true :=
  wf_s.mpr ⟨fun e => (by rw [e] at h2; cases h2), List.all_eq_true.mpr fun c hc => isL_iff.mpr (h1 c hc)⟩
theorem wf_t' {ds : List D} : wf (.t ds) = wfs ds := rfl
theorem wf_i' {n : Int} : wf (.i n) = true := rfl
theorem wfs_n : wfs [] = true := rfl
theorem wfs_c {x : D} {r : List D} : wfs (x :: r) = (wf x && wfs r) := rfl
theorem rows_wf {a0 a1 a2 a3 a4 a5 a6 a7 a8 a9 a10 a11 a12 : List Nat} (w0 : wf (.s a0) = true) (w1 : wf (.s a1) = true) (w2 : wf (.s a2) = true) (w3 : wf (.s a3) = true) (w4 : wf (.s a4) = true) (w5 : wf (.s a5) = true) (w6 : wf (.s a6) = true)
    (w7 : wf (.s a7) = true) (w8 : wf (.s a8) = true) (w9 : wf (.s a9) = true) (w10 : wf (.s a10) = true) (w11 : wf (.s a11) = true) (w12 : wf (.s a12) = true) (l : List Nat) (wl : wf (.s l) = true) :
    ∀ d ∈ rowsL a0 a1 a2 a3 a4 a5 a6 a7 a8 a9 a10 a11 a12 (.s l), wf d = true := by
  intro d hd
  simp only [rowsL, List.cons_append, List.nil_append, List.mem_cons, List.not_mem_nil, or_false] at hd
  rcases hd with rfl | rfl | rfl | rfl | rfl | rfl | rfl | rfl <;> simp only [wf_t', wf_i', wfs_n, wfs_c, w0, w1, w2, w3, w4, w5, w6, w7, w8, w9, w10, w11, w12, wl, Bool.and_self]
theorem decI_one {n : Int} (h : 0 ≤ n ∧ n < 10) : (decI n).length = 1 := by
  unfold decI
  rw [if_neg (by omega), dec_lt (by omega)]
  rfl
mutual
/-- an upper bound of a text's length -/
def lg : D → Nat
  | .s x => x.length
  | .i _ => 1
  | .t xs => 2 + lgs xs
def lgs : List D → Nat
  | [] => 0
  | x :: r => lg x + 1 + lgs r
end
mutual
theorem lg_ok : ∀ d : D, small d = true → (txt d).length ≤ lg d
  | .s x, _ => Nat.le_refl _
  | .i n, h => by
    have h' : 0 ≤ n ∧ n < 10 := of_decide_eq_true h
    show (decI n).length ≤ 1
    rw [decI_one h']; exact Nat.le_refl _
  | .t xs, h => by
    have := lgs_ok xs h
    show (40 :: (gl (txts xs) ++ [41])).length ≤ 2 + lgs xs
    rw [List.length_cons, List.length_append, List.length_singleton]
    omega
theorem lgs_ok : ∀ ds : List D, smalls ds = true → (gl (txts ds)).length ≤ lgs ds
  | [], _ => Nat.le_refl _
  | [x], h => by
    have h' : (small x && true) = true := h
    rw [Bool.and_true] at h'
    have := lg_ok x h'
    show (txt x).length ≤ lg x + 1 + 0
    omega
  | x :: y :: r, h => by
    have h' : (small x && smalls (y :: r)) = true := h
    rw [Bool.and_eq_true] at h'
    have h1 := lg_ok x h'.1
    have h2 := lgs_ok (y :: r) h'.2
    show (txt x ++ 32 :: gl (txts (y :: r))).length ≤ lg x + 1 + lgs (y :: r)
    rw [List.length_append, List.length_cons]
    omega
end
theorem rows_ok {a0 a1 a2 a3 a4 a5 a6 a7 a8 a9 a10 a11 a12 : List Nat} (w0 : a0.length ≤ 8) (w1 : a1.length ≤ 8) (w2 : a2.length ≤ 8) (w3 : a3.length ≤ 8) (w4 : a4.length ≤ 8) (w5 : a5.length ≤ 8) (w6 : a6.length ≤ 8)
    (w7 : a7.length ≤ 8) (w8 : a8.length ≤ 8) (w9 : a9.length ≤ 8) (w10 : a10.length ≤ 8) (w11 : a11.length ≤ 8) (w12 : a12.length ≤ 8) (l : List Nat) (hl : l.length ≤ 8) :
    ∀ d ∈ rowsL a0 a1 a2 a3 a4 a5 a6 a7 a8 a9 a10 a11 a12 (.s l), small d = true ∧ deep d ≤ 4 ∧ (txt d).length ≤ 200 := by
  have key : ∀ d ∈ rowsL a0 a1 a2 a3 a4 a5 a6 a7 a8 a9 a10 a11 a12 (.s l), small d = true ∧ deep d ≤ 4 ∧ lg d ≤ 200 := by
    intro d hd
    simp only [rowsL, List.cons_append, List.nil_append, List.mem_cons, List.not_mem_nil, or_false] at hd
    rcases hd with rfl | rfl | rfl | rfl | rfl | rfl | rfl | rfl <;> refine ⟨rfl, by simp [deep, deeps], ?_⟩ <;> simp only [lg, lgs] <;> omega
  intro d hd
  obtain ⟨k1, k2, k3⟩ := key d hd
  exact ⟨k1, k2, Nat.le_trans (lg_ok d k1) k3⟩
end
end Mt
namespace Mt
open PySem PySem.Spec PyProof.Rows L2 PySem.NumText
section
variable {P : Program} {w : World} {K : PySem.W.Frag} {mg : Str → Option Value} {base : Heap} {f g : Addr} {fd gd : FuncData} {g2 g3 : Addr} {gd2 gd3 : FuncData}
theorem mk_use {te : TE} {σ : L2.St} {H : Hp} {Q : VK} (d : D) (h : Mks te σ d) (q : ∀ v H', Same H H' → Be H' v d → Q v H') : te σ H Q := h H Q q
theorem lst_use {ta : TA} {σ : L2.St} {H : Hp} {Q : VK} (ds : List D) (hl : ds.length ≤ 1000) (h : MkA ta σ ds) (q : ∀ vs H' p, Same H H' → BeL H' vs ds → H' p = none → Q (.ref p) (upd H' p (.lst vs))) : tLst ta σ H Q :=
  h H _ fun vs H' e b => ⟨by rw [b.len]; exact Nat.le_of_lt (small1000 hl), fun p hp => q vs H' p e b hp⟩
theorem scSamp : FnScope ["box", "name", "rows"] ["box"] (defScope sSamp) := ⟨rfl, rfl, rfl, by decide +kernel, rfl, by decide +kernel, by decide +kernel⟩
theorem cs_cut8 (z : Str) : cs (cutS z none (some 8)) = (cs z).take 8 := by
  show (((cs z).drop (HT.sIx z.length 0 none)).take (HT.sIx z.length z.length (some ((8 : Nat) : Int)) - HT.sIx z.length 0 none)).toArray.toList = _
  rw [HT.sIx_nat, HT.sIx_none, List.toList_toArray, List.drop_zero, Nat.sub_zero, len_cs]
  by_cases h : (cs z).length ≤ 8
  · rw [show min 8 (cs z).length = (cs z).length by omega, List.take_length, List.take_of_length_le h]
  · rw [show min 8 (cs z).length = 8 by omega]
theorem ok_samp (F : Fun K "_law_sample" "_law_sample" sSamp f fd) (T : Cal P w K mg base "_law_take" 1 ["box", "many"] spTake g gd) (G : Cal P w K mg base "_law_word" 2 ["box"] (spB gWord) g2 gd2) (ml : mg "len" = none) :
    FnOk P w K mg base CX0 3 f fd ["box"] (spB (gData 4 200)) := by
  refine F.ok scSamp (fun vs H Q E h => ?_) (fun cdv A outer s H vs Q E hr h => ?_)
  · obtain ⟨b, rfl, _⟩ := h
    rfl
  obtain ⟨b, rfl, hb, q⟩ := h
  refine ⟨_, pss_cons (ps_set (i := 1) scSamp.nd rfl (Or.inl rfl) (pe_slice sl_str (pe_call G.ok hr rfl G.m G.k G.b .nil pass0 (pa_cons (pv 0) pa_nil)) po_none (po_some pe_int)))
    (pss_cons (ps_set (i := 2) scSamp.nd rfl (Or.inl rfl) (pe_lst (pa_cons (pe_tup (pa_cons pe_str (pa_cons pe_int pa_nil)))
        (pa_cons (pe_tup (pa_cons pe_str (pa_cons (pv 1) (pa_cons (pe_tup (pa_cons pe_str (pa_cons pe_int pa_nil))) (pa_cons (pe_tup (pa_cons pe_str (pa_cons pe_int (pa_cons (pe_tup (pa_cons pe_str (pa_cons (pv 1) pa_nil))) pa_nil)))) pa_nil)))))
        (pa_cons (pe_tup (pa_cons (pe_tup (pa_cons (pv 1) (pa_cons (pe_tup (pa_cons pe_str (pa_cons pe_int pa_nil))) pa_nil))) pa_nil))
        (pa_cons (pe_tup (pa_cons (pv 1) (pa_cons (pe_tup (pa_cons pe_str (pa_cons pe_int (pa_cons pe_int pa_nil)))) pa_nil)))
        (pa_cons (pe_tup pa_nil) pa_nil)))))))
    (pss_cons (ps_expr (pe_bm PySem.F.plainAttrs_list PySem.F.slot_list_append PySem.F.type_list_append mt_append (pv 2) (pa_cons
        (pe_tup (pa_cons pe_str (pa_cons pe_int (pa_cons (pv 1) (pa_cons (pe_tup (pa_cons pe_str (pa_cons pe_int pa_nil))) (pa_cons (pe_tup (pa_cons pe_str (pa_cons pe_int (pa_cons pe_int pa_nil))))
          (pa_cons (pe_tup (pa_cons (pe_tup (pa_cons pe_str (pa_cons pe_int (pa_cons pe_int pa_nil)))) (pa_cons (pe_tup (pa_cons pe_str (pa_cons pe_str pa_nil))) pa_nil))) pa_nil))))))) pa_nil)))
    (pss_cons (ps_expr (pe_bm PySem.F.plainAttrs_list PySem.F.slot_list_append PySem.F.type_list_append mt_append (pv 2) (pa_cons
        (pe_tup (pa_cons pe_str (pa_cons (pv 1) (pa_cons (pe_tup (pa_cons pe_str (pa_cons (pe_tup (pa_cons pe_str (pa_cons pe_int pa_nil))) pa_nil)))
          (pa_cons (pe_tup (pa_cons pe_str (pa_cons (pe_tup (pa_cons pe_str (pa_cons pe_int pa_nil))) (pa_cons (pe_tup (pa_cons pe_str (pa_cons (pe_tup (pa_cons pe_str (pa_cons pe_int pa_nil))) (pa_cons (pe_tup (pa_cons pe_str (pa_cons (pv 1) pa_nil)))
            (pa_cons (pe_tup (pa_cons pe_str (pa_cons pe_int (pa_cons pe_int pa_nil)))) pa_nil))))) pa_nil)))) pa_nil))))) pa_nil)))
    (pss_cons (ps_expr (pe_bm PySem.F.plainAttrs_list PySem.F.slot_list_append PySem.F.type_list_append mt_append (pv 2) (pa_cons
        (pe_tup (pa_cons pe_str (pa_cons (pv 1) (pa_cons (pe_tup (pa_cons pe_str (pa_cons pe_int pa_nil))) (pa_cons (pe_tup (pa_cons pe_str (pa_cons pe_int pa_nil))) (pa_cons (pe_tup (pa_cons pe_str (pa_cons pe_int (pa_cons pe_int pa_nil))))
          (pa_cons (pe_tup (pa_cons pe_str (pa_cons pe_int (pa_cons pe_int pa_nil)))) (pa_cons (pe_tup pa_nil) (pa_cons (pe_tup (pa_cons pe_str (pa_cons (pv 1) pa_nil))) pa_nil))))))))) pa_nil)))
    (pss_one (ps_ret (pe_ix ix_list (pv 2) (pe_call T.ok (hr.mono (by decide)) rfl T.m T.k T.b .nil pass0 (pa_cons (pv 0) (pa_cons (pe_callB call_len_seq rfl ml PySem.boot_len (pa_cons (pv 2) pa_nil)) pa_nil))) (fun _ _ => rfl)))))))), ?_⟩
  refine ⟨_, rfl, b, rfl, hb, fun v H1 g1 hv => ?_⟩
  obtain ⟨x, rfl, hx1, hx2, hx3⟩ := hv
  refine ⟨_, rfl, x, rfl, str_len (n := 68) hx3 (by decide), ?_⟩
  obtain ⟨n, hn⟩ : ∃ n : Str, n = cutS x none (some 8) := ⟨_, rfl⟩
  have hnl : (cs n).length ≤ 8 := by rw [hn, cs_cut8, List.length_take]; omega
  rw [← hn]
  unfold gName
  dsimp only
  unfold tSeq tAsg
  refine lst_use [.t [.s (cs (Str.ofString "set")), .i 3], .t [.s (cs (Str.ofString "pairs")), .s (cs n), .t [.s (cs (Str.ofString "sizes")), .i 4], .t [.s (cs (Str.ofString "of")), .i 4, .t [.s (cs (Str.ofString "name")), .s (cs n)]]], .t [.t [.s (cs n), .t [.s (cs (Str.ofString "sizes")), .i 2]]], .t [.s (cs n), .t [.s (cs (Str.ofString "point")), .i 4, .i 0]], .t []] (by simp) ?_ fun vs H2 p e2 b2 hp => ?_
  · repeat (first | exact mka_nil | exact mk_str | exact mk_int | exact mk_var rfl | refine mk_tup ?_ (by simp) | refine mka_cons ?_ ?_)
  have l2 : vs.length = 5 := b2.len
  have c2 := b2.mono (same_tup (same_new hp (.lst vs)))
  have e2' := e2.trans (same_new hp (.lst vs))
  have hp1 : H1 p = none := e2.free hp
  refine ⟨_, rfl, .inl ⟨rfl, _, SqL.of upd_same⟩, ?_⟩
  refine mk_use (te := tTup _) (.t [.s (cs (Str.ofString "case")), .i 2, .s (cs n), .t [.s (cs (Str.ofString "set")), .i 3], .t [.s (cs (Str.ofString "point")), .i 2, .i 0], .t [.t [.s (cs (Str.ofString "point")), .i 3, .i 1], .t [.s (cs (Str.ofString "name")), .s (cs (Str.ofString "y"))]]]) ?_ fun v3 H3 e3 b3 => ?_
  · repeat (first | exact mka_nil | exact mk_str | exact mk_int | exact mk_var rfl | refine mk_tup ?_ (by simp) | refine mka_cons ?_ ?_)
  refine ⟨p, vs, v3, rfl, rfl, e3 p _ upd_same, by rw [l2]; exact small1000 (by decide), ?_⟩
  have c3 := (c2.mono (same_tup e3)).snoc b3
  have up : ∀ {H' : Hp} {ws us : List V} {ds : List D}, H' p = some (.lst us) → BeL H' ws ds → BeL (upd H' p (.lst ws)) ws ds := fun hq c => c.mono fun a xs h => by
    rw [upd_ne (fun e => by rw [e, hq] at h; cases h)]; exact h
  have d3 := up (e3 p _ upd_same) c3
  have l3 : (vs ++ [v3]).length = 6 := by rw [List.length_append, l2]; rfl
  have s3 : Same H1 (upd H3 p (.lst (vs ++ [v3]))) := same_mut (e2'.trans e3) hp1
  refine ⟨_, rfl, .inl ⟨rfl, _, SqL.of upd_same⟩, ?_⟩
  refine mk_use (te := tTup _) (.t [.s (cs (Str.ofString "maps")), .s (cs n), .t [.s (cs (Str.ofString "classes")), .t [.s (cs (Str.ofString "sizes")), .i 3]], .t [.s (cs (Str.ofString "either")), .t [.s (cs (Str.ofString "set")), .i 0], .t [.s (cs (Str.ofString "ways")), .t [.s (cs (Str.ofString "set")), .i 2], .t [.s (cs (Str.ofString "name")), .s (cs n)], .t [.s (cs (Str.ofString "point")), .i 2, .i 1]]]]) ?_ fun v4 H4 e4 b4 => ?_
  · repeat (first | exact mka_nil | exact mk_str | exact mk_int | exact mk_var rfl | refine mk_tup ?_ (by simp) | refine mka_cons ?_ ?_)
  refine ⟨p, _, v4, rfl, rfl, e4 p _ upd_same, by rw [l3]; exact small1000 (by decide), ?_⟩
  have c4 := (d3.mono (same_tup e4)).snoc b4
  have d4 := up (e4 p _ upd_same) c4
  have l4 : (vs ++ [v3] ++ [v4]).length = 7 := by rw [List.length_append, l3]; rfl
  have s4 : Same H1 (upd H4 p (.lst (vs ++ [v3] ++ [v4]))) := same_mut (s3.trans e4) hp1
  refine ⟨_, rfl, .inl ⟨rfl, _, SqL.of upd_same⟩, ?_⟩
  refine mk_use (te := tTup _) (.t [.s (cs (Str.ofString "carry")), .s (cs n), .t [.s (cs (Str.ofString "set")), .i 2], .t [.s (cs (Str.ofString "set")), .i 1], .t [.s (cs (Str.ofString "point")), .i 2, .i 1], .t [.s (cs (Str.ofString "point")), .i 2, .i 0], .t [], .t [.s (cs (Str.ofString "name")), .s (cs n)]]) ?_ fun v5 H5 e5 b5 => ?_
  · repeat (first | exact mka_nil | exact mk_str | exact mk_int | exact mk_var rfl | refine mk_tup ?_ (by simp) | refine mka_cons ?_ ?_)
  refine ⟨p, _, v5, rfl, rfl, e5 p _ upd_same, by rw [l4]; exact small1000 (by decide), ?_⟩
  have c5 := (d4.mono (same_tup e5)).snoc b5
  have d5 := up (e5 p _ upd_same) c5
  have l5 : (vs ++ [v3] ++ [v4] ++ [v5]).length = 8 := by rw [List.length_append, l4]; rfl
  have s5 : Same H1 (upd H5 p (.lst (vs ++ [v3] ++ [v4] ++ [v5]))) := same_mut (s4.trans e5) hp1
  have d5' : BeL (upd H5 p (.lst (vs ++ [v3] ++ [v4] ++ [v5]))) (vs ++ [v3] ++ [v4] ++ [v5]) (rowsL (cs (Str.ofString "set")) (cs (Str.ofString "pairs")) (cs (Str.ofString "sizes")) (cs (Str.ofString "of")) (cs (Str.ofString "name")) (cs (Str.ofString "point")) (cs (Str.ofString "case")) (cs (Str.ofString "y")) (cs (Str.ofString "maps")) (cs (Str.ofString "classes")) (cs (Str.ofString "either")) (cs (Str.ofString "ways")) (cs (Str.ofString "carry")) (.s (cs n))) := d5
  have g5 := g1.same hb s5
  have hpb : p ≠ b := fun e => by
    obtain ⟨m, _, q1⟩ := g1.box
    rw [← e, hp1] at q1; cases q1
  refine ⟨_, rfl, _, rfl, _, rfl, p, _, rfl, .inl (SqL.of upd_same), ?_⟩
  refine ⟨b, 8, ?_, g5.boxAt, by decide, by decide, fun r H6 h3 h4 g6 => ?_⟩
  · rw [l5]; rfl
  obtain ⟨j, rfl⟩ := Int.eq_ofNat_of_zero_le h3
  obtain ⟨v, d, k1, k2, k3⟩ := d5'.get2 (i := j) (by show j < 8; omega)
  refine ⟨p, _, _, v, rfl, rfl, SqL.of (g6.keep p _ hpb upd_same), atI_nat k1, ?_⟩
  obtain ⟨m1, m2, m3⟩ := rows_ok (by decide +kernel) (by decide +kernel) (by decide +kernel) (by decide +kernel) (by decide +kernel) (by decide +kernel) (by decide +kernel) (by decide +kernel) (by decide +kernel) (by decide +kernel) (by decide +kernel) (by decide +kernel) (by decide +kernel) (cs n) hnl d (List.mem_of_getElem? k2)
  have wn : wf (.s (cs n)) = true := wf_word (fun c hc => hx1 c (by rw [hn, cs_cut8] at hc; exact List.mem_of_mem_take hc)) (by rw [hn, cs_cut8, List.length_take]; omega)
  have m4 := rows_wf (by decide +kernel) (by decide +kernel) (by decide +kernel) (by decide +kernel) (by decide +kernel) (by decide +kernel) (by decide +kernel) (by decide +kernel) (by decide +kernel) (by decide +kernel) (by decide +kernel) (by decide +kernel) (by decide +kernel) (cs n) wn d (List.mem_of_getElem? k2)
  exact q v H6 (g5.trans g6) ⟨d, k3.mono (gr_tup g6 g5.boxAt), m1, m2, m3, m4⟩
end
end Mt
namespace Mt
open PySem PySem.Spec PyProof.Rows L2 PySem.NumText
theorem kit_ss {K : PySem.W.Frag} : PySem.W.kitOne K (.type "str") (.type "str") = some true := kit_ty (by decide +kernel)
theorem kit_si {K : PySem.W.Frag} : PySem.W.kitOne K (.type "int") (.type "str") = some false := kit_ty (by decide +kernel)
theorem kit_st {K : PySem.W.Frag} : PySem.W.kitOne K (.type "tuple") (.type "str") = some false := kit_ty (by decide +kernel)
theorem kit_tt {K : PySem.W.Frag} : PySem.W.kitOne K (.type "tuple") (.type "tuple") = some true := kit_ty (by decide +kernel)
theorem kit_ti {K : PySem.W.Frag} : PySem.W.kitOne K (.type "int") (.type "tuple") = some false := kit_ty (by decide +kernel)
theorem kit_ii {K : PySem.W.Frag} : PySem.W.kitOne K (.type "int") (.type "int") = some true := kit_ty (by decide +kernel)
theorem kit_it {K : PySem.W.Frag} : PySem.W.kitOne K (.type "tuple") (.type "int") = some false := kit_ty (by decide +kernel)
theorem glued1 (ys : List Str) : cs (Txt.join (Str.ofString " ") ys) = gl (ys.map cs) := by
  show cs (Builtin.Str.glued _ _) = _
  rw [StrLaws.glued_eq_join, cs_join]
theorem gl_fit (ys : List Str) : (ys.map (·.length)).sum + ys.length * 1 ≤ (gl (ys.map cs)).length + 1 := by
  have h := gl_len (ys.map cs)
  have e : ((ys.map cs).map (·.length + 1)).sum = (ys.map (·.length)).sum + ys.length := by
    clear h
    induction ys with
    | nil => rfl
    | cons y r ih =>
      simp only [List.map_cons, List.sum_cons, List.length_cons] at ih ⊢
      rw [ih, len_cs y]; omega
  rw [e] at h
  split at h <;> omega
theorem txt_in {ds : List D} {i : Nat} {d : D} (h : ds[i]? = some d) : (txt d).length ≤ (gl (txts ds)).length := gl_mem (by rw [txts_map]; exact List.mem_map_of_mem (List.mem_of_getElem? h))
theorem deep_in {ds : List D} {i : Nat} {d : D} {n : Nat} (hn : deeps ds ≤ n) (h : ds[i]? = some d) : deep d ≤ n := deeps_le.mp hn d (List.mem_of_getElem? h)
theorem txts_snoc {ds : List D} {i : Nat} {d : D} (h : ds[i]? = some d) : txts (ds.take (i + 1)) = txts (ds.take i) ++ [txt d] := by
  have hi := (List.getElem?_eq_some_iff.mp h)
  obtain ⟨hl, e⟩ := hi
  rw [txts_map, txts_map, List.take_succ_eq_append_getElem hl, List.map_append, e]; rfl
theorem sep_len : (Str.ofString " ").length = 1 := by decide +kernel
theorem brackets (x y : Str) (l : List Nat) (h : cs x = l) : cs (Str.ofString "(" ++ x ++ Str.ofString ")") = 40 :: (l ++ [41]) := by
  rw [cs_app, cs_app, h]
  rfl
section
variable {P : Program} {w : World} {K : PySem.W.Frag} {mg : Str → Option Value} {base : Heap} {f g : Addr} {fd gd : FuncData} {g2 g3 : Addr} {gd2 gd3 : FuncData}
/-- the text of data so deep -/
def spWr (C : D → Prop) (n : Nat) : Sp := fun vs H Q _ => ∃ (v : V) (d : D), vs = [v] ∧ Be H v d ∧ C d ∧ deep d < n ∧ (txt d).length ≤ 15000000 ∧ ∀ (x : Str) (H' : Hp), cs x = txt d → Same H H' → Q (.str x) H'
theorem scPl : FnScope ["value", "part"] ["value"] (defScope sPlain) := ⟨rfl, rfl, rfl, by decide +kernel, rfl, by decide +kernel, by decide +kernel⟩
theorem ok_pl {n : Nat} (F : Fun K "_law_plain" "_law_plain" sPlain f fd) (G : Cal P w K mg base "_law_plain" n ["value"] (spWr (fun d => small d = true) n) f fd)
    (mi : mg "isinstance" = none) (ms : mg "str" = none) (mt : mg "int" = none) : FnOk P w K mg base CX0 (n + 1) f fd ["value"] (spWr (fun d => small d = true) (n + 1)) := by
  refine F.ok scPl (fun vs H Q E h => ?_) (fun cdv A outer s H vs Q E hr h => ?_)
  · obtain ⟨v, d, rfl, _⟩ := h
    rfl
  obtain ⟨v, d, rfl, be, sm, hd, hl, q⟩ := h
  refine ⟨_, pss_cons (ps_if (pt_val (pe_callB call_isi rfl mi boot_isinstance (pa_cons (pv 0) (pa_cons (pe_bltn (v := .ty "str") rfl ms boot_str rfl) pa_nil)))) (pss_one (ps_ret (pv 0))) pss_nil)
    (pss_cons (ps_if (pt_val (pe_callB call_isi rfl mi boot_isinstance (pa_cons (pv 0) (pa_cons (pe_bltn (v := .ty "int") rfl mt boot_int rfl) pa_nil))))
      (pss_one (ps_ret (pe_callTy call_str_int rfl ms boot_str (pa_cons (pv 0) pa_nil)))) pss_nil)
    (pss_one (ps_ret (pe_op op_add_str (pe_op op_add_str pe_str (pe_join pe_str
        (pe_lc (own := [("part", 1)]) (g := gName 1) (tt := tYes) rfl scPl.nd (pi_tup (pv 0)) (blkOk_by (N := ["value", "part"]) (sc := defScope sPlain) (by decide +kernel))
          (fun _ _ _ _ _ => pg_name (i := 1) scPl.nd rfl (Or.inl rfl)) (fun _ _ _ _ _ => pts_nil)
          (fun _ _ _ _ _ => pe_call G.ok hr rfl G.m G.k G.b .nil pass0 (pa_cons (pv 1) pa_nil))))) pe_str)))), ?_⟩
  cases be with
  | s h =>
    refine ⟨_, rfl, _, _, _, _, true, rfl, .ty "str", .base (.str _), kit_ss, _, rfl, ?_⟩
    exact iteT ⟨_, rfl, q _ H h (Same.refl H)⟩
  | @i k =>
    refine ⟨_, rfl, _, _, _, _, false, rfl, .ty "str", .base (.int _), kit_si, _, rfl, iteF ?_⟩
    refine ⟨_, rfl, _, _, _, _, true, rfl, .ty "int", .base (.int _), kit_ii, _, rfl, iteT ?_⟩
    have hk : 0 ≤ k ∧ k < 10 := of_decide_eq_true sm
    exact ⟨_, rfl, k, rfl, log_small hk.1 (by omega), q _ H (cs_int k) (Same.refl H)⟩
  | @t a vs ds h r =>
    refine ⟨_, rfl, _, _, _, _, false, rfl, .ty "str", .base (.tup h), kit_st, _, rfl, iteF ?_⟩
    refine ⟨_, rfl, _, _, _, _, false, rfl, .ty "int", .base (.tup h), kit_it, _, rfl, iteF ?_⟩
    have hl' : (gl (txts ds)).length + 2 ≤ 15000000 := by
      have : (40 :: (gl (txts ds) ++ [41])).length ≤ 15000000 := hl
      rw [List.length_cons, List.length_append, List.length_singleton] at this
      omega
    have hd' : deeps ds < n := by
      have : deeps ds + 1 < n + 1 := hd
      omega
    have hline := line_big
    refine ⟨⟨_, rfl⟩, _, rfl, a, rfl, ⟨_, SqT.of h⟩, fun D hD => ?_⟩
    refine lc_tup (K := K) (a := a) (xs := vs) (fun i H1 => Same H H1 ∧ ∃ ys : List Str, H1 D = some (.lst (ys.map V.str)) ∧ ys.map cs = txts (ds.take i)) ?_ (fun i H1 _ p => SqT.of (p.1 a _ h)) (fun i x H1 hx p => ?_) (fun H1 p => ?_)
    · exact ⟨same_new hD _, [], upd_same, rfl⟩
    · obtain ⟨hs, ys, hys, hc⟩ := p
      obtain ⟨d, hdi, hb⟩ := r.get hx
      refine ⟨rfl, ?_⟩
      refine ⟨_, rfl, x, d, rfl, hb.mono (same_tup hs), smalls_get sm hdi, Nat.lt_of_le_of_lt (deep_in (Nat.le_refl _) hdi) hd', by have := txt_in hdi; omega, fun t H2 ht h2 => ?_⟩
      refine ⟨ys.map V.str, h2 D _ hys, ?_, same_mut (hs.trans h2) hD, ys ++ [t], ?_, ?_⟩
      · have e1 : ys.length = (txts (ds.take i)).length := by rw [← hc, List.length_map]
        rw [List.length_map, e1, txts_map, List.length_map, List.length_take]
        have : ds.length ≤ (gl (txts ds)).length + 1 := by
          have := gl_len (txts ds)
          have e2 : ds.length ≤ ((txts ds).map (·.length + 1)).sum := by
            rw [txts_map]
            clear this r hl' hd' hl hd h q hys hc hdi hb hx e1 sm
            induction ds with
            | nil => exact Nat.le_refl _
            | cons x r ih =>
              simp only [List.map_cons, List.sum_cons, List.length_cons] at ih ⊢
              omega
          split at this <;> omega
        omega
      · rw [upd_same, List.map_append]; rfl
      · rw [List.map_append, hc, txts_snoc hdi]
        show _ ++ [cs t] = _
        rw [ht]
    · obtain ⟨hs, ys, hys, hc⟩ := p
      rw [r.len, List.take_length] at hc
      have hf := gl_fit ys
      rw [hc] at hf
      have ej : cs (Txt.join (Str.ofString " ") ys) = gl (txts ds) := by rw [glued1, hc]
      refine ⟨_, D, ys, rfl, rfl, .inl (SqL.of hys), by rw [sep_len]; omega, _, _, rfl, rfl, ?_, _, _, rfl, rfl, ?_, q _ H1 (brackets _ (Str.ofString "") _ ej) hs⟩
      · rw [len_cs (Txt.join _ _), ej]
        show 1 + _ ≤ _
        omega
      · rw [len_cs, cs_app, ej, List.length_append]
        show 1 + _ + 1 ≤ _
        omega
end
end Mt
namespace Mt
open PySem PySem.Spec PyProof.Rows L2 PySem.NumText
def Lim : Nat → Nat
  | 0 => 4401
  | 1 => 13300
  | 2 => 40000
  | 3 => 121000
  | _ => 1700000
/-- a pair of data and its text -/
def Row (H : Hp) (u : V) (d : D) : Prop := ∃ (p : Addr) (v : V) (x : Str), u = .ref p ∧ H p = some (.tup [v, .str x]) ∧ Be H v d ∧ cs x = txt d
theorem Row.mono {H H' : Hp} (e : ∀ a xs, H a = some (.tup xs) → H' a = some (.tup xs)) {u : V} {d : D} (r : Row H u d) : Row H' u d := by
  obtain ⟨p, v, x, h1, h2, h3, h4⟩ := r
  exact ⟨p, v, x, h1, e _ _ h2, h3.mono e, h4⟩
inductive RowL (H : Hp) : List V → List D → Prop
  | nil : RowL H [] []
  | cons {v : V} {d : D} {vs : List V} {ds : List D} (h : Row H v d) (r : RowL H vs ds) : RowL H (v :: vs) (d :: ds)
theorem RowL.mono {H H' : Hp} (e : ∀ a xs, H a = some (.tup xs) → H' a = some (.tup xs)) {vs : List V} {ds : List D} (r : RowL H vs ds) : RowL H' vs ds := by
  induction r with
  | nil => exact .nil
  | cons h _ ih => exact .cons (h.mono e) ih
theorem RowL.snoc {H : Hp} {v : V} {d : D} (h : Row H v d) {vs : List V} {ds : List D} (r : RowL H vs ds) : RowL H (vs ++ [v]) (ds ++ [d]) := by
  induction r with
  | nil => exact .cons h .nil
  | cons g _ ih => exact .cons g ih
theorem RowL.len {H : Hp} {vs : List V} {ds : List D} (r : RowL H vs ds) : vs.length = ds.length := by
  induction r with
  | nil => rfl
  | cons _ _ ih => rw [List.length_cons, List.length_cons, ih]
theorem RowL.get {H : Hp} {vs : List V} {ds : List D} (r : RowL H vs ds) : ∀ {i : Nat} {v : V}, vs[i]? = some v → ∃ d, ds[i]? = some d ∧ Row H v d := by
  induction r with
  | nil => intro i v e; simp at e
  | cons h _ ih =>
    intro i v e
    cases i with
    | zero => simp at e; subst e; exact ⟨_, rfl, h⟩
    | succ i =>
      obtain ⟨d, e2, h2⟩ := ih (i := i) (by simpa using e)
      exact ⟨d, by simpa using e2, h2⟩
theorem take_snoc {α : Type} {ds : List α} {i : Nat} {d : α} (h : ds[i]? = some d) : ds.take (i + 1) = ds.take i ++ [d] := by
  obtain ⟨hl, e⟩ := List.getElem?_eq_some_iff.mp h
  rw [List.take_succ_eq_append_getElem hl, e]
theorem gl_le {L : Nat} {ds : List D} (h : ∀ d ∈ ds, (txt d).length ≤ L) : (gl (txts ds)).length ≤ ds.length * (L + 1) := by
  have h1 := gl_len (txts ds)
  have h2 : ((txts ds).map (·.length + 1)).sum ≤ ds.length * (L + 1) := by
    rw [txts_map]
    clear h1
    induction ds with
    | nil => simp
    | cons x r ih =>
      have h3 := h x (List.mem_cons_self ..)
      have h4 := ih fun d hd => h d (List.mem_cons_of_mem _ hd)
      simp only [List.map_cons, List.sum_cons, List.length_cons, Nat.succ_mul] at h4 ⊢
      omega
  split at h1
  · rename_i e
    rw [e]; simp [gl]
  · omega
/-- what «_law_nested» hands back -/
def Nst (H : Hp) (p : Addr) (k : Nat) : Prop := ∃ (v : V) (x : Str) (d : D), H p = some (.tup [v, .str x]) ∧ Be H v d ∧ cs x = txt d ∧ deep d ≤ 60 + k ∧ (txt d).length ≤ Lim k ∧ wf d = true
def spNest (n : Nat) : Sp := fun vs H Q _ => ∃ (b : Addr) (k : Nat), vs = [.ref b, .int k] ∧ BoxAt H b ∧ k ≤ 4 ∧ k < n ∧ ∀ (p : Addr) (H' : Hp), Gr b H H' → Nst H' p k → Q (.ref p) H'
theorem lim_ge (k : Nat) : 4401 ≤ Lim k := by
  match k with
  | 0 | 1 | 2 | 3 => decide
  | n + 4 => show 4401 ≤ 1700000; decide
theorem lim_up {k m : Nat} (hk : k ≤ 4) (h1 : 1 ≤ k) (hm : m ≤ 14) (hm2 : k ≠ 4 → m ≤ 3) : m * (Lim (k - 1) + 1) + 2 ≤ Lim k := by
  match k, hk with
  | 1, _ => have := hm2 (by decide); show m * 4402 + 2 ≤ 13300; omega
  | 2, _ => have := hm2 (by decide); show m * 13301 + 2 ≤ 40000; omega
  | 3, _ => have := hm2 (by decide); show m * 40001 + 2 ≤ 121000; omega
  | 4, _ => show m * 121001 + 2 ≤ 1700000; omega
theorem menu8 : ∀ j : Nat, j < 8 → ∃ m : Int, ([V.int 0, V.int 1, V.int 2, V.int 3, V.int 4, V.int 5, V.int 7, V.int 14] : List V)[j]? = some (V.int m) ∧ 0 ≤ m ∧ m ≤ 14
  | 0, _ => ⟨0, rfl, by decide, by decide⟩ | 1, _ => ⟨1, rfl, by decide, by decide⟩ | 2, _ => ⟨2, rfl, by decide, by decide⟩ | 3, _ => ⟨3, rfl, by decide, by decide⟩
  | 4, _ => ⟨4, rfl, by decide, by decide⟩ | 5, _ => ⟨5, rfl, by decide, by decide⟩ | 6, _ => ⟨7, rfl, by decide, by decide⟩ | 7, _ => ⟨14, rfl, by decide, by decide⟩
  | n + 8, h => absurd h (by omega)
theorem call_ix0 : True := trivial
section
variable {P : Program} {w : World} {K : PySem.W.Frag} {mg : Str → Option Value} {base : Heap} {f g : Addr} {fd gd : FuncData} {g2 g3 g4 g5 : Addr} {gd2 gd3 gd4 gd5 : FuncData}
theorem scNest : FnScope ["box", "depth", "form", "word", "value", "text", "k", "many", "rows", "row"] ["box", "depth"] (defScope sNest) := ⟨rfl, rfl, rfl, by decide +kernel, rfl, by decide +kernel, by decide +kernel⟩
theorem ok_nest {n : Nat} (F : Fun K "_law_nested" "_law_nested" sNest f fd) (G : Cal P w K mg base "_law_nested" (n + 6) ["box", "depth"] (spNest n) f fd)
    (T : Cal P w K mg base "_law_take" 1 ["box", "many"] spTake g gd) (I : Cal P w K mg base "_law_integer" 3 ["box"] (spB gInt) g2 gd2) (W : Cal P w K mg base "_law_word" 2 ["box"] (spB gWord) g3 gd3)
    (S : Cal P w K mg base "_law_sample" 3 ["box"] (spB (gData 4 200)) g4 gd4) (L : Cal P w K mg base "_law_plain" 5 ["value"] (spWr (fun d => small d = true) 5) g5 gd5)
    (mr : mg "range" = none) (mt : mg "tuple" = none) : FnOk P w K mg base CX0 (n + 7) f fd ["box", "depth"] (spNest (n + 1)) := by
  refine F.ok scNest (fun vs H Q E h => ?_) (fun cdv A outer s H vs Q E hr h => ?_)
  · obtain ⟨v, d, rfl, _⟩ := h
    rfl
  obtain ⟨b, k, rfl, hb, hk4, hkn, q⟩ := h
  refine ⟨_, pss_cons (ps_set (i := 2) scNest.nd rfl (Or.inl rfl) (pe_call T.ok (hr.mono (by omega)) rfl T.m T.k T.b .nil pass0 (pa_cons (pv 0) (pa_cons pe_int pa_nil))))
    (pss_cons (ps_if (PW.pt (pw_or (pt_cmpR op_eq (pv 2) pe_int (nomark _)) (pw_or1 (pt_cmpR op_eq (pv 1) pe_int (nomark _))))) (pss_one (ps_ret (pe_call I.ok (hr.mono (by omega)) rfl I.m I.k I.b .nil pass0 (pa_cons (pv 0) pa_nil)))) pss_nil)
    (pss_cons (ps_if (pt_cmpR op_eq (pv 2) pe_int (nomark _)) (pss_cons (ps_set (i := 3) scNest.nd rfl (Or.inl rfl) (pe_call W.ok (hr.mono (by omega)) rfl W.m W.k W.b .nil pass0 (pa_cons (pv 0) pa_nil))) (pss_one (ps_ret (pe_tup (pa_cons (pv 3) (pa_cons (pv 3) pa_nil)))))) pss_nil)
    (pss_cons (ps_if (pt_cmpR op_eq (pv 2) pe_int (nomark _)) (pss_cons (ps_set (i := 4) scNest.nd rfl (Or.inl rfl) (pe_call S.ok (hr.mono (by omega)) rfl S.m S.k S.b .nil pass0 (pa_cons (pv 0) pa_nil))) (pss_one (ps_ret (pe_tup (pa_cons (pv 4) (pa_cons (pe_call L.ok (hr.mono (by omega)) rfl L.m L.k L.b .nil pass0 (pa_cons (pv 4) pa_nil)) pa_nil)))))) pss_nil)
    (pss_cons (ps_if (pt_cmpR op_eq (pv 2) pe_int (nomark _)) (pss_cons (ps_set (i := 4) scNest.nd rfl (Or.inl rfl) (pe_call W.ok (hr.mono (by omega)) rfl W.m W.k W.b .nil pass0 (pa_cons (pv 0) pa_nil)))
        (pss_cons (ps_set (i := 5) scNest.nd rfl (Or.inl rfl) (pv 4))
        (pss_cons (ps_for PassesOwn.never rfl (pi_range1 rfl mr (pa_cons (pe_call T.ok (hr.mono (by omega)) rfl T.m T.k T.b .nil pass0 (pa_cons (pv 0) (pa_cons pe_int pa_nil))) pa_nil)) (pg_name (i := 6) scNest.nd rfl (Or.inl rfl))
          (pss_one (ps_par rfl scNest.nd (i := 4) (j := 5) rfl rfl (by decide) rfl rfl (pa_cons (pe_tup (pa_cons (pv 4) pa_nil)) (pa_cons (pe_op op_add_str (pe_op op_add_str pe_str (pv 5)) pe_str) pa_nil)) (by rfl))))
        (pss_one (ps_ret (pe_tup (pa_cons (pv 4) (pa_cons (pv 5) pa_nil)))))))) pss_nil)
    (pss_cons (ps_set (i := 7) scNest.nd rfl (Or.inl rfl) (pe_ifExp (pt_cmpR op_eq (pv 1) pe_int (nomark _))
        (pe_ix ix_list (pe_lst (pa_cons pe_int (pa_cons pe_int (pa_cons pe_int (pa_cons pe_int (pa_cons pe_int (pa_cons pe_int (pa_cons pe_int (pa_cons pe_int pa_nil))))))))) (pe_call T.ok (hr.mono (by omega)) rfl T.m T.k T.b .nil pass0 (pa_cons (pv 0) (pa_cons pe_int pa_nil))) (fun _ _ => rfl))
        (pe_call T.ok (hr.mono (by omega)) rfl T.m T.k T.b .nil pass0 (pa_cons (pv 0) (pa_cons pe_int pa_nil)))))
    (pss_cons (ps_setLc (i := 8) (own := [("k", 6)]) (g := gName 6) (tt := tYes) rfl scNest.nd rfl rfl (sw_true rfl rfl rfl (by decide +kernel)) (pi_range1 rfl mr (pa_cons (pv 7) pa_nil))
        (blkOk_by (N := ["box", "depth", "form", "word", "value", "text", "k", "many", "rows", "row"]) (sc := defScope sNest) (by decide +kernel))
        (fun _ _ _ _ _ => pg_name (i := 6) scNest.nd rfl (Or.inl rfl)) (fun _ _ _ _ _ => pts_nil)
        (fun _ _ _ _ _ => pe_call G.ok hr rfl G.m G.k G.b .nil pass0 (pa_cons (pv 0) (pa_cons (pe_op op_sub (pv 1) pe_int) pa_nil))))
    (pss_one (ps_ret (pe_tup (pa_cons (pe_callTy call_tuple_of rfl mt boot_tuple (pa_cons
        (pe_lc (own := [("row", 9)]) (g := gName 9) (tt := tYes) rfl scNest.nd (pi_list (pv 8)) (blkOk_by (N := ["box", "depth", "form", "word", "value", "text", "k", "many", "rows", "row"]) (sc := defScope sNest) (by decide +kernel))
          (fun _ _ _ _ _ => pg_name (i := 9) scNest.nd rfl (Or.inl rfl)) (fun _ _ _ _ _ => pts_nil) (fun _ _ _ _ _ => pe_ix (r := rIxT K) ix_tup (pv 9) pe_int (fun _ _ => rfl))) pa_nil))
      (pa_cons (pe_op op_add_str (pe_op op_add_str pe_str (pe_join pe_str
        (pe_lc (own := [("row", 9)]) (g := gName 9) (tt := tYes) rfl scNest.nd (pi_list (pv 8)) (blkOk_by (N := ["box", "depth", "form", "word", "value", "text", "k", "many", "rows", "row"]) (sc := defScope sNest) (by decide +kernel))
          (fun _ _ _ _ _ => pg_name (i := 9) scNest.nd rfl (Or.inl rfl)) (fun _ _ _ _ _ => pts_nil) (fun _ _ _ _ _ => pe_ix (r := rIxT K) ix_tup (pv 9) pe_int (fun _ _ => rfl))))) pe_str) pa_nil)))))))))))
    , ?_⟩
  have hline := line_big
  have hlim := lim_ge k
  refine ⟨_, rfl, b, 7, rfl, hb, by decide, by decide, fun fm H1 f0 f1 g1 => ?_⟩
  -- the integer
  have intg : (tRet (tCall (spB gInt) [] E0 (tCons (tVar 0) tNil))) { nx := fun _ H' => Q .non H', rt := Q } [some (.ref b), some (.int k), some (.int fm), none, none, none, none, none, none, none] H1 := by
    refine ⟨_, rfl, b, rfl, g1.boxAt, fun v H2 g2 hv => ?_⟩
    obtain ⟨p, m, x, rfl, hp, hx, hl⟩ := hv
    exact q p H2 (g1.trans g2) ⟨_, x, .i m, hp, .i, hx, by show 0 ≤ _; omega, by show (decI m).length ≤ _; rw [← hx]; omega, rfl⟩
  refine ⟨_, rfl, rfl, _, rfl, ?_⟩
  refine ite2 (fun _ => iteT intg) (fun _ => ?_)
  refine ⟨_, rfl, rfl, _, rfl, ?_⟩
  refine ite2 (fun _ => intg) (fun hk0 => ?_)
  have hk1 : 1 ≤ k := by
    cases k with
    | zero => exact absurd rfl hk0
    | succ k => omega
  -- a word twice
  refine ⟨_, rfl, rfl, _, rfl, ?_⟩
  refine ite2 (fun _ => ?_) (fun _ => ?_)
  · refine ⟨_, rfl, b, rfl, g1.boxAt, fun v H2 g2 hv => ?_⟩
    obtain ⟨x, rfl, hx⟩ := hv
    refine ⟨_, rfl, _, rfl, (by show 2 ≤ sizeLine; omega), fun p hp => ?_⟩
    exact q p _ ((g1.trans g2).new hp) ⟨_, x, .s (cs x), upd_same, .s rfl, rfl, by show 0 ≤ _; omega, by show (cs x).length ≤ _; have := hx.2.2; omega, wf_word hx.1 hx.2.1⟩
  -- a sample
  refine ⟨_, rfl, rfl, _, rfl, ?_⟩
  refine ite2 (fun _ => ?_) (fun _ => ?_)
  · refine ⟨_, rfl, b, rfl, g1.boxAt, fun v H2 g2 hv => ?_⟩
    obtain ⟨d, hd, sm, dp, ln, wd⟩ := hv
    refine ⟨_, rfl, _, rfl, v, d, rfl, hd, sm, by omega, by omega, fun x H3 hx hs => ?_⟩
    refine ⟨(by show 2 ≤ sizeLine; omega), fun p hp => ?_⟩
    have g3 := (g1.trans g2).same hb hs
    exact q p _ (g3.new hp) ⟨_, x, d, upd_same, hd.mono (same_tup (hs.trans (same_new hp _))), hx, by omega, by omega, wd⟩
  -- a word in brackets
  refine ⟨_, rfl, rfl, _, rfl, ?_⟩
  refine ite2 (fun _ => ?_) (fun _ => ?_)
  · refine ⟨_, rfl, b, rfl, g1.boxAt, fun v H2 g2 hv => ?_⟩
    obtain ⟨x, rfl, hx⟩ := hv
    have gg := g1.trans g2
    refine ⟨_, rfl, _, rfl, b, 60, rfl, gg.boxAt, by decide, by decide, fun r H3 r0 r1 g3 => ?_⟩
    obtain ⟨m, rfl⟩ := Int.eq_ofNat_of_zero_le r0
    refine ⟨m, rfl, by omega, by omega, ?_⟩
    refine for_range (n := m) (fun i σ H' => Gr b H H' ∧ ∃ v t d kk, σ = [some (.ref b), some (.int k), some (.int fm), none, some v, some (.str t), kk, none, none, none] ∧ Be H' v d ∧ cs t = txt d ∧ deep d ≤ i ∧ (txt d).length ≤ 68 + 2 * i ∧ wf d = true) ?_ (fun i σ H' hi p => ?_) (fun σ H' p => ?_)
    · exact ⟨gg.trans g3, _, x, .s (cs x), none, rfl, .s rfl, rfl, Nat.le_refl _, hx.2.2, wf_word hx.1 hx.2.1⟩
    · obtain ⟨g4, v, t, d, kk, rfl, hd, ht, dp, ln, wd⟩ := p
      refine ⟨_, rfl, (by show 1 ≤ sizeLine; omega), fun p hp => ?_⟩
      have hc : cs (Str.ofString "(" ++ t ++ Str.ofString ")") = 40 :: (txt d ++ [41]) := brackets _ t _ ht
      refine ⟨_, rfl, _, _, rfl, rfl, ?_, _, _, rfl, rfl, ?_, _, _, rfl, g4.new hp, _, _, .t [d], some (.int (0 + (i : Int))), rfl, ?_, hc, ?_, ?_, wfs_cons.mpr ⟨wd, rfl⟩⟩
      · rw [len_cs t, ht]; show 1 + _ ≤ _; omega
      · rw [len_cs, cs_app, ht, List.length_append]; show 1 + _ + 1 ≤ _; omega
      · exact .t upd_same (.cons (hd.mono (same_tup (same_new hp _))) .nil)
      · show max (deep d) 0 + 1 ≤ i + 1
        omega
      · show (40 :: (txt d ++ [41])).length ≤ _
        rw [List.length_cons, List.length_append, List.length_singleton]
        omega
    · obtain ⟨g4, v, t, d, kk, rfl, hd, ht, dp, ln, wd⟩ := p
      refine ⟨_, rfl, _, rfl, (by show 2 ≤ sizeLine; omega), fun p hp => ?_⟩
      exact q p _ (g4.new hp) ⟨v, t, d, upd_same, hd.mono (same_tup (same_new hp _)), ht, by omega, by omega, wd⟩
  -- a tuple
  refine ⟨_, rfl, rfl, _, rfl, ?_⟩
  have many : ∀ Qx : VK, (∀ (m : Int) (H2 : Hp), 0 ≤ m → m ≤ 14 → (k ≠ 4 → m ≤ 3) → Gr b H H2 → Qx (.int m) H2) →
      (if decide (V.int (k : Int) = V.int 4) = true then
        tOp (rIxL K) (tLst (tCons (tC (.int 0)) (tCons (tC (.int 1)) (tCons (tC (.int 2)) (tCons (tC (.int 3)) (tCons (tC (.int 4)) (tCons (tC (.int 5)) (tCons (tC (.int 7)) (tCons (tC (.int 14)) tNil)))))))))
          (tCall spTake [] E0 (tCons (tVar 0) (tCons (tC (.int 8)) tNil))) [some (.ref b), some (.int k), some (.int fm), none, none, none, none, none, none, none] H1 Qx
      else tCall spTake [] E0 (tCons (tVar 0) (tCons (tC (.int 4)) tNil)) [some (.ref b), some (.int k), some (.int fm), none, none, none, none, none, none, none] H1 Qx) := by
    intro Qx qx
    refine ite2 (fun c => ?_) (fun c => ?_)
    · have hk : k = 4 := by
        have := of_decide_eq_true c
        injection this with this
        omega
      refine ⟨(by show 8 ≤ sizeLine; omega), fun p hp => ?_⟩
      have g1' := g1.new (o := .lst [V.int 0, V.int 1, V.int 2, V.int 3, V.int 4, V.int 5, V.int 7, V.int 14]) hp
      obtain ⟨hp0, hpb⟩ := g1.free hb hp
      refine ⟨_, rfl, b, 8, rfl, g1'.boxAt, by decide, by decide, fun r2 H2 h3 h4 g2 => ?_⟩
      obtain ⟨j, rfl⟩ := Int.eq_ofNat_of_zero_le h3
      obtain ⟨m, hm, hm1, hm2⟩ := menu8 j (by omega)
      refine ⟨p, _, _, _, rfl, rfl, SqL.of (g2.keep p _ hpb upd_same), atI_nat hm, ?_⟩
      exact qx m H2 hm1 hm2 (fun e => absurd hk e) (g1'.trans g2)
    · refine ⟨_, rfl, b, 4, rfl, g1.boxAt, by decide, by decide, fun r2 H2 h3 h4 g2 => ?_⟩
      exact qx _ H2 h3 (by omega) (fun _ => by omega) (g1.trans g2)
  refine many _ fun m H2 hm0 hm1 hm2 g2 => ?_
  obtain ⟨m, rfl⟩ := Int.eq_ofNat_of_zero_le hm0
  -- the rows
  refine ⟨_, rfl, m, rfl, by omega, by omega, fun Da hD => ?_⟩
  obtain ⟨hD0, hDb⟩ := g2.free hb hD
  refine lc_range (lo := 0) (n := m) (fun i H3 => Gr b H H3 ∧ ∃ (us : List V) (ds : List D), H3 Da = some (.lst us) ∧ RowL H3 us ds ∧ us.length = i ∧ ∀ d ∈ ds, deep d ≤ 60 + (k - 1) ∧ (txt d).length ≤ Lim (k - 1) ∧ wf d = true) ?_ (fun i H3 hi p => ?_) (fun H3 p => ?_)
  · exact ⟨g2.new hD, [], [], upd_same, .nil, rfl, fun _ h => nomatch h⟩
  · obtain ⟨g3, us, ds, hus, hr3, hl, hd⟩ := p
    refine ⟨rfl, ?_⟩
    refine ⟨_, rfl, _, rfl, _, _, rfl, rfl, b, k - 1, ?_, g3.boxAt, by omega, by omega, fun p H4 g4 hn => ?_⟩
    · show [V.ref b, V.int ((k : Int) - 1)] = _
      rw [show (k : Int) - 1 = ((k - 1 : Nat) : Int) by omega]
    obtain ⟨v, x, d, h1, h2, h3, h4, h5, h6⟩ := hn
    have hp4 : H4 Da = some (.lst us) := g4.keep Da _ hDb hus
    have upT : ∀ a xs, H4 a = some (.tup xs) → (upd H4 Da (.lst (us ++ [.ref p]))) a = some (.tup xs) := fun a xs h => by
      rw [upd_ne (fun e => by rw [e, hp4] at h; cases h)]; exact h
    refine ⟨us, hp4, by rw [hl]; omega, (g3.trans g4).mut hD0 hDb, us ++ [.ref p], ds ++ [d], upd_same, ?_, by rw [List.length_append, hl]; rfl, ?_⟩
    · exact ((hr3.mono (gr_tup g4 g3.boxAt)).snoc ⟨p, v, x, rfl, h1, h2, h3⟩).mono upT
    · intro e he
      rcases List.mem_append.mp he with he | he
      · exact hd e he
      · rw [List.mem_singleton.mp he]; exact ⟨h4, h5, h6⟩
  obtain ⟨g3, us, ds, hus, hr3, hl, hd⟩ := p
  have hdl : ds.length = m := by rw [← hr3.len, hl]
  -- the values
  refine ⟨_, rfl, Da, rfl, ⟨us, SqL.of hus⟩, fun D1 hD1 => ?_⟩
  refine lc_list (K := K) (a := Da) (xs := us) (fun i H4 => Same H3 H4 ∧ ∃ vs : List V, H4 D1 = some (.lst vs) ∧ BeL H4 vs (ds.take i)) ?_ (fun i H4 _ p => SqL.of (p.1 Da _ hus)) (fun i x H4 hx p => ?_) (fun H4 p => ?_)
  · exact ⟨same_new hD1 _, [], upd_same, .nil⟩
  · obtain ⟨hs, vs, hvs, hb4⟩ := p
    obtain ⟨d, hdi, r⟩ := hr3.get hx
    obtain ⟨p, v, t, rfl, k1, k2, k3⟩ := r
    have upT : ∀ (o : HO) a xs, H4 a = some (.tup xs) → (upd H4 D1 o) a = some (.tup xs) := fun o a xs h => by
      rw [upd_ne (fun e => by rw [e, hvs] at h; cases h)]; exact h
    refine ⟨rfl, _, rfl, p, _, 0, v, rfl, rfl, SqT.of (hs p _ k1), rfl, vs, hvs, ?_, same_mut hs hD1, vs ++ [v], upd_same, ?_⟩
    · rw [hb4.len, List.length_take]; omega
    · rw [take_snoc hdi]
      exact (hb4.snoc (k2.mono (same_tup hs))).mono (upT _)
  obtain ⟨hs, vs, hvs, hb4⟩ := p
  rw [hr3.len, List.take_length] at hb4
  refine ⟨D1, vs, rfl, .inl ⟨SqL.of hvs, fun t ht => ?_⟩⟩
  have hs2 := hs.trans (same_new ht (.tup vs))
  have bt : Be (upd H4 t (.tup vs)) (.ref t) (.t ds) := .t upd_same (hb4.mono (same_tup (same_new ht _)))
  -- the texts
  refine ⟨⟨_, rfl⟩, _, rfl, Da, rfl, ⟨us, SqL.of (hs2 Da _ hus)⟩, fun D2 hD2 => ?_⟩
  refine lc_list (K := K) (a := Da) (xs := us) (fun i H5 => Same (upd H4 t (.tup vs)) H5 ∧ ∃ ys : List Str, H5 D2 = some (.lst (ys.map V.str)) ∧ ys.map cs = txts (ds.take i)) ?_ (fun i H5 _ p => SqL.of (p.1 Da _ (hs2 Da _ hus))) (fun i x H5 hx p => ?_) (fun H5 p => ?_)
  · exact ⟨same_new hD2 _, [], upd_same, rfl⟩
  · obtain ⟨hs5, ys, hys, hc⟩ := p
    obtain ⟨d, hdi, r⟩ := hr3.get hx
    obtain ⟨p, v, x5, rfl, k1, k2, k3⟩ := r
    have e1 : ys.length = (txts (ds.take i)).length := by rw [← hc, List.length_map]
    refine ⟨rfl, _, rfl, p, _, 1, .str x5, rfl, rfl, SqT.of (hs5 p _ (hs2 p _ k1)), rfl, ys.map V.str, hys, ?_, same_mut hs5 hD2, ys ++ [x5], ?_, ?_⟩
    · rw [List.length_map, e1, txts_map, List.length_map, List.length_take]; omega
    · rw [upd_same, List.map_append]; rfl
    · rw [List.map_append, hc, txts_snoc hdi]
      show _ ++ [cs x5] = _
      rw [k3]
  obtain ⟨hs5, ys, hys, hc⟩ := p
  rw [hr3.len, List.take_length] at hc
  have hf := gl_fit ys
  rw [hc] at hf
  have ej : cs (Txt.join (Str.ofString " ") ys) = gl (txts ds) := by rw [glued1, hc]
  have hgl := gl_le (fun d h => (hd d h).2.1)
  have hup := lim_up (m := m) hk4 hk1 (by omega) (fun e => by have := hm2 e; omega)
  rw [hdl] at hgl
  have hl4 : Lim k ≤ 1700000 := by
    match k, hk4 with
    | 0, _ | 1, _ | 2, _ | 3, _ | 4, _ => decide
  refine ⟨_, D2, ys, rfl, rfl, .inl (SqL.of hys), by rw [sep_len]; omega, _, _, rfl, rfl, ?_, _, _, rfl, rfl, ?_, (by show 2 ≤ sizeLine; omega), fun p hp => ?_⟩
  · rw [len_cs (Txt.join _ _), ej]
    show 1 + _ ≤ _
    omega
  · rw [len_cs, cs_app, ej, List.length_append]
    show 1 + _ + 1 ≤ _
    omega
  · refine q p _ ((g3.same hb (hs2.trans hs5)).new hp) ⟨.ref t, _, .t ds, upd_same, bt.mono (same_tup (hs5.trans (same_new hp _))), brackets _ (Str.ofString "") _ ej, ?_, ?_, wfs_all fun d h => (hd d h).2.2⟩
    · show deeps ds + 1 ≤ 60 + k
      have := deeps_le.mpr fun d h => (hd d h).1
      omega
    · show (40 :: (gl (txts ds) ++ [41])).length ≤ _
      rw [List.length_cons, List.length_append, List.length_singleton]
      omega
end
end Mt
namespace Mt
open PySem PySem.Spec PyProof.Rows L2 PySem.NumText
section
variable {X : Cx}
/-! ### tuple + tuple, the left one empty or not -/
def rCat0 (K : PySem.W.Frag) : R2 := fun x y H Q => ∃ a b ys, x = .ref a ∧ y = .ref b ∧ SqT K H a [] ∧ SqT K H b ys ∧ Q (.ref b) H
theorem op_cat0 : OpR X (binaryOp .Add) (rCat0 X.K) := by
  intro pins s σ H x y v u Q I rx ry h
  obtain ⟨a, b, ys, rfl, rfl, ha, hb, q⟩ := h
  cases rx
  cases ry
  obtain ⟨its, r1, p1, _⟩ := I.tuple ha
  obtain ⟨its2, r2, p2, _⟩ := I.tuple hb
  cases r1
  obtain ⟨⟨c1, d1, e1, s1⟩, ho, hc, n, hd⟩ := id p1
  obtain ⟨⟨c2, d2, e2, s2⟩, ho2, hc2, n2, hd2⟩ := id p2
  simp only at hc hd hc2 hd2
  subst hc hd hc2 hd2
  exact concat_meets ⟨_, ho, rfl⟩ ⟨_, ho2, rfl⟩ noFill_tuple_add seq_tuple_add PySem.F.slot_tuple_add PySem.F.entry_tuple_add (PySem.F.args_tuple_add_2 _ _)
    (tuple_addW0 a b _ _ n n2 d1 d2 s1 s2 (by rfl)) ⟨ho, ho2, ⟨.ref b, H, I, rfl, q⟩⟩
def rCatA (K : PySem.W.Frag) : R2 := fun x y H Q => rCat0 K x y H Q ∨ rCatT K x y H Q
theorem op_catA : OpR X (binaryOp .Add) (rCatA X.K) := op_cat0.or op_catT
end

/-! ### text.replace(y, z, 1) -/
theorem gives_replace1 (x y z : Str) (t u v k : Tok) (h0 : (u == 0 || v == 0) = false) (huv : (u == v) = false) (hyz : (y == z) = false) (hy : (y.length == 0) = false) (hb : x.length + z.length ≤ 16777216) :
    Gives (Builtin.«str.replace» ⟨[.str x t, .str y u, .str z v, .int 1 k], []⟩)
      (if (Builtin.Str.occurrences x y 0 x.length 1).isEmpty = true then .val (.str x t) else .str (Builtin.Str.glued z (Builtin.Str.partsBetween x (Builtin.Str.occurrences x y 0 x.length 1) y.length))) := by
  show Gives (if ((Builtin.Str.occurrences x y 0 x.length 1).isEmpty || (y.length == 0 && z.length == 0)) = true then (do rule "str.replace.nothing"; ret (.str x t)) else
          (do let same ← isSame (.str y u) (.str z v)
              if same = true then (do rule "str.replace.old-is-new"; ret (.str x t)) else
              if Builtin.Str.tooLong (x.length + (Builtin.Str.occurrences x y 0 x.length 1).length * z.length) = true then unsupported "str.replace:memory" else
              retStr (Builtin.Str.glued z (Builtin.Str.partsBetween x (Builtin.Str.occurrences x y 0 x.length 1) y.length)))) _
  rw [hy, Bool.false_and, Bool.or_false]
  cases hc : (Builtin.Str.occurrences x y 0 x.length 1).isEmpty with
  | true => exact .rule (.of_eq rfl)
  | false =>
    have hl : Builtin.Str.tooLong (x.length + (Builtin.Str.occurrences x y 0 x.length 1).length * z.length) = false := by
      have h1 := StrLaws.occ_length_le x y 0 x.length 1
      have h2 : (Builtin.Str.occurrences x y 0 x.length 1).length * z.length ≤ 1 * z.length := Nat.mul_le_mul_right _ h1
      unfold Builtin.Str.tooLong sizeLine
      exact decide_eq_false (by omega)
    rw [isSame_str_other y z u v h0 huv hyz, hl]
    exact .of_eq rfl
/-- what it makes: the first blank twice, or nothing -/
def Twice (x y : Str) : Prop := cs y = cs x ∨ ∃ a b, cs x = a ++ 32 :: b ∧ cs y = a ++ 32 :: 32 :: b
theorem one_cut {x y z : Str} (hy : cs y = [32]) (hz : cs z = [32, 32]) (h : (Builtin.Str.occurrences x y 0 x.length 1).isEmpty = false) :
    Twice x (Builtin.Str.glued z (Builtin.Str.partsBetween x (Builtin.Str.occurrences x y 0 x.length 1) y.length)) := by
  have h1 := StrLaws.occ_length_le x y 0 x.length 1
  have h2 := StrLaws.occ_spec x y 0 x.length 1
  have hyl : y.length = 1 := by rw [len_cs, hy]; rfl
  obtain ⟨i, e⟩ : ∃ i, Builtin.Str.occurrences x y 0 x.length 1 = [i] := by
    cases ho : Builtin.Str.occurrences x y 0 x.length 1 with
    | nil => rw [ho] at h; cases h
    | cons i r =>
      rw [ho] at h1
      cases r with
      | nil => exact ⟨i, rfl⟩
      | cons _ _ => simp at h1
  rw [e] at h2 ⊢
  obtain ⟨h3, h4⟩ := h2 i (List.mem_singleton.mpr rfl)
  rw [hyl] at h3 ⊢
  have hx : i < (cs x).length := by rw [← len_cs]; omega
  have h5 : ((cs x).drop i).take 1 = [32] := by
    have : x.cps.extract i (i + y.length) = y.cps := eq_of_beq h4
    have := congrArg Array.toList this
    rw [hyl, Array.toList_extract] at this
    show ((cs x).drop i).take 1 = [32]
    rw [← hy]
    simpa [List.extract_eq_take_drop] using this
  right
  refine ⟨(cs x).take i, (cs x).drop (i + 1), ?_, ?_⟩
  · have := List.take_append_drop i (cs x)
    have h6 : (cs x).drop i = 32 :: (cs x).drop (i + 1) := by
      rw [← List.take_append_drop 1 ((cs x).drop i), h5, List.drop_drop]
      rfl
    rw [h6] at this
    exact this.symm
  · show ((((x.cps.extract 0 i) ++ z.cps) ++ (x.cps.extract (i + 1) x.length))).toList = _
    rw [Array.toList_append, Array.toList_append, show z.cps.toList = [32, 32] from hz, Array.toList_extract, Array.toList_extract]
    have e1 : x.cps.toList.extract 0 i = (cs x).take i := by simp [List.extract_eq_take_drop]
    have e2 : x.cps.toList.extract (i + 1) x.length = (cs x).drop (i + 1) := by
      rw [List.extract_eq_take_drop, List.take_of_length_le (by rw [List.length_drop, len_cs]; exact Nat.le_refl _)]
    rw [e1, e2]
    simp
section
variable {X : Cx}
/-- text.replace(y, z, 1) of written texts, behind a token -/
def tRepl1 (to : TE) : TE := fun σ H Q => to σ H fun v H1 => ∃ x : Str, v = .str x ∧ x.length ≤ 16000000 ∧ ∀ y, Twice x y → Q (.str y) H1
theorem pet_repl1 {o : Expr} {to : TE} {y z : Str} {j k l : Nat} {c0 c1 c2 apos pos : Pos} (ho : PE X o to) (hy : cs y = [32]) (hz : cs z = [32, 32])
    (hst : starEach [.Constant (.str y) j c0, .Constant (.str z) k c1, .Constant (.int 1) l c2] X.env = [(false, eval (.Constant (.str y) j c0) X.env), (false, eval (.Constant (.str z) k c1) X.env), (false, eval (.Constant (.int 1) l c2) X.env)] := by rfl)
    (hbase : attributeBase o "replace" X.env (eval o X.env) = eval o X.env := by rfl) (hline : (apos.endLine == pos.line) = true := by rfl) :
    PET X (.Call (.Attribute o "replace" apos) [.Constant (.str y) j c0, .Constant (.str z) k c1, .Constant (.int 1) l c2] [] pos) (tRepl1 to) := by
  intro pins s σ H Q h0 I h
  refine wpAny_Call_method_lateS hbase (by rw [hst]; rfl) hline ?_
  rw [hst]
  refine wpAny_mono (PySem.wpAny_toks (ho.run pins s σ H _ I h)) (fun v s1 q => ?_) fun _ _ z => z.2
  obtain ⟨hk, v2, H1, I1, r1, x, e1, hb, q⟩ := q
  subst e1
  obtain ⟨tx, e2⟩ := r1
  subst e2
  have hk : s.toks ≤ s1.toks := hk
  refine ⟨"str", _, PySem.F.plainAttrs_str, PySem.F.slot_str_replace, PySem.F.type_str_replace, typeIs_str _ _ _, (fun _ e => nomatch e),
    Calls.callWith_builtin rfl (Calls.evalArgs_plain (Calls.spliced_cons ?_))⟩
  refine Calls.Constant_str (k := j) (pos := c0) (Calls.spliced_cons (Calls.Constant_str (k := k) (pos := c1) (Calls.spliced_cons (wpAny_Constant_int (k := l) (pos := c2) (Calls.spliced_nil ?_)))))
  have hyz : (y == z) = false := by
    rw [beq_eq_false_iff_ne]
    intro e
    rw [e, hz] at hy
    cases hy
  have g := gives_replace1 x y z tx s1.toks (s1.toks + 1) (s1.toks + 1 + 1) (by
    rw [Bool.or_eq_false_iff, beq_eq_false_iff_ne, beq_eq_false_iff_ne]
    exact ⟨show (s1.toks : Nat) ≠ 0 by omega, show (s1.toks + 1 : Nat) ≠ 0 by omega⟩) (by rw [beq_eq_false_iff_ne]; exact show (s1.toks : Nat) ≠ s1.toks + 1 by omega) hyz (by rw [len_cs, hy]; rfl) (by rw [len_cs z, hz]; show _ + 2 ≤ _; omega)
  refine call_gives PySem.F.slot_str_replace (typeIs_str _ _ _) PySem.F.entry_str_replace (PySem.F.args_str_replace_4 _ _ _ _) g ?_
  cases hc : (Builtin.Str.occurrences x y 0 x.length 1).isEmpty with
  | true =>
    rw [if_pos rfl]
    exact ⟨.str x, H1, I1.tok _, ⟨_, rfl⟩, q x (.inl rfl)⟩
  | false =>
    rw [if_neg (by decide)]
    have tw := one_cut hy hz hc
    refine ⟨?_, ⟨.str _, H1, I1.tok _, ⟨_, rfl⟩, q _ tw⟩⟩
    have hl := line_big
    rw [len_cs]
    rcases tw with e | ⟨a, b, e1, e2⟩
    · rw [e, ← len_cs]; omega
    · rw [e2]
      have := congrArg List.length e1
      rw [← len_cs] at this
      simp only [List.length_append, List.length_cons] at this ⊢
      omega
/-- if a == n: .. ahead of what wants a token -/
theorem pss_ifT {a : Expr} {ta : TE} {i : Int} {j : Nat} {body rest : List Stmt} {tb u : TS} {pc pcm pif : Pos} (ha : PE X a ta) (hb : PSs X body tb) (hr : PSsT X rest u) (hbe : behindInMarks .Eq (.Constant (.int i) j pc) = false := by rfl) :
    PSs X (.If (.Compare a [.Eq] [.Constant (.int i) j pc] pcm) body [] pif :: rest) (tSeq (tIfS (tTest (tOp rEq ta (tC (.int i)))) tb tNext) u) := by
  refine ⟨fun pins s σ H D I h => ?_⟩
  have tst : wpAny (model X.prog X.w) X.A (isTrue (.Compare a [.Eq] [.Constant (.int i) j pc] pcm) X.env (eval (.Compare a [.Eq] [.Constant (.int i) j pc] pcm) X.env))
      (fun b s1 => 1 ≤ s1.toks ∧ TP X pins σ (fun b H1 => if b = true then tb { D with nx := u D } σ H1 else u D σ H1) b s1) X.xe s := by
    refine wpAny_isTrue_Compare1 (thn (ha.run pins s σ H _ I h) fun v s1 ⟨x, H1, I1, r1, q1⟩ => wpAny_Constant_int (k := j) (pos := pc) ?_) hbe
    have q2 : rEq x (.int i) H1 (fun z H3 => ∃ k, z = V.bl k ∧ (if k = true then tb { D with nx := u D } σ H3 else u D σ H3)) := q1
    refine wpAny_mono (PySem.wpAny_toks (op_eq pins { s1 with toks := s1.toks + 1 } σ H1 x (.int i) v (.int i s1.toks) _ (I1.tok _) r1 ⟨_, rfl⟩ q2)) (fun c s3 q => ?_) fun _ _ z => z.2
    obtain ⟨hk, z, H3, I3, r3, k, e, q3⟩ := q
    subst e
    cases r3
    have hk : s1.toks + 1 ≤ s3.toks := hk
    exact wpAny_truthy_bool ⟨by omega, H3, I3, q3⟩
  refine wpAny_execs_cons (wpAny_If (thn tst fun b s1 q => ?_))
  obtain ⟨h1, H1, I1, q⟩ := q
  cases b with
  | true =>
    refine wpAny_mono (PySem.wpAny_toks (hb.run pins s1 σ H1 { D with nx := u D } I1 q)) (fun f s2 q2 => ?_) fun _ _ z => z.2
    obtain ⟨hk, q2⟩ := q2
    cases f with
    | next =>
      obtain ⟨σ', H', I', q⟩ := q2
      exact hr pins s2 σ' H' D (Nat.le_trans h1 hk) I' q
    | ret v => exact q2
    | brk => exact q2
    | cont => exact q2
  | false =>
    refine wpAny_execs_nil ?_
    exact hr pins s1 σ H1 D h1 I1 q
end
end Mt
namespace Mt
open PySem PySem.Spec PyProof.Rows L2 PySem.NumText
/-- a def that may raise, as it stands -/
structure CalX (P : Program) (w : World) (K : PySem.W.Frag) (mg : Str → Option Value) (base : Heap) (x : Str) (n : Nat) (ps : List Str) (sp : Sp) (g : Addr) (gd : FuncData) : Prop where
  ok : FnOk P w K mg base (L2.CX P w) n g gd ps sp
  b : Binds K gd ps []
  k : PySem.W.keepIn K (.ref g) = true
  m : mg x = some (.ref g)
/-- the class BadText -/
structure Bad (K : PySem.W.Frag) (mg : Str → Option Value) (C : Addr) : Prop where
  g : mg "BadText" = some (.ref C)
  x : PySem.W.excIn K C [.type "ValueError", .type "Exception", .type "BaseException", .type "object"] "ValueError.__new__" = true
  k : PySem.W.keepIn K (.ref C) = true
  b : PySem.W.subIn K (.ref C) (.type "BaseException") = some true
  t : PySem.W.typeIn K (.ref C) = some (.type "type")
def digS : Str := Str.ofString "0123456789"
theorem digS_cs : cs digS = [48, 49, 50, 51, 52, 53, 54, 55, 56, 57] := by decide +kernel
theorem dig_index : ∀ d : Nat, d < 10 → Txt.index0 digS ⟨#[48 + d]⟩ = some d := by decide +kernel
theorem dig_mem {c : Nat} : c ∈ cs digS ↔ isD c = true := by
  rw [digS_cs, isD_iff]
  simp only [List.mem_cons, List.not_mem_nil, or_false]
  omega
theorem cs_size (x : Str) : x.cps.size = (cs x).length := by simp [cs]
theorem cs_get {x : Str} {i c : Nat} : x.cps[i]? = some c ↔ (cs x)[i]? = some c := by simp [cs]
theorem get_split {l : List Nat} {i c : Nat} (h : l[i]? = some c) : l.take (i + 1) = l.take i ++ [c] := take_snoc h
section
variable {P : Program} {w : World} {K : PySem.W.Frag} {mg : Str → Option Value} {base : Heap} {f g : Addr} {fd gd : FuncData} {g2 g3 : Addr} {gd2 gd3 : FuncData} {C : Addr}
/-! ### read_number -/
def spRn : Sp := fun vs H Q _ => ∃ x : Str, vs = [.str x] ∧ AllDigits (cs x) ∧ (cs x).length ≤ 2000000 ∧ Q (.int (digitsVal (cs x) : Nat)) H
theorem scRn : FnScope ["text", "value", "sign"] ["text"] (defScope sReadNum) := ⟨rfl, rfl, rfl, by decide +kernel, rfl, by decide +kernel, by decide +kernel⟩
theorem ok_rn (F : Fun K "read_number" "read_number" sReadNum f fd) (md : ∃ tk, mg "DIGITS" = some (.str digS tk)) : FnOk P w K mg base (L2.CX P w) 1 f fd ["text"] spRn := by
  obtain ⟨tk, md⟩ := md
  refine F.okX scRn (fun vs H Q E h => ?_) (fun cdv A outer s H vs Q E hr h => ?_)
  · obtain ⟨b, rfl, _⟩ := h
    rfl
  obtain ⟨x, rfl, hd, hl, q⟩ := h
  refine ⟨_, pss_cons (ps_set (i := 1) scRn.nd rfl (Or.inl rfl) pe_int)
    (pss_cons (ps_for (passes_of rfl) rfl (pi_str (pv 0)) (pg_name (i := 2) scRn.nd rfl (Or.inl rfl))
      (pss_one (ps_set (i := 1) scRn.nd rfl (Or.inl rfl) (pe_op op_add (pe_op op_mul (pv 1) pe_int)
        (pe_bmS PySem.F.plainAttrs_str PySem.F.slot_str_index PySem.F.type_str_index (mt_indexX rfl (takes_of rfl rfl rfl rfl)) (pe_glob (v := .str digS) rfl md ⟨_, rfl⟩) (pa_cons (pv 2) pa_nil))))))
    (pss_one (ps_ret (pv 1)))), ?_⟩
  refine ⟨_, rfl, x, rfl, ?_⟩
  refine for_it walk_str (fun i σ H' => H' = H ∧ ∃ a, σ = [some (.str x), some (.int (digitsVal ((cs x).take i) : Nat)), a]) ?_ (fun _ _ _ _ _ => trivial) (fun i v σ H1 H2 hi p y => ?_) (fun σ H' p => ?_)
  · exact ⟨rfl, none, rfl⟩
  · obtain ⟨rfl, a, rfl⟩ := p
    obtain ⟨rfl, c, hc, rfl⟩ := y
    have hc' := cs_get.mp hc
    have hcd := hd c (List.mem_of_getElem? hc')
    have ec : c = 48 + (c - 48) := by omega
    refine ⟨_, rfl, _, _, rfl, rfl, .inr ⟨by decide, by decide⟩, (show ("str" : String) = "str" from rfl), _, rfl, digS, ⟨#[c]⟩, rfl, rfl, fun k hk => ?_, fun hk => ?_⟩
    · rw [ec, dig_index (c - 48) (by omega)] at hk
      injection hk with hk
      subst hk
      refine ⟨_, _, rfl, rfl, rfl, some (.str ⟨#[c]⟩), ?_⟩
      have e : ((digitsVal ((cs x).take i) : Nat) : Int) * 10 + ((c - 48 : Nat) : Int) = ((digitsVal ((cs x).take (i + 1)) : Nat) : Int) := by
        rw [get_split hc', digitsVal_snoc]; omega
      exact congrArg (fun z => [some (V.str x), some (V.int z), some (V.str ⟨#[c]⟩)]) e
    · rw [ec, dig_index (c - 48) (by omega)] at hk
      cases hk
  · obtain ⟨rfl, a, rfl⟩ := p
    refine ⟨_, rfl, ?_⟩
    rw [cs_size, List.take_length]
    exact q

/-! ### read_plain -/
def spRp (C : Addr) : Sp := fun vs H Q E => ∃ x : Str, vs = [.str x] ∧ (cs x).length ≤ 2000000 ∧
  (∀ d, plainD (cs x) = some d → ∀ v H', Same H H' → Be H' v d → Q v H') ∧ (plainD (cs x) = none → ∀ H', Same H H' → E (.ref C) none H')
theorem scRp : FnScope ["text", "digits", "sign"] ["text"] (defScope sReadPlain) := ⟨rfl, rfl, rfl, by decide +kernel, rfl, by decide +kernel, by decide +kernel⟩
theorem cs_first (x : Str) : cs (cutS x none (some 1)) = (cs x).take 1 := by
  show (((cs x).drop (HT.sIx x.length 0 none)).take (HT.sIx x.length x.length (some ((1 : Nat) : Int)) - HT.sIx x.length 0 none)).toArray.toList = _
  rw [HT.sIx_nat, HT.sIx_none, List.toList_toArray, List.drop_zero, Nat.sub_zero, len_cs]
  by_cases h : (cs x).length ≤ 1
  · rw [show min 1 (cs x).length = (cs x).length by omega, List.take_length, List.take_of_length_le h]
  · rw [show min 1 (cs x).length = 1 by omega]
theorem minus_cs : cs (Str.ofString "-") = [45] := by decide +kernel
theorem str_eq {x y : Str} : (V.str x = V.str y) ↔ cs x = cs y := ⟨fun h => by injection h with h; rw [h], fun h => by rw [str_ext h]⟩
theorem neg_test (x : Str) : decide (V.str (cutS x none (some 1)) = V.str (Str.ofString "-")) = (unsign (cs x)).1 := by
  have e : (V.str (cutS x none (some 1)) = V.str (Str.ofString "-")) ↔ (unsign (cs x)).1 = true := by
    rw [str_eq, cs_first, minus_cs]
    cases h : cs x with
    | nil => simp [unsign]
    | cons c r =>
      by_cases hc : c = 45
      · subst hc; simp [unsign]
      · rw [unsign_cons hc]; simp [hc]
  cases hq : (unsign (cs x)).1 with
  | true => exact decide_eq_true (e.mpr hq)
  | false => exact decide_eq_false fun h => by rw [e.mp h] at hq; cases hq
theorem drop_one (x : Str) (h : (unsign (cs x)).1 = true) : (cs x).drop 1 = (unsign (cs x)).2 := by
  cases e : cs x with
  | nil => rw [e] at h; cases h
  | cons c r =>
    by_cases hc : c = 45
    · subst hc; rfl
    · rw [e, unsign_cons hc] at h; cases h
theorem unsign_false {l : List Nat} (h : (unsign l).1 = false) : (unsign l).2 = l := by
  cases l with
  | nil => rfl
  | cons c r =>
    by_cases hc : c = 45
    · subst hc; cases h
    · rw [unsign_cons hc]
theorem a_le (c : Nat) : (!decide ((⟨#[c]⟩ : Str).cps.toList < (Str.ofString "a").cps.toList)) = decide (97 ≤ c) := by
  have : (Str.ofString "a").cps.toList = [97] := by decide +kernel
  rw [this]
  show (!decide ([c] < [97])) = _
  by_cases h : 97 ≤ c
  · rw [decide_eq_true h, decide_eq_false (by intro q; simp [List.cons_lt_cons_iff] at q; omega)]; rfl
  · rw [decide_eq_false h, decide_eq_true (by simp [List.cons_lt_cons_iff]; omega)]; rfl
theorem le_z (c : Nat) : (!decide ((Str.ofString "z").cps.toList < (⟨#[c]⟩ : Str).cps.toList)) = decide (c ≤ 122) := by
  have : (Str.ofString "z").cps.toList = [122] := by decide +kernel
  rw [this]
  show (!decide ([122] < [c])) = _
  by_cases h : c ≤ 122
  · rw [decide_eq_true h, decide_eq_false (by intro q; simp [List.cons_lt_cons_iff] at q; omega)]; rfl
  · rw [decide_eq_false h, decide_eq_true (by simp [List.cons_lt_cons_iff]; omega)]; rfl
theorem bools_all (l : List Nat) (p : Nat → Bool) : (l.map p).all id = l.all p := by
  induction l with
  | nil => rfl
  | cons c r ih => rw [List.map_cons, List.all_cons, List.all_cons, ih]; rfl
/-- [p(sign) for sign in text] -/
theorem bools_of {te : TE} {σ : L2.St} {H : Hp} {i : Nat} {x : Str} {Q : VK} (p : Nat → Bool) (hl : (cs x).length ≤ 2000000) (j : Nat) (hv : σ[j]? = some (some (.str x)))
    (he : ∀ (c : Nat) (H1 : Hp) (R : VK), c ∈ cs x → R (.bl (p c)) H1 → te ((wipe σ [i]).set i (some (.str ⟨#[c]⟩))) H1 R) (hw : wipe ((wipe σ [i]).set i (some (.str (Str.ofString "")))) [i] = wipe σ [i])
    (q : ∀ D H', H D = none → Same H H' → H' D = some (.lst (((cs x).map p).map V.bl)) → Q (.ref D) H') : tLc (iStr (tVar j)) (gName i) tYes te [i] σ H Q := by
  have hline := line_big
  refine ⟨_, hv, x, rfl, fun D hD => ?_⟩
  refine lc_it walk_str (fun k H1 => Same H H1 ∧ H1 D = some (.lst ((((cs x).take k).map p).map V.bl))) ?_ (fun _ _ _ _ => trivial) (fun k v H1 H2 hk pp y => ?_) (fun H1 pp => ?_)
  · exact ⟨same_new hD _, upd_same⟩
  · obtain ⟨hs, hd⟩ := pp
    obtain ⟨rfl, c, hc, rfl⟩ := y
    have hc' := cs_get.mp hc
    refine ⟨?_, ?_⟩
    · show (((wipe σ [i]).set i (some (.str ⟨#[c]⟩))).set i none) = σ.set i none
      show ((σ.set i none).set i _).set i none = _
      rw [List.set_set, List.set_set]
    · refine he c H2 _ (List.mem_of_getElem? hc') ⟨_, hd, ?_, same_mut hs hD, ?_⟩
      · rw [List.length_map, List.length_map, List.length_take]
        omega
      · rw [upd_same, get_split hc']
        simp
  · obtain ⟨hs, hd⟩ := pp
    rw [cs_size, List.take_length] at hd
    exact q D H1 hD hs hd
abbrev rLenS : List V → Hp → VK → Prop := fun xs H Q => ∃ z : Str, xs = [V.str z] ∧ z.length ≤ sizeLine ∧ Q (.int z.length) H
abbrev rLeS : R2 := fun x y H Q => ∃ i j : Str, x = V.str i ∧ y = V.str j ∧ Q (.bl !decide (j.cps.toList < i.cps.toList)) H
abbrev rInS : R2 := fun x y H Q => ∃ (c : Nat) (z : Str), x = .str ⟨#[c]⟩ ∧ y = .str z ∧ Q (.bl (decide (c ∈ z.cps.toList))) H
theorem word_test {K : PySem.W.Frag} {x : Str} {H : Hp} {Qt : Bool → Hp → Prop} (hl : (cs x).length ≤ 2000000) (q : ∀ H1, Same H H1 → Qt (!(cs x).isEmpty && (cs x).all isL) H1) :
    (tAnd (tTest (tOp (rI0 fun i j => V.bl (decide (j < i))) (tCB rLenS (tCons (tVar 0) tNil)) (tC (V.int 0))))
      (tB (tCB (rAll K) (tCons (tLc (iStr (tVar 0)) (gName 2) tYes (tChain rLeS rLeS (tC (V.str (Str.ofString "a"))) (tVar 2) (tC (V.str (Str.ofString "z")))) [2]) tNil)))) [some (.str x), none, none] H Qt := by
  refine ⟨_, rfl, x, rfl, str_len (n := 2000000) hl (by decide), _, _, rfl, rfl, _, rfl, ?_⟩
  cases hc : cs x with
  | nil =>
    have e : decide ((0 : Int) < ((x.length : Nat) : Int)) = false := by rw [len_cs, hc]; rfl
    rw [e]
    have := q H (Same.refl H)
    rw [hc] at this
    exact iteF this
  | cons c r =>
    have e : decide ((0 : Int) < ((x.length : Nat) : Int)) = true := by rw [len_cs, hc]; exact decide_eq_true (by simp)
    rw [e]
    refine iteT ?_
    unfold tB tCB tCons
    refine bools_of (x := x) (σ := [some (.str x), none, none]) (i := 2) isL hl 0 rfl (fun c H1 R hm r => ?_) rfl (fun D H1 hD hs hd => ?_)
    · refine ⟨_, rfl, _, _, rfl, rfl, _, rfl, ?_⟩
      rw [a_le]
      refine ite2 (fun h => ?_) (fun h => ?_)
      · refine ⟨_, _, rfl, rfl, ?_⟩
        rw [le_z]
        have : decide (c ≤ 122) = isL c := by unfold isL; rw [h, Bool.true_and]
        rw [this]; exact r
      · have : isL c = false := by unfold isL; rw [Bool.eq_false_iff.mpr h, Bool.false_and]
        rw [this] at r; exact r
    · refine ⟨D, _, rfl, SqL.of hd, _, rfl, ?_⟩
      rw [bools_all]
      have := q H1 hs
      rw [hc] at this ⊢
      exact this
theorem digits_test {K : PySem.W.Frag} {x ds : Str} {H : Hp} {Qt : Bool → Hp → Prop} (hl : (cs ds).length ≤ 2000000) (q : ∀ H1, Same H H1 → Qt (!(!(cs ds).isEmpty && (cs ds).all isD)) H1) :
    (tOr (tTest (tOp rEq (tCB rLenS (tCons (tVar 1) tNil)) (tC (V.int 0))))
      (tNot (tB (tCB (rAll K) (tCons (tLc (iStr (tVar 1)) (gName 2) tYes (tOp rInS (tVar 2) (tC (V.str digS))) [2]) tNil))))) [some (.str x), some (.str ds), none] H Qt := by
  refine ⟨_, rfl, ds, rfl, str_len (n := 2000000) hl (by decide), rfl, _, rfl, ?_⟩
  cases hc : cs ds with
  | nil =>
    have e : decide (V.int ((ds.length : Nat) : Int) = V.int 0) = true := by rw [len_cs, hc]; rfl
    rw [e]
    have := q H (Same.refl H)
    rw [hc] at this
    exact iteT this
  | cons c r =>
    have e : decide (V.int ((ds.length : Nat) : Int) = V.int 0) = false := by
      rw [len_cs, hc]
      exact decide_eq_false (by intro h; injection h with h; simp at h; omega)
    rw [e]
    refine iteF ?_
    unfold tNot tB tCB tCons
    refine bools_of (x := ds) (σ := [some (.str x), some (.str ds), none]) (i := 2) isD hl 1 rfl (fun c H1 R hm r => ?_) rfl (fun D H1 hD hs hd => ?_)
    · refine ⟨_, rfl, c, digS, rfl, rfl, ?_⟩
      have : decide (c ∈ digS.cps.toList) = isD c := by
        cases hq : isD c with
        | true => exact decide_eq_true (dig_mem.mpr hq)
        | false => exact decide_eq_false fun h => by rw [dig_mem.mp h] at hq; cases hq
      rw [this]; exact r
    · refine ⟨D, _, rfl, SqL.of hd, _, rfl, ?_⟩
      rw [bools_all]
      have := q H1 hs
      rw [hc] at this ⊢
      exact this
theorem ok_rp (F : Fun K "read_plain" "read_plain" sReadPlain f fd) (B : Bad K mg C) (R : CalX P w K mg base "read_number" 1 ["text"] spRn g gd) (md : ∃ tk, mg "DIGITS" = some (.str digS tk)) (ml : mg "len" = none) (ma : mg "all" = none) :
    FnOk P w K mg base (L2.CX P w) 2 f fd ["text"] (spRp C) := by
  obtain ⟨tk, md⟩ := md
  refine F.okX scRp (fun vs H Q E h => ?_) (fun cdv A outer s H vs Q E hr h => ?_)
  · obtain ⟨b, rfl, _⟩ := h
    rfl
  obtain ⟨x, rfl, hl, q1, q2⟩ := h
  refine ⟨_, pss_cons (ps_if (PW.pt (pw_and (pt_cmpR op_gt (pe_callB call_len_str rfl ml PySem.boot_len (pa_cons (pv 0) pa_nil)) pe_int (nomark _)) (pw_and1 (pt_val (pe_callB (cr_all rfl) rfl ma boot_all (pa_cons
        (pe_lc (own := [("sign", 2)]) (g := gName 2) (tt := tYes) rfl scRp.nd (pi_str (pv 0)) (blkOk_by (N := ["text", "digits", "sign"]) (sc := defScope sReadPlain) (by decide +kernel))
          (fun _ _ _ _ _ => pg_name (i := 2) scRp.nd rfl (Or.inl rfl)) (fun _ _ _ _ _ => pts_nil) (fun _ _ _ _ _ => pe_chain op_le_str op_le_str pe_str (pv 2) pe_str)) pa_nil))))))
      (pss_one (ps_ret (pv 0))) pss_nil)
    (pss_cons (ps_set (i := 1) scRp.nd rfl (Or.inl rfl) (pe_ifExp (pt_cmpR op_eq (pe_slice sl_str (pv 0) po_none (po_some pe_int)) pe_str (nomark _)) (pe_slice sl_str (pv 0) (po_some pe_int) po_none) (pv 0)))
    (pss_cons (ps_if (PW.pt (pw_or (pt_cmpR op_eq (pe_callB call_len_str rfl ml PySem.boot_len (pa_cons (pv 1) pa_nil)) pe_int (nomark _)) (pw_or1 (pt_not (pt_val (pe_callB (cr_all rfl) rfl ma boot_all (pa_cons
        (pe_lc (own := [("sign", 2)]) (g := gName 2) (tt := tYes) rfl scRp.nd (pi_str (pv 1)) (blkOk_by (N := ["text", "digits", "sign"]) (sc := defScope sReadPlain) (by decide +kernel))
          (fun _ _ _ _ _ => pg_name (i := 2) scRp.nd rfl (Or.inl rfl)) (fun _ _ _ _ _ => pts_nil) (fun _ _ _ _ _ => pe_cmpR op_in_sign (pv 2) (pe_glob (v := .str digS) rfl md ⟨_, rfl⟩) rfl)) pa_nil)))))))
      (pss_one (ps_raise rfl (takes_of rfl rfl rfl rfl) (pmk_own PySem.F.excBase_ValueError B.x B.g B.k (raises_own B.b B.t) rfl))) pss_nil)
    (pss_cons (ps_if (PW.pt (pw_and (pt_cmpR op_eq (pe_ix ix_str (pv 1) pe_int (fun _ _ => rfl)) pe_str (nomark _)) (pw_and1 (pt_cmpR op_ne (pv 0) pe_str (nomark _)))))
      (pss_one (ps_raise rfl (takes_of rfl rfl rfl rfl) (pmk_own PySem.F.excBase_ValueError B.x B.g B.k (raises_own B.b B.t) rfl))) pss_nil)
    (pss_one (ps_ret (pe_ifExp (pt_cmpR op_eq (pe_slice sl_str (pv 0) po_none (po_some pe_int)) pe_str (nomark _))
      (pe_un un_neg (pe_call R.ok hr rfl R.m R.k R.b .nil (passes_call (takes_of rfl rfl rfl rfl) fun _ _ _ _ h => h) (pa_cons (pv 1) pa_nil)))
      (pe_call R.ok hr rfl R.m R.k R.b .nil (passes_call (takes_of rfl rfl rfl rfl) fun _ _ _ _ h => h) (pa_cons (pv 1) pa_nil)))))))), ?_⟩
  have hxl : x.length ≤ sizeLine := str_len (n := 2000000) hl (by decide)
  refine word_test hl fun H1 hs1 => ?_
  cases hw : (!(cs x).isEmpty && (cs x).all isL) with
  | true =>
    have hp : plainD (cs x) = some (.s (cs x)) := by unfold plainD; rw [if_pos hw]
    exact iteT ⟨_, rfl, q1 _ hp _ H1 hs1 (.s rfl)⟩
  | false =>
  refine iteF ?_
  -- the figures
  obtain ⟨neg, hneg⟩ : ∃ neg, (unsign (cs x)).1 = neg := ⟨_, rfl⟩
  obtain ⟨fs, hfs⟩ : ∃ fs, (unsign (cs x)).2 = fs := ⟨_, rfl⟩
  have hue := unsign_eq (cs x)
  rw [hneg, hfs] at hue
  have hpl : plainD (cs x) = if !fs.isEmpty && fs.all isD then figs neg fs else none := by
    unfold plainD
    rw [hw, if_neg (by decide), hneg, hfs]
  have hfl : fs.length ≤ 2000000 := by
    have : fs.length ≤ (cs x).length := by rw [hue]; cases neg <;> simp
    omega
  have digs : ∀ Qx : VK, (∀ ds : Str, cs ds = fs → Qx (.str ds) H1) →
      (tIf (tTest (tOp rEq (tSl rSlS (tVar 0) tNoPart (tPart (tC (.int 1)))) (tC (.str (Str.ofString "-"))))) (tSl rSlS (tVar 0) (tPart (tC (.int 1))) tNoPart) (tVar 0)) [some (.str x), none, none] H1 Qx := by
    intro Qx qx
    refine ⟨_, rfl, _, rfl, x, rfl, hxl, rfl, _, rfl, ?_⟩
    rw [neg_test, hneg]
    cases neg with
    | true => exact iteT ⟨_, rfl, _, rfl, x, rfl, hxl, qx _ (by rw [cs_cut1, drop_one x hneg, hfs])⟩
    | false => exact iteF ⟨_, rfl, qx x (by rw [← hfs, unsign_false hneg])⟩
  refine digs _ fun ds hds => ?_
  refine digits_test (x := x) (ds := ds) (by rw [hds]; exact hfl) fun H2 hs2 => ?_
  rw [hds]
  cases hd : (!fs.isEmpty && fs.all isD) with
  | false =>
    rw [hd, if_neg (by decide)] at hpl
    exact iteT (q2 hpl _ (hs1.trans hs2))
  | true =>
  refine iteF ?_
  rw [hd, if_pos rfl] at hpl
  rw [Bool.and_eq_true] at hd
  obtain ⟨c, r, rfl⟩ : ∃ c r, fs = c :: r := by
    cases fs with
    | nil => cases hd.1
    | cons c r => exact ⟨c, r, rfl⟩
  have hdl : ds.length ≤ sizeLine := str_len (n := 2000000) (by rw [hds]; exact hfl) (by decide)
  have hs12 := hs1.trans hs2
  have e0 : decide (V.str ⟨#[c]⟩ = V.str (Str.ofString "0")) = decide (c = 48) := by
    have : (V.str ⟨#[c]⟩ = V.str (Str.ofString "0")) ↔ c = 48 := by
      rw [str_eq, cs_lit0]
      show [c] = [48] ↔ c = 48
      simp
    simp only [this]
  have ex : decide (V.str x = V.str (Str.ofString "0")) = decide (cs x = [48]) := by
    have : (V.str x = V.str (Str.ofString "0")) ↔ cs x = [48] := by rw [str_eq, cs_lit0]
    simp only [this]
  have last : (c = 48 ∧ (c :: r ≠ [48] ∨ neg = true)) → plainD (cs x) = none := fun h => by
    rw [hpl]
    unfold figs
    rw [if_neg (by simp), if_pos ⟨by rw [h.1]; rfl, h.2⟩]
  have fin : ¬ (c = 48 ∧ (c :: r ≠ [48] ∨ neg = true)) → plainD (cs x) = some (.i (if neg then -((digitsVal (c :: r) : Nat) : Int) else ((digitsVal (c :: r) : Nat) : Int))) := fun h => by
    rw [hpl]
    unfold figs
    rw [if_neg (by simp), if_neg (fun z => h ⟨Option.some.inj z.1, z.2⟩)]
  have hz : cs x = [48] ↔ (neg = false ∧ c :: r = [48]) := by
    cases neg with
    | true =>
      rw [hue]
      constructor
      · intro h; cases h
      · intro h; cases h.1
    | false =>
      rw [hue]
      exact ⟨fun h => ⟨rfl, h⟩, fun h => h.2⟩
  have ret : plainD (cs x) = some (.i (if neg then -((digitsVal (c :: r) : Nat) : Int) else ((digitsVal (c :: r) : Nat) : Int))) →
      (tRet (tIf (tTest (tOp rEq (tSl rSlS (tVar 0) tNoPart (tPart (tC (V.int 1)))) (tC (V.str (Str.ofString "-"))))) (tUn (rU fun i => V.int (-i)) (tCall spRn [] E (tCons (tVar 1) tNil))) (tCall spRn [] E (tCons (tVar 1) tNil))))
        { nx := fun x H' => Q V.non H', rt := Q } [some (.str x), some (.str ds), none] H2 := by
    intro hp
    refine ⟨_, rfl, _, rfl, x, rfl, hxl, rfl, _, rfl, ?_⟩
    rw [neg_test, hneg]
    have hal : AllDigits (cs ds) := by rw [hds]; exact allD_iff.mp hd.2
    cases neg with
    | true =>
      refine iteT ⟨_, rfl, ds, rfl, hal, by rw [hds]; exact hfl, _, rfl, ?_⟩
      rw [hds]
      exact q1 _ hp _ H2 hs12 .i
    | false =>
      refine iteF ⟨_, rfl, ds, rfl, hal, by rw [hds]; exact hfl, ?_⟩
      rw [hds]
      exact q1 _ hp _ H2 hs12 .i
  refine ⟨_, rfl, ds, 0, c, rfl, rfl, hdl, by show atI (cs ds) 0 = some c; rw [hds]; exact atI_nat (j := 0) rfl, rfl, _, rfl, ?_⟩
  rw [e0]
  by_cases h48 : c = 48
  · rw [decide_eq_true h48]
    refine iteT ⟨_, rfl, rfl, _, rfl, ?_⟩
    rw [ex]
    by_cases hx : cs x = [48]
    · rw [decide_eq_true hx]
      obtain ⟨h1, h2⟩ := hz.mp hx
      exact iteF (ret (fin fun h => by
        rcases h.2 with h3 | h3
        · exact h3 h2
        · rw [h1] at h3; cases h3))
    · rw [decide_eq_false hx]
      refine iteT (q2 (last ⟨h48, ?_⟩) _ hs12)
      by_cases h2 : c :: r = [48]
      · right
        cases neg with
        | true => rfl
        | false => exact absurd (hz.mpr ⟨rfl, h2⟩) hx
      · exact .inl h2
  · rw [decide_eq_false h48]
    exact iteF (iteF (ret (fin fun h => h48 h.1)))
end
end Mt
namespace Mt
open PySem PySem.Spec PyProof.Rows L2 PySem.NumText
def delS : Str := Str.ofString "() "
theorem del_mem (c : Nat) : (!decide (c ∈ (Str.ofString "() ").cps.toList)) = !dl c := by
  have e : (Str.ofString "() ").cps.toList = [40, 41, 32] := by decide +kernel
  rw [e]
  congr 1
  unfold dl
  cases h : (c == 40 || c == 41 || c == 32) with
  | true =>
    refine decide_eq_true ?_
    rw [Bool.or_eq_true, Bool.or_eq_true, beq_iff_eq, beq_iff_eq, beq_iff_eq] at h
    simp only [List.mem_cons, List.not_mem_nil, or_false]
    omega
  | false =>
    refine decide_eq_false ?_
    rw [Bool.or_eq_false_iff, Bool.or_eq_false_iff, beq_eq_false_iff_ne, beq_eq_false_iff_ne, beq_eq_false_iff_ne] at h
    simp only [List.mem_cons, List.not_mem_nil, or_false]
    omega
theorem at_sign {x : Str} {a : Nat} (h : a < (cs x).length) : ∃ c, (cs x)[a]? = some c ∧ atI x.cps.toList ((a : Nat) : Int) = some c ∧ (cs x).drop a = c :: (cs x).drop (a + 1) := by
  refine ⟨(cs x)[a], List.getElem?_eq_getElem h, atI_nat (List.getElem?_eq_getElem h), List.drop_eq_getElem_cons h⟩
theorem stop_at {l : List Nat} {e : Nat} (h : ∀ c, l[e]? = some c → dl c = true) : Stop (l.drop e) := by
  by_cases he : e < l.length
  · exact .inr ⟨l[e], l.drop (e + 1), List.drop_eq_getElem_cons he, h _ (List.getElem?_eq_getElem he)⟩
  · exact .inl (List.drop_eq_nil_of_le (by omega))
section
variable {P : Program} {w : World} {K : PySem.W.Frag} {mg : Str → Option Value} {base : Heap} {f g : Addr} {fd gd : FuncData} {g2 g3 : Addr} {gd2 gd3 : FuncData} {C : Addr}
def spSplit : Sp := fun vs H Q _ => ∃ x : Str, vs = [.str x] ∧ (cs x).length ≤ 2000000 ∧ ∀ (p : Addr) (H' : Hp) (ys : List Str), Same H H' → H' p = some (.lst (ys.map V.str)) → ys.map cs = sp (cs x) → Q (.ref p) H'
theorem scSplit : FnScope ["text", "parts", "at", "end"] ["text"] (defScope sSplit) := ⟨rfl, rfl, rfl, by decide +kernel, rfl, by decide +kernel, by decide +kernel⟩
theorem ok_split (F : Fun K "split_text" "split_text" sSplit f fd) (ml : mg "len" = none) : FnOk P w K mg base CX0 1 f fd ["text"] spSplit := by
  refine F.ok scSplit (fun vs H Q E h => ?_) (fun cdv A outer s H vs Q E hr h => ?_)
  · obtain ⟨b, rfl, _⟩ := h
    rfl
  obtain ⟨x, rfl, hl, q⟩ := h
  refine ⟨_, pss_cons (ps_set (i := 1) scSplit.nd rfl (Or.inl rfl) (pe_lst pa_nil))
    (pss_cons (ps_set (i := 2) scSplit.nd rfl (Or.inl rfl) pe_int)
    (pss_cons (ps_while PassesOwn.never (pt_cmpR op_lt (pv 2) (pe_callB call_len_str rfl ml PySem.boot_len (pa_cons (pv 0) pa_nil)) (nomark _))
      (pss_cons (ps_set (i := 3) scSplit.nd rfl (Or.inl rfl) (pe_op op_add (pv 2) pe_int))
      (pss_cons (ps_if (pt_cmpR op_notIn_sign (pe_ix ix_str (pv 0) (pv 2) (fun _ _ => rfl)) pe_str rfl)
        (pss_one (ps_while PassesOwn.never (PW.pt (pw_and (pt_cmpR op_lt (pv 3) (pe_callB call_len_str rfl ml PySem.boot_len (pa_cons (pv 0) pa_nil)) (nomark _)) (pw_and1 (pt_cmpR op_notIn_sign (pe_ix ix_str (pv 0) (pv 3) (fun _ _ => rfl)) pe_str rfl))))
          (pss_one (ps_set (i := 3) scSplit.nd rfl (Or.inl rfl) (pe_op op_add (pv 3) pe_int))))) pss_nil)
      (pss_cons (ps_expr (pe_bm PySem.F.plainAttrs_list PySem.F.slot_list_append PySem.F.type_list_append mt_append (pv 1) (pa_cons (pe_slice sl_str (pv 0) (po_some (pv 2)) (po_some (pv 3))) pa_nil)))
      (pss_one (ps_set (i := 2) scSplit.nd rfl (Or.inl rfl) (pv 3)))))))
    (pss_one (ps_ret (pv 1))))), ?_⟩
  have hline := line_big
  have hxl : x.length ≤ sizeLine := str_len (n := 2000000) hl (by decide)
  obtain ⟨n, hn⟩ : ∃ n, (cs x).length = n := ⟨_, rfl⟩
  have hxn : x.length = n := by rw [len_cs, hn]
  refine ⟨(by show 0 ≤ sizeLine; omega), fun p hp => ?_⟩
  refine while_by (fun σ H1 => ∃ (a : Nat) (e : Option V) (ys : List Str), σ = [some (.str x), some (.ref p), some (.int a), e] ∧ a ≤ n ∧ ys.length ≤ a ∧ H1 p = some (.lst (ys.map V.str)) ∧ Same H H1 ∧ sp (cs x) = ys.map cs ++ sp ((cs x).drop a))
    (fun σ _ => match σ with | [_, _, some (V.int a), _] => n - a.toNat | _ => 0) ?_ (fun σ H1 pp => ?_) (fun σ H1 Q1 Q2 m r => ?_)
  · exact ⟨0, none, [], rfl, Nat.zero_le _, Nat.zero_le _, upd_same, same_new hp _, rfl⟩
  · obtain ⟨a, e, ys, rfl, ha, hya, hys, hs, hsp⟩ := pp
    refine ⟨_, rfl, _, rfl, x, rfl, hxl, _, _, rfl, rfl, _, rfl, ?_⟩
    rw [hxn]
    refine ite2 (fun c => ?_) (fun c => ?_)
    · have c' : a < n := by have := of_decide_eq_true c; omega
      obtain ⟨ch, hc1, hc2, hc3⟩ := at_sign (x := x) (a := a) (by omega)
      -- behind the inner while
      have fin : ∀ (e : Nat), a < e → e ≤ n → (∀ i c, a ≤ i → i < e → i ≠ a → (cs x)[i]? = some c → dl c = false) → (e = a + 1 ∨ dl ch = false) → (dl ch = false → ∀ c, (cs x)[e]? = some c → dl c = true) → ∀ D : Ends,
          (∀ ys', D.nx [some (.str x), some (.ref p), some (.int e), some (.int e)] (upd H1 p (.lst (ys'.map V.str))) ∨ ys' ≠ ys ++ [cutS x (some a) (some e)]) →
          (tSeq (tDrop (tBM K "list" rAppend (tVar 1) (tCons (tSl rSlS (tVar 0) (tPart (tVar 2)) (tPart (tVar 3))) tNil))) (tAsg (tVar 3) (gName 2))) D [some (.str x), some (.ref p), some (.int a), some (.int e)] H1 := by
        intro e h1 h2 _ _ _ D q
        refine ⟨_, rfl, .inl ⟨rfl, _, SqL.of hys⟩, _, rfl, _, rfl, _, rfl, _, rfl, _, rfl, x, rfl, hxl, p, _, _, rfl, rfl, hys, by rw [List.length_map]; omega, _, rfl, ?_⟩
        rcases q (ys ++ [cutS x (some a) (some e)]) with q | q
        · rw [List.map_append] at q
          exact q
        · exact absurd rfl q
      have done : ∀ e : Nat, a < e → e ≤ n → sp ((cs x).drop a) = ((cs x).drop a).take (e - a) :: sp ((cs x).drop e) →
          ∃ (a' : Nat) (e' : Option V) (ys' : List Str), ([some (.str x), some (.ref p), some (.int e), some (.int e)] : L2.St) = [some (.str x), some (.ref p), some (.int a'), e'] ∧ a' ≤ n ∧ ys'.length ≤ a' ∧
            (upd H1 p (.lst ((ys ++ [cutS x (some a) (some e)]).map V.str))) p = some (.lst (ys'.map V.str)) ∧ Same H (upd H1 p (.lst ((ys ++ [cutS x (some a) (some e)]).map V.str))) ∧ sp (cs x) = ys'.map cs ++ sp ((cs x).drop a') := by
        intro e h1 h2 h3
        refine ⟨e, _, ys ++ [cutS x (some a) (some e)], rfl, h2, by rw [List.length_append, List.length_singleton]; omega, upd_same, same_mut hs hp, ?_⟩
        rw [hsp, h3, List.map_append]
        show _ = _ ++ [cs (cutS x (some (a : Int)) (some (e : Int)))] ++ _
        rw [cs_cut x a e (by omega)]
        simp
      refine ⟨_, rfl, _, _, rfl, rfl, ?_⟩
      refine ⟨_, rfl, _, rfl, x, _, ch, rfl, rfl, hxl, hc2, ch, _, rfl, rfl, _, rfl, ?_⟩
      rw [del_mem]
      cases hdl : dl ch with
      | true =>
        refine iteF ?_
        refine fin (a + 1) (by omega) (by omega) (fun i c h1 h2 h3 _ => by omega) (.inl rfl) (fun h => by rw [hdl] at h; cases h) _ fun ys' => ?_
        by_cases hy : ys' = ys ++ [cutS x (some a) (some ((a + 1 : Nat) : Int))]
        · subst hy
          left
          refine ⟨done (a + 1) (by omega) (by omega) ?_, ?_⟩
          · rw [hc3, sp_dl hdl]
            show _ = (ch :: (cs x).drop (a + 1)).take (a + 1 - a) :: _
            rw [show a + 1 - a = 1 by omega]; rfl
          · show n - (((a + 1 : Nat) : Int)).toNat < n - ((a : Nat) : Int).toNat
            omega
        · exact .inr hy
      | false =>
        refine iteT ?_
        refine while_by (fun σ H2 => ∃ e : Nat, σ = [some (.str x), some (.ref p), some (.int a), some (.int e)] ∧ H2 = H1 ∧ a < e ∧ e ≤ n ∧ ∀ i c, a ≤ i → i < e → (cs x)[i]? = some c → dl c = false)
          (fun σ _ => match σ with | [_, _, _, some (V.int e)] => n - e.toNat | _ => 0) ?_ (fun σ H2 pp => ?_) (fun σ H2 Q1 Q2 m r => ?_)
        · refine ⟨a + 1, rfl, rfl, by omega, by omega, fun i c h1 h2 h3 => ?_⟩
          have : i = a := by omega
          subst this
          rw [hc1] at h3
          injection h3 with h3
          rw [← h3]; exact hdl
        · obtain ⟨e, rfl, rfl, he1, he2, hall⟩ := pp
          refine ⟨_, rfl, _, rfl, x, rfl, hxl, _, _, rfl, rfl, _, rfl, ?_⟩
          rw [hxn]
          have out : (∀ c, (cs x)[e]? = some c → dl c = true) → sp ((cs x).drop a) = ((cs x).drop a).take (e - a) :: sp ((cs x).drop e) := fun hst => by
            have e1 : (cs x).drop a = ((cs x).drop a).take (e - a) ++ (cs x).drop e := by
              have := List.take_append_drop (e - a) ((cs x).drop a)
              rw [List.drop_drop, show a + (e - a) = e by omega] at this
              exact this.symm
            rw [e1]
            rw [sp_part]
            · rw [← e1]
            · rw [hc3, show e - a = (e - a - 1) + 1 by omega]; simp
            · intro c hc
              obtain ⟨i, hi⟩ := List.getElem?_of_mem hc
              have hil : i < e - a := by
                have := (List.getElem?_eq_some_iff.mp hi).1
                rw [List.length_take] at this
                omega
              rw [List.getElem?_take_of_lt hil, List.getElem?_drop] at hi
              exact hall (a + i) c (by omega) (by omega) hi
            · exact stop_at hst
          have leave : (∀ c, (cs x)[e]? = some c → dl c = true) → _ := fun hst => fin e he1 he2 (fun i c h1 h2 _ h3 => hall i c h1 h2 h3) (.inr hdl) (fun _ => hst)
          refine ite2 (fun c => ?_) (fun c => ?_)
          · have c2 : e < n := by have := of_decide_eq_true c; omega
            obtain ⟨ch2, hd1, hd2, hd3⟩ := at_sign (x := x) (a := e) (by omega)
            refine ⟨_, rfl, _, rfl, x, _, ch2, rfl, rfl, hxl, hd2, ch2, _, rfl, rfl, _, rfl, ?_⟩
            rw [del_mem]
            cases hd : dl ch2 with
            | false =>
              refine iteT ⟨_, rfl, _, _, rfl, rfl, ⟨e + 1, rfl, rfl, by omega, by omega, fun i c h1 h2 h3 => ?_⟩, ?_⟩
              · by_cases hi : i < e
                · exact hall i c h1 hi h3
                · have : i = e := by omega
                  subst this
                  rw [hd1] at h3
                  injection h3 with h3
                  rw [← h3]; exact hd
              · show n - (((e : Nat) : Int) + 1).toNat < n - ((e : Nat) : Int).toNat
                omega
            | true =>
              refine iteF ?_
              have hst : ∀ c, (cs x)[e]? = some c → dl c = true := fun c h => by rw [hd1] at h; injection h with h; rw [← h]; exact hd
              refine leave hst _ fun ys' => ?_
              by_cases hy : ys' = ys ++ [cutS x (some a) (some e)]
              · subst hy
                exact .inl ⟨done e he1 he2 (out hst), by show n - ((e : Nat) : Int).toNat < n - ((a : Nat) : Int).toNat; omega⟩
              · exact .inr hy
          · have c2 : e = n := by have := of_decide_eq_false (Bool.eq_false_iff.mpr c); omega
            have hst : ∀ c, (cs x)[e]? = some c → dl c = true := fun c h => by
              have := (List.getElem?_eq_some_iff.mp h).1
              omega
            refine iteF (leave hst _ fun ys' => ?_)
            by_cases hy : ys' = ys ++ [cutS x (some a) (some e)]
            · subst hy
              exact .inl ⟨done e he1 he2 (out hst), by show n - ((e : Nat) : Int).toNat < n - ((a : Nat) : Int).toNat; omega⟩
            · exact .inr hy
        · obtain ⟨z, e, z2, e2, y, e3, e4, i, j, e5, e6, k, e7, r⟩ := r
          refine ⟨z, e, z2, e2, y, e3, e4, i, j, e5, e6, k, e7, ?_⟩
          cases k with
          | false => exact m _ _ r
          | true =>
            obtain ⟨z3, f1, z4, f2, y3, i3, c3, f3, f4, f5, f6, c4, s4, f7, f8, k4, f9, r⟩ := r
            exact ⟨z3, f1, z4, f2, y3, i3, c3, f3, f4, f5, f6, c4, s4, f7, f8, k4, f9, m _ _ r⟩
    · have c' : a = n := by have := of_decide_eq_false (Bool.eq_false_iff.mpr c); omega
      refine ⟨_, rfl, q p H1 ys hs hys ?_⟩
      rw [hsp, List.drop_eq_nil_of_le (by omega), show sp [] = [] from rfl, List.append_nil]
  · obtain ⟨z, e, z2, e2, y, e3, e4, i, j, e5, e6, k, e7, r⟩ := r
    exact ⟨z, e, z2, e2, y, e3, e4, i, j, e5, e6, k, e7, m _ _ r⟩
end
end Mt
namespace Mt
open PySem PySem.Spec PyProof.Rows L2 PySem.NumText
/-! ### the rows of the stack, the undermost first, in the heap -/
def Rw (H : Hp) (v : V) (s : List D × Bool) : Prop := ∃ (p r : Addr) (vs : List V), v = .ref p ∧ H p = some (.tup [.ref r, .bl s.2]) ∧ H r = some (.tup vs) ∧ BeL H vs s.1
inductive Rws (H : Hp) : List V → Stk → Prop
  | nil : Rws H [] []
  | snoc {us : List V} {v : V} {st : Stk} {r : List D × Bool} (h : Rw H v r) (t : Rws H us st) : Rws H (us ++ [v]) (r :: st)
theorem Rw.mono {H H' : Hp} (e : ∀ a xs, H a = some (.tup xs) → H' a = some (.tup xs)) {v : V} {s : List D × Bool} (h : Rw H v s) : Rw H' v s := by
  obtain ⟨p, r, vs, h1, h2, h3, h4⟩ := h
  exact ⟨p, r, vs, h1, e _ _ h2, e _ _ h3, h4.mono e⟩
theorem Rws.mono {H H' : Hp} (e : ∀ a xs, H a = some (.tup xs) → H' a = some (.tup xs)) {us : List V} {st : Stk} (h : Rws H us st) : Rws H' us st := by
  induction h with
  | nil => exact .nil
  | snoc h _ ih => exact .snoc (h.mono e) ih
theorem Rws.len {H : Hp} {us : List V} {st : Stk} (h : Rws H us st) : us.length = st.length := by
  induction h with
  | nil => rfl
  | snoc _ _ ih => rw [List.length_append, List.length_cons, ih]; rfl
theorem Rws.top {H : Hp} {us : List V} {st : Stk} {r : List D × Bool} (h : Rws H us (r :: st)) : ∃ us' v, us = us' ++ [v] ∧ Rw H v r ∧ Rws H us' st := by
  cases h with
  | snoc h t => exact ⟨_, _, rfl, h, t⟩
theorem keep_mut {H : Hp} {l : Addr} {us ws : List V} (h : H l = some (.lst us)) : ∀ a xs, H a = some (.tup xs) → (upd H l (.lst ws)) a = some (.tup xs) := fun a xs e => by
  rw [upd_ne (fun z => by rw [z, h] at e; cases e)]; exact e
theorem at_last {us : List V} {v : V} : atI (us ++ [v]) (((us ++ [v]).length : Nat) - 1 : Int) = some v := by
  rw [List.length_append, List.length_singleton]
  have : (((us.length + 1 : Nat) : Int) - 1) = ((us.length : Nat) : Int) := by omega
  rw [this]
  exact atI_nat (by rw [List.getElem?_concat_length])
theorem ix_last {us : List V} {v : V} : ixN (us ++ [v]).length (((us ++ [v]).length : Nat) - 1 : Int) = some us.length := by
  rw [List.length_append, List.length_singleton]
  have : (((us.length + 1 : Nat) : Int) - 1) = ((us.length : Nat) : Int) := by omega
  rw [this]
  unfold ixN
  rw [if_pos (by omega), if_pos (by omega)]
  congr 1
theorem set_last {us : List V} {v x : V} : (us ++ [v]).set us.length x = us ++ [x] := by
  rw [List.set_append_right _ _ (Nat.le_refl _), Nat.sub_self]; rfl
/-- all but the list at l stays -/
def Kp (l : Addr) (H H' : Hp) : Prop := ∀ a o, a ≠ l → H a = some o → H' a = some o
theorem Kp.same {l : Addr} {H0 H H' : Hp} (k : Kp l H H') (e : Same H0 H) (h : H0 l = none) : Same H0 H' := fun a o q => k a o (fun z => by rw [z, h] at q; cases q) (e a o q)
theorem Kp.tup {l : Addr} {H H' : Hp} {us : List V} (k : Kp l H H') (h : H l = some (.lst us)) : ∀ a xs, H a = some (.tup xs) → H' a = some (.tup xs) := fun a xs e => k a _ (fun z => by rw [z, h] at e; cases e) e
section
variable {P : Program} {w : World} {K : PySem.W.Frag} {mg : Str → Option Value} {base : Heap} {f g : Addr} {fd gd : FuncData} {g2 g3 : Addr} {gd2 gd3 : FuncData} {C : Addr}
def spPut (C : Addr) : Sp := fun vs H Q E => ∃ (l : Addr) (u : V) (d : D) (us : List V) (st : Stk), vs = [.ref l, u] ∧ H l = some (.lst us) ∧ Rws H us st ∧ st ≠ [] ∧ Be H u d ∧ us.length ≤ 4000000 ∧ (∀ r ∈ st, r.1.length ≤ 4000000) ∧
  (putS st d = none → E (.ref C) none H) ∧ ∀ st' us' H', putS st d = some st' → Kp l H H' → H' l = some (.lst us') → us'.length = us.length → Rws H' us' st' → Q .non H'
theorem scPut : FnScope ["rows", "value", "row", "wants"] ["rows", "value"] (defScope sPut) := ⟨rfl, rfl, rfl, by decide +kernel, rfl, by decide +kernel, by decide +kernel⟩
theorem ok_put (F : Fun K "put" "put" sPut f fd) (B : Bad K mg C) (ml : mg "len" = none) : FnOk P w K mg base (L2.CX P w) 1 f fd ["rows", "value"] (spPut C) := by
  refine F.okX scPut (fun vs H Q E h => ?_) (fun cdv A outer s H vs Q E hr h => ?_)
  · obtain ⟨l, u, d, us, st, rfl, _⟩ := h
    rfl
  obtain ⟨l, u, d, us, st, rfl, hl, hst, hne, hu, hus, hrow, q1, q2⟩ := h
  refine ⟨_, pss_cons (ps_asg (pe_ix ix_list (pv 0) (pe_op op_sub (pe_callB call_len_seq rfl ml PySem.boot_len (pa_cons (pv 0) pa_nil)) pe_int) (fun _ _ => rfl)) (pg_tup rfl (pgs_cons (pg_name (i := 2) scPut.nd rfl (Or.inl rfl)) (pgs_cons (pg_name (i := 3) scPut.nd rfl (Or.inl rfl)) pgs_nil))))
    (pss_cons (ps_if (pt_not (pt_val (pv 3))) (pss_one (ps_raise rfl (takes_of rfl rfl rfl rfl) (pmk_own PySem.F.excBase_ValueError B.x B.g B.k (raises_own B.b B.t) rfl))) pss_nil)
    (pss_one (ps_asg (pe_tup (pa_cons (pe_op op_catA (pv 2) (pe_tup (pa_cons (pv 1) pa_nil))) (pa_cons pe_bl pa_nil))) (pg_sub (pv 0) (pe_op op_sub (pe_callB call_len_seq rfl ml PySem.boot_len (pa_cons (pv 0) pa_nil)) pe_int) set_list)))), ?_⟩
  have hline := line_big
  obtain ⟨⟨row, wants⟩, R, rfl⟩ : ∃ r R, st = r :: R := by
    cases st with
    | nil => exact absurd rfl hne
    | cons r R => exact ⟨r, R, rfl⟩
  obtain ⟨us', v, rfl, hv, hR⟩ := hst.top
  obtain ⟨p, r, vs, rfl, hp, hr', hb⟩ := hv
  have hrl : row.length ≤ 4000000 := hrow _ (List.mem_cons_self ..)
  refine ⟨_, rfl, _, rfl, l, _, rfl, .inl (SqL.of hl), _, _, rfl, rfl, l, _, _, _, rfl, rfl, SqL.of hl, at_last, ?_⟩
  refine ⟨p, _, rfl, SqT.of hp, rfl, _, _, rfl, _, _, rfl, rfl, ?_⟩
  refine ⟨_, rfl, _, rfl, ?_⟩
  cases wants with
  | false => exact iteT (q1 rfl)
  | true =>
    refine iteF ?_
    refine ⟨_, rfl, _, rfl, (by show 1 ≤ sizeLine; omega), fun t ht => ?_⟩
    have ht1 : (upd H t (.tup [u])) r = some (.tup vs) := same_new ht _ _ _ hr'
    have hbl := hb.len
    -- the new row
    have fin : ∀ (c : Addr) (H2 : Hp), Kp l H H2 → H2 l = some (.lst (us' ++ [.ref p])) → H2 c = some (.tup (vs ++ [u])) →
        (2 ≤ sizeLine ∧ ∀ z, H2 z = none → (gSub (tVar 0) (tOp (rI0 fun i j => .int (i - j)) (tCB (fun xs H Q => ∃ p ys, xs = [V.ref p] ∧ (SqL K H p ys ∨ SqT K H p ys) ∧ Q (.int ys.length) H) (tCons (tVar 0) tNil)) (tC (.int 1))) rSetL) (.ref z) [some (.ref l), some u, some (.ref r), some (.bl true)] (upd H2 z (.tup [.ref c, .bl false])) (fun _ H' => Q .non H')) := by
      intro c H2 k hl2 hc2
      refine ⟨by omega, fun z hz => ?_⟩
      have zl : z ≠ l := fun e => by rw [e, hl2] at hz; cases hz
      have hl3 : (upd H2 z (.tup [.ref c, .bl false])) l = some (.lst (us' ++ [.ref p])) := by rw [upd_ne (Ne.symm zl)]; exact hl2
      refine ⟨_, rfl, _, rfl, l, _, rfl, .inl (SqL.of hl3), _, _, rfl, rfl, l, _, _, _, rfl, rfl, hl3, ix_last, ?_⟩
      rw [set_last]
      have kt : ∀ a xs, H2 a = some (.tup xs) → (upd (upd H2 z (.tup [.ref c, .bl false])) l (.lst (us' ++ [.ref z]))) a = some (.tup xs) := fun a xs e => keep_mut hl3 _ _ (same_new hz _ _ _ e)
      have kk : Kp l H (upd (upd H2 z (.tup [.ref c, .bl false])) l (.lst (us' ++ [.ref z]))) := fun a o ha e => by
        rw [upd_ne ha]; exact same_new hz _ _ _ (k a o ha e)
      refine q2 _ _ _ rfl kk upd_same (by rw [List.length_append, List.length_append]; rfl) ?_
      have kh := kk.tup hl
      refine .snoc ⟨z, c, vs ++ [u], rfl, ?_, kt _ _ hc2, (hb.mono kh).snoc (hu.mono kh)⟩ (hR.mono kh)
      rw [upd_ne zl, upd_same]
    have hlt : (upd H t (.tup [u])) l = some (.lst (us' ++ [.ref p])) := same_new ht _ _ _ hl
    have kt : Kp l H (upd H t (.tup [u])) := fun a o _ e => same_new ht _ _ _ e
    cases vs with
    | nil =>
      refine .inl ⟨r, t, [u], rfl, rfl, SqT.of ht1, SqT.of upd_same, ?_⟩
      exact fin t _ kt hlt upd_same
    | cons v0 vr =>
      refine .inr ⟨r, t, _, [u], rfl, rfl, SqT.of ht1, SqT.of upd_same, by simp, ?_, fun h => by simp at h, fun _ c hc => ?_⟩
      · have hbl : (v0 :: vr).length = row.length := hbl
        show (v0 :: vr).length + 1 ≤ _; omega
      · have hlc : c ≠ l := fun e => by rw [e, hlt] at hc; cases hc
        refine fin c _ (fun a o ha e => same_new hc _ _ _ (kt a o ha e)) ?_ upd_same
        rw [upd_ne (Ne.symm hlc)]; exact hlt
end
end Mt
namespace Mt
open PySem PySem.Spec PyProof.Rows L2 PySem.NumText
theorem sp_len : ∀ l : List Nat, (sp l).length ≤ l.length
  | [] => Nat.le_refl _
  | c :: r => by
    have ih := sp_len r
    show (if dl c then [c] :: sp r else glue c r (sp r)).length ≤ _
    split
    · simp only [List.length_cons]; omega
    · cases r with
      | nil => exact Nat.le_refl _
      | cons x r' =>
        obtain ⟨p, ps, e⟩ := sp_ne (c := x) (r := r')
        rw [e] at ih ⊢
        show (if dl x then [c] :: p :: ps else (c :: p) :: ps).length ≤ _
        split
        · simp only [List.length_cons] at ih ⊢; omega
        · simp only [List.length_cons] at ih ⊢; omega
theorem sp_part_len {l p : List Nat} (h : p ∈ sp l) : p.length ≤ l.length := by
  have := (List.sublist_flatten_of_mem h).length_le
  rw [sp_flat] at this
  exact this
theorem run_take {ps : List (List Nat)} {i : Nat} {p : List Nat} {s0 : Stk} {st : Stk} (h : runS s0 (ps.take i) = some st) (hp : ps[i]? = some p) : runS s0 (ps.take (i + 1)) = step st p := by
  rw [take_snoc hp, runS_append, h]
  show (match step st p with | some st' => runS st' [] | none => none) = _
  cases step st p with
  | none => rfl
  | some st' => rfl
theorem run_dead {ps : List (List Nat)} {i : Nat} {p : List Nat} {s0 : Stk} {st : Stk} (h : runS s0 (ps.take i) = some st) (hp : ps[i]? = some p) (hd : step st p = none) : runS s0 ps = none := by
  have := run_take h hp
  rw [hd] at this
  rw [← List.take_append_drop (i + 1) ps, runS_append, this]
  rfl
theorem putS_len {st st' : Stk} {d : D} (h : putS st d = some st') : st'.length = st.length ∧ ∀ n, (∀ r ∈ st, r.1.length ≤ n) → ∀ r ∈ st', r.1.length ≤ n + 1 := by
  match st, h with
  | (row, true) :: R, h =>
    injection h with h
    subst h
    refine ⟨rfl, fun n hn r hr => ?_⟩
    rcases List.mem_cons.mp hr with rfl | hr
    · have : row.length ≤ n := hn (row, true) (List.mem_cons_self ..)
      show (row ++ [d]).length ≤ _
      rw [List.length_append, List.length_singleton]; omega
    · have := hn r (List.mem_cons_of_mem _ hr); omega
theorem putS_ne {st st' : Stk} {d : D} (h : putS st d = some st') : st' ≠ [] := by
  match st, h with
  | (row, true) :: R, h =>
    injection h with h
    subst h
    simp
theorem lit_test (x z : Str) : decide (V.str x = V.str z) = decide (cs x = cs z) := by
  have : (V.str x = V.str z) ↔ cs x = cs z := str_eq
  simp only [this]
theorem open_cs : cs (Str.ofString "(") = [40] := by decide +kernel
theorem close_cs : cs (Str.ofString ")") = [41] := by decide +kernel
theorem blank_cs : cs (Str.ofString " ") = [32] := by decide +kernel
section
variable {P : Program} {w : World} {K : PySem.W.Frag} {mg : Str → Option Value} {base : Heap} {f g : Addr} {fd gd : FuncData} {g2 g3 : Addr} {gd2 gd3 : FuncData} {C : Addr}
def spRead (C : Addr) : Sp := fun vs H Q E => ∃ x : Str, vs = [.str x] ∧ (cs x).length ≤ 2000000 ∧
  (∀ d, mrun (cs x) = some d → ∀ v H', Same H H' → Be H' v d → Q v H') ∧ (mrun (cs x) = none → ∀ H', Same H H' → E (.ref C) none H')
/-- what holds after i parts -/
def RdInv (x : Str) (l : Addr) (H1 : Hp) (i : Nat) (σ : L2.St) (H' : Hp) : Prop := ∃ (st : Stk) (us : List V) (a b c : Option V), σ = [some (.str x), some (.ref l), a, b, c] ∧ runS [([], true)] ((sp (cs x)).take i) = some st ∧ st ≠ [] ∧ H' l = some (.lst us) ∧ Rws H' us st ∧ Kp l H1 H' ∧
  us.length ≤ i + 1 ∧ ∀ r ∈ st, r.1.length ≤ i
theorem scRead : FnScope ["text", "rows", "part", "row", "wants"] ["text"] (defScope sRead) := ⟨rfl, rfl, rfl, by decide +kernel, rfl, by decide +kernel, by decide +kernel⟩
theorem ok_read (F : Fun K "read" "read" sRead f fd) (B : Bad K mg C) (S : Cal P w K mg base "split_text" 1 ["text"] spSplit g gd) (U : CalX P w K mg base "put" 1 ["rows", "value"] (spPut C) g2 gd2) (R : CalX P w K mg base "read_plain" 2 ["text"] (spRp C) g3 gd3) (ml : mg "len" = none) :
    FnOk P w K mg base (L2.CX P w) 3 f fd ["text"] (spRead C) := by
  refine F.okX scRead (fun vs H Q E h => ?_) (fun cdv A outer s H vs Q E hr h => ?_)
  · obtain ⟨x, rfl, _⟩ := h
    rfl
  obtain ⟨x, rfl, hxl, q1, q2⟩ := h
  refine ⟨_, pss_cons (ps_set (i := 1) scRead.nd rfl (Or.inl rfl) (pe_lst (pa_cons (pe_tup (pa_cons (pe_tup pa_nil) (pa_cons pe_bl pa_nil))) pa_nil)))
    (pss_cons (ps_for (passes_of rfl) rfl (pi_list (pe_call S.ok (hr.mono (by decide)) rfl S.m S.k S.b .nil pass0 (pa_cons (pv 0) pa_nil))) (pg_name (i := 2) scRead.nd rfl (Or.inl rfl))
      (pss_cons (ps_asg (pe_ix ix_list (pv 1) (pe_op op_sub (pe_callB call_len_seq rfl ml PySem.boot_len (pa_cons (pv 1) pa_nil)) pe_int) (fun _ _ => rfl)) (pg_tup rfl (pgs_cons (pg_name (i := 3) scRead.nd rfl (Or.inl rfl)) (pgs_cons (pg_name (i := 4) scRead.nd rfl (Or.inl rfl)) pgs_nil))))
      (pss_one (ps_if (pt_cmpR op_eq (pv 2) pe_str (nomark _))
        (pss_cons (ps_if (pt_not (pt_val (pv 4))) (pss_one (ps_raise rfl (takes_of rfl rfl rfl rfl) (pmk_own PySem.F.excBase_ValueError B.x B.g B.k (raises_own B.b B.t) rfl))) pss_nil)
          (pss_one (ps_expr (pe_bm PySem.F.plainAttrs_list PySem.F.slot_list_append PySem.F.type_list_append mt_append (pv 1) (pa_cons (pe_tup (pa_cons (pe_tup pa_nil) (pa_cons pe_bl pa_nil))) pa_nil)))))
        (pss_one (ps_if (pt_cmpR op_eq (pv 2) pe_str (nomark _))
          (pss_cons (ps_if (PW.pt (pw_or (pt_cmpR op_eq (pe_callB call_len_seq rfl ml PySem.boot_len (pa_cons (pv 1) pa_nil)) pe_int (nomark _)) (pw_or1 (PW.pt (pw_and (pt_val (pv 4)) (pw_and1 (pt_cmpR op_gt (pe_callB call_len_seq rfl ml PySem.boot_len (pa_cons (pv 3) pa_nil)) pe_int (nomark _))))))))
              (pss_one (ps_raise rfl (takes_of rfl rfl rfl rfl) (pmk_own PySem.F.excBase_ValueError B.x B.g B.k (raises_own B.b B.t) rfl))) pss_nil)
            (pss_cons (ps_expr (pe_bm0 PySem.F.plainAttrs_list PySem.F.slot_list_pop PySem.F.type_list_pop mt_pop (pv 1)))
            (pss_one (ps_expr (pe_call U.ok (hr.mono (by decide)) rfl U.m U.k U.b .nil (passes_call (takes_of rfl rfl rfl rfl) fun _ _ _ _ h => h) (pa_cons (pv 1) (pa_cons (pv 3) pa_nil)))))))
          (pss_one (ps_if (pt_cmpR op_eq (pv 2) pe_str (nomark _))
            (pss_cons (ps_if (PW.pt (pw_or (pt_cmpR op_eq (pe_callB call_len_seq rfl ml PySem.boot_len (pa_cons (pv 1) pa_nil)) pe_int (nomark _)) (pw_or1 (pt_val (pv 4)))))
                (pss_one (ps_raise rfl (takes_of rfl rfl rfl rfl) (pmk_own PySem.F.excBase_ValueError B.x B.g B.k (raises_own B.b B.t) rfl))) pss_nil)
              (pss_one (ps_asg (pe_tup (pa_cons (pv 3) (pa_cons pe_bl pa_nil))) (pg_sub (pv 1) (pe_op op_sub (pe_callB call_len_seq rfl ml PySem.boot_len (pa_cons (pv 1) pa_nil)) pe_int) set_list))))
            (pss_one (ps_expr (pe_call U.ok (hr.mono (by decide)) rfl U.m U.k U.b .nil (passes_call (takes_of rfl rfl rfl rfl) fun _ _ _ _ h => h) (pa_cons (pv 1) (pa_cons
              (pe_call R.ok hr rfl R.m R.k R.b .nil (passes_call (takes_of rfl rfl rfl rfl) fun _ _ _ _ h => h) (pa_cons (pv 2) pa_nil)) pa_nil)))))))))))))
    (pss_cons (ps_if (PW.pt (pw_or (pt_cmpR op_ne (pe_callB call_len_seq rfl ml PySem.boot_len (pa_cons (pv 1) pa_nil)) pe_int (nomark _)) (pw_or1 (pt_cmpR op_ne (pe_callB call_len_seq rfl ml PySem.boot_len (pa_cons (pe_ix (r := rIxT K) ix_tup (pe_ix ix_list (pv 1) pe_int (fun _ _ => rfl)) pe_int (fun _ _ => rfl)) pa_nil)) pe_int (nomark _)))))
        (pss_one (ps_raise rfl (takes_of rfl rfl rfl rfl) (pmk_own PySem.F.excBase_ValueError B.x B.g B.k (raises_own B.b B.t) rfl))) pss_nil)
    (pss_one (ps_ret (pe_ix (r := rIxT K) ix_tup (pe_ix (r := rIxT K) ix_tup (pe_ix ix_list (pv 1) pe_int (fun _ _ => rfl)) pe_int (fun _ _ => rfl)) pe_int (fun _ _ => rfl)))))), ?_⟩
  have hline := line_big
  refine ⟨(by show 0 ≤ sizeLine; omega), fun e he => ⟨(by show 2 ≤ sizeLine; omega), fun r0 hr0 => ⟨(by show 1 ≤ sizeLine; omega), fun l hl => ?_⟩⟩⟩
  have he0 : (upd H e (.tup [])) e = some (.tup []) := upd_same
  have sA : Same H (upd (upd H e (.tup [])) r0 (.tup [.ref e, .bl true])) := (same_new he _).trans (same_new hr0 _)
  have sB : Same H (upd (upd (upd H e (.tup [])) r0 (.tup [.ref e, .bl true])) l (.lst [.ref r0])) := sA.trans (same_new hl _)
  have hl0 : H l = none := sA.free hl
  refine ⟨_, rfl, x, rfl, hxl, fun p H1 ys s1 hp hys => ?_⟩
  have hS1 : Same H H1 := sB.trans s1
  have hl1 : H1 l = some (.lst [.ref r0]) := s1 l _ upd_same
  have hpl : p ≠ l := fun z => by rw [z, hl1] at hp; injection hp with hp; injection hp with hp; cases ys with | nil => cases hp | cons a b => injection hp with h1 h2; cases h1
  have hr1 : H1 r0 = some (.tup [.ref e, .bl true]) := s1 _ _ (same_new hl _ _ _ upd_same)
  have he1 : H1 e = some (.tup []) := s1 _ _ (same_new hl _ _ _ (same_new hr0 _ _ _ he0))
  have hyl : ys.length ≤ 2000000 := by
    have h1 : ys.length = (sp (cs x)).length := by rw [← hys, List.length_map]
    have h2 := sp_len (cs x)
    omega
  refine ⟨p, rfl, ⟨_, SqL.of hp⟩, ?_⟩
  refine for_it (walk_list (K := K) (a := p) (xs := ys.map V.str)) (RdInv x l H1) ?_ (fun i σ H' hi pp => ?_) (fun i v σ H3 H2 hi pp y => ?_) (fun σ H' pp => ?_)
  · refine ⟨[([], true)], [.ref r0], none, none, none, rfl, rfl, by simp, hl1, ?_, fun a o _ h => h, Nat.le_refl _, fun r hr => ?_⟩
    · exact Rws.snoc (us := []) ⟨r0, e, [], rfl, hr1, he1, .nil⟩ .nil
    · rw [List.mem_singleton.mp hr]; exact Nat.zero_le _
  · obtain ⟨st, us, a, b, c, _, _, _, h1, _, k, _⟩ := pp
    exact SqL.of (k p _ hpl hp)
  · obtain ⟨st, us, a, b, c, rfl, hrun, hne, hl2, hst, hk, hul, hrl⟩ := pp
    obtain ⟨rfl, hv⟩ := y
    have hil : i < ys.length := by rw [List.length_map] at hi; exact hi
    obtain ⟨z, hz⟩ : ∃ z, ys[i]? = some z := ⟨_, List.getElem?_eq_getElem hil⟩
    rw [List.getElem?_map, hz] at hv
    have hv : some (V.str z) = some v := hv
    injection hv with hv
    subst hv
    have hzs : (sp (cs x))[i]? = some (cs z) := by rw [← hys, List.getElem?_map, hz]; rfl
    have hzl : (cs z).length ≤ 2000000 := by
      have := sp_part_len (List.mem_of_getElem? hzs)
      omega
    have hS2 : Same H H2 := hk.same hS1 hl0
    -- what is refused
    have dead : step st (cs z) = none → ∀ H4, Same H H4 → E (.ref C) none H4 := fun hd H4 s4 => q2 (by unfold mrun; rw [run_dead hrun hzs hd]) H4 s4
    -- the next turn
    have next : ∀ (st' : Stk) (us2 : List V) (H4 : Hp) (b c : Option V), step st (cs z) = some st' → st' ≠ [] → H4 l = some (.lst us2) → Rws H4 us2 st' → Kp l H2 H4 → us2.length ≤ us.length + 1 → (∀ r ∈ st', r.1.length ≤ i + 1) →
        RdInv x l H1 (i + 1) [some (.str x), some (.ref l), some (.str z), b, c] H4 := by
      intro st' us2 H4 b c h1 hn h2 h3 h4 h5 h6
      refine ⟨st', us2, _, _, _, rfl, by rw [run_take hrun hzs]; exact h1, hn, h2, h3, fun a o ha e => h4 a o ha (hk a o ha e), by omega, h6⟩
    obtain ⟨⟨row, wants⟩, R, rfl⟩ : ∃ r R, st = r :: R := by
      cases st with
      | nil => exact absurd rfl hne
      | cons r R => exact ⟨r, R, rfl⟩
    obtain ⟨us', v, rfl, hv, hR⟩ := hst.top
    obtain ⟨q, r, vs, rfl, hq, hr2, hb⟩ := hv
    have hq : H2 q = some (.tup [.ref r, .bl wants]) := hq
    have hb : BeL H2 vs row := hb
    have hrow : row.length ≤ i := hrl (row, wants) (List.mem_cons_self ..)
    have hul2 : us'.length + 1 ≤ i + 1 := by rw [List.length_append] at hul; exact hul
    have hlen : decide (V.int (((us' ++ [V.ref q]).length : Nat) : Int) = V.int 1) = R.isEmpty := by
      have e := hR.len
      cases R with
      | nil =>
        have : us' = [] := List.eq_nil_of_length_eq_zero e
        subst this
        rfl
      | cons r1 R1 =>
        refine decide_eq_false fun h => ?_
        injection h with h
        rw [List.length_append, e, List.length_cons] at h
        simp at h
        omega
    have hrl2 : decide ((0 : Int) < ((vs.length : Nat) : Int)) = !row.isEmpty := by
      rw [hb.len]
      cases row with
      | nil => rfl
      | cons d ds => exact decide_eq_true (by simp)
    have putting : ∀ (H4 : Hp) (usA : List V) (stA : Stk) (u : V) (dd : D) (b c : Option V) (QQ : VK), Same H H4 → Kp l H2 H4 → H4 l = some (.lst usA) → Rws H4 usA stA → stA ≠ [] → Be H4 u dd → usA.length ≤ (us' ++ [V.ref q]).length → (∀ r ∈ stA, r.1.length ≤ i) →
        step ((row, wants) :: R) (cs z) = putS stA dd → (∀ v H5, RdInv x l H1 (i + 1) [some (.str x), some (.ref l), some (.str z), b, c] H5 → QQ v H5) → spPut C [.ref l, u] H4 QQ E := by
      intro H4 usA stA u dd b c QQ s4 k4 h4 r4 n4 b4 l4 w4 hs qq
      refine ⟨l, u, dd, usA, stA, rfl, h4, r4, n4, b4, by omega, fun r hr => by have := w4 r hr; omega, fun hd => dead (hs.trans hd) _ s4, fun st' us5 H5 hp k5 h5 e5 r5 => qq _ _ ?_⟩
      exact next st' us5 H5 b c (hs.trans hp) (putS_ne hp) h5 r5 (fun a o ha e => k5 a o ha (k4 a o ha e)) (by omega) ((putS_len hp).2 i w4)
    refine ⟨_, rfl, _, rfl, l, _, rfl, .inl (SqL.of hl2), _, _, rfl, rfl, l, _, _, _, rfl, rfl, SqL.of hl2, at_last, ?_⟩
    refine ⟨q, _, rfl, SqT.of hq, rfl, _, _, rfl, _, _, rfl, rfl, ?_⟩
    refine ⟨_, rfl, rfl, _, rfl, ?_⟩
    rw [lit_test, open_cs]
    by_cases h1 : cs z = [40]
    · rw [decide_eq_true h1]
      refine iteT ⟨_, rfl, _, rfl, ?_⟩
      rw [h1, step_open] at dead next putting
      cases wants with
      | false => exact iteT (dead rfl _ hS2)
      | true =>
        refine iteF ⟨_, rfl, .inl ⟨rfl, _, SqL.of hl2⟩, (by show 0 ≤ sizeLine; omega), fun e2 he2 => ⟨(by show 2 ≤ sizeLine; omega), fun r2 hr2' => ⟨l, us' ++ [.ref q], _, rfl, rfl, ?_, ?_, ?_⟩⟩⟩
        · exact same_new hr2' _ _ _ (same_new he2 _ _ _ hl2)
        · rw [List.length_append]; show us'.length + 1 < _; omega
        · have hl4 : (upd (upd H2 e2 (.tup [])) r2 (.tup [.ref e2, .bl true])) l = some (.lst (us' ++ [.ref q])) := same_new hr2' _ _ _ (same_new he2 _ _ _ hl2)
          have kk : Kp l H2 (upd (upd (upd H2 e2 (.tup [])) r2 (.tup [.ref e2, .bl true])) l (.lst ((us' ++ [.ref q]) ++ [.ref r2]))) := fun a o ha e => by
            rw [upd_ne ha]; exact same_new hr2' _ _ _ (same_new he2 _ _ _ e)
          refine next _ _ _ _ _ rfl (by simp) upd_same ?_ kk (by simp) (fun r hr => ?_)
          · refine .snoc ⟨r2, e2, [], rfl, ?_, ?_, .nil⟩ (hst.mono (kk.tup hl2))
            · exact keep_mut hl4 _ _ upd_same
            · exact keep_mut hl4 _ _ (same_new hr2' _ _ _ upd_same)
          · rcases List.mem_cons.mp hr with rfl | hr
            · exact Nat.zero_le _
            · have := hrl r hr; omega
    rw [decide_eq_false h1]
    refine iteF ⟨_, rfl, rfl, _, rfl, ?_⟩
    rw [lit_test, close_cs]
    by_cases h2 : cs z = [41]
    · rw [decide_eq_true h2]
      refine iteT ?_
      rw [h2, step_close] at dead next putting
      refine ⟨_, rfl, l, _, rfl, .inl (SqL.of hl2), rfl, _, rfl, ?_⟩
      rw [hlen]
      cases hRe : R.isEmpty with
      | true =>
        rw [hRe] at dead
        exact iteT (iteT (dead rfl _ hS2))
      | false =>
      rw [hRe] at dead next putting
      refine iteF ?_
      have hgo : ∀ Qt : Bool → Hp → Prop, Qt (wants && !row.isEmpty) H2 → (tAnd (tB (tVar 4)) (tTest (tOp (rI0 fun i j => V.bl (decide (j < i))) (tCB (fun xs H Q => ∃ p ys, xs = [V.ref p] ∧ (SqL K H p ys ∨ SqT K H p ys) ∧ Q (.int ys.length) H) (tCons (tVar 3) tNil)) (tC (V.int 0)))))
          [some (.str x), some (.ref l), some (.str z), some (.ref r), some (.bl wants)] H2 Qt := by
        intro Qt qt
        refine ⟨_, rfl, _, rfl, ?_⟩
        cases wants with
        | false => exact iteF qt
        | true =>
          refine iteT ⟨_, rfl, r, _, rfl, .inr (SqT.of hr2), _, _, rfl, rfl, _, rfl, ?_⟩
          rw [hrl2]
          exact qt
      refine hgo _ ?_
      cases hb2 : (wants && !row.isEmpty) with
      | true =>
        rw [hb2] at dead
        exact iteT (dead rfl _ hS2)
      | false =>
      rw [hb2] at dead next putting
      have hRne : R ≠ [] := fun e => by rw [e] at hRe; cases hRe
      refine iteF ⟨_, rfl, .inl ⟨rfl, _, SqL.of hl2⟩, l, us' ++ [.ref q], .ref q, rfl, rfl, hl2, ?_, ?_⟩
      · rw [List.length_append]; show (us' ++ [V.ref q])[us'.length + 1 - 1]? = _; rw [Nat.add_sub_cancel, List.getElem?_concat_length]
      rw [List.dropLast_concat]
      have kk : Kp l H2 (upd H2 l (.lst us')) := fun a o ha e => by rw [upd_ne ha]; exact e
      have kt := kk.tup hl2
      refine ⟨_, rfl, _, rfl, ?_⟩
      refine putting _ us' R _ (.t row) _ _ _ (kk.same hS2 hl0) kk upd_same (hR.mono kt) hRne (.t (kt _ _ hr2) (hb.mono kt)) (by rw [List.length_append]; omega) (fun r hr => hrl r (List.mem_cons_of_mem _ hr)) rfl fun v H5 h => h
    rw [decide_eq_false h2]
    refine iteF ⟨_, rfl, rfl, _, rfl, ?_⟩
    rw [lit_test, blank_cs]
    by_cases h3 : cs z = [32]
    · rw [decide_eq_true h3]
      refine iteT ?_
      rw [h3, step_blank] at dead next
      refine ⟨_, rfl, l, _, rfl, .inl (SqL.of hl2), rfl, _, rfl, ?_⟩
      rw [hlen]
      cases hRe : R.isEmpty with
      | true =>
        rw [hRe] at dead
        exact iteT (iteT (dead rfl _ hS2))
      | false =>
      rw [hRe] at dead next
      refine iteF ⟨_, rfl, _, rfl, ?_⟩
      cases wants with
      | true => exact iteT (dead rfl _ hS2)
      | false =>
      refine iteF ⟨_, rfl, (by show 2 ≤ sizeLine; omega), fun t ht => ?_⟩
      have tl : t ≠ l := fun e => by rw [e, hl2] at ht; cases ht
      have hl3 : (upd H2 t (.tup [.ref r, .bl true])) l = some (.lst (us' ++ [.ref q])) := same_new ht _ _ _ hl2
      refine ⟨_, rfl, _, rfl, l, _, rfl, .inl (SqL.of hl3), _, _, rfl, rfl, l, _, _, _, rfl, rfl, hl3, ix_last, ?_⟩
      rw [set_last]
      have kk : Kp l H2 (upd (upd H2 t (.tup [.ref r, .bl true])) l (.lst (us' ++ [.ref t]))) := fun a o ha e => by rw [upd_ne ha]; exact same_new ht _ _ _ e
      have kt := kk.tup hl2
      refine next _ _ _ _ _ rfl (by simp) upd_same (.snoc ⟨t, r, vs, rfl, by rw [upd_ne tl, upd_same], kt _ _ hr2, hb.mono kt⟩ (hR.mono kt)) kk (by rw [List.length_append, List.length_append]; exact Nat.le_succ _) (fun s hs => ?_)
      rcases List.mem_cons.mp hs with rfl | hs
      · exact Nat.le_succ_of_le hrow
      · have := hrl s (List.mem_cons_of_mem _ hs); omega
    rw [decide_eq_false h3]
    refine iteF ⟨_, rfl, _, rfl, z, rfl, hzl, fun d hd u H4 s4 b4 => ?_, fun hd H4 s4 => dead (by rw [step_plain h1 h2 h3, hd]) _ (hS2.trans s4)⟩
    have kk : Kp l H2 H4 := fun a o _ e => s4 a o e
    refine putting H4 (us' ++ [.ref q]) ((row, wants) :: R) u d _ _ _ (hS2.trans s4) kk (s4 l _ hl2) (hst.mono (same_tup s4)) (by simp) b4 (Nat.le_refl _) hrl (by rw [step_plain h1 h2 h3, hd]) fun v H5 h => h
  · obtain ⟨st, us, a, b, c, rfl, hrun, hne, hl2, hst, hk, hul, hrl⟩ := pp
    have hS2 : Same H H' := hk.same hS1 hl0
    rw [List.length_map, show ys.length = (sp (cs x)).length by rw [← hys, List.length_map], List.take_length] at hrun
    obtain ⟨⟨row, wants⟩, R, rfl⟩ : ∃ r R, st = r :: R := by
      cases st with
      | nil => exact absurd rfl hne
      | cons r R => exact ⟨r, R, rfl⟩
    obtain ⟨us', v, rfl, hv, hR⟩ := hst.top
    obtain ⟨q, r, vs, rfl, hq, hr2, hb⟩ := hv
    have hb : BeL H' vs row := hb
    have e := hR.len
    refine ⟨_, rfl, l, _, rfl, .inl (SqL.of hl2), rfl, _, rfl, ?_⟩
    cases R with
    | cons r1 R1 =>
      have : (!decide (V.int (((us' ++ [V.ref q]).length : Nat) : Int) = V.int 1)) = true := by
        rw [decide_eq_false]
        · rfl
        intro h
        injection h with h
        rw [List.length_append, e, List.length_cons] at h
        simp at h
        omega
      rw [this]
      refine iteT (iteT (q2 ?_ _ hS2))
      unfold mrun
      rw [hrun]
      split
      · rename_i h
        injection h with h
        injection h with _ h
        cases h
      · rfl
    | nil =>
    have : us' = [] := List.eq_nil_of_length_eq_zero e
    subst this
    have hl2 : H' l = some (.lst [.ref q]) := hl2
    have : (!decide (V.int ((([] ++ [V.ref q]).length : Nat) : Int) = V.int 1)) = false := rfl
    rw [this]
    refine iteF ⟨_, rfl, l, _, _, _, rfl, rfl, SqL.of hl2, rfl, q, _, _, _, rfl, rfl, SqT.of hq, rfl, r, _, rfl, .inr (SqT.of hr2), rfl, _, rfl, ?_⟩
    have no : (∀ d, row ≠ [d]) → mrun (cs x) = none := fun hn => by
      unfold mrun
      rw [hrun]
      split
      · rename_i h
        injection h with h
        injection h with h _
        injection h with h _
        exact absurd h (hn _)
      · rfl
    rw [hb.len]
    cases row with
    | nil => exact iteT (q2 (no fun d h => by cases h) _ hS2)
    | cons d ds =>
      cases ds with
      | cons d2 ds2 =>
        have : (!decide (V.int (((d :: d2 :: ds2).length : Nat) : Int) = V.int 1)) = true := by
          rw [decide_eq_false]
          · rfl
          intro h
          injection h with h
          simp at h
          omega
        rw [this]
        exact iteT (q2 (no fun d h => by cases h) _ hS2)
      | nil =>
        have : (!decide (V.int (([d].length : Nat) : Int) = V.int 1)) = false := rfl
        rw [this]
        refine iteF ?_
        have hd : mrun (cs x) = some d := by
          unfold mrun
          rw [hrun]
        cases hb with
        | cons hv0 hrest =>
          cases hrest
          exact ⟨_, rfl, l, _, _, _, rfl, rfl, SqL.of hl2, rfl, q, _, _, _, rfl, rfl, SqT.of hq, rfl, r, _, _, _, rfl, rfl, SqT.of hr2, rfl, q1 d hd _ _ hS2 hv0⟩
end
end Mt
namespace Mt
open PySem PySem.Spec PyProof.Rows L2 PySem.NumText
def lowS : Str := Str.ofString "abcdefghijklmnopqrstuvwxyz"
theorem lowS_cs : cs lowS = [97, 98, 99, 100, 101, 102, 103, 104, 105, 106, 107, 108, 109, 110, 111, 112, 113, 114, 115, 116, 117, 118, 119, 120, 121, 122] := by decide +kernel
theorem low_mem (c : Nat) : decide (c ∈ cs lowS) = isL c := by
  cases hq : isL c with
  | true =>
    have := isL_iff.mp hq
    refine decide_eq_true ?_
    rw [lowS_cs]
    simp only [List.mem_cons, List.not_mem_nil, or_false]
    omega
  | false =>
    refine decide_eq_false fun h => ?_
    rw [lowS_cs] at h
    simp only [List.mem_cons, List.not_mem_nil, or_false] at h
    rw [isL_iff.mpr (by omega)] at hq
    cases hq
theorem dig_mem2 (c : Nat) : decide (c ∈ cs digS) = isD c := by
  cases hq : isD c with
  | true => exact decide_eq_true (dig_mem.mpr hq)
  | false => exact decide_eq_false fun h => by rw [dig_mem.mp h] at hq; cases hq
theorem itm_open (N n : Nat) (r : List Nat) : itm N (n + 1) (40 :: r) = if r.head? = some 41 then some (.t [], r.tail) else lp (itm N n) N [] r := by
  show (if (40 : Nat) = 40 then (if r.head? = some 41 then some (.t [], r.tail) else lp (itm N n) N [] r) else atm (40 :: r)) = _
  rw [if_pos rfl]
theorem itm_not (N n : Nat) {l : List Nat} (h : l.head? ≠ some 40) : itm N (n + 1) l = atm l := by
  cases l with
  | nil => rfl
  | cons c r =>
    show (if c = 40 then _ else atm (c :: r)) = _
    rw [if_neg (fun e => h (by rw [e]; rfl))]
theorem head_take {l : List Nat} {c : Nat} : l.take 1 = [c] ↔ l.head? = some c := by
  cases l with
  | nil => simp
  | cons a r => simp
section
variable {P : Program} {w : World} {K : PySem.W.Frag} {mg : Str → Option Value} {base : Heap} {f g : Addr} {fd gd : FuncData} {g2 g3 : Addr} {gd2 gd3 : FuncData} {C : Addr}
def spRun : Sp := fun vs H Q _ => ∃ (x z : Str) (a : Nat) (p : Nat → Bool), vs = [.str x, .int a, .str z] ∧ a ≤ (cs x).length ∧ (cs x).length ≤ 2000000 ∧ (∀ c, decide (c ∈ cs z) = p c) ∧ Q (.int ((a + (spanL p ((cs x).drop a)).1.length : Nat) : Int)) H
theorem scRun : FnScope ["text", "at", "signs", "k"] ["text", "at", "signs"] (defScope sRun) := ⟨rfl, rfl, rfl, by decide +kernel, rfl, by decide +kernel, by decide +kernel⟩
theorem ok_run (F : Fun K "_law_run" "_law_run" sRun f fd) (ml : mg "len" = none) (mr : mg "range" = none) : FnOk P w K mg base CX0 1 f fd ["text", "at", "signs"] spRun := by
  refine F.ok scRun (fun vs H Q E h => ?_) (fun cdv A outer s H vs Q E hr h => ?_)
  · obtain ⟨x, z, a, p, rfl, _⟩ := h
    rfl
  obtain ⟨x, z, a, p, rfl, ha, hxl, hp, q⟩ := h
  refine ⟨_, pss_cons (ps_for PassesOwn.never rfl (pi_range2 rfl mr (pa_cons (pv 1) (pa_cons (pe_callB call_len_str rfl ml PySem.boot_len (pa_cons (pv 0) pa_nil)) pa_nil))) (pg_name (i := 3) scRun.nd rfl (Or.inl rfl))
      (pss_one (ps_if (pt_cmpR op_notIn_sign (pe_ix ix_str (pv 0) (pv 3) (fun _ _ => rfl)) (pv 2) rfl) (pss_one (ps_ret (pv 3))) pss_nil)))
    (pss_one (ps_ret (pe_callB call_len_str rfl ml PySem.boot_len (pa_cons (pv 0) pa_nil)))), ?_⟩
  have hline := line_big
  have hxs : x.length ≤ sizeLine := str_len (n := 2000000) hxl (by decide)
  refine ⟨_, rfl, _, rfl, x, rfl, hxs, _, _, rfl, by rw [len_cs]; omega, ?_⟩
  have en : (((x.length : Nat) : Int) - (a : Int)).toNat = (cs x).length - a := by rw [len_cs]; omega
  rw [en]
  refine for_range (lo := (a : Int)) (n := (cs x).length - a) (fun i σ H' => H' = H ∧ (∃ k, σ = [some (.str x), some (.int a), some (.str z), k]) ∧ (((cs x).drop a).take i).all p = true) ?_ (fun i σ H' hi pp => ?_) (fun σ H' pp => ?_)
  · exact ⟨rfl, ⟨_, rfl⟩, rfl⟩
  · obtain ⟨rfl, ⟨k, rfl⟩, hall⟩ := pp
    obtain ⟨c, hc1, hc2, hc3⟩ := at_sign (x := x) (a := a + i) (by omega)
    have e1 : ((a : Int) + (i : Int)) = ((a + i : Nat) : Int) := by omega
    rw [e1]
    refine ⟨_, rfl, _, rfl, x, _, c, rfl, rfl, hxs, hc2, _, rfl, c, z, rfl, rfl, _, rfl, ?_⟩
    rw [show z.cps.toList = cs z from rfl, hp c]
    have hg : ((cs x).drop a)[i]? = some c := by rw [List.getElem?_drop]; exact hc1
    cases hpc : p c with
    | true =>
      refine iteF ⟨rfl, ⟨_, rfl⟩, ?_⟩
      rw [take_snoc hg, List.all_append, hall]
      simp [hpc]
    | false =>
      refine iteT ⟨_, rfl, ?_⟩
      have : spanL p ((cs x).drop a) = (((cs x).drop a).take i, ((cs x).drop a).drop i) := by
        conv => lhs; rw [← List.take_append_drop i ((cs x).drop a)]
        exact span_of p hall (.inr ⟨c, (cs x).drop (a + i + 1), by rw [List.drop_drop]; exact hc3, hpc⟩)
      rw [this] at q
      have hl : (((cs x).drop a).take i).length = i := by rw [List.length_take, List.length_drop]; omega
      have q : Q (.int ((a + (((cs x).drop a).take i).length : Nat) : Int)) H' := q
      rw [hl] at q
      exact q
  · obtain ⟨rfl, ⟨k, rfl⟩, hall⟩ := pp
    refine ⟨_, rfl, x, rfl, hxs, ?_⟩
    rw [List.take_of_length_le (by rw [List.length_drop]; exact Nat.le_refl _)] at hall
    have : spanL p ((cs x).drop a) = ((cs x).drop a, []) := by
      have := span_of p (r := []) hall (.inl rfl)
      rwa [List.append_nil] at this
    rw [this] at q
    have q : Q (.int ((a + ((cs x).drop a).length : Nat) : Int)) H' := q
    rw [List.length_drop, show a + ((cs x).length - a) = x.length by rw [len_cs]; omega] at q
    exact q
def spItem (m : Nat) : Sp := fun vs H Q _ => ∃ (x : Str) (a : Nat), vs = [.str x, .int a] ∧ a ≤ (cs x).length ∧ (cs x).length ≤ 2000000 ∧ 1 ≤ m ∧ Bal (m - 1) ((cs x).drop a) ∧
  (itm (cs x).length m ((cs x).drop a) = none → ∀ H', Same H H' → Q .non H') ∧
  ∀ d r, itm (cs x).length m ((cs x).drop a) = some (d, r) → ∀ (p : Addr) (v : V) (e : Nat) (H' : Hp), Same H H' → H' p = some (.tup [v, .int e]) → Be H' v d → e ≤ (cs x).length → (cs x).drop e = r → Q (.ref p) H'
theorem scItem : FnScope ["text", "at", "first", "parts", "k", "told", "end", "start", "figures"] ["text", "at"] (defScope sItem) := ⟨rfl, rfl, rfl, by decide +kernel, rfl, by decide +kernel, by decide +kernel⟩
theorem cs_at (x : Str) (a : Nat) : cs (cutS x (some ((a : Nat) : Int)) (some (((a : Nat) : Int) + 1))) = ((cs x).drop a).take 1 := by
  rw [show ((a : Nat) : Int) + 1 = ((a + 1 : Nat) : Int) by omega, cs_cut _ _ _ (by omega), show a + 1 - a = 1 by omega]
theorem cs_at1 (x : Str) (a : Nat) : cs (cutS x (some (((a : Nat) : Int) + 1)) (some (((a : Nat) : Int) + 2))) = ((cs x).drop (a + 1)).take 1 := by
  rw [show ((a : Nat) : Int) + 1 = ((a + 1 : Nat) : Int) by omega, show ((a : Nat) : Int) + 2 = ((a + 2 : Nat) : Int) by omega, cs_cut _ _ _ (by omega), show a + 2 - (a + 1) = 1 by omega]
theorem test_at {l : List Nat} {c : Nat} : decide (l.take 1 = [c]) = decide (l.head? = some c) := by
  simp only [head_take]
theorem lp_none {f : List Nat → Option (D × List Nat)} {k : Nat} {acc : List D} {l : List Nat} (h : f l = none) : lp f (k + 1) acc l = none := by
  show (match f l with | none => none | some (d, r) => _) = _
  rw [h]
theorem lp_end {f : List Nat → Option (D × List Nat)} {k : Nat} {acc : List D} {l r : List Nat} {d : D} (h : f l = some (d, 41 :: r)) : lp f (k + 1) acc l = some (.t (acc ++ [d]), r) := by
  show (match f l with | none => none | some (d, r) => _) = _
  rw [h]
  rfl
theorem lp_more {f : List Nat → Option (D × List Nat)} {k : Nat} {acc : List D} {l r : List Nat} {d : D} (h : f l = some (d, 32 :: r)) : lp f (k + 1) acc l = lp f k (acc ++ [d]) r := by
  show (match f l with | none => none | some (d, r) => _) = _
  rw [h]
  rfl
theorem lp_bad {f : List Nat → Option (D × List Nat)} {k : Nat} {acc : List D} {l r : List Nat} {d : D} (h : f l = some (d, r)) (h1 : r.head? ≠ some 41) (h2 : r.head? ≠ some 32) : lp f (k + 1) acc l = none := by
  show (match f l with | none => none | some (d, r) => _) = _
  rw [h]
  cases r with
  | nil => rfl
  | cons c r' =>
    show (if c = 41 then _ else if c = 32 then _ else none) = _
    rw [if_neg (fun e => h1 (by rw [e]; rfl)), if_neg (fun e => h2 (by rw [e]; rfl))]
theorem head_drop {l : List Nat} {e c : Nat} (h : (l.drop e).head? = some c) : e + 1 ≤ l.length ∧ l.drop e = c :: l.drop (e + 1) := by
  by_cases he : e < l.length
  · rw [List.drop_eq_getElem_cons he] at h ⊢
    have h : some l[e] = some c := h
    injection h with h
    rw [h]
    exact ⟨he, rfl⟩
  · rw [List.drop_eq_nil_of_le (by omega)] at h
    cases h
theorem ok_item {n : Nat} (F : Fun K "_law_item" "_law_item" sItem f fd) (G : Cal P w K mg base "_law_item" (n + 2) ["text", "at"] (spItem n) f fd) (R : Cal P w K mg base "_law_run" 1 ["text", "at", "signs"] spRun g gd) (U : Cal P w K mg base "_law_number" 1 ["figures"] spNum g2 gd2)
    (ml : mg "len" = none) (mr : mg "range" = none) (mt : mg "tuple" = none) : FnOk P w K mg base CX0 (n + 3) f fd ["text", "at"] (spItem (n + 1)) := by
  refine F.ok scItem (fun vs H Q E h => ?_) (fun cdv A outer s H vs Q E hr h => ?_)
  · obtain ⟨x, a, rfl, _⟩ := h
    rfl
  obtain ⟨x, a, rfl, ha, hxl, _, hbal, q1, q2⟩ := h
  refine ⟨_, pss_cons (ps_set (i := 2) scItem.nd rfl (Or.inl rfl) (pe_slice sl_str (pv 0) (po_some (pv 1)) (po_some (pe_op op_add (pv 1) pe_int))))
    (pss_cons (ps_if (pt_cmpR op_eq (pv 2) pe_str (nomark _))
      (pss_cons (ps_if (pt_cmpR op_eq (pe_slice sl_str (pv 0) (po_some (pe_op op_add (pv 1) pe_int)) (po_some (pe_op op_add (pv 1) pe_int))) pe_str (nomark _))
          (pss_one (ps_ret (pe_tup (pa_cons (pe_tup pa_nil) (pa_cons (pe_op op_add (pv 1) pe_int) pa_nil))))) pss_nil)
      (pss_cons (ps_set (i := 3) scItem.nd rfl (Or.inl rfl) (pe_lst pa_nil))
      (pss_cons (ps_for PassesOwn.never rfl (pi_range1 rfl mr (pa_cons (pe_callB call_len_str rfl ml PySem.boot_len (pa_cons (pv 0) pa_nil)) pa_nil)) (pg_name (i := 4) scItem.nd rfl (Or.inl rfl))
        (pss_cons (ps_set (i := 5) scItem.nd rfl (Or.inl rfl) (pe_call G.ok hr rfl G.m G.k G.b .nil pass0 (pa_cons (pv 0) (pa_cons (pe_op op_add (pv 1) pe_int) pa_nil))))
        (pss_cons (ps_if (pt_cmpR op_isN (pv 5) pe_non (nomark _)) (pss_one (ps_ret pe_non)) pss_nil)
        (pss_cons (ps_expr (pe_bm PySem.F.plainAttrs_list PySem.F.slot_list_append PySem.F.type_list_append mt_append (pv 3) (pa_cons (pe_ix (r := rIxT K) ix_tup (pv 5) pe_int (fun _ _ => rfl)) pa_nil)))
        (pss_cons (ps_set (i := 1) scItem.nd rfl (Or.inl rfl) (pe_ix (r := rIxT K) ix_tup (pv 5) pe_int (fun _ _ => rfl)))
        (pss_cons (ps_if (pt_cmpR op_eq (pe_slice sl_str (pv 0) (po_some (pv 1)) (po_some (pe_op op_add (pv 1) pe_int))) pe_str (nomark _))
            (pss_one (ps_ret (pe_tup (pa_cons (pe_callTy call_tuple_of rfl mt boot_tuple (pa_cons (pv 3) pa_nil)) (pa_cons (pe_op op_add (pv 1) pe_int) pa_nil))))) pss_nil)
        (pss_one (ps_if (pt_cmpR op_ne (pe_slice sl_str (pv 0) (po_some (pv 1)) (po_some (pe_op op_add (pv 1) pe_int))) pe_str (nomark _)) (pss_one (ps_ret pe_non)) pss_nil))))))))
      (pss_one (ps_ret pe_non))))) pss_nil)
    (pss_cons (ps_set (i := 6) scItem.nd rfl (Or.inl rfl) (pe_call R.ok (hr.mono (by omega)) rfl R.m R.k R.b .nil pass0 (pa_cons (pv 0) (pa_cons (pv 1) (pa_cons pe_str pa_nil)))))
    (pss_cons (ps_if (pt_cmpR op_gt (pv 6) (pv 1) (nomark _)) (pss_one (ps_ret (pe_tup (pa_cons (pe_slice sl_str (pv 0) (po_some (pv 1)) (po_some (pv 6))) (pa_cons (pv 6) pa_nil))))) pss_nil)
    (pss_cons (ps_set (i := 7) scItem.nd rfl (Or.inl rfl) (pe_ifExp (pt_cmpR op_eq (pv 2) pe_str (nomark _)) (pe_op op_add (pv 1) pe_int) (pv 1)))
    (pss_cons (ps_set (i := 6) scItem.nd rfl (Or.inl rfl) (pe_call R.ok (hr.mono (by omega)) rfl R.m R.k R.b .nil pass0 (pa_cons (pv 0) (pa_cons (pv 7) (pa_cons pe_str pa_nil)))))
    (pss_cons (ps_set (i := 8) scItem.nd rfl (Or.inl rfl) (pe_slice sl_str (pv 0) (po_some (pv 7)) (po_some (pv 6))))
    (pss_cons (ps_if (PW.pt (pw_or (pt_cmpR op_eq (pv 8) pe_str (nomark _)) (pw_or1 (PW.pt (pw_and (pt_cmpR op_eq (pe_ix ix_str (pv 8) pe_int (fun _ _ => rfl)) pe_str (nomark _)) (pw_and1 (PW.pt (pw_or (pt_cmpR op_ne (pv 8) pe_str (nomark _)) (pw_or1 (pt_cmpR op_eq (pv 2) pe_str (nomark _)))))))))))
        (pss_one (ps_ret pe_non)) pss_nil)
    (pss_one (ps_ret (pe_tup (pa_cons (pe_ifExp (pt_cmpR op_eq (pv 2) pe_str (nomark _)) (pe_un un_neg (pe_call U.ok (hr.mono (by omega)) rfl U.m U.k U.b .nil pass0 (pa_cons (pv 8) pa_nil))) (pe_call U.ok (hr.mono (by omega)) rfl U.m U.k U.b .nil pass0 (pa_cons (pv 8) pa_nil)))
        (pa_cons (pv 6) pa_nil)))))))))))), ?_⟩
  have hline := line_big
  have hxs : x.length ≤ sizeLine := str_len (n := 2000000) hxl (by decide)
  refine ⟨_, rfl, _, rfl, _, rfl, _, rfl, _, _, rfl, rfl, _, rfl, x, rfl, hxs, ?_⟩
  obtain ⟨fs, hfs⟩ : ∃ fs, fs = cutS x (some ((a : Nat) : Int)) (some (((a : Nat) : Int) + 1)) := ⟨_, rfl⟩
  have hf1 : cs fs = ((cs x).drop a).take 1 := by rw [hfs, cs_at]
  rw [← hfs]
  refine ⟨_, rfl, rfl, _, rfl, ?_⟩
  rw [lit_test, open_cs, hf1, test_at]
  by_cases hop : ((cs x).drop a).head? = some 40
  · rw [decide_eq_true hop]
    obtain ⟨ha1, hdr⟩ := head_drop hop
    rw [hdr, itm_open] at q1 q2
    obtain ⟨hn1, hb1⟩ := Bal.down (hdr ▸ hbal)
    have hb1 : Bal (n - 1) ((cs x).drop (a + 1)) := hb1
    refine iteT ⟨_, rfl, _, rfl, _, _, rfl, rfl, _, rfl, _, rfl, _, _, rfl, rfl, _, rfl, x, rfl, hxs, rfl, _, rfl, ?_⟩
    rw [lit_test, close_cs, cs_at1, test_at]
    by_cases hcl : ((cs x).drop (a + 1)).head? = some 41
    · rw [decide_eq_true hcl]
      obtain ⟨ha2, hdr2⟩ := head_drop hcl
      rw [if_pos hcl] at q2
      refine iteT ⟨(by show 0 ≤ sizeLine; omega), fun t ht => ⟨_, rfl, _, _, rfl, rfl, (by show 2 ≤ sizeLine; omega), fun p hp => ?_⟩⟩
      have st := (same_new ht (.tup []))
      have sp := (same_new hp (.tup [.ref t, .int ((a : Int) + 2)]))
      exact q2 _ _ rfl p (.ref t) (a + 2) _ (st.trans sp) upd_same (.t (sp _ _ upd_same) .nil) ha2 (by rw [hdr2]; rfl)
    rw [decide_eq_false hcl]
    rw [if_neg hcl] at q1 q2
    refine iteF ⟨(by show 0 ≤ sizeLine; omega), fun Dd hD => ?_⟩
    obtain ⟨RR, hRR⟩ : ∃ RR, lp (itm (cs x).length n) (cs x).length [] ((cs x).drop (a + 1)) = RR := ⟨_, rfl⟩
    rw [hRR] at q1 q2
    refine ⟨_, rfl, x, rfl, hxs, ((cs x).length : Int), congrArg (fun j : Nat => [V.int (j : Int)]) (len_cs x), by omega, by omega, ?_⟩
    refine for_range (lo := 0) (n := (cs x).length) (fun i σ H' => ∃ (b : Nat) (kk td : Option V) (acc : List D) (vs : List V), σ = [some (.str x), some (.int b), some (.str fs), some (.ref Dd), kk, td, none, none, none] ∧ Same H H' ∧ H' Dd = some (.lst vs) ∧ BeL H' vs acc ∧ b + 1 ≤ (cs x).length ∧
      Bal (n - 1) ((cs x).drop (b + 1)) ∧ lp (itm (cs x).length n) ((cs x).length - i) acc ((cs x).drop (b + 1)) = RR ∧ vs.length = i) ?_ (fun i σ H' hi pp => ?_) (fun σ H' pp => ?_)
    · exact ⟨a, none, none, [], [], rfl, same_new hD _, upd_same, .nil, ha1, hb1, hRR, rfl⟩
    · obtain ⟨b, kk, td, acc, vs, rfl, hs, hl, hbl, hb, hbb, hlp, hvl⟩ := pp
      obtain ⟨k, hk⟩ : ∃ k, (cs x).length - i = k + 1 := ⟨(cs x).length - i - 1, by omega⟩
      rw [hk] at hlp
      refine ⟨_, rfl, _, rfl, _, _, rfl, rfl, x, b + 1, rfl, hb, hxl, hn1, hbb, fun hnone H2 s2 => ?_, fun d r hsome p v e H2 s2 hp hbe he hdr => ?_⟩
      · rw [lp_none hnone] at hlp
        refine ⟨_, rfl, rfl, _, rfl, ?_⟩
        rw [decide_eq_true rfl]
        exact iteT (q1 hlp.symm _ (hs.trans s2))
      refine ⟨_, rfl, rfl, _, rfl, ?_⟩
      rw [decide_eq_false (by intro h; cases h)]
      have hl2 := s2 Dd _ hl
      have hs2 := hs.trans s2
      obtain ⟨hwd, hld⟩ := itm_some _ _ _ _ _ hsome
      rw [hld] at hbb
      have hbr := Bal.past hwd hbb
      have kt : ∀ a xs, H2 a = some (.tup xs) → (upd H2 Dd (.lst (vs ++ [v]))) a = some (.tup xs) := keep_mut hl2
      have hp3 := kt _ _ hp
      have hbl3 : BeL (upd H2 Dd (.lst (vs ++ [v]))) (vs ++ [v]) (acc ++ [d]) := ((hbl.mono (same_tup s2)).snoc hbe).mono kt
      have hs3 : Same H (upd H2 Dd (.lst (vs ++ [v]))) := same_mut hs2 hD
      refine iteF ⟨_, rfl, .inl ⟨rfl, _, SqL.of hl2⟩, _, rfl, p, _, 0, v, rfl, rfl, SqT.of hp, rfl, Dd, vs, v, rfl, rfl, hl2, by omega, ?_⟩
      refine ⟨_, rfl, p, _, 1, .int e, rfl, rfl, SqT.of hp3, rfl, ?_⟩
      refine ⟨_, rfl, _, rfl, _, rfl, _, rfl, _, _, rfl, rfl, _, rfl, x, rfl, hxs, rfl, _, rfl, ?_⟩
      rw [lit_test, close_cs, cs_at, test_at, hdr]
      by_cases h41 : r.head? = some 41
      · rw [decide_eq_true h41]
        rw [← hdr] at h41
        obtain ⟨he1, hde⟩ := head_drop h41
        rw [← hdr, hde] at hsome
        rw [lp_end hsome] at hlp
        refine iteT ⟨_, rfl, Dd, _, rfl, .inl ⟨SqL.of upd_same, fun t ht => ⟨_, rfl, _, _, rfl, rfl, (by show 2 ≤ sizeLine; omega), fun p2 hp2 => ?_⟩⟩⟩
        have st := (same_new ht (.tup (vs ++ [v])))
        have sp := (same_new hp2 (.tup [.ref t, .int ((e : Int) + 1)]))
        exact q2 _ _ hlp.symm p2 (.ref t) (e + 1) _ (hs3.trans (st.trans sp)) upd_same (.t (sp _ _ upd_same) (hbl3.mono (same_tup (st.trans sp)))) he1 rfl
      rw [decide_eq_false h41]
      refine iteF ⟨_, rfl, _, rfl, _, rfl, _, rfl, _, _, rfl, rfl, _, rfl, x, rfl, hxs, rfl, _, rfl, ?_⟩
      rw [lit_test, blank_cs, cs_at, test_at, hdr]
      by_cases h32 : r.head? = some 32
      · rw [decide_eq_true h32]
        rw [← hdr] at h32
        obtain ⟨he1, hde⟩ := head_drop h32
        rw [← hdr, hde] at hsome
        rw [lp_more hsome] at hlp
        rw [← hdr, hde] at hbr
        refine iteF ⟨e, _, _, acc ++ [d], vs ++ [v], rfl, hs3, upd_same, hbl3, he1, Bal.skip (by decide) hbr, ?_, by rw [List.length_append, hvl]; rfl⟩
        rw [show (cs x).length - (i + 1) = k by omega]
        exact hlp
      · rw [decide_eq_false h32]
        rw [lp_bad hsome h41 h32] at hlp
        exact iteT (q1 hlp.symm _ hs3)
    · obtain ⟨b, kk, td, acc, vs, rfl, hs, hl, hbl, hb, hbb, hlp, hvl⟩ := pp
      rw [Nat.sub_self] at hlp
      exact q1 hlp.symm _ hs
  · rw [decide_eq_false hop]
    rw [itm_not _ _ hop] at q1 q2
    obtain ⟨l, hl⟩ : ∃ l, (cs x).drop a = l := ⟨_, rfl⟩
    rw [hl] at q1 q2
    have hll : l.length = (cs x).length - a := by rw [← hl, List.length_drop]
    have hsp := span_eq isL l
    obtain ⟨w1, hw⟩ : ∃ w1, (spanL isL l).1 = w1 := ⟨_, rfl⟩
    obtain ⟨r1, hr1⟩ : ∃ r1, (spanL isL l).2 = r1 := ⟨_, rfl⟩
    rw [hw, hr1] at hsp
    have hwl : w1.length + r1.length = l.length := by rw [hsp, List.length_append]
    have hat : atm l = if !w1.isEmpty then some (.s w1, r1) else match figs (unsign l).1 (spanL isD (unsign l).2).1 with
        | some d => some (d, (spanL isD (unsign l).2).2)
        | none => none := by
      unfold atm
      rw [hw, hr1]
      try (cases figs (unsign l).1 (spanL isD (unsign l).2).1 <;> rfl)
    refine iteF ⟨_, rfl, _, rfl, x, lowS, a, isL, rfl, ha, hxl, low_mem, ?_⟩
    rw [hl, hw]
    refine ⟨_, rfl, _, rfl, _, _, rfl, rfl, _, rfl, ?_⟩
    by_cases hwe : w1 = []
    · subst hwe
      rw [decide_eq_false (by show ¬ ((a : Nat) : Int) < ((a + 0 : Nat) : Int); omega)]
      rw [hat, show (!([] : List Nat).isEmpty) = false from rfl, if_neg (by decide)] at q1 q2
      refine iteF ?_
      obtain ⟨neg, hneg⟩ : ∃ neg, (unsign l).1 = neg := ⟨_, rfl⟩
      obtain ⟨ul, hul⟩ : ∃ ul, (unsign l).2 = ul := ⟨_, rfl⟩
      have hue := unsign_eq l
      rw [hneg, hul] at hue
      have hsd := span_eq isD ul
      have hda := span_all isD ul
      obtain ⟨fd1, hfd⟩ : ∃ fd1, (spanL isD ul).1 = fd1 := ⟨_, rfl⟩
      obtain ⟨r2, hr2⟩ : ∃ r2, (spanL isD ul).2 = r2 := ⟨_, rfl⟩
      rw [hneg, hul, hfd, hr2] at q1 q2
      rw [hfd, hr2] at hsd
      rw [hfd] at hda
      have hminus : decide (l.head? = some 45) = neg := by
        cases neg with
        | true => exact decide_eq_true (by rw [hue]; rfl)
        | false =>
          refine decide_eq_false fun h => ?_
          cases l with
          | nil => cases h
          | cons c r =>
            have h : some c = some 45 := h
            injection h with h
            subst h
            cases hneg
      have start : ∀ Qx : VK, (∀ st : Nat, st ≤ (cs x).length → (cs x).drop st = ul → Qx (.int st) H) →
          (tIf (tTest (tOp rEq (tVar 2) (tC (V.str (Str.ofString "-"))))) (tOp (rI0 fun i j => V.int (i + j)) (tVar 1) (tC (V.int 1))) (tVar 1)) [some (.str x), some (.int a), some (.str fs), none, none, none, some (.int ((a + ([] : List Nat).length : Nat) : Int)), none, none] H Qx := by
        intro Qx qx
        refine ⟨_, rfl, rfl, _, rfl, ?_⟩
        rw [lit_test, minus_cs, hf1, hl, test_at, hminus]
        cases neg with
        | true =>
          have hue : l = 45 :: ul := hue
          have h45 : ((cs x).drop a).head? = some 45 := by rw [hl, hue]; rfl
          obtain ⟨h1, h2⟩ := head_drop h45
          rw [hl, hue] at h2
          injection h2 with _ h2
          exact iteT ⟨_, rfl, _, _, rfl, rfl, qx (a + 1) h1 h2.symm⟩
        | false => exact iteF ⟨_, rfl, qx a ha (by rw [hl]; exact hue)⟩
      refine start _ fun st hst hds => ?_
      have hull : ul.length = (cs x).length - st := by rw [← hds, List.length_drop]
      have hfl : fd1.length + r2.length = ul.length := by rw [hsd, List.length_append]
      refine ⟨_, rfl, _, rfl, x, digS, st, isD, rfl, hst, hxl, dig_mem2, ?_⟩
      rw [hds, hfd]
      refine ⟨_, rfl, _, rfl, _, rfl, _, rfl, _, rfl, x, rfl, hxs, ?_⟩
      obtain ⟨fg, hfg⟩ : ∃ fg, fg = cutS x (some ((st : Nat) : Int)) (some ((st + fd1.length : Nat) : Int)) := ⟨_, rfl⟩
      have hcf : cs fg = fd1 := by
        rw [hfg, cs_cut _ _ _ (by omega), hds, show st + fd1.length - st = fd1.length by omega]
        conv => lhs; rw [hsd]
        rw [List.take_left]
      rw [← hfg]
      have hfgs : fg.length ≤ sizeLine := str_len (n := 2000000) (by rw [hcf]; omega) (by decide)
      have hr2d : (cs x).drop (st + fd1.length) = r2 := by
        rw [← List.drop_drop, hds, hsd, List.drop_left]
      refine ⟨_, rfl, rfl, _, rfl, ?_⟩
      rw [lit_test, hcf, show cs (Str.ofString "") = [] by decide +kernel]
      by_cases hfe : fd1 = []
      · subst hfe
        rw [decide_eq_true rfl]
        exact iteT (iteT (q1 rfl H (Same.refl H)))
      rw [decide_eq_false hfe]
      obtain ⟨c, r, hcr⟩ : ∃ c r, fd1 = c :: r := by
        cases fd1 with
        | nil => exact absurd rfl hfe
        | cons c r => exact ⟨c, r, rfl⟩
      have bad : (c = 48 ∧ (fd1 ≠ [48] ∨ neg = true)) → figs neg fd1 = none := fun h => by
        unfold figs
        rw [if_neg (by rw [hcr]; simp), if_pos ⟨by rw [hcr, h.1]; rfl, h.2⟩]
      have good : ¬ (c = 48 ∧ (fd1 ≠ [48] ∨ neg = true)) → figs neg fd1 = some (.i (if neg then -((digitsVal fd1 : Nat) : Int) else ((digitsVal fd1 : Nat) : Int))) := fun h => by
        unfold figs
        rw [if_neg (by rw [hcr]; simp), if_neg (fun z => h ⟨by have := z.1; rw [hcr] at this; exact Option.some.inj this, z.2⟩)]
      have ret : figs neg fd1 = some (.i (if neg then -((digitsVal fd1 : Nat) : Int) else ((digitsVal fd1 : Nat) : Int))) →
          (tRet (tTup (tCons (tIf (tTest (tOp rEq (tVar 2) (tC (V.str (Str.ofString "-"))))) (tUn (rU fun i => V.int (-i)) (tCall spNum [] E0 (tCons (tVar 8) tNil))) (tCall spNum [] E0 (tCons (tVar 8) tNil))) (tCons (tVar 6) tNil))))
            { nx := fun x H' => Q V.non H', rt := Q } [some (.str x), some (.int a), some (.str fs), none, none, none, some (.int ((st + fd1.length : Nat) : Int)), some (.int st), some (.str fg)] H := by
        intro hg
        rw [hg] at q2
        have hal : AllDigits (cs fg) := by rw [hcf]; exact allD_iff.mp hda
        refine ⟨_, rfl, rfl, _, rfl, ?_⟩
        rw [lit_test, minus_cs, hf1, hl, test_at, hminus]
        cases neg with
        | true =>
          refine iteT ⟨_, rfl, fg, rfl, hal, by rw [hcf]; omega, _, rfl, _, rfl, (by show 2 ≤ sizeLine; omega), fun p hp => ?_⟩
          exact q2 _ _ rfl p _ (st + fd1.length) _ (same_new hp _) upd_same (by rw [hcf]; exact .i) (by omega) hr2d
        | false =>
          refine iteF ⟨_, rfl, fg, rfl, hal, by rw [hcf]; omega, _, rfl, (by show 2 ≤ sizeLine; omega), fun p hp => ?_⟩
          exact q2 _ _ rfl p _ (st + fd1.length) _ (same_new hp _) upd_same (by rw [hcf]; exact .i) (by omega) hr2d
      refine iteF ⟨_, rfl, fg, 0, c, rfl, rfl, hfgs, by show atI (cs fg) 0 = some c; rw [hcf, hcr]; exact atI_nat (j := 0) rfl, rfl, _, rfl, ?_⟩
      rw [lit_test, cs_lit0, show cs (⟨#[c]⟩ : Str) = [c] from rfl]
      by_cases hc : c = 48
      · rw [decide_eq_true (by rw [hc])]
        refine iteT ⟨_, rfl, rfl, _, rfl, ?_⟩
        rw [lit_test, cs_lit0, hcf]
        by_cases h48 : fd1 = [48]
        · rw [decide_eq_true h48]
          refine iteF ⟨_, rfl, rfl, _, rfl, ?_⟩
          rw [lit_test, minus_cs, hf1, hl, test_at, hminus]
          cases neg with
          | true =>
            rw [bad ⟨hc, .inr rfl⟩] at q1
            exact iteT (q1 rfl H (Same.refl H))
          | false =>
            refine iteF (ret (good fun h => ?_))
            rcases h.2 with h | h
            · exact h h48
            · cases h
        · rw [decide_eq_false h48]
          rw [bad ⟨hc, .inl h48⟩] at q1
          exact iteT (iteT (q1 rfl H (Same.refl H)))
      · rw [decide_eq_false (by intro h; injection h with h; exact hc h)]
        exact iteF (iteF (ret (good fun h => hc h.1)))
    · rw [decide_eq_true (by show ((a : Nat) : Int) < ((a + w1.length : Nat) : Int); have := List.length_pos_iff.mpr hwe; omega)]
      rw [hat, show (!w1.isEmpty) = true by cases w1 <;> simp at hwe ⊢, if_pos rfl] at q2
      refine iteT ⟨_, rfl, _, rfl, _, rfl, _, rfl, _, rfl, x, rfl, hxs, _, rfl, (by show 2 ≤ sizeLine; omega), fun p hp => ?_⟩
      refine q2 _ _ rfl p _ (a + w1.length) _ (same_new hp _) upd_same (.s ?_) (by omega) ?_
      · rw [cs_cut _ _ _ (by omega), hl, show a + w1.length - a = w1.length by omega]
        conv => lhs; rw [hsp]
        rw [List.take_left]
      · rw [← List.drop_drop, hl, hsp, List.drop_left]
end
end Mt
namespace Mt
open PySem PySem.Spec PyProof.Rows L2 PySem.NumText
theorem boot_ValueError : bootBuiltins "ValueError" = some (.type "ValueError") := by decide +kernel
theorem kit_st2 {K : PySem.W.Frag} : PySem.W.kitOne K (.type "str") (.type "tuple") = some false := kit_ty (by decide +kernel)
theorem kit_ib {K : PySem.W.Frag} : PySem.W.kitOne K (.type "int") (.type "bool") = some false := kit_ty (by decide +kernel)
/-- the due list: the one value, or nothing -/
def Due (H : Hp) (us : List V) : Option D → Prop
  | none => us = []
  | some d => ∃ v, us = [v] ∧ Be H v d
section
variable {P : Program} {w : World} {K : PySem.W.Frag} {mg : Str → Option Value} {base : Heap} {f g : Addr} {fd gd : FuncData} {g2 g3 : Addr} {gd2 gd3 : FuncData} {C : Addr}
def spLread (n : Nat) : Sp := fun vs H Q _ => ∃ x : Str, vs = [.str x] ∧ (cs x).length ≤ 2000000 ∧ Bal n (cs x) ∧ ∀ (p : Addr) (us : List V) (H' : Hp), Same H H' → H' p = some (.lst us) → Due H' us (mrun (cs x)) → Q (.ref p) H'
theorem scLread : FnScope ["text", "told"] ["text"] (defScope sLread) := ⟨rfl, rfl, rfl, by decide +kernel, rfl, by decide +kernel, by decide +kernel⟩
theorem ok_lread {n : Nat} (F : Fun K "_law_read" "_law_read" sLread f fd) (G : Cal P w K mg base "_law_item" (n + 3) ["text", "at"] (spItem (n + 1)) g gd) (ml : mg "len" = none) : FnOk P w K mg base CX0 (n + 4) f fd ["text"] (spLread n) := by
  refine F.ok scLread (fun vs H Q E h => ?_) (fun cdv A outer s H vs Q E hr h => ?_)
  · obtain ⟨x, rfl, _⟩ := h
    rfl
  obtain ⟨x, rfl, hxl, hb, q⟩ := h
  refine ⟨_, pss_cons (ps_set (i := 1) scLread.nd rfl (Or.inl rfl) (pe_call G.ok hr rfl G.m G.k G.b .nil pass0 (pa_cons (pv 0) (pa_cons pe_int pa_nil))))
    (pss_cons (ps_if (PW.pt (pw_or (pt_cmpR op_isN (pv 1) pe_non (nomark _)) (pw_or1 (pt_cmpR op_ne (pe_ix (r := rIxT K) ix_tup (pv 1) pe_int (fun _ _ => rfl)) (pe_callB call_len_str rfl ml PySem.boot_len (pa_cons (pv 0) pa_nil)) (nomark _)))))
      (pss_one (ps_ret (pe_lst pa_nil))) pss_nil)
    (pss_one (ps_ret (pe_lst (pa_cons (pe_ix (r := rIxT K) ix_tup (pv 1) pe_int (fun _ _ => rfl)) pa_nil))))), ?_⟩
  have hline := line_big
  have hxs : x.length ≤ sizeLine := str_len (n := 2000000) hxl (by decide)
  obtain ⟨a1, a2⟩ := read_agree hb
  have no : (∀ d, itm (cs x).length (n + 1) (cs x) ≠ some (d, [])) → mrun (cs x) = none := fun h => by
    cases hm : mrun (cs x) with
    | none => rfl
    | some d => exact absurd (a1 d hm) (h d)
  have empty : ∀ H1, Same H H1 → mrun (cs x) = none → (0 ≤ sizeLine ∧ ∀ p, H1 p = none → Q (.ref p) (upd H1 p (.lst []))) := fun H1 s1 hm =>
    ⟨by omega, fun p hp => q p [] _ (s1.trans (same_new hp _)) upd_same (by rw [hm]; rfl)⟩
  refine ⟨_, rfl, x, 0, rfl, Nat.zero_le _, hxl, Nat.succ_le_succ (Nat.zero_le _), hb, fun hnone H1 s1 => ?_, fun d r hsome p v e H1 s1 hp hbe he hde => ?_⟩
  · refine ⟨_, rfl, rfl, _, rfl, ?_⟩
    rw [decide_eq_true rfl]
    have hnone : itm (cs x).length (n + 1) (cs x) = none := hnone
    exact iteT (iteT (empty H1 s1 (no fun d h => by rw [hnone] at h; cases h)))
  · have hsome : itm (cs x).length (n + 1) (cs x) = some (d, r) := hsome
    refine ⟨_, rfl, rfl, _, rfl, ?_⟩
    rw [decide_eq_false (by intro h; cases h)]
    refine iteF ⟨_, rfl, p, _, 1, .int e, rfl, rfl, SqT.of hp, rfl, _, rfl, x, rfl, hxs, rfl, _, rfl, ?_⟩
    rw [len_cs]
    by_cases hel : e = (cs x).length
    · rw [show (!decide (V.int (e : Int) = V.int ((cs x).length : Int))) = false by rw [hel, decide_eq_true rfl]; rfl]
      have hr0 : r = [] := by rw [← hde, hel, List.drop_length]
      rw [hr0] at hsome
      refine iteF ⟨_, rfl, p, _, 0, v, rfl, rfl, SqT.of hp, rfl, (by show 1 ≤ sizeLine; omega), fun l hl => ?_⟩
      exact q l [v] _ (s1.trans (same_new hl _)) upd_same (by rw [a2 d hsome]; exact ⟨v, rfl, hbe.mono (same_tup (same_new hl _))⟩)
    · rw [show (!decide (V.int (e : Int) = V.int ((cs x).length : Int))) = true by
        rw [decide_eq_false]
        · rfl
        intro h
        injection h with h
        omega]
      refine iteT (empty H1 s1 (no fun d2 h => ?_))
      rw [hsome] at h
      injection h with h
      injection h with _ h
      rw [h] at hde
      have := congrArg List.length hde
      rw [List.length_drop, List.length_nil] at this
      omega

/-! ### the two are the same -/
def spSame (n : Nat) : Sp := fun vs H Q _ => ∃ (u v : V) (d : D), vs = [u, v] ∧ Be H u d ∧ Be H v d ∧ deep d < n ∧ (txt d).length ≤ 2000000 ∧ ∀ H', Same H H' → Q (.bl true) H'
theorem scSame : FnScope ["one", "two", "k"] ["one", "two"] (defScope sSame) := ⟨rfl, rfl, rfl, by decide +kernel, rfl, by decide +kernel, by decide +kernel⟩
theorem ds_len (ds : List D) : ds.length ≤ (gl (txts ds)).length + 1 := by
  have := gl_len (txts ds)
  have e2 : ds.length ≤ ((txts ds).map (·.length + 1)).sum := by
    rw [txts_map]
    clear this
    induction ds with
    | nil => exact Nat.le_refl _
    | cons x r ih =>
      simp only [List.map_cons, List.sum_cons, List.length_cons] at ih ⊢
      omega
  split at this <;> omega
theorem ok_same {n : Nat} (F : Fun K "_law_same" "_law_same" sSame f fd) (G : Cal P w K mg base "_law_same" n ["one", "two"] (spSame n) f fd)
    (ml : mg "len" = none) (mr : mg "range" = none) (mt : mg "tuple" = none) (mi : mg "isinstance" = none) (ms : mg "str" = none) (mn : mg "int" = none) (mb : mg "bool" = none) (ma : mg "all" = none) : FnOk P w K mg base CX0 (n + 1) f fd ["one", "two"] (spSame (n + 1)) := by
  refine F.ok scSame (fun vs H Q E h => ?_) (fun cdv A outer s H vs Q E hr h => ?_)
  · obtain ⟨u, v, d, rfl, _⟩ := h
    rfl
  obtain ⟨u, v, d, rfl, bu, bv, hd, hl, q⟩ := h
  refine ⟨_, pss_cons (ps_if (pt_val (pe_callB call_isi rfl mi boot_isinstance (pa_cons (pv 1) (pa_cons (pe_bltn (v := .ty "tuple") rfl mt boot_tuple rfl) pa_nil))))
      (pss_one (ps_ret (pe_and (pe_callB call_isi rfl mi boot_isinstance (pa_cons (pv 0) (pa_cons (pe_bltn (v := .ty "tuple") rfl mt boot_tuple rfl) pa_nil)))
        (pe_and (pe_cmpR op_eq (pe_callB call_len_seq rfl ml PySem.boot_len (pa_cons (pv 0) pa_nil)) (pe_callB call_len_seq rfl ml PySem.boot_len (pa_cons (pv 1) pa_nil)) (nomark _))
        (pe_one (pe_callB (cr_all rfl) rfl ma boot_all (pa_cons
          (pe_lc (own := [("k", 2)]) (g := gName 2) (tt := tYes) rfl scSame.nd (pi_range1 rfl mr (pa_cons (pe_callB call_len_seq rfl ml PySem.boot_len (pa_cons (pv 1) pa_nil)) pa_nil)) (blkOk_by (N := ["one", "two", "k"]) (sc := defScope sSame) (by decide +kernel))
            (fun _ _ _ _ _ => pg_name (i := 2) scSame.nd rfl (Or.inl rfl)) (fun _ _ _ _ _ => pts_nil)
            (fun _ _ _ _ _ => pe_call G.ok hr rfl G.m G.k G.b .nil pass0 (pa_cons (pe_ix (r := rIxT K) ix_tup (pv 0) (pv 2) (fun _ _ => rfl)) (pa_cons (pe_ix (r := rIxT K) ix_tup (pv 1) (pv 2) (fun _ _ => rfl)) pa_nil)))) pa_nil))))))) pss_nil)
    (pss_cons (ps_if (pt_val (pe_callB call_isi rfl mi boot_isinstance (pa_cons (pv 1) (pa_cons (pe_bltn (v := .ty "str") rfl ms boot_str rfl) pa_nil))))
      (pss_one (ps_ret (pe_and (pe_callB call_isi rfl mi boot_isinstance (pa_cons (pv 0) (pa_cons (pe_bltn (v := .ty "str") rfl ms boot_str rfl) pa_nil)))
        (pe_one (pe_cmpR op_eq (pv 0) (pv 1) (nomark _)))))) pss_nil)
    (pss_one (ps_ret (pe_and (pe_callB call_isi rfl mi boot_isinstance (pa_cons (pv 0) (pa_cons (pe_bltn (v := .ty "int") rfl mn boot_int rfl) pa_nil)))
      (pe_and (pe_not (pe_callB call_isi rfl mi boot_isinstance (pa_cons (pv 0) (pa_cons (pe_bltn (v := .ty "bool") rfl mb boot_bool rfl) pa_nil))))
      (pe_one (pe_cmpR op_eq (pv 0) (pv 1) (nomark _)))))))), ?_⟩
  have hline := line_big
  cases bu with
  | @s x l hx =>
    cases bv with
    | @s y _ hy =>
      have e : x = y := str_ext (by rw [hx, hy])
      subst e
      refine ⟨_, rfl, _, _, _, _, false, rfl, .ty "tuple", .base (.str _), kit_st2, _, rfl, iteF ?_⟩
      refine ⟨_, rfl, _, _, _, _, true, rfl, .ty "str", .base (.str _), kit_ss, _, rfl, iteT ?_⟩
      refine ⟨_, rfl, _, _, _, _, true, rfl, .ty "str", .base (.str _), kit_ss, _, rfl, iteT ⟨_, rfl, _, rfl, rfl, ?_⟩⟩
      rw [decide_eq_true rfl]
      exact q H (Same.refl H)
  | @i m =>
    cases bv
    refine ⟨_, rfl, _, _, _, _, false, rfl, .ty "tuple", .base (.int _), kit_ti, _, rfl, iteF ?_⟩
    refine ⟨_, rfl, _, _, _, _, false, rfl, .ty "str", .base (.int _), kit_si, _, rfl, iteF ?_⟩
    refine ⟨_, rfl, _, _, _, _, true, rfl, .ty "int", .base (.int _), kit_ii, _, rfl, iteT ?_⟩
    refine ⟨_, rfl, _, _, _, _, false, rfl, .ty "bool", .base (.int _), kit_ib, _, rfl, _, rfl, iteT ⟨_, rfl, _, rfl, rfl, ?_⟩⟩
    rw [decide_eq_true rfl]
    exact q H (Same.refl H)
  | @t a vs ds ha ra =>
    cases bv with
    | @t b ws _ hb rb =>
      have hl2 : (gl (txts ds)).length + 2 ≤ 2000000 := by
        have : (40 :: (gl (txts ds) ++ [41])).length ≤ 2000000 := hl
        rw [List.length_cons, List.length_append, List.length_singleton] at this
        omega
      have hd2 : deeps ds < n := by
        have : deeps ds + 1 < n + 1 := hd
        omega
      have hds := ds_len ds
      have hwl := rb.len
      have hvl := ra.len
      refine ⟨_, rfl, _, _, _, _, true, rfl, .ty "tuple", .base (.tup hb), kit_tt, _, rfl, iteT ?_⟩
      refine ⟨_, rfl, _, _, _, _, true, rfl, .ty "tuple", .base (.tup ha), kit_tt, _, rfl, iteT ?_⟩
      refine ⟨_, rfl, a, _, rfl, .inr (SqT.of ha), _, rfl, b, _, rfl, .inr (SqT.of hb), rfl, _, rfl, ?_⟩
      rw [hvl, hwl, decide_eq_true rfl]
      refine iteT ⟨_, rfl, b, _, rfl, .inr (SqT.of hb), (ds.length : Int), congrArg (fun j : Nat => [V.int (j : Int)]) hwl, by omega, by omega, fun D hD => ?_⟩
      refine lc_range (lo := 0) (n := ds.length) (fun i H1 => Same H H1 ∧ H1 D = some (.lst ((List.replicate i true).map V.bl))) ?_ (fun i H1 hi p => ?_) (fun H1 p => ?_)
      · exact ⟨same_new hD _, upd_same⟩
      · obtain ⟨hs, hDi⟩ := p
        obtain ⟨v1, d1, k1, k2, k3⟩ := ra.get2 (i := i) hi
        obtain ⟨v2, d2, m1, m2, m3⟩ := rb.get2 (i := i) hi
        rw [k2] at m2
        injection m2 with m2
        subst m2
        refine ⟨rfl, ?_⟩
        have ei : (0 : Int) + (i : Int) = ((i : Nat) : Int) := by omega
        rw [ei]
        refine ⟨_, rfl, _, rfl, a, _, _, v1, rfl, rfl, SqT.of (hs a _ ha), atI_nat k1, _, rfl, _, rfl, b, _, _, v2, rfl, rfl, SqT.of (hs b _ hb), atI_nat m1, v1, v2, d1, rfl, k3.mono (same_tup hs), m3.mono (same_tup hs), ?_, ?_, fun H2 s2 => ?_⟩
        · exact Nat.lt_of_le_of_lt (deep_in (Nat.le_refl _) k2) hd2
        · have := txt_in k2; omega
        · refine ⟨_, s2 D _ hDi, by rw [List.length_map, List.length_replicate]; omega, same_mut (hs.trans s2) hD, ?_⟩
          rw [upd_same, List.replicate_succ', List.map_append]
          rfl
      · obtain ⟨hs, hDi⟩ := p
        refine ⟨D, _, rfl, SqL.of hDi, ?_⟩
        have : (List.replicate ds.length true).all id = true := by simp
        rw [this]
        exact q H1 hs
end
end Mt
namespace Mt
open PySem PySem.Spec PyProof.Rows L2 PySem.NumText
/-- what a caught BadText answers -/
structure Err (K : PySem.W.Frag) (mg : Str → Option Value) (C I : Addr) : Prop where
  m : mg "BadText" = some (.ref C)
  c : L2.ExcC K C
  x : PySem.W.exmOne K (.ref C) (.ref C) = some true
  i : mg "IsthmusError" = some (.ref I)
  k1 : PySem.W.kitOne K (.ref C) (.ref I) = some true
  k2 : PySem.W.kitOne K (.ref C) (.type "ValueError") = some true
  v : mg "ValueError" = none
section
variable {P : Program} {w : World} {K : PySem.W.Frag} {mg : Str → Option Value} {base : Heap} {f g : Addr} {fd gd : FuncData} {g2 g3 : Addr} {gd2 gd3 : FuncData} {C I0 : Addr}
def spAsked (n : Nat) : Sp := fun vs H Q _ => ∃ (x : Str) (q : Addr) (us : List V), vs = [.str x, .ref q] ∧ H q = some (.lst us) ∧ (cs x).length ≤ 2000000 ∧ Due H us (mrun (cs x)) ∧ (∀ d, mrun (cs x) = some d → deep d < n) ∧ ∀ H', Same H H' → Q (.bl true) H'
theorem scAsked : FnScope ["text", "due", "told", "e"] ["text", "due"] (defScope sAsked) := ⟨rfl, rfl, rfl, by decide +kernel, rfl, by decide +kernel, by decide +kernel⟩
def tSuite (K : PySem.W.Frag) (C I : Addr) (a : Addr) (cls : Value) (d : Option Addr) : TS := fun D σ H => (cls = .ref C ∧ d = none) ∧
  tRet (tAndV (tOp (rEqD K) (tVar 1) (tLst tNil)) (tAndV (tCB (rIsE K C a) (tCons (tVar 3) (tCons (tC (.ref I)) tNil))) (tCB (rIsE K C a) (tCons (tVar 3) (tCons (tC (.ty "ValueError")) tNil))))) D σ H
theorem ok_asked {n : Nat} (F : Fun K "_law_asked" "_law_asked" sAsked f fd) (B : Err K mg C I0) (R : CalX P w K mg base "read" 3 ["text"] (spRead C) g gd) (S : Cal P w K mg base "_law_same" (n + 3) ["one", "two"] (spSame (n + 3)) g2 gd2)
    (ml : mg "len" = none) (mi : mg "isinstance" = none) : FnOk P w K mg base CX0 (n + 4) f fd ["text", "due"] (spAsked (n + 3)) := by
  refine F.ok scAsked (fun vs H Q E h => ?_) (fun cdv A outer s0 H vs Q E hr h => ?_)
  · obtain ⟨x, q, us, rfl, _⟩ := h
    rfl
  obtain ⟨x, q0, us, rfl, hq, hxl, due, hdp, q⟩ := h
  have hr3 : Room 3 (A.deeper (envOfC "_law_asked" (defScope sAsked) s0.heap.objs.size f cdv)) := hr.mono (by omega)
  refine ⟨_, pss_cons (ps_try_as (i := 3) (tb := fun W => tAsg (tCallS (spRead C) (WE W) (tCons (tVar 0) tNil)) (gName 2)) (ts := tSuite K C I0) (Wout := fun _ _ _ _ => False) rfl rfl scAsked.nd rfl rfl ⟨rfl, by decide, Or.inl B.m⟩ takes0
      (fun W pn xe tk _ => pss_one (ps_set (i := 2) scAsked.nd rfl (Or.inl rfl) (by exact (pe_callS R.ok hr3 rfl R.m R.k R.b (fun σ => passAt tk σ) (by exact (pa_cons (pv 0) pa_nil))))))
      (fun a oe cls d pn hz hf => ⟨fun pins s σ H D I h => ?_⟩))
    (pss_one (ps_ret (pe_and (pe_cmpR op_eq (pe_callB call_len_seq rfl ml PySem.boot_len (pa_cons (pv 1) pa_nil)) pe_int (nomark _))
      (pe_one (pe_call S.ok hr rfl S.m S.k S.b .nil pass0 (pa_cons (pv 2) (pa_cons (pe_ix ix_list (pv 1) pe_int (fun _ _ => rfl)) pa_nil))))))), ?_⟩
  · obtain ⟨⟨rfl, rfl⟩, h⟩ := h
    have hu : (A.deeper (envOfC "_law_asked" (defScope sAsked) s0.heap.objs.size f cdv)).units + 64 < cLine := by have := hr3.un; omega
    refine L2.PSs.run ?_ pins s σ H D I h
    exact pss_one (ps_ret (pe_and (pe_cmpR (op_eqD hu) (pv 1) (pe_lst pa_nil) (nomark _))
      (pe_and (pe_callB (call_isE B.c hz hf) rfl mi boot_isinstance (pa_cons (pv 3) (pa_cons (pe_glob (v := .ref I0) rfl B.i rfl) pa_nil)))
      (pe_one (pe_callB (call_isE B.c hz hf) rfl mi boot_isinstance (pa_cons (pv 3) (pa_cons (pe_bltn (v := .ty "ValueError") rfl B.v boot_ValueError rfl) pa_nil)))))))
  have hline := line_big
  refine ⟨_, rfl, x, rfl, hxl, fun d hm v H' s' b' => ?_, fun hm H' s' => ⟨true, B.x, fun _ a ha => ⟨⟨rfl, rfl⟩, ?_⟩, fun h => by cases h⟩⟩
  · rw [hm] at due
    obtain ⟨v2, rfl, hv2⟩ := due
    obtain ⟨e1, hw⟩ := mrun_some hm
    refine ⟨_, rfl, q0, _, rfl, .inl (SqL.of (s' _ _ hq)), rfl, _, rfl, ?_⟩
    have h1 : decide (V.int (([v2].length : Nat) : Int) = V.int 1) = true := rfl
    rw [h1]
    refine iteT ⟨_, rfl, _, rfl, q0, _, 0, v2, rfl, rfl, SqL.of (s' _ _ hq), rfl, v, v2, d, rfl, b', hv2.mono (same_tup s'), hdp d hm, by rw [e1]; exact hxl, fun H2 s2 => q H2 (s'.trans s2)⟩
  · rw [hm] at due
    have due : us = [] := due
    subst due
    refine ⟨_, rfl, (by show 0 ≤ sizeLine; omega), fun p hp => ⟨.list [], .list [], .lst (SqL.of (same_new hp _ _ _ (s' _ _ hq))) .nil, .lst (SqL.of upd_same) .nil, by decide +kernel, by decide +kernel, _, rfl, ?_⟩⟩
    refine iteT ⟨_, rfl, .ref I0, .ref I0, true, rfl, (fun u h => h), B.k1, _, rfl, iteT ⟨_, rfl, .ty "ValueError", .type "ValueError", true, rfl, (fun u h => h), B.k2, ?_⟩⟩
    exact q _ (s'.trans (same_new hp _))
end
end Mt
namespace Mt
open PySem PySem.Spec PyProof.Rows L2 PySem.NumText
/-! ### a text spoilt at one place: at most two brackets more -/
def Near (l l' : List Nat) : Prop := l'.length ≤ l.length + 2 ∧ ∀ n, Bal n l → Bal (n + 2) l'
theorem bal_len : ∀ l : List Nat, bal l ≤ l.length ∧ -(l.length : Int) ≤ bal l
  | [] => ⟨by decide, by decide⟩
  | c :: r => by
    have h := bal_len r
    have h1 := bal_one c
    have e : bal (c :: r) = bal [c] + bal r := bal_append [c] r
    rw [e, List.length_cons]
    omega
theorem near_mid {A M M' Z l l' : List Nat} (e : l = A ++ (M ++ Z)) (e' : l' = A ++ (M' ++ Z)) (h1 : M'.length ≤ 2) (h2 : bal M' ≤ bal M + 2) : Near l l' := by
  subst e e'
  refine ⟨by simp only [List.length_append]; omega, fun n b i => ?_⟩
  rw [take_app, take_app]
  by_cases hi : i ≤ A.length
  · have := b i
    rw [take_app, show i - A.length = 0 by omega, List.take_zero] at this
    rw [show i - A.length = 0 by omega, List.take_zero, show 0 - M'.length = 0 by omega, List.take_zero]
    show bal (A.take i) + (0 + 0) ≤ _
    have e0 : bal ([] : List Nat) = 0 := rfl
    rw [e0] at this
    omega
  · rw [List.take_of_length_le (l := A) (by omega)]
    by_cases hj : i - A.length ≤ M'.length
    · have hb := b A.length
      rw [take_app, Nat.sub_self, List.take_zero, List.take_of_length_le (l := A) (Nat.le_refl _), show bal ([] : List Nat) = 0 from rfl] at hb
      have hm := (bal_len (M'.take (i - A.length))).1
      rw [List.length_take] at hm
      rw [show i - A.length - M'.length = 0 by omega, List.take_zero, show bal ([] : List Nat) = 0 from rfl]
      omega
    · have hb := b (A.length + (M.length + (i - A.length - M'.length)))
      rw [take_app, take_app, List.take_of_length_le (l := A) (by omega), show A.length + (M.length + (i - A.length - M'.length)) - A.length = M.length + (i - A.length - M'.length) by omega,
        List.take_of_length_le (l := M) (by omega), show M.length + (i - A.length - M'.length) - M.length = i - A.length - M'.length by omega] at hb
      rw [List.take_of_length_le (l := M') (by omega)]
      omega
theorem near_take (l : List Nat) (k : Nat) : Near l (l.take k) := by
  refine ⟨by rw [List.length_take]; omega, fun n b i => ?_⟩
  rw [List.take_take]
  have := b (min i k)
  omega
theorem split3 (l : List Nat) (k : Nat) : l = l.take k ++ ((l.drop k).take 1 ++ l.drop (k + 1)) := by
  have h : (l.drop k).take 1 ++ l.drop (k + 1) = l.drop k := by
    rw [← List.drop_drop, List.take_append_drop]
  rw [h, List.take_append_drop]
theorem one_or (l : List Nat) : l.take 1 = [] ∨ ∃ c, l.take 1 = [c] := by
  cases l with
  | nil => exact .inl rfl
  | cons c r => exact .inr ⟨c, rfl⟩
theorem take1_bal (l : List Nat) : (l.take 1).length ≤ 1 ∧ -1 ≤ bal (l.take 1) ∧ bal (l.take 1) ≤ 1 := by
  rcases one_or l with e | ⟨c, e⟩
  · rw [e]; exact ⟨by decide, by decide, by decide⟩
  · rw [e]; exact ⟨Nat.le_refl 1, (bal_one c).1, (bal_one c).2⟩
theorem near_put (l : List Nat) (k c : Nat) : Near l (l.take k ++ [c] ++ l.drop k) :=
  near_mid (A := l.take k) (M := []) (M' := [c]) (Z := l.drop k) (by simp) (by simp) (Nat.le_succ 1) (by have := (bal_one c).2; show bal [c] ≤ 0 + 2; omega)
theorem near_cut (l : List Nat) (k : Nat) : Near l (l.take k ++ l.drop (k + 1)) :=
  near_mid (A := l.take k) (M := (l.drop k).take 1) (M' := []) (Z := l.drop (k + 1)) (split3 l k) (by simp) (by decide) (by have := (take1_bal (l.drop k)).2.1; show 0 ≤ _; omega)
theorem near_swap (l : List Nat) (k c : Nat) : Near l (l.take k ++ [c] ++ l.drop (k + 1)) :=
  near_mid (A := l.take k) (M := (l.drop k).take 1) (M' := [c]) (Z := l.drop (k + 1)) (split3 l k) (by simp) (Nat.le_succ 1) (by have := (take1_bal (l.drop k)).2.1; have := (bal_one c).2; omega)
theorem near_twice (l : List Nat) (k : Nat) : Near l (l.take k ++ (l.drop k).take 1 ++ l.drop k) :=
  near_mid (A := l.take k) (M := []) (M' := (l.drop k).take 1) (Z := l.drop k) (by simp) (by rw [List.append_assoc]) (by have := (take1_bal (l.drop k)).1; omega) (by have := (take1_bal (l.drop k)).2.2; show _ ≤ (0 : Int) + 2; omega)
theorem near_turn (l : List Nat) (k : Nat) : Near l (l.take k ++ (l.drop (k + 1)).take 1 ++ (l.drop k).take 1 ++ l.drop (k + 2)) := by
  refine near_mid (A := l.take k) (M := (l.drop k).take 1 ++ (l.drop (k + 1)).take 1) (M' := (l.drop (k + 1)).take 1 ++ (l.drop k).take 1) (Z := l.drop (k + 2)) ?_ (by simp) ?_ ?_
  · have h1 := split3 l k
    have h2 : (l.drop (k + 1)).take 1 ++ l.drop (k + 2) = l.drop (k + 1) := by
      rw [show k + 2 = k + 1 + 1 from rfl, ← List.drop_drop (i := 1) (j := k + 1), List.take_append_drop]
    rw [List.append_assoc, h2]
    exact h1
  · have a := (take1_bal (l.drop k)).1
    have b := (take1_bal (l.drop (k + 1))).1
    rw [List.length_append]; omega
  · rw [bal_append, bal_append]; omega
theorem near_end (l z : List Nat) (h : z.length ≤ 2) : Near l (l ++ z) :=
  near_mid (A := l) (M := []) (M' := z) (Z := []) (by simp) (by simp) h (by have := (bal_len z).1; show bal z ≤ 0 + 2; omega)
theorem near_front (l z : List Nat) (h : z.length ≤ 2) : Near l (z ++ l) :=
  near_mid (A := []) (M := []) (M' := z) (Z := l) (by simp) (by simp) h (by have := (bal_len z).1; show bal z ≤ 0 + 2; omega)
theorem near_twice32 {x y : Str} (h : Twice x y) : Near (cs x) (cs y) := by
  rcases h with e | ⟨a, b, e1, e2⟩
  · rw [e]; exact ⟨by omega, fun n b => b.mono (by omega)⟩
  · rw [e1, e2]
    exact near_mid (A := a) (M := [32]) (M' := [32, 32]) (Z := b) rfl rfl (by decide) (by decide)
theorem cs_pre (x : Str) (k : Nat) : cs (cutS x none (some ((k : Nat) : Int))) = (cs x).take k := by
  show (((cs x).drop (HT.sIx x.length 0 none)).take (HT.sIx x.length x.length (some ((k : Nat) : Int)) - HT.sIx x.length 0 none)).toArray.toList = _
  rw [HT.sIx_nat, HT.sIx_none, List.toList_toArray, List.drop_zero, Nat.sub_zero, len_cs]
  by_cases h : (cs x).length ≤ k
  · rw [show min k (cs x).length = (cs x).length by omega, List.take_length, List.take_of_length_le h]
  · rw [show min k (cs x).length = k by omega]
theorem cs_suf (x : Str) (k : Nat) : cs (cutS x (some ((k : Nat) : Int)) none) = (cs x).drop k := by
  show (((cs x).drop (HT.sIx x.length 0 (some ((k : Nat) : Int)))).take (HT.sIx x.length x.length none - HT.sIx x.length 0 (some ((k : Nat) : Int)))).toArray.toList = _
  rw [HT.sIx_nat, HT.sIx_none, List.toList_toArray, len_cs]
  by_cases h : (cs x).length ≤ k
  · rw [show min k (cs x).length = (cs x).length by omega, List.drop_length, List.drop_eq_nil_of_le h]; simp
  · rw [show min k (cs x).length = k by omega, List.take_of_length_le (by rw [List.length_drop]; exact Nat.le_refl _)]
end Mt
namespace Mt
open PySem PySem.Spec PyProof.Rows L2 PySem.NumText
theorem fit {u v : Str} {m n : Nat} (hu : (cs u).length ≤ m) (hv : (cs v).length ≤ n) (h : m + n ≤ 16000000) : u.length + v.length ≤ sizeLine := by
  have := line_big
  rw [len_cs, len_cs]; omega
theorem app_le {u v : Str} {m n : Nat} (hu : (cs u).length ≤ m) (hv : (cs v).length ≤ n) : (cs (u ++ v)).length ≤ m + n := by
  rw [cs_app, List.length_append]; omega
theorem pre_le (x : Str) (k : Nat) : (cs (cutS x none (some ((k : Nat) : Int)))).length ≤ (cs x).length := by rw [cs_pre, List.length_take]; omega
theorem suf_le (x : Str) (k : Nat) : (cs (cutS x (some ((k : Nat) : Int)) none)).length ≤ (cs x).length := by rw [cs_suf, List.length_drop]; omega
theorem cs_suf1 (x : Str) (k : Nat) : cs (cutS x (some (((k : Nat) : Int) + 1)) none) = (cs x).drop (k + 1) := cs_suf x (k + 1)
theorem cs_suf2 (x : Str) (k : Nat) : cs (cutS x (some (((k : Nat) : Int) + 2)) none) = (cs x).drop (k + 2) := cs_suf x (k + 2)
theorem suf1_le (x : Str) (k : Nat) : (cs (cutS x (some (((k : Nat) : Int) + 1)) none)).length ≤ (cs x).length := suf_le x (k + 1)
theorem suf2_le (x : Str) (k : Nat) : (cs (cutS x (some (((k : Nat) : Int) + 2)) none)).length ≤ (cs x).length := suf_le x (k + 2)
theorem at_le (x : Str) (k : Nat) : (cs (cutS x (some ((k : Nat) : Int)) (some (((k : Nat) : Int) + 1)))).length ≤ 1 := by rw [cs_at, List.length_take]; omega
theorem at1_le (x : Str) (k : Nat) : (cs (cutS x (some (((k : Nat) : Int) + 1)) (some (((k : Nat) : Int) + 2)))).length ≤ 1 := by rw [cs_at1, List.length_take]; omega
theorem one_le (c : Nat) : (cs (⟨#[c]⟩ : Str)).length ≤ 1 := Nat.le_refl 1
theorem menuE : ∀ j : Nat, j < 6 → ∃ z : Str, ([V.str (Str.ofString " "), V.str (Str.ofString ")"), V.str (Str.ofString "a"), V.str (Str.ofString "0"), V.str (Str.ofString " a"), V.str (Str.ofString "()")] : List V)[j]? = some (V.str z) ∧ (cs z).length ≤ 2
  | 0, _ => ⟨_, rfl, by decide +kernel⟩ | 1, _ => ⟨_, rfl, by decide +kernel⟩ | 2, _ => ⟨_, rfl, by decide +kernel⟩ | 3, _ => ⟨_, rfl, by decide +kernel⟩ | 4, _ => ⟨_, rfl, by decide +kernel⟩ | 5, _ => ⟨_, rfl, by decide +kernel⟩
  | n + 6, h => absurd h (by omega)
theorem menuF : ∀ j : Nat, j < 6 → ∃ z : Str, ([V.str (Str.ofString " "), V.str (Str.ofString "("), V.str (Str.ofString "0"), V.str (Str.ofString "-"), V.str (Str.ofString "00"), V.str (Str.ofString "+")] : List V)[j]? = some (V.str z) ∧ (cs z).length ≤ 2
  | 0, _ => ⟨_, rfl, by decide +kernel⟩ | 1, _ => ⟨_, rfl, by decide +kernel⟩ | 2, _ => ⟨_, rfl, by decide +kernel⟩ | 3, _ => ⟨_, rfl, by decide +kernel⟩ | 4, _ => ⟨_, rfl, by decide +kernel⟩ | 5, _ => ⟨_, rfl, by decide +kernel⟩
  | n + 6, h => absurd h (by omega)
section
variable {P : Program} {w : World} {K : PySem.W.Frag} {mg : Str → Option Value} {base : Heap} {f g : Addr} {fd gd : FuncData} {g2 g3 : Addr} {gd2 gd3 : FuncData}
def spSpoilt : Sp := fun vs H Q _ => ∃ (b : Addr) (x : Str), vs = [.ref b, .str x] ∧ BoxAt H b ∧ (cs x).length ≤ 1900000 ∧ ∀ (y : Str) (H' : Hp), Gr b H H' → Near (cs x) (cs y) → Q (.str y) H'
theorem scSpoilt : FnScope ["box", "text", "at", "signs", "sign", "way"] ["box", "text"] (defScope sSpoilt) := ⟨rfl, rfl, rfl, by decide +kernel, rfl, by decide +kernel, by decide +kernel⟩
theorem ok_spoilt (F : Fun K "_law_spoilt" "_law_spoilt" sSpoilt f fd) (T : Cal P w K mg base "_law_take" 1 ["box", "many"] spTake g gd) (ml : mg "len" = none) : FnOk P w K mg base CX0 2 f fd ["box", "text"] spSpoilt := by
  refine F.ok scSpoilt (fun vs H Q E h => ?_) (fun cdv A outer s H vs Q E hr h => ?_)
  · obtain ⟨b, x, rfl, _⟩ := h
    rfl
  obtain ⟨b, x, rfl, hb, hxl, q⟩ := h
  refine ⟨_, pss_cons (ps_set (i := 2) scSpoilt.nd rfl (Or.inl rfl) (pe_call T.ok hr rfl T.m T.k T.b .nil pass0 (pa_cons (pv 0) (pa_cons (pe_op op_add (pe_callB call_len_str rfl ml PySem.boot_len (pa_cons (pv 1) pa_nil)) pe_int) pa_nil))))
    (pss_cons (ps_set (i := 3) scSpoilt.nd rfl (Or.inl rfl) (pe_op op_add_str pe_str pe_str))
    (pss_cons (ps_set (i := 4) scSpoilt.nd rfl (Or.inl rfl) (pe_ix ix_str (pv 3) (pe_call T.ok hr rfl T.m T.k T.b .nil pass0 (pa_cons (pv 0) (pa_cons (pe_callB call_len_str rfl ml PySem.boot_len (pa_cons (pv 3) pa_nil)) pa_nil))) (fun _ _ => rfl)))
    (pss_cons (ps_set (i := 5) scSpoilt.nd rfl (Or.inl rfl) (pe_call T.ok hr rfl T.m T.k T.b .nil pass0 (pa_cons (pv 0) (pa_cons pe_int pa_nil))))
    (pss_cons (ps_if (pt_cmpR op_eq (pv 5) pe_int (nomark _)) (pss_one (ps_ret (pe_op op_add_str (pe_op op_add_str (pe_slice sl_str (pv 1) po_none (po_some (pv 2))) (pv 4)) (pe_slice sl_str (pv 1) (po_some (pv 2)) po_none)))) pss_nil)
    (pss_cons (ps_if (pt_cmpR op_eq (pv 5) pe_int (nomark _)) (pss_one (ps_ret (pe_op op_add_str (pe_slice sl_str (pv 1) po_none (po_some (pv 2))) (pe_slice sl_str (pv 1) (po_some (pe_op op_add (pv 2) pe_int)) po_none)))) pss_nil)
    (pss_cons (ps_if (pt_cmpR op_eq (pv 5) pe_int (nomark _)) (pss_one (ps_ret (pe_op op_add_str (pe_op op_add_str (pe_slice sl_str (pv 1) po_none (po_some (pv 2))) (pv 4)) (pe_slice sl_str (pv 1) (po_some (pe_op op_add (pv 2) pe_int)) po_none)))) pss_nil)
    (pss_cons (ps_if (pt_cmpR op_eq (pv 5) pe_int (nomark _)) (pss_one (ps_ret (pe_op op_add_str (pe_op op_add_str (pe_slice sl_str (pv 1) po_none (po_some (pv 2))) (pe_slice sl_str (pv 1) (po_some (pv 2)) (po_some (pe_op op_add (pv 2) pe_int)))) (pe_slice sl_str (pv 1) (po_some (pv 2)) po_none)))) pss_nil)
    (pss_cons (ps_if (pt_cmpR op_eq (pv 5) pe_int (nomark _)) (pss_one (ps_ret (pe_op op_add_str (pe_op op_add_str (pe_op op_add_str (pe_slice sl_str (pv 1) po_none (po_some (pv 2))) (pe_slice sl_str (pv 1) (po_some (pe_op op_add (pv 2) pe_int)) (po_some (pe_op op_add (pv 2) pe_int))))
        (pe_slice sl_str (pv 1) (po_some (pv 2)) (po_some (pe_op op_add (pv 2) pe_int)))) (pe_slice sl_str (pv 1) (po_some (pe_op op_add (pv 2) pe_int)) po_none)))) pss_nil)
    (pss_cons (ps_if (pt_cmpR op_eq (pv 5) pe_int (nomark _)) (pss_one (ps_ret (pe_op op_add_str (pv 1) (pe_ix ix_list (pe_lst (pa_cons pe_str (pa_cons pe_str (pa_cons pe_str (pa_cons pe_str (pa_cons pe_str (pa_cons pe_str pa_nil))))))) (pe_call T.ok hr rfl T.m T.k T.b .nil pass0 (pa_cons (pv 0) (pa_cons pe_int pa_nil))) (fun _ _ => rfl))))) pss_nil)
    (pss_cons (ps_if (pt_cmpR op_eq (pv 5) pe_int (nomark _)) (pss_one (ps_ret (pe_op op_add_str (pe_ix ix_list (pe_lst (pa_cons pe_str (pa_cons pe_str (pa_cons pe_str (pa_cons pe_str (pa_cons pe_str (pa_cons pe_str pa_nil))))))) (pe_call T.ok hr rfl T.m T.k T.b .nil pass0 (pa_cons (pv 0) (pa_cons pe_int pa_nil))) (fun _ _ => rfl)) (pv 1)))) pss_nil)
    (pss_ifT (pv 5) (pss_one (ps_ret (pe_slice sl_str (pv 1) po_none (po_some (pv 2))))) (CwR.psst_one (CwR.pst_ret (pet_repl1 (pv 1) blank_cs (by decide +kernel))))))))))))))), ?_⟩
  have hline := line_big
  have hxs : x.length ≤ sizeLine := str_len (n := 1900000) hxl (by decide)
  refine ⟨_, rfl, _, rfl, x, rfl, hxs, _, _, rfl, rfl, b, _, rfl, hb, by omega, by rw [len_cs]; omega, fun k H1 k0 k1 g1 => ?_⟩
  obtain ⟨k, rfl⟩ := Int.eq_ofNat_of_zero_le k0
  refine ⟨_, _, rfl, rfl, by decide +kernel, ?_⟩
  obtain ⟨sg, hsg⟩ : ∃ sg : Str, Str.ofString " ()-0123456789abzAZ_,.\t\n+'/:;\x40[]{}|~!#*=<>?^&$yByY" ++ Str.ofString "`\\\"" = sg := ⟨_, rfl⟩
  have hsl : (cs sg).length = 53 := by rw [← hsg]; decide +kernel
  rw [hsg]
  have hsgs : sg.length ≤ sizeLine := str_len (n := 100) (by rw [hsl]; decide) (by decide)
  refine ⟨_, rfl, _, rfl, _, rfl, sg, rfl, hsgs, b, _, rfl, g1.boxAt, by rw [len_cs, hsl]; decide, by rw [len_cs, hsl]; decide, fun j H2 j0 j1 g2 => ?_⟩
  obtain ⟨j, rfl⟩ := Int.eq_ofNat_of_zero_le j0
  have hj : j < (cs sg).length := by rw [len_cs] at j1; omega
  obtain ⟨c, hc⟩ : ∃ c, (cs sg)[j]? = some c := ⟨_, List.getElem?_eq_getElem hj⟩
  refine ⟨sg, _, c, rfl, rfl, hsgs, atI_nat hc, ?_⟩
  refine ⟨_, rfl, b, 9, rfl, g2.boxAt, by decide, by decide, fun wy H3 w0 w1 g3 => ?_⟩
  have gr := (g1.trans g2).trans g3
  have fin : ∀ y : Str, Near (cs x) (cs y) → Q (.str y) H3 := fun y n => q y H3 gr n
  have p1 := pre_le x k
  have p2 := suf_le x k
  have p3 := suf1_le x k
  have p4 := suf2_le x k
  have p5 := at_le x k
  have p6 := at1_le x k
  have p7 := one_le c
  -- 0: a sign more
  refine ⟨_, rfl, rfl, _, rfl, ?_⟩
  refine ite2 (fun _ => ?_) (fun _ => ?_)
  · refine ⟨_, rfl, _, rfl, _, rfl, x, rfl, hxs, _, rfl, _, _, rfl, rfl, fit p1 p7 (by omega), _, rfl, _, rfl, _, rfl, x, rfl, hxs, _, _, rfl, rfl, fit (app_le p1 p7) p2 (by omega), fin _ ?_⟩
    rw [cs_app, cs_app, cs_pre, cs_suf]
    exact near_put (cs x) k c
  -- 1: a sign less
  refine ⟨_, rfl, rfl, _, rfl, ?_⟩
  refine ite2 (fun _ => ?_) (fun _ => ?_)
  · refine ⟨_, rfl, _, rfl, _, rfl, x, rfl, hxs, _, rfl, _, rfl, _, _, rfl, rfl, _, rfl, x, rfl, hxs, _, _, rfl, rfl, fit p1 p3 (by omega), fin _ ?_⟩
    rw [cs_app, cs_pre, cs_suf1]
    exact near_cut (cs x) k
  -- 2: a sign for another
  refine ⟨_, rfl, rfl, _, rfl, ?_⟩
  refine ite2 (fun _ => ?_) (fun _ => ?_)
  · refine ⟨_, rfl, _, rfl, _, rfl, x, rfl, hxs, _, rfl, _, _, rfl, rfl, fit p1 p7 (by omega), _, rfl, _, rfl, _, _, rfl, rfl, _, rfl, x, rfl, hxs, _, _, rfl, rfl, fit (app_le p1 p7) p3 (by omega), fin _ ?_⟩
    rw [cs_app, cs_app, cs_pre, cs_suf1]
    exact near_swap (cs x) k c
  -- 3: a sign twice
  refine ⟨_, rfl, rfl, _, rfl, ?_⟩
  refine ite2 (fun _ => ?_) (fun _ => ?_)
  · refine ⟨_, rfl, _, rfl, _, rfl, x, rfl, hxs, _, rfl, _, rfl, _, rfl, _, rfl, _, _, rfl, rfl, _, rfl, x, rfl, hxs, _, _, rfl, rfl, fit p1 p5 (by omega), _, rfl, _, rfl, _, rfl, x, rfl, hxs, _, _, rfl, rfl, fit (app_le p1 p5) p2 (by omega), fin _ ?_⟩
    rw [cs_app, cs_app, cs_pre, cs_suf, cs_at]
    exact near_twice (cs x) k
  -- 4: two signs turned
  refine ⟨_, rfl, rfl, _, rfl, ?_⟩
  refine ite2 (fun _ => ?_) (fun _ => ?_)
  · refine ⟨_, rfl, _, rfl, _, rfl, x, rfl, hxs, _, rfl, _, rfl, _, _, rfl, rfl, _, rfl, _, rfl, _, _, rfl, rfl, _, rfl, x, rfl, hxs, _, _, rfl, rfl, fit p1 p6 (by omega), _, rfl, _, rfl, _, rfl, _, rfl, _, _, rfl, rfl, _, rfl, x, rfl, hxs, _, _, rfl, rfl, fit (app_le p1 p6) p5 (by omega),
      _, rfl, _, rfl, _, _, rfl, rfl, _, rfl, x, rfl, hxs, _, _, rfl, rfl, fit (app_le (app_le p1 p6) p5) p4 (by omega), fin _ ?_⟩
    rw [cs_app, cs_app, cs_app, cs_pre, cs_suf2, cs_at, cs_at1]
    exact near_turn (cs x) k
  -- 5: at the end
  refine ⟨_, rfl, rfl, _, rfl, ?_⟩
  refine ite2 (fun _ => ?_) (fun _ => ?_)
  · refine ⟨_, rfl, (by show 6 ≤ sizeLine; omega), fun p hp => ?_⟩
    have g4 := gr.new (o := .lst [V.str (Str.ofString " "), V.str (Str.ofString ")"), V.str (Str.ofString "a"), V.str (Str.ofString "0"), V.str (Str.ofString " a"), V.str (Str.ofString "()")]) hp
    obtain ⟨hp0, hpb⟩ := gr.free hb hp
    refine ⟨_, rfl, b, 6, rfl, g4.boxAt, by decide, by decide, fun r H4 r0 r1 g5 => ?_⟩
    obtain ⟨r, rfl⟩ := Int.eq_ofNat_of_zero_le r0
    obtain ⟨z, hz1, hz2⟩ := menuE r (by omega)
    refine ⟨p, _, _, _, rfl, rfl, SqL.of (g5.keep p _ hpb upd_same), atI_nat hz1, _, _, rfl, rfl, fit (Nat.le_refl _) hz2 (by omega), q _ H4 (g4.trans g5) ?_⟩
    rw [cs_app]
    exact near_end (cs x) (cs z) hz2
  -- 6: at the front
  refine ⟨_, rfl, rfl, _, rfl, ?_⟩
  refine ite2 (fun _ => ?_) (fun _ => ?_)
  · refine ⟨(by show 6 ≤ sizeLine; omega), fun p hp => ?_⟩
    have g4 := gr.new (o := .lst [V.str (Str.ofString " "), V.str (Str.ofString "("), V.str (Str.ofString "0"), V.str (Str.ofString "-"), V.str (Str.ofString "00"), V.str (Str.ofString "+")]) hp
    obtain ⟨hp0, hpb⟩ := gr.free hb hp
    refine ⟨_, rfl, b, 6, rfl, g4.boxAt, by decide, by decide, fun r H4 r0 r1 g5 => ?_⟩
    obtain ⟨r, rfl⟩ := Int.eq_ofNat_of_zero_le r0
    obtain ⟨z, hz1, hz2⟩ := menuF r (by omega)
    refine ⟨p, _, _, _, rfl, rfl, SqL.of (g5.keep p _ hpb upd_same), atI_nat hz1, _, rfl, _, _, rfl, rfl, fit hz2 (Nat.le_refl _) (by omega), q _ H4 (g4.trans g5) ?_⟩
    rw [cs_app]
    exact near_front (cs x) (cs z) hz2
  -- 7: cut off
  refine ⟨_, rfl, rfl, _, rfl, ?_⟩
  refine ite2 (fun _ => ?_) (fun _ => ?_)
  · refine ⟨_, rfl, _, rfl, _, rfl, x, rfl, hxs, fin _ ?_⟩
    rw [cs_pre]
    exact near_take (cs x) k
  -- 8: a blank twice
  exact ⟨_, rfl, x, rfl, by rw [len_cs]; omega, fun y ty => fin y (near_twice32 ty)⟩
end
end Mt
namespace Mt
open PySem PySem.Spec PyProof.Rows L2 PySem.NumText
def spLaw (K : PySem.W.Frag) : Sp := fun vs H Q _ => ∃ (a : Addr) (ns : List Int), vs = [.ref a] ∧ SqL K H a (ns.map V.int) ∧ ns.length ≤ 63 ∧ ∀ H', Q (.bl true) H'
section
variable {P : Program} {w : World} {K : PySem.W.Frag} {mg : Str → Option Value} {base : Heap} {f g : Addr} {fd gd : FuncData} {g2 g3 g4 g5 : Addr} {gd2 gd3 gd4 gd5 : FuncData}
theorem scLaw : FnScope ["script", "turn", "box", "value", "text", "k", "other"] ["script"] (defScope sLaw) := ⟨rfl, rfl, rfl, by decide +kernel, rfl, by decide +kernel, by decide +kernel⟩
theorem gr_same {b : Addr} {H H1 H2 : Hp} (e : Same H H1) (h : H b = none) (g : Gr b H1 H2) : Same H H2 := fun a o ha => g.keep a o (fun z => by rw [z, h] at ha; cases ha) (e a o ha)
theorem gr_sameT {b : Addr} {H H1 H2 : Hp} (g : Gr b H H1) (e : Same H1 H2) : Gr b H H2 := ⟨fun a o n h => e a o (g.keep a o n h), by
  obtain ⟨n, h0, q⟩ := g.box
  exact ⟨n, h0, e b _ q⟩⟩
theorem ok_law (F : Fun K "law" "law" sLaw f fd) (B : Cal P w K mg base "_law_box" 1 ["script", "at"] (spBox K) g gd) (N : Cal P w K mg base "_law_nested" 11 ["box", "depth"] (spNest 5) g2 gd2)
    (A0 : Cal P w K mg base "_law_asked" 81 ["text", "due"] (spAsked 80) g3 gd3) (S : Cal P w K mg base "_law_spoilt" 2 ["box", "text"] spSpoilt g4 gd4) (L : Cal P w K mg base "_law_read" 83 ["text"] (spLread 79) g5 gd5) (mr : mg "range" = none) : FnOk P w K mg base CX0 84 f fd ["script"] (spLaw K) := by
  refine F.ok scLaw (fun vs H Q E h => ?_) (fun cdv A outer s H vs Q E hr h => ?_)
  · obtain ⟨a, ns, rfl, _⟩ := h
    rfl
  obtain ⟨a, ns, rfl, hS, h63, q⟩ := h
  refine ⟨_, pss_cons (ps_for PassesOwn.never rfl (pi_range1 rfl mr (pa_cons pe_int pa_nil)) (pg_name (i := 1) scLaw.nd rfl (Or.inl rfl))
      (pss_cons (ps_set (i := 2) scLaw.nd rfl (Or.inl rfl) (pe_call B.ok (hr.mono (by decide)) rfl B.m B.k B.b .nil pass0 (pa_cons (pv 0) (pa_cons (pv 1) pa_nil))))
      (pss_cons (ps_asg (pe_call N.ok (hr.mono (by decide)) rfl N.m N.k N.b .nil pass0 (pa_cons (pv 2) (pa_cons pe_int pa_nil)))
        (pg_tup (by rfl) (pgs_cons (pg_name (i := 3) scLaw.nd rfl (Or.inl rfl)) (pgs_cons (pg_name (i := 4) scLaw.nd rfl (Or.inl rfl)) pgs_nil))))
      (pss_cons (ps_if (pt_not (pt_val (pe_call A0.ok (hr.mono (by decide)) rfl A0.m A0.k A0.b .nil pass0 (pa_cons (pv 4) (pa_cons (pe_lst (pa_cons (pv 3) pa_nil)) pa_nil))))) (pss_one (ps_ret pe_bl)) pss_nil)
      (pss_one (ps_for PassesOwn.never rfl (pi_range1 rfl mr (pa_cons pe_int pa_nil)) (pg_name (i := 5) scLaw.nd rfl (Or.inl rfl))
        (pss_cons (ps_set (i := 6) scLaw.nd rfl (Or.inl rfl) (pe_call S.ok (hr.mono (by decide)) rfl S.m S.k S.b .nil pass0 (pa_cons (pv 2) (pa_cons (pv 4) pa_nil))))
        (pss_cons (ps_if (pt_not (pt_val (pe_call A0.ok (hr.mono (by decide)) rfl A0.m A0.k A0.b .nil pass0 (pa_cons (pv 6) (pa_cons (pe_call L.ok hr rfl L.m L.k L.b .nil pass0 (pa_cons (pv 6) pa_nil)) pa_nil))))) (pss_one (ps_ret pe_bl)) pss_nil)
        (pss_one (ps_if (pt_cmpR op_eq (pe_op op_mod (pv 5) pe_int) pe_int (nomark _)) (pss_one (ps_set (i := 4) scLaw.nd rfl (Or.inl rfl) (pv 6))) pss_nil))))))))))
    (pss_one (ps_ret pe_bl)), ?_⟩
  have hline := line_big
  refine ⟨3, rfl, by decide, by decide, ?_⟩
  refine for_range (lo := 0) (n := 3) (fun i σ H' => Same H H' ∧ ∃ t1 t2 t3 t4 t5 t6, σ = [some (.ref a), t1, t2, t3, t4, t5, t6]) ?_ (fun i σ H' hi p => ?_) (fun σ H' p => ?_)
  · exact ⟨Same.refl H, _, _, _, _, _, _, rfl⟩
  · obtain ⟨hs, t1, t2, t3, t4, t5, t6, rfl⟩ := p
    refine ⟨_, rfl, _, rfl, a, ns, _, rfl, hs.seq hS, by omega, fun b H2 h2 hb hn => ?_⟩
    refine ⟨_, rfl, b, 4, rfl, hb, by decide, by decide, fun p H3 g3 hp => ?_⟩
    obtain ⟨dv, tx, d, k1, k2, k3, k4, k5, k6⟩ := hp
    refine ⟨p, _, rfl, SqT.of k1, rfl, _, _, rfl, _, _, rfl, rfl, ?_⟩
    have hlim : (txt d).length ≤ 1700000 := Nat.le_trans k5 (by decide)
    have hmr : mrun (cs tx) = some d := by rw [k3]; exact mrun_txt k6
    refine ⟨_, rfl, _, rfl, (by show 1 ≤ sizeLine; omega), fun u hu => ⟨tx, u, _, rfl, upd_same, by rw [k3]; omega, ?_, fun d2 h2 => ?_, fun H4 s4 => ?_⟩⟩
    · rw [hmr]
      exact ⟨dv, rfl, k2.mono (same_tup (same_new hu _))⟩
    · rw [hmr] at h2
      injection h2 with h2
      rw [← h2]; omega
    refine ⟨_, rfl, iteF ?_⟩
    have g4 : Gr b H2 H4 := gr_sameT (g3.new hu) s4
    refine ⟨6, rfl, by decide, by decide, ?_⟩
    refine for_range (lo := 0) (n := 6) (fun j σ H' => Gr b H2 H' ∧ ∃ (t : Str) (c1 c2 : Option V) (tn : Option V), σ = [some (.ref a), tn, some (.ref b), some dv, some (.str t), c1, c2] ∧ Bal (64 + 2 * j) (cs t) ∧ (cs t).length ≤ 1700000 + 2 * j) ?_ (fun j σ H' hj p => ?_) (fun σ H' p => ?_)
    · refine ⟨g4, tx, _, _, _, rfl, ?_, by rw [k3]; omega⟩
      rw [k3]
      exact (Bal.of k6 k4).mono (by omega)
    · obtain ⟨g5, t, c1, c2, tn, rfl, hbt, hlt⟩ := p
      refine ⟨_, rfl, _, rfl, b, t, rfl, g5.boxAt, by omega, fun y H5 g6 near => ?_⟩
      have hyl : (cs y).length ≤ 1700000 + 2 * (j + 1) := by have := near.1; omega
      have hyb : Bal (64 + 2 * (j + 1)) (cs y) := (near.2 _ hbt).mono (by omega)
      have hyb2 : Bal 79 (cs y) := hyb.mono (by omega)
      refine ⟨_, rfl, _, rfl, y, rfl, by omega, hyb2, fun u2 us H6 s6 hu6 due => ?_⟩
      refine ⟨y, u2, us, rfl, hu6, by omega, due, fun d2 hd2 => ?_, fun H7 s7 => ?_⟩
      · obtain ⟨e1, e2⟩ := mrun_some hd2
        rw [← e1] at hyb2
        exact Nat.lt_succ_of_le (hyb2.deep_le e2)
      have g7 : Gr b H2 H7 := gr_sameT (g5.trans g6) (s6.trans s7)
      refine ⟨_, rfl, iteF ⟨_, rfl, _, _, rfl, rfl, (by show (0 : Int) < 3; decide), rfl, _, rfl, ?_⟩⟩
      refine ite2 (fun _ => ?_) (fun _ => ?_)
      · exact ⟨_, rfl, g7, y, _, _, _, rfl, hyb, hyl⟩
      · exact ⟨g7, t, _, _, _, rfl, hbt.mono (by omega), by omega⟩
    · obtain ⟨g5, t, c1, c2, tn, rfl, _, _⟩ := p
      exact ⟨gr_same (hs.trans h2) (hs.free hn) g5, _, _, _, _, _, _, rfl⟩
  · exact q H'
end
end Mt
namespace Mt
open PySem PySem.Spec PyProof.Rows L2 PySem.NumText
/-- the facts of one def as the head leaves them -/
structure Df (K : PySem.W.Frag) (mg : Str → Option Value) (x : Str) (st : Stmt) (f : Addr) (fd : FuncData) : Prop where
  F : Fun K x x st f fd
  m : mg x = some (.ref f)
theorem df_mk {K : PySem.W.Frag} {mg : Str → Option Value} {h : Heap} (X : K.In h) (G : h.Ns mainGlobals mg) {x : Str} {st : Stmt} {f : Addr} {oc : Value} {od an : Option Addr} {osl : Array (Option Value)} {kV doc pm cdv ct : Value}
    (a : PySem.W.nsIn K mainGlobals x = some (some (.ref f))) (l : K.lookup f = some ⟨oc, od, .func (PySem.W.fnOf x x (defArgs st) (defBody st) (defScope st) .none kV doc pm an cdv ct), osl⟩)
    (c : PySem.W.codeIn K cdv x = true) (k : PySem.W.keepIn K (.ref f) = true) : Df K mg x st f (PySem.W.fnOf x x (defArgs st) (defBody st) (defScope st) .none kV doc pm an cdv ct) :=
  ⟨fun_mk l c k, PySem.W.mg_of X G a⟩
theorem all_ok {P : Program} {w : World} {K : PySem.W.Frag} {mg : Str → Option Value} {base : Heap} {f1 f2 f3 f4 f5 f6 f7 f8 f9 f10 f11 f12 f13 f14 f15 f16 f17 f18 f19 f20 f21 : Addr} {d1 d2 d3 d4 d5 d6 d7 d8 d9 d10 d11 d12 d13 d14 d15 d16 d17 d18 d19 d20 d21 : FuncData} {C I0 : Addr}
    (D1 : Df K mg "read_number" sReadNum f1 d1)
    (D2 : Df K mg "read_plain" sReadPlain f2 d2)
    (D3 : Df K mg "split_text" sSplit f3 d3)
    (D4 : Df K mg "put" sPut f4 d4)
    (D5 : Df K mg "read" sRead f5 d5)
    (D6 : Df K mg "_law_box" sBox f6 d6)
    (D7 : Df K mg "_law_take" sTake f7 d7)
    (D8 : Df K mg "_law_word" sWord f8 d8)
    (D9 : Df K mg "_law_figures" sFig f9 d9)
    (D10 : Df K mg "_law_number" sNum f10 d10)
    (D11 : Df K mg "_law_integer" sInt f11 d11)
    (D12 : Df K mg "_law_sample" sSamp f12 d12)
    (D13 : Df K mg "_law_plain" sPlain f13 d13)
    (D14 : Df K mg "_law_nested" sNest f14 d14)
    (D15 : Df K mg "_law_run" sRun f15 d15)
    (D16 : Df K mg "_law_item" sItem f16 d16)
    (D17 : Df K mg "_law_read" sLread f17 d17)
    (D18 : Df K mg "_law_same" sSame f18 d18)
    (D19 : Df K mg "_law_asked" sAsked f19 d19)
    (D20 : Df K mg "_law_spoilt" sSpoilt f20 d20)
    (D21 : Df K mg "law" sLaw f21 d21)
    (md : ∃ tk, mg "DIGITS" = some (.str digS tk)) (BB : Bad K mg C) (BE : Err K mg C I0)
    (m1 : mg "str" = none) (m2 : mg "int" = none) (m3 : mg "abs" = none) (m4 : mg "len" = none) (m5 : mg "range" = none) (m6 : mg "min" = none) (m7 : mg "isinstance" = none) (m8 : mg "tuple" = none) (m9 : mg "all" = none) (m10 : mg "bool" = none) (m11 : mg "ValueError" = none) : FnOk P w K mg base CX0 84 f21 d21 ["script"] (spLaw K) := by
  have b1 := D1.F.binds (ps := ["text"]) fun _ _ _ _ _ _ us hl => match us, hl with | [_], _ => rfl
  have b2 := D2.F.binds (ps := ["text"]) fun _ _ _ _ _ _ us hl => match us, hl with | [_], _ => rfl
  have b3 := D3.F.binds (ps := ["text"]) fun _ _ _ _ _ _ us hl => match us, hl with | [_], _ => rfl
  have b4 := D4.F.binds (ps := ["rows", "value"]) fun _ _ _ _ _ _ us hl => match us, hl with | [_, _], _ => rfl
  have b5 := D5.F.binds (ps := ["text"]) fun _ _ _ _ _ _ us hl => match us, hl with | [_], _ => rfl
  have b6 := D6.F.binds (ps := ["script", "at"]) fun _ _ _ _ _ _ us hl => match us, hl with | [_, _], _ => rfl
  have b7 := D7.F.binds (ps := ["box", "many"]) fun _ _ _ _ _ _ us hl => match us, hl with | [_, _], _ => rfl
  have b8 := D8.F.binds (ps := ["box"]) fun _ _ _ _ _ _ us hl => match us, hl with | [_], _ => rfl
  have b9 := D9.F.binds (ps := ["box"]) fun _ _ _ _ _ _ us hl => match us, hl with | [_], _ => rfl
  have b10 := D10.F.binds (ps := ["figures"]) fun _ _ _ _ _ _ us hl => match us, hl with | [_], _ => rfl
  have b11 := D11.F.binds (ps := ["box"]) fun _ _ _ _ _ _ us hl => match us, hl with | [_], _ => rfl
  have b12 := D12.F.binds (ps := ["box"]) fun _ _ _ _ _ _ us hl => match us, hl with | [_], _ => rfl
  have b13 := D13.F.binds (ps := ["value"]) fun _ _ _ _ _ _ us hl => match us, hl with | [_], _ => rfl
  have b14 := D14.F.binds (ps := ["box", "depth"]) fun _ _ _ _ _ _ us hl => match us, hl with | [_, _], _ => rfl
  have b15 := D15.F.binds (ps := ["text", "at", "signs"]) fun _ _ _ _ _ _ us hl => match us, hl with | [_, _, _], _ => rfl
  have b16 := D16.F.binds (ps := ["text", "at"]) fun _ _ _ _ _ _ us hl => match us, hl with | [_, _], _ => rfl
  have b17 := D17.F.binds (ps := ["text"]) fun _ _ _ _ _ _ us hl => match us, hl with | [_], _ => rfl
  have b18 := D18.F.binds (ps := ["one", "two"]) fun _ _ _ _ _ _ us hl => match us, hl with | [_, _], _ => rfl
  have b19 := D19.F.binds (ps := ["text", "due"]) fun _ _ _ _ _ _ us hl => match us, hl with | [_, _], _ => rfl
  have b20 := D20.F.binds (ps := ["box", "text"]) fun _ _ _ _ _ _ us hl => match us, hl with | [_, _], _ => rfl
  have b21 := D21.F.binds (ps := ["script"]) fun _ _ _ _ _ _ us hl => match us, hl with | [_], _ => rfl
  have rn : CalX P w K mg base "read_number" 1 ["text"] spRn f1 d1 := ⟨ok_rn D1.F md, b1, D1.F.kp, D1.m⟩
  have rp : CalX P w K mg base "read_plain" 2 ["text"] (spRp C) f2 d2 := ⟨ok_rp D2.F BB rn md m4 m9, b2, D2.F.kp, D2.m⟩
  have sl : Cal P w K mg base "split_text" 1 ["text"] spSplit f3 d3 := ⟨ok_split D3.F m4, b3, D3.F.kp, D3.m⟩
  have pu : CalX P w K mg base "put" 1 ["rows", "value"] (spPut C) f4 d4 := ⟨ok_put D4.F BB m4, b4, D4.F.kp, D4.m⟩
  have rd : CalX P w K mg base "read" 3 ["text"] (spRead C) f5 d5 := ⟨ok_read D5.F BB sl pu rp m4, b5, D5.F.kp, D5.m⟩
  have B : Cal P w K mg base "_law_box" 1 ["script", "at"] (spBox K) f6 d6 := ⟨ok_box D6.F m2 m3 m4, b6, D6.F.kp, D6.m⟩
  have T : Cal P w K mg base "_law_take" 1 ["box", "many"] spTake f7 d7 := ⟨ok_take D7.F m2, b7, D7.F.kp, D7.m⟩
  have W : Cal P w K mg base "_law_word" 2 ["box"] (spB gWord) f8 d8 := ⟨ok_word D8.F T m5, b8, D8.F.kp, D8.m⟩
  have G : Cal P w K mg base "_law_figures" 2 ["box"] (spB gFig) f9 d9 := ⟨ok_fig D9.F T m5 m6 m1 m4, b9, D9.F.kp, D9.m⟩
  have U : Cal P w K mg base "_law_number" 1 ["figures"] spNum f10 d10 := ⟨ok_num D10.F m5 m2 m4, b10, D10.F.kp, D10.m⟩
  have I : Cal P w K mg base "_law_integer" 3 ["box"] (spB gInt) f11 d11 := ⟨ok_int D11.F T G U, b11, D11.F.kp, D11.m⟩
  have S : Cal P w K mg base "_law_sample" 3 ["box"] (spB (gData 4 200)) f12 d12 := ⟨ok_samp D12.F T W m4, b12, D12.F.kp, D12.m⟩
  have none_at : ∀ {n : Nat} {x : Addr} {xd : FuncData} {ps : List Str} {sp : Sp}, (∀ vs H Q E, ¬ sp vs H Q E) → FnOk P w K mg base CX0 n x xd ps sp := fun no =>
    ⟨fun vs H Q E h => absurd h (no vs H Q E), fun A outer s H args us vs Q E _ _ _ _ h => absurd h (no vs H Q E)⟩
  have pl : ∀ n : Nat, Cal P w K mg base "_law_plain" n ["value"] (spWr (fun d => small d = true) n) f13 d13 := by
    intro n
    induction n with
    | zero => exact ⟨none_at fun vs H Q E h => by obtain ⟨_, _, _, _, _, h, _⟩ := h; omega, b13, D13.F.kp, D13.m⟩
    | succ n ih => exact ⟨ok_pl D13.F ih m7 m1 m2, b13, D13.F.kp, D13.m⟩
  have ne : ∀ n : Nat, Cal P w K mg base "_law_nested" (n + 6) ["box", "depth"] (spNest n) f14 d14 := by
    intro n
    induction n with
    | zero => exact ⟨none_at fun vs H Q E h => by obtain ⟨_, _, _, _, _, h, _⟩ := h; omega, b14, D14.F.kp, D14.m⟩
    | succ n ih => exact ⟨ok_nest D14.F ih T I W S (pl 5) m5 m8, b14, D14.F.kp, D14.m⟩
  have ru : Cal P w K mg base "_law_run" 1 ["text", "at", "signs"] spRun f15 d15 := ⟨ok_run D15.F m4 m5, b15, D15.F.kp, D15.m⟩
  have it : ∀ n : Nat, Cal P w K mg base "_law_item" (n + 2) ["text", "at"] (spItem n) f16 d16 := by
    intro n
    induction n with
    | zero => exact ⟨none_at fun vs H Q E h => by obtain ⟨_, _, _, _, _, h, _⟩ := h; omega, b16, D16.F.kp, D16.m⟩
    | succ n ih => exact ⟨ok_item D16.F ih ru U m4 m5 m8, b16, D16.F.kp, D16.m⟩
  have lr : Cal P w K mg base "_law_read" 83 ["text"] (spLread 79) f17 d17 := ⟨ok_lread (n := 79) D17.F (it 80) m4, b17, D17.F.kp, D17.m⟩
  have sm : ∀ n : Nat, Cal P w K mg base "_law_same" n ["one", "two"] (spSame n) f18 d18 := by
    intro n
    induction n with
    | zero => exact ⟨none_at fun vs H Q E h => by obtain ⟨_, _, _, _, _, _, h, _⟩ := h; omega, b18, D18.F.kp, D18.m⟩
    | succ n ih => exact ⟨ok_same D18.F ih m4 m5 m8 m7 m1 m2 m10 m9, b18, D18.F.kp, D18.m⟩
  have ak : Cal P w K mg base "_law_asked" 81 ["text", "due"] (spAsked 80) f19 d19 := ⟨ok_asked (n := 77) D19.F BE rd (sm 80) m4 m7, b19, D19.F.kp, D19.m⟩
  have sp : Cal P w K mg base "_law_spoilt" 2 ["box", "text"] spSpoilt f20 d20 := ⟨ok_spoilt D20.F T m4, b20, D20.F.kp, D20.m⟩
  exact ok_law D21.F B (ne 5) ak sp lr m5
theorem walk {l : PySem.W.OpenLaw} {q : Program} {loose : List Str} {XP : (Str → Option Value) → Heap → Prop} {YP : World → Heap → Prop} {d : DefRec} {K : Params → PySem.W.Frag} (hn : l.most = some 63) (hdf : d.params.defaults = [])
    (hY : ∀ (w : World) (h : Heap), YP w h → (K w.params).In h)
    (F : ∀ (w : World) (mg : Str → Option Value) (fa : Addr) (h : Heap), XP mg h → (K w.params).In h → h.Ns mainGlobals mg → mg d.name = some (.ref fa) →
      ∃ fd : FuncData, (∀ (s : Shared) (u : Value), BindsTo s fd ⟨[u], []⟩ [("script", u)]) ∧ ∀ base : Heap, (K w.params).In base → base.Ns mainGlobals mg → FnOk l.prog w (K w.params) mg base CX0 84 fa fd ["script"] (spLaw (K w.params))) :
    PySem.W.WalkO q loose XP YP l.row.toRowW d [] (fun f vs => PySem.call f vs) := by
  refine Att.attach_call hn hdf fun w s₀ s₁ mg mb fa o pm cd doc a vs ns G Y ho hd hcd hmg hobj hints hlen hg => ?_
  have KX := hY w _ Y
  obtain ⟨fd, hb, hF⟩ := F w mg fa _ G.X KX G.T.g hmg
  exact law_call KX G.T.g G.T.b G.T.builtins G.T.nolimit hg hobj hints (Nat.le_trans hlen (by decide)) (k := 84) ⟨rfl, by decide, by decide⟩ hF hb (fun H hO hS => ⟨a, ns, rfl, hS, hlen, fun _ => rfl⟩) fun H e s' z => z
theorem all_mk {l : PySem.W.OpenLaw} {w : World} {K : PySem.W.Frag} {h : Heap} {mg : Str → Option Value} {fa : Addr} (X : K.In h) (G : h.Ns mainGlobals mg) (hfa : mg "law" = some (.ref fa)) {tk : Tok} (dg : PySem.W.nsIn K mainGlobals "DIGITS" = some (some (.str (Str.ofString "0123456789") tk)))
    {C I0 : Addr} {f1 f2 f3 f4 f5 f6 f7 f8 f9 f10 f11 f12 f13 f14 f15 f16 f17 f18 f19 f20 f21 : Addr} {od1 an1 od2 an2 od3 an3 od4 an4 od5 an5 od6 an6 od7 an7 od8 an8 od9 an9 od10 an10 od11 an11 od12 an12 od13 an13 od14 an14 od15 an15 od16 an16 od17 an17 od18 an18 od19 an19 od20 an20 od21 an21 : Option Addr} {sl1 sl2 sl3 sl4 sl5 sl6 sl7 sl8 sl9 sl10 sl11 sl12 sl13 sl14 sl15 sl16 sl17 sl18 sl19 sl20 sl21 : Array (Option Value)} {oc1 kV1 dc1 pm1 cd1 ct1 oc2 kV2 dc2 pm2 cd2 ct2 oc3 kV3 dc3 pm3 cd3 ct3 oc4 kV4 dc4 pm4 cd4 ct4 oc5 kV5 dc5 pm5 cd5 ct5 oc6 kV6 dc6 pm6 cd6 ct6 oc7 kV7 dc7 pm7 cd7 ct7 oc8 kV8 dc8 pm8 cd8 ct8 oc9 kV9 dc9 pm9 cd9 ct9 oc10 kV10 dc10 pm10 cd10 ct10 oc11 kV11 dc11 pm11 cd11 ct11 oc12 kV12 dc12 pm12 cd12 ct12 oc13 kV13 dc13 pm13 cd13 ct13 oc14 kV14 dc14 pm14 cd14 ct14 oc15 kV15 dc15 pm15 cd15 ct15 oc16 kV16 dc16 pm16 cd16 ct16 oc17 kV17 dc17 pm17 cd17 ct17 oc18 kV18 dc18 pm18 cd18 ct18 oc19 kV19 dc19 pm19 cd19 ct19 oc20 kV20 dc20 pm20 cd20 ct20 oc21 kV21 dc21 pm21 cd21 ct21 : Value}
    (q1 : PySem.W.nsIn K mainGlobals "BadText" = some (some (.ref C)))
    (q2 : PySem.W.excIn K C [.type "ValueError", .type "Exception", .type "BaseException", .type "object"] "ValueError.__new__" = true)
    (q3 : PySem.W.keepIn K (.ref C) = true)
    (q4 : PySem.W.subIn K (.ref C) (.type "BaseException") = some true)
    (q5 : PySem.W.typeIn K (.ref C) = some (.type "type"))
    (q6 : PySem.W.findIn K (.ref C) "__getattribute__" = some (some (.builtin "BaseException.__getattribute__")))
    (q7 : PySem.W.findIn K (.ref C) "__getattr__" = some none)
    (q8 : PySem.W.hasDictIn K C = true)
    (q9 : PySem.W.findIn K (.ref C) "__class__" = some (some (.builtin "object.__class__")))
    (q10 : PySem.W.specialIn K (.builtin "object.__class__") "__get__" = some (some (.builtin "getset_descriptor.__get__")))
    (q11 : PySem.W.takesIn K (.builtin "object.__class__") = some true)
    (q12 : PySem.W.mroIn K C (.type "object") = some true)
    (q13 : PySem.W.subIn K (.ref C) (.ref C) = some true)
    (q14 : PySem.W.nsIn K mainGlobals "IsthmusError" = some (some (.ref I0)))
    (q15 : PySem.W.kitOne K (.ref C) (.ref I0) = some true)
    (q16 : PySem.W.kitOne K (.ref C) (.type "ValueError") = some true)
    (a1 : PySem.W.nsIn K mainGlobals "read_number" = some (some (.ref f1))) (l1 : K.lookup f1 = some ⟨oc1, od1, .func (PySem.W.fnOf "read_number" "read_number" (defArgs sReadNum) (defBody sReadNum) (defScope sReadNum) .none kV1 dc1 pm1 an1 cd1 ct1), sl1⟩) (c1 : PySem.W.codeIn K cd1 "read_number" = true) (k1 : PySem.W.keepIn K (.ref f1) = true)
    (a2 : PySem.W.nsIn K mainGlobals "read_plain" = some (some (.ref f2))) (l2 : K.lookup f2 = some ⟨oc2, od2, .func (PySem.W.fnOf "read_plain" "read_plain" (defArgs sReadPlain) (defBody sReadPlain) (defScope sReadPlain) .none kV2 dc2 pm2 an2 cd2 ct2), sl2⟩) (c2 : PySem.W.codeIn K cd2 "read_plain" = true) (k2 : PySem.W.keepIn K (.ref f2) = true)
    (a3 : PySem.W.nsIn K mainGlobals "split_text" = some (some (.ref f3))) (l3 : K.lookup f3 = some ⟨oc3, od3, .func (PySem.W.fnOf "split_text" "split_text" (defArgs sSplit) (defBody sSplit) (defScope sSplit) .none kV3 dc3 pm3 an3 cd3 ct3), sl3⟩) (c3 : PySem.W.codeIn K cd3 "split_text" = true) (k3 : PySem.W.keepIn K (.ref f3) = true)
    (a4 : PySem.W.nsIn K mainGlobals "put" = some (some (.ref f4))) (l4 : K.lookup f4 = some ⟨oc4, od4, .func (PySem.W.fnOf "put" "put" (defArgs sPut) (defBody sPut) (defScope sPut) .none kV4 dc4 pm4 an4 cd4 ct4), sl4⟩) (c4 : PySem.W.codeIn K cd4 "put" = true) (k4 : PySem.W.keepIn K (.ref f4) = true)
    (a5 : PySem.W.nsIn K mainGlobals "read" = some (some (.ref f5))) (l5 : K.lookup f5 = some ⟨oc5, od5, .func (PySem.W.fnOf "read" "read" (defArgs sRead) (defBody sRead) (defScope sRead) .none kV5 dc5 pm5 an5 cd5 ct5), sl5⟩) (c5 : PySem.W.codeIn K cd5 "read" = true) (k5 : PySem.W.keepIn K (.ref f5) = true)
    (a6 : PySem.W.nsIn K mainGlobals "_law_box" = some (some (.ref f6))) (l6 : K.lookup f6 = some ⟨oc6, od6, .func (PySem.W.fnOf "_law_box" "_law_box" (defArgs sBox) (defBody sBox) (defScope sBox) .none kV6 dc6 pm6 an6 cd6 ct6), sl6⟩) (c6 : PySem.W.codeIn K cd6 "_law_box" = true) (k6 : PySem.W.keepIn K (.ref f6) = true)
    (a7 : PySem.W.nsIn K mainGlobals "_law_take" = some (some (.ref f7))) (l7 : K.lookup f7 = some ⟨oc7, od7, .func (PySem.W.fnOf "_law_take" "_law_take" (defArgs sTake) (defBody sTake) (defScope sTake) .none kV7 dc7 pm7 an7 cd7 ct7), sl7⟩) (c7 : PySem.W.codeIn K cd7 "_law_take" = true) (k7 : PySem.W.keepIn K (.ref f7) = true)
    (a8 : PySem.W.nsIn K mainGlobals "_law_word" = some (some (.ref f8))) (l8 : K.lookup f8 = some ⟨oc8, od8, .func (PySem.W.fnOf "_law_word" "_law_word" (defArgs sWord) (defBody sWord) (defScope sWord) .none kV8 dc8 pm8 an8 cd8 ct8), sl8⟩) (c8 : PySem.W.codeIn K cd8 "_law_word" = true) (k8 : PySem.W.keepIn K (.ref f8) = true)
    (a9 : PySem.W.nsIn K mainGlobals "_law_figures" = some (some (.ref f9))) (l9 : K.lookup f9 = some ⟨oc9, od9, .func (PySem.W.fnOf "_law_figures" "_law_figures" (defArgs sFig) (defBody sFig) (defScope sFig) .none kV9 dc9 pm9 an9 cd9 ct9), sl9⟩) (c9 : PySem.W.codeIn K cd9 "_law_figures" = true) (k9 : PySem.W.keepIn K (.ref f9) = true)
    (a10 : PySem.W.nsIn K mainGlobals "_law_number" = some (some (.ref f10))) (l10 : K.lookup f10 = some ⟨oc10, od10, .func (PySem.W.fnOf "_law_number" "_law_number" (defArgs sNum) (defBody sNum) (defScope sNum) .none kV10 dc10 pm10 an10 cd10 ct10), sl10⟩) (c10 : PySem.W.codeIn K cd10 "_law_number" = true) (k10 : PySem.W.keepIn K (.ref f10) = true)
    (a11 : PySem.W.nsIn K mainGlobals "_law_integer" = some (some (.ref f11))) (l11 : K.lookup f11 = some ⟨oc11, od11, .func (PySem.W.fnOf "_law_integer" "_law_integer" (defArgs sInt) (defBody sInt) (defScope sInt) .none kV11 dc11 pm11 an11 cd11 ct11), sl11⟩) (c11 : PySem.W.codeIn K cd11 "_law_integer" = true) (k11 : PySem.W.keepIn K (.ref f11) = true)
    (a12 : PySem.W.nsIn K mainGlobals "_law_sample" = some (some (.ref f12))) (l12 : K.lookup f12 = some ⟨oc12, od12, .func (PySem.W.fnOf "_law_sample" "_law_sample" (defArgs sSamp) (defBody sSamp) (defScope sSamp) .none kV12 dc12 pm12 an12 cd12 ct12), sl12⟩) (c12 : PySem.W.codeIn K cd12 "_law_sample" = true) (k12 : PySem.W.keepIn K (.ref f12) = true)
    (a13 : PySem.W.nsIn K mainGlobals "_law_plain" = some (some (.ref f13))) (l13 : K.lookup f13 = some ⟨oc13, od13, .func (PySem.W.fnOf "_law_plain" "_law_plain" (defArgs sPlain) (defBody sPlain) (defScope sPlain) .none kV13 dc13 pm13 an13 cd13 ct13), sl13⟩) (c13 : PySem.W.codeIn K cd13 "_law_plain" = true) (k13 : PySem.W.keepIn K (.ref f13) = true)
    (a14 : PySem.W.nsIn K mainGlobals "_law_nested" = some (some (.ref f14))) (l14 : K.lookup f14 = some ⟨oc14, od14, .func (PySem.W.fnOf "_law_nested" "_law_nested" (defArgs sNest) (defBody sNest) (defScope sNest) .none kV14 dc14 pm14 an14 cd14 ct14), sl14⟩) (c14 : PySem.W.codeIn K cd14 "_law_nested" = true) (k14 : PySem.W.keepIn K (.ref f14) = true)
    (a15 : PySem.W.nsIn K mainGlobals "_law_run" = some (some (.ref f15))) (l15 : K.lookup f15 = some ⟨oc15, od15, .func (PySem.W.fnOf "_law_run" "_law_run" (defArgs sRun) (defBody sRun) (defScope sRun) .none kV15 dc15 pm15 an15 cd15 ct15), sl15⟩) (c15 : PySem.W.codeIn K cd15 "_law_run" = true) (k15 : PySem.W.keepIn K (.ref f15) = true)
    (a16 : PySem.W.nsIn K mainGlobals "_law_item" = some (some (.ref f16))) (l16 : K.lookup f16 = some ⟨oc16, od16, .func (PySem.W.fnOf "_law_item" "_law_item" (defArgs sItem) (defBody sItem) (defScope sItem) .none kV16 dc16 pm16 an16 cd16 ct16), sl16⟩) (c16 : PySem.W.codeIn K cd16 "_law_item" = true) (k16 : PySem.W.keepIn K (.ref f16) = true)
    (a17 : PySem.W.nsIn K mainGlobals "_law_read" = some (some (.ref f17))) (l17 : K.lookup f17 = some ⟨oc17, od17, .func (PySem.W.fnOf "_law_read" "_law_read" (defArgs sLread) (defBody sLread) (defScope sLread) .none kV17 dc17 pm17 an17 cd17 ct17), sl17⟩) (c17 : PySem.W.codeIn K cd17 "_law_read" = true) (k17 : PySem.W.keepIn K (.ref f17) = true)
    (a18 : PySem.W.nsIn K mainGlobals "_law_same" = some (some (.ref f18))) (l18 : K.lookup f18 = some ⟨oc18, od18, .func (PySem.W.fnOf "_law_same" "_law_same" (defArgs sSame) (defBody sSame) (defScope sSame) .none kV18 dc18 pm18 an18 cd18 ct18), sl18⟩) (c18 : PySem.W.codeIn K cd18 "_law_same" = true) (k18 : PySem.W.keepIn K (.ref f18) = true)
    (a19 : PySem.W.nsIn K mainGlobals "_law_asked" = some (some (.ref f19))) (l19 : K.lookup f19 = some ⟨oc19, od19, .func (PySem.W.fnOf "_law_asked" "_law_asked" (defArgs sAsked) (defBody sAsked) (defScope sAsked) .none kV19 dc19 pm19 an19 cd19 ct19), sl19⟩) (c19 : PySem.W.codeIn K cd19 "_law_asked" = true) (k19 : PySem.W.keepIn K (.ref f19) = true)
    (a20 : PySem.W.nsIn K mainGlobals "_law_spoilt" = some (some (.ref f20))) (l20 : K.lookup f20 = some ⟨oc20, od20, .func (PySem.W.fnOf "_law_spoilt" "_law_spoilt" (defArgs sSpoilt) (defBody sSpoilt) (defScope sSpoilt) .none kV20 dc20 pm20 an20 cd20 ct20), sl20⟩) (c20 : PySem.W.codeIn K cd20 "_law_spoilt" = true) (k20 : PySem.W.keepIn K (.ref f20) = true)
    (a21 : PySem.W.nsIn K mainGlobals "law" = some (some (.ref f21))) (l21 : K.lookup f21 = some ⟨oc21, od21, .func (PySem.W.fnOf "law" "law" (defArgs sLaw) (defBody sLaw) (defScope sLaw) .none kV21 dc21 pm21 an21 cd21 ct21), sl21⟩) (c21 : PySem.W.codeIn K cd21 "law" = true) (k21 : PySem.W.keepIn K (.ref f21) = true)
    (z1 : PySem.W.nsIn K mainGlobals "str" = some none)
    (z2 : PySem.W.nsIn K mainGlobals "int" = some none)
    (z3 : PySem.W.nsIn K mainGlobals "abs" = some none)
    (z4 : PySem.W.nsIn K mainGlobals "len" = some none)
    (z5 : PySem.W.nsIn K mainGlobals "range" = some none)
    (z6 : PySem.W.nsIn K mainGlobals "min" = some none)
    (z7 : PySem.W.nsIn K mainGlobals "isinstance" = some none)
    (z8 : PySem.W.nsIn K mainGlobals "tuple" = some none)
    (z9 : PySem.W.nsIn K mainGlobals "all" = some none)
    (z10 : PySem.W.nsIn K mainGlobals "bool" = some none)
    (z11 : PySem.W.nsIn K mainGlobals "ValueError" = some none)
    : ∃ fd : FuncData, (∀ (s : Shared) (v : Value), BindsTo s fd ⟨[v], []⟩ [("script", v)]) ∧ ∀ base : Heap, K.In base → base.Ns mainGlobals mg → FnOk l.prog w K mg base CX0 84 fa fd ["script"] (spLaw K) := by
  have e := hfa.symm.trans (PySem.W.mg_of X G a21)
  cases e
  have BB : Bad K mg C := ⟨PySem.W.mg_of X G q1, q2, q3, q4, q5⟩
  have BE : Err K mg C I0 := ⟨PySem.W.mg_of X G q1, ⟨q6, q7, q4, q8, q9, q10, q11, q12⟩, PySem.W.exm_ref q4 q8 q5 q13, PySem.W.mg_of X G q14, q15, q16, PySem.W.mg_none_of X G z11⟩
  exact ⟨_, fun s v => .of_eq rfl, fun base _ _ => all_ok (df_mk X G a1 l1 c1 k1) (df_mk X G a2 l2 c2 k2) (df_mk X G a3 l3 c3 k3) (df_mk X G a4 l4 c4 k4) (df_mk X G a5 l5 c5 k5) (df_mk X G a6 l6 c6 k6) (df_mk X G a7 l7 c7 k7) (df_mk X G a8 l8 c8 k8) (df_mk X G a9 l9 c9 k9) (df_mk X G a10 l10 c10 k10) (df_mk X G a11 l11 c11 k11) (df_mk X G a12 l12 c12 k12) (df_mk X G a13 l13 c13 k13) (df_mk X G a14 l14 c14 k14) (df_mk X G a15 l15 c15 k15) (df_mk X G a16 l16 c16 k16) (df_mk X G a17 l17 c17 k17) (df_mk X G a18 l18 c18 k18) (df_mk X G a19 l19 c19 k19) (df_mk X G a20 l20 c20 k20) (df_mk X G a21 l21 c21 k21) ⟨tk, PySem.W.mg_of X G dg⟩ BB BE (PySem.W.mg_none_of X G z1) (PySem.W.mg_none_of X G z2) (PySem.W.mg_none_of X G z3) (PySem.W.mg_none_of X G z4) (PySem.W.mg_none_of X G z5) (PySem.W.mg_none_of X G z6) (PySem.W.mg_none_of X G z7) (PySem.W.mg_none_of X G z8) (PySem.W.mg_none_of X G z9) (PySem.W.mg_none_of X G z10) (PySem.W.mg_none_of X G z11)⟩
end Mt
open PySem PySem.W PyProof.Rows
set_option maxRecDepth 100000 in
set_option maxHeartbeats 0 in
theorem PySem.Challenge.cw_isthmus_k02_texts_read_back_holds : PySem.Challenge.rw_isthmus_k02_texts_read_back.Holds := by
  w_on; o_law; k_head; (case hw => w_witness2)
  k_fill
  refine Mt.walk (l := PySem.Challenge.rw_isthmus_k02_texts_read_back) rfl rfl (fun w h Y => PySem.W.kIn_of Y) ?F
  case F =>
    intro w mg fa h XP KX G hmg
    refine' Mt.all_mk KX G hmg ?dg ?q1 ?q2 ?q3 ?q4 ?q5 ?q6 ?q7 ?q8 ?q9 ?q10 ?q11 ?q12 ?q13 ?q14 ?q15 ?q16 ?a1 ?l1 ?c1 ?k1 ?a2 ?l2 ?c2 ?k2 ?a3 ?l3 ?c3 ?k3 ?a4 ?l4 ?c4 ?k4 ?a5 ?l5 ?c5 ?k5 ?a6 ?l6 ?c6 ?k6 ?a7 ?l7 ?c7 ?k7 ?a8 ?l8 ?c8 ?k8 ?a9 ?l9 ?c9 ?k9 ?a10 ?l10 ?c10 ?k10 ?a11 ?l11 ?c11 ?k11 ?a12 ?l12 ?c12 ?k12 ?a13 ?l13 ?c13 ?k13 ?a14 ?l14 ?c14 ?k14 ?a15 ?l15 ?c15 ?k15 ?a16 ?l16 ?c16 ?k16 ?a17 ?l17 ?c17 ?k17 ?a18 ?l18 ?c18 ?k18 ?a19 ?l19 ?c19 ?k19 ?a20 ?l20 ?c20 ?k20 ?a21 ?l21 ?c21 ?k21 ?z1 ?z2 ?z3 ?z4 ?z5 ?z6 ?z7 ?z8 ?z9 ?z10 ?z11
    (case dg => k_is); (case q1 => k_is); (case q2 => k_exc); (case q3 => k_is); (case q4 => k_is); (case q5 => k_is); (case q6 => k_is); (case q7 => k_is); (case q8 => k_is); (case q9 => k_is); (case q10 => k_is); (case q11 => k_is); (case q12 => k_is); (case q13 => first | rfl | k_is); (case q14 => k_is); (case q15 => first | rfl | k_is); (case q16 => first | rfl | k_is)
    (case a1 => k_is); (case l1 => k_is); (case c1 => k_is); (case k1 => k_is)
    (case a2 => k_is); (case l2 => k_is); (case c2 => k_is); (case k2 => k_is)
    (case a3 => k_is); (case l3 => k_is); (case c3 => k_is); (case k3 => k_is)
    (case a4 => k_is); (case l4 => k_is); (case c4 => k_is); (case k4 => k_is)
    (case a5 => k_is); (case l5 => k_is); (case c5 => k_is); (case k5 => k_is)
    (case a6 => k_is); (case l6 => k_is); (case c6 => k_is); (case k6 => k_is)
    (case a7 => k_is); (case l7 => k_is); (case c7 => k_is); (case k7 => k_is)
    (case a8 => k_is); (case l8 => k_is); (case c8 => k_is); (case k8 => k_is)
    (case a9 => k_is); (case l9 => k_is); (case c9 => k_is); (case k9 => k_is)
    (case a10 => k_is); (case l10 => k_is); (case c10 => k_is); (case k10 => k_is)
    (case a11 => k_is); (case l11 => k_is); (case c11 => k_is); (case k11 => k_is)
    (case a12 => k_is); (case l12 => k_is); (case c12 => k_is); (case k12 => k_is)
    (case a13 => k_is); (case l13 => k_is); (case c13 => k_is); (case k13 => k_is)
    (case a14 => k_is); (case l14 => k_is); (case c14 => k_is); (case k14 => k_is)
    (case a15 => k_is); (case l15 => k_is); (case c15 => k_is); (case k15 => k_is)
    (case a16 => k_is); (case l16 => k_is); (case c16 => k_is); (case k16 => k_is)
    (case a17 => k_is); (case l17 => k_is); (case c17 => k_is); (case k17 => k_is)
    (case a18 => k_is); (case l18 => k_is); (case c18 => k_is); (case k18 => k_is)
    (case a19 => k_is); (case l19 => k_is); (case c19 => k_is); (case k19 => k_is)
    (case a20 => k_is); (case l20 => k_is); (case c20 => k_is); (case k20 => k_is)
    (case a21 => k_is); (case l21 => k_is); (case c21 => k_is); (case k21 => k_is)
    (case z1 => k_is); (case z2 => k_is); (case z3 => k_is); (case z4 => k_is); (case z5 => k_is); (case z6 => k_is); (case z7 => k_is); (case z8 => k_is); (case z9 => k_is); (case z10 => k_is); (case z11 => k_is)
#print axioms PySem.Challenge.cw_isthmus_k02_texts_read_back_holds
