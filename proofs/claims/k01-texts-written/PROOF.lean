import PyProof.Rows.All
import Wide.All
import OpenK.AllK
import Wide.FinOn
import HandS.ForMost
import HandS.StrMore
import HandS.Wide
import HandS.IsInst
import KE.KIntText
import KE.IntTextText
import HandS.Rev
import HandS.MapObj
import PySem.Challenge.RW_isthmus_k01_texts_written
set_option Elab.async false
set_option linter.all false
set_option maxRecDepth 100000
set_option maxHeartbeats 4000000
namespace Mt
open PySem PySem.NumText

/-! ### digits -/
def dec (n : Nat) : List Nat := (Nat.toDigits 10 n).map Char.toNat
def decI (n : Int) : List Nat := if n < 0 then 45 :: dec n.natAbs else dec n.natAbs
theorem dec_val (n : Nat) : digitsVal (dec n) = n := PySem.W.KIN.val_back n
theorem dec_all (n : Nat) : AllDigits (dec n) := fun c hc => by
  obtain ⟨ch, hch, e⟩ := List.mem_map.mp hc
  rw [← e]
  exact PyProof.Rows.digit_range (Nat.isDigit_of_mem_toDigits (by decide) (by decide) hch)
theorem dec_lt {n : Nat} (h : n < 10) : dec n = [(Nat.digitChar n).toNat] := by
  unfold dec
  rw [Nat.toDigits_of_lt_base h]
  rfl
theorem dec_step {n : Nat} (h : 10 ≤ n) : dec n = dec (n / 10) ++ dec (n % 10) := by
  have hm : n % 10 < 10 := Nat.mod_lt n (by decide)
  have t : Nat.toDigits 10 (n / 10) ++ Nat.toDigits 10 (n % 10) = Nat.toDigits 10 (10 * (n / 10) + n % 10) := Nat.toDigits_append_toDigits (by decide) (by omega) hm
  rw [Nat.div_add_mod] at t
  unfold dec
  rw [← t, List.map_append]
theorem dec_ne (n : Nat) : dec n ≠ [] := by
  by_cases h : n < 10
  · rw [dec_lt h]; intro e; cases e
  · rw [dec_step (by omega), dec_lt (n := n % 10) (Nat.mod_lt n (by decide))]
    intro e
    have := congrArg List.length e
    simp at this
theorem digit_big : ∀ d : Nat, d < 10 → 1 ≤ d → 49 ≤ (Nat.digitChar d).toNat := by decide
theorem dec_head (n : Nat) (h : 1 ≤ n) : ∃ c r, dec n = c :: r ∧ 49 ≤ c := by
  induction n using Nat.strongRecOn with
  | _ n ih =>
    by_cases h1 : n < 10
    · exact ⟨_, [], dec_lt h1, digit_big n h1 h⟩
    · obtain ⟨c, r, e, hc⟩ := ih (n / 10) (by omega) (by omega)
      exact ⟨c, r ++ dec (n % 10), by rw [dec_step (by omega), e]; rfl, hc⟩
theorem back (c : Nat) (h : c ≤ 57) : (Char.ofNat c).toNat = c := by
  have : ∀ c : Nat, c < 58 → (Char.ofNat c).toNat = c := by decide
  exact this c (by omega)
/-- the digits of a number, none too many -/
def Canon (cs : List Nat) : Prop := AllDigits cs ∧ (cs.length = 1 ∨ ∃ c r, cs = c :: r ∧ 49 ≤ c)
theorem canon_dec {cs : List Nat} (h : Canon cs) : dec (digitsVal cs) = cs := by
  obtain ⟨ha, hl⟩ := h
  have hn : ∃ n, cs.length = n + 1 := by
    rcases hl with hl | ⟨c, r, e, _⟩
    · exact ⟨0, hl⟩
    · exact ⟨r.length, by rw [e]; rfl⟩
  obtain ⟨n, hn⟩ := hn
  unfold dec
  rw [toDigits_digitsVal n cs hn ha (by
    rcases hl with hl | hl
    · left; omega
    · exact Or.inr hl)]
  rw [List.map_map]
  conv => rhs; rw [← List.map_id cs]
  apply List.map_congr_left
  intro c hc
  exact back c (ha c hc).2
theorem canon_of (n : Nat) : Canon (dec n) := by
  refine ⟨dec_all n, ?_⟩
  by_cases h : n = 0
  · left; rw [h, dec_lt (by decide)]; rfl
  · exact Or.inr (dec_head n (by omega))
theorem val_append (a : List Nat) : ∀ b : List Nat, digitsVal (a ++ b) = digitsVal a * 10 ^ b.length + digitsVal b := by
  intro b
  have aux : ∀ (b : List Nat) (x : Nat), b.foldl (fun acc c => acc * 10 + (c - 48)) x = x * 10 ^ b.length + digitsVal b := by
    intro b
    induction b with
    | nil => intro x; simp [digitsVal]
    | cons c b ih =>
      intro x
      rw [List.foldl_cons, ih]
      have e : digitsVal (c :: b) = (0 * 10 + (c - 48)) * 10 ^ b.length + digitsVal b := by
        show b.foldl _ (0 * 10 + (c - 48)) = _
        rw [ih]
      rw [e, List.length_cons, Nat.pow_succ, Nat.add_mul, Nat.zero_mul, Nat.zero_add, Nat.add_assoc]
      congr 1
      rw [Nat.mul_assoc, Nat.mul_comm 10]
  show (a ++ b).foldl _ 0 = _
  rw [List.foldl_append, aux]
  rfl
theorem val_lt : ∀ cs : List Nat, AllDigits cs → digitsVal cs < 10 ^ cs.length := by
  intro cs
  induction cs with
  | nil => intro _; decide
  | cons c r ih =>
    intro h
    have e := val_append [c] r
    have hc := h.head
    have h1 := ih h.tail
    have e1 : digitsVal [c] = c - 48 := by show 0 * 10 + (c - 48) = c - 48; omega
    rw [e1] at e
    show digitsVal ([c] ++ r) < _
    rw [e, List.length_cons, Nat.pow_succ]
    have h2 : (c - 48) * 10 ^ r.length ≤ 9 * 10 ^ r.length := Nat.mul_le_mul_right _ (by omega)
    omega
theorem val_ge {c : Nat} {r : List Nat} (h : 49 ≤ c) : 10 ^ r.length ≤ digitsVal (c :: r) := by
  have e := val_append [c] r
  have e1 : digitsVal [c] = c - 48 := by show 0 * 10 + (c - 48) = c - 48; omega
  rw [e1] at e
  show _ ≤ digitsVal ([c] ++ r)
  rw [e]
  have h2 : 1 * 10 ^ r.length ≤ (c - 48) * 10 ^ r.length := Nat.mul_le_mul_right _ (by omega)
  omega
theorem dec_len {n k : Nat} (h : n < 10 ^ k) (hk : 1 ≤ k) : (dec n).length ≤ k := by
  by_cases h0 : n = 0
  · rw [h0, dec_lt (by decide)]; exact hk
  · obtain ⟨c, r, e, hc⟩ := dec_head n (by omega)
    have h1 := val_ge (r := r) hc
    rw [← e, dec_val] at h1
    rw [e, List.length_cons]
    by_cases h2 : r.length < k
    · exact h2
    · have := Nat.pow_le_pow_right (show 0 < 10 by decide) (show k ≤ r.length by omega)
      omega
theorem val_zeros (n : Nat) : digitsVal (List.replicate n 48) = 0 := by
  induction n with
  | zero => rfl
  | succ n ih => rw [List.replicate_succ, digitsVal_zero, ih]
theorem all_zeros (n : Nat) : AllDigits (List.replicate n 48) := fun c hc => by rw [List.eq_of_mem_replicate hc]; decide
theorem all_append {a b : List Nat} (ha : AllDigits a) (hb : AllDigits b) : AllDigits (a ++ b) := fun c hc => (List.mem_append.mp hc).elim (ha c) (hb c)
theorem val_one_zeros (n : Nat) : digitsVal (49 :: List.replicate n 48) = 10 ^ n := by
  have e := val_append [49] (List.replicate n 48)
  rw [val_zeros, List.length_replicate] at e
  show digitsVal ([49] ++ _) = _
  rw [e]
  have : digitsVal [49] = 1 := rfl
  rw [this]; omega

/-! ### a number cut in pieces of fifty figures -/
def pad (k n : Nat) : List Nat := List.replicate (k - (dec n).length) 48 ++ dec n
theorem pad_val (k n : Nat) : digitsVal (pad k n) = n := by
  unfold pad
  rw [val_append, val_zeros, dec_val]; omega
theorem pad_len {k n : Nat} (h : n < 10 ^ k) (hk : 1 ≤ k) : (pad k n).length = k := by
  unfold pad
  rw [List.length_append, List.length_replicate]
  have := dec_len h hk
  omega
theorem pad_all (k n : Nat) : AllDigits (pad k n) := all_append (all_zeros _) (dec_all _)
structure Cut (n0 v : Nat) (ps : List (List Nat)) : Prop where
  dig : ∀ p ∈ ps, AllDigits p ∧ p.length = 50
  eq : n0 = v * 10 ^ (50 * ps.length) + digitsVal ps.reverse.flatten
  big : ps = [] ∨ 1 ≤ v
theorem Cut.start (n : Nat) : Cut n n [] where
  dig := fun _ h => nomatch h
  eq := by simp [digitsVal]
  big := .inl rfl
theorem flat_len : ∀ {ps : List (List Nat)}, (∀ p ∈ ps, AllDigits p ∧ p.length = 50) → ps.flatten.length = 50 * ps.length ∧ AllDigits ps.flatten
  | [], _ => ⟨rfl, fun _ h => nomatch h⟩
  | p :: ps, h => by
    obtain ⟨h1, h2⟩ := flat_len (ps := ps) fun q hq => h q (List.mem_cons_of_mem _ hq)
    obtain ⟨h3, h4⟩ := h p (List.mem_cons_self ..)
    rw [List.flatten_cons, List.length_append, h1, h4, List.length_cons]
    exact ⟨by omega, all_append h3 h2⟩
theorem Cut.rev {n0 v : Nat} {ps : List (List Nat)} (h : Cut n0 v ps) : ps.reverse.flatten.length = 50 * ps.length ∧ AllDigits ps.reverse.flatten := by
  have := flat_len (ps := ps.reverse) fun p hp => h.dig p (List.mem_reverse.mp hp)
  rw [List.length_reverse] at this
  exact this
theorem Cut.turn {n0 v : Nat} {ps : List (List Nat)} (h : Cut n0 v ps) (hv : 10 ^ 50 ≤ v) : Cut n0 (v / 10 ^ 50) (ps ++ [pad 50 (v % 10 ^ 50)]) := by
  have hm : v % 10 ^ 50 < 10 ^ 50 := Nat.mod_lt _ (by decide)
  refine ⟨fun p hp => ?_, ?_, .inr (by exact (Nat.one_le_div_iff (by decide)).mpr hv)⟩
  · rcases List.mem_append.mp hp with hp | hp
    · exact h.dig p hp
    · rw [List.mem_singleton.mp hp]
      exact ⟨pad_all _ _, pad_len hm (by decide)⟩
  · obtain ⟨h1, _⟩ := h.rev
    rw [List.reverse_append, List.reverse_singleton, List.singleton_append, List.flatten_cons, val_append, pad_val, h1, List.length_append, List.length_singleton]
    have e := h.eq
    have e2 : v = v / 10 ^ 50 * 10 ^ 50 + v % 10 ^ 50 := by rw [Nat.mul_comm]; exact (Nat.div_add_mod v _).symm
    rw [Nat.mul_add, Nat.mul_one, Nat.pow_add, ← Nat.add_assoc, Nat.mul_comm (10 ^ (50 * ps.length)) (10 ^ 50), ← Nat.mul_assoc, ← Nat.add_mul, ← e2]
    exact e
theorem Cut.text {n0 v : Nat} {ps : List (List Nat)} (h : Cut n0 v ps) : dec v ++ ps.reverse.flatten = dec n0 := by
  obtain ⟨h1, h2⟩ := h.rev
  have c : Canon (dec v ++ ps.reverse.flatten) := by
    refine ⟨all_append (dec_all v) h2, ?_⟩
    rcases h.big with e | e
    · subst e
      have := (canon_of v).2
      simpa using this
    · obtain ⟨c, r, e, hc⟩ := dec_head v e
      exact .inr ⟨c, r ++ ps.reverse.flatten, by rw [e]; rfl, hc⟩
  have := canon_dec c
  rw [val_append, dec_val, h1, ← h.eq] at this
  exact this.symm
/-- so many pieces are not more than the figures -/
theorem Cut.few {n0 v : Nat} {ps : List (List Nat)} (h : Cut n0 v ps) : 50 * ps.length ≤ (dec n0).length := by
  rw [← h.text, List.length_append, h.rev.1]; omega

/-! ### texts -/
abbrev cs (x : Str) : List Nat := x.cps.toList
def mk (l : List Nat) : Str := ⟨l.toArray⟩
theorem cs_mk (l : List Nat) : cs (mk l) = l := by simp [cs, mk]
theorem mk_cs (x : Str) : mk (cs x) = x := by cases x; simp [cs, mk]
theorem len_cs (x : Str) : x.length = (cs x).length := by simp [cs, Str.length]
theorem str_ext {x y : Str} (h : cs x = cs y) : x = y := by rw [← mk_cs x, ← mk_cs y, h]
theorem cs_app (x y : Str) : cs (x ++ y) = cs x ++ cs y := by
  show (x.cps ++ y.cps).toList = _
  rw [Array.toList_append]
theorem cs_num (n : Int) (h : 0 ≤ n) : cs (Str.ofString (toString n)) = dec n.toNat := by
  obtain ⟨m, rfl⟩ := Int.eq_ofNat_of_zero_le h
  rw [show (cs (Str.ofString (toString ((m : Nat) : Int)))) = (Nat.toDigits 10 m).map Char.toNat from PySem.W.KIN.signs_num m]
  rfl
theorem cs_num_neg (n : Int) (h : n < 0) : cs (Str.ofString (toString n)) = decI n := by
  obtain ⟨m, rfl⟩ : ∃ m : Nat, n = Int.negSucc m := by
    cases n with
    | ofNat m => exact absurd h (by simp)
    | negSucc m => exact ⟨m, rfl⟩
  unfold decI
  rw [if_pos h]
  show (Str.ofString ("-" ++ Nat.repr (m + 1))).cps.toList = _
  rw [PyProof.Rows.signs_ofString, String.toList_append, List.map_append, Nat.toList_repr]
  rfl
theorem cs_int (n : Int) : cs (Str.ofString (toString n)) = decI n := by
  by_cases h : n < 0
  · exact cs_num_neg n h
  · rw [cs_num n (by omega)]
    unfold decI
    rw [if_neg h]
    congr 1; omega

/-- glued with blanks -/
def gl : List (List Nat) → List Nat
  | [] => []
  | [x] => x
  | x :: y :: r => x ++ 32 :: gl (y :: r)
theorem cs_join : ∀ ys : List Str, cs (Str.join (Str.ofString " ") ys) = gl (ys.map cs)
  | [] => rfl
  | [x] => rfl
  | x :: y :: r => by
    rw [PyProof.Rows.join_cons_cons, cs_app, cs_app, cs_join (y :: r)]
    show cs x ++ cs (Str.ofString " ") ++ _ = cs x ++ 32 :: gl (cs y :: r.map cs)
    have : cs (Str.ofString " ") = [32] := by decide +kernel
    rw [this, List.append_assoc]
    rfl
theorem cs_join0 : ∀ ys : List Str, cs (Str.join (Str.ofString "") ys) = (ys.map cs).flatten
  | [] => rfl
  | [x] => by show cs x = [cs x].flatten; simp
  | x :: y :: r => by
    rw [PyProof.Rows.join_cons_cons, cs_app, cs_app, cs_join0 (y :: r)]
    have : cs (Str.ofString "") = [] := by decide +kernel
    rw [this, List.append_nil]
    rfl
theorem gl_len : ∀ xs : List (List Nat), (gl xs).length + 1 = (xs.map (·.length + 1)).sum + (if xs = [] then 1 else 0)
  | [] => rfl
  | [x] => by simp [gl]
  | x :: y :: r => by
    have := gl_len (y :: r)
    rw [if_neg (by simp)] at this
    rw [if_neg (by simp)]
    show (x ++ 32 :: gl (y :: r)).length + 1 = _
    rw [List.length_append, List.length_cons, List.map_cons, List.sum_cons]
    omega

/-! ### data -/
inductive D where
  | s (x : List Nat)
  | i (n : Int)
  | t (xs : List D)
mutual
def txt : D → List Nat
  | .s x => x
  | .i n => decI n
  | .t xs => 40 :: (gl (txts xs) ++ [41])
def txts : List D → List (List Nat)
  | [] => []
  | x :: r => txt x :: txts r
end
mutual
def deep : D → Nat
  | .s _ => 0
  | .i _ => 0
  | .t xs => deeps xs + 1
def deeps : List D → Nat
  | [] => 0
  | x :: r => max (deep x) (deeps r)
end
theorem txts_map : ∀ xs : List D, txts xs = xs.map txt
  | [] => rfl
  | x :: r => by show txt x :: txts r = _; rw [txts_map r]; rfl
theorem deeps_le {n : Nat} : ∀ {xs : List D}, deeps xs ≤ n ↔ ∀ x ∈ xs, deep x ≤ n
  | [] => by simp [deeps]
  | x :: r => by
    show max (deep x) (deeps r) ≤ n ↔ _
    rw [Nat.max_le, deeps_le (xs := r)]
    simp
theorem gl_mem : ∀ {xs : List (List Nat)} {x : List Nat}, x ∈ xs → x.length ≤ (gl xs).length
  | [], _, h => nomatch h
  | [y], x, h => by rw [List.mem_singleton.mp h]; exact Nat.le_refl _
  | y :: z :: r, x, h => by
    show _ ≤ (y ++ 32 :: gl (z :: r)).length
    rw [List.length_append, List.length_cons]
    rcases List.mem_cons.mp h with h | h
    · rw [h]; omega
    · have := gl_mem h
      omega
end Mt
set_option Elab.async false
set_option linter.all false
set_option maxRecDepth 100000
set_option maxHeartbeats 4000000
namespace Mt
open PySem PySem.Spec PyProof.Rows L2 PySem.NumText
section
variable {X : Cx}
theorem foldl_rep (a : Array Nat) : ∀ (n : Nat) (b : Array Nat), ((List.replicate n a).foldl (· ++ ·) b).toList = b.toList ++ (List.replicate n a.toList).flatten
  | 0, b => by simp
  | n + 1, b => by
    rw [List.replicate_succ, List.foldl_cons, foldl_rep a n, List.replicate_succ, List.flatten_cons, Array.toList_append, List.append_assoc]
/-- text * number -/
def rMulS : R2 := fun x y H Q => ∃ z k, x = .str z ∧ y = .int k ∧ 0 ≤ k ∧ k ≤ 1000000 ∧ z.length ≤ 1 ∧ Q (.str (mk (List.replicate k.toNat (cs z)).flatten)) H
theorem op_mulS : OpR X (binaryOp .Mult) rMulS := by
  intro pins s σ H x y u v Q I rx ry h
  obtain ⟨z, k, rfl, rfl, h0, h1, hz, q⟩ := h
  obtain ⟨t, rfl⟩ := rx
  obtain ⟨t2, rfl⟩ := ry
  have hs : sizeLine = 16777216 := by decide
  refine PySem.P.mul_str (by
    rw [decide_eq_false (by omega), decide_eq_false (by omega)]; rfl) (fun hk _ => ?_) (fun _ _ => ?_) ?_
  · have : (z.length : Int) ≤ 1 := by omega
    have h2 : (1 : Int) ≤ (2 ^ 63 - 1) / k := by
      apply (Int.le_ediv_iff_mul_le (by omega)).mpr
      omega
    omega
  · unfold Builtin.Str.tooLong
    rw [decide_eq_false]
    rw [hs]
    have : z.length * k.toNat ≤ 1 * k.toNat := Nat.mul_le_mul_right _ hz
    omega
  · by_cases hk : k < 1
    · have e : k = 0 := by omega
      subst e
      rw [if_pos (by decide)]
      refine ⟨by decide, ⟨.str _, H, I.tok _, ⟨_, rfl⟩, ?_⟩⟩
      exact q
    · rw [if_neg hk]
      by_cases hb : (k == 1 || z.length == 0) = true
      · rw [if_pos hb]
        have e : mk (List.replicate k.toNat (cs z)).flatten = z := by
          rw [← mk_cs z]
          congr 1
          rw [cs_mk]
          rw [Bool.or_eq_true, beq_iff_eq, beq_iff_eq] at hb
          rcases hb with hb | hb
          · subst hb; simp
          · have : cs z = [] := List.length_eq_zero_iff.mp (by rw [← len_cs]; exact hb)
            rw [this]; simp
        rw [e] at q
        exact ⟨.str _, H, I, ⟨_, rfl⟩, q⟩
      · rw [if_neg hb]
        have e : (⟨(List.replicate k.toNat z.cps).foldl (· ++ ·) #[]⟩ : Str) = mk (List.replicate k.toNat (cs z)).flatten := by
          apply str_ext
          rw [cs_mk]
          show ((List.replicate k.toNat z.cps).foldl (· ++ ·) #[]).toList = _
          rw [foldl_rep]
          rfl
        rw [e]
        refine ⟨?_, ⟨.str _, H, I.tok _, ⟨_, rfl⟩, q⟩⟩
        show (mk _).length ≤ sizeLine
        rw [len_cs, cs_mk, hs]
        have : (List.replicate k.toNat (cs z)).flatten.length = k.toNat * (cs z).length := by simp
        rw [this, ← len_cs]
        have : k.toNat * z.length ≤ k.toNat * 1 := Nat.mul_le_mul_left _ hz
        omega
end

/-! ### text.join(reversed(list)) -/
section
variable {prog : Program} {w : World} {A : Around} {E : Value → Shared → Prop} {s : Shared}
theorem join_rev {it l : Addr} {items : Array Value} {x : Str} {t : Tok} {ys : List Str} {Q : Value → Shared → Prop}
    (hh : A.handled = none) (hit : s.heap.IsRevIter it l ((items.size : Int) - 1)) (hl : s.heap.IsList l items) (hne : l ≠ it) (hn : items.size ≤ sizeLine)
    (hP : ∀ acc : Array Value, ItemsOf (fun i v => items[items.size - 1 - i]? = some v) acc items.size → StrsAre acc.toList ys)
    (hok : (ys.map (·.length)).sum + ys.length * x.length ≤ 16777216)
    (hq : ∀ (h' : Heap) (tk : Nat) (t' : Tok) (k : Nat), (∀ b o, b ≠ it → s.heap.get? b = some o → h'.get? b = some o) → Q (.str (Txt.join x ys) t') { s with heap := h', toks := k }) :
    wpAny (model prog w) A (call (.builtin "str.join") [.str x t, .ref it]) Q E s := by
  have hh1 : A.in1.handled = none := hh
  have hTI : s.TypeIs (.ref it) "list_reverseiterator" := hit.typeIs
  refine wpAny_call (codeAny_call_builtin F.slot_str_join.plain F.entry_str_join
    (F.slot_str_join.check _ _ _ _ _ _ _ _ (typeIs_str _ _ _) (F.args_str_join_2 _ _) ?_))
  rw [join_tree_other]
  refine wpAny_bind (wpAny_typeOf hTI ?_)
  show wpAny _ A.in1 ((pyIter (.ref it)).tryCatch _ >>= fun i2 => collect i2 >>= fun got => joinTail x got) _ _ s
  refine wpAny_bind (wpAny_tryCatch (wpAny_pyIter_revIter hit ?_))
  refine wpAny_bind (RT.collect_rev (A := A.in1) hh1 hit hl hne hn fun h' tk acc hk hacc => ?_)
  obtain ⟨l2, hl2, ht⟩ := strsAre_values (hP acc hacc)
  subst ht
  rw [hl2]
  have hok2 := joinOk_of hok
  unfold JoinOk at hok2
  rw [Bool.not_eq_true'] at hok2
  have g : Gives (joinTail x (strValues l2)) (joinMade x l2) := by
    rcases l2 with _ | ⟨p, _ | ⟨q, r⟩⟩ <;> exact gives_joinTail x _ hok2
  exact g prog w A (wants Q E) _ (post_join l2 ⟨joinFit_length hok2, fun t' k => hq h' tk t' k hk⟩)
end

section
variable {X : Cx}
theorem strs_rev : ∀ {us : List Value} {ys : List Str}, StrsAre us ys → StrsAre us.reverse ys.reverse := by
  intro us ys h
  obtain ⟨l, rfl, rfl⟩ := strsAre_values h
  have : ∀ l : List (Str × Tok), StrsAre (strValues l).reverse (l.map (·.1)).reverse := by
    intro l
    have e : (strValues l).reverse = strValues l.reverse := by simp [strValues]
    rw [e, ← List.map_reverse]
    generalize l.reverse = m
    induction m with
    | nil => exact .nil
    | cons p r ih => exact .cons _ _ ih
  exact this l
theorem acc_rev {its : List Value} {acc : Array Value} (h : ItemsOf (fun i v => its.toArray[its.toArray.size - 1 - i]? = some v) acc its.toArray.size) : acc.toList = its.reverse := by
  have hs : its.toArray.size = its.length := List.size_toArray
  apply List.ext_getElem?
  intro j
  have hl : acc.toList.length = its.length := by rw [Array.length_toList, h.1, hs]
  by_cases hj : j < its.length
  · have hja : j < acc.toList.length := by omega
    have e2 := h.2 j _ (by rw [← Array.getElem?_toList]; exact List.getElem?_eq_getElem hja)
    rw [List.getElem?_eq_getElem hja, List.getElem?_reverse hj, ← e2, hs]
    simp
  · rw [List.getElem?_eq_none (by omega), List.getElem?_eq_none (by rw [List.length_reverse]; omega)]
/-- sep.join(reversed(xs)), xs a list of texts -/
def tJoinRev (K : PySem.W.Frag) (to te : TE) : TE := fun σ H Q => to σ H fun x H1 => (∃ a, x = .str a) ∧ te σ H1 fun v H2 =>
  ∃ (a : Str) (l : Addr) (ys : List Str), x = .str a ∧ v = .ref l ∧ SqL K H2 l (ys.map V.str) ∧
    (ys.map (·.length)).sum + ys.length * a.length ≤ 16777216 ∧ Q (.str (Txt.join a ys.reverse)) H2
theorem pe_joinRev {o e : Expr} {to te : TE} {apos pos p2 pos2 : Pos} (hc : X.calm = true) (hg : Gl X "reversed") (hm : X.mg "reversed" = none) (ho : PE X o to) (he : PE X e te)
    (hs : starEach [e] X.env = (false, eval e X.env) :: starEach [] X.env := by rfl)
    (hs1 : starEach [.Call (.Name "reversed" p2) [e] [] pos2] X.env = [(false, eval (.Call (.Name "reversed" p2) [e] [] pos2) X.env)] := by rfl)
    (hbase : attributeBase o "join" X.env (eval o X.env) = eval o X.env := by rfl) (hline : (apos.endLine == pos.line) = true := by rfl) :
    PE X (.Call (.Attribute o "join" apos) [.Call (.Name "reversed" p2) [e] [] pos2] [] pos) (tJoinRev X.K to te) := by
  refine ⟨fun pins s σ H Q I h => ?_⟩
  refine PySem.Call_method1 hbase hs1 hline (thn (ho.run pins s σ H _ I h) fun v s1 ⟨x, H1, I1, r1, q1⟩ => ?_)
  obtain ⟨⟨a, rfl⟩, q1⟩ := q1
  obtain ⟨t, rfl⟩ := _root_.id r1
  refine ⟨"str", _, F.plainAttrs_str, F.slot_str_join, F.type_str_join, typeIs_str _ _ _, (fun _ e => nomatch e),
    Calls.callWith_builtin rfl (Calls.evalArgs_plain (Calls.spliced_cons ?_))⟩
  refine Call_ (ld_blt I1 hg hm PyProof.Rows.boot_reversed (PyProof.Rows.callWith_type1
    (args_cons (thn (he.run pins s1 σ H1 _ I1 q1) fun u s2 ⟨y, H2, I2, r2, q2⟩ => args_nil ?_) hs) hs rfl))
  obtain ⟨a2, l, ys, ea, ey, hq, hz, q⟩ := q2
  cases ea
  subst ey
  obtain rfl : u = Value.ref l := r2
  obtain ⟨its, rv, pl, hsz⟩ := I2.list hq
  refine call_reversed_list pl.isList ?_
  refine Calls.spliced_nil ?_
  obtain ⟨f0, f1, f2, f3, f4, f5⟩ := I2.fpOk (H' := H2) (b := s2.heap.objs.size) (Nat.le_refl _) (I2.hok.fresh (Nat.le_refl _))
  have hl2 := pl.isList
  obtain ⟨ol, hol, _⟩ := id hl2
  have hne : l ≠ s2.heap.objs.size := Nat.ne_of_lt (Heap.lt_size hol)
  have hn : its.toArray.size ≤ sizeLine := by rw [List.size_toArray, ← rv.length]; exact hsz
  have I3 : Inv X pins σ H2 { s2 with heap := s2.heap.push (revObj l ((its.toArray.size : Int) - 1)) } :=
    I2.kept (t' := s2.toks) fun b o e => Heap.get?_push_of_some _ e
  refine join_rev (ys := ys.reverse) (s := { s2 with heap := s2.heap.push (revObj l ((its.toArray.size : Int) - 1)) }) (I2.ok.hd hc)
    ⟨_, Heap.get?_push_size _ rfl, rfl, rfl⟩ (hl2.push _) hne hn (fun acc hacc => ?_) ?_ fun h' tk t' k hk => ?_
  · rw [acc_rev hacc]
    exact strs_rev (strs_of_vals rv)
  · rw [List.map_reverse, List.sum_reverse, List.length_reverse]
    exact hz
  · exact ⟨.str _, H2, I3.turned (t' := k) (fun b o hb e => hk b o hb e) f0 f1 f3 f4 f5, ⟨t', rfl⟩, q⟩
end
/-- the figures of a number, filled with zeros -/
theorem cs_zfill (r : Int) (h0 : 0 ≤ r) (h1 : r < 10 ^ 50) : cs (Txt.zfill (Str.ofString (toString r)) 50) = pad 50 r.toNat := by
  have hl := dec_len (n := r.toNat) (k := 50) (by omega) (by decide)
  have e := cs_num r h0
  have el : (Str.ofString (toString r)).length = (dec r.toNat).length := by rw [len_cs, e]
  unfold Txt.zfill pad
  by_cases h : (50 : Int) ≤ (Str.ofString (toString r)).length
  · rw [if_pos h, e]
    have : 50 - (dec r.toNat).length = 0 := by omega
    rw [this]; rfl
  · rw [if_neg h]
    unfold zfilled
    have hd : ∀ c, (Str.ofString (toString r)).cps[0]? = some c → c ≠ 43 ∧ c ≠ 45 := by
      intro c hc
      have : c ∈ dec r.toNat := by
        rw [← e]
        exact Array.mem_toList_iff.mpr (Array.mem_of_getElem? hc)
      have := dec_all _ c this
      omega
    split
    · rename_i hc; exact absurd rfl (hd _ hc).1
    · rename_i hc; exact absurd rfl (hd _ hc).2
    · show (Builtin.Str.padded _ _ _ _).cps.toList = _
      unfold Builtin.Str.padded
      simp only [Array.toList_append, Array.toList_replicate, List.replicate_zero, List.append_nil]
      show List.replicate (50 - (Str.ofString (toString r)).length) 48 ++ cs _ = _
      rw [e, el]
end Mt
set_option Elab.async false
set_option linter.all false
set_option maxRecDepth 100000
set_option maxHeartbeats 4000000
namespace Mt
open PySem PySem.Spec PyProof.Rows L2 PySem.NumText
def topS (i : Nat) : Stmt := PySem.Challenge.pw_isthmus_k01_texts_written.main.body.getD i (.Pass ⟨0, 0, 0, 0⟩)
abbrev sWn : Stmt := topS 2
abbrev sWrite : Stmt := topS 3
abbrev sBox : Stmt := topS 5
abbrev sTake : Stmt := topS 6
abbrev sWord : Stmt := topS 7
abbrev sFig : Stmt := topS 8
abbrev sNum : Stmt := topS 9
abbrev sInt : Stmt := topS 10
abbrev sSamp : Stmt := topS 11
abbrev sPlain : Stmt := topS 12
abbrev sNest : Stmt := topS 13
abbrev sLaw : Stmt := topS 14

/-! ### heaps: the box's list changes, all else stays -/
structure Gr (b : Addr) (H H' : Hp) : Prop where
  keep : ∀ a o, a ≠ b → H a = some o → H' a = some o
  box : ∃ n : Int, 0 ≤ n ∧ H' b = some (.lst [.int n])
def BoxAt (H : Hp) (b : Addr) : Prop := ∃ n : Int, 0 ≤ n ∧ H b = some (.lst [.int n])
theorem Gr.refl {b : Addr} {H : Hp} (h : BoxAt H b) : Gr b H H := ⟨fun _ _ _ h => h, h⟩
theorem Gr.trans {b : Addr} {H H1 H2 : Hp} (x : Gr b H H1) (y : Gr b H1 H2) : Gr b H H2 := ⟨fun a o n h => y.keep a o n (x.keep a o n h), y.box⟩
theorem Gr.new {b p : Addr} {H H' : Hp} {o : HO} (x : Gr b H H') (h : H' p = none) : Gr b H (upd H' p o) where
  keep := fun a u n e => by
    have q := x.keep a u n e
    rw [upd_ne (ne_of_none q h)]; exact q
  box := by
    obtain ⟨n, h0, e⟩ := x.box
    exact ⟨n, h0, by rw [upd_ne (ne_of_none e h)]; exact e⟩
/-- an object that H does not know changes -/
theorem Gr.mut {b p : Addr} {H H' : Hp} {o : HO} (x : Gr b H H') (h : H p = none) (hb : p ≠ b) : Gr b H (upd H' p o) where
  keep := fun a u n e => by rw [upd_ne (ne_of_none e h)]; exact x.keep a u n e
  box := by
    obtain ⟨n, h0, e⟩ := x.box
    exact ⟨n, h0, by rw [upd_ne (Ne.symm hb)]; exact e⟩
theorem Gr.free {b p : Addr} {H H' : Hp} (x : Gr b H H') (hb : BoxAt H b) (h : H' p = none) : H p = none ∧ p ≠ b := by
  have hpb : p ≠ b := fun e => by
    obtain ⟨n, _, q⟩ := x.box
    rw [e, q] at h; cases h
  refine ⟨?_, hpb⟩
  cases q : H p with
  | none => rfl
  | some u => rw [x.keep p u hpb q] at h; cases h
theorem Gr.boxAt {b : Addr} {H H' : Hp} (x : Gr b H H') : BoxAt H' b := x.box

def spTake : Sp := fun vs H Q _ => ∃ (b : Addr) (m : Int), vs = [.ref b, .int m] ∧ BoxAt H b ∧ 0 < m ∧ m < 1000 ∧
  ∀ (r : Int) (H' : Hp), 0 ≤ r → r < m → Gr b H H' → Q (.int r) H'
/-- a def of the box alone -/
def spB (G : V → Hp → Prop) : Sp := fun vs H Q _ => ∃ b : Addr, vs = [.ref b] ∧ BoxAt H b ∧ ∀ (v : V) (H' : Hp), Gr b H H' → G v H' → Q v H'
def spBox (K : PySem.W.Frag) : Sp := fun vs H Q _ => ∃ (a : Addr) (ns : List Int) (k : Int), vs = [.ref a, .int k] ∧ SqL K H a (ns.map V.int) ∧ 0 ≤ k ∧
  ∀ (p : Addr) (H' : Hp), Same H H' → BoxAt H' p → H p = none → Q (.ref p) H'
theorem at_int {ns : List Int} {k : Int} (h0 : 0 ≤ k) (h : k < (ns.length : Int)) : ∃ v : Int, atI (ns.map V.int) k = some (.int v) := by
  obtain ⟨j, rfl⟩ := Int.eq_ofNat_of_zero_le h0
  have hj : j < ns.length := by omega
  exact ⟨ns[j], atI_nat (by rw [List.getElem?_map, List.getElem?_eq_getElem hj]; rfl)⟩
section
variable {P : Program} {w : World} {K : PySem.W.Frag} {mg : Str → Option Value} {base : Heap} {f g : Addr} {fd gd : FuncData}
theorem scTake : FnScope ["box", "many", "told"] ["box", "many"] (defScope sTake) := ⟨rfl, rfl, rfl, by decide +kernel, rfl, by decide +kernel, by decide +kernel⟩
theorem ok_take (F : Fun K "_law_take" "_law_take" sTake f fd) (mi : mg "int" = none) : FnOk P w K mg base CX0 1 f fd ["box", "many"] spTake := by
  refine F.ok scTake (fun vs H Q E h => ?_) (fun cdv A outer s H vs Q E hr h => ?_)
  · obtain ⟨b, m, rfl, _⟩ := h
    rfl
  obtain ⟨b, m, rfl, ⟨n, hn, hb⟩, h0, h1, q⟩ := h
  refine ⟨_, pss_cons (ps_set (i := 2) scTake.nd rfl (Or.inl rfl)
      (pe_op op_mod (pe_callTy call_int1 rfl mi boot_int (pa_cons (pe_ix ix_list (pv 0) pe_int (fun _ _ => rfl)) pa_nil)) (pv 1)))
    (pss_cons (ps_asg (pe_op op_fdiv (pe_ix ix_list (pv 0) pe_int (fun _ _ => rfl)) (pv 1)) (pg_sub (pv 0) pe_int set_list))
    (pss_one (ps_ret (pv 2)))), ?_⟩
  refine ⟨_, rfl, b, _, 0, _, rfl, rfl, SqL.of hb, rfl, .inl ⟨n, rfl, _, rfl, n, m, rfl, rfl, h0, ?_⟩⟩
  refine ⟨_, rfl, b, _, 0, _, rfl, rfl, SqL.of hb, rfl, _, rfl, n, m, rfl, rfl, ⟨h0, by omega⟩, ?_⟩
  refine ⟨_, rfl, b, _, 0, 0, rfl, rfl, hb, rfl, ?_⟩
  refine ⟨_, rfl, q _ _ (Int.emod_nonneg _ (by omega)) (Int.emod_lt_of_pos _ h0) ⟨fun a o hne e => ?_, n / m, Int.ediv_nonneg hn (by omega), upd_same⟩⟩
  rw [upd_ne hne]; exact e

theorem scBox : FnScope ["script", "at", "cell"] ["script", "at"] (defScope sBox) := ⟨rfl, rfl, rfl, by decide +kernel, rfl, by decide +kernel, by decide +kernel⟩
theorem ok_box (F : Fun K "_law_box" "_law_box" sBox f fd) (mi : mg "int" = none) (ma : mg "abs" = none) (ml : mg "len" = none) : FnOk P w K mg base CX0 1 f fd ["script", "at"] (spBox K) := by
  refine F.ok scBox (fun vs H Q E h => ?_) (fun cdv A outer s H vs Q E hr h => ?_)
  · obtain ⟨a, ns, k, rfl, _⟩ := h
    rfl
  obtain ⟨a, ns, k, rfl, hS, hk, q⟩ := h
  refine ⟨_, pss_cons (ps_set (i := 2) scBox.nd rfl (Or.inl rfl) pe_int)
    (pss_cons (ps_if (pt_cmpR op_lt (pv 1) (pe_callB call_len_seq rfl ml PySem.boot_len (pa_cons (pv 0) pa_nil)) (nomark _))
      (pss_one (ps_set (i := 2) scBox.nd rfl (Or.inl rfl) (pe_callB call_abs rfl ma boot_abs (pa_cons (pe_callTy call_int1 rfl mi boot_int (pa_cons (pe_ix ix_list (pv 0) (pv 1) (fun _ _ => rfl)) pa_nil)) pa_nil)))) pss_nil)
    (pss_cons (ps_if (pt_cmpR op_lt (pv 2) (pe_op op_pow pe_int pe_int) (nomark _))
      (pss_one (ps_set (i := 2) scBox.nd rfl (Or.inl rfl) (pe_op op_mul (pv 2) pe_int))) pss_nil)
    (pss_one (ps_ret (pe_lst (pa_cons (pe_op op_mul (pe_op op_mul (pe_op op_mul (pe_op op_mul (pe_op op_mul (pe_op op_mul (pe_op op_mul (pe_op op_mul (pv 2) pe_int) pe_int) pe_int) pe_int) pe_int) pe_int) pe_int) pe_int) pa_nil)))))), ?_⟩
  -- behind the second if
  have fin : ∀ (c : Int) (σ : L2.St), 0 ≤ c → σ[2]? = some (some (V.int c)) → 
    (tLst (tCons (tOp (rI CMul fun i j => .int (i * j)) (tOp (rI CMul fun i j => .int (i * j)) (tOp (rI CMul fun i j => .int (i * j)) (tOp (rI CMul fun i j => .int (i * j)) (tOp (rI CMul fun i j => .int (i * j)) (tOp (rI CMul fun i j => .int (i * j)) (tOp (rI CMul fun i j => .int (i * j)) (tOp (rI CMul fun i j => .int (i * j)) (tVar 2) (tC (.int 2147483647))) (tC (.int 1000000007))) (tC (.int 998244353))) (tC (.int 4294967291))) (tC (.int 982451653))) (tC (.int 67280421310721))) (tC (.int 2305843009213693951))) (tC (.int 999999999989))) tNil)) σ H Q := by
    intro c σ hc e
    refine ⟨_, e, c, _, rfl, rfl, .inr ⟨by decide, by decide⟩, _, _, rfl, rfl, .inr ⟨by decide, by decide⟩, _, _, rfl, rfl, .inr ⟨by decide, by decide⟩, _, _, rfl, rfl, .inr ⟨by decide, by decide⟩,
      _, _, rfl, rfl, .inr ⟨by decide, by decide⟩, _, _, rfl, rfl, .inr ⟨by decide, by decide⟩, _, _, rfl, rfl, .inr ⟨by decide, by decide⟩, _, _, rfl, rfl, .inr ⟨by decide, by decide⟩, (by show 1 ≤ sizeLine; decide), fun p hp => ?_⟩
    refine q p _ (fun x o e => by rw [upd_ne (ne_of_none e hp)]; exact e) ⟨_, ?_, upd_same⟩ hp
    repeat (first | exact hc | refine Int.mul_nonneg ?_ (by decide))
  have mid : ∀ (c : Int) (σ : L2.St), 0 ≤ c → σ.length = 3 → σ[2]? = some (some (V.int c)) → 
     (tIfS (tTest (tOp (rI0 fun i j => .bl (decide (i < j))) (tVar 2) (tOp (rI CPow fun i j => .int (i ^ j.toNat)) (tC (.int 10)) (tC (.int 18))))) (tAsg (tOp (rI CMul fun i j => .int (i * j)) (tVar 2) (tC (.int 998244359987710471))) (gName 2)) tNext)
     { nx := fun σ H => (tLst (tCons (tOp (rI CMul fun i j => .int (i * j)) (tOp (rI CMul fun i j => .int (i * j)) (tOp (rI CMul fun i j => .int (i * j)) (tOp (rI CMul fun i j => .int (i * j)) (tOp (rI CMul fun i j => .int (i * j)) (tOp (rI CMul fun i j => .int (i * j)) (tOp (rI CMul fun i j => .int (i * j)) (tOp (rI CMul fun i j => .int (i * j)) (tVar 2) (tC (.int 2147483647))) (tC (.int 1000000007))) (tC (.int 998244353))) (tC (.int 4294967291))) (tC (.int 982451653))) (tC (.int 67280421310721))) (tC (.int 2305843009213693951))) (tC (.int 999999999989))) tNil)) σ H Q, rt := Q } σ H := by
    intro c σ hc hl e
    refine ⟨_, e, _, _, rfl, rfl, ⟨by decide, by decide, by decide⟩, _, _, rfl, rfl, _, rfl, ?_⟩
    refine ite2 (fun _ => ?_) (fun _ => ?_)
    · refine ⟨_, e, _, _, rfl, rfl, .inr ⟨by decide, by decide⟩, ?_⟩
      exact fin (c * 998244359987710471) _ (Int.mul_nonneg hc (by decide)) (List.getElem?_set_self (by rw [hl]; decide))
    · exact fin c σ hc e
  refine ⟨_, rfl, _, rfl, a, _, rfl, .inl hS, _, _, rfl, rfl, _, rfl, ?_⟩
  refine ite2 (fun c => ?_) (fun c => ?_)
  · have c' : k < (((ns.map V.int).length : Nat) : Int) := of_decide_eq_true c
    rw [List.length_map] at c'
    obtain ⟨v, ea⟩ := at_int hk c'
    refine ⟨_, rfl, _, rfl, a, _, k, _, rfl, rfl, hS, ea, .inl ⟨_, rfl, _, rfl, ?_⟩⟩
    refine mid _ _ ?_ rfl rfl
    split <;> omega
  · exact mid 0 _ (by decide) rfl rfl

/-- the callee «_law_take» as it stands -/
structure Tk (P : Program) (w : World) (K : PySem.W.Frag) (mg : Str → Option Value) (base : Heap) (g : Addr) (gd : FuncData) : Prop where
  ok : FnOk P w K mg base CX0 1 g gd ["box", "many"] spTake
  b : Binds K gd ["box", "many"] []
  k : PySem.W.keepIn K (.ref g) = true
  m : mg "_law_take" = some (.ref g)
structure Cal (P : Program) (w : World) (K : PySem.W.Frag) (mg : Str → Option Value) (base : Heap) (x : Str) (n : Nat) (ps : List Str) (sp : Sp) (g : Addr) (gd : FuncData) : Prop where
  ok : FnOk P w K mg base CX0 n g gd ps sp
  b : Binds K gd ps []
  k : PySem.W.keepIn K (.ref g) = true
  m : mg x = some (.ref g)

def Word (l : List Nat) : Prop := (∀ c ∈ l, 97 ≤ c ∧ c ≤ 122) ∧ 1 ≤ l.length ∧ l.length ≤ 68
def gWord : V → Hp → Prop := fun v _ => ∃ x : Str, v = .str x ∧ Word (cs x)
def alphabet : Str := Str.ofString "abcdefghijklmnopqrstuvwxyz"
theorem alpha_at : ∀ r : Nat, r < 26 → (cs alphabet)[r]? = some (97 + r) := by decide +kernel
theorem alpha_len : alphabet.length ≤ sizeLine := by decide +kernel
theorem scWord : FnScope ["box", "many", "k"] ["box"] (defScope sWord) := ⟨rfl, rfl, rfl, by decide +kernel, rfl, by decide +kernel, by decide +kernel⟩
/-- texts of one sign, joined -/
theorem one_sign_join {ys : List Str} {n : Nat} (h : ∀ y ∈ ys, y.length = 1) (hn : ys.length = n) : (ys.map (·.length)).sum = n ∧ ((ys.map cs).flatten).length = n := by
  subst hn
  induction ys with
  | nil => exact ⟨rfl, rfl⟩
  | cons y r ih =>
    obtain ⟨h1, h2⟩ := ih fun z hz => h z (List.mem_cons_of_mem _ hz)
    have h3 := h y (List.mem_cons_self ..)
    rw [List.map_cons, List.sum_cons, List.map_cons, List.flatten_cons, List.length_append, h1, h2, ← len_cs, h3, List.length_cons]
    omega
theorem ok_word (F : Fun K "_law_word" "_law_word" sWord f fd) (T : Cal P w K mg base "_law_take" 1 ["box", "many"] spTake g gd) (mr : mg "range" = none) :
    FnOk P w K mg base CX0 2 f fd ["box"] (spB gWord) := by
  refine F.ok scWord (fun vs H Q E h => ?_) (fun cdv A outer s H vs Q E hr h => ?_)
  · obtain ⟨b, rfl, _⟩ := h
    rfl
  obtain ⟨b, rfl, hb, q⟩ := h
  refine ⟨_, pss_cons (ps_set (i := 1) scWord.nd rfl (Or.inl rfl)
      (pe_ifExp (pt_cmpR op_gt (pe_call T.ok hr rfl T.m T.k T.b .nil pass0 (pa_cons (pv 0) (pa_cons pe_int pa_nil))) pe_int (nomark _))
        (pe_op op_add pe_int (pe_call T.ok hr rfl T.m T.k T.b .nil pass0 (pa_cons (pv 0) (pa_cons pe_int pa_nil))))
        (pe_op op_add pe_int (pe_call T.ok hr rfl T.m T.k T.b .nil pass0 (pa_cons (pv 0) (pa_cons pe_int pa_nil))))))
    (pss_one (ps_ret (pe_join pe_str
      (pe_lc (own := [("k", 2)]) (g := gName 2) (tt := tYes) rfl scWord.nd (pi_range1 rfl mr (pa_cons (pv 1) pa_nil)) (blkOk_by (N := ["box", "many", "k"]) (sc := defScope sWord) (by decide +kernel))
        (fun _ _ _ _ _ => pg_name (i := 2) scWord.nd rfl (Or.inl rfl)) (fun _ _ _ _ _ => pts_nil)
        (fun _ _ _ _ _ => pe_ix ix_str pe_str (pe_call T.ok hr rfl T.m T.k T.b .nil pass0 (pa_cons (pv 0) (pa_cons pe_int pa_nil))) (fun _ _ => rfl)))))), ?_⟩
  refine ⟨_, rfl, b, 6, rfl, hb, by decide, by decide, fun r1 H1 h1 h2 g1 => ⟨_, _, rfl, rfl, _, rfl, ?_⟩⟩
  -- behind many
  have mid : ∀ (m : Int) (H2 : Hp), 1 ≤ m → m ≤ 68 → Gr b H H2 → ∀ (t : TE), (∀ (σ : L2.St) (H3 : Hp), σ = [some (.ref b), some (.int m), none] → H3 = H2 → t σ H3 Q) → t [some (.ref b), some (.int m), none] H2 Q :=
    fun m H2 _ _ _ t h => h _ _ rfl rfl
  have many : ∃ m H2, True := ⟨0, H, trivial⟩
  suffices key : ∀ (m : Int) (H2 : Hp), 1 ≤ m → m ≤ 68 → Gr b H H2 →
      (tM1 (fun x xs H Q => ∃ a p, ∃ ys : List Str, x = V.str a ∧ xs = [V.ref p] ∧ (SqL K H p (ys.map V.str) ∨ SqT K H p (ys.map V.str)) ∧ (ys.map (·.length)).sum + ys.length * a.length ≤ 16777216 ∧ Q (.str (Txt.join a ys)) H)
        (tC (.str (Str.ofString ""))) (tLc (iRng1 (tCons (tVar 1) tNil)) (gName 2) tYes (tOp rIxS (tC (.str alphabet)) (tCall spTake [] E0 (tCons (tVar 0) (tCons (tC (.int 26)) tNil)))) [2])) [some (.ref b), some (.int m), none] H2 Q by
    refine ite2 (fun _ => ?_) (fun _ => ?_)
    · refine ⟨_, rfl, b, 8, rfl, g1.boxAt, by decide, by decide, fun r2 H2 h3 h4 g2 => ⟨_, _, rfl, rfl, ?_⟩⟩
      exact key _ H2 (by omega) (by omega) (g1.trans g2)
    · refine ⟨_, rfl, b, 60, rfl, g1.boxAt, by decide, by decide, fun r2 H2 h3 h4 g2 => ⟨_, _, rfl, rfl, ?_⟩⟩
      exact key _ H2 (by omega) (by omega) (g1.trans g2)
  intro m H2 hm1 hm2 g2
  refine ⟨⟨_, rfl⟩, _, rfl, m, rfl, by omega, by omega, fun D hD => ?_⟩
  obtain ⟨hD0, hDb⟩ := g2.free hb hD
  refine lc_range (lo := 0) (n := m.toNat) (fun i H3 => Gr b H H3 ∧ ∃ ys : List Str, H3 D = some (.lst (ys.map V.str)) ∧ ys.length = i ∧ ∀ y ∈ ys, y.length = 1 ∧ ∀ c ∈ cs y, 97 ≤ c ∧ c ≤ 122) ?_ (fun i H3 hi p => ?_) (fun H3 p => ?_)
  · exact ⟨g2.new hD, [], upd_same, rfl, fun _ h => nomatch h⟩
  · obtain ⟨g3, ys, hys, hl, hc⟩ := p
    refine ⟨rfl, ?_⟩
    refine ⟨_, rfl, b, 26, rfl, g3.boxAt, by decide, by decide, fun r H4 h3 h4 g4 => ?_⟩
    obtain ⟨j, rfl⟩ := Int.eq_ofNat_of_zero_le h3
    have hj : j < 26 := by omega
    refine ⟨_, _, _, rfl, rfl, alpha_len, atI_nat (alpha_at j hj), ys.map V.str, g4.keep D _ hDb hys, ?_, (g3.trans g4).mut hD0 hDb, ys ++ [⟨#[97 + j]⟩], ?_, ?_, ?_⟩
    · rw [List.length_map, hl]
      exact Nat.lt_of_lt_of_le (show i < 68 by omega) (by decide)
    · rw [upd_same, List.map_append]; rfl
    · rw [List.length_append, hl]; rfl
    · intro y hy
      rcases List.mem_append.mp hy with hy | hy
      · exact hc y hy
      · rw [List.mem_singleton.mp hy]
        refine ⟨rfl, fun c hc => ?_⟩
        have : c = 97 + j := by simpa [cs] using hc
        omega
  · obtain ⟨g3, ys, hys, hl, hc⟩ := p
    obtain ⟨e1, e2⟩ := one_sign_join (fun y hy => (hc y hy).1) hl
    refine ⟨_, D, ys, rfl, rfl, .inl (SqL.of hys), ?_, q _ H3 g3 ⟨_, rfl, ?_⟩⟩
    · rw [e1]
      have : (Str.ofString "").length = 0 := by decide +kernel
      rw [this]; omega
    · have ej : cs (Txt.join (Str.ofString "") ys) = (ys.map cs).flatten := by
        show cs (Builtin.Str.glued _ _) = _
        rw [StrLaws.glued_eq_join, cs_join0]
      rw [ej]
      refine ⟨fun c hcm => ?_, by omega, by omega⟩
      obtain ⟨l, hl1, hl2⟩ := List.mem_flatten.mp hcm
      obtain ⟨y, hy, rfl⟩ := List.mem_map.mp hl1
      exact (hc y hy).2 c hl2
end
end Mt
set_option Elab.async false
set_option linter.all false
set_option maxRecDepth 100000
set_option maxHeartbeats 4000000
namespace Mt
open PySem PySem.Spec PyProof.Rows L2 PySem.NumText
theorem cs_cut (z : Str) (lo hi : Nat) (h : lo ≤ hi) : cs (cutS z (some (lo : Int)) (some (hi : Int))) = ((cs z).drop lo).take (hi - lo) := by
  show (((cs z).drop (HT.sIx z.length 0 (some (lo : Int)))).take (HT.sIx z.length z.length (some (hi : Int)) - HT.sIx z.length 0 (some (lo : Int)))).toArray.toList = _
  rw [HT.sIx_nat, HT.sIx_nat, List.toList_toArray, len_cs]
  by_cases h1 : (cs z).length ≤ lo
  · rw [show min lo (cs z).length = (cs z).length by omega, List.drop_eq_nil_of_le h1, List.drop_eq_nil_of_le (Nat.le_refl _), List.take_nil, List.take_nil]
  · rw [show min lo (cs z).length = lo by omega]
    by_cases h2 : hi ≤ (cs z).length
    · rw [show min hi (cs z).length = hi by omega]
    · rw [show min hi (cs z).length = (cs z).length by omega, List.take_of_length_le (by rw [List.length_drop]; omega), List.take_of_length_le (by rw [List.length_drop]; omega)]
theorem cs_cut1 (z : Str) : cs (cutS z (some 1) none) = (cs z).drop 1 := by
  show (((cs z).drop (HT.sIx z.length 0 (some ((1 : Nat) : Int)))).take (HT.sIx z.length z.length none - HT.sIx z.length 0 (some ((1 : Nat) : Int)))).toArray.toList = _
  rw [HT.sIx_nat, HT.sIx_none, List.toList_toArray, len_cs]
  by_cases h1 : (cs z).length ≤ 1
  · rw [Nat.min_eq_right h1, List.drop_eq_nil_of_le h1, List.drop_eq_nil_of_le (Nat.le_refl _), List.take_nil]
  · rw [Nat.min_eq_left (by omega), List.take_of_length_le (by rw [List.length_drop]; omega)]
theorem line_big : (16777216 : Nat) ≤ sizeLine := by decide
theorem str_len {x : Str} {n : Nat} (h : (cs x).length ≤ n) (hn : n ≤ 16777216) : x.length ≤ sizeLine := by
  rw [len_cs]; exact Nat.le_trans h (Nat.le_trans hn line_big)
theorem cs_lit0 : cs (Str.ofString "0") = [48] := by decide +kernel
theorem cs_lit1 : cs (Str.ofString "1") = [49] := by decide +kernel
theorem rep_one (n : Nat) (c : Nat) : (List.replicate n [c]).flatten = List.replicate n c := by
  induction n with
  | zero => rfl
  | succ n ih => rw [List.replicate_succ, List.flatten_cons, ih, List.replicate_succ]; rfl
theorem dig1 {r : Int} (h0 : 0 ≤ r) (h1 : r < 10) : (Str.ofString (toString r)).length = 1 ∧ ∀ c ∈ cs (Str.ofString (toString r)), 48 ≤ c ∧ c ≤ 57 := by
  rw [len_cs, cs_num r h0]
  exact ⟨by rw [dec_lt (by omega)]; rfl, dec_all _⟩
theorem log_small {r : Int} (h0 : 0 ≤ r) (h1 : r < 2 ^ 1900) : r.natAbs.log2 < 1920 := by
  have : r.natAbs < 2 ^ 1900 := by omega
  by_cases h : r.natAbs = 0
  · rw [h]; decide
  · have := (Nat.log2_lt h).mpr this
    omega

section
variable {P : Program} {w : World} {K : PySem.W.Frag} {mg : Str → Option Value} {base : Heap} {f g : Addr} {fd gd : FuncData}
def gFig : V → Hp → Prop := fun v _ => ∃ x : Str, v = .str x ∧ Canon (cs x) ∧ (cs x).length ≤ 4400
theorem scFig : FnScope ["box", "many", "row", "k"] ["box"] (defScope sFig) := ⟨rfl, rfl, rfl, by decide +kernel, rfl, by decide +kernel, by decide +kernel⟩
theorem menu9 : ∀ j : Nat, j < 9 → ∃ m : Int, ([V.int 1, V.int 2, V.int 3, V.int 4, V.int 9, V.int 19, V.int 41, V.int 51, V.int 4400] : List V)[j]? = some (V.int m) ∧ 1 ≤ m ∧ m ≤ 4400
  | 0, _ => ⟨1, rfl, by decide, by decide⟩ | 1, _ => ⟨2, rfl, by decide, by decide⟩ | 2, _ => ⟨3, rfl, by decide, by decide⟩ | 3, _ => ⟨4, rfl, by decide, by decide⟩
  | 4, _ => ⟨9, rfl, by decide, by decide⟩ | 5, _ => ⟨19, rfl, by decide, by decide⟩ | 6, _ => ⟨41, rfl, by decide, by decide⟩ | 7, _ => ⟨51, rfl, by decide, by decide⟩
  | 8, _ => ⟨4400, rfl, by decide, by decide⟩ | n + 9, h => absurd h (by omega)
theorem menu3 : ∀ j : Nat, j < 3 → ∃ x : Str, ([V.str (Str.ofString "1"), V.str (Str.ofString "9"), V.str (Str.ofString "5")] : List V)[j]? = some (V.str x) ∧ ∃ c, cs x = [c] ∧ 49 ≤ c ∧ c ≤ 57
  | 0, _ => ⟨_, rfl, 49, by decide +kernel, by decide, by decide⟩ | 1, _ => ⟨_, rfl, 57, by decide +kernel, by decide, by decide⟩ | 2, _ => ⟨_, rfl, 53, by decide +kernel, by decide, by decide⟩
  | n + 3, h => absurd h (by omega)
theorem ok_fig (F : Fun K "_law_figures" "_law_figures" sFig f fd) (T : Cal P w K mg base "_law_take" 1 ["box", "many"] spTake g gd) (mr : mg "range" = none) (mm : mg "min" = none) (ms : mg "str" = none) (ml : mg "len" = none) :
    FnOk P w K mg base CX0 2 f fd ["box"] (spB gFig) := by
  refine F.ok scFig (fun vs H Q E h => ?_) (fun cdv A outer s H vs Q E hr h => ?_)
  · obtain ⟨b, rfl, _⟩ := h
    rfl
  obtain ⟨b, rfl, hb, q⟩ := h
  refine ⟨_, pss_cons (ps_set (i := 1) scFig.nd rfl (Or.inl rfl)
      (pe_ifExp (pt_cmpR op_eq (pe_call T.ok hr rfl T.m T.k T.b .nil pass0 (pa_cons (pv 0) (pa_cons pe_int pa_nil))) pe_int (nomark _))
        (pe_ix ix_list (pe_lst (pa_cons pe_int (pa_cons pe_int (pa_cons pe_int (pa_cons pe_int (pa_cons pe_int (pa_cons pe_int (pa_cons pe_int (pa_cons pe_int (pa_cons pe_int pa_nil)))))))))) (pe_call T.ok hr rfl T.m T.k T.b .nil pass0 (pa_cons (pv 0) (pa_cons pe_int pa_nil))) (fun _ _ => rfl))
        (pe_op op_add pe_int (pe_call T.ok hr rfl T.m T.k T.b .nil pass0 (pa_cons (pv 0) (pa_cons pe_int pa_nil))))))
    (pss_cons (ps_set (i := 2) scFig.nd rfl (Or.inl rfl) (pe_join pe_str
      (pe_lc (own := [("k", 3)]) (g := gName 3) (tt := tYes) rfl scFig.nd (pi_range1 rfl mr (pa_cons (pe_callB (call_min2 rfl) rfl mm boot_min (pa_cons (pv 1) (pa_cons pe_int pa_nil))) pa_nil)) (blkOk_by (N := ["box", "many", "row", "k"]) (sc := defScope sFig) (by decide +kernel))
        (fun _ _ _ _ _ => pg_name (i := 3) scFig.nd rfl (Or.inl rfl)) (fun _ _ _ _ _ => pts_nil)
        (fun _ _ _ _ _ => pe_callTy call_str_int rfl ms boot_str (pa_cons (pe_call T.ok hr rfl T.m T.k T.b .nil pass0 (pa_cons (pv 0) (pa_cons pe_int pa_nil))) pa_nil)))))
    (pss_cons (ps_set (i := 2) scFig.nd rfl (Or.inl rfl) (pe_op op_add_str (pe_op op_add_str
        (pe_ix ix_list (pe_lst (pa_cons pe_str (pa_cons pe_str (pa_cons pe_str pa_nil)))) (pe_call T.ok hr rfl T.m T.k T.b .nil pass0 (pa_cons (pv 0) (pa_cons pe_int pa_nil))) (fun _ _ => rfl))
        (pe_slice sl_str (pv 2) (po_some pe_int) po_none))
        (pe_op op_mulS pe_str (pe_op op_sub (pv 1) (pe_callB call_len_str rfl ml PySem.boot_len (pa_cons (pv 2) pa_nil))))))
    (pss_one (ps_ret (pe_ifExp (PW.pt (pw_and (pt_cmpR op_eq (pv 1) pe_int (nomark _)) (pw_and1 (pt_cmpR op_eq (pe_call T.ok hr rfl T.m T.k T.b .nil pass0 (pa_cons (pv 0) (pa_cons pe_int pa_nil))) pe_int (nomark _)))))
      pe_str (pv 2)))))), ?_⟩
  refine ⟨_, rfl, b, 12, rfl, hb, by decide, by decide, fun r1 H1 h1 h2 g1 => ⟨rfl, _, rfl, ?_⟩⟩
  suffices key : ∀ (m : Int) (H2 : Hp), 1 ≤ m → m ≤ 4400 → Gr b H H2 →
      (tAsg (tM1 (fun x xs H Q => ∃ a p, ∃ ys : List Str, x = V.str a ∧ xs = [V.ref p] ∧ (SqL K H p (ys.map V.str) ∨ SqT K H p (ys.map V.str)) ∧ (ys.map (·.length)).sum + ys.length * a.length ≤ 16777216 ∧ Q (.str (Txt.join a ys)) H)
        (tC (.str (Str.ofString ""))) (tLc (iRng1 (tCons (tCB (fun xs H Q => ∃ i j, xs = [V.int i, V.int j] ∧ Q (.int (if j < i then j else i)) H) (tCons (tVar 1) (tCons (tC (.int 40)) tNil))) tNil)) (gName 3) tYes
          (tCB (fun xs H Q => ∃ i : Int, xs = [V.int i] ∧ i.natAbs.log2 < 1920 ∧ Q (.str (toString i)) H) (tCons (tCall spTake [] E0 (tCons (tVar 0) (tCons (tC (.int 10)) tNil))) tNil)) [3])) (gName 2))
      { nx := fun σ H => tAsg (tOp (fun x y H Q => ∃ i j, x = .str i ∧ y = .str j ∧ i.length + j.length ≤ sizeLine ∧ Q (.str (i ++ j)) H)
          (tOp (fun x y H Q => ∃ i j, x = .str i ∧ y = .str j ∧ i.length + j.length ≤ sizeLine ∧ Q (.str (i ++ j)) H)
            (tOp (rIxL K) (tLst (tCons (tC (.str (Str.ofString "1"))) (tCons (tC (.str (Str.ofString "9"))) (tCons (tC (.str (Str.ofString "5"))) tNil)))) (tCall spTake [] E0 (tCons (tVar 0) (tCons (tC (.int 3)) tNil))))
            (tSl rSlS (tVar 2) (tPart (tC (.int 1))) tNoPart))
          (tOp rMulS (tC (.str (Str.ofString "0"))) (tOp (rI0 fun i j => .int (i - j)) (tVar 1) (tCB (fun xs H Q => ∃ z : Str, xs = [V.str z] ∧ z.length ≤ sizeLine ∧ Q (.int z.length) H) (tCons (tVar 2) tNil))))) (gName 2)
          { nx := fun σ H => tRet (tIf (tAnd (tTest (tOp rEq (tVar 1) (tC (.int 1)))) (tTest (tOp rEq (tCall spTake [] E0 (tCons (tVar 0) (tCons (tC (.int 3)) tNil))) (tC (.int 0))))) (tC (.str (Str.ofString "0"))) (tVar 2)) { nx := fun _ H' => Q .non H', rt := Q } σ H, rt := Q } σ H, rt := Q }
      [some (.ref b), some (.int m), none, none] H2 by
    refine ite2 (fun _ => ?_) (fun _ => ?_)
    · refine ⟨(by show 9 ≤ sizeLine; decide), fun p hp => ?_⟩
      have g1' := g1.new (o := .lst [V.int 1, V.int 2, V.int 3, V.int 4, V.int 9, V.int 19, V.int 41, V.int 51, V.int 4400]) hp
      obtain ⟨hp0, hpb⟩ := g1.free hb hp
      refine ⟨_, rfl, b, 9, rfl, g1'.boxAt, by decide, by decide, fun r2 H2 h3 h4 g2 => ?_⟩
      obtain ⟨j, rfl⟩ := Int.eq_ofNat_of_zero_le h3
      obtain ⟨m, hm, hm1, hm2⟩ := menu9 j (by omega)
      refine ⟨p, _, _, _, rfl, rfl, SqL.of (g2.keep p _ hpb upd_same), atI_nat hm, ?_⟩
      exact key m H2 hm1 hm2 (g1'.trans g2)
    · refine ⟨_, rfl, b, 12, rfl, g1.boxAt, by decide, by decide, fun r2 H2 h3 h4 g2 => ⟨_, _, rfl, rfl, ?_⟩⟩
      exact key _ H2 (by omega) (by omega) (g1.trans g2)
  intro m H2 hm1 hm2 g2
  obtain ⟨m40, hm40, hl1, hl2, hl3⟩ : ∃ m40 : Int, (if (40 : Int) < m then (40 : Int) else m) = m40 ∧ 1 ≤ m40 ∧ m40 ≤ 40 ∧ m40 ≤ m := by
    by_cases h : (40 : Int) < m
    · exact ⟨40, if_pos h, by omega, by omega, by omega⟩
    · exact ⟨m, if_neg h, by omega, by omega, by omega⟩
  refine ⟨⟨_, rfl⟩, _, rfl, m, 40, rfl, ?_⟩
  rw [hm40]
  refine ⟨m40, rfl, by omega, by omega, fun D hD => ?_⟩
  obtain ⟨hD0, hDb⟩ := g2.free hb hD
  refine lc_range (lo := 0) (n := m40.toNat) (fun i H3 => Gr b H H3 ∧ ∃ ys : List Str, H3 D = some (.lst (ys.map V.str)) ∧ ys.length = i ∧ ∀ y ∈ ys, y.length = 1 ∧ ∀ c ∈ cs y, 48 ≤ c ∧ c ≤ 57) ?_ (fun i H3 hi p => ?_) (fun H3 p => ?_)
  · exact ⟨g2.new hD, [], upd_same, rfl, fun _ h => nomatch h⟩
  · obtain ⟨g3, ys, hys, hl, hc⟩ := p
    refine ⟨rfl, ?_⟩
    refine ⟨_, rfl, b, 10, rfl, g3.boxAt, by decide, by decide, fun r H4 h3 h4 g4 => ?_⟩
    refine ⟨r, rfl, log_small h3 (by omega), ys.map V.str, g4.keep D _ hDb hys, ?_, (g3.trans g4).mut hD0 hDb, ys ++ [Str.ofString (toString r)], ?_, ?_, ?_⟩
    · rw [List.length_map, hl]
      exact Nat.lt_of_lt_of_le (show i < 68 by omega) (by decide)
    · rw [upd_same, List.map_append]; rfl
    · rw [List.length_append, hl]; rfl
    · intro y hy
      rcases List.mem_append.mp hy with hy | hy
      · exact hc y hy
      · rw [List.mem_singleton.mp hy]
        exact dig1 h3 h4
  · obtain ⟨g3, ys, hys, hl, hc⟩ := p
    obtain ⟨e1, e2⟩ := one_sign_join (fun y hy => (hc y hy).1) hl
    refine ⟨_, D, ys, rfl, rfl, .inl (SqL.of hys), ?_, ?_⟩
    · rw [e1]
      have : (Str.ofString "").length = 0 := by decide +kernel
      rw [this]; omega
    have ej : cs (Txt.join (Str.ofString "") ys) = (ys.map cs).flatten := by
      show cs (Builtin.Str.glued _ _) = _
      rw [StrLaws.glued_eq_join, cs_join0]
    have row : ∃ row : Str, row = Txt.join (Str.ofString "") ys := ⟨_, rfl⟩
    obtain ⟨row, hrow⟩ := row
    have hrl : (cs row).length = m40.toNat := by rw [hrow, ej, e2]
    have hra : AllDigits (cs row) := by
      rw [hrow, ej]
      intro c hcm
      obtain ⟨l, hl1, hl2⟩ := List.mem_flatten.mp hcm
      obtain ⟨y, hy, rfl⟩ := List.mem_map.mp hl1
      exact (hc y hy).2 c hl2
    rw [← hrow]
    refine ⟨(by show 3 ≤ sizeLine; decide), fun p hp => ?_⟩
    have g3' := g3.new (o := .lst [V.str (Str.ofString "1"), V.str (Str.ofString "9"), V.str (Str.ofString "5")]) hp
    obtain ⟨hp0, hpb⟩ := g3.free hb hp
    refine ⟨_, rfl, b, 3, rfl, g3'.boxAt, by decide, by decide, fun r2 H4 h3 h4 g4 => ?_⟩
    obtain ⟨j, rfl⟩ := Int.eq_ofNat_of_zero_le h3
    obtain ⟨x1, hx1, c1, hc1, hc2, hc3⟩ := menu3 j (by omega)
    have hx1l : x1.length = 1 := by rw [len_cs, hc1]; rfl
    refine ⟨p, _, _, _, rfl, rfl, SqL.of (g4.keep p _ hpb upd_same), atI_nat hx1, _, rfl, _, rfl, row, rfl, str_len (n := 40) (by omega) (by decide), x1, _, rfl, rfl, ?_, ?_⟩
    · have : (cutS row (some 1) none).length ≤ 40 := by rw [len_cs, cs_cut1, List.length_drop]; omega
      have := line_big
      omega
    refine ⟨_, rfl, _, rfl, row, rfl, str_len (n := 40) (by omega) (by decide), m, _, rfl, rfl, _, _, rfl, rfl, ?_, ?_, by decide +kernel, ?_⟩
    · rw [len_cs, hrl]; omega
    · rw [len_cs, hrl]; omega
    obtain ⟨z, hz⟩ : ∃ z : Nat, (m - ((row.length : Nat) : Int)).toNat = z := ⟨_, rfl⟩
    have hzl : z ≤ 4400 ∧ z + m40.toNat = m.toNat := by
      rw [len_cs, hrl] at hz
      omega
    rw [hz, cs_lit0, rep_one]
    have h1 : cs (x1 ++ cutS row (some 1) none) = c1 :: (cs row).drop 1 := by rw [cs_app, hc1, cs_cut1]; rfl
    refine ⟨_, _, rfl, rfl, ?_, ?_⟩
    · rw [len_cs, h1, len_cs, cs_mk, List.length_replicate, List.length_cons, List.length_drop]
      have := line_big
      omega
    obtain ⟨full, hfull⟩ : ∃ full : Str, full = x1 ++ cutS row (some 1) none ++ mk (List.replicate z 48) := ⟨_, rfl⟩
    have hf : cs full = c1 :: ((cs row).drop 1 ++ List.replicate z 48) := by rw [hfull, cs_app, h1, cs_mk]; rfl
    rw [← hfull]
    have good : Canon (cs full) ∧ (cs full).length ≤ 4400 := by
      rw [hf]
      refine ⟨⟨fun c hc => ?_, .inr ⟨_, _, rfl, hc2⟩⟩, ?_⟩
      · rcases List.mem_cons.mp hc with rfl | hc
        · omega
        · exact all_append (fun d hd => hra d (List.mem_of_mem_drop hd)) (all_zeros z) c hc
      · rw [List.length_cons, List.length_append, List.length_drop, List.length_replicate]
        omega
    refine ⟨_, rfl, rfl, _, rfl, ?_⟩
    refine ite2 (fun _ => ?_) (fun _ => ?_)
    · refine ⟨_, rfl, b, 3, rfl, (g3'.trans g4).boxAt, by decide, by decide, fun r3 H5 _ _ g5 => ⟨rfl, _, rfl, ?_⟩⟩
      refine ite2 (fun _ => ?_) (fun _ => ?_)
      · refine q _ H5 ((g3'.trans g4).trans g5) ⟨_, rfl, ?_, ?_⟩
        · rw [cs_lit0]; exact ⟨fun c hc => by rw [List.mem_singleton.mp hc]; decide, .inl rfl⟩
        · rw [cs_lit0]; decide
      · exact ⟨_, rfl, q _ H5 ((g3'.trans g4).trans g5) ⟨_, rfl, good⟩⟩
    · exact ⟨_, rfl, q _ H4 (g3'.trans g4) ⟨_, rfl, good⟩⟩
end
end Mt
set_option Elab.async false
set_option linter.all false
set_option maxRecDepth 100000
set_option maxHeartbeats 4000000
namespace Mt
open PySem PySem.Spec PyProof.Rows L2 PySem.NumText
theorem all_take {l : List Nat} (h : AllDigits l) (n : Nat) : AllDigits (l.take n) := fun c hc => h c (List.mem_of_mem_take hc)
theorem all_drop {l : List Nat} (h : AllDigits l) (n : Nat) : AllDigits (l.drop n) := fun c hc => h c (List.mem_of_mem_drop hc)
theorem val_small {l : List Nat} (h : AllDigits l) {n k : Nat} (hl : l.length ≤ n) (hk : 4 * n ≤ k) : digitsVal l < 2 ^ k := by
  have h1 := val_lt l h
  have h2 : 10 ^ l.length ≤ 10 ^ n := Nat.pow_le_pow_right (by decide) hl
  have h3 : (10 : Nat) ^ n ≤ 16 ^ n := Nat.pow_le_pow_left (by decide) n
  have h4 : (16 : Nat) ^ n = 2 ^ (4 * n) := by rw [show (16 : Nat) = 2 ^ 4 by decide, ← Nat.pow_mul]
  have h5 : 2 ^ (4 * n) ≤ 2 ^ k := Nat.pow_le_pow_right (by decide) hk
  omega
theorem all_one (n : Nat) : AllDigits (49 :: List.replicate n 48) := fun d hd => by
  rcases List.mem_cons.mp hd with rfl | hd
  · decide
  · exact all_zeros _ d hd
theorem text_one (x : Str) (n : Nat) (hn : n ≤ 600) (h : cs x = 49 :: List.replicate n 48) : intText? x = some (((10 ^ n : Nat) : Nat) : Int) ∧ x.length ≤ 640 := by
  have hl : x.length ≤ 640 := by rw [len_cs, h, List.length_cons, List.length_replicate]; omega
  refine ⟨?_, hl⟩
  have e := intText_digits (x := x) (by show AllDigits (cs x); rw [h]; exact all_one n) (by show cs x ≠ []; rw [h]; exact fun z => nomatch z) (by omega)
  rw [e]
  show some (((digitsVal (cs x) : Nat)) : Int) = _
  rw [h, val_one_zeros]
theorem text_dig (x : Str) (hl : (cs x).length ≤ 600) (h : AllDigits (cs x)) (hne : cs x ≠ []) : intText? x = some ((digitsVal (cs x) : Nat) : Int) ∧ x.length ≤ 640 :=
  ⟨intText_digits h hne (by rw [len_cs]; omega), by rw [len_cs]; omega⟩
section
variable {P : Program} {w : World} {K : PySem.W.Frag} {mg : Str → Option Value} {base : Heap} {f g : Addr} {fd gd : FuncData}
def spNum : Sp := fun vs H Q _ => ∃ x : Str, vs = [.str x] ∧ AllDigits (cs x) ∧ (cs x).length ≤ 4400 ∧ Q (.int (digitsVal (cs x) : Nat)) H
theorem scNum : FnScope ["figures", "whole", "k", "part"] ["figures"] (defScope sNum) := ⟨rfl, rfl, rfl, by decide +kernel, rfl, by decide +kernel, by decide +kernel⟩
theorem take_step (l : List Nat) (i : Nat) : digitsVal (l.take (500 * (i + 1))) = digitsVal (l.take (500 * i)) * 10 ^ ((l.drop (500 * i)).take 500).length + digitsVal ((l.drop (500 * i)).take 500) := by
  rw [← val_append]
  congr 1
  rw [show 500 * (i + 1) = 500 * i + 500 by omega, List.take_add]
theorem ok_num (F : Fun K "_law_number" "_law_number" sNum f fd) (mr : mg "range" = none) (mi : mg "int" = none) (ml : mg "len" = none) : FnOk P w K mg base CX0 1 f fd ["figures"] spNum := by
  refine F.ok scNum (fun vs H Q E h => ?_) (fun cdv A outer s H vs Q E hr h => ?_)
  · obtain ⟨b, rfl, _⟩ := h
    rfl
  obtain ⟨x, rfl, hd, hl, q⟩ := h
  refine ⟨_, pss_cons (ps_set (i := 1) scNum.nd rfl (Or.inl rfl) pe_int)
    (pss_cons (ps_for PassesOwn.never rfl (pi_range1 rfl mr (pa_cons (pe_op op_add (pe_op op_fdiv (pe_callB call_len_str rfl ml PySem.boot_len (pa_cons (pv 0) pa_nil)) pe_int) pe_int) pa_nil)) (pg_name (i := 2) scNum.nd rfl (Or.inl rfl))
      (pss_cons (ps_set (i := 3) scNum.nd rfl (Or.inl rfl) (pe_slice sl_str (pv 0) (po_some (pe_op op_mul pe_int (pv 2))) (po_some (pe_op op_add (pe_op op_mul pe_int (pv 2)) pe_int))))
      (pss_one (ps_if (pt_cmpR op_ne (pv 3) pe_str (nomark _))
        (pss_one (ps_set (i := 1) scNum.nd rfl (Or.inl rfl) (pe_op op_add (pe_op op_mulW (pv 1) (pe_callTy call_int_str rfl mi boot_int (pa_cons (pe_op op_add_str pe_str (pe_op op_mulS pe_str (pe_callB call_len_str rfl ml PySem.boot_len (pa_cons (pv 3) pa_nil)))) pa_nil)))
          (pe_callTy call_int_str rfl mi boot_int (pa_cons (pv 3) pa_nil))))) pss_nil))))
    (pss_one (ps_ret (pv 1)))), ?_⟩
  have hxl : x.length = (cs x).length := len_cs x
  refine ⟨_, rfl, x, rfl, str_len (n := 4400) hl (by decide), _, _, rfl, rfl, ⟨by decide, by decide⟩, _, _, rfl, rfl, ?_⟩
  obtain ⟨n, hn⟩ : ∃ n : Nat, ((x.length : Nat) : Int) / 500 + 1 = (n : Int) := ⟨((cs x).length / 500 + 1), by rw [hxl]; omega⟩
  have hn2 : (cs x).length ≤ 500 * n ∧ n ≤ 10 := by rw [hxl] at hn; omega
  refine ⟨n, congrArg (fun j => [V.int j]) hn, by omega, by omega, ?_⟩
  refine for_range (n := n) (fun i σ H' => H' = H ∧ ∃ a b, σ = [some (.str x), some (.int (digitsVal ((cs x).take (500 * i)) : Nat)), a, b]) ?_ (fun i σ H' hi p => ?_) (fun σ H' p => ?_)
  · exact ⟨rfl, _, _, rfl⟩
  · obtain ⟨rfl, a, b, rfl⟩ := p
    have ei : (500 : Int) * (0 + (i : Int)) = ((500 * i : Nat) : Int) := by omega
    obtain ⟨part, hpart⟩ : ∃ part : Str, part = cutS x (some (500 * (0 + (i : Int)))) (some (500 * (0 + (i : Int)) + 500)) := ⟨_, rfl⟩
    have hp : cs part = ((cs x).drop (500 * i)).take 500 := by
      rw [hpart, ei, show ((500 * i : Nat) : Int) + 500 = ((500 * i + 500 : Nat) : Int) by omega, cs_cut _ _ _ (by omega), show 500 * i + 500 - 500 * i = 500 by omega]
    have hpl : (cs part).length ≤ 500 := by rw [hp, List.length_take]; omega
    have hpd : AllDigits (cs part) := by rw [hp]; exact all_take (all_drop hd _) _
    have st := take_step (cs x) i
    rw [← hp] at st
    refine ⟨_, rfl, _, rfl, _, _, rfl, rfl, .inl ⟨by decide, by decide⟩, _, rfl, _, rfl, _, _, rfl, rfl, .inl ⟨by decide, by decide⟩, _, _, rfl, rfl, _, rfl, x, rfl, str_len (n := 4400) hl (by decide), ?_⟩
    rw [← hpart]
    refine ⟨_, rfl, rfl, _, rfl, ?_⟩
    refine ite2 (fun c => ?_) (fun c => ?_)
    · have hne : cs part ≠ [] := fun e => by
        have : part = Str.ofString "" := str_ext (by rw [e]; decide +kernel)
        rw [this] at c
        simp at c
      have e1 : cs (Str.ofString "1" ++ mk (List.replicate part.length 48)) = 49 :: List.replicate part.length 48 := by rw [cs_app, cs_lit1, cs_mk]; rfl
      have hw : digitsVal ((cs x).take (500 * i)) < 2 ^ 17600 := val_small (all_take hd _) (n := 4400) (by rw [List.length_take]; omega) (by decide)
      have ht : 10 ^ part.length < 2 ^ 2004 := by
        have := val_small (all_one part.length) (n := 501) (k := 2004) (by rw [List.length_cons, List.length_replicate, len_cs]; omega) (by decide)
        rwa [val_one_zeros] at this
      obtain ⟨t1, t2⟩ := text_one _ part.length (by rw [len_cs]; omega) e1
      obtain ⟨t3, t4⟩ := text_dig part (by omega) hpd hne
      have hb := line_big
      refine ⟨_, rfl, _, rfl, part, rfl, str_len (n := 500) hpl (by decide), Str.ofString "0", _, rfl, rfl, by omega, by rw [len_cs]; omega, by decide +kernel, ?_⟩
      rw [Int.toNat_natCast, cs_lit0, rep_one]
      refine ⟨_, _, rfl, rfl, ?_, ?_⟩
      · rw [len_cs, cs_lit1, len_cs, cs_mk, List.length_replicate, len_cs]
        show 1 + _ ≤ _
        omega
      refine ⟨_, _, rfl, t1, t2, ?_⟩
      refine ⟨_, _, rfl, rfl, wide_mul (a := 17600) (b := 2004) (by rw [Int.natAbs_natCast]; exact hw) (by rw [Int.natAbs_natCast]; exact ht) (by decide) (by decide) (by decide), ?_⟩
      refine ⟨_, rfl, part, _, rfl, t3, t4, _, _, rfl, rfl, ?_⟩
      have ev : ((digitsVal ((cs x).take (500 * i)) : Nat) : Int) * ((10 ^ part.length : Nat) : Int) + ((digitsVal (cs part) : Nat) : Int) = ((digitsVal ((cs x).take (500 * (i + 1))) : Nat) : Int) := by
        rw [st, len_cs, Int.natCast_add, Int.natCast_mul]
      exact ⟨rfl, some (.int (0 + (i : Int))), some (.str part), congrArg (fun z => [some (V.str x), some (V.int z), some (V.int (0 + (i : Int))), some (V.str part)]) ev⟩
    · have hne : cs part = [] := by
        have : part = Str.ofString "" := by simpa using c
        rw [this]; decide +kernel
      rw [hne] at st
      have ev : ((digitsVal ((cs x).take (500 * i)) : Nat) : Int) = ((digitsVal ((cs x).take (500 * (i + 1))) : Nat) : Int) := by
        rw [st]; simp [digitsVal]
      exact ⟨rfl, some (.int (0 + (i : Int))), some (.str part), congrArg (fun z => [some (V.str x), some (V.int z), some (V.int (0 + (i : Int))), some (V.str part)]) ev⟩
  · obtain ⟨rfl, a, b, rfl⟩ := p
    refine ⟨_, rfl, ?_⟩
    rw [List.take_of_length_le hn2.1]
    exact q
end
end Mt
set_option Elab.async false
set_option linter.all false
set_option maxRecDepth 100000
set_option maxHeartbeats 4000000
namespace Mt
open PySem PySem.Spec PyProof.Rows L2 PySem.NumText
/-! ### data in the heap -/
mutual
inductive Be (H : Hp) : V → D → Prop
  | s {x : Str} {l : List Nat} (h : cs x = l) : Be H (.str x) (.s l)
  | i {n : Int} : Be H (.int n) (.i n)
  | t {a : Addr} {vs : List V} {ds : List D} (h : H a = some (.tup vs)) (r : BeL H vs ds) : Be H (.ref a) (.t ds)
inductive BeL (H : Hp) : List V → List D → Prop
  | nil : BeL H [] []
  | cons {v : V} {d : D} {vs : List V} {ds : List D} (h : Be H v d) (r : BeL H vs ds) : BeL H (v :: vs) (d :: ds)
end
mutual
theorem Be.mono {H H' : Hp} (e : ∀ a xs, H a = some (.tup xs) → H' a = some (.tup xs)) : ∀ {v : V} {d : D}, Be H v d → Be H' v d
  | _, _, .s h => .s h
  | _, _, .i => .i
  | _, _, .t h r => .t (e _ _ h) (BeL.mono e r)
theorem BeL.mono {H H' : Hp} (e : ∀ a xs, H a = some (.tup xs) → H' a = some (.tup xs)) : ∀ {vs : List V} {ds : List D}, BeL H vs ds → BeL H' vs ds
  | _, _, .nil => .nil
  | _, _, .cons h r => .cons (Be.mono e h) (BeL.mono e r)
end
theorem BeL.len {H : Hp} : ∀ {vs : List V} {ds : List D}, BeL H vs ds → vs.length = ds.length
  | _, _, .nil => rfl
  | _, _, .cons _ r => by rw [List.length_cons, List.length_cons, r.len]
theorem BeL.get {H : Hp} : ∀ {vs : List V} {ds : List D} {i : Nat} {v : V}, BeL H vs ds → vs[i]? = some v → ∃ d, ds[i]? = some d ∧ Be H v d
  | _, _, _, _, .nil, e => by simp at e
  | _, _, 0, _, .cons h _, e => by simp at e; subst e; exact ⟨_, rfl, h⟩
  | _, _, i + 1, _, .cons _ r, e => by
    obtain ⟨d, e2, h⟩ := BeL.get (i := i) r (by simpa using e)
    exact ⟨d, by simpa using e2, h⟩
theorem BeL.get2 {H : Hp} : ∀ {vs : List V} {ds : List D} {i : Nat}, BeL H vs ds → i < ds.length → ∃ v d, vs[i]? = some v ∧ ds[i]? = some d ∧ Be H v d := fun {vs ds i} r hi => by
  have h : i < vs.length := by rw [r.len]; exact hi
  obtain ⟨d, e2, h2⟩ := r.get (List.getElem?_eq_getElem h)
  exact ⟨_, d, List.getElem?_eq_getElem h, e2, h2⟩
theorem BeL.snoc {H : Hp} {v : V} {d : D} (h : Be H v d) : ∀ {vs : List V} {ds : List D}, BeL H vs ds → BeL H (vs ++ [v]) (ds ++ [d])
  | _, _, .nil => .cons h .nil
  | _, _, .cons g r => .cons g (r.snoc h)
theorem same_tup {H H' : Hp} (e : Same H H') : ∀ a xs, H a = some (.tup xs) → H' a = some (.tup xs) := fun a xs h => e a _ h
theorem gr_tup {b : Addr} {H H' : Hp} (g : Gr b H H') (hb : BoxAt H b) : ∀ a xs, H a = some (.tup xs) → H' a = some (.tup xs) := fun a xs h => g.keep a _ (fun e => by
  obtain ⟨n, _, q⟩ := hb
  rw [e, q] at h; cases h) h
theorem same_new {H : Hp} {p : Addr} (h : H p = none) (o : HO) : Same H (upd H p o) := fun b u q => by rw [upd_ne (ne_of_none q h)]; exact q
theorem same_mut {H H' : Hp} {p : Addr} {o : HO} (e : Same H H') (h : H p = none) : Same H (upd H' p o) := fun b u q => by rw [upd_ne (ne_of_none q h)]; exact e b u q
theorem Gr.same {b : Addr} {H H1 H' : Hp} (g : Gr b H H1) (hb : BoxAt H b) (e : Same H1 H') : Gr b H H' := ⟨fun a o n h => e a o (g.keep a o n h), by
  obtain ⟨n, h0, q⟩ := g.box
  exact ⟨n, h0, e b _ q⟩⟩

/-! ### displays of data -/
def Mks (te : TE) (σ : L2.St) (d : D) : Prop := ∀ (H : Hp) (Q : VK), (∀ v H', Same H H' → Be H' v d → Q v H') → te σ H Q
def MkA (ta : TA) (σ : L2.St) (ds : List D) : Prop := ∀ (H : Hp) (Q : List V → Hp → Prop), (∀ vs H', Same H H' → BeL H' vs ds → Q vs H') → ta σ H Q
theorem mk_str {σ : L2.St} {x : Str} : Mks (tC (.str x)) σ (.s (cs x)) := fun H Q q => q _ H (Same.refl H) (.s rfl)
theorem mk_int {σ : L2.St} {n : Int} : Mks (tC (.int n)) σ (.i n) := fun H Q q => q _ H (Same.refl H) .i
theorem mk_var {σ : L2.St} {i : Nat} {x : Str} (h : σ[i]? = some (some (.str x))) : Mks (tVar i) σ (.s (cs x)) := fun H Q q => ⟨_, h, q _ H (Same.refl H) (.s rfl)⟩
theorem mka_nil {σ : L2.St} : MkA tNil σ [] := fun H Q q => q _ H (Same.refl H) .nil
theorem mka_cons {σ : L2.St} {te : TE} {ta : TA} {d : D} {ds : List D} (h : Mks te σ d) (r : MkA ta σ ds) : MkA (tCons te ta) σ (d :: ds) := fun H Q q =>
  h H _ fun v H1 e1 b1 => r H1 _ fun vs H2 e2 b2 => q _ H2 (e1.trans e2) (.cons (b1.mono (same_tup e2)) b2)
theorem mk_tup {σ : L2.St} {ta : TA} {ds : List D} (h : MkA ta σ ds) (hl : ds.length ≤ 1000) : Mks (tTup ta) σ (.t ds) := fun H Q q =>
  h H _ fun vs H1 e1 b1 => ⟨by rw [b1.len]; exact Nat.le_of_lt (small1000 hl), fun p hp => q _ _ (e1.trans (same_new hp _)) (.t upd_same (b1.mono (same_tup (same_new hp _))))⟩

/-! ### sizes -/
mutual
def small : D → Bool
  | .s _ => true
  | .i n => decide (0 ≤ n ∧ n < 10)
  | .t xs => smalls xs
def smalls : List D → Bool
  | [] => true
  | x :: r => small x && smalls r
end
theorem smalls_get : ∀ {ds : List D} {i : Nat} {d : D}, smalls ds = true → ds[i]? = some d → small d = true
  | [], _, _, _, e => by simp at e
  | x :: r, 0, d, h, e => by
    have h' : (small x && smalls r) = true := h
    rw [Bool.and_eq_true] at h'
    simp at e; subst e; exact h'.1
  | x :: r, i + 1, d, h, e => by
    have h' : (small x && smalls r) = true := h
    rw [Bool.and_eq_true] at h'
    exact smalls_get h'.2 (by simpa using e)
section
variable {P : Program} {w : World} {K : PySem.W.Frag} {mg : Str → Option Value} {base : Heap} {f g : Addr} {fd gd : FuncData}

/-! ### integers -/
def gInt : V → Hp → Prop := fun v H => ∃ (p : Addr) (n : Int) (x : Str), v = .ref p ∧ H p = some (.tup [.int n, .str x]) ∧ cs x = decI n ∧ (cs x).length ≤ 4401
theorem scInt : FnScope ["box", "figures"] ["box"] (defScope sInt) := ⟨rfl, rfl, rfl, by decide +kernel, rfl, by decide +kernel, by decide +kernel⟩
theorem canon_decI {l : List Nat} (h : Canon l) : decI ((digitsVal l : Nat) : Int) = l := by
  unfold decI
  rw [if_neg (by omega), Int.natAbs_natCast, canon_dec h]
theorem canon_neg {l : List Nat} (h : Canon l) (hne : l ≠ [48]) : decI (-((digitsVal l : Nat) : Int)) = 45 :: l := by
  have hz : digitsVal l ≠ 0 := fun e => by
    have := canon_dec h
    rw [e] at this
    exact hne (this.symm.trans (by decide +kernel))
  unfold decI
  rw [if_pos (by omega), Int.natAbs_neg, Int.natAbs_natCast, canon_dec h]
variable {g2 g3 : Addr} {gd2 gd3 : FuncData}
theorem ok_int (F : Fun K "_law_integer" "_law_integer" sInt f fd) (T : Cal P w K mg base "_law_take" 1 ["box", "many"] spTake g gd) (G : Cal P w K mg base "_law_figures" 2 ["box"] (spB gFig) g2 gd2) (M : Cal P w K mg base "_law_number" 1 ["figures"] spNum g3 gd3) :
    FnOk P w K mg base CX0 3 f fd ["box"] (spB gInt) := by
  refine F.ok scInt (fun vs H Q E h => ?_) (fun cdv A outer s H vs Q E hr h => ?_)
  · obtain ⟨b, rfl, _⟩ := h
    rfl
  obtain ⟨b, rfl, hb, q⟩ := h
  refine ⟨_, pss_cons (ps_set (i := 1) scInt.nd rfl (Or.inl rfl) (pe_call G.ok hr rfl G.m G.k G.b .nil pass0 (pa_cons (pv 0) pa_nil)))
    (pss_cons (ps_if (PW.pt (pw_and (pt_cmpR op_ne (pv 1) pe_str (nomark _)) (pw_and1 (pt_cmpR op_eq (pe_call T.ok (hr.mono (by decide)) rfl T.m T.k T.b .nil pass0 (pa_cons (pv 0) (pa_cons pe_int pa_nil))) pe_int (nomark _)))))
      (pss_one (ps_ret (pe_tup (pa_cons (pe_un un_neg (pe_call M.ok (hr.mono (by decide)) rfl M.m M.k M.b .nil pass0 (pa_cons (pv 1) pa_nil))) (pa_cons (pe_op op_add_str pe_str (pv 1)) pa_nil))))) pss_nil)
    (pss_one (ps_ret (pe_tup (pa_cons (pe_call M.ok (hr.mono (by decide)) rfl M.m M.k M.b .nil pass0 (pa_cons (pv 1) pa_nil)) (pa_cons (pv 1) pa_nil)))))), ?_⟩
  refine ⟨_, rfl, b, rfl, hb, fun v H1 g1 hv => ?_⟩
  obtain ⟨x, rfl, hc, hl⟩ := hv
  have last : ∀ H2, Gr b H H2 → (tRet (tTup (tCons (tCall spNum [] E0 (tCons (tVar 1) tNil)) (tCons (tVar 1) tNil))) { nx := fun _ H' => Q .non H', rt := Q } [some (.ref b), some (.str x)] H2) := by
    intro H2 gg
    refine ⟨_, rfl, x, rfl, hc.1, hl, _, rfl, (by show 2 ≤ sizeLine; decide), fun p hp => ?_⟩
    exact q _ _ (gg.new hp) ⟨p, _, x, rfl, upd_same, (canon_decI hc).symm, by omega⟩
  refine ⟨_, rfl, rfl, _, rfl, ?_⟩
  refine ite2 (fun c => ?_) (fun c => last H1 g1)
  have hne : cs x ≠ [48] := fun e => by
    have : x = Str.ofString "0" := str_ext (by rw [e, cs_lit0])
    rw [this] at c
    simp at c
  refine ⟨_, rfl, b, 3, rfl, g1.boxAt, by decide, by decide, fun r H2 _ _ g2 => ⟨rfl, _, rfl, ?_⟩⟩
  refine ite2 (fun _ => ?_) (fun _ => last H2 (g1.trans g2))
  have hb := line_big
  have e1 : cs (Str.ofString "-" ++ x) = 45 :: cs x := by rw [cs_app]; rfl
  refine ⟨_, rfl, x, rfl, hc.1, hl, _, rfl, _, rfl, _, _, rfl, rfl, ?_, (by show 2 ≤ sizeLine; decide), fun p hp => ?_⟩
  · rw [len_cs, len_cs]
    show 1 + _ ≤ _
    omega
  · exact q _ _ ((g1.trans g2).new hp) ⟨p, _, _, rfl, upd_same, by rw [e1, canon_neg hc hne], by rw [e1, List.length_cons]; omega⟩

/-! ### samples -/
def gData (n m : Nat) : V → Hp → Prop := fun v H => ∃ d, Be H v d ∧ small d = true ∧ deep d ≤ n ∧ (txt d).length ≤ m
def rowsL (a0 a1 a2 a3 a4 a5 a6 a7 a8 a9 a10 a11 a12 : List Nat) (x : D) : List D := [.t [.s a0, .i 3], .t [.s a1, x, .t [.s a2, .i 4], .t [.s a3, .i 4, .t [.s a4, x]]], .t [.t [x, .t [.s a2, .i 2]]], .t [x, .t [.s a5, .i 4, .i 0]], .t []] ++
  [.t [.s a6, .i 2, x, .t [.s a0, .i 3], .t [.s a5, .i 2, .i 0], .t [.t [.s a5, .i 3, .i 1], .t [.s a4, .s a7]]]] ++
  [.t [.s a8, x, .t [.s a9, .t [.s a2, .i 3]], .t [.s a10, .t [.s a0, .i 0], .t [.s a11, .t [.s a0, .i 2], .t [.s a4, x], .t [.s a5, .i 2, .i 1]]]]] ++
  [.t [.s a12, x, .t [.s a0, .i 2], .t [.s a0, .i 1], .t [.s a5, .i 2, .i 1], .t [.s a5, .i 2, .i 0], .t [], .t [.s a4, x]]]
theorem decI_one {n : Int} (h : 0 ≤ n ∧ n < 10) : (decI n).length = 1 := by
  unfold decI
  rw [if_neg (by omega), dec_lt (by omega)]
  rfl
mutual
/-- an upper bound of a text's length -/
def lg : D → Nat
  | .s x => x.length
  | .i _ => 1
  | .t xs => 2 + lgs xs
def lgs : List D → Nat
  | [] => 0
  | x :: r => lg x + 1 + lgs r
end
mutual
theorem lg_ok : ∀ d : D, small d = true → (txt d).length ≤ lg d
  | .s x, _ => Nat.le_refl _
  | .i n, h => by
    have h' : 0 ≤ n ∧ n < 10 := of_decide_eq_true h
    show (decI n).length ≤ 1
    rw [decI_one h']; exact Nat.le_refl _
  | .t xs, h => by
    have := lgs_ok xs h
    show (40 :: (gl (txts xs) ++ [41])).length ≤ 2 + lgs xs
    rw [List.length_cons, List.length_append, List.length_singleton]
    omega
theorem lgs_ok : ∀ ds : List D, smalls ds = true → (gl (txts ds)).length ≤ lgs ds
  | [], _ => Nat.le_refl _
  | [x], h => by
    have h' : (small x && true) = true := h
    rw [Bool.and_true] at h'
    have := lg_ok x h'
    show (txt x).length ≤ lg x + 1 + 0
    omega
  | x :: y :: r, h => by
    have h' : (small x && smalls (y :: r)) = true := h
    rw [Bool.and_eq_true] at h'
    have h1 := lg_ok x h'.1
    have h2 := lgs_ok (y :: r) h'.2
    show (txt x ++ 32 :: gl (txts (y :: r))).length ≤ lg x + 1 + lgs (y :: r)
    rw [List.length_append, List.length_cons]
    omega
end
theorem rows_ok {a0 a1 a2 a3 a4 a5 a6 a7 a8 a9 a10 a11 a12 : List Nat} (w0 : a0.length ≤ 8) (w1 : a1.length ≤ 8) (w2 : a2.length ≤ 8) (w3 : a3.length ≤ 8) (w4 : a4.length ≤ 8) (w5 : a5.length ≤ 8) (w6 : a6.length ≤ 8)
    (w7 : a7.length ≤ 8) (w8 : a8.length ≤ 8) (w9 : a9.length ≤ 8) (w10 : a10.length ≤ 8) (w11 : a11.length ≤ 8) (w12 : a12.length ≤ 8) (l : List Nat) (hl : l.length ≤ 8) :
    ∀ d ∈ rowsL a0 a1 a2 a3 a4 a5 a6 a7 a8 a9 a10 a11 a12 (.s l), small d = true ∧ deep d ≤ 4 ∧ (txt d).length ≤ 200 := by
  have key : ∀ d ∈ rowsL a0 a1 a2 a3 a4 a5 a6 a7 a8 a9 a10 a11 a12 (.s l), small d = true ∧ deep d ≤ 4 ∧ lg d ≤ 200 := by
    intro d hd
    simp only [rowsL, List.cons_append, List.nil_append, List.mem_cons, List.not_mem_nil, or_false] at hd
    rcases hd with rfl | rfl | rfl | rfl | rfl | rfl | rfl | rfl <;> refine ⟨rfl, by simp [deep, deeps], ?_⟩ <;> simp only [lg, lgs] <;> omega
  intro d hd
  obtain ⟨k1, k2, k3⟩ := key d hd
  exact ⟨k1, k2, Nat.le_trans (lg_ok d k1) k3⟩
end
end Mt
set_option Elab.async false
set_option linter.all false
set_option maxRecDepth 100000
set_option maxHeartbeats 4000000
namespace Mt
open PySem PySem.Spec PyProof.Rows L2 PySem.NumText
section
variable {P : Program} {w : World} {K : PySem.W.Frag} {mg : Str → Option Value} {base : Heap} {f g : Addr} {fd gd : FuncData} {g2 g3 : Addr} {gd2 gd3 : FuncData}
theorem mk_use {te : TE} {σ : L2.St} {H : Hp} {Q : VK} (d : D) (h : Mks te σ d) (q : ∀ v H', Same H H' → Be H' v d → Q v H') : te σ H Q := h H Q q
theorem lst_use {ta : TA} {σ : L2.St} {H : Hp} {Q : VK} (ds : List D) (hl : ds.length ≤ 1000) (h : MkA ta σ ds) (q : ∀ vs H' p, Same H H' → BeL H' vs ds → H' p = none → Q (.ref p) (upd H' p (.lst vs))) : tLst ta σ H Q :=
  h H _ fun vs H' e b => ⟨by rw [b.len]; exact Nat.le_of_lt (small1000 hl), fun p hp => q vs H' p e b hp⟩
theorem scSamp : FnScope ["box", "name", "rows"] ["box"] (defScope sSamp) := ⟨rfl, rfl, rfl, by decide +kernel, rfl, by decide +kernel, by decide +kernel⟩
theorem cs_cut8 (z : Str) : cs (cutS z none (some 8)) = (cs z).take 8 := by
  show (((cs z).drop (HT.sIx z.length 0 none)).take (HT.sIx z.length z.length (some ((8 : Nat) : Int)) - HT.sIx z.length 0 none)).toArray.toList = _
  rw [HT.sIx_nat, HT.sIx_none, List.toList_toArray, List.drop_zero, Nat.sub_zero, len_cs]
  by_cases h : (cs z).length ≤ 8
  · rw [show min 8 (cs z).length = (cs z).length by omega, List.take_length, List.take_of_length_le h]
  · rw [show min 8 (cs z).length = 8 by omega]
theorem ok_samp (F : Fun K "_law_sample" "_law_sample" sSamp f fd) (T : Cal P w K mg base "_law_take" 1 ["box", "many"] spTake g gd) (G : Cal P w K mg base "_law_word" 2 ["box"] (spB gWord) g2 gd2) (ml : mg "len" = none) :
    FnOk P w K mg base CX0 3 f fd ["box"] (spB (gData 4 200)) := by
  refine F.ok scSamp (fun vs H Q E h => ?_) (fun cdv A outer s H vs Q E hr h => ?_)
  · obtain ⟨b, rfl, _⟩ := h
    rfl
  obtain ⟨b, rfl, hb, q⟩ := h
  refine ⟨_, pss_cons (ps_set (i := 1) scSamp.nd rfl (Or.inl rfl) (pe_slice sl_str (pe_call G.ok hr rfl G.m G.k G.b .nil pass0 (pa_cons (pv 0) pa_nil)) po_none (po_some pe_int)))
    (pss_cons (ps_set (i := 2) scSamp.nd rfl (Or.inl rfl) (pe_lst (pa_cons (pe_tup (pa_cons pe_str (pa_cons pe_int pa_nil)))
        (pa_cons (pe_tup (pa_cons pe_str (pa_cons (pv 1) (pa_cons (pe_tup (pa_cons pe_str (pa_cons pe_int pa_nil))) (pa_cons (pe_tup (pa_cons pe_str (pa_cons pe_int (pa_cons (pe_tup (pa_cons pe_str (pa_cons (pv 1) pa_nil))) pa_nil)))) pa_nil)))))
        (pa_cons (pe_tup (pa_cons (pe_tup (pa_cons (pv 1) (pa_cons (pe_tup (pa_cons pe_str (pa_cons pe_int pa_nil))) pa_nil))) pa_nil))
        (pa_cons (pe_tup (pa_cons (pv 1) (pa_cons (pe_tup (pa_cons pe_str (pa_cons pe_int (pa_cons pe_int pa_nil)))) pa_nil)))
        (pa_cons (pe_tup pa_nil) pa_nil)))))))
    (pss_cons (ps_expr (pe_bm PySem.F.plainAttrs_list PySem.F.slot_list_append PySem.F.type_list_append mt_append (pv 2) (pa_cons
        (pe_tup (pa_cons pe_str (pa_cons pe_int (pa_cons (pv 1) (pa_cons (pe_tup (pa_cons pe_str (pa_cons pe_int pa_nil))) (pa_cons (pe_tup (pa_cons pe_str (pa_cons pe_int (pa_cons pe_int pa_nil))))
          (pa_cons (pe_tup (pa_cons (pe_tup (pa_cons pe_str (pa_cons pe_int (pa_cons pe_int pa_nil)))) (pa_cons (pe_tup (pa_cons pe_str (pa_cons pe_str pa_nil))) pa_nil))) pa_nil))))))) pa_nil)))
    (pss_cons (ps_expr (pe_bm PySem.F.plainAttrs_list PySem.F.slot_list_append PySem.F.type_list_append mt_append (pv 2) (pa_cons
        (pe_tup (pa_cons pe_str (pa_cons (pv 1) (pa_cons (pe_tup (pa_cons pe_str (pa_cons (pe_tup (pa_cons pe_str (pa_cons pe_int pa_nil))) pa_nil)))
          (pa_cons (pe_tup (pa_cons pe_str (pa_cons (pe_tup (pa_cons pe_str (pa_cons pe_int pa_nil))) (pa_cons (pe_tup (pa_cons pe_str (pa_cons (pe_tup (pa_cons pe_str (pa_cons pe_int pa_nil))) (pa_cons (pe_tup (pa_cons pe_str (pa_cons (pv 1) pa_nil)))
            (pa_cons (pe_tup (pa_cons pe_str (pa_cons pe_int (pa_cons pe_int pa_nil)))) pa_nil))))) pa_nil)))) pa_nil))))) pa_nil)))
    (pss_cons (ps_expr (pe_bm PySem.F.plainAttrs_list PySem.F.slot_list_append PySem.F.type_list_append mt_append (pv 2) (pa_cons
        (pe_tup (pa_cons pe_str (pa_cons (pv 1) (pa_cons (pe_tup (pa_cons pe_str (pa_cons pe_int pa_nil))) (pa_cons (pe_tup (pa_cons pe_str (pa_cons pe_int pa_nil))) (pa_cons (pe_tup (pa_cons pe_str (pa_cons pe_int (pa_cons pe_int pa_nil))))
          (pa_cons (pe_tup (pa_cons pe_str (pa_cons pe_int (pa_cons pe_int pa_nil)))) (pa_cons (pe_tup pa_nil) (pa_cons (pe_tup (pa_cons pe_str (pa_cons (pv 1) pa_nil))) pa_nil))))))))) pa_nil)))
    (pss_one (ps_ret (pe_ix ix_list (pv 2) (pe_call T.ok (hr.mono (by decide)) rfl T.m T.k T.b .nil pass0 (pa_cons (pv 0) (pa_cons (pe_callB call_len_seq rfl ml PySem.boot_len (pa_cons (pv 2) pa_nil)) pa_nil))) (fun _ _ => rfl)))))))), ?_⟩
  refine ⟨_, rfl, b, rfl, hb, fun v H1 g1 hv => ?_⟩
  obtain ⟨x, rfl, hx1, hx2, hx3⟩ := hv
  refine ⟨_, rfl, x, rfl, str_len (n := 68) hx3 (by decide), ?_⟩
  obtain ⟨n, hn⟩ : ∃ n : Str, n = cutS x none (some 8) := ⟨_, rfl⟩
  have hnl : (cs n).length ≤ 8 := by rw [hn, cs_cut8, List.length_take]; omega
  rw [← hn]
  unfold gName
  dsimp only
  unfold tSeq tAsg
  refine lst_use [.t [.s (cs (Str.ofString "set")), .i 3], .t [.s (cs (Str.ofString "pairs")), .s (cs n), .t [.s (cs (Str.ofString "sizes")), .i 4], .t [.s (cs (Str.ofString "of")), .i 4, .t [.s (cs (Str.ofString "name")), .s (cs n)]]], .t [.t [.s (cs n), .t [.s (cs (Str.ofString "sizes")), .i 2]]], .t [.s (cs n), .t [.s (cs (Str.ofString "point")), .i 4, .i 0]], .t []] (by simp) ?_ fun vs H2 p e2 b2 hp => ?_
  · repeat (first | exact mka_nil | exact mk_str | exact mk_int | exact mk_var rfl | refine mk_tup ?_ (by simp) | refine mka_cons ?_ ?_)
  have l2 : vs.length = 5 := b2.len
  have c2 := b2.mono (same_tup (same_new hp (.lst vs)))
  have e2' := e2.trans (same_new hp (.lst vs))
  have hp1 : H1 p = none := e2.free hp
  refine ⟨_, rfl, .inl ⟨rfl, _, SqL.of upd_same⟩, ?_⟩
  refine mk_use (te := tTup _) (.t [.s (cs (Str.ofString "case")), .i 2, .s (cs n), .t [.s (cs (Str.ofString "set")), .i 3], .t [.s (cs (Str.ofString "point")), .i 2, .i 0], .t [.t [.s (cs (Str.ofString "point")), .i 3, .i 1], .t [.s (cs (Str.ofString "name")), .s (cs (Str.ofString "y"))]]]) ?_ fun v3 H3 e3 b3 => ?_
  · repeat (first | exact mka_nil | exact mk_str | exact mk_int | exact mk_var rfl | refine mk_tup ?_ (by simp) | refine mka_cons ?_ ?_)
  refine ⟨p, vs, v3, rfl, rfl, e3 p _ upd_same, by rw [l2]; exact small1000 (by decide), ?_⟩
  have c3 := (c2.mono (same_tup e3)).snoc b3
  have up : ∀ {H' : Hp} {ws us : List V} {ds : List D}, H' p = some (.lst us) → BeL H' ws ds → BeL (upd H' p (.lst ws)) ws ds := fun hq c => c.mono fun a xs h => by
    rw [upd_ne (fun e => by rw [e, hq] at h; cases h)]; exact h
  have d3 := up (e3 p _ upd_same) c3
  have l3 : (vs ++ [v3]).length = 6 := by rw [List.length_append, l2]; rfl
  have s3 : Same H1 (upd H3 p (.lst (vs ++ [v3]))) := same_mut (e2'.trans e3) hp1
  refine ⟨_, rfl, .inl ⟨rfl, _, SqL.of upd_same⟩, ?_⟩
  refine mk_use (te := tTup _) (.t [.s (cs (Str.ofString "maps")), .s (cs n), .t [.s (cs (Str.ofString "classes")), .t [.s (cs (Str.ofString "sizes")), .i 3]], .t [.s (cs (Str.ofString "either")), .t [.s (cs (Str.ofString "set")), .i 0], .t [.s (cs (Str.ofString "ways")), .t [.s (cs (Str.ofString "set")), .i 2], .t [.s (cs (Str.ofString "name")), .s (cs n)], .t [.s (cs (Str.ofString "point")), .i 2, .i 1]]]]) ?_ fun v4 H4 e4 b4 => ?_
  · repeat (first | exact mka_nil | exact mk_str | exact mk_int | exact mk_var rfl | refine mk_tup ?_ (by simp) | refine mka_cons ?_ ?_)
  refine ⟨p, _, v4, rfl, rfl, e4 p _ upd_same, by rw [l3]; exact small1000 (by decide), ?_⟩
  have c4 := (d3.mono (same_tup e4)).snoc b4
  have d4 := up (e4 p _ upd_same) c4
  have l4 : (vs ++ [v3] ++ [v4]).length = 7 := by rw [List.length_append, l3]; rfl
  have s4 : Same H1 (upd H4 p (.lst (vs ++ [v3] ++ [v4]))) := same_mut (s3.trans e4) hp1
  refine ⟨_, rfl, .inl ⟨rfl, _, SqL.of upd_same⟩, ?_⟩
  refine mk_use (te := tTup _) (.t [.s (cs (Str.ofString "carry")), .s (cs n), .t [.s (cs (Str.ofString "set")), .i 2], .t [.s (cs (Str.ofString "set")), .i 1], .t [.s (cs (Str.ofString "point")), .i 2, .i 1], .t [.s (cs (Str.ofString "point")), .i 2, .i 0], .t [], .t [.s (cs (Str.ofString "name")), .s (cs n)]]) ?_ fun v5 H5 e5 b5 => ?_
  · repeat (first | exact mka_nil | exact mk_str | exact mk_int | exact mk_var rfl | refine mk_tup ?_ (by simp) | refine mka_cons ?_ ?_)
  refine ⟨p, _, v5, rfl, rfl, e5 p _ upd_same, by rw [l4]; exact small1000 (by decide), ?_⟩
  have c5 := (d4.mono (same_tup e5)).snoc b5
  have d5 := up (e5 p _ upd_same) c5
  have l5 : (vs ++ [v3] ++ [v4] ++ [v5]).length = 8 := by rw [List.length_append, l4]; rfl
  have s5 : Same H1 (upd H5 p (.lst (vs ++ [v3] ++ [v4] ++ [v5]))) := same_mut (s4.trans e5) hp1
  have d5' : BeL (upd H5 p (.lst (vs ++ [v3] ++ [v4] ++ [v5]))) (vs ++ [v3] ++ [v4] ++ [v5]) (rowsL (cs (Str.ofString "set")) (cs (Str.ofString "pairs")) (cs (Str.ofString "sizes")) (cs (Str.ofString "of")) (cs (Str.ofString "name")) (cs (Str.ofString "point")) (cs (Str.ofString "case")) (cs (Str.ofString "y")) (cs (Str.ofString "maps")) (cs (Str.ofString "classes")) (cs (Str.ofString "either")) (cs (Str.ofString "ways")) (cs (Str.ofString "carry")) (.s (cs n))) := d5
  have g5 := g1.same hb s5
  have hpb : p ≠ b := fun e => by
    obtain ⟨m, _, q1⟩ := g1.box
    rw [← e, hp1] at q1; cases q1
  refine ⟨_, rfl, _, rfl, _, rfl, p, _, rfl, .inl (SqL.of upd_same), ?_⟩
  refine ⟨b, 8, ?_, g5.boxAt, by decide, by decide, fun r H6 h3 h4 g6 => ?_⟩
  · rw [l5]; rfl
  obtain ⟨j, rfl⟩ := Int.eq_ofNat_of_zero_le h3
  obtain ⟨v, d, k1, k2, k3⟩ := d5'.get2 (i := j) (by show j < 8; omega)
  refine ⟨p, _, _, v, rfl, rfl, SqL.of (g6.keep p _ hpb upd_same), atI_nat k1, ?_⟩
  obtain ⟨m1, m2, m3⟩ := rows_ok (by decide +kernel) (by decide +kernel) (by decide +kernel) (by decide +kernel) (by decide +kernel) (by decide +kernel) (by decide +kernel) (by decide +kernel) (by decide +kernel) (by decide +kernel) (by decide +kernel) (by decide +kernel) (by decide +kernel) (cs n) hnl d (List.mem_of_getElem? k2)
  exact q v H6 (g5.trans g6) ⟨d, k3.mono (gr_tup g6 g5.boxAt), m1, m2, m3⟩
end
end Mt
set_option Elab.async false
set_option linter.all false
set_option maxRecDepth 100000
set_option maxHeartbeats 4000000
namespace Mt
open PySem PySem.Spec PyProof.Rows L2 PySem.NumText
section
variable {P : Program} {w : World} {K : PySem.W.Frag} {mg : Str → Option Value} {base : Heap} {f g : Addr} {fd gd : FuncData} {g2 g3 : Addr} {gd2 gd3 : FuncData}
/-! ### write_number: level 0 asks what can't be, level 1 a number from 0 on, level 2 any -/
def spWn (n : Nat) : Sp := fun vs H Q _ => ∃ v : Int, vs = [.int v] ∧ 1 ≤ n ∧ (n = 1 → 0 ≤ v) ∧ (decI v).length ≤ 16000000 ∧ ∀ (x : Str) (H' : Hp), cs x = decI v → Same H H' → Q (.str x) H'
theorem scWn : FnScope ["value", "parts"] ["value"] (defScope sWn) := ⟨rfl, rfl, rfl, by decide +kernel, rfl, by decide +kernel, by decide +kernel⟩
theorem decI_neg {v : Int} (h : v < 0) : decI v = 45 :: decI (-v) := by
  unfold decI
  rw [if_pos h, if_neg (by omega), Int.natAbs_neg]
theorem decI_nn {v : Int} (h : 0 ≤ v) : decI v = dec v.toNat := by
  unfold decI
  rw [if_neg (by omega)]
  congr 1; omega
theorem glued0 (ys : List Str) : cs (Txt.join (Str.ofString "") ys) = (ys.map cs).flatten := by
  show cs (Builtin.Str.glued _ _) = _
  rw [StrLaws.glued_eq_join, cs_join0]
theorem sum_len (ys : List Str) : (ys.map (·.length)).sum = ((ys.map cs).flatten).length := by
  induction ys with
  | nil => rfl
  | cons y r ih => rw [List.map_cons, List.sum_cons, List.map_cons, List.flatten_cons, List.length_append, ih, len_cs]
theorem ok_wn {n : Nat} {tk : Tok} (F : Fun K "write_number" "write_number" sWn f fd) (G : Cal P w K mg base "write_number" n ["value"] (spWn n) f fd) (mc : mg "CHUNK" = some (.int 100000000000000000000000000000000000000000000000000 tk)) (ms : mg "str" = none) (mr : mg "reversed" = none) :
    FnOk P w K mg base CX0 (n + 1) f fd ["value"] (spWn (n + 1)) := by
  refine F.ok scWn (fun vs H Q E h => ?_) (fun cdv A outer s H vs Q E hr h => ?_)
  · obtain ⟨b, rfl, _⟩ := h
    rfl
  obtain ⟨v, rfl, _, h1, hl, q⟩ := h
  refine ⟨_, pss_cons (ps_if (pt_cmpR op_lt (pv 0) pe_int (nomark _)) (pss_one (ps_ret (pe_op op_add_str pe_str (pe_call G.ok hr rfl G.m G.k G.b .nil pass0 (pa_cons (pe_un un_neg (pv 0)) pa_nil))))) pss_nil)
    (pss_cons (ps_set (i := 1) scWn.nd rfl (Or.inl rfl) (pe_lst pa_nil))
    (pss_cons (ps_while PassesOwn.never (pt_cmpR op_ge (pv 0) (pe_glob (v := .int 100000000000000000000000000000000000000000000000000) rfl mc ⟨_, rfl⟩) (nomark _))
      (pss_cons (ps_expr (pe_bm PySem.F.plainAttrs_list PySem.F.slot_list_append PySem.F.type_list_append mt_append (pv 1) (pa_cons
          (pe_m1 PySem.F.slot_str_zfill PySem.F.type_str_zfill mt_zfill (pe_callTy call_str_int rfl ms boot_str (pa_cons (pe_op op_mod (pv 0) (pe_glob (v := .int 100000000000000000000000000000000000000000000000000) rfl mc ⟨_, rfl⟩)) pa_nil)) pe_int) pa_nil)))
      (pss_one (ps_set (i := 0) scWn.nd rfl (Or.inl rfl) (pe_op op_fdivW (pv 0) (pe_glob (v := .int 100000000000000000000000000000000000000000000000000) rfl mc ⟨_, rfl⟩))))))
    (pss_cons (ps_expr (pe_bm PySem.F.plainAttrs_list PySem.F.slot_list_append PySem.F.type_list_append mt_append (pv 1) (pa_cons (pe_callTy call_str_int rfl ms boot_str (pa_cons (pv 0) pa_nil)) pa_nil)))
    (pss_one (ps_ret (pe_joinRev rfl rfl mr pe_str (pv 1))))))), ?_⟩
  have hline := line_big
  refine ⟨_, rfl, _, _, rfl, rfl, _, rfl, ?_⟩
  refine ite2 (fun c => ?_) (fun c => ?_)
  · have c' : v < 0 := of_decide_eq_true c
    have e := decI_neg c'
    rw [e, List.length_cons] at hl
    refine ⟨_, rfl, _, rfl, -v, rfl, ?_, fun _ => by omega, by omega, fun x H' hx hs => ⟨_, _, rfl, rfl, ?_, ?_⟩⟩
    · have : n + 1 ≠ 1 := fun e => by have := h1 e; omega
      omega
    · rw [len_cs x, hx]
      show 1 + _ ≤ _
      omega
    · refine q _ H' ?_ hs
      rw [cs_app, hx, e]
      rfl
  have h0 : 0 ≤ v := by
    have := of_decide_eq_false (Bool.eq_false_iff.mpr c)
    omega
  refine ⟨(by show 0 ≤ sizeLine; omega), fun l hp => ?_⟩
  rw [decI_nn h0] at hl q
  obtain ⟨C, hC⟩ : ∃ C : Int, C = 100000000000000000000000000000000000000000000000000 := ⟨_, rfl⟩
  have hCn : C = ((10 ^ 50 : Nat) : Int) := by rw [hC]; decide +kernel
  refine while_by (fun σ H1 => ∃ (u : Int) (ys : List Str), σ = [some (.int u), some (.ref l)] ∧ 0 ≤ u ∧ H1 l = some (.lst (ys.map V.str)) ∧ Cut v.toNat u.toNat (ys.map cs) ∧ Same H H1)
    (fun σ _ => match σ with | some (V.int u) :: _ => u.toNat | _ => 0) ?_ (fun σ H1 p => ?_) (fun σ H1 Q1 Q2 m r => ?_)
  · exact ⟨v, [], rfl, h0, upd_same, Cut.start _, same_new hp _⟩
  · obtain ⟨u, ys, rfl, hu, hys, cut, hs⟩ := p
    have few := cut.few
    rw [List.length_map] at few
    refine ⟨_, rfl, _, _, rfl, rfl, _, rfl, ?_⟩
    rw [← hC]
    refine ite2 (fun c => ?_) (fun c => ?_)
    · have c' : C ≤ u := of_decide_eq_true c
      have hu2 : 10 ^ 50 ≤ u.toNat := by omega
      have em : (u % C).toNat = u.toNat % 10 ^ 50 := by rw [hCn]; omega
      have ed : (u / C).toNat = u.toNat / 10 ^ 50 := by rw [hCn]; omega
      have hm0 : 0 ≤ u % C := Int.emod_nonneg _ (by omega)
      have hm1 : u % C < C := Int.emod_lt_of_pos _ (by omega)
      refine ⟨_, rfl, .inl ⟨rfl, _, SqL.of hys⟩, _, rfl, _, _, rfl, rfl, by omega, u % C, rfl, log_small hm0 (by omega), ⟨_, rfl⟩, _, 50, rfl, rfl, by decide +kernel, ?_⟩
      refine ⟨l, _, _, rfl, rfl, hys, by rw [List.length_map]; omega, ?_⟩
      refine ⟨_, rfl, u, C, rfl, rfl, wide_div (b := 200) (by omega) (by omega) (by decide) (by decide), ⟨_, ys ++ [Txt.zfill (Str.ofString (toString (u % C))) 50], rfl, Int.ediv_nonneg hu (by omega), ?_, ?_, same_mut hs hp⟩, ?_⟩
      · rw [upd_same, List.map_append]; rfl
      · rw [List.map_append, ed]
        have := cut.turn hu2
        rw [← em, ← cs_zfill _ hm0 (by omega)] at this
        exact this
      · show (u / C).toNat < u.toNat
        rw [ed]
        exact Nat.div_lt_self (by omega) (by decide)
    · have c' : ¬ C ≤ u := of_decide_eq_false (Bool.eq_false_iff.mpr c)
      refine ⟨_, rfl, .inl ⟨rfl, _, SqL.of hys⟩, _, rfl, u, rfl, log_small hu (by omega), l, _, _, rfl, rfl, hys, by rw [List.length_map]; omega, ?_⟩
      have ej : cs (Txt.join (Str.ofString "") (ys ++ [Str.ofString (toString u)]).reverse) = dec v.toNat := by
        rw [glued0, List.reverse_append, List.reverse_singleton, List.singleton_append, List.map_cons, List.flatten_cons, cs_num u hu, List.map_reverse]
        exact cut.text
      refine ⟨⟨_, rfl⟩, _, rfl, _, l, ys ++ [Str.ofString (toString u)], rfl, rfl, SqL.of (by rw [upd_same, List.map_append]; rfl), ?_, q _ _ ej (same_mut hs hp)⟩
      have e0 : (Str.ofString "").length = 0 := by decide +kernel
      have e1 : ((ys ++ [Str.ofString (toString u)]).map (·.length)).sum = (dec v.toNat).length := by
        rw [← ej, glued0, ← sum_len, List.map_reverse, List.sum_reverse]
      rw [e0, e1]; omega
  · obtain ⟨z, e, i, j, e1, e2, k, e3, r⟩ := r
    exact ⟨z, e, i, j, e1, e2, k, e3, m _ _ r⟩
end
end Mt
set_option Elab.async false
set_option linter.all false
set_option maxRecDepth 100000
set_option maxHeartbeats 4000000
namespace Mt
open PySem PySem.Spec PyProof.Rows L2 PySem.NumText
theorem kit_ss {K : PySem.W.Frag} : PySem.W.kitOne K (.type "str") (.type "str") = some true := kit_ty (by decide +kernel)
theorem kit_si {K : PySem.W.Frag} : PySem.W.kitOne K (.type "int") (.type "str") = some false := kit_ty (by decide +kernel)
theorem kit_st {K : PySem.W.Frag} : PySem.W.kitOne K (.type "tuple") (.type "str") = some false := kit_ty (by decide +kernel)
theorem kit_tt {K : PySem.W.Frag} : PySem.W.kitOne K (.type "tuple") (.type "tuple") = some true := kit_ty (by decide +kernel)
theorem kit_ti {K : PySem.W.Frag} : PySem.W.kitOne K (.type "int") (.type "tuple") = some false := kit_ty (by decide +kernel)
theorem kit_ii {K : PySem.W.Frag} : PySem.W.kitOne K (.type "int") (.type "int") = some true := kit_ty (by decide +kernel)
theorem kit_it {K : PySem.W.Frag} : PySem.W.kitOne K (.type "tuple") (.type "int") = some false := kit_ty (by decide +kernel)
theorem glued1 (ys : List Str) : cs (Txt.join (Str.ofString " ") ys) = gl (ys.map cs) := by
  show cs (Builtin.Str.glued _ _) = _
  rw [StrLaws.glued_eq_join, cs_join]
theorem gl_fit (ys : List Str) : (ys.map (·.length)).sum + ys.length * 1 ≤ (gl (ys.map cs)).length + 1 := by
  have h := gl_len (ys.map cs)
  have e : ((ys.map cs).map (·.length + 1)).sum = (ys.map (·.length)).sum + ys.length := by
    clear h
    induction ys with
    | nil => rfl
    | cons y r ih =>
      simp only [List.map_cons, List.sum_cons, List.length_cons] at ih ⊢
      rw [ih, len_cs y]; omega
  rw [e] at h
  split at h <;> omega
theorem txt_in {ds : List D} {i : Nat} {d : D} (h : ds[i]? = some d) : (txt d).length ≤ (gl (txts ds)).length := gl_mem (by rw [txts_map]; exact List.mem_map_of_mem (List.mem_of_getElem? h))
theorem deep_in {ds : List D} {i : Nat} {d : D} {n : Nat} (hn : deeps ds ≤ n) (h : ds[i]? = some d) : deep d ≤ n := deeps_le.mp hn d (List.mem_of_getElem? h)
theorem txts_snoc {ds : List D} {i : Nat} {d : D} (h : ds[i]? = some d) : txts (ds.take (i + 1)) = txts (ds.take i) ++ [txt d] := by
  have hi := (List.getElem?_eq_some_iff.mp h)
  obtain ⟨hl, e⟩ := hi
  rw [txts_map, txts_map, List.take_succ_eq_append_getElem hl, List.map_append, e]; rfl
theorem sep_len : (Str.ofString " ").length = 1 := by decide +kernel
theorem brackets (x y : Str) (l : List Nat) (h : cs x = l) : cs (Str.ofString "(" ++ x ++ Str.ofString ")") = 40 :: (l ++ [41]) := by
  rw [cs_app, cs_app, h]
  rfl
section
variable {P : Program} {w : World} {K : PySem.W.Frag} {mg : Str → Option Value} {base : Heap} {f g : Addr} {fd gd : FuncData} {g2 g3 : Addr} {gd2 gd3 : FuncData}
/-- the text of data so deep -/
def spWr (C : D → Prop) (n : Nat) : Sp := fun vs H Q _ => ∃ (v : V) (d : D), vs = [v] ∧ Be H v d ∧ C d ∧ deep d < n ∧ (txt d).length ≤ 15000000 ∧ ∀ (x : Str) (H' : Hp), cs x = txt d → Same H H' → Q (.str x) H'
theorem scWr : FnScope ["value", "part"] ["value"] (defScope sWrite) := ⟨rfl, rfl, rfl, by decide +kernel, rfl, by decide +kernel, by decide +kernel⟩
theorem scPl : FnScope ["value", "part"] ["value"] (defScope sPlain) := ⟨rfl, rfl, rfl, by decide +kernel, rfl, by decide +kernel, by decide +kernel⟩
theorem ok_wr {n : Nat} (F : Fun K "write" "write" sWrite f fd) (G : Cal P w K mg base "write" (n + 2) ["value"] (spWr (fun _ => True) n) f fd) (M : Cal P w K mg base "write_number" 2 ["value"] (spWn 2) g gd)
    (mi : mg "isinstance" = none) (ms : mg "str" = none) (mt : mg "tuple" = none) : FnOk P w K mg base CX0 (n + 3) f fd ["value"] (spWr (fun _ => True) (n + 1)) := by
  refine F.ok scWr (fun vs H Q E h => ?_) (fun cdv A outer s H vs Q E hr h => ?_)
  · obtain ⟨v, d, rfl, _⟩ := h
    rfl
  obtain ⟨v, d, rfl, be, _, hd, hl, q⟩ := h
  refine ⟨_, pss_cons (ps_if (pt_val (pe_callB call_isi rfl mi boot_isinstance (pa_cons (pv 0) (pa_cons (pe_bltn (v := .ty "str") rfl ms boot_str rfl) pa_nil)))) (pss_one (ps_ret (pv 0))) pss_nil)
    (pss_cons (ps_if (pt_val (pe_callB call_isi rfl mi boot_isinstance (pa_cons (pv 0) (pa_cons (pe_bltn (v := .ty "tuple") rfl mt boot_tuple rfl) pa_nil))))
      (pss_one (ps_ret (pe_op op_add_str (pe_op op_add_str pe_str (pe_join pe_str
        (pe_lc (own := [("part", 1)]) (g := gName 1) (tt := tYes) rfl scWr.nd (pi_tup (pv 0)) (blkOk_by (N := ["value", "part"]) (sc := defScope sWrite) (by decide +kernel))
          (fun _ _ _ _ _ => pg_name (i := 1) scWr.nd rfl (Or.inl rfl)) (fun _ _ _ _ _ => pts_nil)
          (fun _ _ _ _ _ => pe_call G.ok hr rfl G.m G.k G.b .nil pass0 (pa_cons (pv 1) pa_nil))))) pe_str))) pss_nil)
    (pss_one (ps_ret (pe_call M.ok (hr.mono (by omega)) rfl M.m M.k M.b .nil pass0 (pa_cons (pv 0) pa_nil))))), ?_⟩
  cases be with
  | s h =>
    refine ⟨_, rfl, _, _, _, _, true, rfl, .ty "str", .base (.str _), kit_ss, _, rfl, ?_⟩
    exact iteT ⟨_, rfl, q _ H h (Same.refl H)⟩
  | i =>
    refine ⟨_, rfl, _, _, _, _, false, rfl, .ty "str", .base (.int _), kit_si, _, rfl, iteF ?_⟩
    refine ⟨_, rfl, _, _, _, _, false, rfl, .ty "tuple", .base (.int _), kit_ti, _, rfl, iteF ?_⟩
    refine ⟨_, rfl, _, rfl, by decide, fun e => absurd e (by decide), ?_, fun x H' hx hs => q x H' hx hs⟩
    exact Nat.le_trans hl (by decide)
  | @t a vs ds h r =>
    refine ⟨_, rfl, _, _, _, _, false, rfl, .ty "str", .base (.tup h), kit_st, _, rfl, iteF ?_⟩
    refine ⟨_, rfl, _, _, _, _, true, rfl, .ty "tuple", .base (.tup h), kit_tt, _, rfl, iteT ?_⟩
    have hl' : (gl (txts ds)).length + 2 ≤ 15000000 := by
      have : (40 :: (gl (txts ds) ++ [41])).length ≤ 15000000 := hl
      rw [List.length_cons, List.length_append, List.length_singleton] at this
      omega
    have hd' : deeps ds < n := by
      have : deeps ds + 1 < n + 1 := hd
      omega
    have hline := line_big
    refine ⟨⟨_, rfl⟩, _, rfl, a, rfl, ⟨_, SqT.of h⟩, fun D hD => ?_⟩
    refine lc_tup (K := K) (a := a) (xs := vs) (fun i H1 => Same H H1 ∧ ∃ ys : List Str, H1 D = some (.lst (ys.map V.str)) ∧ ys.map cs = txts (ds.take i)) ?_ (fun i H1 _ p => SqT.of (p.1 a _ h)) (fun i x H1 hx p => ?_) (fun H1 p => ?_)
    · exact ⟨same_new hD _, [], upd_same, rfl⟩
    · obtain ⟨hs, ys, hys, hc⟩ := p
      obtain ⟨d, hdi, hb⟩ := r.get hx
      refine ⟨rfl, ?_⟩
      refine ⟨_, rfl, x, d, rfl, hb.mono (same_tup hs), trivial, Nat.lt_of_le_of_lt (deep_in (Nat.le_refl _) hdi) hd', by have := txt_in hdi; omega, fun t H2 ht h2 => ?_⟩
      refine ⟨ys.map V.str, h2 D _ hys, ?_, same_mut (hs.trans h2) hD, ys ++ [t], ?_, ?_⟩
      · have e1 : ys.length = (txts (ds.take i)).length := by rw [← hc, List.length_map]
        rw [List.length_map, e1, txts_map, List.length_map, List.length_take]
        have : ds.length ≤ (gl (txts ds)).length + 1 := by
          have := gl_len (txts ds)
          have e2 : ds.length ≤ ((txts ds).map (·.length + 1)).sum := by
            rw [txts_map]
            clear this r hl' hd' hl hd h q hys hc hdi hb hx e1
            induction ds with
            | nil => exact Nat.le_refl _
            | cons x r ih =>
              simp only [List.map_cons, List.sum_cons, List.length_cons] at ih ⊢
              omega
          split at this <;> omega
        omega
      · rw [upd_same, List.map_append]; rfl
      · rw [List.map_append, hc, txts_snoc hdi]
        show _ ++ [cs t] = _
        rw [ht]
    · obtain ⟨hs, ys, hys, hc⟩ := p
      rw [r.len, List.take_length] at hc
      have hf := gl_fit ys
      rw [hc] at hf
      have ej : cs (Txt.join (Str.ofString " ") ys) = gl (txts ds) := by rw [glued1, hc]
      refine ⟨_, D, ys, rfl, rfl, .inl (SqL.of hys), by rw [sep_len]; omega, _, _, rfl, rfl, ?_, _, _, rfl, rfl, ?_, q _ H1 (brackets _ (Str.ofString "") _ ej) hs⟩
      · rw [len_cs (Txt.join _ _), ej]
        show 1 + _ ≤ _
        omega
      · rw [len_cs, cs_app, ej, List.length_append]
        show 1 + _ + 1 ≤ _
        omega
theorem ok_pl {n : Nat} (F : Fun K "_law_plain" "_law_plain" sPlain f fd) (G : Cal P w K mg base "_law_plain" n ["value"] (spWr (fun d => small d = true) n) f fd)
    (mi : mg "isinstance" = none) (ms : mg "str" = none) (mt : mg "int" = none) : FnOk P w K mg base CX0 (n + 1) f fd ["value"] (spWr (fun d => small d = true) (n + 1)) := by
  refine F.ok scPl (fun vs H Q E h => ?_) (fun cdv A outer s H vs Q E hr h => ?_)
  · obtain ⟨v, d, rfl, _⟩ := h
    rfl
  obtain ⟨v, d, rfl, be, sm, hd, hl, q⟩ := h
  refine ⟨_, pss_cons (ps_if (pt_val (pe_callB call_isi rfl mi boot_isinstance (pa_cons (pv 0) (pa_cons (pe_bltn (v := .ty "str") rfl ms boot_str rfl) pa_nil)))) (pss_one (ps_ret (pv 0))) pss_nil)
    (pss_cons (ps_if (pt_val (pe_callB call_isi rfl mi boot_isinstance (pa_cons (pv 0) (pa_cons (pe_bltn (v := .ty "int") rfl mt boot_int rfl) pa_nil))))
      (pss_one (ps_ret (pe_callTy call_str_int rfl ms boot_str (pa_cons (pv 0) pa_nil)))) pss_nil)
    (pss_one (ps_ret (pe_op op_add_str (pe_op op_add_str pe_str (pe_join pe_str
        (pe_lc (own := [("part", 1)]) (g := gName 1) (tt := tYes) rfl scPl.nd (pi_tup (pv 0)) (blkOk_by (N := ["value", "part"]) (sc := defScope sPlain) (by decide +kernel))
          (fun _ _ _ _ _ => pg_name (i := 1) scPl.nd rfl (Or.inl rfl)) (fun _ _ _ _ _ => pts_nil)
          (fun _ _ _ _ _ => pe_call G.ok hr rfl G.m G.k G.b .nil pass0 (pa_cons (pv 1) pa_nil))))) pe_str)))), ?_⟩
  cases be with
  | s h =>
    refine ⟨_, rfl, _, _, _, _, true, rfl, .ty "str", .base (.str _), kit_ss, _, rfl, ?_⟩
    exact iteT ⟨_, rfl, q _ H h (Same.refl H)⟩
  | @i k =>
    refine ⟨_, rfl, _, _, _, _, false, rfl, .ty "str", .base (.int _), kit_si, _, rfl, iteF ?_⟩
    refine ⟨_, rfl, _, _, _, _, true, rfl, .ty "int", .base (.int _), kit_ii, _, rfl, iteT ?_⟩
    have hk : 0 ≤ k ∧ k < 10 := of_decide_eq_true sm
    exact ⟨_, rfl, k, rfl, log_small hk.1 (by omega), q _ H (cs_int k) (Same.refl H)⟩
  | @t a vs ds h r =>
    refine ⟨_, rfl, _, _, _, _, false, rfl, .ty "str", .base (.tup h), kit_st, _, rfl, iteF ?_⟩
    refine ⟨_, rfl, _, _, _, _, false, rfl, .ty "int", .base (.tup h), kit_it, _, rfl, iteF ?_⟩
    have hl' : (gl (txts ds)).length + 2 ≤ 15000000 := by
      have : (40 :: (gl (txts ds) ++ [41])).length ≤ 15000000 := hl
      rw [List.length_cons, List.length_append, List.length_singleton] at this
      omega
    have hd' : deeps ds < n := by
      have : deeps ds + 1 < n + 1 := hd
      omega
    have hline := line_big
    refine ⟨⟨_, rfl⟩, _, rfl, a, rfl, ⟨_, SqT.of h⟩, fun D hD => ?_⟩
    refine lc_tup (K := K) (a := a) (xs := vs) (fun i H1 => Same H H1 ∧ ∃ ys : List Str, H1 D = some (.lst (ys.map V.str)) ∧ ys.map cs = txts (ds.take i)) ?_ (fun i H1 _ p => SqT.of (p.1 a _ h)) (fun i x H1 hx p => ?_) (fun H1 p => ?_)
    · exact ⟨same_new hD _, [], upd_same, rfl⟩
    · obtain ⟨hs, ys, hys, hc⟩ := p
      obtain ⟨d, hdi, hb⟩ := r.get hx
      refine ⟨rfl, ?_⟩
      refine ⟨_, rfl, x, d, rfl, hb.mono (same_tup hs), smalls_get sm hdi, Nat.lt_of_le_of_lt (deep_in (Nat.le_refl _) hdi) hd', by have := txt_in hdi; omega, fun t H2 ht h2 => ?_⟩
      refine ⟨ys.map V.str, h2 D _ hys, ?_, same_mut (hs.trans h2) hD, ys ++ [t], ?_, ?_⟩
      · have e1 : ys.length = (txts (ds.take i)).length := by rw [← hc, List.length_map]
        rw [List.length_map, e1, txts_map, List.length_map, List.length_take]
        have : ds.length ≤ (gl (txts ds)).length + 1 := by
          have := gl_len (txts ds)
          have e2 : ds.length ≤ ((txts ds).map (·.length + 1)).sum := by
            rw [txts_map]
            clear this r hl' hd' hl hd h q hys hc hdi hb hx e1 sm
            induction ds with
            | nil => exact Nat.le_refl _
            | cons x r ih =>
              simp only [List.map_cons, List.sum_cons, List.length_cons] at ih ⊢
              omega
          split at this <;> omega
        omega
      · rw [upd_same, List.map_append]; rfl
      · rw [List.map_append, hc, txts_snoc hdi]
        show _ ++ [cs t] = _
        rw [ht]
    · obtain ⟨hs, ys, hys, hc⟩ := p
      rw [r.len, List.take_length] at hc
      have hf := gl_fit ys
      rw [hc] at hf
      have ej : cs (Txt.join (Str.ofString " ") ys) = gl (txts ds) := by rw [glued1, hc]
      refine ⟨_, D, ys, rfl, rfl, .inl (SqL.of hys), by rw [sep_len]; omega, _, _, rfl, rfl, ?_, _, _, rfl, rfl, ?_, q _ H1 (brackets _ (Str.ofString "") _ ej) hs⟩
      · rw [len_cs (Txt.join _ _), ej]
        show 1 + _ ≤ _
        omega
      · rw [len_cs, cs_app, ej, List.length_append]
        show 1 + _ + 1 ≤ _
        omega
end
end Mt
set_option Elab.async false
set_option linter.all false
set_option maxRecDepth 100000
set_option maxHeartbeats 4000000
namespace Mt
open PySem PySem.Spec PyProof.Rows L2 PySem.NumText
def Lim : Nat → Nat
  | 0 => 4401
  | 1 => 13300
  | 2 => 40000
  | 3 => 121000
  | _ => 1700000
/-- a pair of data and its text -/
def Row (H : Hp) (u : V) (d : D) : Prop := ∃ (p : Addr) (v : V) (x : Str), u = .ref p ∧ H p = some (.tup [v, .str x]) ∧ Be H v d ∧ cs x = txt d
theorem Row.mono {H H' : Hp} (e : ∀ a xs, H a = some (.tup xs) → H' a = some (.tup xs)) {u : V} {d : D} (r : Row H u d) : Row H' u d := by
  obtain ⟨p, v, x, h1, h2, h3, h4⟩ := r
  exact ⟨p, v, x, h1, e _ _ h2, h3.mono e, h4⟩
inductive RowL (H : Hp) : List V → List D → Prop
  | nil : RowL H [] []
  | cons {v : V} {d : D} {vs : List V} {ds : List D} (h : Row H v d) (r : RowL H vs ds) : RowL H (v :: vs) (d :: ds)
theorem RowL.mono {H H' : Hp} (e : ∀ a xs, H a = some (.tup xs) → H' a = some (.tup xs)) {vs : List V} {ds : List D} (r : RowL H vs ds) : RowL H' vs ds := by
  induction r with
  | nil => exact .nil
  | cons h _ ih => exact .cons (h.mono e) ih
theorem RowL.snoc {H : Hp} {v : V} {d : D} (h : Row H v d) {vs : List V} {ds : List D} (r : RowL H vs ds) : RowL H (vs ++ [v]) (ds ++ [d]) := by
  induction r with
  | nil => exact .cons h .nil
  | cons g _ ih => exact .cons g ih
theorem RowL.len {H : Hp} {vs : List V} {ds : List D} (r : RowL H vs ds) : vs.length = ds.length := by
  induction r with
  | nil => rfl
  | cons _ _ ih => rw [List.length_cons, List.length_cons, ih]
theorem RowL.get {H : Hp} {vs : List V} {ds : List D} (r : RowL H vs ds) : ∀ {i : Nat} {v : V}, vs[i]? = some v → ∃ d, ds[i]? = some d ∧ Row H v d := by
  induction r with
  | nil => intro i v e; simp at e
  | cons h _ ih =>
    intro i v e
    cases i with
    | zero => simp at e; subst e; exact ⟨_, rfl, h⟩
    | succ i =>
      obtain ⟨d, e2, h2⟩ := ih (i := i) (by simpa using e)
      exact ⟨d, by simpa using e2, h2⟩
theorem take_snoc {α : Type} {ds : List α} {i : Nat} {d : α} (h : ds[i]? = some d) : ds.take (i + 1) = ds.take i ++ [d] := by
  obtain ⟨hl, e⟩ := List.getElem?_eq_some_iff.mp h
  rw [List.take_succ_eq_append_getElem hl, e]
theorem gl_le {L : Nat} {ds : List D} (h : ∀ d ∈ ds, (txt d).length ≤ L) : (gl (txts ds)).length ≤ ds.length * (L + 1) := by
  have h1 := gl_len (txts ds)
  have h2 : ((txts ds).map (·.length + 1)).sum ≤ ds.length * (L + 1) := by
    rw [txts_map]
    clear h1
    induction ds with
    | nil => simp
    | cons x r ih =>
      have h3 := h x (List.mem_cons_self ..)
      have h4 := ih fun d hd => h d (List.mem_cons_of_mem _ hd)
      simp only [List.map_cons, List.sum_cons, List.length_cons, Nat.succ_mul] at h4 ⊢
      omega
  split at h1
  · rename_i e
    rw [e]; simp [gl]
  · omega
/-- what «_law_nested» hands back -/
def Nst (H : Hp) (p : Addr) (k : Nat) : Prop := ∃ (v : V) (x : Str) (d : D), H p = some (.tup [v, .str x]) ∧ Be H v d ∧ cs x = txt d ∧ deep d ≤ 60 + k ∧ (txt d).length ≤ Lim k
def spNest (n : Nat) : Sp := fun vs H Q _ => ∃ (b : Addr) (k : Nat), vs = [.ref b, .int k] ∧ BoxAt H b ∧ k ≤ 4 ∧ k < n ∧ ∀ (p : Addr) (H' : Hp), Gr b H H' → Nst H' p k → Q (.ref p) H'
theorem lim_ge (k : Nat) : 4401 ≤ Lim k := by
  match k with
  | 0 | 1 | 2 | 3 => decide
  | n + 4 => show 4401 ≤ 1700000; decide
theorem lim_up {k m : Nat} (hk : k ≤ 4) (h1 : 1 ≤ k) (hm : m ≤ 14) (hm2 : k ≠ 4 → m ≤ 3) : m * (Lim (k - 1) + 1) + 2 ≤ Lim k := by
  match k, hk with
  | 1, _ => have := hm2 (by decide); show m * 4402 + 2 ≤ 13300; omega
  | 2, _ => have := hm2 (by decide); show m * 13301 + 2 ≤ 40000; omega
  | 3, _ => have := hm2 (by decide); show m * 40001 + 2 ≤ 121000; omega
  | 4, _ => show m * 121001 + 2 ≤ 1700000; omega
theorem menu8 : ∀ j : Nat, j < 8 → ∃ m : Int, ([V.int 0, V.int 1, V.int 2, V.int 3, V.int 4, V.int 5, V.int 7, V.int 14] : List V)[j]? = some (V.int m) ∧ 0 ≤ m ∧ m ≤ 14
  | 0, _ => ⟨0, rfl, by decide, by decide⟩ | 1, _ => ⟨1, rfl, by decide, by decide⟩ | 2, _ => ⟨2, rfl, by decide, by decide⟩ | 3, _ => ⟨3, rfl, by decide, by decide⟩
  | 4, _ => ⟨4, rfl, by decide, by decide⟩ | 5, _ => ⟨5, rfl, by decide, by decide⟩ | 6, _ => ⟨7, rfl, by decide, by decide⟩ | 7, _ => ⟨14, rfl, by decide, by decide⟩
  | n + 8, h => absurd h (by omega)
theorem call_ix0 : True := trivial
section
variable {P : Program} {w : World} {K : PySem.W.Frag} {mg : Str → Option Value} {base : Heap} {f g : Addr} {fd gd : FuncData} {g2 g3 g4 g5 : Addr} {gd2 gd3 gd4 gd5 : FuncData}
theorem scNest : FnScope ["box", "depth", "form", "word", "value", "text", "k", "many", "rows", "row"] ["box", "depth"] (defScope sNest) := ⟨rfl, rfl, rfl, by decide +kernel, rfl, by decide +kernel, by decide +kernel⟩
theorem ok_nest {n : Nat} (F : Fun K "_law_nested" "_law_nested" sNest f fd) (G : Cal P w K mg base "_law_nested" (n + 6) ["box", "depth"] (spNest n) f fd)
    (T : Cal P w K mg base "_law_take" 1 ["box", "many"] spTake g gd) (I : Cal P w K mg base "_law_integer" 3 ["box"] (spB gInt) g2 gd2) (W : Cal P w K mg base "_law_word" 2 ["box"] (spB gWord) g3 gd3)
    (S : Cal P w K mg base "_law_sample" 3 ["box"] (spB (gData 4 200)) g4 gd4) (L : Cal P w K mg base "_law_plain" 5 ["value"] (spWr (fun d => small d = true) 5) g5 gd5)
    (mr : mg "range" = none) (mt : mg "tuple" = none) : FnOk P w K mg base CX0 (n + 7) f fd ["box", "depth"] (spNest (n + 1)) := by
  refine F.ok scNest (fun vs H Q E h => ?_) (fun cdv A outer s H vs Q E hr h => ?_)
  · obtain ⟨v, d, rfl, _⟩ := h
    rfl
  obtain ⟨b, k, rfl, hb, hk4, hkn, q⟩ := h
  refine ⟨_, pss_cons (ps_set (i := 2) scNest.nd rfl (Or.inl rfl) (pe_call T.ok (hr.mono (by omega)) rfl T.m T.k T.b .nil pass0 (pa_cons (pv 0) (pa_cons pe_int pa_nil))))
    (pss_cons (ps_if (PW.pt (pw_or (pt_cmpR op_eq (pv 2) pe_int (nomark _)) (pw_or1 (pt_cmpR op_eq (pv 1) pe_int (nomark _))))) (pss_one (ps_ret (pe_call I.ok (hr.mono (by omega)) rfl I.m I.k I.b .nil pass0 (pa_cons (pv 0) pa_nil)))) pss_nil)
    (pss_cons (ps_if (pt_cmpR op_eq (pv 2) pe_int (nomark _)) (pss_cons (ps_set (i := 3) scNest.nd rfl (Or.inl rfl) (pe_call W.ok (hr.mono (by omega)) rfl W.m W.k W.b .nil pass0 (pa_cons (pv 0) pa_nil))) (pss_one (ps_ret (pe_tup (pa_cons (pv 3) (pa_cons (pv 3) pa_nil)))))) pss_nil)
    (pss_cons (ps_if (pt_cmpR op_eq (pv 2) pe_int (nomark _)) (pss_cons (ps_set (i := 4) scNest.nd rfl (Or.inl rfl) (pe_call S.ok (hr.mono (by omega)) rfl S.m S.k S.b .nil pass0 (pa_cons (pv 0) pa_nil))) (pss_one (ps_ret (pe_tup (pa_cons (pv 4) (pa_cons (pe_call L.ok (hr.mono (by omega)) rfl L.m L.k L.b .nil pass0 (pa_cons (pv 4) pa_nil)) pa_nil)))))) pss_nil)
    (pss_cons (ps_if (pt_cmpR op_eq (pv 2) pe_int (nomark _)) (pss_cons (ps_set (i := 4) scNest.nd rfl (Or.inl rfl) (pe_call W.ok (hr.mono (by omega)) rfl W.m W.k W.b .nil pass0 (pa_cons (pv 0) pa_nil)))
        (pss_cons (ps_set (i := 5) scNest.nd rfl (Or.inl rfl) (pv 4))
        (pss_cons (ps_for PassesOwn.never rfl (pi_range1 rfl mr (pa_cons (pe_call T.ok (hr.mono (by omega)) rfl T.m T.k T.b .nil pass0 (pa_cons (pv 0) (pa_cons pe_int pa_nil))) pa_nil)) (pg_name (i := 6) scNest.nd rfl (Or.inl rfl))
          (pss_one (ps_par rfl scNest.nd (i := 4) (j := 5) rfl rfl (by decide) rfl rfl (pa_cons (pe_tup (pa_cons (pv 4) pa_nil)) (pa_cons (pe_op op_add_str (pe_op op_add_str pe_str (pv 5)) pe_str) pa_nil)) (by rfl))))
        (pss_one (ps_ret (pe_tup (pa_cons (pv 4) (pa_cons (pv 5) pa_nil)))))))) pss_nil)
    (pss_cons (ps_set (i := 7) scNest.nd rfl (Or.inl rfl) (pe_ifExp (pt_cmpR op_eq (pv 1) pe_int (nomark _))
        (pe_ix ix_list (pe_lst (pa_cons pe_int (pa_cons pe_int (pa_cons pe_int (pa_cons pe_int (pa_cons pe_int (pa_cons pe_int (pa_cons pe_int (pa_cons pe_int pa_nil))))))))) (pe_call T.ok (hr.mono (by omega)) rfl T.m T.k T.b .nil pass0 (pa_cons (pv 0) (pa_cons pe_int pa_nil))) (fun _ _ => rfl))
        (pe_call T.ok (hr.mono (by omega)) rfl T.m T.k T.b .nil pass0 (pa_cons (pv 0) (pa_cons pe_int pa_nil)))))
    (pss_cons (ps_setLc (i := 8) (own := [("k", 6)]) (g := gName 6) (tt := tYes) rfl scNest.nd rfl rfl (sw_true rfl rfl rfl (by decide +kernel)) (pi_range1 rfl mr (pa_cons (pv 7) pa_nil))
        (blkOk_by (N := ["box", "depth", "form", "word", "value", "text", "k", "many", "rows", "row"]) (sc := defScope sNest) (by decide +kernel))
        (fun _ _ _ _ _ => pg_name (i := 6) scNest.nd rfl (Or.inl rfl)) (fun _ _ _ _ _ => pts_nil)
        (fun _ _ _ _ _ => pe_call G.ok hr rfl G.m G.k G.b .nil pass0 (pa_cons (pv 0) (pa_cons (pe_op op_sub (pv 1) pe_int) pa_nil))))
    (pss_one (ps_ret (pe_tup (pa_cons (pe_callTy call_tuple_of rfl mt boot_tuple (pa_cons
        (pe_lc (own := [("row", 9)]) (g := gName 9) (tt := tYes) rfl scNest.nd (pi_list (pv 8)) (blkOk_by (N := ["box", "depth", "form", "word", "value", "text", "k", "many", "rows", "row"]) (sc := defScope sNest) (by decide +kernel))
          (fun _ _ _ _ _ => pg_name (i := 9) scNest.nd rfl (Or.inl rfl)) (fun _ _ _ _ _ => pts_nil) (fun _ _ _ _ _ => pe_ix (r := rIxT K) ix_tup (pv 9) pe_int (fun _ _ => rfl))) pa_nil))
      (pa_cons (pe_op op_add_str (pe_op op_add_str pe_str (pe_join pe_str
        (pe_lc (own := [("row", 9)]) (g := gName 9) (tt := tYes) rfl scNest.nd (pi_list (pv 8)) (blkOk_by (N := ["box", "depth", "form", "word", "value", "text", "k", "many", "rows", "row"]) (sc := defScope sNest) (by decide +kernel))
          (fun _ _ _ _ _ => pg_name (i := 9) scNest.nd rfl (Or.inl rfl)) (fun _ _ _ _ _ => pts_nil) (fun _ _ _ _ _ => pe_ix (r := rIxT K) ix_tup (pv 9) pe_int (fun _ _ => rfl))))) pe_str) pa_nil)))))))))))
    , ?_⟩
  have hline := line_big
  have hlim := lim_ge k
  refine ⟨_, rfl, b, 7, rfl, hb, by decide, by decide, fun fm H1 f0 f1 g1 => ?_⟩
  -- the integer
  have intg : (tRet (tCall (spB gInt) [] E0 (tCons (tVar 0) tNil))) { nx := fun _ H' => Q .non H', rt := Q } [some (.ref b), some (.int k), some (.int fm), none, none, none, none, none, none, none] H1 := by
    refine ⟨_, rfl, b, rfl, g1.boxAt, fun v H2 g2 hv => ?_⟩
    obtain ⟨p, m, x, rfl, hp, hx, hl⟩ := hv
    exact q p H2 (g1.trans g2) ⟨_, x, .i m, hp, .i, hx, by show 0 ≤ _; omega, by show (decI m).length ≤ _; rw [← hx]; omega⟩
  refine ⟨_, rfl, rfl, _, rfl, ?_⟩
  refine ite2 (fun _ => iteT intg) (fun _ => ?_)
  refine ⟨_, rfl, rfl, _, rfl, ?_⟩
  refine ite2 (fun _ => intg) (fun hk0 => ?_)
  have hk1 : 1 ≤ k := by
    cases k with
    | zero => exact absurd rfl hk0
    | succ k => omega
  -- a word twice
  refine ⟨_, rfl, rfl, _, rfl, ?_⟩
  refine ite2 (fun _ => ?_) (fun _ => ?_)
  · refine ⟨_, rfl, b, rfl, g1.boxAt, fun v H2 g2 hv => ?_⟩
    obtain ⟨x, rfl, hx⟩ := hv
    refine ⟨_, rfl, _, rfl, (by show 2 ≤ sizeLine; omega), fun p hp => ?_⟩
    exact q p _ ((g1.trans g2).new hp) ⟨_, x, .s (cs x), upd_same, .s rfl, rfl, by show 0 ≤ _; omega, by show (cs x).length ≤ _; have := hx.2.2; omega⟩
  -- a sample
  refine ⟨_, rfl, rfl, _, rfl, ?_⟩
  refine ite2 (fun _ => ?_) (fun _ => ?_)
  · refine ⟨_, rfl, b, rfl, g1.boxAt, fun v H2 g2 hv => ?_⟩
    obtain ⟨d, hd, sm, dp, ln⟩ := hv
    refine ⟨_, rfl, _, rfl, v, d, rfl, hd, sm, by omega, by omega, fun x H3 hx hs => ?_⟩
    refine ⟨(by show 2 ≤ sizeLine; omega), fun p hp => ?_⟩
    have g3 := (g1.trans g2).same hb hs
    exact q p _ (g3.new hp) ⟨_, x, d, upd_same, hd.mono (same_tup (hs.trans (same_new hp _))), hx, by omega, by omega⟩
  -- a word in brackets
  refine ⟨_, rfl, rfl, _, rfl, ?_⟩
  refine ite2 (fun _ => ?_) (fun _ => ?_)
  · refine ⟨_, rfl, b, rfl, g1.boxAt, fun v H2 g2 hv => ?_⟩
    obtain ⟨x, rfl, hx⟩ := hv
    have gg := g1.trans g2
    refine ⟨_, rfl, _, rfl, b, 60, rfl, gg.boxAt, by decide, by decide, fun r H3 r0 r1 g3 => ?_⟩
    obtain ⟨m, rfl⟩ := Int.eq_ofNat_of_zero_le r0
    refine ⟨m, rfl, by omega, by omega, ?_⟩
    refine for_range (n := m) (fun i σ H' => Gr b H H' ∧ ∃ v t d kk, σ = [some (.ref b), some (.int k), some (.int fm), none, some v, some (.str t), kk, none, none, none] ∧ Be H' v d ∧ cs t = txt d ∧ deep d ≤ i ∧ (txt d).length ≤ 68 + 2 * i) ?_ (fun i σ H' hi p => ?_) (fun σ H' p => ?_)
    · exact ⟨gg.trans g3, _, x, .s (cs x), none, rfl, .s rfl, rfl, Nat.le_refl _, hx.2.2⟩
    · obtain ⟨g4, v, t, d, kk, rfl, hd, ht, dp, ln⟩ := p
      refine ⟨_, rfl, (by show 1 ≤ sizeLine; omega), fun p hp => ?_⟩
      have hc : cs (Str.ofString "(" ++ t ++ Str.ofString ")") = 40 :: (txt d ++ [41]) := brackets _ t _ ht
      refine ⟨_, rfl, _, _, rfl, rfl, ?_, _, _, rfl, rfl, ?_, _, _, rfl, g4.new hp, _, _, .t [d], some (.int (0 + (i : Int))), rfl, ?_, hc, ?_, ?_⟩
      · rw [len_cs t, ht]; show 1 + _ ≤ _; omega
      · rw [len_cs, cs_app, ht, List.length_append]; show 1 + _ + 1 ≤ _; omega
      · exact .t upd_same (.cons (hd.mono (same_tup (same_new hp _))) .nil)
      · show max (deep d) 0 + 1 ≤ i + 1
        omega
      · show (40 :: (txt d ++ [41])).length ≤ _
        rw [List.length_cons, List.length_append, List.length_singleton]
        omega
    · obtain ⟨g4, v, t, d, kk, rfl, hd, ht, dp, ln⟩ := p
      refine ⟨_, rfl, _, rfl, (by show 2 ≤ sizeLine; omega), fun p hp => ?_⟩
      exact q p _ (g4.new hp) ⟨v, t, d, upd_same, hd.mono (same_tup (same_new hp _)), ht, by omega, by omega⟩
  -- a tuple
  refine ⟨_, rfl, rfl, _, rfl, ?_⟩
  have many : ∀ Qx : VK, (∀ (m : Int) (H2 : Hp), 0 ≤ m → m ≤ 14 → (k ≠ 4 → m ≤ 3) → Gr b H H2 → Qx (.int m) H2) →
      (if decide (V.int (k : Int) = V.int 4) = true then
        tOp (rIxL K) (tLst (tCons (tC (.int 0)) (tCons (tC (.int 1)) (tCons (tC (.int 2)) (tCons (tC (.int 3)) (tCons (tC (.int 4)) (tCons (tC (.int 5)) (tCons (tC (.int 7)) (tCons (tC (.int 14)) tNil)))))))))
          (tCall spTake [] E0 (tCons (tVar 0) (tCons (tC (.int 8)) tNil))) [some (.ref b), some (.int k), some (.int fm), none, none, none, none, none, none, none] H1 Qx
      else tCall spTake [] E0 (tCons (tVar 0) (tCons (tC (.int 4)) tNil)) [some (.ref b), some (.int k), some (.int fm), none, none, none, none, none, none, none] H1 Qx) := by
    intro Qx qx
    refine ite2 (fun c => ?_) (fun c => ?_)
    · have hk : k = 4 := by
        have := of_decide_eq_true c
        injection this with this
        omega
      refine ⟨(by show 8 ≤ sizeLine; omega), fun p hp => ?_⟩
      have g1' := g1.new (o := .lst [V.int 0, V.int 1, V.int 2, V.int 3, V.int 4, V.int 5, V.int 7, V.int 14]) hp
      obtain ⟨hp0, hpb⟩ := g1.free hb hp
      refine ⟨_, rfl, b, 8, rfl, g1'.boxAt, by decide, by decide, fun r2 H2 h3 h4 g2 => ?_⟩
      obtain ⟨j, rfl⟩ := Int.eq_ofNat_of_zero_le h3
      obtain ⟨m, hm, hm1, hm2⟩ := menu8 j (by omega)
      refine ⟨p, _, _, _, rfl, rfl, SqL.of (g2.keep p _ hpb upd_same), atI_nat hm, ?_⟩
      exact qx m H2 hm1 hm2 (fun e => absurd hk e) (g1'.trans g2)
    · refine ⟨_, rfl, b, 4, rfl, g1.boxAt, by decide, by decide, fun r2 H2 h3 h4 g2 => ?_⟩
      exact qx _ H2 h3 (by omega) (fun _ => by omega) (g1.trans g2)
  refine many _ fun m H2 hm0 hm1 hm2 g2 => ?_
  obtain ⟨m, rfl⟩ := Int.eq_ofNat_of_zero_le hm0
  -- the rows
  refine ⟨_, rfl, m, rfl, by omega, by omega, fun Da hD => ?_⟩
  obtain ⟨hD0, hDb⟩ := g2.free hb hD
  refine lc_range (lo := 0) (n := m) (fun i H3 => Gr b H H3 ∧ ∃ (us : List V) (ds : List D), H3 Da = some (.lst us) ∧ RowL H3 us ds ∧ us.length = i ∧ ∀ d ∈ ds, deep d ≤ 60 + (k - 1) ∧ (txt d).length ≤ Lim (k - 1)) ?_ (fun i H3 hi p => ?_) (fun H3 p => ?_)
  · exact ⟨g2.new hD, [], [], upd_same, .nil, rfl, fun _ h => nomatch h⟩
  · obtain ⟨g3, us, ds, hus, hr3, hl, hd⟩ := p
    refine ⟨rfl, ?_⟩
    refine ⟨_, rfl, _, rfl, _, _, rfl, rfl, b, k - 1, ?_, g3.boxAt, by omega, by omega, fun p H4 g4 hn => ?_⟩
    · show [V.ref b, V.int ((k : Int) - 1)] = _
      rw [show (k : Int) - 1 = ((k - 1 : Nat) : Int) by omega]
    obtain ⟨v, x, d, h1, h2, h3, h4, h5⟩ := hn
    have hp4 : H4 Da = some (.lst us) := g4.keep Da _ hDb hus
    have upT : ∀ a xs, H4 a = some (.tup xs) → (upd H4 Da (.lst (us ++ [.ref p]))) a = some (.tup xs) := fun a xs h => by
      rw [upd_ne (fun e => by rw [e, hp4] at h; cases h)]; exact h
    refine ⟨us, hp4, by rw [hl]; omega, (g3.trans g4).mut hD0 hDb, us ++ [.ref p], ds ++ [d], upd_same, ?_, by rw [List.length_append, hl]; rfl, ?_⟩
    · exact ((hr3.mono (gr_tup g4 g3.boxAt)).snoc ⟨p, v, x, rfl, h1, h2, h3⟩).mono upT
    · intro e he
      rcases List.mem_append.mp he with he | he
      · exact hd e he
      · rw [List.mem_singleton.mp he]; exact ⟨h4, h5⟩
  obtain ⟨g3, us, ds, hus, hr3, hl, hd⟩ := p
  have hdl : ds.length = m := by rw [← hr3.len, hl]
  -- the values
  refine ⟨_, rfl, Da, rfl, ⟨us, SqL.of hus⟩, fun D1 hD1 => ?_⟩
  refine lc_list (K := K) (a := Da) (xs := us) (fun i H4 => Same H3 H4 ∧ ∃ vs : List V, H4 D1 = some (.lst vs) ∧ BeL H4 vs (ds.take i)) ?_ (fun i H4 _ p => SqL.of (p.1 Da _ hus)) (fun i x H4 hx p => ?_) (fun H4 p => ?_)
  · exact ⟨same_new hD1 _, [], upd_same, .nil⟩
  · obtain ⟨hs, vs, hvs, hb4⟩ := p
    obtain ⟨d, hdi, r⟩ := hr3.get hx
    obtain ⟨p, v, t, rfl, k1, k2, k3⟩ := r
    have upT : ∀ (o : HO) a xs, H4 a = some (.tup xs) → (upd H4 D1 o) a = some (.tup xs) := fun o a xs h => by
      rw [upd_ne (fun e => by rw [e, hvs] at h; cases h)]; exact h
    refine ⟨rfl, _, rfl, p, _, 0, v, rfl, rfl, SqT.of (hs p _ k1), rfl, vs, hvs, ?_, same_mut hs hD1, vs ++ [v], upd_same, ?_⟩
    · rw [hb4.len, List.length_take]; omega
    · rw [take_snoc hdi]
      exact (hb4.snoc (k2.mono (same_tup hs))).mono (upT _)
  obtain ⟨hs, vs, hvs, hb4⟩ := p
  rw [hr3.len, List.take_length] at hb4
  refine ⟨D1, vs, rfl, .inl ⟨SqL.of hvs, fun t ht => ?_⟩⟩
  have hs2 := hs.trans (same_new ht (.tup vs))
  have bt : Be (upd H4 t (.tup vs)) (.ref t) (.t ds) := .t upd_same (hb4.mono (same_tup (same_new ht _)))
  -- the texts
  refine ⟨⟨_, rfl⟩, _, rfl, Da, rfl, ⟨us, SqL.of (hs2 Da _ hus)⟩, fun D2 hD2 => ?_⟩
  refine lc_list (K := K) (a := Da) (xs := us) (fun i H5 => Same (upd H4 t (.tup vs)) H5 ∧ ∃ ys : List Str, H5 D2 = some (.lst (ys.map V.str)) ∧ ys.map cs = txts (ds.take i)) ?_ (fun i H5 _ p => SqL.of (p.1 Da _ (hs2 Da _ hus))) (fun i x H5 hx p => ?_) (fun H5 p => ?_)
  · exact ⟨same_new hD2 _, [], upd_same, rfl⟩
  · obtain ⟨hs5, ys, hys, hc⟩ := p
    obtain ⟨d, hdi, r⟩ := hr3.get hx
    obtain ⟨p, v, x5, rfl, k1, k2, k3⟩ := r
    have e1 : ys.length = (txts (ds.take i)).length := by rw [← hc, List.length_map]
    refine ⟨rfl, _, rfl, p, _, 1, .str x5, rfl, rfl, SqT.of (hs5 p _ (hs2 p _ k1)), rfl, ys.map V.str, hys, ?_, same_mut hs5 hD2, ys ++ [x5], ?_, ?_⟩
    · rw [List.length_map, e1, txts_map, List.length_map, List.length_take]; omega
    · rw [upd_same, List.map_append]; rfl
    · rw [List.map_append, hc, txts_snoc hdi]
      show _ ++ [cs x5] = _
      rw [k3]
  obtain ⟨hs5, ys, hys, hc⟩ := p
  rw [hr3.len, List.take_length] at hc
  have hf := gl_fit ys
  rw [hc] at hf
  have ej : cs (Txt.join (Str.ofString " ") ys) = gl (txts ds) := by rw [glued1, hc]
  have hgl := gl_le (fun d h => (hd d h).2)
  have hup := lim_up (m := m) hk4 hk1 (by omega) (fun e => by have := hm2 e; omega)
  rw [hdl] at hgl
  have hl4 : Lim k ≤ 1700000 := by
    match k, hk4 with
    | 0, _ | 1, _ | 2, _ | 3, _ | 4, _ => decide
  refine ⟨_, D2, ys, rfl, rfl, .inl (SqL.of hys), by rw [sep_len]; omega, _, _, rfl, rfl, ?_, _, _, rfl, rfl, ?_, (by show 2 ≤ sizeLine; omega), fun p hp => ?_⟩
  · rw [len_cs (Txt.join _ _), ej]
    show 1 + _ ≤ _
    omega
  · rw [len_cs, cs_app, ej, List.length_append]
    show 1 + _ + 1 ≤ _
    omega
  · refine q p _ ((g3.same hb (hs2.trans hs5)).new hp) ⟨.ref t, _, .t ds, upd_same, bt.mono (same_tup (hs5.trans (same_new hp _))), brackets _ (Str.ofString "") _ ej, ?_, ?_⟩
    · show deeps ds + 1 ≤ 60 + k
      have := deeps_le.mpr fun d h => (hd d h).1
      omega
    · show (40 :: (gl (txts ds) ++ [41])).length ≤ _
      rw [List.length_cons, List.length_append, List.length_singleton]
      omega
end
end Mt
set_option Elab.async false
set_option linter.all false
set_option maxRecDepth 100000
set_option maxHeartbeats 4000000
namespace Mt
open PySem PySem.Spec PyProof.Rows L2 PySem.NumText
def spLaw (K : PySem.W.Frag) : Sp := fun vs H Q _ => ∃ (a : Addr) (ns : List Int), vs = [.ref a] ∧ SqL K H a (ns.map V.int) ∧ ns.length ≤ 63 ∧ ∀ H', Q (.bl true) H'
section
variable {P : Program} {w : World} {K : PySem.W.Frag} {mg : Str → Option Value} {base : Heap} {f g : Addr} {fd gd : FuncData} {g2 g3 g4 g5 : Addr} {gd2 gd3 gd4 gd5 : FuncData}
theorem scLaw : FnScope ["script", "turn", "value", "text", "told"] ["script"] (defScope sLaw) := ⟨rfl, rfl, rfl, by decide +kernel, rfl, by decide +kernel, by decide +kernel⟩
theorem gr_same {b : Addr} {H H1 H2 : Hp} (e : Same H H1) (h : H b = none) (g : Gr b H1 H2) : Same H H2 := fun a o ha => g.keep a o (fun z => by rw [z, h] at ha; cases ha) (e a o ha)
theorem ok_law (F : Fun K "law" "law" sLaw f fd) (B : Cal P w K mg base "_law_box" 1 ["script", "at"] (spBox K) g gd) (N : Cal P w K mg base "_law_nested" 11 ["box", "depth"] (spNest 5) g2 gd2)
    (W : Cal P w K mg base "write" 68 ["value"] (spWr (fun _ => True) 66) g3 gd3) (mr : mg "range" = none) (mi : mg "isinstance" = none) (ms : mg "str" = none) : FnOk P w K mg base CX0 69 f fd ["script"] (spLaw K) := by
  refine F.ok scLaw (fun vs H Q E h => ?_) (fun cdv A outer s H vs Q E hr h => ?_)
  · obtain ⟨a, ns, rfl, _⟩ := h
    rfl
  obtain ⟨a, ns, rfl, hS, h63, q⟩ := h
  refine ⟨_, pss_cons (ps_for PassesOwn.never rfl (pi_range1 rfl mr (pa_cons pe_int pa_nil)) (pg_name (i := 1) scLaw.nd rfl (Or.inl rfl))
      (pss_cons (ps_asg (pe_call N.ok (hr.mono (by decide)) rfl N.m N.k N.b .nil pass0 (pa_cons (pe_call B.ok (hr.mono (by decide)) rfl B.m B.k B.b .nil pass0 (pa_cons (pv 0) (pa_cons (pv 1) pa_nil))) (pa_cons pe_int pa_nil)))
        (pg_tup (by rfl) (pgs_cons (pg_name (i := 2) scLaw.nd rfl (Or.inl rfl)) (pgs_cons (pg_name (i := 3) scLaw.nd rfl (Or.inl rfl)) pgs_nil))))
      (pss_cons (ps_set (i := 4) scLaw.nd rfl (Or.inl rfl) (pe_call W.ok hr rfl W.m W.k W.b .nil pass0 (pa_cons (pv 2) pa_nil)))
      (pss_one (ps_if (PW.pt (pw_or (pt_not (pt_val (pe_callB call_isi rfl mi boot_isinstance (pa_cons (pv 4) (pa_cons (pe_bltn (v := .ty "str") rfl ms boot_str rfl) pa_nil))))) (pw_or1 (pt_cmpR op_ne (pv 4) (pv 3) (nomark _)))))
        (pss_one (ps_ret pe_bl)) pss_nil)))))
    (pss_one (ps_ret pe_bl)), ?_⟩
  refine ⟨4, rfl, by decide, by decide, ?_⟩
  refine for_range (lo := 0) (n := 4) (fun i σ H' => Same H H' ∧ ∃ t v x y, σ = [some (.ref a), t, v, x, y]) ?_ (fun i σ H' hi p => ?_) (fun σ H' p => ?_)
  · exact ⟨Same.refl H, _, _, _, _, rfl⟩
  · obtain ⟨hs, t, v, x, y, rfl⟩ := p
    refine ⟨_, rfl, _, rfl, a, ns, _, rfl, hs.seq hS, by omega, fun b H2 h2 hb hn => ?_⟩
    refine ⟨b, 4, rfl, hb, by decide, by decide, fun p H3 g3 hp => ?_⟩
    obtain ⟨dv, tx, d, k1, k2, k3, k4, k5⟩ := hp
    have s3 : Same H H3 := gr_same (hs.trans h2) (hs.free hn) g3
    refine ⟨p, _, rfl, SqT.of k1, rfl, _, _, rfl, _, _, rfl, rfl, ?_⟩
    refine ⟨_, rfl, dv, d, rfl, k2, trivial, by omega, Nat.le_trans k5 (show Lim 4 ≤ 15000000 by decide), fun told H4 h4 s4 => ?_⟩
    have e : told = tx := str_ext (by rw [h4, k3])
    subst e
    refine ⟨_, rfl, _, _, _, _, true, rfl, .ty "str", .base (.str _), kit_ss, _, rfl, ?_⟩
    refine iteF ⟨_, rfl, _, rfl, rfl, _, rfl, ?_⟩
    rw [decide_eq_true rfl]
    refine iteF ⟨s3.trans s4, _, _, _, _, rfl⟩
  · exact q H'
end
/-- the facts of one def as the head leaves them -/
structure Df (K : PySem.W.Frag) (mg : Str → Option Value) (x : Str) (st : Stmt) (f : Addr) (fd : FuncData) : Prop where
  F : Fun K x x st f fd
  m : mg x = some (.ref f)
theorem df_mk {K : PySem.W.Frag} {mg : Str → Option Value} {h : Heap} (X : K.In h) (G : h.Ns mainGlobals mg) {x : Str} {st : Stmt} {f : Addr} {oc : Value} {od an : Option Addr} {osl : Array (Option Value)} {kV doc pm cdv ct : Value}
    (a : PySem.W.nsIn K mainGlobals x = some (some (.ref f))) (l : K.lookup f = some ⟨oc, od, .func (PySem.W.fnOf x x (defArgs st) (defBody st) (defScope st) .none kV doc pm an cdv ct), osl⟩)
    (c : PySem.W.codeIn K cdv x = true) (k : PySem.W.keepIn K (.ref f) = true) : Df K mg x st f (PySem.W.fnOf x x (defArgs st) (defBody st) (defScope st) .none kV doc pm an cdv ct) :=
  ⟨fun_mk l c k, PySem.W.mg_of X G a⟩
theorem all_ok {P : Program} {w : World} {K : PySem.W.Frag} {mg : Str → Option Value} {base : Heap} {f1 f2 f3 f4 f5 f6 f7 f8 f9 f10 f11 f12 : Addr} {d1 d2 d3 d4 d5 d6 d7 d8 d9 d10 d11 d12 : FuncData} {tk : Tok}
    (D1 : Df K mg "write_number" sWn f1 d1) (D2 : Df K mg "write" sWrite f2 d2) (D3 : Df K mg "_law_box" sBox f3 d3) (D4 : Df K mg "_law_take" sTake f4 d4) (D5 : Df K mg "_law_word" sWord f5 d5) (D6 : Df K mg "_law_figures" sFig f6 d6)
    (D7 : Df K mg "_law_number" sNum f7 d7) (D8 : Df K mg "_law_integer" sInt f8 d8) (D9 : Df K mg "_law_sample" sSamp f9 d9) (D10 : Df K mg "_law_plain" sPlain f10 d10) (D11 : Df K mg "_law_nested" sNest f11 d11) (D12 : Df K mg "law" sLaw f12 d12)
    (mc : mg "CHUNK" = some (.int 100000000000000000000000000000000000000000000000000 tk)) (m1 : mg "str" = none) (m2 : mg "reversed" = none) (m3 : mg "int" = none) (m4 : mg "abs" = none) (m5 : mg "len" = none) (m6 : mg "range" = none) (m7 : mg "min" = none)
    (m8 : mg "isinstance" = none) (m9 : mg "tuple" = none) : FnOk P w K mg base CX0 69 f12 d12 ["script"] (spLaw K) := by
  have b1 := D1.F.binds (ps := ["value"]) fun _ _ _ _ _ _ us hl => match us, hl with | [_], _ => rfl
  have b2 := D2.F.binds (ps := ["value"]) fun _ _ _ _ _ _ us hl => match us, hl with | [_], _ => rfl
  have b3 := D3.F.binds (ps := ["script", "at"]) fun _ _ _ _ _ _ us hl => match us, hl with | [_, _], _ => rfl
  have b4 := D4.F.binds (ps := ["box", "many"]) fun _ _ _ _ _ _ us hl => match us, hl with | [_, _], _ => rfl
  have b5 := D5.F.binds (ps := ["box"]) fun _ _ _ _ _ _ us hl => match us, hl with | [_], _ => rfl
  have b6 := D6.F.binds (ps := ["box"]) fun _ _ _ _ _ _ us hl => match us, hl with | [_], _ => rfl
  have b7 := D7.F.binds (ps := ["figures"]) fun _ _ _ _ _ _ us hl => match us, hl with | [_], _ => rfl
  have b8 := D8.F.binds (ps := ["box"]) fun _ _ _ _ _ _ us hl => match us, hl with | [_], _ => rfl
  have b9 := D9.F.binds (ps := ["box"]) fun _ _ _ _ _ _ us hl => match us, hl with | [_], _ => rfl
  have b10 := D10.F.binds (ps := ["value"]) fun _ _ _ _ _ _ us hl => match us, hl with | [_], _ => rfl
  have b11 := D11.F.binds (ps := ["box", "depth"]) fun _ _ _ _ _ _ us hl => match us, hl with | [_, _], _ => rfl
  have T : Cal P w K mg base "_law_take" 1 ["box", "many"] spTake f4 d4 := ⟨ok_take D4.F m3, b4, D4.F.kp, D4.m⟩
  have B : Cal P w K mg base "_law_box" 1 ["script", "at"] (spBox K) f3 d3 := ⟨ok_box D3.F m3 m4 m5, b3, D3.F.kp, D3.m⟩
  have W : Cal P w K mg base "_law_word" 2 ["box"] (spB gWord) f5 d5 := ⟨ok_word D5.F T m6, b5, D5.F.kp, D5.m⟩
  have G : Cal P w K mg base "_law_figures" 2 ["box"] (spB gFig) f6 d6 := ⟨ok_fig D6.F T m6 m7 m1 m5, b6, D6.F.kp, D6.m⟩
  have U : Cal P w K mg base "_law_number" 1 ["figures"] spNum f7 d7 := ⟨ok_num D7.F m6 m3 m5, b7, D7.F.kp, D7.m⟩
  have I : Cal P w K mg base "_law_integer" 3 ["box"] (spB gInt) f8 d8 := ⟨ok_int D8.F T G U, b8, D8.F.kp, D8.m⟩
  have S : Cal P w K mg base "_law_sample" 3 ["box"] (spB (gData 4 200)) f9 d9 := ⟨ok_samp D9.F T W m5, b9, D9.F.kp, D9.m⟩
  have none_at : ∀ {n : Nat} {x : Addr} {xd : FuncData} {ps : List Str} {sp : Sp}, (∀ vs H Q E, ¬ sp vs H Q E) → FnOk P w K mg base CX0 n x xd ps sp := fun no =>
    ⟨fun vs H Q E h => absurd h (no vs H Q E), fun A outer s H args us vs Q E _ _ _ _ h => absurd h (no vs H Q E)⟩
  have wn : ∀ n : Nat, Cal P w K mg base "write_number" n ["value"] (spWn n) f1 d1 := by
    intro n
    induction n with
    | zero => exact ⟨none_at fun vs H Q E h => by obtain ⟨_, _, h, _⟩ := h; omega, b1, D1.F.kp, D1.m⟩
    | succ n ih => exact ⟨ok_wn D1.F ih mc m1 m2, b1, D1.F.kp, D1.m⟩
  have wr : ∀ n : Nat, Cal P w K mg base "write" (n + 2) ["value"] (spWr (fun _ => True) n) f2 d2 := by
    intro n
    induction n with
    | zero => exact ⟨none_at fun vs H Q E h => by obtain ⟨_, _, _, _, _, h, _⟩ := h; omega, b2, D2.F.kp, D2.m⟩
    | succ n ih => exact ⟨ok_wr D2.F ih (wn 2) m8 m1 m9, b2, D2.F.kp, D2.m⟩
  have pl : ∀ n : Nat, Cal P w K mg base "_law_plain" n ["value"] (spWr (fun d => small d = true) n) f10 d10 := by
    intro n
    induction n with
    | zero => exact ⟨none_at fun vs H Q E h => by obtain ⟨_, _, _, _, _, h, _⟩ := h; omega, b10, D10.F.kp, D10.m⟩
    | succ n ih => exact ⟨ok_pl D10.F ih m8 m1 m3, b10, D10.F.kp, D10.m⟩
  have ne : ∀ n : Nat, Cal P w K mg base "_law_nested" (n + 6) ["box", "depth"] (spNest n) f11 d11 := by
    intro n
    induction n with
    | zero => exact ⟨none_at fun vs H Q E h => by obtain ⟨_, _, _, _, _, h, _⟩ := h; omega, b11, D11.F.kp, D11.m⟩
    | succ n ih => exact ⟨ok_nest D11.F ih T I W S (pl 5) m6 m9, b11, D11.F.kp, D11.m⟩
  exact ok_law D12.F B (ne 5) (wr 66) m6 m8 m1
theorem walk {l : PySem.W.OpenLaw} {q : Program} {loose : List Str} {XP : (Str → Option Value) → Heap → Prop} {YP : World → Heap → Prop} {d : DefRec} {K : Params → PySem.W.Frag} (hn : l.most = some 63) (hdf : d.params.defaults = [])
    (hY : ∀ (w : World) (h : Heap), YP w h → (K w.params).In h)
    (F : ∀ (w : World) (mg : Str → Option Value) (fa : Addr) (h : Heap), XP mg h → (K w.params).In h → h.Ns mainGlobals mg → mg d.name = some (.ref fa) →
      ∃ fd : FuncData, (∀ (s : Shared) (u : Value), BindsTo s fd ⟨[u], []⟩ [("script", u)]) ∧ ∀ base : Heap, (K w.params).In base → base.Ns mainGlobals mg → FnOk l.prog w (K w.params) mg base CX0 69 fa fd ["script"] (spLaw (K w.params))) :
    PySem.W.WalkO q loose XP YP l.row.toRowW d [] (fun f vs => PySem.call f vs) := by
  refine Att.attach_call hn hdf fun w s₀ s₁ mg mb fa o pm cd doc a vs ns G Y ho hd hcd hmg hobj hints hlen hg => ?_
  have KX := hY w _ Y
  obtain ⟨fd, hb, hF⟩ := F w mg fa _ G.X KX G.T.g hmg
  exact law_call KX G.T.g G.T.b G.T.builtins G.T.nolimit hg hobj hints (Nat.le_trans hlen (by decide)) (k := 69) ⟨rfl, by decide, by decide⟩ hF hb (fun H hO hS => ⟨a, ns, rfl, hS, hlen, fun _ => rfl⟩) fun H e s' z => z
end Mt
open PySem PySem.W PyProof.Rows
set_option Elab.async false
namespace Mt
open PySem PySem.Spec PyProof.Rows L2
theorem all_mk {l : PySem.W.OpenLaw} {w : World} {K : PySem.W.Frag} {h : Heap} {mg : Str → Option Value} {fa : Addr} (X : K.In h) (G : h.Ns mainGlobals mg) (hfa : mg "law" = some (.ref fa)) {tk : Tok} (mc : mg "CHUNK" = some (.int 100000000000000000000000000000000000000000000000000 tk))
    {f1 f2 f3 f4 f5 f6 f7 f8 f9 f10 f11 f12 : Addr} {od1 an1 od2 an2 od3 an3 od4 an4 od5 an5 od6 an6 od7 an7 od8 an8 od9 an9 od10 an10 od11 an11 od12 an12 : Option Addr} {sl1 sl2 sl3 sl4 sl5 sl6 sl7 sl8 sl9 sl10 sl11 sl12 : Array (Option Value)} {oc1 kV1 dc1 pm1 cd1 ct1 oc2 kV2 dc2 pm2 cd2 ct2 oc3 kV3 dc3 pm3 cd3 ct3 oc4 kV4 dc4 pm4 cd4 ct4 oc5 kV5 dc5 pm5 cd5 ct5 oc6 kV6 dc6 pm6 cd6 ct6 oc7 kV7 dc7 pm7 cd7 ct7 oc8 kV8 dc8 pm8 cd8 ct8 oc9 kV9 dc9 pm9 cd9 ct9 oc10 kV10 dc10 pm10 cd10 ct10 oc11 kV11 dc11 pm11 cd11 ct11 oc12 kV12 dc12 pm12 cd12 ct12 : Value}
    (a1 : PySem.W.nsIn K mainGlobals "write_number" = some (some (.ref f1))) (l1 : K.lookup f1 = some ⟨oc1, od1, .func (PySem.W.fnOf "write_number" "write_number" (defArgs sWn) (defBody sWn) (defScope sWn) .none kV1 dc1 pm1 an1 cd1 ct1), sl1⟩) (c1 : PySem.W.codeIn K cd1 "write_number" = true) (k1 : PySem.W.keepIn K (.ref f1) = true)
    (a2 : PySem.W.nsIn K mainGlobals "write" = some (some (.ref f2))) (l2 : K.lookup f2 = some ⟨oc2, od2, .func (PySem.W.fnOf "write" "write" (defArgs sWrite) (defBody sWrite) (defScope sWrite) .none kV2 dc2 pm2 an2 cd2 ct2), sl2⟩) (c2 : PySem.W.codeIn K cd2 "write" = true) (k2 : PySem.W.keepIn K (.ref f2) = true)
    (a3 : PySem.W.nsIn K mainGlobals "_law_box" = some (some (.ref f3))) (l3 : K.lookup f3 = some ⟨oc3, od3, .func (PySem.W.fnOf "_law_box" "_law_box" (defArgs sBox) (defBody sBox) (defScope sBox) .none kV3 dc3 pm3 an3 cd3 ct3), sl3⟩) (c3 : PySem.W.codeIn K cd3 "_law_box" = true) (k3 : PySem.W.keepIn K (.ref f3) = true)
    (a4 : PySem.W.nsIn K mainGlobals "_law_take" = some (some (.ref f4))) (l4 : K.lookup f4 = some ⟨oc4, od4, .func (PySem.W.fnOf "_law_take" "_law_take" (defArgs sTake) (defBody sTake) (defScope sTake) .none kV4 dc4 pm4 an4 cd4 ct4), sl4⟩) (c4 : PySem.W.codeIn K cd4 "_law_take" = true) (k4 : PySem.W.keepIn K (.ref f4) = true)
    (a5 : PySem.W.nsIn K mainGlobals "_law_word" = some (some (.ref f5))) (l5 : K.lookup f5 = some ⟨oc5, od5, .func (PySem.W.fnOf "_law_word" "_law_word" (defArgs sWord) (defBody sWord) (defScope sWord) .none kV5 dc5 pm5 an5 cd5 ct5), sl5⟩) (c5 : PySem.W.codeIn K cd5 "_law_word" = true) (k5 : PySem.W.keepIn K (.ref f5) = true)
    (a6 : PySem.W.nsIn K mainGlobals "_law_figures" = some (some (.ref f6))) (l6 : K.lookup f6 = some ⟨oc6, od6, .func (PySem.W.fnOf "_law_figures" "_law_figures" (defArgs sFig) (defBody sFig) (defScope sFig) .none kV6 dc6 pm6 an6 cd6 ct6), sl6⟩) (c6 : PySem.W.codeIn K cd6 "_law_figures" = true) (k6 : PySem.W.keepIn K (.ref f6) = true)
    (a7 : PySem.W.nsIn K mainGlobals "_law_number" = some (some (.ref f7))) (l7 : K.lookup f7 = some ⟨oc7, od7, .func (PySem.W.fnOf "_law_number" "_law_number" (defArgs sNum) (defBody sNum) (defScope sNum) .none kV7 dc7 pm7 an7 cd7 ct7), sl7⟩) (c7 : PySem.W.codeIn K cd7 "_law_number" = true) (k7 : PySem.W.keepIn K (.ref f7) = true)
    (a8 : PySem.W.nsIn K mainGlobals "_law_integer" = some (some (.ref f8))) (l8 : K.lookup f8 = some ⟨oc8, od8, .func (PySem.W.fnOf "_law_integer" "_law_integer" (defArgs sInt) (defBody sInt) (defScope sInt) .none kV8 dc8 pm8 an8 cd8 ct8), sl8⟩) (c8 : PySem.W.codeIn K cd8 "_law_integer" = true) (k8 : PySem.W.keepIn K (.ref f8) = true)
    (a9 : PySem.W.nsIn K mainGlobals "_law_sample" = some (some (.ref f9))) (l9 : K.lookup f9 = some ⟨oc9, od9, .func (PySem.W.fnOf "_law_sample" "_law_sample" (defArgs sSamp) (defBody sSamp) (defScope sSamp) .none kV9 dc9 pm9 an9 cd9 ct9), sl9⟩) (c9 : PySem.W.codeIn K cd9 "_law_sample" = true) (k9 : PySem.W.keepIn K (.ref f9) = true)
    (a10 : PySem.W.nsIn K mainGlobals "_law_plain" = some (some (.ref f10))) (l10 : K.lookup f10 = some ⟨oc10, od10, .func (PySem.W.fnOf "_law_plain" "_law_plain" (defArgs sPlain) (defBody sPlain) (defScope sPlain) .none kV10 dc10 pm10 an10 cd10 ct10), sl10⟩) (c10 : PySem.W.codeIn K cd10 "_law_plain" = true) (k10 : PySem.W.keepIn K (.ref f10) = true)
    (a11 : PySem.W.nsIn K mainGlobals "_law_nested" = some (some (.ref f11))) (l11 : K.lookup f11 = some ⟨oc11, od11, .func (PySem.W.fnOf "_law_nested" "_law_nested" (defArgs sNest) (defBody sNest) (defScope sNest) .none kV11 dc11 pm11 an11 cd11 ct11), sl11⟩) (c11 : PySem.W.codeIn K cd11 "_law_nested" = true) (k11 : PySem.W.keepIn K (.ref f11) = true)
    (a12 : PySem.W.nsIn K mainGlobals "law" = some (some (.ref f12))) (l12 : K.lookup f12 = some ⟨oc12, od12, .func (PySem.W.fnOf "law" "law" (defArgs sLaw) (defBody sLaw) (defScope sLaw) .none kV12 dc12 pm12 an12 cd12 ct12), sl12⟩) (c12 : PySem.W.codeIn K cd12 "law" = true) (k12 : PySem.W.keepIn K (.ref f12) = true)
    (z1 : PySem.W.nsIn K mainGlobals "str" = some none)
    (z2 : PySem.W.nsIn K mainGlobals "reversed" = some none)
    (z3 : PySem.W.nsIn K mainGlobals "int" = some none)
    (z4 : PySem.W.nsIn K mainGlobals "abs" = some none)
    (z5 : PySem.W.nsIn K mainGlobals "len" = some none)
    (z6 : PySem.W.nsIn K mainGlobals "range" = some none)
    (z7 : PySem.W.nsIn K mainGlobals "min" = some none)
    (z8 : PySem.W.nsIn K mainGlobals "isinstance" = some none)
    (z9 : PySem.W.nsIn K mainGlobals "tuple" = some none) :
    ∃ fd : FuncData, (∀ (s : Shared) (v : Value), BindsTo s fd ⟨[v], []⟩ [("script", v)]) ∧ ∀ base : Heap, K.In base → base.Ns mainGlobals mg → FnOk l.prog w K mg base CX0 69 fa fd ["script"] (spLaw K) := by
  have e := hfa.symm.trans (PySem.W.mg_of X G a12)
  cases e
  refine ⟨_, fun s v => .of_eq rfl, fun base _ _ => all_ok (df_mk X G a1 l1 c1 k1) (df_mk X G a2 l2 c2 k2) (df_mk X G a3 l3 c3 k3) (df_mk X G a4 l4 c4 k4) (df_mk X G a5 l5 c5 k5) (df_mk X G a6 l6 c6 k6) (df_mk X G a7 l7 c7 k7) (df_mk X G a8 l8 c8 k8) (df_mk X G a9 l9 c9 k9) (df_mk X G a10 l10 c10 k10) (df_mk X G a11 l11 c11 k11) (df_mk X G a12 l12 c12 k12) mc (PySem.W.mg_none_of X G z1) (PySem.W.mg_none_of X G z2) (PySem.W.mg_none_of X G z3) (PySem.W.mg_none_of X G z4) (PySem.W.mg_none_of X G z5) (PySem.W.mg_none_of X G z6) (PySem.W.mg_none_of X G z7) (PySem.W.mg_none_of X G z8) (PySem.W.mg_none_of X G z9)⟩
theorem chunk {mg : Str → Option Value} {h : Heap} (x : PySem.W.LooseAre [(Str.ofString "CHUNK", PySem.W.WData.int 100000000000000000000000000000000000000000000000000)] mg h) : ∃ tk, mg "CHUNK" = some (.int 100000000000000000000000000000000000000000000000000 tk) := by
  obtain ⟨v, e, r⟩ := x.val _ (List.mem_singleton.mpr rfl)
  cases r with
  | int _ t => exact ⟨t, e⟩
end Mt
set_option maxRecDepth 100000 in
set_option maxHeartbeats 0 in
theorem PySem.Challenge.cw_isthmus_k01_texts_written_holds : PySem.Challenge.rw_isthmus_k01_texts_written.Holds := by
  w_on; o_law; k_head; (case hw => w_witness2)
  k_fill
  refine Mt.walk (l := PySem.Challenge.rw_isthmus_k01_texts_written) rfl rfl (fun w h Y => PySem.W.kIn_of Y) ?F
  case F =>
    intro w mg fa h XP KX G hmg
    obtain ⟨_, XL⟩ := XP
    obtain ⟨tk, mc⟩ := Mt.chunk XL
    refine' Mt.all_mk KX G hmg mc ?a1 ?l1 ?c1 ?k1 ?a2 ?l2 ?c2 ?k2 ?a3 ?l3 ?c3 ?k3 ?a4 ?l4 ?c4 ?k4 ?a5 ?l5 ?c5 ?k5 ?a6 ?l6 ?c6 ?k6 ?a7 ?l7 ?c7 ?k7 ?a8 ?l8 ?c8 ?k8 ?a9 ?l9 ?c9 ?k9 ?a10 ?l10 ?c10 ?k10 ?a11 ?l11 ?c11 ?k11 ?a12 ?l12 ?c12 ?k12 ?z1 ?z2 ?z3 ?z4 ?z5 ?z6 ?z7 ?z8 ?z9
    (case a1 => k_is); (case l1 => k_is); (case c1 => k_is); (case k1 => k_is)
    (case a2 => k_is); (case l2 => k_is); (case c2 => k_is); (case k2 => k_is)
    (case a3 => k_is); (case l3 => k_is); (case c3 => k_is); (case k3 => k_is)
    (case a4 => k_is); (case l4 => k_is); (case c4 => k_is); (case k4 => k_is)
    (case a5 => k_is); (case l5 => k_is); (case c5 => k_is); (case k5 => k_is)
    (case a6 => k_is); (case l6 => k_is); (case c6 => k_is); (case k6 => k_is)
    (case a7 => k_is); (case l7 => k_is); (case c7 => k_is); (case k7 => k_is)
    (case a8 => k_is); (case l8 => k_is); (case c8 => k_is); (case k8 => k_is)
    (case a9 => k_is); (case l9 => k_is); (case c9 => k_is); (case k9 => k_is)
    (case a10 => k_is); (case l10 => k_is); (case c10 => k_is); (case k10 => k_is)
    (case a11 => k_is); (case l11 => k_is); (case c11 => k_is); (case k11 => k_is)
    (case a12 => k_is); (case l12 => k_is); (case c12 => k_is); (case k12 => k_is)
    (case z1 => k_is); (case z2 => k_is); (case z3 => k_is); (case z4 => k_is); (case z5 => k_is); (case z6 => k_is); (case z7 => k_is); (case z8 => k_is); (case z9 => k_is)
#print axioms PySem.Challenge.cw_isthmus_k01_texts_written_holds
