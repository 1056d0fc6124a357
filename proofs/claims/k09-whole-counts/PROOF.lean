import PyProof.Rows.All
import Wide.All
import OpenK.AllK
import Wide.FinOn
import PyProof.Rows.StrOr
import HandS.Base
import HandS.Call
import HandS.List
import HandS.Ends
import HandS.Words
import HandS.WordsList
import HandS.Zip
import HandS.Wide
import PySem.Challenge.RW_pinnedheap_k09_whole_counts_of_states
set_option Elab.async false
set_option linter.all false
set_option maxRecDepth 100000
/-! count_states against the law's own count: the mathematics (K9, plain), rules of my own, one promise a def, the law, the end. -/
/-! What the program and the law count, in plain Lean: no Python here. -/
namespace K9

/-- from a chunk of the size s with m states, along the larger sizes -/
def run : Nat → Nat → List Nat → Nat
  | m, _, [] => m
  | m, s, l :: r => run (1 + m ^ (l / s)) l r
/-- the last size -/
def top : Nat → List Nat → Nat
  | s, [] => s
  | _, l :: r => top l r
/-- each size is a multiple (twofold or more) of the one before -/
def Up : Nat → List Nat → Prop
  | _, [] => True
  | s, l :: r => (∃ q, 2 ≤ q ∧ l = s * q) ∧ Up l r

theorem run_snoc : ∀ (r : List Nat) (m s x : Nat), run m s (r ++ [x]) = 1 + run m s r ^ (x / top s r)
  | [], _, _, _ => rfl
  | l :: r, m, s, x => run_snoc r (1 + m ^ (l / s)) l x
theorem top_snoc : ∀ (r : List Nat) (s x : Nat), top s (r ++ [x]) = x
  | [], _, _ => rfl
  | l :: r, _, x => top_snoc r l x
theorem Up.snoc : ∀ {r : List Nat} {s q : Nat}, Up s r → 2 ≤ q → Up s (r ++ [top s r * q])
  | [], _, q, _, hq => ⟨⟨q, hq, rfl⟩, trivial⟩
  | _ :: _, _, _, h, hq => ⟨h.1, Up.snoc h.2 hq⟩
theorem Up.left : ∀ {a b : List Nat} {s : Nat}, Up s (a ++ b) → Up s a
  | [], _, _, _ => trivial
  | _ :: _, _, _, h => ⟨h.1, Up.left h.2⟩
theorem Up.take {r : List Nat} {s : Nat} (h : Up s r) (i : Nat) : Up s (r.take i) := by
  rw [← List.take_append_drop i r] at h
  exact h.left
theorem Up.pos : ∀ {r : List Nat} {s : Nat}, 1 ≤ s → Up s r → ∀ x ∈ r, 1 ≤ x
  | l :: r, s, hs, ⟨⟨q, hq, e⟩, h⟩, x, hx => by
    have hl : 1 ≤ l := by
      rw [e]
      exact Nat.mul_pos hs (by omega)
    cases hx with
    | head => exact hl
    | tail _ hx => exact Up.pos hl h x hx
theorem Up.top_pos : ∀ {r : List Nat} {s : Nat}, 1 ≤ s → Up s r → 1 ≤ top s r
  | [], _, hs, _ => hs
  | l :: r, s, hs, ⟨⟨q, hq, e⟩, h⟩ => Up.top_pos (r := r) (s := l) (by
    rw [e]
    exact Nat.mul_pos hs (by omega)) h
theorem Up.le_top : ∀ {r : List Nat} {s : Nat}, Up s r → s ≤ top s r
  | [], _, _ => Nat.le_refl _
  | l :: r, s, ⟨⟨q, hq, e⟩, h⟩ => by
    refine Nat.le_trans (m := l) ?_ (Up.le_top h)
    rw [e]
    exact Nat.le_mul_of_pos_right s (by omega)
theorem Up.mem_top : ∀ {r : List Nat} {s : Nat}, Up s r → ∀ x ∈ r, x ≤ top s r
  | l :: r, s, ⟨_, h⟩, x, hx => by
    cases hx with
    | head => exact h.le_top
    | tail _ hx => exact Up.mem_top h x hx
/-- a chain of at least n + 1 sizes from s on ends at s * 2 ^ n or beyond -/
theorem Up.long : ∀ {r : List Nat} {s : Nat}, 1 ≤ s → Up s r → 2 ^ r.length ≤ top s r
  | [], _, hs, _ => hs
  | l :: r, s, hs, ⟨⟨q, hq, e⟩, h⟩ => by
    have key : ∀ (r : List Nat) (s : Nat), Up s r → s * 2 ^ r.length ≤ top s r := by
      intro r
      induction r with
      | nil => intro s _; exact Nat.le_of_eq (Nat.mul_one s)
      | cons l r ih =>
        intro s h
        obtain ⟨⟨q, hq, e⟩, h⟩ := h
        refine Nat.le_trans ?_ (ih l h)
        rw [List.length_cons, Nat.pow_succ, e, Nat.mul_comm (2 ^ r.length) 2, ← Nat.mul_assoc]
        exact Nat.mul_le_mul_right _ (Nat.mul_le_mul_left _ hq)
    have k := key (l :: r) s ⟨⟨q, hq, e⟩, h⟩
    exact Nat.le_trans (Nat.le_mul_of_pos_left _ hs) k

/-! ### how large the numbers become -/
theorem step_size {a : Nat} (ha : 1 ≤ a) : ∀ n : Nat, a ^ (n + 2) + 2 ≤ (a + 1) ^ (n + 2)
  | 0 => by
    have e1 : a ^ (0 + 2) = a * a := by rw [Nat.pow_succ, Nat.pow_succ, Nat.pow_zero, Nat.one_mul]
    have e2 : (a + 1) ^ (0 + 2) = (a + 1) * (a + 1) := by rw [Nat.pow_succ, Nat.pow_succ, Nat.pow_zero, Nat.one_mul]
    have e3 : (a + 1) * (a + 1) = a * a + a + a + 1 := by
      rw [Nat.add_mul, Nat.mul_add, Nat.one_mul, Nat.mul_one]
      omega
    omega
  | n + 1 => by
    have ih := step_size ha n
    have h1 : (a ^ (n + 2) + 2) * (a + 1) ≤ (a + 1) ^ (n + 2) * (a + 1) := Nat.mul_le_mul_right _ ih
    have e1 : a ^ (n + 1 + 2) = a ^ (n + 2) * a := Nat.pow_succ ..
    have e2 : (a + 1) ^ (n + 1 + 2) = (a + 1) ^ (n + 2) * (a + 1) := Nat.pow_succ ..
    have e3 : (a ^ (n + 2) + 2) * (a + 1) = a ^ (n + 2) * a + a ^ (n + 2) + (a + a) + 2 := by
      rw [Nat.add_mul, Nat.mul_add, Nat.mul_add, Nat.mul_one]
      omega
    omega
theorem run_pos : ∀ (r : List Nat) (m s : Nat), 1 ≤ m → 1 ≤ run m s r
  | [], _, _, h => h
  | l :: r, m, s, _ => run_pos r (1 + m ^ (l / s)) l (by omega)
theorem run_size : ∀ {r : List Nat} {m s : Nat}, 1 ≤ s → 1 ≤ m → m + 1 ≤ 4 ^ s → Up s r → run m s r + 1 ≤ 4 ^ top s r
  | [], _, _, _, _, hb, _ => hb
  | l :: r, m, s, hs, hm, hb, ⟨⟨q, hq, e⟩, h⟩ => by
    have hl : 1 ≤ l := by
      rw [e]
      exact Nat.mul_pos hs (by omega)
    have eq : l / s = q := by
      rw [e]
      exact Nat.mul_div_cancel_left q hs
    refine run_size (r := r) (m := 1 + m ^ (l / s)) (s := l) hl (by omega) ?_ h
    rw [eq, e, Nat.pow_mul]
    obtain ⟨n, rfl⟩ : ∃ n, q = n + 2 := ⟨q - 2, by omega⟩
    have h1 := step_size hm n
    have h2 : (m + 1) ^ (n + 2) ≤ (4 ^ s) ^ (n + 2) := Nat.pow_le_pow_left hb _
    omega

/-- the sizes of a chain: 1 and what stands behind it -/
def one (r : List Nat) : Nat := run 2 1 r
theorem one_pos (r : List Nat) : 1 ≤ one r := run_pos r 2 1 (by decide)
theorem one_size {r : List Nat} (h : Up 1 r) : one r + 1 ≤ 4 ^ top 1 r := run_size (by decide) (by decide) (by decide) h
theorem four (n : Nat) : 4 ^ n = 2 ^ (2 * n) := by
  rw [Nat.pow_mul]
theorem one_lt {r : List Nat} (h : Up 1 r) : one r < 2 ^ (2 * top 1 r) := by
  have := one_size h
  rw [four] at this
  omega
theorem pow_lt {b n : Nat} (h : b < 2 ^ n) (e : Nat) : b ^ e < 2 ^ (n * e + 1) := by
  have h1 : b ^ e ≤ (2 ^ n) ^ e := Nat.pow_le_pow_left (Nat.le_of_lt h) e
  rw [← Nat.pow_mul] at h1
  refine Nat.lt_of_le_of_lt h1 ?_
  exact Nat.pow_lt_pow_right (show 1 < 2 by decide) (by omega)

/-! ### a size put between two neighbours adds states -/
theorem run_mono : ∀ (r : List Nat) {m m' : Nat} (s : Nat), m ≤ m' → run m s r ≤ run m' s r
  | [], _, _, _, h => h
  | l :: r, m, m', s, h => run_mono r l (Nat.add_le_add_left (Nat.pow_le_pow_left h _) 1)
theorem fewer_le {a b : Nat} {r : List Nat} (h : Up 1 (a :: b :: r)) : one (b :: r) ≤ one (a :: b :: r) := by
  obtain ⟨⟨q, hq, e⟩, ⟨q', hq', e'⟩, _⟩ := h
  show run (1 + 2 ^ (b / 1)) b r ≤ run (1 + (1 + 2 ^ (a / 1)) ^ (b / a)) b r
  refine run_mono r b (Nat.add_le_add_left ?_ 1)
  have ha : 1 ≤ a := by omega
  rw [Nat.div_one, Nat.div_one, e', Nat.mul_div_cancel_left q' ha, Nat.pow_mul]
  exact Nat.pow_le_pow_left (by omega) _
theorem fewer_up {a b : Nat} {r : List Nat} (h : Up 1 (a :: b :: r)) : Up 1 (b :: r) := by
  obtain ⟨⟨q, hq, e⟩, ⟨q', hq', e'⟩, h⟩ := h
  have h2 : 2 * 2 ≤ q * q' := Nat.mul_le_mul hq hq'
  refine ⟨⟨q * q', by omega, ?_⟩, h⟩
  rw [e', e, Nat.one_mul, Nat.one_mul]
theorem fewer_top {a b : Nat} {r : List Nat} : top 1 (b :: r) = top 1 (a :: b :: r) := rfl

/-! ### the law's own comparisons -/
theorem longer_one {r : List Nat} {q : Nat} (h : Up 1 r) : one (r ++ [top 1 r * q]) = one r ^ q + 1 := by
  unfold one
  rw [run_snoc, Nat.mul_div_cancel_left q (h.top_pos (by decide)), Nat.add_comm]
/-- the next size in the walk along a chain -/
theorem one_next {r : List Nat} {i x : Nat} (h : r[i]? = some x) : one (r.take (i + 1)) = 1 + one (r.take i) ^ (x / top 1 (r.take i)) := by
  unfold one
  rw [List.take_add_one, h]
  exact run_snoc (r.take i) 2 1 x
/-- the i-th size of 1 :: r is the last one of 1 and the first i of r -/
theorem top_at : ∀ (r : List Nat) (s i x : Nat), (s :: r)[i]? = some x → top s (r.take i) = x
  | _, _, 0, _, h => Option.some.inj h
  | [], _, i + 1, _, h => by simp at h
  | l :: r, _, i + 1, x, h => top_at r l i x (by simpa using h)
theorem next_up {r : List Nat} {s i x y : Nat} (h : Up s r) (hx : (s :: r)[i]? = some x) (hy : r[i]? = some y) : ∃ q, 2 ≤ q ∧ y = x * q := by
  induction r generalizing s i with
  | nil => simp at hy
  | cons l r ih =>
    cases i with
    | zero =>
      have e1 : s = x := Option.some.inj hx
      have e2 : l = y := Option.some.inj hy
      rw [← e1, ← e2]
      exact h.1
    | succ i => exact ih (s := l) (i := i) h.2 (by simpa using hx) (by simpa using hy)
end K9
/-! Rules of my own: a long text read as an int, repr of a long int, text * int, *= of great ints. -/
namespace K9
open PySem PySem.Spec PyProof.Rows L2

/-! ### the limit on digits stands as it was at the start -/
abbrev noSet (K : PySem.W.Frag) : Prop := PySem.W.nsIn K cStatics "sys.int_max_str_digits" = some none
theorem ns_none {K : PySem.W.Frag} {h : Heap} {a : Addr} {m : Str → Option Value} {x : Str} (k : K.In h) (n : h.Ns a m) (e : PySem.W.nsIn K a x = some none) : m x = none := by
  obtain ⟨ob, es, ep, h1, h2, _, h3⟩ := n
  rw [← h3]
  unfold PySem.W.nsIn at e
  split at e
  · rename_i q
    have z := k _ _ q
    rw [h1] at z
    cases z
    cases h2
    split at e
    · cases e
    · rename_i w
      unfold nsFind findBy
      rw [← Array.find?_toList, w]
      rfl
  · cases e
theorem nodig {X : Cx} {pins : List (Addr × Obj)} {σ : L2.St} {H : Hp} {s : Shared} (I : Inv X pins σ H s) (z : noSet X.K) : s.heap.NoDigits := by
  obtain ⟨mc, n, _⟩ := I.nolimit
  exact ⟨mc, n, ns_none I.kIn n z⟩

/-! ### int(text) beyond 640 digits -/
section
variable {s : Shared} {M : Model} {A : Around} {E : Value → Shared → Prop}
theorem wp_most {Q : Nat → Shared → Prop} (hn : s.heap.NoDigits) (h : Q 4300 s) : wpAny M A Builtin.intMaxStrDigits Q E s := by
  obtain ⟨mc, n, e⟩ := hn
  delta Builtin.intMaxStrDigits
  refine wpAny_bind (wpAny_nsGet n ?_)
  rw [e]
  exact wpAny_pure h
theorem wp_long {Q : Value → Shared → Prop} {v : Value} {text : List Nat} {n : Int} (hn : s.heap.NoDigits) (hs : ¬ (text.takeWhile (· != 0)).length ≤ 640)
    (hr : (int_private% "readNumeral") 4300 10 (text.takeWhile (· != 0)) = (int_private% "Numeral.value") n) (ha : ((text.takeWhile (· != 0)).length == text.length) = true)
    (h : Q (.int n s.toks) { s with toks := s.toks + 1 }) : wpAny M A ((int_private% "intFromText") v text 10) Q E s := by
  repeat (any_goals (first
    | assumption
    | (with_reducible refine wp_most hn ?_)
    | (with_reducible refine wpAny_ite_false (decide_eq_false hs) ?_)
    | with_reducible refine wpAny_ite_true (decide_eq_true ha) ?_
    | wp_step))
  all_goals (try rw [hr])
  all_goals (try dsimp only)
  repeat (any_goals (first
    | assumption
    | with_reducible refine wpAny_ite_true (decide_eq_true ha) ?_
    | wp_step))
end

/-- int(x), x a text of a number of at most 4300 digits, its places seen -/
theorem meets_long {x : Str} {u : Tok} {n : Int} (hl : ¬ (numSeenOf x).length ≤ 640) (hz : x.length ≤ sizeLine) (hn : intText? x = some n) :
    Meets (Builtin.«int.__new__» ⟨[.type "int", .str x u], []⟩) (fun _ R s => s.heap.NoDigits ∧ R (.ok (.ret (.int n s.toks))) { s with toks := s.toks + 1 }) :=
  .of_wp fun prog w A R s q => by
    obtain ⟨nd, q⟩ := q
    have f1 := F.conv_sub_int
    have f2 := F.madeHere_int
    have f3 := W.KIN.str_int
    have f4 := W.KIN.str_idx
    have f5 := W.KIN.str_trunc
    have f6 : typeOf (Value.str x u) = pure (Value.type "str") := rfl
    have hr : (int_private% "readNumeral") 4300 10 (numSeenOf x) = (int_private% "Numeral.value") n ∧ ((numSeenOf x).length == (numTextOf x).length) = true := by
      rcases read4300 x hz with ⟨m, h1, h2, h3⟩ | ⟨h1, _⟩
      · rw [hn] at h1
        cases h1
        exact ⟨h3, h2⟩
      · rw [hn] at h1
        cases h1
    have hk := W.KIN.Hid.mk (And.intro hl (And.intro hr nd))
    clear hl hr hn hz nd
    obtain ⟨hp, gn, dr, tk, os⟩ := s
    repeat (any_goals (first
      | assumption
      | ((with_reducible show wpAny _ _ ((int_private% "intFromText") _ _ _) _ _ _); refine wp_long hk.out.2.2 hk.out.1 hk.out.2.1.1 hk.out.2.1.2 ?_)
      | wp_step))
    all_goals first | exact ⟨_, rfl, q⟩ | skip

/-! ### the text '1' + '0' * n -/
theorem reps (c : Nat) : ∀ (n : Nat) (a : Array Nat), ((List.replicate n #[c]).foldl (· ++ ·) a).toList = a.toList ++ List.replicate n c
  | 0, a => (List.append_nil _).symm
  | n + 1, a => by
    rw [List.replicate_succ, List.foldl_cons, reps c n, Array.toList_append, List.append_assoc]
    rfl
theorem zeros_val : ∀ n a : Nat, (List.replicate n 48).foldl (fun acc c => acc * 10 + (c - 48)) a = a * 10 ^ n
  | 0, a => (Nat.mul_one a).symm
  | n + 1, a => by
    rw [List.replicate_succ, List.foldl_cons, zeros_val n, Nat.pow_succ, Nat.mul_comm (10 ^ n) 10, ← Nat.mul_assoc]
    rfl
/-- what is asked of the text: a one and n zeros -/
def Ten (x : Str) (n : Nat) : Prop := x.cps.toList = 49 :: List.replicate n 48
theorem Ten.len {x : Str} {n : Nat} (h : Ten x n) : x.length = n + 1 := by
  have e : x.length = x.cps.toList.length := Array.length_toList.symm
  rw [e, h, List.length_cons, List.length_replicate]
theorem Ten.digits {x : Str} {n : Nat} (h : Ten x n) : NumText.AllDigits x.cps.toList := by
  intro c hc
  rw [h] at hc
  rcases List.mem_cons.mp hc with z | hc
  · omega
  · have e := List.eq_of_mem_replicate hc
    omega
theorem Ten.num {x : Str} {n : Nat} (h : Ten x n) (hn : n ≤ 4000) : intText? x = some ((10 ^ n : Nat) : Int) := by
  rw [intText_digits h.digits (by rw [h]; exact List.cons_ne_nil _ _) (by rw [h.len]; omega), h]
  have e : NumText.digitsVal (49 :: List.replicate n 48) = 10 ^ n := (zeros_val n 1).trans (Nat.one_mul _)
  rw [e]
theorem Ten.seen {x : Str} {n : Nat} (h : Ten x n) : (numSeenOf x).length = n + 1 := by
  rw [(numText_signs fun c hc => Or.inr (h.digits c hc)).2, h, List.length_cons, List.length_replicate]

section
variable {X : Cx}
theorem call_ten (z : noSet X.K) : CallR X (.type "int") (fun xs H Q => ∃ (a : Str) (n : Nat), xs = [.str a] ∧ Ten a n ∧ 640 ≤ n ∧ n ≤ 4000 ∧ Q (.int ((10 ^ n : Nat) : Int)) H) := by
  intro pins s σ H xs us Q I rel h
  obtain ⟨a, n, rfl, ht, h1, h2, q⟩ := h
  obtain ⟨_, rfl, t, rfl⟩ := vals1 rel
  have hz : a.length ≤ sizeLine := by
    rw [ht.len, sizeLine_eq]
    omega
  refine call_int_1 (meets_long (n := ((10 ^ n : Nat) : Int)) (by rw [ht.seen]; omega) hz (ht.num h2)) ⟨nodig I z, ?_⟩
  exact ⟨rfl, .int _, H, I.tok _, ⟨_, rfl⟩, q⟩
/-- text * int -/
theorem op_mulS : OpR X (binaryOp .Mult) (fun x y H Q => ∃ (a : Str) (n : Int), x = .str a ∧ y = .int n ∧ MulOk a n ∧ Q (.str (Txt.mul a n)) H) := by
  intro pins s σ H x y v u Q I r1 r2 h
  obtain ⟨a, n, rfl, rfl, hm, q⟩ := h
  obtain ⟨t, rfl⟩ := r1
  obtain ⟨t', rfl⟩ := r2
  exact SB.mul hm fun t2 k => ⟨.str _, H, I.tok _, ⟨_, rfl⟩, q⟩
theorem ten_900 : Ten (("1" : Str) ++ Txt.mul ("0" : Str) 900) 900 := by
  have e : Txt.mul ("0" : Str) 900 = ⟨(List.replicate 900 #[48]).foldl (· ++ ·) #[]⟩ := by
    unfold Txt.mul
    rw [if_neg (by decide), if_neg (by decide)]
    rfl
  rw [e]
  have k := reps 48 900 #[]
  show (#[49] ++ (List.replicate 900 #[48]).foldl (· ++ ·) #[]).toList = _
  rw [Array.toList_append, k]
  rfl
/-- name *= e of great ints -/
theorem ip_mulW : PIp X .Mult (rI CMulW fun i j => .int (i * j)) := opI (f := inplaceOp .Mult) fun _ _ _ _ _ _ _ hc q => imul_int q hc.ok

/-! ### repr of an int below 10 ^ 4300 -/
theorem repr_long {prog : Program} {w : World} {A : Around} {E : Value → Shared → Prop} {s : Shared} {a : Int} {t : Tok} {Q : Value → Shared → Prop} (hh : A.handled = none) (hn : s.heap.NoDigits) (ha : a.natAbs < 10 ^ 4300)
    (h : Q (.str (toString a) s.toks) { s with toks := s.toks + 1 }) : wpAny (model prog w) A (call (.builtin "repr") [.int a t]) Q E s := by
  apply Calls.call_function_entry F.kind_repr F.plain_repr F.entry_repr (F.args_repr1 _)
  unfold Builtin.«repr»
  refine wpAny_bind (m := oneArg "repr" ⟨[.int a t], []⟩) (wpAny_pure ?_)
  have hv : [Value.int a t].any Value.onHeap = false := rfl
  simp only [hv, cRoomFor, if_false, Bool.false_eq_true, pure_bind]
  refine wpAny_bind (wpAny_specialOf (name := Str.ofString "__repr__") (typeIs_int s a t) F.slot_int_repr.lookup ?_)
  have shown := F.slot_int_repr
  refine wpAny_bind (wpAny_callSpecialIfBound?_slot (name := Str.ofString "__repr__") (typeIs_int s a t) shown
    (call_int_repr_or hh hn (fun _ => ?_) fun hge => absurd (Nat.lt_of_lt_of_le ha hge) (Nat.lt_irrefl _)))
  refine wpAny_bind (wpAny_isInstance (b := true) (T := "str") rfl isSubtype_str_str ?_)
  exact wpAny_pure ⟨_, rfl, h⟩
theorem call_reprW (hc : X.calm = true) (z : noSet X.K) : CallR X (.builtin "repr") (fun xs H Q => ∃ i : Int, xs = [.int i] ∧ i.natAbs < 10 ^ 4300 ∧ Q (.str (toString i)) H) := by
  intro pins s σ H xs us Q I rel h
  obtain ⟨i, rfl, hi, q⟩ := h
  obtain ⟨_, rfl, t, rfl⟩ := vals1 rel
  exact repr_long (I.ok.hd hc) (nodig I z) hi ⟨.str _, H, I.tok _, ⟨_, rfl⟩, q⟩
end
end K9
/-! The text by places; the promises of all defs. -/
namespace K9
open PySem PySem.Spec PyProof.Rows L2

def topS (i : Nat) : Stmt := PySem.Challenge.pw_pinnedheap_k09_whole_counts_of_states.main.body.getD i (.Pass ⟨0, 0, 0, 0⟩)
abbrev sPower : Stmt := topS 1
abbrev sCount : Stmt := topS 2
abbrev sPot : Stmt := topS 4
abbrev sTake : Stmt := topS 5
abbrev sOf : Stmt := topS 6
abbrev sLinks : Stmt := topS 7
abbrev sCounted : Stmt := topS 8
abbrev sLaw : Stmt := topS 9
theorem scPower : FnScope ["base", "exponent", "found", "turn"] ["base", "exponent"] (defScope sPower) := ⟨rfl, rfl, rfl, by decide +kernel, rfl, by decide +kernel, by decide +kernel⟩
theorem scCount : FnScope ["chain", "pages", "many", "size", "larger"] ["chain", "pages"] (defScope sCount) := ⟨rfl, rfl, rfl, by decide +kernel, rfl, by decide +kernel, by decide +kernel⟩
theorem scPot : FnScope ["_law_script", "_law_k", "_law_cell", "_law_great"] ["_law_script", "_law_k"] (defScope sPot) := ⟨rfl, rfl, rfl, by decide +kernel, rfl, by decide +kernel, by decide +kernel⟩
theorem scTake : FnScope ["_law_pot_here", "_law_upto", "_law_digit"] ["_law_pot_here", "_law_upto"] (defScope sTake) := ⟨rfl, rfl, rfl, by decide +kernel, rfl, by decide +kernel, by decide +kernel⟩
theorem scOf : FnScope ["_law_pot_here", "_law_some"] ["_law_pot_here", "_law_some"] (defScope sOf) := ⟨rfl, rfl, rfl, by decide +kernel, rfl, by decide +kernel, by decide +kernel⟩
theorem scLinks : FnScope ["_law_pot_here", "_law_most", "_law_found", "_law_turn", "_law_ratio"] ["_law_pot_here", "_law_most"] (defScope sLinks) := ⟨rfl, rfl, rfl, by decide +kernel, rfl, by decide +kernel, by decide +kernel⟩
theorem scCounted : FnScope ["_law_links_here", "_law_many", "_law_one", "_law_smaller", "_law_size", "_law_product", "_law_turn", "_law_found"] ["_law_links_here", "_law_many"] (defScope sCounted) := ⟨rfl, rfl, rfl, by decide +kernel, rfl, by decide +kernel, by decide +kernel⟩
theorem scLaw : FnScope ["_law_script", "_law_k", "_law_pot_here", "_law_turn", "_law_links_here", "_law_many", "_law_found", "_law_ratio", "_law_longer_links", "_law_fewer"] ["_law_script"] (defScope sLaw) := ⟨rfl, rfl, rfl, by decide +kernel, rfl, by decide +kernel, by decide +kernel⟩

/-! ### words about values and heaps -/
/-- a number that is not negative, as a value; a chain 1 :: r, as values -/
abbrev nv (n : Nat) : V := .int (n : Int)
def ch (r : List Nat) : List V := (1 :: r).map nv
theorem ch_cons (r : List Nat) : ch r = nv 1 :: r.map nv := rfl
theorem ch_len (r : List Nat) : (ch r).length = r.length + 1 := by
  unfold ch
  rw [List.length_map, List.length_cons]
theorem ch_at {r : List Nat} {i x : Nat} (h : (1 :: r)[i]? = some x) : (ch r)[i]? = some (nv x) := by
  unfold ch
  rw [List.getElem?_map, h]
  rfl
theorem ch_snoc (r : List Nat) (x : Nat) : ch r ++ [nv x] = ch (r ++ [x]) := by
  unfold ch
  rw [← List.map_singleton, ← List.map_append]
  rfl
theorem ch_last (r : List Nat) : atI (ch r) (-1) = some (nv (top 1 r)) := by
  rcases List.eq_nil_or_concat r with rfl | ⟨l, x, rfl⟩
  · exact atI_last [] (nv 1)
  · rw [List.concat_eq_append, ← ch_snoc, top_snoc]
    exact atI_last _ _
theorem same_new {H : Hp} {p : Addr} {o : HO} (h : H p = none) : Same H (upd H p o) := fun b x e => by
  rw [upd_ne (ne_of_none e h)]
  exact e
theorem Same.tup {K : PySem.W.Frag} {H H' : Hp} {a : Addr} {xs : List V} (e : Same H H') (h : SqT K H a xs) : SqT K H' a xs :=
  h.elim (fun z => .inl (z.elim (fun q => .inl (e _ _ q)) fun ⟨o, q⟩ => .inr ⟨o, e _ _ q⟩)) .inr
/-- all that was tracked is as it was, but what stands at p -/
def But (p : Addr) (H H' : Hp) : Prop := ∀ b o, b ≠ p → H b = some o → H' b = some o
theorem But.refl (p : Addr) (H : Hp) : But p H H := fun _ _ _ h => h
theorem But.trans {p : Addr} {H H1 H2 : Hp} (a : But p H H1) (b : But p H1 H2) : But p H H2 := fun c o n h => b c o n (a c o n h)
theorem But.of {p : Addr} {H H' : Hp} (a : Same H H') : But p H H' := fun c o _ h => a c o h
theorem But.put (p : Addr) (H : Hp) (o : HO) : But p H (upd H p o) := fun b x n h => by
  rw [upd_ne n]
  exact h
/-- behind the making of p all stands that stood ahead of it -/
theorem But.same {p : Addr} {H0 H H' : Hp} (a : Same H0 H) (n : H0 p = none) (b : But p H H') : Same H0 H' := fun c o h => b c o (ne_of_none h n) (a c o h)
/-- a new object of one's own is changed -/
theorem But.own {p l : Addr} {H H' : Hp} {o : HO} (b : But p H H') (n : H l = none) : But p H (upd H' l o) := fun c x nc h => by
  rw [upd_ne (ne_of_none h n)]
  exact b c x nc h
theorem But.free {p t : Addr} {H H' : Hp} (b : But p H H') (n : H' t = none) (np : t ≠ p) : H t = none := by
  cases e : H t with
  | none => rfl
  | some o =>
    rw [b t o np e] at n
    cases n
/-- a pot: a list of two numbers -/
abbrev pot (g s : Int) : HO := .lst [.int g, .int s]
theorem pot_ne_tup {H : Hp} {p t : Addr} {g s : Int} {xs : List V} (h : H p = some (pot g s)) (h' : H t = some (.tup xs)) : t ≠ p := ne_of h' h fun e => by cases e

/-! ### the promises -/
def spPower : Sp := fun vs H Q _ => ∃ b e n : Nat, vs = [nv b, nv e] ∧ b < 2 ^ n ∧ 1 ≤ n ∧ e ≤ 100000 ∧ n * (e + 1) ≤ 900000 ∧ Q (nv (b ^ e)) H
/-- count_states, _law_counted -/
def spCount (K : PySem.W.Frag) : Sp := fun vs H Q _ => ∃ (a : Addr) (r : List Nat) (p : Nat), vs = [.ref a, nv p] ∧ SqT K H a (ch r) ∧ Up 1 r ∧ top 1 r ≤ 1000 ∧ p ≤ 2000 ∧ top 1 r * p ≤ 2000 ∧
  ∀ H', Same H H' → Q (nv (one r ^ p)) H'
def spPot (K : PySem.W.Frag) : Sp := fun vs H Q _ => ∃ (a : Addr) (ns : List Int) (k : Nat), vs = [.ref a, nv k] ∧ SqL K H a (ns.map V.int) ∧ k ≤ 1000 ∧
  ∀ (p : Addr) (g s : Int), H p = none → Q (.ref p) (upd H p (pot g s))
def spTake : Sp := fun vs H Q _ => ∃ (p : Addr) (g s u : Int), vs = [.ref p, .int u] ∧ H p = some (pot g s) ∧ 0 < u ∧ u < 1073741824 ∧
  ∀ d g' s' : Int, 0 ≤ d → d < u → Q (.int d) (upd H p (pot g' s'))
def spOf : Sp := fun vs H Q _ => ∃ (p b : Addr) (g s : Int) (ns : List Int), vs = [.ref p, .ref b] ∧ H p = some (pot g s) ∧ H b = some (.lst (ns.map V.int)) ∧ b ≠ p ∧ ns ≠ [] ∧ ns.length ≤ 1000 ∧
  ∀ x g' s' : Int, x ∈ ns → Q (.int x) (upd H p (pot g' s'))
def spLinks : Sp := fun vs H Q _ => ∃ (p : Addr) (g s : Int) (M : Nat), vs = [.ref p, nv M] ∧ H p = some (pot g s) ∧ 1 ≤ M ∧ M ≤ 1000 ∧
  ∀ (H' : Hp) (t : Addr) (r : List Nat) (g' s' : Int), But p H H' → H' p = some (pot g' s') → H t = none → H' t = some (.tup (ch r)) → Up 1 r → top 1 r ≤ M → Q (.ref t) H'
def spLaw (K : PySem.W.Frag) : Sp := fun vs H Q _ => ∃ (a : Addr) (ns : List Int), vs = [.ref a] ∧ SqL K H a (ns.map V.int) ∧ ns.length ≤ 63 ∧ ∀ H', Q (.bl true) H'

/-- a def that keeps its promise, as its callers want it -/
structure At (P : Program) (w : World) (K : PySem.W.Frag) (mg : Str → Option Value) (base : Heap) (k : Nat) (x : Str) (ps : List Str) (sp : Sp) (f : Addr) (fd : FuncData) : Prop where
  ok : FnOk P w K mg base CX0 k f fd ps sp
  kp : (PySem.W.keepIn K (.ref f)) = true
  b : Binds K fd ps []
  g : mg x = some (.ref f)
end K9
namespace K9
open PySem PySem.Spec PyProof.Rows L2
section
variable {P : Program} {w : World} {K : PySem.W.Frag} {mg : Str → Option Value} {base : Heap}

theorem pow_mul_cast (b i : Nat) : ((b ^ i : Nat) : Int) * (b : Int) = ((b ^ (i + 1) : Nat) : Int) := by
  rw [Nat.pow_succ, Int.natCast_mul]
theorem pow_wide {b n e i : Nat} (hb : b < 2 ^ n) (hn : 1 ≤ n) (hi : i < e) (h : n * (e + 1) ≤ 900000) : CMulW ((b ^ i : Nat) : Int) (b : Int) := by
  have h1 : b ^ i < 2 ^ (n * i + 1) := pow_lt hb i
  have h2 : n * (i + 1) ≤ n * (e + 1) := Nat.mul_le_mul_left n (by omega)
  have h3 : n * (i + 1) = n * i + n := Nat.mul_succ n i
  exact wide_mul (a := n * i + 1) (b := n) (show ((b ^ i : Nat) : Int).natAbs < _ from h1) (show ((b : Nat) : Int).natAbs < _ from hb) (by omega) (by omega) (by omega)

theorem ok_power {f : Addr} {fd : FuncData} {k : Nat} (F : Fun K "power" "power" sPower f fd) (mr : mg "range" = none) : FnOk P w K mg base CX0 (k + 1) f fd ["base", "exponent"] spPower := by
  refine F.ok scPower (fun vs H Q E h => ?_) (fun cdv A outer s H vs Q E hr h => ?_)
  · obtain ⟨b, e, n, rfl, _⟩ := h
    rfl
  · obtain ⟨b, e, n, rfl, hb, hn, he, hs, q⟩ := h
    refine ⟨_, pss_cons (ps_set (i := 2) scPower.nd rfl (.inl rfl) pe_int)
      (pss_cons (ps_for PassesOwn.never rfl (pi_range1 (by rfl) mr (pa_cons (pv 1) pa_nil)) (pg_name (i := 3) scPower.nd rfl (.inl rfl))
        (pss_one (ps_aug (i := 2) scPower.nd rfl (.inl rfl) (pv 0) ip_mulW)))
      (pss_one (ps_ret (pv 2)))), ?_⟩
    refine ⟨nv e, rfl, (e : Int), rfl, by omega, by omega, for_range (lo := 0) (n := e) (fun i σ H' => ∃ y, σ = [some (nv b), some (nv e), some (nv (b ^ i)), y] ∧ H' = H) ⟨none, rfl, rfl⟩ ?_ ?_⟩
    · rintro i σ H' hi ⟨y, rfl, rfl⟩
      refine ⟨_, rfl, nv b, rfl, ((b ^ i : Nat) : Int), (b : Int), rfl, rfl, pow_wide hb hn hi hs, ?_⟩
      exact ⟨some (.int (0 + (i : Int))), congrArg (fun z => [some (nv b), some (nv e), some (V.int z), some (V.int (0 + (i : Int)))]) (pow_mul_cast b i), rfl⟩
    · rintro σ H' ⟨y, rfl, rfl⟩
      exact ⟨_, rfl, q⟩
end
end K9
namespace K9
open PySem PySem.Spec PyProof.Rows L2

theorem cut1 (xs : List V) : cutV xs (some 1) none = xs.drop 1 := by
  unfold cutV
  rw [show HT.sIx xs.length 0 (some 1) = min 1 xs.length from HT.sIx_nat xs.length 0 1, HT.sIx_none]
  cases xs with
  | nil => rfl
  | cons x r =>
    rw [show min 1 (x :: r).length = 1 by
      rw [List.length_cons]
      omega]
    show (List.take ((x :: r).length - 1) r) = r
    rw [List.length_cons, Nat.add_sub_cancel]
    exact List.take_length
theorem cut_ch (r : List Nat) : cutV (ch r) (some 1) none = r.map nv := cut1 (ch r)
theorem tail_part (r : List Nat) : ¬ (HT.sIx (ch r).length 0 (some 1) = 0 ∧ HT.sIx (ch r).length (ch r).length none = (ch r).length) := by
  rw [show HT.sIx (ch r).length 0 (some 1) = min 1 (ch r).length from HT.sIx_nat (ch r).length 0 1, ch_len]
  omega

/-! ### what holds along the walk -/
structure Along (r : List Nat) (i x y : Nat) : Prop where
  here : top 1 (r.take i) = x
  pos : 1 ≤ x
  div : ∃ q, 2 ≤ q ∧ y = x * q ∧ y / x = q
  next : one (r.take (i + 1)) = 1 + one (r.take i) ^ (y / x)
  lt : one (r.take i) < 2 ^ (2 * x)
  le : y ≤ top 1 r
theorem along {r : List Nat} {i x y : Nat} (h : Up 1 r) (hx : (1 :: r)[i]? = some x) (hy : r[i]? = some y) : Along r i x y := by
  have e := top_at r 1 i x hx
  have hp : 1 ≤ x := by
    rw [← e]
    exact (h.take i).top_pos (by decide)
  obtain ⟨q, hq, ey⟩ := next_up h hx hy
  have ed : y / x = q := by
    rw [ey]
    exact Nat.mul_div_cancel_left q hp
  have hn := one_next hy
  rw [e] at hn
  have hl := one_lt (h.take i)
  rw [e] at hl
  exact ⟨e, hp, ⟨q, hq, ey, ed⟩, hn, hl, h.mem_top y (List.mem_of_getElem? hy)⟩
theorem Along.room {r : List Nat} {i x y : Nat} (A : Along r i x y) (ht : top 1 r ≤ 1000) : x ≤ 1000 ∧ y / x ≤ 1000 ∧ 2 * x * (y / x + 1) ≤ 4000 := by
  obtain ⟨q, hq, ey, ed⟩ := A.div
  have hl := A.le
  have h1 : x * 1 ≤ x * q := Nat.mul_le_mul_left x (by omega)
  have h2 : 1 * q ≤ x * q := Nat.mul_le_mul_right q A.pos
  have e : 2 * x * (q + 1) = 2 * (x * q) + 2 * x := by
    rw [Nat.mul_add, Nat.mul_one, Nat.mul_assoc]
  rw [ed, e]
  omega
theorem end_room {t p : Nat} (h1 : 1 ≤ t) (ht : t ≤ 1000) (hp : t * p ≤ 2000) : 2 * t * (p + 1) ≤ 6000 := by
  have e : 2 * t * (p + 1) = 2 * (t * p) + 2 * t := by
    rw [Nat.mul_add, Nat.mul_one, Nat.mul_assoc]
  omega

section
variable {P : Program} {w : World} {K : PySem.W.Frag} {mg : Str → Option Value} {base : Heap}
theorem ok_count {f fP : Addr} {fd fdP : FuncData} (F : Fun K "count_states" "count_states" sCount f fd) (G : At P w K mg base 1 "power" ["base", "exponent"] spPower fP fdP) (mz : mg "zip" = none) :
    FnOk P w K mg base CX0 2 f fd ["chain", "pages"] (spCount K) := by
  refine F.ok scCount (fun vs H Q E h => ?_) (fun cdv A outer s H vs Q E hr h => ?_)
  · obtain ⟨a, r, p, rfl, _⟩ := h
    rfl
  · obtain ⟨a, r, p, rfl, hS, hu, ht, hp, htp, q⟩ := h
    refine ⟨_, pss_cons (ps_set (i := 2) scCount.nd rfl (.inl rfl) pe_int)
      (pss_cons (ps_for PassesOwn.never rfl (RZ.pi_zipA (by rfl) mz (pa_cons (pv 0) (pa_cons (pe_slice sl_tup (pv 0) (po_some pe_int) po_none) pa_nil)))
          (pg_tup rfl (pgs_cons (pg_name (i := 3) scCount.nd rfl (.inl rfl)) (pgs_cons (pg_name (i := 4) scCount.nd rfl (.inl rfl)) pgs_nil)))
        (pss_one (ps_set (i := 2) scCount.nd rfl (.inl rfl) (pe_op op_add pe_int (pe_call G.ok hr (by rfl) G.g G.kp G.b .nil pass0 (pa_cons (pv 2) (pa_cons (pe_op op_fdiv (pv 4) (pv 3)) pa_nil)))))))
      (pss_one (ps_ret (pe_call G.ok hr (by rfl) G.g G.kp G.b .nil pass0 (pa_cons (pv 2) (pa_cons (pv 1) pa_nil)))))), ?_⟩
    -- zip(chain, chain[1:])
    refine ⟨.ref a, rfl, .ref a, rfl, 1, rfl, a, ch r, rfl, hS, tail_part r, fun c nc => ?_⟩
    rw [cut_ch]
    have s1 : Same H (upd H c (.tup (r.map nv))) := same_new nc
    refine ⟨a, c, ch r, r.map nv, rfl, .inr ⟨Same.tup s1 hS, .inl (.inl upd_same), ?_⟩⟩
    refine ⟨fun i m σ H3 => ∃ y3 y4, σ = [some (.ref a), some (nv p), some (nv (one (r.take i))), y3, y4] ∧ i + m = r.length ∧ Same H H3 ∧ H3 c = some (.tup (r.map nv)),
      ⟨r.length, none, none, rfl, by omega, s1, upd_same⟩, fun i m σ H3 hW => ?_⟩
    obtain ⟨y3, y4, rfl, em, sm, ec⟩ := hW
    have hA : SqT K H3 a (ch r) := Same.tup sm hS
    have hC : SqT K H3 c (r.map nv) := .inl (.inl ec)
    by_cases hi : i < r.length
    · obtain ⟨x, g1⟩ : ∃ x, (1 :: r)[i]? = some x := ⟨_, List.getElem?_eq_getElem (by rw [List.length_cons]; omega)⟩
      obtain ⟨y, g2⟩ : ∃ y, r[i]? = some y := ⟨_, List.getElem?_eq_getElem hi⟩
      have v1 : (ch r)[i]? = some (nv x) := ch_at g1
      have v2 : (r.map nv)[i]? = some (nv y) := by
        rw [List.getElem?_map, g2]
        rfl
      have L := along hu g1 g2
      refine .inr ⟨⟨_, _, _, _, hA, hC, v1, v2⟩, fun σ' H' => ∃ y3 y4, σ' = [some (.ref a), some (nv p), some (nv (one (r.take (i + 1)))), y3, y4] ∧ Same H H' ∧ H' c = some (.tup (r.map nv)), fun σ' H' hN => ?_, fun v H' hy => ?_⟩
      · obtain ⟨z3, z4, e, sm', ec'⟩ := hN
        exact ⟨m - 1, by omega, z3, z4, e, by omega, sm', ec'⟩
      · obtain ⟨T, x1, x2, rfl, nT, rfl, f1, f2⟩ := hy
        have ex1 : x1 = nv x := Option.some.inj ((f1 _ hA).symm.trans v1)
        have ex2 : x2 = nv y := Option.some.inj ((f2 _ hC).symm.trans v2)
        subst ex1 ex2
        have nTc : c ≠ T := ne_of_none ec nT
        have smT : Same H3 (upd H3 T (.tup [nv x, nv y])) := same_new nT
        refine ⟨T, [nv x, nv y], rfl, .inl (.inl upd_same), rfl, nv x, [nv y], rfl, nv y, [], rfl, rfl, ?_⟩
        obtain ⟨r1, r2, r3⟩ := L.room ht
        have hp1 := L.pos
        -- many = 1 + power(many, larger // size)
        refine ⟨nv (one (r.take i)), rfl, nv y, rfl, nv x, rfl, (y : Int), (x : Int), rfl, rfl, ⟨by omega, by omega⟩, one (r.take i), y / x, 2 * x, rfl, L.lt, by omega, by omega, by omega, ?_⟩
        refine ⟨1, ((one (r.take i) ^ (y / x) : Nat) : Int), rfl, rfl, ?_⟩
        refine ⟨some (nv x), some (nv y), ?_, sm.trans smT, smT _ _ ec⟩
        rw [L.next]
        rfl
    · refine .inl ⟨⟨_, _, hA, hC, .inr ?_⟩, ?_⟩
      · rw [List.length_map]
        omega
      · have ei : r.take i = r := List.take_of_length_le (by omega)
        rw [ei]
        have t1 := hu.top_pos (by decide)
        have t2 := end_room t1 ht htp
        exact ⟨nv (one r), rfl, nv p, rfl, one r, p, 2 * top 1 r, rfl, one_lt hu, by omega, by omega, by omega, q H3 sm⟩
end
end K9
namespace K9
open PySem PySem.Spec PyProof.Rows L2
section
variable {P : Program} {w : World} {K : PySem.W.Frag} {mg : Str → Option Value} {base : Heap}
theorem ok_counted {f : Addr} {fd : FuncData} {k : Nat} (F : Fun K "_law_counted" "_law_counted" sCounted f fd) (mr : mg "range" = none) (mz : mg "zip" = none) :
    FnOk P w K mg base CX0 (k + 1) f fd ["_law_links_here", "_law_many"] (spCount K) := by
  refine F.ok scCounted (fun vs H Q E h => ?_) (fun cdv A outer s H vs Q E hr h => ?_)
  · obtain ⟨a, r, p, rfl, _⟩ := h
    rfl
  · obtain ⟨a, r, p, rfl, hS, hu, ht, hp, htp, q⟩ := h
    refine ⟨_, pss_cons (ps_set (i := 2) scCounted.nd rfl (.inl rfl) pe_int)
      (pss_cons (ps_for PassesOwn.never rfl (RZ.pi_zipA (by rfl) mz (pa_cons (pv 0) (pa_cons (pe_slice sl_tup (pv 0) (po_some pe_int) po_none) pa_nil)))
          (pg_tup rfl (pgs_cons (pg_name (i := 3) scCounted.nd rfl (.inl rfl)) (pgs_cons (pg_name (i := 4) scCounted.nd rfl (.inl rfl)) pgs_nil)))
        (pss_cons (ps_set (i := 5) scCounted.nd rfl (.inl rfl) pe_int)
        (pss_cons (ps_for PassesOwn.never rfl (pi_range1 (by rfl) mr (pa_cons (pe_op op_fdiv (pv 4) (pv 3)) pa_nil)) (pg_name (i := 6) scCounted.nd rfl (.inl rfl))
          (pss_one (ps_set (i := 5) scCounted.nd rfl (.inl rfl) (pe_op op_mulW (pv 5) (pv 2)))))
        (pss_one (ps_set (i := 2) scCounted.nd rfl (.inl rfl) (pe_op op_add (pv 5) pe_int))))))
      (pss_cons (ps_set (i := 7) scCounted.nd rfl (.inl rfl) pe_int)
      (pss_cons (ps_for PassesOwn.never rfl (pi_range1 (by rfl) mr (pa_cons (pv 1) pa_nil)) (pg_name (i := 6) scCounted.nd rfl (.inl rfl))
          (pss_one (ps_set (i := 7) scCounted.nd rfl (.inl rfl) (pe_op op_mulW (pv 7) (pv 2)))))
      (pss_one (ps_ret (pv 7)))))), ?_⟩
    -- zip(links, links[1:])
    refine ⟨.ref a, rfl, .ref a, rfl, 1, rfl, a, ch r, rfl, hS, tail_part r, fun c nc => ?_⟩
    rw [cut_ch]
    have s1 : Same H (upd H c (.tup (r.map nv))) := same_new nc
    refine ⟨a, c, ch r, r.map nv, rfl, .inr ⟨Same.tup s1 hS, .inl (.inl upd_same), ?_⟩⟩
    refine ⟨fun i m σ H3 => ∃ y3 y4 y5 y6 y7, σ = [some (.ref a), some (nv p), some (nv (one (r.take i))), y3, y4, y5, y6, y7] ∧ i + m = r.length ∧ Same H H3 ∧ H3 c = some (.tup (r.map nv)),
      ⟨r.length, none, none, none, none, none, rfl, by omega, s1, upd_same⟩, fun i m σ H3 hW => ?_⟩
    obtain ⟨y3, y4, y5, y6, y7, rfl, em, sm, ec⟩ := hW
    have hA : SqT K H3 a (ch r) := Same.tup sm hS
    have hC : SqT K H3 c (r.map nv) := .inl (.inl ec)
    by_cases hi : i < r.length
    · obtain ⟨x, g1⟩ : ∃ x, (1 :: r)[i]? = some x := ⟨_, List.getElem?_eq_getElem (by rw [List.length_cons]; omega)⟩
      obtain ⟨y, g2⟩ : ∃ y, r[i]? = some y := ⟨_, List.getElem?_eq_getElem hi⟩
      have v1 : (ch r)[i]? = some (nv x) := ch_at g1
      have v2 : (r.map nv)[i]? = some (nv y) := by
        rw [List.getElem?_map, g2]
        rfl
      have L := along hu g1 g2
      refine .inr ⟨⟨_, _, _, _, hA, hC, v1, v2⟩, fun σ' H' => ∃ y3 y4 y5 y6 y7, σ' = [some (.ref a), some (nv p), some (nv (one (r.take (i + 1)))), y3, y4, y5, y6, y7] ∧ Same H H' ∧ H' c = some (.tup (r.map nv)), fun σ' H' hN => ?_, fun v H' hy => ?_⟩
      · obtain ⟨z3, z4, z5, z6, z7, e, sm', ec'⟩ := hN
        exact ⟨m - 1, by omega, z3, z4, z5, z6, z7, e, by omega, sm', ec'⟩
      · obtain ⟨T, x1, x2, rfl, nT, rfl, f1, f2⟩ := hy
        have ex1 : x1 = nv x := Option.some.inj ((f1 _ hA).symm.trans v1)
        have ex2 : x2 = nv y := Option.some.inj ((f2 _ hC).symm.trans v2)
        subst ex1 ex2
        have nTc : c ≠ T := ne_of_none ec nT
        have smT : Same H3 (upd H3 T (.tup [nv x, nv y])) := same_new nT
        refine ⟨T, [nv x, nv y], rfl, .inl (.inl upd_same), rfl, nv x, [nv y], rfl, nv y, [], rfl, rfl, ?_⟩
        obtain ⟨r1, r2, r3⟩ := L.room ht
        have hp1 := L.pos
        have jb : -(2 ^ 62) ≤ ((y / x : Nat) : Int) ∧ ((y / x : Nat) : Int) < 2 ^ 62 := by
          generalize y / x = z at r2 ⊢
          omega
        -- for turn in range(size // smaller)
        refine ⟨nv y, rfl, nv x, rfl, (y : Int), (x : Int), rfl, rfl, ⟨by omega, by omega⟩, ((y / x : Nat) : Int), rfl, jb.1, jb.2,
          for_range (lo := 0) (n := y / x) (fun j σ' H' => ∃ y6, σ' = [some (.ref a), some (nv p), some (nv (one (r.take i))), some (nv x), some (nv y), some (nv (one (r.take i) ^ j)), y6, y7] ∧ H' = upd H3 T (.tup [nv x, nv y])) ⟨y6, rfl, rfl⟩ ?_ ?_⟩
        · rintro j σ' H' hj ⟨y6, rfl, rfl⟩
          refine ⟨_, rfl, _, rfl, ((one (r.take i) ^ j : Nat) : Int), ((one (r.take i) : Nat) : Int), rfl, rfl, pow_wide L.lt (by omega) hj (by omega), ?_⟩
          exact ⟨some (.int (0 + (j : Int))), congrArg (fun z => [some (.ref a), some (nv p), some (nv (one (r.take i))), some (nv x), some (nv y), some (V.int z), some (V.int (0 + (j : Int))), y7]) (pow_mul_cast (one (r.take i)) j), rfl⟩
        · rintro σ' H' ⟨y6, rfl, rfl⟩
          refine ⟨_, rfl, ((one (r.take i) ^ (y / x) : Nat) : Int), 1, rfl, rfl, ?_⟩
          refine ⟨some (nv x), some (nv y), some (nv (one (r.take i) ^ (y / x))), y6, y7, ?_, sm.trans smT, smT _ _ ec⟩
          rw [L.next, Nat.add_comm]
          rfl
    · refine .inl ⟨⟨_, _, hA, hC, .inr ?_⟩, ?_⟩
      · rw [List.length_map]
        omega
      · have ei : r.take i = r := List.take_of_length_le (by omega)
        rw [ei]
        have t1 := hu.top_pos (by decide)
        have t2 := end_room t1 ht htp
        -- for turn in range(many)
        refine ⟨nv p, rfl, (p : Int), rfl, by omega, by omega,
          for_range (lo := 0) (n := p) (fun j σ' H' => ∃ y6, σ' = [some (.ref a), some (nv p), some (nv (one r)), y3, y4, y5, y6, some (nv (one r ^ j))] ∧ H' = H3) ⟨y6, rfl, rfl⟩ ?_ ?_⟩
        · rintro j σ' H' hj ⟨y6, rfl, rfl⟩
          refine ⟨_, rfl, _, rfl, ((one r ^ j : Nat) : Int), ((one r : Nat) : Int), rfl, rfl, pow_wide (one_lt hu) (by omega) hj (by omega), ?_⟩
          exact ⟨some (.int (0 + (j : Int))), congrArg (fun z => [some (.ref a), some (nv p), some (nv (one r)), y3, y4, y5, some (V.int (0 + (j : Int))), some (V.int z)]) (pow_mul_cast (one r) j), rfl⟩
        · rintro σ' H' ⟨y6, rfl, rfl⟩
          exact ⟨_, rfl, q H' sm⟩
end
end K9
namespace K9
open PySem PySem.Spec PyProof.Rows L2

/-- a rest by 65537, and 3: a small factor -/
theorem small_rest (s : Int) : CMul (s / 65537) (s % 65537 + 3) := by
  refine .inr ⟨?_, ?_⟩ <;> omega
theorem mul_left {c : Int} (i : Int) (h : -(2 ^ 64) < c ∧ c < 2 ^ 64) : CMul c i := .inl h
theorem mul_right {c : Int} (i : Int) (h : -(2 ^ 64) < c ∧ c < 2 ^ 64) : CMul i c := .inr h
/-- the seed's next value -/
def turned (z : Int) : Int := (z * 1181783497276652981 + 12345678910987) % 2305843009213693951
section
variable {P : Program} {w : World} {K : PySem.W.Frag} {mg : Str → Option Value} {base : Heap}

theorem ok_take {f : Addr} {fd : FuncData} {k : Nat} (F : Fun K "_law_take" "_law_take" sTake f fd) : FnOk P w K mg base CX0 (k + 1) f fd ["_law_pot_here", "_law_upto"] spTake := by
  refine F.ok scTake (fun vs H Q E h => ?_) (fun cdv A outer s H vs Q E hr h => ?_)
  · obtain ⟨p, g, s, u, rfl, _⟩ := h
    rfl
  · obtain ⟨p, g, z, u, rfl, hP, h0, h1, q⟩ := h
    refine ⟨_, pss_cons (ps_if (pt_cmpR op_gt (pe_ix ix_list (pv 0) pe_int (fun _ _ => rfl)) pe_int (nomark _))
        (pss_cons (ps_set (i := 2) scTake.nd rfl (.inl rfl) (pe_op op_mod (pe_ix ix_list (pv 0) pe_int (fun _ _ => rfl)) (pv 1)))
        (pss_cons (ps_asg (pe_op op_fdiv (pe_ix ix_list (pv 0) pe_int (fun _ _ => rfl)) (pv 1)) (pg_sub (pv 0) pe_int set_list))
        (pss_one (ps_ret (pv 2))))) pss_nil)
      (pss_cons (ps_asg (pe_op op_mod (pe_op op_add (pe_op op_mul (pe_ix ix_list (pv 0) pe_int (fun _ _ => rfl)) pe_int) pe_int) pe_int) (pg_sub (pv 0) pe_int set_list))
      (pss_one (ps_ret (pe_op op_mod (pe_op op_fdiv (pe_op op_mod (pe_op op_mul (pe_op op_fdiv (pe_ix ix_list (pv 0) pe_int (fun _ _ => rfl)) pe_int)
        (pe_op op_add (pe_op op_mod (pe_ix ix_list (pv 0) pe_int (fun _ _ => rfl)) pe_int) pe_int)) pe_int) pe_int) (pv 1))))), ?_⟩
    have hL : SqL K H p [.int g, .int z] := .inl (.inl hP)
    refine ⟨.ref p, rfl, p, _, 0, .int g, rfl, rfl, hL, rfl, g, 0, rfl, rfl, _, rfl, ite2 (fun e => ?_) (fun e => ?_)⟩
    · refine ⟨.ref p, rfl, p, _, 0, .int g, rfl, rfl, hL, rfl, .int u, rfl, g, u, rfl, rfl, h0, ?_⟩
      refine ⟨.ref p, rfl, p, _, 0, .int g, rfl, rfl, hL, rfl, .int u, rfl, g, u, rfl, rfl, ⟨h0, h1⟩, ?_⟩
      refine ⟨.ref p, rfl, p, _, 0, 0, rfl, rfl, hP, rfl, ?_⟩
      exact ⟨.int (g % u), rfl, q (g % u) (g / u) z (Int.emod_nonneg _ (by omega)) (Int.emod_lt_of_pos _ h0)⟩
    · refine ⟨.ref p, rfl, p, _, 1, .int z, rfl, rfl, hL, rfl, z, _, rfl, rfl, mul_right z ⟨by decide, by decide⟩, _, _, rfl, rfl, _, _, rfl, rfl, (show (0 : Int) < 2305843009213693951 by decide), ?_⟩
      refine ⟨.ref p, rfl, p, _, 1, 1, rfl, rfl, hP, rfl, ?_⟩
      have hL2 : SqL K (upd H p (pot g (turned z))) p [.int g, .int (turned z)] := .inl (.inl upd_same)
      refine ⟨.ref p, rfl, p, _, 1, .int (turned z), rfl, rfl, hL2, rfl, turned z, 65537, rfl, rfl, ⟨by decide, by decide⟩, ?_⟩
      refine ⟨.ref p, rfl, p, _, 1, .int (turned z), rfl, rfl, hL2, rfl, turned z, 65537, rfl, rfl, (by decide : (0 : Int) < 65537), _, 3, rfl, rfl, _, _, rfl, rfl, small_rest (turned z), ?_⟩
      refine ⟨_, 2305843009213693921, rfl, rfl, (by decide : (0 : Int) < 2305843009213693921), _, 97, rfl, rfl, ⟨by decide, by decide⟩, .int u, rfl, _, u, rfl, rfl, h0, ?_⟩
      exact q _ g (turned z) (Int.emod_nonneg _ (by omega)) (Int.emod_lt_of_pos _ h0)

theorem ok_of {f fT : Addr} {fd fdT : FuncData} (F : Fun K "_law_of" "_law_of" sOf f fd) (G : At P w K mg base 1 "_law_take" ["_law_pot_here", "_law_upto"] spTake fT fdT) (ml : mg "len" = none) :
    FnOk P w K mg base CX0 2 f fd ["_law_pot_here", "_law_some"] spOf := by
  refine F.ok scOf (fun vs H Q E h => ?_) (fun cdv A outer s H vs Q E hr h => ?_)
  · obtain ⟨p, b, g, s, ns, rfl, _⟩ := h
    rfl
  · obtain ⟨p, b, g, z, ns, rfl, hP, hB, hne, hn, hl, q⟩ := h
    refine ⟨_, pss_one (ps_ret (pe_ix ix_list (pv 1) (pe_call G.ok hr (by rfl) G.g G.kp G.b .nil pass0 (pa_cons (pv 0) (pa_cons (pe_callB call_len_seq (by rfl) ml PySem.boot_len (pa_cons (pv 1) pa_nil)) pa_nil))) (fun _ _ => rfl))), ?_⟩
    have h0 : 0 < ns.length := List.length_pos_iff.mpr hn
    refine ⟨.ref b, rfl, .ref p, rfl, .ref b, rfl, b, _, rfl, .inl (.inl (.inl hB)), p, g, z, ((ns.map V.int).length : Int), rfl, hP, by rw [List.length_map]; omega, by rw [List.length_map]; omega, fun d g' s' d0 d1 => ?_⟩
    rw [List.length_map] at d1
    have hd : d.toNat < ns.length := by omega
    have ed : d = ((d.toNat : Nat) : Int) := by omega
    have hx : ns[d.toNat]? = some ns[d.toNat] := List.getElem?_eq_getElem hd
    have hv : atI (ns.map V.int) d = some (.int ns[d.toNat]) := at_of ed (by rw [List.getElem?_map, hx]; rfl)
    exact ⟨b, ns.map V.int, d, _, rfl, rfl, .inl (.inl (by rw [upd_ne hne]; exact hB)), hv, q _ g' s' (List.getElem_mem hd)⟩
end
end K9
namespace K9
open PySem PySem.Spec PyProof.Rows L2
section
variable {P : Program} {w : World} {K : PySem.W.Frag} {mg : Str → Option Value} {base : Heap}
theorem big_pos : (0 : Int) < ((10 ^ 900 : Nat) : Int) := Int.natCast_pos.mpr (Nat.pow_pos (by decide))
theorem bit_small (b : Bool) : -(2 ^ 64) < (if b = true then (1 : Int) else 0) ∧ (if b = true then (1 : Int) else 0) < 2 ^ 64 := by
  cases b <;> decide
/-- the cell where the script ends ahead of it -/
def cell0 (k n : Nat) : Int := 3 * (k : Int) + (n : Int)
theorem ok_900 : MulOk ("0" : Str) 900 := ⟨by decide, fun _ _ => by decide, fun _ _ => by decide⟩
theorem len_900 : ("1" : Str).length + (Txt.mul ("0" : Str) 900).length ≤ sizeLine := by
  have e := ten_900.len
  have e2 : (("1" : Str) ++ Txt.mul ("0" : Str) 900).length = ("1" : Str).length + (Txt.mul ("0" : Str) 900).length := Array.size_append
  rw [← e2, e, sizeLine_eq]
  decide
theorem seed_pos : (0 : Int) < 2305843009213693951 := by decide
theorem mul_k {k : Nat} (hk : k ≤ 1000) : CMul (7919 * (k : Int)) (k : Int) := .inl ⟨by omega, by omega⟩
theorem two_fit : 2 ≤ sizeLine := by
  rw [sizeLine_eq]
  decide
theorem ok_pot {f : Addr} {fd : FuncData} {k : Nat} (F : Fun K "_law_pot" "_law_pot" sPot f fd) (nz : noSet K) (ml : mg "len" = none) (ma : mg "abs" = none) (mi : mg "int" = none) :
    FnOk P w K mg base CX0 (k + 1) f fd ["_law_script", "_law_k"] (spPot K) := by
  refine F.ok scPot (fun vs H Q E h => ?_) (fun cdv A outer s H vs Q E hr h => ?_)
  · obtain ⟨a, ns, k, rfl, _⟩ := h
    rfl
  · obtain ⟨a, ns, k, rfl, hS, hk, q⟩ := h
    refine ⟨_, pss_cons (ps_set (i := 2) scPot.nd rfl (.inl rfl) (pe_op op_add (pe_op op_mul pe_int (pv 1)) (pe_callB call_len_seq (by rfl) ml PySem.boot_len (pa_cons (pv 0) pa_nil))))
      (pss_cons (ps_if (pt_cmpR op_lt (pv 1) (pe_callB call_len_seq (by rfl) ml PySem.boot_len (pa_cons (pv 0) pa_nil)) (nomark _))
        (pss_one (ps_set (i := 2) scPot.nd rfl (.inl rfl) (pe_ix ix_list (pv 0) (pv 1) (fun _ _ => rfl)))) pss_nil)
      (pss_cons (ps_set (i := 3) scPot.nd rfl (.inl rfl) (pe_op op_mul
          (pe_op op_mod (pe_callB call_abs (by rfl) ma (by decide +kernel) (pa_cons (pv 2) pa_nil)) (pe_callTy (call_ten nz) (by rfl) mi boot_int (pa_cons (pe_op op_add_str pe_str (pe_op op_mulS pe_str pe_int)) pa_nil)))
          (pe_callTy call_int1 (by rfl) mi boot_int (pa_cons (pe_cmpR op_ge (pe_callB call_abs (by rfl) ma (by decide +kernel) (pa_cons (pv 2) pa_nil)) (pe_op op_pow pe_int pe_int) (nomark _)) pa_nil))))
      (pss_one (ps_ret (pe_lst (pa_cons (pv 3) (pa_cons (pe_op op_mod (pe_op op_mul (pe_op op_add (pe_op op_add (pe_op op_mod (pv 2) pe_int) (pe_op op_mul (pe_op op_mul pe_int (pv 1)) (pv 1))) pe_int) pe_int) pe_int) pa_nil))))))), ?_⟩
    -- cell = 3 * k + len(script)
    refine ⟨nv k, rfl, 3, (k : Int), rfl, rfl, mul_left _ ⟨by decide, by decide⟩, .ref a, rfl, a, _, rfl, .inl hS, _, _, rfl, rfl, ?_⟩
    -- if k < len(script): cell = script[k]
    refine ⟨nv k, rfl, .ref a, rfl, a, _, rfl, .inl hS, _, _, rfl, rfl, _, rfl, ite2 (fun e => ?_) (fun e => ?_)⟩
    · have hlt : (k : Int) < ((ns.map V.int).length : Int) := of_decide_eq_true e
      have hlt2 : k < ns.length := by
        rw [List.length_map] at hlt
        omega
      have hx : (ns.map V.int)[k]? = some (.int ns[k]) := by
        rw [List.getElem?_map, List.getElem?_eq_getElem hlt2]
        rfl
      refine ⟨.ref a, rfl, nv k, rfl, a, _, (k : Int), _, rfl, rfl, hS, atI_nat hx, ?_⟩
      generalize ns[k] = c
      refine ⟨.int c, rfl, c, rfl, _, _, rfl, rfl, ok_900, _, _, rfl, rfl, len_900, _, 900, rfl, ten_900, by decide, by decide, _, _, rfl, rfl, big_pos, ?_⟩
      refine ⟨.int c, rfl, c, rfl, 10, 18, rfl, rfl, ⟨by decide, by decide, by decide⟩, _, _, rfl, rfl, .inr ⟨_, rfl, _, _, rfl, rfl, mul_right _ (bit_small _), ?_⟩⟩
      refine ⟨_, rfl, .int c, rfl, c, _, rfl, rfl, seed_pos, nv k, rfl, 7919, (k : Int), rfl, rfl, mul_left _ ⟨by decide, by decide⟩, nv k, rfl, _, (k : Int), rfl, rfl, mul_k hk, _, _, rfl, rfl, _, _, rfl, rfl, _, _, rfl, rfl, mul_right _ ⟨by decide, by decide⟩, _, _, rfl, rfl, seed_pos, two_fit, fun p np => q p _ _ np⟩
    · refine ⟨.int (cell0 k (ns.map V.int).length), rfl, cell0 k (ns.map V.int).length, rfl, _, _, rfl, rfl, ok_900, _, _, rfl, rfl, len_900, _, 900, rfl, ten_900, by decide, by decide, _, _, rfl, rfl, big_pos, ?_⟩
      refine ⟨.int (cell0 k (ns.map V.int).length), rfl, cell0 k (ns.map V.int).length, rfl, 10, 18, rfl, rfl, ⟨by decide, by decide, by decide⟩, _, _, rfl, rfl, .inr ⟨_, rfl, _, _, rfl, rfl, mul_right _ (bit_small _), ?_⟩⟩
      refine ⟨_, rfl, .int (cell0 k (ns.map V.int).length), rfl, cell0 k (ns.map V.int).length, _, rfl, rfl, seed_pos, nv k, rfl, 7919, (k : Int), rfl, rfl, mul_left _ ⟨by decide, by decide⟩, nv k, rfl, _, (k : Int), rfl, rfl, mul_k hk, _, _, rfl, rfl, _, _, rfl, rfl, _, _, rfl, rfl, mul_right _ ⟨by decide, by decide⟩, _, _, rfl, rfl, seed_pos, two_fit, fun p np => q p _ _ np⟩
end
end K9
namespace K9
open PySem PySem.Spec PyProof.Rows L2

theorem long_fit {r : List Nat} {M : Nat} (h : Up 1 r) (ht : top 1 r ≤ M) : r.length ≤ M := by
  have h1 := h.long (by decide)
  have h2 : r.length < 2 ^ r.length := Nat.lt_two_pow_self
  omega
theorem of_two {d x : Int} (h0 : 0 ≤ d) (h : x ∈ [2, 2, 2, 3, 4, 2 + d]) : ∃ q : Nat, x = (q : Int) ∧ 2 ≤ q := by
  have h2 : 2 ≤ x := by
    rcases List.mem_cons.mp h with z | h
    · omega
    rcases List.mem_cons.mp h with z | h
    · omega
    rcases List.mem_cons.mp h with z | h
    · omega
    rcases List.mem_cons.mp h with z | h
    · omega
    rcases List.mem_cons.mp h with z | h
    · omega
    rcases List.mem_cons.mp h with z | h
    · omega
    exact absurd h List.not_mem_nil
  exact ⟨x.toNat, by omega, by omega⟩
theorem six_fit : 6 ≤ sizeLine := by
  rw [sizeLine_eq]
  decide
theorem one_fit : 1 ≤ sizeLine := by
  rw [sizeLine_eq]
  decide
section
variable {P : Program} {w : World} {K : PySem.W.Frag} {mg : Str → Option Value} {base : Heap}
theorem ok_links {f fT fO : Addr} {fd fdT fdO : FuncData} (F : Fun K "_law_links" "_law_links" sLinks f fd) (T : At P w K mg base 1 "_law_take" ["_law_pot_here", "_law_upto"] spTake fT fdT) (O : At P w K mg base 2 "_law_of" ["_law_pot_here", "_law_some"] spOf fO fdO)
    (mr : mg "range" = none) (ml : mg "len" = none) (mt : mg "tuple" = none) : FnOk P w K mg base CX0 3 f fd ["_law_pot_here", "_law_most"] spLinks := by
  refine F.ok scLinks (fun vs H Q E h => ?_) (fun cdv A outer s H vs Q E hr h => ?_)
  · obtain ⟨p, g, s, M, rfl, _⟩ := h
    rfl
  · obtain ⟨p, g, z, M, rfl, hP, hM, hM2, q⟩ := h
    refine ⟨_, pss_cons (ps_set (i := 2) scLinks.nd rfl (.inl rfl) (pe_lst (pa_cons pe_int pa_nil)))
      (pss_cons (ps_for PassesOwn.never rfl (pi_range1 (by rfl) mr (pa_cons (pe_call T.ok (hr.mono (by decide)) (by rfl) T.g T.kp T.b .nil pass0 (pa_cons (pv 0) (pa_cons pe_int pa_nil))) pa_nil)) (pg_name (i := 3) scLinks.nd rfl (.inl rfl))
        (pss_cons (ps_set (i := 4) scLinks.nd rfl (.inl rfl) (pe_call O.ok hr (by rfl) O.g O.kp O.b .nil pass0 (pa_cons (pv 0) (pa_cons (pe_lst (pa_cons pe_int (pa_cons pe_int (pa_cons pe_int (pa_cons pe_int (pa_cons pe_int
            (pa_cons (pe_op op_add pe_int (pe_call T.ok (hr.mono (by decide)) (by rfl) T.g T.kp T.b .nil pass0 (pa_cons (pv 0) (pa_cons pe_int pa_nil)))) pa_nil))))))) pa_nil))))
        (pss_one (ps_if (PW.pt (pw_and (pt_cmpR op_le (pe_op op_mul (pe_ix ix_list (pv 2) (pe_un un_neg pe_int) (fun _ _ => rfl)) (pv 4)) (pv 1) (nomark _))
            (pw_and1 (pt_cmpR op_lt (pe_callB call_len_seq (by rfl) ml PySem.boot_len (pa_cons (pv 2) pa_nil)) pe_int (nomark _)))))
          (pss_one (ps_expr (pe_bm PySem.F.plainAttrs_list PySem.F.slot_list_append PySem.F.type_list_append mt_append (pv 2) (pa_cons (pe_op op_mul (pe_ix ix_list (pv 2) (pe_un un_neg pe_int) (fun _ _ => rfl)) (pv 4)) pa_nil)))) pss_nil))))
      (pss_one (ps_ret (pe_callTy call_tuple_of (by rfl) mt boot_tuple (pa_cons (pv 2) pa_nil))))), ?_⟩
    -- found = [1]
    refine ⟨one_fit, fun l nl => ?_⟩
    have npl : p ≠ l := ne_of_none hP nl
    have b1 : But p H (upd H l (.lst [.int 1])) := But.of (same_new nl)
    have hP1 : (upd H l (.lst [.int 1])) p = some (pot g z) := by
      rw [upd_ne npl]
      exact hP
    -- range(take(pot, 6))
    refine ⟨.ref p, rfl, p, g, z, 6, rfl, hP1, by decide, by decide, fun n g1 s1 n0 n6 => ?_⟩
    refine ⟨n, rfl, by omega, by omega, for_range (lo := 0) (n := n.toNat) (fun i σ H3 => ∃ r y3 y4 g' s', σ = [some (.ref p), some (nv M), some (.ref l), y3, y4] ∧ But p H H3 ∧ H3 p = some (pot g' s') ∧ H3 l = some (.lst (ch r)) ∧ Up 1 r ∧ top 1 r ≤ M) ?_ ?_ ?_⟩
    · refine ⟨[], none, none, g1, s1, rfl, b1.trans (But.put p _ _), upd_same, ?_, trivial, hM⟩
      rw [upd_ne npl.symm, upd_same]
      rfl
    · rintro i σ H3 hi ⟨r, y3, y4, g3, s3, rfl, b3, p3, l3, hu, ht⟩
      -- ratio = of(pot, [2, 2, 2, 3, 4, 2 + take(pot, 5)])
      refine ⟨.ref p, rfl, .ref p, rfl, p, g3, s3, 5, rfl, p3, by decide, by decide, fun d g4 s4 d0 d5 => ?_⟩
      refine ⟨2, d, rfl, rfl, six_fit, fun b nb => ?_⟩
      have npb : p ≠ b := ne_of_none upd_same nb
      have l4 : (upd H3 p (pot g4 s4)) l = some (.lst (ch r)) := by
        rw [upd_ne npl.symm]
        exact l3
      have nlb : l ≠ b := ne_of_none l4 nb
      refine ⟨p, b, g4, s4, [2, 2, 2, 3, 4, 2 + d], rfl, ?_, upd_same, npb.symm, by simp, by simp, fun x g5 s5 hx => ?_⟩
      · rw [upd_ne npb, upd_same]
      obtain ⟨q2, rfl, hq2⟩ := of_two d0 hx
      have b5 : But p H (upd (upd (upd H3 p (pot g4 s4)) b (.lst ([2, 2, 2, 3, 4, 2 + d].map V.int))) p (pot g5 s5)) := (b3.trans (But.put p _ _)).trans ((But.of (same_new nb)).trans (But.put p _ _))
      have l5 : (upd (upd (upd H3 p (pot g4 s4)) b (.lst ([2, 2, 2, 3, 4, 2 + d].map V.int))) p (pot g5 s5)) l = some (.lst (ch r)) := by
        rw [upd_ne npl.symm, upd_ne nlb]
        exact l4
      have p5 : (upd (upd (upd H3 p (pot g4 s4)) b (.lst ([2, 2, 2, 3, 4, 2 + d].map V.int))) p (pot g5 s5)) p = some (pot g5 s5) := upd_same
      have hL : SqL K (upd (upd (upd H3 p (pot g4 s4)) b (.lst ([2, 2, 2, 3, 4, 2 + d].map V.int))) p (pot g5 s5)) l (ch r) := .inl (.inl l5)
      have small : CMul ((top 1 r : Nat) : Int) (q2 : Int) := .inl ⟨by omega, by omega⟩
      -- if found[-1] * ratio <= most and len(found) < 12
      refine ⟨.ref l, rfl, 1, rfl, l, ch r, -1, nv (top 1 r), rfl, rfl, hL, ch_last r, nv q2, rfl, ((top 1 r : Nat) : Int), (q2 : Int), rfl, rfl, small, nv M, rfl, _, (M : Int), rfl, rfl, _, rfl, ite2 (fun e => ?_) (fun e => ?_)⟩
      · have hle : ((top 1 r : Nat) : Int) * (q2 : Int) ≤ (M : Int) := of_decide_eq_true e
        have hle2 : top 1 r * q2 ≤ M := Int.ofNat_le.mp hle
        refine ⟨.ref l, rfl, l, ch r, rfl, .inl hL, _, 12, rfl, rfl, _, rfl, ite2 (fun e2 => ?_) (fun e2 => ?_)⟩
        · -- found.append(found[-1] * ratio)
          refine ⟨.ref l, rfl, .inl ⟨rfl, _, .inl (.inl l5)⟩, .ref l, rfl, 1, rfl, l, ch r, -1, nv (top 1 r), rfl, rfl, hL, ch_last r, nv q2, rfl, ((top 1 r : Nat) : Int), (q2 : Int), rfl, rfl, small, l, ch r, _, rfl, rfl, l5, ?_, ?_⟩
          · have e3 : ((ch r).length : Int) < 12 := of_decide_eq_true e2
            have e4 : (ch r).length ≤ 1000 := by omega
            exact small1000 e4
          · refine ⟨r ++ [top 1 r * q2], _, _, g5, s5, rfl, b5.own nl, ?_, ?_, hu.snoc hq2, ?_⟩
            · rw [upd_ne npl]
              exact p5
            · rw [upd_same, ← ch_snoc]
              rfl
            · rw [top_snoc]
              exact hle2
        · exact ⟨r, _, _, g5, s5, rfl, b5, p5, l5, hu, ht⟩
      · exact iteF ⟨r, _, _, g5, s5, rfl, b5, p5, l5, hu, ht⟩
    · rintro σ H3 ⟨r, y3, y4, g3, s3, rfl, b3, p3, l3, hu, ht⟩
      -- return tuple(found)
      refine ⟨.ref l, rfl, l, ch r, rfl, .inl ⟨.inl (.inl l3), fun t nt => ?_⟩⟩
      have npt : p ≠ t := ne_of_none p3 nt
      refine q _ t r g3 s3 (b3.trans (But.of (same_new nt))) ?_ ?_ upd_same hu ht
      · rw [upd_ne npt]
        exact p3
      · exact b3.free nt npt.symm
end
end K9
namespace K9
open PySem PySem.Spec PyProof.Rows L2

/-! ### sizes in the law -/
theorem outer_n (l : Nat) : ∃ n : Nat, (if (if (l : Int) < 3 then (l : Int) else 3) > 1 then (if (l : Int) < 3 then (l : Int) else 3) else 1) = (n : Int) ∧ n ≤ 3 := by
  by_cases h : (l : Int) < 3
  · rw [if_pos h]
    by_cases h1 : (l : Int) > 1
    · rw [if_pos h1]
      exact ⟨l, rfl, by omega⟩
    · rw [if_neg h1]
      exact ⟨1, rfl, by decide⟩
  · rw [if_neg h]
    exact ⟨3, rfl, by decide⟩
structure Many (t m : Nat) : Prop where
  le : m ≤ 79
  fit : t * (m + 1) ≤ 2000
theorem many_of {t : Nat} (h1 : 1 ≤ t) (h2 : t ≤ 200) : ∃ u : Int, (if (2000 : Int) / (t : Int) < 80 then (2000 : Int) / (t : Int) else 80) = u ∧ 0 < u ∧ u < 1073741824 ∧ ∀ d : Int, 0 ≤ d → d < u → ∃ m : Nat, d = (m : Int) ∧ Many t m := by
  have e : (2000 : Int) / (t : Int) = ((2000 / t : Nat) : Int) := rfl
  rw [e]
  have h3 : 10 ≤ 2000 / t := (Nat.le_div_iff_mul_le (by omega)).mpr (by omega)
  have key : ∀ m : Nat, m < 2000 / t → t * (m + 1) ≤ 2000 := fun m hm => by
    have := (Nat.le_div_iff_mul_le (show 0 < t by omega)).mp (show m + 1 ≤ 2000 / t by omega)
    rw [Nat.mul_comm]
    exact this
  generalize 2000 / t = z at h3 key
  by_cases h : (z : Int) < 80
  · rw [if_pos h]
    refine ⟨_, rfl, by omega, by omega, fun d d0 d1 => ⟨d.toNat, by omega, by omega, key _ (by omega)⟩⟩
  · rw [if_neg h]
    refine ⟨_, rfl, by decide, by decide, fun d d0 d1 => ⟨d.toNat, by omega, by omega, key _ (by omega)⟩⟩
theorem Many.fit0 {t m : Nat} (h : Many t m) : t * m ≤ 2000 := Nat.le_trans (Nat.mul_le_mul_left t (by omega)) h.fit
theorem line_4300 : 2 ^ 4001 ≤ 10 ^ 4300 := Nat.le_trans (Nat.pow_le_pow_left (by decide) 4001) (Nat.pow_le_pow_right (by decide) (by decide))
theorem shown_fit {r : List Nat} {m : Nat} (h : Up 1 r) (hm : Many (top 1 r) m) : one r ^ m < 2 ^ 4001 := by
  have h1 := pow_lt (one_lt h) m
  have h2 : 2 * top 1 r * m = 2 * (top 1 r * m) := Nat.mul_assoc 2 _ _
  have h3 := hm.fit0
  exact Nat.lt_of_lt_of_le h1 (Nat.pow_le_pow_right (by decide) (by omega))
theorem page_fit {r : List Nat} (h : Up 1 r) (ht : top 1 r ≤ 200) : one r ^ 1 < 2 ^ 401 := by
  rw [Nat.pow_one]
  exact Nat.lt_of_lt_of_le (one_lt h) (Nat.pow_le_pow_right (by decide) (by omega))
theorem cut_head {x y : V} {r : List V} : cutV (x :: y :: r) none (some 1) = [x] := by
  unfold cutV
  rw [show HT.sIx (x :: y :: r).length (x :: y :: r).length (some 1) = min 1 (x :: y :: r).length from HT.sIx_nat _ _ 1, HT.sIx_none]
  rw [show min 1 (x :: y :: r).length = 1 from (show min 1 (r.length + 1 + 1) = 1 by omega)]
  rfl
theorem cut_two {x y : V} {r : List V} : cutV (x :: y :: r) (some 2) none = r := by
  unfold cutV
  rw [show HT.sIx (x :: y :: r).length 0 (some 2) = min 2 (x :: y :: r).length from HT.sIx_nat _ _ 2, HT.sIx_none]
  rw [show min 2 (x :: y :: r).length = 2 from (show min 2 (r.length + 1 + 1) = 2 by omega)]
  show (List.take ((x :: y :: r).length - 2) r) = r
  exact List.take_of_length_le (show r.length ≤ r.length + 1 + 1 - 2 by omega)
theorem part_head {x y : V} {r : List V} : ¬ (HT.sIx (x :: y :: r).length 0 none = 0 ∧ HT.sIx (x :: y :: r).length (x :: y :: r).length (some 1) = (x :: y :: r).length) := by
  rw [show HT.sIx (x :: y :: r).length (x :: y :: r).length (some 1) = min 1 (x :: y :: r).length from HT.sIx_nat _ _ 1, List.length_cons, List.length_cons]
  omega
theorem part_two {x y : V} {r : List V} : ¬ (HT.sIx (x :: y :: r).length 0 (some 2) = 0 ∧ HT.sIx (x :: y :: r).length (x :: y :: r).length none = (x :: y :: r).length) := by
  rw [show HT.sIx (x :: y :: r).length 0 (some 2) = min 2 (x :: y :: r).length from HT.sIx_nat _ _ 2, List.length_cons, List.length_cons]
  omega

/-- what holds through a turn: the pot at p, the chain at t, all else as it was at H0 -/
structure Kept (p t : Addr) (r : List Nat) (H0 H : Hp) (g s : Int) : Prop where
  b : But p H0 H
  p : H p = some (pot g s)
  t : H t = some (.tup (ch r))
theorem Kept.same {p t : Addr} {r : List Nat} {H0 H H' : Hp} {g s : Int} (k : Kept p t r H0 H g s) (e : Same H H') : Kept p t r H0 H' g s := ⟨k.b.trans (But.of e), e _ _ k.p, e _ _ k.t⟩
theorem Kept.put {p t : Addr} {r : List Nat} {H0 H : Hp} {g s : Int} (k : Kept p t r H0 H g s) (g' s' : Int) : Kept p t r H0 (upd H p (pot g' s')) g' s' := ⟨k.b.trans (But.put p _ _), upd_same, by
  rw [upd_ne (pot_ne_tup k.p k.t)]
  exact k.t⟩
theorem Kept.sq {p t : Addr} {r : List Nat} {H0 H : Hp} {g s : Int} {K : PySem.W.Frag} (k : Kept p t r H0 H g s) : SqT K H t (ch r) := .inl (.inl k.t)

section
variable {P : Program} {w : World} {K : PySem.W.Frag} {mg : Str → Option Value} {base : Heap}
theorem ok_law {f fP fL fT fC fD : Addr} {fd fdP fdL fdT fdC fdD : FuncData} (F : Fun K "law" "law" sLaw f fd) (gP : At P w K mg base 1 "_law_pot" ["_law_script", "_law_k"] (spPot K) fP fdP) (gL : At P w K mg base 3 "_law_links" ["_law_pot_here", "_law_most"] spLinks fL fdL)
    (gT : At P w K mg base 1 "_law_take" ["_law_pot_here", "_law_upto"] spTake fT fdT) (gC : At P w K mg base 2 "count_states" ["chain", "pages"] (spCount K) fC fdC) (gD : At P w K mg base 1 "_law_counted" ["_law_links_here", "_law_many"] (spCount K) fD fdD)
    (nz : noSet K) (mr : mg "range" = none) (mx : mg "max" = none) (mn : mg "min" = none) (ml : mg "len" = none) (mp : mg "repr" = none) : FnOk P w K mg base CX0 4 f fd ["_law_script"] (spLaw K) := by
  refine F.ok scLaw (fun vs H Q E h => ?_) (fun cdv A outer s H vs Q E hr h => ?_)
  · obtain ⟨a, ns, rfl, _⟩ := h
    rfl
  · obtain ⟨a, ns, rfl, hS, hlen, q⟩ := h
    have hr1 := hr.mono (show 1 ≤ 3 by decide)
    have hr2 := hr.mono (show 2 ≤ 3 by decide)
    refine ⟨_, pss_cons (ps_for PassesOwn.never rfl (pi_range1 (by rfl) mr (pa_cons (pe_callB (call_max2 rfl) (by rfl) mx boot_max (pa_cons pe_int (pa_cons (pe_callB (call_min2 rfl) (by rfl) mn boot_min (pa_cons pe_int (pa_cons (pe_callB call_len_seq (by rfl) ml PySem.boot_len (pa_cons (pv 0) pa_nil)) pa_nil))) pa_nil))) pa_nil)) (pg_name (i := 1) scLaw.nd rfl (.inl rfl))
        (pss_cons (ps_set (i := 2) scLaw.nd rfl (.inl rfl) (pe_call gP.ok hr1 (by rfl) gP.g gP.kp gP.b .nil pass0 (pa_cons (pv 0) (pa_cons (pv 1) pa_nil))))
        (pss_one (ps_for PassesOwn.never rfl (pi_range1 (by rfl) mr (pa_cons pe_int pa_nil)) (pg_name (i := 3) scLaw.nd rfl (.inl rfl))
          -- links, many, found
          (pss_cons (ps_set (i := 4) scLaw.nd rfl (.inl rfl) (pe_call gL.ok hr (by rfl) gL.g gL.kp gL.b .nil pass0 (pa_cons (pv 2) (pa_cons pe_int pa_nil))))
          (pss_cons (ps_set (i := 5) scLaw.nd rfl (.inl rfl) (pe_call gT.ok hr1 (by rfl) gT.g gT.kp gT.b .nil pass0 (pa_cons (pv 2) (pa_cons (pe_callB (call_min2 rfl) (by rfl) mn boot_min (pa_cons pe_int (pa_cons (pe_op op_fdiv pe_int (pe_ix ix_tup (pv 4) (pe_un un_neg pe_int) (fun _ _ => rfl))) pa_nil))) pa_nil))))
          (pss_cons (ps_set (i := 6) scLaw.nd rfl (.inl rfl) (pe_call gC.ok hr2 (by rfl) gC.g gC.kp gC.b .nil pass0 (pa_cons (pv 4) (pa_cons (pv 5) pa_nil))))
          -- the first comparison
          (pss_cons (ps_if (PW.pt (pw_or (pt_cmpR op_ne (pe_callB (call_reprW rfl nz) (by rfl) mp boot_repr (pa_cons (pv 6) pa_nil)) (pe_callB (call_reprW rfl nz) (by rfl) mp boot_repr (pa_cons (pe_call gD.ok hr1 (by rfl) gD.g gD.kp gD.b .nil pass0 (pa_cons (pv 4) (pa_cons (pv 5) pa_nil))) pa_nil)) (nomark _))
              (pw_or1 (pt_cmpR op_ne (pe_call gC.ok hr2 (by rfl) gC.g gC.kp gC.b .nil pass0 (pa_cons (pv 4) (pa_cons pe_int pa_nil))) pe_int (nomark _))))) pss_never pss_nil)
          -- one page more
          (pss_cons (ps_if (pt_cmpR op_ne (pe_call gC.ok hr2 (by rfl) gC.g gC.kp gC.b .nil pass0 (pa_cons (pv 4) (pa_cons (pe_op op_add (pv 5) pe_int) pa_nil))) (pe_op op_mulW (pv 6) (pe_call gC.ok hr2 (by rfl) gC.g gC.kp gC.b .nil pass0 (pa_cons (pv 4) (pa_cons pe_int pa_nil)))) (nomark _)) pss_never pss_nil)
          -- a larger page
          (pss_cons (ps_set (i := 7) scLaw.nd rfl (.inl rfl) (pe_op op_add pe_int (pe_call gT.ok hr1 (by rfl) gT.g gT.kp gT.b .nil pass0 (pa_cons (pv 2) (pa_cons pe_int pa_nil)))))
          (pss_cons (ps_set (i := 8) scLaw.nd rfl (.inl rfl) (pe_op op_catT (pv 4) (pe_tup (pa_cons (pe_op op_mul (pe_ix ix_tup (pv 4) (pe_un un_neg pe_int) (fun _ _ => rfl)) (pv 7)) pa_nil))))
          (pss_cons (ps_if (pt_cmpR op_ne (pe_call gC.ok hr2 (by rfl) gC.g gC.kp gC.b .nil pass0 (pa_cons (pv 8) (pa_cons pe_int pa_nil))) (pe_op op_add (pe_call gC.ok hr2 (by rfl) gC.g gC.kp gC.b .nil pass0 (pa_cons (pv 4) (pa_cons (pv 7) pa_nil))) pe_int) (nomark _)) pss_never pss_nil)
          -- a size less
          (pss_one (ps_if (pt_cmpR op_gt (pe_callB call_len_seq (by rfl) ml PySem.boot_len (pa_cons (pv 4) pa_nil)) pe_int (nomark _))
            (pss_cons (ps_set (i := 9) scLaw.nd rfl (.inl rfl) (pe_op op_catT (pe_slice sl_tup (pv 4) po_none (po_some pe_int)) (pe_slice sl_tup (pv 4) (po_some pe_int) po_none)))
            (pss_one (ps_if (pt_cmpR op_gt (pe_call gC.ok hr2 (by rfl) gC.g gC.kp gC.b .nil pass0 (pa_cons (pv 9) (pa_cons (pv 5) pa_nil))) (pv 6) (nomark _)) pss_never pss_nil))) pss_nil))))))))))))))
      (pss_one (ps_ret pe_bl)), ?_⟩
    -- range(max(1, min(3, len(script))))
    obtain ⟨n, en, hn⟩ := outer_n (ns.map V.int).length
    refine ⟨.ref a, rfl, a, _, rfl, .inl hS, 3, _, rfl, 1, _, rfl, (n : Int), congrArg (fun z => [V.int z]) en, by omega, by omega,
      for_range (lo := 0) (n := n) (fun i σ H3 => ∃ y1 y2 y3 y4 y5 y6 y7 y8 y9, σ = [some (.ref a), y1, y2, y3, y4, y5, y6, y7, y8, y9] ∧ Same H H3) ⟨none, none, none, none, none, none, none, none, none, rfl, Same.refl H⟩ ?_ ?_⟩
    · rintro i σ H3 hi ⟨y1, y2, y3, y4, y5, y6, y7, y8, y9, rfl, sm⟩
      -- pot = _law_pot(script, k)
      refine ⟨.ref a, rfl, .int (0 + (i : Int)), rfl, a, ns, i, congrArg (fun z => [V.ref a, V.int z]) (Int.zero_add (i : Int)), sm.seq hS, by omega, fun p g0 s0 np => ?_⟩
      -- for turn in range(4)
      refine ⟨4, rfl, by decide, by decide, for_range (lo := 0) (n := 4) (fun j σ H5 => ∃ y3 y4 y5 y6 y7 y8 y9 g s, σ = [some (.ref a), some (.int (0 + (i : Int))), some (.ref p), y3, y4, y5, y6, y7, y8, y9] ∧ But p H3 H5 ∧ H5 p = some (pot g s))
        ⟨y3, y4, y5, y6, y7, y8, y9, g0, s0, rfl, But.of (same_new np), upd_same⟩ ?_ ?_⟩
      · clear y3 y4 y5 y6 y7 y8 y9
        rintro j σ H5 hj ⟨y3, y4, y5, y6, y7, y8, y9, g5, s5, rfl, b5, p5⟩
        -- links
        refine ⟨.ref p, rfl, p, g5, s5, 200, rfl, p5, by decide, by decide, fun H6 t r g6 s6 b6 p6 nt t6 hu ht => ?_⟩
        have k6 : Kept p t r H3 H6 g6 s6 := ⟨b5.trans b6, p6, t6⟩
        clear b5 p5 b6 p6 nt t6
        have tp := hu.top_pos (by decide)
        obtain ⟨u, eu, u0, u1, um⟩ := many_of tp ht
        -- many
        refine ⟨.ref p, rfl, .ref t, rfl, 1, rfl, t, ch r, -1, nv (top 1 r), rfl, rfl, k6.sq, ch_last r, 2000, ((top 1 r : Nat) : Int), rfl, rfl, ⟨by omega, by omega⟩, 80, _, rfl,
          p, g6, s6, u, congrArg (fun z => [V.ref p, V.int z]) eu, k6.p, u0, u1, fun d g7 s7 d0 d1 => ?_⟩
        obtain ⟨m, rfl, hm⟩ := um d d0 d1
        have k7 := k6.put g7 s7
        generalize upd H6 p (pot g7 s7) = H7 at k7
        have hm9 := hm.le
        have hmf := hm.fit
        have hm0 := hm.fit0
        have fit := shown_fit hu hm
        have fit1 := page_fit hu ht
        have shown : ((one r ^ m : Nat) : Int).natAbs < 10 ^ 4300 := Nat.lt_of_lt_of_le fit line_4300
        -- found
        refine ⟨.ref t, rfl, nv m, rfl, t, r, m, rfl, k7.sq, hu, by omega, by omega, hm0, fun H8 e8 => ?_⟩
        have k8 := k7.same e8
        -- if repr(found) != repr(counted(links, many)) or count(links, 0) != 1
        refine ⟨nv (one r ^ m), rfl, ((one r ^ m : Nat) : Int), rfl, shown, .ref t, rfl, nv m, rfl, t, r, m, rfl, k8.sq, hu, by omega, by omega, hm0, fun H9 e9 => ?_⟩
        have k9 := k8.same e9
        refine ⟨((one r ^ m : Nat) : Int), rfl, shown, rfl, _, rfl, iteNS rfl ?_⟩
        refine ⟨.ref t, rfl, t, r, 0, rfl, k9.sq, hu, by omega, by omega, by omega, fun H10 e10 => ?_⟩
        have k10 := k9.same e10
        refine ⟨rfl, _, rfl, iteNS (by rw [Nat.pow_zero]; rfl) ?_⟩
        -- if count(links, many + 1) != found * count(links, 1)
        refine ⟨.ref t, rfl, nv m, rfl, (m : Int), 1, rfl, rfl, t, r, m + 1, rfl, k10.sq, hu, by omega, by omega, hmf, fun H11 e11 => ?_⟩
        have k11 := k10.same e11
        refine ⟨nv (one r ^ m), rfl, .ref t, rfl, t, r, 1, rfl, k11.sq, hu, by omega, by omega, by omega, fun H12 e12 => ?_⟩
        have k12 := k11.same e12
        refine ⟨_, _, rfl, rfl, wide_mul (a := 4001) (b := 401) (show ((one r ^ m : Nat) : Int).natAbs < 2 ^ 4001 from fit) (show ((one r ^ 1 : Nat) : Int).natAbs < 2 ^ 401 from fit1) (by decide) (by decide) (by decide), rfl, _, rfl,
          iteNS (congrArg V.int (by rw [Nat.pow_one, pow_mul_cast])) ?_⟩
        -- ratio
        refine ⟨.ref p, rfl, p, g7, s7, 4, rfl, k12.p, by decide, by decide, fun d2 g13 s13 c0 c4 => ?_⟩
        have k13 := k12.put g13 s13
        generalize upd H12 p (pot g13 s13) = H13 at k13
        refine ⟨2, d2, rfl, rfl, ?_⟩
        obtain ⟨e2, rfl, e3⟩ : ∃ e2 : Nat, d2 = (e2 : Int) ∧ e2 ≤ 3 := ⟨d2.toNat, by omega, by omega⟩
        have q3 : 2 ≤ 2 + e2 := by omega
        have tq : top 1 r * (2 + e2) ≤ 1000 := Nat.mul_le_mul (n₂ := 200) (m₂ := 5) ht (by omega)
        have rl := long_fit hu ht
        have sl := sizeLine_eq
        -- longer
        refine ⟨.ref t, rfl, .ref t, rfl, 1, rfl, t, ch r, -1, nv (top 1 r), rfl, rfl, k13.sq, ch_last r, nv (2 + e2), rfl, ((top 1 r : Nat) : Int), ((2 + e2 : Nat) : Int), rfl, rfl, .inl ⟨by omega, by omega⟩, one_fit, fun c nc => ?_⟩
        have k14 := k13.same (same_new (o := .tup [.int (((top 1 r : Nat) : Int) * ((2 + e2 : Nat) : Int))]) nc)
        refine ⟨t, c, ch r, [.int (((top 1 r : Nat) : Int) * ((2 + e2 : Nat) : Int))], rfl, rfl, k14.sq, .inl (.inl upd_same), List.cons_ne_nil _ _, by rw [ch_len, sl]; show r.length + 1 + 1 ≤ _; omega, (fun e => nomatch e), fun _ L nL => ?_⟩
        rw [show (ch r ++ [V.int (((top 1 r : Nat) : Int) * ((2 + e2 : Nat) : Int))]) = ch (r ++ [top 1 r * (2 + e2)]) from ch_snoc r _]
        have k15 := k14.same (same_new (o := .tup (ch (r ++ [top 1 r * (2 + e2)]))) nL)
        -- if count(longer, 1) != count(links, ratio) + 1
        refine ⟨.ref L, rfl, L, r ++ [top 1 r * (2 + e2)], 1, rfl, .inl (.inl upd_same), hu.snoc q3, by rw [top_snoc]; omega, by omega, by rw [top_snoc]; omega, fun H16 e16 => ?_⟩
        have k16 := k15.same e16
        refine ⟨.ref t, rfl, nv (2 + e2), rfl, t, r, 2 + e2, rfl, k16.sq, hu, by omega, by omega, by omega, fun H17 e17 => ?_⟩
        have k17 := k16.same e17
        refine ⟨_, 1, rfl, rfl, rfl, _, rfl, iteNS (by rw [Nat.pow_one, longer_one hu]; rfl) ?_⟩
        -- if len(links) > 2
        refine ⟨.ref t, rfl, t, ch r, rfl, .inr k17.sq, _, 2, rfl, rfl, _, rfl, ite2 (fun e => ?_) (fun e => ?_)⟩
        · have hl : (2 : Int) < ((ch r).length : Int) := of_decide_eq_true e
          rw [ch_len] at hl
          obtain ⟨x1, x2, r2, rfl⟩ : ∃ x1 x2 r2, r = x1 :: x2 :: r2 := by
            match r, hl with
            | x1 :: x2 :: r2, _ => exact ⟨x1, x2, r2, rfl⟩
            | [_], hl => exact absurd hl (by simp)
            | [], hl => exact absurd hl (by simp)
          -- fewer
          refine ⟨.ref t, rfl, 1, rfl, t, ch (x1 :: x2 :: r2), rfl, k17.sq, part_head, fun c1 n1 => ?_⟩
          rw [show cutV (ch (x1 :: x2 :: r2)) none (some 1) = [nv 1] from cut_head]
          have k18 := k17.same (same_new (o := .tup [nv 1]) n1)
          have o18 : (upd H17 c1 (.tup [nv 1])) c1 = some (.tup [nv 1]) := upd_same
          generalize upd H17 c1 (.tup [nv 1]) = H18 at k18 o18
          refine ⟨.ref t, rfl, 2, rfl, t, ch (x1 :: x2 :: r2), rfl, k18.sq, part_two, fun c2 n2 => ?_⟩
          rw [show cutV (ch (x1 :: x2 :: r2)) (some 2) none = (x2 :: r2).map nv from cut_two]
          have s19 : Same H18 (upd H18 c2 (.tup ((x2 :: r2).map nv))) := same_new n2
          have k19 := k18.same s19
          refine ⟨c1, c2, [nv 1], (x2 :: r2).map nv, rfl, rfl, .inl (.inl (s19 _ _ o18)), .inl (.inl upd_same), List.cons_ne_nil _ _, by rw [List.length_map, sl]; show 1 + (x2 :: r2).length ≤ _; simp only [List.length_cons] at rl ⊢; omega, (fun e => nomatch e), fun _ L2 nL2 => ?_⟩
          have k20 := k19.same (same_new (o := .tup ([nv 1] ++ (x2 :: r2).map nv)) nL2)
          -- if count(fewer, many) > found
          refine ⟨.ref L2, rfl, nv m, rfl, L2, x2 :: r2, m, rfl, .inl (.inl upd_same), fewer_up hu, Nat.le_trans ht (by decide), by omega, hm0, fun H21 e21 => ?_⟩
          have k21 := k20.same e21
          have le := Nat.pow_le_pow_left (fewer_le hu) m
          refine ⟨nv (one (x1 :: x2 :: r2) ^ m), rfl, ((one (x2 :: r2) ^ m : Nat) : Int), ((one (x1 :: x2 :: r2) ^ m : Nat) : Int), rfl, rfl, _, rfl, ?_⟩
          rw [decide_eq_false (show ¬ ((one (x1 :: x2 :: r2) ^ m : Nat) : Int) < ((one (x2 :: r2) ^ m : Nat) : Int) from fun w => absurd (Int.ofNat_lt.mp w) (Nat.not_lt.mpr le))]
          exact iteF ⟨_, _, _, _, _, _, _, _, _, rfl, k21.b, k21.p⟩
        · exact ⟨_, _, _, _, _, _, _, _, _, rfl, k17.b, k17.p⟩
      · rintro σ H5 ⟨y3, y4, y5, y6, y7, y8, y9, g5, s5, rfl, b5, p5⟩
        exact ⟨_, _, _, _, _, _, _, _, _, rfl, But.same sm (sm.free np) b5⟩
    · rintro σ H5 ⟨y1, y2, y3, y4, y5, y6, y7, y8, y9, rfl, sm⟩
      exact q H5
end
end K9
namespace K9
open PySem PySem.Spec PyProof.Rows L2
/-! ### what the top has written; the law's own head -/
theorem all_mk {l : PySem.W.OpenLaw} {w : World} {K : PySem.W.Frag} {h : Heap} {mg : Str → Option Value} {fa f1 f2 f3 f4 f5 f6 f7 f8 : Addr} (X : K.In h) (G : h.Ns mainGlobals mg) (hfa : mg "law" = some (.ref fa))
    {od1 an1 od2 an2 od3 an3 od4 an4 od5 an5 od6 an6 od7 an7 od8 an8 : Option Addr} {sl1 sl2 sl3 sl4 sl5 sl6 sl7 sl8 : Array (Option Value)} {oc1 kV1 dc1 pm1 cd1 ct1 oc2 kV2 dc2 pm2 cd2 ct2 oc3 kV3 dc3 pm3 cd3 ct3 oc4 kV4 dc4 pm4 cd4 ct4 oc5 kV5 dc5 pm5 cd5 ct5 oc6 kV6 dc6 pm6 cd6 ct6 oc7 kV7 dc7 pm7 cd7 ct7 oc8 kV8 dc8 pm8 cd8 ct8 : Value}
    (a1 : PySem.W.nsIn K mainGlobals "power" = some (some (.ref f1)))
    (l1 : K.lookup f1 = some ⟨oc1, od1, .func (PySem.W.fnOf "power" "power" (defArgs sPower) (defBody sPower) (defScope sPower) .none kV1 dc1 pm1 an1 cd1 ct1), sl1⟩)
    (c1 : PySem.W.codeIn K cd1 "power" = true) (k1 : PySem.W.keepIn K (.ref f1) = true)
    (a2 : PySem.W.nsIn K mainGlobals "count_states" = some (some (.ref f2)))
    (l2 : K.lookup f2 = some ⟨oc2, od2, .func (PySem.W.fnOf "count_states" "count_states" (defArgs sCount) (defBody sCount) (defScope sCount) .none kV2 dc2 pm2 an2 cd2 ct2), sl2⟩)
    (c2 : PySem.W.codeIn K cd2 "count_states" = true) (k2 : PySem.W.keepIn K (.ref f2) = true)
    (a3 : PySem.W.nsIn K mainGlobals "_law_pot" = some (some (.ref f3)))
    (l3 : K.lookup f3 = some ⟨oc3, od3, .func (PySem.W.fnOf "_law_pot" "_law_pot" (defArgs sPot) (defBody sPot) (defScope sPot) .none kV3 dc3 pm3 an3 cd3 ct3), sl3⟩)
    (c3 : PySem.W.codeIn K cd3 "_law_pot" = true) (k3 : PySem.W.keepIn K (.ref f3) = true)
    (a4 : PySem.W.nsIn K mainGlobals "_law_take" = some (some (.ref f4)))
    (l4 : K.lookup f4 = some ⟨oc4, od4, .func (PySem.W.fnOf "_law_take" "_law_take" (defArgs sTake) (defBody sTake) (defScope sTake) .none kV4 dc4 pm4 an4 cd4 ct4), sl4⟩)
    (c4 : PySem.W.codeIn K cd4 "_law_take" = true) (k4 : PySem.W.keepIn K (.ref f4) = true)
    (a5 : PySem.W.nsIn K mainGlobals "_law_of" = some (some (.ref f5)))
    (l5 : K.lookup f5 = some ⟨oc5, od5, .func (PySem.W.fnOf "_law_of" "_law_of" (defArgs sOf) (defBody sOf) (defScope sOf) .none kV5 dc5 pm5 an5 cd5 ct5), sl5⟩)
    (c5 : PySem.W.codeIn K cd5 "_law_of" = true) (k5 : PySem.W.keepIn K (.ref f5) = true)
    (a6 : PySem.W.nsIn K mainGlobals "_law_links" = some (some (.ref f6)))
    (l6 : K.lookup f6 = some ⟨oc6, od6, .func (PySem.W.fnOf "_law_links" "_law_links" (defArgs sLinks) (defBody sLinks) (defScope sLinks) .none kV6 dc6 pm6 an6 cd6 ct6), sl6⟩)
    (c6 : PySem.W.codeIn K cd6 "_law_links" = true) (k6 : PySem.W.keepIn K (.ref f6) = true)
    (a7 : PySem.W.nsIn K mainGlobals "_law_counted" = some (some (.ref f7)))
    (l7 : K.lookup f7 = some ⟨oc7, od7, .func (PySem.W.fnOf "_law_counted" "_law_counted" (defArgs sCounted) (defBody sCounted) (defScope sCounted) .none kV7 dc7 pm7 an7 cd7 ct7), sl7⟩)
    (c7 : PySem.W.codeIn K cd7 "_law_counted" = true) (k7 : PySem.W.keepIn K (.ref f7) = true)
    (a8 : PySem.W.nsIn K mainGlobals "law" = some (some (.ref f8)))
    (l8 : K.lookup f8 = some ⟨oc8, od8, .func (PySem.W.fnOf "law" "law" (defArgs sLaw) (defBody sLaw) (defScope sLaw) .none kV8 dc8 pm8 an8 cd8 ct8), sl8⟩)
    (c8 : PySem.W.codeIn K cd8 "law" = true) (k8 : PySem.W.keepIn K (.ref f8) = true)
    (z1 : PySem.W.nsIn K mainGlobals "range" = some none) (z2 : PySem.W.nsIn K mainGlobals "zip" = some none) (z3 : PySem.W.nsIn K mainGlobals "len" = some none) (z4 : PySem.W.nsIn K mainGlobals "abs" = some none) (z5 : PySem.W.nsIn K mainGlobals "int" = some none) (z6 : PySem.W.nsIn K mainGlobals "tuple" = some none) (z7 : PySem.W.nsIn K mainGlobals "max" = some none) (z8 : PySem.W.nsIn K mainGlobals "min" = some none) (z9 : PySem.W.nsIn K mainGlobals "repr" = some none) (nz : PySem.W.nsIn K cStatics "sys.int_max_str_digits" = some none) :
    ∃ fd : FuncData, (∀ (s : Shared) (v : Value), BindsTo s fd ⟨[v], []⟩ [("_law_script", v)]) ∧ ∀ base : Heap, K.In base → base.Ns mainGlobals mg → FnOk l.prog w K mg base CX0 4 fa fd ["_law_script"] (spLaw K) := by
  have e := hfa.symm.trans (PySem.W.mg_of X G a8)
  cases e
  have F1 := fun_mk (st := sPower) l1 c1 k1
  have F2 := fun_mk (st := sCount) l2 c2 k2
  have F3 := fun_mk (st := sPot) l3 c3 k3
  have F4 := fun_mk (st := sTake) l4 c4 k4
  have F5 := fun_mk (st := sOf) l5 c5 k5
  have F6 := fun_mk (st := sLinks) l6 c6 k6
  have F7 := fun_mk (st := sCounted) l7 c7 k7
  have F8 := fun_mk (st := sLaw) l8 c8 k8
  have b1 := F1.binds (ps := ["base", "exponent"]) fun _ _ _ _ _ _ us hl => match us, hl with | [_, _], _ => rfl
  have b2 := F2.binds (ps := ["chain", "pages"]) fun _ _ _ _ _ _ us hl => match us, hl with | [_, _], _ => rfl
  have b3 := F3.binds (ps := ["_law_script", "_law_k"]) fun _ _ _ _ _ _ us hl => match us, hl with | [_, _], _ => rfl
  have b4 := F4.binds (ps := ["_law_pot_here", "_law_upto"]) fun _ _ _ _ _ _ us hl => match us, hl with | [_, _], _ => rfl
  have b5 := F5.binds (ps := ["_law_pot_here", "_law_some"]) fun _ _ _ _ _ _ us hl => match us, hl with | [_, _], _ => rfl
  have b6 := F6.binds (ps := ["_law_pot_here", "_law_most"]) fun _ _ _ _ _ _ us hl => match us, hl with | [_, _], _ => rfl
  have b7 := F7.binds (ps := ["_law_links_here", "_law_many"]) fun _ _ _ _ _ _ us hl => match us, hl with | [_, _], _ => rfl
  have m_range := PySem.W.mg_none_of X G z1
  have m_zip := PySem.W.mg_none_of X G z2
  have m_len := PySem.W.mg_none_of X G z3
  have m_abs := PySem.W.mg_none_of X G z4
  have m_int := PySem.W.mg_none_of X G z5
  have m_tuple := PySem.W.mg_none_of X G z6
  have m_max := PySem.W.mg_none_of X G z7
  have m_min := PySem.W.mg_none_of X G z8
  have m_repr := PySem.W.mg_none_of X G z9
  refine ⟨PySem.W.fnOf "law" "law" (defArgs sLaw) (defBody sLaw) (defScope sLaw) .none kV8 dc8 pm8 an8 cd8 ct8, fun s v => .of_eq rfl, fun base _ _ => ?_⟩
  have T1 : At l.prog w K mg base 1 "power" ["base", "exponent"] spPower f1 _ := ⟨ok_power F1 m_range, F1.kp, b1, PySem.W.mg_of X G a1⟩
  have T2 : At l.prog w K mg base 2 "count_states" ["chain", "pages"] (spCount K) f2 _ := ⟨ok_count F2 T1 m_zip, F2.kp, b2, PySem.W.mg_of X G a2⟩
  have T3 : At l.prog w K mg base 1 "_law_pot" ["_law_script", "_law_k"] (spPot K) f3 _ := ⟨ok_pot F3 nz m_len m_abs m_int, F3.kp, b3, PySem.W.mg_of X G a3⟩
  have T4 : At l.prog w K mg base 1 "_law_take" ["_law_pot_here", "_law_upto"] spTake f4 _ := ⟨ok_take F4, F4.kp, b4, PySem.W.mg_of X G a4⟩
  have T5 : At l.prog w K mg base 2 "_law_of" ["_law_pot_here", "_law_some"] spOf f5 _ := ⟨ok_of F5 T4 m_len, F5.kp, b5, PySem.W.mg_of X G a5⟩
  have T6 : At l.prog w K mg base 3 "_law_links" ["_law_pot_here", "_law_most"] spLinks f6 _ := ⟨ok_links F6 T4 T5 m_range m_len m_tuple, F6.kp, b6, PySem.W.mg_of X G a6⟩
  have T7 : At l.prog w K mg base 1 "_law_counted" ["_law_links_here", "_law_many"] (spCount K) f7 _ := ⟨ok_counted F7 m_range m_zip, F7.kp, b7, PySem.W.mg_of X G a7⟩
  exact ok_law F8 T3 T6 T4 T2 T7 nz m_range m_max m_min m_len m_repr
end K9
open PySem PySem.W PyProof.Rows
set_option maxRecDepth 100000 in
set_option maxHeartbeats 0 in
theorem PySem.Challenge.cw_pinnedheap_k09_whole_counts_of_states_holds : PySem.Challenge.rw_pinnedheap_k09_whole_counts_of_states.Holds := by
  w_on; o_law; k_head; (case hw => w_witness2)
  k_fill
  refine L2.walk_of (l := PySem.Challenge.rw_pinnedheap_k09_whole_counts_of_states) (n := 63) (k := 4) (x := "_law_script") (CX := fun _ => L2.CX0) (sp := fun w => K9.spLaw _) rfl (by decide) rfl ⟨rfl, by decide, by decide⟩ (fun w h Y => PySem.W.kIn_of Y) ?F (fun _ _ a ns hl _ hS => ⟨a, ns, rfl, hS, hl, fun _ => rfl⟩) (fun _ _ _ _ _ h => h)
  case F =>
    intro w mg fa h KX G hmg
    refine' K9.all_mk KX G hmg ?a1 ?l1 ?c1 ?k1 ?a2 ?l2 ?c2 ?k2 ?a3 ?l3 ?c3 ?k3 ?a4 ?l4 ?c4 ?k4 ?a5 ?l5 ?c5 ?k5 ?a6 ?l6 ?c6 ?k6 ?a7 ?l7 ?c7 ?k7 ?a8 ?l8 ?c8 ?k8 ?z1 ?z2 ?z3 ?z4 ?z5 ?z6 ?z7 ?z8 ?z9 ?nz
    (case a1 => k_is); (case l1 => k_is); (case c1 => k_is); (case k1 => k_is); (case a2 => k_is); (case l2 => k_is); (case c2 => k_is); (case k2 => k_is); (case a3 => k_is); (case l3 => k_is); (case c3 => k_is); (case k3 => k_is); (case a4 => k_is); (case l4 => k_is); (case c4 => k_is); (case k4 => k_is); (case a5 => k_is); (case l5 => k_is); (case c5 => k_is); (case k5 => k_is); (case a6 => k_is); (case l6 => k_is); (case c6 => k_is); (case k6 => k_is); (case a7 => k_is); (case l7 => k_is); (case c7 => k_is); (case k7 => k_is); (case a8 => k_is); (case l8 => k_is); (case c8 => k_is); (case k8 => k_is); (case z1 => k_is); (case z2 => k_is); (case z3 => k_is); (case z4 => k_is); (case z5 => k_is); (case z6 => k_is); (case z7 => k_is); (case z8 => k_is); (case z9 => k_is); (case nz => k_is)
