import PyProof.Rows.All
import Wide.All
import OpenK.AllK
import Wide.FinOn
import HandS.ForMost
import HandS.ForExc
import HandS.SetFor
import HandS.IsInst
import HandS.Style
import HandS.TupMul
import HandS.Walk
import HandS.SortInts
import HandS.NoneIn
import HandS.Zip
import HandS.ExcInit
import HandS.More
import KE.GoesMore
import PyProof.EnumMake
import PySem.Challenge.RW_dotquilts_k12_whole_twins
set_option Elab.async false
set_option linter.all false
set_option maxRecDepth 100000
set_option maxHeartbeats 4000000
/-! the field of 2^b words, b = 4 or 8, by powers and exponents -/
namespace Tw
def nn (b : Nat) : Nat := 2 ^ b - 1
def tl (b : Nat) : Nat := if b = 4 then 9 else 113
def dbl (b x : Nat) : Nat := if 2 * x < 2 ^ b then 2 * x else (2 * x - 2 ^ b) ^^^ tl b
def pw (b : Nat) : Nat → Nat
  | 0 => 1
  | n + 1 => dbl b (pw b n)
def tabFrom (b : Nat) : Nat → Nat → List Nat
  | 0, _ => []
  | n + 1, x => x :: tabFrom b n (dbl b x)
def tab (b : Nat) : List Nat := tabFrom b (nn b) 1
def Bt (b : Nat) : Prop := b = 4 ∨ b = 8
def dbln (b : Nat) : Nat → Nat → Nat
  | 0, x => x
  | n + 1, x => dbl b (dbln b n x)
theorem dbln_pw (b : Nat) : ∀ k i, dbln b k (pw b i) = pw b (k + i)
  | 0, i => by rw [Nat.zero_add]; rfl
  | k + 1, i => by
    show dbl b (dbln b k (pw b i)) = _
    rw [dbln_pw b k i, Nat.add_right_comm]
    rfl
theorem tabFrom_get (b : Nat) : ∀ n i k, k < n → (tabFrom b n (pw b i))[k]? = some (pw b (i + k))
  | 0, i, k, h => by omega
  | n + 1, i, 0, h => rfl
  | n + 1, i, k + 1, h => by
    show (tabFrom b n (dbl b (pw b i)))[k]? = _
    have e := tabFrom_get b n (i + 1) k (by omega)
    rw [show i + (k + 1) = i + 1 + k by omega]
    exact e
theorem tabFrom_len (b : Nat) : ∀ n x, (tabFrom b n x).length = n
  | 0, _ => rfl
  | n + 1, x => by
    show (tabFrom b n (dbl b x)).length + 1 = n + 1
    rw [tabFrom_len b n]
theorem tab_len (b : Nat) : (tab b).length = nn b := tabFrom_len b _ _
theorem tab_get (b k : Nat) (h : k < nn b) : (tab b)[k]? = some (pw b k) := by
  have e := tabFrom_get b (nn b) 0 k h
  rw [Nat.zero_add] at e
  exact e
theorem nn_pos {b : Nat} (hb : Bt b) : 0 < nn b := by
  rcases hb with rfl | rfl <;> decide
theorem tab_nodup {b : Nat} (hb : Bt b) : (tab b).Nodup := by
  rcases hb with rfl | rfl <;> decide +kernel
theorem tab_mem {b : Nat} (hb : Bt b) : ∀ x, x < 2 ^ b → 0 < x → x ∈ tab b := by
  rcases hb with rfl | rfl <;> decide +kernel
theorem dbl_lt {b : Nat} (hb : Bt b) : ∀ x, x < 2 ^ b → dbl b x < 2 ^ b := by
  rcases hb with rfl | rfl <;> decide +kernel
theorem dbl_pos {b : Nat} (hb : Bt b) : ∀ x, x < 2 ^ b → 0 < x → 0 < dbl b x := by
  rcases hb with rfl | rfl <;> decide +kernel
theorem pw_nn {b : Nat} (hb : Bt b) : pw b (nn b) = 1 := by
  rcases hb with rfl | rfl <;> decide +kernel
theorem pw_lt {b : Nat} (hb : Bt b) : ∀ i, pw b i < 2 ^ b
  | 0 => by rcases hb with rfl | rfl <;> decide
  | i + 1 => dbl_lt hb _ (pw_lt hb i)
theorem pw_pos {b : Nat} (hb : Bt b) : ∀ i, 0 < pw b i
  | 0 => by show 0 < 1; decide
  | i + 1 => dbl_pos hb _ (pw_lt hb i) (pw_pos hb i)
theorem pw_add_nn {b : Nat} (hb : Bt b) (i : Nat) : pw b (i + nn b) = pw b i := by
  rw [← dbln_pw, pw_nn hb, show (1 : Nat) = pw b 0 from rfl, dbln_pw, Nat.add_zero]
theorem pw_add_mul {b : Nat} (hb : Bt b) (i : Nat) : ∀ k, pw b (i + nn b * k) = pw b i
  | 0 => rfl
  | k + 1 => by rw [Nat.mul_succ, ← Nat.add_assoc, pw_add_nn hb, pw_add_mul hb i k]
theorem pw_mod {b : Nat} (hb : Bt b) (i : Nat) : pw b (i % nn b) = pw b i := by
  have e := pw_add_mul hb (i % nn b) (i / nn b)
  rw [Nat.mod_add_div] at e
  exact e.symm
theorem pw_inj {b : Nat} (hb : Bt b) {i j : Nat} (hi : i < nn b) (hj : j < nn b) (e : pw b i = pw b j) : i = j := by
  have h1 := tab_get b i hi
  have h2 := tab_get b j hj
  rw [← e] at h2
  obtain ⟨a1, e1⟩ := List.getElem?_eq_some_iff.mp h1
  obtain ⟨a2, e2⟩ := List.getElem?_eq_some_iff.mp h2
  exact (List.getElem_inj (tab_nodup hb)).mp (e1.trans e2.symm)
/-- the exponent of a word -/
def lg (b x : Nat) : Nat := (tab b).idxOf x
theorem lg_lt {b : Nat} (hb : Bt b) {x : Nat} (h : x < 2 ^ b) (h0 : 0 < x) : lg b x < nn b := by
  rw [← tab_len b]
  exact List.idxOf_lt_length_of_mem (tab_mem hb x h h0)
theorem pw_lg {b : Nat} (hb : Bt b) {x : Nat} (h : x < 2 ^ b) (h0 : 0 < x) : pw b (lg b x) = x := by
  have h1 := tab_get b _ (lg_lt hb h h0)
  obtain ⟨a1, e1⟩ := List.getElem?_eq_some_iff.mp h1
  rw [← e1]
  exact List.getElem_idxOf a1
theorem lg_pw {b : Nat} (hb : Bt b) (i : Nat) : lg b (pw b i) = i % nn b :=
  pw_inj hb (lg_lt hb (pw_lt hb i) (pw_pos hb i)) (Nat.mod_lt _ (nn_pos hb)) (by rw [pw_lg hb (pw_lt hb i) (pw_pos hb i), pw_mod hb])
def mul (b x y : Nat) : Nat := if x = 0 ∨ y = 0 then 0 else pw b (lg b x + lg b y)
theorem mul_zero {b x : Nat} : mul b x 0 = 0 := if_pos (.inr rfl)
theorem zero_mul {b x : Nat} : mul b 0 x = 0 := if_pos (.inl rfl)
theorem mul_ne {b x y : Nat} (hx : x ≠ 0) (hy : y ≠ 0) : mul b x y = pw b (lg b x + lg b y) := if_neg (fun h => h.elim hx hy)
theorem mul_lt {b : Nat} (hb : Bt b) (x y : Nat) : mul b x y < 2 ^ b := by
  unfold mul
  split
  · rcases hb with rfl | rfl <;> decide
  · exact pw_lt hb _
theorem mul_pos {b : Nat} (hb : Bt b) {x y : Nat} (hx : x ≠ 0) (hy : y ≠ 0) : 0 < mul b x y := by
  rw [mul_ne hx hy]
  exact pw_pos hb _
theorem mul_comm (b x y : Nat) : mul b x y = mul b y x := by
  unfold mul
  rw [Nat.add_comm (lg b x)]
  by_cases h : x = 0 ∨ y = 0
  · rw [if_pos h, if_pos h.symm]
  · rw [if_neg h, if_neg (fun q => h q.symm)]
theorem mul_eq_zero {b : Nat} (hb : Bt b) {x y : Nat} (h : mul b x y = 0) : x = 0 ∨ y = 0 := by
  by_cases hx : x = 0
  · exact .inl hx
  · by_cases hy : y = 0
    · exact .inr hy
    · have := mul_pos hb hx hy
      omega
theorem lg_mul {b : Nat} (hb : Bt b) {x y : Nat} (hx : x ≠ 0) (hy : y ≠ 0) : lg b (mul b x y) = (lg b x + lg b y) % nn b := by
  rw [mul_ne hx hy, lg_pw hb]
theorem pw_mod_add {b : Nat} (hb : Bt b) (i j : Nat) : pw b (i % nn b + j) = pw b (i + j) := by
  rw [← pw_mod hb (i % nn b + j), ← pw_mod hb (i + j), Nat.mod_add_mod]
theorem pw_add_mod {b : Nat} (hb : Bt b) (i j : Nat) : pw b (i + j % nn b) = pw b (i + j) := by
  rw [Nat.add_comm, pw_mod_add hb, Nat.add_comm]
theorem mul_assoc {b : Nat} (hb : Bt b) (x y z : Nat) : mul b (mul b x y) z = mul b x (mul b y z) := by
  by_cases hx : x = 0
  · subst hx; rw [zero_mul, zero_mul, zero_mul]
  · by_cases hy : y = 0
    · subst hy; rw [mul_zero, zero_mul, mul_zero]
    · by_cases hz : z = 0
      · subst hz; rw [mul_zero, mul_zero, mul_zero]
      · have h1 : mul b x y ≠ 0 := Nat.ne_of_gt (mul_pos hb hx hy)
        have h2 : mul b y z ≠ 0 := Nat.ne_of_gt (mul_pos hb hy hz)
        rw [mul_ne h1 hz, mul_ne hx h2, lg_mul hb hx hy, lg_mul hb hy hz, pw_mod_add hb, pw_add_mod hb, Nat.add_assoc]
theorem dbl_zero (b : Nat) : dbl b 0 = 0 := by
  unfold dbl
  rw [if_pos (by exact Nat.two_pow_pos b)]
theorem dbln_zero (b : Nat) : ∀ k, dbln b k 0 = 0
  | 0 => rfl
  | k + 1 => by
    show dbl b (dbln b k 0) = 0
    rw [dbln_zero b k, dbl_zero]
theorem mul_dbln {b : Nat} (hb : Bt b) {x y : Nat} (hx : x ≠ 0) (hy : y < 2 ^ b) : mul b x y = dbln b (lg b x) y := by
  by_cases h : y = 0
  · subst h; rw [mul_zero, dbln_zero]
  · rw [mul_ne hx h, ← dbln_pw, pw_lg hb hy (by omega)]
theorem dbl_alt {b : Nat} (hb : Bt b) : ∀ x, x < 2 ^ b → dbl b x = (2 * x) ^^^ (if x.testBit (b - 1) then 2 ^ b + tl b else 0) := by
  rcases hb with rfl | rfl <;> decide +kernel
theorem xor_lt {b x y : Nat} (hx : x < 2 ^ b) (hy : y < 2 ^ b) : x ^^^ y < 2 ^ b := Nat.xor_lt_two_pow hx hy
theorem two_xor (x y : Nat) : 2 * (x ^^^ y) = (2 * x) ^^^ (2 * y) := by
  have e := Nat.shiftLeft_xor_distrib (a := x) (b := y) (i := 1)
  rw [Nat.shiftLeft_eq, Nat.shiftLeft_eq, Nat.shiftLeft_eq] at e
  rw [Nat.mul_comm 2, Nat.mul_comm 2, Nat.mul_comm 2]
  exact e
theorem dbl_xor {b : Nat} (hb : Bt b) {x y : Nat} (hx : x < 2 ^ b) (hy : y < 2 ^ b) : dbl b (x ^^^ y) = dbl b x ^^^ dbl b y := by
  rw [dbl_alt hb _ (xor_lt hx hy), dbl_alt hb _ hx, dbl_alt hb _ hy, two_xor, Nat.testBit_xor]
  generalize 2 ^ b + tl b = c
  generalize 2 * x = u
  generalize 2 * y = v
  cases x.testBit (b - 1) <;> cases y.testBit (b - 1) <;> simp only [Bool.xor_self, Bool.xor_false, Bool.false_xor, Bool.true_xor, Bool.not_true, Bool.not_false, if_true, Bool.false_eq_true, if_false, Nat.xor_zero]
  · rw [Nat.xor_assoc]
  · rw [Nat.xor_assoc, Nat.xor_comm v c, ← Nat.xor_assoc]
  · rw [Nat.xor_assoc u c, Nat.xor_comm c (v ^^^ c), Nat.xor_assoc v, Nat.xor_self, Nat.xor_zero]
theorem dbln_lt {b : Nat} (hb : Bt b) {x : Nat} (hx : x < 2 ^ b) : ∀ k, dbln b k x < 2 ^ b
  | 0 => hx
  | k + 1 => dbl_lt hb _ (dbln_lt hb hx k)
theorem dbln_xor {b : Nat} (hb : Bt b) {x y : Nat} (hx : x < 2 ^ b) (hy : y < 2 ^ b) : ∀ k, dbln b k (x ^^^ y) = dbln b k x ^^^ dbln b k y
  | 0 => rfl
  | k + 1 => by
    show dbl b (dbln b k (x ^^^ y)) = _
    rw [dbln_xor hb hx hy k, dbl_xor hb (dbln_lt hb hx k) (dbln_lt hb hy k)]
    rfl
theorem mul_xor {b : Nat} (hb : Bt b) (x : Nat) {y z : Nat} (hy : y < 2 ^ b) (hz : z < 2 ^ b) : mul b x (y ^^^ z) = mul b x y ^^^ mul b x z := by
  by_cases hx : x = 0
  · subst hx; rw [zero_mul, zero_mul, zero_mul]; rfl
  · rw [mul_dbln hb hx (xor_lt hy hz), mul_dbln hb hx hy, mul_dbln hb hx hz, dbln_xor hb hy hz]
theorem xor_mul {b : Nat} (hb : Bt b) (x : Nat) {y z : Nat} (hy : y < 2 ^ b) (hz : z < 2 ^ b) : mul b (y ^^^ z) x = mul b y x ^^^ mul b z x := by
  rw [mul_comm, mul_xor hb x hy hz, mul_comm, mul_comm b x z]
theorem one_lt {b : Nat} (hb : Bt b) : 1 < 2 ^ b := by rcases hb with rfl | rfl <;> decide
theorem lg_one {b : Nat} (hb : Bt b) : lg b 1 = 0 := by
  have e := lg_pw hb 0
  rw [Nat.zero_mod] at e
  exact e
theorem one_mul {b : Nat} (hb : Bt b) {x : Nat} (hx : x < 2 ^ b) : mul b 1 x = x := by
  by_cases h : x = 0
  · subst h; exact mul_zero
  · rw [mul_ne (by decide) h, lg_one hb, Nat.zero_add, pw_lg hb hx (by omega)]
theorem mul_pw {b : Nat} (hb : Bt b) {x : Nat} (hx : x ≠ 0) (e : Nat) : mul b x (pw b e) = pw b (lg b x + e) := by
  rw [mul_ne hx (Nat.ne_of_gt (pw_pos hb e)), lg_pw hb, pw_add_mod hb]
theorem inv_mul {b : Nat} (hb : Bt b) {x : Nat} (hx : x < 2 ^ b) (h0 : 0 < x) : mul b (pw b (nn b - lg b x)) x = 1 := by
  have h := lg_lt hb hx h0
  rw [mul_comm, mul_pw hb (by omega), show lg b x + (nn b - lg b x) = nn b by omega, pw_nn hb]
theorem xor_eq_zero {x y : Nat} (h : x ^^^ y = 0) : x = y := by
  have e : (x ^^^ y) ^^^ y = y := by rw [h, Nat.zero_xor]
  rw [Nat.xor_assoc, Nat.xor_self, Nat.xor_zero] at e
  exact e
end Tw

/-! values of polynomials, the polynomial of the right rows -/
namespace Tw
/-- the value of words, the highest power first -/
def evf (b a : Nat) (acc : Nat) (l : List Nat) : Nat := l.foldl (fun s w => mul b s a ^^^ w) acc
def ev (b a : Nat) (l : List Nat) : Nat := evf b a 0 l
def Ws (b : Nat) (l : List Nat) : Prop := ∀ w ∈ l, w < 2 ^ b
theorem evf_append (b a : Nat) : ∀ (l m : List Nat) (s : Nat), evf b a s (l ++ m) = evf b a (evf b a s l) m := fun l m s => List.foldl_append
theorem ev_snoc (b a : Nat) (l : List Nat) (w : Nat) : ev b a (l ++ [w]) = mul b (ev b a l) a ^^^ w := by
  unfold ev
  rw [evf_append]
  rfl
theorem evf_lt {b : Nat} (hb : Bt b) (a : Nat) : ∀ (l : List Nat) (s : Nat), Ws b l → s < 2 ^ b → evf b a s l < 2 ^ b
  | [], s, _, hs => hs
  | w :: l, s, h, _ => evf_lt hb a l _ (fun x hx => h x (List.mem_cons_of_mem _ hx)) (xor_lt (mul_lt hb _ _) (h w List.mem_cons_self))
theorem zero_lt {b : Nat} : 0 < 2 ^ b := Nat.two_pow_pos b
theorem ev_lt {b : Nat} (hb : Bt b) (a : Nat) (l : List Nat) (h : Ws b l) : ev b a l < 2 ^ b := evf_lt hb a l 0 h zero_lt
theorem ev_zeros (b a : Nat) : ∀ (m : Nat) (l : List Nat), ev b a (List.replicate m 0 ++ l) = ev b a l
  | 0, l => rfl
  | m + 1, l => by
    have e := ev_zeros b a m l
    unfold ev at *
    rw [List.replicate_succ]
    show evf b a (mul b 0 a ^^^ 0) (List.replicate m 0 ++ l) = _
    rw [zero_mul]
    exact e
theorem ev_allzeros (b a m : Nat) : ev b a (List.replicate m 0) = 0 := by
  have e := ev_zeros b a m []
  rw [List.append_nil] at e
  exact e
/-- the sum of two rows of one length -/
def addL (l m : List Nat) : List Nat := List.zipWith (· ^^^ ·) l m
theorem evf_add {b : Nat} (hb : Bt b) (a : Nat) : ∀ (l m : List Nat) (s t : Nat), l.length = m.length → Ws b l → Ws b m → s < 2 ^ b → t < 2 ^ b → evf b a (s ^^^ t) (addL l m) = evf b a s l ^^^ evf b a t m
  | [], [], s, t, _, _, _, _, _ => rfl
  | [], _ :: _, _, _, h, _, _, _, _ => by simp at h
  | _ :: _, [], _, _, h, _, _, _, _ => by simp at h
  | x :: l, y :: m, s, t, h, hl, hm, hs, ht => by
    show evf b a (mul b (s ^^^ t) a ^^^ (x ^^^ y)) (addL l m) = evf b a (mul b s a ^^^ x) l ^^^ evf b a (mul b t a ^^^ y) m
    have e : mul b (s ^^^ t) a ^^^ (x ^^^ y) = (mul b s a ^^^ x) ^^^ (mul b t a ^^^ y) := by
      rw [xor_mul hb a hs ht, Nat.xor_assoc, Nat.xor_assoc, ← Nat.xor_assoc (mul b t a), Nat.xor_comm (mul b t a) x, Nat.xor_assoc x]
    rw [e]
    exact evf_add hb a l m _ _ (by simpa using h) (fun w hw => hl w (List.mem_cons_of_mem _ hw)) (fun w hw => hm w (List.mem_cons_of_mem _ hw))
      (xor_lt (mul_lt hb _ _) (hl x List.mem_cons_self)) (xor_lt (mul_lt hb _ _) (hm y List.mem_cons_self))
theorem ev_add {b : Nat} (hb : Bt b) (a : Nat) (l m : List Nat) (h : l.length = m.length) (hl : Ws b l) (hm : Ws b m) : ev b a (addL l m) = ev b a l ^^^ ev b a m :=
  evf_add hb a l m 0 0 h hl hm zero_lt zero_lt
/-- a row with all words multiplied -/
def mulL (b : Nat) (l : List Nat) (r : Nat) : List Nat := l.map fun w => mul b w r
theorem evf_mul {b : Nat} (hb : Bt b) (a r : Nat) : ∀ (l : List Nat) (s : Nat), Ws b l → evf b a (mul b s r) (mulL b l r) = mul b (evf b a s l) r
  | [], _, _ => rfl
  | x :: l, s, h => by
    show evf b a (mul b (mul b s r) a ^^^ mul b x r) (mulL b l r) = mul b (evf b a (mul b s a ^^^ x) l) r
    rw [mul_assoc hb, mul_comm b r a, ← mul_assoc hb, ← xor_mul hb r (mul_lt hb _ _) (h x List.mem_cons_self)]
    exact evf_mul hb a r l _ fun w hw => h w (List.mem_cons_of_mem _ hw)
theorem ev_mul {b : Nat} (hb : Bt b) (a r : Nat) (l : List Nat) (h : Ws b l) : ev b a (mulL b l r) = mul b (ev b a l) r := by
  have e := evf_mul hb a r l 0 h
  rw [zero_mul] at e
  exact e
/-- times (x + r) -/
def stepG (b : Nat) (g : List Nat) (r : Nat) : List Nat := addL (g ++ [0]) (0 :: mulL b g r)
theorem stepG_len (b : Nat) (g : List Nat) (r : Nat) : (stepG b g r).length = g.length + 1 := by
  unfold stepG addL mulL
  simp only [List.length_zipWith, List.length_append, List.length_cons, List.length_map, List.length_nil]
  omega
theorem Ws_mulL {b : Nat} (hb : Bt b) (l : List Nat) (r : Nat) : Ws b (mulL b l r) := fun w hw => by
  obtain ⟨x, _, rfl⟩ := List.mem_map.mp hw
  exact mul_lt hb _ _
theorem Ws_cons {b x : Nat} {l : List Nat} (hx : x < 2 ^ b) (h : Ws b l) : Ws b (x :: l) := fun w hw => by
  rcases List.mem_cons.mp hw with rfl | hw
  · exact hx
  · exact h w hw
theorem Ws_append {b : Nat} {l m : List Nat} (hl : Ws b l) (h : Ws b m) : Ws b (l ++ m) := fun w hw => (List.mem_append.mp hw).elim (hl w) (h w)
theorem Ws_nil {b : Nat} : Ws b [] := fun w hw => by cases hw
theorem Ws_zeros {b m : Nat} : Ws b (List.replicate m 0) := fun w hw => by
  rw [(List.mem_replicate.mp hw).2]
  exact zero_lt
theorem Ws_addL {b : Nat} : ∀ {l m : List Nat}, Ws b l → Ws b m → Ws b (addL l m)
  | [], _, _, _ => Ws_nil
  | _ :: _, [], _, _ => Ws_nil
  | x :: l, y :: m, hl, hm => Ws_cons (xor_lt (hl x List.mem_cons_self) (hm y List.mem_cons_self))
      (Ws_addL (fun w hw => hl w (List.mem_cons_of_mem _ hw)) (fun w hw => hm w (List.mem_cons_of_mem _ hw)))
theorem Ws_stepG {b : Nat} (hb : Bt b) {g : List Nat} (h : Ws b g) (r : Nat) : Ws b (stepG b g r) :=
  Ws_addL (Ws_append h (Ws_cons zero_lt Ws_nil)) (Ws_cons zero_lt (Ws_mulL hb g r))
theorem ev_stepG {b : Nat} (hb : Bt b) (a r : Nat) {g : List Nat} (h : Ws b g) : ev b a (stepG b g r) = mul b (ev b a g) a ^^^ mul b (ev b a g) r := by
  unfold stepG
  have hl : (g ++ [0]).length = (0 :: mulL b g r).length := by
    unfold mulL
    simp only [List.length_append, List.length_cons, List.length_map, List.length_nil]
  rw [ev_add hb a _ _ hl (Ws_append h (Ws_cons zero_lt Ws_nil)) (Ws_cons zero_lt (Ws_mulL hb g r)), ev_snoc, Nat.xor_zero]
  have e : ev b a (0 :: mulL b g r) = ev b a (mulL b g r) := ev_zeros b a 1 _
  rw [e, ev_mul hb a r g h]
/-- the polynomial whose roots are 2 to the powers from start on -/
def mk (b start : Nat) : Nat → List Nat
  | 0 => [1]
  | s + 1 => stepG b (mk b start s) (pw b (start + s))
theorem mk_len (b start : Nat) : ∀ s, (mk b start s).length = s + 1
  | 0 => rfl
  | s + 1 => by
    show (stepG b _ _).length = _
    rw [stepG_len, mk_len b start s]
theorem Ws_mk {b : Nat} (hb : Bt b) (start : Nat) : ∀ s, Ws b (mk b start s)
  | 0 => Ws_cons (one_lt hb) Ws_nil
  | s + 1 => Ws_stepG hb (Ws_mk hb start s) _
theorem mk_head (b start : Nat) : ∀ s, ∃ t, mk b start s = 1 :: t
  | 0 => ⟨[], rfl⟩
  | s + 1 => by
    obtain ⟨t, e⟩ := mk_head b start s
    show ∃ t', stepG b (mk b start s) (pw b (start + s)) = 1 :: t'
    rw [e]
    exact ⟨_, rfl⟩
theorem mk_root {b : Nat} (hb : Bt b) (start : Nat) : ∀ s k, k < s → ev b (pw b (start + k)) (mk b start s) = 0
  | 0, k, h => by omega
  | s + 1, k, h => by
    show ev b _ (stepG b _ _) = 0
    rw [ev_stepG hb _ _ (Ws_mk hb start s)]
    by_cases e : k = s
    · subst e
      exact Nat.xor_self _
    · rw [mk_root hb start s k (by omega), zero_mul, zero_mul]
      rfl
/-- the row whose last data word is 1, the others 0 -/
def lone (b start many length : Nat) : List Nat := List.replicate (length - many - 1) 0 ++ mk b start many
theorem lone_len {b start many length : Nat} (h : many < length) : (lone b start many length).length = length := by
  unfold lone
  rw [List.length_append, List.length_replicate, mk_len]
  omega
theorem Ws_lone {b : Nat} (hb : Bt b) (start many length : Nat) : Ws b (lone b start many length) := Ws_append Ws_zeros (Ws_mk hb start many)
theorem lone_root {b : Nat} (hb : Bt b) (start many length k : Nat) (h : k < many) : ev b (pw b (start + k)) (lone b start many length) = 0 := by
  unfold lone
  rw [ev_zeros, mk_root hb start many k h]
/-- a row is right -/
def right (b many start : Nat) (l : List Nat) : Bool := (List.range many).all fun k => ev b (pw b (start + k)) l == 0
theorem right_lone {b : Nat} (hb : Bt b) (start many length : Nat) : right b many start (lone b start many length) = true := by
  unfold right
  rw [List.all_eq_true]
  intro k hk
  rw [lone_root hb start many length k (List.mem_range.mp hk)]
  rfl
theorem right_zeros (b many start n : Nat) : right b many start (List.replicate n 0) = true := by
  unfold right
  rw [List.all_eq_true]
  intro k _
  rw [ev_allzeros]
  rfl
theorem mul_one_zero {b a : Nat} : mul b 0 a = 0 := zero_mul
/-- .. with the last word 1 it is not -/
theorem not_right_one {b many start n : Nat} (hm : 0 < many) : right b many start (List.replicate n 0 ++ [1]) = false := by
  unfold right
  rw [List.all_eq_false]
  refine ⟨0, List.mem_range.mpr hm, ?_⟩
  rw [ev_snoc, ev_allzeros, zero_mul]
  decide
end Tw

/-! linear equations: the powers' matrix has no kernel; elimination keeps that, so a pivot never lacks -/
namespace Tw
def xs : Nat → (Nat → Nat) → Nat
  | 0, _ => 0
  | n + 1, f => xs n f ^^^ f n
theorem xs_zero : ∀ {n : Nat} {f : Nat → Nat}, (∀ j, j < n → f j = 0) → xs n f = 0
  | 0, _, _ => rfl
  | n + 1, f, h => by
    show xs n f ^^^ f n = 0
    rw [xs_zero fun j hj => h j (by omega), h n (by omega)]
    rfl
theorem xs_congr : ∀ {n : Nat} {f g : Nat → Nat}, (∀ j, j < n → f j = g j) → xs n f = xs n g
  | 0, _, _, _ => rfl
  | n + 1, f, g, h => by
    show xs n f ^^^ f n = xs n g ^^^ g n
    rw [xs_congr fun j hj => h j (by omega), h n (by omega)]
theorem xs_lt {b : Nat} : ∀ {n : Nat} {f : Nat → Nat}, (∀ j, j < n → f j < 2 ^ b) → xs n f < 2 ^ b
  | 0, _, _ => zero_lt
  | n + 1, f, h => xor_lt (xs_lt fun j hj => h j (by omega)) (h n (by omega))
theorem xor4 (a b c d : Nat) : (a ^^^ b) ^^^ (c ^^^ d) = (a ^^^ c) ^^^ (b ^^^ d) := by
  rw [Nat.xor_assoc, Nat.xor_assoc, ← Nat.xor_assoc b, Nat.xor_comm b c, Nat.xor_assoc c]
theorem xs_add : ∀ (n : Nat) (f g : Nat → Nat), xs n (fun j => f j ^^^ g j) = xs n f ^^^ xs n g
  | 0, _, _ => (Nat.xor_self 0).symm
  | n + 1, f, g => by
    show xs n (fun j => f j ^^^ g j) ^^^ (f n ^^^ g n) = (xs n f ^^^ f n) ^^^ (xs n g ^^^ g n)
    rw [xs_add n f g, xor4]
theorem xs_mul {b : Nat} (hb : Bt b) (r : Nat) : ∀ (n : Nat) (f : Nat → Nat), (∀ j, j < n → f j < 2 ^ b) → xs n (fun j => mul b r (f j)) = mul b r (xs n f)
  | 0, _, _ => mul_zero.symm
  | n + 1, f, h => by
    show xs n (fun j => mul b r (f j)) ^^^ mul b r (f n) = mul b r (xs n f ^^^ f n)
    rw [xs_mul hb r n f fun j hj => h j (by omega), mul_xor hb r (xs_lt fun j hj => h j (by omega)) (h n (by omega))]
theorem mul_one {b : Nat} (hb : Bt b) {x : Nat} (hx : x < 2 ^ b) : mul b x 1 = x := by rw [mul_comm, one_mul hb hx]
theorem pw_mul_pw {b : Nat} (hb : Bt b) (i j : Nat) : mul b (pw b i) (pw b j) = pw b (i + j) := by
  rw [mul_pw hb (Nat.ne_of_gt (pw_pos hb i)), lg_pw hb, pw_mod_add hb]
/-- the powers' matrix has no kernel -/
theorem vand {b : Nat} (hb : Bt b) : ∀ (m : Nat) (s c : Nat → Nat), (∀ j, j < m → s j < nn b) → (∀ i j, i < m → j < m → s i = s j → i = j) → (∀ j, j < m → c j < 2 ^ b) →
    (∀ i, i < m → xs m (fun j => mul b (c j) (pw b (s j * i))) = 0) → ∀ j, j < m → c j = 0
  | 0, _, _, _, _, _, _, j, h => by omega
  | m + 1, s, c, hs, hd, hc, h0, j, hj => by
    have step : ∀ j, j < m → mul b (c j) (pw b (s j) ^^^ pw b (s m)) = 0 := by
      refine vand hb m s (fun j => mul b (c j) (pw b (s j) ^^^ pw b (s m))) (fun j hj => hs j (by omega)) (fun i j hi hj => hd i j (by omega) (by omega)) (fun j _ => mul_lt hb _ _) fun i hi => ?_
      have e1 : xs m (fun j => mul b (c j) (pw b (s j * i))) = mul b (c m) (pw b (s m * i)) := xor_eq_zero (h0 i (by omega))
      have e2 : xs m (fun j => mul b (c j) (pw b (s j * (i + 1)))) = mul b (c m) (pw b (s m * (i + 1))) := xor_eq_zero (h0 (i + 1) (by omega))
      have e3 : xs m (fun j => mul b (mul b (c j) (pw b (s j) ^^^ pw b (s m))) (pw b (s j * i))) =
          xs m (fun j => mul b (c j) (pw b (s j * (i + 1))) ^^^ mul b (pw b (s m)) (mul b (c j) (pw b (s j * i)))) := xs_congr fun j hj => by
        rw [mul_xor hb _ (pw_lt hb _) (pw_lt hb _), xor_mul hb _ (mul_lt hb _ _) (mul_lt hb _ _), mul_assoc hb, pw_mul_pw hb, show s j + s j * i = s j * (i + 1) by rw [Nat.mul_succ]; omega, mul_comm b (c j) (pw b (s m)), mul_assoc hb]
      show xs m (fun j => mul b (mul b (c j) (pw b (s j) ^^^ pw b (s m))) (pw b (s j * i))) = 0
      rw [e3, xs_add, e2, xs_mul hb _ _ _ (fun j _ => mul_lt hb _ _), e1, mul_comm b (pw b (s m)), mul_assoc hb, pw_mul_pw hb, show s m * i + s m = s m * (i + 1) by rw [Nat.mul_succ]]
      exact Nat.xor_self _
    have low : ∀ j, j < m → c j = 0 := fun j hj => by
      rcases mul_eq_zero hb (step j hj) with e | e
      · exact e
      · have e' := pw_inj hb (hs j (by omega)) (hs m (by omega)) (xor_eq_zero e)
        have := hd j m (by omega) (by omega) e'
        omega
    by_cases e : j = m
    · subst e
      have h1 := h0 0 (by omega)
      have h2 : xs j (fun j => mul b (c j) (pw b (s j * 0))) ^^^ mul b (c j) (pw b (s j * 0)) = 0 := h1
      rw [xs_zero fun i hi => by rw [low i hi, zero_mul], Nat.zero_xor, Nat.mul_zero] at h2
      have h3 : mul b (c j) 1 = 0 := h2
      rwa [mul_one hb (hc j (by omega))] at h3
    · exact low j (by omega)

/-! ### lines -/
def row (A : List (List Nat)) (i : Nat) : List Nat := A.getD i []
def at0 (l : List Nat) (j : Nat) : Nat := l.getD j 0
def dot (b m : Nat) (l : List Nat) (c : Nat → Nat) : Nat := xs m fun j => mul b (at0 l j) (c j)
structure Mx (b m : Nat) (A : List (List Nat)) : Prop where
  len : A.length = m
  lens : ∀ i, i < m → (row A i).length = m + 1
  ws : ∀ i, i < m → Ws b (row A i)
def Ker (b m : Nat) (A : List (List Nat)) : Prop := ∀ c : Nat → Nat, (∀ j, c j < 2 ^ b) → (∀ i, i < m → dot b m (row A i) c = 0) → ∀ j, j < m → c j = 0
def Un (m : Nat) (A : List (List Nat)) (n : Nat) : Prop := ∀ i j, i < m → j < n → at0 (row A i) j = if i = j then 1 else 0
structure St (b m : Nat) (A : List (List Nat)) (n : Nat) : Prop where
  mx : Mx b m A
  ker : Ker b m A
  un : Un m A n
theorem at0_lt {b : Nat} {l : List Nat} (h : Ws b l) (j : Nat) : at0 l j < 2 ^ b := by
  unfold at0
  rw [List.getD_eq_getElem?_getD]
  cases e : l[j]? with
  | none => exact zero_lt
  | some x => exact h x (List.mem_of_getElem? e)
theorem row_set_self {A : List (List Nat)} {i : Nat} {l : List Nat} (h : i < A.length) : row (A.set i l) i = l := by
  unfold row
  rw [List.getD_eq_getElem?_getD, List.getElem?_set_self h]
  rfl
theorem row_set_ne {A : List (List Nat)} {i j : Nat} {l : List Nat} (h : i ≠ j) : row (A.set i l) j = row A j := by
  unfold row
  rw [List.getD_eq_getElem?_getD, List.getD_eq_getElem?_getD, List.getElem?_set_ne h]
theorem Mx.set {b m : Nat} {A : List (List Nat)} {i : Nat} {l : List Nat} (h : Mx b m A) (hl : l.length = m + 1) (hw : Ws b l) : Mx b m (A.set i l) := by
  refine ⟨by rw [List.length_set, h.len], fun j hj => ?_, fun j hj => ?_⟩ <;> by_cases e : i = j
  · subst e; rw [row_set_self (by rw [h.len]; exact hj)]; exact hl
  · rw [row_set_ne e]; exact h.lens j hj
  · subst e; rw [row_set_self (by rw [h.len]; exact hj)]; exact hw
  · rw [row_set_ne e]; exact h.ws j hj
/-- a pivot is there -/
theorem pivot {b m n : Nat} (hb : Bt b) {A : List (List Nat)} (S : St b m A n) (hn : n < m) : ∃ p, n ≤ p ∧ p < m ∧ at0 (row A p) n ≠ 0 := by
  refine Classical.byContradiction fun hno => ?_
  have z : ∀ p, n ≤ p → p < m → at0 (row A p) n = 0 := fun p h1 h2 => Classical.byContradiction fun h => hno ⟨p, h1, h2, h⟩
  let c : Nat → Nat := fun j => if j = n then 1 else if j < n then at0 (row A j) n else 0
  have c1 : c n = 1 := if_pos rfl
  have c2 : ∀ j, j < n → c j = at0 (row A j) n := fun j hj => by
    show (if j = n then 1 else if j < n then at0 (row A j) n else 0) = _
    rw [if_neg (by omega), if_pos hj]
  have c3 : ∀ j, n < j → c j = 0 := fun j hj => by
    show (if j = n then 1 else if j < n then at0 (row A j) n else 0) = _
    rw [if_neg (by omega), if_neg (by omega)]
  have hc : ∀ j, c j < 2 ^ b := fun j => by
    show (if j = n then 1 else if j < n then at0 (row A j) n else 0) < _
    split
    · exact one_lt hb
    · split
      · exact at0_lt (S.mx.ws j (by omega)) n
      · exact zero_lt
  have one0 := S.ker c hc (fun i hi => ?_) n hn
  · rw [c1] at one0; cases one0
  · unfold dot
    have low : ∀ k, k ≤ n → xs k (fun j => mul b (at0 (row A i) j) (c j)) = if i < k then at0 (row A i) n else 0 := by
      intro k
      induction k with
      | zero => intro _; rw [if_neg (by omega)]; rfl
      | succ k ih =>
        intro hk
        show xs k _ ^^^ mul b (at0 (row A i) k) (c k) = _
        rw [ih (by omega), S.un i k hi (by omega), c2 k (by omega)]
        by_cases e : i = k
        · subst e
          rw [if_neg (by omega), if_pos rfl, if_pos (by omega), one_mul hb (at0_lt (S.mx.ws i hi) n), Nat.zero_xor]
        · rw [if_neg e, zero_mul, Nat.xor_zero]
          by_cases e2 : i < k
          · rw [if_pos e2, if_pos (by omega)]
          · rw [if_neg e2, if_neg (by omega)]
    have mid : xs (n + 1) (fun j => mul b (at0 (row A i) j) (c j)) = 0 := by
      show xs n _ ^^^ mul b (at0 (row A i) n) (c n) = 0
      rw [low n (Nat.le_refl _), c1, mul_one hb (at0_lt (S.mx.ws i hi) n)]
      by_cases e : i < n
      · rw [if_pos e]; exact Nat.xor_self _
      · rw [if_neg e, z i (by omega) hi]; rfl
    have high : ∀ k, n + 1 ≤ k → xs k (fun j => mul b (at0 (row A i) j) (c j)) = 0 := by
      intro k hk
      induction k with
      | zero => omega
      | succ k ih =>
        by_cases e : n + 1 = k + 1
        · rw [← e]; exact mid
        · show xs k _ ^^^ mul b (at0 (row A i) k) (c k) = 0
          rw [ih (by omega), c3 k (by omega), mul_zero]; rfl
    exact high m (by omega)
/-- two lines change places -/
theorem St.swap {b m n p : Nat} {A : List (List Nat)} (S : St b m A n) (h1 : n ≤ p) (h2 : p < m) : St b m ((A.set n (row A p)).set p (row A n)) n := by
  have hn : n < m := by omega
  have L := S.mx.len
  have key : ∀ i, i < m → row ((A.set n (row A p)).set p (row A n)) i = if i = p then row A n else if i = n then row A p else row A i := fun i hi => by
    by_cases e : p = i
    · subst e; rw [if_pos rfl, row_set_self (by rw [List.length_set, L]; exact hi)]
    · rw [row_set_ne e, if_neg (fun q => e q.symm)]
      by_cases e2 : n = i
      · subst e2; rw [if_pos rfl, row_set_self (by rw [L]; exact hi)]
      · rw [row_set_ne e2, if_neg (fun q => e2 q.symm)]
  refine ⟨(S.mx.set (S.mx.lens p h2) (S.mx.ws p h2)).set (S.mx.lens n hn) (S.mx.ws n hn), fun c hc h0 => S.ker c hc fun i hi => ?_, fun i j hi hj => ?_⟩
  · by_cases e : i = n
    · have q := h0 p h2
      rw [key p h2, if_pos rfl] at q
      rw [e]; exact q
    · by_cases e2 : i = p
      · have q := h0 n hn
        rw [key n hn] at q
        by_cases e3 : n = p
        · rw [if_pos e3] at q; rw [e2, ← e3]; exact q
        · rw [if_neg e3, if_pos rfl] at q; rw [e2]; exact q
      · have q := h0 i hi
        rw [key i hi, if_neg e2, if_neg e] at q
        exact q
  · rw [key i hi]
    by_cases e : i = p
    · rw [if_pos e, S.un n j hn hj, if_neg (by omega), if_neg (by omega)]
    · rw [if_neg e]
      by_cases e2 : i = n
      · rw [if_pos e2, S.un p j h2 hj, if_neg (by omega), if_neg (by omega)]
      · rw [if_neg e2]; exact S.un i j hi hj
theorem swap_at {b m n p : Nat} {A : List (List Nat)} (M : Mx b m A) (hn : n < m) : row ((A.set n (row A p)).set p (row A n)) n = row A p := by
  by_cases e : p = n
  · subst e; rw [row_set_self (by rw [List.length_set, M.len]; exact hn)]
  · rw [row_set_ne e, row_set_self (by rw [M.len]; exact hn)]
theorem at0_map {f : Nat → Nat} (hf : f 0 = 0) (l : List Nat) (j : Nat) : at0 (l.map f) j = f (at0 l j) := by
  unfold at0
  rw [List.getD_eq_getElem?_getD, List.getD_eq_getElem?_getD, List.getElem?_map]
  cases l[j]? with
  | none => exact hf.symm
  | some x => rfl
theorem dot_map {b m : Nat} (hb : Bt b) (r : Nat) {l : List Nat} {c : Nat → Nat} : dot b m (l.map (mul b r)) c = mul b r (dot b m l c) := by
  unfold dot
  rw [← xs_mul hb r m _ fun j _ => mul_lt hb _ _]
  refine xs_congr fun j _ => ?_
  show mul b (at0 (l.map (mul b r)) j) (c j) = mul b r (mul b (at0 l j) (c j))
  rw [at0_map mul_zero, mul_assoc hb]
/-- a line multiplied -/
theorem St.scale {b m n r : Nat} (hb : Bt b) {A : List (List Nat)} (S : St b m A n) (hn : n < m) (hr : r ≠ 0) : St b m (A.set n ((row A n).map (mul b r))) n := by
  have L := S.mx.len
  refine ⟨S.mx.set (by rw [List.length_map]; exact S.mx.lens n hn) (fun w hw => ?_), fun c hc h0 => S.ker c hc fun i hi => ?_, fun i j hi hj => ?_⟩
  · obtain ⟨x, _, rfl⟩ := List.mem_map.mp hw
    exact mul_lt hb _ _
  · have q := h0 i hi
    by_cases e : n = i
    · subst e
      rw [row_set_self (by rw [L]; exact hi), dot_map hb] at q
      exact (mul_eq_zero hb q).resolve_left hr
    · rw [row_set_ne e] at q; exact q
  · by_cases e : n = i
    · subst e
      rw [row_set_self (by rw [L]; exact hi), at0_map mul_zero, S.un n j hi hj, if_neg (by omega), mul_zero]
    · rw [row_set_ne e]; exact S.un i j hi hj
/-- one line with a multiple of another added -/
def addRow (b f : Nat) (one two : List Nat) : List Nat := List.zipWith (fun x y => x ^^^ mul b f y) one two
theorem at0_addRow {b f : Nat} : ∀ {one two : List Nat} (j : Nat), one.length = two.length → at0 (addRow b f one two) j = at0 one j ^^^ mul b f (at0 two j)
  | [], [], j, _ => by
    show at0 [] j = at0 [] j ^^^ mul b f (at0 [] j)
    have e : at0 [] j = 0 := rfl
    rw [e, mul_zero]; rfl
  | [], _ :: _, _, h => by simp at h
  | _ :: _, [], _, h => by simp at h
  | x :: one, y :: two, 0, _ => rfl
  | x :: one, y :: two, j + 1, h => at0_addRow (one := one) (two := two) j (by simpa using h)
theorem addRow_len {b f : Nat} {one two : List Nat} (h : one.length = two.length) : (addRow b f one two).length = one.length := by
  unfold addRow
  rw [List.length_zipWith, ← h, Nat.min_self]
theorem Ws_addRow {b f : Nat} (hb : Bt b) : ∀ {one two : List Nat}, Ws b one → Ws b (addRow b f one two)
  | [], _, _ => Ws_nil
  | _ :: _, [], _ => Ws_nil
  | x :: one, y :: two, h => Ws_cons (xor_lt (h x List.mem_cons_self) (mul_lt hb _ _)) (Ws_addRow hb fun w hw => h w (List.mem_cons_of_mem _ hw))
theorem dot_addRow {b m f : Nat} (hb : Bt b) {one two : List Nat} {c : Nat → Nat} (h : one.length = two.length) (h1 : Ws b one) : dot b m (addRow b f one two) c = dot b m one c ^^^ mul b f (dot b m two c) := by
  unfold dot
  rw [← xs_mul hb f m _ fun j _ => mul_lt hb _ _, ← xs_add]
  refine xs_congr fun j _ => ?_
  rw [at0_addRow j h, xor_mul hb _ (at0_lt h1 j) (mul_lt hb _ _), mul_assoc hb]
theorem St.add {b m n i f : Nat} (hb : Bt b) {A : List (List Nat)} (S : St b m A n) (hn : n < m) (hi : i < m) (hin : i ≠ n) : St b m (A.set i (addRow b f (row A i) (row A n))) n := by
  have L := S.mx.len
  have hl : (row A i).length = (row A n).length := by rw [S.mx.lens i hi, S.mx.lens n hn]
  refine ⟨S.mx.set (by rw [addRow_len hl]; exact S.mx.lens i hi) (Ws_addRow hb (S.mx.ws i hi)), fun c hc h0 => S.ker c hc fun k hk => ?_, fun k j hk hj => ?_⟩
  · by_cases e : i = k
    · subst e
      have q := h0 i hi
      have qn := h0 n hn
      rw [row_set_ne hin] at qn
      rw [row_set_self (by rw [L]; exact hi), dot_addRow hb hl (S.mx.ws i hi), qn, mul_zero, Nat.xor_zero] at q
      exact q
    · have q := h0 k hk
      rw [row_set_ne e] at q; exact q
  · by_cases e : i = k
    · subst e
      rw [row_set_self (by rw [L]; exact hi), at0_addRow j hl, S.un i j hi hj, S.un n j hn hj, if_neg (show ¬ n = j by omega), mul_zero, Nat.xor_zero]
    · rw [row_set_ne e]; exact S.un k j hk hj
/-- within the elimination of column n: its line has a 1 there, the first k others a 0 -/
structure StIn (b m : Nat) (A : List (List Nat)) (n k : Nat) : Prop where
  st : St b m A n
  one : at0 (row A n) n = 1
  none_ : ∀ i, i < k → i < m → i ≠ n → at0 (row A i) n = 0
theorem StIn.start {b m n : Nat} (hb : Bt b) {A : List (List Nat)} (S : St b m A n) (hn : n < m) (h0 : at0 (row A n) n ≠ 0) {r : Nat} (hr : r = pw b (nn b - lg b (at0 (row A n) n))) :
    StIn b m (A.set n ((row A n).map (mul b r))) n 0 := by
  have hr0 : r ≠ 0 := by rw [hr]; exact Nat.ne_of_gt (pw_pos hb _)
  refine ⟨S.scale hb hn hr0, ?_, fun i h => by omega⟩
  rw [row_set_self (by rw [S.mx.len]; exact hn), at0_map mul_zero, hr, inv_mul hb (at0_lt (S.mx.ws n hn) n) (by omega)]
theorem StIn.skip {b m n k : Nat} {A : List (List Nat)} (S : StIn b m A n k) (h : k = n ∨ at0 (row A k) n = 0) : StIn b m A n (k + 1) :=
  ⟨S.st, S.one, fun i hi hm hne => by
    by_cases e : i = k
    · subst e
      exact h.resolve_left hne
    · exact S.none_ i (by omega) hm hne⟩
theorem StIn.add {b m n k : Nat} (hb : Bt b) {A : List (List Nat)} (S : StIn b m A n k) (hn : n < m) (hk : k < m) (hne : k ≠ n) :
    StIn b m (A.set k (addRow b (at0 (row A k) n) (row A k) (row A n))) n (k + 1) := by
  have L := S.st.mx.len
  have hl : (row A k).length = (row A n).length := by rw [S.st.mx.lens k hk, S.st.mx.lens n hn]
  refine ⟨S.st.add hb hn hk hne, by rw [row_set_ne hne]; exact S.one, fun i hi hm hin => ?_⟩
  by_cases e : k = i
  · subst e
    rw [row_set_self (by rw [L]; exact hk), at0_addRow n hl, S.one, mul_one hb (at0_lt (S.st.mx.ws k hk) n)]
    exact Nat.xor_self _
  · rw [row_set_ne e]; exact S.none_ i (by omega) hm hin
theorem StIn.done {b m n : Nat} {A : List (List Nat)} (S : StIn b m A n m) : St b m A (n + 1) :=
  ⟨S.st.mx, S.st.ker, fun i j hi hj => by
    by_cases e : j = n
    · subst e
      by_cases e2 : i = j
      · subst e2; rw [if_pos rfl]; exact S.one
      · rw [if_neg e2]; exact S.none_ i hi hi e2
    · exact S.st.un i j hi (by omega)⟩
/-- the lines for what must be added at some places -/
theorem St.init {b m start : Nat} (hb : Bt b) {A : List (List Nat)} {s : Nat → Nat} (M : Mx b m A) (hs : ∀ j, j < m → s j < nn b) (hd : ∀ i j, i < m → j < m → s i = s j → i = j)
    (hA : ∀ i j, i < m → j < m → at0 (row A i) j = pw b (s j * (start + i))) : St b m A 0 := by
  refine ⟨M, fun c hc h0 j hj => ?_, fun i j _ h => by omega⟩
  have q := vand hb m s (fun j => mul b (c j) (pw b (s j * start))) hs hd (fun j _ => mul_lt hb _ _) (fun i hi => ?_) j hj
  · rcases mul_eq_zero hb q with e | e
    · exact e
    · exact absurd e (Nat.ne_of_gt (pw_pos hb _))
  · have e := h0 i hi
    unfold dot at e
    rw [← e]
    refine xs_congr fun j hj => ?_
    show mul b (mul b (c j) (pw b (s j * start))) (pw b (s j * i)) = mul b (at0 (row A i) j) (c j)
    rw [hA i j hi hj, mul_assoc hb, pw_mul_pw hb, ← Nat.mul_add, mul_comm]
end Tw

namespace Tw
open PySem PySem.Spec PyProof.Rows L2
/-! ### a def that is called: where it stands and what it keeps -/
structure Cal (P : Program) (w : World) (K : PySem.W.Frag) (mg : Str → Option Value) (base : Heap) (cx : CXT) (k : Nat) (x : Str) (ps : List Str) (sp : Sp) : Prop where
  ex : ∃ f fd, FnOk P w K mg base cx k f fd ps sp ∧ mg x = some (.ref f) ∧ PySem.W.keepIn K (.ref f) = true ∧ Binds K fd ps []
section
variable {X : Cx} {cx : CXT} {k : Nat} {x : Str} {ps : List Str} {sp : Sp} {E : XK} {e : Expr} {es : List Expr} {t : TA} {p pos : Pos}
theorem pe_cal (c : Cal X.prog X.w X.K X.mg X.base cx k x ps sp) (hr : Room k X.A) (hx : Passes cx X E) (ha : PA X (e :: es) t) (hg : Gl X x := by rfl)
    (hdb : (x == ("__debug__" : Str)) = false := by decide) (he : starEach (e :: es) X.env = (false, eval e X.env) :: starEach es X.env := by rfl) (hpl : (backTo pos (starEach es X.env)).any (·.1) = false := by rfl) :
    PE X (.Call (.Name x p) (e :: es) [] pos) (tCall sp [] E t) := by
  obtain ⟨f, fd, F, hm, hk, hb⟩ := c.ex
  exact pe_call F hr hg hm hk hb .nil hx ha hdb he hpl
theorem pe_calS {W : WX} (c : Cal X.prog X.w X.K X.mg X.base (L2.CX X.prog X.w) k x ps sp) (hr : Room k X.A) (tk : Takes X W) (ha : PA X (e :: es) t) (hg : Gl X x := by rfl)
    (hdb : (x == ("__debug__" : Str)) = false := by decide) (he : starEach (e :: es) X.env = (false, eval e X.env) :: starEach es X.env := by rfl) (hpl : (backTo pos (starEach es X.env)).any (·.1) = false := by rfl) :
    PE X (.Call (.Name x p) (e :: es) [] pos) (tCallS sp (WE W) t) := by
  obtain ⟨f, fd, F, hm, hk, hb⟩ := c.ex
  exact pe_callS F hr hg hm hk hb (fun σ => passAt tk σ) ha hdb he hpl
end
end Tw

namespace Tw
open PySem PySem.Spec PyProof.Rows L2
/-! ### a dict of the module's top with the keys 4 and 8 -/
structure D48 (K : PySem.W.Frag) (d : Addr) (a b : Int) : Prop where
  there : ∃ (n : Nat) (t1 t2 t3 t4 : Tok), K.lookup d = some ⟨.type "dict", none, .dict #[{ hash := 4, key := .int 4 t1, val := .int a t2 }, { hash := 8, key := .int 8 t3, val := .int b t4 }] n, #[]⟩
  low : (d == sysModules) = false
def v48 (a b : Int) (k : Int) : Option Int := if k = 4 then some a else if k = 8 then some b else none
theorem d48_map {P : Program} {w : World} {K : PySem.W.Frag} {d : Addr} {a b : Int} {h : Heap} (D : D48 K d a b) (X : K.In h) :
    ∃ f : Key → Option Value, h.MapOf (mixKind P w) d f ∧ (∃ t, f (.inl 4) = some (.int a t)) ∧ ∃ t, f (.inl 8) = some (.int b t) := by
  obtain ⟨n, t1, t2, t3, t4, hl⟩ := D.there
  refine ⟨_, ⟨_, _, n, X _ _ hl, ⟨rfl, rfl, rfl⟩, rfl, fun e he => ?_, fun k => rfl⟩, ⟨t2, rfl⟩, ⟨t4, rfl⟩⟩
  have he' : e = { hash := 4, key := .int 4 t1, val := .int a t2 } ∨ e = { hash := 8, key := .int 8 t3, val := .int b t4 } := by simpa using he
  rcases he' with q | q
  · rw [q]
    exact ⟨.inl 4, mixKind_int P w 4 t1, rfl⟩
  · rw [q]
    exact ⟨.inl 8, mixKind_int P w 8 t3, rfl⟩
section
variable {X : Cx} {d : Addr} {a b : Int}
/-- d[k] -/
def rIx48 (d : Addr) (a b : Int) : R2 := fun x y H Q => x = .ref d ∧ ((y = .int 4 ∧ Q (.int a) H) ∨ (y = .int 8 ∧ Q (.int b) H))
theorem ix_48 (D : D48 X.K d a b) : IxR X (rIx48 d a b) := by
  intro value slice pins s σ H x y v u Q I rx ry h hs
  obtain ⟨ex, h⟩ := h
  subst ex
  obtain rfl : v = Value.ref d := rx
  obtain ⟨f, hm, ⟨t, e4⟩, ⟨t', e8⟩⟩ := d48_map (P := X.prog) (w := X.w) D I.kIn
  rcases h with ⟨ey, q⟩ | ⟨ey, q⟩ <;> subst ey <;> obtain ⟨tk, rfl⟩ := ry
  · exact tail_any hm.typeIs slot_dict_getitem.lookup (wpAny_getItem_of (mixKind_int X.prog X.w 4 tk) hm e4 ⟨.int a, H, I.tok _, ⟨t, rfl⟩, q⟩) hs
  · exact tail_any hm.typeIs slot_dict_getitem.lookup (wpAny_getItem_of (mixKind_int X.prog X.w 8 tk) hm e8 ⟨.int b, H, I.tok _, ⟨t', rfl⟩, q⟩) hs
/-- k not in d, the key there -/
def rNi48 (d : Addr) : R2 := fun x y H Q => y = .ref d ∧ (x = .int 4 ∨ x = .int 8) ∧ Q (.bl false) H
theorem op_ni48 (D : D48 X.K d a b) : OpR X (compareOp .NotIn) (rNi48 d) := by
  intro pins s σ H x y v u Q I rx ry h
  obtain ⟨ey, hx, q⟩ := h
  subst ey
  obtain rfl : u = Value.ref d := ry
  obtain ⟨f, hm, ⟨t, e4⟩, ⟨t', e8⟩⟩ := d48_map (P := X.prog) (w := X.w) D I.kIn
  rcases hx with ex | ex <;> subst ex <;> obtain ⟨tk, rfl⟩ := rx
  · refine wpAny_notIn_of (mixKind_int X.prog X.w 4 tk) D.low hm ?_
    rw [e4]
    exact ⟨.bl false, H, I.tok _, rfl, q⟩
  · refine wpAny_notIn_of (mixKind_int X.prog X.w 8 tk) D.low hm ?_
    rw [e8]
    exact ⟨.bl false, H, I.tok _, rfl, q⟩
end

/-! ### words with gaps: list.count(None) -/
/-- a word, or a gap -/
def gV : Option Int → V
  | some i => .int i
  | none => .non
def isGap (v : Value) : Bool := match v with
  | .none => true
  | _ => false
theorem gaps_eq {A : Around} {s : Shared} : ∀ {gs : List (Option Int)} {us : List Value}, Vals (gs.map gV) us → ∀ y ∈ us, SeqAt.EqAt A s y .none (isGap y)
  | [], _, .nil => fun y hy => by cases hy
  | none :: gs, _, .cons r t => fun y hy => by
    rcases List.mem_cons.mp hy with e | e
    · obtain rfl : _ = Value.none := r
      rw [e]
      exact SeqAt.EqAt.same .none
    · exact gaps_eq t y e
  | some i :: gs, _, .cons r t => fun y hy => by
    rcases List.mem_cons.mp hy with e | e
    · obtain ⟨tk, rfl⟩ := (show ∃ tk, _ = Value.int i tk from r)
      rw [e]
      exact SeqAt.EqAt.int_none i tk
    · exact gaps_eq t y e
theorem gaps_count : ∀ {gs : List (Option Int)} {us : List Value}, Vals (gs.map gV) us → us.countP isGap = gs.countP (·.isNone)
  | [], _, .nil => rfl
  | none :: gs, _, .cons r t => by
    obtain rfl : _ = Value.none := r
    rw [List.countP_cons, List.countP_cons, gaps_count t]
    rfl
  | some i :: gs, _, .cons r t => by
    obtain ⟨tk, rfl⟩ := (show ∃ tk, _ = Value.int i tk from r)
    rw [List.countP_cons, List.countP_cons, gaps_count t]
    rfl
def rCntN (K : PySem.W.Frag) : V → List V → Hp → VK → Prop := fun x xs H Q => ∃ (p : Addr) (gs : List (Option Int)), x = .ref p ∧ xs = [.non] ∧ SqL K H p (gs.map gV) ∧ Q (.int (gs.countP (·.isNone) : Nat)) H
theorem mt_countN {X : Cx} : MtR X "list.count" (rCntN X.K) := by
  intro pins s σ H x xs v us Q I rx rxs h
  obtain ⟨p, gs, ex, exs, hq, q⟩ := h
  subst ex exs
  obtain rfl : v = Value.ref p := rx
  obtain ⟨u, rfl, ru⟩ := rxs.one
  obtain rfl : u = Value.none := ru
  obtain ⟨its, rv, ⟨⟨c, dd, dt, sl⟩, n, ho, hc, hdn, hd⟩, hlen⟩ := I.list hq
  dsimp only at hc hd
  subst hc hd
  refine call_meets PySem.F.slot_list_count ⟨_, ho, rfl⟩ PySem.F.entry_list_count (PySem.F.args_list_count_2 _ _)
    (SeqAt.list_countAt p its.toArray n dd sl .none isGap) ⟨ho, fun y hy => gaps_eq rv y (by simpa using hy), ?_⟩
  refine ⟨.int (gs.countP (·.isNone) : Nat), H, I.tok _, ⟨s.toks, ?_⟩, q⟩
  rw [← gaps_count rv]

/-! ### repr of data, of a bool -/
def rRep (K : PySem.W.Frag) : List V → Hp → VK → Prop := fun xs H Q => ∃ v d, xs = [v] ∧ Dp K H v d ∧ d.showable = true ∧ d.hasDict = false ∧ d.depth ≤ 50 ∧ d.shown.length ≤ sizeLine ∧ Q (.str d.shown) H
theorem call_repD {X : Cx} (hg : X.A.guards = some []) (hu : X.A.units + 64 < cLine) : CallR X (.builtin "repr") (rRep X.K) := by
  intro pins s σ H xs us Q I r h
  obtain ⟨v, d, rfl, hd, h1, h2, h3, h4, q⟩ := h
  obtain ⟨u, rfl, ru⟩ := vals1 r
  cases hd with
  | non =>
    obtain rfl : u = Value.none := ru
    exact PySem.P.repr_of_none ⟨.str _, H, I.tok _, ⟨s.toks, by simp only [PyData.shown]⟩, q⟩
  | bl b =>
    obtain rfl : u = Value.bool b := ru
    exact PySem.P.repr_of_bool ⟨.str _, H, I.tok _, ⟨s.toks, by simp only [PyData.shown]⟩, q⟩
  | int i =>
    obtain ⟨tk, rfl⟩ := (show ∃ tk, u = Value.int i tk from ru)
    refine PySem.P.repr_of_int (by simpa [PyData.showable] using h1) ⟨.str _, H, I.tok _, ⟨s.toks, by simp only [PyData.shown]⟩, q⟩
  | str x =>
    obtain ⟨tk, rfl⟩ := (show ∃ tk, u = Value.str x tk from ru)
    refine PySem.P.repr_of_str ⟨.str _, H, I.tok _, ⟨s.toks, by simp only [PyData.shown]⟩, q⟩ (by simpa only [PyData.shown] using h4)
  | @lst a zs ds h5 h6 =>
    obtain rfl : u = Value.ref a := ru
    obtain ⟨as, hr⟩ := Dp.reads I _ _ (Value.ref a) (.lst h5 h6) rfl
    exact repr_of_reads' hr h1 (PyData.noDict_hsm h2) hg (by omega) (fun _ _ z => z) (fun h' u tk k => ⟨.str _, H, I.kept (t' := tk) k, ⟨_, rfl⟩, q⟩) h4
  | @tup a zs ds h5 h6 =>
    obtain rfl : u = Value.ref a := ru
    obtain ⟨as, hr⟩ := Dp.reads I _ _ (Value.ref a) (.tup h5 h6) rfl
    exact repr_of_reads' hr h1 (PyData.noDict_hsm h2) hg (by omega) (fun _ _ z => z) (fun h' u tk k => ⟨.str _, H, I.kept (t' := tk) k, ⟨_, rfl⟩, q⟩) h4
end Tw

namespace Tw
open PySem PySem.Spec PyProof.Rows L2
/-! ### Q.__init__(self, ..), Q an own class that has ValueError's __init__ -/
structure VeC (K : PySem.W.Frag) (mg : Str → Option Value) (x : Str) (C : Addr) : Prop where
  glo : mg x = some (.ref C)
  ga : PySem.W.specialIn K (.ref C) "__getattribute__" = some (some (.builtin "type.__getattribute__"))
  ty : PySem.W.typeIn K (.ref C) = some (.type "type")
  rd : PySem.W.readsIn K C (.type "type") = true
  fd : PySem.W.findCls K (.ref C) (.type "type") "__init__" = some (.val (.builtin "ValueError.__init__"))
section
variable {X : Cx} {x : Str} {C : Addr} {e : Expr} {es : List Expr} {ta : TA} {p1 p2 pos : Pos}
theorem pe_vinit {pl : Sem Bool} (V : VeC X.K X.mg x C) (ha : PA X (e :: es) ta) (hg : Gl X x := by rfl) (hdb : (x == ("__debug__" : Str)) = false := by decide)
    (hc : eval (.Call (.Attribute (.Name x p1) "__init__" p2) (e :: es) [] pos) X.env = (do
      let ov ← eval (.Name x p1) X.env
      standAt p2.atName
      let (f, first) ← holding [ov] (getMethod ov "__init__" pl)
      callWith pos f first (backTo pos (starEach (e :: es) X.env)) (backToKw pos (keywordEach [] X.env))) := by rfl)
    (he : starEach (e :: es) X.env = (false, eval e X.env) :: starEach es X.env := by rfl) (hpl : (backTo pos (starEach es X.env)).any (·.1) = false := by rfl) :
    PE X (.Call (.Attribute (.Name x p1) "__init__" p2) (e :: es) [] pos) (tVeI X.K ta) := by
  constructor
  intro pins s0 st H Q I h
  refine PySem.W.methodCall_KW (ld_glob I hg V.glo ?_ hdb) hc
  obtain ⟨m, fr⟩ := I.fr
  refine PySem.W.method_of_cls fr I.ok.mod.kin V.ga (PySem.W.cls_val fr I.ok.mod.kin V.ty V.rd V.fd (by decide +kernel) ?_)
  show wpAny _ _ (callWith pos (Value.builtin "ValueError.__init__") [] (backTo pos (starEach (e :: es) X.env)) []) _ _ _
  refine PyProof.Rows.callWith_method1 (thn (ha.run pos pins _ st H _ (I.tok _) h) ?_) he hpl
  rintro us s1 ⟨vs, H1, I1, r1, a, D, ws, rfl, hl, T, ea, q⟩
  cases r1 with
  | cons ra rw' =>
    cases ra
    refine oinit_ok T I1 ea ?_ fun s2 J => ⟨.non, H1, J, rfl, q⟩
    rw [← Paired.length rw', sizeLine_eq]
    omega
end

/-! ### a call with keywords alone, the parameters from the last one on -/
theorem vals_rev : ∀ {vs : List V} {us : List Value}, Vals vs us → Vals vs.reverse us.reverse
  | _, _, .nil => .nil
  | _, _, .cons r t => by
    rw [List.reverse_cons, List.reverse_cons]
    exact (vals_rev t).append (.cons r .nil)
structure CalK (P : Program) (w : World) (K : PySem.W.Frag) (mg : Str → Option Value) (base : Heap) (cx : CXT) (k : Nat) (x : Str) (ps : List Str) (sp : Sp) : Prop where
  ex : ∃ f fd, FnOk P w K mg base cx k f fd ps sp ∧ mg x = some (.ref f) ∧ PySem.W.keepIn K (.ref f) = true ∧ ∀ ws : List Value, ws.length = ps.length → bindArgs fd ⟨[], ps.reverse.zip ws⟩ = pure (ps.zip ws.reverse)
def tCalK (sp : Sp) (E : XK) (t : TA) : TE := fun σ H Q => t σ H fun zs H1 => sp zs.reverse H1 Q E
theorem pe_calK {X : Cx} {cx : CXT} {k : Nat} {x : Str} {ps : List Str} {sp : Sp} {E : XK} {kws : List Keyword} {t : TA} {p pos : Pos}
    (c : CalK X.prog X.w X.K X.mg X.base cx k x ps sp) (hr : Room k X.A) (hx : Passes cx X E) (ha : PK X kws t) (hps : 0 < ps.length := by decide) (hg : Gl X x := by rfl) (hdb : (x == ("__debug__" : Str)) = false := by decide)
    (hall : (backToKw pos (keywordEach kws X.env)).all (·.1.isSome) = true := by rfl) (hks : (backToKw pos (keywordEach kws X.env)).filterMap (·.1) = ps.reverse := by rfl)
    (hpl : ((backTo pos (starEach [] X.env)).any (·.1) || (backToKw pos (keywordEach kws X.env)).any (·.1.isNone)) = false := by rfl) :
    PE X (.Call (.Name x p) [] kws pos) (tCalK sp E t) := by
  obtain ⟨f, fd, F, hm, hk, hb⟩ := c.ex
  constructor
  intro pins s0 st H Q I h
  refine wpAny_Call_Name_kw (ld_glob I hg hm ?_ hdb)
  refine PySem.W.callWith_KW0 (h₀ := X.base) I.ok.mod.kin hk hall (thn (ha.run pos pins s0 st H _ I h) ?_) hpl
  rintro ks s1 ⟨zs, H1, I1, r1, q⟩
  refine ⟨I1.kIn, ?_⟩
  rw [hks]
  have B : KBinds X.K fd ps ps.reverse (fun us ws => if us.isEmpty = true then ws.reverse else []) (fun vs zs => if vs.isEmpty = true then zs.reverse else []) := by
    refine ⟨fun s us ws _ hl => ?_, fun {vs us zs ws} r rz => ?_⟩
    · cases us with
      | nil =>
        have hl' : ws.reverse.length = ps.length := hl
        rw [List.length_reverse] at hl'
        exact .of_eq (hb ws hl')
      | cons u us =>
        have hl' : (0 : Nat) = ps.length := hl
        omega
    · cases r with
      | nil => exact vals_rev rz
      | cons _ _ => exact .nil
  exact run_fnk (vs := []) (us := []) F hr B hx I1 .nil r1 q
end Tw

namespace Tw
open PySem PySem.Spec PyProof.Rows L2
open PySem.AutoSeq1 (wpAny_loadPart')
/-! ### enumerate of a tuple -/
abbrev tupIt (t : Addr) : Obj := { cls := .type "tuple_iterator", data := .fields #[.ref t, .int 0 0] }
abbrev enumOb (it : Addr) : Obj := { cls := .type "enumerate", data := .fields #[.none, .bool false, .ref it, rawInt 0, .none, .none] }
theorem meets_enumT (t : Addr) (items : Array Value) (n : Nat) (dd : Option Addr) (sl : Array (Option Value)) :
    Meets (Builtin.«enumerate.__new__» ⟨[.type "enumerate", .ref t], []⟩) (fun _ R s => s.heap.get? t = some { cls := .type "tuple", dict := dd, data := .seq items n, slots := sl } ∧
      R (.ok (.ret (.ref (s.heap.push (tupIt t)).objs.size))) { s with heap := (s.heap.push (tupIt t)).push (enumOb s.heap.objs.size) }) :=
  .of_wp fun prog w A R s h => by
    obtain ⟨hp, g, d, tk, os⟩ := s
    obtain ⟨hl, h⟩ := h
    have hsub := sub_enumerate
    have hT : Heap.IsTuple (Shared.heap ⟨hp, g, d, tk, os⟩) t items := ⟨_, hl, rfl, n, rfl⟩
    wp_walk using wpAny_loadPart' hl
    refine wpAny_stack_any fun st => wpAny_pure ?_
    split
    · rename_i c _ _ _ _ _
      cases (c == Value.type "enumerate") <;> (wp_walk using wpAny_loadPart' hl, wpAny_pyIter_tuple hT; exact ⟨_, rfl, h⟩)
    · wp_walk using wpAny_loadPart' hl, wpAny_pyIter_tuple hT
      exact ⟨_, rfl, h⟩
theorem call_enumT {prog : Program} {w : World} {A : Around} {E : Value → Shared → Prop} {s : Shared} {t : Addr} {items : Array Value} {Q : Value → Shared → Prop} (hT : s.heap.IsTuple t items)
    (h : ∀ h', IsEnum h' (s.heap.objs.size + 1) s.heap.objs.size 0 .none → h'.IsTupleIter s.heap.objs.size t 0 → (∀ b o, s.heap.get? b = some o → h'.get? b = some o) → Q (.ref (s.heap.objs.size + 1)) { s with heap := h' }) :
    wpAny (model prog w) A (call (.type "enumerate") [.ref t]) Q E s := by
  obtain ⟨⟨c, dct, dt, sl⟩, hl, hc, n, hd⟩ := hT
  dsimp only at hc hd
  subst hc hd
  have hz : (s.heap.push (tupIt t)).objs.size = s.heap.objs.size + 1 := Heap.size_push ..
  have e2 : ((s.heap.push (tupIt t)).push (enumOb s.heap.objs.size)).get? (s.heap.push (tupIt t)).objs.size = some (enumOb s.heap.objs.size) := Heap.get?_push_size _ rfl
  rw [hz] at e2
  refine callType_new F.called_enumerate (by decide) (F.typeCall_enumerate_1 _) (F.newCall_enumerate_1 _) (fun obj => F.args_object_init_2 obj _) F.entry_enumerate_new (meets_enumT t items n dct sl) ⟨hl, ?_⟩
  show _ ∧ _
  rw [hz]
  exact ⟨⟨_, e2, rfl⟩, h _ e2 ⟨_, Heap.get?_push_of_some _ (Heap.get?_push_size _ rfl), rfl, rfl⟩ fun b o z => Heap.get?_push_of_some _ (Heap.get?_push_of_some _ z)⟩
/-- the tuple at a as it stands at each turn, each item in a new pair -/
def IteT (K : PySem.W.Frag) (a : Addr) : It where
  go := fun i H => ∃ (xs : List V) (x : V), SqT K H a xs ∧ xs[i]? = some x
  yld := fun i H v H' => ∃ T x, v = .ref T ∧ H T = none ∧ H' = upd H T (.tup [.int (i : Nat), x]) ∧ ∀ xs, SqT K H a xs → xs[i]? = some x
  stop := fun i H => ∃ xs : List V, SqT K H a xs ∧ xs.length = i
theorem turn_enumT {P : Program} {w : World} {K : PySem.W.Frag} {elts : List Expr} {kk : Nat} {tpos : Pos} (a e it : Addr) (ha : a ≠ it) :
    Turn P w K (.Tuple elts kk tpos) (IteT K a) [e, it] e (fun i h => (∃ old, IsEnum h e it ((i : Nat) : Int) old) ∧ h.IsTupleIter it a i ∧ e ≠ it ∧ e ≠ a) where
  mem := List.mem_cons_self
  obj := fun i h ⟨⟨old, he⟩, ⟨o, ho, hc, hd⟩, _⟩ b hb => by
    rcases List.mem_cons.mp hb with z | z
    · rw [z]
      exact ⟨_, he, fun v q => nomatch q⟩
    · rw [List.mem_singleton.mp z]
      exact ⟨o, ho, fun v q => by rw [hd] at q; cases q⟩
  keep := fun i h h' ⟨⟨old, he⟩, hi, hne⟩ k => ⟨⟨old, k e List.mem_cons_self _ he⟩, hi.at fun o q => k it (by simp) o q, hne⟩
  item := by
    intro X hP hw hK hc i pins s st H E I hf ⟨⟨old, he⟩, hit, hne, hea⟩ ⟨xs, x, hq, hx⟩
    subst hP hw hK
    obtain ⟨its, rv, p, hz⟩ := I.tuple hq
    obtain ⟨u, hu, ru⟩ := rv.get hx
    obtain ⟨hlt, eu⟩ := List.getElem?_eq_some_iff.mp hu
    have hel : e < s.heap.objs.size := Heap.lt_size he
    have hil : it < s.heap.objs.size := by
      obtain ⟨_, q, _⟩ := hit
      exact Heap.lt_size q
    have D := Draws.tuple (prog := X.prog) (w := X.w) (A := X.A.in1) (I.ok.hd hc) it a ha its.toArray
    refine wpAny_pyNext_enum_itemD D he ⟨hit, p⟩ (by simpa using hlt) hne (by simp [hne, hea]) fun y h' tk hy ho hst hT hsz hk => ?_
    have ey : y = u := by
      have z : its[i]? = some y := by simpa using hy
      rw [hu] at z
      exact (Option.some.inj z).symm
    subst ey
    refine ⟨_, rfl, wpAny_letOwnedTupleGo_enum (s := { s with heap := h', toks := tk + 1 }) ho fun h'' he' sb => ?_⟩
    have kp : ∀ b o, b ∉ [e, it] → s.heap.get? b = some o → h''.get? b = some o := fun b o hb q =>
      (sb.2 b (fun z => hb (by simp [z]))).trans (hk b o (fun z => hb (by simp [z])) (fun z => hb (by simp [z])) q)
    have new : ObjOk X.prog X.w (upd H s.heap.objs.size (.tup [.int (i : Nat), x])) h'' s.heap.objs.size (.tup [.int (i : Nat), x]) :=
      ⟨(by decide : 2 ≤ sizeLine), [.int i tk, y], .cons ⟨_, rfl⟩ (.cons ru .nil), ⟨_, (sb.2 _ (Nat.ne_of_gt hel)).trans hT, rfl, _, rfl⟩⟩
    have I1 := I.turnedNew (t' := tk + 1) (ch := [e, it]) kp hf (Nat.le_refl _) new
    refine ⟨.ref s.heap.objs.size, _, I1, rfl, ⟨_, x, rfl, I.hok.fresh (Nat.le_refl _), rfl, fun ys hy => ?_⟩, ⟨⟨y, ?_⟩, hst.1.at fun o q => (sb.2 it (Ne.symm hne)).trans q, hne, hea⟩, fun b hb => ?_⟩
    · rw [I.tuple_inj hy hq]
      exact hx
    · rw [show ((i + 1 : Nat) : Int) = (i : Int) + 1 by omega]
      exact he'
    · have hb' : b < s.heap.objs.size := by
        rcases List.mem_cons.mp hb with z | z
        · rw [z]; exact hel
        · rw [List.mem_singleton.mp z]; exact hil
      rw [upd_ne (Nat.ne_of_lt hb')]
      exact (hf b hb).1
  done := by
    intro X hP hw hK hc i pins s st H E I hf ⟨⟨old, he⟩, hit, hne, hea⟩ ⟨xs, hq, hx⟩
    subst hP hw hK
    obtain ⟨its, rv, p, hz⟩ := I.tuple hq
    obtain ⟨f0, f1, f2, f3, f4, f5⟩ := hf it (by simp)
    have hl := rv.length
    have D := Draws.tuple (prog := X.prog) (w := X.w) (A := X.A.in1) (I.ok.hd hc) it a ha its.toArray
    have ei : its.toArray.size = i := by
      rw [List.size_toArray]
      omega
    subst ei
    exact wpAny_pyNext_enum_endD D he ⟨hit, p⟩ fun h' eb => ⟨rfl, I.turned (t' := s.toks) (fun b o hb q => eb b o hb q) f0 f1 f3 f4 f5⟩
  self := fun A i s Q E ⟨⟨_, he⟩, _⟩ h => wpAny_pyIter_enum he h
def iEnumT (K : PySem.W.Frag) (ta : TA) : TI := fun st H R => ta st H fun vs H1 => ∃ a xs, vs = [.ref a] ∧ SqT K H1 a xs ∧ R (IteT K a) H1
theorem pi_enumT {X : Cx} {e : Expr} {ta : TA} {p pos tpos : Pos} {elts : List Expr} {kk : Nat} (hm : X.mg "enumerate" = none) (ha : PA X [e] ta) (hg : Gl X "enumerate" := by rfl) (hs : starEach [e] X.env = [(false, eval e X.env)] := by rfl) :
    PI X (.Tuple elts kk tpos) (.Call (.Name "enumerate" p) [e] [] pos) (iEnumT X.K ta) := by
  constructor
  intro pins s st H R I h
  refine Call_ (ld_blt I hg hm boot_enumerate (PyProof.Rows.callWith_type1 (thn (ha.run pos pins s st H _ I h) ?_) hs rfl))
  rintro us s1 ⟨vs, H1, I1, r1, a, xs, rfl, hq, q⟩
  cases r1 with
  | cons r rr =>
    cases rr
    cases r
    obtain ⟨its, rv, p', hz⟩ := I1.tuple hq
    have hlt : a < s1.heap.objs.size := by
      obtain ⟨o, ho, _⟩ := id p'
      exact Heap.lt_size ho
    refine call_enumT p' fun h' he hit hk => wpAny_pyIter_enum he ?_
    refine ⟨s1.heap.objs.size + 1, [s1.heap.objs.size + 1, s1.heap.objs.size], _, _, H1, rfl, I1.kept (t' := s1.toks) hk, turn_enumT a (s1.heap.objs.size + 1) s1.heap.objs.size (Nat.ne_of_lt hlt), ⟨⟨.none, he⟩, hit, Nat.succ_ne_self _, Nat.ne_of_gt (Nat.lt_succ_of_lt hlt)⟩, fun b hb => ?_, q⟩
    have hle : s1.heap.objs.size ≤ b := by
      rcases List.mem_cons.mp hb with z | z
      · rw [z]
        exact Nat.le_succ _
      · rw [List.mem_singleton.mp z]
        exact Nat.le_refl _
    exact I1.fpOk hle (I1.hok.fresh hle)
end Tw

namespace Tw
open PySem PySem.Spec PyProof.Rows L2
/-! ### the same promise of a def where nothing is being shown (guards known): repr may be asked in it -/
structure FnG (P : Program) (w : World) (K : PySem.W.Frag) (mg : Str → Option Value) (base : Heap) (cx : CXT) (k : Nat) (f : Addr) (fd : FuncData) (ps : List Str) (sp : Sp) : Prop where
  len : ∀ vs H Q E, sp vs H Q E → vs.length = ps.length
  run : ∀ (A : Around) (outer : List Env) (s : Shared) (H : Hp) (args : Args) (us : List Value) (vs : List V) (Q : VK) (E : XK), A.guards = some [] → Room k A → Env0 P w K mg base A outer s H → BindsTo s fd args (ps.zip us) → Vals vs us → sp vs H Q E →
    codeAny (model P w) A (.call (.ref f) args) (CR cx outer P w H s Q E) s
theorem ends_of {P : Program} {w : World} {X : Cx} {outer : List Env} {H : Hp} {s s' : Shared} {Q : VK} {fl : Flow} (hP : X.prog = P) (hw : X.w = w) (hs : X.s_0 = s) (hH : X.H_0 = H) (ho : X.outer = outer) (hx : X.ex = [])
    (h : SP X [] { nx := fun _ H' => Q .non H', rt := Q } fl s') : match fl with
      | .ret u => CE outer P w H s Q u s'
      | .next => CE outer P w H s Q .none s'
      | _ => False := by
  subst hP hw hs hH ho
  have fin : ∀ {σ' : L2.St} {H' : Hp} {v : V} {u : Value}, Inv X [] σ' H' s' → RelV v u → Q v H' → CE X.outer X.prog X.w X.H_0 X.s_0 Q u s' := fun {σ' H' v u} J rv q => by
    have b := J.base
    rw [hx] at b
    exact ⟨v, H', J.os, J.bare, b, J.hok, rv, q⟩
  cases fl with
  | ret u =>
    obtain ⟨v, σ', H', J, rv, q⟩ := h
    exact fin J rv q
  | next =>
    obtain ⟨σ', H', J, q⟩ := h
    exact fin (v := .non) (u := .none) J rfl q
  | brk =>
    obtain ⟨_, _, _, q⟩ := h
    exact q
  | cont =>
    obtain ⟨_, _, _, q⟩ := h
    exact q
theorem Fun.okG {P : Program} {w : World} {K : PySem.W.Frag} {mg : Str → Option Value} {base : Heap} {x qual : Str} {st : Stmt} {f : Addr} {fd : FuncData} {N ps : List Str} {k : Nat} {sp : Sp} (F : L2.Fun K x qual st f fd) (S : FnScope N ps (defScope st))
    (len : ∀ vs H Q E, sp vs H Q E → vs.length = ps.length)
    (hbody : ∀ (cdv : Value) (A : Around) (outer : List Env) (s : Shared) (H : Hp) (vs : List V) (Q : VK) (E : XK), A.guards = some [] → Room k (A.deeper (envOfC qual (defScope st) s.heap.objs.size f cdv)) → sp vs H Q E →
      ∃ t, PSs (cxOf CX0 P w K mg base N qual (defScope st) f cdv A outer s H E).nox (defBody st) t ∧ t { nx := fun _ H' => Q .non H', rt := Q } (start N vs) H) : FnG P w K mg base CX0 (k + 1) f fd ps sp := by
  obtain ⟨oc, od, kV, doc, pm, an, cdv, ct, osl, rfl, lk, hcd⟩ := F.ex
  constructor
  · exact len
  intro A outer s H args us vs Q E hg hr e0 hb r hsp
  have old : ∀ b o, base.get? b = some o → s.heap.get? b = some o := fun b o e => (e0.bs b o e).1
  have hkind : ∀ y ∈ ps.zip us, (defScope st).names.lookup y.1 = some .local ∨ ((defScope st).names.lookup y.1 = some .cell ∧ ((cellsFrom (s.heap.objs.size + 1) (defScope st).names []).lookup y.1).isSome = true) := by
    rintro ⟨n, v⟩ hy
    exact (S.par n (List.of_mem_zip hy).1).imp id fun q => ⟨q, PySem.W.cellsFrom_some _ _ _ (.inl q)⟩
  refine codeAny_call_function hr.depth (e0.mod.kin.keeps old _ _ lk) rfl S.co S.gen rfl (PySem.W.codeRec_of (e0.mod.kin.keeps old) hcd) (hb _ _ _ _ (wpAny_newFunctionEnv_cells S.kind hkind fun env he s1 c => ?_))
  subst he
  obtain ⟨t, ht, hq⟩ := hbody cdv A outer s H vs Q E hg (hr.deeper _) hsp
  have I : Inv (cxOf CX0 P w K mg base N qual (defScope st) f cdv A outer s H E) [] (start N vs) H s1 := inv_start S hr.hd e0 (len _ _ _ _ hsp) r c
  refine ⟨(e0.mod.nolimit.keeps old).keeps c.toInCall.keep, codeAny_func (wpAny_mono (ht.nox.run [] s1 _ H _ I hq) (fun fl s' hs => ?_) fun _ _ z => z)⟩
  have fin := ends_of (X := cxOf CX0 P w K mg base N qual (defScope st) f cdv A outer s H E) (P := P) (w := w) rfl rfl rfl rfl rfl rfl hs
  cases fl with
  | ret u => exact fin
  | next => exact fin
  | brk => exact fin.elim
  | cont => exact fin.elim
structure CalG (P : Program) (w : World) (K : PySem.W.Frag) (mg : Str → Option Value) (base : Heap) (k : Nat) (x : Str) (ps : List Str) (sp : Sp) : Prop where
  ex : ∃ f fd, FnG P w K mg base CX0 k f fd ps sp ∧ mg x = some (.ref f) ∧ PySem.W.keepIn K (.ref f) = true ∧ Binds K fd ps []
theorem pe_calG {X : Cx} {k : Nat} {x : Str} {ps : List Str} {sp : Sp} {e : Expr} {es : List Expr} {t : TA} {p pos : Pos} (c : CalG X.prog X.w X.K X.mg X.base k x ps sp) (gu : X.A.guards = some []) (hr : Room k X.A) (ha : PA X (e :: es) t) (hg : Gl X x := by rfl)
    (hdb : (x == ("__debug__" : Str)) = false := by decide) (he : starEach (e :: es) X.env = (false, eval e X.env) :: starEach es X.env := by rfl) (hpl : (backTo pos (starEach es X.env)).any (·.1) = false := by rfl) :
    PE X (.Call (.Name x p) (e :: es) [] pos) (tCall sp [] E0 t) := by
  obtain ⟨f, fd, F, hm, hk, hb⟩ := c.ex
  constructor
  intro pins s0 st H Q I h
  refine wpAny_Call_Name_kw (ld_glob I hg hm ?_ hdb)
  refine PySem.W.callWith_K (h₀ := X.base) I.ok.mod.kin hk (thn (ha.run pos pins s0 st H _ I h) ?_) he hpl
  rintro us s1 ⟨vs, H1, I1, r, q⟩
  rw [List.append_nil] at q
  refine ⟨I1.kIn, wpAny_call (codeAny_mono (F.run X.A X.stack s1 H1 ⟨us, []⟩ us vs Q E0 gu hr I1.env0 ?_ r q) fun res s' hq => ?_)⟩
  · have hl : (us ++ ([] : List Value)).length = ps.length := by
      rw [List.append_nil, ← r.length]
      exact F.len _ _ _ _ q
    have B := hb s1 us I1.kIn hl
    rwa [List.append_nil] at B
  · match res, hq with
    | .ok (.ret u), hq => exact I1.after hq
    | .error e, hq => exact hq.elim
    | .ok .next, hq => exact False.elim hq
    | .ok .brk, hq => exact False.elim hq
    | .ok .cont, hq => exact False.elim hq
end Tw

namespace Tw
open PySem PySem.Spec PyProof.Rows L2
/-! ### the law's own call, from a promise that knows the guards -/
/-- what is tracked at the law's entry: the script, where it is no object of the module's -/
def hScr (K : PySem.W.Frag) (a : Addr) (o : Obj) (xs : List V) : Hp := fun b => if b = a ∧ (K.lookup a).isNone = true then some (.frz o (.lst xs)) else none
theorem hScr_some {K : PySem.W.Frag} {a b : Addr} {o : Obj} {xs : List V} {u : HO} (h : hScr K a o xs b = some u) : b = a ∧ K.lookup a = none ∧ u = .frz o (.lst xs) := by
  unfold hScr at h
  split at h
  · rename_i c
    refine ⟨c.1, ?_, (Option.some.inj h).symm⟩
    have c2 := c.2
    cases e : K.lookup a with
    | none => rfl
    | some z => rw [e] at c2; cases c2
  · cases h
theorem law_callG {P : Program} {w : World} {K : PySem.W.Frag} {mg mb : Str → Option Value} {k : Nat} {fa a : Addr} {fd : FuncData} {x : Str} {sp : Sp} {s₁ : Shared} {vs : List Value} {ns : List Int}
    (KX : K.In s₁.heap) (hns : s₁.heap.Ns mainGlobals mg) (hb : s₁.heap.Ns builtinsNs mb) (hbb : ∀ x : Str, x ≠ "__name__" → mb x = bootBuiltins x) (hlim : s₁.heap.NoLimit) (hg : s₁.gens = #[])
    (ha : s₁.heap.get? a = some { cls := .type "list", data := .seq vs.toArray }) (hi : IntsAre vs ns) (hl : ns.length ≤ sizeLine) (hr : Room k callerA)
    (F : ∀ base : Heap, K.In base → base.Ns mainGlobals mg → FnG P w K mg base CX0 k fa fd [x] sp) (hbind : ∀ (s : Shared) (u : Value), BindsTo s fd ⟨[u], []⟩ [(x, u)])
    (hsp : ∀ H : Hp, SqL K H a (ns.map V.int) → sp [.ref a] H (fun v _ => v = .bl true) fun _ _ _ => False) :
    codeAny (model P w) callerA (.call (.ref fa) ⟨[.ref a], []⟩) (fun r s' => r = .ok (.ret (.bool true)) ∧ OldK s₁.heap s'.heap ∧ s'.os = s₁.os ∧ AllBare s'.gens) s₁ := by
  have rv := vals_ints hi
  have lv := hi.length
  generalize hob : ({ cls := .type "list", data := .seq vs.toArray } : Obj) = ob at ha
  let H := hScr K a ob (ns.map V.int)
  have free : ∀ {b : Addr} {o : Obj}, s₁.heap.get? b = some o → (∀ q : b = a, K.lookup a = none → False) → H b = none := fun {b o} e n => by
    cases q : H b with
    | none => rfl
    | some u =>
      obtain ⟨q1, q2, _⟩ := hScr_some q
      exact (n q1 q2).elim
  have noD : ∀ {b : Addr} {o : Obj} {es : Array DictEntry} {ep : Nat}, s₁.heap.get? b = some o → o.data = .dict es ep → H b = none := fun {b o es ep} e d => free e fun q _ => by
    rw [q, ha] at e
    have e2 := Option.some.inj e
    rw [← e2, ← hob] at d
    cases d
  have nsB : ∀ {b : Addr} {m : Str → Option Value}, s₁.heap.Ns b m → (hidT s₁.heap H).Ns b m := fun {b m} ⟨o, es, ep, e, d, r⟩ => ⟨o, es, ep, hidT_get e (noD e d), d, r⟩
  have kB : K.In (hidT s₁.heap H) := fun b o e => hidT_get (KX b o e) (free (KX b o e) fun q n => by rw [q, n] at e; cases e)
  have hM : Mod K mg (hidT s₁.heap H) := by
    obtain ⟨mc, h1, h2⟩ := hlim
    exact ⟨kB, nsB hns, ⟨mb, nsB hb, hbb⟩, ⟨mc, nsB h1, h2⟩⟩
  have hok : HOk P w H s₁.heap := fun b o e => by
    obtain ⟨rfl, _, rfl⟩ := hScr_some e
    refine ⟨ha, ?_, vs, 0, rv, by rw [ha, ← hob]⟩
    rw [List.length_map]
    exact hl
  have e0 : Env0 P w K mg (hidT s₁.heap H) callerA [] s₁ H := ⟨rfl, hM, fun b o e => of_hidT e, Nat.le_of_eq (hidT_size _ _), trivial, fun b hb => absurd hb (List.not_mem_nil), hok, .of_eq hg⟩
  have hS : SqL K H a (ns.map V.int) := by
    cases e : K.lookup a with
    | none => exact .inl (.inr ⟨ob, if_pos ⟨rfl, by rw [e]; rfl⟩⟩)
    | some o =>
      have e1 := KX a o e
      rw [ha] at e1
      have e2 := Option.some.inj e1
      refine .inr ⟨o, vs.toArray, 0, e, ?_, ?_, ?_, ?_, by simpa using rv⟩
      · rw [← e2, ← hob]
      · rw [← e2, ← hob]
      · rw [← e2, ← hob]
      · rw [List.size_toArray, lv]
        exact hl
  refine codeAny_mono ((F _ kB (nsB hns)).run callerA [] s₁ H ⟨[.ref a], []⟩ [.ref a] [.ref a] _ _ rfl hr e0 (hbind s₁ (.ref a)) (.cons rfl .nil) (hsp H hS)) fun r s' hq => ?_
  match r, hq with
  | .error e, hq => exact hq.elim
  | .ok .next, hq => exact False.elim hq
  | .ok .brk, hq => exact False.elim hq
  | .ok .cont, hq => exact False.elim hq
  | .ok (.ret u), ⟨v, H', os, bare, un, hok', r', q⟩ =>
    obtain rfl : v = .bl true := q
    obtain rfl : u = Value.bool true := r'
    refine ⟨rfl, OldK.of_keep fun b o e => ?_, os, bare⟩
    cases q : H b with
    | none => exact un.keep b o e q (List.not_mem_nil) (List.not_mem_nil)
    | some z =>
      obtain ⟨_, _, rfl⟩ := hScr_some q
      obtain ⟨e1, _⟩ := hok b _ q
      obtain ⟨e2, _⟩ := hok' b _ (un.frzs b ob _ q)
      rw [e] at e1
      rw [Option.some.inj e1]
      exact e2
theorem walk_ofG {l : PySem.W.OpenLaw} {n k : Nat} {q : Program} {loose : List Str} {XP : (Str → Option Value) → Heap → Prop} {YP : World → Heap → Prop} {d : DefRec} {K : Params → PySem.W.Frag} {sp : World → Sp} {x : Str}
    (hn : l.most = some n) (hn2 : n ≤ sizeLine) (hdf : d.params.defaults = []) (hr : Room k callerA) (hY : ∀ (w : World) (h : Heap), YP w h → (K w.params).In h)
    (F : ∀ (w : World) (mg : Str → Option Value) (fa : Addr) (h : Heap), (K w.params).In h → h.Ns mainGlobals mg → mg d.name = some (.ref fa) →
      ∃ fd : FuncData, (∀ (s : Shared) (u : Value), BindsTo s fd ⟨[u], []⟩ [(x, u)]) ∧ ∀ base : Heap, (K w.params).In base → base.Ns mainGlobals mg → FnG l.prog w (K w.params) mg base CX0 k fa fd [x] (sp w))
    (hsp : ∀ (w : World) (H : Hp) (a : Addr) (ns : List Int), ns.length ≤ n → SqL (K w.params) H a (ns.map V.int) → sp w [.ref a] H (fun v _ => v = .bl true) fun _ _ _ => False) :
    PySem.W.WalkO q loose XP YP l.row.toRowW d [] (fun f vs => PySem.call f vs) := by
  refine Att.attach_call hn hdf fun w s₀ s₁ mg mb fa o pm cd doc a vs ns G Y ho hd hcd hmg hobj hints hlen hg => ?_
  obtain ⟨fd, hb, hF⟩ := F w mg fa _ (hY w _ Y) G.T.g hmg
  exact law_callG (hY w _ Y) G.T.g G.T.b G.T.builtins G.T.nolimit hg hobj hints (Nat.le_trans hlen hn2) hr hF hb fun H hS => hsp w H a ns hlen hS
end Tw

namespace Tw
open PySem PySem.Spec PyProof.Rows L2
/-! ### the text, what the walk knows of the top -/
def topS (i : Nat) : Stmt := PySem.Challenge.pw_dotquilts_k12_whole_twins.main.body.getD i (.Pass ⟨0, 0, 0, 0⟩)
structure Blt (mg : Str → Option Value) : Prop where
  len_ : mg "len" = none
  range_ : mg "range" = none
  enumerate_ : mg "enumerate" = none
  zip_ : mg "zip" = none
  isinstance_ : mg "isinstance" = none
  int_ : mg "int" = none
  bool_ : mg "bool" = none
  list_ : mg "list" = none
  tuple_ : mg "tuple" = none
  dict_ : mg "dict" = none
  max_ : mg "max" = none
  min_ : mg "min" = none
  sorted_ : mg "sorted" = none
  repr_ : mg "repr" = none
structure Df (K : PySem.W.Frag) (mg : Str → Option Value) (x : Str) (st : Stmt) : Prop where
  ex : ∃ f fd, L2.Fun K x x st f fd ∧ mg x = some (.ref f)
theorem Df.cal {P : Program} {w : World} {K : PySem.W.Frag} {mg : Str → Option Value} {base : Heap} {x : Str} {st : Stmt} {N ps : List Str} {k : Nat} {sp : Sp} (D : Df K mg x st) (S : FnScope N ps (defScope st))
    (hb : ∀ (kV doc pm : Value) (an : Option Addr) (cdv ct : Value) (us : List Value), us.length = ps.length → bindArgs (PySem.W.fnOf x x (defArgs st) (defBody st) (defScope st) .none kV doc pm an cdv ct) ⟨us, []⟩ = pure (ps.zip us))
    (len : ∀ vs H Q E, sp vs H Q E → vs.length = ps.length)
    (body : ∀ (f : Addr) (cdv : Value) (A : Around) (outer : List Env) (s : Shared) (H : Hp) (vs : List V) (Q : VK) (E : XK), Room k (A.deeper (envOfC x (defScope st) s.heap.objs.size f cdv)) → sp vs H Q E →
      ∃ t, PSs (cxOf CX0 P w K mg base N x (defScope st) f cdv A outer s H E).nox (defBody st) t ∧ t { nx := fun _ H' => Q .non H', rt := Q } (start N vs) H) : Cal P w K mg base CX0 (k + 1) x ps sp := by
  obtain ⟨f, fd, F, hm⟩ := D.ex
  exact ⟨⟨f, fd, F.ok S len (fun cdv A outer s H vs Q E hr h => body f cdv A outer s H vs Q E hr h), hm, F.kp, F.binds hb⟩⟩
theorem Df.calX {P : Program} {w : World} {K : PySem.W.Frag} {mg : Str → Option Value} {base : Heap} {x : Str} {st : Stmt} {N ps : List Str} {k : Nat} {sp : Sp} (D : Df K mg x st) (S : FnScope N ps (defScope st))
    (hb : ∀ (kV doc pm : Value) (an : Option Addr) (cdv ct : Value) (us : List Value), us.length = ps.length → bindArgs (PySem.W.fnOf x x (defArgs st) (defBody st) (defScope st) .none kV doc pm an cdv ct) ⟨us, []⟩ = pure (ps.zip us))
    (len : ∀ vs H Q E, sp vs H Q E → vs.length = ps.length)
    (body : ∀ (f : Addr) (cdv : Value) (A : Around) (outer : List Env) (s : Shared) (H : Hp) (vs : List V) (Q : VK) (E : XK), Room k (A.deeper (envOfC x (defScope st) s.heap.objs.size f cdv)) → sp vs H Q E →
      ∃ t, PSs (cxOf (L2.CX P w) P w K mg base N x (defScope st) f cdv A outer s H E) (defBody st) t ∧ t { nx := fun _ H' => Q .non H', rt := Q } (start N vs) H) : Cal P w K mg base (L2.CX P w) (k + 1) x ps sp := by
  obtain ⟨f, fd, F, hm⟩ := D.ex
  exact ⟨⟨f, fd, F.okX S len (fun cdv A outer s H vs Q E hr h => body f cdv A outer s H vs Q E hr h), hm, F.kp, F.binds hb⟩⟩
theorem Cal.mono {P : Program} {w : World} {K : PySem.W.Frag} {mg : Str → Option Value} {base : Heap} {cx : CXT} {j k : Nat} {x : Str} {ps : List Str} {sp : Sp} (c : Cal P w K mg base cx j x ps sp) (h : j ≤ k) : Cal P w K mg base cx k x ps sp := by
  obtain ⟨f, fd, F, r⟩ := c.ex
  exact ⟨⟨f, fd, F.mono h, r⟩⟩
/-! ### heaps -/
theorem same_new {H : Hp} {p : Addr} {o : HO} (h : H p = none) : Same H (upd H p o) := fun b x e => by
  rw [upd_ne (ne_of_none e h)]
  exact e
theorem same_mut {H H' : Hp} {p : Addr} {o : HO} (s : Same H H') (h : H p = none) : Same H (upd H' p o) := fun b x e => by
  rw [upd_ne (ne_of_none e h)]
  exact s b x e
theorem Same.tup {K : PySem.W.Frag} {H H' : Hp} {a : Addr} {xs : List V} (e : Same H H') (h : SqT K H a xs) : SqT K H' a xs := by
  rcases h with (h | ⟨o, h⟩) | h
  · exact .inl (.inl (e _ _ h))
  · exact .inl (.inr ⟨o, e _ _ h⟩)
  · exact .inr h
theorem sq_l {K : PySem.W.Frag} {H : Hp} {a : Addr} {xs : List V} (h : H a = some (.lst xs)) : SqL K H a xs := .inl (.inl h)
theorem sq_t {K : PySem.W.Frag} {H : Hp} {a : Addr} {xs : List V} (h : H a = some (.tup xs)) : SqT K H a xs := .inl (.inl h)
theorem line_ok {n : Nat} (h : n ≤ 100000) : n ≤ sizeLine := Nat.le_trans h (by decide)
theorem line_lt {n : Nat} (h : n < 100000) : n < sizeLine := Nat.lt_of_lt_of_le h (by decide)
/-! ### words as values -/
abbrev nV (n : Nat) : V := .int (n : Int)
def wsV (l : List Nat) : List V := l.map nV
theorem wsV_len (l : List Nat) : (wsV l).length = l.length := List.length_map ..
theorem wsV_get {l : List Nat} {i x : Nat} (h : l[i]? = some x) : (wsV l)[i]? = some (nV x) := by
  unfold wsV
  rw [List.getElem?_map, h]
  rfl
theorem wsV_inv {l : List Nat} {i : Nat} {v : V} (h : (wsV l)[i]? = some v) : ∃ x, l[i]? = some x ∧ v = nV x := by
  unfold wsV at h
  rw [List.getElem?_map] at h
  cases e : l[i]? with
  | none => rw [e] at h; cases h
  | some x => rw [e] at h; exact ⟨x, rfl, (Option.some.inj h).symm⟩
theorem wsV_app (l m : List Nat) : wsV (l ++ m) = wsV l ++ wsV m := List.map_append
theorem bt_le {b : Nat} (hb : Bt b) : 4 ≤ b ∧ b ≤ 8 := by rcases hb with rfl | rfl <;> decide
theorem pow_le {b : Nat} (hb : Bt b) : 2 ^ b ≤ 256 := by rcases hb with rfl | rfl <;> decide
theorem nn_le {b : Nat} (hb : Bt b) : nn b ≤ 255 := by rcases hb with rfl | rfl <;> decide
theorem shl_one {b : Nat} : (1 : Int) * 2 ^ ((b : Nat) : Int).toNat = ((2 ^ b : Nat) : Int) := by
  rw [Int.toNat_natCast, Int.one_mul]
  exact (Int.natCast_pow 2 b).symm
theorem cpow_one {b : Nat} (hb : Bt b) : CPow 1 ((b : Nat) : Int) := ⟨by omega, by have := (bt_le hb).2; omega, by decide⟩
theorem xor_nat (x y : Nat) : Builtin.bitXor (x : Int) (y : Int) = ((x ^^^ y : Nat) : Int) := by
  rw [Bits.bitXor_pp (Int.natCast_nonneg x) (Int.natCast_nonneg y)]
  rfl
/-! ### the tables as they stand in the heap -/
def FL (b : Nat) : List V := wsV (tab b ++ tab b)
def FD (b : Nat) : List (Key × V) := (tab b).zipIdx.map fun p => (Sum.inl (p.1 : Int), nV p.2)
theorem FL_len (b : Nat) : (FL b).length = 2 * nn b := by
  unfold FL
  rw [wsV_len, List.length_append, tab_len]
  omega
theorem FL_get {b : Nat} (hb : Bt b) {i : Nat} (h : i < 2 * nn b) : (FL b)[i]? = some (nV (pw b i)) := by
  refine wsV_get ?_
  by_cases hi : i < nn b
  · rw [List.getElem?_append_left (by rw [tab_len]; exact hi), tab_get b i hi]
  · rw [List.getElem?_append_right (by rw [tab_len]; omega), tab_len, tab_get b (i - nn b) (by omega)]
    have e := pw_add_nn hb (i - nn b)
    rw [show i - nn b + nn b = i by omega] at e
    rw [e]
theorem FD_len (b : Nat) : (FD b).length = nn b := by
  unfold FD
  rw [List.length_map, List.length_zipIdx, tab_len]
theorem zip_val : ∀ (l : List Nat) (n x : Nat), x ∈ l → valV (l.zipIdx n |>.map fun p => ((Sum.inl (p.1 : Int) : Key), nV p.2)) (Sum.inl (x : Int)) = some (nV (n + l.idxOf x))
  | [], _, _, h => by cases h
  | y :: l, n, x, h => by
    rw [List.zipIdx_cons, List.map_cons]
    by_cases e : y = x
    · subst e
      rw [valV_pos rfl, List.idxOf_cons_self]
      rfl
    · have hx : x ∈ l := (List.mem_cons.mp h).resolve_left (fun q => e q.symm)
      rw [valV_neg (fun q => e (Int.ofNat.inj (Sum.inl.inj q))), zip_val l (n + 1) x hx]
      have ei : (y :: l).idxOf x = l.idxOf x + 1 := by
        have eb : (y == x) = false := beq_eq_false_iff_ne.mpr e
        rw [List.idxOf_cons, eb]
        rfl
      rw [ei, show n + (l.idxOf x + 1) = n + 1 + l.idxOf x by omega]
theorem FD_val {b : Nat} (hb : Bt b) {x : Nat} (hx : x < 2 ^ b) (h0 : 0 < x) : valV (FD b) (Sum.inl (x : Int)) = some (nV (lg b x)) := by
  have e := zip_val (tab b) 0 x (tab_mem hb x hx h0)
  rw [Nat.zero_add] at e
  exact e
def Fld (b : Nat) (K : PySem.W.Frag) (H : Hp) (a : Addr) : Prop := ∃ l d, H a = some (.tup [.ref l, .ref d]) ∧ H l = some (.lst (FL b)) ∧ H d = some (.dK (FD b))
theorem Fld.same {b : Nat} {K : PySem.W.Frag} {H H' : Hp} {a : Addr} (s : Same H H') (h : Fld b K H a) : Fld b K H' a := by
  obtain ⟨l, d, h1, h2, h3⟩ := h
  exact ⟨l, d, s _ _ h1, s _ _ h2, s _ _ h3⟩
end Tw

namespace Tw
open PySem PySem.Spec PyProof.Rows L2
/-! ### readings by name -/
abbrev rAdI : R2 := rI0 fun i j => .int (i + j)
abbrev rSuI : R2 := rI0 fun i j => .int (i - j)
abbrev rMuI : R2 := rI CMul fun i j => .int (i * j)
abbrev rXoI : R2 := rI0 fun i j => .int (Builtin.bitXor i j)
abbrev rShI : R2 := rI CPow fun i j => .int (i * 2 ^ j.toNat)
abbrev rLtI : R2 := rI0 fun i j => .bl (decide (i < j))
abbrev rLeI : R2 := rI0 fun i j => .bl (decide (i ≤ j))
abbrev rIsNo : R2 := fun x y H Q => y = .non ∧ Q (.bl (decide (x = .non))) H
abbrev rNoNo : R2 := fun x y H Q => y = .non ∧ Q (.bl (!decide (x = .non))) H
abbrev rLenK (K : PySem.W.Frag) : List V → Hp → VK → Prop := fun xs H Q => ∃ x n, xs = [x] ∧ LenV K x H n ∧ Q (.int n) H
abbrev rListK (K : PySem.W.Frag) : List V → Hp → VK → Prop := fun xs H Q => ∃ p ys, xs = [.ref p] ∧ (SqL K H p ys ∨ SqT K H p ys) ∧ ∀ l, H l = none → Q (.ref l) (upd H l (.lst ys))
/-! ### kinds of values -/
inductive Knd where
  | non | bl | int | str | lst | tup
  deriving DecidableEq
def Knd.nm : Knd → String
  | .non => "NoneType"
  | .bl => "bool"
  | .int => "int"
  | .str => "str"
  | .lst => "list"
  | .tup => "tuple"
inductive Pl (K : PySem.W.Frag) (H : Hp) : V → Knd → Prop where
  | non : Pl K H .non .non
  | bl (b : Bool) : Pl K H (.bl b) .bl
  | int (i : Int) : Pl K H (.int i) .int
  | str (x : Str) : Pl K H (.str x) .str
  | lst {a : Addr} {xs : List V} (h : SqL K H a xs) : Pl K H (.ref a) .lst
  | tup {a : Addr} {xs : List V} (h : SqT K H a xs) : Pl K H (.ref a) .tup
theorem Pl.same {K : PySem.W.Frag} {H H' : Hp} {v : V} {k : Knd} (s : Same H H') (h : Pl K H v k) : Pl K H' v k := by
  cases h with
  | non => exact .non
  | bl b => exact .bl b
  | int i => exact .int i
  | str x => exact .str x
  | lst h => exact .lst (s.seq h)
  | tup h => exact .tup (Same.tup s h)
theorem Pl.ty {K : PySem.W.Frag} {H : Hp} {v : V} {k : Knd} (h : Pl K H v k) : TyX K H v (.type k.nm) := by
  cases h with
  | non => exact .base .non
  | bl b => exact .base (.bl b)
  | int i => exact .base (.int i)
  | str x => exact .base (.str x)
  | lst h =>
    rcases h with (h | ⟨o, h⟩) | ⟨o, us, n, e, c, _⟩
    · exact .base (.lst h)
    · exact .base (.frz h)
    · exact .kList e c
  | tup h =>
    rcases h with (h | ⟨o, h⟩) | ⟨o, us, n, e, c, _⟩
    · exact .base (.tup h)
    · exact .fTuple h
    · exact .kTuple e c
theorem kit_int {K : PySem.W.Frag} (k : Knd) : PySem.W.kitOne K (.type k.nm) (.type "int") = some (decide (k = .int ∨ k = .bl)) := by
  cases k <;> exact kit_ty (by decide +kernel)
theorem kit_bool {K : PySem.W.Frag} (k : Knd) : PySem.W.kitOne K (.type k.nm) (.type "bool") = some (decide (k = .bl)) := by
  cases k <;> exact kit_ty (by decide +kernel)
theorem kit_tuple {K : PySem.W.Frag} (k : Knd) : PySem.W.kitOne K (.type k.nm) (.type "tuple") = some (decide (k = .tup)) := by
  cases k <;> exact kit_ty (by decide +kernel)
theorem kit_list {K : PySem.W.Frag} (k : Knd) : PySem.W.kitOne K (.type k.nm) (.type "list") = some (decide (k = .lst)) := by
  cases k <;> exact kit_ty (by decide +kernel)
theorem kit_lt {K : PySem.W.Frag} (k : Knd) : PySem.W.kitAny K (.type k.nm) [.type "list", .type "tuple"] = some (decide (k = .lst ∨ k = .tup)) := by
  have h1 := kit_list (K := K) k
  have h2 := kit_tuple (K := K) k
  unfold PySem.W.kitAny
  cases k <;> simp_all [PySem.W.kitAny]
end Tw

namespace Tw
open PySem PySem.Spec PyProof.Rows L2
def sp_is_int (K : PySem.W.Frag) : Sp := fun vs H Q _ => ∃ v kd, vs = [v] ∧ Pl K H v kd ∧ Q (.bl (decide (kd = .int))) H
def isW (b : Nat) : V → Bool
  | .int i => decide (0 ≤ i ∧ i < ((2 ^ b : Nat) : Int))
  | _ => false
def sp_is_word (K : PySem.W.Frag) : Sp := fun vs H Q _ => ∃ (b : Nat) (v : V) (kd : Knd), vs = [nV b, v] ∧ Bt b ∧ Pl K H v kd ∧ Q (.bl (isW b v)) H
def sp_is_within : Sp := fun vs H Q _ => ∃ i lo hi : Int, vs = [.int i, .int lo, .int hi] ∧ Q (.bl (decide (lo ≤ i ∧ i ≤ hi))) H
def sp_doubled : Sp := fun vs H Q _ => ∃ b x : Nat, vs = [nV b, nV x] ∧ Bt b ∧ x < 2 ^ b ∧ Q (nV (dbl b x)) H
def sp_multiplied (K : PySem.W.Frag) : Sp := fun vs H Q _ => ∃ (b : Nat) (a : Addr) (x y : Nat), vs = [.ref a, nV x, nV y] ∧ Bt b ∧ Fld b K H a ∧ x < 2 ^ b ∧ y < 2 ^ b ∧ Q (nV (mul b x y)) H
/-- 2 to some power, of any sign -/
def pwI (b : Nat) (z : Int) : Nat := pw b (z.fmod (nn b)).toNat
def sp_power_of (K : PySem.W.Frag) : Sp := fun vs H Q _ => ∃ (b : Nat) (a : Addr) (z : Int), vs = [.ref a, .int z] ∧ Bt b ∧ Fld b K H a ∧ Q (nV (pwI b z)) H
def sp_inverse_of (K : PySem.W.Frag) : Sp := fun vs H Q _ => ∃ (b : Nat) (a : Addr) (x : Nat), vs = [.ref a, nV x] ∧ Bt b ∧ Fld b K H a ∧ x < 2 ^ b ∧ 0 < x ∧ Q (nV (pw b (nn b - lg b x))) H
def sp_value_at (K : PySem.W.Frag) : Sp := fun vs H Q _ => ∃ (b : Nat) (a r : Addr) (l : List Nat) (x : Nat), vs = [.ref a, .ref r, nV x] ∧ Bt b ∧ Fld b K H a ∧ (SqL K H r (wsV l) ∨ SqT K H r (wsV l)) ∧ Ws b l ∧ x < 2 ^ b ∧ Q (nV (ev b x l)) H
theorem pwI_nat {b : Nat} (hb : Bt b) (n : Nat) : pwI b (n : Int) = pw b n := by
  unfold pwI
  rw [Int.fmod_eq_emod_of_nonneg _ (by omega), ← Int.natCast_emod, Int.toNat_natCast, pw_mod hb]
theorem pwI_inv {b : Nat} (hb : Bt b) {x : Nat} (hx : x < 2 ^ b) (h0 : 0 < x) : pwI b (0 - (lg b x : Int)) = pw b (nn b - lg b x) := by
  have h := lg_lt hb hx h0
  have hn := nn_pos hb
  unfold pwI
  rw [Int.fmod_eq_emod_of_nonneg _ (by omega), ← pw_mod hb (nn b - lg b x)]
  congr 1
  have e : (0 - (lg b x : Int)) % (nn b : Int) = (((nn b - lg b x) % nn b : Nat) : Int) := by
    rw [Int.natCast_emod, Int.natCast_sub (by omega), ← Int.add_emod_left (nn b : Int) (0 - (lg b x : Int))]
    congr 1
    omega
  rw [e, Int.toNat_natCast]
theorem pwI_lt {b : Nat} (hb : Bt b) (z : Int) : pwI b z < 2 ^ b := pw_lt hb _
section
variable {P : Program} {w : World} {K : PySem.W.Frag} {mg : Str → Option Value} {base : Heap} {k : Nat}
/-! is_int: slots 0 value -/
abbrev s_is_int : Stmt := topS 7
abbrev n_is_int : List Str := ["value"]
theorem sc_is_int : FnScope n_is_int ["value"] (defScope s_is_int) := ⟨rfl, rfl, rfl, by decide +kernel, rfl, by decide +kernel, by decide +kernel⟩
theorem ok_is_int (D : Df K mg "is_int" s_is_int) (B : Blt mg) : Cal P w K mg base CX0 (k + 1) "is_int" ["value"] (sp_is_int K) := by
  refine D.cal sc_is_int (fun _ _ _ _ _ _ us hl => match us, hl with | [_], _ => rfl) (fun vs H Q E h => ?_) (fun f cdv A outer s H vs Q E hr h => ?_)
  · obtain ⟨v, kd, rfl, h⟩ := h
    rfl
  · obtain ⟨v, kd, rfl, hp, q⟩ := h
    refine ⟨_, (pss_one (ps_ret (pe_and (pe_callB call_isi (by rfl) B.isinstance_ (by decide +kernel) (pa_cons (pv 0) (pa_cons (pe_bltn (v := .ty "int") (by rfl) B.int_ (by decide +kernel) rfl) pa_nil))) (pe_one (pe_not (pe_callB call_isi (by rfl) B.isinstance_ (by decide +kernel) (pa_cons (pv 0) (pa_cons (pe_bltn (v := .ty "bool") (by rfl) B.bool_ (by decide +kernel) rfl) pa_nil)))))))), ?_⟩
    refine ⟨v, rfl, v, .ty "int", _, _, _, rfl, .ty _, hp.ty, kit_int kd, _, rfl, ?_⟩
    cases kd <;> first
      | exact q
      | exact ⟨v, rfl, v, .ty "bool", _, _, _, rfl, .ty _, hp.ty, kit_bool _, _, rfl, q⟩
/-! is_word: slots 0 bits, 1 value -/
abbrev s_is_word : Stmt := topS 8
abbrev n_is_word : List Str := ["bits", "value"]
theorem sc_is_word : FnScope n_is_word ["bits", "value"] (defScope s_is_word) := ⟨rfl, rfl, rfl, by decide +kernel, rfl, by decide +kernel, by decide +kernel⟩
theorem ok_is_word (D : Df K mg "is_word" s_is_word) (c_is_int : Cal P w K mg base CX0 k "is_int" ["value"] (sp_is_int K)) : Cal P w K mg base CX0 (k + 1) "is_word" ["bits", "value"] (sp_is_word K) := by
  refine D.cal sc_is_word (fun _ _ _ _ _ _ us hl => match us, hl with | [_, _], _ => rfl) (fun vs H Q E h => ?_) (fun f cdv A outer s H vs Q E hr h => ?_)
  · obtain ⟨b, v, kd, rfl, h⟩ := h
    rfl
  · obtain ⟨b, v, kd, rfl, hb, hp, q⟩ := h
    refine ⟨_, (pss_one (ps_ret (pe_and (pe_cal c_is_int hr pass0 (pa_cons (pv 1) pa_nil)) (pe_one (pe_chain op_le op_lt pe_int (pv 1) (pe_op op_shl pe_int (pv 0))))))), ?_⟩
    refine ⟨v, rfl, v, kd, rfl, hp, _, rfl, ?_⟩
    cases hp with
    | int i =>
      refine ⟨.int i, rfl, 0, i, rfl, rfl, _, rfl, ite2 (fun c => ?_) (fun c => ?_)⟩
      · refine ⟨_, rfl, 1, _, rfl, rfl, cpow_one hb, i, _, rfl, rfl, ?_⟩
        have c' : 0 ≤ i := of_decide_eq_true c
        rw [shl_one]
        have e : isW b (.int i) = decide (i < ((2 ^ b : Nat) : Int)) := decide_eq_decide.mpr ⟨fun z => z.2, fun z => ⟨c', z⟩⟩
        rw [e] at q
        exact q
      · have c' : ¬ 0 ≤ i := fun z => c (decide_eq_true z)
        have e : isW b (.int i) = false := decide_eq_false fun z => c' z.1
        rw [e] at q
        exact q
    | non => exact q
    | bl _ => exact q
    | str _ => exact q
    | lst _ => exact q
    | tup _ => exact q
/-! is_within: slots 0 value, 1 least, 2 most -/
abbrev s_is_within : Stmt := topS 18
abbrev n_is_within : List Str := ["value", "least", "most"]
theorem sc_is_within : FnScope n_is_within ["value", "least", "most"] (defScope s_is_within) := ⟨rfl, rfl, rfl, by decide +kernel, rfl, by decide +kernel, by decide +kernel⟩
theorem ok_is_within (D : Df K mg "is_within" s_is_within) (c_is_int : Cal P w K mg base CX0 k "is_int" ["value"] (sp_is_int K)) : Cal P w K mg base CX0 (k + 1) "is_within" ["value", "least", "most"] sp_is_within := by
  refine D.cal sc_is_within (fun _ _ _ _ _ _ us hl => match us, hl with | [_, _, _], _ => rfl) (fun vs H Q E h => ?_) (fun f cdv A outer s H vs Q E hr h => ?_)
  · obtain ⟨i, lo, hi, rfl, h⟩ := h
    rfl
  · obtain ⟨i, lo, hi, rfl, q⟩ := h
    refine ⟨_, (pss_one (ps_ret (pe_and (pe_cal c_is_int hr pass0 (pa_cons (pv 0) pa_nil)) (pe_one (pe_chain op_le op_le (pv 1) (pv 0) (pv 2)))))), ?_⟩
    refine ⟨_, rfl, .int i, .int, rfl, .int i, true, rfl, ?_⟩
    refine ⟨_, rfl, _, rfl, lo, i, rfl, rfl, _, rfl, ite2 (fun c => ?_) (fun c => ?_)⟩
    · have c' : lo ≤ i := of_decide_eq_true c
      refine ⟨_, rfl, i, hi, rfl, rfl, ?_⟩
      have e : decide (lo ≤ i ∧ i ≤ hi) = decide (i ≤ hi) := decide_eq_decide.mpr ⟨fun z => z.2, fun z => ⟨c', z⟩⟩
      rw [e] at q
      exact q
    · have c' : ¬ lo ≤ i := fun z => c (decide_eq_true z)
      have e : decide (lo ≤ i ∧ i ≤ hi) = false := decide_eq_false fun z => c' z.1
      rw [e] at q
      exact q
/-! doubled: slots 0 bits, 1 one -/
abbrev s_doubled : Stmt := topS 10
abbrev n_doubled : List Str := ["bits", "one"]
theorem sc_doubled : FnScope n_doubled ["bits", "one"] (defScope s_doubled) := ⟨rfl, rfl, rfl, by decide +kernel, rfl, by decide +kernel, by decide +kernel⟩
theorem ok_doubled {aT : Addr} (D : Df K mg "doubled" s_doubled) (dT : D48 K aT 9 113) (gT : mg "TAILS" = some (.ref aT)) : Cal P w K mg base CX0 (k + 1) "doubled" ["bits", "one"] sp_doubled := by
  refine D.cal sc_doubled (fun _ _ _ _ _ _ us hl => match us, hl with | [_, _], _ => rfl) (fun vs H Q E h => ?_) (fun f cdv A outer s H vs Q E hr h => ?_)
  · obtain ⟨b, x, rfl, h⟩ := h
    rfl
  · obtain ⟨b, x, rfl, hb, hx, q⟩ := h
    refine ⟨_, (pss_cons (ps_set (i := 1) sc_doubled.nd rfl (Or.inl rfl) (pe_op op_mul (pv 1) pe_int))
      (pss_one (ps_ret (pe_ifExp (pt_cmpR op_lt (pv 1) (pe_op op_shl pe_int (pv 0)) (nomark _)) (pv 1) (pe_op op_xor (pe_op op_sub (pv 1) (pe_op op_shl pe_int (pv 0))) (pe_ix (ix_48 dT) (pe_glob (v := .ref aT) (by rfl) gT rfl) (pv 0) (fun _ _ => rfl))))))), ?_⟩
    have h256 := pow_le hb
    have hx' : (x : Int) < 256 := by omega
    refine ⟨_, rfl, _, _, rfl, rfl, .inl ⟨by omega, by omega⟩, ?_⟩
    refine ⟨_, rfl, _, rfl, 1, _, rfl, rfl, cpow_one hb, _, _, rfl, rfl, _, rfl, ite2 (fun c => ?_) (fun c => ?_)⟩
    · have c' := of_decide_eq_true c
      rw [shl_one] at c'
      have e : dbl b x = 2 * x := if_pos (by omega)
      rw [e] at q
      refine ⟨_, rfl, ?_⟩
      rw [Nat.mul_comm] at q
      exact q
    · have c' : ¬ _ := fun z => c (decide_eq_true z)
      rw [shl_one] at c'
      have e : dbl b x = (2 * x - 2 ^ b) ^^^ tl b := if_neg (by omega)
      rw [e] at q
      refine ⟨_, rfl, _, rfl, 1, _, rfl, rfl, cpow_one hb, _, _, rfl, rfl, ?_⟩
      dsimp only
      rw [shl_one, show (x : Int) * 2 - ((2 ^ b : Nat) : Int) = ((2 * x - 2 ^ b : Nat) : Int) by omega]
      refine ⟨_, rfl, rfl, ?_⟩
      rcases hb with rfl | rfl
      · refine .inl ⟨rfl, _, 9, rfl, rfl, ?_⟩
        dsimp only
        rw [show (9 : Int) = ((9 : Nat) : Int) from rfl, xor_nat]
        exact q
      · refine .inr ⟨rfl, _, 113, rfl, rfl, ?_⟩
        dsimp only
        rw [show (113 : Int) = ((113 : Nat) : Int) from rfl, xor_nat]
        exact q
/-! multiplied: slots 0 field, 1 one, 2 other -/
abbrev s_multiplied : Stmt := topS 14
abbrev n_multiplied : List Str := ["field", "one", "other"]
theorem sc_multiplied : FnScope n_multiplied ["field", "one", "other"] (defScope s_multiplied) := ⟨rfl, rfl, rfl, by decide +kernel, rfl, by decide +kernel, by decide +kernel⟩
theorem ok_multiplied (D : Df K mg "multiplied" s_multiplied) : Cal P w K mg base CX0 (k + 1) "multiplied" ["field", "one", "other"] (sp_multiplied K) := by
  refine D.cal sc_multiplied (fun _ _ _ _ _ _ us hl => match us, hl with | [_, _, _], _ => rfl) (fun vs H Q E h => ?_) (fun f cdv A outer s H vs Q E hr h => ?_)
  · obtain ⟨b, a, x, y, rfl, h⟩ := h
    rfl
  · obtain ⟨b, a, x, y, rfl, hb, ⟨l, d, ha, hl, hd⟩, hx, hy, q⟩ := h
    refine ⟨_, (pss_cons (ps_if (PW.pt (pw_or (pt_cmpR op_eq (pv 1) pe_int (nomark _)) (pw_or1 (pt_cmpR op_eq (pv 2) pe_int (nomark _)))))
        (pss_one (ps_ret pe_int))
        pss_nil)
      (pss_one (ps_ret (pe_ix ix_list (pe_ix ix_tup (pv 0) pe_int (fun _ _ => rfl)) (pe_op op_add (pe_dget (hu_of hr) (pe_ix ix_tup (pv 0) pe_int (fun _ _ => rfl)) (pv 1) (fun _ _ => rfl)) (pe_dget (hu_of hr) (pe_ix ix_tup (pv 0) pe_int (fun _ _ => rfl)) (pv 2) (fun _ _ => rfl))) (fun _ _ => rfl))))), ?_⟩
    have zero : ∀ {z : Nat}, decide (nV z = nV 0) = true → z = 0 := fun e => by
      have e' := V.int.inj (of_decide_eq_true e)
      omega
    refine ⟨_, rfl, rfl, _, rfl, ite2 (fun c => ?_) (fun c => ?_)⟩
    · have e : x = 0 := zero c
      subst e
      rw [zero_mul] at q
      exact iteT q
    · have nx : x ≠ 0 := fun z => c (by subst z; exact decide_eq_true rfl)
      refine ⟨_, rfl, rfl, _, rfl, ite2 (fun c2 => ?_) (fun c2 => ?_)⟩
      · have e : y = 0 := zero c2
        subst e
        rw [mul_zero] at q
        exact q
      · have ny : y ≠ 0 := fun z => c2 (by subst z; exact decide_eq_true rfl)
        have px := lg_lt hb hx (Nat.pos_of_ne_zero nx)
        have py := lg_lt hb hy (Nat.pos_of_ne_zero ny)
        rw [mul_ne nx ny] at q
        refine ⟨_, rfl, a, _, 0, .ref l, rfl, rfl, sq_t ha, rfl, ?_⟩
        refine ⟨_, rfl, a, _, 1, .ref d, rfl, rfl, sq_t ha, rfl, _, rfl, d, _, rfl, .inl ⟨_, .inl (x : Int), .inl hd, rfl, (FD_val hb hx (Nat.pos_of_ne_zero nx)).symm⟩, ?_⟩
        refine ⟨_, rfl, a, _, 1, .ref d, rfl, rfl, sq_t ha, rfl, _, rfl, d, _, rfl, .inl ⟨_, .inl (y : Int), .inl hd, rfl, (FD_val hb hy (Nat.pos_of_ne_zero ny)).symm⟩, ?_⟩
        refine ⟨_, _, rfl, rfl, l, FL b, _, nV (pw b (lg b x + lg b y)), rfl, rfl, sq_l hl, ?_, q⟩
        rw [← Int.natCast_add]
        exact atI_nat (FL_get hb (by omega))
/-! power_of: slots 0 field, 1 place -/
abbrev s_power_of : Stmt := topS 15
abbrev n_power_of : List Str := ["field", "place"]
theorem sc_power_of : FnScope n_power_of ["field", "place"] (defScope s_power_of) := ⟨rfl, rfl, rfl, by decide +kernel, rfl, by decide +kernel, by decide +kernel⟩
theorem ok_power_of (D : Df K mg "power_of" s_power_of) (B : Blt mg) : Cal P w K mg base CX0 (k + 1) "power_of" ["field", "place"] (sp_power_of K) := by
  refine D.cal sc_power_of (fun _ _ _ _ _ _ us hl => match us, hl with | [_, _], _ => rfl) (fun vs H Q E h => ?_) (fun f cdv A outer s H vs Q E hr h => ?_)
  · obtain ⟨b, a, z, rfl, h⟩ := h
    rfl
  · obtain ⟨b, a, z, rfl, hb, ⟨l, d, ha, hl, hd⟩, q⟩ := h
    refine ⟨_, (pss_one (ps_ret (pe_ix ix_list (pe_ix ix_tup (pv 0) pe_int (fun _ _ => rfl)) (pe_op op_modN (pv 1) (pe_callB call_lenD (by rfl) B.len_ (by decide +kernel) (pa_cons (pe_ix ix_tup (pv 0) pe_int (fun _ _ => rfl)) pa_nil))) (fun _ _ => rfl)))), ?_⟩
    have hn := nn_pos hb
    refine ⟨_, rfl, a, _, 0, .ref l, rfl, rfl, sq_t ha, rfl, _, rfl, _, rfl, a, _, 1, .ref d, rfl, rfl, sq_t ha, rfl, d, _, rfl, hd, _, _, rfl, rfl, ?_, ?_⟩
    · rw [FD_len]
      omega
    · rw [FD_len]
      have e0 : z.fmod (nn b : Int) = z % (nn b : Int) := Int.fmod_eq_emod_of_nonneg _ (by omega)
      have e1 : 0 ≤ z.fmod (nn b : Int) := by rw [e0]; exact Int.emod_nonneg _ (by omega)
      have e2 : z.fmod (nn b : Int) < nn b := by rw [e0]; exact Int.emod_lt_of_pos _ (by omega)
      refine ⟨l, FL b, _, nV (pwI b z), rfl, rfl, sq_l hl, ?_, q⟩
      have e3 : z.fmod (nn b : Int) = ((z.fmod (nn b : Int)).toNat : Int) := (Int.toNat_of_nonneg e1).symm
      rw [e3]
      refine atI_nat ?_
      rw [FL_get hb (by omega)]
      rfl
/-! inverse_of: slots 0 field, 1 word -/
abbrev s_inverse_of : Stmt := topS 16
abbrev n_inverse_of : List Str := ["field", "word"]
theorem sc_inverse_of : FnScope n_inverse_of ["field", "word"] (defScope s_inverse_of) := ⟨rfl, rfl, rfl, by decide +kernel, rfl, by decide +kernel, by decide +kernel⟩
theorem ok_inverse_of (D : Df K mg "inverse_of" s_inverse_of) (c_power_of : Cal P w K mg base CX0 k "power_of" ["field", "place"] (sp_power_of K)) : Cal P w K mg base CX0 (k + 1) "inverse_of" ["field", "word"] (sp_inverse_of K) := by
  refine D.cal sc_inverse_of (fun _ _ _ _ _ _ us hl => match us, hl with | [_, _], _ => rfl) (fun vs H Q E h => ?_) (fun f cdv A outer s H vs Q E hr h => ?_)
  · obtain ⟨b, a, x, rfl, h⟩ := h
    rfl
  · obtain ⟨b, a, x, rfl, hb, hF, hx, h0, q⟩ := h
    refine ⟨_, (pss_one (ps_ret (pe_cal c_power_of hr pass0 (pa_cons (pv 0) (pa_cons (pe_op op_sub pe_int (pe_dget (hu_of hr) (pe_ix ix_tup (pv 0) pe_int (fun _ _ => rfl)) (pv 1) (fun _ _ => rfl))) pa_nil))))), ?_⟩
    obtain ⟨l, d, ha, hl, hd⟩ := id hF
    refine ⟨_, rfl, _, rfl, a, _, 1, .ref d, rfl, rfl, sq_t ha, rfl, _, rfl, d, _, rfl, .inl ⟨_, .inl (x : Int), .inl hd, rfl, (FD_val hb hx h0).symm⟩, _, _, rfl, rfl, ?_⟩
    refine ⟨b, a, _, rfl, hb, hF, ?_⟩
    rw [pwI_inv hb hx h0]
    exact q
/-! value_at: slots 0 field, 1 row, 2 at, 3 found, 4 word -/
abbrev s_value_at : Stmt := topS 17
abbrev n_value_at : List Str := ["field", "row", "at", "found", "word"]
theorem sc_value_at : FnScope n_value_at ["field", "row", "at"] (defScope s_value_at) := ⟨rfl, rfl, rfl, by decide +kernel, rfl, by decide +kernel, by decide +kernel⟩
theorem ev_take {b x i u : Nat} {l : List Nat} (h : l[i]? = some u) : ev b x (l.take (i + 1)) = mul b (ev b x (l.take i)) x ^^^ u := by
  rw [List.take_add_one, h]
  exact ev_snoc b x _ u
theorem Ws_take {b i : Nat} {l : List Nat} (h : Ws b l) : Ws b (l.take i) := fun u hu => h u (List.mem_of_mem_take hu)
theorem Ws_get {b i u : Nat} {l : List Nat} (h : Ws b l) (e : l[i]? = some u) : u < 2 ^ b := h u (List.mem_of_getElem? e)
theorem ok_value_at (D : Df K mg "value_at" s_value_at) (c_multiplied : Cal P w K mg base CX0 k "multiplied" ["field", "one", "other"] (sp_multiplied K)) : Cal P w K mg base CX0 (k + 1) "value_at" ["field", "row", "at"] (sp_value_at K) := by
  refine D.cal sc_value_at (fun _ _ _ _ _ _ us hl => match us, hl with | [_, _, _], _ => rfl) (fun vs H Q E h => ?_) (fun f cdv A outer s H vs Q E hr h => ?_)
  · obtain ⟨b, a, r, l, x, rfl, h⟩ := h
    rfl
  · obtain ⟨b, a, r, l, x, rfl, hb, hF, hR, hl, hx, q⟩ := h
    have turn : ∀ (i : Nat) (y : V) (st : L2.St) (H' : Hp) (Z : Ends), (wsV l)[i]? = some y → (∃ v, st = [some (.ref a), some (.ref r), some (nV x), some (nV (ev b x (l.take i))), v] ∧ H' = H) →
        (∀ v, Z.nx [some (.ref a), some (.ref r), some (nV x), some (nV (ev b x (l.take (i + 1)))), v] H) → gName 4 y st H' fun s2 H2 => tAsg (tOp (rI0 fun i j => .int (Builtin.bitXor i j)) (tCall (sp_multiplied K) [] E0 (tCons (tVar 0) (tCons (tVar 3) (tCons (tVar 2) tNil)))) (tVar 4)) (gName 3) Z s2 H2 := by
      rintro i y st H' Z hi ⟨v, rfl, rfl⟩ hN
      obtain ⟨u, hu, rfl⟩ := wsV_inv hi
      refine ⟨_, rfl, _, rfl, _, rfl, b, a, ev b x (l.take i), x, rfl, hb, hF, ev_lt hb x _ (Ws_take hl), hx, _, rfl, _, _, rfl, rfl, ?_⟩
      dsimp only
      rw [xor_nat, ← ev_take hu]
      exact hN _
    rcases hR with hR | hR
    · refine ⟨_, (pss_cons (ps_set (i := 3) sc_value_at.nd rfl (Or.inl rfl) pe_int)
        (pss_cons (ps_for PassesOwn.never rfl (pi_list (pv 1)) (pg_name (i := 4) sc_value_at.nd rfl (Or.inl rfl))
          (pss_one (ps_set (i := 3) sc_value_at.nd rfl (Or.inl rfl) (pe_op op_xor (pe_cal c_multiplied hr pass0 (pa_cons (pv 0) (pa_cons (pv 3) (pa_cons (pv 2) pa_nil)))) (pv 4)))))
        (pss_one (ps_ret (pv 3))))), ?_⟩
      refine ⟨_, rfl, r, rfl, ⟨_, hR⟩, for_list (K := K) (a := r) (xs := wsV l) (fun i st H' => ∃ v, st = [some (.ref a), some (.ref r), some (nV x), some (nV (ev b x (l.take i))), v] ∧ H' = H) ⟨none, rfl, rfl⟩ ?_ (fun i y st H' hi p => turn i y st H' _ hi p (fun v => ⟨v, rfl, rfl⟩)) ?_⟩
      · rintro i st H' _ ⟨v, rfl, rfl⟩
        exact hR
      · rintro st H' ⟨v, rfl, rfl⟩
        refine ⟨_, rfl, ?_⟩
        rw [wsV_len, List.take_length]
        exact q
    · refine ⟨_, (pss_cons (ps_set (i := 3) sc_value_at.nd rfl (Or.inl rfl) pe_int)
        (pss_cons (ps_for PassesOwn.never rfl (pi_tup (pv 1)) (pg_name (i := 4) sc_value_at.nd rfl (Or.inl rfl))
          (pss_one (ps_set (i := 3) sc_value_at.nd rfl (Or.inl rfl) (pe_op op_xor (pe_cal c_multiplied hr pass0 (pa_cons (pv 0) (pa_cons (pv 3) (pa_cons (pv 2) pa_nil)))) (pv 4)))))
        (pss_one (ps_ret (pv 3))))), ?_⟩
      refine ⟨_, rfl, r, rfl, ⟨_, hR⟩, for_tup (K := K) (a := r) (xs := wsV l) (fun i st H' => ∃ v, st = [some (.ref a), some (.ref r), some (nV x), some (nV (ev b x (l.take i))), v] ∧ H' = H) ⟨none, rfl, rfl⟩ ?_ (fun i y st H' hi p => turn i y st H' _ hi p (fun v => ⟨v, rfl, rfl⟩)) ?_⟩
      · rintro i st H' _ ⟨v, rfl, rfl⟩
        exact hR
      · rintro st H' ⟨v, rfl, rfl⟩
        refine ⟨_, rfl, ?_⟩
        rw [wsV_len, List.take_length]
        exact q
end
end Tw

namespace Tw
open PySem PySem.Spec PyProof.Rows L2
/-- a new object: the promise of a def that makes one -/
def sp_power_table (K : PySem.W.Frag) : Sp := fun vs H Q _ => ∃ b : Nat, vs = [nV b] ∧ Bt b ∧ ∀ H' a, Same H H' → H a = none → Fld b K H' a → Q (.ref a) H'
theorem keys_nodup : ∀ (l : List Nat) (n : Nat), l.Nodup → (((l.zipIdx n).map fun p => ((Sum.inl (p.1 : Int) : Key), nV p.2)).map (·.1)).Nodup
  | [], _, _ => List.nodup_nil
  | x :: l, n, h => by
    rw [List.zipIdx_cons, List.map_cons, List.map_cons, List.nodup_cons]
    rw [List.nodup_cons] at h
    refine ⟨fun hm => h.1 ?_, keys_nodup l (n + 1) h.2⟩
    obtain ⟨p, hp, e⟩ := List.mem_map.mp hm
    obtain ⟨r, hr, rfl⟩ := List.mem_map.mp hp
    have e' : r.1 = x := Int.ofNat.inj (Sum.inl.inj e)
    rw [← e']
    obtain ⟨y, j⟩ := r
    exact List.fst_mem_of_mem_zipIdx hr
theorem FD_nodup {b : Nat} (hb : Bt b) : ((FD b).map (·.1)).Nodup := keys_nodup (tab b) 0 (tab_nodup hb)
theorem mergeK_snoc : ∀ (more kvs : List (Key × V)), ((kvs ++ more).map (·.1)).Nodup → mergeK kvs more = kvs ++ more
  | [], kvs, _ => by
    rw [List.append_nil]
    rfl
  | p :: more, kvs, h => by
    have hn : valV kvs p.1 = none := by
      cases e : valV kvs p.1 with
      | none => rfl
      | some v =>
        have hm := valV_in e
        rw [List.map_append, List.nodup_append] at h
        exact absurd rfl (h.2.2 _ hm p.1 (by rw [List.map_cons]; exact List.mem_cons_self))
    show mergeK (putK kvs p.1 p.2) more = _
    have e : putK kvs p.1 p.2 = kvs ++ [p] := by
      unfold putK
      rw [valV_any, hn]
      exact if_neg (by simp)
    rw [e, mergeK_snoc more (kvs ++ [p]) (by rw [List.append_assoc]; exact h), List.append_assoc]
    rfl
theorem FD_get {b : Nat} {i x : Nat} (h : (tab b)[i]? = some x) : (FD b)[i]? = some (Sum.inl (x : Int), nV i) := by
  unfold FD
  rw [List.getElem?_map, List.getElem?_zipIdx, h, Nat.zero_add]
  rfl
section
variable {P : Program} {w : World} {K : PySem.W.Frag} {mg : Str → Option Value} {base : Heap} {k : Nat}
/-! power_table: slots 0 bits, 1 found, 2 place, 3 word -/
abbrev s_power_table : Stmt := topS 13
abbrev n_power_table : List Str := ["bits", "found", "place", "word"]
theorem sc_power_table : FnScope n_power_table ["bits"] (defScope s_power_table) := ⟨rfl, rfl, rfl, by decide +kernel, rfl, by decide +kernel, by decide +kernel⟩
theorem ok_power_table (D : Df K mg "power_table" s_power_table) (B : Blt mg) (c_doubled : Cal P w K mg base CX0 k "doubled" ["bits", "one"] sp_doubled) : Cal P w K mg base CX0 (k + 1) "power_table" ["bits"] (sp_power_table K) := by
  refine D.cal sc_power_table (fun _ _ _ _ _ _ us hl => match us, hl with | [_], _ => rfl) (fun vs H Q E h => ?_) (fun f cdv A outer s H vs Q E hr h => ?_)
  · obtain ⟨b, rfl, h⟩ := h
    rfl
  · obtain ⟨b, rfl, hb, q⟩ := h
    refine ⟨_, (pss_cons (ps_set (i := 1) sc_power_table.nd rfl (Or.inl rfl) (pe_lst (pa_cons pe_int pa_nil)))
      (pss_cons (ps_while PassesOwn.never (pt_cmpR op_lt (pe_callB call_len (by rfl) B.len_ (by decide +kernel) (pa_cons (pv 1) pa_nil)) (pe_op op_sub (pe_op op_shl pe_int (pv 0)) pe_int) (nomark _))
        (pss_one (ps_expr (pe_bm PySem.F.plainAttrs_list PySem.F.slot_list_append PySem.F.type_list_append mt_append (pv 1) (pa_cons (pe_cal c_doubled hr pass0 (pa_cons (pv 0) (pa_cons (pe_ix ix_list (pv 1) (pe_un un_neg pe_int) (fun _ _ => rfl)) pa_nil))) pa_nil)))))
      (pss_one (ps_ret (pe_tup (pa_cons (pe_op op_rep (pv 1) pe_int) (pa_cons (pe_callTy (call_dictP rfl) (by rfl) B.dict_ (by decide +kernel) (pa_cons (pe_lc (own := [("place", 2), ("word", 3)]) (g := (gTup K 2 (gCons (gName 2) (gCons (gName 3) gNil)))) (tt := tYes) (te := (tTup (tCons (tVar 3) (tCons (tVar 2) tNil)))) rfl sc_power_table.nd (pi_enum (by rfl) B.enumerate_ (pa_cons (pv 1) pa_nil)) (blkOk_by (N := n_power_table) (sc := defScope s_power_table) (by decide +kernel)) (fun _ _ _ _ _ => by exact (pg_tup (by rfl) (pgs_cons (pg_name (i := 2) sc_power_table.nd rfl (Or.inl rfl)) (pgs_cons (pg_name (i := 3) sc_power_table.nd rfl (Or.inl rfl)) pgs_nil)))) (fun _ _ _ _ _ => pts_nil) (fun _ _ _ _ _ => by exact (pe_tup (pa_cons (pv 3) (pa_cons (pv 2) pa_nil))))) pa_nil)) pa_nil))))))), ?_⟩
    have hn := nn_pos hb
    have hn2 := nn_le hb
    have hnn : ((2 ^ b : Nat) : Int) - 1 = (nn b : Int) := by
      have := Nat.two_pow_pos b
      unfold nn
      omega
    -- found = [1]
    refine ⟨line_ok (by decide), fun o no => ?_⟩
    have t1 : (tab b).take 1 = [1] := by
      rw [List.take_add_one, tab_get b 0 hn]
      rfl
    -- the loop
    refine ⟨fun m st H' => ∃ i, 1 ≤ i ∧ i ≤ nn b ∧ m = nn b - i ∧ st = [some (nV b), some (.ref o), none, none] ∧ Same H H' ∧ H' o = some (.lst (wsV ((tab b).take i))), ⟨_, 1, Nat.le_refl _, hn, rfl, rfl, same_new no, ?_⟩, ?_⟩
    · rw [t1]
      exact upd_same
    rintro m st H' ⟨i, i1, i2, rfl, rfl, sm, ho⟩
    have hlen : (wsV ((tab b).take i)).length = i := by
      rw [wsV_len, List.length_take, tab_len]
      omega
    refine ⟨_, rfl, _, i, rfl, .inl ⟨_, sq_l ho, hlen.symm⟩, _, rfl, 1, _, rfl, rfl, cpow_one hb, _, _, rfl, rfl, _, _, rfl, rfl, _, rfl, ?_⟩
    rw [shl_one, hnn]
    refine ite2 (fun c => ?_) (fun c => ?_)
    · have c' : (i : Int) < nn b := of_decide_eq_true c
      have hi : i < nn b := by omega
      refine ⟨fun st2 H2 => ∃ i', i' = i + 1 ∧ st2 = [some (nV b), some (.ref o), none, none] ∧ Same H H2 ∧ H2 o = some (.lst (wsV ((tab b).take i'))), ?_, ?_⟩
      · rintro st2 H2 ⟨i', rfl, rfl, s2, h2⟩
        exact ⟨nn b - (i + 1), by omega, i + 1, by omega, by omega, rfl, rfl, s2, h2⟩
      · obtain ⟨j, rfl⟩ : ∃ j, i = j + 1 := ⟨i - 1, by omega⟩
        have hj := tab_get b j (by omega)
        have ej : wsV ((tab b).take (j + 1)) = wsV ((tab b).take j) ++ [nV (pw b j)] := by
          rw [List.take_add_one, hj, wsV_app]
          rfl
        refine ⟨.ref o, rfl, .inl ⟨rfl, _, sq_l ho⟩, _, rfl, .ref o, rfl, 1, rfl, o, _, -1, nV (pw b j), rfl, rfl, sq_l ho, ?_, b, pw b j, rfl, hb, pw_lt hb j, o, _, _, rfl, rfl, ho, ?_, ?_⟩
        · rw [ej]
          exact atI_last _ _
        · rw [hlen]
          exact line_lt (by omega)
        · refine ⟨j + 1 + 1, rfl, rfl, same_mut sm no, ?_⟩
          rw [upd_same, List.take_add_one (i := j + 1), tab_get b (j + 1) hi, wsV_app]
          rfl
    · have c' : ¬ (i : Int) < nn b := fun z => c (decide_eq_true z)
      have hi : i = nn b := by omega
      subst hi
      rw [show (tab b).take (nn b) = tab b from List.take_of_length_le (by rw [tab_len]; exact Nat.le_refl _)] at ho
      rw [show (tab b).take (nn b) = tab b from List.take_of_length_le (by rw [tab_len]; exact Nat.le_refl _)] at hlen
      -- found * 2
      refine ⟨.ref o, rfl, o, 2, wsV (tab b), rfl, rfl, ho, by decide, by decide, line_ok (by rw [hlen]; show nn b * 2 ≤ _; omega), fun l nl => ?_⟩
      have el : (List.replicate (2 : Int).toNat (wsV (tab b))).flatten = FL b := by
        show (wsV (tab b) ++ (wsV (tab b) ++ [])) = FL b
        unfold FL
        rw [List.append_nil, wsV_app]
      rw [el]
      have s1 : Same H (upd H' l (.lst (FL b))) := sm.trans (same_new nl)
      have o1 : (upd H' l (.lst (FL b))) o = some (.lst (wsV (tab b))) := by
        rw [upd_ne (ne_of_none ho nl)]
        exact ho
      have ho0 := s1.free (l := o)
      generalize hH1 : upd H' l (.lst (FL b)) = H1 at s1 o1
      have l1 : H1 l = some (.lst (FL b)) := by
        rw [← hH1]
        exact upd_same
      have hlH : H l = none := sm.free nl
      -- [(word, place) for ..]
      refine ⟨.ref o, rfl, o, wsV (tab b), rfl, sq_l o1, fun D hD => ?_⟩
      refine lc_it (walk_enum (K := K) (a := o) (xs := wsV (tab b))) (fun i H2 => ∃ ps : List Addr, Same H1 H2 ∧ H2 D = some (.lst (ps.map .ref)) ∧ ps.length = i ∧ Paired (fun p (kv : Key × V) => SqT K H2 p [kV kv.1, kv.2]) ps ((FD b).take i)) ⟨[], same_new hD, upd_same, rfl, .nil⟩ (fun i H2 _ p => ?_) (fun i x H2 H3 hi p y => ?_) (fun H2 p => ?_)
      · obtain ⟨ps, s2, _⟩ := p
        exact sq_l (s2 _ _ o1)
      · obtain ⟨ps, s2, dD, hps, pr⟩ := p
        obtain ⟨T, x1, x2, rfl, nT, rfl, e1, e2⟩ := y
        rw [hlen] at hi
        have hx := tab_get b i hi
        have e1' := Option.some.inj e1
        have e2' := Option.some.inj ((wsV_get hx).symm.trans e2)
        subst e1' e2'
        refine ⟨T, _, rfl, sq_t upd_same, rfl, _, _, rfl, _, _, rfl, rfl, ?_⟩
        refine ⟨rfl, ?_⟩
        dsimp only [tYes]
        rw [if_pos rfl]
        refine ⟨_, rfl, _, rfl, (by decide : 2 ≤ sizeLine), fun p np => ?_⟩
        have nTD : D ≠ T := ne_of_none dD nT
        have d2 : (upd (upd H2 T (.tup [.int (i : Nat), nV (pw b i)])) p (.tup [nV (pw b i), .int (i : Nat)])) D = some (.lst (ps.map .ref)) := by
          have d1 : (upd H2 T (.tup [.int (i : Nat), nV (pw b i)])) D = some (.lst (ps.map .ref)) := by
            rw [upd_ne nTD]
            exact dD
          rw [upd_ne (ne_of_none d1 np)]
          exact d1
        have s3 : Same H2 (upd (upd H2 T (.tup [.int (i : Nat), nV (pw b i)])) p (.tup [nV (pw b i), .int (i : Nat)])) := (same_new nT).trans (same_new np)
        have hpD : p ≠ D := fun z => by
          rw [z, upd_ne nTD, dD] at np
          cases np
        refine ⟨_, d2, line_lt (by rw [List.length_map]; omega), ps ++ [p], same_mut (s2.trans s3) hD, ?_, by rw [List.length_append, hps]; rfl, ?_⟩
        · rw [upd_same, List.map_append]
          rfl
        · rw [List.take_add_one, FD_get hx]
          have up : ∀ {a : Addr} {xs : List V}, SqT K H2 a xs → SqT K (upd (upd (upd H2 T (.tup [.int (i : Nat), nV (pw b i)])) p (.tup [nV (pw b i), .int (i : Nat)])) D (.lst (ps.map V.ref ++ [.ref p]))) a xs := fun {a xs} h => by
            have h' := Same.tup s3 h
            rcases h' with (h' | ⟨o', h'⟩) | h'
            · exact .inl (.inl (by rw [upd_ne (ne_of h' d2 (by intro z; cases z))]; exact h'))
            · exact .inl (.inr ⟨o', by rw [upd_ne (ne_of h' d2 (by intro z; cases z))]; exact h'⟩)
            · exact .inr h'
          refine Paired.snoc (Paired.mapP pr fun a kv z => up z) ?_
          refine sq_t ?_
          rw [upd_ne hpD, upd_same]
          rfl
      · obtain ⟨ps, s2, dD, hps, pr⟩ := p
        rw [hlen] at hps pr
        rw [show (FD b).take (nn b) = FD b from List.take_of_length_le (by rw [FD_len]; exact Nat.le_refl _)] at pr
        refine ⟨D, ps, FD b, rfl, sq_l dD, pr, fun d nd => ?_⟩
        rw [mergeK_snoc (FD b) [] (FD_nodup hb), List.nil_append]
        refine ⟨(by decide : 2 ≤ sizeLine), fun t nt => ?_⟩
        have h0 : H d = none := (s1.trans s2).free nd
        have s4 : Same H2 (upd (upd H2 d (.dK (FD b))) t (.tup [.ref l, .ref d])) := (same_new nd).trans (same_new nt)
        refine q _ t ((s1.trans s2).trans s4) ?_ ⟨l, d, upd_same, s4 _ _ (s2 _ _ l1), ?_⟩
        · exact (s1.trans (s2.trans (same_new nd))).free nt
        · rw [upd_ne (ne_of_none upd_same nt)]
          exact upd_same
end
end Tw

namespace Tw
open PySem PySem.Spec PyProof.Rows L2
/-! ### comprehensions: what is kept, what is made -/
def sel (n : Nat) (f : Nat → Bool) (v : Nat → V) : List V := ((List.range n).filter f).map v
theorem sel_yes {n : Nat} {f : Nat → Bool} {v : Nat → V} (h : f n = true) : sel (n + 1) f v = sel n f v ++ [v n] := by
  unfold sel
  rw [List.range_succ, List.filter_append, List.map_append, List.filter_cons, if_pos h]
  rfl
theorem sel_no {n : Nat} {f : Nat → Bool} {v : Nat → V} (h : f n = false) : sel (n + 1) f v = sel n f v := by
  unfold sel
  rw [List.range_succ, List.filter_append, List.map_append, List.filter_cons, if_neg (by rw [h]; decide)]
  exact List.append_nil _
theorem sel_len (n : Nat) (f : Nat → Bool) (v : Nat → V) : (sel n f v).length ≤ n := by
  unfold sel
  have h := List.length_filter_le f (List.range n)
  rw [List.length_range] at h
  rw [List.length_map]
  exact h
theorem sel_all (n : Nat) (v : Nat → V) : sel n (fun _ => true) v = (List.range n).map v := by
  unfold sel
  rw [List.filter_eq_self.mpr fun _ _ => rfl]
theorem sel_len_all (n : Nat) (v : Nat → V) : (sel n (fun _ => true) v).length = n := by
  rw [sel_all, List.length_map, List.length_range]
def Pc (H1 : Hp) (D : Addr) (f : Nat → Bool) (v : Nat → V) (i : Nat) (H : Hp) : Prop := Same H1 H ∧ H D = some (.lst (sel i f v))
section
variable {J : It} {n : Nat} {G : Hp → Prop} {Y : Nat → Hp → V → Hp → Prop} {vs : List Nat} {tt : TT} {te : TE} {st : L2.St} {H1 : Hp} {D : Addr} {Qd : Hp → Prop}
theorem pc_turn {f : Nat → Bool} {v : Nat → V} {i : Nat} {st2 : L2.St} {H H' : Hp} (hD : H1 D = none) (hi : i < 50000) (p : Pc H1 D f v i H) (s0 : Same H H')
    (ht : ∀ R : Bool → Hp → Prop, (∀ H3, Same H' H3 → R (f i) H3) → tt st2 H' R) (he : f i = true → ∀ H3, Same H' H3 → ∀ Qk : VK, (∀ H4, Same H3 H4 → Qk (v i) H4) → te st2 H3 Qk) :
    tt st2 H' fun b H3 => if b = true then te st2 H3 fun y H4 => ∃ acc, H4 D = some (.lst acc) ∧ acc.length < sizeLine ∧ Pc H1 D f v (i + 1) (upd H4 D (.lst (acc ++ [y]))) else Pc H1 D f v (i + 1) H3 := by
  obtain ⟨s1, d1⟩ := p
  refine ht _ fun H3 s3 => ?_
  cases hf : f i with
  | false =>
    rw [if_neg (by decide)]
    refine ⟨s1.trans (s0.trans s3), ?_⟩
    rw [sel_no hf]
    exact s3 _ _ (s0 _ _ d1)
  | true =>
    rw [if_pos rfl]
    refine he hf H3 s3 _ fun H4 s4 => ⟨_, s4 _ _ (s3 _ _ (s0 _ _ d1)), line_lt (Nat.lt_of_le_of_lt (sel_len i f v) (by omega)), same_mut (s1.trans (s0.trans (s3.trans s4))) hD, ?_⟩
    rw [sel_yes hf]
    exact upd_same
/-- the target one name -/
theorem lcN (w : Walk J n G Y) {j : Nat} (f : Nat → Bool) (v : Nat → V) (hD : H1 D = none) (hn : n ≤ 50000) (hw : ∀ x, wipe ((wipe st vs).set j (some x)) vs = wipe st vs) (hG : ∀ H', Same H1 H' → G H')
    (hs : ∀ i x H' H'', i < n → Same H1 H' → Y i H' x H'' → Same H' H'' ∧ (∀ R : Bool → Hp → Prop, (∀ H3, Same H'' H3 → R (f i) H3) → tt ((wipe st vs).set j (some x)) H'' R) ∧
      (f i = true → ∀ H3, Same H'' H3 → ∀ Qk : VK, (∀ H4, Same H3 H4 → Qk (v i) H4) → te ((wipe st vs).set j (some x)) H3 Qk))
    (hd : ∀ H', Same H1 H' → H' D = some (.lst (sel n f v)) → Qd H') :
    ∃ W : Nat → Nat → Hp → Prop, (∃ m, W 0 m (upd H1 D (.lst []))) ∧ ∀ i m H, W i m H →
      (J.stop i H ∧ Qd H) ∨ (J.go i H ∧ ∃ Nx : Hp → Prop, (∀ H', Nx H' → ∃ m', m' < m ∧ W (i + 1) m' H') ∧ ∀ x H', J.yld i H x H' → gName j x (wipe st vs) H' fun st2 H2 => wipe st2 vs = wipe st vs ∧ tt st2 H2 fun b H3 =>
        if b = true then te st2 H3 fun y H4 => ∃ acc, H4 D = some (.lst acc) ∧ acc.length < sizeLine ∧ Nx (upd H4 D (.lst (acc ++ [y]))) else Nx H3) :=
  lc_it w (Pc H1 D f v) ⟨same_new hD, upd_same⟩ (fun i H _ p => hG H p.1) (fun i x H H' hi p y => by
    obtain ⟨s0, ht, he⟩ := hs i x H H' hi p.1 y
    exact ⟨hw x, pc_turn hD (by omega) p s0 ht he⟩) (fun H p => hd H p.1 p.2)
/-- the target two names -/
theorem lcP {K : PySem.W.Frag} {xs ys : Nat → Option V} (w : Walk J n G (YPair xs ys)) {j l : Nat} (f : Nat → Bool) (v : Nat → V) (hD : H1 D = none) (hn : n ≤ 50000) (hw : ∀ x y, wipe (((wipe st vs).set j (some x)).set l (some y)) vs = wipe st vs) (hG : ∀ H', Same H1 H' → G H')
    (hs : ∀ i x y H', i < n → xs i = some x → ys i = some y → Same H1 H' → (∀ R : Bool → Hp → Prop, (∀ H3, Same H' H3 → R (f i) H3) → tt (((wipe st vs).set j (some x)).set l (some y)) H' R) ∧
      (f i = true → ∀ H3, Same H' H3 → ∀ Qk : VK, (∀ H4, Same H3 H4 → Qk (v i) H4) → te (((wipe st vs).set j (some x)).set l (some y)) H3 Qk))
    (hd : ∀ H', Same H1 H' → H' D = some (.lst (sel n f v)) → Qd H') :
    ∃ W : Nat → Nat → Hp → Prop, (∃ m, W 0 m (upd H1 D (.lst []))) ∧ ∀ i m H, W i m H →
      (J.stop i H ∧ Qd H) ∨ (J.go i H ∧ ∃ Nx : Hp → Prop, (∀ H', Nx H' → ∃ m', m' < m ∧ W (i + 1) m' H') ∧ ∀ x H', J.yld i H x H' → gTup K 2 (gCons (gName j) (gCons (gName l) gNil)) x (wipe st vs) H' fun st2 H2 => wipe st2 vs = wipe st vs ∧ tt st2 H2 fun b H3 =>
        if b = true then te st2 H3 fun y H4 => ∃ acc, H4 D = some (.lst acc) ∧ acc.length < sizeLine ∧ Nx (upd H4 D (.lst (acc ++ [y]))) else Nx H3) :=
  lc_it w (Pc H1 D f v) ⟨same_new hD, upd_same⟩ (fun i H _ p => hG H p.1) (fun i x H H' hi p y => by
    obtain ⟨T, x1, x2, rfl, nT, rfl, e1, e2⟩ := y
    have s0 : Same H (upd H T (.tup [x1, x2])) := same_new nT
    obtain ⟨ht, he⟩ := hs i x1 x2 (upd H T (.tup [x1, x2])) hi e1 e2 (p.1.trans s0)
    refine ⟨T, _, rfl, sq_t upd_same, rfl, x1, _, rfl, x2, _, rfl, rfl, hw x1 x2, ?_⟩
    exact pc_turn hD (by omega) p s0 ht he) (fun H p => hd H p.1 p.2)
end
theorem yes_all {st : L2.St} {H : Hp} {R : Bool → Hp → Prop} (h : ∀ H3, Same H H3 → R true H3) : tYes st H R := h H (Same.refl H)
/-! ### lists by place -/
theorem ixN_nat {n j : Nat} (h : j < n) : ixN n (j : Int) = some j := by
  unfold ixN
  rw [if_pos (by omega), if_pos (by omega), Int.toNat_natCast]
theorem set_wsV {l : List Nat} {i x : Nat} : (wsV l).set i (nV x) = wsV (l.set i x) := by
  unfold wsV
  rw [List.map_set]
end Tw

namespace Tw
open PySem PySem.Spec PyProof.Rows L2
/-! ### a list that is overwritten from the front -/
def mix {α : Type} (A B : List α) (k : Nat) : List α := A.take k ++ B.drop k
theorem mix_len {α : Type} {A B : List α} (h : A.length = B.length) (k : Nat) : (mix A B k).length = A.length := by
  unfold mix
  rw [List.length_append, List.length_take, List.length_drop]
  omega
theorem mix_zero {α : Type} (A B : List α) : mix A B 0 = B := rfl
theorem mix_full {α : Type} {A B : List α} (h : A.length = B.length) {k : Nat} (hk : A.length ≤ k) : mix A B k = A := by
  unfold mix
  rw [List.take_of_length_le hk, List.drop_eq_nil_of_le (by omega), List.append_nil]
theorem mix_get {α : Type} {A B : List α} (h : A.length = B.length) {k : Nat} (hk : k < A.length) : (mix A B k)[k]? = B[k]? := by
  unfold mix
  rw [List.getElem?_append_right (by rw [List.length_take]; omega), List.getElem?_drop, List.length_take]
  congr 1
  omega
theorem mix_get_ge {α : Type} {A B : List α} (h : A.length = B.length) {k i : Nat} (hk : k ≤ i) : (mix A B k)[i]? = B[i]? := by
  by_cases hi : i < A.length
  · unfold mix
    rw [List.getElem?_append_right (by rw [List.length_take]; omega), List.getElem?_drop, List.length_take]
    congr 1
    omega
  · rw [List.getElem?_eq_none (by rw [mix_len h]; omega), List.getElem?_eq_none (by omega)]
theorem mix_set {α : Type} {A B : List α} (h : A.length = B.length) {k : Nat} {x : α} (hx : A[k]? = some x) : (mix A B k).set k x = mix A B (k + 1) := by
  obtain ⟨hk, e⟩ := List.getElem?_eq_some_iff.mp hx
  have hB : k < B.length := by omega
  unfold mix
  rw [List.set_append_right _ _ (by rw [List.length_take]; omega), List.length_take, show k - min k A.length = 0 by omega, List.take_add_one, hx, List.drop_eq_getElem_cons hB, List.append_assoc]
  rfl
/-! ### maker -/
def sp_maker (K : PySem.W.Frag) : Sp := fun vs H Q _ => ∃ (b : Nat) (a c : Addr) (many start : Nat), vs = [.ref a, .ref c] ∧ Bt b ∧ many ≤ 40 ∧ Fld b K H a ∧ SqT K H c [nV b, nV many, nV start] ∧
  ∀ H' p, Same H H' → H p = none → H' p = some (.lst (wsV (mk b start many))) → Q (.ref p) H'
theorem stepG_get {b r i x : Nat} {g : List Nat} (h : g[i]? = some x) {y : Nat} (hy : (g ++ [0])[i + 1]? = some y) : (stepG b g r)[i + 1]? = some (y ^^^ mul b x r) := by
  unfold stepG addL
  rw [List.getElem?_zipWith, hy, List.getElem?_cons_succ]
  unfold mulL
  rw [List.getElem?_map, h]
  rfl
theorem stepG_zero {b r : Nat} {g : List Nat} (h : 0 < g.length) : mix (stepG b g r) (g ++ [0]) 1 = g ++ [0] := by
  obtain ⟨x, t, rfl⟩ : ∃ x t, g = x :: t := by
    cases g with
    | nil => exact absurd h (by decide)
    | cons x t => exact ⟨x, t, rfl⟩
  show (x ^^^ 0) :: (t ++ [0]) = x :: (t ++ [0])
  rw [Nat.xor_zero]
section
variable {P : Program} {w : World} {K : PySem.W.Frag} {mg : Str → Option Value} {base : Heap} {k : Nat}
/-! maker: slots 0 field, 1 code, 2 many, 3 start, 4 found, 5 step, 6 root, 7 longer, 8 place, 9 word -/
abbrev s_maker : Stmt := topS 23
abbrev n_maker : List Str := ["field", "code", "many", "start", "found", "step", "root", "longer", "place", "word"]
theorem sc_maker : FnScope n_maker ["field", "code"] (defScope s_maker) := ⟨rfl, rfl, rfl, by decide +kernel, rfl, by decide +kernel, by decide +kernel⟩
theorem ok_maker (D : Df K mg "maker" s_maker) (B : Blt mg) (c_power_of : Cal P w K mg base CX0 k "power_of" ["field", "place"] (sp_power_of K)) (c_multiplied : Cal P w K mg base CX0 k "multiplied" ["field", "one", "other"] (sp_multiplied K)) :
    Cal P w K mg base CX0 (k + 1) "maker" ["field", "code"] (sp_maker K) := by
  refine D.cal sc_maker (fun _ _ _ _ _ _ us hl => match us, hl with | [_, _], _ => rfl) (fun vs H Q E h => ?_) (fun f cdv A outer s H vs Q E hr h => ?_)
  · obtain ⟨b, a, c, many, start, rfl, h⟩ := h
    rfl
  · obtain ⟨b, a, c, many, start, rfl, hb, hmany, hF, hc, q⟩ := h
    refine ⟨_, (pss_cons (ps_par (i := 2) (j := 3) rfl sc_maker.nd rfl rfl (by decide) rfl rfl (pa_cons (pe_ix ix_tup (pv 1) pe_int (fun _ _ => rfl)) (pa_cons (pe_ix ix_tup (pv 1) pe_int (fun _ _ => rfl)) pa_nil)) (by rfl))
      (pss_cons (ps_set (i := 4) sc_maker.nd rfl (Or.inl rfl) (pe_lst (pa_cons pe_int pa_nil)))
      (pss_cons (ps_for PassesOwn.never rfl (pi_range1 (by rfl) B.range_ (pa_cons (pv 2) pa_nil)) (pg_name (i := 5) sc_maker.nd rfl (Or.inl rfl))
        (pss_cons (ps_par (i := 6) (j := 7) rfl sc_maker.nd rfl rfl (by decide) rfl rfl (pa_cons (pe_cal c_power_of hr pass0 (pa_cons (pv 0) (pa_cons (pe_op op_add (pv 3) (pv 5)) pa_nil))) (pa_cons (pe_op op_cat (pv 4) (pe_lst (pa_cons pe_int pa_nil))) pa_nil)) (by rfl))
      (pss_cons (ps_for PassesOwn.never rfl (pi_enum (by rfl) B.enumerate_ (pa_cons (pv 4) pa_nil)) (pg_tup (by rfl) (pgs_cons (pg_name (i := 8) sc_maker.nd rfl (Or.inl rfl)) (pgs_cons (pg_name (i := 9) sc_maker.nd rfl (Or.inl rfl)) pgs_nil)))
        (pss_one (ps_asg (pe_op op_xor (pe_ix ix_list (pv 7) (pe_op op_add (pv 8) pe_int) (fun _ _ => rfl)) (pe_cal c_multiplied hr pass0 (pa_cons (pv 0) (pa_cons (pv 9) (pa_cons (pv 6) pa_nil))))) (pg_sub (pv 7) (pe_op op_add (pv 8) pe_int) set_list))))
      (pss_one (ps_set (i := 4) sc_maker.nd rfl (Or.inl rfl) (pv 7))))))
      (pss_one (ps_ret (pv 4)))))), ?_⟩
    refine ⟨_, rfl, c, _, 1, nV many, rfl, rfl, hc, rfl, _, rfl, c, _, 2, nV start, rfl, rfl, hc, rfl, _, _, rfl, ?_⟩
    -- found = [1]
    refine ⟨line_ok (by decide), fun o no => ?_⟩
    refine ⟨_, rfl, many, rfl, by omega, by omega, for_range (lo := 0) (n := many) (fun i st H' => ∃ p v5 v6 v7 v8 v9, st = [some (.ref a), some (.ref c), some (nV many), some (nV start), some (.ref p), v5, v6, v7, v8, v9] ∧ Same H H' ∧ H p = none ∧ H' p = some (.lst (wsV (mk b start i))))
      ⟨o, none, none, none, none, none, rfl, same_new no, no, upd_same⟩ ?_ ?_⟩
    · rintro i st H' hi ⟨p, v5, v6, v7, v8, v9, rfl, sm, np, hp⟩
      have gl := mk_len b start i
      have lw := Ws_mk hb start i
      -- root, longer = power_of(..), found + [0]
      refine ⟨_, rfl, _, rfl, _, rfl, _, _, rfl, rfl, b, a, _, rfl, hb, hF.same sm, ?_⟩
      dsimp only
      rw [show (start : Int) + (0 + (i : Int)) = ((start + i : Nat) : Int) by omega, pwI_nat hb]
      refine ⟨_, rfl, line_ok (by decide), fun z nz => ?_⟩
      have sz : Same H' (upd H' z (.lst [.int 0])) := same_new nz
      refine ⟨p, z, _, _, rfl, rfl, sz _ _ hp, upd_same, line_ok (by rw [wsV_len, gl]; show i + 1 + 1 ≤ _; omega), fun l nl => ?_⟩
      have eL : wsV (mk b start i) ++ [V.int 0] = wsV (mk b start i ++ [0]) := (wsV_app (mk b start i) [0]).symm
      rw [eL]
      have s2 : Same H (upd (upd H' z (.lst [.int 0])) l (.lst (wsV (mk b start i ++ [0])))) := sm.trans (sz.trans (same_new nl))
      have nlH : H l = none := (sm.trans sz).free nl
      have pH : (upd (upd H' z (.lst [.int 0])) l (.lst (wsV (mk b start i ++ [0])))) p = some (.lst (wsV (mk b start i))) := (sz.trans (same_new nl)) _ _ hp
      have pl : p ≠ l := fun e => by
        have : (upd H' z (.lst [.int 0])) p = some (.lst (wsV (mk b start i))) := sz _ _ hp
        rw [e, nl] at this
        cases this
      refine ⟨_, _, rfl, ?_⟩
      -- for place, word in enumerate(found)
      refine ⟨_, rfl, p, wsV (mk b start i), rfl, sq_l pH, for_it (walk_enum (K := K) (a := p) (xs := wsV (mk b start i))) (fun j st H2 => ∃ v8 v9, st = [some (.ref a), some (.ref c), some (nV many), some (nV start), some (.ref p), some (.int (0 + (i : Int))), some (nV (pw b (start + i))), some (.ref l), v8, v9] ∧ Same H H2 ∧
        H2 p = some (.lst (wsV (mk b start i))) ∧ H2 l = some (.lst (wsV (mix (stepG b (mk b start i) (pw b (start + i))) (mk b start i ++ [0]) (j + 1))))) ⟨v8, v9, rfl, s2, pH, ?_⟩ (fun j st H2 _ hp => ?_) ?_ ?_⟩
      · rw [stepG_zero (by rw [gl]; omega)]
        exact upd_same
      · obtain ⟨_, _, _, _, h, _⟩ := hp
        exact sq_l h
      · rintro j x st H2 H3 hj ⟨v8, v9, rfl, s3, p3, l3⟩ ⟨T, x1, x2, rfl, nT, rfl, e1, e2⟩
        have e1' := Option.some.inj e1
        subst e1'
        obtain ⟨u, hu, rfl⟩ := wsV_inv e2
        rw [wsV_len, gl] at hj
        refine ⟨T, _, rfl, sq_t upd_same, rfl, _, _, rfl, _, _, rfl, rfl, ?_⟩
        have nTl : l ≠ T := ne_of_none l3 nT
        have nTp : p ≠ T := ne_of_none p3 nT
        have sT : Same H2 (upd H2 T (.tup [.int (j : Nat), nV u])) := same_new nT
        have l4 := sT _ _ l3
        have hlen : (stepG b (mk b start i) (pw b (start + i))).length = (mk b start i ++ [0]).length := by
          rw [stepG_len, List.length_append]
          rfl
        have hl2 : (mk b start i ++ [0]).length = i + 2 := by
          rw [List.length_append, gl]
          rfl
        obtain ⟨y, hy⟩ : ∃ y, (mk b start i ++ [0])[j + 1]? = some y := ⟨_, List.getElem?_eq_getElem (by omega)⟩
        have hget : (mix (stepG b (mk b start i) (pw b (start + i))) (mk b start i ++ [0]) (j + 1))[j + 1]? = some y := by
          rw [mix_get hlen (by omega), hy]
        refine ⟨.ref l, rfl, .int (j : Nat), rfl, _, _, rfl, rfl, l, _, _, nV y, rfl, rfl, sq_l l4, ?_, ?_⟩
        · rw [show ((j : Nat) : Int) + 1 = ((j + 1 : Nat) : Int) by omega]
          exact atI_nat (wsV_get hget)
        refine ⟨_, rfl, _, rfl, _, rfl, b, a, u, _, rfl, hb, (hF.same s3).same sT, Ws_get lw hu, pw_lt hb _, _, _, rfl, rfl, ?_⟩
        dsimp only
        rw [xor_nat]
        refine ⟨.ref l, rfl, .int (j : Nat), rfl, _, _, rfl, rfl, l, _, _, j + 1, rfl, rfl, l4, ?_, ?_⟩
        · rw [show ((j : Nat) : Int) + 1 = ((j + 1 : Nat) : Int) by omega]
          exact ixN_nat (by rw [wsV_len, mix_len hlen, stepG_len, gl]; omega)
        · refine ⟨_, _, rfl, same_mut (s3.trans sT) nlH, ?_, ?_⟩
          · rw [upd_ne pl]
            exact sT _ _ p3
          · rw [upd_same, set_wsV, mix_set hlen (stepG_get hu hy)]
      · rintro st H2 ⟨v8, v9, rfl, s3, p3, l3⟩
        rw [wsV_len, gl] at l3
        rw [mix_full (by rw [stepG_len, List.length_append]; rfl) (by rw [stepG_len, gl]; omega)] at l3
        exact ⟨_, rfl, l, _, _, _, v8, v9, rfl, s3, nlH, l3⟩
    · rintro st H' ⟨p, v5, v6, v7, v8, v9, rfl, sm, np, hp⟩
      exact ⟨_, rfl, q H' p sm np hp⟩
end
end Tw

namespace Tw
open PySem PySem.Spec PyProof.Rows L2
theorem rep_flat {α : Type} (x : α) : ∀ n : Nat, (List.replicate n [x]).flatten = List.replicate n x
  | 0 => rfl
  | n + 1 => by
    rw [List.replicate_succ, List.flatten_cons, rep_flat x n]
    rfl
theorem wsV_rep (n x : Nat) : wsV (List.replicate n x) = List.replicate n (nV x) := List.map_replicate
theorem rep_wsV (n : Nat) : (List.replicate ((n : Nat) : Int).toNat [V.int 0]).flatten = wsV (List.replicate n 0) := by
  rw [Int.toNat_natCast, rep_flat, wsV_rep]
  rfl
theorem cut_from {xs : List V} {i : Nat} (h : i ≤ xs.length) : cutV xs (some (i : Int)) none = xs.drop i := by
  unfold cutV
  rw [HT.sIx_nat, HT.sIx_none, Nat.min_eq_left h]
  exact List.take_of_length_le (by rw [List.length_drop]; exact Nat.le_refl _)
theorem cut_to {xs : List V} {i : Nat} (h : i ≤ xs.length) : cutV xs none (some (i : Int)) = xs.take i := by
  unfold cutV
  rw [HT.sIx_none, HT.sIx_nat, Nat.min_eq_left h]
  rfl
def sp_check_words_in (K : PySem.W.Frag) : Sp := fun vs H Q _ => ∃ (b : Nat) (c wd : Addr) (many start m : Nat), vs = [.ref c, .ref wd] ∧ Bt b ∧ 0 < many ∧ many ≤ 40 ∧ SqT K H c [nV b, nV many, nV start] ∧ SqL K H wd (wsV (List.replicate m 0 ++ [1])) ∧
  ∀ H' p, Same H H' → H p = none → H' p = some (.lst (wsV (mk b start many).tail)) → Q (.ref p) H'
theorem mul_zeros {b : Nat} (t : List Nat) : t.map (mul b 0) = List.replicate t.length 0 := by
  induction t with
  | nil => rfl
  | cons x t ih => rw [List.map_cons, ih, zero_mul]; rfl
theorem mul_ones {b : Nat} (hb : Bt b) : ∀ {t : List Nat}, Ws b t → t.map (mul b 1) = t
  | [], _ => rfl
  | x :: t, h => by rw [List.map_cons, one_mul hb (h x List.mem_cons_self), mul_ones hb fun w hw => h w (List.mem_cons_of_mem _ hw)]
section
variable {P : Program} {w : World} {K : PySem.W.Frag} {mg : Str → Option Value} {base : Heap} {k : Nat}
/-! check_words_in: slots 0 code, 1 words, 2 field, 3 many, 4 found, 5 least, 6 word, 7 factor, 8 place -/
abbrev s_check_words_in : Stmt := topS 24
abbrev n_check_words_in : List Str := ["code", "words", "field", "many", "found", "least", "word", "factor", "place"]
theorem sc_check_words_in : FnScope n_check_words_in ["code", "words"] (defScope s_check_words_in) := ⟨rfl, rfl, rfl, by decide +kernel, rfl, by decide +kernel, by decide +kernel⟩
theorem ok_check_words_in (D : Df K mg "check_words_in" s_check_words_in) (B : Blt mg) (c_power_table : Cal P w K mg base CX0 k "power_table" ["bits"] (sp_power_table K)) (c_maker : Cal P w K mg base CX0 k "maker" ["field", "code"] (sp_maker K))
    (c_multiplied : Cal P w K mg base CX0 k "multiplied" ["field", "one", "other"] (sp_multiplied K)) : Cal P w K mg base CX0 (k + 1) "check_words_in" ["code", "words"] (sp_check_words_in K) := by
  refine D.cal sc_check_words_in (fun _ _ _ _ _ _ us hl => match us, hl with | [_, _], _ => rfl) (fun vs H Q E h => ?_) (fun f cdv A outer s H vs Q E hr h => ?_)
  · obtain ⟨b, c, wd, many, start, m, rfl, h⟩ := h
    rfl
  · obtain ⟨b, c, wd, many, start, m, rfl, hb, hm0, hmany, hc, hw, q⟩ := h
    refine ⟨_, (pss_cons (ps_par3 (i := 2) (j := 3) (l := 4) rfl sc_check_words_in.nd rfl rfl rfl (by decide) (by decide) (by decide) rfl rfl rfl (pa_cons (pe_cal c_power_table hr pass0 (pa_cons (pe_ix ix_tup (pv 0) pe_int (fun _ _ => rfl)) pa_nil)) (pa_cons (pe_ix ix_tup (pv 0) pe_int (fun _ _ => rfl)) (pa_cons (pe_op op_rep (pe_lst (pa_cons pe_int pa_nil)) (pe_ix ix_tup (pv 0) pe_int (fun _ _ => rfl))) pa_nil))) (by rfl))
      (pss_cons (ps_set (i := 5) sc_check_words_in.nd rfl (Or.inl rfl) (pe_cal c_maker hr pass0 (pa_cons (pv 2) (pa_cons (pv 0) pa_nil))))
      (pss_cons (ps_for PassesOwn.never rfl (pi_list (pv 1)) (pg_name (i := 6) sc_check_words_in.nd rfl (Or.inl rfl))
        (pss_cons (ps_par (i := 7) (j := 4) rfl sc_check_words_in.nd rfl rfl (by decide) rfl rfl (pa_cons (pe_op op_xor (pv 6) (pe_ix ix_list (pv 4) pe_int (fun _ _ => rfl))) (pa_cons (pe_op op_cat (pe_slice sl_list (pv 4) (po_some pe_int) po_none) (pe_lst (pa_cons pe_int pa_nil))) pa_nil)) (by rfl))
      (pss_one (ps_for PassesOwn.never rfl (pi_range1 (by rfl) B.range_ (pa_cons (pv 3) pa_nil)) (pg_name (i := 8) sc_check_words_in.nd rfl (Or.inl rfl))
        (pss_one (ps_asg (pe_op op_xor (pe_ix ix_list (pv 4) (pv 8) (fun _ _ => rfl)) (pe_cal c_multiplied hr pass0 (pa_cons (pv 2) (pa_cons (pv 7) (pa_cons (pe_ix ix_list (pv 5) (pe_op op_add (pv 8) pe_int) (fun _ _ => rfl)) pa_nil))))) (pg_sub (pv 4) (pv 8) set_list)))))))
      (pss_one (ps_ret (pv 4)))))), ?_⟩
    refine ⟨_, rfl, c, _, 0, nV b, rfl, rfl, hc, rfl, b, rfl, hb, fun H1 a s1 na hF => ?_⟩
    have c1 := Same.tup s1 hc
    refine ⟨_, rfl, c, _, 1, nV many, rfl, rfl, c1, rfl, line_ok (by decide), fun z nz => ?_⟩
    have sz : Same H1 (upd H1 z (.lst [.int 0])) := same_new nz
    refine ⟨_, rfl, c, _, 1, nV many, rfl, rfl, Same.tup sz c1, rfl, z, _, _, rfl, rfl, upd_same, by omega, by omega, line_ok (by show 1 * _ ≤ _; rw [Int.toNat_natCast]; omega), fun p np => ?_⟩
    rw [rep_wsV]
    have s2 : Same H1 (upd (upd H1 z (.lst [.int 0])) p (.lst (wsV (List.replicate many 0)))) := sz.trans (same_new np)
    refine ⟨_, _, _, rfl, ?_⟩
    -- least = maker(field, code)
    refine ⟨_, rfl, _, rfl, b, a, c, many, start, rfl, hb, hmany, hF.same s2, Same.tup s2 c1, fun H3 g s3 ng hg => ?_⟩
    obtain ⟨t, et⟩ := mk_head b start many
    have tl := mk_len b start many
    have hws := Ws_mk hb start many
    rw [et] at hg tl hws
    have tl' : t.length = many := by simpa using tl
    have tw : Ws b t := fun x hx => hws x (List.mem_cons_of_mem _ hx)
    have p0 : (upd (upd H1 z (.lst [.int 0])) p (.lst (wsV (List.replicate many 0)))) p = some (.lst (wsV (List.replicate many 0))) := upd_same
    have s4 : Same H H3 := s1.trans (s2.trans s3)
    have gp : g ≠ p := fun e => by rw [e, p0] at ng; cases ng
    -- the words
    refine ⟨_, rfl, wd, rfl, ⟨_, s4.seq hw⟩, for_list (K := K) (a := wd) (xs := wsV (List.replicate m 0 ++ [1])) (fun i st H' => ∃ p v6 v7 v8, st = [some (.ref c), some (.ref wd), some (.ref a), some (nV many), some (.ref p), some (.ref g), v6, v7, v8] ∧ Same H H' ∧ H p = none ∧ g ≠ p ∧ Fld b K H' a ∧ H' g = some (.lst (wsV (1 :: t))) ∧
      H' p = some (.lst (wsV (if i ≤ m then List.replicate many 0 else t)))) ⟨p, none, none, none, rfl, s4, ?_, gp, (hF.same s2).same s3, hg, ?_⟩ ?_ ?_ ?_⟩
    · exact (s1.trans sz).free np
    · rw [if_pos (Nat.zero_le m)]
      exact s3 _ _ p0
    · rintro i st H' _ ⟨p, v6, v7, v8, rfl, sm, _⟩
      exact sm.seq hw
    · rintro i y st H' hi ⟨p, v6, v7, v8, rfl, sm, np, gp, hF', hg', hp⟩
      obtain ⟨u, hu, rfl⟩ := wsV_inv hi
      have him : i ≤ m := by
        obtain ⟨hlt, _⟩ := List.getElem?_eq_some_iff.mp hu
        rw [List.length_append, List.length_replicate, List.length_singleton] at hlt
        omega
      rw [if_pos him] at hp
      have hu2 : u < 2 := by
        rcases List.mem_append.mp (List.mem_of_getElem? hu) with h | h
        · rw [(List.mem_replicate.mp h).2]
          decide
        · rw [List.mem_singleton.mp h]
          decide
      obtain ⟨n, rfl⟩ : ∃ n, many = n + 1 := ⟨many - 1, by omega⟩
      have z0 : (wsV (List.replicate (n + 1) 0))[0]? = some (nV 0) := wsV_get rfl
      -- factor, found = word ^ found[0], found[1:] + [0]
      refine ⟨_, rfl, .ref p, rfl, p, _, 0, nV 0, rfl, rfl, sq_l hp, atI_nat (j := 0) z0, _, _, rfl, rfl, ?_⟩
      dsimp only
      rw [xor_nat, Nat.xor_zero]
      refine ⟨.ref p, rfl, 1, rfl, p, _, rfl, sq_l hp, fun x nx => ?_⟩
      have ex : cutV (wsV (List.replicate (n + 1) 0)) (some 1) none = wsV (List.replicate n 0) := by
        have e := cut_from (xs := wsV (List.replicate (n + 1) 0)) (i := 1) (by rw [wsV_len, List.length_replicate]; omega)
        refine Eq.trans e ?_
        rw [wsV_rep, wsV_rep]
        rfl
      rw [ex]
      have sx : Same H' (upd H' x (.lst (wsV (List.replicate n 0)))) := same_new nx
      refine ⟨line_ok (by decide), fun y ny => ?_⟩
      have sy := sx.trans (same_new (o := .lst [.int 0]) ny)
      refine ⟨x, y, _, _, rfl, rfl, (same_new ny) _ _ upd_same, upd_same, line_ok (by rw [wsV_len, List.length_replicate]; show n + 1 ≤ _; omega), fun l nl => ?_⟩
      have el : wsV (List.replicate n 0) ++ [V.int 0] = wsV (List.replicate (n + 1) 0) := by
        rw [wsV_rep, wsV_rep, List.replicate_succ']
        rfl
      rw [el]
      have sl := sy.trans (same_new (o := .lst (wsV (List.replicate (n + 1) 0))) nl)
      have nlH : H l = none := (sm.trans sy).free nl
      have nl' : H' l = none := sy.free nl
      have gl : g ≠ l := fun e => by
        have h2 := sy _ _ hg'
        rw [e, nl] at h2
        cases h2
      refine ⟨_, _, rfl, ?_⟩
      have hm : (t.map (mul b u)).length = (List.replicate (n + 1) 0).length := by rw [List.length_map, List.length_replicate, tl']
      refine ⟨_, rfl, (n + 1 : Nat), rfl, by omega, by omega, for_range (lo := 0) (n := n + 1) (fun j st H2 => ∃ v8, st = [some (.ref c), some (.ref wd), some (.ref a), some (nV (n + 1)), some (.ref l), some (.ref g), some (nV u), some (nV u), v8] ∧ Same H' H2 ∧
        H2 l = some (.lst (wsV (mix (t.map (mul b u)) (List.replicate (n + 1) 0) j)))) ⟨v8, rfl, sl, upd_same⟩ ?_ ?_⟩
      · rintro j st H2 hj ⟨v8, rfl, s5, hl2⟩
        have hF2 := hF'.same s5
        have hg2 := s5 _ _ hg'
        obtain ⟨x, hx⟩ : ∃ x, t[j]? = some x := ⟨_, List.getElem?_eq_getElem (by omega)⟩
        have hxt : (t.map (mul b u))[j]? = some (mul b u x) := by
          rw [List.getElem?_map, hx]
          rfl
        have hj0 : (mix (t.map (mul b u)) (List.replicate (n + 1) 0) j)[j]? = some 0 := by
          rw [mix_get hm (by rw [List.length_map]; omega), List.getElem?_replicate, if_pos hj]
        have ej : (0 : Int) + (j : Int) = ((j : Nat) : Int) := by omega
        refine ⟨.ref l, rfl, _, rfl, l, _, _, nV 0, rfl, rfl, sq_l hl2, ?_, ?_⟩
        · rw [ej]
          exact atI_nat (wsV_get hj0)
        refine ⟨_, rfl, _, rfl, .ref g, rfl, _, rfl, _, _, rfl, rfl, g, _, _, nV x, rfl, rfl, sq_l hg2, ?_, ?_⟩
        · rw [show (0 : Int) + (j : Int) + 1 = ((j + 1 : Nat) : Int) by omega]
          exact atI_nat (wsV_get (by rw [List.getElem?_cons_succ]; exact hx))
        refine ⟨b, a, u, x, rfl, hb, hF2, Nat.lt_of_lt_of_le hu2 (by have := one_lt hb; omega), Ws_get tw hx, _, _, rfl, rfl, ?_⟩
        dsimp only
        rw [xor_nat, Nat.zero_xor]
        refine ⟨.ref l, rfl, _, rfl, l, _, _, j, rfl, rfl, hl2, ?_, ?_⟩
        · rw [ej]
          exact ixN_nat (by rw [wsV_len, mix_len hm, List.length_map]; omega)
        · refine ⟨_, rfl, same_mut s5 nl', ?_⟩
          rw [upd_same, set_wsV, mix_set hm hxt]
      · rintro st H2 ⟨v8, rfl, s5, hl2⟩
        have hF2 := hF'.same s5
        have hg2 := s5 _ _ hg'
        rw [mix_full hm (by rw [List.length_map]; omega)] at hl2
        refine ⟨l, _, _, v8, rfl, sm.trans s5, nlH, gl, hF2, hg2, ?_⟩
        rw [hl2]
        by_cases e : i < m
        · have u0 : u = 0 := by
            rw [List.getElem?_append_left (by rw [List.length_replicate]; exact e), List.getElem?_replicate, if_pos e] at hu
            exact (Option.some.inj hu).symm
          subst u0
          rw [if_pos (by omega), mul_zeros, tl']
        · have u1 : u = 1 := by
            rw [List.getElem?_append_right (by rw [List.length_replicate]; omega), List.length_replicate, show i - m = 0 by omega] at hu
            exact (Option.some.inj hu).symm
          subst u1
          rw [if_neg (by omega), mul_ones hb tw]
    · rintro st H' ⟨p, v6, v7, v8, rfl, sm, np, gp, hF', hg', hp⟩
      rw [wsV_len, List.length_append, List.length_replicate, List.length_singleton, if_neg (by omega)] at hp
      refine ⟨_, rfl, q H' p sm np ?_⟩
      rw [et]
      exact hp
end
end Tw

namespace Tw
open PySem PySem.Spec PyProof.Rows L2
structure Kode (b many start : Nat) : Prop where
  bt : Bt b
  m0 : 0 < many
  m1 : many ≤ if b = 4 then 14 else 40
  st : start + 2 ≤ 2 ^ b
theorem Kode.le {b many start : Nat} (h : Kode b many start) : many ≤ 40 := by
  have := h.m1
  split at this <;> omega
def At3 (K : PySem.W.Frag) (H : Hp) (c : Addr) (b many start : Nat) : Prop := SqT K H c [nV b, nV many, nV start]
def sp_lone_row (K : PySem.W.Frag) : Sp := fun vs H Q _ => ∃ (b : Nat) (c : Addr) (many start n : Nat), vs = [.ref c, nV n] ∧ Kode b many start ∧ many < n ∧ n ≤ 255 ∧ At3 K H c b many start ∧
  ∀ H' p, Same H H' → H p = none → H' p = some (.lst (wsV (lone b start many n))) → Q (.ref p) H'
/-! ### rows with gaps -/
def gN : Option Nat → V
  | some n => nV n
  | none => .non
def dif : Option Nat → Nat → Bool
  | none, _ => false
  | some y, x => y != x
def unl (n : Nat) (gs : List (Option Nat)) (l : List Nat) : Nat := ((List.range n).filter fun i => dif (gs.getD i none) (l.getD i 0)).length
theorem gN_inv {gs : List (Option Nat)} {i : Nat} {v : V} (h : (gs.map gN)[i]? = some v) : ∃ g, gs[i]? = some g ∧ v = gN g := by
  rw [List.getElem?_map] at h
  cases e : gs[i]? with
  | none => rw [e] at h; cases h
  | some x => rw [e] at h; exact ⟨x, rfl, (Option.some.inj h).symm⟩
theorem getD_of {α : Type} {l : List α} {i : Nat} {x d : α} (h : l[i]? = some x) : l.getD i d = x := by
  rw [List.getD_eq_getElem?_getD, h]
  rfl
def sp_unlike_in (K : PySem.W.Frag) : Sp := fun vs H Q _ => ∃ (r o : Addr) (gs : List (Option Nat)) (l : List Nat), vs = [.ref r, .ref o] ∧ SqL K H r (gs.map gN) ∧ SqL K H o (wsV l) ∧ gs.length = l.length ∧ l.length ≤ 255 ∧
  ∀ H', Same H H' → Q (nV (unl l.length gs l)) H'
theorem dif_test {g : Option Nat} {x : Nat} {st : L2.St} {H : Hp} {R : Bool → Hp → Prop} {i j : Nat} (hi : st[i]? = some (some (gN g))) (hj : st[j]? = some (some (nV x))) (h : ∀ H3, Same H H3 → R (dif g x) H3) :
    tAnd (tTest (tOp rNoNo (tVar i) (tC .non))) (tTest (tOp rNe (tVar i) (tVar j))) st H R := by
  refine ⟨_, hi, rfl, _, rfl, ?_⟩
  cases g with
  | none => exact h H (Same.refl H)
  | some y =>
    refine ⟨_, hi, _, hj, rfl, _, rfl, ?_⟩
    have e : (!decide (gN (some y) = nV x)) = dif (some y) x := by
      show (!decide (nV y = nV x)) = (y != x)
      rw [bne, Bool.not_eq_eq_eq_not, Bool.not_not, Bool.eq_iff_iff, decide_eq_true_iff, beq_iff_eq]
      exact ⟨fun z => Int.ofNat.inj (V.int.inj z), fun z => by rw [z]⟩
    rw [e]
    exact h H (Same.refl H)
def sp_check_code (K : PySem.W.Frag) : Sp := fun vs H Q _ => ∃ (b : Nat) (c : Addr) (many start : Nat), vs = [.ref c] ∧ Kode b many start ∧ At3 K H c b many start ∧ Q .non H
def sp_check_length (K : PySem.W.Frag) : Sp := fun vs H Q _ => ∃ (b : Nat) (c : Addr) (many start n : Nat), vs = [.ref c, nV n] ∧ Kode b many start ∧ At3 K H c b many start ∧ many < n ∧ n ≤ nn b ∧ Q .non H
section
variable {P : Program} {w : World} {K : PySem.W.Frag} {mg : Str → Option Value} {base : Heap} {k : Nat}
/-! lone_row: slots 0 code, 1 length, 2 words -/
abbrev s_lone_row : Stmt := topS 35
abbrev n_lone_row : List Str := ["code", "length", "words"]
theorem sc_lone_row : FnScope n_lone_row ["code", "length"] (defScope s_lone_row) := ⟨rfl, rfl, rfl, by decide +kernel, rfl, by decide +kernel, by decide +kernel⟩
theorem ok_lone_row (D : Df K mg "lone_row" s_lone_row) (c_check_words_in : Cal P w K mg base CX0 k "check_words_in" ["code", "words"] (sp_check_words_in K)) : Cal P w K mg base CX0 (k + 1) "lone_row" ["code", "length"] (sp_lone_row K) := by
  refine D.cal sc_lone_row (fun _ _ _ _ _ _ us hl => match us, hl with | [_, _], _ => rfl) (fun vs H Q E h => ?_) (fun f cdv A outer s H vs Q E hr h => ?_)
  · obtain ⟨b, c, many, start, n, rfl, h⟩ := h
    rfl
  · obtain ⟨b, c, many, start, n, rfl, hk, hn, hn2, hc, q⟩ := h
    refine ⟨_, (pss_cons (ps_set (i := 2) sc_lone_row.nd rfl (Or.inl rfl) (pe_op op_cat (pe_op op_rep (pe_lst (pa_cons pe_int pa_nil)) (pe_op op_sub (pe_op op_sub (pv 1) (pe_ix ix_tup (pv 0) pe_int (fun _ _ => rfl))) pe_int)) (pe_lst (pa_cons pe_int pa_nil))))
      (pss_one (ps_ret (pe_op op_cat (pv 2) (pe_cal c_check_words_in hr pass0 (pa_cons (pv 0) (pa_cons (pv 2) pa_nil))))))), ?_⟩
    refine ⟨line_ok (by decide), fun z nz => ?_⟩
    have sz : Same H (upd H z (.lst [.int 0])) := same_new nz
    have e : (n : Int) - (many : Int) - 1 = ((n - many - 1 : Nat) : Int) := by omega
    refine ⟨_, rfl, _, rfl, c, _, 1, nV many, rfl, rfl, Same.tup sz hc, rfl, _, _, rfl, rfl, _, _, rfl, rfl, ?_⟩
    dsimp only
    rw [e]
    refine ⟨z, _, _, rfl, rfl, upd_same, by omega, by omega, line_ok (by show 1 * _ ≤ _; rw [Int.toNat_natCast]; omega), fun x nx => ?_⟩
    rw [rep_wsV]
    have sx := sz.trans (same_new (o := .lst (wsV (List.replicate (n - many - 1) 0))) nx)
    refine ⟨line_ok (by decide), fun y ny => ?_⟩
    have sy := sx.trans (same_new (o := .lst [.int 1]) ny)
    refine ⟨x, y, _, _, rfl, rfl, (same_new ny) _ _ upd_same, upd_same, line_ok (by rw [wsV_len, List.length_replicate]; show n - many - 1 + 1 ≤ _; omega), fun l nl => ?_⟩
    have el : wsV (List.replicate (n - many - 1) 0) ++ [V.int 1] = wsV (List.replicate (n - many - 1) 0 ++ [1]) := (wsV_app (List.replicate (n - many - 1) 0) [1]).symm
    rw [el]
    have sl := sy.trans (same_new (o := .lst (wsV (List.replicate (n - many - 1) 0 ++ [1]))) nl)
    have hl : (upd (upd (upd (upd H z (.lst [.int 0])) x (.lst (wsV (List.replicate (n - many - 1) 0)))) y (.lst [.int 1])) l (.lst (wsV (List.replicate (n - many - 1) 0 ++ [1])))) l = some (.lst (wsV (List.replicate (n - many - 1) 0 ++ [1]))) := upd_same
    refine ⟨_, rfl, _, rfl, _, rfl, b, c, l, many, start, n - many - 1, rfl, hk.bt, hk.m0, hk.le, Same.tup sl hc, sq_l hl, fun H2 p s2 np hp => ?_⟩
    obtain ⟨t, et⟩ := mk_head b start many
    have tl := mk_len b start many
    rw [et] at hp tl
    have hp : H2 p = some (.lst (wsV t)) := hp
    have tl' : t.length = many := by simpa using tl
    have := hk.le
    refine ⟨l, p, _, _, rfl, rfl, s2 _ _ hl, hp, line_ok (by rw [wsV_len, wsV_len, List.length_append, List.length_replicate, tl']; show n - many - 1 + 1 + many ≤ _; omega), fun r nr => ?_⟩
    have er : wsV (List.replicate (n - many - 1) 0 ++ [1]) ++ wsV t = wsV (lone b start many n) := by
      rw [← wsV_app]
      unfold lone
      rw [et, List.append_assoc]
      rfl
    rw [er]
    exact q _ r ((sl.trans s2).trans (same_new nr)) ((sl.trans s2).free nr) upd_same
/-! unlike_in: slots 0 row, 1 other, 2 one, 3 two -/
abbrev s_unlike_in : Stmt := topS 36
abbrev n_unlike_in : List Str := ["row", "other", "one", "two"]
theorem sc_unlike_in : FnScope n_unlike_in ["row", "other"] (defScope s_unlike_in) := ⟨rfl, rfl, rfl, by decide +kernel, rfl, by decide +kernel, by decide +kernel⟩
theorem ok_unlike_in (D : Df K mg "unlike_in" s_unlike_in) (B : Blt mg) : Cal P w K mg base CX0 (k + 1) "unlike_in" ["row", "other"] (sp_unlike_in K) := by
  refine D.cal sc_unlike_in (fun _ _ _ _ _ _ us hl => match us, hl with | [_, _], _ => rfl) (fun vs H Q E h => ?_) (fun f cdv A outer s H vs Q E hr h => ?_)
  · obtain ⟨r, o, gs, l, rfl, h⟩ := h
    rfl
  · obtain ⟨r, o, gs, l, rfl, hr1, ho, hl, hn, q⟩ := h
    refine ⟨_, (pss_one (ps_ret (pe_callB call_len (by rfl) B.len_ (by decide +kernel) (pa_cons (pe_lc (own := [("one", 2), ("two", 3)]) (g := (gTup K 2 (gCons (gName 2) (gCons (gName 3) gNil)))) (tt := (tAnd (tTest (tOp rNoNo (tVar 2) (tC .non))) (tTest (tOp rNe (tVar 2) (tVar 3))))) (te := (tC (.int 1))) rfl sc_unlike_in.nd (pi_zip (by rfl) B.zip_ (pa_cons (pv 0) (pa_cons (pv 1) pa_nil))) (blkOk_by (N := n_unlike_in) (sc := defScope s_unlike_in) (by decide +kernel)) (fun _ _ _ _ _ => by exact (pg_tup (by rfl) (pgs_cons (pg_name (i := 2) sc_unlike_in.nd rfl (Or.inl rfl)) (pgs_cons (pg_name (i := 3) sc_unlike_in.nd rfl (Or.inl rfl)) pgs_nil)))) (fun _ _ _ _ _ => by exact (pts_one (PW.pt (pw_and (pt_cmpR op_notN (pv 2) pe_non (nomark _)) (pw_and1 (pt_cmpR op_ne (pv 2) (pv 3) (nomark _))))))) (fun _ _ _ _ _ => by exact pe_int)) pa_nil)))), ?_⟩
    refine ⟨_, rfl, _, rfl, r, o, gs.map gN, wsV l, rfl, hr1, ho, fun D hD => lcP (walk_zip (K := K) (a := r) (b := o) (xs := gs.map gN) (ys := wsV l) (n := l.length) (by rw [List.length_map, wsV_len, hl, Nat.min_self])) (fun i => dif (gs.getD i none) (l.getD i 0)) (fun _ => .int 1) hD (by omega) (fun _ _ => rfl) (fun H' s => ⟨s.seq hr1, s.seq ho⟩)
      (fun i x y H' hi hx hy s1 => ?_) (fun H' s1 hD' => ?_)⟩
    · obtain ⟨g, hg, rfl⟩ := gN_inv hx
      obtain ⟨u, hu, rfl⟩ := wsV_inv hy
      rw [getD_of hg, getD_of hu]
      exact ⟨fun R hR => dif_test rfl rfl hR, fun _ H3 s3 Qk hQ => hQ H3 (Same.refl H3)⟩
    · refine ⟨_, _, rfl, .inl ⟨_, sq_l hD', rfl⟩, ?_⟩
      unfold sel
      rw [List.length_map]
      exact q H' s1
/-! check_code: slots 0 code -/
abbrev s_check_code : Stmt := topS 19
abbrev n_check_code : List Str := ["code"]
theorem sc_check_code : FnScope n_check_code ["code"] (defScope s_check_code) := ⟨rfl, rfl, rfl, by decide +kernel, rfl, by decide +kernel, by decide +kernel⟩
theorem ok_check_code {aM : Addr} (D : Df K mg "check_code" s_check_code) (B : Blt mg) (dM : D48 K aM 14 40) (gM : mg "MOST_CHECKS" = some (.ref aM)) (c_is_int : Cal P w K mg base CX0 k "is_int" ["value"] (sp_is_int K)) (c_is_within : Cal P w K mg base CX0 k "is_within" ["value", "least", "most"] sp_is_within) :
    Cal P w K mg base CX0 (k + 1) "check_code" ["code"] (sp_check_code K) := by
  refine D.cal sc_check_code (fun _ _ _ _ _ _ us hl => match us, hl with | [_], _ => rfl) (fun vs H Q E h => ?_) (fun f cdv A outer s H vs Q E hr h => ?_)
  · obtain ⟨b, c, many, start, rfl, h⟩ := h
    rfl
  · obtain ⟨b, c, many, start, rfl, hk, hc, q⟩ := h
    refine ⟨_, (pss_cons (ps_if (PW.pt (pw_or (pt_not (pt_val (pe_callB call_isi (by rfl) B.isinstance_ (by decide +kernel) (pa_cons (pv 0) (pa_cons (pe_bltn (v := .ty "tuple") (by rfl) B.tuple_ (by decide +kernel) rfl) pa_nil))))) (pw_or (pt_cmpR op_ne (pe_callB call_len (by rfl) B.len_ (by decide +kernel) (pa_cons (pv 0) pa_nil)) pe_int (nomark _)) (pw_or (pt_not (pt_val (pe_cal c_is_int hr pass0 (pa_cons (pe_ix ix_tup (pv 0) pe_int (fun _ _ => rfl)) pa_nil)))) (pw_or1 (pt_cmpR (op_ni48 dM) (pe_ix ix_tup (pv 0) pe_int (fun _ _ => rfl)) (pe_glob (v := .ref aM) (by rfl) gM rfl) (by rfl)))))))
        (pss_one ps_never)
        pss_nil)
      (pss_one (ps_if (PW.pt (pw_or (pt_not (pt_val (pe_cal c_is_within hr pass0 (pa_cons (pe_ix ix_tup (pv 0) pe_int (fun _ _ => rfl)) (pa_cons pe_int (pa_cons (pe_ix (ix_48 dM) (pe_glob (v := .ref aM) (by rfl) gM rfl) (pe_ix ix_tup (pv 0) pe_int (fun _ _ => rfl)) (fun _ _ => rfl)) pa_nil)))))) (pw_or1 (pt_not (pt_val (pe_cal c_is_within hr pass0 (pa_cons (pe_ix ix_tup (pv 0) pe_int (fun _ _ => rfl)) (pa_cons pe_int (pa_cons (pe_op op_sub (pe_op op_shl pe_int (pe_ix ix_tup (pv 0) pe_int (fun _ _ => rfl))) pe_int) pa_nil)))))))))
        (pss_one ps_never)
        pss_nil))), ?_⟩
    have hm0 := hk.m0
    have hm1 := hk.m1
    have hst := hk.st
    have h48 : nV b = .int 4 ∨ nV b = .int 8 := by
      rcases hk.bt with e | e
      · exact .inl (by rw [e]; rfl)
      · exact .inr (by rw [e]; rfl)
    refine ⟨_, rfl, _, .ty "tuple", _, _, _, rfl, .ty _, (Pl.tup hc).ty, kit_tuple _, _, rfl, ?_⟩
    refine iteF ⟨_, rfl, _, 3, rfl, .inr ⟨_, hc, rfl⟩, rfl, _, rfl, iteF ?_⟩
    refine ⟨_, rfl, c, _, 0, nV b, rfl, rfl, hc, rfl, nV b, .int, rfl, .int _, true, rfl, iteF ?_⟩
    refine ⟨_, rfl, c, _, 0, nV b, rfl, rfl, hc, rfl, rfl, h48, _, rfl, iteF ?_⟩
    refine ⟨_, rfl, c, _, 1, nV many, rfl, rfl, hc, rfl, _, rfl, c, _, 0, nV b, rfl, rfl, hc, rfl, rfl, ?_⟩
    have hb := hk.bt
    have hw : (0 : Int) ≤ (start : Int) ∧ (start : Int) ≤ 1 * 2 ^ ((b : Nat) : Int).toNat - 2 := by
      rw [shl_one]
      constructor <;> omega
    have hm : (1 : Int) ≤ (many : Int) := by omega
    rcases hb with e | e <;> subst e
    · refine .inl ⟨rfl, (many : Int), 1, 14, rfl, _, rfl, iteNS ⟨hm, Int.ofNat_le.mpr hm1⟩ ?_⟩
      refine ⟨_, rfl, c, _, 2, nV start, rfl, rfl, hc, rfl, _, rfl, c, _, 0, nV 4, rfl, rfl, hc, rfl, 1, _, rfl, rfl, cpow_one (.inl rfl), _, _, rfl, rfl, ?_⟩
      exact ⟨(start : Int), 0, _, rfl, _, rfl, iteNS hw q⟩
    · refine .inr ⟨rfl, (many : Int), 1, 40, rfl, _, rfl, iteNS ⟨hm, Int.ofNat_le.mpr hm1⟩ ?_⟩
      refine ⟨_, rfl, c, _, 2, nV start, rfl, rfl, hc, rfl, _, rfl, c, _, 0, nV 8, rfl, rfl, hc, rfl, 1, _, rfl, rfl, cpow_one (.inr rfl), _, _, rfl, rfl, ?_⟩
      exact ⟨(start : Int), 0, _, rfl, _, rfl, iteNS hw q⟩
end
end Tw

namespace Tw
open PySem PySem.Spec PyProof.Rows L2
/-! ### a def that is called by place and by keyword -/
structure CalF (P : Program) (w : World) (K : PySem.W.Frag) (mg : Str → Option Value) (base : Heap) (cx : CXT) (k : Nat) (x : Str) (ps : List Str) (sp : Sp) (st : Stmt) : Prop where
  ex : ∃ f fd, FnOk P w K mg base cx k f fd ps sp ∧ mg x = some (.ref f) ∧ L2.Fun K x x st f fd
theorem Df.calF {P : Program} {w : World} {K : PySem.W.Frag} {mg : Str → Option Value} {base : Heap} {x : Str} {st : Stmt} {N ps : List Str} {k : Nat} {sp : Sp} (D : Df K mg x st) (S : FnScope N ps (defScope st))
    (len : ∀ vs H Q E, sp vs H Q E → vs.length = ps.length)
    (body : ∀ (f : Addr) (cdv : Value) (A : Around) (outer : List Env) (s : Shared) (H : Hp) (vs : List V) (Q : VK) (E : XK), Room k (A.deeper (envOfC x (defScope st) s.heap.objs.size f cdv)) → sp vs H Q E →
      ∃ t, PSs (cxOf CX0 P w K mg base N x (defScope st) f cdv A outer s H E).nox (defBody st) t ∧ t { nx := fun _ H' => Q .non H', rt := Q } (start N vs) H) : CalF P w K mg base CX0 (k + 1) x ps sp st := by
  obtain ⟨f, fd, F, hm⟩ := D.ex
  exact ⟨⟨f, fd, F.ok S len (fun cdv A outer s H vs Q E hr h => body f cdv A outer s H vs Q E hr h), hm, F⟩⟩
theorem CalF.cal {P : Program} {w : World} {K : PySem.W.Frag} {mg : Str → Option Value} {base : Heap} {cx : CXT} {k : Nat} {x : Str} {ps : List Str} {sp : Sp} {st : Stmt} (c : CalF P w K mg base cx k x ps sp st)
    (hb : ∀ (kV doc pm : Value) (an : Option Addr) (cdv ct : Value) (us : List Value), us.length = ps.length → bindArgs (PySem.W.fnOf x x (defArgs st) (defBody st) (defScope st) .none kV doc pm an cdv ct) ⟨us, []⟩ = pure (ps.zip us)) : Cal P w K mg base cx k x ps sp := by
  obtain ⟨f, fd, F, hm, G⟩ := c.ex
  exact ⟨⟨f, fd, F, hm, G.kp, G.binds hb⟩⟩
theorem CalF.calK {P : Program} {w : World} {K : PySem.W.Frag} {mg : Str → Option Value} {base : Heap} {cx : CXT} {k : Nat} {x : Str} {ps : List Str} {sp : Sp} {st : Stmt} (c : CalF P w K mg base cx k x ps sp st)
    (hb : ∀ (kV doc pm : Value) (an : Option Addr) (cdv ct : Value) (ws : List Value), ws.length = ps.length → bindArgs (PySem.W.fnOf x x (defArgs st) (defBody st) (defScope st) .none kV doc pm an cdv ct) ⟨[], ps.reverse.zip ws⟩ = pure (ps.zip ws.reverse)) : CalK P w K mg base cx k x ps sp := by
  obtain ⟨f, fd, F, hm, G⟩ := c.ex
  obtain ⟨oc, od, kV, doc, pm, an, cdv, ct, osl, rfl, lk, hcd⟩ := G.ex
  exact ⟨⟨f, _, F, hm, G.kp, fun ws hl => hb kV doc pm an cdv ct ws hl⟩⟩
/-! ### the torn row -/
def tornF (l : List Nat) (n g p0 e : Nat) (i : Nat) : Option Nat := if i < n - g then some (if p0 ≤ i ∧ i < p0 + e then 0 else l.getD i 0) else none
def torn (l : List Nat) (n g p0 e : Nat) : List (Option Nat) := (List.range n).map (tornF l n g p0 e)
theorem torn_len (l : List Nat) (n g p0 e : Nat) : (torn l n g p0 e).length = n := by
  unfold torn
  rw [List.length_map, List.length_range]
theorem torn_get {l : List Nat} {n g p0 e i : Nat} (h : i < n) : (torn l n g p0 e)[i]? = some (tornF l n g p0 e i) := by
  unfold torn
  rw [List.getElem?_map, List.getElem?_range h]
  rfl
theorem torn_zero {l : List Nat} {n g p0 : Nat} (hl : l.length = n) (hg : g ≤ n) : wsV (l.take (n - g)) ++ List.replicate g V.non = (torn l n g p0 0).map gN := by
  refine List.ext_getElem? fun i => ?_
  by_cases hi : i < n
  · rw [List.getElem?_map, torn_get hi]
    unfold tornF
    by_cases h2 : i < n - g
    · rw [if_pos h2, if_neg (by omega), List.getElem?_append_left (by rw [wsV_len, List.length_take]; omega)]
      obtain ⟨x, hx⟩ : ∃ x, l[i]? = some x := ⟨_, List.getElem?_eq_getElem (by omega)⟩
      rw [getD_of hx]
      exact wsV_get (by rw [List.getElem?_take_of_lt h2, hx])
    · rw [if_neg h2, List.getElem?_append_right (by rw [wsV_len, List.length_take]; omega), List.getElem?_replicate, if_pos (by rw [wsV_len, List.length_take]; omega)]
      rfl
  · rw [List.getElem?_eq_none (by rw [List.length_append, wsV_len, List.length_take, List.length_replicate]; omega), List.getElem?_eq_none (by rw [List.length_map, torn_len]; omega)]
theorem torn_set {l : List Nat} {n g p0 j : Nat} (h : p0 + j < n - g) : (torn l n g p0 j).set (p0 + j) (some 0) = torn l n g p0 (j + 1) := by
  refine List.ext_getElem? fun i => ?_
  by_cases hi : i < n
  · rw [List.getElem?_set, torn_get hi, torn_get hi]
    by_cases e : p0 + j = i
    · rw [if_pos e, if_pos (by rw [torn_len]; omega)]
      unfold tornF
      rw [if_pos (by omega), if_pos (by omega)]
    · rw [if_neg e]
      unfold tornF
      by_cases h2 : i < n - g
      · rw [if_pos h2, if_pos h2]
        by_cases h3 : p0 ≤ i ∧ i < p0 + j
        · rw [if_pos h3, if_pos (by omega)]
        · rw [if_neg h3, if_neg (by omega)]
      · rw [if_neg h2, if_neg h2]
  · rw [List.getElem?_eq_none (by rw [List.length_set, torn_len]; omega), List.getElem?_eq_none (by rw [torn_len]; omega)]
theorem torn_skip {l : List Nat} {n g p0 j : Nat} (h : ¬ p0 + j < n - g) : torn l n g p0 j = torn l n g p0 (j + 1) := by
  unfold torn
  refine List.map_congr_left fun i hi => ?_
  unfold tornF
  by_cases h2 : i < n - g
  · rw [if_pos h2, if_pos h2]
    by_cases h3 : p0 ≤ i ∧ i < p0 + j
    · rw [if_pos h3, if_pos (by omega)]
    · rw [if_neg h3, if_neg (by omega)]
  · rw [if_neg h2, if_neg h2]
def sp_twins (K : PySem.W.Frag) : Sp := fun vs H Q _ => ∃ (b : Nat) (c : Addr) (many start n e g : Nat), vs = [.ref c, nV n, nV e, nV g] ∧ Kode b many start ∧ At3 K H c b many start ∧ many < n ∧ n ≤ nn b ∧ e ≤ n ∧ g ≤ n ∧
  (2 * e + g ≤ many → ∀ H', Same H H' → Q .non H') ∧
  (many < 2 * e + g → ∀ H' a r o w, Same H H' → H a = none → H' a = some (.tup [.ref r, .ref o, .ref w]) → H' r = some (.lst ((torn (lone b start many n) n g (n - many - 1) e).map gN)) → H' o = some (.lst (wsV (List.replicate n 0))) → H' w = some (.lst (wsV (lone b start many n))) →
    H r = none → H o = none → H w = none → r ≠ o → r ≠ w → o ≠ w → Q (.ref a) H')
section
variable {P : Program} {w : World} {K : PySem.W.Frag} {mg : Str → Option Value} {base : Heap} {k : Nat}
/-! check_length: slots 0 code, 1 length -/
abbrev s_check_length : Stmt := topS 20
abbrev n_check_length : List Str := ["code", "length"]
theorem sc_check_length : FnScope n_check_length ["code", "length"] (defScope s_check_length) := ⟨rfl, rfl, rfl, by decide +kernel, rfl, by decide +kernel, by decide +kernel⟩
theorem ok_check_length (D : Df K mg "check_length" s_check_length) (c_is_within : Cal P w K mg base CX0 k "is_within" ["value", "least", "most"] sp_is_within) : Cal P w K mg base CX0 (k + 1) "check_length" ["code", "length"] (sp_check_length K) := by
  refine D.cal sc_check_length (fun _ _ _ _ _ _ us hl => match us, hl with | [_, _], _ => rfl) (fun vs H Q E h => ?_) (fun f cdv A outer s H vs Q E hr h => ?_)
  · obtain ⟨b, c, many, start, n, rfl, h⟩ := h
    rfl
  · obtain ⟨b, c, many, start, n, rfl, hk, hc, h1, h2, q⟩ := h
    refine ⟨_, (pss_one (ps_if (pt_not (pt_val (pe_cal c_is_within hr pass0 (pa_cons (pv 1) (pa_cons (pe_op op_add (pe_ix ix_tup (pv 0) pe_int (fun _ _ => rfl)) pe_int) (pa_cons (pe_op op_sub (pe_op op_shl pe_int (pe_ix ix_tup (pv 0) pe_int (fun _ _ => rfl))) pe_int) pa_nil))))))
        (pss_one ps_never)
        pss_nil)), ?_⟩
    have hw : (many : Int) + 1 ≤ (n : Int) ∧ (n : Int) ≤ 1 * 2 ^ ((b : Nat) : Int).toNat - 1 := by
      rw [shl_one]
      unfold nn at h2
      have := Nat.two_pow_pos b
      constructor <;> omega
    refine ⟨_, rfl, _, rfl, c, _, 1, nV many, rfl, rfl, hc, rfl, _, _, rfl, rfl, _, rfl, c, _, 0, nV b, rfl, rfl, hc, rfl, 1, _, rfl, rfl, cpow_one hk.bt, _, _, rfl, rfl, ?_⟩
    exact ⟨(n : Int), _, _, rfl, _, rfl, iteNS hw q⟩
/-! twins: slots 0 code, 1 length, 2 lies, 3 gaps, 4 one, 5 other, 6 row, 7 index -/
abbrev s_twins : Stmt := topS 37
abbrev n_twins : List Str := ["code", "length", "lies", "gaps", "one", "other", "row", "index"]
theorem sc_twins : FnScope n_twins ["code", "length", "lies", "gaps"] (defScope s_twins) := ⟨rfl, rfl, rfl, by decide +kernel, rfl, by decide +kernel, by decide +kernel⟩
theorem ok_twins (D : Df K mg "twins" s_twins) (B : Blt mg) (c_check_code : Cal P w K mg base CX0 k "check_code" ["code"] (sp_check_code K)) (c_check_length : Cal P w K mg base CX0 k "check_length" ["code", "length"] (sp_check_length K)) (c_is_within : Cal P w K mg base CX0 k "is_within" ["value", "least", "most"] sp_is_within)
    (c_lone_row : Cal P w K mg base CX0 k "lone_row" ["code", "length"] (sp_lone_row K)) : CalF P w K mg base CX0 (k + 1) "twins" ["code", "length", "lies", "gaps"] (sp_twins K) s_twins := by
  refine D.calF sc_twins (fun vs H Q E h => ?_) (fun f cdv A outer s H vs Q E hr h => ?_)
  · obtain ⟨b, c, many, start, n, e, g, rfl, h⟩ := h
    rfl
  · obtain ⟨b, c, many, start, n, e, g, rfl, hk, hc, hn1, hn2, he, hg, q1, q2⟩ := h
    refine ⟨_, (pss_cons (ps_expr (pe_cal c_check_code hr pass0 (pa_cons (pv 0) pa_nil)))
      (pss_cons (ps_expr (pe_cal c_check_length hr pass0 (pa_cons (pv 0) (pa_cons (pv 1) pa_nil))))
      (pss_cons (ps_if (pt_not (pt_val (pe_cal c_is_within hr pass0 (pa_cons (pv 2) (pa_cons pe_int (pa_cons (pv 1) pa_nil))))))
        (pss_one ps_never)
        pss_nil)
      (pss_cons (ps_if (pt_not (pt_val (pe_cal c_is_within hr pass0 (pa_cons (pv 3) (pa_cons pe_int (pa_cons (pv 1) pa_nil))))))
        (pss_one ps_never)
        pss_nil)
      (pss_cons (ps_if (pt_cmpR op_le (pe_op op_add (pe_op op_mul pe_int (pv 2)) (pv 3)) (pe_ix ix_tup (pv 0) pe_int (fun _ _ => rfl)) (nomark _))
        (pss_one (ps_ret pe_non))
        pss_nil)
      (pss_cons (ps_par (i := 4) (j := 5) rfl sc_twins.nd rfl rfl (by decide) rfl rfl (pa_cons (pe_op op_rep (pe_lst (pa_cons pe_int pa_nil)) (pv 1)) (pa_cons (pe_cal c_lone_row hr pass0 (pa_cons (pv 0) (pa_cons (pv 1) pa_nil))) pa_nil)) (by rfl))
      (pss_cons (ps_set (i := 6) sc_twins.nd rfl (Or.inl rfl) (pe_op op_cat (pe_slice sl_list (pv 5) po_none (po_some (pe_op op_sub (pv 1) (pv 3)))) (pe_op op_rep (pe_lst (pa_cons pe_non pa_nil)) (pv 3))))
      (pss_cons (ps_for PassesOwn.never rfl (pi_range2 (by rfl) B.range_ (pa_cons (pe_op op_sub (pe_op op_sub (pv 1) (pe_ix ix_tup (pv 0) pe_int (fun _ _ => rfl))) pe_int) (pa_cons (pe_op op_add (pe_op op_sub (pe_op op_sub (pv 1) (pe_ix ix_tup (pv 0) pe_int (fun _ _ => rfl))) pe_int) (pv 2)) pa_nil))) (pg_name (i := 7) sc_twins.nd rfl (Or.inl rfl))
        (pss_one (ps_if (pt_cmpR op_lt (pv 7) (pe_op op_sub (pv 1) (pv 3)) (nomark _))
        (pss_one (ps_asg pe_int (pg_sub (pv 6) (pv 7) set_list)))
        pss_nil)))
      (pss_one (ps_ret (pe_tup (pa_cons (pv 6) (pa_cons (pv 4) (pa_cons (pv 5) pa_nil)))))))))))))), ?_⟩
    have hb := hk.bt
    have hnn := nn_le hb
    have hm40 := hk.le
    refine ⟨_, rfl, b, c, many, start, rfl, hk, hc, ?_⟩
    refine ⟨_, rfl, _, rfl, b, c, many, start, n, rfl, hk, hc, hn1, hn2, ?_⟩
    refine ⟨_, rfl, _, rfl, (e : Int), 0, (n : Int), rfl, _, rfl, iteNS ⟨by omega, by omega⟩ ?_⟩
    refine ⟨_, rfl, _, rfl, (g : Int), 0, (n : Int), rfl, _, rfl, iteNS ⟨by omega, by omega⟩ ?_⟩
    refine ⟨_, rfl, _, _, rfl, rfl, .inl ⟨by omega, by omega⟩, _, rfl, _, _, rfl, rfl, _, rfl, c, _, 1, nV many, rfl, rfl, hc, rfl, _, _, rfl, rfl, _, rfl, ite2 (fun d => ?_) (fun d => ?_)⟩
    · have d' : (2 : Int) * (e : Int) + (g : Int) ≤ (many : Int) := of_decide_eq_true d
      exact q1 (by omega) H (Same.refl H)
    · have d' : ¬ (2 : Int) * (e : Int) + (g : Int) ≤ (many : Int) := fun z => d (decide_eq_true z)
      -- one, other
      refine ⟨line_ok (by decide), fun z nz => ?_⟩
      have sz : Same H (upd H z (.lst [.int 0])) := same_new nz
      refine ⟨_, rfl, z, _, _, rfl, rfl, upd_same, by omega, by omega, line_ok (by show 1 * _ ≤ _; rw [Int.toNat_natCast]; omega), fun o no => ?_⟩
      rw [rep_wsV]
      have so := sz.trans (same_new (o := .lst (wsV (List.replicate n 0))) no)
      have noH : H o = none := sz.free no
      have ho : (upd (upd H z (.lst [.int 0])) o (.lst (wsV (List.replicate n 0)))) o = some (.lst (wsV (List.replicate n 0))) := upd_same
      refine ⟨_, rfl, _, rfl, b, c, many, start, n, rfl, hk, hn1, by omega, Same.tup so hc, fun H2 w s2 nw hw => ?_⟩
      have ow : o ≠ w := ne_of_none ho nw
      refine ⟨_, _, rfl, ?_⟩
      have sw := so.trans s2
      -- row
      have hll : (lone b start many n).length = n := lone_len hn1
      have eg : (n : Int) - (g : Int) = ((n - g : Nat) : Int) := by omega
      refine ⟨_, rfl, _, rfl, _, rfl, _, _, rfl, rfl, ?_⟩
      dsimp only
      rw [eg]
      refine ⟨(n - g : Nat), rfl, w, _, rfl, sq_l hw, fun x nx => ?_⟩
      rw [cut_to (by rw [wsV_len, hll]; omega), show (wsV (lone b start many n)).take (n - g) = wsV ((lone b start many n).take (n - g)) from List.map_take.symm]
      have sx : Same H2 (upd H2 x (.lst (wsV ((lone b start many n).take (n - g))))) := same_new nx
      refine ⟨line_ok (by decide), fun y ny => ?_⟩
      have sy := sx.trans (same_new (o := .lst [.non]) ny)
      refine ⟨_, rfl, y, _, _, rfl, rfl, upd_same, by omega, by omega, line_ok (by show 1 * _ ≤ _; rw [Int.toNat_natCast]; omega), fun l nl => ?_⟩
      have el : (List.replicate ((g : Nat) : Int).toNat [V.non]).flatten = List.replicate g V.non := by rw [Int.toNat_natCast, rep_flat]
      rw [el]
      have sl := sy.trans (same_new (o := .lst (List.replicate g V.non)) nl)
      have xl : (upd (upd (upd H2 x (.lst (wsV ((lone b start many n).take (n - g))))) y (.lst [.non])) l (.lst (List.replicate g V.non))) x = some (.lst (wsV ((lone b start many n).take (n - g)))) := ((same_new ny).trans (same_new nl)) _ _ upd_same
      refine ⟨x, l, _, _, rfl, rfl, xl, upd_same, line_ok (by rw [wsV_len, List.length_take, List.length_replicate]; omega), fun r nr => ?_⟩
      rw [torn_zero hll hg]
      have sr := sl.trans (same_new (o := .lst ((torn (lone b start many n) n g (n - many - 1) 0).map gN)) nr)
      have ho2 := sr _ _ (s2 _ _ ho)
      have hw2 := sr _ _ hw
      have nr2 : H2 r = none := sl.free nr
      have nrH : H r = none := sw.free nr2
      have ro : r ≠ o := fun z => by
        have := s2 _ _ ho
        rw [← z, nr2] at this
        cases this
      have rw' : r ≠ w := fun z => by
        rw [← z, nr2] at hw
        cases hw
      have ep : (n : Int) - (many : Int) - 1 = ((n - many - 1 : Nat) : Int) := by omega
      have hcr := Same.tup (sw.trans sr) hc
      refine ⟨_, rfl, _, rfl, c, _, 1, nV many, rfl, rfl, hcr, rfl, _, _, rfl, rfl, _, _, rfl, rfl, _, rfl, _, rfl, c, _, 1, nV many, rfl, rfl, hcr, rfl, _, _, rfl, rfl, _, _, rfl, rfl, _, rfl, _, _, rfl, rfl, ?_⟩
      refine ⟨(n : Int) - (many : Int) - 1, (n : Int) - (many : Int) - 1 + (e : Int), rfl, ⟨by omega, by omega, by omega, by omega⟩, ?_⟩
      rw [show ((n : Int) - (many : Int) - 1 + (e : Int) - ((n : Int) - (many : Int) - 1)).toNat = e by omega, ep]
      refine for_range (lo := ((n - many - 1 : Nat) : Int)) (n := e) (fun j st H3 => ∃ v7, st = [some (.ref c), some (nV n), some (nV e), some (nV g), some (.ref o), some (.ref w), some (.ref r), v7] ∧ Same H H3 ∧ H3 o = some (.lst (wsV (List.replicate n 0))) ∧ H3 w = some (.lst (wsV (lone b start many n))) ∧
        H3 r = some (.lst ((torn (lone b start many n) n g (n - many - 1) j).map gN))) ⟨none, rfl, sw.trans sr, ho2, hw2, upd_same⟩ ?_ ?_
      · rintro j st H3 hj ⟨v7, rfl, s3, o3, w3, r3⟩
        refine ⟨_, rfl, _, rfl, _, rfl, _, _, rfl, rfl, _, _, rfl, rfl, _, rfl, ite2 (fun d2 => ?_) (fun d2 => ?_)⟩
        · have d3 : ((n - many - 1 : Nat) : Int) + (j : Int) < (n : Int) - (g : Int) := of_decide_eq_true d2
          refine ⟨.ref r, rfl, _, rfl, r, _, _, n - many - 1 + j, rfl, rfl, r3, ?_, ?_⟩
          · rw [show ((n - many - 1 : Nat) : Int) + (j : Int) = ((n - many - 1 + j : Nat) : Int) by omega]
            exact ixN_nat (by rw [List.length_map, torn_len]; omega)
          · refine ⟨_, rfl, same_mut s3 nrH, ?_, ?_, ?_⟩
            · rw [upd_ne (fun z => ro z.symm)]
              exact o3
            · rw [upd_ne (fun z => rw' z.symm)]
              exact w3
            · rw [upd_same, show V.int 0 = gN (some 0) from rfl, ← List.map_set, torn_set (by omega)]
        · have d3 : ¬ ((n - many - 1 : Nat) : Int) + (j : Int) < (n : Int) - (g : Int) := fun z => d2 (decide_eq_true z)
          refine ⟨_, rfl, s3, o3, w3, ?_⟩
          rw [r3, torn_skip (by omega)]
      · rintro st H3 ⟨v7, rfl, s3, o3, w3, r3⟩
        refine ⟨_, rfl, _, rfl, _, rfl, line_ok (by show 3 ≤ _; decide), fun a na => ?_⟩
        have sa : Same H3 (upd H3 a (.tup [.ref r, .ref o, .ref w])) := same_new na
        exact q2 (by omega) _ a r o w (s3.trans sa) (s3.free na) upd_same (sa _ _ r3) (sa _ _ o3) (sa _ _ w3) nrH noH (so.free nw) ro rw' ow
end
end Tw

namespace Tw
open PySem PySem.Spec PyProof.Rows L2
/-! ### data as they stand -/
mutual
theorem Dp.same {K : PySem.W.Frag} {H H' : Hp} (s : Same H H') : ∀ (d : PyData) (v : V), Dp K H v d → Dp K H' v d
  | .none, _, .non => .non
  | .bool b, _, .bl _ => .bl b
  | .int i, _, .int _ => .int i
  | .str x, _, .str _ => .str x
  | .list ds, _, .lst h a => .lst (s.seq h) (DpAll.same s ds _ a)
  | .tuple ds, _, .tup h a => .tup (Same.tup s h) (DpAll.same s ds _ a)
theorem DpAll.same {K : PySem.W.Frag} {H H' : Hp} (s : Same H H') : ∀ (ds : List PyData) (vs : List V), DpAll K H vs ds → DpAll K H' vs ds
  | [], _, .nil => .nil
  | d :: ds, _, .cons h t => .cons (Dp.same s d _ h) (DpAll.same s ds _ t)
end
theorem DpAll.len {K : PySem.W.Frag} {H : Hp} : ∀ {vs : List V} {ds : List PyData}, DpAll K H vs ds → vs.length = ds.length
  | _, _, .nil => rfl
  | _, _, .cons _ t => by rw [List.length_cons, List.length_cons, DpAll.len t]
theorem DpAll.get {K : PySem.W.Frag} {H : Hp} : ∀ {vs : List V} {ds : List PyData} {i : Nat} {v : V}, DpAll K H vs ds → vs[i]? = some v → ∃ d, ds[i]? = some d ∧ Dp K H v d
  | _, _, i, v, .nil, h => by cases h
  | _, _, 0, v, .cons a t, h => by
    cases h
    exact ⟨_, rfl, a⟩
  | _, _, i + 1, v, .cons a t, h => by
    rw [List.getElem?_cons_succ] at h
    obtain ⟨d, e, q⟩ := DpAll.get t h
    exact ⟨d, by rw [List.getElem?_cons_succ]; exact e, q⟩
theorem DpAll.app {K : PySem.W.Frag} {H : Hp} : ∀ {vs us : List V} {ds es : List PyData}, DpAll K H vs ds → DpAll K H us es → DpAll K H (vs ++ us) (ds ++ es)
  | _, _, _, _, .nil, h => h
  | _, _, _, _, .cons a t, h => .cons a (DpAll.app t h)
theorem Dp.pl {K : PySem.W.Frag} {H : Hp} {v : V} {d : PyData} (h : Dp K H v d) : ∃ kd, Pl K H v kd := by
  cases h with
  | non => exact ⟨_, .non⟩
  | bl b => exact ⟨_, .bl b⟩
  | int i => exact ⟨_, .int i⟩
  | str x => exact ⟨_, .str x⟩
  | lst h _ => exact ⟨_, .lst h⟩
  | tup h _ => exact ⟨_, .tup h⟩
def okW (b : Nat) : PyData → Bool
  | .int i => decide (0 ≤ i ∧ i < ((2 ^ b : Nat) : Int))
  | _ => false
def okT (b : Nat) : PyData → Bool
  | .none => true
  | d => okW b d
def itemsD : PyData → Option (List PyData)
  | .list xs => some xs
  | .tuple xs => some xs
  | _ => none
def gapOf : PyData → Option Nat
  | .int i => some i.toNat
  | _ => none
def wordOf : PyData → Nat
  | .int i => i.toNat
  | _ => 0
theorem Dp.isW {K : PySem.W.Frag} {H : Hp} {v : V} {d : PyData} (b : Nat) (h : Dp K H v d) : Tw.isW b v = okW b d := by
  cases h <;> rfl
theorem Dp.gap {K : PySem.W.Frag} {H : Hp} {v : V} {d : PyData} {b : Nat} (h : Dp K H v d) (o : okT b d = true) : v = gN (gapOf d) ∧ ∀ x, gapOf d = some x → x < 2 ^ b := by
  cases h with
  | non => exact ⟨rfl, fun x z => by cases z⟩
  | int i =>
    have o' : 0 ≤ i ∧ i < ((2 ^ b : Nat) : Int) := of_decide_eq_true o
    refine ⟨?_, fun x z => ?_⟩
    · show V.int i = V.int (i.toNat : Int)
      rw [Int.toNat_of_nonneg o'.1]
    · have z' : i.toNat = x := Option.some.inj z
      omega
  | bl _ => cases o
  | str _ => cases o
  | lst _ _ => cases o
  | tup _ _ => cases o
theorem Dp.word {K : PySem.W.Frag} {H : Hp} {v : V} {d : PyData} {b : Nat} (h : Dp K H v d) (o : okW b d = true) : v = nV (wordOf d) ∧ wordOf d < 2 ^ b := by
  cases h with
  | int i =>
    have o' : 0 ≤ i ∧ i < ((2 ^ b : Nat) : Int) := of_decide_eq_true o
    refine ⟨?_, ?_⟩
    · show V.int i = V.int (i.toNat : Int)
      rw [Int.toNat_of_nonneg o'.1]
    · show i.toNat < 2 ^ b
      omega
  | non => cases o
  | bl _ => cases o
  | str _ => cases o
  | lst _ _ => cases o
  | tup _ _ => cases o
theorem DpAll.gaps {K : PySem.W.Frag} {H : Hp} {b : Nat} : ∀ {vs : List V} {ds : List PyData}, DpAll K H vs ds → ds.all (okT b) = true → vs = (ds.map gapOf).map gN
  | _, _, .nil, _ => rfl
  | _, _, .cons a t, o => by
    rw [List.all_cons, Bool.and_eq_true] at o
    rw [List.map_cons, List.map_cons, ← (Dp.gap a o.1).1, ← DpAll.gaps t o.2]
theorem DpAll.words {K : PySem.W.Frag} {H : Hp} {b : Nat} : ∀ {vs : List V} {ds : List PyData}, DpAll K H vs ds → ds.all (okW b) = true → vs = wsV (ds.map wordOf) ∧ Ws b (ds.map wordOf)
  | _, _, .nil, _ => ⟨rfl, Ws_nil⟩
  | _, _, .cons a t, o => by
    rw [List.all_cons, Bool.and_eq_true] at o
    obtain ⟨h1, h2⟩ := DpAll.words t o.2
    obtain ⟨e, lt⟩ := Dp.word a o.1
    refine ⟨?_, Ws_cons lt h2⟩
    show _ = nV _ :: wsV _
    rw [← e, ← h1]
theorem okW_T {b : Nat} {d : PyData} (h : okW b d = true) : okT b d = true := by
  cases d with
  | none => rfl
  | _ => exact h
/-- a value with items, or one without -/
theorem Dp.items {K : PySem.W.Frag} {H : Hp} {v : V} {d : PyData} (h : Dp K H v d) : (∃ ds a xs, itemsD d = some ds ∧ v = .ref a ∧ (SqL K H a xs ∨ SqT K H a xs) ∧ DpAll K H xs ds ∧ ∃ kd, Pl K H v kd ∧ (kd = .lst ∨ kd = .tup)) ∨
    (itemsD d = none ∧ ∃ kd, Pl K H v kd ∧ kd ≠ .lst ∧ kd ≠ .tup) := by
  cases h with
  | non => exact .inr ⟨rfl, _, .non, by decide, by decide⟩
  | bl b => exact .inr ⟨rfl, _, .bl b, by decide, by decide⟩
  | int i => exact .inr ⟨rfl, _, .int i, by decide, by decide⟩
  | str x => exact .inr ⟨rfl, _, .str x, by decide, by decide⟩
  | @lst a xs ds h t => exact .inl ⟨ds, a, xs, rfl, rfl, .inl h, t, _, .lst h, .inl rfl⟩
  | @tup a xs ds h t => exact .inl ⟨ds, a, xs, rfl, rfl, .inr h, t, _, .tup h, .inr rfl⟩
def manyOk (lo hi : Int) (d : PyData) : Bool := match itemsD d with
  | some ds => decide (lo ≤ (ds.length : Int) ∧ (ds.length : Int) ≤ hi)
  | none => false
def wordsOk (p : PyData → Bool) (d : PyData) : Bool := match itemsD d with
  | some ds => ds.all p
  | none => false
theorem wsD {K : PySem.W.Frag} {H : Hp} : ∀ (l : List Nat), DpAll K H (wsV l) (l.map fun (x : Nat) => PyData.int (x : Int))
  | [] => .nil
  | x :: l => .cons (.int _) (wsD l)
def gapD : Option Nat → PyData
  | some x => .int (x : Int)
  | none => .none
theorem gsD {K : PySem.W.Frag} {H : Hp} : ∀ (l : List (Option Nat)), DpAll K H (l.map gN) (l.map gapD)
  | [] => .nil
  | none :: l => .cons .non (gsD l)
  | some x :: l => .cons (.int _) (gsD l)
end Tw

namespace Tw
open PySem PySem.Spec PyProof.Rows L2
/-! ### NoWord, made and raised -/
def sp_nw (K : PySem.W.Frag) (C : Addr) : Sp := fun vs H Q _ => ∃ (a : Addr) (x y : V), vs = [.ref a, x, y] ∧ H a = some (exo a C none) ∧
  ∀ H2 d fs, H2 a = some (exo a C (some d)) → H2 d = some (exd d fs) → H d = none → (∀ b o, b ≠ a → H b = some o → H2 b = some o) → Q .non H2
/-- what the top says of NoWord -/
structure NwT (K : PySem.W.Frag) (mg : Str → Option Value) (C fI : Addr) : Prop where
  T : OexC K C
  hm : mg "NoWord" = some (.ref C)
  te : PySem.W.exmOne K (.ref C) (.ref C) = some true
  iC : PySem.W.findIn K (.ref C) "__init__" = some (some (.ref fI))
  tI : PySem.W.typeIn K (.ref fI) = some (.type "function")
  n1 : PySem.W.findIn K (.ref C) "part" = some none
  n2 : PySem.W.findIn K (.ref C) "index" = some none
def s_nw : Stmt := match topS 2 with
  | .ClassDef (body := b) .. => b.getD 0 (.Pass ⟨0, 0, 0, 0⟩)
  | _ => .Pass ⟨0, 0, 0, 0⟩
abbrev n_nw : List Str := ["self", "part", "index"]
theorem sc_nw : FnScope n_nw ["self", "part", "index"] (defScope s_nw) := ⟨rfl, rfl, rfl, by decide +kernel, rfl, by decide +kernel, by decide +kernel⟩
structure Nw (P : Program) (w : World) (K : PySem.W.Frag) (mg : Str → Option Value) (base : Heap) (k : Nat) (C : Addr) : Prop where
  ex : ∃ fI fd, NwT K mg C fI ∧ FnOk P w K mg base (L2.CX P w) k fI fd ["self", "part", "index"] (sp_nw K C) ∧ Binds K fd ["self", "part", "index"] []
theorem Nw.T {P : Program} {w : World} {K : PySem.W.Frag} {mg : Str → Option Value} {base : Heap} {k : Nat} {C : Addr} (N : Nw P w K mg base k C) : ∃ fI, NwT K mg C fI := by
  obtain ⟨fI, _, T, _⟩ := N.ex
  exact ⟨fI, T⟩
theorem Nw.mono {P : Program} {w : World} {K : PySem.W.Frag} {mg : Str → Option Value} {base : Heap} {j k : Nat} {C : Addr} (N : Nw P w K mg base j C) (h : j ≤ k) : Nw P w K mg base k C := by
  obtain ⟨fI, fd, T, F, b⟩ := N.ex
  exact ⟨fI, fd, T, F.mono h, b⟩
section
variable {P : Program} {w : World} {K : PySem.W.Frag} {mg : Str → Option Value} {base : Heap} {k : Nat}
theorem ok_nw {C fI CQ : Addr} {fd : FuncData} (T : NwT K mg C fI) (V : VeC K mg "QuiltError" CQ) (F : L2.Fun K "__init__" "NoWord.__init__" s_nw fI fd) : Nw P w K mg base (k + 1) C := by
  refine ⟨fI, fd, T, F.okX sc_nw (fun vs H Q E h => ?_) (fun cdv A outer s H vs Q E hr h => ?_), F.binds fun _ _ _ _ _ _ us hl => match us, hl with | [_, _, _], _ => rfl⟩
  · obtain ⟨a, x, y, rfl, h⟩ := h
    rfl
  · obtain ⟨a, x, y, rfl, ha, q⟩ := h
    refine ⟨_, (pss_cons (ps_expr (pe_vinit V (pa_cons (pv 0) (pa_cons pe_str pa_nil)))) (pss_cons (ps_ost (pv 0) (pv 1)) (pss_one (ps_ost (pv 0) (pv 2))))), ?_⟩
    refine ⟨_, rfl, a, C, _, rfl, by show 1 ≤ _; decide, T.T, ha, ?_⟩
    refine ⟨_, rfl, _, rfl, a, C, rfl, T.T, T.n1, .inl ⟨ha, fun dx nd ne => ?_⟩⟩
    have nad : a ≠ dx := fun z => ne z.symm
    refine ⟨_, rfl, _, rfl, a, C, rfl, T.T, T.n2, .inr ⟨dx, [("part", x)], upd_same, ?_, by show 1 ≤ _; decide, ?_⟩⟩
    · rw [upd_ne ne]
      exact upd_same
    · refine q _ dx _ ?_ upd_same nd fun b o nb hb => ?_
      · rw [upd_ne nad]
        exact upd_same
      · rw [upd_ne (fun z => by rw [z, nd] at hb; cases hb), upd_ne nb, upd_ne (fun z => by rw [z, nd] at hb; cases hb)]
        exact hb
end
/-- the reading of NoWord(x, y) -/
theorem nw_end {K : PySem.W.Frag} {C : Addr} {vs : List V} {H1 : Hp} {Q : XK} {x y : V} (e : vs = [x, y]) (q : ∀ d H2, Same H1 H2 → Q (.ref C) (some d) H2) :
    vs.length ≤ 1000 ∧ ∀ a, H1 a = none → sp_nw K C (.ref a :: (vs ++ [])) (upd H1 a (exo a C none))
      (fun v H2 => v = .non ∧ ∃ (d : Addr) (fs : List (Str × V)), H2 a = some (exo a C (some d)) ∧ H2 d = some (exd d fs) ∧ H1 d = none ∧ Q (.ref C) (some d) (upd (del H2 a) d (.xd fs))) (fun _ _ _ => False) := by
  subst e
  refine ⟨by show 2 ≤ _; decide, fun a na => ⟨a, x, y, rfl, upd_same, fun H2 d fs h1 h2 h3 h4 => ⟨rfl, d, fs, h1, h2, ?_, q d _ fun b o hb => ?_⟩⟩⟩
  · cases e : H1 d with
    | none => rfl
    | some o =>
      have nd : d ≠ a := ne_of_none e na
      rw [upd_ne nd, e] at h3
      cases h3
  · have nb : b ≠ a := ne_of_none hb na
    have hb' : upd H1 a (exo a C none) b = some o := by
      rw [upd_ne nb]
      exact hb
    have nd : b ≠ d := ne_of_none hb' h3
    rw [upd_ne nd, del_ne nb]
    exact h4 b o nb hb'
section
variable {X : Cx} {C : Addr} {k : Nat} {W : WX} {e1 e2 : Expr} {ta : TA} {p pos pos2 : Pos}
theorem ps_nw (hc : X.calm = true) (tk : Takes X W) (N : Nw X.prog X.w X.K X.mg X.base k C) (hr : Room (k + 1) X.A) (hx : Passes (L2.CX X.prog X.w) X (fun _ _ _ => False)) (ha : PA X [e1, e2] ta) (hg : Gl X "NoWord" := by rfl)
    (he : starEach (e1 :: [e2]) X.env = (false, eval e1 X.env) :: starEach [e2] X.env := by rfl) (hpl : (backTo pos (starEach [e2] X.env)).any (·.1) = false := by rfl) :
    PS X (.Raise (some (.Call (.Name "NoWord" p) [e1, e2] [] pos)) none pos2) (fun _ σ H => tMkO C (sp_nw X.K C) [] ta σ H fun cls d H' => W cls d σ H') := by
  obtain ⟨fI, fd, T, F, b⟩ := N.ex
  exact ps_raise hc tk (pmk_oex T.T T.iC T.tI F hr b .nil hx hg T.hm ha (by decide) he hpl)
end
theorem passX0 {P : Program} {w : World} {X : Cx} : Passes (L2.CX P w) X (fun _ _ _ => False) := fun _ _ _ _ _ _ _ h => by
  obtain ⟨_, _, _, _, _, _, _, _, _, _, _, _, h⟩ := h
  exact h.elim
end Tw

namespace Tw
open PySem PySem.Spec PyProof.Rows L2
theorem kit_lt_yes {K : PySem.W.Frag} {k : Knd} (h : k = .lst ∨ k = .tup) : PySem.W.kitAny K (.type k.nm) [.type "list", .type "tuple"] = some true := by
  rw [kit_lt, decide_eq_true h]
theorem kit_lt_no {K : PySem.W.Frag} {k : Knd} (h1 : k ≠ .lst) (h2 : k ≠ .tup) : PySem.W.kitAny K (.type k.nm) [.type "list", .type "tuple"] = some false := by
  rw [kit_lt, decide_eq_false fun z => z.elim h1 h2]
theorem Same.sq {K : PySem.W.Frag} {H H' : Hp} {a : Addr} {xs : List V} (s : Same H H') (h : SqL K H a xs ∨ SqT K H a xs) : SqL K H' a xs ∨ SqT K H' a xs := h.imp (fun h => s.seq h) (fun h => Same.tup s h)
theorem len_sq {K : PySem.W.Frag} {H : Hp} {a : Addr} {xs : List V} (h : SqL K H a xs ∨ SqT K H a xs) : LenV K (.ref a) H xs.length := h.imp (fun h => ⟨_, h, rfl⟩) (fun h => ⟨_, h, rfl⟩)
theorem walk_enumT {K : PySem.W.Frag} {a : Addr} {xs : List V} : Walk (IteT K a) xs.length (fun H => SqT K H a xs) (YPair (fun i => some (.int (i : Nat))) (fun i => xs[i]?)) := by
  refine ⟨fun i _ hi q => ⟨xs, xs[i], q, by simp [hi]⟩, fun _ q => ⟨xs, q, rfl⟩, fun i H v H' _ q y => ?_⟩
  obtain ⟨T, x, h1, h2, h3, h4⟩ := y
  exact ⟨T, .int (i : Nat), x, h1, h2, h3, rfl, h4 xs q⟩
theorem all_more {p : PyData → Bool} {ds : List PyData} {i : Nat} {d : PyData} (h : (ds.take i).all p = true) (e : ds[i]? = some d) (o : p d = true) : (ds.take (i + 1)).all p = true := by
  rw [List.take_add_one, e, List.all_append, h]
  show (true && (p d && true)) = true
  rw [o]
  rfl
theorem all_not {p : PyData → Bool} {ds : List PyData} {i : Nat} {d : PyData} (e : ds[i]? = some d) (o : p d = false) : ds.all p = false := by
  rw [← Bool.not_eq_true, List.all_eq_true]
  intro z
  have := z d (List.mem_of_getElem? e)
  rw [o] at this
  cases this
def sp_check_many (K : PySem.W.Frag) (C : Addr) : Sp := fun vs H Q E => ∃ (v part : V) (lo hi : Int) (d : PyData), vs = [v, .int lo, .int hi, part] ∧ Dp K H v d ∧
  (manyOk lo hi d = true → ∀ H', Same H H' → Q .non H') ∧ (manyOk lo hi d = false → ∀ dx H', Same H H' → E (.ref C) (some dx) H')
def sp_check_row (K : PySem.W.Frag) (C : Addr) : Sp := fun vs H Q E => ∃ (b : Nat) (v part : V) (d : PyData), vs = [nV b, v, part] ∧ Bt b ∧ Dp K H v d ∧
  (wordsOk (okW b) d = true → ∀ H', Same H H' → Q .non H') ∧ (wordsOk (okW b) d = false → ∀ dx H', Same H H' → E (.ref C) (some dx) H')
def tornOk (b many : Nat) (d : PyData) : Bool := manyOk ((many : Int) + 1) (((2 ^ b : Nat) : Int) - 1) d && wordsOk (okT b) d
def rowOk (b many : Nat) (d : PyData) : Bool := manyOk ((many : Int) + 1) (((2 ^ b : Nat) : Int) - 1) d && wordsOk (okW b) d
def sp_check_torn (K : PySem.W.Frag) (C : Addr) : Sp := fun vs H Q E => ∃ (b : Nat) (c : Addr) (many start : Nat) (v : V) (d : PyData), vs = [.ref c, v] ∧ Kode b many start ∧ At3 K H c b many start ∧ Dp K H v d ∧
  (tornOk b many d = true → ∀ H', Same H H' → Q .non H') ∧ (tornOk b many d = false → ∀ dx H', Same H H' → E (.ref C) (some dx) H')
section
variable {P : Program} {w : World} {K : PySem.W.Frag} {mg : Str → Option Value} {base : Heap} {k : Nat} {C : Addr}
/-! check_many: slots 0 words, 1 least, 2 most, 3 part -/
abbrev s_check_many : Stmt := topS 21
abbrev n_check_many : List Str := ["words", "least", "most", "part"]
theorem sc_check_many : FnScope n_check_many ["words", "least", "most", "part"] (defScope s_check_many) := ⟨rfl, rfl, rfl, by decide +kernel, rfl, by decide +kernel, by decide +kernel⟩
theorem ok_check_many (D : Df K mg "check_many" s_check_many) (B : Blt mg) (NW : Nw P w K mg base k C) : Cal P w K mg base (L2.CX P w) (k + 2) "check_many" ["words", "least", "most", "part"] (sp_check_many K C) := by
  refine D.calX sc_check_many (fun _ _ _ _ _ _ us hl => match us, hl with | [_, _, _, _], _ => rfl) (fun vs H Q E h => ?_) (fun f cdv A outer s H vs Q E hr h => ?_)
  · obtain ⟨v, part, lo, hi, d, rfl, h⟩ := h
    rfl
  · obtain ⟨v, part, lo, hi, d, rfl, hd, q1, q2⟩ := h
    refine ⟨_, (pss_one (ps_if (PW.pt (pw_or (pt_not (pt_val (pe_callB call_isiT (by rfl) B.isinstance_ (by decide +kernel) (pa_cons (pv 0) (pa_cons (pe_tup (pa_cons (pe_bltn (v := .ty "list") (by rfl) B.list_ (by decide +kernel) rfl) (pa_cons (pe_bltn (v := .ty "tuple") (by rfl) B.tuple_ (by decide +kernel) rfl) pa_nil))) pa_nil))))) (pw_or1 (pt_not (pt_chain op_le op_le (pv 1) (pe_callB call_len (by rfl) B.len_ (by decide +kernel) (pa_cons (pv 0) pa_nil)) (pv 2))))))
        (pss_one (ps_nw rfl (takes_of rfl rfl rfl rfl) NW hr passX0 (pa_cons (pv 3) (pa_cons (pe_un un_neg pe_int) pa_nil))))
        pss_nil)), ?_⟩
    refine ⟨_, rfl, by show 2 ≤ _; decide, fun tp np => ?_⟩
    have s1 : Same H (upd H tp (.tup [.ty "list", .ty "tuple"])) := same_new np
    rcases Dp.items hd with ⟨ds, a, xs, ei, rfl, hs, ha, kd, hp, hk⟩ | ⟨ei, kd, hp, k1, k2⟩
    · refine ⟨_, tp, _, _, _, true, rfl, upd_same, .cons (.ty _) (.cons (.ty _) .nil), (hp.same s1).ty, kit_lt_yes hk, _, rfl, iteF ?_⟩
      have em : manyOk lo hi d = decide (lo ≤ (xs.length : Int) ∧ (xs.length : Int) ≤ hi) := by
        unfold manyOk
        rw [ei, DpAll.len ha]
      refine ⟨_, rfl, _, rfl, _, xs.length, rfl, len_sq (Same.sq s1 hs), lo, _, rfl, rfl, _, rfl, ite2 (fun c => ?_) (fun c => ?_)⟩
      · have c' : lo ≤ (xs.length : Int) := of_decide_eq_true c
        refine ⟨_, rfl, _, hi, rfl, rfl, _, rfl, ite2 (fun c2 => ?_) (fun c2 => ?_)⟩
        · have c3 : ¬ (xs.length : Int) ≤ hi := fun z => by
            rw [decide_eq_true z] at c2
            cases c2
          refine ⟨_, rfl, _, rfl, nw_end rfl fun dx H2 s2 => q2 ?_ dx H2 (s1.trans s2)⟩
          rw [em]
          exact decide_eq_false fun z => c3 z.2
        · have c3 : (xs.length : Int) ≤ hi := by
            cases e : decide ((xs.length : Int) ≤ hi) with
            | true => exact of_decide_eq_true e
            | false => rw [e] at c2; exact absurd rfl c2
          refine q1 ?_ _ s1
          rw [em]
          exact decide_eq_true ⟨c', c3⟩
      · have c' : ¬ lo ≤ (xs.length : Int) := fun z => c (decide_eq_true z)
        refine ⟨_, rfl, iteT ⟨_, rfl, _, rfl, nw_end rfl fun dx H2 s2 => q2 ?_ dx H2 (s1.trans s2)⟩⟩
        rw [em]
        exact decide_eq_false fun z => c' z.1
    · refine ⟨_, tp, _, _, _, false, rfl, upd_same, .cons (.ty _) (.cons (.ty _) .nil), (hp.same s1).ty, kit_lt_no k1 k2, _, rfl, iteT (iteT ⟨_, rfl, _, rfl, nw_end rfl fun dx H2 s2 => q2 ?_ dx H2 (s1.trans s2)⟩)⟩
      unfold manyOk
      rw [ei]
end
end Tw

namespace Tw
open PySem PySem.Spec PyProof.Rows L2
section
variable {P : Program} {w : World} {K : PySem.W.Frag} {mg : Str → Option Value} {base : Heap} {k : Nat} {C : Addr}
/-! check_row: slots 0 bits, 1 words, 2 part, 3 index, 4 word -/
abbrev s_check_row : Stmt := topS 9
abbrev n_check_row : List Str := ["bits", "words", "part", "index", "word"]
theorem sc_check_row : FnScope n_check_row ["bits", "words", "part"] (defScope s_check_row) := ⟨rfl, rfl, rfl, by decide +kernel, rfl, by decide +kernel, by decide +kernel⟩
theorem ok_check_row (D : Df K mg "check_row" s_check_row) (B : Blt mg) (NW : Nw P w K mg base k C) (c_is_word : Cal P w K mg base CX0 (k + 1) "is_word" ["bits", "value"] (sp_is_word K)) : Cal P w K mg base (L2.CX P w) (k + 2) "check_row" ["bits", "words", "part"] (sp_check_row K C) := by
  refine D.calX sc_check_row (fun _ _ _ _ _ _ us hl => match us, hl with | [_, _, _], _ => rfl) (fun vs H Q E h => ?_) (fun f cdv A outer s H vs Q E hr h => ?_)
  · obtain ⟨b, v, part, d, rfl, h⟩ := h
    rfl
  · obtain ⟨b, v, part, d, rfl, hb, hd, q1, q2⟩ := h
    rcases Dp.items hd with ⟨ds, a, xs, ei, rfl, hs, ha, kd, hp, hk⟩ | ⟨ei, kd, hp, k1, k2⟩
    · have ew : wordsOk (okW b) d = ds.all (okW b) := by
        unfold wordsOk
        rw [ei]
      rw [ew] at q1 q2
      have hlen := DpAll.len ha
      rcases hs with hs | hs
      · refine ⟨_, (pss_cons (ps_if (pt_not (pt_val (pe_callB call_isiT (by rfl) B.isinstance_ (by decide +kernel) (pa_cons (pv 1) (pa_cons (pe_tup (pa_cons (pe_bltn (v := .ty "list") (by rfl) B.list_ (by decide +kernel) rfl) (pa_cons (pe_bltn (v := .ty "tuple") (by rfl) B.tuple_ (by decide +kernel) rfl) pa_nil))) pa_nil)))))
        (pss_one (ps_nw rfl (takes_of rfl rfl rfl rfl) NW hr passX0 (pa_cons (pv 2) (pa_cons (pe_un un_neg pe_int) pa_nil))))
        pss_nil)
      (pss_one (ps_for (passes_of rfl) rfl (pi_enum (by rfl) B.enumerate_ (pa_cons (pv 1) pa_nil)) (pg_tup (by rfl) (pgs_cons (pg_name (i := 3) sc_check_row.nd rfl (Or.inl rfl)) (pgs_cons (pg_name (i := 4) sc_check_row.nd rfl (Or.inl rfl)) pgs_nil)))
        (pss_one (ps_if (pt_not (pt_val (pe_cal c_is_word hr pass0 (pa_cons (pv 0) (pa_cons (pv 4) pa_nil)))))
        (pss_one (ps_nw rfl (takes_of rfl rfl rfl rfl) NW hr passX0 (pa_cons (pv 2) (pa_cons (pv 3) pa_nil))))
        pss_nil))))), ?_⟩
        refine ⟨_, rfl, by show 2 ≤ _; decide, fun tp np => ?_⟩
        have s1 : Same H (upd H tp (.tup [.ty "list", .ty "tuple"])) := same_new np
        refine ⟨_, tp, _, _, _, true, rfl, upd_same, .cons (.ty _) (.cons (.ty _) .nil), (hp.same s1).ty, kit_lt_yes hk, _, rfl, iteF ?_⟩
        refine ⟨_, rfl, a, xs, rfl, s1.seq hs, for_it (walk_enum (K := K) (a := a) (xs := xs)) (fun i st H' => ∃ v3 v4, st = [some (nV b), some (.ref a), some part, v3, v4] ∧ Same H H' ∧ (ds.take i).all (okW b) = true) ⟨none, none, rfl, s1, rfl⟩ (fun i st H' _ p => ?_) ?_ ?_⟩
        · obtain ⟨_, _, _, s2, _⟩ := p
          exact s2.seq hs
        · rintro i x st H' H3 hi ⟨v3, v4, rfl, s2, hall⟩ ⟨T, x1, x2, rfl, nT, rfl, e1, e2⟩
          obtain ⟨dx, hdx, hx2⟩ := DpAll.get ha e2
          have sT : Same H' (upd H' T (.tup [x1, x2])) := same_new nT
          obtain ⟨kx, px⟩ := Dp.pl hx2
          refine ⟨T, _, rfl, sq_t upd_same, rfl, x1, _, rfl, x2, _, rfl, rfl, ?_⟩
          refine ⟨_, rfl, _, rfl, b, x2, kx, rfl, hb, px.same (s2.trans sT), _, rfl, ?_⟩
          rw [Dp.isW b hx2]
          cases o : okW b dx with
          | true => exact iteF ⟨_, _, rfl, s2.trans sT, all_more hall hdx o⟩
          | false => exact iteT ⟨_, rfl, _, rfl, nw_end rfl fun dd H2 s3 => q2 (all_not hdx o) dd H2 ((s2.trans sT).trans s3)⟩
        · rintro st H' ⟨v3, v4, rfl, s2, hall⟩
          rw [hlen, List.take_length] at hall
          exact q1 hall H' s2
      · refine ⟨_, (pss_cons (ps_if (pt_not (pt_val (pe_callB call_isiT (by rfl) B.isinstance_ (by decide +kernel) (pa_cons (pv 1) (pa_cons (pe_tup (pa_cons (pe_bltn (v := .ty "list") (by rfl) B.list_ (by decide +kernel) rfl) (pa_cons (pe_bltn (v := .ty "tuple") (by rfl) B.tuple_ (by decide +kernel) rfl) pa_nil))) pa_nil)))))
        (pss_one (ps_nw rfl (takes_of rfl rfl rfl rfl) NW hr passX0 (pa_cons (pv 2) (pa_cons (pe_un un_neg pe_int) pa_nil))))
        pss_nil)
      (pss_one (ps_for (passes_of rfl) rfl (pi_enumT B.enumerate_ (pa_cons (pv 1) pa_nil)) (pg_tup (by rfl) (pgs_cons (pg_name (i := 3) sc_check_row.nd rfl (Or.inl rfl)) (pgs_cons (pg_name (i := 4) sc_check_row.nd rfl (Or.inl rfl)) pgs_nil)))
        (pss_one (ps_if (pt_not (pt_val (pe_cal c_is_word hr pass0 (pa_cons (pv 0) (pa_cons (pv 4) pa_nil)))))
        (pss_one (ps_nw rfl (takes_of rfl rfl rfl rfl) NW hr passX0 (pa_cons (pv 2) (pa_cons (pv 3) pa_nil))))
        pss_nil))))), ?_⟩
        refine ⟨_, rfl, by show 2 ≤ _; decide, fun tp np => ?_⟩
        have s1 : Same H (upd H tp (.tup [.ty "list", .ty "tuple"])) := same_new np
        refine ⟨_, tp, _, _, _, true, rfl, upd_same, .cons (.ty _) (.cons (.ty _) .nil), (hp.same s1).ty, kit_lt_yes hk, _, rfl, iteF ?_⟩
        refine ⟨_, rfl, a, xs, rfl, Same.tup s1 hs, for_it (walk_enumT (K := K) (a := a) (xs := xs)) (fun i st H' => ∃ v3 v4, st = [some (nV b), some (.ref a), some part, v3, v4] ∧ Same H H' ∧ (ds.take i).all (okW b) = true) ⟨none, none, rfl, s1, rfl⟩ (fun i st H' _ p => ?_) ?_ ?_⟩
        · obtain ⟨_, _, _, s2, _⟩ := p
          exact Same.tup s2 hs
        · rintro i x st H' H3 hi ⟨v3, v4, rfl, s2, hall⟩ ⟨T, x1, x2, rfl, nT, rfl, e1, e2⟩
          obtain ⟨dx, hdx, hx2⟩ := DpAll.get ha e2
          have sT : Same H' (upd H' T (.tup [x1, x2])) := same_new nT
          obtain ⟨kx, px⟩ := Dp.pl hx2
          refine ⟨T, _, rfl, sq_t upd_same, rfl, x1, _, rfl, x2, _, rfl, rfl, ?_⟩
          refine ⟨_, rfl, _, rfl, b, x2, kx, rfl, hb, px.same (s2.trans sT), _, rfl, ?_⟩
          rw [Dp.isW b hx2]
          cases o : okW b dx with
          | true => exact iteF ⟨_, _, rfl, s2.trans sT, all_more hall hdx o⟩
          | false => exact iteT ⟨_, rfl, _, rfl, nw_end rfl fun dd H2 s3 => q2 (all_not hdx o) dd H2 ((s2.trans sT).trans s3)⟩
        · rintro st H' ⟨v3, v4, rfl, s2, hall⟩
          rw [hlen, List.take_length] at hall
          exact q1 hall H' s2
    · refine ⟨_, (pss_cons (ps_if (pt_not (pt_val (pe_callB call_isiT (by rfl) B.isinstance_ (by decide +kernel) (pa_cons (pv 1) (pa_cons (pe_tup (pa_cons (pe_bltn (v := .ty "list") (by rfl) B.list_ (by decide +kernel) rfl) (pa_cons (pe_bltn (v := .ty "tuple") (by rfl) B.tuple_ (by decide +kernel) rfl) pa_nil))) pa_nil)))))
        (pss_one (ps_nw rfl (takes_of rfl rfl rfl rfl) NW hr passX0 (pa_cons (pv 2) (pa_cons (pe_un un_neg pe_int) pa_nil))))
        pss_nil)
      (pss_one (ps_for (passes_of rfl) rfl (pi_enum (by rfl) B.enumerate_ (pa_cons (pv 1) pa_nil)) (pg_tup (by rfl) (pgs_cons (pg_name (i := 3) sc_check_row.nd rfl (Or.inl rfl)) (pgs_cons (pg_name (i := 4) sc_check_row.nd rfl (Or.inl rfl)) pgs_nil)))
        (pss_one (ps_if (pt_not (pt_val (pe_cal c_is_word hr pass0 (pa_cons (pv 0) (pa_cons (pv 4) pa_nil)))))
        (pss_one (ps_nw rfl (takes_of rfl rfl rfl rfl) NW hr passX0 (pa_cons (pv 2) (pa_cons (pv 3) pa_nil))))
        pss_nil))))), ?_⟩
      refine ⟨_, rfl, by show 2 ≤ _; decide, fun tp np => ?_⟩
      have s1 : Same H (upd H tp (.tup [.ty "list", .ty "tuple"])) := same_new np
      refine ⟨_, tp, _, _, _, false, rfl, upd_same, .cons (.ty _) (.cons (.ty _) .nil), (hp.same s1).ty, kit_lt_no k1 k2, _, rfl, iteT ⟨_, rfl, _, rfl, nw_end rfl fun dd H2 s3 => q2 ?_ dd H2 (s1.trans s3)⟩⟩
      unfold wordsOk
      rw [ei]
/-! check_torn: slots 0 code, 1 row, 2 index, 3 word -/
abbrev s_check_torn : Stmt := topS 22
abbrev n_check_torn : List Str := ["code", "row", "index", "word"]
theorem sc_check_torn : FnScope n_check_torn ["code", "row"] (defScope s_check_torn) := ⟨rfl, rfl, rfl, by decide +kernel, rfl, by decide +kernel, by decide +kernel⟩
theorem ok_check_torn (D : Df K mg "check_torn" s_check_torn) (B : Blt mg) (NW : Nw P w K mg base k C) (c_is_word : Cal P w K mg base CX0 (k + 1) "is_word" ["bits", "value"] (sp_is_word K))
    (c_check_many : Cal P w K mg base (L2.CX P w) (k + 1) "check_many" ["words", "least", "most", "part"] (sp_check_many K C)) : Cal P w K mg base (L2.CX P w) (k + 2) "check_torn" ["code", "row"] (sp_check_torn K C) := by
  refine D.calX sc_check_torn (fun _ _ _ _ _ _ us hl => match us, hl with | [_, _], _ => rfl) (fun vs H Q E h => ?_) (fun f cdv A outer s H vs Q E hr h => ?_)
  · obtain ⟨b, c, many, start, v, d, rfl, h⟩ := h
    rfl
  · obtain ⟨b, c, many, start, v, d, rfl, hk, hc, hd, q1, q2⟩ := h
    have hb := hk.bt
    unfold tornOk at q1 q2
    have em : ∀ x : Bool, (x = true → manyOk ((many : Int) + 1) (((2 ^ b : Nat) : Int) - 1) d = true → wordsOk (okT b) d = x → ∀ H', Same H H' → Q .non H') ∧ (x = false → wordsOk (okT b) d = x → ∀ dx H', Same H H' → E (.ref C) (some dx) H') := fun x =>
      ⟨fun e1 e2 e3 => q1 (by rw [e2, e3, e1]; rfl), fun e1 e3 => q2 (by rw [e3, e1, Bool.and_false])⟩
    rcases Dp.items hd with ⟨ds, a, xs, ei, rfl, hs, ha, kd, hp, hkd⟩ | ⟨ei, kd, hp, k1, k2⟩
    · have ew : wordsOk (okT b) d = ds.all (okT b) := by
        unfold wordsOk
        rw [ei]
      rw [ew] at q1 q2
      have hlen := DpAll.len ha
      rcases hs with hs | hs
      · refine ⟨_, (pss_cons (ps_expr (pe_calS c_check_many hr (takes_of rfl rfl rfl rfl) (pa_cons (pv 1) (pa_cons (pe_op op_add (pe_ix ix_tup (pv 0) pe_int (fun _ _ => rfl)) pe_int) (pa_cons (pe_op op_sub (pe_op op_shl pe_int (pe_ix ix_tup (pv 0) pe_int (fun _ _ => rfl))) pe_int) (pa_cons pe_str pa_nil))))))
      (pss_one (ps_for (passes_of rfl) rfl (pi_enum (by rfl) B.enumerate_ (pa_cons (pv 1) pa_nil)) (pg_tup (by rfl) (pgs_cons (pg_name (i := 2) sc_check_torn.nd rfl (Or.inl rfl)) (pgs_cons (pg_name (i := 3) sc_check_torn.nd rfl (Or.inl rfl)) pgs_nil)))
        (pss_one (ps_if (PW.pt (pw_and (pt_cmpR op_notN (pv 3) pe_non (nomark _)) (pw_and1 (pt_not (pt_val (pe_cal c_is_word hr pass0 (pa_cons (pe_ix ix_tup (pv 0) pe_int (fun _ _ => rfl)) (pa_cons (pv 3) pa_nil))))))))
        (pss_one (ps_nw rfl (takes_of rfl rfl rfl rfl) NW hr passX0 (pa_cons pe_str (pa_cons (pv 2) pa_nil))))
        pss_nil))))), ?_⟩
        refine ⟨_, rfl, _, rfl, c, _, 1, nV many, rfl, rfl, hc, rfl, _, _, rfl, rfl, _, rfl, c, _, 0, nV b, rfl, rfl, hc, rfl, 1, _, rfl, rfl, cpow_one hb, _, _, rfl, rfl, ?_⟩
        dsimp only
        rw [shl_one]
        refine ⟨_, _, _, _, d, rfl, hd, fun m1 H1 s1 => ?_, fun m1 dd H' s1 => q2 (by rw [m1]; rfl) dd H' s1⟩
        refine ⟨_, rfl, a, xs, rfl, s1.seq hs, for_it (walk_enum (K := K) (a := a) (xs := xs)) (fun i st H' => ∃ v3 v4, st = [some (.ref c), some (.ref a), v3, v4] ∧ Same H H' ∧ (ds.take i).all (okT b) = true) ⟨none, none, rfl, s1, rfl⟩ (fun i st H' _ p => ?_) ?_ ?_⟩
        · obtain ⟨_, _, _, s2, _⟩ := p
          exact s2.seq hs
        · rintro i x st H' H3 hi ⟨v3, v4, rfl, s2, hall⟩ ⟨T, x1, x2, rfl, nT, rfl, e1, e2⟩
          obtain ⟨dx, hdx, hx2⟩ := DpAll.get ha e2
          have sT : Same H' (upd H' T (.tup [x1, x2])) := same_new nT
          obtain ⟨kx, px⟩ := Dp.pl hx2
          refine ⟨T, _, rfl, sq_t upd_same, rfl, x1, _, rfl, x2, _, rfl, rfl, ?_⟩
          refine ⟨x2, rfl, rfl, _, rfl, ite2 (fun cc => ?_) (fun cc => ?_)⟩
          · refine ⟨_, rfl, c, _, 0, nV b, rfl, rfl, Same.tup (s2.trans sT) hc, rfl, x2, rfl, b, x2, kx, rfl, hb, px.same (s2.trans sT), _, rfl, ?_⟩
            rw [Dp.isW b hx2]
            have et : okT b dx = okW b dx := by
              cases hx2 with
              | non => cases cc
              | _ => rfl
            cases o : okW b dx with
            | true => exact iteF ⟨_, _, rfl, s2.trans sT, all_more hall hdx (et.trans o)⟩
            | false => exact iteT ⟨_, rfl, nw_end rfl fun dd H2 s3 => (em false).2 rfl (ew.trans (all_not hdx (et.trans o))) dd H2 ((s2.trans sT).trans s3)⟩
          · have et : okT b dx = true := by
              cases hx2 with
              | non => rfl
              | _ => exact absurd rfl cc
            exact ⟨_, _, rfl, s2.trans sT, all_more hall hdx et⟩
        · rintro st H' ⟨v3, v4, rfl, s2, hall⟩
          rw [hlen, List.take_length] at hall
          exact (em true).1 rfl m1 (ew.trans hall) H' s2
      · refine ⟨_, (pss_cons (ps_expr (pe_calS c_check_many hr (takes_of rfl rfl rfl rfl) (pa_cons (pv 1) (pa_cons (pe_op op_add (pe_ix ix_tup (pv 0) pe_int (fun _ _ => rfl)) pe_int) (pa_cons (pe_op op_sub (pe_op op_shl pe_int (pe_ix ix_tup (pv 0) pe_int (fun _ _ => rfl))) pe_int) (pa_cons pe_str pa_nil))))))
      (pss_one (ps_for (passes_of rfl) rfl (pi_enumT B.enumerate_ (pa_cons (pv 1) pa_nil)) (pg_tup (by rfl) (pgs_cons (pg_name (i := 2) sc_check_torn.nd rfl (Or.inl rfl)) (pgs_cons (pg_name (i := 3) sc_check_torn.nd rfl (Or.inl rfl)) pgs_nil)))
        (pss_one (ps_if (PW.pt (pw_and (pt_cmpR op_notN (pv 3) pe_non (nomark _)) (pw_and1 (pt_not (pt_val (pe_cal c_is_word hr pass0 (pa_cons (pe_ix ix_tup (pv 0) pe_int (fun _ _ => rfl)) (pa_cons (pv 3) pa_nil))))))))
        (pss_one (ps_nw rfl (takes_of rfl rfl rfl rfl) NW hr passX0 (pa_cons pe_str (pa_cons (pv 2) pa_nil))))
        pss_nil))))), ?_⟩
        refine ⟨_, rfl, _, rfl, c, _, 1, nV many, rfl, rfl, hc, rfl, _, _, rfl, rfl, _, rfl, c, _, 0, nV b, rfl, rfl, hc, rfl, 1, _, rfl, rfl, cpow_one hb, _, _, rfl, rfl, ?_⟩
        dsimp only
        rw [shl_one]
        refine ⟨_, _, _, _, d, rfl, hd, fun m1 H1 s1 => ?_, fun m1 dd H' s1 => q2 (by rw [m1]; rfl) dd H' s1⟩
        refine ⟨_, rfl, a, xs, rfl, Same.tup s1 hs, for_it (walk_enumT (K := K) (a := a) (xs := xs)) (fun i st H' => ∃ v3 v4, st = [some (.ref c), some (.ref a), v3, v4] ∧ Same H H' ∧ (ds.take i).all (okT b) = true) ⟨none, none, rfl, s1, rfl⟩ (fun i st H' _ p => ?_) ?_ ?_⟩
        · obtain ⟨_, _, _, s2, _⟩ := p
          exact Same.tup s2 hs
        · rintro i x st H' H3 hi ⟨v3, v4, rfl, s2, hall⟩ ⟨T, x1, x2, rfl, nT, rfl, e1, e2⟩
          obtain ⟨dx, hdx, hx2⟩ := DpAll.get ha e2
          have sT : Same H' (upd H' T (.tup [x1, x2])) := same_new nT
          obtain ⟨kx, px⟩ := Dp.pl hx2
          refine ⟨T, _, rfl, sq_t upd_same, rfl, x1, _, rfl, x2, _, rfl, rfl, ?_⟩
          refine ⟨x2, rfl, rfl, _, rfl, ite2 (fun cc => ?_) (fun cc => ?_)⟩
          · refine ⟨_, rfl, c, _, 0, nV b, rfl, rfl, Same.tup (s2.trans sT) hc, rfl, x2, rfl, b, x2, kx, rfl, hb, px.same (s2.trans sT), _, rfl, ?_⟩
            rw [Dp.isW b hx2]
            have et : okT b dx = okW b dx := by
              cases hx2 with
              | non => cases cc
              | _ => rfl
            cases o : okW b dx with
            | true => exact iteF ⟨_, _, rfl, s2.trans sT, all_more hall hdx (et.trans o)⟩
            | false => exact iteT ⟨_, rfl, nw_end rfl fun dd H2 s3 => (em false).2 rfl (ew.trans (all_not hdx (et.trans o))) dd H2 ((s2.trans sT).trans s3)⟩
          · have et : okT b dx = true := by
              cases hx2 with
              | non => rfl
              | _ => exact absurd rfl cc
            exact ⟨_, _, rfl, s2.trans sT, all_more hall hdx et⟩
        · rintro st H' ⟨v3, v4, rfl, s2, hall⟩
          rw [hlen, List.take_length] at hall
          exact (em true).1 rfl m1 (ew.trans hall) H' s2
    · refine ⟨_, (pss_cons (ps_expr (pe_calS c_check_many hr (takes_of rfl rfl rfl rfl) (pa_cons (pv 1) (pa_cons (pe_op op_add (pe_ix ix_tup (pv 0) pe_int (fun _ _ => rfl)) pe_int) (pa_cons (pe_op op_sub (pe_op op_shl pe_int (pe_ix ix_tup (pv 0) pe_int (fun _ _ => rfl))) pe_int) (pa_cons pe_str pa_nil))))))
      (pss_one (ps_for (passes_of rfl) rfl (pi_enum (by rfl) B.enumerate_ (pa_cons (pv 1) pa_nil)) (pg_tup (by rfl) (pgs_cons (pg_name (i := 2) sc_check_torn.nd rfl (Or.inl rfl)) (pgs_cons (pg_name (i := 3) sc_check_torn.nd rfl (Or.inl rfl)) pgs_nil)))
        (pss_one (ps_if (PW.pt (pw_and (pt_cmpR op_notN (pv 3) pe_non (nomark _)) (pw_and1 (pt_not (pt_val (pe_cal c_is_word hr pass0 (pa_cons (pe_ix ix_tup (pv 0) pe_int (fun _ _ => rfl)) (pa_cons (pv 3) pa_nil))))))))
        (pss_one (ps_nw rfl (takes_of rfl rfl rfl rfl) NW hr passX0 (pa_cons pe_str (pa_cons (pv 2) pa_nil))))
        pss_nil))))), ?_⟩
      refine ⟨_, rfl, _, rfl, c, _, 1, nV many, rfl, rfl, hc, rfl, _, _, rfl, rfl, _, rfl, c, _, 0, nV b, rfl, rfl, hc, rfl, 1, _, rfl, rfl, cpow_one hb, _, _, rfl, rfl, ?_⟩
      dsimp only
      rw [shl_one]
      have no : ∀ lo hi, manyOk lo hi d = false := fun lo hi => by
        unfold manyOk
        rw [ei]
      refine ⟨_, _, _, _, d, rfl, hd, fun m1 H1 s1 => ?_, fun m1 dd H' s1 => q2 (by rw [m1]; rfl) dd H' s1⟩
      rw [no] at m1
      cases m1
end
end Tw

namespace Tw
open PySem PySem.Spec PyProof.Rows L2
def synd (b many start : Nat) (l : List Nat) : List Nat := (List.range many).map fun i => ev b (pw b (start + i)) l
theorem synd_len (b many start : Nat) (l : List Nat) : (synd b many start l).length = many := by
  unfold synd
  rw [List.length_map, List.length_range]
theorem Ws_synd {b : Nat} (hb : Bt b) (many start : Nat) {l : List Nat} (h : Ws b l) : Ws b (synd b many start l) := fun x hx => by
  obtain ⟨i, _, rfl⟩ := List.mem_map.mp hx
  exact ev_lt hb _ l h
theorem synd_sel (b many start : Nat) (l : List Nat) : sel many (fun _ => true) (fun i => nV (ev b (pw b (start + i)) l)) = wsV (synd b many start l) := by
  rw [sel_all]
  unfold synd wsV
  rw [List.map_map]
  rfl
theorem rep_all {x : Nat} : ∀ {l : List Nat} {n : Nat}, l.length = n → (l = List.replicate n x ↔ l.all (· == x) = true)
  | [], 0, _ => ⟨fun _ => rfl, fun _ => rfl⟩
  | y :: l, n + 1, h => by
    rw [List.replicate_succ, List.all_cons, Bool.and_eq_true, ← rep_all (l := l) (n := n) (by simpa using h), beq_iff_eq]
    exact ⟨fun e => by injection e with e1 e2; exact ⟨e1, e2⟩, fun e => by rw [e.1, e.2]⟩
theorem synd_right (b many start : Nat) (l : List Nat) : decide (synd b many start l = List.replicate many 0) = right b many start l := by
  rw [Bool.eq_iff_iff, decide_eq_true_iff, rep_all (synd_len b many start l)]
  unfold synd right
  rw [List.all_map]
  exact Iff.rfl
/-! ### equality of lists of words -/
def wD (l : List Nat) : List PyData := l.map fun (x : Nat) => PyData.int (x : Int)
theorem eqvAll_ws : ∀ l m : List Nat, PyData.eqvAll (wD l) (wD m) = decide (l = m)
  | [], [] => by
    show PyData.eqvAll [] [] = _
    rw [PyData.eqvAll]
    rfl
  | [], y :: m => by
    show PyData.eqvAll [] (_ :: _) = _
    rw [PyData.eqvAll]
    rfl
  | x :: l, [] => by
    show PyData.eqvAll (_ :: _) [] = _
    rw [PyData.eqvAll]
    rfl
  | x :: l, y :: m => by
    show PyData.eqvAll (.int _ :: wD l) (.int _ :: wD m) = _
    rw [PyData.eqvAll, eqvAll_ws l m, PyData.eqv, Bool.eq_iff_iff, Bool.and_eq_true, decide_eq_true_iff, decide_eq_true_iff, beq_iff_eq, Int.ofNat_inj, List.cons.injEq]
theorem eqv_ws (l m : List Nat) : PyData.eqv (.list (wD l)) (.list (wD m)) = decide (l = m) := by
  rw [PyData.eqv, eqvAll_ws]
theorem lay_ws : ∀ l : List Nat, PyData.canLayAll0 (wD l) = true
  | [] => by
    show PyData.canLayAll0 [] = true
    rw [PyData.canLayAll0]
  | x :: l => by
    show PyData.canLayAll0 (.int _ :: wD l) = true
    rw [PyData.canLayAll0, lay_ws l, PyData.canLay0]
    rfl
theorem dep_ws : ∀ l : List Nat, PyData.depthAll (wD l) = 0
  | [] => by
    show PyData.depthAll [] = 0
    rw [PyData.depthAll]
  | x :: l => by
    show PyData.depthAll (.int _ :: wD l) = 0
    rw [PyData.depthAll, dep_ws l, PyData.depth]
    rfl
theorem sh_ws (l : List Nat) : SeqAt.shaped (.list (wD l)) = true := by
  unfold SeqAt.shaped
  rw [PyData.canLay0, lay_ws, PyData.depth, dep_ws]
  rfl
theorem Dp.ws {K : PySem.W.Frag} {H : Hp} {a : Addr} {l : List Nat} (h : SqL K H a (wsV l)) : Dp K H (.ref a) (.list (wD l)) := .lst h (wsD l)
def wordsOf (d : PyData) : List Nat := ((itemsD d).getD []).map wordOf
def gapsOf (d : PyData) : List (Option Nat) := ((itemsD d).getD []).map gapOf
theorem Dp.row {K : PySem.W.Frag} {H : Hp} {v : V} {d : PyData} {b : Nat} (h : Dp K H v d) (o : wordsOk (okW b) d = true) : ∃ a, v = .ref a ∧ (SqL K H a (wsV (wordsOf d)) ∨ SqT K H a (wsV (wordsOf d))) ∧ Ws b (wordsOf d) := by
  rcases Dp.items h with ⟨ds, a, xs, ei, rfl, hs, ha, kd, hp, hk⟩ | ⟨ei, _⟩
  · have eo : ds.all (okW b) = true := by
      unfold wordsOk at o
      rw [ei] at o
      exact o
    obtain ⟨ex, hw⟩ := DpAll.words ha eo
    have e : wordsOf d = ds.map wordOf := by
      unfold wordsOf
      rw [ei]
      rfl
    rw [e, ← ex]
    exact ⟨a, rfl, hs, hw⟩
  · unfold wordsOk at o
    rw [ei] at o
    cases o
theorem Dp.torn {K : PySem.W.Frag} {H : Hp} {v : V} {d : PyData} {b : Nat} (h : Dp K H v d) (o : wordsOk (okT b) d = true) : ∃ a, v = .ref a ∧ (SqL K H a ((gapsOf d).map gN) ∨ SqT K H a ((gapsOf d).map gN)) := by
  rcases Dp.items h with ⟨ds, a, xs, ei, rfl, hs, ha, kd, hp, hk⟩ | ⟨ei, _⟩
  · have eo : ds.all (okT b) = true := by
      unfold wordsOk at o
      rw [ei] at o
      exact o
    have ex := DpAll.gaps ha eo
    have e : gapsOf d = ds.map gapOf := by
      unfold gapsOf
      rw [ei]
      rfl
    rw [e, ← ex]
    exact ⟨a, rfl, hs⟩
  · unfold wordsOk at o
    rw [ei] at o
    cases o
def sp_syndromes_in (K : PySem.W.Frag) : Sp := fun vs H Q _ => ∃ (b : Nat) (c r : Addr) (many start : Nat) (l : List Nat), vs = [.ref c, .ref r] ∧ Kode b many start ∧ At3 K H c b many start ∧ (SqL K H r (wsV l) ∨ SqT K H r (wsV l)) ∧ Ws b l ∧
  ∀ H' p, Same H H' → H p = none → H' p = some (.lst (wsV (synd b many start l))) → Q (.ref p) H'
def sp_syndromes (K : PySem.W.Frag) (C : Addr) : Sp := fun vs H Q E => ∃ (b : Nat) (c : Addr) (many start : Nat) (v : V) (d : PyData), vs = [.ref c, v] ∧ Kode b many start ∧ At3 K H c b many start ∧ Dp K H v d ∧
  (rowOk b many d = true → ∀ H' p, Same H H' → H p = none → H' p = some (.lst (wsV (synd b many start (wordsOf d)))) → Q (.ref p) H') ∧ (rowOk b many d = false → ∀ dx H', Same H H' → E (.ref C) (some dx) H')
def sp_is_right (K : PySem.W.Frag) (C : Addr) : Sp := fun vs H Q E => ∃ (b : Nat) (c : Addr) (many start : Nat) (v : V) (d : PyData), vs = [.ref c, v] ∧ Kode b many start ∧ At3 K H c b many start ∧ Dp K H v d ∧
  (rowOk b many d = true → ∀ H', Same H H' → Q (.bl (right b many start (wordsOf d))) H') ∧ (rowOk b many d = false → ∀ dx H', Same H H' → E (.ref C) (some dx) H')
section
variable {P : Program} {w : World} {K : PySem.W.Frag} {mg : Str → Option Value} {base : Heap} {k : Nat} {C : Addr}
/-! syndromes_in: slots 0 code, 1 row, 2 field, 3 start, 4 step; cells field row start -/
abbrev s_syndromes_in : Stmt := topS 25
abbrev n_syndromes_in : List Str := ["code", "row", "field", "start", "step"]
theorem sc_syndromes_in : FnScope n_syndromes_in ["code", "row"] (defScope s_syndromes_in) := ⟨rfl, rfl, rfl, by decide +kernel, rfl, by decide +kernel, by decide +kernel⟩
theorem ok_syndromes_in (D : Df K mg "syndromes_in" s_syndromes_in) (B : Blt mg) (c_power_table : Cal P w K mg base CX0 k "power_table" ["bits"] (sp_power_table K)) (c_power_of : Cal P w K mg base CX0 k "power_of" ["field", "place"] (sp_power_of K))
    (c_value_at : Cal P w K mg base CX0 k "value_at" ["field", "row", "at"] (sp_value_at K)) : Cal P w K mg base CX0 (k + 1) "syndromes_in" ["code", "row"] (sp_syndromes_in K) := by
  refine D.cal sc_syndromes_in (fun _ _ _ _ _ _ us hl => match us, hl with | [_, _], _ => rfl) (fun vs H Q E h => ?_) (fun f cdv A outer s H vs Q E hr h => ?_)
  · obtain ⟨b, c, r, many, start, l, rfl, h⟩ := h
    rfl
  · obtain ⟨b, c, r, many, start, l, rfl, hk, hc, hrow, hw, q⟩ := h
    refine ⟨_, (pss_cons (ps_asg (pe_tup (pa_cons (pe_cal c_power_table hr pass0 (pa_cons (pe_ix ix_tup (pv 0) pe_int (fun _ _ => rfl)) pa_nil)) (pa_cons (pe_ix ix_tup (pv 0) pe_int (fun _ _ => rfl)) pa_nil))) (pg_tup (by rfl) (pgs_cons (pg_name (i := 2) sc_syndromes_in.nd rfl (Or.inr rfl)) (pgs_cons (pg_name (i := 3) sc_syndromes_in.nd rfl (Or.inr rfl)) pgs_nil))))
      (pss_one (ps_ret (pe_lc (own := [("step", 4)]) (g := (gName 4)) (tt := tYes) (te := (tCall (sp_value_at K) [] E0 (tCons (tVar 2) (tCons (tVar 1) (tCons (tCall (sp_power_of K) [] E0 (tCons (tVar 2) (tCons (tOp rAdI (tVar 3) (tVar 4)) tNil))) tNil))))) rfl sc_syndromes_in.nd (pi_range1 (by rfl) B.range_ (pa_cons (pe_ix ix_tup (pv 0) pe_int (fun _ _ => rfl)) pa_nil)) (blkOk_by (N := n_syndromes_in) (sc := defScope s_syndromes_in) (by decide +kernel)) (fun _ _ _ _ _ => by exact (pg_name (i := 4) sc_syndromes_in.nd rfl (Or.inl rfl))) (fun _ _ _ _ _ => pts_nil) (fun _ _ _ _ _ => by exact (pe_cal c_value_at hr pass0 (pa_cons (pv 2) (pa_cons (pv 1) (pa_cons (pe_cal c_power_of hr pass0 (pa_cons (pv 2) (pa_cons (pe_op op_add (pv 3) (pv 4)) pa_nil))) pa_nil))))))))), ?_⟩
    have hb := hk.bt
    have hm := hk.le
    refine ⟨_, rfl, c, _, 0, nV b, rfl, rfl, hc, rfl, b, rfl, hb, fun H1 a s1 na hF => ?_⟩
    have c1 := Same.tup s1 hc
    refine ⟨_, rfl, c, _, 2, nV start, rfl, rfl, c1, rfl, by show 2 ≤ _; decide, fun T nT => ?_⟩
    have sT : Same H1 (upd H1 T (.tup [.ref a, nV start])) := same_new nT
    refine ⟨T, _, rfl, sq_t upd_same, rfl, _, _, rfl, _, _, rfl, rfl, ?_⟩
    have s2 := s1.trans sT
    have hF2 := hF.same sT
    have r2 := Same.sq s2 hrow
    refine ⟨_, rfl, c, _, 1, nV many, rfl, rfl, Same.tup sT c1, rfl, many, rfl, by omega, by omega, fun D hD => ?_⟩
    refine lcN (walk_range (lo := 0) (n := many)) (fun _ => true) (fun i => nV (ev b (pw b (start + i)) l)) hD (by omega) (fun _ => rfl) (fun _ _ => trivial) (fun i x H' H'' hi s3 y => ?_) (fun H' s3 hD' => ?_)
    · obtain ⟨e1, e2⟩ := y
      subst e1 e2
      refine ⟨Same.refl _, fun R hR => yes_all hR, fun _ H3 s4 Qk hQ => ?_⟩
      refine ⟨_, rfl, _, rfl, _, rfl, _, rfl, _, rfl, _, _, rfl, rfl, b, a, _, rfl, hb, (hF2.same s3).same s4, ?_⟩
      dsimp only
      rw [show (start : Int) + (0 + (i : Int)) = ((start + i : Nat) : Int) by omega, pwI_nat hb]
      exact ⟨b, a, r, l, _, rfl, hb, (hF2.same s3).same s4, Same.sq s4 (Same.sq s3 r2), hw, pw_lt hb _, hQ H3 (Same.refl H3)⟩
    · rw [synd_sel] at hD'
      exact q H' D (s2.trans s3) (s2.free hD) hD'
/-! syndromes: slots 0 code, 1 row -/
abbrev s_syndromes : Stmt := topS 26
abbrev n_syndromes : List Str := ["code", "row"]
theorem sc_syndromes : FnScope n_syndromes ["code", "row"] (defScope s_syndromes) := ⟨rfl, rfl, rfl, by decide +kernel, rfl, by decide +kernel, by decide +kernel⟩
theorem ok_syndromes (D : Df K mg "syndromes" s_syndromes) (c_check_code : Cal P w K mg base CX0 k "check_code" ["code"] (sp_check_code K)) (c_check_many : Cal P w K mg base (L2.CX P w) k "check_many" ["words", "least", "most", "part"] (sp_check_many K C)) (c_check_row : Cal P w K mg base (L2.CX P w) k "check_row" ["bits", "words", "part"] (sp_check_row K C))
    (c_syndromes_in : Cal P w K mg base CX0 k "syndromes_in" ["code", "row"] (sp_syndromes_in K)) : Cal P w K mg base (L2.CX P w) (k + 1) "syndromes" ["code", "row"] (sp_syndromes K C) := by
  refine D.calX sc_syndromes (fun _ _ _ _ _ _ us hl => match us, hl with | [_, _], _ => rfl) (fun vs H Q E h => ?_) (fun f cdv A outer s H vs Q E hr h => ?_)
  · obtain ⟨b, c, many, start, v, d, rfl, h⟩ := h
    rfl
  · obtain ⟨b, c, many, start, v, d, rfl, hk, hc, hd, q1, q2⟩ := h
    refine ⟨_, (pss_cons (ps_expr (pe_cal c_check_code hr pass0 (pa_cons (pv 0) pa_nil)))
      (pss_cons (ps_expr (pe_calS c_check_many hr (takes_of rfl rfl rfl rfl) (pa_cons (pv 1) (pa_cons (pe_op op_add (pe_ix ix_tup (pv 0) pe_int (fun _ _ => rfl)) pe_int) (pa_cons (pe_op op_sub (pe_op op_shl pe_int (pe_ix ix_tup (pv 0) pe_int (fun _ _ => rfl))) pe_int) (pa_cons pe_str pa_nil))))))
      (pss_cons (ps_expr (pe_calS c_check_row hr (takes_of rfl rfl rfl rfl) (pa_cons (pe_ix ix_tup (pv 0) pe_int (fun _ _ => rfl)) (pa_cons (pv 1) (pa_cons pe_str pa_nil)))))
      (pss_one (ps_ret (pe_cal c_syndromes_in hr pass0 (pa_cons (pv 0) (pa_cons (pv 1) pa_nil)))))))), ?_⟩
    have hb := hk.bt
    unfold rowOk at q1 q2
    refine ⟨_, rfl, b, c, many, start, rfl, hk, hc, ?_⟩
    refine ⟨_, rfl, _, rfl, c, _, 1, nV many, rfl, rfl, hc, rfl, _, _, rfl, rfl, _, rfl, c, _, 0, nV b, rfl, rfl, hc, rfl, 1, _, rfl, rfl, cpow_one hb, _, _, rfl, rfl, ?_⟩
    dsimp only
    rw [shl_one]
    refine ⟨_, _, _, _, d, rfl, hd, fun m1 H1 s1 => ?_, fun m1 dd H' s1 => q2 (by rw [m1]; rfl) dd H' s1⟩
    refine ⟨_, rfl, c, _, 0, nV b, rfl, rfl, Same.tup s1 hc, rfl, _, rfl, b, v, _, d, rfl, hb, Dp.same s1 d v hd, fun m2 H2 s2 => ?_, fun m2 dd H' s2 => q2 (by rw [m1, m2]; rfl) dd H' (s1.trans s2)⟩
    obtain ⟨a, ev, hs, hw⟩ := Dp.row (Dp.same (s1.trans s2) d v hd) m2
    subst ev
    exact ⟨_, rfl, _, rfl, b, c, a, many, start, _, rfl, hk, Same.tup (s1.trans s2) hc, hs, hw, fun H3 p s3 np hp => q1 (by rw [m1, m2]; rfl) H3 p ((s1.trans s2).trans s3) ((s1.trans s2).free np) hp⟩
/-! is_right: slots 0 code, 1 row -/
abbrev s_is_right : Stmt := topS 27
abbrev n_is_right : List Str := ["code", "row"]
theorem sc_is_right : FnScope n_is_right ["code", "row"] (defScope s_is_right) := ⟨rfl, rfl, rfl, by decide +kernel, rfl, by decide +kernel, by decide +kernel⟩
theorem ok_is_right (D : Df K mg "is_right" s_is_right) (c_syndromes : Cal P w K mg base (L2.CX P w) k "syndromes" ["code", "row"] (sp_syndromes K C)) : Cal P w K mg base (L2.CX P w) (k + 1) "is_right" ["code", "row"] (sp_is_right K C) := by
  refine D.calX sc_is_right (fun _ _ _ _ _ _ us hl => match us, hl with | [_, _], _ => rfl) (fun vs H Q E h => ?_) (fun f cdv A outer s H vs Q E hr h => ?_)
  · obtain ⟨b, c, many, start, v, d, rfl, h⟩ := h
    rfl
  · obtain ⟨b, c, many, start, v, d, rfl, hk, hc, hd, q1, q2⟩ := h
    refine ⟨_, (pss_one (ps_ret (pe_cmpR (op_eqD hr.units) (pe_calS c_syndromes hr (takes_of rfl rfl rfl rfl) (pa_cons (pv 0) (pa_cons (pv 1) pa_nil))) (pe_op op_rep (pe_lst (pa_cons pe_int pa_nil)) (pe_ix ix_tup (pv 0) pe_int (fun _ _ => rfl))) (nomark _)))), ?_⟩
    have hm := hk.le
    refine ⟨_, rfl, _, rfl, b, c, many, start, v, d, rfl, hk, hc, hd, fun m1 H1 p s1 np hp => ?_, q2⟩
    refine ⟨line_ok (by decide), fun z nz => ?_⟩
    have sz : Same H1 (upd H1 z (.lst [.int 0])) := same_new nz
    refine ⟨_, rfl, c, _, 1, nV many, rfl, rfl, Same.tup (s1.trans sz) hc, rfl, z, _, _, rfl, rfl, upd_same, by omega, by omega, line_ok (by show 1 * _ ≤ _; rw [Int.toNat_natCast]; omega), fun o no => ?_⟩
    rw [rep_wsV]
    have so := sz.trans (same_new (o := .lst (wsV (List.replicate many 0))) no)
    refine ⟨_, _, Dp.ws (sq_l (so _ _ hp)), Dp.ws (sq_l upd_same), sh_ws _, sh_ws _, ?_⟩
    rw [eqv_ws, synd_right]
    exact q1 m1 _ (s1.trans so)
end
end Tw

namespace Tw
open PySem PySem.Spec PyProof.Rows L2
/-! ### comprehensions that make a new object for each item -/
def Po (H1 : Hp) (D : Addr) (O : Nat → HO) (i : Nat) (H : Hp) : Prop := ∃ ps : List Addr, Same H1 H ∧ H D = some (.lst (ps.map .ref)) ∧ ps.length = i ∧ ∀ (j : Nat) (p : Addr), ps[j]? = some p → p ≠ D ∧ H p = some (O j) ∧ H1 p = none
theorem snoc_get {α : Type} {ps : List α} {q : α} {j : Nat} {p : α} (h : (ps ++ [q])[j]? = some p) : ps[j]? = some p ∨ (j = ps.length ∧ p = q) := by
  by_cases e : j < ps.length
  · rw [List.getElem?_append_left e] at h
    exact .inl h
  · rw [List.getElem?_append_right (by omega)] at h
    by_cases e2 : j = ps.length
    · rw [e2, Nat.sub_self] at h
      exact .inr ⟨e2, (Option.some.inj h).symm⟩
    · rw [List.getElem?_eq_none (by show 1 ≤ _; omega)] at h
      cases h
section
variable {J : It} {n : Nat} {G : Hp → Prop} {Y : Nat → Hp → V → Hp → Prop} {vs : List Nat} {te : TE} {st : L2.St} {H1 : Hp} {D : Addr} {Qd : Hp → Prop}
theorem lcO (w : Walk J n G Y) {j : Nat} (O : Nat → HO) (hD : H1 D = none) (hn : n ≤ 50000) (hw : ∀ x, wipe ((wipe st vs).set j (some x)) vs = wipe st vs) (hG : ∀ H', Same H1 H' → G H')
    (hs : ∀ i x H' H'', i < n → Same H1 H' → Y i H' x H'' → Same H' H'' ∧
      (∀ H3, Same H'' H3 → ∀ Qk : VK, (∀ H4 p, Same H3 H4 → H3 p = none → H4 p = some (O i) → Qk (.ref p) H4) → te ((wipe st vs).set j (some x)) H3 Qk))
    (hd : ∀ (H' : Hp) (ps : List Addr), Same H1 H' → H' D = some (.lst (ps.map .ref)) → ps.length = n → (∀ (j : Nat) (p : Addr), ps[j]? = some p → p ≠ D ∧ H' p = some (O j) ∧ H1 p = none) → Qd H') :
    ∃ W : Nat → Nat → Hp → Prop, (∃ m, W 0 m (upd H1 D (.lst []))) ∧ ∀ i m H, W i m H →
      (J.stop i H ∧ Qd H) ∨ (J.go i H ∧ ∃ Nx : Hp → Prop, (∀ H', Nx H' → ∃ m', m' < m ∧ W (i + 1) m' H') ∧ ∀ x H', J.yld i H x H' → gName j x (wipe st vs) H' fun st2 H2 => wipe st2 vs = wipe st vs ∧ tYes st2 H2 fun b H3 =>
        if b = true then te st2 H3 fun y H4 => ∃ acc, H4 D = some (.lst acc) ∧ acc.length < sizeLine ∧ Nx (upd H4 D (.lst (acc ++ [y]))) else Nx H3) := by
  refine lc_it w (Po H1 D O) ⟨[], same_new hD, upd_same, rfl, fun j p h => by cases h⟩ (fun i H _ p => by obtain ⟨_, s, _⟩ := p; exact hG H s) (fun i x H H' hi p y => ?_) (fun H p => ?_)
  · obtain ⟨ps, s1, d1, hl, hp⟩ := p
    obtain ⟨s0, he⟩ := hs i x H H' hi s1 y
    refine ⟨hw x, ?_⟩
    dsimp only [tYes]
    rw [if_pos rfl]
    refine he H' (Same.refl _) _ fun H4 q s4 nq hq => ⟨_, s4 _ _ (s0 _ _ d1), line_lt (by rw [List.length_map]; omega), ps ++ [q], same_mut (s1.trans (s0.trans s4)) hD, ?_, by rw [List.length_append, hl]; rfl, fun j2 p2 e2 => ?_⟩
    · rw [upd_same, List.map_append]
      rfl
    · have qD : q ≠ D := fun z => by
        rw [z, s0 _ _ d1] at nq
        cases nq
      rcases snoc_get e2 with e2 | ⟨e2, e3⟩
      · obtain ⟨h1, h2, h3⟩ := hp j2 p2 e2
        refine ⟨h1, ?_, h3⟩
        rw [upd_ne h1]
        exact s4 _ _ (s0 _ _ h2)
      · subst e2 e3
        refine ⟨qD, ?_, (s1.trans s0).free nq⟩
        rw [upd_ne qD, hl]
        exact hq
  · obtain ⟨ps, s1, d1, hl, hp⟩ := p
    exact hd H ps s1 d1 hl hp
end
/-- [list(some) for some in the tuple at a] -/
theorem lcRows {K : PySem.W.Frag} {vs : List Nat} {st : L2.St} {H1 : Hp} {D : Addr} {Qd : Hp → Prop} {J : It} {xs : List V} {G : Hp → Prop} (w : Walk J xs.length G (YAt xs)) {j : Nat} (yss : List (List V)) (hD : H1 D = none) (hn : xs.length ≤ 50000) (hw : ∀ x, wipe ((wipe st vs).set j (some x)) vs = wipe st vs)
    (hG : ∀ H', Same H1 H' → G H') (hj : ∀ x, ((wipe st vs).set j (some x))[j]? = some (some x)) (hr : ∀ (i : Nat) x, xs[i]? = some x → ∃ p ys, x = .ref p ∧ yss[i]? = some ys ∧ (SqL K H1 p ys ∨ SqT K H1 p ys))
    (hd : ∀ (H' : Hp) (ps : List Addr), Same H1 H' → H' D = some (.lst (ps.map .ref)) → ps.length = xs.length → (∀ (i : Nat) (p : Addr), ps[i]? = some p → H' p = some (.lst (yss.getD i [])) ∧ H1 p = none ∧ p ≠ D) → Qd H') :
    ∃ W : Nat → Nat → Hp → Prop, (∃ m, W 0 m (upd H1 D (.lst []))) ∧ ∀ i m H, W i m H →
      (J.stop i H ∧ Qd H) ∨ (J.go i H ∧ ∃ Nx : Hp → Prop, (∀ H', Nx H' → ∃ m', m' < m ∧ W (i + 1) m' H') ∧ ∀ x H', J.yld i H x H' → gName j x (wipe st vs) H' fun st2 H2 => wipe st2 vs = wipe st vs ∧ tYes st2 H2 fun b H3 =>
        if b = true then tCB (rListK K) (tCons (tVar j) tNil) st2 H3 fun y H4 => ∃ acc, H4 D = some (.lst acc) ∧ acc.length < sizeLine ∧ Nx (upd H4 D (.lst (acc ++ [y]))) else Nx H3) := by
  refine lcO w (fun i => .lst (yss.getD i [])) hD hn hw hG (fun i x H' H'' hi s y => ?_) (fun H' ps s d l h => hd H' ps s d l fun i p e => ⟨(h i p e).2.1, (h i p e).2.2, (h i p e).1⟩)
  obtain ⟨e1, e2⟩ := y
  subst e1
  refine ⟨Same.refl _, fun H3 s3 Qk hQ => ?_⟩
  obtain ⟨p, ys, ex, ey, hq⟩ := hr i x e2
  subst ex
  refine ⟨_, hj _, p, ys, rfl, Same.sq (s.trans s3) hq, fun l nl => ?_⟩
  refine hQ _ l (same_new nl) nl ?_
  rw [upd_same, getD_of ey]
end Tw

namespace Tw
open PySem PySem.Spec PyProof.Rows L2
/-! ### the verdict on data -/
def dueT (b many start n e g : Nat) (r o w : PyData) : Bool :=
  wordsOk (okT b) r && (wordsOk (okW b) o && (wordsOk (okW b) w && (decide ((gapsOf r).length = n ∧ (wordsOf o).length = n ∧ (wordsOf w).length = n) && (!decide (wordsOf o = wordsOf w) && (decide ((gapsOf r).countP Option.isNone = g) &&
    (right b many start (wordsOf o) && (right b many start (wordsOf w) && (decide (unl n (gapsOf r) (wordsOf o) ≤ e) && decide (unl n (gapsOf r) (wordsOf w) ≤ e)))))))))
def due (b many start n e g : Nat) : PyData → Bool
  | .tuple [r, o, w] => dueT b many start n e g r o w
  | _ => false
theorem due_iff {b many start n e g : Nat} {r o w : PyData} : dueT b many start n e g r o w = true ↔ wordsOk (okT b) r = true ∧ wordsOk (okW b) o = true ∧ wordsOk (okW b) w = true ∧ ((gapsOf r).length = n ∧ (wordsOf o).length = n ∧ (wordsOf w).length = n) ∧ ¬ wordsOf o = wordsOf w ∧ (gapsOf r).countP Option.isNone = g ∧
    right b many start (wordsOf o) = true ∧ right b many start (wordsOf w) = true ∧ unl n (gapsOf r) (wordsOf o) ≤ e ∧ unl n (gapsOf r) (wordsOf w) ≤ e := by
  unfold dueT
  simp only [Bool.and_eq_true, decide_eq_true_eq, Bool.not_eq_true', decide_eq_false_iff_not]
theorem due_no {b many start n e g : Nat} {r o w : PyData} (h : dueT b many start n e g r o w = true → False) : dueT b many start n e g r o w = false := by
  cases e : dueT b many start n e g r o w with
  | false => rfl
  | true => exact (h e).elim
theorem len_gw (d : PyData) : (gapsOf d).length = (wordsOf d).length := by
  unfold gapsOf wordsOf
  rw [List.length_map, List.length_map]
theorem many_of {p : PyData → Bool} {d : PyData} {lo hi : Int} (o : wordsOk p d = true) : manyOk lo hi d = decide (lo ≤ ((wordsOf d).length : Int) ∧ ((wordsOf d).length : Int) ≤ hi) := by
  unfold wordsOk at o
  unfold manyOk wordsOf
  cases e : itemsD d with
  | none => rw [e] at o; cases o
  | some ds =>
    rw [Option.getD_some, List.length_map]
theorem many_n {p : PyData → Bool} {d : PyData} {b many n : Nat} (o : wordsOk p d = true) (h1 : many < n) (h2 : n ≤ nn b) (hl : (wordsOf d).length = n) : manyOk ((many : Int) + 1) (((2 ^ b : Nat) : Int) - 1) d = true := by
  rw [many_of o, hl]
  have := Nat.two_pow_pos b
  unfold nn at h2
  exact decide_eq_true (by constructor <;> omega)
theorem tkF {X : Cx} : Takes X (fun _ _ _ _ => False) := fun _ _ h => by
  obtain ⟨_, _, _, _, _, _, _, _, _, _, _, _, _, _, _, _, h⟩ := h
  exact h.elim
theorem gN_gV (gs : List (Option Nat)) : gs.map gN = (gs.map fun o => o.map fun (n : Nat) => (n : Int)).map gV := by
  rw [List.map_map]
  refine List.map_congr_left fun o _ => ?_
  cases o <;> rfl
theorem count_gN (gs : List (Option Nat)) : (gs.map fun o => o.map fun (n : Nat) => (n : Int)).countP (·.isNone) = gs.countP Option.isNone := by
  rw [List.countP_map]
  congr 1
  funext o
  cases o <;> rfl
theorem Cal.weaken {P : Program} {w : World} {K : PySem.W.Frag} {mg : Str → Option Value} {base : Heap} {cx : CXT} {k : Nat} {x : Str} {ps : List Str} {sp sp' : Sp} (c : Cal P w K mg base cx k x ps sp) (h : ∀ vs H Q E, sp' vs H Q E → sp vs H Q E) : Cal P w K mg base cx k x ps sp' := by
  obtain ⟨f, fd, F, r⟩ := c.ex
  exact ⟨⟨f, fd, ⟨fun vs H Q E z => F.len vs H Q E (h _ _ _ _ z), fun A outer s H args us vs Q E a b c d z => F.run A outer s H args us vs Q E a b c d (h _ _ _ _ z)⟩, r⟩⟩
def sp_twinsW (K : PySem.W.Frag) : Sp := fun vs H Q _ => ∃ (b : Nat) (c : Addr) (many start n e g : Nat), vs = [.ref c, nV n, nV e, nV g] ∧ Kode b many start ∧ At3 K H c b many start ∧ many < n ∧ n ≤ nn b ∧ e ≤ n ∧ g ≤ n ∧ ∀ x H', Same H H' → Q x H'
theorem twW {K : PySem.W.Frag} : ∀ vs H Q E, sp_twinsW K vs H Q E → sp_twins K vs H Q E := fun vs H Q E ⟨b, c, many, sta, n, e, g, h1, h2, h3, h4, h5, h6, h7, q⟩ =>
  ⟨b, c, many, sta, n, e, g, h1, h2, h3, h4, h5, h6, h7, fun _ H' s => q _ H' s, fun _ H' a r o w s _ _ _ _ _ _ _ _ _ _ _ => q _ H' s⟩
theorem Dp.tuple_or {K : PySem.W.Frag} {H : Hp} {v : V} {d : PyData} (h : Dp K H v d) : (∃ a xs ds, d = .tuple ds ∧ v = .ref a ∧ SqT K H a xs ∧ DpAll K H xs ds) ∨ ∃ kd, Pl K H v kd ∧ kd ≠ .tup ∧ ∀ b many start n e g, due b many start n e g d = false := by
  cases h with
  | non => exact .inr ⟨_, .non, by decide, fun _ _ _ _ _ _ => rfl⟩
  | bl b => exact .inr ⟨_, .bl b, by decide, fun _ _ _ _ _ _ => rfl⟩
  | int i => exact .inr ⟨_, .int i, by decide, fun _ _ _ _ _ _ => rfl⟩
  | str x => exact .inr ⟨_, .str x, by decide, fun _ _ _ _ _ _ => rfl⟩
  | lst h t => exact .inr ⟨_, .lst h, by decide, fun _ _ _ _ _ _ => rfl⟩
  | tup h t => exact .inl ⟨_, _, _, rfl, rfl, h, t⟩
theorem DpAll.three_or {K : PySem.W.Frag} {H : Hp} : ∀ {xs : List V} {ds : List PyData}, DpAll K H xs ds → (∃ x y z r o w, xs = [x, y, z] ∧ ds = [r, o, w] ∧ Dp K H x r ∧ Dp K H y o ∧ Dp K H z w) ∨ (xs.length ≠ 3 ∧ ∀ b many start n e g, due b many start n e g (.tuple ds) = false)
  | _, _, .nil => .inr ⟨by decide, fun _ _ _ _ _ _ => rfl⟩
  | _, _, .cons _ .nil => .inr ⟨by show 1 ≠ 3; decide, fun _ _ _ _ _ _ => rfl⟩
  | _, _, .cons _ (.cons _ .nil) => .inr ⟨by show 2 ≠ 3; decide, fun _ _ _ _ _ _ => rfl⟩
  | _, _, .cons h1 (.cons h2 (.cons h3 .nil)) => .inl ⟨_, _, _, _, _, _, rfl, rfl, h1, h2, h3⟩
  | _, _, .cons _ (.cons _ (.cons _ (.cons _ _))) => .inr ⟨by show _ + 4 ≠ 3; omega, fun _ _ _ _ _ _ => rfl⟩
theorem kit_tuple_no {K : PySem.W.Frag} {k : Knd} (h : k ≠ .tup) : PySem.W.kitOne K (.type k.nm) (.type "tuple") = some false := by
  rw [kit_tuple, decide_eq_false h]
theorem ps3 {ps : List Addr} (h : ps.length = 3) : ∃ p q r, ps = [p, q, r] := by
  match ps, h with
  | [p, q, r], _ => exact ⟨p, q, r, rfl⟩
def sp_is_twins (K : PySem.W.Frag) : Sp := fun vs H Q _ => ∃ (b : Nat) (c : Addr) (many start n e g : Nat) (v : V) (d : PyData), vs = [.ref c, nV n, nV e, nV g, v] ∧ Kode b many start ∧ At3 K H c b many start ∧ many < n ∧ n ≤ nn b ∧ e ≤ n ∧ g ≤ n ∧ Dp K H v d ∧
  (∀ r o w, d = .tuple [r, o, w] → right b many start (wordsOf o) = true ∨ itemsD w ≠ none) ∧ ∀ H', Same H H' → Q (.bl (due b many start n e g d)) H'
section
variable {P : Program} {w : World} {K : PySem.W.Frag} {mg : Str → Option Value} {base : Heap} {k : Nat} {C fI : Addr}
/-! is_twins: slots 0 code, 1 length, 2 lies, 3 gaps, 4 answer, 5 both, 6 row, 7 one, 8 other, 9 some -/
abbrev s_is_twins : Stmt := topS 38
abbrev n_is_twins : List Str := ["code", "length", "lies", "gaps", "answer", "both", "row", "one", "other", "some"]
theorem sc_is_twins : FnScope n_is_twins ["code", "length", "lies", "gaps", "answer"] (defScope s_is_twins) := ⟨rfl, rfl, rfl, by decide +kernel, rfl, by decide +kernel, by decide +kernel⟩
theorem ok_is_twins (D : Df K mg "is_twins" s_is_twins) (B : Blt mg) (NT : NwT K mg C fI) (c_twins : Cal P w K mg base CX0 k "twins" ["code", "length", "lies", "gaps"] (sp_twins K)) (c_check_torn : Cal P w K mg base (L2.CX P w) k "check_torn" ["code", "row"] (sp_check_torn K C))
    (c_is_right : Cal P w K mg base (L2.CX P w) k "is_right" ["code", "row"] (sp_is_right K C)) (c_unlike_in : Cal P w K mg base CX0 k "unlike_in" ["row", "other"] (sp_unlike_in K)) : CalF P w K mg base CX0 (k + 1) "is_twins" ["code", "length", "lies", "gaps", "answer"] (sp_is_twins K) s_is_twins := by
  have hNW := NT.hm
  have c_twins := c_twins.weaken twW
  refine D.calF sc_is_twins (fun vs H Q E h => ?_) (fun f cdv A outer s H vs Q E hr h => ?_)
  · obtain ⟨b, c, many, start, n, e, g, v, d, rfl, h⟩ := h
    rfl
  · obtain ⟨b, c, many, start, n, e, g, v, d, rfl, hk, hc, hn1, hn2, he, hg, hd, h3, q⟩ := h
    refine ⟨_, (pss_cons (ps_expr (pe_cal c_twins hr pass0 (pa_cons (pv 0) (pa_cons (pv 1) (pa_cons (pv 2) (pa_cons (pv 3) pa_nil))))))
      (pss_cons (ps_if (PW.pt (pw_or (pt_not (pt_val (pe_callB call_isi (by rfl) B.isinstance_ (by decide +kernel) (pa_cons (pv 4) (pa_cons (pe_bltn (v := .ty "tuple") (by rfl) B.tuple_ (by decide +kernel) rfl) pa_nil))))) (pw_or1 (pt_cmpR op_ne (pe_callB call_len (by rfl) B.len_ (by decide +kernel) (pa_cons (pv 4) pa_nil)) pe_int (nomark _)))))
        (pss_one (ps_ret pe_bl))
        pss_nil)
      (pss_cons (ps_try_only rfl rfl ⟨by rfl, by decide, .inl hNW⟩ tkF
        (fun W pn xe tk _ => (pss_cons (ps_expr (pe_calS c_check_torn hr tk (pa_cons (pv 0) (pa_cons (pe_ix (r := rIxT K) ix_tup (pv 4) pe_int (fun _ _ => rfl)) pa_nil))))
      (pss_one (ps_set (i := 5) sc_is_twins.nd rfl (Or.inl rfl) (pe_and (pe_calS c_is_right hr tk (pa_cons (pv 0) (pa_cons (pe_ix (r := rIxT K) ix_tup (pv 4) pe_int (fun _ _ => rfl)) pa_nil))) (pe_one (pe_calS c_is_right hr tk (pa_cons (pv 0) (pa_cons (pe_ix (r := rIxT K) ix_tup (pv 4) pe_int (fun _ _ => rfl)) pa_nil)))))))))
        (fun a oe cls d pn _ _ => (pss_one (ps_ret pe_bl))))
      (pss_cons (ps_asg (pe_lc (own := [("some", 9)]) (g := (gName 9)) (tt := tYes) (te := (tCB (rListK K) (tCons (tVar 9) tNil))) rfl sc_is_twins.nd (pi_tup (pv 4)) (blkOk_by (N := n_is_twins) (sc := defScope s_is_twins) (by decide +kernel)) (fun _ _ _ _ _ => by exact (pg_name (i := 9) sc_is_twins.nd rfl (Or.inl rfl))) (fun _ _ _ _ _ => pts_nil) (fun _ _ _ _ _ => by exact (pe_callTy call_list_of (by rfl) B.list_ (by decide +kernel) (pa_cons (pv 9) pa_nil)))) (pg_lst (n := 3) rfl (pgs_cons (pg_name (i := 6) sc_is_twins.nd rfl (Or.inl rfl)) (pgs_cons (pg_name (i := 7) sc_is_twins.nd rfl (Or.inl rfl)) (pgs_cons (pg_name (i := 8) sc_is_twins.nd rfl (Or.inl rfl)) pgs_nil)))))
      (pss_cons (ps_if (PW.pt (pw_or (pt_not (pt_val (pv 5))) (pw_or (pt_cmpR (op_neD hr.units) (pe_lc (own := [("some", 9)]) (g := (gName 9)) (tt := tYes) (te := (tCB (rLenK K) (tCons (tVar 9) tNil))) rfl sc_is_twins.nd (pi_tup (pe_tup (pa_cons (pv 6) (pa_cons (pv 7) (pa_cons (pv 8) pa_nil))))) (blkOk_by (N := n_is_twins) (sc := defScope s_is_twins) (by decide +kernel)) (fun _ _ _ _ _ => by exact (pg_name (i := 9) sc_is_twins.nd rfl (Or.inl rfl))) (fun _ _ _ _ _ => pts_nil) (fun _ _ _ _ _ => by exact (pe_callB call_len (by rfl) B.len_ (by decide +kernel) (pa_cons (pv 9) pa_nil)))) (pe_op op_rep (pe_lst (pa_cons (pv 1) pa_nil)) pe_int) (nomark _)) (pw_or1 (pt_cmpR (op_eqD hr.units) (pv 7) (pv 8) (nomark _))))))
        (pss_one (ps_ret pe_bl))
        pss_nil)
      (pss_one (ps_ret (pe_and (pe_cmpR op_eq (pe_bm PySem.F.plainAttrs_list PySem.F.slot_list_count PySem.F.type_list_count mt_countN (pv 6) (pa_cons pe_non pa_nil)) (pv 3) (nomark _)) (pe_and (pe_cmpR op_le (pe_cal c_unlike_in hr pass0 (pa_cons (pv 6) (pa_cons (pv 7) pa_nil))) (pv 2) (nomark _)) (pe_one (pe_cmpR op_le (pe_cal c_unlike_in hr pass0 (pa_cons (pv 6) (pa_cons (pv 8) pa_nil))) (pv 2) (nomark _)))))))))))), ?_⟩
    refine ⟨_, rfl, _, rfl, _, rfl, _, rfl, b, c, many, start, n, e, g, rfl, hk, hc, hn1, hn2, he, hg, fun _ H1 s1 => ?_⟩
    have hnn := nn_le hk.bt
    rcases Dp.tuple_or hd with ⟨a, xs, ds, rfl, rfl, hs, ha⟩ | ⟨kd, hp, hne, hdue⟩
    rotate_left
    · refine ⟨_, rfl, v, .ty "tuple", _, _, _, rfl, .ty _, (hp.same s1).ty, kit_tuple_no hne, _, rfl, iteT (iteT ?_)⟩
      rw [hdue] at q
      exact q H1 s1
    have hs1 := Same.tup s1 hs
    refine ⟨_, rfl, _, .ty "tuple", _, _, _, rfl, .ty _, (Pl.tup hs1).ty, kit_tuple _, _, rfl, iteF ?_⟩
    refine ⟨_, rfl, _, xs.length, rfl, .inr ⟨_, hs1, rfl⟩, rfl, _, rfl, ?_⟩
    rcases DpAll.three_or ha with ⟨x, y, z, r, o, w', rfl, rfl, hx, hy, hz⟩ | ⟨hne, hdue⟩
    rotate_left
    · refine ite2 (fun cc => ?_) (fun cc => ?_)
      · rw [hdue] at q
        exact q H1 s1
      · refine absurd ?_ cc
        have : decide (V.int (xs.length : Int) = V.int 3) = false := decide_eq_false fun z => by
          have := V.int.inj z
          omega
        rw [this]
        rfl
    refine iteF ?_
    have hc1 := Same.tup s1 hc
    have no : dueT b many start n e g r o w' = false → ∀ H', Same H H' → Q (.bl false) H' := fun z H' s' => by
      have := q H' s'
      rw [show due b many start n e g (.tuple [r, o, w']) = dueT b many start n e g r o w' from rfl, z] at this
      exact this
    have noE : dueT b many start n e g r o w' = false → ∀ (H' : Hp), Same H H' → ∃ bb, PySem.W.exmOne K (.ref C) (.ref C) = some bb ∧ (bb = true → ∀ a, H' a = none → Q (.bl false) H') ∧ (bb = false → False) := fun z H' s' => ⟨true, NT.te, fun _ _ _ => no z H' s', fun z => by cases z⟩
    -- try
    refine ⟨_, rfl, _, rfl, a, _, 0, x, rfl, rfl, hs1, rfl, b, c, many, start, x, r, rfl, hk, hc1, Dp.same s1 _ _ hx, fun m1 H2 s2 => ?_, fun m1 dd H2 s2 => noE (due_no fun z => ?_) H2 (s1.trans s2)⟩
    rotate_left
    · obtain ⟨z1, _, _, ⟨z2, _, _⟩, _⟩ := due_iff.mp z
      unfold tornOk at m1
      rw [z1, many_n z1 hn1 hn2 ((len_gw r).symm.trans z2)] at m1
      cases m1
    have s12 := s1.trans s2
    have hs2 := Same.tup s12 hs
    have hc2 := Same.tup s12 hc
    have m1' : wordsOk (okT b) r = true := (Bool.and_eq_true_iff.mp m1).2
    refine ⟨_, rfl, _, rfl, a, _, 1, y, rfl, rfl, hs2, rfl, b, c, many, start, y, o, rfl, hk, hc2, Dp.same s12 _ _ hy, fun m2 H3 s3 => ?_, fun m2 dd H2 s2 => noE (due_no fun z => ?_) H2 (s12.trans s2)⟩
    rotate_left
    · obtain ⟨_, z1, _, ⟨_, z2, _⟩, _⟩ := due_iff.mp z
      unfold rowOk at m2
      rw [z1, many_n z1 hn1 hn2 z2] at m2
      cases m2
    have s13 := s12.trans s3
    have hs3 := Same.tup s13 hs
    have hc3 := Same.tup s13 hc
    have m2' : wordsOk (okW b) o = true := (Bool.and_eq_true_iff.mp m2).2
    obtain ⟨rA, rfl, rS⟩ := Dp.torn hx m1'
    obtain ⟨oA, rfl, oS, oW⟩ := Dp.row hy m2'
    have hrT := len_gw r
    refine ⟨_, rfl, ite2 (fun t => ?_) (fun t => ?_)⟩
    · refine ⟨_, rfl, _, rfl, a, _, 2, z, rfl, rfl, hs3, rfl, b, c, many, start, z, w', rfl, hk, hc3, Dp.same s13 _ _ hz, fun m3 H4 s4 => ?_, fun m3 dd H2 s2 => noE (due_no fun z => ?_) H2 (s13.trans s2)⟩
      rotate_left
      · obtain ⟨_, _, z1, ⟨_, _, z2⟩, _⟩ := due_iff.mp z
        unfold rowOk at m3
        rw [z1, many_n z1 hn1 hn2 z2] at m3
        cases m3
      have s14 := s13.trans s4
      have m3' : wordsOk (okW b) w' = true := (Bool.and_eq_true_iff.mp m3).2
      obtain ⟨wA, rfl, wS, wW⟩ := Dp.row hz m3'
      have rS2 := Same.sq s14 rS
      have oS2 := Same.sq s14 oS
      refine ⟨_, rfl, a, rfl, ⟨_, Same.tup s14 hs⟩, fun D hD => lcRows (K := K) (walk_tup (K := K) (a := a) (xs := [.ref rA, .ref oA, .ref wA])) [(gapsOf r).map gN, wsV (wordsOf o), wsV (wordsOf w')] hD (by show 3 ≤ _; decide) (fun _ => rfl) (fun H' s' => Same.tup s' (Same.tup s14 hs)) (fun _ => rfl) (fun i x hi => ?_) (fun H' ps sD hD' hl hp => ?_)⟩
      · match i, hi with
        | 0, hi => exact ⟨rA, _, (Option.some.inj hi).symm, rfl, rS2⟩
        | 1, hi => exact ⟨oA, _, (Option.some.inj hi).symm, rfl, oS2⟩
        | 2, hi => exact ⟨wA, _, (Option.some.inj hi).symm, rfl, Same.sq s14 wS⟩
      obtain ⟨p0, p1, p2, rfl⟩ := ps3 hl
      obtain ⟨g0, f0⟩ := hp 0 p0 rfl
      obtain ⟨g1, f1⟩ := hp 1 p1 rfl
      obtain ⟨g2, f2⟩ := hp 2 p2 rfl
      refine ⟨D, _, rfl, sq_l hD', rfl, _, _, rfl, _, _, rfl, _, _, rfl, rfl, ?_⟩
      have sF := s14.trans sD
      cases t2 : right b many start (wordsOf w') with
      | false =>
        refine ⟨_, rfl, _, rfl, iteT (iteT (no (due_no fun z => ?_) H' sF))⟩
        obtain ⟨_, _, _, _, _, _, _, z8, _⟩ := due_iff.mp z
        rw [t2] at z8
        cases z8
      | true =>
        refine ⟨_, rfl, _, rfl, iteF ?_⟩
        -- the lengths
        refine ⟨_, rfl, _, rfl, _, rfl, by show 3 ≤ _; decide, fun T nT => ?_⟩
        have sT : Same H' (upd H' T (.tup [.ref p0, .ref p1, .ref p2])) := same_new nT
        refine ⟨T, rfl, ⟨_, sq_t upd_same⟩, fun D2 hD2 => lcN (walk_tup (K := K) (a := T) (xs := [.ref p0, .ref p1, .ref p2])) (fun _ => true) (fun i => nV ([(gapsOf r).length, (wordsOf o).length, (wordsOf w').length].getD i 0)) hD2 (by show 3 ≤ _; decide) (fun _ => rfl) (fun H'' s' => sq_t (s' _ _ upd_same)) (fun i x H2 H2' hi s' yy => ?_) (fun H5 s5 hD5 => ?_)⟩
        · obtain ⟨e1, e2⟩ := yy
          subst e1
          refine ⟨Same.refl _, fun R hR => yes_all hR, fun _ H3' s6 Qk hQ => ?_⟩
          have s7 := (sT.trans s').trans s6
          match i, e2 with
          | 0, e2 =>
            cases e2
            exact ⟨_, rfl, _, _, rfl, .inl ⟨_, sq_l (s7 _ _ g0), (List.length_map ..).symm⟩, hQ _ (Same.refl _)⟩
          | 1, e2 =>
            cases e2
            exact ⟨_, rfl, _, _, rfl, .inl ⟨_, sq_l (s7 _ _ g1), (wsV_len _).symm⟩, hQ _ (Same.refl _)⟩
          | 2, e2 =>
            cases e2
            exact ⟨_, rfl, _, _, rfl, .inl ⟨_, sq_l (s7 _ _ g2), (wsV_len _).symm⟩, hQ _ (Same.refl _)⟩
        have s5' := sT.trans s5
        refine ⟨_, rfl, line_ok (by show 1 ≤ _; decide), fun zz nz => ?_⟩
        have sz : Same H5 (upd H5 zz (.lst [nV n])) := same_new nz
        refine ⟨zz, _, _, rfl, rfl, upd_same, by decide, by decide, line_ok (by show 1 * 3 ≤ _; decide), fun oo no2 => ?_⟩
        have so := sz.trans (same_new (o := .lst (wsV [n, n, n])) no2)
        have hD6 : H5 D2 = some (.lst (wsV [(gapsOf r).length, (wordsOf o).length, (wordsOf w').length])) := hD5
        refine ⟨_, _, Dp.ws (l := [(gapsOf r).length, (wordsOf o).length, (wordsOf w').length]) (sq_l (so _ _ hD6)), Dp.ws (l := [n, n, n]) (sq_l upd_same), sh_ws _, sh_ws _, _, rfl, ?_⟩
        rw [eqv_ws]
        have s15 := sF.trans (s5'.trans so)
        refine ite2 (fun t3 => ?_) (fun t3 => ?_)
        · refine no (due_no fun z => ?_) _ s15
          obtain ⟨_, _, _, ⟨z1, z2, z3⟩, _⟩ := due_iff.mp z
          rw [z1, z2, z3, decide_eq_true rfl] at t3
          cases t3
        · have t3' : [(gapsOf r).length, (wordsOf o).length, (wordsOf w').length] = [n, n, n] := by
            cases e3 : decide ([(gapsOf r).length, (wordsOf o).length, (wordsOf w').length] = [n, n, n]) with
            | true => exact of_decide_eq_true e3
            | false =>
              rw [e3] at t3
              exact absurd rfl t3
          injection t3' with l1 t3'
          injection t3' with l2 t3'
          injection t3' with l3 t3'
          have s6 := s5'.trans so
          refine ⟨_, rfl, _, rfl, _, _, Dp.ws (sq_l (s6 _ _ g1)), Dp.ws (sq_l (s6 _ _ g2)), sh_ws _, sh_ws _, _, rfl, ?_⟩
          rw [eqv_ws]
          refine ite2 (fun t4 => ?_) (fun t4 => ?_)
          · refine no (due_no fun z => ?_) _ s15
            obtain ⟨_, _, _, _, z5, _⟩ := due_iff.mp z
            exact z5 (of_decide_eq_true t4)
          · have t4' : ¬ wordsOf o = wordsOf w' := fun z => t4 (decide_eq_true z)
            -- the counts
            have g0' : (upd (upd H5 zz (.lst [nV n])) oo (.lst (wsV [n, n, n]))) p0 = some (.lst ((gapsOf r).map gN)) := s6 _ _ g0
            have g1' : (upd (upd H5 zz (.lst [nV n])) oo (.lst (wsV [n, n, n]))) p1 = some (.lst (wsV (wordsOf o))) := s6 _ _ g1
            have g2' : (upd (upd H5 zz (.lst [nV n])) oo (.lst (wsV [n, n, n]))) p2 = some (.lst (wsV (wordsOf w'))) := s6 _ _ g2
            refine ⟨.ref p0, rfl, .inl ⟨rfl, _, sq_l g0'⟩, p0, _, rfl, rfl, (gN_gV (gapsOf r)) ▸ sq_l g0', ?_⟩
            dsimp only
            rw [count_gN]
            refine ⟨_, rfl, rfl, _, rfl, ite2 (fun t5 => ?_) (fun t5 => ?_)⟩
            · have t5' : (gapsOf r).countP Option.isNone = g := Int.ofNat.inj (V.int.inj (of_decide_eq_true t5))
              have n1 : (gapsOf r).length = (wordsOf o).length := by omega
              have n2 : (gapsOf r).length = (wordsOf w').length := by omega
              refine ⟨_, rfl, _, rfl, p0, p1, gapsOf r, wordsOf o, rfl, sq_l g0', sq_l g1', n1, by omega, fun H7 s7 => ?_⟩
              rw [l2]
              refine ⟨_, rfl, _, _, rfl, rfl, _, rfl, ite2 (fun t6 => ?_) (fun t6 => ?_)⟩
              · have t6' : unl n (gapsOf r) (wordsOf o) ≤ e := Int.ofNat_le.mp (of_decide_eq_true t6)
                refine ⟨_, rfl, _, rfl, p0, p2, gapsOf r, wordsOf w', rfl, sq_l (s7 _ _ g0'), sq_l (s7 _ _ g2'), n2, by omega, fun H8 s8 => ?_⟩
                rw [l3]
                refine ⟨_, rfl, _, _, rfl, rfl, ?_⟩
                have ed : due b many start n e g (.tuple [r, o, w']) = decide (((unl n (gapsOf r) (wordsOf w') : Nat) : Int) ≤ (e : Int)) := by
                  cases e9 : decide (((unl n (gapsOf r) (wordsOf w') : Nat) : Int) ≤ (e : Int)) with
                  | true => exact due_iff.mpr ⟨m1', m2', m3', ⟨l1, l2, l3⟩, t4', t5', t, t2, t6', Int.ofNat_le.mp (of_decide_eq_true e9)⟩
                  | false =>
                    exact due_no fun z => by
                      obtain ⟨_, _, _, _, _, _, _, _, _, z10⟩ := due_iff.mp z
                      rw [decide_eq_true (Int.ofNat_le.mpr z10)] at e9
                      cases e9
                have := q H8 ((s15.trans s7).trans s8)
                rw [ed] at this
                exact this
              · refine no (due_no fun z => ?_) _ (s15.trans s7)
                obtain ⟨_, _, _, _, _, _, _, _, z9, _⟩ := due_iff.mp z
                exact t6 (decide_eq_true (Int.ofNat_le.mpr z9))
            · refine no (due_no fun z => ?_) _ s15
              obtain ⟨_, _, _, _, _, z6, _⟩ := due_iff.mp z
              exact t5 (decide_eq_true (by rw [z6]))
    · have h3' := (h3 r o w' rfl).resolve_left t
      have t' : right b many start (wordsOf o) = false := Bool.eq_false_iff.mpr t
      have nd : dueT b many start n e g r o w' = false := due_no fun z => by
        obtain ⟨_, _, _, _, _, _, z7, _⟩ := due_iff.mp z
        rw [t'] at z7
        cases z7
      rcases Dp.items hz with ⟨wds, wA, wxs, ei, rfl, wS, wa, _⟩ | ⟨ei, _⟩
      rotate_left
      · exact absurd ei h3'
      have rS2 := Same.sq s13 rS
      have oS2 := Same.sq s13 oS
      refine ⟨_, rfl, a, rfl, ⟨_, Same.tup s13 hs⟩, fun D hD => lcRows (K := K) (walk_tup (K := K) (a := a) (xs := [.ref rA, .ref oA, .ref wA])) [(gapsOf r).map gN, wsV (wordsOf o), wxs] hD (by show 3 ≤ _; decide) (fun _ => rfl) (fun H' s' => Same.tup s' (Same.tup s13 hs)) (fun _ => rfl) (fun i x hi => ?_) (fun H' ps sD hD' hl hp => ?_)⟩
      · match i, hi with
        | 0, hi => exact ⟨rA, _, (Option.some.inj hi).symm, rfl, rS2⟩
        | 1, hi => exact ⟨oA, _, (Option.some.inj hi).symm, rfl, oS2⟩
        | 2, hi => exact ⟨wA, _, (Option.some.inj hi).symm, rfl, Same.sq s13 wS⟩
      obtain ⟨p0, p1, p2, rfl⟩ := ps3 hl
      obtain ⟨g0, f0⟩ := hp 0 p0 rfl
      obtain ⟨g1, f1⟩ := hp 1 p1 rfl
      obtain ⟨g2, f2⟩ := hp 2 p2 rfl
      refine ⟨D, _, rfl, sq_l hD', rfl, _, _, rfl, _, _, rfl, _, _, rfl, rfl, ?_⟩
      have sF := s13.trans sD
      exact ⟨_, rfl, _, rfl, iteT (iteT (no nd H' sF))⟩
end
end Tw

namespace Tw
open PySem PySem.Spec PyProof.Rows L2
theorem Ws_set {b : Nat} {l : List Nat} {i x : Nat} (h : Ws b l) (hx : x < 2 ^ b) : Ws b (l.set i x) := fun w hw => by
  rcases List.mem_or_eq_of_mem_set hw with hw | rfl
  · exact h w hw
  · exact hx
theorem sum_nat (i j : Nat) : (i : Int) + (j : Int) = ((i + j : Nat) : Int) := (Int.natCast_add i j).symm
def sp_times_poly (K : PySem.W.Frag) : Sp := fun vs H Q _ => ∃ (b : Nat) (a o t : Addr) (l m : List Nat) (n : Nat), vs = [.ref a, .ref o, .ref t, nV n] ∧ Bt b ∧ Fld b K H a ∧ SqL K H o (wsV l) ∧ SqL K H t (wsV m) ∧ Ws b l ∧ Ws b m ∧ n ≤ 1000 ∧
  ∀ H' p r, Same H H' → H p = none → H' p = some (.lst (wsV r)) → r.length = n → Ws b r → Q (.ref p) H'
section
variable {P : Program} {w : World} {K : PySem.W.Frag} {mg : Str → Option Value} {base : Heap} {k : Nat}
/-! times_poly: slots 0 field, 1 one, 2 other, 3 most, 4 found, 5 place, 6 word, 7 index, 8 factor; cells  -/
abbrev s_times_poly : Stmt := topS 28
abbrev n_times_poly : List Str := ["field", "one", "other", "most", "found", "place", "word", "index", "factor"]
theorem sc_times_poly : FnScope n_times_poly ["field", "one", "other", "most"] (defScope s_times_poly) := ⟨rfl, rfl, rfl, by decide +kernel, rfl, by decide +kernel, by decide +kernel⟩
theorem ok_times_poly (D : Df K mg "times_poly" s_times_poly) (B : Blt mg) (c_multiplied : Cal P w K mg base CX0 k "multiplied" ["field", "one", "other"] (sp_multiplied K)) : Cal P w K mg base CX0 (k + 1) "times_poly" ["field", "one", "other", "most"] (sp_times_poly K) := by
  refine D.cal sc_times_poly (fun _ _ _ _ _ _ us hl => match us, hl with | [_, _, _, _], _ => rfl) (fun vs H Q E h => ?_) (fun f cdv A outer s H vs Q E hr h => ?_)
  · obtain ⟨b, a, o, t, l, m, n, rfl, h⟩ := h
    rfl
  · obtain ⟨b, a, o, t, l, m, n, rfl, hb, hF, ho, ht, lw, mw, hn, q⟩ := h
    refine ⟨_, (pss_cons (ps_set (i := 4) sc_times_poly.nd rfl (Or.inl rfl) (pe_op op_rep (pe_lst (pa_cons pe_int pa_nil)) (pv 3)))
      (pss_cons (ps_for PassesOwn.never rfl (pi_enum (by rfl) B.enumerate_ (pa_cons (pv 1) pa_nil)) (pg_tup (by rfl) (pgs_cons (pg_name (i := 5) sc_times_poly.nd rfl (Or.inl rfl)) (pgs_cons (pg_name (i := 6) sc_times_poly.nd rfl (Or.inl rfl)) pgs_nil)))
        (pss_one (ps_for PassesOwn.never rfl (pi_enum (by rfl) B.enumerate_ (pa_cons (pv 2) pa_nil)) (pg_tup (by rfl) (pgs_cons (pg_name (i := 7) sc_times_poly.nd rfl (Or.inl rfl)) (pgs_cons (pg_name (i := 8) sc_times_poly.nd rfl (Or.inl rfl)) pgs_nil)))
        (pss_one (ps_if (pt_cmpR op_lt (pe_op op_add (pv 5) (pv 7)) (pv 3) (nomark _))
        (pss_one (ps_asg (pe_op op_xor (pe_ix ix_list (pv 4) (pe_op op_add (pv 5) (pv 7)) (fun _ _ => rfl)) (pe_cal c_multiplied hr pass0 (pa_cons (pv 0) (pa_cons (pv 6) (pa_cons (pv 8) pa_nil))))) (pg_sub (pv 4) (pe_op op_add (pv 5) (pv 7)) set_list)))
        pss_nil)))))
      (pss_one (ps_ret (pv 4))))), ?_⟩
    refine ⟨line_ok (by decide), fun z nz => ?_⟩
    have sz : Same H (upd H z (.lst [.int 0])) := same_new nz
    refine ⟨_, rfl, z, _, _, rfl, rfl, upd_same, by omega, by omega, line_ok (by show 1 * _ ≤ _; rw [Int.toNat_natCast]; omega), fun p np => ?_⟩
    rw [rep_wsV]
    have sp := sz.trans (same_new (o := .lst (wsV (List.replicate n 0))) np)
    have npH : H p = none := sz.free np
    refine ⟨_, rfl, o, wsV l, rfl, sp.seq ho, for_it (walk_enum (K := K) (a := o) (xs := wsV l)) (fun i st H' => ∃ r v5 v6 v7 v8, st = [some (.ref a), some (.ref o), some (.ref t), some (nV n), some (.ref p), v5, v6, v7, v8] ∧ Same H H' ∧ H' p = some (.lst (wsV r)) ∧ r.length = n ∧ Ws b r)
      ⟨_, none, none, none, none, rfl, sp, upd_same, List.length_replicate, Ws_zeros⟩ (fun i st H' _ hp => ?_) ?_ ?_⟩
    · obtain ⟨_, _, _, _, _, _, s2, _⟩ := hp
      exact s2.seq ho
    · rintro i x st H' H3 hi ⟨r, v5, v6, v7, v8, rfl, s2, hp, hr1, hr2⟩ ⟨T, x1, x2, rfl, nT, rfl, e1, e2⟩
      have e1' := Option.some.inj e1
      subst e1'
      obtain ⟨u, hu, rfl⟩ := wsV_inv e2
      have sT : Same H' (upd H' T (.tup [.int (i : Nat), nV u])) := same_new nT
      refine ⟨T, _, rfl, sq_t upd_same, rfl, _, _, rfl, _, _, rfl, rfl, ?_⟩
      have s3 := s2.trans sT
      refine ⟨_, rfl, t, wsV m, rfl, s3.seq ht, for_it (walk_enum (K := K) (a := t) (xs := wsV m)) (fun j st H' => ∃ r v7 v8, st = [some (.ref a), some (.ref o), some (.ref t), some (nV n), some (.ref p), some (nV i), some (nV u), v7, v8] ∧ Same H H' ∧ H' p = some (.lst (wsV r)) ∧ r.length = n ∧ Ws b r)
        ⟨r, v7, v8, rfl, s3, sT _ _ hp, hr1, hr2⟩ (fun i st H' _ hp => ?_) ?_ ?_⟩
      · obtain ⟨_, _, _, _, s2, _⟩ := hp
        exact s2.seq ht
      · rintro j x st H4 H5 hj ⟨r, v7, v8, rfl, s4, hp4, hr1, hr2⟩ ⟨T2, y1, y2, rfl, nT2, rfl, f1, f2⟩
        have f1' := Option.some.inj f1
        subst f1'
        obtain ⟨v, hv, rfl⟩ := wsV_inv f2
        have sT2 : Same H4 (upd H4 T2 (.tup [.int (j : Nat), nV v])) := same_new nT2
        refine ⟨T2, _, rfl, sq_t upd_same, rfl, _, _, rfl, _, _, rfl, rfl, ?_⟩
        have s5 := s4.trans sT2
        have hp5 := sT2 _ _ hp4
        refine ⟨_, rfl, _, rfl, _, _, rfl, rfl, _, rfl, _, _, rfl, rfl, _, rfl, ite2 (fun c => ?_) (fun c => ?_)⟩
        · have c' : (i : Int) + (j : Int) < (n : Int) := of_decide_eq_true c
          obtain ⟨y, hy⟩ : ∃ y, r[i + j]? = some y := ⟨_, List.getElem?_eq_getElem (by omega)⟩
          refine ⟨.ref p, rfl, _, rfl, _, rfl, _, _, rfl, rfl, p, _, _, nV y, rfl, rfl, sq_l hp5, ?_, ?_⟩
          · rw [sum_nat]
            exact atI_nat (wsV_get hy)
          refine ⟨_, rfl, _, rfl, _, rfl, b, a, u, v, rfl, hb, hF.same s5, Ws_get lw hu, Ws_get mw hv, _, _, rfl, rfl, ?_⟩
          dsimp only
          rw [xor_nat]
          refine ⟨.ref p, rfl, _, rfl, _, rfl, _, _, rfl, rfl, p, _, _, i + j, rfl, rfl, hp5, ?_, ?_⟩
          · rw [sum_nat]
            exact ixN_nat (by rw [wsV_len]; omega)
          · refine ⟨r.set (i + j) (y ^^^ mul b u v), _, _, rfl, same_mut s5 npH, ?_, by rw [List.length_set]; exact hr1, Ws_set hr2 (xor_lt (Ws_get hr2 hy) (mul_lt hb _ _))⟩
            rw [upd_same, set_wsV]
        · exact ⟨r, _, _, rfl, s5, hp5, hr1, hr2⟩
      · rintro st H4 ⟨r, v7, v8, rfl, s4, hp4, hr1, hr2⟩
        exact ⟨r, _, _, _, _, rfl, s4, hp4, hr1, hr2⟩
    · rintro st H' ⟨r, v5, v6, v7, v8, rfl, s2, hp, hr1, hr2⟩
      exact ⟨_, rfl, q H' p r s2 npH hp hr1 hr2⟩
end
end Tw

namespace Tw
open PySem PySem.Spec PyProof.Rows L2
theorem sel_get {n : Nat} (v : Nat → Nat) {l : List Nat} (hl : l.length = n) (h : ∀ i, i < n → l[i]? = some (v i)) : sel n (fun _ => true) (fun i => nV (v i)) = wsV l := by
  rw [sel_all]
  refine List.ext_getElem? fun i => ?_
  by_cases hi : i < n
  · rw [List.getElem?_map, List.getElem?_range hi, wsV_get (h i hi)]
    rfl
  · rw [List.getElem?_eq_none (by rw [List.length_map, List.length_range]; omega), List.getElem?_eq_none (by rw [wsV_len]; omega)]
theorem sel_map (f : Nat → Nat) (l : List Nat) : sel l.length (fun _ => true) (fun i => nV (f (l.getD i 0))) = wsV (l.map f) :=
  sel_get (fun i => f (l.getD i 0)) (List.length_map ..) fun i hi => by
    rw [List.getElem?_map, List.getElem?_eq_getElem hi, getD_of (List.getElem?_eq_getElem hi)]
    rfl
theorem sel_zip (f : Nat → Nat → Nat) {l m : List Nat} {n : Nat} (hl : l.length = n) (hm : m.length = n) : sel n (fun _ => true) (fun i => nV (f (l.getD i 0) (m.getD i 0))) = wsV (List.zipWith f l m) :=
  sel_get (fun i => f (l.getD i 0) (m.getD i 0)) (by rw [List.length_zipWith, hl, hm, Nat.min_self]) fun i hi => by
    rw [List.getElem?_zipWith, List.getElem?_eq_getElem (by omega), List.getElem?_eq_getElem (by omega), getD_of (List.getElem?_eq_getElem (by omega)), getD_of (List.getElem?_eq_getElem (by omega))]
theorem max_nat (i j : Nat) : (if (j : Int) > (i : Int) then (j : Int) else (i : Int)) = ((max i j : Nat) : Int) := by
  split <;> omega
def sp_shortest_rule (K : PySem.W.Frag) : Sp := fun vs H Q _ => ∃ (b : Nat) (a s : Addr) (l : List Nat), vs = [.ref a, .ref s] ∧ Bt b ∧ Fld b K H a ∧ SqL K H s (wsV l) ∧ Ws b l ∧ l.length ≤ 100 ∧
  ∀ H' p len sc S, Same H H' → H' p = some (.tup [nV len, .ref sc]) → H' sc = some (.lst (wsV S)) → Ws b S → S.length ≤ 200 → len ≤ l.length → Q (.ref p) H'
section
variable {P : Program} {w : World} {K : PySem.W.Frag} {mg : Str → Option Value} {base : Heap} {k : Nat}
/-! shortest_rule: slots 0 field, 1 some, 2 scheme, 3 older, 4 length, 5 gap, 6 last, 7 place, 8 word, 9 miss, 10 index, 11 factor, 12 moved, 13 wide, 14 older_so, 15 fresh, 16 one, 17 other; cells factor field -/
abbrev s_shortest_rule : Stmt := topS 29
abbrev n_shortest_rule : List Str := ["field", "some", "scheme", "older", "length", "gap", "last", "place", "word", "miss", "index", "factor", "moved", "wide", "older_so", "fresh", "one", "other"]
theorem sc_shortest_rule : FnScope n_shortest_rule ["field", "some"] (defScope s_shortest_rule) := ⟨rfl, rfl, rfl, by decide +kernel, rfl, by decide +kernel, by decide +kernel⟩
theorem ok_shortest_rule (D : Df K mg "shortest_rule" s_shortest_rule) (B : Blt mg) (c_multiplied : Cal P w K mg base CX0 k "multiplied" ["field", "one", "other"] (sp_multiplied K)) (c_inverse_of : Cal P w K mg base CX0 k "inverse_of" ["field", "word"] (sp_inverse_of K)) :
    Cal P w K mg base CX0 (k + 1) "shortest_rule" ["field", "some"] (sp_shortest_rule K) := by
  refine D.cal sc_shortest_rule (fun _ _ _ _ _ _ us hl => match us, hl with | [_, _], _ => rfl) (fun vs H Q E h => ?_) (fun f cdv A outer s H vs Q E hr h => ?_)
  · obtain ⟨b, a, s, l, rfl, h⟩ := h
    rfl
  · obtain ⟨b, a, sm, l, rfl, hb, hF, hs, lw, hll, q⟩ := h
    refine ⟨_, (pss_cons (ps_asg (pe_tup (pa_cons (pe_lst (pa_cons pe_int pa_nil)) (pa_cons (pe_lst (pa_cons pe_int pa_nil)) (pa_cons pe_int (pa_cons pe_int (pa_cons pe_int pa_nil)))))) (pg_tup (by rfl) (pgs_cons (pg_name (i := 2) sc_shortest_rule.nd rfl (Or.inl rfl)) (pgs_cons (pg_name (i := 3) sc_shortest_rule.nd rfl (Or.inl rfl)) (pgs_cons (pg_name (i := 4) sc_shortest_rule.nd rfl (Or.inl rfl)) (pgs_cons (pg_name (i := 5) sc_shortest_rule.nd rfl (Or.inl rfl)) (pgs_cons (pg_name (i := 6) sc_shortest_rule.nd rfl (Or.inl rfl)) pgs_nil)))))))
      (pss_cons (ps_for PassesOwn.never rfl (pi_enum (by rfl) B.enumerate_ (pa_cons (pv 1) pa_nil)) (pg_tup (by rfl) (pgs_cons (pg_name (i := 7) sc_shortest_rule.nd rfl (Or.inl rfl)) (pgs_cons (pg_name (i := 8) sc_shortest_rule.nd rfl (Or.inl rfl)) pgs_nil)))
        (pss_cons (ps_set (i := 9) sc_shortest_rule.nd rfl (Or.inl rfl) (pv 8))
      (pss_cons (ps_for PassesOwn.never rfl (pi_range2 (by rfl) B.range_ (pa_cons pe_int (pa_cons (pe_op op_add (pv 4) pe_int) pa_nil))) (pg_name (i := 10) sc_shortest_rule.nd rfl (Or.inl rfl))
        (pss_one (ps_if (pt_cmpR op_lt (pv 10) (pe_callB call_len (by rfl) B.len_ (by decide +kernel) (pa_cons (pv 2) pa_nil)) (nomark _))
        (pss_one (ps_set (i := 9) sc_shortest_rule.nd rfl (Or.inl rfl) (pe_op op_xor (pv 9) (pe_cal c_multiplied hr pass0 (pa_cons (pv 0) (pa_cons (pe_ix ix_list (pv 2) (pv 10) (fun _ _ => rfl)) (pa_cons (pe_ix ix_list (pv 1) (pe_op op_sub (pv 7) (pv 10)) (fun _ _ => rfl)) pa_nil)))))))
        pss_nil)))
      (pss_cons (ps_if (pt_cmpR op_eq (pv 9) pe_int (nomark _))
        (pss_cons (ps_set (i := 5) sc_shortest_rule.nd rfl (Or.inl rfl) (pe_op op_add (pv 5) pe_int))
      (pss_one ps_continue))
        pss_nil)
      (pss_cons (ps_set (i := 11) sc_shortest_rule.nd rfl (Or.inr rfl) (pe_cal c_multiplied hr pass0 (pa_cons (pv 0) (pa_cons (pv 9) (pa_cons (pe_cal c_inverse_of hr pass0 (pa_cons (pv 0) (pa_cons (pv 6) pa_nil))) pa_nil)))))
      (pss_cons (ps_set (i := 12) sc_shortest_rule.nd rfl (Or.inl rfl) (pe_op op_cat (pe_op op_rep (pe_lst (pa_cons pe_int pa_nil)) (pv 5)) (pe_lc (own := [("one", 16)]) (g := (gName 16)) (tt := tYes) (te := (tCall (sp_multiplied K) [] E0 (tCons (tVar 0) (tCons (tVar 11) (tCons (tVar 16) tNil))))) rfl sc_shortest_rule.nd (pi_list (pv 3)) (blkOk_by (N := n_shortest_rule) (sc := defScope s_shortest_rule) (by decide +kernel)) (fun _ _ _ _ _ => by exact (pg_name (i := 16) sc_shortest_rule.nd rfl (Or.inl rfl))) (fun _ _ _ _ _ => pts_nil) (fun _ _ _ _ _ => by exact (pe_cal c_multiplied hr pass0 (pa_cons (pv 0) (pa_cons (pv 11) (pa_cons (pv 16) pa_nil))))))))
      (pss_cons (ps_set (i := 13) sc_shortest_rule.nd rfl (Or.inl rfl) (pe_callB (call_max2 rfl) (by rfl) B.max_ (by decide +kernel) (pa_cons (pe_callB call_len (by rfl) B.len_ (by decide +kernel) (pa_cons (pv 2) pa_nil)) (pa_cons (pe_callB call_len (by rfl) B.len_ (by decide +kernel) (pa_cons (pv 12) pa_nil)) pa_nil))))
      (pss_cons (ps_par (i := 14) (j := 12) rfl sc_shortest_rule.nd rfl rfl (by decide) rfl rfl (pa_cons (pe_op op_cat (pv 2) (pe_op op_rep (pe_lst (pa_cons pe_int pa_nil)) (pe_op op_sub (pv 13) (pe_callB call_len (by rfl) B.len_ (by decide +kernel) (pa_cons (pv 2) pa_nil))))) (pa_cons (pe_op op_cat (pv 12) (pe_op op_rep (pe_lst (pa_cons pe_int pa_nil)) (pe_op op_sub (pv 13) (pe_callB call_len (by rfl) B.len_ (by decide +kernel) (pa_cons (pv 12) pa_nil))))) pa_nil)) (by rfl))
      (pss_cons (ps_setLc (i := 15) (own := [("one", 16), ("other", 17)]) (g := (gTup K 2 (gCons (gName 16) (gCons (gName 17) gNil)))) (tt := tYes) (te := (tOp rXoI (tVar 16) (tVar 17))) rfl sc_shortest_rule.nd rfl rfl (sw_true rfl rfl rfl (by decide +kernel)) (pi_zip (by rfl) B.zip_ (pa_cons (pv 14) (pa_cons (pv 12) pa_nil))) (blkOk_by (N := n_shortest_rule) (sc := defScope s_shortest_rule) (by decide +kernel)) (fun _ _ _ _ _ => by exact (pg_tup (by rfl) (pgs_cons (pg_name (i := 16) sc_shortest_rule.nd rfl (Or.inl rfl)) (pgs_cons (pg_name (i := 17) sc_shortest_rule.nd rfl (Or.inl rfl)) pgs_nil)))) (fun _ _ _ _ _ => pts_nil) (fun _ _ _ _ _ => by exact (pe_op op_xor (pv 16) (pv 17))))
      (pss_cons (ps_if (pt_cmpR op_le (pe_op op_mul pe_int (pv 4)) (pv 7) (nomark _))
        (pss_one (ps_asg (pe_tup (pa_cons (pv 2) (pa_cons (pe_op op_sub (pe_op op_add (pv 7) pe_int) (pv 4)) (pa_cons pe_int (pa_cons (pv 9) pa_nil))))) (pg_tup (by rfl) (pgs_cons (pg_name (i := 3) sc_shortest_rule.nd rfl (Or.inl rfl)) (pgs_cons (pg_name (i := 4) sc_shortest_rule.nd rfl (Or.inl rfl)) (pgs_cons (pg_name (i := 5) sc_shortest_rule.nd rfl (Or.inl rfl)) (pgs_cons (pg_name (i := 6) sc_shortest_rule.nd rfl (Or.inl rfl)) pgs_nil)))))))
        (pss_one (ps_set (i := 5) sc_shortest_rule.nd rfl (Or.inl rfl) (pe_op op_add (pv 5) pe_int))))
      (pss_one (ps_set (i := 2) sc_shortest_rule.nd rfl (Or.inl rfl) (pv 15)))))))))))))
      (pss_one (ps_ret (pe_tup (pa_cons (pv 4) (pa_cons (pv 2) pa_nil))))))), ?_⟩
    refine ⟨line_ok (by decide), fun z1 nz1 => ?_⟩
    have sz1 : Same H (upd H z1 (.lst [.int 1])) := same_new nz1
    refine ⟨line_ok (by decide), fun z2 nz2 => ?_⟩
    have sz2 := sz1.trans (same_new (o := .lst [.int 1]) nz2)
    refine ⟨by show 5 ≤ _; decide, fun T nT => ?_⟩
    have sT := same_new (o := .tup [.ref z1, .ref z2, .int 0, .int 1, .int 1]) nT
    refine ⟨T, _, rfl, sq_t upd_same, rfl, _, _, rfl, _, _, rfl, _, _, rfl, _, _, rfl, _, _, rfl, rfl, ?_⟩
    have s0 := sz2.trans sT
    refine ⟨_, rfl, sm, wsV l, rfl, s0.seq hs, for_it (walk_enum (K := K) (a := sm) (xs := wsV l)) (fun i st H' => ∃ (sc ol : Addr) (S O : List Nat) (len gap la : Nat) (v7 v8 v9 v10 v11 v12 v13 v14 v15 v16 v17 : Option V), st = [some (.ref a), some (.ref sm), some (.ref sc), some (.ref ol), some (nV len), some (nV gap), some (nV la), v7, v8, v9, v10, v11, v12, v13, v14, v15, v16, v17] ∧
        Same H H' ∧ H' sc = some (.lst (wsV S)) ∧ H' ol = some (.lst (wsV O)) ∧ Ws b S ∧ Ws b O ∧ len ≤ i ∧ la < 2 ^ b ∧ 0 < la ∧ S.length ≤ i + 2 ∧ O.length + gap ≤ i + 2)
      ⟨z1, z2, [1], [1], 0, 1, 1, none, none, none, none, none, none, none, none, none, none, none, rfl, s0, ((same_new nz2).trans sT) _ _ upd_same, sT _ _ upd_same, Ws_cons (one_lt hb) Ws_nil, Ws_cons (one_lt hb) Ws_nil, Nat.le_refl _, one_lt hb, by decide, by decide, by decide⟩ (fun i st H' _ hp => ?_) ?_ ?_⟩
    · obtain ⟨_, _, _, _, _, _, _, _, _, _, _, _, _, _, _, _, _, _, _, s2, _⟩ := hp
      exact s2.seq hs
    · rintro i x st H' H3 hi ⟨sc, ol, S, O, len, gap, la, v7, v8, v9, v10, v11, v12, v13, v14, v15, v16, v17, rfl, s1, hsc, hol, Sw, Ow, hlen, la1, la2, hS, hO⟩ ⟨T, x1, x2, rfl, nT, rfl, e1, e2⟩
      have e1' := Option.some.inj e1
      subst e1'
      obtain ⟨u, hu, rfl⟩ := wsV_inv e2
      rw [wsV_len] at hi
      have sT : Same H' (upd H' T (.tup [.int (i : Nat), nV u])) := same_new nT
      refine ⟨T, _, rfl, sq_t upd_same, rfl, _, _, rfl, _, _, rfl, rfl, ?_⟩
      have s2 := s1.trans sT
      have hsc2 := sT _ _ hsc
      have hol2 := sT _ _ hol
      generalize hH2 : upd H' T (.tup [.int (i : Nat), nV u]) = H2 at s2 hsc2 hol2
      have hF2 := hF.same s2
      have hs2 := s2.seq hs
      refine ⟨_, rfl, _, rfl, _, _, rfl, rfl, ?_⟩
      refine ⟨1, (len : Int) + 1, rfl, ⟨by omega, by omega, by omega, by omega⟩, ?_⟩
      rw [show ((len : Int) + 1 - 1).toNat = len by omega]
      refine for_range (lo := 1) (n := len) (fun j st H4 => ∃ (mi : Nat) (v10 : Option V), H4 = H2 ∧ st = [some (.ref a), some (.ref sm), some (.ref sc), some (.ref ol), some (nV len), some (nV gap), some (nV la), some (nV i), some (nV u), some (nV mi), v10, v11, v12, v13, v14, v15, v16, v17] ∧ mi < 2 ^ b)
        ⟨u, v10, rfl, rfl, Ws_get lw hu⟩ ?_ ?_
      · rintro j st H4 hj ⟨mi, v10, rfl, rfl, hmi⟩
        refine ⟨_, rfl, _, rfl, _, S.length, rfl, .inl ⟨_, sq_l hsc2, (wsV_len _).symm⟩, _, _, rfl, rfl, _, rfl, ite2 (fun c => ?_) (fun c => ?_)⟩
        · have c' : (1 : Int) + (j : Int) < (S.length : Int) := of_decide_eq_true c
          obtain ⟨y, hy⟩ : ∃ y, S[1 + j]? = some y := ⟨_, List.getElem?_eq_getElem (by omega)⟩
          obtain ⟨t, ht⟩ : ∃ t, l[i - (1 + j)]? = some t := ⟨_, List.getElem?_eq_getElem (by omega)⟩
          refine ⟨_, rfl, _, rfl, _, rfl, _, rfl, sc, _, _, nV y, rfl, rfl, sq_l hsc2, ?_, _, rfl, _, rfl, _, rfl, _, _, rfl, rfl, sm, _, _, nV t, rfl, rfl, hs2, ?_, b, a, y, t, rfl, hb, hF2, Ws_get Sw hy, Ws_get lw ht, _, _, rfl, rfl, ?_⟩
          · rw [show (1 : Int) + (j : Int) = ((1 + j : Nat) : Int) by omega]
            exact atI_nat (wsV_get hy)
          · rw [show ((i : Nat) : Int) - ((1 : Int) + (j : Int)) = ((i - (1 + j) : Nat) : Int) by omega]
            exact atI_nat (wsV_get ht)
          · dsimp only
            rw [xor_nat]
            exact ⟨_, _, rfl, rfl, xor_lt hmi (mul_lt hb _ _)⟩
        · exact ⟨mi, _, rfl, rfl, hmi⟩
      · rintro st H4 ⟨mi, v10, rfl, rfl, hmi⟩
        refine ⟨_, rfl, rfl, _, rfl, ite2 (fun c => ?_) (fun c => ?_)⟩
        · exact ⟨_, rfl, _, _, rfl, rfl, sc, ol, S, O, len, gap + 1, la, _, _, _, _, _, _, _, _, _, _, _, rfl, s2, hsc2, hol2, Sw, Ow, by omega, la1, la2, by omega, by omega⟩
        · have m0 : mi ≠ 0 := fun z => c (by subst z; exact decide_eq_true rfl)
          -- factor
          have la' := pw_lt hb (nn b - lg b la)
          refine ⟨_, rfl, _, rfl, _, rfl, _, rfl, b, a, la, rfl, hb, hF2, la1, la2, b, a, mi, _, rfl, hb, hF2, hmi, la', ?_⟩
          have fl := mul_lt hb mi (pw b (nn b - lg b la))
          generalize mul b mi (pw b (nn b - lg b la)) = fa at fl ⊢
          -- moved
          refine ⟨line_ok (by decide), fun z nz => ?_⟩
          have sz : Same H4 (upd H4 z (.lst [.int 0])) := same_new nz
          refine ⟨_, rfl, z, _, _, rfl, rfl, upd_same, by omega, by omega, line_ok (by show 1 * _ ≤ _; rw [Int.toNat_natCast]; omega), fun p np => ?_⟩
          rw [rep_wsV]
          have sp := sz.trans (same_new (o := .lst (wsV (List.replicate gap 0))) np)
          have hp : (upd (upd H4 z (.lst [.int 0])) p (.lst (wsV (List.replicate gap 0)))) p = some (.lst (wsV (List.replicate gap 0))) := upd_same
          generalize (upd (upd H4 z (.lst [.int 0])) p (.lst (wsV (List.replicate gap 0)))) = H3 at sp hp
          refine ⟨_, rfl, ol, rfl, ⟨_, sq_l (sp _ _ hol2)⟩, fun D hD => lcN (walk_list (K := K) (a := ol) (xs := wsV O)) (fun _ => true) (fun i => nV (mul b fa (O.getD i 0))) hD (by rw [wsV_len]; omega) (fun _ => rfl) (fun H' s' => sq_l (s' _ _ (sp _ _ hol2))) (fun i x Ha Hb hi s' y => ?_) (fun H5 s5 hD5 => ?_)⟩
          · obtain ⟨e1, e2⟩ := y
            subst e1
            obtain ⟨o, ho, rfl⟩ := wsV_inv e2
            rw [getD_of ho]
            exact ⟨Same.refl _, fun R hR => yes_all hR, fun _ H6 s6 Qk hQ => ⟨_, rfl, _, rfl, _, rfl, b, a, fa, o, rfl, hb, ((hF2.same sp).same s').same s6, fl, Ws_get Ow ho, hQ H6 (Same.refl _)⟩⟩
          rw [wsV_len, sel_map] at hD5
          refine ⟨p, D, _, _, rfl, rfl, s5 _ _ hp, hD5, line_ok (by rw [wsV_len, wsV_len, List.length_replicate, List.length_map]; omega), fun mv nmv => ?_⟩
          rw [← wsV_app]
          have hMl : (List.replicate gap 0 ++ O.map (mul b fa)).length = gap + O.length := by rw [List.length_append, List.length_replicate, List.length_map]
          have hMw : Ws b (List.replicate gap 0 ++ O.map (mul b fa)) := Ws_append Ws_zeros fun x hx => by
            obtain ⟨o, _, rfl⟩ := List.mem_map.mp hx
            exact mul_lt hb _ _
          generalize List.replicate gap 0 ++ O.map (mul b fa) = MV at hMl hMw ⊢
          have s3 := (sp.trans s5).trans (same_new (o := .lst (wsV MV)) nmv)
          have hmv : (upd H5 mv (.lst (wsV MV))) mv = some (.lst (wsV MV)) := upd_same
          generalize upd H5 mv (.lst (wsV MV)) = H6 at s3 hmv
          have hsc6 := s3 _ _ hsc2
          -- wide
          refine ⟨_, rfl, _, S.length, rfl, .inl ⟨_, sq_l hsc6, (wsV_len _).symm⟩, _, rfl, _, MV.length, rfl, .inl ⟨_, sq_l hmv, (wsV_len _).symm⟩, _, _, rfl, ?_⟩
          dsimp only
          rw [max_nat]
          have w1 : S.length ≤ max S.length MV.length := Nat.le_max_left _ _
          have w2 : MV.length ≤ max S.length MV.length := Nat.le_max_right _ _
          have w3 : max S.length MV.length ≤ i + 2 := Nat.max_le.mpr ⟨hS, by omega⟩
          generalize max S.length MV.length = W at w1 w2 w3 ⊢
          -- older_so, moved
          refine ⟨_, rfl, line_ok (by decide), fun z1 nz1 => ?_⟩
          have sz1 : Same H6 (upd H6 z1 (.lst [.int 0])) := same_new nz1
          refine ⟨_, rfl, _, rfl, _, S.length, rfl, .inl ⟨_, sq_l (sz1 _ _ hsc6), (wsV_len _).symm⟩, _, _, rfl, rfl, ?_⟩
          dsimp only
          rw [show (W : Int) - (S.length : Int) = ((W - S.length : Nat) : Int) by omega]
          refine ⟨z1, _, _, rfl, rfl, upd_same, by omega, by omega, line_ok (by show 1 * _ ≤ _; rw [Int.toNat_natCast]; omega), fun p1 np1 => ?_⟩
          rw [rep_wsV]
          have sp1 := sz1.trans (same_new (o := .lst (wsV (List.replicate (W - S.length) 0))) np1)
          refine ⟨sc, p1, _, _, rfl, rfl, sp1 _ _ hsc6, upd_same, line_ok (by rw [wsV_len, wsV_len, List.length_replicate]; omega), fun A nA => ?_⟩
          rw [← wsV_app]
          have hAl : (S ++ List.replicate (W - S.length) 0).length = W := by rw [List.length_append, List.length_replicate]; omega
          have hAw : Ws b (S ++ List.replicate (W - S.length) 0) := Ws_append Sw Ws_zeros
          generalize S ++ List.replicate (W - S.length) 0 = AV at hAl hAw ⊢
          have s4 := sp1.trans (same_new (o := .lst (wsV AV)) nA)
          have hA : (upd (upd (upd H6 z1 (.lst [.int 0])) p1 (.lst (wsV (List.replicate (W - S.length) 0)))) A (.lst (wsV AV))) A = some (.lst (wsV AV)) := upd_same
          generalize (upd (upd (upd H6 z1 (.lst [.int 0])) p1 (.lst (wsV (List.replicate (W - S.length) 0)))) A (.lst (wsV AV))) = H7 at s4 hA
          have hmv7 := s4 _ _ hmv
          refine ⟨_, rfl, line_ok (by decide), fun z2 nz2 => ?_⟩
          have sz2 : Same H7 (upd H7 z2 (.lst [.int 0])) := same_new nz2
          refine ⟨_, rfl, _, rfl, _, MV.length, rfl, .inl ⟨_, sq_l (sz2 _ _ hmv7), (wsV_len _).symm⟩, _, _, rfl, rfl, ?_⟩
          dsimp only
          rw [show (W : Int) - (MV.length : Int) = ((W - MV.length : Nat) : Int) by omega]
          refine ⟨z2, _, _, rfl, rfl, upd_same, by omega, by omega, line_ok (by show 1 * _ ≤ _; rw [Int.toNat_natCast]; omega), fun p2 np2 => ?_⟩
          rw [rep_wsV]
          have sp2 := sz2.trans (same_new (o := .lst (wsV (List.replicate (W - MV.length) 0))) np2)
          refine ⟨mv, p2, _, _, rfl, rfl, sp2 _ _ hmv7, upd_same, line_ok (by rw [wsV_len, wsV_len, List.length_replicate]; omega), fun M nM => ?_⟩
          rw [← wsV_app]
          have hBl : (MV ++ List.replicate (W - MV.length) 0).length = W := by rw [List.length_append, List.length_replicate]; omega
          have hBw : Ws b (MV ++ List.replicate (W - MV.length) 0) := Ws_append hMw Ws_zeros
          generalize MV ++ List.replicate (W - MV.length) 0 = BV at hBl hBw ⊢
          have s5' := sp2.trans (same_new (o := .lst (wsV BV)) nM)
          have hM : (upd (upd (upd H7 z2 (.lst [.int 0])) p2 (.lst (wsV (List.replicate (W - MV.length) 0)))) M (.lst (wsV BV))) M = some (.lst (wsV BV)) := upd_same
          generalize (upd (upd (upd H7 z2 (.lst [.int 0])) p2 (.lst (wsV (List.replicate (W - MV.length) 0)))) M (.lst (wsV BV))) = H8 at s5' hM
          have hA8 := s5' _ _ hA
          refine ⟨_, _, rfl, ?_⟩
          -- fresh
          refine ⟨_, rfl, _, rfl, A, M, wsV AV, wsV BV, rfl, sq_l hA8, sq_l hM, fun D2 hD2 => lcP (walk_zip (K := K) (a := A) (b := M) (xs := wsV AV) (ys := wsV BV) (n := W) (by rw [wsV_len, wsV_len, hAl, hBl, Nat.min_self])) (fun _ => true) (fun i => nV (AV.getD i 0 ^^^ BV.getD i 0)) hD2 (by omega) (fun _ _ => rfl) (fun H' s => ⟨sq_l (s _ _ hA8), sq_l (s _ _ hM)⟩)
            (fun j x y H' hj hx hy s' => ?_) (fun H9 s9 hD9 => ?_)⟩
          · obtain ⟨x', hx', rfl⟩ := wsV_inv hx
            obtain ⟨y', hy', rfl⟩ := wsV_inv hy
            rw [getD_of hx', getD_of hy']
            refine ⟨fun R hR => yes_all hR, fun _ H3 s3 Qk hQ => ⟨_, rfl, _, rfl, _, _, rfl, rfl, ?_⟩⟩
            dsimp only
            rw [xor_nat]
            exact hQ H3 (Same.refl H3)
          rw [sel_zip (· ^^^ ·) hAl hBl] at hD9
          have hFl : (List.zipWith (· ^^^ ·) AV BV).length = W := by rw [List.length_zipWith, hAl, hBl, Nat.min_self]
          have hFw : Ws b (List.zipWith (· ^^^ ·) AV BV) := Ws_addL hAw hBw
          generalize List.zipWith (· ^^^ ·) AV BV = FV at hFl hFw hD9
          have s9' := s2.trans (s3.trans (s4.trans (s5'.trans s9)))
          have hsc9 := s9 _ _ (s5' _ _ (s4 _ _ hsc6))
          have hol9 := s9 _ _ (s5' _ _ (s4 _ _ (s3 _ _ hol2)))
          refine ⟨_, rfl, _, _, rfl, rfl, .inl ⟨by omega, by omega⟩, _, rfl, _, _, rfl, rfl, _, rfl, ite2 (fun c2 => ?_) (fun c2 => ?_)⟩
          · have c2' : (2 : Int) * (len : Int) ≤ ((i : Nat) : Int) := of_decide_eq_true c2
            refine ⟨_, rfl, _, rfl, _, _, rfl, rfl, _, rfl, _, _, rfl, rfl, ?_⟩
            dsimp only
            rw [show ((i : Nat) : Int) + 1 - (len : Int) = ((i + 1 - len : Nat) : Int) by omega]
            refine ⟨_, rfl, by show 4 ≤ _; decide, fun T2 nT2 => ?_⟩
            have sT2 := same_new (o := .tup [.ref sc, nV (i + 1 - len), .int 1, nV mi]) nT2
            refine ⟨T2, _, rfl, sq_t upd_same, rfl, _, _, rfl, _, _, rfl, _, _, rfl, _, _, rfl, rfl, ?_⟩
            exact ⟨_, rfl, D2, sc, FV, S, i + 1 - len, 1, mi, _, _, _, _, _, _, _, _, _, _, _, rfl, s9'.trans sT2, sT2 _ _ hD9, sT2 _ _ hsc9, hFw, Sw, by omega, hmi, Nat.pos_of_ne_zero m0, by omega, by omega⟩
          · exact ⟨_, rfl, _, _, rfl, rfl, _, rfl, D2, ol, FV, O, len, gap + 1, la, _, _, _, _, _, _, _, _, _, _, _, rfl, s9', hD9, hol9, hFw, Ow, by omega, la1, la2, by omega, by omega⟩
    · rintro st H' ⟨sc, ol, S, O, len, gap, la, v7, v8, v9, v10, v11, v12, v13, v14, v15, v16, v17, rfl, s1, hsc, hol, Sw, Ow, hlen, la1, la2, hS, hO⟩
      rw [wsV_len] at hlen hS
      refine ⟨_, rfl, _, rfl, by show 2 ≤ _; decide, fun p np => ?_⟩
      have sp : Same H' (upd H' p (.tup [nV len, .ref sc])) := same_new np
      exact q _ p len sc S (s1.trans sp) upd_same (sp _ _ hsc) Sw (by omega) hlen
end
end Tw

namespace Tw
open PySem PySem.Spec PyProof.Rows L2
/-! ### lines in the heap -/
def Mt (H : Hp) (L : Addr) (m : Nat) (A : List (List Nat)) : Prop := ∃ ps : List Addr, H L = some (.lst (ps.map V.ref)) ∧ ps.length = m ∧ ∀ (i : Nat) (p : Addr), ps[i]? = some p → p ≠ L ∧ H p = some (.lst (wsV (row A i)))
theorem Mt.same {H H' : Hp} {L : Addr} {m : Nat} {A : List (List Nat)} (M : Mt H L m A) (s : Same H H') : Mt H' L m A := by
  obtain ⟨ps, h1, h2, h3⟩ := M
  exact ⟨ps, s _ _ h1, h2, fun i p e => ⟨(h3 i p e).1, s _ _ (h3 i p e).2⟩⟩
theorem Mt.list {H : Hp} {L : Addr} {m : Nat} {A : List (List Nat)} (M : Mt H L m A) : ∃ xs : List V, H L = some (.lst xs) ∧ xs.length = m ∧ ∀ i, i < m → ∃ p, xs[i]? = some (.ref p) ∧ p ≠ L ∧ H p = some (.lst (wsV (row A i))) := by
  obtain ⟨ps, h1, h2, h3⟩ := M
  refine ⟨_, h1, by rw [List.length_map, h2], fun i hi => ?_⟩
  have e : ps[i]? = some ps[i] := List.getElem?_eq_getElem (by omega)
  obtain ⟨q1, q2⟩ := h3 i _ e
  exact ⟨ps[i], by rw [List.getElem?_map, e]; rfl, q1, q2⟩
theorem Mt.put {H : Hp} {L q : Addr} {m i : Nat} {A : List (List Nat)} {xs : List V} {l : List Nat} (M : Mt H L m A) (hA : A.length = m) (hL : H L = some (.lst xs)) (hq : H q = some (.lst (wsV l))) (hne : q ≠ L) (hi : i < m) : Mt (upd H L (.lst (xs.set i (.ref q)))) L m (A.set i l) := by
  obtain ⟨ps, h1, h2, h3⟩ := M
  have e : xs = ps.map V.ref := by
    rw [h1] at hL
    injection hL with hL
    injection hL with hL
    exact hL.symm
  subst e
  refine ⟨ps.set i q, by rw [upd_same, List.map_set], by rw [List.length_set, h2], fun j p ej => ?_⟩
  by_cases eij : i = j
  · subst eij
    rw [List.getElem?_set_self (by omega)] at ej
    injection ej with ej
    subst ej
    refine ⟨hne, ?_⟩
    rw [upd_ne hne, row_set_self (by omega)]
    exact hq
  · rw [List.getElem?_set_ne eij] at ej
    obtain ⟨q1, q2⟩ := h3 j p ej
    refine ⟨q1, ?_⟩
    rw [upd_ne q1, row_set_ne eij]
    exact q2
theorem sel_head {N : Nat} {f : Nat → Bool} {v : Nat → V} (h : ∃ i, i < N ∧ f i = true) : ∃ i, i < N ∧ f i = true ∧ (sel N f v)[0]? = some (v i) := by
  obtain ⟨i, hi, hf⟩ := h
  have hm : i ∈ (List.range N).filter f := List.mem_filter.mpr ⟨List.mem_range.mpr hi, hf⟩
  cases e : (List.range N).filter f with
  | nil =>
    rw [e] at hm
    cases hm
  | cons x t =>
    have hx : x ∈ (List.range N).filter f := by
      rw [e]
      exact List.mem_cons_self
    obtain ⟨h1, h2⟩ := List.mem_filter.mp hx
    refine ⟨x, List.mem_range.mp h1, h2, ?_⟩
    unfold sel
    rw [e]
    rfl
theorem at0_get {l : List Nat} {j : Nat} (h : j < l.length) : l[j]? = some (at0 l j) := by
  unfold at0
  rw [getD_of (List.getElem?_eq_getElem h)]
  exact List.getElem?_eq_getElem h
theorem ws_last {l : List Nat} {m : Nat} (h : l.length = m + 1) : atI (wsV l) (-1) = some (nV (at0 l m)) := by
  have e : l = l.take m ++ [at0 l m] := by
    refine List.ext_getElem? fun i => ?_
    by_cases hi : i < m
    · rw [List.getElem?_append_left (by rw [List.length_take]; omega), List.getElem?_take_of_lt hi]
    · by_cases h2 : i = m
      · subst h2
        rw [List.getElem?_append_right (by rw [List.length_take]; omega), List.length_take, show i - min i l.length = 0 by omega]
        exact at0_get (by omega)
      · rw [List.getElem?_eq_none (by omega), List.getElem?_eq_none (by rw [List.length_append, List.length_take]; show _ + 1 ≤ _; omega)]
  have e2 : wsV l = wsV (l.take m) ++ [nV (at0 l m)] := by
    rw [e, wsV_app, ← e]
    rfl
  rw [e2]
  exact atI_last _ _
def sp_solved (K : PySem.W.Frag) : Sp := fun vs H Q _ => ∃ (b : Nat) (a L : Addr) (m : Nat) (A : List (List Nat)), vs = [.ref a, .ref L] ∧ Bt b ∧ Fld b K H a ∧ Mt H L m A ∧ St b m A 0 ∧ m ≤ 100 ∧
  ∀ H' p r, Same H H' → H p = none → H' p = some (.lst (wsV r)) → r.length = m → Ws b r → Q (.ref p) H'
section
variable {P : Program} {w : World} {K : PySem.W.Frag} {mg : Str → Option Value} {base : Heap} {k : Nat}
/-! solved: slots 0 field, 1 lines, 2 many, 3 at, 4 pivot, 5 inverse, 6 place, 7 factor, 8 line, 9 word, 10 one, 11 two; cells at factor field inverse lines -/
abbrev s_solved : Stmt := topS 30
abbrev n_solved : List Str := ["field", "lines", "many", "at", "pivot", "inverse", "place", "factor", "line", "word", "one", "two"]
theorem sc_solved : FnScope n_solved ["field", "lines"] (defScope s_solved) := ⟨rfl, rfl, rfl, by decide +kernel, rfl, by decide +kernel, by decide +kernel⟩
theorem ok_solved (D : Df K mg "solved" s_solved) (B : Blt mg) (c_multiplied : Cal P w K mg base CX0 k "multiplied" ["field", "one", "other"] (sp_multiplied K)) (c_inverse_of : Cal P w K mg base CX0 k "inverse_of" ["field", "word"] (sp_inverse_of K)) :
    Cal P w K mg base CX0 (k + 1) "solved" ["field", "lines"] (sp_solved K) := by
  refine D.cal sc_solved (fun _ _ _ _ _ _ us hl => match us, hl with | [_, _], _ => rfl) (fun vs H Q E h => ?_) (fun f cdv A outer s H vs Q E hr h => ?_)
  · obtain ⟨b, a, L, m, A, rfl, h⟩ := h
    rfl
  · obtain ⟨b, a, L0, m, A0, rfl, hb, hF, hM0, hS0, hm, q⟩ := h
    refine ⟨_, (pss_cons (ps_asg (pe_tup (pa_cons (pe_callB call_len (by rfl) B.len_ (by decide +kernel) (pa_cons (pv 1) pa_nil)) (pa_cons (pe_lc (own := [("line", 8)]) (g := (gName 8)) (tt := tYes) (te := (tCB (rListK K) (tCons (tVar 8) tNil))) rfl sc_solved.nd (pi_list (pv 1)) (blkOk_by (N := n_solved) (sc := defScope s_solved) (by decide +kernel)) (fun _ _ _ _ _ => by exact (pg_name (i := 8) sc_solved.nd rfl (Or.inl rfl))) (fun _ _ _ _ _ => pts_nil) (fun _ _ _ _ _ => by exact (pe_callTy call_list_of (by rfl) B.list_ (by decide +kernel) (pa_cons (pv 8) pa_nil)))) pa_nil))) (pg_tup (by rfl) (pgs_cons (pg_name (i := 2) sc_solved.nd rfl (Or.inl rfl)) (pgs_cons (pg_name (i := 1) sc_solved.nd rfl (Or.inr rfl)) pgs_nil))))
      (pss_cons (ps_for PassesOwn.never rfl (pi_range1 (by rfl) B.range_ (pa_cons (pv 2) pa_nil)) (pg_name (i := 3) sc_solved.nd rfl (Or.inr rfl))
        (pss_cons (ps_set (i := 4) sc_solved.nd rfl (Or.inl rfl) (pe_ix ix_list (pe_lc (own := [("place", 6)]) (g := (gName 6)) (tt := (tTest (tOp rNe (tOp (rIxL K) (tOp (rIxL K) (tVar 1) (tVar 6)) (tVar 3)) (tC (.int 0))))) (te := (tVar 6)) rfl sc_solved.nd (pi_range2 (by rfl) B.range_ (pa_cons (pv 3) (pa_cons (pv 2) pa_nil))) (blkOk_by (N := n_solved) (sc := defScope s_solved) (by decide +kernel)) (fun _ _ _ _ _ => by exact (pg_name (i := 6) sc_solved.nd rfl (Or.inl rfl))) (fun _ _ _ _ _ => by exact (pts_one (pt_cmpR op_ne (pe_ix ix_list (pe_ix ix_list (pv 1) (pv 6) (fun _ _ => rfl)) (pv 3) (fun _ _ => rfl)) pe_int (nomark _)))) (fun _ _ _ _ _ => by exact (pv 6))) pe_int (fun _ _ => rfl)))
      (pss_cons (ps_asg (pe_tup (pa_cons (pe_ix ix_list (pv 1) (pv 4) (fun _ _ => rfl)) (pa_cons (pe_ix ix_list (pv 1) (pv 3) (fun _ _ => rfl)) pa_nil))) (pg_tup (by rfl) (pgs_cons (pg_sub (pv 1) (pv 3) set_list) (pgs_cons (pg_sub (pv 1) (pv 4) set_list) pgs_nil))))
      (pss_cons (ps_set (i := 5) sc_solved.nd rfl (Or.inr rfl) (pe_cal c_inverse_of hr pass0 (pa_cons (pv 0) (pa_cons (pe_ix ix_list (pe_ix ix_list (pv 1) (pv 3) (fun _ _ => rfl)) (pv 3) (fun _ _ => rfl)) pa_nil))))
      (pss_cons (ps_asg (pe_lc (own := [("word", 9)]) (g := (gName 9)) (tt := tYes) (te := (tCall (sp_multiplied K) [] E0 (tCons (tVar 0) (tCons (tVar 5) (tCons (tVar 9) tNil))))) rfl sc_solved.nd (pi_list (pe_ix ix_list (pv 1) (pv 3) (fun _ _ => rfl))) (blkOk_by (N := n_solved) (sc := defScope s_solved) (by decide +kernel)) (fun _ _ _ _ _ => by exact (pg_name (i := 9) sc_solved.nd rfl (Or.inl rfl))) (fun _ _ _ _ _ => pts_nil) (fun _ _ _ _ _ => by exact (pe_cal c_multiplied hr pass0 (pa_cons (pv 0) (pa_cons (pv 5) (pa_cons (pv 9) pa_nil)))))) (pg_sub (pv 1) (pv 3) set_list))
      (pss_one (ps_for PassesOwn.never rfl (pi_range1 (by rfl) B.range_ (pa_cons (pv 2) pa_nil)) (pg_name (i := 6) sc_solved.nd rfl (Or.inl rfl))
        (pss_cons (ps_set (i := 7) sc_solved.nd rfl (Or.inr rfl) (pe_ix ix_list (pe_ix ix_list (pv 1) (pv 6) (fun _ _ => rfl)) (pv 3) (fun _ _ => rfl)))
      (pss_one (ps_if (PW.pt (pw_and (pt_cmpR op_ne (pv 6) (pv 3) (nomark _)) (pw_and1 (pt_cmpR op_ne (pv 7) pe_int (nomark _)))))
        (pss_one (ps_asg (pe_lc (own := [("one", 10), ("two", 11)]) (g := (gTup K 2 (gCons (gName 10) (gCons (gName 11) gNil)))) (tt := tYes) (te := (tOp rXoI (tVar 10) (tCall (sp_multiplied K) [] E0 (tCons (tVar 0) (tCons (tVar 7) (tCons (tVar 11) tNil)))))) rfl sc_solved.nd (pi_zip (by rfl) B.zip_ (pa_cons (pe_ix ix_list (pv 1) (pv 6) (fun _ _ => rfl)) (pa_cons (pe_ix ix_list (pv 1) (pv 3) (fun _ _ => rfl)) pa_nil))) (blkOk_by (N := n_solved) (sc := defScope s_solved) (by decide +kernel)) (fun _ _ _ _ _ => by exact (pg_tup (by rfl) (pgs_cons (pg_name (i := 10) sc_solved.nd rfl (Or.inl rfl)) (pgs_cons (pg_name (i := 11) sc_solved.nd rfl (Or.inl rfl)) pgs_nil)))) (fun _ _ _ _ _ => pts_nil) (fun _ _ _ _ _ => by exact (pe_op op_xor (pv 10) (pe_cal c_multiplied hr pass0 (pa_cons (pv 0) (pa_cons (pv 7) (pa_cons (pv 11) pa_nil))))))) (pg_sub (pv 1) (pv 6) set_list)))
        pss_nil))))))))))
      (pss_one (ps_ret (pe_lc (own := [("line", 8)]) (g := (gName 8)) (tt := tYes) (te := (tOp (rIxL K) (tVar 8) (tUn (rU fun i => .int (-i)) (tC (.int 1))))) rfl sc_solved.nd (pi_list (pv 1)) (blkOk_by (N := n_solved) (sc := defScope s_solved) (by decide +kernel)) (fun _ _ _ _ _ => by exact (pg_name (i := 8) sc_solved.nd rfl (Or.inl rfl))) (fun _ _ _ _ _ => pts_nil) (fun _ _ _ _ _ => by exact (pe_ix ix_list (pv 8) (pe_un un_neg pe_int) (fun _ _ => rfl)))))))), ?_⟩
    obtain ⟨xs0, hL0, hx0, hr0⟩ := hM0.list
    refine ⟨_, rfl, _, m, rfl, .inl ⟨_, sq_l hL0, hx0.symm⟩, _, rfl, L0, rfl, ⟨_, sq_l hL0⟩, fun L hD => ?_⟩
    refine lcRows (K := K) (walk_list (K := K) (a := L0) (xs := xs0)) ((List.range m).map fun i => wsV (row A0 i)) hD (by omega) (fun _ => rfl) (fun H' s' => sq_l (s' _ _ hL0)) (fun _ => rfl) (fun i x hi => ?_) (fun H1 ps s1 hD1 hl hp => ?_)
    · have him : i < m := by
        obtain ⟨h, _⟩ := List.getElem?_eq_some_iff.mp hi
        omega
      obtain ⟨p, hp, _, hpr⟩ := hr0 i him
      rw [hi] at hp
      exact ⟨p, _, Option.some.inj hp, by rw [List.getElem?_map, List.getElem?_range him]; rfl, .inl (sq_l hpr)⟩
    have hM1 : Mt H1 L m A0 := ⟨ps, hD1, by omega, fun i p e => by
      have him : i < m := by
        obtain ⟨h, _⟩ := List.getElem?_eq_some_iff.mp e
        omega
      obtain ⟨h1, _, h2⟩ := hp i p e
      refine ⟨h2, ?_⟩
      · rw [h1, getD_of (by rw [List.getElem?_map, List.getElem?_range him]; rfl)]⟩
    refine ⟨by show 2 ≤ _; decide, fun T nT => ?_⟩
    have sT := same_new (o := .tup [nV m, .ref L]) nT
    refine ⟨T, _, rfl, sq_t upd_same, rfl, _, _, rfl, _, _, rfl, rfl, ?_⟩
    refine ⟨_, rfl, m, rfl, by omega, by omega, for_range (lo := 0) (n := m) (fun n st H' => ∃ (A : List (List Nat)) (v3 v4 v5 v6 v7 v8 v9 v10 v11 : Option V), st = [some (.ref a), some (.ref L), some (nV m), v3, v4, v5, v6, v7, v8, v9, v10, v11] ∧ Same H H' ∧ Mt H' L m A ∧ St b m A n)
      ⟨A0, none, none, none, none, none, none, none, none, none, rfl, s1.trans sT, hM1.same sT, hS0⟩ ?_ ?_⟩
    · rintro n st H' hn ⟨A, v3, v4, v5, v6, v7, v8, v9, v10, v11, rfl, s2, hM, hS⟩
      obtain ⟨xs, hL, hx, hr⟩ := hM.list
      obtain ⟨p0, hp1, hp2, hp3⟩ := pivot hb hS hn
      rw [Int.zero_add]
      -- pivot
      refine ⟨_, rfl, _, rfl, (n : Int), (m : Int), rfl, ⟨by omega, by omega, by omega, by omega⟩, ?_⟩
      rw [show ((m : Int) - (n : Int)).toNat = m - n by omega]
      intro D2 hD2
      refine lcN (walk_range (lo := (n : Int)) (n := m - n)) (fun i => at0 (row A (n + i)) n != 0) (fun i => .int ((n : Int) + (i : Int))) hD2 (by omega) (fun _ => rfl) (fun _ _ => trivial) (fun i x Ha Hb hi s' y => ?_) (fun H2 s3 hD3 => ?_)
      · obtain ⟨e1, e2⟩ := y
        subst e1 e2
        refine ⟨Same.refl _, fun R hR => ?_, fun _ H3 s4 Qk hQ => ⟨_, rfl, hQ H3 (Same.refl _)⟩⟩
        obtain ⟨p, hp, _, hpr⟩ := hr (n + i) (by omega)
        have hlen := hS.mx.lens (n + i) (by omega)
        refine ⟨_, rfl, _, rfl, L, _, _, .ref p, rfl, rfl, sq_l (s' _ _ hL), ?_, _, rfl, p, _, _, nV (at0 (row A (n + i)) n), rfl, rfl, sq_l (s' _ _ hpr), atI_nat (wsV_get (at0_get (by omega))), rfl, _, rfl, ?_⟩
        · rw [show (n : Int) + (i : Int) = ((n + i : Nat) : Int) by omega]
          exact atI_nat hp
        · have e : (!decide (nV (at0 (row A (n + i)) n) = nV 0)) = (at0 (row A (n + i)) n != 0) := by
            rw [bne, Bool.not_eq_eq_eq_not, Bool.not_not, Bool.eq_iff_iff, decide_eq_true_iff, beq_iff_eq]
            exact ⟨fun z => Int.ofNat.inj (V.int.inj z), fun z => by rw [z]⟩
          rw [show V.int 0 = nV 0 from rfl, e]
          exact hR _ (Same.refl _)
      obtain ⟨i, hi, hf, hs⟩ := sel_head (N := m - n) (f := fun i => at0 (row A (n + i)) n != 0) (v := fun i => .int ((n : Int) + (i : Int))) ⟨p0 - n, by omega, by
        show (at0 (row A (n + (p0 - n))) n != 0) = true
        rw [show n + (p0 - n) = p0 by omega]
        exact bne_iff_ne.mpr hp3⟩
      have hf' : at0 (row A (n + i)) n ≠ 0 := bne_iff_ne.mp hf
      refine ⟨D2, _, 0, .int ((n : Int) + (i : Int)), rfl, rfl, sq_l hD3, atI_nat (j := 0) hs, ?_⟩
      rw [show (n : Int) + (i : Int) = ((n + i : Nat) : Int) by omega]
      have pv1 : n ≤ n + i := Nat.le_add_right _ _
      have pv2 : n + i < m := by omega
      generalize n + i = p at hf' pv1 pv2 ⊢
      -- the lines change places
      have hL2 := s3 _ _ hL
      obtain ⟨pA, eA, nA, rA⟩ := hr p pv2
      obtain ⟨pB, eB, nB, rB⟩ := hr n hn
      refine ⟨_, rfl, _, rfl, L, _, _, .ref pA, rfl, rfl, sq_l hL2, atI_nat eA, _, rfl, _, rfl, L, _, _, .ref pB, rfl, rfl, sq_l hL2, atI_nat eB, by show 2 ≤ _; decide, fun T nT => ?_⟩
      have sT := same_new (o := .tup [.ref pA, .ref pB]) nT
      have M1 := Mt.put (q := pA) (i := n) ((hM.same s3).same sT) hS.mx.len (sT _ _ hL2) (sT _ _ (s3 _ _ rA)) nA hn
      have M2 := Mt.put (q := pB) (i := p) (l := row A n) M1 (by rw [List.length_set]; exact hS.mx.len) upd_same (by rw [upd_ne nB]; exact sT _ _ (s3 _ _ rB)) nB pv2
      refine ⟨T, _, rfl, sq_t upd_same, rfl, _, _, rfl, _, rfl, _, rfl, L, xs, _, n, rfl, rfl, sT _ _ hL2, ixN_nat (by omega), _, _, rfl, _, rfl, _, rfl, L, xs.set n (.ref pA), _, p, rfl, rfl, upd_same, ixN_nat (by rw [List.length_set]; omega), rfl, ?_⟩
      have s4 := same_mut (o := .lst ((xs.set n (.ref pA)).set p (.ref pB))) (same_mut (o := .lst (xs.set n (.ref pA))) (s2.trans (s3.trans sT)) hD) hD
      have hS2 := hS.swap pv1 pv2
      have h02 : at0 (row ((A.set n (row A p)).set p (row A n)) n) n ≠ 0 := by
        rw [swap_at hS.mx hn]
        exact hf'
      generalize (upd (upd (upd H2 T (.tup [.ref pA, .ref pB])) L (.lst (xs.set n (.ref pA)))) L (.lst ((xs.set n (.ref pA)).set p (.ref pB)))) = H3 at M2 s4
      generalize (A.set n (row A p)).set p (row A n) = A2 at M2 hS2 h02
      -- inverse
      obtain ⟨xs2, hL3, hx2, hr2⟩ := M2.list
      obtain ⟨q2, e2, n2, r2⟩ := hr2 n hn
      have ln2 := hS2.mx.lens n hn
      have wn2 := hS2.mx.ws n hn
      refine ⟨_, rfl, _, rfl, _, rfl, L, _, _, .ref q2, rfl, rfl, sq_l hL3, atI_nat e2, _, rfl, q2, _, _, nV (at0 (row A2 n) n), rfl, rfl, sq_l r2, atI_nat (wsV_get (at0_get (by omega))), b, a, _, rfl, hb, hF.same s4, at0_lt wn2 n, Nat.pos_of_ne_zero h02, ?_⟩
      have hI := StIn.start hb hS2 hn h02 rfl
      have rl := pw_lt hb (nn b - lg b (at0 (row A2 n) n))
      generalize pw b (nn b - lg b (at0 (row A2 n) n)) = rr at hI rl ⊢
      -- the line multiplied
      refine ⟨_, rfl, _, rfl, L, _, _, .ref q2, rfl, rfl, sq_l hL3, atI_nat e2, q2, rfl, ⟨_, sq_l r2⟩, fun D4 hD4 => lcN (walk_list (K := K) (a := q2) (xs := wsV (row A2 n))) (fun _ => true) (fun i => nV (mul b rr ((row A2 n).getD i 0))) hD4 (by rw [wsV_len]; omega) (fun _ => rfl) (fun H' s' => sq_l (s' _ _ r2)) (fun i x Ha Hb hi s' y => ?_) (fun H4 s5 hD5 => ?_)⟩
      · obtain ⟨e1, e2⟩ := y
        subst e1
        obtain ⟨o, ho, rfl⟩ := wsV_inv e2
        rw [getD_of ho]
        exact ⟨Same.refl _, fun R hR => yes_all hR, fun _ H6 s6 Qk hQ => ⟨_, rfl, _, rfl, _, rfl, b, a, rr, o, rfl, hb, ((hF.same s4).same s').same s6, rl, Ws_get wn2 ho, hQ H6 (Same.refl _)⟩⟩
      rw [wsV_len, sel_map] at hD5
      have D4L : D4 ≠ L := fun z => by
        rw [z, hL3] at hD4
        cases hD4
      refine ⟨_, rfl, _, rfl, L, xs2, _, n, rfl, rfl, s5 _ _ hL3, ixN_nat (by omega), ?_⟩
      have M3 := Mt.put (q := D4) (i := n) (M2.same s5) hS2.mx.len (s5 _ _ hL3) hD5 D4L hn
      have s6 := same_mut (o := .lst (xs2.set n (.ref D4))) (s4.trans s5) hD
      -- the others
      refine ⟨_, rfl, m, rfl, by omega, by omega, for_range (lo := 0) (n := m) (fun j st H' => ∃ (A : List (List Nat)) (v6 v7 v8 v9 v10 v11 : Option V), st = [some (.ref a), some (.ref L), some (nV m), some (nV n), some (nV p), some (nV rr), v6, v7, v8, v9, v10, v11] ∧ Same H H' ∧ Mt H' L m A ∧ StIn b m A n j)
        ⟨_, _, _, _, _, _, _, rfl, s6, M3, hI⟩ ?_ ?_⟩
      · rintro j st H7 hj ⟨A, v6, v7, v8, v9, v10, v11, rfl, s7, hM7, hI7⟩
        rw [Int.zero_add]
        obtain ⟨xs7, hL7, hx7, hr7⟩ := hM7.list
        obtain ⟨pj, ej, nj, rj⟩ := hr7 j hj
        obtain ⟨pn, en, nn', rn⟩ := hr7 n hn
        have lj := hI7.st.mx.lens j hj
        have wj := hI7.st.mx.ws j hj
        have lnn := hI7.st.mx.lens n hn
        have wnn := hI7.st.mx.ws n hn
        refine ⟨_, rfl, _, rfl, L, _, _, .ref pj, rfl, rfl, sq_l hL7, atI_nat ej, _, rfl, pj, _, _, nV (at0 (row A j) n), rfl, rfl, sq_l rj, atI_nat (wsV_get (at0_get (by omega))), ?_⟩
        refine ⟨_, rfl, _, rfl, rfl, _, rfl, ite2 (fun c => ?_) (fun c => ?_)⟩
        · have hjn : j ≠ n := fun z => by
            rw [z, decide_eq_true rfl] at c
            cases c
          refine ⟨_, rfl, rfl, _, rfl, ite2 (fun c2 => ?_) (fun c2 => ?_)⟩
          · refine ⟨_, rfl, _, rfl, L, _, _, .ref pj, rfl, rfl, sq_l hL7, atI_nat ej, _, rfl, _, rfl, L, _, _, .ref pn, rfl, rfl, sq_l hL7, atI_nat en, pj, pn, wsV (row A j), wsV (row A n), rfl, sq_l rj, sq_l rn, fun D8 hD8 => lcP (walk_zip (K := K) (a := pj) (b := pn) (xs := wsV (row A j)) (ys := wsV (row A n)) (n := m + 1) (by rw [wsV_len, wsV_len, lj, lnn, Nat.min_self])) (fun _ => true) (fun i => nV ((row A j).getD i 0 ^^^ mul b (at0 (row A j) n) ((row A n).getD i 0))) hD8 (by omega) (fun _ _ => rfl) (fun H' s => ⟨sq_l (s _ _ rj), sq_l (s _ _ rn)⟩)
              (fun i x y H' hi hx hy s' => ?_) (fun H9 s9 hD9 => ?_)⟩
            · obtain ⟨x', hx', rfl⟩ := wsV_inv hx
              obtain ⟨y', hy', rfl⟩ := wsV_inv hy
              rw [getD_of hx', getD_of hy']
              refine ⟨fun R hR => yes_all hR, fun _ H3 s3 Qk hQ => ⟨_, rfl, _, rfl, _, rfl, _, rfl, b, a, _, y', rfl, hb, ((hF.same s7).same s').same s3, at0_lt wj n, Ws_get wnn hy', _, _, rfl, rfl, ?_⟩⟩
              dsimp only
              rw [xor_nat]
              exact hQ H3 (Same.refl H3)
            rw [sel_zip (fun x y => x ^^^ mul b (at0 (row A j) n) y) lj lnn] at hD9
            have D8L : D8 ≠ L := fun z => by
              rw [z, hL7] at hD8
              cases hD8
            refine ⟨_, rfl, _, rfl, L, xs7, _, j, rfl, rfl, s9 _ _ hL7, ixN_nat (by omega), ?_⟩
            exact ⟨_, _, _, _, _, _, _, rfl, same_mut (s7.trans s9) hD, Mt.put (q := D8) (i := j) (hM7.same s9) hI7.st.mx.len (s9 _ _ hL7) hD9 D8L hj, hI7.add hb hn hj hjn⟩
          · have z0 : at0 (row A j) n = 0 := by
              refine Classical.byContradiction fun z => c2 ?_
              have : decide (nV (at0 (row A j) n) = nV 0) = false := decide_eq_false fun q => z (Int.ofNat.inj (V.int.inj q))
              show (!decide (nV (at0 (row A j) n) = nV 0)) = true
              rw [this]
              rfl
            exact ⟨A, _, _, _, _, _, _, rfl, s7, hM7, hI7.skip (.inr z0)⟩
        · have hjn : j = n := by
            refine Classical.byContradiction fun z => c ?_
            have : decide (nV j = nV n) = false := decide_eq_false fun q => z (Int.ofNat.inj (V.int.inj q))
            rw [this]
            rfl
          exact ⟨A, _, _, _, _, _, _, rfl, s7, hM7, hI7.skip (.inl hjn)⟩
      · rintro st H7 ⟨A, v6, v7, v8, v9, v10, v11, rfl, s7, hM7, hI7⟩
        exact ⟨A, _, _, _, _, _, _, _, _, _, rfl, s7, hM7, hI7.done⟩
    · rintro st H' ⟨A, v3, v4, v5, v6, v7, v8, v9, v10, v11, rfl, s2, hM, hS⟩
      obtain ⟨xs, hL, hx, hr⟩ := hM.list
      refine ⟨_, rfl, L, rfl, ⟨_, sq_l hL⟩, fun D hD => lcN (walk_list (K := K) (a := L) (xs := xs)) (fun _ => true) (fun i => nV (at0 (row A i) m)) hD (by omega) (fun _ => rfl) (fun H' s' => sq_l (s' _ _ hL)) (fun i x Ha Hb hi s' y => ?_) (fun H5 s5 hD5 => ?_)⟩
      · obtain ⟨e1, e2⟩ := y
        subst e1
        rw [hx] at hi
        obtain ⟨p, hp, _, hpr⟩ := hr i hi
        rw [e2] at hp
        cases hp
        exact ⟨Same.refl _, fun R hR => yes_all hR, fun _ H6 s6 Qk hQ => ⟨_, rfl, 1, rfl, p, _, _, _, rfl, rfl, sq_l (s6 _ _ (s' _ _ hpr)), ws_last (hS.mx.lens i hi), hQ H6 (Same.refl _)⟩⟩
      · rw [sel_all, hx] at hD5
        have e : (List.range m).map (fun i => nV (at0 (row A i) m)) = wsV ((List.range m).map fun i => at0 (row A i) m) := by
          unfold wsV
          rw [List.map_map]
          rfl
        rw [e] at hD5
        exact q H5 D _ (s2.trans s5) (s2.free hD) hD5 (by rw [List.length_map, List.length_range]) (fun x hx => by
          obtain ⟨i, hi, rfl⟩ := List.mem_map.mp hx
          exact at0_lt (hS.mx.ws i (List.mem_range.mp hi)) _)
end
end Tw

namespace Tw
open PySem PySem.Spec PyProof.Rows L2
/-- the places' line for step i -/
def lineA (b start : Nat) (ss said : List Nat) (i : Nat) : List Nat := ss.map (fun x => pw b (x * (start + i))) ++ [said.getD i 0]
def matA (b start : Nat) (ss said : List Nat) : List (List Nat) := (List.range ss.length).map (lineA b start ss said)
theorem row_matA {b start : Nat} {ss said : List Nat} {i : Nat} (h : i < ss.length) : row (matA b start ss said) i = lineA b start ss said i := by
  unfold row matA
  exact getD_of (by rw [List.getElem?_map, List.getElem?_range h]; rfl)
theorem lineA_len (b start : Nat) (ss said : List Nat) (i : Nat) : (lineA b start ss said i).length = ss.length + 1 := by
  unfold lineA
  rw [List.length_append, List.length_map]
  rfl
theorem getD_lt {b : Nat} {l : List Nat} (h : Ws b l) (i : Nat) : l.getD i 0 < 2 ^ b := at0_lt h i
theorem st_matA {b start : Nat} {ss said : List Nat} (hb : Bt b) (hw : Ws b said) (hn : ss.Nodup) (hl : ∀ x ∈ ss, x < nn b) : St b ss.length (matA b start ss said) 0 := by
  have gd : ∀ j, j < ss.length → ss[j]? = some (ss.getD j 0) := fun j hj => by
    rw [getD_of (List.getElem?_eq_getElem hj)]
    exact List.getElem?_eq_getElem hj
  refine St.init (start := start) (s := fun j => ss.getD j 0) hb ⟨?_, fun i hi => ?_, fun i hi => ?_⟩ (fun j hj => hl _ (List.mem_of_getElem? (gd j hj))) (fun i j hi hj e => ?_) (fun i j hi hj => ?_)
  · unfold matA
    rw [List.length_map, List.length_range]
  · rw [row_matA hi, lineA_len]
  · rw [row_matA hi]
    refine Ws_append (fun x hx => ?_) (Ws_cons (getD_lt hw i) Ws_nil)
    obtain ⟨s, _, rfl⟩ := List.mem_map.mp hx
    exact pw_lt hb _
  · have e' : ss.getD i 0 = ss.getD j 0 := e
    exact (List.getElem?_inj hi hn).mp (by rw [gd i hi, gd j hj, e'])
  · rw [row_matA hi]
    unfold lineA at0
    refine getD_of ?_
    rw [List.getElem?_append_left (by rw [List.length_map]; exact hj), List.getElem?_map, gd j hj]
    rfl
def sp_amounts_at (K : PySem.W.Frag) : Sp := fun vs H Q _ => ∃ (b : Nat) (c se sa : Addr) (many start : Nat) (ss said : List Nat), vs = [.ref c, .ref se, .ref sa] ∧ Kode b many start ∧ At3 K H c b many start ∧ SqL K H se (wsV ss) ∧ SqL K H sa (wsV said) ∧ Ws b said ∧ said.length = many ∧ ss.length ≤ many ∧ ss.Nodup ∧ (∀ x ∈ ss, x < nn b) ∧
  ∀ H' p r, Same H H' → H p = none → H' p = some (.lst (wsV r)) → r.length = ss.length → Ws b r → Q (.ref p) H'
section
variable {P : Program} {w : World} {K : PySem.W.Frag} {mg : Str → Option Value} {base : Heap} {k : Nat}
/-! amounts_at: slots 0 code, 1 seats, 2 said, 3 field, 4 many, 5 start, 6 lines, 7 step, 8 place; cells field start step -/
abbrev s_amounts_at : Stmt := topS 31
abbrev n_amounts_at : List Str := ["code", "seats", "said", "field", "many", "start", "lines", "step", "place"]
theorem sc_amounts_at : FnScope n_amounts_at ["code", "seats", "said"] (defScope s_amounts_at) := ⟨rfl, rfl, rfl, by decide +kernel, rfl, by decide +kernel, by decide +kernel⟩
theorem ok_amounts_at (D : Df K mg "amounts_at" s_amounts_at) (B : Blt mg) (c_power_table : Cal P w K mg base CX0 k "power_table" ["bits"] (sp_power_table K)) (c_power_of : Cal P w K mg base CX0 k "power_of" ["field", "place"] (sp_power_of K))
    (c_solved : Cal P w K mg base CX0 k "solved" ["field", "lines"] (sp_solved K)) : Cal P w K mg base CX0 (k + 1) "amounts_at" ["code", "seats", "said"] (sp_amounts_at K) := by
  refine D.cal sc_amounts_at (fun _ _ _ _ _ _ us hl => match us, hl with | [_, _, _], _ => rfl) (fun vs H Q E h => ?_) (fun f cdv A outer s H vs Q E hr h => ?_)
  · obtain ⟨b, c, se, sa, many, start, ss, said, rfl, h⟩ := h
    rfl
  · obtain ⟨b, c, se, sa, many, start, ss, said, rfl, hk, hc, hse, hsa, wsa, lsa, lss, nss, bss, q⟩ := h
    refine ⟨_, (pss_cons (ps_asg (pe_tup (pa_cons (pe_cal c_power_table hr pass0 (pa_cons (pe_ix ix_tup (pv 0) pe_int (fun _ _ => rfl)) pa_nil)) (pa_cons (pe_ix ix_tup (pv 0) pe_int (fun _ _ => rfl)) (pa_cons (pe_ix ix_tup (pv 0) pe_int (fun _ _ => rfl)) pa_nil)))) (pg_tup (by rfl) (pgs_cons (pg_name (i := 3) sc_amounts_at.nd rfl (Or.inr rfl)) (pgs_cons (pg_name (i := 4) sc_amounts_at.nd rfl (Or.inl rfl)) (pgs_cons (pg_name (i := 5) sc_amounts_at.nd rfl (Or.inr rfl)) pgs_nil)))))
      (pss_cons (ps_set (i := 6) sc_amounts_at.nd rfl (Or.inl rfl) (pe_lst pa_nil))
      (pss_cons (ps_for PassesOwn.never rfl (pi_range1 (by rfl) B.range_ (pa_cons (pe_callB call_len (by rfl) B.len_ (by decide +kernel) (pa_cons (pv 1) pa_nil)) pa_nil)) (pg_name (i := 7) sc_amounts_at.nd rfl (Or.inr rfl))
        (pss_one (ps_expr (pe_bm PySem.F.plainAttrs_list PySem.F.slot_list_append PySem.F.type_list_append mt_append (pv 6) (pa_cons (pe_op op_cat (pe_lc (own := [("place", 8)]) (g := (gName 8)) (tt := tYes) (te := (tCall (sp_power_of K) [] E0 (tCons (tVar 3) (tCons (tOp rMuI (tVar 8) (tOp rAdI (tVar 5) (tVar 7))) tNil)))) rfl sc_amounts_at.nd (pi_list (pv 1)) (blkOk_by (N := n_amounts_at) (sc := defScope s_amounts_at) (by decide +kernel)) (fun _ _ _ _ _ => by exact (pg_name (i := 8) sc_amounts_at.nd rfl (Or.inl rfl))) (fun _ _ _ _ _ => pts_nil) (fun _ _ _ _ _ => by exact (pe_cal c_power_of hr pass0 (pa_cons (pv 3) (pa_cons (pe_op op_mul (pv 8) (pe_op op_add (pv 5) (pv 7))) pa_nil))))) (pe_lst (pa_cons (pe_ix ix_list (pv 2) (pv 7) (fun _ _ => rfl)) pa_nil))) pa_nil)))))
      (pss_one (ps_ret (pe_cal c_solved hr pass0 (pa_cons (pv 3) (pa_cons (pv 6) pa_nil)))))))), ?_⟩
    have hb := hk.bt
    have hm := hk.le
    have hst := hk.st
    have h256 := pow_le hb
    have hnn := nn_le hb
    refine ⟨_, rfl, c, _, 0, nV b, rfl, rfl, hc, rfl, b, rfl, hb, fun H1 a s1 na hF => ?_⟩
    have c1 := Same.tup s1 hc
    refine ⟨_, rfl, c, _, 1, nV many, rfl, rfl, c1, rfl, _, rfl, c, _, 2, nV start, rfl, rfl, c1, rfl, by show 3 ≤ _; decide, fun T nT => ?_⟩
    have sT : Same H1 (upd H1 T (.tup [.ref a, nV many, nV start])) := same_new nT
    refine ⟨T, _, rfl, sq_t upd_same, rfl, _, _, rfl, _, _, rfl, _, _, rfl, rfl, ?_⟩
    have s2 := s1.trans sT
    have hF2 := hF.same sT
    generalize upd H1 T (.tup [.ref a, nV many, nV start]) = H2 at s2 hF2
    refine ⟨by show 0 ≤ _; decide, fun L nL => ?_⟩
    have sL := same_new (o := .lst []) nL
    have nLH : H L = none := s2.free nL
    have s3 := s2.trans sL
    refine ⟨_, rfl, _, ss.length, rfl, .inl ⟨_, s3.seq hse, (wsV_len _).symm⟩, (ss.length : Int), rfl, by omega, by omega, ?_⟩
    refine for_range (lo := 0) (n := ss.length) (fun i st H' => ∃ (ps : List Addr) (v7 v8 : Option V), st = [some (.ref c), some (.ref se), some (.ref sa), some (.ref a), some (nV many), some (nV start), some (.ref L), v7, v8] ∧ Same H2 H' ∧ H' L = some (.lst (ps.map V.ref)) ∧ ps.length = i ∧ ∀ (j : Nat) (p : Addr), ps[j]? = some p → p ≠ L ∧ H' p = some (.lst (wsV (lineA b start ss said j))))
      ⟨[], none, none, rfl, sL, upd_same, rfl, fun j p e => by cases e⟩ ?_ ?_
    · rintro i st H' hi ⟨ps, v7, v8, rfl, s4', hL, hps, hpr⟩
      have s4 := s2.trans s4'
      have hF4 := hF2.same s4'
      rw [Int.zero_add]
      refine ⟨.ref L, rfl, .inl ⟨rfl, _, sq_l hL⟩, _, rfl, se, rfl, ⟨_, s4.seq hse⟩, fun D hD => lcN (walk_list (K := K) (a := se) (xs := wsV ss)) (fun _ => true) (fun j => nV (pw b (ss.getD j 0 * (start + i)))) hD (by rw [wsV_len]; omega) (fun _ => rfl) (fun H' s' => (s4.trans s').seq hse) (fun j x Ha Hb hj s' y => ?_) (fun H5 s5 hD5 => ?_)⟩
      · obtain ⟨e1, e2⟩ := y
        subst e1
        obtain ⟨o, ho, rfl⟩ := wsV_inv e2
        rw [getD_of ho]
        have hob := bss o (List.mem_of_getElem? ho)
        refine ⟨Same.refl _, fun R hR => yes_all hR, fun _ H6 s6 Qk hQ => ⟨_, rfl, _, rfl, _, rfl, _, rfl, _, _, rfl, rfl, _, _, rfl, rfl, .inl ⟨by omega, by omega⟩, b, a, _, rfl, hb, (hF4.same s').same s6, ?_⟩⟩
        rw [show (o : Int) * ((start : Int) + (i : Int)) = ((o * (start + i) : Nat) : Int) by rw [Int.natCast_mul, Int.natCast_add], pwI_nat hb]
        exact hQ H6 (Same.refl _)
      rw [wsV_len, sel_map (fun x => pw b (x * (start + i)))] at hD5
      have s45 := s4.trans s5
      obtain ⟨y, hy⟩ : ∃ y, said[i]? = some y := ⟨_, List.getElem?_eq_getElem (by omega)⟩
      refine ⟨_, rfl, _, rfl, sa, _, _, nV y, rfl, rfl, s45.seq hsa, atI_nat (wsV_get hy), by show 1 ≤ _; decide, fun z nz => ?_⟩
      have sz := same_new (o := .lst [nV y]) nz
      refine ⟨D, z, _, _, rfl, rfl, sz _ _ hD5, upd_same, line_ok (by rw [wsV_len, List.length_map]; show _ + 1 ≤ _; omega), fun r nr => ?_⟩
      have er : wsV (ss.map fun x => pw b (x * (start + i))) ++ [nV y] = wsV (lineA b start ss said i) := by
        unfold lineA
        rw [wsV_app, getD_of hy]
        rfl
      rw [er]
      have sr := sz.trans (same_new (o := .lst (wsV (lineA b start ss said i))) nr)
      have s6 := s5.trans sr
      have hL6 := s6 _ _ hL
      have rL : r ≠ L := fun z => by
        have h5 := s5 _ _ hL
        have := sz _ _ h5
        rw [← z, nr] at this
        cases this
      have hr6 : (upd (upd H5 z (.lst [nV y])) r (.lst (wsV (lineA b start ss said i)))) r = some (.lst (wsV (lineA b start ss said i))) := upd_same
      generalize (upd (upd H5 z (.lst [nV y])) r (.lst (wsV (lineA b start ss said i)))) = H6 at s6 hL6 hr6
      refine ⟨L, _, _, rfl, rfl, hL6, line_lt (by rw [List.length_map]; omega), ?_⟩
      refine ⟨ps ++ [r], _, _, rfl, same_mut (s4'.trans s6) nL, ?_, by rw [List.length_append, hps]; rfl, fun j p e => ?_⟩
      · rw [upd_same, List.map_append]
        rfl
      · rcases snoc_get e with e | ⟨e, e2⟩
        · obtain ⟨h1, h2⟩ := hpr j p e
          refine ⟨h1, ?_⟩
          rw [upd_ne h1]
          exact s6 _ _ h2
        · subst e e2
          refine ⟨rL, ?_⟩
          rw [upd_ne rL, hps]
          exact hr6
    · rintro st H' ⟨ps, v7, v8, rfl, s4', hL, hps, hpr⟩
      have s4 := s2.trans s4'
      have hF4 := hF2.same s4'
      refine ⟨_, rfl, _, rfl, b, a, L, ss.length, matA b start ss said, rfl, hb, hF4, ⟨ps, hL, hps, fun i p e => ?_⟩, st_matA hb wsa nss bss, by omega, fun H5 p r s5 np hp hl hw => q H5 p r (s4.trans s5) (s4.free np) hp hl hw⟩
      have hi : i < ss.length := by
        obtain ⟨h, _⟩ := List.getElem?_eq_some_iff.mp e
        omega
      rw [row_matA hi]
      exact hpr i p e
end
end Tw

namespace Tw
open PySem PySem.Spec PyProof.Rows L2
theorem flat_ws : ∀ l : List Nat, (wsV l).all flatV = true
  | [] => rfl
  | x :: l => by
    show (true && (wsV l).all flatV) = true
    rw [flat_ws l]
    rfl
theorem inV_ws {x : Nat} {l : List Nat} (h : inV (nV x) (wsV l) = false) : x ∉ l := fun hx => by
  have : inV (nV x) (wsV l) = true := List.any_eq_true.mpr ⟨nV x, List.mem_map.mpr ⟨x, hx, rfl⟩, by
    show ((x : Int) == (x : Int)) = true
    exact beq_self_eq_true _⟩
  rw [this] at h
  cases h
theorem sel_nil {n : Nat} {f : Nat → Bool} {v : Nat → Nat} (h : ((List.range n).filter f).map v = []) {i : Nat} (hi : i < n) : f i = false := by
  have h' := List.map_eq_nil_iff.mp h
  cases e : f i with
  | false => rfl
  | true =>
    have : i ∈ (List.range n).filter f := List.mem_filter.mpr ⟨List.mem_range.mpr hi, e⟩
    rw [h'] at this
    cases this
theorem sel_ws (n : Nat) (f : Nat → Bool) (v : Nat → Nat) : sel n f (fun i => nV (v i)) = wsV (((List.range n).filter f).map v) := by
  unfold sel wsV
  rw [List.map_map]
  rfl
theorem Ws_drop {b i : Nat} {l : List Nat} (h : Ws b l) : Ws b (l.drop i) := fun x hx => h x (List.mem_of_mem_drop hx)
theorem Ws_rev {b : Nat} {l : List Nat} (h : Ws b l) : Ws b l.reverse := fun x hx => h x (List.mem_reverse.mp hx)
def sp_wrong_places (K : PySem.W.Frag) : Sp := fun vs H Q _ => ∃ (b : Nat) (c ga sa : Addr) (many start n : Nat) (gs said : List Nat), vs = [.ref c, nV n, .ref ga, .ref sa] ∧ Kode b many start ∧ At3 K H c b many start ∧ SqL K H ga (wsV gs) ∧ SqL K H sa (wsV said) ∧ Ws b said ∧ said.length = many ∧ gs.length ≤ many ∧ n ≤ nn b ∧
  (∀ H', Same H H' → Q .non H') ∧ ∀ H' p ss, Same H H' → H p = none → H' p = some (.lst (wsV ss)) → ss.Nodup → (∀ x ∈ ss, x < n ∧ x ∉ gs) → 2 * ss.length + gs.length ≤ many → Q (.ref p) H'
section
variable {P : Program} {w : World} {K : PySem.W.Frag} {mg : Str → Option Value} {base : Heap} {k : Nat}
/-! wrong_places: slots 0 code, 1 length, 2 gaps, 3 said, 4 field, 5 many, 6 start, 7 known, 8 place, 9 amount, 10 scheme, 11 seats; cells gaps -/
abbrev s_wrong_places : Stmt := topS 32
abbrev n_wrong_places : List Str := ["code", "length", "gaps", "said", "field", "many", "start", "known", "place", "amount", "scheme", "seats"]
theorem sc_wrong_places : FnScope n_wrong_places ["code", "length", "gaps", "said"] (defScope s_wrong_places) := ⟨rfl, rfl, rfl, by decide +kernel, rfl, by decide +kernel, by decide +kernel⟩
theorem ok_wrong_places (D : Df K mg "wrong_places" s_wrong_places) (B : Blt mg) (c_power_table : Cal P w K mg base CX0 k "power_table" ["bits"] (sp_power_table K)) (c_power_of : Cal P w K mg base CX0 k "power_of" ["field", "place"] (sp_power_of K))
    (c_times_poly : Cal P w K mg base CX0 k "times_poly" ["field", "one", "other", "most"] (sp_times_poly K)) (c_shortest_rule : Cal P w K mg base CX0 k "shortest_rule" ["field", "some"] (sp_shortest_rule K)) (c_value_at : Cal P w K mg base CX0 k "value_at" ["field", "row", "at"] (sp_value_at K)) :
    Cal P w K mg base CX0 (k + 1) "wrong_places" ["code", "length", "gaps", "said"] (sp_wrong_places K) := by
  refine D.cal sc_wrong_places (fun _ _ _ _ _ _ us hl => match us, hl with | [_, _, _, _], _ => rfl) (fun vs H Q E h => ?_) (fun f cdv A outer s H vs Q E hr h => ?_)
  · obtain ⟨b, c, ga, sa, many, start, n, gs, said, rfl, h⟩ := h
    rfl
  · obtain ⟨b, c, ga, sa, many, start, n, gs, said, rfl, hk, hc, hga, hsa, wsa, lsa, lgs, hn, q1, q2⟩ := h
    refine ⟨_, (pss_cons (ps_par3 (i := 4) (j := 5) (l := 6) rfl sc_wrong_places.nd rfl rfl rfl (by decide) (by decide) (by decide) rfl rfl rfl (pa_cons (pe_cal c_power_table hr pass0 (pa_cons (pe_ix ix_tup (pv 0) pe_int (fun _ _ => rfl)) pa_nil)) (pa_cons (pe_ix ix_tup (pv 0) pe_int (fun _ _ => rfl)) (pa_cons (pe_ix ix_tup (pv 0) pe_int (fun _ _ => rfl)) pa_nil))) (by rfl))
      (pss_cons (ps_set (i := 7) sc_wrong_places.nd rfl (Or.inl rfl) (pe_lst (pa_cons pe_int pa_nil)))
      (pss_cons (ps_for PassesOwn.never rfl (pi_list (pv 2)) (pg_name (i := 8) sc_wrong_places.nd rfl (Or.inl rfl))
        (pss_one (ps_set (i := 7) sc_wrong_places.nd rfl (Or.inl rfl) (pe_cal c_times_poly hr pass0 (pa_cons (pv 4) (pa_cons (pv 7) (pa_cons (pe_lst (pa_cons pe_int (pa_cons (pe_cal c_power_of hr pass0 (pa_cons (pv 4) (pa_cons (pv 8) pa_nil))) pa_nil))) (pa_cons (pe_op op_add (pe_callB call_len (by rfl) B.len_ (by decide +kernel) (pa_cons (pv 7) pa_nil)) pe_int) pa_nil))))))))
      (pss_cons (ps_asg (pe_cal c_shortest_rule hr pass0 (pa_cons (pv 4) (pa_cons (pe_slice sl_list (pe_cal c_times_poly hr pass0 (pa_cons (pv 4) (pa_cons (pv 3) (pa_cons (pv 7) (pa_cons (pv 5) pa_nil))))) (po_some (pe_callB call_len (by rfl) B.len_ (by decide +kernel) (pa_cons (pv 2) pa_nil))) po_none) pa_nil))) (pg_tup (by rfl) (pgs_cons (pg_name (i := 9) sc_wrong_places.nd rfl (Or.inl rfl)) (pgs_cons (pg_name (i := 10) sc_wrong_places.nd rfl (Or.inl rfl)) pgs_nil))))
      (pss_cons (ps_if (pt_cmpR op_gt (pe_op op_add (pe_op op_mul pe_int (pv 9)) (pe_callB call_len (by rfl) B.len_ (by decide +kernel) (pa_cons (pv 2) pa_nil))) (pv 5) (nomark _))
        (pss_one (ps_ret pe_non))
        pss_nil)
      (pss_cons (ps_set (i := 11) sc_wrong_places.nd rfl (Or.inl rfl) (pe_lst pa_nil))
      (pss_cons (ps_for PassesOwn.never rfl (pi_range1 (by rfl) B.range_ (pa_cons (pv 1) pa_nil)) (pg_name (i := 8) sc_wrong_places.nd rfl (Or.inl rfl))
        (pss_one (ps_if (pt_cmpR op_eq (pe_cal c_value_at hr pass0 (pa_cons (pv 4) (pa_cons (pe_revL (pv 10)) (pa_cons (pe_cal c_power_of hr pass0 (pa_cons (pv 4) (pa_cons (pe_op op_sub pe_int (pv 8)) pa_nil))) pa_nil)))) pe_int (nomark _))
        (pss_one (ps_expr (pe_bm PySem.F.plainAttrs_list PySem.F.slot_list_append PySem.F.type_list_append mt_append (pv 11) (pa_cons (pv 8) pa_nil))))
        pss_nil)))
      (pss_one (ps_ret (pe_ifExp (PW.pt (pw_and (pt_cmpR op_eq (pe_callB call_len (by rfl) B.len_ (by decide +kernel) (pa_cons (pv 11) pa_nil)) (pv 9) (nomark _)) (pw_and1 (pt_cmpR (op_eqD hr.units) (pe_lc (own := [("place", 8)]) (g := (gName 8)) (tt := (tTest (tOp (rIn K false) (tVar 8) (tVar 2)))) (te := (tVar 8)) rfl sc_wrong_places.nd (pi_list (pv 11)) (blkOk_by (N := n_wrong_places) (sc := defScope s_wrong_places) (by decide +kernel)) (fun _ _ _ _ _ => by exact (pg_name (i := 8) sc_wrong_places.nd rfl (Or.inl rfl))) (fun _ _ _ _ _ => by exact (pts_one (pt_cmpR op_in_seq (pv 8) (pv 2) (by rfl)))) (fun _ _ _ _ _ => by exact (pv 8))) (pe_lst pa_nil) (nomark _))))) (pv 11) pe_non)))))))))), ?_⟩
    have hb := hk.bt
    have hm := hk.le
    have hnn := nn_le hb
    refine ⟨_, rfl, c, _, 0, nV b, rfl, rfl, hc, rfl, b, rfl, hb, fun H1 a s1 na hF => ?_⟩
    have c1 := Same.tup s1 hc
    refine ⟨_, rfl, c, _, 1, nV many, rfl, rfl, c1, rfl, _, rfl, c, _, 2, nV start, rfl, rfl, c1, rfl, _, _, _, rfl, ?_⟩
    refine ⟨by show 1 ≤ _; decide, fun k0 nk0 => ?_⟩
    have sk := s1.trans (same_new (o := .lst [.int 1]) nk0)
    have hF1 := hF.same (same_new (o := .lst [.int 1]) nk0)
    -- known
    refine ⟨_, rfl, ga, rfl, ⟨_, sk.seq hga⟩, for_list (K := K) (a := ga) (xs := wsV gs) (fun i st H' => ∃ (kn : Addr) (l : List Nat) (v8 : Option V), st = [some (.ref c), some (nV n), some (.ref ga), some (.ref sa), some (.ref a), some (nV many), some (nV start), some (.ref kn), v8, none, none, none] ∧ Same H H' ∧ Fld b K H' a ∧ H' kn = some (.lst (wsV l)) ∧ Ws b l ∧ l.length = i + 1)
      ⟨k0, [1], none, rfl, sk, hF1, upd_same, Ws_cons (one_lt hb) Ws_nil, rfl⟩ ?_ ?_ ?_⟩
    · rintro i st H' _ ⟨_, _, _, _, sm, _⟩
      exact sm.seq hga
    · rintro i y st H' hi ⟨kn, l, v8, rfl, s2, hF2, hkn, lw, ll⟩
      obtain ⟨u, hu, rfl⟩ := wsV_inv hi
      have hig : i < gs.length := (List.getElem?_eq_some_iff.mp hu).1
      refine ⟨_, rfl, _, rfl, _, rfl, _, rfl, b, a, _, rfl, hb, hF2, by show 2 ≤ _; decide, fun z nz => ?_⟩
      have sz := same_new (o := .lst [.int 1, nV (pwI b (u : Int))]) nz
      refine ⟨_, rfl, _, l.length, rfl, .inl ⟨_, sq_l (sz _ _ hkn), (wsV_len _).symm⟩, _, _, rfl, rfl, ?_⟩
      refine ⟨b, a, kn, z, l, [1, pwI b (u : Int)], l.length + 1, rfl, hb, hF2.same sz, sq_l (sz _ _ hkn), sq_l upd_same, lw, Ws_cons (one_lt hb) (Ws_cons (pwI_lt hb _) Ws_nil), by omega, fun H3 p r s3 np hp hl hw => ?_⟩
      exact ⟨p, r, _, rfl, s2.trans (sz.trans s3), (hF2.same sz).same s3, hp, hw, by omega⟩
    · rintro st H2 ⟨kn, l, v8, rfl, s2, hF2, hkn, lw, ll⟩
      rw [wsV_len] at ll
      refine ⟨_, rfl, _, rfl, _, rfl, _, rfl, _, rfl, b, a, sa, kn, said, l, many, rfl, hb, hF2, s2.seq hsa, sq_l hkn, wsa, lw, by omega, fun H3 p r s3 np hp hl hw => ?_⟩
      have s23 := s2.trans s3
      have hF3 := hF2.same s3
      refine ⟨_, rfl, _, gs.length, rfl, .inl ⟨_, s23.seq hga, (wsV_len _).symm⟩, (gs.length : Nat), rfl, p, _, rfl, sq_l hp, fun x nx => ?_⟩
      rw [cut_from (by rw [wsV_len]; omega), show (wsV r).drop gs.length = wsV (r.drop gs.length) from List.map_drop.symm]
      have sx := same_new (o := .lst (wsV (r.drop gs.length))) nx
      refine ⟨b, a, x, r.drop gs.length, rfl, hb, hF3.same sx, sq_l upd_same, Ws_drop hw, by rw [List.length_drop]; omega, fun H5 t len sc S s5 ht hsc hSw hSl hlen => ?_⟩
      rw [List.length_drop] at hlen
      refine ⟨t, _, rfl, sq_t ht, rfl, _, _, rfl, _, _, rfl, rfl, ?_⟩
      have s25 := s23.trans (sx.trans s5)
      have hF5 := (hF3.same sx).same s5
      refine ⟨_, rfl, _, _, rfl, rfl, .inl ⟨by omega, by omega⟩, _, rfl, _, gs.length, rfl, .inl ⟨_, s25.seq hga, (wsV_len _).symm⟩, _, _, rfl, rfl, _, rfl, _, _, rfl, rfl, _, rfl, ite2 (fun d => ?_) (fun d => ?_)⟩
      · exact q1 H5 s25
      · have d' : 2 * len + gs.length ≤ many := by
          refine Classical.byContradiction fun z => d (decide_eq_true ?_)
          omega
        refine ⟨by show 0 ≤ _; decide, fun L nL => ?_⟩
        have sL := same_new (o := .lst []) nL
        have nLH := s25.free nL
        refine ⟨_, rfl, n, rfl, by omega, by omega, for_range (lo := 0) (n := n) (fun i st H' => ∃ (ss : List Nat) (v8 : Option V), st = [some (.ref c), some (nV n), some (.ref ga), some (.ref sa), some (.ref a), some (nV many), some (nV start), some (.ref kn), v8, some (nV len), some (.ref sc), some (.ref L)] ∧ Same H5 H' ∧ H' L = some (.lst (wsV ss)) ∧ ss.Nodup ∧ (∀ x ∈ ss, x < i) ∧ ss.length ≤ i)
          ⟨[], _, rfl, sL, upd_same, List.nodup_nil, (fun x hx => nomatch hx), Nat.zero_le _⟩ ?_ ?_⟩
        · rintro i st H' hi ⟨ss, v8, rfl, s6, hL, nss, bss, lss⟩
          rw [Int.zero_add]
          refine ⟨_, rfl, _, rfl, sc, _, rfl, sq_l (s6 _ _ hsc), fun rv nrv => ?_⟩
          have srv := same_new (o := .lst (wsV S).reverse) nrv
          have hF7 := (hF5.same s6).same srv
          refine ⟨_, rfl, _, rfl, _, _, rfl, rfl, b, a, _, rfl, hb, hF7, b, a, rv, S.reverse, _, rfl, hb, hF7, .inl (sq_l ?_), Ws_rev hSw, pwI_lt hb _, rfl, _, rfl, ite2 (fun e => ?_) (fun e => ?_)⟩
          · rw [upd_same]
            unfold wsV
            rw [List.map_reverse]
          · have hL7 := srv _ _ hL
            refine ⟨.ref L, rfl, .inl ⟨rfl, _, sq_l hL7⟩, _, rfl, L, _, _, rfl, rfl, hL7, line_lt (by rw [wsV_len]; omega), ?_⟩
            refine ⟨ss ++ [i], _, rfl, same_mut (s6.trans srv) nL, ?_, ?_, fun x hx => ?_, by rw [List.length_append]; show _ + 1 ≤ _; omega⟩
            · rw [upd_same, wsV_app]
              rfl
            · refine List.nodup_append.mpr ⟨nss, List.nodup_cons.mpr ⟨(fun z => nomatch z), List.nodup_nil⟩, fun x hx y hy => ?_⟩
              rw [List.mem_singleton.mp hy]
              have := bss x hx
              omega
            · rcases List.mem_append.mp hx with hx | hx
              · have := bss x hx
                omega
              · rw [List.mem_singleton.mp hx]
                omega
          · exact ⟨ss, _, rfl, s6.trans srv, srv _ _ hL, nss, fun x hx => by have := bss x hx; omega, by omega⟩
        · rintro st H6 ⟨ss, v8, rfl, s6, hL, nss, bss, lss⟩
          have s26 := s25.trans s6
          refine ⟨_, rfl, _, ss.length, rfl, .inl ⟨_, sq_l hL, (wsV_len _).symm⟩, _, rfl, rfl, _, rfl, ite2 (fun e => ?_) (fun e => ?_)⟩
          · have e' : ss.length = len := Int.ofNat.inj (V.int.inj (of_decide_eq_true e))
            refine ⟨_, rfl, L, rfl, ⟨_, sq_l hL⟩, fun D hD => lcN (walk_list (K := K) (a := L) (xs := wsV ss)) (fun i => inV (nV (ss.getD i 0)) (wsV gs)) (fun i => nV (ss.getD i 0)) hD (by rw [wsV_len]; omega) (fun _ => rfl) (fun H' s' => sq_l (s' _ _ hL)) (fun i x Ha Hb hi s' y => ?_) (fun H7 s7 hD7 => ?_)⟩
            · obtain ⟨e1, e2⟩ := y
              subst e1
              obtain ⟨o, ho, rfl⟩ := wsV_inv e2
              rw [getD_of ho]
              exact ⟨Same.refl _, fun R hR => ⟨_, rfl, _, rfl, ga, _, rfl, .inl ((s26.trans s').seq hga), rfl, flat_ws gs, _, rfl, hR _ (Same.refl _)⟩, fun _ H6 s6 Qk hQ => ⟨_, rfl, hQ H6 (Same.refl _)⟩⟩
            rw [wsV_len, sel_ws] at hD7
            refine ⟨by show 0 ≤ _; decide, fun z nz => ?_⟩
            have sz := same_new (o := .lst []) nz
            refine ⟨_, _, Dp.ws (sq_l (sz _ _ hD7)), Dp.ws (l := []) (sq_l upd_same), sh_ws _, sh_ws _, _, rfl, ?_⟩
            rw [eqv_ws]
            refine ite2 (fun g => ?_) (fun g => ?_)
            · have g' := of_decide_eq_true g
              refine ⟨_, rfl, q2 _ L ss (s26.trans (s7.trans sz)) nLH (sz _ _ (s7 _ _ hL)) nss (fun x hx => ⟨bss x hx, ?_⟩) (by omega)⟩
              obtain ⟨i, hi, rfl⟩ := List.getElem_of_mem hx
              have := sel_nil (f := fun i => inV (nV (ss.getD i 0)) (wsV gs)) g' hi
              rw [getD_of (List.getElem?_eq_getElem hi)] at this
              exact inV_ws this
            · exact q1 _ (s26.trans (s7.trans sz))
          · exact q1 H6 s26
end
end Tw

namespace Tw
open PySem PySem.Spec PyProof.Rows L2
def gapF (gs : List (Option Nat)) (i : Nat) : Bool := (gs.getD i none).isNone
def gapL (gs : List (Option Nat)) : List Nat := ((List.range gs.length).filter (gapF gs)).map fun i => gs.length - 1 - i
theorem gapL_len (gs : List (Option Nat)) : (gapL gs).length = gs.countP Option.isNone := by
  have e : gs = (List.range gs.length).map fun i => gs.getD i none := by
    refine List.ext_getElem? fun i => ?_
    by_cases hi : i < gs.length
    · rw [List.getElem?_map, List.getElem?_range hi, List.getElem?_eq_getElem hi]
      show _ = some (gs.getD i none)
      rw [getD_of (List.getElem?_eq_getElem hi)]
    · rw [List.getElem?_eq_none (by omega), List.getElem?_eq_none (by rw [List.length_map, List.length_range]; omega)]
  have h : gs.countP Option.isNone = ((List.range gs.length).map fun i => gs.getD i none).countP Option.isNone := by rw [← e]
  rw [h, List.countP_map, List.countP_eq_length_filter]
  unfold gapL
  rw [List.length_map]
  rfl
theorem gapL_lt {gs : List (Option Nat)} {x : Nat} (h : x ∈ gapL gs) : x < gs.length := by
  obtain ⟨i, hi, rfl⟩ := List.mem_map.mp h
  have := List.mem_range.mp (List.mem_filter.mp hi).1
  omega
theorem gapL_nd (gs : List (Option Nat)) : (gapL gs).Nodup := by
  unfold gapL
  refine List.pairwise_map.mpr ?_
  refine List.Pairwise.imp_of_mem (R := (· < ·)) (fun {a b} ha hb h => ?_) (List.Pairwise.filter _ List.pairwise_lt_range)
  have h1 := List.mem_range.mp (List.mem_filter.mp ha).1
  have h2 := List.mem_range.mp (List.mem_filter.mp hb).1
  omega
theorem gapL_ne {gs : List (Option Nat)} {x : Nat} (hx : x < gs.length) (h : x ∉ gapL gs) : ∃ y, gs[gs.length - 1 - x]? = some (some y) := by
  have hi : gs.length - 1 - x < gs.length := by omega
  cases e : gs[gs.length - 1 - x]? with
  | none =>
    rw [List.getElem?_eq_getElem hi] at e
    cases e
  | some o =>
    cases o with
    | some y => exact ⟨y, rfl⟩
    | none =>
      refine absurd (List.mem_map.mpr ⟨gs.length - 1 - x, List.mem_filter.mpr ⟨List.mem_range.mpr hi, ?_⟩, by omega⟩) h
      unfold gapF
      rw [getD_of e]
      rfl
def fillL (gs : List (Option Nat)) : List Nat := gs.map fun o => o.getD 0
theorem Ws_fill {b : Nat} {gs : List (Option Nat)} (h : ∀ (x : Nat), some x ∈ gs → x < 2 ^ b) : Ws b (fillL gs) := fun x hx => by
  obtain ⟨o, ho, rfl⟩ := List.mem_map.mp hx
  cases o with
  | none => exact zero_lt
  | some y => exact h y ho
def intsL (l : List Nat) : List Int := l.map fun (x : Nat) => (x : Int)
theorem intsL_V (l : List Nat) : (intsL l).map V.int = wsV l := by
  unfold intsL wsV
  rw [List.map_map]
  rfl
def sp_repaired_in (K : PySem.W.Frag) : Sp := fun vs H Q _ => ∃ (b : Nat) (c r : Addr) (many start : Nat) (gs : List (Option Nat)), vs = [.ref c, .ref r] ∧ Kode b many start ∧ At3 K H c b many start ∧ SqL K H r (gs.map gN) ∧ (∀ (x : Nat), some x ∈ gs → x < 2 ^ b) ∧ many < gs.length ∧ gs.length ≤ nn b ∧
  (∀ H', Same H H' → Q .non H') ∧ ∀ H' t f cc xs, Same H H' → H' t = some (.tup [.ref f, .ref cc]) → H' cc = some (.tup xs) → 2 * xs.length + gs.countP Option.isNone ≤ many → Q (.ref t) H'
section
variable {P : Program} {w : World} {K : PySem.W.Frag} {mg : Str → Option Value} {base : Heap} {k : Nat}
/-! repaired_in: slots 0 code, 1 row, 2 last, 3 gaps, 4 found, 5 said, 6 seats, 7 place, 8 word, 9 changed, 10 index; cells found last row -/
abbrev s_repaired_in : Stmt := topS 33
abbrev n_repaired_in : List Str := ["code", "row", "last", "gaps", "found", "said", "seats", "place", "word", "changed", "index"]
theorem sc_repaired_in : FnScope n_repaired_in ["code", "row"] (defScope s_repaired_in) := ⟨rfl, rfl, rfl, by decide +kernel, rfl, by decide +kernel, by decide +kernel⟩
theorem ok_repaired_in (D : Df K mg "repaired_in" s_repaired_in) (B : Blt mg) (c_syndromes_in : Cal P w K mg base CX0 k "syndromes_in" ["code", "row"] (sp_syndromes_in K)) (c_wrong_places : Cal P w K mg base CX0 k "wrong_places" ["code", "length", "gaps", "said"] (sp_wrong_places K))
    (c_amounts_at : Cal P w K mg base CX0 k "amounts_at" ["code", "seats", "said"] (sp_amounts_at K)) : Cal P w K mg base CX0 (k + 1) "repaired_in" ["code", "row"] (sp_repaired_in K) := by
  refine D.cal sc_repaired_in (fun _ _ _ _ _ _ us hl => match us, hl with | [_, _], _ => rfl) (fun vs H Q E h => ?_) (fun f cdv A outer s H vs Q E hr h => ?_)
  · obtain ⟨b, c, r, many, start, gs, rfl, h⟩ := h
    rfl
  · obtain ⟨b, c, r, many, start, gs, rfl, hk, hc, hrow, hgw, hn1, hn2, q1, q2⟩ := h
    refine ⟨_, (pss_cons (ps_set (i := 2) sc_repaired_in.nd rfl (Or.inr rfl) (pe_op op_sub (pe_callB call_len (by rfl) B.len_ (by decide +kernel) (pa_cons (pv 1) pa_nil)) pe_int))
      (pss_cons (ps_setLc (i := 3) (own := [("index", 10), ("word", 8)]) (g := (gTup K 2 (gCons (gName 10) (gCons (gName 8) gNil)))) (tt := (tTest (tOp rIsNo (tVar 8) (tC .non)))) (te := (tOp rSuI (tVar 2) (tVar 10))) rfl sc_repaired_in.nd rfl rfl (sw_true rfl rfl rfl (by decide +kernel)) (pi_enum (by rfl) B.enumerate_ (pa_cons (pv 1) pa_nil)) (blkOk_by (N := n_repaired_in) (sc := defScope s_repaired_in) (by decide +kernel)) (fun _ _ _ _ _ => by exact (pg_tup (by rfl) (pgs_cons (pg_name (i := 10) sc_repaired_in.nd rfl (Or.inl rfl)) (pgs_cons (pg_name (i := 8) sc_repaired_in.nd rfl (Or.inl rfl)) pgs_nil)))) (fun _ _ _ _ _ => by exact (pts_one (pt_cmpR op_isN (pv 8) pe_non (nomark _)))) (fun _ _ _ _ _ => by exact (pe_op op_sub (pv 2) (pv 10))))
      (pss_cons (ps_set (i := 4) sc_repaired_in.nd rfl (Or.inr rfl) (pe_lc (own := [("word", 8)]) (g := (gName 8)) (tt := tYes) (te := (tIf (tTest (tOp rIsNo (tVar 8) (tC .non))) (tC (.int 0)) (tVar 8))) rfl sc_repaired_in.nd (pi_list (pv 1)) (blkOk_by (N := n_repaired_in) (sc := defScope s_repaired_in) (by decide +kernel)) (fun _ _ _ _ _ => by exact (pg_name (i := 8) sc_repaired_in.nd rfl (Or.inl rfl))) (fun _ _ _ _ _ => pts_nil) (fun _ _ _ _ _ => by exact (pe_ifExp (pt_cmpR op_isN (pv 8) pe_non (nomark _)) pe_int (pv 8)))))
      (pss_cons (ps_if (pt_cmpR op_gt (pe_callB call_len (by rfl) B.len_ (by decide +kernel) (pa_cons (pv 3) pa_nil)) (pe_ix ix_tup (pv 0) pe_int (fun _ _ => rfl)) (nomark _))
        (pss_one (ps_ret pe_non))
        pss_nil)
      (pss_cons (ps_set (i := 5) sc_repaired_in.nd rfl (Or.inl rfl) (pe_cal c_syndromes_in hr pass0 (pa_cons (pv 0) (pa_cons (pv 4) pa_nil))))
      (pss_cons (ps_set (i := 6) sc_repaired_in.nd rfl (Or.inl rfl) (pe_cal c_wrong_places hr pass0 (pa_cons (pv 0) (pa_cons (pe_callB call_len (by rfl) B.len_ (by decide +kernel) (pa_cons (pv 1) pa_nil)) (pa_cons (pv 3) (pa_cons (pv 5) pa_nil))))))
      (pss_cons (ps_if (pt_cmpR op_isN (pv 6) pe_non (nomark _))
        (pss_one (ps_ret pe_non))
        pss_nil)
      (pss_cons (ps_for PassesOwn.never rfl (pi_zip (by rfl) B.zip_ (pa_cons (pe_op op_cat (pv 6) (pv 3)) (pa_cons (pe_cal c_amounts_at hr pass0 (pa_cons (pv 0) (pa_cons (pe_op op_cat (pv 6) (pv 3)) (pa_cons (pv 5) pa_nil)))) pa_nil))) (pg_tup (by rfl) (pgs_cons (pg_name (i := 7) sc_repaired_in.nd rfl (Or.inl rfl)) (pgs_cons (pg_name (i := 8) sc_repaired_in.nd rfl (Or.inl rfl)) pgs_nil)))
        (pss_one (ps_asg (pe_op op_xor (pe_ix ix_list (pv 4) (pe_op op_sub (pv 2) (pv 7)) (fun _ _ => rfl)) (pv 8)) (pg_sub (pv 4) (pe_op op_sub (pv 2) (pv 7)) set_list))))
      (pss_cons (ps_setLc (i := 9) (own := [("place", 7)]) (g := (gName 7)) (tt := tYes) (te := (tOp rSuI (tVar 2) (tVar 7))) rfl sc_repaired_in.nd rfl rfl (sw_true rfl rfl rfl (by decide +kernel)) (pi_list (pv 6)) (blkOk_by (N := n_repaired_in) (sc := defScope s_repaired_in) (by decide +kernel)) (fun _ _ _ _ _ => by exact (pg_name (i := 7) sc_repaired_in.nd rfl (Or.inl rfl))) (fun _ _ _ _ _ => pts_nil) (fun _ _ _ _ _ => by exact (pe_op op_sub (pv 2) (pv 7))))
      (pss_cons (ps_if (PW.pt (pw_or (pt_cmpR (op_neD hr.units) (pe_cal c_syndromes_in hr pass0 (pa_cons (pv 0) (pa_cons (pv 4) pa_nil))) (pe_op op_rep (pe_lst (pa_cons pe_int pa_nil)) (pe_ix ix_tup (pv 0) pe_int (fun _ _ => rfl))) (nomark _)) (pw_or1 (pt_cmpR (op_neD hr.units) (pe_lc (own := [("index", 10)]) (g := (gName 10)) (tt := (tTest (tOp rEq (tOp (rIxL K) (tVar 4) (tVar 10)) (tOp (rIxL K) (tVar 1) (tVar 10))))) (te := (tVar 10)) rfl sc_repaired_in.nd (pi_list (pv 9)) (blkOk_by (N := n_repaired_in) (sc := defScope s_repaired_in) (by decide +kernel)) (fun _ _ _ _ _ => by exact (pg_name (i := 10) sc_repaired_in.nd rfl (Or.inl rfl))) (fun _ _ _ _ _ => by exact (pts_one (pt_cmpR op_eq (pe_ix ix_list (pv 4) (pv 10) (fun _ _ => rfl)) (pe_ix ix_list (pv 1) (pv 10) (fun _ _ => rfl)) (nomark _)))) (fun _ _ _ _ _ => by exact (pv 10))) (pe_lst pa_nil) (nomark _)))))
        (pss_one (ps_ret pe_non))
        pss_nil)
      (pss_one (ps_ret (pe_tup (pa_cons (pv 4) (pa_cons (pe_callTy call_tuple_of (by rfl) B.tuple_ (by decide +kernel) (pa_cons (pe_callB cr_sortedI (by rfl) B.sorted_ (by decide +kernel) (pa_cons (pv 9) pa_nil)) pa_nil)) pa_nil))))))))))))))), ?_⟩
    have hb := hk.bt
    have hm := hk.le
    have hm0 := hk.m0
    have hnn := nn_le hb
    have gl : (gs.map gN).length = gs.length := List.length_map ..
    -- last
    refine ⟨_, rfl, _, gs.length, rfl, .inl ⟨_, hrow, gl.symm⟩, _, _, rfl, rfl, ?_⟩
    dsimp only
    rw [show ((gs.length : Nat) : Int) - 1 = ((gs.length - 1 : Nat) : Int) by omega]
    -- gaps
    refine ⟨_, rfl, r, _, rfl, hrow, fun G nG => lcP (K := K) (walk_enum (K := K) (a := r) (xs := gs.map gN)) (gapF gs) (fun i => nV (gs.length - 1 - i)) nG (by rw [gl]; omega) (fun _ _ => rfl) (fun H' s => s.seq hrow) (fun i x y H' hi hx hy s' => ?_) (fun H1 s1 hG => ?_)⟩
    · have hx' := Option.some.inj hx
      subst hx'
      obtain ⟨g, hg, rfl⟩ := gN_inv hy
      rw [gl] at hi
      refine ⟨fun R hR => ⟨_, rfl, rfl, _, rfl, ?_⟩, fun _ H3 s3 Qk hQ => ⟨_, rfl, _, rfl, _, _, rfl, rfl, ?_⟩⟩
      · have e : decide (gN g = V.non) = gapF gs i := by
          unfold gapF
          rw [getD_of hg]
          cases g with
          | none => rfl
          | some z => exact decide_eq_false fun z => nomatch z
        rw [e]
        exact hR _ (Same.refl _)
      · dsimp only
        rw [show ((gs.length - 1 : Nat) : Int) - ((i : Nat) : Int) = ((gs.length - 1 - i : Nat) : Int) by omega]
        exact hQ H3 (Same.refl H3)
    rw [gl, sel_ws (v := fun i => gs.length - 1 - i)] at hG
    have hG' : H1 G = some (.lst (wsV (gapL gs))) := hG
    clear hG
    -- found
    refine ⟨_, rfl, r, rfl, ⟨_, s1.seq hrow⟩, fun F nF => lcN (walk_list (K := K) (a := r) (xs := gs.map gN)) (fun _ => true) (fun i => nV ((fillL gs).getD i 0)) nF (by rw [gl]; omega) (fun _ => rfl) (fun H' s' => (s1.trans s').seq hrow) (fun i x Ha Hb hi s' y => ?_) (fun H2 s2 hF => ?_)⟩
    · obtain ⟨e1, e2⟩ := y
      subst e1
      obtain ⟨g, hg, rfl⟩ := gN_inv e2
      have hgf : (fillL gs).getD i 0 = g.getD 0 := getD_of (by unfold fillL; rw [List.getElem?_map, hg]; rfl)
      rw [hgf]
      refine ⟨Same.refl _, fun R hR => yes_all hR, fun _ H6 s6 Qk hQ => ?_⟩
      cases g with
      | none => exact ⟨_, rfl, rfl, _, rfl, iteT (hQ H6 (Same.refl _))⟩
      | some z =>
        refine ⟨_, rfl, rfl, _, rfl, ?_⟩
        have e : decide (gN (some z) = V.non) = false := decide_eq_false fun z => nomatch z
        rw [e]
        exact iteF ⟨_, rfl, hQ H6 (Same.refl _)⟩
    have fl : (fillL gs).length = gs.length := by unfold fillL; rw [List.length_map]
    rw [gl, ← fl, sel_map (fun x => x), List.map_id'] at hF
    have fw := Ws_fill hgw
    have nFH : H F = none := s1.free nF
    have s12 := s1.trans s2
    have hG2 := s2 _ _ hG'
    refine ⟨_, rfl, _, (gapL gs).length, rfl, .inl ⟨_, sq_l hG2, (wsV_len _).symm⟩, _, rfl, c, _, 1, nV many, rfl, rfl, Same.tup s12 hc, rfl, _, _, rfl, rfl, _, rfl, ite2 (fun d => ?_) (fun d => ?_)⟩
    · exact q1 H2 s12
    have d' : (gapL gs).length ≤ many := by
      refine Classical.byContradiction fun z => d (decide_eq_true ?_)
      omega
    -- said
    refine ⟨_, rfl, _, rfl, b, c, F, many, start, fillL gs, rfl, hk, Same.tup s12 hc, .inl (sq_l hF), fw, fun H3 sa s3 nsa hsa => ?_⟩
    have s13 := s12.trans s3
    have hG3 := s3 _ _ hG2
    have hF3 := s3 _ _ hF
    have ws := Ws_synd hb many start fw
    have ls := synd_len b many start (fillL gs)
    generalize synd b many start (fillL gs) = said at hsa ws ls
    -- seats
    refine ⟨_, rfl, _, rfl, _, gs.length, rfl, .inl ⟨_, s13.seq hrow, gl.symm⟩, _, rfl, _, rfl, b, c, G, sa, many, start, gs.length, gapL gs, said, rfl, hk, Same.tup s13 hc, sq_l hG3, sq_l hsa, ws, ls, d', hn2, fun H4 s4 => ?_, fun H4 se ss s4 nse hse nss bss lss => ?_⟩
    · exact ⟨_, rfl, rfl, _, rfl, iteT (q1 H4 (s13.trans s4))⟩
    refine ⟨_, rfl, rfl, _, rfl, iteF ?_⟩
    have s14 := s13.trans s4
    have hF4 := s4 _ _ hF3
    have hG4 := s4 _ _ hG3
    have hsa4 := s4 _ _ hsa
    have lg := gapL_len gs
    have lsg : (ss ++ gapL gs).length ≤ many := by rw [List.length_append]; omega
    refine ⟨_, rfl, _, rfl, se, G, _, _, rfl, rfl, hse, hG4, line_ok (by rw [wsV_len, wsV_len]; omega), fun Z nZ => ?_⟩
    rw [← wsV_app]
    have sZ := same_new (o := .lst (wsV (ss ++ gapL gs))) nZ
    have ZF : Z ≠ F := fun z => by rw [z, hF4] at nZ; cases nZ
    refine ⟨_, rfl, _, rfl, _, rfl, se, G, _, _, rfl, rfl, sZ _ _ hse, sZ _ _ hG4, line_ok (by rw [wsV_len, wsV_len]; omega), fun Z2 nZ2 => ?_⟩
    rw [← wsV_app]
    have sZ2 := sZ.trans (same_new (o := .lst (wsV (ss ++ gapL gs))) nZ2)
    have ZZ : Z ≠ Z2 := fun z => by rw [← z, upd_same] at nZ2; cases nZ2
    refine ⟨_, rfl, b, c, Z2, sa, many, start, ss ++ gapL gs, said, rfl, hk, Same.tup (s14.trans sZ2) hc, sq_l upd_same, sq_l (sZ2 _ _ hsa4), ws, ls, lsg, ?_, fun x hx => ?_, fun H5 am r2 s5 nam ham lam wam => ?_⟩
    · refine List.nodup_append.mpr ⟨nss, gapL_nd gs, fun x hx y hy => fun z => ?_⟩
      rw [z] at hx
      exact (bss y hx).2 hy
    · rcases List.mem_append.mp hx with hx | hx
      · have := (bss x hx).1
        omega
      · have := gapL_lt hx
        omega
    have sZ5 := sZ2.trans s5
    have hF5 := sZ5 _ _ hF4
    have hse5 := sZ5 _ _ hse
    have hZ5 : H5 Z = some (.lst (wsV (ss ++ gapL gs))) := s5 _ _ (by rw [upd_ne ZZ]; exact upd_same)
    have amF : am ≠ F := fun z => by rw [z, sZ2 _ _ hF4] at nam; cases nam
    have seF : se ≠ F := fun z => by rw [z, hF3] at nse; cases nse
    refine ⟨Z, am, wsV (ss ++ gapL gs), wsV r2, rfl, sq_l hZ5, sq_l ham, for_it (walk_zip (K := K) (a := Z) (b := am) (xs := wsV (ss ++ gapL gs)) (ys := wsV r2) (n := (ss ++ gapL gs).length) (by rw [wsV_len, wsV_len, lam, Nat.min_self])) (fun i st H' => ∃ (fv : List Nat) (v7 v8 : Option V), st = [some (.ref c), some (.ref r), some (nV (gs.length - 1)), some (.ref G), some (.ref F), some (.ref sa), some (.ref se), v7, v8, none, none] ∧ Same H H' ∧ H' F = some (.lst (wsV fv)) ∧ fv.length = gs.length ∧ Ws b fv ∧
      H' Z = some (.lst (wsV (ss ++ gapL gs))) ∧ H' am = some (.lst (wsV r2)) ∧ H' se = some (.lst (wsV ss))) ⟨fillL gs, none, none, rfl, s14.trans sZ5, hF5, fl, fw, hZ5, ham, hse5⟩ (fun i st H' _ hp => ?_) ?_ ?_⟩
    · obtain ⟨_, _, _, _, _, _, _, _, h1, h2, _⟩ := hp
      exact ⟨sq_l h1, sq_l h2⟩
    · rintro i x st H' H3' hi ⟨fv, v7, v8, rfl, s6, hF6, lf, wf, hZ6, ham6, hse6⟩ ⟨T, x1, x2, rfl, nT, rfl, e1, e2⟩
      obtain ⟨x, hx, rfl⟩ := wsV_inv e1
      obtain ⟨y, hy, rfl⟩ := wsV_inv e2
      have sT : Same H' (upd H' T (.tup [nV x, nV y])) := same_new nT
      have hxn : x < gs.length := by
        rcases List.mem_append.mp (List.mem_of_getElem? hx) with h | h
        · exact (bss x h).1
        · exact gapL_lt h
      refine ⟨T, _, rfl, sq_t upd_same, rfl, _, _, rfl, _, _, rfl, rfl, ?_⟩
      obtain ⟨z, hz⟩ : ∃ z, fv[gs.length - 1 - x]? = some z := ⟨_, List.getElem?_eq_getElem (by omega)⟩
      have ei : ((gs.length - 1 : Nat) : Int) - (x : Int) = ((gs.length - 1 - x : Nat) : Int) := by omega
      have hF7 := sT _ _ hF6
      refine ⟨.ref F, rfl, _, rfl, _, rfl, _, _, rfl, rfl, F, _, _, nV z, rfl, rfl, sq_l hF7, ?_, _, rfl, _, _, rfl, rfl, ?_⟩
      · rw [ei]
        exact atI_nat (wsV_get hz)
      dsimp only
      rw [xor_nat]
      refine ⟨.ref F, rfl, _, rfl, _, rfl, _, _, rfl, rfl, F, _, _, gs.length - 1 - x, rfl, rfl, hF7, ?_, ?_⟩
      · rw [ei]
        exact ixN_nat (by rw [wsV_len]; omega)
      · refine ⟨fv.set (gs.length - 1 - x) (z ^^^ y), _, _, rfl, same_mut (s6.trans sT) nFH, ?_, by rw [List.length_set]; exact lf, Ws_set wf (xor_lt (Ws_get wf hz) (Ws_get wam hy)), ?_, ?_, ?_⟩
        · rw [upd_same, set_wsV]
        · rw [upd_ne ZF]
          exact sT _ _ hZ6
        · rw [upd_ne amF]
          exact sT _ _ ham6
        · rw [upd_ne seF]
          exact sT _ _ hse6
    · rintro st H6 ⟨fv, v7, v8, rfl, s6, hF6, lf, wf, hZ6, ham6, hse6⟩
      -- changed
      refine ⟨_, rfl, se, rfl, ⟨_, sq_l hse6⟩, fun C nC => lcN (walk_list (K := K) (a := se) (xs := wsV ss)) (fun _ => true) (fun i => nV (gs.length - 1 - ss.getD i 0)) nC (by rw [wsV_len]; omega) (fun _ => rfl) (fun H' s' => sq_l (s' _ _ hse6)) (fun i x Ha Hb hi s' y => ?_) (fun H7 s7 hC => ?_)⟩
      · obtain ⟨e1, e2⟩ := y
        subst e1
        obtain ⟨o, ho, rfl⟩ := wsV_inv e2
        rw [getD_of ho]
        have := (bss o (List.mem_of_getElem? ho)).1
        refine ⟨Same.refl _, fun R hR => yes_all hR, fun _ H8 s8 Qk hQ => ⟨_, rfl, _, rfl, _, _, rfl, rfl, ?_⟩⟩
        dsimp only
        rw [show ((gs.length - 1 : Nat) : Int) - (o : Int) = ((gs.length - 1 - o : Nat) : Int) by omega]
        exact hQ H8 (Same.refl _)
      rw [wsV_len, sel_map (fun x => gs.length - 1 - x)] at hC
      have chl : (ss.map fun x => gs.length - 1 - x).length = ss.length := List.length_map ..
      have chb : ∀ x ∈ (ss.map fun x => gs.length - 1 - x), x < gs.length := fun x hx => by
        obtain ⟨y, hy, rfl⟩ := List.mem_map.mp hx
        omega
      generalize (ss.map fun x => gs.length - 1 - x) = ch at hC chl chb
      have s67 := s6.trans s7
      have hF7 := s7 _ _ hF6
      refine ⟨_, rfl, _, rfl, b, c, F, many, start, fv, rfl, hk, Same.tup s67 hc, .inl (sq_l hF7), wf, fun H8 p8 s8 np8 hp8 => ?_⟩
      refine ⟨line_ok (by decide), fun z nz => ?_⟩
      have sz := same_new (o := .lst [.int 0]) nz
      refine ⟨_, rfl, c, _, 1, nV many, rfl, rfl, Same.tup ((s67.trans s8).trans sz) hc, rfl, z, _, _, rfl, rfl, upd_same, by omega, by omega, line_ok (by show 1 * _ ≤ _; rw [Int.toNat_natCast]; omega), fun o no => ?_⟩
      rw [rep_wsV]
      have so := sz.trans (same_new (o := .lst (wsV (List.replicate many 0))) no)
      refine ⟨_, _, Dp.ws (sq_l (so _ _ hp8)), Dp.ws (sq_l upd_same), sh_ws _, sh_ws _, _, rfl, ?_⟩
      have s9 := s67.trans (s8.trans so)
      refine ite2 (fun _ => q1 _ s9) (fun _ => ?_)
      have hC9 := (s8.trans so) _ _ hC
      have hF9 := (s8.trans so) _ _ hF7
      generalize (upd (upd H8 z (.lst [.int 0])) o (.lst (wsV (List.replicate many 0)))) = H9 at s9 hC9 hF9
      refine ⟨_, rfl, C, rfl, ⟨_, sq_l hC9⟩, fun E2 nE => lcN (walk_list (K := K) (a := C) (xs := wsV ch)) (fun i => decide (nV (fv.getD (ch.getD i 0) 0) = gN (gs.getD (ch.getD i 0) none))) (fun i => nV (ch.getD i 0)) nE (by rw [wsV_len]; omega) (fun _ => rfl) (fun H' s' => sq_l (s' _ _ hC9)) (fun i x Ha Hb hi s' y => ?_) (fun H10 s10 hE => ?_)⟩
      · obtain ⟨e1, e2⟩ := y
        subst e1
        obtain ⟨o', ho, rfl⟩ := wsV_inv e2
        rw [getD_of ho]
        have hob := chb o' (List.mem_of_getElem? ho)
        obtain ⟨z', hz'⟩ : ∃ z, fv[o']? = some z := ⟨_, List.getElem?_eq_getElem (by omega)⟩
        obtain ⟨g', hg'⟩ : ∃ g, gs[o']? = some g := ⟨_, List.getElem?_eq_getElem hob⟩
        rw [getD_of hz', getD_of hg']
        refine ⟨Same.refl _, fun R hR => ⟨_, rfl, _, rfl, F, _, _, nV z', rfl, rfl, sq_l (s' _ _ hF9), atI_nat (wsV_get hz'), _, rfl, _, rfl, r, _, _, gN g', rfl, rfl, (s9.trans s').seq hrow, atI_nat (by rw [List.getElem?_map, hg']; rfl), ?_, _, rfl, hR _ (Same.refl _)⟩, fun _ H11 s11 Qk hQ => ⟨_, rfl, hQ H11 (Same.refl _)⟩⟩
        cases g' <;> rfl
      rw [wsV_len, sel_ws] at hE
      refine ⟨by show 0 ≤ _; decide, fun z2 nz2 => ?_⟩
      have sz2 := same_new (o := .lst []) nz2
      refine ⟨_, _, Dp.ws (sq_l (sz2 _ _ hE)), Dp.ws (l := []) (sq_l upd_same), sh_ws _, sh_ws _, _, rfl, ?_⟩
      have s11 := s9.trans (s10.trans sz2)
      refine ite2 (fun _ => q1 _ s11) (fun _ => ?_)
      have hC11 := (s10.trans sz2) _ _ hC9
      refine ⟨_, rfl, _, rfl, C, intsL ch, rfl, sq_l (by rw [intsL_V]; exact hC11), fun ns' p perm pw np => ?_⟩
      have sp := same_new (o := .lst (ns'.map V.int)) np
      refine ⟨p, _, rfl, .inl ⟨sq_l upd_same, fun l nl => ?_⟩⟩
      have sl := sp.trans (same_new (o := .tup (ns'.map V.int)) nl)
      refine ⟨by show 2 ≤ _; decide, fun t nt => ?_⟩
      have st := same_new (o := .tup [.ref F, .ref l]) nt
      refine q2 _ t F l (ns'.map V.int) (s11.trans (sl.trans st)) upd_same (st _ _ upd_same) ?_
      rw [List.length_map, perm.length_eq]
      unfold intsL
      rw [List.length_map, chl]
      omega
/-! repaired: slots 0 code, 1 row; cells  -/
abbrev s_repaired : Stmt := topS 34
abbrev n_repaired : List Str := ["code", "row"]
theorem sc_repaired : FnScope n_repaired ["code", "row"] (defScope s_repaired) := ⟨rfl, rfl, rfl, by decide +kernel, rfl, by decide +kernel, by decide +kernel⟩
theorem torn_ok {b : Nat} : ∀ {gs : List (Option Nat)}, (∀ (x : Nat), some x ∈ gs → x < 2 ^ b) → (gs.map gapD).all (okT b) = true
  | [], _ => rfl
  | none :: gs, h => by
    rw [List.map_cons, List.all_cons, torn_ok (gs := gs) fun x hx => h x (List.mem_cons_of_mem _ hx)]
    rfl
  | some y :: gs, h => by
    have e : okT b (gapD (some y)) = true := decide_eq_true ⟨by omega, by have := h y List.mem_cons_self; omega⟩
    rw [List.map_cons, List.all_cons, torn_ok (gs := gs) (fun x hx => h x (List.mem_cons_of_mem _ hx)), e]
    rfl
theorem ok_repaired {C : Addr} (D : Df K mg "repaired" s_repaired) (c_check_code : Cal P w K mg base CX0 k "check_code" ["code"] (sp_check_code K)) (c_check_torn : Cal P w K mg base (L2.CX P w) k "check_torn" ["code", "row"] (sp_check_torn K C))
    (c_repaired_in : Cal P w K mg base CX0 k "repaired_in" ["code", "row"] (sp_repaired_in K)) : Cal P w K mg base CX0 (k + 1) "repaired" ["code", "row"] (sp_repaired_in K) := by
  refine D.cal sc_repaired (fun _ _ _ _ _ _ us hl => match us, hl with | [_, _], _ => rfl) (fun vs H Q E h => ?_) (fun f cdv A outer s H vs Q E hr h => ?_)
  · obtain ⟨b, c, r, many, start, gs, rfl, h⟩ := h
    rfl
  · obtain ⟨b, c, r, many, start, gs, rfl, hk, hc, hrow, hgw, hn1, hn2, q1, q2⟩ := h
    refine ⟨_, (pss_cons (ps_expr (pe_cal c_check_code hr pass0 (pa_cons (pv 0) pa_nil)))
      (pss_cons (ps_expr (pe_calS c_check_torn hr tkF (pa_cons (pv 0) (pa_cons (pv 1) pa_nil))))
      (pss_one (ps_ret (pe_cal c_repaired_in hr pass0 (pa_cons (pv 0) (pa_cons (pv 1) pa_nil))))))), ?_⟩
    have lt : tornOk b many (.list (gs.map gapD)) = true := by
      unfold tornOk
      have w1 : wordsOk (okT b) (.list (gs.map gapD)) = true := torn_ok hgw
      have w2 : (wordsOf (.list (gs.map gapD))).length = gs.length := by
        unfold wordsOf
        rw [List.length_map]
        exact List.length_map ..
      rw [w1, many_n w1 hn1 hn2 w2]
      rfl
    refine ⟨_, rfl, b, c, many, start, rfl, hk, hc, ?_⟩
    refine ⟨_, rfl, _, rfl, b, c, many, start, _, .list (gs.map gapD), rfl, hk, hc, .lst hrow (gsD gs), fun _ H1 s1 => ?_, fun z => by rw [lt] at z; cases z⟩
    exact ⟨_, rfl, _, rfl, b, c, r, many, start, gs, rfl, hk, Same.tup s1 hc, s1.seq hrow, hgw, hn1, hn2, fun H' s' => q1 H' (s1.trans s'), fun H' t f cc xs s' h1 h2 h3 => q2 H' t f cc xs (s1.trans s') h1 h2 h3⟩
end
end Tw

namespace Tw
open PySem PySem.Spec PyProof.Rows L2
/-! ### the well -/
def wl3 (x y z : Int) : HO := .lst [.int x, .int y, .int z]
def Wl (H : Hp) (a : Addr) : Prop := ∃ x y z : Int, H a = some (wl3 x y z)
theorem fmod_lt {i : Int} {m : Nat} (h : 0 < m) : ∃ r : Nat, r < m ∧ i.fmod (m : Int) = (r : Int) := by
  have e : i.fmod (m : Int) = i % (m : Int) := Int.fmod_eq_emod_of_nonneg _ (by omega)
  have h1 := Int.emod_nonneg i (b := (m : Int)) (by omega)
  have h2 := Int.emod_lt_of_pos i (b := (m : Int)) (by omega)
  exact ⟨(i % (m : Int)).toNat, by omega, by rw [e]; omega⟩
def sp_law_draw : Sp := fun vs H Q _ => ∃ (a : Addr) (m : Nat), vs = [.ref a, nV m] ∧ Wl H a ∧ 0 < m ∧ m ≤ 100000 ∧ ∀ (r : Nat) (x y z : Int), r < m → Q (nV r) (upd H a (wl3 x y z))
def sp_law_pick : Sp := fun vs H Q _ => ∃ (a s : Addr) (xs : List V), vs = [.ref a, .ref s] ∧ Wl H a ∧ H s = some (.lst xs) ∧ s ≠ a ∧ 0 < xs.length ∧ xs.length ≤ 1000 ∧ ∀ (i : Nat) (v : V) (x y z : Int), xs[i]? = some v → Q v (upd H a (wl3 x y z))
section
variable {P : Program} {w : World} {K : PySem.W.Frag} {mg : Str → Option Value} {base : Heap} {k : Nat}
/-! _law_draw: slots 0 _law_well, 1 _law_many, 2 _law_digit, 3 _law_mixed; cells  -/
abbrev s_law_draw : Stmt := topS 40
abbrev n_law_draw : List Str := ["_law_well", "_law_many", "_law_digit", "_law_mixed"]
theorem sc_law_draw : FnScope n_law_draw ["_law_well", "_law_many"] (defScope s_law_draw) := ⟨rfl, rfl, rfl, by decide +kernel, rfl, by decide +kernel, by decide +kernel⟩
theorem ok_law_draw (D : Df K mg "_law_draw" s_law_draw) (B : Blt mg) : Cal P w K mg base CX0 (k + 1) "_law_draw" ["_law_well", "_law_many"] sp_law_draw := by
  refine D.cal sc_law_draw (fun _ _ _ _ _ _ us hl => match us, hl with | [_, _], _ => rfl) (fun vs H Q E h => ?_) (fun f cdv A outer s H vs Q E hr h => ?_)
  · obtain ⟨a, m, rfl, h⟩ := h
    rfl
  · obtain ⟨a, m, rfl, ⟨x, y, z, ha⟩, hm, hm2, q⟩ := h
    refine ⟨_, (pss_cons (ps_if (pt_cmpR op_gt (pe_ix ix_list (pv 0) pe_int (fun _ _ => rfl)) pe_int (nomark _))
        (pss_cons (ps_set (i := 2) sc_law_draw.nd rfl (Or.inl rfl) (pe_op op_modN (pe_callTy call_int1 (by rfl) B.int_ (by decide +kernel) (pa_cons (pe_ix ix_list (pv 0) pe_int (fun _ _ => rfl)) pa_nil)) (pv 1)))
      (pss_cons (ps_asg (pe_op op_fdivN (pe_ix ix_list (pv 0) pe_int (fun _ _ => rfl)) (pv 1)) (pg_sub (pv 0) pe_int set_list))
      (pss_one (ps_ret (pv 2)))))
        pss_nil)
      (pss_cons (ps_asg (pe_op op_add (pe_ix ix_list (pv 0) pe_int (fun _ _ => rfl)) pe_int) (pg_sub (pv 0) pe_int set_list))
      (pss_cons (ps_set (i := 3) sc_law_draw.nd rfl (Or.inl rfl) (pe_op op_modN (pe_callTy call_int1 (by rfl) B.int_ (by decide +kernel) (pa_cons (pe_op op_mul (pe_op op_add (pe_op op_add (pe_ix ix_list (pv 0) pe_int (fun _ _ => rfl)) (pe_op op_mul pe_int (pe_ix ix_list (pv 0) pe_int (fun _ _ => rfl)))) pe_int) pe_int) pa_nil)) pe_int))
      (pss_cons (ps_set (i := 3) sc_law_draw.nd rfl (Or.inl rfl) (pe_op op_modN (pe_callTy call_int1 (by rfl) B.int_ (by decide +kernel) (pa_cons (pe_op op_mul (pv 3) (pe_op op_add (pe_op op_add (pe_op op_fdivN (pv 3) pe_int) pe_int) (pe_ix ix_list (pv 0) pe_int (fun _ _ => rfl)))) pa_nil)) pe_int))
      (pss_one (ps_ret (pe_op op_modN (pe_callTy call_int1 (by rfl) B.int_ (by decide +kernel) (pa_cons (pe_op op_fdivN (pe_op op_modN (pe_callTy call_int1 (by rfl) B.int_ (by decide +kernel) (pa_cons (pe_op op_mul (pv 3) (pe_op op_add (pe_op op_fdivN (pv 3) pe_int) pe_int)) pa_nil)) pe_int) pe_int) pa_nil)) (pv 1)))))))), ?_⟩
    have g0 : atI [V.int x, V.int y, V.int z] 0 = some (V.int x) := atI_nat (j := 0) rfl
    have g2 : atI [V.int x, V.int y, V.int z] 2 = some (V.int z) := atI_nat (j := 2) rfl
    have i0 : ixN [V.int x, V.int y, V.int z].length 0 = some 0 := rfl
    have i2 : ixN [V.int x, V.int y, V.int z].length 2 = some 2 := rfl
    refine ⟨_, rfl, a, _, 0, _, rfl, rfl, sq_l ha, g0, _, _, rfl, rfl, _, rfl, ite2 (fun c => ?_) (fun c => ?_)⟩
    · refine ⟨_, rfl, a, _, 0, _, rfl, rfl, sq_l ha, g0, .inl ⟨_, rfl, _, rfl, _, _, rfl, rfl, by omega, ?_⟩⟩
      obtain ⟨r, hr, er⟩ := fmod_lt (i := x) hm
      dsimp only
      rw [er]
      refine ⟨_, rfl, a, _, 0, _, rfl, rfl, sq_l ha, g0, _, rfl, _, _, rfl, rfl, ⟨by omega, by omega⟩, ?_⟩
      refine ⟨_, rfl, a, _, 0, 0, rfl, rfl, ha, i0, ?_⟩
      exact ⟨_, rfl, q r _ y z hr⟩
    · refine ⟨_, rfl, a, _, 2, _, rfl, rfl, sq_l ha, g2, _, _, rfl, rfl, _, rfl, a, _, 2, 2, rfl, rfl, ha, i2, ?_⟩
      have ha2 : (upd H a (.lst ([V.int x, V.int y, V.int z].set 2 (.int (z + 1))))) a = some (.lst [V.int x, V.int y, V.int (z + 1)]) := upd_same
      have e2 : ([V.int x, V.int y, V.int z].set 2 (.int (z + 1))) = [V.int x, V.int y, V.int (z + 1)] := rfl
      rw [e2] at ha2
      have h1 : atI [V.int x, V.int y, V.int (z + 1)] 1 = some (V.int y) := atI_nat (j := 1) rfl
      have h2 : atI [V.int x, V.int y, V.int (z + 1)] 2 = some (V.int (z + 1)) := atI_nat (j := 2) rfl
      refine ⟨_, rfl, a, _, 1, _, rfl, rfl, sq_l ha2, h1, _, rfl, a, _, 2, _, rfl, rfl, sq_l ha2, h2, _, _, rfl, rfl, .inl ⟨by decide, by decide⟩, _, _, rfl, rfl, _, _, rfl, rfl, _, _, rfl, rfl, .inr ⟨by decide, by decide⟩, .inl ⟨_, rfl, _, _, rfl, rfl, (by show (2147483647 : Int) ≠ 0; decide), ?_⟩⟩
      obtain ⟨r1, hr1, er1⟩ := fmod_lt (i := (y + 15485863 * (z + 1) + 11) * 48271) (m := 2147483647) (by decide)
      dsimp only
      rw [show (2147483647 : Int) = ((2147483647 : Nat) : Int) from rfl, er1]
      refine ⟨_, rfl, _, rfl, _, _, rfl, rfl, ⟨by decide, by decide⟩, _, _, rfl, rfl, _, rfl, a, _, 2, _, rfl, rfl, sq_l ha2, h2, _, _, rfl, rfl, _, _, rfl, rfl, .inl ⟨by omega, by omega⟩, .inl ⟨_, rfl, _, _, rfl, rfl, (by show (2147483587 : Int) ≠ 0; decide), ?_⟩⟩
      obtain ⟨r2, hr2, er2⟩ := fmod_lt (i := (r1 : Int) * ((r1 : Int).fdiv 1201 + 69621 + (z + 1))) (m := 2147483587) (by decide)
      dsimp only
      rw [show (2147483587 : Int) = ((2147483587 : Nat) : Int) from rfl, er2]
      refine ⟨_, rfl, _, rfl, _, _, rfl, rfl, ⟨by decide, by decide⟩, _, _, rfl, rfl, _, _, rfl, rfl, .inl ⟨by omega, by omega⟩, .inl ⟨_, rfl, _, _, rfl, rfl, (by show (2147483399 : Int) ≠ 0; decide), _, _, rfl, rfl, ⟨by decide, by decide⟩, .inl ⟨_, rfl, _, rfl, _, _, rfl, rfl, by omega, ?_⟩⟩⟩
      obtain ⟨r, hr, er⟩ := fmod_lt (i := (((r2 : Int) * ((r2 : Int).fdiv 2003 + 40692)).fmod 2147483399).fdiv 7) hm
      dsimp only
      rw [er]
      exact q r x y (z + 1) hr
/-! _law_pick: slots 0 _law_well, 1 _law_some; cells  -/
abbrev s_law_pick : Stmt := topS 41
abbrev n_law_pick : List Str := ["_law_well", "_law_some"]
theorem sc_law_pick : FnScope n_law_pick ["_law_well", "_law_some"] (defScope s_law_pick) := ⟨rfl, rfl, rfl, by decide +kernel, rfl, by decide +kernel, by decide +kernel⟩
theorem ok_law_pick (D : Df K mg "_law_pick" s_law_pick) (B : Blt mg) (c_law_draw : Cal P w K mg base CX0 k "_law_draw" ["_law_well", "_law_many"] sp_law_draw) : Cal P w K mg base CX0 (k + 1) "_law_pick" ["_law_well", "_law_some"] sp_law_pick := by
  refine D.cal sc_law_pick (fun _ _ _ _ _ _ us hl => match us, hl with | [_, _], _ => rfl) (fun vs H Q E h => ?_) (fun f cdv A outer s H vs Q E hr h => ?_)
  · obtain ⟨a, s, xs, rfl, h⟩ := h
    rfl
  · obtain ⟨a, so, xs, rfl, hw, hs, ne, h0, h1, q⟩ := h
    refine ⟨_, (pss_one (ps_ret (pe_ix ix_list (pv 1) (pe_cal c_law_draw hr pass0 (pa_cons (pv 0) (pa_cons (pe_callB call_len (by rfl) B.len_ (by decide +kernel) (pa_cons (pv 1) pa_nil)) pa_nil))) (fun _ _ => rfl)))), ?_⟩
    refine ⟨_, rfl, _, rfl, _, rfl, _, xs.length, rfl, .inl ⟨_, sq_l hs, rfl⟩, a, xs.length, rfl, hw, h0, by omega, fun r x y z hr => ?_⟩
    obtain ⟨v, hv⟩ : ∃ v, xs[r]? = some v := ⟨_, List.getElem?_eq_getElem hr⟩
    refine ⟨so, xs, _, v, rfl, rfl, sq_l ?_, atI_nat hv, q r v x y z hv⟩
    rw [upd_ne ne]
    exact hs
end
end Tw

namespace Tw
open PySem PySem.Spec PyProof.Rows L2
theorem off_same {H : Hp} {a : Addr} : Same (del H a) H := fun b o e => by
  by_cases h : b = a
  · rw [h, del_same] at e
    cases e
  · rw [del_ne h] at e
    exact e
theorem to_off {B H : Hp} {a : Addr} (s : Same B H) (h : B a = none) : Same B (del H a) := fun b o e => by
  rw [del_ne (ne_of_none e h)]
  exact s b o e
theorem wl_ne {H : Hp} {a s : Addr} (h : Wl H a) (n : H s = none) : s ≠ a := fun z => by
  obtain ⟨x, y, w, h⟩ := h
  rw [z, h] at n
  cases n
theorem Wl.same {H H' : Hp} {a : Addr} (h : Wl H a) (s : Same H H') : Wl H' a := by
  obtain ⟨x, y, z, h⟩ := h
  exact ⟨x, y, z, s _ _ h⟩
theorem Wl.upd {H : Hp} {a : Addr} {x y z : Int} : Wl (L2.upd H a (wl3 x y z)) a := ⟨x, y, z, upd_same⟩
def sp_law_code : Sp := fun vs H Q _ => ∃ (a : Addr) (far : Bool), vs = [.ref a, .bl far] ∧ Wl H a ∧ ∀ (H' : Hp) (t c : Addr) (b many start n : Nat), Same (del H a) H' → Wl H' a → H' t = some (.tup [.ref c, nV n]) → H' c = some (.tup [nV b, nV many, nV start]) → Kode b many start → many < n → n ≤ nn b → Q (.ref t) H'
section
variable {P : Program} {w : World} {K : PySem.W.Frag} {mg : Str → Option Value} {base : Heap} {k : Nat}
/-! _law_code: slots 0 _law_well, 1 _law_is_far, 2 _law_bits, 3 _law_many, 4 _law_size; cells  -/
abbrev s_law_code : Stmt := topS 45
abbrev n_law_code : List Str := ["_law_well", "_law_is_far", "_law_bits", "_law_many", "_law_size"]
theorem sc_law_code : FnScope n_law_code ["_law_well", "_law_is_far"] (defScope s_law_code) := ⟨rfl, rfl, rfl, by decide +kernel, rfl, by decide +kernel, by decide +kernel⟩
theorem ok_law_code (D : Df K mg "_law_code" s_law_code) (c_law_draw : Cal P w K mg base CX0 k "_law_draw" ["_law_well", "_law_many"] sp_law_draw) (c_law_pick : Cal P w K mg base CX0 k "_law_pick" ["_law_well", "_law_some"] sp_law_pick) :
    Cal P w K mg base CX0 (k + 1) "_law_code" ["_law_well", "_law_is_far"] sp_law_code := by
  refine D.cal sc_law_code (fun _ _ _ _ _ _ us hl => match us, hl with | [_, _], _ => rfl) (fun vs H Q E h => ?_) (fun f cdv A outer s H vs Q E hr h => ?_)
  · obtain ⟨a, far, rfl, h⟩ := h
    rfl
  · obtain ⟨a, far, rfl, hw, q⟩ := h
    refine ⟨_, (pss_cons (ps_set (i := 2) sc_law_code.nd rfl (Or.inl rfl) (pe_cal c_law_pick hr pass0 (pa_cons (pv 0) (pa_cons (pe_lst (pa_cons pe_int (pa_cons pe_int (pa_cons pe_int pa_nil)))) pa_nil))))
      (pss_cons (ps_if (pt_cmpR op_eq (pv 2) pe_int (nomark _))
        (pss_cons (ps_set (i := 3) sc_law_code.nd rfl (Or.inl rfl) (pe_op op_add pe_int (pe_cal c_law_draw hr pass0 (pa_cons (pv 0) (pa_cons pe_int pa_nil)))))
      (pss_one (ps_set (i := 4) sc_law_code.nd rfl (Or.inl rfl) (pe_op op_add (pe_op op_add (pv 3) pe_int) (pe_cal c_law_draw hr pass0 (pa_cons (pv 0) (pa_cons (pe_op op_sub pe_int (pv 3)) pa_nil)))))))
        (pss_cons (ps_set (i := 3) sc_law_code.nd rfl (Or.inl rfl) (pe_cal c_law_pick hr pass0 (pa_cons (pv 0) (pa_cons (pe_lst (pa_cons pe_int (pa_cons pe_int (pa_cons pe_int (pa_cons pe_int (pa_cons pe_int (pa_cons pe_int (pa_cons pe_int (pa_cons pe_int (pa_cons pe_int (pa_cons pe_int pa_nil))))))))))) pa_nil))))
      (pss_cons (ps_set (i := 4) sc_law_code.nd rfl (Or.inl rfl) (pe_op op_add (pe_op op_add (pv 3) pe_int) (pe_cal c_law_draw hr pass0 (pa_cons (pv 0) (pa_cons (pe_cal c_law_pick hr pass0 (pa_cons (pv 0) (pa_cons (pe_lst (pa_cons pe_int (pa_cons pe_int (pa_cons pe_int pa_nil)))) pa_nil))) pa_nil)))))
      (pss_one (ps_if (PW.pt (pw_and (pt_val (pv 1)) (pw_and1 (pt_cmpR op_eq (pe_cal c_law_draw hr pass0 (pa_cons (pv 0) (pa_cons pe_int pa_nil))) pe_int (nomark _)))))
        (pss_one (ps_set (i := 4) sc_law_code.nd rfl (Or.inl rfl) pe_int))
        pss_nil)))))
      (pss_one (ps_ret (pe_tup (pa_cons (pe_tup (pa_cons (pv 2) (pa_cons (pv 3) (pa_cons (pe_cal c_law_draw hr pass0 (pa_cons (pv 0) (pa_cons (pe_op op_sub (pe_op op_shl pe_int (pv 2)) pe_int) pa_nil))) pa_nil)))) (pa_cons (pv 4) pa_nil))))))), ?_⟩
    have tail : ∀ (b many n : Nat) (H1 : Hp), Same (del H a) H1 → Wl H1 a → Bt b → 0 < many → (many ≤ if b = 4 then 14 else 40) → many < n → n ≤ nn b →
        tRet (tTup (tCons (tTup (tCons (tVar 2) (tCons (tVar 3) (tCons (tCall sp_law_draw [] E0 (tCons (tVar 0) (tCons (tOp rSuI (tOp rShI (tC (.int 1)) (tVar 2)) (tC (.int 1))) tNil))) tNil)))) (tCons (tVar 4) tNil))) { nx := fun _ H' => Q .non H', rt := Q }
          [some (.ref a), some (.bl far), some (nV b), some (nV many), some (nV n)] H1 := fun b many n H1 s1 w1 hb m0 m1 mn nb => by
      refine ⟨_, rfl, _, rfl, _, rfl, _, rfl, 1, _, rfl, rfl, cpow_one hb, _, _, rfl, rfl, ?_⟩
      dsimp only
      have hp := Nat.two_pow_pos b
      have hnn := nn_le hb
      have hn0 := nn_pos hb
      rw [shl_one, show ((2 ^ b : Nat) : Int) - 1 = ((nn b : Nat) : Int) by unfold nn; omega]
      refine ⟨a, nn b, rfl, w1, hn0, by omega, fun r x y z hr => ?_⟩
      refine ⟨by show 3 ≤ _; decide, fun c nc => ?_⟩
      have sc := same_new (o := .tup [nV b, nV many, nV r]) nc
      refine ⟨_, rfl, by show 2 ≤ _; decide, fun t nt => ?_⟩
      have st := same_new (o := .tup [.ref c, nV n]) nt
      refine q _ t c b many r n ((same_mut s1 del_same).trans (sc.trans st)) ((Wl.upd.same sc).same st) upd_same (st _ _ upd_same) ⟨hb, m0, m1, ?_⟩ mn nb
      unfold nn at hr
      omega
    refine ⟨_, rfl, by show 3 ≤ _; decide, fun z nz => ?_⟩
    have sz := same_new (o := .lst [.int 4, .int 4, .int 8]) nz
    have nza := wl_ne hw nz
    refine ⟨a, z, _, rfl, hw.same sz, upd_same, nza, by show 0 < 3; decide, by show 3 ≤ _; decide, fun i v x y w' hv => ?_⟩
    have s1 : Same (del H a) (upd (upd H z (.lst [.int 4, .int 4, .int 8])) a (wl3 x y w')) := same_mut (off_same.trans sz) del_same
    have w1 : Wl (upd (upd H z (.lst [.int 4, .int 4, .int 8])) a (wl3 x y w')) a := Wl.upd
    generalize (upd (upd H z (.lst [.int 4, .int 4, .int 8])) a (wl3 x y w')) = H1 at s1 w1
    have hv' : v = nV 4 ∨ v = nV 8 := by
      match i, hv with
      | 0, hv => exact .inl (Option.some.inj hv).symm
      | 1, hv => exact .inl (Option.some.inj hv).symm
      | 2, hv => exact .inr (Option.some.inj hv).symm
    rcases hv' with rfl | rfl
    · refine ⟨_, rfl, rfl, _, rfl, ite2 (fun _ => ?_) (fun c => absurd (decide_eq_true rfl) c)⟩
      refine ⟨_, rfl, a, 14, rfl, w1, by decide, by decide, fun r x y z hr => ⟨_, _, rfl, rfl, ?_⟩⟩
      have s2 : Same (del H a) (upd H1 a (wl3 x y z)) := same_mut s1 del_same
      dsimp only
      rw [show (1 : Int) + (r : Int) = ((1 + r : Nat) : Int) by omega]
      refine ⟨_, rfl, _, _, rfl, rfl, _, rfl, _, rfl, _, _, rfl, rfl, ?_⟩
      dsimp only
      rw [show (15 : Int) - ((1 + r : Nat) : Int) = ((15 - (1 + r) : Nat) : Int) by omega]
      refine ⟨a, 15 - (1 + r), rfl, Wl.upd, by omega, by omega, fun r2 x2 y2 z2 hr2 => ⟨_, _, rfl, rfl, ?_⟩⟩
      dsimp only
      rw [show ((1 + r : Nat) : Int) + 1 + (r2 : Int) = ((1 + r + 1 + r2 : Nat) : Int) by omega]
      exact tail 4 (1 + r) (1 + r + 1 + r2) _ (same_mut s2 del_same) Wl.upd (.inl rfl) (by omega) (by rw [if_pos rfl]; omega) (by omega) (by show _ ≤ 15; omega)
    · refine ⟨_, rfl, rfl, _, rfl, ite2 (fun c => absurd (of_decide_eq_true c) (by intro z; have := V.int.inj z; omega)) (fun _ => ?_)⟩
      refine ⟨_, rfl, by show 10 ≤ _; decide, fun z nz => ?_⟩
      have sz := same_new (o := .lst [.int 1, .int 2, .int 3, .int 4, .int 5, .int 8, .int 10, .int 12, .int 13, .int 20]) nz
      refine ⟨a, z, _, rfl, w1.same sz, upd_same, wl_ne w1 nz, by show 0 < 10; decide, by show 10 ≤ _; decide, fun i v x y w' hv => ?_⟩
      have s2 : Same (del H a) (upd (upd H1 z (.lst [.int 1, .int 2, .int 3, .int 4, .int 5, .int 8, .int 10, .int 12, .int 13, .int 20])) a (wl3 x y w')) := same_mut (s1.trans sz) del_same
      have w2 : Wl (upd (upd H1 z (.lst [.int 1, .int 2, .int 3, .int 4, .int 5, .int 8, .int 10, .int 12, .int 13, .int 20])) a (wl3 x y w')) a := Wl.upd
      generalize (upd (upd H1 z (.lst [.int 1, .int 2, .int 3, .int 4, .int 5, .int 8, .int 10, .int 12, .int 13, .int 20])) a (wl3 x y w')) = H2 at s2 w2
      have hm : ∃ m : Nat, v = nV m ∧ 0 < m ∧ m ≤ 20 := by
        have : v ∈ ([.int 1, .int 2, .int 3, .int 4, .int 5, .int 8, .int 10, .int 12, .int 13, .int 20] : List V) := List.mem_of_getElem? hv
        simp only [List.mem_cons, List.not_mem_nil, or_false] at this
        rcases this with rfl | rfl | rfl | rfl | rfl | rfl | rfl | rfl | rfl | rfl
        · exact ⟨1, rfl, by decide, by decide⟩
        · exact ⟨2, rfl, by decide, by decide⟩
        · exact ⟨3, rfl, by decide, by decide⟩
        · exact ⟨4, rfl, by decide, by decide⟩
        · exact ⟨5, rfl, by decide, by decide⟩
        · exact ⟨8, rfl, by decide, by decide⟩
        · exact ⟨10, rfl, by decide, by decide⟩
        · exact ⟨12, rfl, by decide, by decide⟩
        · exact ⟨13, rfl, by decide, by decide⟩
        · exact ⟨20, rfl, by decide, by decide⟩
      obtain ⟨m, rfl, m0, m20⟩ := hm
      refine ⟨_, rfl, _, _, rfl, rfl, _, rfl, _, rfl, by show 3 ≤ _; decide, fun z nz => ?_⟩
      have sz := same_new (o := .lst [.int 3, .int 12, .int 24]) nz
      refine ⟨a, z, _, rfl, w2.same sz, upd_same, wl_ne w2 nz, by show 0 < 3; decide, by show 3 ≤ _; decide, fun i v x y w' hv => ?_⟩
      have s3 : Same (del H a) (upd (upd H2 z (.lst [.int 3, .int 12, .int 24])) a (wl3 x y w')) := same_mut (s2.trans sz) del_same
      have w3 : Wl (upd (upd H2 z (.lst [.int 3, .int 12, .int 24])) a (wl3 x y w')) a := Wl.upd
      generalize (upd (upd H2 z (.lst [.int 3, .int 12, .int 24])) a (wl3 x y w')) = H3 at s3 w3
      have hg : ∃ g : Nat, v = nV g ∧ 0 < g ∧ g ≤ 24 := by
        match i, hv with
        | 0, hv => exact ⟨3, (Option.some.inj hv).symm, by decide, by decide⟩
        | 1, hv => exact ⟨12, (Option.some.inj hv).symm, by decide, by decide⟩
        | 2, hv => exact ⟨24, (Option.some.inj hv).symm, by decide, by decide⟩
      obtain ⟨g, rfl, g0, g24⟩ := hg
      refine ⟨a, g, rfl, w3, g0, by omega, fun r x y z hr => ⟨_, _, rfl, rfl, ?_⟩⟩
      have s4 : Same (del H a) (upd H3 a (wl3 x y z)) := same_mut s3 del_same
      dsimp only
      rw [show ((m : Nat) : Int) + 1 + (r : Int) = ((m + 1 + r : Nat) : Int) by omega]
      have b8 : (m ≤ if 8 = 4 then 14 else 40) := by rw [if_neg (by decide)]; omega
      refine ⟨_, rfl, _, rfl, ?_⟩
      cases far with
      | false => exact iteF (tail 8 m (m + 1 + r) _ s4 Wl.upd (.inr rfl) m0 b8 (by omega) (by show _ ≤ 255; omega))
      | true =>
        refine iteT ⟨_, rfl, a, 3, rfl, Wl.upd, by decide, by decide, fun r3 x y z hr => ⟨rfl, _, rfl, ite2 (fun _ => ?_) (fun _ => ?_)⟩⟩
        · exact tail 8 m 255 _ (same_mut s4 del_same) Wl.upd (.inr rfl) m0 b8 (by omega) (by show _ ≤ 255; omega)
        · exact tail 8 m (m + 1 + r) _ (same_mut s4 del_same) Wl.upd (.inr rfl) m0 b8 (by omega) (by show _ ≤ 255; omega)
end
end Tw

namespace Tw
open PySem PySem.Spec PyProof.Rows L2
def LF (b : Nat) (H : Hp) (a : Addr) : Prop := ∃ l d, H a = some (.tup [.ref l, .ref d]) ∧ H l = some (.lst (wsV (tab b))) ∧ H d = some (.dK (FD b))
theorem LF.same {b : Nat} {H H' : Hp} {a : Addr} (s : Same H H') (h : LF b H a) : LF b H' a := by
  obtain ⟨l, d, h1, h2, h3⟩ := h
  exact ⟨l, d, s _ _ h1, s _ _ h2, s _ _ h3⟩
def sp_law_field : Sp := fun vs H Q _ => ∃ b : Nat, vs = [nV b] ∧ Bt b ∧ ∀ H' a, Same H H' → H a = none → LF b H' a → Q (.ref a) H'
def sp_law_times : Sp := fun vs H Q _ => ∃ (b : Nat) (a : Addr) (x e : Nat), vs = [.ref a, nV x, nV e] ∧ Bt b ∧ LF b H a ∧ x < 2 ^ b ∧ Q (nV (mul b x (pw b e))) H
def sp_law_at (K : PySem.W.Frag) : Sp := fun vs H Q _ => ∃ (b : Nat) (a r : Addr) (l : List Nat) (e : Nat), vs = [.ref a, .ref r, nV e] ∧ Bt b ∧ LF b H a ∧ SqL K H r (wsV l) ∧ Ws b l ∧ Q (nV (ev b (pw b e) l)) H
def sp_law_is_nought (K : PySem.W.Frag) : Sp := fun vs H Q _ => ∃ (b : Nat) (a c r : Addr) (many start : Nat) (l : List Nat), vs = [.ref a, .ref c, .ref r] ∧ LF b H a ∧ Kode b many start ∧ At3 K H c b many start ∧ SqL K H r (wsV l) ∧ Ws b l ∧ ∀ H', Same H H' → Q (.bl (right b many start l)) H'
theorem right_nil (b many start : Nat) (l : List Nat) : decide (((List.range many).filter fun i => ev b (pw b (start + i)) l != 0).map (fun i => i) = []) = right b many start l := by
  rw [Bool.eq_iff_iff, decide_eq_true_iff, List.map_eq_nil_iff, List.filter_eq_nil_iff]
  unfold right
  rw [List.all_eq_true]
  refine forall_congr' fun x => forall_congr' fun _ => ?_
  rw [bne, Bool.not_eq_true', Bool.not_eq_false]
section
variable {P : Program} {w : World} {K : PySem.W.Frag} {mg : Str → Option Value} {base : Heap} {k : Nat}
/-! _law_field: slots 0 _law_bits, 1 _law_found, 2 _law_word, 3 _law_k, 4 _law_one; cells  -/
abbrev s_law_field : Stmt := topS 42
abbrev n_law_field : List Str := ["_law_bits", "_law_found", "_law_word", "_law_k", "_law_one"]
theorem sc_law_field : FnScope n_law_field ["_law_bits"] (defScope s_law_field) := ⟨rfl, rfl, rfl, by decide +kernel, rfl, by decide +kernel, by decide +kernel⟩
theorem ok_law_field (D : Df K mg "_law_field" s_law_field) (B : Blt mg) : Cal P w K mg base CX0 (k + 1) "_law_field" ["_law_bits"] sp_law_field := by
  refine D.cal sc_law_field (fun _ _ _ _ _ _ us hl => match us, hl with | [_], _ => rfl) (fun vs H Q E h => ?_) (fun f cdv A outer s H vs Q E hr h => ?_)
  · obtain ⟨b, rfl, h⟩ := h
    rfl
  · obtain ⟨b, rfl, hb, q⟩ := h
    refine ⟨_, (pss_cons (ps_par (i := 1) (j := 2) rfl sc_law_field.nd rfl rfl (by decide) rfl rfl (pa_cons (pe_lst pa_nil) (pa_cons pe_int pa_nil)) (by rfl))
      (pss_cons (ps_for PassesOwn.never rfl (pi_range1 (by rfl) B.range_ (pa_cons (pe_op op_sub (pe_op op_shl pe_int (pv 0)) pe_int) pa_nil)) (pg_name (i := 3) sc_law_field.nd rfl (Or.inl rfl))
        (pss_cons (ps_expr (pe_bm PySem.F.plainAttrs_list PySem.F.slot_list_append PySem.F.type_list_append mt_append (pv 1) (pa_cons (pv 2) pa_nil)))
      (pss_cons (ps_set (i := 2) sc_law_field.nd rfl (Or.inl rfl) (pe_op op_mul pe_int (pv 2)))
      (pss_one (ps_if (pt_cmpR op_ge (pv 2) (pe_op op_shl pe_int (pv 0)) (nomark _))
        (pss_one (ps_set (i := 2) sc_law_field.nd rfl (Or.inl rfl) (pe_op op_xor (pe_op op_sub (pv 2) (pe_op op_shl pe_int (pv 0))) (pe_dget (hu_of hr) (pe_disp (pps_cons pe_int pe_int (pps_cons pe_int pe_int pps_nil)) rfl rfl (List.cons_ne_nil _ _) (by decide)) (pv 0) (fun _ _ => rfl)))))
        pss_nil)))))
      (pss_one (ps_ret (pe_tup (pa_cons (pv 1) (pa_cons (pe_callTy (call_dictP rfl) (by rfl) B.dict_ (by decide +kernel) (pa_cons (pe_lc (own := [("_law_k", 3), ("_law_one", 4)]) (g := (gTup K 2 (gCons (gName 3) (gCons (gName 4) gNil)))) (tt := tYes) (te := (tTup (tCons (tVar 4) (tCons (tVar 3) tNil)))) rfl sc_law_field.nd (pi_enum (by rfl) B.enumerate_ (pa_cons (pv 1) pa_nil)) (blkOk_by (N := n_law_field) (sc := defScope s_law_field) (by decide +kernel)) (fun _ _ _ _ _ => by exact (pg_tup (by rfl) (pgs_cons (pg_name (i := 3) sc_law_field.nd rfl (Or.inl rfl)) (pgs_cons (pg_name (i := 4) sc_law_field.nd rfl (Or.inl rfl)) pgs_nil)))) (fun _ _ _ _ _ => pts_nil) (fun _ _ _ _ _ => by exact (pe_tup (pa_cons (pv 4) (pa_cons (pv 3) pa_nil))))) pa_nil)) pa_nil))))))), ?_⟩
    have hn := nn_pos hb
    have hn2 := nn_le hb
    have h256 := pow_le hb
    have hnn : ((2 ^ b : Nat) : Int) - 1 = (nn b : Int) := by
      have := Nat.two_pow_pos b
      unfold nn
      omega
    refine ⟨by show 0 ≤ _; decide, fun o no => ⟨_, _, rfl, ?_⟩⟩
    refine ⟨_, rfl, 1, _, rfl, rfl, cpow_one hb, _, _, rfl, rfl, ?_⟩
    refine ⟨(nn b : Int), ?_, by omega, by omega, ?_⟩
    · show [V.int (1 * 2 ^ ((b : Nat) : Int).toNat - 1)] = _
      rw [shl_one, hnn]
    refine for_range (lo := 0) (n := ((nn b : Nat) : Int).toNat) (fun i st H' => ∃ v3, st = [some (nV b), some (.ref o), some (nV (pw b i)), v3, none] ∧ Same H H' ∧ H' o = some (.lst (wsV ((tab b).take i)))) ?_ ?_ ?_
    · exact ⟨none, rfl, same_new no, upd_same⟩
    · rintro i st H' hi ⟨v3, rfl, sm, ho⟩
      rw [Int.toNat_natCast] at hi
      have hx := tab_get b i hi
      have hlen : (wsV ((tab b).take i)).length = i := by
        rw [wsV_len, List.length_take, tab_len]
        omega
      refine ⟨.ref o, rfl, .inl ⟨rfl, _, sq_l ho⟩, _, rfl, o, _, _, rfl, rfl, ho, line_lt (by rw [hlen]; omega), ?_⟩
      have hlt := pw_lt hb i
      have s2 : Same H (upd H' o (.lst (wsV ((tab b).take i) ++ [nV (pw b i)]))) := same_mut sm no
      have ho2 : (upd H' o (.lst (wsV ((tab b).take i) ++ [nV (pw b i)]))) o = some (.lst (wsV ((tab b).take (i + 1)))) := by
        rw [upd_same, List.take_add_one, hx, wsV_app]
        rfl
      generalize upd H' o (.lst (wsV ((tab b).take i) ++ [nV (pw b i)])) = H2 at s2 ho2
      refine ⟨_, rfl, _, _, rfl, rfl, .inl ⟨by decide, by decide⟩, _, rfl, _, rfl, 1, _, rfl, rfl, cpow_one hb, _, _, rfl, rfl, _, rfl, ite2 (fun c => ?_) (fun c => ?_)⟩
      · have c' := of_decide_eq_true c
        rw [shl_one] at c'
        have e : pw b (i + 1) = (2 * pw b i - 2 ^ b) ^^^ tl b := if_neg (by omega)
        refine ⟨_, rfl, _, rfl, 1, _, rfl, rfl, cpow_one hb, _, _, rfl, rfl, ?_⟩
        dsimp only
        rw [shl_one, show (2 : Int) * (pw b i : Int) - ((2 ^ b : Nat) : Int) = ((2 * pw b i - 2 ^ b : Nat) : Int) by omega]
        refine fun p np => ?_
        refine ⟨upd_same, [(.inl 4, .int 9), (.inl 8, .int 113)], rfl, by decide, ?_⟩
        have hp : (upd (upd H2 p (.dK [])) p (.dK (mergeK [] [(.inl 4, .int 9), (.inl 8, .int 113)]))) p = some (.dK (mergeK [] [(.inl 4, .int 9), (.inl 8, .int 113)])) := upd_same
        have sp : Same H2 (upd (upd H2 p (.dK [])) p (.dK (mergeK [] [(.inl 4, .int 9), (.inl 8, .int 113)]))) := same_mut (same_new np) np
        refine ⟨_, rfl, p, nV (tl b), rfl, .inl ⟨_, .inl (b : Int), .inl hp, rfl, ?_⟩, _, _, rfl, rfl, ?_⟩
        · rcases hb with rfl | rfl <;> rfl
        · dsimp only
          rw [xor_nat, ← e]
          exact ⟨_, rfl, s2.trans sp, sp _ _ ho2⟩
      · have c' : ¬ _ := fun z => c (decide_eq_true z)
        rw [shl_one] at c'
        have e : pw b (i + 1) = 2 * pw b i := if_pos (by omega)
        refine ⟨some (.int (0 + (i : Int))), ?_, s2, ho2⟩
        rw [e]
        rfl
    · rintro st H1 ⟨v3, rfl, s1, o1⟩
      have hlen : (wsV (tab b)).length = nn b := by rw [wsV_len, tab_len]
      rw [Int.toNat_natCast, show (tab b).take (nn b) = tab b from List.take_of_length_le (by rw [tab_len]; exact Nat.le_refl _)] at o1
      -- [(word, place) for ..]
      refine ⟨.ref o, rfl, .ref o, rfl, o, wsV (tab b), rfl, sq_l o1, fun D hD => ?_⟩
      refine lc_it (walk_enum (K := K) (a := o) (xs := wsV (tab b))) (fun i H2 => ∃ ps : List Addr, Same H1 H2 ∧ H2 D = some (.lst (ps.map .ref)) ∧ ps.length = i ∧ Paired (fun p (kv : Key × V) => SqT K H2 p [kV kv.1, kv.2]) ps ((FD b).take i)) ⟨[], same_new hD, upd_same, rfl, .nil⟩ (fun i H2 _ p => ?_) (fun i x H2 H3 hi p y => ?_) (fun H2 p => ?_)
      · obtain ⟨ps, s2, _⟩ := p
        exact sq_l (s2 _ _ o1)
      · obtain ⟨ps, s2, dD, hps, pr⟩ := p
        obtain ⟨T, x1, x2, rfl, nT, rfl, e1, e2⟩ := y
        rw [hlen] at hi
        have hx := tab_get b i hi
        have e1' := Option.some.inj e1
        have e2' := Option.some.inj ((wsV_get hx).symm.trans e2)
        subst e1' e2'
        refine ⟨T, _, rfl, sq_t upd_same, rfl, _, _, rfl, _, _, rfl, rfl, ?_⟩
        refine ⟨rfl, ?_⟩
        dsimp only [tYes]
        rw [if_pos rfl]
        refine ⟨_, rfl, _, rfl, (by decide : 2 ≤ sizeLine), fun p np => ?_⟩
        have nTD : D ≠ T := ne_of_none dD nT
        have d2 : (upd (upd H2 T (.tup [.int (i : Nat), nV (pw b i)])) p (.tup [nV (pw b i), .int (i : Nat)])) D = some (.lst (ps.map .ref)) := by
          have d1 : (upd H2 T (.tup [.int (i : Nat), nV (pw b i)])) D = some (.lst (ps.map .ref)) := by
            rw [upd_ne nTD]
            exact dD
          rw [upd_ne (ne_of_none d1 np)]
          exact d1
        have s3 : Same H2 (upd (upd H2 T (.tup [.int (i : Nat), nV (pw b i)])) p (.tup [nV (pw b i), .int (i : Nat)])) := (same_new nT).trans (same_new np)
        have hpD : p ≠ D := fun z => by
          rw [z, upd_ne nTD, dD] at np
          cases np
        refine ⟨_, d2, line_lt (by rw [List.length_map]; omega), ps ++ [p], same_mut (s2.trans s3) hD, ?_, by rw [List.length_append, hps]; rfl, ?_⟩
        · rw [upd_same, List.map_append]
          rfl
        · rw [List.take_add_one, FD_get hx]
          have up : ∀ {a : Addr} {xs : List V}, SqT K H2 a xs → SqT K (upd (upd (upd H2 T (.tup [.int (i : Nat), nV (pw b i)])) p (.tup [nV (pw b i), .int (i : Nat)])) D (.lst (ps.map V.ref ++ [.ref p]))) a xs := fun {a xs} h => by
            have h' := Same.tup s3 h
            rcases h' with (h' | ⟨o', h'⟩) | h'
            · exact .inl (.inl (by rw [upd_ne (ne_of h' d2 (by intro z; cases z))]; exact h'))
            · exact .inl (.inr ⟨o', by rw [upd_ne (ne_of h' d2 (by intro z; cases z))]; exact h'⟩)
            · exact .inr h'
          refine Paired.snoc (Paired.mapP pr fun a kv z => up z) ?_
          refine sq_t ?_
          rw [upd_ne hpD, upd_same]
          rfl
      · obtain ⟨ps, s2, dD, hps, pr⟩ := p
        rw [hlen] at hps pr
        rw [show (FD b).take (nn b) = FD b from List.take_of_length_le (by rw [FD_len]; exact Nat.le_refl _)] at pr
        refine ⟨D, ps, FD b, rfl, sq_l dD, pr, fun d nd => ?_⟩
        rw [mergeK_snoc (FD b) [] (FD_nodup hb), List.nil_append]
        refine ⟨(by decide : 2 ≤ sizeLine), fun t nt => ?_⟩
        have h0 : H d = none := (s1.trans s2).free nd
        have s4 : Same H2 (upd (upd H2 d (.dK (FD b))) t (.tup [.ref o, .ref d])) := (same_new nd).trans (same_new nt)
        refine q _ t ((s1.trans s2).trans s4) ?_ ⟨o, d, upd_same, s4 _ _ (s2 _ _ o1), ?_⟩
        · exact (s1.trans (s2.trans (same_new nd))).free nt
        · rw [upd_ne (ne_of_none upd_same nt)]
          exact upd_same
/-! _law_times: slots 0 _law_field_here, 1 _law_word, 2 _law_exp; cells  -/
abbrev s_law_times : Stmt := topS 43
abbrev n_law_times : List Str := ["_law_field_here", "_law_word", "_law_exp"]
theorem sc_law_times : FnScope n_law_times ["_law_field_here", "_law_word", "_law_exp"] (defScope s_law_times) := ⟨rfl, rfl, rfl, by decide +kernel, rfl, by decide +kernel, by decide +kernel⟩
theorem ok_law_times (D : Df K mg "_law_times" s_law_times) (B : Blt mg) : Cal P w K mg base CX0 (k + 1) "_law_times" ["_law_field_here", "_law_word", "_law_exp"] sp_law_times := by
  refine D.cal sc_law_times (fun _ _ _ _ _ _ us hl => match us, hl with | [_, _, _], _ => rfl) (fun vs H Q E h => ?_) (fun f cdv A outer s H vs Q E hr h => ?_)
  · obtain ⟨b, a, x, e, rfl, h⟩ := h
    rfl
  · obtain ⟨b, a, x, e, rfl, hb, ⟨l, d, ha, hl, hd⟩, hx, q⟩ := h
    refine ⟨_, (pss_cons (ps_if (pt_cmpR op_eq (pv 1) pe_int (nomark _))
        (pss_one (ps_ret pe_int))
        pss_nil)
      (pss_one (ps_ret (pe_ix ix_list (pe_ix ix_tup (pv 0) pe_int (fun _ _ => rfl)) (pe_op op_modN (pe_callTy call_int1 (by rfl) B.int_ (by decide +kernel) (pa_cons (pe_op op_add (pe_dget (hu_of hr) (pe_ix ix_tup (pv 0) pe_int (fun _ _ => rfl)) (pv 1) (fun _ _ => rfl)) (pv 2)) pa_nil)) (pe_callB call_len (by rfl) B.len_ (by decide +kernel) (pa_cons (pe_ix ix_tup (pv 0) pe_int (fun _ _ => rfl)) pa_nil))) (fun _ _ => rfl))))), ?_⟩
    refine ⟨_, rfl, rfl, _, rfl, ite2 (fun c => ?_) (fun c => ?_)⟩
    · have e0 : x = 0 := Int.ofNat.inj (V.int.inj (of_decide_eq_true c))
      subst e0
      rw [zero_mul] at q
      exact q
    · have nx : x ≠ 0 := fun z => c (by subst z; exact decide_eq_true rfl)
      have px := lg_lt hb hx (Nat.pos_of_ne_zero nx)
      have hn := nn_pos hb
      rw [mul_pw hb nx] at q
      refine ⟨_, rfl, a, _, 0, .ref l, rfl, rfl, sq_t ha, rfl, ?_⟩
      refine ⟨_, rfl, a, _, 1, .ref d, rfl, rfl, sq_t ha, rfl, _, rfl, d, _, rfl, .inl ⟨_, .inl (x : Int), .inl hd, rfl, (FD_val hb hx (Nat.pos_of_ne_zero nx)).symm⟩, ?_⟩
      refine ⟨_, rfl, _, _, rfl, rfl, .inl ⟨_, rfl, _, rfl, a, _, 0, .ref l, rfl, rfl, sq_t ha, rfl, _, nn b, rfl, .inl ⟨_, sq_l hl, by rw [wsV_len, tab_len]⟩, _, _, rfl, rfl, by omega, ?_⟩⟩
      refine ⟨l, wsV (tab b), _, nV (pw b (lg b x + e)), rfl, rfl, sq_l hl, ?_, q⟩
      rw [← Int.natCast_add, Int.fmod_eq_emod_of_nonneg _ (by omega), ← Int.natCast_emod]
      refine atI_nat (wsV_get ?_)
      rw [tab_get b _ (Nat.mod_lt _ hn), pw_mod hb]
/-! _law_at: slots 0 _law_field_here, 1 _law_line_so, 2 _law_exp, 3 _law_found, 4 _law_word; cells  -/
abbrev s_law_at : Stmt := topS 44
abbrev n_law_at : List Str := ["_law_field_here", "_law_line_so", "_law_exp", "_law_found", "_law_word"]
theorem sc_law_at : FnScope n_law_at ["_law_field_here", "_law_line_so", "_law_exp"] (defScope s_law_at) := ⟨rfl, rfl, rfl, by decide +kernel, rfl, by decide +kernel, by decide +kernel⟩
theorem ok_law_at (D : Df K mg "_law_at" s_law_at) (c_law_times : Cal P w K mg base CX0 k "_law_times" ["_law_field_here", "_law_word", "_law_exp"] sp_law_times) : Cal P w K mg base CX0 (k + 1) "_law_at" ["_law_field_here", "_law_line_so", "_law_exp"] (sp_law_at K) := by
  refine D.cal sc_law_at (fun _ _ _ _ _ _ us hl => match us, hl with | [_, _, _], _ => rfl) (fun vs H Q E h => ?_) (fun f cdv A outer s H vs Q E hr h => ?_)
  · obtain ⟨b, a, r, l, e, rfl, h⟩ := h
    rfl
  · obtain ⟨b, a, r, l, e, rfl, hb, hF, hl, lw, q⟩ := h
    refine ⟨_, (pss_cons (ps_set (i := 3) sc_law_at.nd rfl (Or.inl rfl) pe_int)
      (pss_cons (ps_for PassesOwn.never rfl (pi_list (pv 1)) (pg_name (i := 4) sc_law_at.nd rfl (Or.inl rfl))
        (pss_one (ps_set (i := 3) sc_law_at.nd rfl (Or.inl rfl) (pe_op op_xor (pe_cal c_law_times hr pass0 (pa_cons (pv 0) (pa_cons (pv 3) (pa_cons (pv 2) pa_nil)))) (pv 4)))))
      (pss_one (ps_ret (pv 3))))), ?_⟩
    have take : ∀ {i u : Nat}, l[i]? = some u → ev b (pw b e) (l.take (i + 1)) = mul b (ev b (pw b e) (l.take i)) (pw b e) ^^^ u := fun {i u} hu => by
      rw [List.take_add_one, hu]
      exact ev_snoc b (pw b e) (l.take i) u
    have wt : ∀ i, Ws b (l.take i) := fun i x hx => lw x (List.mem_of_mem_take hx)
    refine ⟨_, rfl, r, rfl, ⟨_, hl⟩, for_list (K := K) (a := r) (xs := wsV l) (fun i st H' => ∃ v4, H' = H ∧ st = [some (.ref a), some (.ref r), some (nV e), some (nV (ev b (pw b e) (l.take i))), v4]) ⟨none, rfl, rfl⟩ ?_ ?_ ?_⟩
    · rintro i st H' _ ⟨_, rfl, _⟩
      exact hl
    · rintro i y st H' hi ⟨v4, rfl, rfl⟩
      obtain ⟨u, hu, rfl⟩ := wsV_inv hi
      refine ⟨_, rfl, _, rfl, _, rfl, b, a, _, e, rfl, hb, hF, ev_lt hb _ _ (wt i), _, rfl, _, _, rfl, rfl, ?_⟩
      dsimp only
      rw [xor_nat, ← take hu]
      exact ⟨_, rfl, rfl⟩
    · rintro st H' ⟨v4, rfl, rfl⟩
      rw [wsV_len, List.take_length]
      exact ⟨_, rfl, q⟩
/-! _law_is_nought: slots 0 _law_field_here, 1 _law_kit, 2 _law_line_so, 3 _law_k; cells _law_field_here _law_kit _law_line_so -/
abbrev s_law_is_nought : Stmt := topS 47
abbrev n_law_is_nought : List Str := ["_law_field_here", "_law_kit", "_law_line_so", "_law_k"]
theorem sc_law_is_nought : FnScope n_law_is_nought ["_law_field_here", "_law_kit", "_law_line_so"] (defScope s_law_is_nought) := ⟨rfl, rfl, rfl, by decide +kernel, rfl, by decide +kernel, by decide +kernel⟩
theorem ok_law_is_nought (D : Df K mg "_law_is_nought" s_law_is_nought) (B : Blt mg) (c_law_at : Cal P w K mg base CX0 k "_law_at" ["_law_field_here", "_law_line_so", "_law_exp"] (sp_law_at K)) :
    Cal P w K mg base CX0 (k + 1) "_law_is_nought" ["_law_field_here", "_law_kit", "_law_line_so"] (sp_law_is_nought K) := by
  refine D.cal sc_law_is_nought (fun _ _ _ _ _ _ us hl => match us, hl with | [_, _, _], _ => rfl) (fun vs H Q E h => ?_) (fun f cdv A outer s H vs Q E hr h => ?_)
  · obtain ⟨b, a, c, r, many, start, l, rfl, h⟩ := h
    rfl
  · obtain ⟨b, a, c, r, many, start, l, rfl, hF, hk, hc, hl, lw, q⟩ := h
    refine ⟨_, (pss_one (ps_ret (pe_cmpR (op_eqD hr.units) (pe_lc (own := [("_law_k", 3)]) (g := (gName 3)) (tt := (tTest (tOp rNe (tCall (sp_law_at K) [] E0 (tCons (tVar 0) (tCons (tVar 2) (tCons (tOp rAdI (tOp (rIxT K) (tVar 1) (tC (.int 2))) (tVar 3)) tNil)))) (tC (.int 0))))) (te := (tVar 3)) rfl sc_law_is_nought.nd (pi_range1 (by rfl) B.range_ (pa_cons (pe_ix ix_tup (pv 1) pe_int (fun _ _ => rfl)) pa_nil)) (blkOk_by (N := n_law_is_nought) (sc := defScope s_law_is_nought) (by decide +kernel)) (fun _ _ _ _ _ => by exact (pg_name (i := 3) sc_law_is_nought.nd rfl (Or.inl rfl))) (fun _ _ _ _ _ => by exact (pts_one (pt_cmpR op_ne (pe_cal c_law_at hr pass0 (pa_cons (pv 0) (pa_cons (pv 2) (pa_cons (pe_op op_add (pe_ix ix_tup (pv 1) pe_int (fun _ _ => rfl)) (pv 3)) pa_nil)))) pe_int (nomark _)))) (fun _ _ _ _ _ => by exact (pv 3))) (pe_lst pa_nil) (nomark _)))), ?_⟩
    have hb := hk.bt
    have hm := hk.le
    refine ⟨_, rfl, c, _, 1, nV many, rfl, rfl, hc, rfl, many, rfl, by omega, by omega, fun D hD => lcN (walk_range (lo := 0) (n := many)) (fun i => ev b (pw b (start + i)) l != 0) (fun i => nV i) hD (by omega) (fun _ => rfl) (fun _ _ => trivial) (fun i x H' H'' hi s3 y => ?_) (fun H' s3 hD' => ?_)⟩
    · obtain ⟨e1, e2⟩ := y
      subst e1 e2
      have e0 : (fun i : Nat => V.int (0 + (i : Int))) i = nV i := by
        show V.int (0 + (i : Int)) = _
        rw [Int.zero_add]
      rw [e0]
      refine ⟨Same.refl _, fun R hR => ⟨_, rfl, _, rfl, _, rfl, c, _, 2, nV start, rfl, rfl, Same.tup s3 hc, rfl, _, rfl, _, _, rfl, rfl, b, a, r, l, start + i, rfl, hb, hF.same s3, s3.seq hl, lw, rfl, _, rfl, ?_⟩, fun _ H3 s4 Qk hQ => ⟨_, rfl, hQ H3 (Same.refl _)⟩⟩
      have e : (!decide (nV (ev b (pw b (start + i)) l) = nV 0)) = (ev b (pw b (start + i)) l != 0) := by
        rw [bne, Bool.not_eq_eq_eq_not, Bool.not_not, Bool.eq_iff_iff, decide_eq_true_iff, beq_iff_eq]
        exact ⟨fun z => Int.ofNat.inj (V.int.inj z), fun z => by rw [z]⟩
      rw [show V.int 0 = nV 0 from rfl, e]
      exact hR _ (Same.refl _)
    rw [sel_ws (v := fun i => i)] at hD'
    refine ⟨by show 0 ≤ _; decide, fun z nz => ?_⟩
    have sz := same_new (o := .lst []) nz
    refine ⟨_, _, Dp.ws (sq_l (sz _ _ hD')), Dp.ws (l := []) (sq_l upd_same), sh_ws _, sh_ws _, ?_⟩
    rw [eqv_ws, right_nil]
    exact q _ (s3.trans sz)
end
end Tw

namespace Tw
open PySem PySem.Spec PyProof.Rows L2
def okP (b : Nat) (t : Bool) : PyData → Bool := if t = true then okT b else okW b
def awOk (b n : Nat) (t : Bool) (d : PyData) : Bool := match itemsD d with
  | some ds => decide (ds.length = n) && ds.all (okP b t)
  | none => false
def sp_law_are_words (K : PySem.W.Frag) : Sp := fun vs H Q _ => ∃ (b : Nat) (c : Addr) (many start n : Nat) (v : V) (t : Bool) (d : PyData), vs = [.ref c, nV n, v, .bl t] ∧ Kode b many start ∧ At3 K H c b many start ∧ Dp K H v d ∧ ∀ H', Same H H' → Q (.bl (awOk b n t d)) H'
section
variable {P : Program} {w : World} {K : PySem.W.Frag} {mg : Str → Option Value} {base : Heap} {k : Nat}
/-! _law_are_words: slots 0 _law_kit, 1 _law_size, 2 _law_some, 3 _law_is_torn, 4 _law_word; cells  -/
abbrev s_law_are_words : Stmt := topS 48
abbrev n_law_are_words : List Str := ["_law_kit", "_law_size", "_law_some", "_law_is_torn", "_law_word"]
theorem sc_law_are_words : FnScope n_law_are_words ["_law_kit", "_law_size", "_law_some", "_law_is_torn"] (defScope s_law_are_words) := ⟨rfl, rfl, rfl, by decide +kernel, rfl, by decide +kernel, by decide +kernel⟩
theorem ok_law_are_words (D : Df K mg "_law_are_words" s_law_are_words) (B : Blt mg) : Cal P w K mg base CX0 (k + 1) "_law_are_words" ["_law_kit", "_law_size", "_law_some", "_law_is_torn"] (sp_law_are_words K) := by
  refine D.cal sc_law_are_words (fun _ _ _ _ _ _ us hl => match us, hl with | [_, _, _, _], _ => rfl) (fun vs H Q E h => ?_) (fun f cdv A outer s H vs Q E hr h => ?_)
  · obtain ⟨b, c, many, start, n, v, t, d, rfl, h⟩ := h
    rfl
  · obtain ⟨b, c, many, start, n, v, t, d, rfl, hk, hc, hd, q⟩ := h
    have hb := hk.bt
    rcases Dp.items hd with ⟨ds, a, xs, ei, rfl, hs, ha, kd, hp, hkd⟩ | ⟨ei, kd, hp, k1, k2⟩
    · have ew : awOk b n t d = (decide (ds.length = n) && ds.all (okP b t)) := by
        unfold awOk
        rw [ei]
      rw [ew] at q
      have hlen := DpAll.len ha
      rcases hs with hs | hs
      · refine ⟨_, (pss_cons (ps_if (PW.pt (pw_or (pt_not (pt_val (pe_callB call_isiT (by rfl) B.isinstance_ (by decide +kernel) (pa_cons (pv 2) (pa_cons (pe_tup (pa_cons (pe_bltn (v := .ty "list") (by rfl) B.list_ (by decide +kernel) rfl) (pa_cons (pe_bltn (v := .ty "tuple") (by rfl) B.tuple_ (by decide +kernel) rfl) pa_nil))) pa_nil))))) (pw_or1 (pt_cmpR op_ne (pe_callB call_len (by rfl) B.len_ (by decide +kernel) (pa_cons (pv 2) pa_nil)) (pv 1) (nomark _)))))
        (pss_one (ps_ret pe_bl))
        pss_nil)
      (pss_cons (ps_for PassesOwn.never rfl (pi_list (pv 2)) (pg_name (i := 4) sc_law_are_words.nd rfl (Or.inl rfl))
        (pss_cons (ps_if (PW.pt (pw_or (PW.pt (pw_and (pt_cmpR op_isN (pv 4) pe_non (nomark _)) (pw_and1 (pt_not (pt_val (pv 3)))))) (pw_or1 (pt_val (pe_callB call_isi (by rfl) B.isinstance_ (by decide +kernel) (pa_cons (pv 4) (pa_cons (pe_bltn (v := .ty "bool") (by rfl) B.bool_ (by decide +kernel) rfl) pa_nil)))))))
        (pss_one (ps_ret pe_bl))
        pss_nil)
      (pss_one (ps_if (PW.pt (pw_and (pt_cmpR op_notN (pv 4) pe_non (nomark _)) (pw_and1 (PW.pt (pw_or (pt_not (pt_val (pe_callB call_isi (by rfl) B.isinstance_ (by decide +kernel) (pa_cons (pv 4) (pa_cons (pe_bltn (v := .ty "int") (by rfl) B.int_ (by decide +kernel) rfl) pa_nil))))) (pw_or1 (pt_not (pt_chain op_le op_lt pe_int (pv 4) (pe_op op_shl pe_int (pe_ix ix_tup (pv 0) pe_int (fun _ _ => rfl)))))))))))
        (pss_one (ps_ret pe_bl))
        pss_nil))))
      (pss_one (ps_ret pe_bl)))), ?_⟩
        refine ⟨_, rfl, by show 2 ≤ _; decide, fun tp np => ?_⟩
        have s1 : Same H (upd H tp (.tup [.ty "list", .ty "tuple"])) := same_new np
        refine ⟨_, tp, _, _, _, true, rfl, upd_same, .cons (.ty _) (.cons (.ty _) .nil), (hp.same s1).ty, kit_lt_yes hkd, _, rfl, iteF ?_⟩
        refine ⟨_, rfl, _, xs.length, rfl, .inl ⟨_, s1.seq hs, rfl⟩, _, rfl, rfl, _, rfl, ite2 (fun cc => ?_) (fun cc => ?_)⟩
        · have nl : ds.length ≠ n := fun z => by
            rw [hlen, z, decide_eq_true rfl] at cc
            cases cc
          rw [decide_eq_false nl] at q
          exact q _ s1
        have el : ds.length = n := by
          refine Classical.byContradiction fun z => cc ?_
          have : decide (nV xs.length = nV n) = false := decide_eq_false fun y => z (by have := Int.ofNat.inj (V.int.inj y); omega)
          rw [this]
          rfl
        rw [decide_eq_true el, Bool.true_and] at q
        refine ⟨_, rfl, a, rfl, ⟨_, s1.seq hs⟩, for_list (K := K) (a := a) (xs := xs) (fun i st H' => ∃ v4, st = [some (.ref c), some (nV n), some (.ref a), some (.bl t), v4] ∧ Same H H' ∧ (ds.take i).all (okP b t) = true) ⟨none, rfl, s1, rfl⟩ (fun i st H' _ p => ?_) ?_ ?_⟩
        · obtain ⟨_, _, s2, _⟩ := p
          exact s2.seq hs
        · rintro i x st H' hi ⟨v4, rfl, s2, hall⟩
          obtain ⟨dx, hdx, hx⟩ := DpAll.get ha hi
          have no : okP b t dx = false → ∀ H', Same H H' → Q (.bl false) H' := fun z H' s' => by
            have := q H' s'
            rw [all_not hdx z] at this
            exact this
          have yes : okP b t dx = true → (ds.take (i + 1)).all (okP b t) = true := fun z => all_more hall hdx z
          have pw1 : ∀ y : PyData, y ≠ .none → okP b t y = okW b y := fun y hy => by
            unfold okP
            cases t with
            | false => rfl
            | true =>
              cases y with
              | none => exact absurd rfl hy
              | _ => rfl
          have hx2 := Dp.same s2 _ _ hx
          refine ⟨x, rfl, rfl, _, rfl, ?_⟩
          cases hx2 with
          | non =>
            refine iteT ?_
            cases t with
            | true =>
              refine ⟨_, rfl, _, rfl, iteF ⟨_, rfl, _, .ty "bool", _, _, _, rfl, .ty _, (Pl.non (K := K) (H := H')).ty, kit_bool .non, _, rfl, iteF ?_⟩⟩
              exact ⟨_, rfl, rfl, _, rfl, iteF ⟨_, rfl, s2, yes rfl⟩⟩
            | false => exact ⟨_, rfl, _, rfl, iteT (iteT (no rfl H' s2))⟩
          | bl bb =>
            exact iteF ⟨_, rfl, _, .ty "bool", _, _, _, rfl, .ty _, (Pl.bl (K := K) (H := H') bb).ty, kit_bool .bl, _, rfl, iteT (no (pw1 _ (by intro z; cases z)) H' s2)⟩
          | int ii =>
            refine iteF ⟨_, rfl, _, .ty "bool", _, _, _, rfl, .ty _, (Pl.int (K := K) (H := H') ii).ty, kit_bool .int, _, rfl, iteF ?_⟩
            refine ⟨_, rfl, rfl, _, rfl, iteT ⟨_, rfl, _, .ty "int", _, _, _, rfl, .ty _, (Pl.int (K := K) (H := H') ii).ty, kit_int .int, _, rfl, iteF ?_⟩⟩
            have e1 : okP b t (.int ii) = decide (0 ≤ ii ∧ ii < ((2 ^ b : Nat) : Int)) := pw1 _ (by intro z; cases z)
            refine ⟨_, rfl, _, _, rfl, rfl, _, rfl, ite2 (fun c1 => ?_) (fun c1 => ?_)⟩
            · have c1' : 0 ≤ ii := of_decide_eq_true c1
              refine ⟨_, rfl, c, _, 0, nV b, rfl, rfl, Same.tup s2 hc, rfl, 1, _, rfl, rfl, cpow_one hb, _, _, rfl, rfl, _, rfl, ?_⟩
              rw [shl_one]
              cases c2 : decide (ii < ((2 ^ b : Nat) : Int)) with
              | true => exact iteF ⟨_, rfl, s2, yes (e1.trans (decide_eq_true ⟨c1', of_decide_eq_true c2⟩))⟩
              | false => exact iteT (no (e1.trans (decide_eq_false fun z => by rw [decide_eq_true z.2] at c2; cases c2)) H' s2)
            · exact ⟨_, rfl, iteT (no (e1.trans (decide_eq_false fun z => c1 (decide_eq_true z.1))) H' s2)⟩
          | str zz =>
            refine iteF ⟨_, rfl, _, .ty "bool", _, _, _, rfl, .ty _, (Pl.str (K := K) (H := H') zz).ty, kit_bool .str, _, rfl, iteF ?_⟩
            exact ⟨_, rfl, rfl, _, rfl, iteT ⟨_, rfl, _, .ty "int", _, _, _, rfl, .ty _, (Pl.str (K := K) (H := H') zz).ty, kit_int .str, _, rfl, iteT (iteT (no (pw1 _ (by intro z; cases z)) H' s2))⟩⟩
          | lst h3 h4 =>
            refine iteF ⟨_, rfl, _, .ty "bool", _, _, _, rfl, .ty _, (Pl.lst h3).ty, kit_bool .lst, _, rfl, iteF ?_⟩
            exact ⟨_, rfl, rfl, _, rfl, iteT ⟨_, rfl, _, .ty "int", _, _, _, rfl, .ty _, (Pl.lst h3).ty, kit_int .lst, _, rfl, iteT (iteT (no (pw1 _ (by intro z; cases z)) H' s2))⟩⟩
          | tup h3 h4 =>
            refine iteF ⟨_, rfl, _, .ty "bool", _, _, _, rfl, .ty _, (Pl.tup h3).ty, kit_bool .tup, _, rfl, iteF ?_⟩
            exact ⟨_, rfl, rfl, _, rfl, iteT ⟨_, rfl, _, .ty "int", _, _, _, rfl, .ty _, (Pl.tup h3).ty, kit_int .tup, _, rfl, iteT (iteT (no (pw1 _ (by intro z; cases z)) H' s2))⟩⟩
        · rintro st H' ⟨v4, rfl, s2, hall⟩
          rw [hlen, List.take_length] at hall
          rw [hall] at q
          exact q H' s2
      · refine ⟨_, (pss_cons (ps_if (PW.pt (pw_or (pt_not (pt_val (pe_callB call_isiT (by rfl) B.isinstance_ (by decide +kernel) (pa_cons (pv 2) (pa_cons (pe_tup (pa_cons (pe_bltn (v := .ty "list") (by rfl) B.list_ (by decide +kernel) rfl) (pa_cons (pe_bltn (v := .ty "tuple") (by rfl) B.tuple_ (by decide +kernel) rfl) pa_nil))) pa_nil))))) (pw_or1 (pt_cmpR op_ne (pe_callB call_len (by rfl) B.len_ (by decide +kernel) (pa_cons (pv 2) pa_nil)) (pv 1) (nomark _)))))
        (pss_one (ps_ret pe_bl))
        pss_nil)
      (pss_cons (ps_for PassesOwn.never rfl (pi_tup (pv 2)) (pg_name (i := 4) sc_law_are_words.nd rfl (Or.inl rfl))
        (pss_cons (ps_if (PW.pt (pw_or (PW.pt (pw_and (pt_cmpR op_isN (pv 4) pe_non (nomark _)) (pw_and1 (pt_not (pt_val (pv 3)))))) (pw_or1 (pt_val (pe_callB call_isi (by rfl) B.isinstance_ (by decide +kernel) (pa_cons (pv 4) (pa_cons (pe_bltn (v := .ty "bool") (by rfl) B.bool_ (by decide +kernel) rfl) pa_nil)))))))
        (pss_one (ps_ret pe_bl))
        pss_nil)
      (pss_one (ps_if (PW.pt (pw_and (pt_cmpR op_notN (pv 4) pe_non (nomark _)) (pw_and1 (PW.pt (pw_or (pt_not (pt_val (pe_callB call_isi (by rfl) B.isinstance_ (by decide +kernel) (pa_cons (pv 4) (pa_cons (pe_bltn (v := .ty "int") (by rfl) B.int_ (by decide +kernel) rfl) pa_nil))))) (pw_or1 (pt_not (pt_chain op_le op_lt pe_int (pv 4) (pe_op op_shl pe_int (pe_ix ix_tup (pv 0) pe_int (fun _ _ => rfl)))))))))))
        (pss_one (ps_ret pe_bl))
        pss_nil))))
      (pss_one (ps_ret pe_bl)))), ?_⟩
        refine ⟨_, rfl, by show 2 ≤ _; decide, fun tp np => ?_⟩
        have s1 : Same H (upd H tp (.tup [.ty "list", .ty "tuple"])) := same_new np
        refine ⟨_, tp, _, _, _, true, rfl, upd_same, .cons (.ty _) (.cons (.ty _) .nil), (hp.same s1).ty, kit_lt_yes hkd, _, rfl, iteF ?_⟩
        refine ⟨_, rfl, _, xs.length, rfl, .inr ⟨_, Same.tup s1 hs, rfl⟩, _, rfl, rfl, _, rfl, ite2 (fun cc => ?_) (fun cc => ?_)⟩
        · have nl : ds.length ≠ n := fun z => by
            rw [hlen, z, decide_eq_true rfl] at cc
            cases cc
          rw [decide_eq_false nl] at q
          exact q _ s1
        have el : ds.length = n := by
          refine Classical.byContradiction fun z => cc ?_
          have : decide (nV xs.length = nV n) = false := decide_eq_false fun y => z (by have := Int.ofNat.inj (V.int.inj y); omega)
          rw [this]
          rfl
        rw [decide_eq_true el, Bool.true_and] at q
        refine ⟨_, rfl, a, rfl, ⟨_, Same.tup s1 hs⟩, for_tup (K := K) (a := a) (xs := xs) (fun i st H' => ∃ v4, st = [some (.ref c), some (nV n), some (.ref a), some (.bl t), v4] ∧ Same H H' ∧ (ds.take i).all (okP b t) = true) ⟨none, rfl, s1, rfl⟩ (fun i st H' _ p => ?_) ?_ ?_⟩
        · obtain ⟨_, _, s2, _⟩ := p
          exact Same.tup s2 hs
        · rintro i x st H' hi ⟨v4, rfl, s2, hall⟩
          obtain ⟨dx, hdx, hx⟩ := DpAll.get ha hi
          have no : okP b t dx = false → ∀ H', Same H H' → Q (.bl false) H' := fun z H' s' => by
            have := q H' s'
            rw [all_not hdx z] at this
            exact this
          have yes : okP b t dx = true → (ds.take (i + 1)).all (okP b t) = true := fun z => all_more hall hdx z
          have pw1 : ∀ y : PyData, y ≠ .none → okP b t y = okW b y := fun y hy => by
            unfold okP
            cases t with
            | false => rfl
            | true =>
              cases y with
              | none => exact absurd rfl hy
              | _ => rfl
          have hx2 := Dp.same s2 _ _ hx
          refine ⟨x, rfl, rfl, _, rfl, ?_⟩
          cases hx2 with
          | non =>
            refine iteT ?_
            cases t with
            | true =>
              refine ⟨_, rfl, _, rfl, iteF ⟨_, rfl, _, .ty "bool", _, _, _, rfl, .ty _, (Pl.non (K := K) (H := H')).ty, kit_bool .non, _, rfl, iteF ?_⟩⟩
              exact ⟨_, rfl, rfl, _, rfl, iteF ⟨_, rfl, s2, yes rfl⟩⟩
            | false => exact ⟨_, rfl, _, rfl, iteT (iteT (no rfl H' s2))⟩
          | bl bb =>
            exact iteF ⟨_, rfl, _, .ty "bool", _, _, _, rfl, .ty _, (Pl.bl (K := K) (H := H') bb).ty, kit_bool .bl, _, rfl, iteT (no (pw1 _ (by intro z; cases z)) H' s2)⟩
          | int ii =>
            refine iteF ⟨_, rfl, _, .ty "bool", _, _, _, rfl, .ty _, (Pl.int (K := K) (H := H') ii).ty, kit_bool .int, _, rfl, iteF ?_⟩
            refine ⟨_, rfl, rfl, _, rfl, iteT ⟨_, rfl, _, .ty "int", _, _, _, rfl, .ty _, (Pl.int (K := K) (H := H') ii).ty, kit_int .int, _, rfl, iteF ?_⟩⟩
            have e1 : okP b t (.int ii) = decide (0 ≤ ii ∧ ii < ((2 ^ b : Nat) : Int)) := pw1 _ (by intro z; cases z)
            refine ⟨_, rfl, _, _, rfl, rfl, _, rfl, ite2 (fun c1 => ?_) (fun c1 => ?_)⟩
            · have c1' : 0 ≤ ii := of_decide_eq_true c1
              refine ⟨_, rfl, c, _, 0, nV b, rfl, rfl, Same.tup s2 hc, rfl, 1, _, rfl, rfl, cpow_one hb, _, _, rfl, rfl, _, rfl, ?_⟩
              rw [shl_one]
              cases c2 : decide (ii < ((2 ^ b : Nat) : Int)) with
              | true => exact iteF ⟨_, rfl, s2, yes (e1.trans (decide_eq_true ⟨c1', of_decide_eq_true c2⟩))⟩
              | false => exact iteT (no (e1.trans (decide_eq_false fun z => by rw [decide_eq_true z.2] at c2; cases c2)) H' s2)
            · exact ⟨_, rfl, iteT (no (e1.trans (decide_eq_false fun z => c1 (decide_eq_true z.1))) H' s2)⟩
          | str zz =>
            refine iteF ⟨_, rfl, _, .ty "bool", _, _, _, rfl, .ty _, (Pl.str (K := K) (H := H') zz).ty, kit_bool .str, _, rfl, iteF ?_⟩
            exact ⟨_, rfl, rfl, _, rfl, iteT ⟨_, rfl, _, .ty "int", _, _, _, rfl, .ty _, (Pl.str (K := K) (H := H') zz).ty, kit_int .str, _, rfl, iteT (iteT (no (pw1 _ (by intro z; cases z)) H' s2))⟩⟩
          | lst h3 h4 =>
            refine iteF ⟨_, rfl, _, .ty "bool", _, _, _, rfl, .ty _, (Pl.lst h3).ty, kit_bool .lst, _, rfl, iteF ?_⟩
            exact ⟨_, rfl, rfl, _, rfl, iteT ⟨_, rfl, _, .ty "int", _, _, _, rfl, .ty _, (Pl.lst h3).ty, kit_int .lst, _, rfl, iteT (iteT (no (pw1 _ (by intro z; cases z)) H' s2))⟩⟩
          | tup h3 h4 =>
            refine iteF ⟨_, rfl, _, .ty "bool", _, _, _, rfl, .ty _, (Pl.tup h3).ty, kit_bool .tup, _, rfl, iteF ?_⟩
            exact ⟨_, rfl, rfl, _, rfl, iteT ⟨_, rfl, _, .ty "int", _, _, _, rfl, .ty _, (Pl.tup h3).ty, kit_int .tup, _, rfl, iteT (iteT (no (pw1 _ (by intro z; cases z)) H' s2))⟩⟩
        · rintro st H' ⟨v4, rfl, s2, hall⟩
          rw [hlen, List.take_length] at hall
          rw [hall] at q
          exact q H' s2
    · refine ⟨_, (pss_cons (ps_if (PW.pt (pw_or (pt_not (pt_val (pe_callB call_isiT (by rfl) B.isinstance_ (by decide +kernel) (pa_cons (pv 2) (pa_cons (pe_tup (pa_cons (pe_bltn (v := .ty "list") (by rfl) B.list_ (by decide +kernel) rfl) (pa_cons (pe_bltn (v := .ty "tuple") (by rfl) B.tuple_ (by decide +kernel) rfl) pa_nil))) pa_nil))))) (pw_or1 (pt_cmpR op_ne (pe_callB call_len (by rfl) B.len_ (by decide +kernel) (pa_cons (pv 2) pa_nil)) (pv 1) (nomark _)))))
        (pss_one (ps_ret pe_bl))
        pss_nil)
      (pss_cons (ps_for PassesOwn.never rfl (pi_list (pv 2)) (pg_name (i := 4) sc_law_are_words.nd rfl (Or.inl rfl))
        (pss_cons (ps_if (PW.pt (pw_or (PW.pt (pw_and (pt_cmpR op_isN (pv 4) pe_non (nomark _)) (pw_and1 (pt_not (pt_val (pv 3)))))) (pw_or1 (pt_val (pe_callB call_isi (by rfl) B.isinstance_ (by decide +kernel) (pa_cons (pv 4) (pa_cons (pe_bltn (v := .ty "bool") (by rfl) B.bool_ (by decide +kernel) rfl) pa_nil)))))))
        (pss_one (ps_ret pe_bl))
        pss_nil)
      (pss_one (ps_if (PW.pt (pw_and (pt_cmpR op_notN (pv 4) pe_non (nomark _)) (pw_and1 (PW.pt (pw_or (pt_not (pt_val (pe_callB call_isi (by rfl) B.isinstance_ (by decide +kernel) (pa_cons (pv 4) (pa_cons (pe_bltn (v := .ty "int") (by rfl) B.int_ (by decide +kernel) rfl) pa_nil))))) (pw_or1 (pt_not (pt_chain op_le op_lt pe_int (pv 4) (pe_op op_shl pe_int (pe_ix ix_tup (pv 0) pe_int (fun _ _ => rfl)))))))))))
        (pss_one (ps_ret pe_bl))
        pss_nil))))
      (pss_one (ps_ret pe_bl)))), ?_⟩
      refine ⟨_, rfl, by show 2 ≤ _; decide, fun tp np => ?_⟩
      have s1 : Same H (upd H tp (.tup [.ty "list", .ty "tuple"])) := same_new np
      refine ⟨_, tp, _, _, _, false, rfl, upd_same, .cons (.ty _) (.cons (.ty _) .nil), (hp.same s1).ty, kit_lt_no k1 k2, _, rfl, iteT (iteT ?_)⟩
      have ew : awOk b n t d = false := by
        unfold awOk
        rw [ei]
      rw [ew] at q
      exact q _ s1
end
end Tw

namespace Tw
open PySem PySem.Spec PyProof.Rows L2
theorem aw_T {b n : Nat} {d : PyData} : awOk b n true d = true ↔ wordsOk (okT b) d = true ∧ (gapsOf d).length = n := by
  unfold awOk wordsOk gapsOf
  cases e : itemsD d with
  | none => exact ⟨(fun z => nomatch z), (fun z => nomatch z.1)⟩
  | some ds =>
    show (decide (ds.length = n) && ds.all (okP b true)) = true ↔ _
    rw [Bool.and_eq_true, decide_eq_true_iff, Option.getD_some, List.length_map]
    exact ⟨fun z => ⟨z.2, z.1⟩, fun z => ⟨z.2, z.1⟩⟩
theorem aw_W {b n : Nat} {d : PyData} : awOk b n false d = true ↔ wordsOk (okW b) d = true ∧ (wordsOf d).length = n := by
  unfold awOk wordsOk wordsOf
  cases e : itemsD d with
  | none => exact ⟨(fun z => nomatch z), (fun z => nomatch z.1)⟩
  | some ds =>
    show (decide (ds.length = n) && ds.all (okP b false)) = true ↔ _
    rw [Bool.and_eq_true, decide_eq_true_iff, Option.getD_some, List.length_map]
    exact ⟨fun z => ⟨z.2, z.1⟩, fun z => ⟨z.2, z.1⟩⟩
def sp_law_due (K : PySem.W.Frag) : Sp := fun vs H Q _ => ∃ (b : Nat) (a c : Addr) (many start n e g : Nat) (v : V) (d : PyData), vs = [.ref a, .ref c, nV n, nV e, nV g, v] ∧ LF b H a ∧ Kode b many start ∧ At3 K H c b many start ∧ n ≤ nn b ∧ Dp K H v d ∧
  ∀ H', Same H H' → Q (.bl (due b many start n e g d)) H'
section
variable {P : Program} {w : World} {K : PySem.W.Frag} {mg : Str → Option Value} {base : Heap} {k : Nat}
/-! _law_due: slots 0 _law_field_here, 1 _law_kit, 2 _law_size, 3 _law_bent, 4 _law_holes, 5 _law_thing, 6 _law_torn, 7 _law_one, 8 _law_other, 9 _law_some, 10 _law_k, 11 _law_word; cells _law_kit _law_size _law_some _law_thing -/
abbrev s_law_due : Stmt := topS 49
abbrev n_law_due : List Str := ["_law_field_here", "_law_kit", "_law_size", "_law_bent", "_law_holes", "_law_thing", "_law_torn", "_law_one", "_law_other", "_law_some", "_law_k", "_law_word"]
theorem sc_law_due : FnScope n_law_due ["_law_field_here", "_law_kit", "_law_size", "_law_bent", "_law_holes", "_law_thing"] (defScope s_law_due) := ⟨rfl, rfl, rfl, by decide +kernel, rfl, by decide +kernel, by decide +kernel⟩
theorem ok_law_due (D : Df K mg "_law_due" s_law_due) (B : Blt mg) (c_law_are_words : Cal P w K mg base CX0 k "_law_are_words" ["_law_kit", "_law_size", "_law_some", "_law_is_torn"] (sp_law_are_words K))
    (c_law_is_nought : Cal P w K mg base CX0 k "_law_is_nought" ["_law_field_here", "_law_kit", "_law_line_so"] (sp_law_is_nought K)) : Cal P w K mg base CX0 (k + 1) "_law_due" ["_law_field_here", "_law_kit", "_law_size", "_law_bent", "_law_holes", "_law_thing"] (sp_law_due K) := by
  refine D.cal sc_law_due (fun _ _ _ _ _ _ us hl => match us, hl with | [_, _, _, _, _, _], _ => rfl) (fun vs H Q E h => ?_) (fun f cdv A outer s H vs Q E hr h => ?_)
  · obtain ⟨b, a, c, many, start, n, e, g, v, d, rfl, h⟩ := h
    rfl
  · obtain ⟨b, fa, c, many, start, n, e, g, v, d, rfl, hF, hk, hc, hn2, hd, q⟩ := h
    refine ⟨_, (pss_cons (ps_if (PW.pt (pw_or (pt_not (pt_val (pe_callB call_isi (by rfl) B.isinstance_ (by decide +kernel) (pa_cons (pv 5) (pa_cons (pe_bltn (v := .ty "tuple") (by rfl) B.tuple_ (by decide +kernel) rfl) pa_nil))))) (pw_or1 (pt_cmpR op_ne (pe_callB call_len (by rfl) B.len_ (by decide +kernel) (pa_cons (pv 5) pa_nil)) pe_int (nomark _)))))
        (pss_one (ps_ret pe_bl))
        pss_nil)
      (pss_cons (ps_if (pt_cmpR (op_neD hr.units) (pe_lc (own := [("_law_k", 10)]) (g := (gName 10)) (tt := (tNot (tB (tCall (sp_law_are_words K) [] E0 (tCons (tVar 1) (tCons (tVar 2) (tCons (tOp (rIxT K) (tVar 5) (tVar 10)) (tCons (tOp rEq (tVar 10) (tC (.int 0))) tNil)))))))) (te := (tC (.int 1))) rfl sc_law_due.nd (pi_range1 (by rfl) B.range_ (pa_cons pe_int pa_nil)) (blkOk_by (N := n_law_due) (sc := defScope s_law_due) (by decide +kernel)) (fun _ _ _ _ _ => by exact (pg_name (i := 10) sc_law_due.nd rfl (Or.inl rfl))) (fun _ _ _ _ _ => by exact (pts_one (pt_not (pt_val (pe_cal c_law_are_words hr pass0 (pa_cons (pv 1) (pa_cons (pv 2) (pa_cons (pe_ix ix_tup (pv 5) (pv 10) (fun _ _ => rfl)) (pa_cons (pe_cmpR op_eq (pv 10) pe_int (nomark _)) pa_nil))))))))) (fun _ _ _ _ _ => by exact pe_int)) (pe_lst pa_nil) (nomark _))
        (pss_one (ps_ret pe_bl))
        pss_nil)
      (pss_cons (ps_asg (pe_lc (own := [("_law_some", 9)]) (g := (gName 9)) (tt := tYes) (te := (tCB (rListK K) (tCons (tVar 9) tNil))) rfl sc_law_due.nd (pi_tup (pv 5)) (blkOk_by (N := n_law_due) (sc := defScope s_law_due) (by decide +kernel)) (fun _ _ _ _ _ => by exact (pg_name (i := 9) sc_law_due.nd rfl (Or.inl rfl))) (fun _ _ _ _ _ => pts_nil) (fun _ _ _ _ _ => by exact (pe_callTy call_list_of (by rfl) B.list_ (by decide +kernel) (pa_cons (pv 9) pa_nil)))) (pg_lst (n := 3) rfl (pgs_cons (pg_name (i := 6) sc_law_due.nd rfl (Or.inl rfl)) (pgs_cons (pg_name (i := 7) sc_law_due.nd rfl (Or.inl rfl)) (pgs_cons (pg_name (i := 8) sc_law_due.nd rfl (Or.inl rfl)) pgs_nil)))))
      (pss_cons (ps_if (PW.pt (pw_or (pt_cmpR (op_eqD hr.units) (pv 7) (pv 8) (nomark _)) (pw_or1 (pt_cmpR op_ne (pe_bm PySem.F.plainAttrs_list PySem.F.slot_list_count PySem.F.type_list_count mt_countN (pv 6) (pa_cons pe_non pa_nil)) (pv 4) (nomark _)))))
        (pss_one (ps_ret pe_bl))
        pss_nil)
      (pss_cons (ps_for PassesOwn.never rfl (pi_tup (pe_tup (pa_cons (pv 7) (pa_cons (pv 8) pa_nil)))) (pg_name (i := 9) sc_law_due.nd rfl (Or.inr rfl))
        (pss_cons (ps_if (pt_not (pt_val (pe_cal c_law_is_nought hr pass0 (pa_cons (pv 0) (pa_cons (pv 1) (pa_cons (pv 9) pa_nil))))))
        (pss_one (ps_ret pe_bl))
        pss_nil)
      (pss_one (ps_if (pt_cmpR op_gt (pe_callB call_len (by rfl) B.len_ (by decide +kernel) (pa_cons (pe_lc (own := [("_law_k", 10), ("_law_word", 11)]) (g := (gTup K 2 (gCons (gName 10) (gCons (gName 11) gNil)))) (tt := (tAnd (tTest (tOp rNoNo (tVar 11) (tC .non))) (tTest (tOp rNe (tVar 11) (tOp (rIxL K) (tVar 9) (tVar 10)))))) (te := (tC (.int 1))) rfl sc_law_due.nd (pi_enum (by rfl) B.enumerate_ (pa_cons (pv 6) pa_nil)) (blkOk_by (N := n_law_due) (sc := defScope s_law_due) (by decide +kernel)) (fun _ _ _ _ _ => by exact (pg_tup (by rfl) (pgs_cons (pg_name (i := 10) sc_law_due.nd rfl (Or.inl rfl)) (pgs_cons (pg_name (i := 11) sc_law_due.nd rfl (Or.inl rfl)) pgs_nil)))) (fun _ _ _ _ _ => by exact (pts_one (PW.pt (pw_and (pt_cmpR op_notN (pv 11) pe_non (nomark _)) (pw_and1 (pt_cmpR op_ne (pv 11) (pe_ix ix_list (pv 9) (pv 10) (fun _ _ => rfl)) (nomark _))))))) (fun _ _ _ _ _ => by exact pe_int)) pa_nil)) (pv 3) (nomark _))
        (pss_one (ps_ret pe_bl))
        pss_nil))))
      (pss_one (ps_ret pe_bl))))))), ?_⟩
    have hb := hk.bt
    have hnn := nn_le hb
    rcases Dp.tuple_or hd with ⟨a, xs, ds, rfl, rfl, hs, ha⟩ | ⟨kd, hp, hne, hdue⟩
    rotate_left
    · refine ⟨_, rfl, v, .ty "tuple", _, _, _, rfl, .ty _, hp.ty, kit_tuple_no hne, _, rfl, iteT (iteT ?_)⟩
      rw [hdue] at q
      exact q H (Same.refl H)
    refine ⟨_, rfl, _, .ty "tuple", _, _, _, rfl, .ty _, (Pl.tup hs).ty, kit_tuple _, _, rfl, iteF ?_⟩
    refine ⟨_, rfl, _, xs.length, rfl, .inr ⟨_, hs, rfl⟩, rfl, _, rfl, ?_⟩
    rcases DpAll.three_or ha with ⟨x, y, z, r, o, w', rfl, rfl, hx, hy, hz⟩ | ⟨hne, hdue⟩
    rotate_left
    · refine ite2 (fun cc => ?_) (fun cc => ?_)
      · rw [hdue] at q
        exact q H (Same.refl H)
      · refine absurd ?_ cc
        have : decide (V.int (xs.length : Int) = V.int 3) = false := decide_eq_false fun z => by
          have := V.int.inj z
          omega
        rw [this]
        rfl
    refine iteF ?_
    have no : dueT b many start n e g r o w' = false → ∀ H', Same H H' → Q (.bl false) H' := fun z H' s' => by
      have := q H' s'
      rw [show due b many start n e g (.tuple [r, o, w']) = dueT b many start n e g r o w' from rfl, z] at this
      exact this
    -- are they words
    refine ⟨3, rfl, by decide, by decide, fun D1 hD1 => lcN (walk_range (lo := 0) (n := 3)) (fun i => !awOk b n (decide (i = 0)) ([r, o, w'].getD i .none)) (fun _ => nV 1) hD1 (by decide) (fun _ => rfl) (fun _ _ => trivial) (fun i x' H1 H2 hi s1 yy => ?_) (fun H1 s1 hD => ?_)⟩
    · obtain ⟨e1, e2⟩ := yy
      subst e1 e2
      have e0 : (fun i : Nat => V.int (0 + (i : Int))) i = nV i := by
        show V.int (0 + (i : Int)) = _
        rw [Int.zero_add]
      rw [e0]
      refine ⟨Same.refl _, fun R hR => ?_, fun _ H3 s4 Qk hQ => hQ H3 (Same.refl _)⟩
      match i, hi with
      | 0, _ => exact ⟨_, rfl, _, rfl, _, rfl, _, rfl, a, _, _, x, rfl, rfl, Same.tup s1 hs, rfl, _, rfl, rfl, b, c, many, start, n, x, true, r, rfl, hk, Same.tup s1 hc, Dp.same s1 _ _ hx, fun H4 s4 => ⟨_, rfl, hR H4 s4⟩⟩
      | 1, _ => exact ⟨_, rfl, _, rfl, _, rfl, _, rfl, a, _, _, y, rfl, rfl, Same.tup s1 hs, rfl, _, rfl, rfl, b, c, many, start, n, y, false, o, rfl, hk, Same.tup s1 hc, Dp.same s1 _ _ hy, fun H4 s4 => ⟨_, rfl, hR H4 s4⟩⟩
      | 2, _ => exact ⟨_, rfl, _, rfl, _, rfl, _, rfl, a, _, _, z, rfl, rfl, Same.tup s1 hs, rfl, _, rfl, rfl, b, c, many, start, n, z, false, w', rfl, hk, Same.tup s1 hc, Dp.same s1 _ _ hz, fun H4 s4 => ⟨_, rfl, hR H4 s4⟩⟩
    rw [sel_ws (v := fun _ => 1)] at hD
    refine ⟨by show 0 ≤ _; decide, fun z0 nz0 => ?_⟩
    have sz0 := same_new (o := .lst []) nz0
    refine ⟨_, _, Dp.ws (sq_l (sz0 _ _ hD)), Dp.ws (l := []) (sq_l upd_same), sh_ws _, sh_ws _, _, rfl, ?_⟩
    rw [eqv_ws]
    have s2 := s1.trans sz0
    refine ite2 (fun t => ?_) (fun t => ?_)
    · refine no (due_no fun zz => ?_) _ s2
      obtain ⟨z1, z2, z3, ⟨l1, l2, l3⟩, _⟩ := due_iff.mp zz
      have a1 := aw_T.mpr ⟨z1, l1⟩
      have a2 := aw_W.mpr ⟨z2, l2⟩
      have a3 := aw_W.mpr ⟨z3, l3⟩
      have : ((List.range 3).filter fun i => !awOk b n (decide (i = 0)) ([r, o, w'].getD i .none)) = [] := by
        refine List.filter_eq_nil_iff.mpr fun i hi => ?_
        match i, List.mem_range.mp hi with
        | 0, _ => show ¬ (!awOk b n true r) = true; rw [a1]; decide
        | 1, _ => show ¬ (!awOk b n false o) = true; rw [a2]; decide
        | 2, _ => show ¬ (!awOk b n false w') = true; rw [a3]; decide
      rw [this] at t
      cases t
    have t' : ((List.range 3).filter fun i => !awOk b n (decide (i = 0)) ([r, o, w'].getD i .none)).map (fun _ => 1) = [] := by
      refine Classical.byContradiction fun zz => t ?_
      rw [decide_eq_false zz]
      rfl
    have aw : ∀ i, i < 3 → awOk b n (decide (i = 0)) ([r, o, w'].getD i .none) = true := fun i hi => by
      have := sel_nil (f := fun i => !awOk b n (decide (i = 0)) ([r, o, w'].getD i .none)) t' hi
      rw [Bool.not_eq_false'] at this
      exact this
    obtain ⟨m1, l1⟩ := aw_T.mp (show awOk b n true r = true from aw 0 (by decide))
    obtain ⟨m2, l2⟩ := aw_W.mp (show awOk b n false o = true from aw 1 (by decide))
    obtain ⟨m3, l3⟩ := aw_W.mp (show awOk b n false w' = true from aw 2 (by decide))
    clear t t' aw
    generalize (upd H1 z0 (.lst [])) = H2 at s2
    obtain ⟨rA, rfl, rS⟩ := Dp.torn hx m1
    obtain ⟨oA, rfl, oS, oW⟩ := Dp.row hy m2
    obtain ⟨wA, rfl, wS, wW⟩ := Dp.row hz m3
    -- the rows as lists
    refine ⟨_, rfl, a, rfl, ⟨_, Same.tup s2 hs⟩, fun D hD => lcRows (K := K) (walk_tup (K := K) (a := a) (xs := [.ref rA, .ref oA, .ref wA])) [(gapsOf r).map gN, wsV (wordsOf o), wsV (wordsOf w')] hD (by show 3 ≤ _; decide) (fun _ => rfl) (fun H' s' => Same.tup s' (Same.tup s2 hs)) (fun _ => rfl) (fun i x hi => ?_) (fun H' ps sD hD' hl hp => ?_)⟩
    · match i, hi with
      | 0, hi => exact ⟨rA, _, (Option.some.inj hi).symm, rfl, Same.sq s2 rS⟩
      | 1, hi => exact ⟨oA, _, (Option.some.inj hi).symm, rfl, Same.sq s2 oS⟩
      | 2, hi => exact ⟨wA, _, (Option.some.inj hi).symm, rfl, Same.sq s2 wS⟩
    obtain ⟨p0, p1, p2, rfl⟩ := ps3 hl
    obtain ⟨g0, _⟩ := hp 0 p0 rfl
    obtain ⟨g1, _⟩ := hp 1 p1 rfl
    obtain ⟨g2, _⟩ := hp 2 p2 rfl
    have g0 : H' p0 = some (.lst ((gapsOf r).map gN)) := g0
    have g1 : H' p1 = some (.lst (wsV (wordsOf o))) := g1
    have g2 : H' p2 = some (.lst (wsV (wordsOf w'))) := g2
    refine ⟨D, _, rfl, sq_l hD', rfl, _, _, rfl, _, _, rfl, _, _, rfl, rfl, ?_⟩
    have sF := s2.trans sD
    -- one and other, the gaps
    refine ⟨_, rfl, _, rfl, _, _, Dp.ws (sq_l g1), Dp.ws (sq_l g2), sh_ws _, sh_ws _, _, rfl, ?_⟩
    rw [eqv_ws]
    refine ite2 (fun t4 => iteT ?_) (fun t4 => ?_)
    · refine no (due_no fun z => ?_) _ sF
      obtain ⟨_, _, _, _, z5, _⟩ := due_iff.mp z
      exact z5 (of_decide_eq_true t4)
    have t4' : ¬ wordsOf o = wordsOf w' := fun z => t4 (decide_eq_true z)
    refine ⟨.ref p0, rfl, .inl ⟨rfl, _, sq_l g0⟩, p0, _, rfl, rfl, (gN_gV (gapsOf r)) ▸ sq_l g0, ?_⟩
    rw [count_gN]
    refine ⟨_, rfl, rfl, _, rfl, ite2 (fun t5 => ?_) (fun t5 => ?_)⟩
    · refine no (due_no fun z => ?_) _ sF
      obtain ⟨_, _, _, _, _, z6, _⟩ := due_iff.mp z
      rw [z6, decide_eq_true rfl] at t5
      cases t5
    have t5' : (gapsOf r).countP Option.isNone = g := by
      refine Classical.byContradiction fun z => t5 ?_
      have : decide (V.int ((gapsOf r).countP Option.isNone : Nat) = nV g) = false := decide_eq_false fun y => z (Int.ofNat.inj (V.int.inj y))
      rw [this]
      rfl
    -- the two rows
    refine ⟨_, rfl, _, rfl, by show 2 ≤ _; decide, fun T nT => ?_⟩
    have sT : Same H' (upd H' T (.tup [.ref p1, .ref p2])) := same_new nT
    have sT2 := sF.trans sT
    refine ⟨T, rfl, ⟨_, sq_t upd_same⟩, for_tup (K := K) (a := T) (xs := [.ref p1, .ref p2]) (fun i st H3 => ∃ v9, st = [some (.ref fa), some (.ref c), some (nV n), some (nV e), some (nV g), some (.ref a), some (.ref p0), some (.ref p1), some (.ref p2), v9, none, none] ∧ Same (upd H' T (.tup [.ref p1, .ref p2])) H3 ∧
      ∀ j, j < i → right b many start (if j = 0 then wordsOf o else wordsOf w') = true ∧ unl n (gapsOf r) (if j = 0 then wordsOf o else wordsOf w') ≤ e) ⟨none, rfl, Same.refl _, fun j hj => absurd hj (Nat.not_lt_zero j)⟩ (fun i st H3 _ p => ?_) ?_ ?_⟩
    · obtain ⟨_, _, s3, _⟩ := p
      exact sq_t (s3 _ _ upd_same)
    · rintro i x st H3 hi ⟨v9, rfl, s3, hgood⟩
      have s03 := sT2.trans s3
      have hpl : ∃ p l, x = .ref p ∧ H3 p = some (.lst (wsV l)) ∧ Ws b l ∧ l.length = n ∧ l = (if i = 0 then wordsOf o else wordsOf w') ∧ (dueT b many start n e g r o w' = true → right b many start l = true ∧ unl n (gapsOf r) l ≤ e) := by
        match i, hi with
        | 0, hi =>
          cases hi
          exact ⟨p1, wordsOf o, rfl, s3 _ _ (sT _ _ g1), oW, l2, rfl, fun z => by
            obtain ⟨_, _, _, _, _, _, z7, _, z9, _⟩ := due_iff.mp z
            exact ⟨z7, z9⟩⟩
        | 1, hi =>
          cases hi
          exact ⟨p2, wordsOf w', rfl, s3 _ _ (sT _ _ g2), wW, l3, rfl, fun z => by
            obtain ⟨_, _, _, _, _, _, _, z8, _, z10⟩ := due_iff.mp z
            exact ⟨z8, z10⟩⟩
      obtain ⟨p, l, rfl, hpl, wl, ll, el, hdue⟩ := hpl
      refine ⟨_, rfl, _, rfl, _, rfl, b, fa, c, p, many, start, l, rfl, hF.same s03, hk, Same.tup s03 hc, sq_l hpl, wl, fun H4 s4 => ⟨_, rfl, ?_⟩⟩
      cases hr1 : right b many start l with
      | false =>
        refine iteT (no (due_no fun z => ?_) H4 (s03.trans s4))
        have := (hdue z).1
        rw [hr1] at this
        cases this
      | true =>
        refine iteF ?_
        have g04 : H4 p0 = some (.lst ((gapsOf r).map gN)) := s4 _ _ (s3 _ _ (sT _ _ g0))
        have gl : ((gapsOf r).map gN).length = n := by rw [List.length_map, l1]
        refine ⟨_, rfl, p0, _, rfl, sq_l g04, fun D5 hD5 => lcP (K := K) (walk_enum (K := K) (a := p0) (xs := (gapsOf r).map gN)) (fun i => dif ((gapsOf r).getD i none) (l.getD i 0)) (fun _ => .int 1) hD5 (by rw [gl]; omega) (fun _ _ => rfl) (fun H'' s => sq_l (s _ _ g04))
          (fun i x y H'' hi hx hy s5 => ?_) (fun H5 s5 hD6 => ?_)⟩
        · have hx' := Option.some.inj hx
          subst hx'
          obtain ⟨gg, hgg, rfl⟩ := gN_inv hy
          rw [gl] at hi
          obtain ⟨u, hu⟩ : ∃ u, l[i]? = some u := ⟨_, List.getElem?_eq_getElem (by omega)⟩
          rw [getD_of hgg, getD_of hu]
          refine ⟨fun R hR => ?_, fun _ H3 s3 Qk hQ => hQ H3 (Same.refl H3)⟩
          refine ⟨_, rfl, rfl, _, rfl, ?_⟩
          cases gg with
          | none => exact hR H'' (Same.refl _)
          | some yy =>
            refine ⟨_, rfl, _, rfl, _, rfl, p, _, _, nV u, rfl, rfl, sq_l (s5 _ _ (s4 _ _ hpl)), atI_nat (wsV_get hu), rfl, _, rfl, ?_⟩
            have e : (!decide (gN (some yy) = nV u)) = dif (some yy) u := by
              show (!decide (nV yy = nV u)) = (yy != u)
              rw [bne, Bool.not_eq_eq_eq_not, Bool.not_not, Bool.eq_iff_iff, decide_eq_true_iff, beq_iff_eq]
              exact ⟨fun z => Int.ofNat.inj (V.int.inj z), fun z => by rw [z]⟩
            rw [e]
            exact hR H'' (Same.refl _)
        · rw [gl] at hD6
          have ec : (sel n (fun i => dif ((gapsOf r).getD i none) (l.getD i 0)) fun _ => V.int 1).length = unl n (gapsOf r) l := by
            unfold sel unl
            rw [List.length_map]
          refine ⟨_, _, rfl, .inl ⟨_, sq_l hD6, ec.symm⟩, _, rfl, _, _, rfl, rfl, _, rfl, ite2 (fun t6 => ?_) (fun t6 => ?_)⟩
          · refine no (due_no fun z => ?_) H5 ((s03.trans s4).trans s5)
            have h1 := (hdue z).2
            have h2 : (e : Int) < (unl n (gapsOf r) l : Nat) := of_decide_eq_true t6
            omega
          · have h2 : unl n (gapsOf r) l ≤ e := by
              refine Classical.byContradiction fun z => t6 (decide_eq_true ?_)
              omega
            refine ⟨_, rfl, (s3.trans s4).trans s5, fun j hj => ?_⟩
            by_cases hji : j = i
            · subst hji
              rw [← el]
              exact ⟨hr1, h2⟩
            · exact hgood j (by omega)
    · rintro st H3 ⟨v9, rfl, s3, hgood⟩
      have h1 := hgood 0 (by show 0 < 2; decide)
      have h2 := hgood 1 (by show 1 < 2; decide)
      rw [if_pos rfl] at h1
      rw [if_neg (by decide)] at h2
      have ed : due b many start n e g (.tuple [r, o, w']) = true := due_iff.mpr ⟨m1, m2, m3, ⟨l1, l2, l3⟩, t4', t5', h1.1, h2.1, h1.2, h2.2⟩
      have := q H3 (sT2.trans s3)
      rw [ed] at this
      exact this
end
end Tw

namespace Tw
open PySem PySem.Spec PyProof.Rows L2
/-! ### small data -/
structure Sm (W D : Nat) (d : PyData) : Prop where
  lay : d.canLay0 = true
  dep : d.depth ≤ D
  wt : d.weight ≤ W
  sh : d.showable = true
  ish : d.intsShort 13 = true
theorem Sm.mono {W W' D D' : Nat} {d : PyData} (s : Sm W D d) (h1 : W ≤ W') (h2 : D ≤ D') : Sm W' D' d := ⟨s.lay, Nat.le_trans s.dep h2, Nat.le_trans s.wt h1, s.sh, s.ish⟩
theorem sm_none {W D : Nat} : Sm W D .none := ⟨rfl, by rw [PyData.depth]; exact Nat.zero_le _, by rw [PyData.weight]; exact Nat.zero_le _, rfl, rfl⟩
theorem sm_bool {W D : Nat} (b : Bool) : Sm W D (.bool b) := ⟨rfl, by rw [PyData.depth]; exact Nat.zero_le _, by rw [PyData.weight]; exact Nat.zero_le _, rfl, rfl⟩
theorem small_ints : (List.range 257).all (fun n => decide ((PyData.shown (.int (n : Int))).length ≤ 13) && decide (PyData.weight (.int (n : Int)) ≤ 20) && PyData.showable (.int (n : Int))) = true := by decide +kernel
theorem sm_nat {n D : Nat} (h : n ≤ 256) : Sm 20 D (.int (n : Int)) := by
  have q := List.all_eq_true.mp small_ints n (List.mem_range.mpr (by omega))
  simp only [Bool.and_eq_true, decide_eq_true_eq] at q
  refine ⟨rfl, by rw [PyData.depth]; exact Nat.zero_le _, q.1.2, q.2, ?_⟩
  rw [PyData.intsShort]
  exact decide_eq_true q.1.1
theorem sm_neg {D : Nat} : Sm 20 D (.int (-1)) := ⟨rfl, by rw [PyData.depth]; exact Nat.zero_le _, by decide +kernel, by decide +kernel, by decide +kernel⟩
theorem sm_one {D : Nat} : Sm 20 D (.str "1") := ⟨by decide +kernel, by rw [PyData.depth]; exact Nat.zero_le _, by decide +kernel, rfl, rfl⟩
theorem sm_ab {D : Nat} : Sm 20 D (.str "ab") := ⟨by decide +kernel, by rw [PyData.depth]; exact Nat.zero_le _, by decide +kernel, rfl, rfl⟩
theorem sm_all {W D : Nat} : ∀ {ds : List PyData}, (∀ d ∈ ds, Sm W D d) → PyData.canLayAll0 ds = true ∧ PyData.depthAll ds ≤ D ∧ PyData.weightAll ds ≤ ds.length * (W + 1) ∧ PyData.showableAll ds = true ∧ PyData.intsShortAll 13 ds = true
  | [], _ => ⟨by rw [PyData.canLayAll0], by rw [PyData.depthAll]; exact Nat.zero_le _, by rw [PyData.weightAll]; exact Nat.zero_le _, by rw [PyData.showableAll], by rw [PyData.intsShortAll]⟩
  | d :: ds, h => by
    have s := h d List.mem_cons_self
    obtain ⟨h1, h2, h3, h4, h5⟩ := sm_all (ds := ds) fun x hx => h x (List.mem_cons_of_mem _ hx)
    refine ⟨by rw [PyData.canLayAll0, s.lay, h1]; rfl, by rw [PyData.depthAll]; exact Nat.max_le.mpr ⟨s.dep, h2⟩, ?_, by rw [PyData.showableAll, s.sh, h4]; rfl, by rw [PyData.intsShortAll, s.ish, h5]; rfl⟩
    rw [PyData.weightAll, List.length_cons, Nat.succ_mul]
    have := s.wt
    omega
theorem sm_list {W D N : Nat} {ds : List PyData} (h : ∀ d ∈ ds, Sm W D d) (hn : ds.length ≤ N) : Sm (N * (W + 1)) (D + 1) (.list ds) := by
  obtain ⟨h1, h2, h3, h4, h5⟩ := sm_all h
  have h6 : ds.length * (W + 1) ≤ N * (W + 1) := Nat.mul_le_mul_right _ hn
  exact ⟨by rw [PyData.canLay0]; exact h1, by rw [PyData.depth]; omega, by rw [PyData.weight]; omega, by rw [PyData.showable]; exact h4, by rw [PyData.intsShort]; exact h5⟩
theorem sm_tuple {W D N : Nat} {ds : List PyData} (h : ∀ d ∈ ds, Sm W D d) (hn : ds.length ≤ N) : Sm (N * (W + 1)) (D + 1) (.tuple ds) := by
  obtain ⟨h1, h2, h3, h4, h5⟩ := sm_all h
  have h6 : ds.length * (W + 1) ≤ N * (W + 1) := Nat.mul_le_mul_right _ hn
  exact ⟨by rw [PyData.canLay0]; exact h1, by rw [PyData.depth]; omega, by rw [PyData.weight]; omega, by rw [PyData.showable]; exact h4, by rw [PyData.intsShort]; exact h5⟩
/-- what repr asks -/
theorem Sm.rep {W D : Nat} {d : PyData} (s : Sm W D d) (h1 : W ≤ 1000000) (h2 : D ≤ 50) : d.showable = true ∧ d.hasDict = false ∧ d.depth ≤ 50 ∧ d.shown.length ≤ sizeLine := by
  refine ⟨s.sh, PyData.hasDict_of_canLay d s.lay, Nat.le_trans s.dep h2, ?_⟩
  have hl : PyData.layable0 d = true := by
    unfold PyData.layable0
    have e : (2 : Nat) ^ 20 = 1048576 := by decide
    have := s.dep
    have := s.wt
    rw [s.lay, decide_eq_true (show d.depth ≤ 64 by omega), decide_eq_true (show d.weight ≤ 2 ^ 20 by omega)]
    rfl
  have := PyProof.Rows.shown_le13 hl s.ish
  rw [sizeLine_eq]
  omega
/-! ### values with their data -/
def Vd (K : PySem.W.Frag) (H : Hp) (p : PyData → Prop) (x : V) : Prop := ∃ d, Dp K H x d ∧ p d
theorem Vd.same {K : PySem.W.Frag} {H H' : Hp} {p : PyData → Prop} {x : V} (s : Same H H') (h : Vd K H p x) : Vd K H' p x := by
  obtain ⟨d, h1, h2⟩ := h
  exact ⟨d, Dp.same s d x h1, h2⟩
theorem Vd.imp {K : PySem.W.Frag} {H : Hp} {p q : PyData → Prop} {x : V} (h : Vd K H p x) (i : ∀ d, p d → q d) : Vd K H q x := by
  obtain ⟨d, h1, h2⟩ := h
  exact ⟨d, h1, i d h2⟩
theorem vd_all {K : PySem.W.Frag} {H : Hp} {p : PyData → Prop} : ∀ {xs : List V}, (∀ x ∈ xs, Vd K H p x) → ∃ ds, DpAll K H xs ds ∧ ∀ d ∈ ds, p d
  | [], _ => ⟨[], .nil, fun d h => nomatch h⟩
  | x :: xs, h => by
    obtain ⟨d, h1, h2⟩ := h x List.mem_cons_self
    obtain ⟨ds, h3, h4⟩ := vd_all (xs := xs) fun y hy => h y (List.mem_cons_of_mem _ hy)
    refine ⟨d :: ds, .cons h1 h3, fun e he => ?_⟩
    rcases List.mem_cons.mp he with z | z
    · rw [z]
      exact h2
    · exact h4 e z
abbrev Leaf (d : PyData) : Prop := Sm 20 1 d
abbrev Rowy (d : PyData) : Prop := Sm 5376 2 d
abbrev Rowl (d : PyData) : Prop := Rowy d ∧ itemsD d ≠ none
theorem leaf_row {d : PyData} (h : Leaf d) : Rowy d := h.mono (by decide) (by decide)
theorem row_l {K : PySem.W.Frag} {H : Hp} {p : Addr} {xs : List V} (hp : H p = some (.lst xs)) (h : ∀ x ∈ xs, Vd K H Leaf x) (hn : xs.length ≤ 256) : Vd K H Rowl (.ref p) := by
  obtain ⟨ds, h1, h2⟩ := vd_all h
  exact ⟨.list ds, .lst (sq_l hp) h1, sm_list h2 (by rw [← DpAll.len h1]; exact hn), fun z => nomatch z⟩
theorem row_t {K : PySem.W.Frag} {H : Hp} {p : Addr} {xs : List V} (hp : H p = some (.tup xs)) (h : ∀ x ∈ xs, Vd K H Leaf x) (hn : xs.length ≤ 256) : Vd K H Rowl (.ref p) := by
  obtain ⟨ds, h1, h2⟩ := vd_all h
  exact ⟨.tuple ds, .tup (sq_t hp) h1, sm_tuple h2 (by rw [← DpAll.len h1]; exact hn), fun z => nomatch z⟩
/-- a thing that is_twins may be asked of -/
structure Thing (b many start : Nat) (d : PyData) : Prop where
  sm : Sm 26885 3 d
  third : ∀ r o w, d = .tuple [r, o, w] → right b many start (wordsOf o) = true ∨ itemsD w ≠ none
section
variable {K : PySem.W.Frag} {H : Hp} {b many start : Nat}
theorem th_leaf {x : V} (h : Vd K H Leaf x) (ht : ∀ p, x ≠ .ref p) : Vd K H (Thing b many start) x := by
  obtain ⟨d, h1, h2⟩ := h
  refine ⟨d, h1, h2.mono (by decide) (by decide), fun r o w e => ?_⟩
  subst e
  cases h1
  exact absurd rfl (ht _)
theorem th_3 {p : Addr} {x y z : V} (hp : H p = some (.tup [x, y, z])) (hx : Vd K H Rowy x) (hy : Vd K H Rowy y) (hz : Vd K H Rowl z) : Vd K H (Thing b many start) (.ref p) := by
  obtain ⟨d1, a1, b1⟩ := hx
  obtain ⟨d2, a2, b2⟩ := hy
  obtain ⟨d3, a3, b3, c3⟩ := hz
  refine ⟨.tuple [d1, d2, d3], .tup (sq_t hp) (.cons a1 (.cons a2 (.cons a3 .nil))), sm_tuple (N := 5) (W := 5376) (D := 2) (fun d hd => ?_) (by show 3 ≤ 5; decide), fun r o w e => ?_⟩
  · simp only [List.mem_cons, List.not_mem_nil, or_false] at hd
    rcases hd with rfl | rfl | rfl
    · exact b1
    · exact b2
    · exact b3
  · cases e
    exact .inr c3
theorem th_ab {p : Addr} {x y z : V} {d2 : PyData} (hp : H p = some (.tup [x, y, z])) (hx : Vd K H Rowy x) (hy : Dp K H y d2) (hd2 : Rowy d2) (hr : right b many start (wordsOf d2) = true) (hz : Vd K H Rowy z) : Vd K H (Thing b many start) (.ref p) := by
  obtain ⟨d1, a1, b1⟩ := hx
  obtain ⟨d3, a3, b3⟩ := hz
  refine ⟨.tuple [d1, d2, d3], .tup (sq_t hp) (.cons a1 (.cons hy (.cons a3 .nil))), sm_tuple (N := 5) (W := 5376) (D := 2) (fun d hd => ?_) (by show 3 ≤ 5; decide), fun r o w e => ?_⟩
  · simp only [List.mem_cons, List.not_mem_nil, or_false] at hd
    rcases hd with rfl | rfl | rfl
    · exact b1
    · exact hd2
    · exact b3
  · cases e
    exact .inl hr
theorem th_n {p : Addr} {xs : List V} (hp : H p = some (.tup xs)) (h : ∀ x ∈ xs, Vd K H Rowy x) (hn : xs.length ≤ 5) (h3 : xs.length ≠ 3) : Vd K H (Thing b many start) (.ref p) := by
  obtain ⟨ds, h1, h2⟩ := vd_all h
  refine ⟨.tuple ds, .tup (sq_t hp) h1, sm_tuple h2 (by rw [← DpAll.len h1]; exact hn), fun r o w e => ?_⟩
  cases e
  exact absurd (DpAll.len h1) h3
theorem th_l {p : Addr} {xs : List V} (hp : H p = some (.lst xs)) (h : ∀ x ∈ xs, Vd K H Rowy x) (hn : xs.length ≤ 5) : Vd K H (Thing b many start) (.ref p) := by
  obtain ⟨ds, h1, h2⟩ := vd_all h
  exact ⟨.list ds, .lst (sq_l hp) h1, sm_list h2 (by rw [← DpAll.len h1]; exact hn), fun r o w e => nomatch e⟩
end
theorem lf_nat {K : PySem.W.Frag} {H : Hp} {n : Nat} (h : n ≤ 256) : Vd K H Leaf (nV n) := ⟨_, .int _, sm_nat h⟩
theorem lf_non {K : PySem.W.Frag} {H : Hp} : Vd K H Leaf .non := ⟨_, .non, sm_none⟩
theorem lf_ws {K : PySem.W.Frag} {H : Hp} {b : Nat} {l : List Nat} (hb : Bt b) (h : Ws b l) : ∀ x ∈ wsV l, Vd K H Leaf x := fun x hx => by
  obtain ⟨y, hy, rfl⟩ := List.mem_map.mp hx
  have := h y hy
  have := pow_le hb
  exact lf_nat (by omega)
theorem lf_gs {K : PySem.W.Frag} {H : Hp} {b : Nat} {gs : List (Option Nat)} (hb : Bt b) (h : ∀ (x : Nat), some x ∈ gs → x < 2 ^ b) : ∀ x ∈ gs.map gN, Vd K H Leaf x := fun x hx => by
  obtain ⟨y, hy, rfl⟩ := List.mem_map.mp hx
  cases y with
  | none => exact lf_non
  | some z =>
    have := h z hy
    have := pow_le hb
    exact lf_nat (by omega)
theorem vd_set {K : PySem.W.Frag} {H : Hp} {p : PyData → Prop} {xs : List V} {i : Nat} {v : V} (h : ∀ x ∈ xs, Vd K H p x) (hv : Vd K H p v) : ∀ x ∈ xs.set i v, Vd K H p x := fun x hx => by
  rcases List.mem_or_eq_of_mem_set hx with hx | rfl
  · exact h x hx
  · exact hv
theorem vd_app {K : PySem.W.Frag} {H : Hp} {p : PyData → Prop} {xs ys : List V} (h : ∀ x ∈ xs, Vd K H p x) (hy : ∀ x ∈ ys, Vd K H p x) : ∀ x ∈ xs ++ ys, Vd K H p x := fun x hx => by
  rcases List.mem_append.mp hx with hx | hx
  · exact h x hx
  · exact hy x hx
theorem vd_cons {K : PySem.W.Frag} {H : Hp} {p : PyData → Prop} {v : V} {ys : List V} (h : Vd K H p v) (hy : ∀ x ∈ ys, Vd K H p x) : ∀ x ∈ v :: ys, Vd K H p x := fun x hx => by
  rcases List.mem_cons.mp hx with rfl | hx
  · exact h
  · exact hy x hx
theorem vd_nil {K : PySem.W.Frag} {H : Hp} {p : PyData → Prop} : ∀ x ∈ ([] : List V), Vd K H p x := fun x hx => nomatch hx
theorem vd_sames {K : PySem.W.Frag} {H H' : Hp} {p : PyData → Prop} {xs : List V} (s : Same H H') (h : ∀ x ∈ xs, Vd K H p x) : ∀ x ∈ xs, Vd K H' p x := fun x hx => (h x hx).same s
theorem vd_drop {K : PySem.W.Frag} {H : Hp} {p : PyData → Prop} {xs : List V} {i : Nat} (h : ∀ x ∈ xs, Vd K H p x) : ∀ x ∈ xs.drop i, Vd K H p x := fun x hx => h x (List.mem_of_mem_drop hx)
end Tw

namespace Tw
open PySem PySem.Spec PyProof.Rows L2
theorem wD_len (l : List Nat) : (wD l).length = l.length := List.length_map ..
theorem cut1 {xs : List V} (h : 1 ≤ xs.length) : cutV xs (some 1) none = xs.drop 1 := cut_from (i := 1) h
theorem words_wD (l : List Nat) : wordsOf (.list (wD l)) = l := by
  show ((l.map fun (x : Nat) => PyData.int (x : Int)).map wordOf) = l
  rw [List.map_map]
  refine Eq.trans (List.map_congr_left fun x _ => ?_) (List.map_id l)
  exact Int.toNat_natCast x
theorem del_step {H H' : Hp} {F : Addr} (s : Same H H') : Same (del H F) (del H' F) := fun b o e => by
  by_cases h : b = F
  · rw [h, del_same] at e
    cases e
  · rw [del_ne h] at e ⊢
    exact s b o e
theorem del_put {H : Hp} {F : Addr} {o : HO} : Same (del H F) (del (upd H F o) F) := fun b u e => by
  by_cases h : b = F
  · rw [h, del_same] at e
    cases e
  · rw [del_ne h] at e ⊢
    rw [upd_ne h]
    exact e
theorem del_mut {X H : Hp} {F a : Addr} {o : HO} (s : Same X (del H F)) (h : X a = none) : Same X (del (upd H a o) F) := fun b u e => by
  have nb := ne_of_none e h
  have q := s b u e
  by_cases hF : b = F
  · rw [hF, del_same] at q
    cases q
  · rw [del_ne hF] at q ⊢
    rw [upd_ne nb]
    exact q
def sp_law_things (K : PySem.W.Frag) : Sp := fun vs H Q _ => ∃ (B : Hp) (wl c sd r o w : Addr) (b many start n : Nat) (gs : List (Option Nat)) (lo : List Nat), vs = [.ref wl, .ref c, nV n, .ref sd] ∧ Wl H wl ∧ Same B H ∧ B wl = none ∧ Kode b many start ∧ At3 K B c b many start ∧ many < n ∧ n ≤ nn b ∧
  B sd = some (.tup [.ref r, .ref o, .ref w]) ∧ B r = some (.lst (gs.map gN)) ∧ B o = some (.lst (wsV (List.replicate n 0))) ∧ B w = some (.lst (wsV lo)) ∧ gs.length = n ∧ lo.length = n ∧ (∀ (x : Nat), some x ∈ gs → x < 2 ^ b) ∧ Ws b lo ∧
  ∀ (H' : Hp) (L : Addr) (xs : List V), Same B H' → H' L = some (.lst xs) → (∀ x ∈ xs, Vd K H' (Thing b many start) x) → xs.length ≤ 100 → Q (.ref L) H'
section
variable {P : Program} {w : World} {K : PySem.W.Frag} {mg : Str → Option Value} {base : Heap} {k : Nat}
/-! _law_things: slots 0 _law_well, 1 _law_kit, 2 _law_size, 3 _law_said, 4 _law_torn, 5 _law_one, 6 _law_other, 7 _law_top, 8 _law_at_here, 9 _law_word, 10 _law_found, 11 _law_k, 12 _law_rows, 13 _law_some, 14 _law_kept -/
abbrev s_law_things : Stmt := topS 50
abbrev n_law_things : List Str := ["_law_well", "_law_kit", "_law_size", "_law_said", "_law_torn", "_law_one", "_law_other", "_law_top", "_law_at_here", "_law_word", "_law_found", "_law_k", "_law_rows", "_law_some", "_law_kept"]
theorem sc_law_things : FnScope n_law_things ["_law_well", "_law_kit", "_law_size", "_law_said"] (defScope s_law_things) := ⟨rfl, rfl, rfl, by decide +kernel, rfl, by decide +kernel, by decide +kernel⟩
theorem ok_law_things (D : Df K mg "_law_things" s_law_things) (B : Blt mg) (c_law_draw : Cal P w K mg base CX0 k "_law_draw" ["_law_well", "_law_many"] sp_law_draw) (c_law_pick : Cal P w K mg base CX0 k "_law_pick" ["_law_well", "_law_some"] sp_law_pick) :
    Cal P w K mg base CX0 (k + 1) "_law_things" ["_law_well", "_law_kit", "_law_size", "_law_said"] (sp_law_things K) := by
  refine D.cal sc_law_things (fun _ _ _ _ _ _ us hl => match us, hl with | [_, _, _, _], _ => rfl) (fun vs H Q E h => ?_) (fun f cdv A outer s H vs Q E hr h => ?_)
  · obtain ⟨B, wl, c, sd, r, o, w, b, many, start, n, gs, lo, rfl, h⟩ := h
    rfl
  · obtain ⟨B0, wl, c, sd, r, o, w, b, many, start, n, gs, lo, rfl, hwl, sB, Bwl, hk, hc, hn1, hn2, hsd, hr0, ho0, hw0, gl, ll, gw, lw, q⟩ := h
    refine ⟨_, (pss_cons (ps_asg (pe_lc (own := [("_law_some", 13)]) (g := (gName 13)) (tt := tYes) (te := (tCB (rListK K) (tCons (tVar 13) tNil))) rfl sc_law_things.nd (pi_tup (pv 3)) (blkOk_by (N := n_law_things) (sc := defScope s_law_things) (by decide +kernel)) (fun _ _ _ _ _ => by exact (pg_name (i := 13) sc_law_things.nd rfl (Or.inl rfl))) (fun _ _ _ _ _ => pts_nil) (fun _ _ _ _ _ => by exact (pe_callTy call_list_of (by rfl) B.list_ (by decide +kernel) (pa_cons (pv 13) pa_nil)))) (pg_lst (n := 3) rfl (pgs_cons (pg_name (i := 4) sc_law_things.nd rfl (Or.inl rfl)) (pgs_cons (pg_name (i := 5) sc_law_things.nd rfl (Or.inl rfl)) (pgs_cons (pg_name (i := 6) sc_law_things.nd rfl (Or.inl rfl)) pgs_nil)))))
      (pss_cons (ps_par (i := 7) (j := 8) rfl sc_law_things.nd rfl rfl (by decide) rfl rfl (pa_cons (pe_op op_shl pe_int (pe_ix ix_tup (pv 1) pe_int (fun _ _ => rfl))) (pa_cons (pe_cal c_law_draw hr pass0 (pa_cons (pv 0) (pa_cons (pv 2) pa_nil))) pa_nil)) (by rfl))
      (pss_cons (ps_set (i := 9) sc_law_things.nd rfl (Or.inl rfl) (pe_cal c_law_pick hr pass0 (pa_cons (pv 0) (pa_cons (pe_lst (pa_cons pe_non (pa_cons pe_int (pa_cons pe_int (pa_cons (pe_un un_neg pe_int) (pa_cons pe_bl (pa_cons (pv 7) (pa_cons pe_str (pa_cons (pe_lst (pa_cons pe_int pa_nil)) (pa_cons (pe_op op_sub (pv 7) pe_int) pa_nil)))))))))) pa_nil))))
      (pss_cons (ps_set (i := 10) sc_law_things.nd rfl (Or.inl rfl) (pe_lst (pa_cons (pv 3) (pa_cons (pe_tup (pa_cons (pe_callTy call_tuple_of (by rfl) B.tuple_ (by decide +kernel) (pa_cons (pv 4) pa_nil)) (pa_cons (pe_callTy call_tuple_of (by rfl) B.tuple_ (by decide +kernel) (pa_cons (pv 5) pa_nil)) (pa_cons (pv 6) pa_nil)))) (pa_cons (pe_tup (pa_cons (pv 4) (pa_cons (pv 6) (pa_cons (pv 5) pa_nil)))) (pa_cons (pe_tup (pa_cons (pv 4) (pa_cons (pv 5) (pa_cons (pv 5) pa_nil)))) (pa_cons (pe_lst (pa_cons (pv 4) (pa_cons (pv 5) (pa_cons (pv 6) pa_nil)))) pa_nil)))))))
      (pss_cons (ps_set (i := 10) sc_law_things.nd rfl (Or.inl rfl) (pe_op op_cat (pv 10) (pe_lst (pa_cons (pe_tup (pa_cons (pv 4) (pa_cons (pv 5) pa_nil))) (pa_cons (pe_tup (pa_cons (pv 4) (pa_cons (pv 5) (pa_cons (pv 6) (pa_cons (pv 5) pa_nil))))) (pa_cons pe_non (pa_cons (pe_tup pa_nil) (pa_cons pe_int (pa_cons (pe_tup (pa_cons pe_non (pa_cons (pv 5) (pa_cons (pv 6) pa_nil)))) (pa_cons (pe_tup (pa_cons (pv 4) (pa_cons pe_non (pa_cons (pv 6) pa_nil)))) pa_nil))))))))))
      (pss_cons (ps_set (i := 10) sc_law_things.nd rfl (Or.inl rfl) (pe_op op_cat (pv 10) (pe_lst (pa_cons (pe_tup (pa_cons (pv 4) (pa_cons (pv 5) (pa_cons pe_str pa_nil)))) (pa_cons (pe_tup (pa_cons (pe_slice sl_list (pv 4) (po_some pe_int) po_none) (pa_cons (pe_slice sl_list (pv 5) (po_some pe_int) po_none) (pa_cons (pe_slice sl_list (pv 6) (po_some pe_int) po_none) pa_nil)))) (pa_cons (pe_tup (pa_cons (pv 4) (pa_cons (pv 5) (pa_cons (pe_op op_cat (pv 6) (pe_lst (pa_cons pe_int pa_nil))) pa_nil)))) (pa_cons (pe_tup (pa_cons (pv 5) (pa_cons (pv 5) (pa_cons (pv 6) pa_nil)))) pa_nil)))))))
      (pss_cons (ps_for PassesOwn.never rfl (pi_range1 (by rfl) B.range_ (pa_cons pe_int pa_nil)) (pg_name (i := 11) sc_law_things.nd rfl (Or.inl rfl))
        (pss_cons (ps_set (i := 12) sc_law_things.nd rfl (Or.inl rfl) (pe_lst (pa_cons (pe_callTy call_list_of (by rfl) B.list_ (by decide +kernel) (pa_cons (pv 4) pa_nil)) (pa_cons (pe_callTy call_list_of (by rfl) B.list_ (by decide +kernel) (pa_cons (pv 5) pa_nil)) (pa_cons (pe_callTy call_list_of (by rfl) B.list_ (by decide +kernel) (pa_cons (pv 6) pa_nil)) pa_nil)))))
      (pss_cons (ps_asg (pv 9) (pg_sub (pe_ix ix_list (pv 12) (pv 11) (fun _ _ => rfl)) (pv 8) set_list))
      (pss_one (ps_expr (pe_bm PySem.F.plainAttrs_list PySem.F.slot_list_append PySem.F.type_list_append mt_append (pv 10) (pa_cons (pe_callTy call_tuple_of (by rfl) B.tuple_ (by decide +kernel) (pa_cons (pv 12) pa_nil)) pa_nil)))))))
      (pss_cons (ps_expr (pe_bm PySem.F.plainAttrs_list PySem.F.slot_list_append PySem.F.type_list_append mt_append (pv 10) (pa_cons (pe_tup (pa_cons (pe_op op_cat (pe_lst (pa_cons pe_non pa_nil)) (pe_slice sl_list (pv 4) (po_some pe_int) po_none)) (pa_cons (pv 5) (pa_cons (pv 6) pa_nil)))) pa_nil)))
      (pss_cons (ps_expr (pe_bm PySem.F.plainAttrs_list PySem.F.slot_list_append PySem.F.type_list_append mt_append (pv 10) (pa_cons (pe_tup (pa_cons (pv 4) (pa_cons (pe_lc (own := [("_law_kept", 14)]) (g := (gName 14)) (tt := tYes) (te := (tOp rXoI (tVar 14) (tC (.int 1)))) rfl sc_law_things.nd (pi_list (pv 5)) (blkOk_by (N := n_law_things) (sc := defScope s_law_things) (by decide +kernel)) (fun _ _ _ _ _ => by exact (pg_name (i := 14) sc_law_things.nd rfl (Or.inl rfl))) (fun _ _ _ _ _ => pts_nil) (fun _ _ _ _ _ => by exact (pe_op op_xor (pv 14) pe_int))) (pa_cons (pv 6) pa_nil)))) pa_nil)))
      (pss_one (ps_ret (pv 10)))))))))))), ?_⟩
    have hb := hk.bt
    have hnn := nn_le hb
    have h256 := pow_le hb
    -- the rows as lists
    refine ⟨_, rfl, sd, rfl, ⟨_, sq_t (sB _ _ hsd)⟩, fun D hD => lcRows (K := K) (walk_tup (K := K) (a := sd) (xs := [.ref r, .ref o, .ref w])) [gs.map gN, wsV (List.replicate n 0), wsV lo] hD (by show 3 ≤ _; decide) (fun _ => rfl) (fun H' s' => sq_t (s' _ _ (sB _ _ hsd))) (fun _ => rfl) (fun i x hi => ?_) (fun H1 ps sD hD' hl hp => ?_)⟩
    · match i, hi with
      | 0, hi => exact ⟨r, _, (Option.some.inj hi).symm, rfl, .inl (sq_l (sB _ _ hr0))⟩
      | 1, hi => exact ⟨o, _, (Option.some.inj hi).symm, rfl, .inl (sq_l (sB _ _ ho0))⟩
      | 2, hi => exact ⟨w, _, (Option.some.inj hi).symm, rfl, .inl (sq_l (sB _ _ hw0))⟩
    obtain ⟨t, e, o2, rfl⟩ := ps3 hl
    obtain ⟨g0, f0, _⟩ := hp 0 t rfl
    obtain ⟨g1, f1, _⟩ := hp 1 e rfl
    obtain ⟨g2, f2, _⟩ := hp 2 o2 rfl
    refine ⟨D, _, rfl, sq_l hD', rfl, _, _, rfl, _, _, rfl, _, _, rfl, rfl, ?_⟩
    obtain ⟨B1, sB1, B1w, s1, ht1, he1, ho1⟩ : ∃ B1 : Hp, Same B0 B1 ∧ B1 wl = none ∧ Same B1 H1 ∧ B1 t = some (.lst (gs.map gN)) ∧ B1 e = some (.lst (wsV (List.replicate n 0))) ∧ B1 o2 = some (.lst (wsV lo)) :=
      ⟨del H1 wl, to_off (sB.trans sD) Bwl, del_same, off_same, by rw [del_ne (wl_ne hwl f0)]; exact g0, by rw [del_ne (wl_ne hwl f1)]; exact g1, by rw [del_ne (wl_ne hwl f2)]; exact g2⟩
    have w1 := hwl.same sD
    -- top, at
    refine ⟨_, rfl, c, _, 0, nV b, rfl, rfl, Same.tup (sB1.trans s1) hc, rfl, 1, _, rfl, rfl, cpow_one hb, _, rfl, _, rfl, wl, n, rfl, w1, by omega, by omega, fun at' x y z hat => ⟨_, _, rfl, ?_⟩⟩
    dsimp only
    rw [shl_one]
    have s2 : Same B1 (upd H1 wl (wl3 x y z)) := same_mut s1 B1w
    have w2 : Wl (upd H1 wl (wl3 x y z)) wl := Wl.upd
    generalize upd H1 wl (wl3 x y z) = H1' at s2 w2
    -- word
    refine ⟨_, rfl, 1, rfl, _, rfl, by show 1 ≤ _; decide, fun q0 nq0 => ?_⟩
    have sq0 := same_new (o := .lst [.int 1]) nq0
    have hq0 : (upd H1' q0 (.lst [.int 1])) q0 = some (.lst [.int 1]) := upd_same
    have w3 := w2.same sq0
    have nq0w := wl_ne w2 nq0
    have s3 := s2.trans sq0
    generalize upd H1' q0 (.lst [.int 1]) = H1b at sq0 hq0 w3 s3
    refine ⟨_, rfl, _, _, rfl, rfl, by show 9 ≤ _; decide, fun z9 nz9 => ?_⟩
    have sz9 := same_new (o := .lst [.non, .int 0, .int 1, .int (-1), .bl true, nV (2 ^ b), .str "1", .ref q0, .int (((2 ^ b : Nat) : Int) - 1)]) nz9
    refine ⟨wl, z9, _, rfl, w3.same sz9, upd_same, wl_ne w3 nz9, by show 0 < 9; decide, by show 9 ≤ _; decide, fun i v x y z hv => ?_⟩
    obtain ⟨B2, sB2, B2w, sc, ht, he, ho2, hq2⟩ : ∃ B2 : Hp, Same B0 B2 ∧ B2 wl = none ∧ Same B2 (upd (upd H1b z9 (.lst [.non, .int 0, .int 1, .int (-1), .bl true, nV (2 ^ b), .str "1", .ref q0, .int (((2 ^ b : Nat) : Int) - 1)])) wl (wl3 x y z)) ∧ B2 t = some (.lst (gs.map gN)) ∧ B2 e = some (.lst (wsV (List.replicate n 0))) ∧ B2 o2 = some (.lst (wsV lo)) ∧ B2 q0 = some (.lst [.int 1]) :=
      ⟨del H1b wl, to_off (sB1.trans s3) Bwl, del_same, same_mut (off_same.trans sz9) del_same, to_off s3 B1w _ _ ht1, to_off s3 B1w _ _ he1, to_off s3 B1w _ _ ho1, by rw [del_ne nq0w]; exact hq0⟩
    generalize (upd (upd H1b z9 (.lst [.non, .int 0, .int 1, .int (-1), .bl true, nV (2 ^ b), .str "1", .ref q0, .int (((2 ^ b : Nat) : Int) - 1)])) wl (wl3 x y z)) = H2 at sc
    have hvw : Vd K B2 Leaf v := by
      match i, hv with
      | 0, hv => cases hv; exact lf_non
      | 1, hv => cases hv; exact lf_nat (n := 0) (by decide)
      | 2, hv => cases hv; exact lf_nat (n := 1) (by decide)
      | 3, hv => cases hv; exact ⟨_, .int _, sm_neg⟩
      | 4, hv => cases hv; exact ⟨_, .bl _, sm_bool _⟩
      | 5, hv => cases hv; exact lf_nat h256
      | 6, hv => cases hv; exact ⟨_, .str _, sm_one⟩
      | 7, hv =>
        cases hv
        exact ⟨.list [.int 1], .lst (sq_l hq2) (.cons (.int 1) .nil), (sm_list (N := 1) (W := 19) (D := 0) (fun d hd => by rw [List.mem_singleton.mp hd]; exact ⟨rfl, by decide +kernel, by decide +kernel, by decide +kernel, by decide +kernel⟩) (by decide)).mono (by decide) (by decide)⟩
      | 8, hv =>
        cases hv
        show Vd K B2 Leaf (.int (((2 ^ b : Nat) : Int) - 1))
        rw [show ((2 ^ b : Nat) : Int) - 1 = ((2 ^ b - 1 : Nat) : Int) by have := Nat.two_pow_pos b; omega]
        exact lf_nat (by omega)
    have hsd := sB2 _ _ hsd
    have hr := sB2 _ _ hr0
    have ho := sB2 _ _ ho0
    have hw := sB2 _ _ hw0
    have hc2 := Same.tup sB2 hc
    have RT : ∀ H', Same B2 H' → Vd K H' Rowl (.ref t) := fun H' s' => row_l (s' _ _ ht) (lf_gs hb gw) (by rw [List.length_map]; omega)
    have RE : ∀ H', Same B2 H' → Vd K H' Rowl (.ref e) := fun H' s' => row_l (s' _ _ he) (lf_ws hb Ws_zeros) (by rw [wsV_len, List.length_replicate]; omega)
    have RO : ∀ H', Same B2 H' → Vd K H' Rowl (.ref o2) := fun H' s' => row_l (s' _ _ ho2) (lf_ws hb lw) (by rw [wsV_len]; omega)
    have RT' : ∀ H', Same B2 H' → Vd K H' Rowy (.ref t) := fun H' s' => (RT H' s').imp fun _ z => z.1
    have RE' : ∀ H', Same B2 H' → Vd K H' Rowy (.ref e) := fun H' s' => (RE H' s').imp fun _ z => z.1
    have RO' : ∀ H', Same B2 H' → Vd K H' Rowy (.ref o2) := fun H' s' => (RO H' s').imp fun _ z => z.1
    have hzr : right b many start (wordsOf (.list (wD (List.replicate n 0)))) = true := by
      rw [words_wD]
      exact right_zeros b many start n
    have al : ∀ x ∈ ([.ref sd] : List V), Vd K H2 (Thing b many start) x := vd_cons (th_3 (sc _ _ hsd) ((row_l (sc _ _ hr) (lf_gs hb gw) (by rw [List.length_map]; omega)).imp fun _ z => z.1) ((row_l (sc _ _ ho) (lf_ws hb Ws_zeros) (by rw [wsV_len, List.length_replicate]; omega)).imp fun _ z => z.1) (row_l (sc _ _ hw) (lf_ws hb lw) (by rw [wsV_len]; omega))) vd_nil
    -- found = [said, ..]
    refine ⟨_, rfl, _, rfl, t, _, rfl, .inl ⟨sq_l (sc _ _ ht), fun l1 nl1 => ?_⟩⟩
    have sl1 := same_new (o := .tup (gs.map gN)) nl1
    have hl1 : (upd H2 l1 (.tup (gs.map gN))) l1 = some (.tup (gs.map gN)) := upd_same
    have sc := sc.trans sl1
    have al := vd_sames sl1 al
    generalize upd H2 l1 (.tup (gs.map gN)) = G1 at hl1 sc al
    refine ⟨_, rfl, e, _, rfl, .inl ⟨sq_l (sc _ _ he), fun l2 nl2 => ?_⟩⟩
    have sl2 := same_new (o := .tup (wsV (List.replicate n 0))) nl2
    have hl2 : (upd G1 l2 (.tup (wsV (List.replicate n 0)))) l2 = some (.tup (wsV (List.replicate n 0))) := upd_same
    have sc := sc.trans sl2
    have al := vd_sames sl2 al
    have hl1 := sl2 _ _ hl1
    generalize upd G1 l2 (.tup (wsV (List.replicate n 0))) = G2 at hl2 sc al hl1
    refine ⟨_, rfl, by show 3 ≤ _; decide, fun u1 nu1 => ?_⟩
    have su1 := same_new (o := .tup [.ref l1, .ref l2, .ref o2]) nu1
    have hu1 : (upd G2 u1 (.tup [.ref l1, .ref l2, .ref o2])) u1 = some (.tup [.ref l1, .ref l2, .ref o2]) := upd_same
    have sc := sc.trans su1
    have al := vd_sames su1 al
    have hl1 := su1 _ _ hl1
    have hl2 := su1 _ _ hl2
    generalize upd G2 u1 (.tup [.ref l1, .ref l2, .ref o2]) = G3 at hu1 sc al hl1 hl2
    have al := vd_app al (vd_cons (th_3 hu1 ((row_t hl1 (lf_gs hb gw) (by rw [List.length_map]; omega)).imp fun _ z => z.1) ((row_t hl2 (lf_ws hb Ws_zeros) (by rw [wsV_len, List.length_replicate]; omega)).imp fun _ z => z.1) (RO _ sc)) vd_nil)
    refine ⟨_, rfl, _, rfl, _, rfl, by show 3 ≤ _; decide, fun u2 nu2 => ?_⟩
    have su2 := same_new (o := .tup [.ref t, .ref o2, .ref e]) nu2
    have hu2 : (upd G3 u2 (.tup [.ref t, .ref o2, .ref e])) u2 = some (.tup [.ref t, .ref o2, .ref e]) := upd_same
    have sc := sc.trans su2
    have al := vd_sames su2 al
    generalize upd G3 u2 (.tup [.ref t, .ref o2, .ref e]) = G4 at hu2 sc al
    have al := vd_app al (vd_cons (th_3 hu2 (RT' _ sc) (RO' _ sc) (RE _ sc)) vd_nil)
    refine ⟨_, rfl, _, rfl, _, rfl, by show 3 ≤ _; decide, fun u3 nu3 => ?_⟩
    have su3 := same_new (o := .tup [.ref t, .ref e, .ref e]) nu3
    have hu3 : (upd G4 u3 (.tup [.ref t, .ref e, .ref e])) u3 = some (.tup [.ref t, .ref e, .ref e]) := upd_same
    have sc := sc.trans su3
    have al := vd_sames su3 al
    generalize upd G4 u3 (.tup [.ref t, .ref e, .ref e]) = G5 at hu3 sc al
    have al := vd_app al (vd_cons (th_3 hu3 (RT' _ sc) (RE' _ sc) (RE _ sc)) vd_nil)
    refine ⟨_, rfl, _, rfl, _, rfl, by show 3 ≤ _; decide, fun u4 nu4 => ?_⟩
    have su4 := same_new (o := .lst [.ref t, .ref e, .ref o2]) nu4
    have hu4 : (upd G5 u4 (.lst [.ref t, .ref e, .ref o2])) u4 = some (.lst [.ref t, .ref e, .ref o2]) := upd_same
    have sc := sc.trans su4
    have al := vd_sames su4 al
    generalize upd G5 u4 (.lst [.ref t, .ref e, .ref o2]) = G6 at hu4 sc al
    have al := vd_app al (vd_cons (th_l hu4 (vd_cons (RT' _ sc) (vd_cons (RE' _ sc) (vd_cons (RO' _ sc) vd_nil))) (by show 3 ≤ 5; decide)) vd_nil)
    refine ⟨by show 5 ≤ _; decide, fun F1 nF1 => ?_⟩
    have sF1 := same_new (o := .lst [.ref sd, .ref u1, .ref u2, .ref u3, .ref u4]) nF1
    have hF1 : (upd G6 F1 (.lst [.ref sd, .ref u1, .ref u2, .ref u3, .ref u4])) F1 = some (.lst [.ref sd, .ref u1, .ref u2, .ref u3, .ref u4]) := upd_same
    have sc := sc.trans sF1
    have al := vd_sames sF1 al
    generalize upd G6 F1 (.lst [.ref sd, .ref u1, .ref u2, .ref u3, .ref u4]) = G7 at hF1 sc al
    have al : ∀ x ∈ ([.ref sd, .ref u1, .ref u2, .ref u3, .ref u4] : List V), Vd K G7 (Thing b many start) x := al
    -- found + [(torn, one), ..]
    refine ⟨_, rfl, _, rfl, _, rfl, by show 2 ≤ _; decide, fun v1 nv1 => ?_⟩
    have sv1 := same_new (o := .tup [.ref t, .ref e]) nv1
    have hv1 : (upd G7 v1 (.tup [.ref t, .ref e])) v1 = some (.tup [.ref t, .ref e]) := upd_same
    have sc := sc.trans sv1
    have al := vd_sames sv1 al
    have hF1 := sv1 _ _ hF1
    generalize upd G7 v1 (.tup [.ref t, .ref e]) = G8 at hv1 sc al hF1
    have al := vd_app al (vd_cons (th_n hv1 (vd_cons (RT' _ sc) (vd_cons (RE' _ sc) vd_nil)) (by show 2 ≤ 5; decide) (by show 2 ≠ 3; decide)) vd_nil)
    refine ⟨_, rfl, _, rfl, _, rfl, _, rfl, by show 4 ≤ _; decide, fun v2 nv2 => ?_⟩
    have sv2 := same_new (o := .tup [.ref t, .ref e, .ref o2, .ref e]) nv2
    have hv2 : (upd G8 v2 (.tup [.ref t, .ref e, .ref o2, .ref e])) v2 = some (.tup [.ref t, .ref e, .ref o2, .ref e]) := upd_same
    have sc := sc.trans sv2
    have al := vd_sames sv2 al
    have hF1 := sv2 _ _ hF1
    generalize upd G8 v2 (.tup [.ref t, .ref e, .ref o2, .ref e]) = G9 at hv2 sc al hF1
    have al := vd_app al (vd_cons (th_n hv2 (vd_cons (RT' _ sc) (vd_cons (RE' _ sc) (vd_cons (RO' _ sc) (vd_cons (RE' _ sc) vd_nil)))) (by show 4 ≤ 5; decide) (by show 4 ≠ 3; decide)) vd_nil)
    have al := vd_app al (vd_cons (th_leaf lf_non (fun p z => nomatch z)) vd_nil)
    refine ⟨by show 0 ≤ _; decide, fun v3 nv3 => ?_⟩
    have sv3 := same_new (o := .tup []) nv3
    have hv3 : (upd G9 v3 (.tup [])) v3 = some (.tup []) := upd_same
    have sc := sc.trans sv3
    have al := vd_sames sv3 al
    have hF1 := sv3 _ _ hF1
    generalize upd G9 v3 (.tup []) = G10 at hv3 sc al hF1
    have al := vd_app al (vd_cons (th_n hv3 vd_nil (by decide) (by decide)) vd_nil)
    have al := vd_app al (vd_cons (th_leaf (lf_nat (n := 5) (by decide)) (fun p z => nomatch z)) vd_nil)
    refine ⟨_, rfl, _, rfl, by show 3 ≤ _; decide, fun v4 nv4 => ?_⟩
    have sv4 := same_new (o := .tup [.non, .ref e, .ref o2]) nv4
    have hv4 : (upd G10 v4 (.tup [.non, .ref e, .ref o2])) v4 = some (.tup [.non, .ref e, .ref o2]) := upd_same
    have sc := sc.trans sv4
    have al := vd_sames sv4 al
    have hF1 := sv4 _ _ hF1
    generalize upd G10 v4 (.tup [.non, .ref e, .ref o2]) = G11 at hv4 sc al hF1
    have al := vd_app al (vd_cons (th_3 hv4 (lf_non.imp fun _ z => leaf_row z) (RE' _ sc) (RO _ sc)) vd_nil)
    refine ⟨_, rfl, _, rfl, by show 3 ≤ _; decide, fun v5 nv5 => ?_⟩
    have sv5 := same_new (o := .tup [.ref t, .non, .ref o2]) nv5
    have hv5 : (upd G11 v5 (.tup [.ref t, .non, .ref o2])) v5 = some (.tup [.ref t, .non, .ref o2]) := upd_same
    have sc := sc.trans sv5
    have al := vd_sames sv5 al
    have hF1 := sv5 _ _ hF1
    generalize upd G11 v5 (.tup [.ref t, .non, .ref o2]) = G12 at hv5 sc al hF1
    have al := vd_app al (vd_cons (th_3 hv5 (RT' _ sc) (lf_non.imp fun _ z => leaf_row z) (RO _ sc)) vd_nil)
    refine ⟨by show 7 ≤ _; decide, fun F2a nF2a => ?_⟩
    have sF2a := same_new (o := .lst [.ref v1, .ref v2, .non, .ref v3, .int 5, .ref v4, .ref v5]) nF2a
    have hF2a : (upd G12 F2a (.lst [.ref v1, .ref v2, .non, .ref v3, .int 5, .ref v4, .ref v5])) F2a = some (.lst [.ref v1, .ref v2, .non, .ref v3, .int 5, .ref v4, .ref v5]) := upd_same
    have sc := sc.trans sF2a
    have al := vd_sames sF2a al
    have hF1 := sF2a _ _ hF1
    generalize upd G12 F2a (.lst [.ref v1, .ref v2, .non, .ref v3, .int 5, .ref v4, .ref v5]) = G13 at hF2a sc al hF1
    refine ⟨F1, F2a, _, _, rfl, rfl, hF1, hF2a, by show 12 ≤ _; decide, fun F2 nF2 => ?_⟩
    have sF2 := same_new (o := .lst ([.ref sd, .ref u1, .ref u2, .ref u3, .ref u4] ++ [.ref v1, .ref v2, .non, .ref v3, .int 5, .ref v4, .ref v5])) nF2
    have hF2 : (upd G13 F2 (.lst ([.ref sd, .ref u1, .ref u2, .ref u3, .ref u4] ++ [.ref v1, .ref v2, .non, .ref v3, .int 5, .ref v4, .ref v5]))) F2 = some (.lst ([.ref sd, .ref u1, .ref u2, .ref u3, .ref u4] ++ [.ref v1, .ref v2, .non, .ref v3, .int 5, .ref v4, .ref v5])) := upd_same
    have sc := sc.trans sF2
    have al := vd_sames sF2 al
    generalize upd G13 F2 (.lst ([.ref sd, .ref u1, .ref u2, .ref u3, .ref u4] ++ [.ref v1, .ref v2, .non, .ref v3, .int 5, .ref v4, .ref v5])) = G14 at hF2 sc al
    have al : ∀ x ∈ ([.ref sd, .ref u1, .ref u2, .ref u3, .ref u4] ++ [.ref v1, .ref v2, .non, .ref v3, .int 5, .ref v4, .ref v5] : List V), Vd K G14 (Thing b many start) x := al
    -- found + [(torn, one, 'ab'), ..]
    refine ⟨_, rfl, _, rfl, _, rfl, by show 3 ≤ _; decide, fun w1 nw1 => ?_⟩
    have sw1 := same_new (o := .tup [.ref t, .ref e, .str "ab"]) nw1
    have hw1 : (upd G14 w1 (.tup [.ref t, .ref e, .str "ab"])) w1 = some (.tup [.ref t, .ref e, .str "ab"]) := upd_same
    have sc := sc.trans sw1
    have al := vd_sames sw1 al
    have hF2 := sw1 _ _ hF2
    generalize upd G14 w1 (.tup [.ref t, .ref e, .str "ab"]) = G15 at hw1 sc al hF2
    have al := vd_app al (vd_cons (th_ab hw1 (RT' _ sc) (Dp.ws (sq_l (sc _ _ he))) (sm_list (W := 20) (D := 1) (N := 256) (fun d hd => by obtain ⟨x, hx, rfl⟩ := List.mem_map.mp hd; rw [(List.mem_replicate.mp hx).2]; exact sm_nat (by decide)) (by rw [wD_len, List.length_replicate]; omega)) hzr (⟨_, .str _, (sm_ab (D := 1)).mono (by decide) (by decide)⟩)) vd_nil)
    refine ⟨_, rfl, 1, rfl, t, _, rfl, sq_l (sc _ _ ht), fun q1 nq1 => ?_⟩
    rw [cut1 (by rw [List.length_map]; omega)]
    have sq1 := same_new (o := .lst ((gs.map gN).drop 1)) nq1
    have hq1 : (upd G15 q1 (.lst ((gs.map gN).drop 1))) q1 = some (.lst ((gs.map gN).drop 1)) := upd_same
    have sc := sc.trans sq1
    have al := vd_sames sq1 al
    have hF2 := sq1 _ _ hF2
    generalize upd G15 q1 (.lst ((gs.map gN).drop 1)) = G16 at hq1 sc al hF2
    refine ⟨_, rfl, 1, rfl, e, _, rfl, sq_l (sc _ _ he), fun q2 nq2 => ?_⟩
    rw [cut1 (by rw [wsV_len, List.length_replicate]; omega)]
    have sq2 := same_new (o := .lst ((wsV (List.replicate n 0)).drop 1)) nq2
    have hq2 : (upd G16 q2 (.lst ((wsV (List.replicate n 0)).drop 1))) q2 = some (.lst ((wsV (List.replicate n 0)).drop 1)) := upd_same
    have sc := sc.trans sq2
    have al := vd_sames sq2 al
    have hF2 := sq2 _ _ hF2
    have hq1 := sq2 _ _ hq1
    generalize upd G16 q2 (.lst ((wsV (List.replicate n 0)).drop 1)) = G17 at hq2 sc al hF2 hq1
    refine ⟨_, rfl, 1, rfl, o2, _, rfl, sq_l (sc _ _ ho2), fun q3 nq3 => ?_⟩
    rw [cut1 (by rw [wsV_len]; omega)]
    have sq3 := same_new (o := .lst ((wsV lo).drop 1)) nq3
    have hq3 : (upd G17 q3 (.lst ((wsV lo).drop 1))) q3 = some (.lst ((wsV lo).drop 1)) := upd_same
    have sc := sc.trans sq3
    have al := vd_sames sq3 al
    have hF2 := sq3 _ _ hF2
    have hq1 := sq3 _ _ hq1
    have hq2 := sq3 _ _ hq2
    generalize upd G17 q3 (.lst ((wsV lo).drop 1)) = G18 at hq3 sc al hF2 hq1 hq2
    refine ⟨by show 3 ≤ _; decide, fun w2 nw2 => ?_⟩
    have sw2 := same_new (o := .tup [.ref q1, .ref q2, .ref q3]) nw2
    have hw2 : (upd G18 w2 (.tup [.ref q1, .ref q2, .ref q3])) w2 = some (.tup [.ref q1, .ref q2, .ref q3]) := upd_same
    have sc := sc.trans sw2
    have al := vd_sames sw2 al
    have hF2 := sw2 _ _ hF2
    have hq1 := sw2 _ _ hq1
    have hq2 := sw2 _ _ hq2
    have hq3 := sw2 _ _ hq3
    generalize upd G18 w2 (.tup [.ref q1, .ref q2, .ref q3]) = G19 at hw2 sc al hF2 hq1 hq2 hq3
    have al := vd_app al (vd_cons (th_3 hw2 ((row_l hq1 (vd_drop (lf_gs hb gw)) (by rw [List.length_drop, List.length_map]; omega)).imp fun _ z => z.1) ((row_l hq2 (vd_drop (lf_ws hb Ws_zeros)) (by rw [List.length_drop, wsV_len, List.length_replicate]; omega)).imp fun _ z => z.1) (row_l hq3 (vd_drop (lf_ws hb lw)) (by rw [List.length_drop, wsV_len]; omega))) vd_nil)
    refine ⟨_, rfl, _, rfl, _, rfl, by show 1 ≤ _; decide, fun z0 nz0 => ?_⟩
    have sz0 := same_new (o := .lst [.int 0]) nz0
    have hz0 : (upd G19 z0 (.lst [.int 0])) z0 = some (.lst [.int 0]) := upd_same
    have sc := sc.trans sz0
    have al := vd_sames sz0 al
    have hF2 := sz0 _ _ hF2
    generalize upd G19 z0 (.lst [.int 0]) = G20 at hz0 sc al hF2
    refine ⟨o2, z0, _, _, rfl, rfl, sc _ _ ho2, hz0, line_ok (by rw [wsV_len]; show _ + 1 ≤ _; omega), fun q4 nq4 => ?_⟩
    have sq4 := same_new (o := .lst (wsV lo ++ [.int 0])) nq4
    have hq4 : (upd G20 q4 (.lst (wsV lo ++ [.int 0]))) q4 = some (.lst (wsV lo ++ [.int 0])) := upd_same
    have sc := sc.trans sq4
    have al := vd_sames sq4 al
    have hF2 := sq4 _ _ hF2
    generalize upd G20 q4 (.lst (wsV lo ++ [.int 0])) = G21 at hq4 sc al hF2
    refine ⟨by show 3 ≤ _; decide, fun w3 nw3 => ?_⟩
    have sw3 := same_new (o := .tup [.ref t, .ref e, .ref q4]) nw3
    have hw3 : (upd G21 w3 (.tup [.ref t, .ref e, .ref q4])) w3 = some (.tup [.ref t, .ref e, .ref q4]) := upd_same
    have sc := sc.trans sw3
    have al := vd_sames sw3 al
    have hF2 := sw3 _ _ hF2
    have hq4 := sw3 _ _ hq4
    generalize upd G21 w3 (.tup [.ref t, .ref e, .ref q4]) = G22 at hw3 sc al hF2 hq4
    have al := vd_app al (vd_cons (th_3 hw3 (RT' _ sc) (RE' _ sc) (row_l hq4 (vd_app (lf_ws hb lw) (vd_cons (lf_nat (n := 0) (by decide)) vd_nil)) (by rw [List.length_append, wsV_len]; show _ + 1 ≤ _; omega))) vd_nil)
    refine ⟨_, rfl, _, rfl, _, rfl, by show 3 ≤ _; decide, fun w4 nw4 => ?_⟩
    have sw4 := same_new (o := .tup [.ref e, .ref e, .ref o2]) nw4
    have hw4 : (upd G22 w4 (.tup [.ref e, .ref e, .ref o2])) w4 = some (.tup [.ref e, .ref e, .ref o2]) := upd_same
    have sc := sc.trans sw4
    have al := vd_sames sw4 al
    have hF2 := sw4 _ _ hF2
    generalize upd G22 w4 (.tup [.ref e, .ref e, .ref o2]) = G23 at hw4 sc al hF2
    have al := vd_app al (vd_cons (th_3 hw4 (RE' _ sc) (RE' _ sc) (RO _ sc)) vd_nil)
    refine ⟨by show 4 ≤ _; decide, fun F3a nF3a => ?_⟩
    have sF3a := same_new (o := .lst [.ref w1, .ref w2, .ref w3, .ref w4]) nF3a
    have hF3a : (upd G23 F3a (.lst [.ref w1, .ref w2, .ref w3, .ref w4])) F3a = some (.lst [.ref w1, .ref w2, .ref w3, .ref w4]) := upd_same
    have sc := sc.trans sF3a
    have al := vd_sames sF3a al
    have hF2 := sF3a _ _ hF2
    generalize upd G23 F3a (.lst [.ref w1, .ref w2, .ref w3, .ref w4]) = G24 at hF3a sc al hF2
    refine ⟨F2, F3a, _, _, rfl, rfl, hF2, hF3a, by show 16 ≤ _; decide, fun F nF => ?_⟩
    have al : ∀ x ∈ (([.ref sd, .ref u1, .ref u2, .ref u3, .ref u4] ++ [.ref v1, .ref v2, .non, .ref v3, .int 5, .ref v4, .ref v5]) ++ [.ref w1, .ref w2, .ref w3, .ref w4] : List V), Vd K G24 (Thing b many start) x := al
    have BF : B2 F = none := sc.free nF
    have len16 : (([.ref sd, .ref u1, .ref u2, .ref u3, .ref u4] ++ [.ref v1, .ref v2, .non, .ref v3, .int 5, .ref v4, .ref v5]) ++ [.ref w1, .ref w2, .ref w3, .ref w4] : List V).length = 16 := rfl
    have sF := same_new (o := .lst (([.ref sd, .ref u1, .ref u2, .ref u3, .ref u4] ++ [.ref v1, .ref v2, .non, .ref v3, .int 5, .ref v4, .ref v5]) ++ [.ref w1, .ref w2, .ref w3, .ref w4])) nF
    have hF : (upd G24 F (.lst (([.ref sd, .ref u1, .ref u2, .ref u3, .ref u4] ++ [.ref v1, .ref v2, .non, .ref v3, .int 5, .ref v4, .ref v5]) ++ [.ref w1, .ref w2, .ref w3, .ref w4]))) F = some (.lst (([.ref sd, .ref u1, .ref u2, .ref u3, .ref u4] ++ [.ref v1, .ref v2, .non, .ref v3, .int 5, .ref v4, .ref v5]) ++ [.ref w1, .ref w2, .ref w3, .ref w4])) := upd_same
    have sc := sc.trans sF
    have al := vd_sames (to_off sF nF) al
    generalize upd G24 F (.lst (([.ref sd, .ref u1, .ref u2, .ref u3, .ref u4] ++ [.ref v1, .ref v2, .non, .ref v3, .int 5, .ref v4, .ref v5]) ++ [.ref w1, .ref w2, .ref w3, .ref w4])) = G at hF sc al
    generalize (([.ref sd, .ref u1, .ref u2, .ref u3, .ref u4] ++ [.ref v1, .ref v2, .non, .ref v3, .int 5, .ref v4, .ref v5]) ++ [.ref w1, .ref w2, .ref w3, .ref w4] : List V) = xs0 at hF al len16
    have LL : ∀ {H' : Hp} {p : Addr} {y : List V}, Same B2 H' → H' p = some (.lst y) → (∀ x ∈ y, Vd K B2 Leaf x) → y.length ≤ 256 → Vd K H' Rowl (.ref p) := fun s' hp hy hl => row_l hp (vd_sames s' hy) hl
    -- the rows with one thing otherwise
    refine ⟨3, rfl, by decide, by decide, for_range (lo := 0) (n := 3) (fun kk st H' => ∃ (xs : List V) (v11 v12 : Option V), st = [some (.ref wl), some (.ref c), some (nV n), some (.ref sd), some (.ref t), some (.ref e), some (.ref o2), some (nV (2 ^ b)), some (nV at'), some v, some (.ref F), v11, v12, none, none] ∧ Same B2 H' ∧ H' F = some (.lst xs) ∧ (∀ x ∈ xs, Vd K (del H' F) (Thing b many start) x) ∧ xs.length = 16 + kk)
      ⟨xs0, none, none, rfl, sc, hF, al, len16⟩ ?_ ?_⟩
    · rintro kk st H' hkk ⟨xs, v11, v12, rfl, s6, hF6, al6, len6⟩
      rw [Int.zero_add]
      refine ⟨_, rfl, t, _, rfl, .inl (sq_l (s6 _ _ ht)), fun a0 na0 => ?_⟩
      have sa0 := same_new (o := .lst (gs.map gN)) na0
      have ha0 : (upd H' a0 (.lst (gs.map gN))) a0 = some (.lst (gs.map gN)) := upd_same
      have n0F : a0 ≠ F := fun z => by rw [z, hF6] at na0; cases na0
      generalize upd H' a0 (.lst (gs.map gN)) = X0 at sa0 ha0
      refine ⟨_, rfl, e, _, rfl, .inl (sq_l (sa0 _ _ (s6 _ _ he))), fun a1 na1 => ?_⟩
      have sa1 := same_new (o := .lst (wsV (List.replicate n 0))) na1
      have ha1 : (upd X0 a1 (.lst (wsV (List.replicate n 0)))) a1 = some (.lst (wsV (List.replicate n 0))) := upd_same
      have n1F : a1 ≠ F := fun z => by rw [z, sa0 _ _ hF6] at na1; cases na1
      have n10 : a1 ≠ a0 := fun z => by rw [z, ha0] at na1; cases na1
      have na1' := sa0.free na1
      have ha0 := sa1 _ _ ha0
      have sa01 := sa0.trans sa1
      generalize upd X0 a1 (.lst (wsV (List.replicate n 0))) = X1 at sa01 ha0 ha1
      refine ⟨_, rfl, o2, _, rfl, .inl (sq_l (sa01 _ _ (s6 _ _ ho2))), fun a2 na2 => ?_⟩
      have sa2 := same_new (o := .lst (wsV lo)) na2
      have ha2 : (upd X1 a2 (.lst (wsV lo))) a2 = some (.lst (wsV lo)) := upd_same
      have n2F : a2 ≠ F := fun z => by rw [z, sa01 _ _ hF6] at na2; cases na2
      have n20 : a2 ≠ a0 := fun z => by rw [z, ha0] at na2; cases na2
      have n21 : a2 ≠ a1 := fun z => by rw [z, ha1] at na2; cases na2
      have na2' := sa01.free na2
      have ha0 := sa2 _ _ ha0
      have ha1 := sa2 _ _ ha1
      have sa02 := sa01.trans sa2
      generalize upd X1 a2 (.lst (wsV lo)) = X2 at sa02 ha0 ha1 ha2
      refine ⟨by show 3 ≤ _; decide, fun R nR => ?_⟩
      have sR := same_new (o := .lst [.ref a0, .ref a1, .ref a2]) nR
      have hR : (upd X2 R (.lst [.ref a0, .ref a1, .ref a2])) R = some (.lst [.ref a0, .ref a1, .ref a2]) := upd_same
      have r0 : R ≠ a0 := fun z => by rw [z, ha0] at nR; cases nR
      have r1 : R ≠ a1 := fun z => by rw [z, ha1] at nR; cases nR
      have r2 : R ≠ a2 := fun z => by rw [z, ha2] at nR; cases nR
      have ha0 := sR _ _ ha0
      have ha1 := sR _ _ ha1
      have ha2 := sR _ _ ha2
      have s0R := sa02.trans sR
      generalize upd X2 R (.lst [.ref a0, .ref a1, .ref a2]) = X3 at s0R hR ha0 ha1 ha2
      have hF3 := s0R _ _ hF6
      have leafT : ∀ x ∈ gs.map gN, Vd K B2 Leaf x := lf_gs hb gw
      have leafE : ∀ x ∈ wsV (List.replicate n 0), Vd K B2 Leaf x := lf_ws hb Ws_zeros
      have leafO : ∀ x ∈ wsV lo, Vd K B2 Leaf x := lf_ws hb lw
      have lT : (gs.map gN).length = n := by rw [List.length_map, gl]
      have lE : (wsV (List.replicate n 0)).length = n := by rw [wsV_len, List.length_replicate]
      have lO : (wsV lo).length = n := by rw [wsV_len, ll]
      obtain ⟨ak, ys, hek, hak, lys, nH, nF', nRk, y0, y1, y2, hy0, hy1, hy2, L0, L1, L2, m0, m1, m2⟩ : ∃ (ak : Addr) (ys : List V), ([.ref a0, .ref a1, .ref a2] : List V)[kk]? = some (.ref ak) ∧ X3 ak = some (.lst ys) ∧ ys.length = n ∧ H' ak = none ∧ ak ≠ F ∧ R ≠ ak ∧
          ∃ y0 y1 y2, upd X3 ak (.lst (ys.set at' v)) a0 = some (.lst y0) ∧ upd X3 ak (.lst (ys.set at' v)) a1 = some (.lst y1) ∧ upd X3 ak (.lst (ys.set at' v)) a2 = some (.lst y2) ∧ (∀ x ∈ y0, Vd K B2 Leaf x) ∧ (∀ x ∈ y1, Vd K B2 Leaf x) ∧ (∀ x ∈ y2, Vd K B2 Leaf x) ∧ y0.length = n ∧ y1.length = n ∧ y2.length = n := by
        match kk, hkk with
        | 0, _ => exact ⟨a0, _, rfl, ha0, lT, na0, n0F, r0, _, _, _, upd_same, by rw [upd_ne n10]; exact ha1, by rw [upd_ne n20]; exact ha2, vd_set leafT hvw, leafE, leafO, by rw [List.length_set]; exact lT, lE, lO⟩
        | 1, _ => exact ⟨a1, _, rfl, ha1, lE, na1', n1F, r1, _, _, _, by rw [upd_ne (Ne.symm n10)]; exact ha0, upd_same, by rw [upd_ne n21]; exact ha2, leafT, vd_set leafE hvw, leafO, lT, by rw [List.length_set]; exact lE, lO⟩
        | 2, _ => exact ⟨a2, _, rfl, ha2, lO, na2', n2F, r2, _, _, _, by rw [upd_ne (Ne.symm n20)]; exact ha0, by rw [upd_ne (Ne.symm n21)]; exact ha1, upd_same, leafT, leafE, vd_set leafO hvw, lT, lE, by rw [List.length_set]; exact lO⟩
      refine ⟨_, rfl, _, rfl, _, rfl, R, _, _, .ref ak, rfl, rfl, sq_l hR, atI_nat hek, _, rfl, ak, ys, _, at', rfl, rfl, hak, ixN_nat (by omega), ?_⟩
      have sM : Same B2 (upd X3 ak (.lst (ys.set at' v))) := same_mut (s6.trans s0R) (s6.free nH)
      have xM : Same (del H' F) (del (upd X3 ak (.lst (ys.set at' v))) F) := del_mut (del_step s0R) (by rw [del_ne nF']; exact nH)
      have hRM : (upd X3 ak (.lst (ys.set at' v))) R = some (.lst [.ref a0, .ref a1, .ref a2]) := by rw [upd_ne nRk]; exact hR
      have hFM : (upd X3 ak (.lst (ys.set at' v))) F = some (.lst xs) := by rw [upd_ne (Ne.symm nF')]; exact hF3
      generalize upd X3 ak (.lst (ys.set at' v)) = M at sM xM hRM hFM hy0 hy1 hy2
      refine ⟨.ref F, rfl, .inl ⟨rfl, _, sq_l hFM⟩, _, rfl, R, _, rfl, .inl ⟨sq_l hRM, fun u nu => ?_⟩⟩
      have su := same_new (o := .tup [.ref a0, .ref a1, .ref a2]) nu
      have hu : (upd M u (.tup [.ref a0, .ref a1, .ref a2])) u = some (.tup [.ref a0, .ref a1, .ref a2]) := upd_same
      have nuF : u ≠ F := fun z => by rw [z, hFM] at nu; cases nu
      have sU := sM.trans su
      have xU := xM.trans (del_step su)
      have hFU := su _ _ hFM
      have hy0 := su _ _ hy0
      have hy1 := su _ _ hy1
      have hy2 := su _ _ hy2
      generalize upd M u (.tup [.ref a0, .ref a1, .ref a2]) = N at hu sU xU hFU hy0 hy1 hy2
      refine ⟨F, _, _, rfl, rfl, hFU, line_lt (by omega), ?_⟩
      have sD : Same B2 (del N F) := to_off sU BF
      refine ⟨xs ++ [.ref u], _, _, rfl, same_mut sU BF, upd_same, vd_app (vd_sames (xU.trans del_put) al6) (vd_cons (Vd.same del_put (th_3 (by rw [del_ne nuF]; exact hu) ((LL sD (by rw [del_ne n0F]; exact hy0) L0 (by omega)).imp fun _ z => z.1) ((LL sD (by rw [del_ne n1F]; exact hy1) L1 (by omega)).imp fun _ z => z.1) (LL sD (by rw [del_ne n2F]; exact hy2) L2 (by omega)))) vd_nil), by rw [List.length_append, len6]; rfl⟩
    · rintro st H' ⟨xs, v11, v12, rfl, s6, hF6, al6, len6⟩
      -- ([None] + torn[1:], one, other)
      refine ⟨.ref F, rfl, .inl ⟨rfl, _, sq_l hF6⟩, by show 1 ≤ _; decide, fun z nz => ?_⟩
      have sz := same_new (o := .lst [.non]) nz
      have hz : (upd H' z (.lst [.non])) z = some (.lst [.non]) := upd_same
      generalize upd H' z (.lst [.non]) = X0 at sz hz
      refine ⟨_, rfl, 1, rfl, t, _, rfl, sq_l (sz _ _ (s6 _ _ ht)), fun q1 nq1 => ?_⟩
      rw [cut1 (by rw [List.length_map]; omega)]
      have sq1 := same_new (o := .lst ((gs.map gN).drop 1)) nq1
      have hq1 : (upd X0 q1 (.lst ((gs.map gN).drop 1))) q1 = some (.lst ((gs.map gN).drop 1)) := upd_same
      have s01 := sz.trans sq1
      have hz := sq1 _ _ hz
      generalize upd X0 q1 (.lst ((gs.map gN).drop 1)) = X1 at s01 hz hq1
      refine ⟨z, q1, _, _, rfl, rfl, hz, hq1, line_ok (by rw [List.length_drop, List.length_map]; show 1 + _ ≤ _; omega), fun y ny => ?_⟩
      have sy := same_new (o := .lst ([.non] ++ (gs.map gN).drop 1)) ny
      have hy : (upd X1 y (.lst ([.non] ++ (gs.map gN).drop 1))) y = some (.lst ([.non] ++ (gs.map gN).drop 1)) := upd_same
      have s02 := s01.trans sy
      have nyF : y ≠ F := fun z => by rw [z, s01 _ _ hF6] at ny; cases ny
      generalize upd X1 y (.lst ([.non] ++ (gs.map gN).drop 1)) = X2 at s02 hy
      refine ⟨_, rfl, _, rfl, by show 3 ≤ _; decide, fun u nu => ?_⟩
      have su := same_new (o := .tup [.ref y, .ref e, .ref o2]) nu
      have hu : (upd X2 u (.tup [.ref y, .ref e, .ref o2])) u = some (.tup [.ref y, .ref e, .ref o2]) := upd_same
      have nuF : u ≠ F := fun z => by rw [z, s02 _ _ hF6] at nu; cases nu
      have s03 := s02.trans su
      have hy := su _ _ hy
      generalize upd X2 u (.tup [.ref y, .ref e, .ref o2]) = X3 at s03 hu hy
      refine ⟨F, _, _, rfl, rfl, s03 _ _ hF6, line_lt (by omega), ?_⟩
      have s63 := s6.trans s03
      have sD : Same B2 (del X3 F) := to_off s63 BF
      have al7 : ∀ x ∈ xs ++ [.ref u], Vd K (del (upd X3 F (.lst (xs ++ [.ref u]))) F) (Thing b many start) x := vd_app (vd_sames ((del_step s03).trans del_put) al6) (vd_cons (Vd.same del_put (th_3 (by rw [del_ne nuF]; exact hu) ((row_l (by rw [del_ne nyF]; exact hy) (vd_app (vd_cons lf_non vd_nil) (vd_drop (lf_gs hb gw))) (by rw [List.length_append, List.length_drop, List.length_map]; show 1 + _ ≤ _; omega)).imp fun _ z => z.1) (RE' _ sD) (RO _ sD))) vd_nil)
      have s7 : Same B2 (upd X3 F (.lst (xs ++ [.ref u]))) := same_mut s63 BF
      have hF7 : (upd X3 F (.lst (xs ++ [.ref u]))) F = some (.lst (xs ++ [.ref u])) := upd_same
      have len7 : (xs ++ [V.ref u]).length = 20 := by rw [List.length_append, len6]; rfl
      generalize upd X3 F (.lst (xs ++ [.ref u])) = H7 at al7 s7 hF7
      generalize xs ++ [V.ref u] = xs7 at al7 hF7 len7
      -- (torn, [kept ^ 1 ..], other)
      refine ⟨.ref F, rfl, .inl ⟨rfl, _, sq_l hF7⟩, _, rfl, _, rfl, e, rfl, ⟨_, sq_l (s7 _ _ he)⟩, fun D nD => lcN (walk_list (K := K) (a := e) (xs := wsV (List.replicate n 0))) (fun _ => true) (fun i => nV ((List.replicate n 0).getD i 0 ^^^ 1)) nD (by rw [wsV_len, List.length_replicate]; omega) (fun _ => rfl) (fun H' s' => sq_l (s' _ _ (s7 _ _ he))) (fun i x Ha Hb hi s' y => ?_) (fun H8 s8 hD => ?_)⟩
      · obtain ⟨e1, e2⟩ := y
        subst e1
        obtain ⟨o', ho', rfl⟩ := wsV_inv e2
        rw [getD_of ho']
        refine ⟨Same.refl _, fun R hR => yes_all hR, fun _ H6 s6 Qk hQ => ⟨_, rfl, _, _, rfl, rfl, ?_⟩⟩
        dsimp only
        rw [show (1 : Int) = ((1 : Nat) : Int) from rfl, xor_nat]
        exact hQ H6 (Same.refl _)
      rw [wsV_len, sel_map (fun x => x ^^^ 1)] at hD
      have nDF : D ≠ F := fun z => by rw [z, hF7] at nD; cases nD
      have wD1 : Ws b ((List.replicate n 0).map fun x => x ^^^ 1) := fun x hx => by
        obtain ⟨y, hy, rfl⟩ := List.mem_map.mp hx
        rw [(List.mem_replicate.mp hy).2]
        exact one_lt hb
      have lD1 : ((List.replicate n 0).map fun x => x ^^^ 1).length = n := by rw [List.length_map, List.length_replicate]
      generalize ((List.replicate n 0).map fun x => x ^^^ 1) = dl at hD wD1 lD1
      refine ⟨_, rfl, by show 3 ≤ _; decide, fun u2 nu2 => ?_⟩
      have su2 := same_new (o := .tup [.ref t, .ref D, .ref o2]) nu2
      have hu2 : (upd H8 u2 (.tup [.ref t, .ref D, .ref o2])) u2 = some (.tup [.ref t, .ref D, .ref o2]) := upd_same
      have nu2F : u2 ≠ F := fun z => by rw [z, s8 _ _ hF7] at nu2; cases nu2
      have s89 := s8.trans su2
      have hD := su2 _ _ hD
      generalize upd H8 u2 (.tup [.ref t, .ref D, .ref o2]) = X9 at s89 hu2 hD
      refine ⟨F, _, _, rfl, rfl, s89 _ _ hF7, line_lt (by omega), ?_⟩
      have s79 := s7.trans s89
      have sD9 : Same B2 (del X9 F) := to_off s79 BF
      have al9 : ∀ x ∈ xs7 ++ [.ref u2], Vd K (del (upd X9 F (.lst (xs7 ++ [.ref u2]))) F) (Thing b many start) x := vd_app (vd_sames ((del_step s89).trans del_put) al7) (vd_cons (Vd.same del_put (th_3 (by rw [del_ne nu2F]; exact hu2) (RT' _ sD9) ((row_l (by rw [del_ne nDF]; exact hD) (lf_ws hb wD1) (by rw [wsV_len]; omega)).imp fun _ z => z.1) (RO _ sD9))) vd_nil)
      exact ⟨_, rfl, q _ F _ (sB2.trans (same_mut s79 BF)) upd_same (fun x hx => (al9 x hx).same off_same) (by rw [List.length_append, len7]; show 20 + 1 ≤ 100; decide)⟩
end
end Tw

namespace Tw
open PySem PySem.Spec PyProof.Rows L2
/-! ### what twins tells is due -/
theorem gaps_gapD (gs : List (Option Nat)) : gapsOf (.list (gs.map gapD)) = gs := by
  show ((gs.map gapD).map gapOf) = gs
  rw [List.map_map]
  refine Eq.trans (List.map_congr_left fun x _ => ?_) (List.map_id gs)
  cases x with
  | none => rfl
  | some y => exact congrArg some (Int.toNat_natCast y)
theorem words_ok {b : Nat} : ∀ {l : List Nat}, Ws b l → (wD l).all (okW b) = true
  | [], _ => rfl
  | x :: l, h => by
    have hx := h x List.mem_cons_self
    have e : okW b (.int (x : Int)) = true := decide_eq_true ⟨by omega, by omega⟩
    show (okW b (.int (x : Int)) && (wD l).all (okW b)) = true
    rw [e, words_ok fun w hw => h w (List.mem_cons_of_mem _ hw)]
    rfl
theorem cnt {f : Nat → Bool} {lo hi : Nat} (h : ∀ i, f i = true → lo ≤ i ∧ i < hi) : ∀ n, ((List.range n).filter f).length ≤ min n hi - lo
  | 0 => Nat.zero_le _
  | n + 1 => by
    have ih := cnt h n
    rw [List.range_succ, List.filter_append, List.length_append]
    cases e : f n with
    | true =>
      obtain ⟨h1, h2⟩ := h n e
      have : ([n].filter f).length = 1 := by rw [List.filter_cons, if_pos e]; rfl
      omega
    | false =>
      have : ([n].filter f).length = 0 := by rw [List.filter_cons, if_neg (by rw [e]; decide)]; rfl
      omega
theorem torn_ws {b n g p0 e : Nat} {l : List Nat} (h : Ws b l) : ∀ (x : Nat), some x ∈ torn l n g p0 e → x < 2 ^ b := fun x hx => by
  obtain ⟨i, _, he⟩ := List.mem_map.mp hx
  unfold tornF at he
  split at he
  · split at he
    · rw [← Option.some.inj he]
      exact zero_lt
    · rw [← Option.some.inj he]
      exact getD_lt h i
  · cases he
theorem torn_count {n g p0 e : Nat} {l : List Nat} (hg : g ≤ n) : (torn l n g p0 e).countP Option.isNone = g := by
  unfold torn
  rw [List.countP_map]
  have key : ∀ m, m ≤ n → (List.range m).countP (Option.isNone ∘ tornF l n g p0 e) = m - (n - g) := by
    intro m
    induction m with
    | zero => intro _; rw [Nat.zero_sub]; rfl
    | succ m ih =>
      intro hm
      rw [List.range_succ, List.countP_append, ih (by omega), List.countP_singleton]
      have : (Option.isNone ∘ tornF l n g p0 e) m = decide (¬ m < n - g) := by
        show (tornF l n g p0 e m).isNone = _
        unfold tornF
        by_cases h : m < n - g
        · rw [if_pos h, decide_eq_false (by omega)]
          rfl
        · rw [if_neg h, decide_eq_true h]
          rfl
      rw [this]
      by_cases h : m < n - g
      · rw [decide_eq_false (by omega), if_neg (by decide)]
        omega
      · rw [decide_eq_true h, if_pos rfl]
        omega
  rw [key n (Nat.le_refl n)]
  omega
theorem lone_low {b start many n i : Nat} (h : i < n - many - 1) : (lone b start many n).getD i 0 = 0 := by
  refine getD_of ?_
  unfold lone
  rw [List.getElem?_append_left (by rw [List.length_replicate]; exact h), List.getElem?_replicate, if_pos h]
theorem unl_zero {b start many n e g : Nat} (hn : many < n) (hlt : many < 2 * e + g) : unl n (torn (lone b start many n) n g (n - many - 1) e) (List.replicate n 0) ≤ e := by
  unfold unl
  refine Nat.le_trans (cnt (lo := n - many - 1 + e) (hi := n - g) (fun i hi => ?_) n) (by omega)
  by_cases h : i < n
  · rw [getD_of (torn_get h), getD_of (show (List.replicate n 0)[i]? = some 0 by rw [List.getElem?_replicate, if_pos h])] at hi
    unfold tornF at hi
    split at hi
    · rename_i h1
      split at hi
      · exact nomatch (show false = true from hi)
      · rename_i h2
        refine ⟨?_, h1⟩
        by_cases h3 : i < n - many - 1
        · rw [lone_low h3] at hi
          exact nomatch (show false = true from hi)
        · omega
    · exact nomatch (show false = true from hi)
  · rw [List.getD_eq_getElem?_getD, List.getElem?_eq_none (by rw [torn_len]; omega)] at hi
    exact nomatch (show false = true from hi)
theorem unl_lone {b start many n e g : Nat} : unl n (torn (lone b start many n) n g (n - many - 1) e) (lone b start many n) ≤ e := by
  unfold unl
  refine Nat.le_trans (cnt (lo := n - many - 1) (hi := n - many - 1 + e) (fun i hi => ?_) n) (by omega)
  by_cases h : i < n
  · rw [getD_of (torn_get h)] at hi
    unfold tornF at hi
    split at hi
    · split at hi
      · rename_i h2
        exact h2
      · exfalso
        have : ((lone b start many n).getD i 0 != (lone b start many n).getD i 0) = true := hi
        rw [bne_self_eq_false] at this
        cases this
    · exact nomatch (show false = true from hi)
  · rw [List.getD_eq_getElem?_getD, List.getElem?_eq_none (by rw [torn_len]; omega)] at hi
    exact nomatch (show false = true from hi)
theorem lone_nz {b start many n : Nat} : ¬ List.replicate n 0 = lone b start many n := fun z => by
  have h1 : 1 ∈ lone b start many n := by
    obtain ⟨t, et⟩ := mk_head b start many
    unfold lone
    rw [et]
    exact List.mem_append_right _ List.mem_cons_self
  rw [← z] at h1
  have := (List.mem_replicate.mp h1).2
  cases this
theorem due_said {b many start n e g : Nat} (hb : Bt b) (hn : many < n) (hg : g ≤ n) (hlt : many < 2 * e + g) :
    due b many start n e g (.tuple [.list ((torn (lone b start many n) n g (n - many - 1) e).map gapD), .list (wD (List.replicate n 0)), .list (wD (lone b start many n))]) = true := by
  refine due_iff.mpr ⟨torn_ok (torn_ws (Ws_lone hb start many n)), words_ok Ws_zeros, words_ok (Ws_lone hb start many n), ?_, ?_, ?_, ?_, ?_, ?_, ?_⟩
  · rw [gaps_gapD, words_wD, words_wD]
    exact ⟨torn_len _ _ _ _ _, List.length_replicate, lone_len hn⟩
  · rw [words_wD, words_wD]
    exact lone_nz
  · rw [gaps_gapD]
    exact torn_count hg
  · rw [words_wD]
    exact right_zeros _ _ _ _
  · rw [words_wD]
    exact right_lone hb start many n
  · rw [gaps_gapD, words_wD]
    exact unl_zero hn hlt
  · rw [gaps_gapD, words_wD]
    exact unl_lone
theorem due_bent {b many start n e g m : Nat} (hm : 0 < many) {r w : PyData} : due b many start n e g (.tuple [r, .list (wD (List.replicate m 0 ++ [1])), w]) = false := due_no fun z => by
  obtain ⟨_, _, _, _, _, _, z7, _⟩ := due_iff.mp z
  rw [words_wD, not_right_one hm] at z7
  cases z7
theorem due_same {b many start n e g : Nat} {r o : PyData} : due b many start n e g (.tuple [r, o, o]) = false := due_no fun z => by
  obtain ⟨_, _, _, _, z5, _⟩ := due_iff.mp z
  exact z5 rfl
theorem near_nat (m g : Nat) : (if (m : Int) - (g : Int) > 0 then (m : Int) - (g : Int) else 0).fdiv 2 = (((m - g) / 2 : Nat) : Int) := by
  have e : (if (m : Int) - (g : Int) > 0 then (m : Int) - (g : Int) else 0) = ((m - g : Nat) : Int) := by
    split <;> omega
  rw [e, Int.fdiv_eq_ediv_of_nonneg _ (by decide)]
  omega
theorem min_nat (i j : Nat) : (if (j : Int) < (i : Int) then (j : Int) else (i : Int)) = ((min i j : Nat) : Int) := by
  split <;> omega
theorem ixN_last {n : Nat} (h : 0 < n) : ixN n (-1) = some (n - 1) := by
  unfold ixN
  rw [if_neg (by omega), if_pos (by omega)]
  congr 1
  omega
theorem set_last {n : Nat} (h : 0 < n) (x : Nat) : (List.replicate n 0).set (n - 1) x = List.replicate (n - 1) 0 ++ [x] := by
  obtain ⟨m, rfl⟩ : ∃ m, n = m + 1 := ⟨n - 1, by omega⟩
  rw [List.replicate_succ', Nat.add_sub_cancel, List.set_append_right _ _ (by rw [List.length_replicate]; exact Nat.le_refl _), List.length_replicate, Nat.sub_self]
  rfl
end Tw

namespace Tw
open PySem PySem.Spec PyProof.Rows L2
theorem Df.calG {P : Program} {w : World} {K : PySem.W.Frag} {mg : Str → Option Value} {base : Heap} {x : Str} {st : Stmt} {N ps : List Str} {k : Nat} {sp : Sp} (D : Df K mg x st) (S : FnScope N ps (defScope st))
    (hb : ∀ (kV doc pm : Value) (an : Option Addr) (cdv ct : Value) (us : List Value), us.length = ps.length → bindArgs (PySem.W.fnOf x x (defArgs st) (defBody st) (defScope st) .none kV doc pm an cdv ct) ⟨us, []⟩ = pure (ps.zip us))
    (len : ∀ vs H Q E, sp vs H Q E → vs.length = ps.length)
    (body : ∀ (f : Addr) (cdv : Value) (A : Around) (outer : List Env) (s : Shared) (H : Hp) (vs : List V) (Q : VK) (E : XK), A.guards = some [] → Room k (A.deeper (envOfC x (defScope st) s.heap.objs.size f cdv)) → sp vs H Q E →
      ∃ t, PSs (cxOf CX0 P w K mg base N x (defScope st) f cdv A outer s H E).nox (defBody st) t ∧ t { nx := fun _ H' => Q .non H', rt := Q } (start N vs) H) : CalG P w K mg base (k + 1) x ps sp := by
  obtain ⟨f, fd, F, hm⟩ := D.ex
  exact ⟨⟨f, fd, Tw.Fun.okG F S len (fun cdv A outer s H vs Q E hg hr h => body f cdv A outer s H vs Q E hg hr h), hm, F.kp, F.binds hb⟩⟩
theorem sh_none : SeqAt.shaped .none = true := by
  unfold SeqAt.shaped
  rw [PyData.canLay0, PyData.depth]
  rfl
theorem Sm.shaped {W D : Nat} {d : PyData} (s : Sm W D d) (h : D ≤ 64) : SeqAt.shaped d = true := by
  unfold SeqAt.shaped
  rw [s.lay, decide_eq_true (Nat.le_trans s.dep h)]
  rfl
theorem eqv_none : PyData.eqv .none .none = true := by rw [PyData.eqv]
theorem bool_rep (c : Bool) : (PyData.bool c).showable = true ∧ (PyData.bool c).hasDict = false ∧ (PyData.bool c).depth ≤ 50 ∧ (PyData.bool c).shown.length ≤ sizeLine := (sm_bool (W := 0) (D := 0) c).rep (by decide) (by decide)
def saidD (gs : List (Option Nat)) (l m : List Nat) : PyData := .tuple [.list (gs.map gapD), .list (wD l), .list (wD m)]
theorem sm_ws {b n : Nat} {l : List Nat} (hb : Bt b) (h : Ws b l) (hl : l.length = n) (hn : n ≤ 256) : Sm 5376 2 (.list (wD l)) := sm_list (W := 20) (D := 1) (N := 256) (fun d hd => by
  obtain ⟨x, hx, rfl⟩ := List.mem_map.mp hd
  have := h x hx
  have := pow_le hb
  exact sm_nat (by omega)) (by rw [wD_len]; omega)
theorem sm_said {b n : Nat} {gs : List (Option Nat)} {l m : List Nat} (hb : Bt b) (hg : ∀ (x : Nat), some x ∈ gs → x < 2 ^ b) (h1 : Ws b l) (h2 : Ws b m) (l0 : gs.length = n) (l1 : l.length = n) (l2 : m.length = n) (hn : n ≤ 256) : Sm 26885 3 (saidD gs l m) := by
  refine sm_tuple (N := 5) (W := 5376) (D := 2) (fun d hd => ?_) (by show 3 ≤ 5; decide)
  simp only [List.mem_cons, List.not_mem_nil, or_false] at hd
  rcases hd with rfl | rfl | rfl
  · refine sm_list (W := 20) (D := 1) (N := 256) (fun d hd => ?_) (by rw [List.length_map]; omega)
    obtain ⟨x, hx, rfl⟩ := List.mem_map.mp hd
    cases x with
    | none => exact sm_none
    | some y =>
      have := hg y hx
      have := pow_le hb
      exact sm_nat (by omega)
  · exact sm_ws hb h1 l1 hn
  · exact sm_ws hb h2 l2 hn
theorem dp_said {K : PySem.W.Frag} {H : Hp} {a r o w : Addr} {gs : List (Option Nat)} {l m : List Nat} (h : H a = some (.tup [.ref r, .ref o, .ref w])) (h1 : H r = some (.lst (gs.map gN))) (h2 : H o = some (.lst (wsV l))) (h3 : H w = some (.lst (wsV m))) : Dp K H (.ref a) (saidD gs l m) :=
  .tup (sq_t h) (.cons (.lst (sq_l h1) (gsD gs)) (.cons (Dp.ws (sq_l h2)) (.cons (Dp.ws (sq_l h3)) .nil)))
def sp_law_right : Sp := fun vs H Q _ => ∃ (wl : Addr) (far : Bool), vs = [.ref wl, .bl far] ∧ Wl H wl ∧ ∀ H', Same (del H wl) H' → Q (.bl true) H'
section
variable {P : Program} {w : World} {K : PySem.W.Frag} {mg : Str → Option Value} {base : Heap} {k : Nat}
/-! _law_right -/
abbrev s_law_right : Stmt := topS 51
abbrev n_law_right : List Str := ["_law_well", "_law_is_far", "_law_kit", "_law_size", "_law_field_here", "_law_holes", "_law_near", "_law_bent", "_law_said", "_law_thing", "_law_shown", "_law_due_here", "_law_found", "_law_held", "_law_mended"]
theorem sc_law_right : FnScope n_law_right ["_law_well", "_law_is_far"] (defScope s_law_right) := ⟨rfl, rfl, rfl, by decide +kernel, rfl, by decide +kernel, by decide +kernel⟩
theorem ok_law_right (D : Df K mg "_law_right" s_law_right) (B : Blt mg) (c_law_code : Cal P w K mg base CX0 k "_law_code" ["_law_well", "_law_is_far"] sp_law_code) (c_law_field : Cal P w K mg base CX0 k "_law_field" ["_law_bits"] sp_law_field)
    (c_law_pick : Cal P w K mg base CX0 k "_law_pick" ["_law_well", "_law_some"] sp_law_pick) (c_law_draw : Cal P w K mg base CX0 k "_law_draw" ["_law_well", "_law_many"] sp_law_draw)
    (c_twins : Cal P w K mg base CX0 k "twins" ["code", "length", "lies", "gaps"] (sp_twins K)) (ck_twins : CalK P w K mg base CX0 k "twins" ["code", "length", "lies", "gaps"] (sp_twins K))
    (c_is_twins : Cal P w K mg base CX0 k "is_twins" ["code", "length", "lies", "gaps", "answer"] (sp_is_twins K)) (ck_is_twins : CalK P w K mg base CX0 k "is_twins" ["code", "length", "lies", "gaps", "answer"] (sp_is_twins K))
    (c_law_due : Cal P w K mg base CX0 k "_law_due" ["_law_field_here", "_law_kit", "_law_size", "_law_bent", "_law_holes", "_law_thing"] (sp_law_due K)) (c_law_things : Cal P w K mg base CX0 k "_law_things" ["_law_well", "_law_kit", "_law_size", "_law_said"] (sp_law_things K))
    (c_repaired : Cal P w K mg base CX0 k "repaired" ["code", "row"] (sp_repaired_in K)) : CalG P w K mg base (k + 1) "_law_right" ["_law_well", "_law_is_far"] sp_law_right := by
  refine D.calG sc_law_right (fun _ _ _ _ _ _ us hl => match us, hl with | [_, _], _ => rfl) (fun vs H Q E h => ?_) (fun f cdv A outer s H vs Q E gu hr h => ?_)
  · obtain ⟨wl, far, rfl, h⟩ := h
    rfl
  · obtain ⟨wl, far, rfl, hwl, q⟩ := h
    refine ⟨_, (pss_cons (ps_asg (pe_cal c_law_code hr pass0 (pa_cons (pv 0) (pa_cons (pv 1) pa_nil))) (pg_tup (by rfl) (pgs_cons (pg_name (i := 2) sc_law_right.nd rfl (Or.inl rfl)) (pgs_cons (pg_name (i := 3) sc_law_right.nd rfl (Or.inl rfl)) pgs_nil))))
      (pss_cons (ps_set (i := 4) sc_law_right.nd rfl (Or.inl rfl) (pe_cal c_law_field hr pass0 (pa_cons (pe_ix ix_tup (pv 2) pe_int (fun _ _ => rfl)) pa_nil)))
      (pss_cons (ps_set (i := 5) sc_law_right.nd rfl (Or.inl rfl) (pe_cal c_law_pick hr pass0 (pa_cons (pv 0) (pa_cons (pe_lst (pa_cons pe_int (pa_cons (pe_cal c_law_draw hr pass0 (pa_cons (pv 0) (pa_cons (pe_op op_add (pv 3) pe_int) pa_nil))) (pa_cons (pe_callB (call_min2 rfl) (by rfl) B.min_ (by decide +kernel) (pa_cons (pv 3) (pa_cons (pe_ix ix_tup (pv 2) pe_int (fun _ _ => rfl)) pa_nil))) (pa_cons (pe_cal c_law_draw hr pass0 (pa_cons (pv 0) (pa_cons (pe_op op_add (pe_callB (call_min2 rfl) (by rfl) B.min_ (by decide +kernel) (pa_cons (pv 3) (pa_cons (pe_ix ix_tup (pv 2) pe_int (fun _ _ => rfl)) pa_nil))) pe_int) pa_nil))) pa_nil))))) pa_nil))))
      (pss_cons (ps_set (i := 6) sc_law_right.nd rfl (Or.inl rfl) (pe_op op_fdivN (pe_callB (call_max2 rfl) (by rfl) B.max_ (by decide +kernel) (pa_cons pe_int (pa_cons (pe_op op_sub (pe_ix ix_tup (pv 2) pe_int (fun _ _ => rfl)) (pv 5)) pa_nil))) pe_int))
      (pss_cons (ps_set (i := 7) sc_law_right.nd rfl (Or.inl rfl) (pe_callB (call_min2 rfl) (by rfl) B.min_ (by decide +kernel) (pa_cons (pv 3) (pa_cons (pe_cal c_law_pick hr pass0 (pa_cons (pv 0) (pa_cons (pe_lst (pa_cons (pv 6) (pa_cons (pe_op op_add (pv 6) pe_int) (pa_cons (pe_cal c_law_draw hr pass0 (pa_cons (pv 0) (pa_cons (pe_op op_add (pv 3) pe_int) pa_nil))) (pa_cons pe_int pa_nil))))) pa_nil))) pa_nil))))
      (pss_cons (ps_set (i := 8) sc_law_right.nd rfl (Or.inl rfl) (pe_cal c_twins hr pass0 (pa_cons (pv 2) (pa_cons (pv 3) (pa_cons (pv 7) (pa_cons (pv 5) pa_nil))))))
      (pss_cons (ps_if (pt_cmpR (op_neD hr.units) (pv 8) (pe_calK ck_twins hr pass0 (pk_cons (pv 5) (pk_cons (pv 7) (pk_cons (pv 3) (pk_cons (pv 2) pk_nil))))) (nomark _))
        (pss_one (ps_ret pe_bl))
        pss_nil)
      (pss_cons (ps_if (pt_cmpR op_le (pe_op op_add (pe_op op_mul pe_int (pv 7)) (pv 5)) (pe_ix ix_tup (pv 2) pe_int (fun _ _ => rfl)) (nomark _))
        (pss_one (ps_ret (pe_and (pe_cmpR op_isN (pv 8) pe_non (nomark _)) (pe_one (pe_cmpR op_isBl (pe_cal c_is_twins hr pass0 (pa_cons (pv 2) (pa_cons (pv 3) (pa_cons (pv 7) (pa_cons (pv 5) (pa_cons (pe_op op_repT (pe_tup (pa_cons (pe_op op_rep (pe_lst (pa_cons pe_int pa_nil)) (pv 3)) pa_nil)) pe_int) pa_nil)))))) pe_bl (nomark _))))))
        pss_nil)
      (pss_cons (ps_if (pt_not (pt_val (pe_cal c_law_due hr pass0 (pa_cons (pv 4) (pa_cons (pv 2) (pa_cons (pv 3) (pa_cons (pv 7) (pa_cons (pv 5) (pa_cons (pv 8) pa_nil)))))))))
        (pss_one (ps_ret pe_bl))
        pss_nil)
      (pss_cons (ps_for PassesOwn.never rfl (pi_list (pe_cal c_law_things hr pass0 (pa_cons (pv 0) (pa_cons (pv 2) (pa_cons (pv 3) (pa_cons (pv 8) pa_nil)))))) (pg_name (i := 9) sc_law_right.nd rfl (Or.inl rfl))
        (pss_cons (ps_par (i := 10) (j := 11) rfl sc_law_right.nd rfl rfl (by decide) rfl rfl (pa_cons (pe_callB (call_repD gu hr.units) (by rfl) B.repr_ (by decide +kernel) (pa_cons (pv 9) pa_nil)) (pa_cons (pe_cal c_law_due hr pass0 (pa_cons (pv 4) (pa_cons (pv 2) (pa_cons (pv 3) (pa_cons (pv 7) (pa_cons (pv 5) (pa_cons (pv 9) pa_nil))))))) pa_nil)) (by rfl))
      (pss_cons (ps_set (i := 12) sc_law_right.nd rfl (Or.inl rfl) (pe_calK ck_is_twins hr pass0 (pk_cons (pv 9) (pk_cons (pv 5) (pk_cons (pv 7) (pk_cons (pv 3) (pk_cons (pv 2) pk_nil)))))))
      (pss_one (ps_if (PW.pt (pw_or (pt_cmpR op_ne (pe_callB (call_repD gu hr.units) (by rfl) B.repr_ (by decide +kernel) (pa_cons (pv 12) pa_nil)) (pe_callB (call_repD gu hr.units) (by rfl) B.repr_ (by decide +kernel) (pa_cons (pv 11) pa_nil)) (nomark _)) (pw_or1 (pt_cmpR op_ne (pe_callB (call_repD gu hr.units) (by rfl) B.repr_ (by decide +kernel) (pa_cons (pv 9) pa_nil)) (pv 10) (nomark _)))))
        (pss_one (ps_ret pe_bl))
        pss_nil)))))
      (pss_cons (ps_set (i := 13) sc_law_right.nd rfl (Or.inl rfl) (pe_tup (pa_cons (pe_callTy call_list_of (by rfl) B.list_ (by decide +kernel) (pa_cons (pe_ix ix_tup (pv 8) pe_int (fun _ _ => rfl)) pa_nil)) (pa_cons (pe_callTy call_list_of (by rfl) B.list_ (by decide +kernel) (pa_cons (pe_ix ix_tup (pv 8) pe_int (fun _ _ => rfl)) pa_nil)) (pa_cons (pe_callTy call_list_of (by rfl) B.list_ (by decide +kernel) (pa_cons (pe_ix ix_tup (pv 8) pe_int (fun _ _ => rfl)) pa_nil)) pa_nil)))))
      (pss_cons (ps_if (pt_cmpR op_notBl (pe_cal c_is_twins hr pass0 (pa_cons (pv 2) (pa_cons (pv 3) (pa_cons (pv 7) (pa_cons (pv 5) (pa_cons (pv 13) pa_nil)))))) pe_bl (nomark _))
        (pss_one (ps_ret pe_bl))
        pss_nil)
      (pss_cons (ps_asg (pe_op op_xor (pe_ix ix_list (pe_ix ix_tup (pv 13) pe_int (fun _ _ => rfl)) (pe_un un_neg pe_int) (fun _ _ => rfl)) pe_int) (pg_sub (pe_ix ix_tup (pv 13) pe_int (fun _ _ => rfl)) (pe_un un_neg pe_int) set_list))
      (pss_cons (ps_if (pt_cmpR op_notBl (pe_cal c_is_twins hr pass0 (pa_cons (pv 2) (pa_cons (pv 3) (pa_cons (pv 7) (pa_cons (pv 5) (pa_cons (pv 13) pa_nil)))))) pe_bl (nomark _))
        (pss_one (ps_ret pe_bl))
        pss_nil)
      (pss_cons (ps_set (i := 14) sc_law_right.nd rfl (Or.inl rfl) (pe_cal c_repaired hr pass0 (pa_cons (pv 2) (pa_cons (pe_ix ix_tup (pv 8) pe_int (fun _ _ => rfl)) pa_nil))))
      (pss_one (ps_ret (pe_or (pe_cmpR op_isN (pv 14) pe_non (nomark _)) (pe_one (pe_cmpR op_le (pe_op op_add (pe_op op_mul pe_int (pe_callB call_len (by rfl) B.len_ (by decide +kernel) (pa_cons (pe_ix ix_tup (pv 14) pe_int (fun _ _ => rfl)) pa_nil))) (pv 5)) (pe_ix ix_tup (pv 2) pe_int (fun _ _ => rfl)) (nomark _))))))))))))))))))))), ?_⟩
    -- the code, its field
    refine ⟨_, rfl, _, rfl, wl, far, rfl, hwl, fun H1 t c b many start n s1 w1 ht hc hk hn1 hn2 => ?_⟩
    refine ⟨t, _, rfl, sq_t ht, rfl, _, _, rfl, _, _, rfl, rfl, ?_⟩
    have hb := hk.bt
    have hnn := nn_le hb
    have hm := hk.le
    have hm0 := hk.m0
    refine ⟨_, rfl, c, _, 0, nV b, rfl, rfl, sq_t hc, rfl, b, rfl, hb, fun H2 fa s2 nfa hF => ?_⟩
    have w2 := w1.same s2
    have cw : c ≠ wl := fun z => by
      obtain ⟨x, y, z', h⟩ := w1
      rw [z, h] at hc
      cases hc
    obtain ⟨B0, sB, Bwl, sc, hcB, hFB⟩ : ∃ B0 : Hp, Same (del H wl) B0 ∧ B0 wl = none ∧ Same B0 H2 ∧ B0 c = some (.tup [nV b, nV many, nV start]) ∧ LF b B0 fa := by
      refine ⟨del H2 wl, to_off (s1.trans s2) del_same, del_same, off_same, ?_, ?_⟩
      · rw [del_ne cw]
        exact s2 _ _ hc
      · obtain ⟨l, d, h1, h2, h3⟩ := hF
        obtain ⟨x, y, z, hw⟩ := w2
        refine ⟨l, d, ?_, ?_, ?_⟩
        · rw [del_ne (wl_ne w1 nfa)]
          exact h1
        · rw [del_ne (fun e => ?_)]
          · exact h2
          · rw [e, hw] at h2
            have e2 : [V.int x, V.int y, V.int z] = wsV (tab b) := by
              injection h2 with h2
              injection h2
            have := congrArg List.length e2
            rw [wsV_len, tab_len] at this
            have h3n : 3 = nn b := this
            rcases hb with rfl | rfl <;> exact absurd h3n (by decide)
        · rw [del_ne (fun e => ?_)]
          · exact h3
          · rw [e, hw] at h3
            cases h3
    -- the gaps
    have hlt : (many : Int) < (n : Int) := by omega
    refine ⟨_, rfl, _, rfl, _, rfl, _, _, rfl, rfl, wl, n + 1, rfl, w2, by omega, by omega, fun r1 x y z hr1 => ?_⟩
    have sc := same_mut (o := wl3 x y z) sc Bwl
    have w3 : Wl (upd H2 wl (wl3 x y z)) wl := Wl.upd
    generalize upd H2 wl (wl3 x y z) = H3 at sc w3
    refine ⟨_, rfl, _, rfl, c, _, 1, nV many, rfl, rfl, sq_t (sc _ _ hcB), rfl, _, _, rfl, ?_⟩
    rw [if_pos hlt]
    refine ⟨_, rfl, _, rfl, _, rfl, c, _, 1, nV many, rfl, rfl, sq_t (sc _ _ hcB), rfl, _, _, rfl, ?_⟩
    rw [if_pos hlt]
    refine ⟨_, _, rfl, rfl, wl, many + 1, rfl, w3, by omega, by omega, fun r2 x y z hr2 => ?_⟩
    have sc := same_mut (o := wl3 x y z) sc Bwl
    have w4 : Wl (upd H3 wl (wl3 x y z)) wl := Wl.upd
    generalize upd H3 wl (wl3 x y z) = H4 at sc w4
    refine ⟨by show 4 ≤ _; decide, fun z4 nz4 => ?_⟩
    have sz4 := same_new (o := .lst [.int 0, nV r1, nV many, nV r2]) nz4
    refine ⟨wl, z4, _, rfl, w4.same sz4, upd_same, wl_ne w4 nz4, by show 0 < 4; decide, by show 4 ≤ _; decide, fun i v x y z hv => ?_⟩
    have sc := same_mut (o := wl3 x y z) (sc.trans sz4) Bwl
    have w5 : Wl (upd (upd H4 z4 (.lst [.int 0, nV r1, nV many, nV r2])) wl (wl3 x y z)) wl := Wl.upd
    generalize (upd (upd H4 z4 (.lst [.int 0, nV r1, nV many, nV r2])) wl (wl3 x y z)) = H5 at sc w5
    obtain ⟨g, rfl, hg⟩ : ∃ g : Nat, v = nV g ∧ g ≤ n := by
      match i, hv with
      | 0, hv => exact ⟨0, (Option.some.inj hv).symm, Nat.zero_le _⟩
      | 1, hv => exact ⟨r1, (Option.some.inj hv).symm, by omega⟩
      | 2, hv => exact ⟨many, (Option.some.inj hv).symm, by omega⟩
      | 3, hv => exact ⟨r2, (Option.some.inj hv).symm, by omega⟩
    -- the lies
    refine ⟨_, rfl, c, _, 1, nV many, rfl, rfl, sq_t (sc _ _ hcB), rfl, _, rfl, _, _, rfl, rfl, _, _, rfl, _, _, rfl, rfl, ⟨by decide, by decide⟩, ?_⟩
    dsimp only
    rw [near_nat]
    generalize (many - g) / 2 = nr
    refine ⟨_, rfl, _, rfl, _, rfl, _, rfl, _, _, rfl, rfl, _, rfl, _, rfl, _, _, rfl, rfl, wl, n + 1, rfl, w5, by omega, by omega, fun r3 x y z hr3 => ?_⟩
    have sc := same_mut (o := wl3 x y z) sc Bwl
    have w6 : Wl (upd H5 wl (wl3 x y z)) wl := Wl.upd
    generalize upd H5 wl (wl3 x y z) = H6 at sc w6
    refine ⟨by show 4 ≤ _; decide, fun z5 nz5 => ?_⟩
    have sz5 := same_new (o := .lst [nV nr, .int ((nr : Int) + 1), nV r3, .int 0]) nz5
    refine ⟨wl, z5, _, rfl, w6.same sz5, upd_same, wl_ne w6 nz5, by show 0 < 4; decide, by show 4 ≤ _; decide, fun i v x y z hv => ?_⟩
    have sc := same_mut (o := wl3 x y z) (sc.trans sz5) Bwl
    have w7 : Wl (upd (upd H6 z5 (.lst [nV nr, .int ((nr : Int) + 1), nV r3, .int 0])) wl (wl3 x y z)) wl := Wl.upd
    obtain ⟨p, hp⟩ : ∃ p : Nat, v = nV p := by
      match i, hv with
      | 0, hv => exact ⟨nr, (Option.some.inj hv).symm⟩
      | 1, hv => exact ⟨nr + 1, (Option.some.inj hv).symm⟩
      | 2, hv => exact ⟨r3, (Option.some.inj hv).symm⟩
      | 3, hv => exact ⟨0, (Option.some.inj hv).symm⟩
    subst hp
    refine ⟨_, _, rfl, ?_⟩
    rw [min_nat]
    have he : min n p ≤ n := Nat.min_le_left _ _
    generalize min n p = e at he ⊢
    generalize (upd (upd H6 z5 (.lst [nV nr, .int ((nr : Int) + 1), nV r3, .int 0])) wl (wl3 x y z)) = H7 at sc w7 ⊢
    -- what twins tells
    refine ⟨_, rfl, _, rfl, _, rfl, _, rfl, b, c, many, start, n, e, g, rfl, hk, sq_t (sc _ _ hcB), hn1, hn2, he, hg, fun hle H8 s8 => ?_, fun hlt2 H8 sa sr so sw s8 nsa hsa hsr hso hsw nsr nso nsw d1 d2 d3 => ?_⟩
    · have sc := sc.trans s8
      refine ⟨_, rfl, _, rfl, _, rfl, _, rfl, _, rfl, b, c, many, start, n, e, g, rfl, hk, sq_t (sc _ _ hcB), hn1, hn2, he, hg, fun _ H9 s9 => ?_, fun h => absurd hle (by omega)⟩
      have sc := sc.trans s9
      refine ⟨_, _, .non, .non, sh_none, sh_none, _, rfl, ?_⟩
      rw [eqv_none]
      refine iteF ?_
      refine ⟨_, rfl, _, _, rfl, rfl, .inl ⟨by decide, by decide⟩, _, rfl, _, _, rfl, rfl, _, rfl, c, _, 1, nV many, rfl, rfl, sq_t (sc _ _ hcB), rfl, _, _, rfl, rfl, _, rfl, ite2 (fun _ => ?_) (fun d => absurd (decide_eq_true (by omega)) d)⟩
      refine ⟨_, rfl, rfl, _, rfl, iteT ?_⟩
      refine ⟨_, rfl, _, rfl, _, rfl, _, rfl, line_ok (by decide), fun z nz => ?_⟩
      have sz := same_new (o := .lst [.int 0]) nz
      refine ⟨_, rfl, z, _, _, rfl, rfl, upd_same, by omega, by omega, line_ok (by show 1 * _ ≤ _; rw [Int.toNat_natCast]; omega), fun p np => ?_⟩
      rw [rep_wsV]
      have sp := sz.trans (same_new (o := .lst (wsV (List.replicate n 0))) np)
      have hp : (upd (upd H9 z (.lst [.int 0])) p (.lst (wsV (List.replicate n 0)))) p = some (.lst (wsV (List.replicate n 0))) := upd_same
      generalize (upd (upd H9 z (.lst [.int 0])) p (.lst (wsV (List.replicate n 0)))) = H10 at sp hp
      refine ⟨by show 1 ≤ _; decide, fun tt ntt => ?_⟩
      have st := same_new (o := .tup [.ref p]) ntt
      refine ⟨tt, 3, [.ref p], rfl, rfl, sq_t upd_same, List.cons_ne_nil _ _, by decide, by decide, by show 1 ≤ 1000; decide, fun u nu => ?_⟩
      have su := st.trans (same_new (o := .tup [.ref p, .ref p, .ref p]) nu)
      have hp' := su _ _ hp
      have hu : (upd (upd H10 tt (.tup [.ref p])) u (.tup [.ref p, .ref p, .ref p])) u = some (.tup [.ref p, .ref p, .ref p]) := upd_same
      have scu := sc.trans (sp.trans su)
      refine ⟨b, c, many, start, n, e, g, .ref u, .tuple [.list (wD (List.replicate n 0)), .list (wD (List.replicate n 0)), .list (wD (List.replicate n 0))], rfl, hk, sq_t (scu _ _ hcB), hn1, hn2, he, hg, .tup (sq_t hu) (.cons (Dp.ws (sq_l hp')) (.cons (Dp.ws (sq_l hp')) (.cons (Dp.ws (sq_l hp')) .nil))), (fun r o w e => by cases e; exact .inr (fun z => nomatch z)), fun H11 s11 => ?_⟩
      rw [due_same]
      exact ⟨_, _, rfl, rfl, q H11 (sB.trans (scu.trans s11))⟩
    · have sc8 := sc.trans s8
      -- a second time, by name
      refine ⟨_, rfl, _, rfl, _, rfl, _, rfl, _, rfl, b, c, many, start, n, e, g, rfl, hk, sq_t (sc8 _ _ hcB), hn1, hn2, he, hg, fun h => absurd h (by omega), fun _ H9 sa2 sr2 so2 sw2 s9 _ hsa2 hsr2 hso2 hsw2 _ _ _ _ _ _ => ?_⟩
      have lol := lone_len (b := b) (start := start) hn1
      have low := Ws_lone hb start many n
      have gwl := torn_ws (n := n) (g := g) (p0 := n - many - 1) (e := e) low
      have gll := torn_len (lone b start many n) n g (n - many - 1) e
      have hdue := due_said (e := e) (g := g) hb (start := start) hn1 hg hlt2
      have hcnt := torn_count (l := lone b start many n) (p0 := n - many - 1) (e := e) hg
      generalize torn (lone b start many n) n g (n - many - 1) e = gs at hsr hsr2 gwl gll hdue hcnt
      generalize lone b start many n = lo at hsw hsw2 lol low hdue
      have sm := sm_said hb gwl (Ws_zeros (m := n)) low gll List.length_replicate lol (by omega)
      have zl : (List.replicate n 0).length = n := List.length_replicate
      refine ⟨_, _, dp_said (s9 _ _ hsa) (s9 _ _ hsr) (s9 _ _ hso) (s9 _ _ hsw), dp_said hsa2 hsr2 hso2 hsw2, sm.shaped (by decide), sm.shaped (by decide), _, rfl, ?_⟩
      rw [SeqAt.eqv_refl _ sm.lay]
      refine iteF ?_
      have w9 := (w7.same s8).same s9
      obtain ⟨C, sBC, Cwl, sCH, aC, rC, oC, wC⟩ : ∃ C : Hp, Same B0 C ∧ C wl = none ∧ Same C H9 ∧ C sa = some (.tup [.ref sr, .ref so, .ref sw]) ∧ C sr = some (.lst (gs.map gN)) ∧ C so = some (.lst (wsV (List.replicate n 0))) ∧ C sw = some (.lst (wsV lo)) :=
        ⟨del H9 wl, to_off (sc8.trans s9) Bwl, del_same, off_same, by rw [del_ne (wl_ne w7 nsa)]; exact s9 _ _ hsa, by rw [del_ne (wl_ne w7 nsr)]; exact s9 _ _ hsr, by rw [del_ne (wl_ne w7 nso)]; exact s9 _ _ hso, by rw [del_ne (wl_ne w7 nsw)]; exact s9 _ _ hsw⟩
      have cC := sBC _ _ hcB
      have fC := hFB.same sBC
      have sHC := sB.trans sBC
      clear hsa hsr hso hsw hsa2 hsr2 hso2 hsw2 sc8 sc hF hc ht
      refine ⟨_, rfl, _, _, rfl, rfl, .inl ⟨by decide, by decide⟩, _, rfl, _, _, rfl, rfl, _, rfl, c, _, 1, nV many, rfl, rfl, sq_t (sCH _ _ cC), rfl, _, _, rfl, rfl, _, rfl, ite2 (fun d => False.elim (by
        have d' : (2 : Int) * (e : Int) + (g : Int) ≤ (many : Int) := of_decide_eq_true d
        omega)) (fun _ => ?_)⟩
      refine ⟨_, rfl, _, rfl, _, rfl, _, rfl, _, rfl, _, rfl, b, fa, c, many, start, n, e, g, .ref sa, saidD gs (List.replicate n 0) lo, rfl, fC.same sCH, hk, sq_t (sCH _ _ cC), hn2, dp_said (sCH _ _ aC) (sCH _ _ rC) (sCH _ _ oC) (sCH _ _ wC), fun H10 s10 => ⟨_, rfl, ?_⟩⟩
      have hdue' : due b many start n e g (saidD gs (List.replicate n 0) lo) = true := hdue
      rw [hdue']
      refine iteF ?_
      have w10 := w9.same s10
      have sC10 := sCH.trans s10
      -- the things
      refine ⟨_, rfl, _, rfl, _, rfl, _, rfl, C, wl, c, sa, sr, so, sw, b, many, start, n, gs, lo, rfl, w10, sC10, Cwl, hk, sq_t cC, hn1, hn2, aC, rC, oC, wC, gll, lol, gwl, low, fun H11 L xs s11 hL hall hxl => ⟨L, rfl, ⟨_, sq_l hL⟩, for_list (K := K) (a := L) (xs := xs) (fun i st H' => ∃ v9 v10 v11 v12 : Option V, st = [some (.ref wl), some (.bl far), some (.ref c), some (nV n), some (.ref fa), some (nV g), some (nV nr), some (nV e), some (.ref sa), v9, v10, v11, v12, none, none] ∧ Same H11 H')
        ⟨none, none, none, none, rfl, Same.refl _⟩ (fun i st H' _ p => ?_) ?_ ?_⟩⟩
      · obtain ⟨_, _, _, _, _, s12⟩ := p
        exact sq_l (s12 _ _ hL)
      · rintro i x st H12 hi ⟨v9, v10, v11, v12, rfl, s12⟩
        obtain ⟨d, hd, hth⟩ := hall x (List.mem_of_getElem? hi)
        have hd := Dp.same s12 _ _ hd
        have sCx := s11.trans s12
        obtain ⟨p1, p2, p3, p4⟩ := hth.sm.rep (by decide) (by decide)
        refine ⟨_, rfl, x, d, rfl, hd, p1, p2, p3, p4, ?_⟩
        refine ⟨_, rfl, _, rfl, _, rfl, _, rfl, _, rfl, _, rfl, b, fa, c, many, start, n, e, g, x, d, rfl, fC.same sCx, hk, sq_t (sCx _ _ cC), hn2, hd, fun H13 s13 => ⟨_, _, rfl, ?_⟩⟩
        have hd13 := Dp.same s13 _ _ hd
        refine ⟨_, rfl, _, rfl, _, rfl, _, rfl, _, rfl, b, c, many, start, n, e, g, x, d, rfl, hk, sq_t (s13 _ _ (sCx _ _ cC)), hn1, hn2, he, hg, hd13, hth.third, fun H14 s14 => ?_⟩
        obtain ⟨b1, b2, b3, b4⟩ := bool_rep (due b many start n e g d)
        refine ⟨_, rfl, _, _, rfl, .bl _, b1, b2, b3, b4, _, rfl, _, _, rfl, .bl _, b1, b2, b3, b4, rfl, _, rfl, ?_⟩
        rw [decide_eq_true rfl]
        refine iteF ⟨_, rfl, x, d, rfl, Dp.same s14 _ _ hd13, p1, p2, p3, p4, _, rfl, rfl, _, rfl, ?_⟩
        rw [decide_eq_true rfl]
        exact iteF ⟨_, _, _, _, rfl, s12.trans (s13.trans s14)⟩
      · rintro st H12 ⟨v9, v10, v11, v12, rfl, s12⟩
        have sC12 := s11.trans s12
        -- held
        refine ⟨_, rfl, sa, _, 0, .ref sr, rfl, rfl, sq_t (sC12 _ _ aC), rfl, sr, _, rfl, .inl (sq_l (sC12 _ _ rC)), fun h0 nh0 => ?_⟩
        have t0 := same_new (o := .lst (gs.map gN)) nh0
        have k0 : (upd H12 h0 (.lst (gs.map gN))) h0 = some (.lst (gs.map gN)) := upd_same
        have sC13 := sC12.trans t0
        generalize upd H12 h0 (.lst (gs.map gN)) = H13 at sC13 k0 ⊢
        refine ⟨_, rfl, sa, _, 1, .ref so, rfl, rfl, sq_t (sC13 _ _ aC), rfl, so, _, rfl, .inl (sq_l (sC13 _ _ oC)), fun h1 nh1 => ?_⟩
        have t1 := same_new (o := .lst (wsV (List.replicate n 0))) nh1
        have k1 : (upd H13 h1 (.lst (wsV (List.replicate n 0)))) h1 = some (.lst (wsV (List.replicate n 0))) := upd_same
        have nh1C := sC13.free nh1
        have h10 : h0 ≠ h1 := ne_of_none k0 nh1
        have k0 := t1 _ _ k0
        have sC14 := sC13.trans t1
        generalize upd H13 h1 (.lst (wsV (List.replicate n 0))) = H14 at sC14 k0 k1 ⊢
        refine ⟨_, rfl, sa, _, 2, .ref sw, rfl, rfl, sq_t (sC14 _ _ aC), rfl, sw, _, rfl, .inl (sq_l (sC14 _ _ wC)), fun h2 nh2 => ?_⟩
        have t2 := same_new (o := .lst (wsV lo)) nh2
        have k2 : (upd H14 h2 (.lst (wsV lo))) h2 = some (.lst (wsV lo)) := upd_same
        have h21 : h1 ≠ h2 := ne_of_none k1 nh2
        have k0 := t2 _ _ k0
        have k1 := t2 _ _ k1
        have sC15 := sC14.trans t2
        generalize upd H14 h2 (.lst (wsV lo)) = H15 at sC15 k0 k1 k2 ⊢
        refine ⟨by show 3 ≤ _; decide, fun hd nhd => ?_⟩
        have t3 := same_new (o := .tup [.ref h0, .ref h1, .ref h2]) nhd
        have k3 : (upd H15 hd (.tup [.ref h0, .ref h1, .ref h2])) hd = some (.tup [.ref h0, .ref h1, .ref h2]) := upd_same
        have h3 : h1 ≠ hd := ne_of_none k1 nhd
        have k0 := t3 _ _ k0
        have k1 := t3 _ _ k1
        have k2 := t3 _ _ k2
        have sC16 := sC15.trans t3
        generalize upd H15 hd (.tup [.ref h0, .ref h1, .ref h2]) = H16 at sC16 k0 k1 k2 k3 ⊢
        refine ⟨_, rfl, _, rfl, _, rfl, _, rfl, _, rfl, b, c, many, start, n, e, g, .ref hd, saidD gs (List.replicate n 0) lo, rfl, hk, sq_t (sC16 _ _ cC), hn1, hn2, he, hg, dp_said k3 k0 k1 k2, (fun r o w e => by cases e; exact .inr (fun z => nomatch z)), fun H17 s17 => ⟨_, _, rfl, rfl, _, rfl, ?_⟩⟩
        rw [hdue']
        refine iteF ?_
        have sC17 := sC16.trans s17
        have k0 := s17 _ _ k0
        have k1 := s17 _ _ k1
        have k2 := s17 _ _ k2
        have k3 := s17 _ _ k3
        -- its second row changed in place
        have al : atI (wsV (List.replicate n 0)) (-1) = some (nV 0) := by
          have := ws_last (l := List.replicate n 0) (m := n - 1) (by rw [List.length_replicate]; omega)
          rw [this]
          congr 2
          unfold at0
          rw [getD_of (show (List.replicate n 0)[n - 1]? = some 0 by rw [List.getElem?_replicate, if_pos (by omega)])]
        refine ⟨_, rfl, hd, _, 1, .ref h1, rfl, rfl, sq_t k3, rfl, 1, rfl, h1, _, _, nV 0, rfl, rfl, sq_l k1, al, _, _, rfl, rfl, ?_⟩
        have ex : Builtin.bitXor ((0 : Nat) : Int) 1 = ((1 : Nat) : Int) := xor_nat 0 1
        dsimp only
        rw [ex]
        refine ⟨_, rfl, hd, _, 1, .ref h1, rfl, rfl, sq_t k3, rfl, 1, rfl, h1, _, _, n - 1, rfl, rfl, k1, ?_, ?_⟩
        · rw [wsV_len, List.length_replicate]
          exact ixN_last (by omega)
        rw [set_wsV, set_last (by omega)]
        have sC18 : Same C (upd H17 h1 (.lst (wsV (List.replicate (n - 1) 0 ++ [1])))) := same_mut sC17 nh1C
        have j0 : (upd H17 h1 (.lst (wsV (List.replicate (n - 1) 0 ++ [1])))) h0 = some (.lst (gs.map gN)) := by rw [upd_ne h10]; exact k0
        have j1 : (upd H17 h1 (.lst (wsV (List.replicate (n - 1) 0 ++ [1])))) h1 = some (.lst (wsV (List.replicate (n - 1) 0 ++ [1]))) := upd_same
        have j2 : (upd H17 h1 (.lst (wsV (List.replicate (n - 1) 0 ++ [1])))) h2 = some (.lst (wsV lo)) := by rw [upd_ne (Ne.symm h21)]; exact k2
        have j3 : (upd H17 h1 (.lst (wsV (List.replicate (n - 1) 0 ++ [1])))) hd = some (.tup [.ref h0, .ref h1, .ref h2]) := by rw [upd_ne (Ne.symm h3)]; exact k3
        generalize upd H17 h1 (.lst (wsV (List.replicate (n - 1) 0 ++ [1]))) = H18 at sC18 j0 j1 j2 j3 ⊢
        refine ⟨_, rfl, _, rfl, _, rfl, _, rfl, _, rfl, b, c, many, start, n, e, g, .ref hd, saidD gs (List.replicate (n - 1) 0 ++ [1]) lo, rfl, hk, sq_t (sC18 _ _ cC), hn1, hn2, he, hg, dp_said j3 j0 j1 j2, (fun r o w e => by cases e; exact .inr (fun z => nomatch z)), fun H19 s19 => ⟨_, _, rfl, rfl, _, rfl, ?_⟩⟩
        rw [show due b many start n e g (saidD gs (List.replicate (n - 1) 0 ++ [1]) lo) = false from due_bent hm0]
        refine iteF ?_
        have sC19 := sC18.trans s19
        -- repaired
        refine ⟨_, rfl, _, rfl, sa, _, 0, .ref sr, rfl, rfl, sq_t (sC19 _ _ aC), rfl, b, c, sr, many, start, gs, rfl, hk, sq_t (sC19 _ _ cC), sq_l (sC19 _ _ rC), gwl, by omega, by omega, fun H20 s20 => ?_, fun H20 tm f cc ys s20 htm hcc hle => ?_⟩
        · exact ⟨_, rfl, rfl, _, rfl, iteT (q H20 (sHC.trans (sC19.trans s20)))⟩
        · refine ⟨_, rfl, rfl, _, rfl, iteF ?_⟩
          refine ⟨_, rfl, tm, _, 1, .ref cc, rfl, rfl, sq_t htm, rfl, _, ys.length, rfl, .inr ⟨_, sq_t hcc, rfl⟩, _, _, rfl, rfl, .inl ⟨by decide, by decide⟩, _, rfl, _, _, rfl, rfl, _, rfl, c, _, 1, nV many, rfl, rfl, sq_t (s20 _ _ (sC19 _ _ cC)), rfl, _, _, rfl, rfl, ?_⟩
          have ed : decide ((2 : Int) * (ys.length : Int) + (g : Int) ≤ (many : Int)) = true := decide_eq_true (by omega)
          show Q (.bl (decide ((2 : Int) * (ys.length : Int) + (g : Int) ≤ (many : Int)))) H20
          rw [ed]
          exact q H20 (sHC.trans (sC19.trans s20))
end
end Tw

namespace Tw
open PySem PySem.Spec PyProof.Rows L2
/-! ### list + list, the left one read only -/
def rCatL (K : PySem.W.Frag) : R2 := fun x y H Q => ∃ l b xs zs, x = .ref l ∧ y = .ref b ∧ SqL K H l xs ∧ SqL K H b zs ∧ xs.length + zs.length ≤ sizeLine ∧ ∀ p, H p = none → Q (.ref p) (upd H p (.lst (xs ++ zs)))
theorem op_catS {X : Cx} : OpR X (binaryOp .Add) (rCatL X.K) := by
  intro pins s σ H x y v u Q I rx ry h
  obtain ⟨l, b, xs, zs, rfl, rfl, hH, hB, hz, q⟩ := h
  cases rx
  cases ry
  obtain ⟨its, r, ⟨⟨c, dd, dt, sl⟩, n, ho, hc, hdn, hd⟩, hl⟩ := I.list hH
  obtain ⟨its2, r2, ⟨⟨c2, dd2, dt2, sl2⟩, n2, ho2, hc2, hdn2, hd2⟩, hl2⟩ := I.list hB
  dsimp only at hc hd hc2 hd2
  subst hc hd hc2 hd2
  have e1 := r.length
  have e2 := r2.length
  refine PySem.concat_meets ⟨_, ho, rfl⟩ ⟨_, ho2, rfl⟩ PySem.noFill_list_add PySem.seq_list_add PySem.F.slot_list_add PySem.F.entry_list_add (PySem.F.args_list_add_2 _ _) (list_addW l b its.toArray its2.toArray n n2 dd dd2 sl sl2 (by rw [List.size_toArray, List.size_toArray]; omega)) ⟨ho, ho2, ?_⟩
  have ea : its.toArray ++ its2.toArray = (its ++ its2).toArray := by simp
  rw [ea]
  exact ⟨.ref _, _, I.lnew (t' := s.toks) (r.append r2) (by rw [List.length_append]; omega), rfl, q _ I.fresh⟩
theorem cut_ints (ns : List Int) (a b : Option Int) : ∃ ms : List Int, cutV (ns.map V.int) a b = ms.map V.int ∧ ms.length ≤ ns.length := by
  unfold cutV
  refine ⟨(ns.drop _).take _, by rw [List.map_take, List.map_drop], ?_⟩
  rw [List.length_take, List.length_drop]
  omega
def sp_law (K : PySem.W.Frag) : Sp := fun vs H Q _ => ∃ (a : Addr) (ns : List Int), vs = [.ref a] ∧ SqL K H a (ns.map V.int) ∧ ns.length ≤ 63 ∧ ∀ H', Q (.bl true) H'
theorem kode_42 : Kode 4 2 0 := ⟨.inl rfl, by decide, by decide, by decide⟩
theorem due_42 : due 4 2 0 3 1 1 (.tuple [.tuple [.none, .int 3, .int 0], .tuple [.int 0, .int 0, .int 0], .tuple [.int 1, .int 3, .int 2]]) = true := by decide +kernel
section
variable {P : Program} {w : World} {K : PySem.W.Frag} {mg : Str → Option Value} {base : Heap} {k : Nat}
/-! law: slots 0 _law_script, 1 _law_k, 2 _law_cell, 3 _law_well; cells  -/
abbrev s_law : Stmt := topS 52
abbrev n_law : List Str := ["_law_script", "_law_k", "_law_cell", "_law_well"]
theorem sc_law : FnScope n_law ["_law_script"] (defScope s_law) := ⟨rfl, rfl, rfl, by decide +kernel, rfl, by decide +kernel, by decide +kernel⟩
theorem ok_law {f : Addr} {fd : FuncData} (F : L2.Fun K "law" "law" s_law f fd) (B : Blt mg) (c_law_right : CalG P w K mg base k "_law_right" ["_law_well", "_law_is_far"] sp_law_right) (c_twins : Cal P w K mg base CX0 k "twins" ["code", "length", "lies", "gaps"] (sp_twins K))
    (c_is_twins : Cal P w K mg base CX0 k "is_twins" ["code", "length", "lies", "gaps", "answer"] (sp_is_twins K)) : FnG P w K mg base CX0 (k + 1) f fd ["_law_script"] (sp_law K) := by
  refine Tw.Fun.okG F sc_law (fun vs H Q E h => ?_) (fun cdv A outer s H vs Q E gu hr h => ?_)
  · obtain ⟨a, ns, rfl, h⟩ := h
    rfl
  · obtain ⟨a, ns, rfl, ha, hns, q⟩ := h
    refine ⟨_, (pss_cons (ps_for PassesOwn.never rfl (pi_enum (by rfl) B.enumerate_ (pa_cons (pe_slice sl_list (pe_op op_catS (pv 0) (pe_lst (pa_cons pe_int pa_nil))) po_none (po_some pe_int)) pa_nil)) (pg_tup (by rfl) (pgs_cons (pg_name (i := 1) sc_law.nd rfl (Or.inl rfl)) (pgs_cons (pg_name (i := 2) sc_law.nd rfl (Or.inl rfl)) pgs_nil)))
        (pss_cons (ps_set (i := 3) sc_law.nd rfl (Or.inl rfl) (pe_lst (pa_cons (pe_op op_mul (pv 2) (pe_callTy call_int1 (by rfl) B.int_ (by decide +kernel) (pa_cons (pe_cmpR op_ge (pv 2) (pe_op op_pow pe_int pe_int) (nomark _)) pa_nil))) (pa_cons (pe_op op_add (pe_op op_modN (pe_callTy call_int1 (by rfl) B.int_ (by decide +kernel) (pa_cons (pv 2) pa_nil)) pe_int) (pe_op op_mul pe_int (pv 1))) (pa_cons pe_int pa_nil)))))
      (pss_one (ps_if (pt_not (pt_val (pe_calG c_law_right gu hr (pa_cons (pv 3) (pa_cons (pe_cmpR op_eq (pv 1) pe_int (nomark _)) pa_nil)))))
        (pss_one (ps_ret pe_bl))
        pss_nil))))
      (pss_cons (ps_if (pt_cmpR op_notN (pe_cal c_twins hr pass0 (pa_cons (pe_tup (pa_cons pe_int (pa_cons pe_int (pa_cons pe_int pa_nil)))) (pa_cons pe_int (pa_cons pe_int (pa_cons pe_int pa_nil))))) pe_non (nomark _))
        (pss_one (ps_ret pe_bl))
        pss_nil)
      (pss_one (ps_ret (pe_cmpR op_isBl (pe_cal c_is_twins hr pass0 (pa_cons (pe_tup (pa_cons pe_int (pa_cons pe_int (pa_cons pe_int pa_nil)))) (pa_cons pe_int (pa_cons pe_int (pa_cons pe_int (pa_cons (pe_tup (pa_cons (pe_tup (pa_cons pe_non (pa_cons pe_int (pa_cons pe_int pa_nil)))) (pa_cons (pe_tup (pa_cons pe_int (pa_cons pe_int (pa_cons pe_int pa_nil)))) (pa_cons (pe_tup (pa_cons pe_int (pa_cons pe_int (pa_cons pe_int pa_nil)))) pa_nil)))) pa_nil)))))) pe_bl (nomark _)))))), ?_⟩
    refine ⟨_, rfl, by show 1 ≤ _; decide, fun z nz => ?_⟩
    have sz := same_new (o := .lst [.int 0]) nz
    refine ⟨a, z, _, _, rfl, rfl, sz.seq ha, sq_l upd_same, line_ok (by rw [List.length_map]; show ns.length + 1 ≤ _; omega), fun y ny => ?_⟩
    have ey : ns.map V.int ++ [V.int 0] = (ns ++ [0]).map V.int := by rw [List.map_append]; rfl
    rw [ey]
    have hy : (upd (upd H z (.lst [.int 0])) y (.lst ((ns ++ [0]).map V.int))) y = some (.lst ((ns ++ [0]).map V.int)) := upd_same
    generalize (upd (upd H z (.lst [.int 0])) y (.lst ((ns ++ [0]).map V.int))) = H1 at hy ⊢
    refine ⟨5, rfl, y, _, rfl, sq_l hy, fun e ne => ?_⟩
    obtain ⟨ms, em, lm⟩ := cut_ints (ns ++ [0]) none (some 5)
    rw [em]
    have he : (upd H1 e (.lst (ms.map V.int))) e = some (.lst (ms.map V.int)) := upd_same
    generalize upd H1 e (.lst (ms.map V.int)) = H2 at he ⊢
    refine ⟨e, _, rfl, sq_l he, for_it (walk_enum (K := K) (a := e) (xs := ms.map V.int)) (fun i st H' => ∃ v1 v2 v3 : Option V, st = [some (.ref a), v1, v2, v3] ∧ Same H2 H') ⟨none, none, none, rfl, Same.refl _⟩ (fun i st H' _ p => ?_) ?_ ?_⟩
    · obtain ⟨_, _, _, _, s3⟩ := p
      exact sq_l (s3 _ _ he)
    · rintro i x st H3 H4 hi ⟨v1, v2, v3, rfl, s3⟩ ⟨T, x1, x2, rfl, nT, rfl, e1, e2⟩
      have e1' := Option.some.inj e1
      subst e1'
      have e2 : (ms.map V.int)[i]? = some x2 := e2
      rw [List.getElem?_map] at e2
      obtain ⟨zc, rfl⟩ : ∃ zc : Int, x2 = .int zc := by
        cases h : ms[i]? with
        | none => rw [h] at e2; cases e2
        | some m => rw [h] at e2; exact ⟨m, (Option.some.inj e2).symm⟩
      have sT : Same H3 (upd H3 T (.tup [.int (i : Nat), .int zc])) := same_new nT
      refine ⟨T, _, rfl, sq_t upd_same, rfl, _, _, rfl, _, _, rfl, rfl, ?_⟩
      have s4 := s3.trans sT
      generalize upd H3 T (.tup [.int (i : Nat), .int zc]) = H5 at s4 ⊢
      refine ⟨_, rfl, _, rfl, _, _, rfl, rfl, ⟨by decide, by decide, by decide⟩, _, _, rfl, rfl, .inr ⟨_, rfl, _, _, rfl, rfl, .inr ⟨by split <;> decide, by split <;> decide⟩, ?_⟩⟩
      refine ⟨_, rfl, .inl ⟨_, rfl, _, _, rfl, rfl, (by show (2147483647 : Int) ≠ 0; decide), _, rfl, _, _, rfl, rfl, .inl ⟨by decide, by decide⟩, _, _, rfl, rfl, ?_⟩⟩
      refine ⟨by show 3 ≤ _; decide, fun wl nwl => ?_⟩
      refine ⟨_, rfl, _, rfl, rfl, wl, _, rfl, ⟨_, _, _, upd_same⟩, fun H6 s6 => ⟨_, rfl, iteF ⟨_, _, _, rfl, ?_⟩⟩⟩
      exact (to_off (s4.trans (same_new nwl)) (s4.free nwl)).trans s6
    · rintro st H3 ⟨v1, v2, v3, rfl, s3⟩
      refine ⟨by show 3 ≤ _; decide, fun c nc => ?_⟩
      refine ⟨4, c, 2, 0, 3, 1, 0, rfl, kode_42, sq_t upd_same, by decide, by decide, by decide, by decide, fun _ H5 s5 => ?_, fun h => absurd h (by decide)⟩
      refine ⟨rfl, _, rfl, iteF ?_⟩
      refine ⟨by show 3 ≤ _; decide, fun c2 nc2 => ?_⟩
      have hc2 : (upd H5 c2 (.tup [.int 4, .int 2, .int 0])) c2 = some (.tup [.int 4, .int 2, .int 0]) := upd_same
      generalize upd H5 c2 (.tup [.int 4, .int 2, .int 0]) = H6 at hc2 ⊢
      refine ⟨by show 3 ≤ _; decide, fun r nr => ?_⟩
      have sr := same_new (o := .tup [.non, .int 3, .int 0]) nr
      have hr1 : (upd H6 r (.tup [.non, .int 3, .int 0])) r = some (.tup [.non, .int 3, .int 0]) := upd_same
      have hc2 := sr _ _ hc2
      generalize upd H6 r (.tup [.non, .int 3, .int 0]) = H7 at hc2 hr1 ⊢
      refine ⟨by show 3 ≤ _; decide, fun o no => ?_⟩
      have so := same_new (o := .tup [.int 0, .int 0, .int 0]) no
      have ho1 : (upd H7 o (.tup [.int 0, .int 0, .int 0])) o = some (.tup [.int 0, .int 0, .int 0]) := upd_same
      have hc2 := so _ _ hc2
      have hr1 := so _ _ hr1
      generalize upd H7 o (.tup [.int 0, .int 0, .int 0]) = H8 at hc2 hr1 ho1 ⊢
      refine ⟨by show 3 ≤ _; decide, fun t nt => ?_⟩
      have st := same_new (o := .tup [.int 1, .int 3, .int 2]) nt
      have ht1 : (upd H8 t (.tup [.int 1, .int 3, .int 2])) t = some (.tup [.int 1, .int 3, .int 2]) := upd_same
      have hc2 := st _ _ hc2
      have hr1 := st _ _ hr1
      have ho1 := st _ _ ho1
      generalize upd H8 t (.tup [.int 1, .int 3, .int 2]) = H9 at hc2 hr1 ho1 ht1 ⊢
      refine ⟨by show 3 ≤ _; decide, fun u nu => ?_⟩
      have su := same_new (o := .tup [.ref r, .ref o, .ref t]) nu
      have hu1 : (upd H9 u (.tup [.ref r, .ref o, .ref t])) u = some (.tup [.ref r, .ref o, .ref t]) := upd_same
      have hc2 := su _ _ hc2
      have hr1 := su _ _ hr1
      have ho1 := su _ _ ho1
      have ht1 := su _ _ ht1
      generalize upd H9 u (.tup [.ref r, .ref o, .ref t]) = H10 at hc2 hr1 ho1 ht1 hu1 ⊢
      refine ⟨4, c2, 2, 0, 3, 1, 1, .ref u, .tuple [.tuple [.none, .int 3, .int 0], .tuple [.int 0, .int 0, .int 0], .tuple [.int 1, .int 3, .int 2]], rfl, kode_42, sq_t hc2, by decide, by decide, by decide, by decide,
        .tup (sq_t hu1) (.cons (.tup (sq_t hr1) (.cons .non (.cons (.int 3) (.cons (.int 0) .nil)))) (.cons (.tup (sq_t ho1) (.cons (.int 0) (.cons (.int 0) (.cons (.int 0) .nil)))) (.cons (.tup (sq_t ht1) (.cons (.int 1) (.cons (.int 3) (.cons (.int 2) .nil)))) .nil))), (fun r o w e => by cases e; exact .inr (fun z => nomatch z)), fun H11 s11 => ?_⟩
      rw [due_42]
      exact ⟨_, _, rfl, rfl, q H11⟩
end
end Tw

namespace Tw
open PySem PySem.Spec PyProof.Rows L2
/-! ### from the top's facts -/
section
variable {K : PySem.W.Frag} {h : Heap} {mg : Str → Option Value}
theorem df_mk (X : K.In h) (G : h.Ns mainGlobals mg) {x : Str} {st : Stmt} {f : Addr} {oc : Value} {od an : Option Addr} {sl : Array (Option Value)} {kV dc pm cd ct : Value} (a : PySem.W.nsIn K mainGlobals x = some (some (.ref f)))
    (l : K.lookup f = some ⟨oc, od, .func (PySem.W.fnOf x x (defArgs st) (defBody st) (defScope st) .none kV dc pm an cd ct), sl⟩) (c : PySem.W.codeIn K cd x = true) (k : PySem.W.keepIn K (.ref f) = true) : Df K mg x st :=
  ⟨⟨f, _, L2.fun_mk l c k, PySem.W.mg_of X G a⟩⟩
theorem no_mk (X : K.In h) (G : h.Ns mainGlobals mg) {x : Str} (a : PySem.W.nsIn K mainGlobals x = some none) : mg x = none := PySem.W.mg_none_of X G a
theorem d48_mk (X : K.In h) (G : h.Ns mainGlobals mg) {x : Str} {d : Addr} {a b : Int} {n : Nat} {t1 t2 t3 t4 : Tok} (g : PySem.W.nsIn K mainGlobals x = some (some (.ref d))) (l : K.lookup d = some ⟨.type "dict", none, .dict #[{ hash := 4, key := .int 4 t1, val := .int a t2 }, { hash := 8, key := .int 8 t3, val := .int b t4 }] n, #[]⟩)
    (s : (d == sysModules) = false) : ∃ d, D48 K d a b ∧ mg x = some (.ref d) := ⟨d, ⟨⟨n, t1, t2, t3, t4, l⟩, s⟩, PySem.W.mg_of X G g⟩
theorem vec_mk (X : K.In h) (G : h.Ns mainGlobals mg) {x : Str} {C : Addr} (g : PySem.W.nsIn K mainGlobals x = some (some (.ref C))) (a : PySem.W.specialIn K (.ref C) "__getattribute__" = some (some (.builtin "type.__getattribute__"))) (t : PySem.W.typeIn K (.ref C) = some (.type "type"))
    (r : PySem.W.readsIn K C (.type "type") = true) (f : PySem.W.findCls K (.ref C) (.type "type") "__init__" = some (.val (.builtin "ValueError.__init__"))) : ∃ C, VeC K mg x C := ⟨C, PySem.W.mg_of X G g, a, t, r, f⟩
theorem exm_self {S : Addr} (h1 : PySem.W.subIn K (.ref S) (.type "BaseException") = some true) (h2 : PySem.W.isClsIn K S = true) (h3 : PySem.W.typeIn K (.ref S) = some (.type "type")) (h4 : PySem.W.subIn K (.ref S) (.ref S) = some true) :
    PySem.W.exmOne K (.ref S) (.ref S) = some true := by
  have e1 : (PySem.W.subIn K (.ref S) (.type "BaseException") == some true) = true := by rw [h1] <;> rfl
  have e2 : ((PySem.W.clsIn K S).isSome && PySem.W.typeIn K (.ref S) == some (.type "type")) = true := by
    have h2' : (PySem.W.clsIn K S).isSome = true := h2
    rw [h2', h3] <;> rfl
  show (if (PySem.W.subIn K (.ref S) (.type "BaseException") == some true) = true then (if ((PySem.W.clsIn K S).isSome && PySem.W.typeIn K (.ref S) == some (.type "type")) = true then PySem.W.subIn K (.ref S) (.ref S) else none) else none) = some true
  rw [if_pos e1, if_pos e2]
  exact h4
theorem nw_mk (X : K.In h) (G : h.Ns mainGlobals mg) {C f1 : Addr} {nm q : Str} {N : Addr} {bs bm : List Value} {sn : List Str} {sub : List Value} {ab : Bool} {col : Option Bool} {dd od1 an1 : Option Addr} {m0 m1 m2 m3 m5 : Option Value} {sl1 : Array (Option Value)} {oc1 kV1 dc1 pm1 cd1 ct1 : Value}
    (aC : PySem.W.nsIn K mainGlobals "NoWord" = some (some (.ref C))) (xL : K.lookup C = some (excClassObj nm q C N bs bm true sn sub ab col dd m0 m1 m2 m3 m5 "ValueError.__new__")) (hm : PySem.HandSPX.refsVE bm = true)
    (sa : PySem.W.findIn K (.ref C) "__setattr__" = some (some (.builtin "object.__setattr__"))) (n1 : PySem.W.findIn K (.ref C) "part" = some none) (n2 : PySem.W.findIn K (.ref C) "index" = some none)
    (a1 : PySem.W.findIn K (.ref C) "__init__" = some (some (.ref f1))) (t1 : PySem.W.typeIn K (.ref f1) = some (.type "function"))
    (l1 : K.lookup f1 = some ⟨oc1, od1, .func (PySem.W.fnOf "__init__" "NoWord.__init__" (defArgs s_nw) (defBody s_nw) (defScope s_nw) .none kV1 dc1 pm1 an1 cd1 ct1), sl1⟩) (c1 : PySem.W.codeIn K cd1 "NoWord.__init__" = true) (k1 : PySem.W.keepIn K (.ref f1) = true)
    (kC : PySem.W.keepIn K (.ref C) = true) (eC : PySem.W.subIn K (.ref C) (.type "BaseException") = some true) (tC : PySem.W.typeIn K (.ref C) = some (.type "type")) (iC : PySem.W.isClsIn K C = true) (sC : PySem.W.subIn K (.ref C) (.ref C) = some true) :
    ∃ C fI fd, NwT K mg C fI ∧ L2.Fun K "__init__" "NoWord.__init__" s_nw fI fd :=
  ⟨C, f1, _, ⟨⟨⟨nm, q, N, bs, bm, sn, sub, ab, col, dd, m0, m1, m2, m3, m5, xL, hm⟩, sa, eC, tC, kC⟩, PySem.W.mg_of X G aC, exm_self eC iC tC sC, a1, t1, n1, n2⟩, L2.fun_mk l1 c1 k1⟩
end
/-- what the top leaves -/
structure Top (K : PySem.W.Frag) (mg : Str → Option Value) : Prop where
  B : Blt mg
  dT : ∃ d, D48 K d 9 113 ∧ mg "TAILS" = some (.ref d)
  dM : ∃ d, D48 K d 14 40 ∧ mg "MOST_CHECKS" = some (.ref d)
  V : ∃ C, VeC K mg "QuiltError" C
  N : ∃ C fI fd, NwT K mg C fI ∧ L2.Fun K "__init__" "NoWord.__init__" s_nw fI fd
  d_is_int : Df K mg "is_int" s_is_int
  d_is_word : Df K mg "is_word" s_is_word
  d_is_within : Df K mg "is_within" s_is_within
  d_doubled : Df K mg "doubled" s_doubled
  d_multiplied : Df K mg "multiplied" s_multiplied
  d_power_of : Df K mg "power_of" s_power_of
  d_inverse_of : Df K mg "inverse_of" s_inverse_of
  d_value_at : Df K mg "value_at" s_value_at
  d_power_table : Df K mg "power_table" s_power_table
  d_maker : Df K mg "maker" s_maker
  d_check_words_in : Df K mg "check_words_in" s_check_words_in
  d_lone_row : Df K mg "lone_row" s_lone_row
  d_unlike_in : Df K mg "unlike_in" s_unlike_in
  d_check_code : Df K mg "check_code" s_check_code
  d_check_length : Df K mg "check_length" s_check_length
  d_twins : Df K mg "twins" s_twins
  d_check_many : Df K mg "check_many" s_check_many
  d_check_row : Df K mg "check_row" s_check_row
  d_check_torn : Df K mg "check_torn" s_check_torn
  d_syndromes_in : Df K mg "syndromes_in" s_syndromes_in
  d_syndromes : Df K mg "syndromes" s_syndromes
  d_is_right : Df K mg "is_right" s_is_right
  d_is_twins : Df K mg "is_twins" s_is_twins
  d_times_poly : Df K mg "times_poly" s_times_poly
  d_shortest_rule : Df K mg "shortest_rule" s_shortest_rule
  d_solved : Df K mg "solved" s_solved
  d_amounts_at : Df K mg "amounts_at" s_amounts_at
  d_wrong_places : Df K mg "wrong_places" s_wrong_places
  d_repaired_in : Df K mg "repaired_in" s_repaired_in
  d_repaired : Df K mg "repaired" s_repaired
  d_law_draw : Df K mg "_law_draw" s_law_draw
  d_law_pick : Df K mg "_law_pick" s_law_pick
  d_law_field : Df K mg "_law_field" s_law_field
  d_law_times : Df K mg "_law_times" s_law_times
  d_law_at : Df K mg "_law_at" s_law_at
  d_law_code : Df K mg "_law_code" s_law_code
  d_law_is_nought : Df K mg "_law_is_nought" s_law_is_nought
  d_law_are_words : Df K mg "_law_are_words" s_law_are_words
  d_law_due : Df K mg "_law_due" s_law_due
  d_law_things : Df K mg "_law_things" s_law_things
  d_law_right : Df K mg "_law_right" s_law_right
theorem CalK.mono {P : Program} {w : World} {K : PySem.W.Frag} {mg : Str → Option Value} {base : Heap} {cx : CXT} {j k : Nat} {x : Str} {ps : List Str} {sp : Sp} (c : CalK P w K mg base cx j x ps sp) (h : j ≤ k) : CalK P w K mg base cx k x ps sp := by
  obtain ⟨f, fd, F, r⟩ := c.ex
  exact ⟨⟨f, fd, F.mono h, r⟩⟩
section
variable {P : Program} {w : World} {K : PySem.W.Frag} {mg : Str → Option Value} {base : Heap}
theorem tw_all {f : Addr} {fd : FuncData} (T : Top K mg) (F : L2.Fun K "law" "law" s_law f fd) : FnG P w K mg base CX0 8 f fd ["_law_script"] (sp_law K) := by
  obtain ⟨aT, dT, gT⟩ := T.dT
  obtain ⟨aM, dM, gM⟩ := T.dM
  obtain ⟨CQ, V⟩ := T.V
  obtain ⟨C, fI, fdI, NT, FI⟩ := T.N
  have B := T.B
  have NW : Nw P w K mg base 1 C := ok_nw NT V FI
  have is_int : Cal P w K mg base CX0 1 _ _ _ := ok_is_int T.d_is_int B
  have doubled : Cal P w K mg base CX0 1 _ _ _ := ok_doubled T.d_doubled dT gT
  have multiplied : Cal P w K mg base CX0 1 _ _ _ := ok_multiplied T.d_multiplied
  have power_of : Cal P w K mg base CX0 1 _ _ _ := ok_power_of T.d_power_of B
  have unlike_in : Cal P w K mg base CX0 1 _ _ _ := ok_unlike_in T.d_unlike_in B
  have law_draw : Cal P w K mg base CX0 1 _ _ _ := ok_law_draw T.d_law_draw B
  have law_field : Cal P w K mg base CX0 1 _ _ _ := ok_law_field T.d_law_field B
  have law_times : Cal P w K mg base CX0 1 _ _ _ := ok_law_times T.d_law_times B
  have law_are_words : Cal P w K mg base CX0 1 _ _ _ := ok_law_are_words T.d_law_are_words B
  have is_word : Cal P w K mg base CX0 2 _ _ _ := ok_is_word T.d_is_word is_int
  have is_within : Cal P w K mg base CX0 2 _ _ _ := ok_is_within T.d_is_within is_int
  have inverse_of : Cal P w K mg base CX0 2 _ _ _ := ok_inverse_of T.d_inverse_of power_of
  have value_at : Cal P w K mg base CX0 2 _ _ _ := ok_value_at T.d_value_at multiplied
  have power_table : Cal P w K mg base CX0 2 _ _ _ := ok_power_table T.d_power_table B doubled
  have maker : Cal P w K mg base CX0 2 _ _ _ := ok_maker T.d_maker B power_of multiplied
  have times_poly : Cal P w K mg base CX0 2 _ _ _ := ok_times_poly T.d_times_poly B multiplied
  have law_pick : Cal P w K mg base CX0 2 _ _ _ := ok_law_pick T.d_law_pick B law_draw
  have law_at : Cal P w K mg base CX0 2 _ _ _ := ok_law_at T.d_law_at law_times
  have check_code : Cal P w K mg base CX0 3 _ _ _ := ok_check_code T.d_check_code B dM gM (is_int.mono (by decide)) is_within
  have check_length : Cal P w K mg base CX0 3 _ _ _ := ok_check_length T.d_check_length is_within
  have check_words_in : Cal P w K mg base CX0 3 _ _ _ := ok_check_words_in T.d_check_words_in B power_table maker (multiplied.mono (by decide))
  have shortest_rule : Cal P w K mg base CX0 3 _ _ _ := ok_shortest_rule T.d_shortest_rule B (multiplied.mono (by decide)) inverse_of
  have solved : Cal P w K mg base CX0 3 _ _ _ := ok_solved T.d_solved B (multiplied.mono (by decide)) inverse_of
  have syndromes_in : Cal P w K mg base CX0 3 _ _ _ := ok_syndromes_in T.d_syndromes_in B power_table (power_of.mono (by decide)) value_at
  have check_many : Cal P w K mg base (L2.CX P w) 3 _ _ _ := ok_check_many T.d_check_many B NW
  have check_row : Cal P w K mg base (L2.CX P w) 3 _ _ _ := ok_check_row T.d_check_row B NW is_word
  have law_code : Cal P w K mg base CX0 3 _ _ _ := ok_law_code T.d_law_code (law_draw.mono (by decide)) law_pick
  have law_things : Cal P w K mg base CX0 3 _ _ _ := ok_law_things T.d_law_things B (law_draw.mono (by decide)) law_pick
  have law_is_nought : Cal P w K mg base CX0 3 _ _ _ := ok_law_is_nought T.d_law_is_nought B law_at
  have check_torn : Cal P w K mg base (L2.CX P w) 4 _ _ _ := ok_check_torn T.d_check_torn B (NW.mono (by decide)) (is_word.mono (by decide)) check_many
  have lone_row : Cal P w K mg base CX0 4 _ _ _ := ok_lone_row T.d_lone_row check_words_in
  have syndromes : Cal P w K mg base (L2.CX P w) 4 _ _ _ := ok_syndromes T.d_syndromes check_code check_many check_row syndromes_in
  have amounts_at : Cal P w K mg base CX0 4 _ _ _ := ok_amounts_at T.d_amounts_at B (power_table.mono (by decide)) (power_of.mono (by decide)) solved
  have wrong_places : Cal P w K mg base CX0 4 _ _ _ := ok_wrong_places T.d_wrong_places B (power_table.mono (by decide)) (power_of.mono (by decide)) (times_poly.mono (by decide)) shortest_rule (value_at.mono (by decide))
  have law_due : Cal P w K mg base CX0 4 _ _ _ := ok_law_due T.d_law_due B (law_are_words.mono (by decide)) law_is_nought
  have is_right : Cal P w K mg base (L2.CX P w) 5 _ _ _ := ok_is_right T.d_is_right syndromes
  have twinsF : CalF P w K mg base CX0 5 _ _ _ _ := ok_twins T.d_twins B (check_code.mono (by decide)) (check_length.mono (by decide)) (is_within.mono (by decide)) lone_row
  have twins : Cal P w K mg base CX0 5 _ _ _ := twinsF.cal (fun _ _ _ _ _ _ us hl => match us, hl with | [_, _, _, _], _ => rfl)
  have twinsK : CalK P w K mg base CX0 5 _ _ _ := twinsF.calK (fun _ _ _ _ _ _ us hl => match us, hl with | [_, _, _, _], _ => rfl)
  have repaired_in : Cal P w K mg base CX0 5 _ _ _ := ok_repaired_in T.d_repaired_in B (syndromes_in.mono (by decide)) wrong_places amounts_at
  have is_twinsF : CalF P w K mg base CX0 6 _ _ _ _ := ok_is_twins T.d_is_twins B NT twins (check_torn.mono (by decide)) is_right (unlike_in.mono (by decide))
  have is_twins : Cal P w K mg base CX0 6 _ _ _ := is_twinsF.cal (fun _ _ _ _ _ _ us hl => match us, hl with | [_, _, _, _, _], _ => rfl)
  have is_twinsK : CalK P w K mg base CX0 6 _ _ _ := is_twinsF.calK (fun _ _ _ _ _ _ us hl => match us, hl with | [_, _, _, _, _], _ => rfl)
  have repaired : Cal P w K mg base CX0 6 _ _ _ := ok_repaired T.d_repaired (check_code.mono (by decide)) (check_torn.mono (by decide)) repaired_in
  have twinsK6 : CalK P w K mg base CX0 6 _ _ _ := twinsK.mono (by decide)
  have law_right : CalG P w K mg base 7 _ _ _ := ok_law_right T.d_law_right B (law_code.mono (by decide)) (law_field.mono (by decide)) (law_pick.mono (by decide)) (law_draw.mono (by decide)) (twins.mono (by decide)) twinsK6 is_twins is_twinsK (law_due.mono (by decide)) (law_things.mono (by decide)) repaired
  exact ok_law F B law_right (twins.mono (by decide)) (is_twins.mono (by decide))
theorem law_binds {f : Addr} {fd : FuncData} (F : L2.Fun K "law" "law" s_law f fd) : ∀ (s : Shared) (u : Value), BindsTo s fd ⟨[u], []⟩ [("_law_script", u)] := by
  obtain ⟨oc, od, kV, doc, pm, an, cdv, ct, osl, rfl, lk, hcd⟩ := F.ex
  exact fun s u => .of_eq rfl
end
theorem tw_fin {P : Program} {w : World} {K : PySem.W.Frag} {h : Heap} {mg : Str → Option Value} {fa : Addr} (X : K.In h) (G : h.Ns mainGlobals mg) (hfa : mg "law" = some (.ref fa)) (T : Top K mg) (D : Df K mg "law" s_law) :
    ∃ fd : FuncData, (∀ (s : Shared) (u : Value), BindsTo s fd ⟨[u], []⟩ [("_law_script", u)]) ∧ ∀ base : Heap, K.In base → base.Ns mainGlobals mg → FnG P w K mg base CX0 8 fa fd ["_law_script"] (sp_law K) := by
  obtain ⟨f, fd, F, hm⟩ := D.ex
  have e := hfa.symm.trans hm
  cases e
  exact ⟨fd, law_binds F, fun base _ _ => tw_all T F⟩
theorem tw_walk {l : PySem.W.OpenLaw} {q : Program} {loose : List Str} {XP : (Str → Option Value) → Heap → Prop} {YP : World → Heap → Prop} {d : DefRec} {K : Params → PySem.W.Frag} (hn : l.most = some 63) (hdf : d.params.defaults = [])
    (hY : ∀ (w : World) (h : Heap), YP w h → (K w.params).In h)
    (F : ∀ (w : World) (mg : Str → Option Value) (fa : Addr) (h : Heap), (K w.params).In h → h.Ns mainGlobals mg → mg d.name = some (.ref fa) →
      ∃ fd : FuncData, (∀ (s : Shared) (u : Value), BindsTo s fd ⟨[u], []⟩ [("_law_script", u)]) ∧ ∀ base : Heap, (K w.params).In base → base.Ns mainGlobals mg → FnG l.prog w (K w.params) mg base CX0 8 fa fd ["_law_script"] (sp_law (K w.params))) :
    PySem.W.WalkO q loose XP YP l.row.toRowW d [] (fun f vs => PySem.call f vs) :=
  walk_ofG (n := 63) (k := 8) (x := "_law_script") (sp := fun w => sp_law (K w.params)) hn (by decide) hdf ⟨rfl, by decide, by decide⟩ hY F fun _ _ a ns hl hS => ⟨a, ns, rfl, hS, hl, fun _ => rfl⟩
end Tw

section
set_option maxHeartbeats 0
open PySem PySem.W PyProof.Rows
open_top tw_head for PySem.Challenge.rw_dotquilts_k12_whole_twins
end

section
set_option maxHeartbeats 0
open PySem PySem.W PyProof.Rows
theorem PySem.Challenge.cw_dotquilts_k12_whole_twins_holds : PySem.Challenge.rw_dotquilts_k12_whole_twins.Holds := by
  refine tw_head ?_
  k_fill
  refine Tw.tw_walk (l := PySem.Challenge.rw_dotquilts_k12_whole_twins) rfl rfl (fun w h Y => PySem.W.kIn_of Y) ?F
  case F =>
    intro w mg fa h KX G hmg
    refine Tw.tw_fin KX G hmg ⟨⟨?b_len, ?b_range, ?b_enumerate, ?b_zip, ?b_isinstance, ?b_int, ?b_bool, ?b_list, ?b_tuple, ?b_dict, ?b_max, ?b_min, ?b_sorted, ?b_repr⟩, ?dT, ?dM, ?V, ?N, ?d_is_int, ?d_is_word, ?d_is_within, ?d_doubled, ?d_multiplied, ?d_power_of, ?d_inverse_of, ?d_value_at, ?d_power_table, ?d_maker, ?d_check_words_in, ?d_lone_row, ?d_unlike_in, ?d_check_code, ?d_check_length, ?d_twins, ?d_check_many, ?d_check_row, ?d_check_torn, ?d_syndromes_in, ?d_syndromes, ?d_is_right, ?d_is_twins, ?d_times_poly, ?d_shortest_rule, ?d_solved, ?d_amounts_at, ?d_wrong_places, ?d_repaired_in, ?d_repaired, ?d_law_draw, ?d_law_pick, ?d_law_field, ?d_law_times, ?d_law_at, ?d_law_code, ?d_law_is_nought, ?d_law_are_words, ?d_law_due, ?d_law_things, ?d_law_right⟩ ?law
    case b_len => (refine' Tw.no_mk KX G ?a; (case a => k_is))
    case b_range => (refine' Tw.no_mk KX G ?a; (case a => k_is))
    case b_enumerate => (refine' Tw.no_mk KX G ?a; (case a => k_is))
    case b_zip => (refine' Tw.no_mk KX G ?a; (case a => k_is))
    case b_isinstance => (refine' Tw.no_mk KX G ?a; (case a => k_is))
    case b_int => (refine' Tw.no_mk KX G ?a; (case a => k_is))
    case b_bool => (refine' Tw.no_mk KX G ?a; (case a => k_is))
    case b_list => (refine' Tw.no_mk KX G ?a; (case a => k_is))
    case b_tuple => (refine' Tw.no_mk KX G ?a; (case a => k_is))
    case b_dict => (refine' Tw.no_mk KX G ?a; (case a => k_is))
    case b_max => (refine' Tw.no_mk KX G ?a; (case a => k_is))
    case b_min => (refine' Tw.no_mk KX G ?a; (case a => k_is))
    case b_sorted => (refine' Tw.no_mk KX G ?a; (case a => k_is))
    case b_repr => (refine' Tw.no_mk KX G ?a; (case a => k_is))
    case dT => (refine' Tw.d48_mk KX G ?a ?l ?c; (case a => k_is); (case l => k_is); (case c => decide))
    case dM => (refine' Tw.d48_mk KX G ?a ?l ?c; (case a => k_is); (case l => k_is); (case c => decide))
    case V => (refine' Tw.vec_mk KX G ?a ?l ?c ?d ?e; (case a => k_is); (case l => k_is); (case c => k_is); (case d => k_is); (case e => k_is))
    case N =>
      refine' Tw.nw_mk KX G ?aC ?xL ?hm ?sa ?n1 ?n2 ?a1 ?t1 ?l1 ?c1 ?k1 ?kC ?eC ?tC ?iC ?sC
      (case aC => k_is); (case xL => k_is); (case sa => k_is); (case n1 => k_is); (case n2 => k_is); (case a1 => k_is); (case t1 => k_is); (case l1 => k_is); (case c1 => k_is); (case k1 => k_is)
      (case kC => k_is); (case eC => k_is); (case tC => k_is); (case iC => k_is); (case sC => first | rfl | k_is); (case hm => decide +kernel)
    case d_is_int => (refine' Tw.df_mk KX G ?a ?l ?c ?k; (case a => k_is); (case l => k_is); (case c => k_is); (case k => k_is))
    case d_is_word => (refine' Tw.df_mk KX G ?a ?l ?c ?k; (case a => k_is); (case l => k_is); (case c => k_is); (case k => k_is))
    case d_is_within => (refine' Tw.df_mk KX G ?a ?l ?c ?k; (case a => k_is); (case l => k_is); (case c => k_is); (case k => k_is))
    case d_doubled => (refine' Tw.df_mk KX G ?a ?l ?c ?k; (case a => k_is); (case l => k_is); (case c => k_is); (case k => k_is))
    case d_multiplied => (refine' Tw.df_mk KX G ?a ?l ?c ?k; (case a => k_is); (case l => k_is); (case c => k_is); (case k => k_is))
    case d_power_of => (refine' Tw.df_mk KX G ?a ?l ?c ?k; (case a => k_is); (case l => k_is); (case c => k_is); (case k => k_is))
    case d_inverse_of => (refine' Tw.df_mk KX G ?a ?l ?c ?k; (case a => k_is); (case l => k_is); (case c => k_is); (case k => k_is))
    case d_value_at => (refine' Tw.df_mk KX G ?a ?l ?c ?k; (case a => k_is); (case l => k_is); (case c => k_is); (case k => k_is))
    case d_power_table => (refine' Tw.df_mk KX G ?a ?l ?c ?k; (case a => k_is); (case l => k_is); (case c => k_is); (case k => k_is))
    case d_maker => (refine' Tw.df_mk KX G ?a ?l ?c ?k; (case a => k_is); (case l => k_is); (case c => k_is); (case k => k_is))
    case d_check_words_in => (refine' Tw.df_mk KX G ?a ?l ?c ?k; (case a => k_is); (case l => k_is); (case c => k_is); (case k => k_is))
    case d_lone_row => (refine' Tw.df_mk KX G ?a ?l ?c ?k; (case a => k_is); (case l => k_is); (case c => k_is); (case k => k_is))
    case d_unlike_in => (refine' Tw.df_mk KX G ?a ?l ?c ?k; (case a => k_is); (case l => k_is); (case c => k_is); (case k => k_is))
    case d_check_code => (refine' Tw.df_mk KX G ?a ?l ?c ?k; (case a => k_is); (case l => k_is); (case c => k_is); (case k => k_is))
    case d_check_length => (refine' Tw.df_mk KX G ?a ?l ?c ?k; (case a => k_is); (case l => k_is); (case c => k_is); (case k => k_is))
    case d_twins => (refine' Tw.df_mk KX G ?a ?l ?c ?k; (case a => k_is); (case l => k_is); (case c => k_is); (case k => k_is))
    case d_check_many => (refine' Tw.df_mk KX G ?a ?l ?c ?k; (case a => k_is); (case l => k_is); (case c => k_is); (case k => k_is))
    case d_check_row => (refine' Tw.df_mk KX G ?a ?l ?c ?k; (case a => k_is); (case l => k_is); (case c => k_is); (case k => k_is))
    case d_check_torn => (refine' Tw.df_mk KX G ?a ?l ?c ?k; (case a => k_is); (case l => k_is); (case c => k_is); (case k => k_is))
    case d_syndromes_in => (refine' Tw.df_mk KX G ?a ?l ?c ?k; (case a => k_is); (case l => k_is); (case c => k_is); (case k => k_is))
    case d_syndromes => (refine' Tw.df_mk KX G ?a ?l ?c ?k; (case a => k_is); (case l => k_is); (case c => k_is); (case k => k_is))
    case d_is_right => (refine' Tw.df_mk KX G ?a ?l ?c ?k; (case a => k_is); (case l => k_is); (case c => k_is); (case k => k_is))
    case d_is_twins => (refine' Tw.df_mk KX G ?a ?l ?c ?k; (case a => k_is); (case l => k_is); (case c => k_is); (case k => k_is))
    case d_times_poly => (refine' Tw.df_mk KX G ?a ?l ?c ?k; (case a => k_is); (case l => k_is); (case c => k_is); (case k => k_is))
    case d_shortest_rule => (refine' Tw.df_mk KX G ?a ?l ?c ?k; (case a => k_is); (case l => k_is); (case c => k_is); (case k => k_is))
    case d_solved => (refine' Tw.df_mk KX G ?a ?l ?c ?k; (case a => k_is); (case l => k_is); (case c => k_is); (case k => k_is))
    case d_amounts_at => (refine' Tw.df_mk KX G ?a ?l ?c ?k; (case a => k_is); (case l => k_is); (case c => k_is); (case k => k_is))
    case d_wrong_places => (refine' Tw.df_mk KX G ?a ?l ?c ?k; (case a => k_is); (case l => k_is); (case c => k_is); (case k => k_is))
    case d_repaired_in => (refine' Tw.df_mk KX G ?a ?l ?c ?k; (case a => k_is); (case l => k_is); (case c => k_is); (case k => k_is))
    case d_repaired => (refine' Tw.df_mk KX G ?a ?l ?c ?k; (case a => k_is); (case l => k_is); (case c => k_is); (case k => k_is))
    case d_law_draw => (refine' Tw.df_mk KX G ?a ?l ?c ?k; (case a => k_is); (case l => k_is); (case c => k_is); (case k => k_is))
    case d_law_pick => (refine' Tw.df_mk KX G ?a ?l ?c ?k; (case a => k_is); (case l => k_is); (case c => k_is); (case k => k_is))
    case d_law_field => (refine' Tw.df_mk KX G ?a ?l ?c ?k; (case a => k_is); (case l => k_is); (case c => k_is); (case k => k_is))
    case d_law_times => (refine' Tw.df_mk KX G ?a ?l ?c ?k; (case a => k_is); (case l => k_is); (case c => k_is); (case k => k_is))
    case d_law_at => (refine' Tw.df_mk KX G ?a ?l ?c ?k; (case a => k_is); (case l => k_is); (case c => k_is); (case k => k_is))
    case d_law_code => (refine' Tw.df_mk KX G ?a ?l ?c ?k; (case a => k_is); (case l => k_is); (case c => k_is); (case k => k_is))
    case d_law_is_nought => (refine' Tw.df_mk KX G ?a ?l ?c ?k; (case a => k_is); (case l => k_is); (case c => k_is); (case k => k_is))
    case d_law_are_words => (refine' Tw.df_mk KX G ?a ?l ?c ?k; (case a => k_is); (case l => k_is); (case c => k_is); (case k => k_is))
    case d_law_due => (refine' Tw.df_mk KX G ?a ?l ?c ?k; (case a => k_is); (case l => k_is); (case c => k_is); (case k => k_is))
    case d_law_things => (refine' Tw.df_mk KX G ?a ?l ?c ?k; (case a => k_is); (case l => k_is); (case c => k_is); (case k => k_is))
    case d_law_right => (refine' Tw.df_mk KX G ?a ?l ?c ?k; (case a => k_is); (case l => k_is); (case c => k_is); (case k => k_is))
    case law => (refine' Tw.df_mk KX G ?a ?l ?c ?k; (case a => k_is); (case l => k_is); (case c => k_is); (case k => k_is))
end
