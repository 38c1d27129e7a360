import PyProof.Rows.All
import Wide.All
import OpenK.AllK
import Wide.FinOn
import KE.KStateDown
import HandS.ForMost
import HandS.Defaults
import HandS.WordsExc
import HandS.Head0
import HandS.Head1
import HandS.Head2
import HandS.HeadHook4
import HandS.HeadWalk
import PySem.Challenge.RW_pointsenough_k10_whole_judgements
import HandS.IsInst
import HandS.Flow
import HandS.Zip
import HandS.Rev
import HandS.Style
import HandS.Conv
import HandS.TupAny
import HandS.Wide
import HandS.WideBits
import HandS.CallLocal
import HandS.Evl
import HandS.Lambda
import HandS.Nested
import KE.GoesMore
import KE.GoesZip
/-! K10Math: the plain mathematics of the law, no program in sight -/
set_option linter.all false
namespace K10M

/-! ### congruence -/
def Cg (p a b : Int) : Prop := ∃ k, a = b + p * k
theorem Cg.refl (p a : Int) : Cg p a a := ⟨0, by grind⟩
theorem Cg.of_eq {p a b : Int} (h : a = b) : Cg p a b := ⟨0, by grind⟩
theorem Cg.symm {p a b : Int} (h : Cg p a b) : Cg p b a := by
  obtain ⟨k, e⟩ := h
  exact ⟨-k, by grind⟩
theorem Cg.trans {p a b c : Int} (h : Cg p a b) (g : Cg p b c) : Cg p a c := by
  obtain ⟨k, e⟩ := h
  obtain ⟨m, e2⟩ := g
  exact ⟨k + m, by grind⟩
theorem Cg.add {p a b c d : Int} (h : Cg p a b) (g : Cg p c d) : Cg p (a + c) (b + d) := by
  obtain ⟨k, e⟩ := h
  obtain ⟨m, e2⟩ := g
  exact ⟨k + m, by grind⟩
theorem Cg.sub {p a b c d : Int} (h : Cg p a b) (g : Cg p c d) : Cg p (a - c) (b - d) := by
  obtain ⟨k, e⟩ := h
  obtain ⟨m, e2⟩ := g
  exact ⟨k - m, by grind⟩
theorem Cg.mul {p a b c d : Int} (h : Cg p a b) (g : Cg p c d) : Cg p (a * c) (b * d) := by
  obtain ⟨k, e⟩ := h
  obtain ⟨m, e2⟩ := g
  exact ⟨k * d + b * m + p * k * m, by grind⟩
theorem Cg.mod (p a : Int) : Cg p (a % p) a := ⟨-(a / p), by
  have h := Int.emod_def a p
  grind⟩
theorem Cg.mod_eq {p a b : Int} (h : Cg p a b) : a % p = b % p := by
  obtain ⟨k, e⟩ := h
  rw [e, Int.add_mul_emod_self_left]
theorem Cg.of_mod {p a b : Int} (h : a % p = b % p) : Cg p a b := (Cg.mod p a).symm.trans ((Cg.of_eq h).trans (Cg.mod p b))
theorem Cg.eq {p a b : Int} (h : Cg p a b) (ha : 0 ≤ a) (ha2 : a < p) (hb : 0 ≤ b) (hb2 : b < p) : a = b := by
  have e := h.mod_eq
  rw [Int.emod_eq_of_lt ha ha2, Int.emod_eq_of_lt hb hb2] at e
  exact e
theorem mod_in {p : Int} (hp : 0 < p) (a : Int) : 0 ≤ a % p ∧ a % p < p := ⟨Int.emod_nonneg a (by omega), Int.emod_lt_of_pos a hp⟩

/-! ### lines -/
def ev (p x : Int) : List Int → Int
  | [] => 0
  | c :: cs => (ev p x cs * x + c) % p
def pe (x : Int) : List Int → Int
  | [] => 0
  | c :: cs => pe x cs * x + c
theorem ev_in {p : Int} (hp : 0 < p) (x : Int) : ∀ l, 0 ≤ ev p x l ∧ ev p x l < p
  | [] => ⟨Int.le_refl 0, hp⟩
  | _ :: _ => mod_in hp _
theorem ev_cg (p x : Int) : ∀ l, Cg p (ev p x l) (pe x l)
  | [] => Cg.refl _ _
  | c :: cs => (Cg.mod p _).trans (((ev_cg p x cs).mul (Cg.refl p x)).add (Cg.refl p c))

def cut : List Int → List Int
  | [] => []
  | a :: l => match cut l with
    | [] => if a = 0 then [] else [a]
    | b :: r => a :: b :: r
theorem cut_snoc0 : ∀ l, cut (l ++ [0]) = cut l
  | [] => by simp [cut]
  | a :: l => by
    show cut (a :: (l ++ [0])) = cut (a :: l)
    unfold cut
    rw [cut_snoc0 l]
theorem cut_snoc {a : Int} (h : a ≠ 0) : ∀ l, cut (l ++ [a]) = l ++ [a]
  | [] => by simp [cut, h]
  | b :: l => by
    show cut (b :: (l ++ [a])) = b :: (l ++ [a])
    unfold cut
    rw [cut_snoc h l]
    cases l <;> rfl
theorem cut_pe (x : Int) : ∀ l, pe x (cut l) = pe x l
  | [] => rfl
  | a :: l => by
    have ih := cut_pe x l
    unfold cut
    cases e : cut l with
    | nil =>
      rw [e] at ih
      by_cases h : a = 0
      · simp only [h, if_true, pe, ← ih]
        grind
      · simp only [h, if_false, pe, ← ih]
    | cons b r =>
      rw [e] at ih
      simp only [pe, ← ih]
theorem cut_len : ∀ l, (cut l).length ≤ l.length
  | [] => Nat.le_refl _
  | a :: l => by
    have ih := cut_len l
    unfold cut
    cases e : cut l with
    | nil => by_cases h : a = 0 <;> simp [h]
    | cons b r =>
      rw [e] at ih
      simpa using ih
theorem cut_mem : ∀ l c, c ∈ cut l → c ∈ l
  | [], _, h => h
  | a :: l, c, h => by
    have ih := cut_mem l c
    unfold cut at h
    cases e : cut l with
    | nil =>
      rw [e] at h
      by_cases z : a = 0
      · simp [z] at h
      · simp [z] at h
        simp [h]
    | cons b r =>
      rw [e] at h ih
      rcases List.mem_cons.mp h with q | q
      · simp [q]
      · exact List.mem_cons_of_mem _ (ih q)
theorem cut_last : ∀ l, cut l = [] ∨ ∃ r a, cut l = r ++ [a] ∧ a ≠ 0
  | [] => .inl rfl
  | a :: l => by
    have ih := cut_last l
    unfold cut
    cases e : cut l with
    | nil =>
      by_cases z : a = 0
      · exact .inl (by simp [z])
      · exact .inr ⟨[], a, by simp [z], z⟩
    | cons b r =>
      rw [e] at ih
      rcases ih with ih | ⟨r', a', q, z⟩
      · cases ih
      · exact .inr ⟨a :: r', a', by simp [q], z⟩

/-! ### powers -/
def powm (p : Int) : Nat → Int → Int → Int → Int
  | 0, found, _, _ => found
  | f + 1, found, base, times => if times > 0 then powm p f (if times % 2 = 1 then found * base % p else found) (base * base % p) (times / 2) else found
def inv (p x : Int) : Int := powm p 40 1 (x % p) (p - 2)
theorem powm_in {p : Int} (hp : 0 < p) : ∀ (n : Nat) (f b t : Int), 0 ≤ f → f < p → 0 ≤ powm p n f b t ∧ powm p n f b t < p
  | 0, f, b, t, h, g => ⟨h, g⟩
  | n + 1, f, b, t, h, g => by
    unfold powm
    split
    · split
      · exact powm_in hp n _ _ _ (mod_in hp _).1 (mod_in hp _).2
      · exact powm_in hp n _ _ _ h g
    · exact ⟨h, g⟩
/-- more fuel than needed changes nothing -/
theorem powm_fuel (p : Int) : ∀ (n m : Nat) (f b t : Int), t < 2 ^ n → n ≤ m → powm p m f b t = powm p n f b t
  | 0, m, f, b, t, h, _ => by
    cases m with
    | zero => rfl
    | succ m =>
      show (if t > 0 then _ else f) = f
      rw [if_neg (by simp at h; omega)]
  | n + 1, m, f, b, t, h, g => by
    obtain ⟨m, rfl⟩ : ∃ k, m = k + 1 := ⟨m - 1, by omega⟩
    show (if t > 0 then _ else f) = (if t > 0 then _ else f)
    by_cases ht : t > 0
    · rw [if_pos ht, if_pos ht]
      exact powm_fuel p n m _ _ _ (by
        have e : (2 : Int) ^ (n + 1) = 2 * 2 ^ n := by rw [Int.pow_succ]; omega
        omega) (by omega)
    · rw [if_neg ht, if_neg ht]

/-! ### basis lines -/
def stepPart (p place : Int) (part : List Int) : List Int :=
  (List.range (part.length + 1)).map fun (k : Nat) => ((if (k : Int) > 0 then part.getD (k - 1) 0 else 0) - place * (if k < part.length then part.getD k 0 else 0)) % p
def bas (p : Int) (at_ : Nat) : Nat → List Int × Int
  | 0 => ([1], 1)
  | m + 1 => if m ≠ at_ then (stepPart p m (bas p at_ m).1, (bas p at_ m).2 * ((at_ : Int) - m) % p) else bas p at_ m
def und (p : Int) (at_ : Nat) : Nat → Int
  | 0 => 1
  | m + 1 => if m ≠ at_ then und p at_ m * ((at_ : Int) - m) % p else und p at_ m
theorem bas_und (p : Int) (at_ : Nat) : ∀ m, (bas p at_ m).2 = und p at_ m
  | 0 => rfl
  | m + 1 => by
    unfold bas und
    by_cases h : m ≠ at_
    · rw [if_pos h, if_pos h, bas_und p at_ m]
    · rw [if_neg h, if_neg h, bas_und p at_ m]
def addTo (p : Int) (found part : List Int) (over : Int) : List Int := (List.range found.length).map fun k => (found.getD k 0 + part.getD k 0 * over) % p
def over (p : Int) (vals : List Int) (n k : Nat) : Int := vals.getD k 0 * inv p ((bas p k n).2 % p) % p
def thr (p : Int) (vals : List Int) (n : Nat) : Nat → List Int
  | 0 => List.replicate n 0
  | k + 1 => addTo p (thr p vals n k) (bas p k n).1 (over p vals n k)
def through (p : Int) (vals : List Int) : List Int := cut (thr p vals vals.length vals.length)

/-- a list of numbers by its places -/
theorem pe_map_range (p x : Int) (g h : Nat → Int) (hg : ∀ k, Cg p (g k) (h k)) (n : Nat) : Cg p (pe x ((List.range n).map g)) (pe x ((List.range n).map h)) := by
  have key : ∀ l : List Nat, Cg p (pe x (l.map g)) (pe x (l.map h)) := by
    intro l
    induction l with
    | nil => exact Cg.refl _ _
    | cons a l ih => exact (ih.mul (Cg.refl p x)).add (hg a)
  exact key _
theorem pe_getD (x : Int) : ∀ l : List Int, pe x ((List.range l.length).map fun k => l.getD k 0) = pe x l
  | [] => rfl
  | a :: l => by
    have ih := pe_getD x l
    rw [List.length_cons, List.range_succ_eq_map, List.map_cons, List.map_map]
    show pe x ((List.range l.length).map (fun k => (a :: l).getD (k + 1) 0)) * x + a = pe x l * x + a
    have e : (fun k => (a :: l).getD (k + 1) 0) = fun k => l.getD k 0 := by
      funext k
      simp
    rw [e, ih]
theorem pe_pad (x : Int) : ∀ (l : List Int) (m : Nat), pe x ((List.range (l.length + m)).map fun k => l.getD k 0) = pe x l
  | [], m => by
    have key : ∀ r : List Nat, pe x (r.map fun k => ([] : List Int).getD k 0) = 0 := by
      intro r
      induction r with
      | nil => rfl
      | cons a r ih =>
        simp only [List.map_cons, pe, ih]
        simp
    exact key _
  | a :: l, m => by
    have ih := pe_pad x l m
    rw [List.length_cons, show l.length + 1 + m = (l.length + m) + 1 by omega, List.range_succ_eq_map, List.map_cons, List.map_map]
    show pe x ((List.range (l.length + m)).map (fun k => (a :: l).getD (k + 1) 0)) * x + a = pe x l * x + a
    have e : (fun k => (a :: l).getD (k + 1) 0) = fun k => l.getD k 0 := by
      funext k
      simp
    rw [e, ih]
theorem pe_add_map (x : Int) (g h : Nat → Int) (l : List Nat) : pe x (l.map fun k => g k + h k) = pe x (l.map g) + pe x (l.map h) := by
  induction l with
  | nil => rfl
  | cons a l ih =>
    simp only [List.map_cons, pe, ih]
    grind
theorem pe_scale_map (x c : Int) (g : Nat → Int) (l : List Nat) : pe x (l.map fun k => g k * c) = pe x (l.map g) * c := by
  induction l with
  | nil => simp [pe]
  | cons a l ih =>
    simp only [List.map_cons, pe, ih]
    grind
/-- the same list moved by one place -/
theorem pe_shift (x : Int) (part : List Int) : pe x ((List.range (part.length + 1)).map fun (k : Nat) => if (k : Int) > 0 then part.getD (k - 1) 0 else 0) = pe x part * x := by
  rw [List.range_succ_eq_map, List.map_cons, List.map_map]
  show pe x ((List.range part.length).map (fun k => if ((k + 1 : Nat) : Int) > 0 then part.getD (k + 1 - 1) 0 else 0)) * x + _ = _
  have e : (fun k : Nat => if ((k + 1 : Nat) : Int) > 0 then part.getD (k + 1 - 1) 0 else 0) = fun k => part.getD k 0 := by
    funext k
    rw [if_pos (by omega)]
    rfl
  rw [e, pe_getD]
  simp
theorem stepPart_pe (p place x : Int) (part : List Int) : Cg p (pe x (stepPart p place part)) ((x - place) * pe x part) := by
  unfold stepPart
  refine (pe_map_range p x _ (fun (k : Nat) => (if (k : Int) > 0 then part.getD (k - 1) 0 else 0) + part.getD k 0 * (-place)) (fun k => ?_) _).trans (Cg.of_eq ?_)
  · refine (Cg.mod p _).trans (Cg.of_eq ?_)
    by_cases h : k < part.length
    · rw [if_pos h]
      grind
    · rw [if_neg h]
      have e : part.getD k 0 = 0 := by simp [List.getD_eq_getElem?_getD, List.getElem?_eq_none (Nat.le_of_not_lt h)]
      rw [e]
      grind
  · rw [pe_add_map, pe_scale_map, pe_shift, pe_pad]
    grind
theorem stepPart_len (p place : Int) (part : List Int) : (stepPart p place part).length = part.length + 1 := by
  unfold stepPart
  simp
theorem addTo_pe (p x : Int) (found part : List Int) (ov : Int) (h : part.length ≤ found.length) : Cg p (pe x (addTo p found part ov)) (pe x found + pe x part * ov) := by
  unfold addTo
  refine (pe_map_range p x _ (fun k => found.getD k 0 + part.getD k 0 * ov) (fun k => Cg.mod p _) _).trans (Cg.of_eq ?_)
  rw [pe_add_map, pe_scale_map, pe_getD]
  obtain ⟨m, e⟩ : ∃ m, found.length = part.length + m := ⟨found.length - part.length, by omega⟩
  rw [e, pe_pad]
theorem addTo_len (p : Int) (found part : List Int) (ov : Int) : (addTo p found part ov).length = found.length := by
  unfold addTo
  simp
theorem thr_len (p : Int) (vals : List Int) (n : Nat) : ∀ k, (thr p vals n k).length = n
  | 0 => by simp [thr]
  | k + 1 => by
    unfold thr
    rw [addTo_len, thr_len p vals n k]
theorem bas_len (p : Int) (at_ : Nat) : ∀ m, (bas p at_ m).1.length = if at_ < m then m else m + 1
  | 0 => by simp [bas]
  | m + 1 => by
    have ih := bas_len p at_ m
    unfold bas
    by_cases h : m ≠ at_
    · rw [if_pos h]
      show (stepPart p m (bas p at_ m).1).length = _
      rw [stepPart_len, ih]
      by_cases h2 : at_ < m
      · rw [if_pos h2, if_pos (by omega)]
      · rw [if_neg h2, if_neg (by omega)]
    · rw [if_neg h, ih, if_neg (by omega), if_pos (by omega)]
theorem bas_nought (p : Int) (at_ : Nat) : ∀ (m i : Nat), i < m → i ≠ at_ → Cg p (pe i (bas p at_ m).1) 0
  | 0, i, h, _ => absurd h (Nat.not_lt_zero _)
  | m + 1, i, h, hi => by
    unfold bas
    by_cases hm : m ≠ at_
    · rw [if_pos hm]
      refine (stepPart_pe p m i _).trans ?_
      by_cases e : i = m
      · subst e
        exact Cg.of_eq (by grind)
      · exact ((Cg.refl p _).mul (bas_nought p at_ m i (by omega) hi)).trans (Cg.of_eq (by grind))
    · rw [if_neg hm]
      exact bas_nought p at_ m i (by omega) hi
theorem bas_under (p : Int) (at_ : Nat) : ∀ m : Nat, Cg p (pe at_ (bas p at_ m).1) (bas p at_ m).2
  | 0 => Cg.of_eq (by simp [bas, pe])
  | m + 1 => by
    unfold bas
    by_cases hm : m ≠ at_
    · rw [if_pos hm]
      refine (stepPart_pe p m at_ _).trans ?_
      refine Cg.trans ?_ (Cg.mod p _).symm
      exact ((Cg.refl p _).mul (bas_under p at_ m)).trans (Cg.of_eq (by grind))
    · rw [if_neg hm]
      exact bas_under p at_ m

/-- the inverses that the law reckons are inverses -/
def InvOk (p : Int) (n : Nat) : Prop := ∀ k, k < n → (inv p (und p k n % p) * und p k n) % p = 1
theorem pe_zeros (x : Int) : ∀ n : Nat, pe x (List.replicate n 0) = 0
  | 0 => rfl
  | n + 1 => by
    rw [List.replicate_succ]
    show pe x (List.replicate n 0) * x + 0 = 0
    rw [pe_zeros x n]
    grind
theorem thr_at {p : Int} {n : Nat} (hI : InvOk p n) (vals : List Int) : ∀ (k i : Nat), k ≤ n → i < n → Cg p (pe i (thr p vals n k)) (if i < k then vals.getD i 0 else 0)
  | 0, i, _, _ => Cg.of_eq (by simp [thr, pe_zeros])
  | k + 1, i, hk, hi => by
    have ih := thr_at hI vals k i (by omega) hi
    unfold thr
    refine (addTo_pe p i _ _ _ ?_).trans ?_
    · rw [thr_len, bas_len, if_pos (by omega)]
      omega
    · by_cases e : i = k
      · subst e
        rw [if_pos (by omega)]
        rw [if_neg (by omega)] at ih
        have h1 := bas_under p i n
        have h2 : Cg p (inv p ((bas p i n).2 % p) * (bas p i n).2) 1 := by
          rw [bas_und]
          have h3 := hI i hi
          exact (Cg.mod p _).symm.trans (Cg.of_eq h3)
        unfold over
        refine (ih.add (h1.mul (Cg.mod p _))).trans ?_
        obtain ⟨z, hz⟩ := h2
        exact ⟨vals.getD i 0 * z, by grind⟩
      · have h1 := bas_nought p k n i hi e
        refine (ih.add (h1.mul (Cg.refl p _))).trans (Cg.of_eq ?_)
        by_cases h : i < k
        · rw [if_pos h, if_pos (by omega)]
          grind
        · rw [if_neg h, if_neg (by omega)]
          grind
theorem through_at {p : Int} {vals : List Int} (hI : InvOk p vals.length) {i : Nat} (hi : i < vals.length) : Cg p (pe i (through p vals)) (vals.getD i 0) := by
  unfold through
  rw [cut_pe]
  have h := thr_at hI vals vals.length i (Nat.le_refl _) hi
  rw [if_pos hi] at h
  exact h
theorem through_len (p : Int) (vals : List Int) : (through p vals).length ≤ vals.length := by
  unfold through
  refine Nat.le_trans (cut_len _) ?_
  rw [thr_len]
  exact Nat.le_refl _
theorem thr_in {p : Int} (hp : 0 < p) (vals : List Int) (n : Nat) : ∀ k, ∀ c ∈ thr p vals n k, 0 ≤ c ∧ c < p
  | 0, c, h => by
    rw [thr] at h
    rw [(List.mem_replicate.mp h).2]
    exact ⟨Int.le_refl 0, hp⟩
  | k + 1, c, h => by
    unfold thr addTo at h
    obtain ⟨m, _, e⟩ := List.mem_map.mp h
    rw [← e]
    exact mod_in hp _
theorem through_in {p : Int} (hp : 0 < p) (vals : List Int) : ∀ c ∈ through p vals, 0 ≤ c ∧ c < p := fun c h => thr_in hp vals _ _ c (cut_mem _ _ h)

/-! ### polynomials -/
def padd : List Int → List Int → List Int
  | [], d => d
  | a :: c, [] => a :: c
  | a :: c, b :: d => (a + b) :: padd c d
theorem padd_pe (x : Int) : ∀ c d, pe x (padd c d) = pe x c + pe x d
  | [], d => by simp [padd, pe]
  | a :: c, [] => by simp [padd, pe]
  | a :: c, b :: d => by
    simp only [padd, pe, padd_pe x c d]
    grind
theorem padd_len : ∀ c d : List Int, (padd c d).length = max c.length d.length
  | [], d => by simp [padd]
  | a :: c, [] => by simp [padd]
  | a :: c, b :: d => by
    simp only [padd, List.length_cons, padd_len c d]
    omega
def psc (s : Int) (c : List Int) : List Int := c.map (s * ·)
theorem psc_pe (x s : Int) : ∀ c, pe x (psc s c) = s * pe x c
  | [] => by simp [psc, pe]
  | a :: c => by
    have ih := psc_pe x s c
    unfold psc at ih ⊢
    simp only [List.map_cons, pe, ih]
    grind
theorem psc_len (s : Int) (c : List Int) : (psc s c).length = c.length := by simp [psc]
def pmul : List Int → List Int → List Int
  | [], _ => []
  | a :: c, d => padd (psc a d) (0 :: pmul c d)
theorem pmul_pe (x : Int) : ∀ c d, pe x (pmul c d) = pe x c * pe x d
  | [], d => by simp [pmul, pe]
  | a :: c, d => by
    simp only [pmul, padd_pe, psc_pe, pe, pmul_pe x c d]
    grind
theorem pmul_len {m : Nat} : ∀ c d : List Int, d.length ≤ m + 1 → (pmul c d).length ≤ (if c = [] then 0 else c.length + m)
  | [], d, _ => by simp [pmul]
  | a :: c, d, h => by
    have ih := pmul_len c d h
    simp only [pmul, padd_len, psc_len, List.length_cons]
    rw [if_neg (by simp)]
    by_cases hc : c = []
    · rw [if_pos hc] at ih
      subst hc
      simp
      omega
    · rw [if_neg hc] at ih
      omega
/-- f is a line of degree at most n, up to p -/
def IsP (p : Int) (n : Nat) (f : Int → Int) : Prop := ∃ c : List Int, c.length ≤ n + 1 ∧ ∀ y, Cg p (f y) (pe y c)
theorem IsP.const (p : Int) (n : Nat) (a : Int) : IsP p n fun _ => a := ⟨[a], by simp, fun y => Cg.of_eq (by simp [pe])⟩
theorem IsP.var {p : Int} {n : Nat} (h : 1 ≤ n) : IsP p n fun y => y := ⟨[0, 1], by simp; omega, fun y => Cg.of_eq (by simp [pe])⟩
theorem IsP.mono {p : Int} {n m : Nat} {f : Int → Int} (h : IsP p n f) (g : n ≤ m) : IsP p m f := let ⟨c, h1, h2⟩ := h; ⟨c, by omega, h2⟩
theorem IsP.congr {p : Int} {n : Nat} {f g : Int → Int} (h : IsP p n f) (e : ∀ y, Cg p (g y) (f y)) : IsP p n g := let ⟨c, h1, h2⟩ := h; ⟨c, h1, fun y => (e y).trans (h2 y)⟩
theorem IsP.add {p : Int} {n m k : Nat} {f g : Int → Int} (hf : IsP p n f) (hg : IsP p m g) (h1 : n ≤ k) (h2 : m ≤ k) : IsP p k fun y => f y + g y := by
  obtain ⟨c, a1, a2⟩ := hf
  obtain ⟨d, b1, b2⟩ := hg
  exact ⟨padd c d, by rw [padd_len]; omega, fun y => ((a2 y).add (b2 y)).trans (Cg.of_eq (padd_pe y c d).symm)⟩
theorem IsP.sub {p : Int} {n m k : Nat} {f g : Int → Int} (hf : IsP p n f) (hg : IsP p m g) (h1 : n ≤ k) (h2 : m ≤ k) : IsP p k fun y => f y - g y := by
  obtain ⟨c, a1, a2⟩ := hf
  obtain ⟨d, b1, b2⟩ := hg
  refine ⟨padd c (psc (-1) d), by rw [padd_len, psc_len]; omega, fun y => ((a2 y).sub (b2 y)).trans (Cg.of_eq ?_)⟩
  rw [padd_pe, psc_pe]
  grind
theorem IsP.mul {p : Int} {n m k : Nat} {f g : Int → Int} (hf : IsP p n f) (hg : IsP p m g) (h : n + m ≤ k) : IsP p k fun y => f y * g y := by
  obtain ⟨c, a1, a2⟩ := hf
  obtain ⟨d, b1, b2⟩ := hg
  refine ⟨pmul c d, ?_, fun y => ((a2 y).mul (b2 y)).trans (Cg.of_eq (pmul_pe y c d).symm)⟩
  have e := pmul_len (m := m) c d b1
  by_cases hc : c = []
  · rw [if_pos hc] at e
    omega
  · rw [if_neg hc] at e
    omega
/-- synthetic division -/
def qd (r : Int) : List Int → List Int
  | [] => []
  | _ :: cs => padd cs (psc r (qd r cs))
theorem qd_pe (r y : Int) : ∀ c, pe y c - pe r c = (y - r) * pe y (qd r c)
  | [] => by simp [pe, qd]
  | a :: cs => by
    have ih := qd_pe r y cs
    simp only [pe, qd, padd_pe, psc_pe]
    have e : pe y cs = pe r cs + (y - r) * pe y (qd r cs) := by omega
    grind
theorem qd_len (r : Int) : ∀ c : List Int, (qd r c).length ≤ c.length - 1
  | [] => by simp [qd]
  | a :: cs => by
    have ih := qd_len r cs
    simp only [qd, padd_len, psc_len, List.length_cons]
    omega
/-- small numbers have inverses -/
def Units (p : Int) (n : Nat) : Prop := ∀ k : Nat, 1 ≤ k → k < n → ∃ u, Cg p (u * k) 1
theorem roots {p : Int} : ∀ (n : Nat) (c : List Int), Units p n → c.length ≤ n → (∀ i : Nat, i < n → Cg p (pe i c) 0) → ∀ y, Cg p (pe y c) 0
  | 0, c, _, hl, _, y => by
    have e : c = [] := List.length_eq_zero_iff.mp (by omega)
    subst e
    exact Cg.of_eq rfl
  | n + 1, c, hU, hl, hz, y => by
    have h1 := qd_pe n y c
    have h0 := hz n (by omega)
    have hq : ∀ y, Cg p (pe y (qd n c)) 0 := by
      refine roots n (qd n c) (fun k a b => hU k a (by omega)) ?_ fun i hi => ?_
      · have := qd_len n c
        omega
      · have h2 := qd_pe n i c
        have h3 := hz i (by omega)
        obtain ⟨u, hu⟩ := hU (n - i) (by omega) (by omega)
        have e : ((n - i : Nat) : Int) = (n : Int) - i := by omega
        rw [e] at hu
        -- (i - n) q ≡ 0
        have h4 : Cg p (((i : Int) - n) * pe i (qd n c)) 0 := by
          rw [← h2]
          exact (h3.sub h0).trans (Cg.of_eq (by grind))
        obtain ⟨z, hz'⟩ := hu
        obtain ⟨t, ht⟩ := h4
        exact ⟨-(u * t) - z * pe i (qd n c), by grind⟩
    have h5 := ((Cg.refl p (y - n)).mul (hq y)).add h0
    have e : pe y c = (y - n) * pe y (qd n c) + pe n c := by omega
    rw [e]
    exact h5.trans (Cg.of_eq (by grind))
/-- the line through enough places of a line is that line -/
theorem through_is {p : Int} {vals : List Int} {f : Int → Int} (hI : InvOk p vals.length) (hU : Units p vals.length) (hn : 0 < vals.length) (hf : IsP p (vals.length - 1) f)
    (hv : ∀ i : Nat, i < vals.length → Cg p (f i) (vals.getD i 0)) (y : Int) : Cg p (pe y (through p vals)) (f y) := by
  obtain ⟨c, h1, h2⟩ := hf
  have key := roots (p := p) vals.length (padd (through p vals) (psc (-1) c)) hU (by rw [padd_len, psc_len]; have := through_len p vals; omega) (fun i hi => by
    rw [padd_pe, psc_pe]
    have a := through_at hI hi
    have b := (hv i hi).symm.trans (h2 i)
    obtain ⟨s, hs⟩ := a
    obtain ⟨t, ht⟩ := b
    exact ⟨s + t, by grind⟩) y
  rw [padd_pe, psc_pe] at key
  obtain ⟨s, hs⟩ := key
  obtain ⟨t, ht⟩ := h2 y
  exact ⟨s - t, by grind⟩
end K10M

/-! K10Math2: rules, sums, the judge -/
set_option linter.all false
namespace K10M

/-! ### tables and spreads -/
def bits (many index : Nat) : List Int := (List.range many).map fun (k : Nat) => (index : Int) / 2 ^ (many - 1 - k) % 2
def wgt (p : Int) : Int → List (Int × Int) → Int
  | acc, [] => acc
  | acc, (b, x) :: r => wgt p (acc * (if b = 1 then x else 1 - x) % p) r
def spreadL (p : Int) (t xs : List Int) : Int := ((List.range t.length).map fun k => t.getD k 0 * wgt p 1 ((bits xs.length k).zip xs)).sum % p
def halfT (p : Int) (t : List Int) (x : Int) : List Int := (List.range (t.length / 2)).map fun k => (t.getD k 0 + x * (t.getD (t.length / 2 + k) 0 - t.getD k 0)) % p
def spreadP (p : Int) : List Int → List Int → Int
  | t, [] => t.getD 0 0
  | t, x :: xs => spreadP p (halfT p t x) xs

theorem len4 {t : List Int} (h : t.length = 4) : ∃ a b c d, t = [a, b, c, d] := by
  match t, h with
  | [a, b, c, d], _ => exact ⟨a, b, c, d, rfl⟩
theorem len2 {t : List Int} (h : t.length = 2) : ∃ a b, t = [a, b] := by
  match t, h with
  | [a, b], _ => exact ⟨a, b, rfl⟩
theorem len1 {t : List Int} (h : t.length = 1) : ∃ a, t = [a] := by
  match t, h with
  | [a], _ => exact ⟨a, rfl⟩
theorem bits00 : bits 0 0 = [] := rfl
theorem bits10 : bits 1 0 = [0] := by decide
theorem bits11 : bits 1 1 = [1] := by decide
theorem bits20 : bits 2 0 = [0, 0] := by decide
theorem bits21 : bits 2 1 = [0, 1] := by decide
theorem bits22 : bits 2 2 = [1, 0] := by decide
theorem bits23 : bits 2 3 = [1, 1] := by decide
theorem spread_eq0 {p : Int} (hp : 0 < p) {a : Int} (h : 0 ≤ a ∧ a < p) : spreadL p [a] [] = spreadP p [a] [] := by
  show ((a * 1) + 0) % p = a
  rw [Int.mul_one, Int.add_zero, Int.emod_eq_of_lt h.1 h.2]
theorem half2 (p a b x : Int) : halfT p [a, b] x = [(a + x * (b - a)) % p] := by
  simp [halfT, List.range, List.range.loop]
theorem half4 (p a b c d x : Int) : halfT p [a, b, c, d] x = [(a + x * (c - a)) % p, (b + x * (d - b)) % p] := by
  simp [halfT, List.range, List.range.loop]
theorem spread1e (p a b x : Int) : spreadP p [a, b] [x] = (a + x * (b - a)) % p := by
  simp [spreadP, half2]
theorem spread2e (p a b c d x y : Int) : spreadP p [a, b, c, d] [x, y] = ((a + x * (c - a)) % p + y * ((b + x * (d - b)) % p - (a + x * (c - a)) % p)) % p := by
  simp [spreadP, half2, half4]
theorem spread1 (p a b x : Int) : Cg p (spreadP p [a, b] [x]) (a + x * (b - a)) := by
  rw [spread1e]
  exact Cg.mod p _
theorem spread2 (p a b c d x y : Int) : Cg p (spreadP p [a, b, c, d] [x, y]) ((a + x * (c - a)) + y * ((b + x * (d - b)) - (a + x * (c - a)))) := by
  rw [spread2e]
  refine (Cg.mod p _).trans ?_
  exact (Cg.mod p _).add ((Cg.refl p y).mul ((Cg.mod p _).sub (Cg.mod p _)))
theorem spread_eq1 {p : Int} (hp : 0 < p) (a b x : Int) : spreadL p [a, b] [x] = spreadP p [a, b] [x] := by
  have h1 : spreadL p [a, b] [x] = (a * (1 * (1 - x) % p) + (b * (1 * x % p) + 0)) % p := by
    unfold spreadL
    simp only [List.length_cons, List.length_nil, List.range, List.range.loop, List.map_cons, List.map_nil, bits10, bits11]
    rfl
  rw [h1, spread1e]
  refine Cg.mod_eq ?_
  refine (((Cg.refl p a).mul (Cg.mod p _)).add (((Cg.refl p b).mul (Cg.mod p _)).add (Cg.refl p 0))).trans (Cg.of_eq (by grind))
theorem spread_eq2 {p : Int} (hp : 0 < p) (a b c d x y : Int) : spreadL p [a, b, c, d] [x, y] = spreadP p [a, b, c, d] [x, y] := by
  have h1 : spreadL p [a, b, c, d] [x, y] = (a * ((1 * (1 - x) % p) * (1 - y) % p) + (b * ((1 * (1 - x) % p) * y % p) + (c * ((1 * x % p) * (1 - y) % p) + (d * ((1 * x % p) * y % p) + 0)))) % p := by
    unfold spreadL
    simp only [List.length_cons, List.length_nil, List.range, List.range.loop, List.map_cons, List.map_nil, bits20, bits21, bits22, bits23]
    rfl
  rw [h1]
  have h2 : spreadP p [a, b, c, d] [x, y] = spreadP p [a, b, c, d] [x, y] % p := by
    rw [spread2e, Int.emod_emod_of_dvd _ (Int.dvd_refl p)]
  rw [h2]
  refine Cg.mod_eq (Cg.trans ?_ (spread2 p a b c d x y).symm)
  have g : ∀ u v w : Int, Cg p ((1 * u % p) * v % p) (u * v) := fun u v w => (Cg.mod p _).trans (((Cg.mod p _).mul (Cg.refl p v)).trans (Cg.of_eq (by grind)))
  refine (((Cg.refl p a).mul (g _ _ 0)).add (((Cg.refl p b).mul (g _ _ 0)).add (((Cg.refl p c).mul (g _ _ 0)).add (((Cg.refl p d).mul (g _ _ 0)).add (Cg.refl p 0))))).trans (Cg.of_eq (by grind))

/-! ### rules -/
inductive Pl where
  | num (a : Int) | nam (i : Nat)
  deriving DecidableEq
inductive Op where
  | plus | minus | times
  deriving DecidableEq
inductive Rl where
  | leaf (q : Pl) | tab (t : List Int) (ps : List Pl) | join (o : Op) (l r : Rl)
def plv (x : List Int) : Pl → Int
  | .num a => a
  | .nam i => x.getD i 0
def opv (p : Int) : Op → Int → Int → Int
  | .plus, a, b => (a + b) % p
  | .minus, a, b => (a - b) % p
  | .times, a, b => a * b % p
def val (p : Int) (x : List Int) : Rl → Int
  | .leaf q => plv x q
  | .tab t ps => spreadP p t (ps.map (plv x))
  | .join o l r => opv p o (val p x l) (val p x r)
def PlOk (p : Int) (n : Nat) : Pl → Prop
  | .num a => 0 ≤ a ∧ a < p
  | .nam i => i < n
def RlOk (p : Int) (n : Nat) : Rl → Prop
  | .leaf q => PlOk p n q
  | .tab t ps => t.length = 2 ^ ps.length ∧ ps.length ≤ 2 ∧ (∀ c ∈ t, 0 ≤ c ∧ c < p) ∧ ∀ q ∈ ps, PlOk p n q
  | .join _ l r => RlOk p n l ∧ RlOk p n r
def hgt : Rl → Nat
  | .leaf _ => 0
  | .tab _ _ => 0
  | .join _ l r => max (hgt l) (hgt r) + 1
def pdg (i : Nat) : Pl → Nat
  | .num _ => 0
  | .nam j => if j = i then 1 else 0
def dg (i : Nat) : Rl → Nat
  | .leaf q => pdg i q
  | .tab _ ps => (ps.map (pdg i)).sum
  | .join .times l r => dg i l + dg i r
  | .join _ l r => max (dg i l) (dg i r)
theorem pdg_le (i : Nat) : ∀ q, pdg i q ≤ 1
  | .num _ => Nat.zero_le _
  | .nam j => by
    show (if j = i then 1 else 0) ≤ 1
    by_cases h : j = i
    · rw [if_pos h]
      exact Nat.le_refl 1
    · rw [if_neg h]
      exact Nat.zero_le 1
theorem dg_le {p : Int} {n : Nat} (i : Nat) : ∀ R, RlOk p n R → dg i R ≤ 2 * 2 ^ hgt R
  | .leaf q, _ => by
    have := pdg_le i q
    show pdg i q ≤ 2 * 2 ^ 0
    omega
  | .tab t ps, h => by
    have h2 := h.2.1
    show (ps.map (pdg i)).sum ≤ 2 * 2 ^ 0
    match ps, h2 with
    | [], _ => simp
    | [a], _ =>
      have := pdg_le i a
      simp
      omega
    | [a, b], _ =>
      have h1 := pdg_le i a
      have h2 := pdg_le i b
      simp
      omega
  | .join o l r, h => by
    have a := dg_le i l h.1
    have b := dg_le i r h.2
    have e1 : 2 ^ hgt l ≤ 2 ^ max (hgt l) (hgt r) := Nat.pow_le_pow_right (by decide) (Nat.le_max_left _ _)
    have e2 : 2 ^ hgt r ≤ 2 ^ max (hgt l) (hgt r) := Nat.pow_le_pow_right (by decide) (Nat.le_max_right _ _)
    have e3 : 2 ^ hgt (.join o l r) = 2 ^ max (hgt l) (hgt r) * 2 := Nat.pow_succ ..
    rw [e3]
    cases o
    · show max _ _ ≤ _
      omega
    · show max _ _ ≤ _
      omega
    · show _ + _ ≤ _
      omega
/-- a point of numbers -/
def InAll (p : Int) (x : List Int) : Prop := ∀ c ∈ x, 0 ≤ c ∧ c < p
theorem InAll.getD {p : Int} (hp : 0 < p) {x : List Int} (h : InAll p x) (i : Nat) : 0 ≤ x.getD i 0 ∧ x.getD i 0 < p := by
  rw [List.getD_eq_getElem?_getD]
  cases e : x[i]? with
  | none => exact ⟨Int.le_refl 0, hp⟩
  | some c => exact h c (List.mem_of_getElem? e)
theorem plv_in {p : Int} (hp : 0 < p) {n : Nat} {x : List Int} (hx : InAll p x) : ∀ q, PlOk p n q → 0 ≤ plv x q ∧ plv x q < p
  | .num _, h => h
  | .nam i, _ => hx.getD hp i
theorem opv_in {p : Int} (hp : 0 < p) (o : Op) (a b : Int) : 0 ≤ opv p o a b ∧ opv p o a b < p := by
  cases o <;> exact mod_in hp _
theorem val_in {p : Int} (hp : 0 < p) {n : Nat} {x : List Int} (hx : InAll p x) : ∀ R, RlOk p n R → 0 ≤ val p x R ∧ val p x R < p
  | .leaf q, h => plv_in hp hx q h
  | .tab t ps, h => by
    obtain ⟨h1, h2, h3, h4⟩ := h
    show 0 ≤ spreadP p t (ps.map (plv x)) ∧ spreadP p t (ps.map (plv x)) < p
    match ps, h2 with
    | [], _ =>
      obtain ⟨a, rfl⟩ := len1 h1
      exact h3 a (by simp)
    | [q], _ =>
      obtain ⟨a, b, rfl⟩ := len2 h1
      rw [List.map_cons, List.map_nil, spread1e]
      exact mod_in hp _
    | [q, q'], _ =>
      obtain ⟨a, b, c, d, rfl⟩ := len4 h1
      rw [List.map_cons, List.map_cons, List.map_nil, spread2e]
      exact mod_in hp _
  | .join o l r, _ => opv_in hp o _ _
theorem spread_same {p : Int} (hp : 0 < p) {n : Nat} {x : List Int} {t : List Int} {ps : List Pl} (h : RlOk p n (.tab t ps)) : spreadL p t (ps.map (plv x)) = spreadP p t (ps.map (plv x)) := by
  obtain ⟨h1, h2, h3, h4⟩ := h
  match ps, h2 with
  | [], _ =>
    obtain ⟨a, rfl⟩ := len1 h1
    exact spread_eq0 hp (h3 a (by simp))
  | [q], _ =>
    obtain ⟨a, b, rfl⟩ := len2 h1
    exact spread_eq1 hp a b _
  | [q, q'], _ =>
    obtain ⟨a, b, c, d, rfl⟩ := len4 h1
    exact spread_eq2 hp a b c d _ _

/-! ### a rule is a line in each name -/
theorem plv_poly {p : Int} {x : List Int} {i : Nat} (hi : i < x.length) : ∀ q, IsP p (pdg i q) fun y => plv (x.set i y) q
  | .num a => IsP.const p _ a
  | .nam j => by
    by_cases h : j = i
    · subst h
      refine (IsP.var (p := p) (n := pdg j (.nam j)) (by simp [pdg])).congr fun y => Cg.of_eq ?_
      show (x.set j y).getD j 0 = y
      rw [List.getD_eq_getElem?_getD, List.getElem?_set_self hi]
      rfl
    · refine (IsP.const p _ (x.getD j 0)).congr fun y => Cg.of_eq ?_
      show (x.set i y).getD j 0 = x.getD j 0
      rw [List.getD_eq_getElem?_getD, List.getD_eq_getElem?_getD, List.getElem?_set_ne (Ne.symm h)]
theorem val_poly {p : Int} {n : Nat} {x : List Int} {i : Nat} (hi : i < x.length) : ∀ R, RlOk p n R → IsP p (dg i R) fun y => val p (x.set i y) R
  | .leaf q, _ => plv_poly hi q
  | .tab t ps, h => by
    obtain ⟨h1, h2, h3, h4⟩ := h
    match ps, h2 with
    | [], _ =>
      obtain ⟨a, rfl⟩ := len1 h1
      exact IsP.const p _ a
    | [q], _ =>
      obtain ⟨a, b, rfl⟩ := len2 h1
      have hq := plv_poly (p := p) hi q
      have g := (IsP.const p 0 a).add (k := pdg i q) (hq.mul (k := pdg i q) (IsP.const p 0 (b - a)) (by omega)) (by omega) (Nat.le_refl _)
      refine (g.congr fun y => spread1 p a b (plv (x.set i y) q)).mono ?_
      simp [dg]
    | [q, q'], _ =>
      obtain ⟨a, b, c, d, rfl⟩ := len4 h1
      have hq := plv_poly (p := p) hi q
      have hq' := plv_poly (p := p) hi q'
      have u := (IsP.const p 0 a).add (k := pdg i q) (hq.mul (k := pdg i q) (IsP.const p 0 (c - a)) (by omega)) (by omega) (Nat.le_refl _)
      have v := (IsP.const p 0 b).add (k := pdg i q) (hq.mul (k := pdg i q) (IsP.const p 0 (d - b)) (by omega)) (by omega) (Nat.le_refl _)
      have g := u.add (k := pdg i q + pdg i q') (hq'.mul (k := pdg i q + pdg i q') (v.sub u (Nat.le_refl _) (Nat.le_refl _)) (by omega)) (by omega) (Nat.le_refl _)
      refine (g.congr fun y => spread2 p a b c d (plv (x.set i y) q) (plv (x.set i y) q')).mono ?_
      simp [dg]
  | .join o l r, h => by
    have a := val_poly hi l h.1
    have b := val_poly hi r h.2
    cases o
    · exact (a.add b (Nat.le_max_left _ _) (Nat.le_max_right _ _)).congr fun y => Cg.mod p _
    · exact (a.sub b (Nat.le_max_left _ _) (Nat.le_max_right _ _)).congr fun y => Cg.mod p _
    · exact (a.mul b (Nat.le_refl _)).congr fun y => Cg.mod p _

/-! ### sums over the rows -/
def total (p : Int) (n : Nat) (R : Rl) (ahead : List Int) : Int := ((List.range (2 ^ (n - ahead.length))).map fun k => val p (ahead ++ bits (n - ahead.length) k) R).sum % p
theorem bits_len (m k : Nat) : (bits m k).length = m := by simp [bits]
theorem bits_in {p : Int} (hp : 1 < p) (m k : Nat) : InAll p (bits m k) := fun c h => by
  obtain ⟨j, _, e⟩ := List.mem_map.mp h
  have := mod_in (p := 2) (by decide) ((k : Int) / 2 ^ (m - 1 - j))
  omega
theorem total_in {p : Int} (hp : 0 < p) (n : Nat) (R : Rl) (a : List Int) : 0 ≤ total p n R a ∧ total p n R a < p := mod_in hp _
theorem sum_poly {p : Int} {d : Nat} (g : Nat → Int → Int) : ∀ l : List Nat, (∀ k, IsP p d (g k)) → IsP p d fun y => (l.map fun k => g k y).sum
  | [], _ => IsP.const p d 0
  | k :: l, h => by
    have ih := sum_poly g l h
    exact ((h k).add ih (Nat.le_refl _) (Nat.le_refl _)).congr fun y => Cg.of_eq (by simp)
theorem total_poly {p : Int} {n : Nat} {R : Rl} (hR : RlOk p n R) (ahead : List Int) : IsP p (dg ahead.length R) fun y => total p n R (ahead ++ [y]) := by
  have key : IsP p (dg ahead.length R) fun y => ((List.range (2 ^ (n - (ahead.length + 1)))).map fun k => val p ((ahead ++ [0] ++ bits (n - (ahead.length + 1)) k).set ahead.length y) R).sum :=
    sum_poly (fun k y => val p ((ahead ++ [0] ++ bits (n - (ahead.length + 1)) k).set ahead.length y) R) _ fun k => val_poly (by simp [List.length_append]) R hR
  refine key.congr fun y => (Cg.mod p _).trans (Cg.of_eq ?_)
  have e : (ahead ++ [y]).length = ahead.length + 1 := by simp
  rw [e]
  congr 1
  refine List.map_congr_left fun k _ => ?_
  congr 1
  rw [List.append_assoc, List.append_assoc, List.set_append_right _ _ (Nat.le_refl _), Nat.sub_self]
  rfl
theorem total_split {p : Int} {n : Nat} (hn : n ≤ 3) {R : Rl} {a : List Int} (ha : a.length < n) : Cg p (total p n R a) (total p n R (a ++ [0]) + total p n R (a ++ [1])) := by
  refine (Cg.mod p _).trans (Cg.trans ?_ ((Cg.mod p _).add (Cg.mod p _)).symm)
  have e0 : (a ++ [(0 : Int)]).length = a.length + 1 := by simp
  have e1 : (a ++ [(1 : Int)]).length = a.length + 1 := by simp
  rw [e0, e1]
  refine Cg.of_eq ?_
  obtain ⟨r, hr⟩ : ∃ r, n - a.length = r + 1 := ⟨n - a.length - 1, by omega⟩
  have hr2 : n - (a.length + 1) = r := by omega
  have hr3 : r ≤ 2 := by omega
  rw [hr, hr2]
  have asc : ∀ (c : Int) (l : List Int), a ++ [c] ++ l = a ++ (c :: l) := fun c l => by simp
  match r, hr3 with
  | 0, _ =>
    have b0 : bits (0 + 1) 0 = [0] := by decide
    have b1 : bits (0 + 1) 1 = [1] := by decide
    have z : bits 0 0 = [] := rfl
    simp only [show 2 ^ (0 + 1) = 2 from rfl, show 2 ^ 0 = 1 from rfl, List.range, List.range.loop, List.map_cons, List.map_nil, List.sum_cons, List.sum_nil, b0, b1, z, asc]
    grind
  | 1, _ =>
    have b0 : bits (1 + 1) 0 = [0, 0] := by decide
    have b1 : bits (1 + 1) 1 = [0, 1] := by decide
    have b2 : bits (1 + 1) 2 = [1, 0] := by decide
    have b3 : bits (1 + 1) 3 = [1, 1] := by decide
    have z0 : bits 1 0 = [0] := by decide
    have z1 : bits 1 1 = [1] := by decide
    simp only [show 2 ^ (1 + 1) = 4 from rfl, show 2 ^ 1 = 2 from rfl, List.range, List.range.loop, List.map_cons, List.map_nil, List.sum_cons, List.sum_nil, b0, b1, b2, b3, z0, z1, asc]
    grind
  | 2, _ =>
    have b0 : bits (2 + 1) 0 = [0, 0, 0] := by decide
    have b1 : bits (2 + 1) 1 = [0, 0, 1] := by decide
    have b2 : bits (2 + 1) 2 = [0, 1, 0] := by decide
    have b3 : bits (2 + 1) 3 = [0, 1, 1] := by decide
    have b4 : bits (2 + 1) 4 = [1, 0, 0] := by decide
    have b5 : bits (2 + 1) 5 = [1, 0, 1] := by decide
    have b6 : bits (2 + 1) 6 = [1, 1, 0] := by decide
    have b7 : bits (2 + 1) 7 = [1, 1, 1] := by decide
    simp only [show 2 ^ (2 + 1) = 8 from rfl, show 2 ^ 2 = 4 from rfl, List.range, List.range.loop, List.map_cons, List.map_nil, List.sum_cons, List.sum_nil, b0, b1, b2, b3, b4, b5, b6, b7, bits20, bits21, bits22, bits23, asc]
    grind

/-! ### the seven primes -/
def primes : List Int := [5, 7, 11, 13, 101, 65537, 2147483647]
def chkInv (p : Int) (n : Nat) : Bool := (List.range n).all fun k => decide ((inv p (und p k n % p) * und p k n) % p = 1)
def chkUnit (p : Int) (n : Nat) : Bool := (List.range n).all fun k => k == 0 || decide ((inv p k * k) % p = 1)
def chkAll : Bool := primes.all fun p => (List.range 18).all fun n => decide (p < n) || (chkInv p n && chkUnit p n)
theorem chk_all : chkAll = true := by decide +kernel
theorem chk_at {p : Int} (hp : p ∈ primes) {n : Nat} (hn : n ≤ 17) (hnp : (n : Int) ≤ p) : InvOk p n ∧ Units p n := by
  have h := List.all_eq_true.mp (List.all_eq_true.mp chk_all p hp) n (List.mem_range.mpr (by omega))
  rw [decide_eq_false (by omega), Bool.false_or, Bool.and_eq_true] at h
  refine ⟨fun k hk => of_decide_eq_true (List.all_eq_true.mp h.1 k (List.mem_range.mpr hk)), fun k h1 h2 => ?_⟩
  have g := List.all_eq_true.mp h.2 k (List.mem_range.mpr h2)
  rw [show (k == 0) = false by simp; omega, Bool.false_or] at g
  have g2 := of_decide_eq_true g
  refine ⟨inv p k, Cg.of_mod ?_⟩
  rw [g2]
  have : 1 < p := by
    revert hp
    intro hp
    simp [primes] at hp
    omega
  rw [Int.emod_eq_of_lt (by omega) this]
theorem primes_in {p : Int} (hp : p ∈ primes) : 5 ≤ p ∧ p ≤ 2147483647 := by
  simp [primes] at hp
  omega

/-! ### the plain lines -/
def mdeg (p : Int) (d : Nat) : Nat := if (d : Int) ≤ p - 1 then d else (p - 1).toNat
def pvals (p : Int) (n : Nat) (R : Rl) (ahead : List Int) : List Int := (List.range (mdeg p (dg ahead.length R) + 1)).map fun (k : Nat) => total p n R (ahead ++ [(k : Int)])
def plainL (p : Int) (n : Nat) (R : Rl) (ahead : List Int) : List Int := through p (pvals p n R ahead)
theorem pvals_len (p : Int) (n : Nat) (R : Rl) (a : List Int) : (pvals p n R a).length = mdeg p (dg a.length R) + 1 := by simp [pvals]
theorem plain_at {p : Int} (hp : p ∈ primes) {n : Nat} {R : Rl} (hR : RlOk p n R) (hh : hgt R ≤ 3) (a : List Int) {y : Int} (h0 : 0 ≤ y) (h1 : y < p) : ev p y (plainL p n R a) = total p n R (a ++ [y]) := by
  have hpp := primes_in hp
  have hd := dg_le (p := p) (n := n) a.length R hR
  have hd2 : 2 * 2 ^ hgt R ≤ 16 := by
    have : 2 ^ hgt R ≤ 2 ^ 3 := Nat.pow_le_pow_right (by decide) hh
    omega
  have hl := pvals_len p n R a
  have key : Cg p (pe y (plainL p n R a)) (total p n R (a ++ [y])) := by
    by_cases hm : (dg a.length R : Int) ≤ p - 1
    · have hmd : mdeg p (dg a.length R) = dg a.length R := if_pos hm
      obtain ⟨hI, hU⟩ := chk_at hp (n := (pvals p n R a).length) (by omega) (by omega)
      refine through_is hI hU (by omega) ((total_poly hR a).mono (by omega)) (fun i hi => Cg.of_eq ?_) y
      unfold pvals
      rw [List.getD_eq_getElem?_getD, List.getElem?_map, List.getElem?_range (by omega)]
      rfl
    · have hmd : mdeg p (dg a.length R) = (p - 1).toNat := if_neg hm
      obtain ⟨hI, hU⟩ := chk_at hp (n := (pvals p n R a).length) (by omega) (by omega)
      have hy : y.toNat < (pvals p n R a).length := by omega
      have g := through_at hI hy
      have ey : ((y.toNat : Nat) : Int) = y := Int.toNat_of_nonneg h0
      rw [ey] at g
      refine g.trans (Cg.of_eq ?_)
      unfold pvals
      rw [List.getD_eq_getElem?_getD, List.getElem?_map, List.getElem?_range (by omega)]
      show total p n R (a ++ [((y.toNat : Nat) : Int)]) = _
      rw [ey]
  exact ((ev_cg p y _).trans key).eq (ev_in (by omega) y _).1 (ev_in (by omega) y _).2 (total_in (by omega) n R _).1 (total_in (by omega) n R _).2
theorem plain_len {p : Int} (hp : p ∈ primes) {n : Nat} {R : Rl} (a : List Int) : (plainL p n R a).length ≤ dg a.length R + 1 := by
  have h := through_len p (pvals p n R a)
  rw [pvals_len] at h
  refine Nat.le_trans h ?_
  unfold mdeg
  split <;> omega
theorem plain_in {p : Int} (hp : p ∈ primes) {n : Nat} {R : Rl} (a : List Int) : InAll p (plainL p n R a) := through_in (by have := primes_in hp; omega) _
theorem plain_last {p : Int} {n : Nat} {R : Rl} (a : List Int) : plainL p n R a = [] ∨ ∃ r c, plainL p n R a = r ++ [c] ∧ c ≠ 0 := cut_last _
end K10M

/-! K10Math3: the judge -/
set_option linter.all false
namespace K10M
/-- an item of an item; an item: a tuple of these (some), or no tuple; what is told as lines: a row of items, or neither tuple nor list -/
inductive En where
  | int (i : Int) | bl (b : Bool)
  deriving DecidableEq
abbrev Itm := Option (List En)
def isNum (p : Int) : En → Bool
  | .int i => decide (0 ≤ i) && decide (i ≤ p - 1)
  | .bl _ => false
def nz : En → Bool
  | .int i => !decide (i = 0)
  | .bl b => b
def lastNz (es : List En) : Bool := match es.getLast? with
  | some e => nz e
  | none => false
def isLine (p : Int) : Itm → Bool
  | none => false
  | some es => decide (es.length ≤ 200) && (es.all (isNum p) && (es.isEmpty || lastNz es))
def toI : En → Int
  | .int i => i
  | .bl _ => 0
def nsOf : Itm → List Int
  | none => []
  | some es => es.map toI
inductive Vd where
  | passed | caught (k : Nat) (w : String)
  deriving DecidableEq
def judgeL (p : Int) (n : Nat) (R : Rl) (draws : List Int) (its : List Itm) : Nat → Nat → Int → List Int → Vd × List Int
  | 0, _, cl, so => if its.length > n then (.caught n "line", so) else if val p draws R ≠ cl then (.caught n "end", so) else (.passed, so)
  | k + 1, a, cl, so => match its[a]? with
    | none => (.caught a "line", so)
    | some it => if isLine p it = false then (.caught a "line", so)
      else if ((nsOf it).length : Int) - 1 > dg a R then (.caught a "degree", so)
      else if (ev p 0 (nsOf it) + ev p 1 (nsOf it)) % p ≠ cl then (.caught a "halves", so)
      else judgeL p n R draws its k (a + 1) (ev p (draws.getD a 0) (nsOf it)) (so ++ [ev p (draws.getD a 0) (nsOf it)])
def judge (p : Int) (n : Nat) (R : Rl) (claim : Int) (draws : List Int) : Option (List Itm) → Vd × List Int
  | none => (.caught 0 "line", [claim])
  | some its => judgeL p n R draws its n 0 claim [claim]

/-! ### plain lines pass, and pass only where the claim is right -/
def lineIt (l : List Int) : Itm := some (l.map En.int)
theorem ints_line (l : List Int) : nsOf (lineIt l) = l := by
  show (l.map En.int).map toI = l
  rw [List.map_map]
  have e : toI ∘ En.int = id := rfl
  rw [e, List.map_id]
theorem line_ok {p : Int} {l : List Int} (h : InAll p l) (hl : l.length ≤ 200) (hz : l = [] ∨ ∃ r c, l = r ++ [c] ∧ c ≠ 0) : isLine p (lineIt l) = true := by
  show (decide ((l.map En.int).length ≤ 200) && ((l.map En.int).all (isNum p) && ((l.map En.int).isEmpty || lastNz (l.map En.int)))) = true
  rw [List.length_map, decide_eq_true hl, Bool.true_and]
  have h1 : (l.map En.int).all (isNum p) = true := by
    rw [List.all_eq_true]
    intro e he
    obtain ⟨c, hc, rfl⟩ := List.mem_map.mp he
    have := h c hc
    show (decide (0 ≤ c) && decide (c ≤ p - 1)) = true
    rw [decide_eq_true (by omega), decide_eq_true (by omega)]
    rfl
  rw [h1, Bool.true_and]
  rcases hz with rfl | ⟨r, c, rfl, hc⟩
  · rfl
  · rw [Bool.or_eq_true]
    right
    unfold lastNz
    rw [List.map_append, List.map_cons, List.map_nil, List.getLast?_concat]
    show (!decide (c = 0)) = true
    rw [decide_eq_false hc]
    rfl
def plains (p : Int) (n : Nat) (R : Rl) (draws : List Int) : List Itm := (List.range n).map fun i => lineIt (plainL p n R (draws.take i))
section
variable {p : Int} (hp : p ∈ primes) {n : Nat} (hn : n ≤ 3) {R : Rl} (hR : RlOk p n R) (hh : hgt R ≤ 3) {draws : List Int} (hd : InAll p draws) (hdl : draws.length = n)
include hp hn hR hh hd hdl
theorem plain_short (a : List Int) : (plainL p n R a).length ≤ 200 := by
  have h := plain_len (n := n) hp (R := R) a
  have hd := dg_le (p := p) (n := n) a.length R hR
  have : 2 ^ hgt R ≤ 2 ^ 3 := Nat.pow_le_pow_right (by decide) hh
  omega
theorem plain_round {k : Nat} (hk : k < n) (cl : Int) (hcl : 0 ≤ cl ∧ cl < p) : (ev p 0 (plainL p n R (draws.take k)) + ev p 1 (plainL p n R (draws.take k))) % p = cl ↔ cl = total p n R (draws.take k) := by
  have hpp := primes_in hp
  rw [plain_at hp hR hh _ (by omega) (by omega), plain_at hp hR hh _ (by omega) (by omega)]
  have hs := total_split (p := p) hn (R := R) (a := draws.take k) (by rw [List.length_take]; omega)
  have ht := total_in (p := p) (by omega) n R (draws.take k)
  have e := hs.mod_eq
  rw [Int.emod_eq_of_lt ht.1 ht.2] at e
  rw [← e]
  exact ⟨fun h => h.symm, fun h => h.symm⟩
theorem judge_right : ∀ (k a : Nat) (cl : Int) (so : List Int), k + a = n → cl = total p n R (draws.take a) → (judgeL p n R draws (plains p n R draws) k a cl so).1 = .passed
  | 0, a, cl, so, ha, hc => by
    have hpp := primes_in hp
    have e : a = n := by omega
    subst e
    unfold judgeL
    rw [if_neg (by simp [plains])]
    have ht : draws.take a = draws := List.take_of_length_le (by omega)
    rw [ht] at hc
    have hv := val_in (p := p) (by omega) hd R hR
    have e2 : total p a R draws = val p draws R := by
      unfold total
      rw [hdl, Nat.sub_self]
      show (val p (draws ++ bits 0 0) R + 0) % p = _
      rw [bits00, List.append_nil, Int.add_zero, Int.emod_eq_of_lt hv.1 hv.2]
    rw [if_neg (by rw [hc, e2]; simp)]
  | k + 1, a, cl, so, ha, hc => by
    have hpp := primes_in hp
    have ge : (plains p n R draws)[a]? = some (lineIt (plainL p n R (draws.take a))) := by
      unfold plains
      rw [List.getElem?_map, List.getElem?_range (by omega)]
      rfl
    unfold judgeL
    rw [ge]
    have hl := line_ok (plain_in (n := n) (R := R) hp (draws.take a)) (plain_short hp hn hR hh hd hdl _) (plain_last _)
    have hlen := plain_len (n := n) hp (R := R) (draws.take a)
    have hta : (draws.take a).length = a := by rw [List.length_take]; omega
    rw [hta] at hlen
    have ht := total_in (p := p) (by omega) n R (draws.take a)
    simp only [hl, ints_line]
    rw [if_neg (by simp), if_neg (by omega), if_neg (fun z => z ((plain_round hp hn hR hh hd hdl (by omega) cl (by rw [hc]; exact ht)).mpr hc))]
    refine judge_right k (a + 1) _ _ (by omega) ?_
    have hg := hd.getD (p := p) (by omega) a
    rw [plain_at hp hR hh _ hg.1 hg.2]
    congr 1
    have hlt : a < draws.length := by omega
    rw [List.take_add_one, List.getElem?_eq_getElem hlt, List.getD_eq_getElem?_getD, List.getElem?_eq_getElem hlt]
    rfl
theorem judge_wrong (h0 : 0 < n) {cl : Int} (hcl : 0 ≤ cl ∧ cl < p) (hc : cl ≠ total p n R []) (so : List Int) : (judgeL p n R draws (plains p n R draws) n 0 cl so).1 = .caught 0 "halves" := by
  have hpp := primes_in hp
  obtain ⟨k, rfl⟩ : ∃ k, n = k + 1 := ⟨n - 1, by omega⟩
  have ge : (plains p (k + 1) R draws)[0]? = some (lineIt (plainL p (k + 1) R (draws.take 0))) := by
    unfold plains
    rw [List.getElem?_map, List.getElem?_range (by omega)]
    rfl
  unfold judgeL
  rw [ge]
  have hl := line_ok (plain_in (n := k + 1) (R := R) hp (draws.take 0)) (plain_short hp hn hR hh hd hdl _) (plain_last _)
  have hlen := plain_len (n := k + 1) hp (R := R) (draws.take 0)
  have hta : (draws.take 0).length = 0 := rfl
  rw [hta] at hlen
  simp only [hl, ints_line]
  rw [if_neg (by simp), if_neg (by omega), if_pos (fun z => hc ((plain_round hp hn hR hh hd hdl (k := 0) (by omega) cl hcl).mp z))]
theorem judge_wrong0 (h0 : n = 0) {cl : Int} (hc : cl ≠ total p n R []) (so : List Int) : (judgeL p n R draws (plains p n R draws) n 0 cl so).1 = .caught 0 "end" := by
  have hpp := primes_in hp
  subst h0
  have hdn : draws = [] := List.length_eq_zero_iff.mp hdl
  subst hdn
  unfold judgeL
  rw [if_neg (by simp [plains])]
  have hv := val_in (p := p) (by omega) (x := []) (fun c h => nomatch h) R hR
  have e2 : total p 0 R [] = val p [] R := by
    show (val p ([] ++ bits 0 0) R + 0) % p = _
    rw [bits00, List.append_nil, Int.add_zero, Int.emod_eq_of_lt hv.1 hv.2]
  rw [if_pos (by rw [← e2]; exact Ne.symm hc)]
end
end K10M

set_option Elab.async false
set_option linter.all false
set_option maxRecDepth 100000
set_option maxHeartbeats 0
namespace K10
open PySem PySem.Spec PyProof.Rows L2
def topS (i : Nat) : Stmt := PySem.Challenge.pw_pointsenough_k10_whole_judgements.main.body.getD i (.Pass ⟨0, 0, 0, 0⟩)

abbrev s_is_integer : Stmt := topS 7
abbrev s_is_from : Stmt := topS 8
abbrev s_raised : Stmt := topS 9
abbrev s_passes : Stmt := topS 10
abbrev s_is_prime : Stmt := topS 11
abbrev s_is_number : Stmt := topS 12
abbrev s_are_numbers : Stmt := topS 13
abbrev s_is_plain_line : Stmt := topS 16
abbrev s_at_place : Stmt := topS 17
abbrev s_degree_of : Stmt := topS 18
abbrev s_names_in : Stmt := topS 22
abbrev s_is_plain_table : Stmt := topS 23
abbrev s_half : Stmt := topS 24
abbrev s_spread_at : Stmt := topS 25
abbrev s_is_place : Stmt := topS 30
abbrev s_is_leaf : Stmt := topS 31
abbrev s_is_plain_rule : Stmt := topS 32
abbrev s_place_at : Stmt := topS 33
abbrev s_value_at : Stmt := topS 34
abbrev s_told_degrees : Stmt := topS 35
abbrev s_is_sum : Stmt := topS 39
abbrev s_need_sum : Stmt := topS 40
abbrev s_need_draws : Stmt := topS 41
abbrev s_word_of : Stmt := topS 42
abbrev s_halves : Stmt := topS 43
abbrev s_followed : Stmt := topS 44
abbrev s_judged : Stmt := topS 45
abbrev s_claims : Stmt := topS 46
abbrev s_law_taken : Stmt := topS 48
abbrev s_law_pick : Stmt := topS 49
abbrev s_law_alike : Stmt := topS 50
abbrev s_law_prime : Stmt := topS 51
abbrev s_law_number : Stmt := topS 52
abbrev s_law_numbers : Stmt := topS 53
abbrev s_law_cut : Stmt := topS 54
abbrev s_law_line : Stmt := topS 55
abbrev s_law_at : Stmt := topS 56
abbrev s_law_inverse : Stmt := topS 57
abbrev s_law_bits : Stmt := topS 58
abbrev s_law_weight : Stmt := topS 59
abbrev s_law_spread : Stmt := topS 60
abbrev s_law_table : Stmt := topS 61
abbrev s_law_part : Stmt := topS 62
abbrev s_law_rule : Stmt := topS 63
abbrev s_law_value : Stmt := topS 64
abbrev s_law_degree : Stmt := topS 65
abbrev s_law_degrees : Stmt := topS 66
abbrev s_law_total : Stmt := topS 67
abbrev s_law_through : Stmt := topS 68
abbrev s_law_plain : Stmt := topS 69
abbrev s_law_plains : Stmt := topS 70
abbrev s_law_is_line : Stmt := topS 71
abbrev s_law_judge : Stmt := topS 72
abbrev s_law_sum : Stmt := topS 73
abbrev s_law_best : Stmt := topS 74
abbrev s_law_bent : Stmt := topS 75
abbrev s_law : Stmt := topS 76
def d_is_integer : He.DefD := ⟨("is_integer", none), "is_integer", "is_integer", defArgs s_is_integer, defBody s_is_integer, defScope s_is_integer, [], []⟩
def d_is_from : He.DefD := ⟨("is_from", none), "is_from", "is_from", defArgs s_is_from, defBody s_is_from, defScope s_is_from, [], []⟩
def d_raised : He.DefD := ⟨("raised", none), "raised", "raised", defArgs s_raised, defBody s_raised, defScope s_raised, [], []⟩
def d_passes : He.DefD := ⟨("passes", none), "passes", "passes", defArgs s_passes, defBody s_passes, defScope s_passes, [], []⟩
def d_is_prime : He.DefD := ⟨("is_prime", none), "is_prime", "is_prime", defArgs s_is_prime, defBody s_is_prime, defScope s_is_prime, [], []⟩
def d_is_number : He.DefD := ⟨("is_number", none), "is_number", "is_number", defArgs s_is_number, defBody s_is_number, defScope s_is_number, [], []⟩
def d_are_numbers : He.DefD := ⟨("are_numbers", none), "are_numbers", "are_numbers", defArgs s_are_numbers, defBody s_are_numbers, defScope s_are_numbers, [], []⟩
def d_is_plain_line : He.DefD := ⟨("is_plain_line", none), "is_plain_line", "is_plain_line", defArgs s_is_plain_line, defBody s_is_plain_line, defScope s_is_plain_line, [], []⟩
def d_at_place : He.DefD := ⟨("at_place", none), "at_place", "at_place", defArgs s_at_place, defBody s_at_place, defScope s_at_place, [], []⟩
def d_degree_of : He.DefD := ⟨("degree_of", none), "degree_of", "degree_of", defArgs s_degree_of, defBody s_degree_of, defScope s_degree_of, [], []⟩
def d_names_in : He.DefD := ⟨("names_in", none), "names_in", "names_in", defArgs s_names_in, defBody s_names_in, defScope s_names_in, [], []⟩
def d_is_plain_table : He.DefD := ⟨("is_plain_table", none), "is_plain_table", "is_plain_table", defArgs s_is_plain_table, defBody s_is_plain_table, defScope s_is_plain_table, [], []⟩
def d_half : He.DefD := ⟨("half", none), "half", "half", defArgs s_half, defBody s_half, defScope s_half, [], []⟩
def d_spread_at : He.DefD := ⟨("spread_at", none), "spread_at", "spread_at", defArgs s_spread_at, defBody s_spread_at, defScope s_spread_at, [], []⟩
def d_is_place : He.DefD := ⟨("is_place", none), "is_place", "is_place", defArgs s_is_place, defBody s_is_place, defScope s_is_place, [], []⟩
def d_is_leaf : He.DefD := ⟨("is_leaf", none), "is_leaf", "is_leaf", defArgs s_is_leaf, defBody s_is_leaf, defScope s_is_leaf, [], []⟩
def d_is_plain_rule : He.DefD := ⟨("is_plain_rule", none), "is_plain_rule", "is_plain_rule", defArgs s_is_plain_rule, defBody s_is_plain_rule, defScope s_is_plain_rule, [], []⟩
def d_place_at : He.DefD := ⟨("place_at", none), "place_at", "place_at", defArgs s_place_at, defBody s_place_at, defScope s_place_at, [], []⟩
def d_value_at : He.DefD := ⟨("value_at", none), "value_at", "value_at", defArgs s_value_at, defBody s_value_at, defScope s_value_at, [], []⟩
def d_told_degrees : He.DefD := ⟨("told_degrees", none), "told_degrees", "told_degrees", defArgs s_told_degrees, defBody s_told_degrees, defScope s_told_degrees, [], []⟩
def d_is_sum : He.DefD := ⟨("is_sum", none), "is_sum", "is_sum", defArgs s_is_sum, defBody s_is_sum, defScope s_is_sum, [], []⟩
def d_need_sum : He.DefD := ⟨("need_sum", none), "need_sum", "need_sum", defArgs s_need_sum, defBody s_need_sum, defScope s_need_sum, [], []⟩
def d_need_draws : He.DefD := ⟨("need_draws", none), "need_draws", "need_draws", defArgs s_need_draws, defBody s_need_draws, defScope s_need_draws, [], []⟩
def d_word_of : He.DefD := ⟨("word_of", none), "word_of", "word_of", defArgs s_word_of, defBody s_word_of, defScope s_word_of, [], []⟩
def d_halves : He.DefD := ⟨("halves", none), "halves", "halves", defArgs s_halves, defBody s_halves, defScope s_halves, [], []⟩
def d_followed : He.DefD := ⟨("followed", none), "followed", "followed", defArgs s_followed, defBody s_followed, defScope s_followed, [], []⟩
def d_judged : He.DefD := ⟨("judged", none), "judged", "judged", defArgs s_judged, defBody s_judged, defScope s_judged, [], []⟩
def d_claims : He.DefD := ⟨("claims", none), "claims", "claims", defArgs s_claims, defBody s_claims, defScope s_claims, [], []⟩
def d_law_taken : He.DefD := ⟨("_law_taken", none), "_law_taken", "_law_taken", defArgs s_law_taken, defBody s_law_taken, defScope s_law_taken, [], []⟩
def d_law_pick : He.DefD := ⟨("_law_pick", none), "_law_pick", "_law_pick", defArgs s_law_pick, defBody s_law_pick, defScope s_law_pick, [], []⟩
def d_law_alike : He.DefD := ⟨("_law_alike", none), "_law_alike", "_law_alike", defArgs s_law_alike, defBody s_law_alike, defScope s_law_alike, [], []⟩
def d_law_prime : He.DefD := ⟨("_law_prime", none), "_law_prime", "_law_prime", defArgs s_law_prime, defBody s_law_prime, defScope s_law_prime, [], []⟩
def d_law_number : He.DefD := ⟨("_law_number", none), "_law_number", "_law_number", defArgs s_law_number, defBody s_law_number, defScope s_law_number, [], []⟩
def d_law_numbers : He.DefD := ⟨("_law_numbers", none), "_law_numbers", "_law_numbers", defArgs s_law_numbers, defBody s_law_numbers, defScope s_law_numbers, [], []⟩
def d_law_cut : He.DefD := ⟨("_law_cut", none), "_law_cut", "_law_cut", defArgs s_law_cut, defBody s_law_cut, defScope s_law_cut, [], []⟩
def d_law_line : He.DefD := ⟨("_law_line", none), "_law_line", "_law_line", defArgs s_law_line, defBody s_law_line, defScope s_law_line, [], []⟩
def d_law_at : He.DefD := ⟨("_law_at", none), "_law_at", "_law_at", defArgs s_law_at, defBody s_law_at, defScope s_law_at, [], []⟩
def d_law_inverse : He.DefD := ⟨("_law_inverse", none), "_law_inverse", "_law_inverse", defArgs s_law_inverse, defBody s_law_inverse, defScope s_law_inverse, [], []⟩
def d_law_bits : He.DefD := ⟨("_law_bits", none), "_law_bits", "_law_bits", defArgs s_law_bits, defBody s_law_bits, defScope s_law_bits, [], []⟩
def d_law_weight : He.DefD := ⟨("_law_weight", none), "_law_weight", "_law_weight", defArgs s_law_weight, defBody s_law_weight, defScope s_law_weight, [], []⟩
def d_law_spread : He.DefD := ⟨("_law_spread", none), "_law_spread", "_law_spread", defArgs s_law_spread, defBody s_law_spread, defScope s_law_spread, [], []⟩
def d_law_table : He.DefD := ⟨("_law_table", none), "_law_table", "_law_table", defArgs s_law_table, defBody s_law_table, defScope s_law_table, [], []⟩
def d_law_part : He.DefD := ⟨("_law_part", none), "_law_part", "_law_part", defArgs s_law_part, defBody s_law_part, defScope s_law_part, [], []⟩
def d_law_rule : He.DefD := ⟨("_law_rule", none), "_law_rule", "_law_rule", defArgs s_law_rule, defBody s_law_rule, defScope s_law_rule, [], []⟩
def d_law_value : He.DefD := ⟨("_law_value", none), "_law_value", "_law_value", defArgs s_law_value, defBody s_law_value, defScope s_law_value, [], []⟩
def d_law_degree : He.DefD := ⟨("_law_degree", none), "_law_degree", "_law_degree", defArgs s_law_degree, defBody s_law_degree, defScope s_law_degree, [], []⟩
def d_law_degrees : He.DefD := ⟨("_law_degrees", none), "_law_degrees", "_law_degrees", defArgs s_law_degrees, defBody s_law_degrees, defScope s_law_degrees, [], []⟩
def d_law_total : He.DefD := ⟨("_law_total", none), "_law_total", "_law_total", defArgs s_law_total, defBody s_law_total, defScope s_law_total, [], []⟩
def d_law_through : He.DefD := ⟨("_law_through", none), "_law_through", "_law_through", defArgs s_law_through, defBody s_law_through, defScope s_law_through, [], []⟩
def d_law_plain : He.DefD := ⟨("_law_plain", none), "_law_plain", "_law_plain", defArgs s_law_plain, defBody s_law_plain, defScope s_law_plain, [], []⟩
def d_law_plains : He.DefD := ⟨("_law_plains", none), "_law_plains", "_law_plains", defArgs s_law_plains, defBody s_law_plains, defScope s_law_plains, [], []⟩
def d_law_is_line : He.DefD := ⟨("_law_is_line", none), "_law_is_line", "_law_is_line", defArgs s_law_is_line, defBody s_law_is_line, defScope s_law_is_line, [], []⟩
def d_law_judge : He.DefD := ⟨("_law_judge", none), "_law_judge", "_law_judge", defArgs s_law_judge, defBody s_law_judge, defScope s_law_judge, [], []⟩
def d_law_sum : He.DefD := ⟨("_law_sum", none), "_law_sum", "_law_sum", defArgs s_law_sum, defBody s_law_sum, defScope s_law_sum, [], []⟩
def d_law_best : He.DefD := ⟨("_law_best", none), "_law_best", "_law_best", defArgs s_law_best, defBody s_law_best, defScope s_law_best, [], []⟩
def d_law_bent : He.DefD := ⟨("_law_bent", none), "_law_bent", "_law_bent", defArgs s_law_bent, defBody s_law_bent, defScope s_law_bent, [], []⟩
def d_law : He.DefD := ⟨("law", none), "law", "law", defArgs s_law, defBody s_law, defScope s_law, [], []⟩
def fn0 : List He.DefD := [d_is_integer, d_is_from, d_raised, d_passes, d_is_prime, d_is_number, d_are_numbers, d_is_plain_line, d_at_place, d_degree_of, d_names_in, d_is_plain_table, d_half, d_spread_at, d_is_place, d_is_leaf, d_is_plain_rule, d_place_at, d_value_at, d_told_degrees]
def fn1 : List He.DefD := [d_is_sum, d_need_sum, d_need_draws, d_word_of, d_halves, d_followed, d_judged, d_claims, d_law_taken, d_law_pick, d_law_alike, d_law_prime, d_law_number, d_law_numbers, d_law_cut, d_law_line, d_law_at, d_law_inverse, d_law_bits, d_law_weight]
def fn2 : List He.DefD := [d_law_spread, d_law_table, d_law_part, d_law_rule, d_law_value, d_law_degree, d_law_degrees, d_law_total, d_law_through, d_law_plain, d_law_plains, d_law_is_line, d_law_judge, d_law_sum, d_law_best, d_law_bent, d_law]
def fn : List He.DefD := fn0 ++ fn1 ++ fn2
def fa0 : List He.Fa := [.glo "is_integer", .glo "is_from", .glo "raised", .glo "passes", .glo "is_prime", .glo "is_number", .glo "are_numbers", .glo "is_plain_line", .glo "at_place", .glo "degree_of", .glo "names_in", .glo "is_plain_table", .glo "half", .glo "spread_at", .glo "is_place", .glo "is_leaf", .glo "is_plain_rule", .glo "place_at", .glo "value_at", .glo "told_degrees"]
def fa1 : List He.Fa := [.glo "is_sum", .glo "need_sum", .glo "need_draws", .glo "word_of", .glo "halves", .glo "followed", .glo "judged", .glo "claims", .glo "_law_taken", .glo "_law_pick", .glo "_law_alike", .glo "_law_prime", .glo "_law_number", .glo "_law_numbers", .glo "_law_cut", .glo "_law_line", .glo "_law_at", .glo "_law_inverse", .glo "_law_bits", .glo "_law_weight"]
def fa2 : List He.Fa := [.glo "_law_spread", .glo "_law_table", .glo "_law_part", .glo "_law_rule", .glo "_law_value", .glo "_law_degree", .glo "_law_degrees", .glo "_law_total", .glo "_law_through", .glo "_law_plain", .glo "_law_plains", .glo "_law_is_line", .glo "_law_judge", .glo "_law_sum", .glo "_law_best", .glo "_law_bent", .glo "law", .glo "BASES", .glo "JOINS", .glo "PASSED"]
def fa3 : List He.Fa := [.free "isinstance", .free "len", .free "all", .free "any", .free "tuple", .free "list", .free "sum", .free "max", .free "min", .free "range", .free "reversed", .free "zip", .free "enumerate", .free "int", .free "sorted", .free "dict", .free "str", .free "bool", .int "MOST_PRIME" 2147483647, .int "MOST_NUMBERS" 200]
def fa4 : List He.Fa := [.int "MOST_ENTRIES" 1024, .int "MOST_NAMES" 10, .int "MOST_WORDS" 2000, .int "MOST_DEPTH" 400, .int "MOST_DEGREE" 30]
def fa : List He.Fa := fa0 ++ fa1 ++ fa2 ++ fa3 ++ fa4
def ex (K : PySem.W.Frag) : Bool := He.tupB K "BASES" [.int 2, .int 3, .int 5, .int 7] && (He.tupB K "JOINS" [.str "plus", .str "minus", .str "times"] && He.tupB K "PASSED" [.str "passed"])
def tf : List He.Defn := [("followed", none)]
def nm0 : List Str := ["PointError", "BadSum", "BadDraws", "MOST_PRIME", "BASES", "is_integer", "is_from", "raised", "passes", "is_prime", "is_number", "are_numbers", "MOST_NUMBERS", "is_plain_line", "at_place", "degree_of", "MOST_ENTRIES", "MOST_NAMES", "names_in", "is_plain_table"]
def nm1 : List Str := ["half", "spread_at", "MOST_WORDS", "MOST_DEPTH", "JOINS", "is_place", "is_leaf", "is_plain_rule", "place_at", "value_at", "told_degrees", "MOST_DEGREE", "PASSED", "is_sum", "need_sum", "need_draws", "word_of", "halves", "followed", "judged"]
def nm2 : List Str := ["claims", "_law_taken", "_law_pick", "_law_alike", "_law_prime", "_law_number", "_law_numbers", "_law_cut", "_law_line", "_law_at", "_law_inverse", "_law_bits", "_law_weight", "_law_spread", "_law_table", "_law_part", "_law_rule", "_law_value", "_law_degree", "_law_degrees"]
def nm3 : List Str := ["_law_total", "_law_through", "_law_plain", "_law_plains", "_law_is_line", "_law_judge", "_law_sum", "_law_best", "_law_bent"]
def names : List Str := nm0 ++ nm1 ++ nm2 ++ nm3
abbrev R : PySem.W.OpenRow := PySem.W.OpenLaw.row PySem.Challenge.rw_pointsenough_k10_whole_judgements
abbrev hk : PySem.W.Hook := He.hookX 4 fa fn [] tf ex
def ob (s : PySem.W.SharedT) : He.AlX := He.obsX 4 fa fn [] tf ex (HandSHeadRun.getT s)
theorem ob_eq (s : PySem.W.SharedT) : ob s = hk.obs s.abs := He.obsX_eq (HandSHeadRun.getT_eq s)
abbrev qv : Program := PySem.W.view R.prog [76]
theorem run (w : World) : HandSHeadRun.RunEq R qv hk ob 3000 names w := by
  intro os
  kernel_rfl
end K10

set_option Elab.async false
set_option linter.all false
set_option maxRecDepth 100000
set_option maxHeartbeats 4000000
/-! K10Lib: the top's facts, a def's promise by its name, short rules, what readings evaluate to -/
namespace K10
open PySem PySem.Spec PyProof.Rows L2 Evl

/-! ### the top -/
def freeL : List Str := ["isinstance", "len", "all", "any", "tuple", "list", "sum", "max", "min", "range", "reversed", "zip", "enumerate", "int", "sorted", "dict", "str", "bool"]
def intL : List (Str × Int) := [("MOST_PRIME", 2147483647), ("MOST_NUMBERS", 200), ("MOST_ENTRIES", 1024), ("MOST_NAMES", 10), ("MOST_WORDS", 2000), ("MOST_DEPTH", 400), ("MOST_DEGREE", 30)]
structure Top (K : PySem.W.Frag) (mg : Str → Option Value) : Prop where
  fn : ∀ (i : Nat) (d : He.DefD), K10.fn[i]? = some d → (∃ fd, FunD K d.name d.qual d.params d.body d.scope [] [] (He.ga K d.name) fd) ∧ mg d.name = some (.ref (He.ga K d.name))
  free : ∀ (i : Nat) (x : Str), freeL[i]? = some x → mg x = none
  nums : ∀ (i : Nat) (x : Str) (n : Int), intL[i]? = some (x, n) → ∃ t, mg x = some (.int n t)
  gBASES : mg "BASES" = some (.ref (He.ga K "BASES"))
  gJOINS : mg "JOINS" = some (.ref (He.ga K "JOINS"))
  gPASSED : mg "PASSED" = some (.ref (He.ga K "PASSED"))
  tBASES : ∀ H, SqT K H (He.ga K "BASES") [.int 2, .int 3, .int 5, .int 7]
  tJOINS : ∀ H, SqT K H (He.ga K "JOINS") [.str "plus", .str "minus", .str "times"]
  tPASSED : ∀ H, SqT K H (He.ga K "PASSED") [.str "passed"]

/-- a def of the text keeps a promise -/
structure Ok1 (P : Program) (w : World) (K : PySem.W.Frag) (mg : Str → Option Value) (base : Heap) (lvl : Nat) (x : Str) (ps : List Str) (sp : Sp) : Prop where
  ex : ∃ fd, FnOk P w K mg base CX0 lvl (He.ga K x) fd ps sp ∧ Binds K fd ps [] ∧ PySem.W.keepIn K (.ref (He.ga K x)) = true
  at_ : mg x = some (.ref (He.ga K x))
section
variable {P : Program} {w : World} {K : PySem.W.Frag} {mg : Str → Option Value} {base : Heap}
theorem Top.ok (T : Top K mg) {d : He.DefD} {N ps : List Str} {k : Nat} {sp : Sp} (i : Nat) (hd : K10.fn[i]? = some d) (S : FnScope N ps d.scope)
    (hb : ∀ (kV doc pm : Value) (an : Option Addr) (cdv ct : Value) (us : List Value), us.length = ps.length → bindArgs (PySem.W.fnOf d.name d.qual d.params d.body d.scope .none kV doc pm an cdv ct) ⟨us, []⟩ = pure (ps.zip us))
    (len : ∀ vs H Q E, sp vs H Q E → vs.length = ps.length)
    (hbody : ∀ (cdv : Value) (A : Around) (outer : List Env) (s : Shared) (H : Hp) (vs : List V) (Q : VK) (E : XK), Room k (A.deeper (envOfC d.qual d.scope s.heap.objs.size (He.ga K d.name) cdv)) → sp vs H Q E →
      ∃ t, PSs (cxOf CX0 P w K mg base N d.qual d.scope (He.ga K d.name) cdv A outer s H E).nox d.body t ∧ t ⟨fun _ H' => Q .non H', Q, fun _ _ => False, fun _ _ => False⟩ (start N vs) H) :
    Ok1 P w K mg base (k + 1) d.name ps sp := by
  obtain ⟨⟨fd, F⟩, g⟩ := T.fn i d hd
  exact ⟨⟨fd, F.ok S len fun cdv A outer s H vs Q E hr h => (hbody cdv A outer s H vs Q E hr h).elim fun t q => ⟨t, q.1.nox, q.2⟩, F.bindsN hb, F.kp⟩, g⟩
theorem pe_callO {X : Cx} {lvl j : Nat} {x : Str} {ps : List Str} {sp : Sp} {e : Expr} {es : List Expr} {t : TA} {p pos : Pos} (O : Ok1 X.prog X.w X.K X.mg X.base lvl x ps sp) (hr : Room j X.A) (hl : lvl ≤ j) (hg : Gl X x) (ha : PA X (e :: es) t)
    (hdb : (x == ("__debug__" : Str)) = false := by decide) (he : starEach (e :: es) X.env = (false, eval e X.env) :: starEach es X.env := by rfl) (hpl : (backTo pos (starEach es X.env)).any (·.1) = false := by rfl) :
    PE X (.Call (.Name x p) (e :: es) [] pos) (tCall sp [] E0 t) := by
  obtain ⟨⟨fd, F, b, k⟩, g⟩ := O
  exact pe_call F (hr.mono hl) hg g k b .nil pass0 ha hdb he hpl
end

/-! ### short rules -/
abbrev rAddI : R2 := rI0 fun i j => .int (i + j)
abbrev rSubI : R2 := rI0 fun i j => .int (i - j)
abbrev rMulI : R2 := rI CMul fun i j => .int (i * j)
abbrev rModI : R2 := rI (fun _ j => 0 < j) fun i j => .int (i % j)
abbrev rDivI : R2 := rI CDivW fun i j => .int (i / j)
abbrev rPowI : R2 := rI CPow fun i j => .int (i ^ j.toNat)
abbrev rShlI : R2 := rI CPow fun i j => .int (i * 2 ^ j.toNat)
abbrev rAndI : R2 := rI0 fun i j => .int (Builtin.bitAnd i j)
abbrev rLeI : R2 := rI0 fun i j => .bl (decide (i ≤ j))
abbrev rLtI : R2 := rI0 fun i j => .bl (decide (i < j))
abbrev uNeg : V → Hp → VK → Prop := rU fun i => .int (-i)
def rLenQ (K : PySem.W.Frag) : List V → Hp → VK → Prop := fun xs H Q => ∃ p ys, xs = [.ref p] ∧ (SqL K H p ys ∨ SqT K H p ys) ∧ Q (.int ys.length) H
def rListQ (K : PySem.W.Frag) : List V → Hp → VK → Prop := fun xs H Q => ∃ p ys, xs = [.ref p] ∧ (SqL K H p ys ∨ SqT K H p ys) ∧ ∀ l, H l = none → Q (.ref l) (upd H l (.lst ys))
def rTupQ (K : PySem.W.Frag) : List V → Hp → VK → Prop := fun xs H Q => ∃ p ys, xs = [.ref p] ∧ ((SqL K H p ys ∧ ∀ l, H l = none → Q (.ref l) (upd H l (.tup ys))) ∨ (SqT K H p ys ∧ Q (.ref p) H))
def rIntQ : List V → Hp → VK → Prop := fun xs H Q => (∃ i, xs = [.int i] ∧ Q (.int i) H) ∨ ∃ k, xs = [.bl k] ∧ Q (.int (if k then 1 else 0)) H
def rMaxQ : List V → Hp → VK → Prop := fun xs H Q => ∃ i j, xs = [.int i, .int j] ∧ Q (.int (if j > i then j else i)) H
def rMinQ : List V → Hp → VK → Prop := fun xs H Q => ∃ i j, xs = [.int i, .int j] ∧ Q (.int (if j < i then j else i)) H
section
variable {X : Cx}
theorem c_len : CallR X (.builtin "len") (rLenQ X.K) := call_len_seq
theorem c_list : CallR X (.type "list") (rListQ X.K) := call_list_of
theorem c_tuple : CallR X (.type "tuple") (rTupQ X.K) := call_tuple_of
theorem c_int : CallR X (.type "int") rIntQ := call_int1
def tNeverE : TE := fun _ _ _ => False
theorem pe_never {e : Expr} : PE X e tNeverE := ⟨fun _ _ _ _ _ _ h => False.elim h⟩
theorem c_max (hc : X.calm = true) : CallR X (.builtin "max") rMaxQ := call_max2 hc
theorem c_min (hc : X.calm = true) : CallR X (.builtin "min") rMinQ := call_min2 hc
end

/-! ### t[::-1] of a tuple -/
section
variable {prog : Program} {w : World} {A : Around} {E : Value → Shared → Prop} {s : Shared}
theorem fm_congr {α β : Type} {f g : α → Option β} : ∀ l : List α, (∀ x ∈ l, f x = g x) → l.filterMap f = l.filterMap g
  | [], _ => rfl
  | a :: l, h => by
    rw [List.filterMap_cons, List.filterMap_cons, h a (by simp), fm_congr l fun x hx => h x (List.mem_cons_of_mem _ hx)]
theorem picked_back (xs : Array Value) : ((List.range xs.size).filterMap fun (m : Nat) => xs[(((xs.size : Int) - 1) + (m : Int) * (-1)).toNat]?).toArray = xs.toList.reverse.toArray := by
  congr 1
  have key : ∀ l : List Value, (List.range l.length).filterMap (fun (m : Nat) => l[(((l.length : Int) - 1) + (m : Int) * (-1)).toNat]?) = l.reverse := by
    intro l
    have e : (List.range l.length).filterMap (fun (m : Nat) => l[(((l.length : Int) - 1) + (m : Int) * (-1)).toNat]?) = (List.range l.length).filterMap fun (m : Nat) => l.reverse[m]? := by
      refine fm_congr _ fun m hm => ?_
      have hlt := List.mem_range.mp hm
      rw [List.getElem?_reverse hlt]
      congr 1
      omega
    rw [e]
    have g : ∀ r : List Value, (List.range r.length).filterMap (fun (m : Nat) => r[m]?) = r := by
      intro r
      induction r with
      | nil => rfl
      | cons a r ih =>
        rw [List.length_cons, List.range_succ_eq_map, List.filterMap_cons]
        show a :: (List.map Nat.succ (List.range r.length)).filterMap _ = _
        rw [List.filterMap_map]
        exact congrArg (a :: ·) ih
    have h2 := g l.reverse
    rw [List.length_reverse] at h2
    exact h2
  have h3 := key xs.toList
  rw [Array.length_toList] at h3
  simpa using h3
theorem applied_back {sl : Addr} {vs : Value} {n : Nat} {Q : Int × Int × Nat → Shared → Prop} (hs : s.heap.IsSliceOf sl .none .none vs) (ps : PySem.IsPart vs (some (-1)))
    (h : Q ((n : Int) - 1, -1, n) s) : wpAny (model prog w) A (Builtin.Slice.sliceApplied (.ref sl) (pure (n : Int))) Q E s := by
  obtain ⟨os, hos, hcs, hds⟩ := id hs
  unfold Builtin.Slice.sliceApplied Builtin.Slice.sliceFields
  refine wpAny_bind (wpAny_bind (wpAny_field hos hds rfl (wpAny_bind (wpAny_field hos hds rfl (wpAny_bind (wpAny_field hos hds (x := vs) rfl (wpAny_pure ?_)))))))
  refine wpAny_bind (HT.slicePart_ ps ?_)
  show wpAny _ _ (if ((-1 : Int) == 0) = true then _ else _) _ _ s
  rw [if_neg (by decide)]
  refine wpAny_bind (HT.slicePart_ .none (wpAny_bind (HT.slicePart_ .none (wpAny_bind (wpAny_pure ?_)))))
  have e1 : Builtin.Slice.sliceAdjust none none (-1) (n : Int) = ((n : Int) - 1, -1) := by
    rfl
  show wpAny _ _ (match Builtin.Slice.sliceAdjust none none (-1) (n : Int) with | (lo, hi) => pure (lo, (-1 : Int), Builtin.Slice.slicePlaces lo hi (-1))) _ _ s
  rw [e1]
  show wpAny _ _ (pure ((n : Int) - 1, (-1 : Int), Builtin.Slice.slicePlaces ((n : Int) - 1) (-1) (-1))) _ _ s
  have e2 : Builtin.Slice.slicePlaces ((n : Int) - 1) (-1) (-1) = n := by
    unfold Builtin.Slice.slicePlaces
    rw [if_neg (by decide)]
    by_cases hn : n = 0
    · subst hn
      rfl
    · rw [if_pos (by omega), show (-(-1) : Int) = 1 from rfl, Int.ediv_one]
      omega
  rw [e2]
  exact wpAny_pure h
theorem item_back {t sl : Addr} {items : Array Value} {vs : Value} {Q : Value → Shared → Prop} (ht : IsTup s.heap t items) (hs : s.heap.IsSliceOf sl .none .none vs) (ps : PySem.IsPart vs (some (-1)))
    (h : Q (.ref s.heap.objs.size) { s with heap := s.heap.push { cls := .type "tuple", data := .seq items.toList.reverse.toArray } }) (hz : items.size ≤ sizeLine) : wpAny (model prog w) A (getItem (.ref t) (.ref sl)) Q E s := by
  have hok : sizeOk (.seq items.toList.reverse.toArray) := by
    show items.toList.reverse.toArray.size ≤ sizeLine
    rw [List.size_toArray, List.length_reverse, Array.length_toList]
    exact hz
  have tsl : s.TypeIs (.ref sl) "slice" := by
    obtain ⟨os, a1, a2, _⟩ := id hs
    exact ⟨os, a1, a2⟩
  unfold getItem
  try with_reducible refine wpAny_holding ?_
  first | refine wpAny_bind (wpAny_pure ?_) | skip
  refine wpAny_bind (wpAny_sequenceKey ht.typeIs (by decide) ?_)
  refine wpAny_bind (wpAny_callSpecial?_slot (name := Str.ofString "__getitem__") ht.typeIs PyProof.Rows.slot_tuple_getitem (wpAny_call_entry PyProof.Rows.slot_tuple_getitem ht.typeIs entry_tuple_getitem ?_ (args_tuple_getitem _ _)))
  show wpAny _ _ (Builtin.Tuple.tupleItemsOf (.ref t) >>= _) _ _ s
  refine wpAny_bind (tupleItemsOf_ ht (wpAny_bind (wpAny_typeOf tsl ?_)))
  rw [if_pos (by decide)]
  refine wpAny_bind (applied_back hs ps ?_)
  have no : ¬ ((((items.size : Int) - 1) == 0 && (-1 : Int) == 1 && items.size == items.size) = true) := by simp
  show wpAny _ _ (if (((items.size : Int) - 1) == 0 && (-1 : Int) == 1 && items.size == items.size) = true then _ else _) _ _ s
  rw [if_neg no, picked_back]
  first
    | exact wpAny_bind (m := Builtin.Tuple.tupleExact _) (wpAny_newObj_type (wpAny_pure ⟨_, rfl, wpAny_pure h⟩) hok)
    | exact wpAny_bind (m := Builtin.Tuple.tupleExact _) (wpAny_newObj_type (wpAny_bind (wpAny_pure (wpAny_pure ⟨_, rfl, wpAny_pure h⟩))) hok)
    | exact wpAny_bind (wpAny_bind (m := Builtin.Tuple.tupleExact _) (wpAny_newObj_type (wpAny_pure (wpAny_pure ⟨_, rfl, wpAny_pure h⟩)) hok))
    | exact wpAny_bind (wpAny_bind (m := Builtin.Tuple.tupleExact _) (wpAny_newObj_type (wpAny_pure ⟨_, rfl, wpAny_pure h⟩) hok))
end
def tRevT (K : PySem.W.Frag) (te : TE) : TE := fun σ H Q => te σ H fun x H1 => ∃ a xs, x = .ref a ∧ SqT K H1 a xs ∧ ∀ p, H1 p = none → Q (.ref p) (upd H1 p (.tup xs.reverse))
theorem pe_revT {X : Cx} {e : Expr} {te : TE} {k : Nat} {p1 p2 p3 pos : Pos} (he : PE X e te) : PE X (.Subscript e (.Slice none none (some (.UnaryOp .USub (.Constant (.int 1) k p1) p2)) p3) pos) (tRevT X.K te) := by
  refine ⟨fun pins s σ H Q I hw => ?_⟩
  refine Subscript_ (thn (he.run pins s σ H _ I hw) fun v s1 ⟨x, H1, I1, rx, a, xs, ex, hx, q⟩ => ?_)
  subst ex
  cases rx
  have back : PO X (some (.UnaryOp .USub (.Constant (.int 1) k p1) p2)) (tPart (tUn uNeg (tC (.int 1)))) := po_some (pe_un un_neg pe_int)
  refine wpAny_Slice (thn (po_none.run pins s1 σ H1 (fun o G => o = none ∧ G = H1) I1 ⟨rfl, rfl⟩) fun v1 s2 ⟨l, H2, I2, p1', el, eh⟩ => ?_)
  subst el eh
  refine thn (po_none.run pins s2 σ H2 (fun o G => o = none ∧ G = H2) I2 ⟨rfl, rfl⟩) fun v2 s3 ⟨u, H3, I3, p2', eu, eh3⟩ => ?_
  subst eu eh3
  refine thn (back.run pins s3 σ H3 (fun o G => o = some (-1) ∧ G = H3) I3 ⟨1, rfl, -1, rfl, rfl, rfl⟩) fun v3 s4 ⟨o, H4, I4, p3', eo, eh4⟩ => ?_
  subst eo eh4
  have J : Inv X pins σ H4 { s4 with heap := s4.heap.push { cls := .type "slice", data := .fields #[v1, v2, v3] } } := I4.kept (t' := s4.toks) fun b ob z => Heap.get?_push_of_some _ z
  obtain ⟨its, r, ht, hz⟩ := J.tuple hx
  have hlen := r.length
  have e1 : v1 = Value.none := by cases p1'; rfl
  have e2 : v2 = Value.none := by cases p2'; rfl
  show wpAny (model X.prog X.w) X.A (subscriptTail e (.Slice none none (some (.UnaryOp .USub (.Constant (.int 1) k p1) p2)) p3) (.ref a) (.ref s4.heap.objs.size)) (EP X pins σ Q) X.xe { s4 with heap := s4.heap.push { cls := .type "slice", data := .fields #[v1, v2, v3] } }
  refine tail_any (ops := [.ref a, .ref s4.heap.objs.size]) ht.typeIs PyProof.Rows.slot_tuple_getitem.lookup ?_ (by with_unfolding_all rfl)
  have sl := Heap.IsSliceOf.new s4.heap v1 v2 v3
  rw [e1, e2] at sl ⊢
  rw [e1, e2] at J ht
  refine item_back ht sl p3' ?_ (by rw [List.size_toArray]; omega)
  refine ⟨.ref _, _, J.laid (t' := s4.toks) (o := .tup xs.reverse) (fun b ob z => Heap.get?_push_of_some _ z) (Nat.le_refl _) ?_, rfl, q _ (J.hok.fresh (Nat.le_refl _))⟩
  refine ⟨by rw [List.length_reverse]; exact hz, its.reverse, r.reverse, ?_⟩
  exact ⟨_, Heap.get?_push_size _ rfl, rfl, 0, by simp⟩
end K10

set_option Elab.async false
set_option linter.all false
set_option maxRecDepth 100000
set_option maxHeartbeats 4000000
/-! K10Zip: zip of a tuple and a list -/
namespace K10
open PySem PySem.Spec PyProof.Rows L2
/-- the tuple at a and the list at b as they stand at each turn -/
def ItzM (K : PySem.W.Frag) (a b : Addr) : It :=
  ⟨fun i H => ∃ (xs ys : List V) (x y : V), SqT K H a xs ∧ SqL K H b ys ∧ xs[i]? = some x ∧ ys[i]? = some y,
    fun i H v H' => ∃ t x y, v = .ref t ∧ H t = none ∧ H' = upd H t (.tup [x, y]) ∧ (∀ xs, SqT K H a xs → xs[i]? = some x) ∧ ∀ ys, SqL K H b ys → ys[i]? = some y,
    fun i H => ∃ xs ys : List V, SqT K H a xs ∧ SqL K H b ys ∧ xs.length = i ∧ ys.length = i⟩
theorem sep_of {z tI tO i1 i2 a b : Addr} (D : ZipApart z tI tO i1 i2 a b) : ZipSep2 z tI tO i1 i2 [i1, a] [i2, b] where
  TIz := D.TIz
  TOz := D.TOz
  TITO := D.TITO
  TIi1 := D.TIi1
  mem1 := by simp
  zf1 := by simp [D.i1z.symm, D.l1z.symm]
  Tf1 := by simp [D.TOi1, D.l1TO.symm]
  TIi2 := D.TIi2
  mem2 := by simp
  zf2 := by simp [D.i2z.symm, D.l2z.symm]
  Tf2 := by simp [D.TOi2, D.l2TO.symm]
  sep1_2 := by simp [D.i12, D.l2i1.symm]
  sep2_1 := by simp [D.i12.symm, D.l1i2.symm]
def ZipTn (z tI tO i1 i2 a b : Addr) (i : Nat) (h : Heap) : Prop := IsZip h z tI tO .none ∧ IsPair h tI (.ref i1) (.ref i2) ∧ (∃ x y, IsPair h tO x y) ∧ h.IsTupleIter i1 a i ∧ h.IsListIter i2 b i
theorem turn_zipM {P : Program} {w : World} {K : PySem.W.Frag} {elts : List Expr} {kk : Nat} {tpos : Pos} {a b z tI tO i1 i2 : Addr} (D : ZipApart z tI tO i1 i2 a b) : Turn P w K (.Tuple elts kk tpos) (ItzM K a b) [z, tI, tO, i1, i2] z (ZipTn z tI tO i1 i2 a b) where
  mem := by simp
  obj := fun i h st c hc => by
    obtain ⟨g1, g2, ⟨x, y, g3⟩, ⟨o1, e1, _, d1⟩, ⟨o2, e2, _, d2⟩⟩ := st
    rcases (show c = z ∨ c = tI ∨ c = tO ∨ c = i1 ∨ c = i2 by simpa using hc) with rfl | rfl | rfl | rfl | rfl
    · exact ⟨_, g1, fun v q => nomatch q⟩
    · exact ⟨_, g2, fun v q => nomatch q⟩
    · exact ⟨_, g3, fun v q => nomatch q⟩
    · exact ⟨o1, e1, fun v q => by rw [d1] at q; cases q⟩
    · exact ⟨o2, e2, fun v q => by rw [d2] at q; cases q⟩
  keep := fun i h h' st k => by
    obtain ⟨g1, g2, ⟨x, y, g3⟩, g4, g5⟩ := st
    exact ⟨k z (by simp) _ g1, k tI (by simp) _ g2, ⟨x, y, k tO (by simp) _ g3⟩, g4.at fun o q => k i1 (by simp) o q, g5.at fun o q => k i2 (by simp) o q⟩
  item := by
    intro X hP hw hK hc i pins s σ H E I hf st hg
    subst hP hw hK
    obtain ⟨g1, g2, ⟨x0, y0, g3⟩, g4, g5⟩ := st
    obtain ⟨xs, ys, x, y, hqx, hqy, hx, hy⟩ := hg
    obtain ⟨its, rv, p, _⟩ := I.tuple hqx
    obtain ⟨its2, rv2, p2, _⟩ := I.list hqy
    obtain ⟨u, hu, ru⟩ := rv.get hx
    obtain ⟨u2, hu2, ru2⟩ := rv2.get hy
    have hh : X.A.in1.handled = none := I.ok.hd hc
    have lt1 : i < its.toArray.size := by simpa using (List.getElem?_eq_some_iff.mp hu).1
    have lt2 : i < its2.toArray.size := by simpa using (List.getElem?_eq_some_iff.mp hu2).1
    have all_lt : ∀ c ∈ [z, tI, tO, i1, i2], c < s.heap.objs.size := fun c hcm => by
      obtain ⟨o1, e1, _⟩ := g4
      obtain ⟨o2, e2, _⟩ := g5
      rcases (show c = z ∨ c = tI ∨ c = tO ∨ c = i1 ∨ c = i2 by simpa using hcm) with rfl | rfl | rfl | rfl | rfl
      · exact Heap.lt_size g1
      · exact Heap.lt_size g2
      · exact Heap.lt_size g3
      · exact Heap.lt_size e1
      · exact Heap.lt_size e2
    refine wpAny_pyNext_zipD2_item (sep_of D) (Draws.tuple hh i1 a D.l1i1 its.toArray) (Draws.list hh i2 b D.l2i2 its2.toArray) g1 g2 g3 ⟨g4, p⟩ ⟨g5, p2.isList⟩ lt1 lt2 fun x1 x2 h' tk y1 y2 z' tO' st1 st2 hT hsz hk => ?_
    have ex1 : u = x1 := by
      have y1 : its.toArray[i]? = some x1 := y1
      rw [show its.toArray[i]? = some u by simpa using hu] at y1
      exact Option.some.inj y1
    have ex2 : u2 = x2 := by
      have y2 : its2.toArray[i]? = some x2 := y2
      rw [show its2.toArray[i]? = some u2 by simpa using hu2] at y2
      exact Option.some.inj y2
    subst ex1 ex2
    refine ⟨_, rfl, wpAny_letOwnedTupleGo_zip (s := { s with heap := h', toks := tk }) z' fun h2 z2 sb => ?_⟩
    have hzl : z < s.heap.objs.size := all_lt z (by simp)
    have hT2 : h2.get? s.heap.objs.size = some { cls := .type "tuple", data := .seq #[u, u2] } := (sb.2 _ (Nat.ne_of_gt hzl)).trans hT
    have new : ObjOk X.prog X.w (upd H s.heap.objs.size (.tup [x, y])) h2 s.heap.objs.size (.tup [x, y]) := ⟨by show 2 ≤ sizeLine; decide, [u, u2], .cons ru (.cons ru2 .nil), ⟨_, hT2, rfl, _, rfl⟩⟩
    have I1 : Inv X pins σ (upd H s.heap.objs.size (.tup [x, y])) { s with heap := h2, toks := tk } :=
      I.turnedNew (t' := tk) (ch := [z, tI, tO, i1, i2]) (fun c o hb q => by
        have n : c ≠ z ∧ c ≠ tI ∧ c ≠ tO ∧ c ≠ i1 ∧ c ≠ i2 := by simpa using hb
        exact (sb.2 c n.1).trans (hk c o n.1 n.2.2.1 n.2.2.2.1 n.2.2.2.2 q)) hf (Nat.le_refl _) new
    refine ⟨.ref s.heap.objs.size, _, I1, rfl, ⟨_, x, y, rfl, I.hok.fresh (Nat.le_refl _), rfl, fun l hl => by rw [I.tuple_inj hl hqx]; exact hx, fun l hl => by rw [I.list_inj hl hqy]; exact hy⟩, ⟨z2, ?_, ⟨u, u2, ?_⟩, ?_, ?_⟩, fun c hcm => ?_⟩
    · exact (sb.2 _ D.TIz).trans (hk _ _ D.TIz D.TITO D.TIi1 D.TIi2 g2)
    · exact (sb.2 _ D.TOz).trans tO'
    · exact st1.1.at fun o q => (sb.2 _ D.i1z).trans q
    · exact st2.1.at fun o q => (sb.2 _ D.i2z).trans q
    · rw [upd_ne (Nat.ne_of_lt (all_lt c hcm))]
      exact (hf c hcm).1
  done := by
    intro X hP hw hK hc i pins s σ H E I hf st hg
    subst hP hw hK
    obtain ⟨g1, g2, ⟨x0, y0, g3⟩, g4, g5⟩ := st
    obtain ⟨xs, ys, hqx, hqy, hl1, hl2⟩ := hg
    obtain ⟨its, rv, p, _⟩ := I.tuple hqx
    obtain ⟨its2, rv2, p2, _⟩ := I.list hqy
    have l1 := rv.length
    have l2 := rv2.length
    have hh : X.A.in1.handled = none := I.ok.hd hc
    refine wpAny_pyNext_zipD2_end (i := i) (sep_of D) (Draws.tuple hh i1 a D.l1i1 its.toArray) (Draws.list hh i2 b D.l2i2 its2.toArray) g1 g2 g3 ⟨g4, p⟩ ⟨g5, p2.isList⟩ (by simp; omega) (by simp; omega) (.inl (by simp; omega)) fun h' tk hk => ⟨rfl, ?_⟩
    exact I.turnedL (t' := tk) (ch := [z, tI, tO, i1, i2]) (fun c o hb q => by
      have n : c ≠ z ∧ c ≠ tI ∧ c ≠ tO ∧ c ≠ i1 ∧ c ≠ i2 := by simpa using hb
      exact hk c o n.1 n.2.2.1 n.2.2.2.1 n.2.2.2.2 q) hf
  self := fun A i s Q E st h => wpAny_pyIter_zip st.1 h
def iZipM (K : PySem.W.Frag) (ta : TA) : TI := fun σ H R => ta σ H fun vs H1 => ∃ a b xs ys, vs = [.ref a, .ref b] ∧ SqT K H1 a xs ∧ SqL K H1 b ys ∧ R (ItzM K a b) H1
theorem pi_zipM {X : Cx} {e e2 : Expr} {ta : TA} {p pos tpos : Pos} {elts : List Expr} {kk : Nat} (hg : Gl X "zip") (hm : X.mg "zip" = none) (ha : PA X [e, e2] ta) (hs : starEach [e, e2] X.env = (false, eval e X.env) :: starEach [e2] X.env := by rfl)
    (hpl : (backTo pos (starEach [e2] X.env)).any (·.1) = false := by rfl) : PI X (.Tuple elts kk tpos) (.Call (.Name "zip" p) [e, e2] [] pos) (iZipM X.K ta) := by
  refine ⟨fun pins s σ H R I h => ?_⟩
  refine Call_ (ld_blt I hg hm PyProof.Rows.boot_zip (PyProof.Rows.callWith_type1 (thn (ha.run pos pins s σ H _ I h) fun us s1 ⟨vs, H1, I1, r1, q1⟩ => ?_) hs hpl))
  obtain ⟨a, b, xs, ys, ex, hqx, hqy, q⟩ := q1
  subst ex
  obtain ⟨rfl⟩ : us = [.ref a, .ref b] := by
    cases r1 with
    | cons r rr =>
      cases rr with
      | cons r' rr =>
        cases rr
        cases r
        cases r'
        rfl
  obtain ⟨its, rv, p1, _⟩ := I1.tuple hqx
  obtain ⟨its2, rv2, p2, _⟩ := I1.list hqy
  obtain ⟨o1, ho1, _⟩ := id p1
  have news : ∀ c, c ∈ [s1.heap.objs.size + 4, s1.heap.objs.size + 2, s1.heap.objs.size + 3, s1.heap.objs.size, s1.heap.objs.size + 1] → FpOk X pins H1 c := fun c hcm => by
    have hle : s1.heap.objs.size ≤ c := by
      simp at hcm
      omega
    exact I1.fpOk hle (I1.hok.fresh hle)
  refine zip_begins2 (begins_tuple a its.toArray) (begins_list b its2.toArray) p1 p2.isList fun h' hz hTI hTO h1 h2 hsz hk => wpAny_pyIter_zip hz ?_
  have I2 : Inv X pins σ H1 { s1 with heap := h' } := I1.kept (t' := s1.toks) hk
  exact ⟨s1.heap.objs.size + 4, [s1.heap.objs.size + 4, s1.heap.objs.size + 2, s1.heap.objs.size + 3, s1.heap.objs.size, s1.heap.objs.size + 1], _, _, H1, rfl, I2, turn_zipM (PySem.W.ktu_apart s1.heap.objs.size a b (Heap.lt_size ho1) p2.lt), ⟨hz, hTI, ⟨_, _, hTO⟩, ⟨_, h1, rfl, rfl⟩, ⟨_, h2, rfl, rfl⟩⟩, news, q⟩
end K10

set_option Elab.async false
set_option linter.all false
set_option maxRecDepth 100000
set_option maxHeartbeats 4000000
/-! K10Ev: what readings evaluate to, more rules over Evl -/
namespace K10
open PySem PySem.Spec PyProof.Rows L2 Evl
section
variable {K : PySem.W.Frag} {σ : L2.St} {H H' : Hp} {ta tb tc te : TE} {t u : TT} {x y z v : V} {i j : Int} {D : Ends} {tu tw tz : TS}

/-! ### numbers -/
theorem e_add (a : Ev ta σ H (.int i)) (b : Ev tb σ H (.int j)) : Ev (tOp rAddI ta tb) σ H (.int (i + j)) := ev_op a b rv_I0
theorem e_sub (a : Ev ta σ H (.int i)) (b : Ev tb σ H (.int j)) : Ev (tOp rSubI ta tb) σ H (.int (i - j)) := ev_op a b rv_I0
theorem e_and (a : Ev ta σ H (.int i)) (b : Ev tb σ H (.int j)) : Ev (tOp rAndI ta tb) σ H (.int (Builtin.bitAnd i j)) := ev_op a b rv_I0
theorem e_mul (a : Ev ta σ H (.int i)) (b : Ev tb σ H (.int j)) (c : CMul i j) : Ev (tOp rMulI ta tb) σ H (.int (i * j)) := ev_op a b (rv_I c)
theorem e_mod (a : Ev ta σ H (.int i)) (b : Ev tb σ H (.int j)) (c : 0 < j) : Ev (tOp rModI ta tb) σ H (.int (i % j)) := ev_op a b (rv_I (C := fun _ j => 0 < j) c)
theorem e_div (a : Ev ta σ H (.int i)) (b : Ev tb σ H (.int j)) (c : CDivW i j) : Ev (tOp rDivI ta tb) σ H (.int (i / j)) := ev_op a b (rv_I c)
theorem e_pow (a : Ev ta σ H (.int i)) (b : Ev tb σ H (.int j)) (c : CPow i j) : Ev (tOp rPowI ta tb) σ H (.int (i ^ j.toNat)) := ev_op a b (rv_I c)
theorem e_shl (a : Ev ta σ H (.int i)) (b : Ev tb σ H (.int j)) (c : CPow i j) : Ev (tOp rShlI ta tb) σ H (.int (i * 2 ^ j.toNat)) := ev_op a b (rv_I c)
theorem e_neg (a : Ev ta σ H (.int i)) : Ev (tUn uNeg ta) σ H (.int (-i)) := ev_un a ru_neg
theorem e_cmp {p : Int → Int → Bool} (a : Ev ta σ H (.int i)) (b : Ev tb σ H (.int j)) : Ev (tCmp p ta tb) σ H (.bl (p i j)) := fun H1 e Q q =>
  a H1 e _ fun H2 e2 => b H2 (e.trans e2) _ fun H3 e3 => ⟨i, j, rfl, rfl, q H3 (e2.trans e3)⟩
theorem e_isN (a : Ev ta σ H x) : Ev (tIsN ta) σ H (.bl (decide (x = .non))) := fun H1 e Q q => a H1 e _ fun H2 e2 => q H2 e2
theorem e_notN (a : Ev ta σ H x) : Ev (tNotN ta) σ H (.bl (!decide (x = .non))) := fun H1 e Q q => a H1 e _ fun H2 e2 => q H2 e2
theorem e_eqS (a : Ev ta σ H x) (b : Ev tb σ H y) (c : scal x y = true) : Ev (tOp rEq ta tb) σ H (.bl (decide (x = y))) := ev_op a b (rv_eq c)
theorem e_neS (a : Ev ta σ H x) (b : Ev tb σ H y) (c : scal x y = true) : Ev (tOp rNe ta tb) σ H (.bl (!decide (x = y))) := ev_op a b (rv_ne c)
theorem e_chain {k : Int} (a : Ev ta σ H (.int i)) (b : Ev tb σ H (.int j)) (c : Ev tc σ H (.int k)) : Ev (tChain rLeI rLeI ta tb tc) σ H (.bl (decide (i ≤ j) && decide (j ≤ k))) := fun H1 e Q q =>
  a H1 e _ fun H2 e2 => b H2 (e.trans e2) _ fun H3 e3 => ⟨i, j, rfl, rfl, decide (i ≤ j), rfl, by
    cases h : decide (i ≤ j) with
    | true =>
      rw [if_pos rfl]
      exact c H3 ((e.trans e2).trans e3) _ fun H4 e4 => ⟨j, k, rfl, rfl, by
        rw [h] at q
        exact q H4 ((e2.trans e3).trans e4)⟩
    | false =>
      rw [if_neg Bool.false_ne_true]
      rw [h] at q
      exact q H3 (e2.trans e3)⟩
theorem e_chainLt {k : Int} (a : Ev ta σ H (.int i)) (b : Ev tb σ H (.int j)) (c : Ev tc σ H (.int k)) : Ev (tChain rLeI rLtI ta tb tc) σ H (.bl (decide (i ≤ j) && decide (j < k))) := fun H1 e Q q =>
  a H1 e _ fun H2 e2 => b H2 (e.trans e2) _ fun H3 e3 => ⟨i, j, rfl, rfl, decide (i ≤ j), rfl, by
    cases h : decide (i ≤ j) with
    | true =>
      rw [if_pos rfl]
      exact c H3 ((e.trans e2).trans e3) _ fun H4 e4 => ⟨j, k, rfl, rfl, by
        rw [h] at q
        exact q H4 ((e2.trans e3).trans e4)⟩
    | false =>
      rw [if_neg Bool.false_ne_true]
      rw [h] at q
      exact q H3 (e2.trans e3)⟩
theorem e_bits (a : Ev ta σ H (.int i)) : Ev (tBits ta) σ H (.int (Builtin.Int.intBits i : Nat)) := fun H1 e Q q => a H1 e _ fun H2 e2 => ⟨i, rfl, q H2 e2⟩
/-! ### assignments -/
theorem q_par {a b : Nat} {ta : TA} (h : EvA ta σ H [x, y]) (k : ∀ H1, Ex H H1 → tz D ((σ.set a (some x)).set b (some y)) H1) : tSeq (tPar a b ta) tz D σ H := h H (Ex.refl H) _ fun H1 e => ⟨x, y, rfl, k H1 e⟩
theorem s_par {a b : Nat} {ta : TA} (h : EvA ta σ H [x, y]) (k : ∀ H1, Ex H H1 → D.nx ((σ.set a (some x)).set b (some y)) H1) : tPar a b ta D σ H := h H (Ex.refl H) _ fun H1 e => ⟨x, y, rfl, k H1 e⟩
theorem q_par3 {a b c : Nat} {ta : TA} (h : EvA ta σ H [x, y, z]) (k : ∀ H1, Ex H H1 → tz D (((σ.set a (some x)).set b (some y)).set c (some z)) H1) : tSeq (tPar3 a b c ta) tz D σ H := h H (Ex.refl H) _ fun H1 e => ⟨x, y, z, rfl, k H1 e⟩
/-! ### items, lengths -/
theorem e_ixL {p : Addr} {xs : List V} (a : Ev ta σ H (.ref p)) (b : Ev tb σ H (.int i)) (h : SqL K H p xs) (g : atI xs i = some v) : Ev (tOp (rIx K) ta tb) σ H v := fun H1 e Q q =>
  a H1 e _ fun H2 e2 => b H2 (e.trans e2) _ fun H3 e3 => .inl ⟨p, xs, i, v, rfl, rfl, ex_l ((e.trans e2).trans e3) h, g, q H3 (e2.trans e3)⟩
theorem e_ixT {p : Addr} {xs : List V} (a : Ev ta σ H (.ref p)) (b : Ev tb σ H (.int i)) (h : SqT K H p xs) (g : atI xs i = some v) : Ev (tOp (rIx K) ta tb) σ H v := fun H1 e Q q =>
  a H1 e _ fun H2 e2 => b H2 (e.trans e2) _ fun H3 e3 => .inr (.inl ⟨p, xs, i, v, rfl, rfl, ex_t ((e.trans e2).trans e3) h, g, q H3 (e2.trans e3)⟩)
def SqA (K : PySem.W.Frag) (H : Hp) (p : Addr) (xs : List V) : Prop := SqL K H p xs ∨ SqT K H p xs
theorem SqA.ex {p : Addr} {xs : List V} (e : Ex H H') (h : SqA K H p xs) : SqA K H' p xs := h.elim (fun z => .inl (ex_l e z)) fun z => .inr (ex_t e z)
theorem e_ixA {p : Addr} {xs : List V} (a : Ev ta σ H (.ref p)) (b : Ev tb σ H (.int i)) (h : SqA K H p xs) (g : atI xs i = some v) : Ev (tOp (rIx K) ta tb) σ H v := h.elim (fun z => e_ixL a b z g) fun z => e_ixT a b z g
theorem e_len {p : Addr} {xs : List V} (a : Ev ta σ H (.ref p)) (h : SqA K H p xs) : Ev (tCB (rLenQ K) (tCons ta tNil)) σ H (.int (xs.length : Int)) := fun H1 e Q q =>
  a H1 e _ fun H2 e2 => ⟨p, xs, rfl, SqA.ex (e.trans e2) h, q H2 e2⟩
theorem e_lenL {xs : List V} (a : EvL ta σ H xs) : Ev (tCB (rLenQ K) (tCons ta tNil)) σ H (.int (xs.length : Int)) := fun H1 e Q q =>
  a H1 e _ fun p H2 _ e2 h => ⟨p, xs, rfl, .inl (sq_of h), q H2 e2⟩
/-- a tuple at an address, new or not -/
def EvS (K : PySem.W.Frag) (te : TE) (σ : L2.St) (H : Hp) (xs : List V) : Prop := ∀ H1, Ex H H1 → ∀ Q : VK, (∀ p H2, Ex H1 H2 → SqT K H2 p xs → Q (.ref p) H2) → te σ H1 Q
theorem EvS.mono {xs : List V} (e : Ex H H') (h : EvS K te σ H xs) : EvS K te σ H' xs := fun H1 a Q q => h H1 (e.trans a) Q q
theorem EvU.mono' {xs : List V} (e : Ex H H') (h : EvU te σ H xs) : EvU te σ H' xs := fun H1 a Q q => h H1 (e.trans a) Q q
theorem EvU.s {xs : List V} (h : EvU te σ H xs) : EvS K te σ H xs := fun H1 e Q q => h H1 e Q fun p H2 _ e2 g => q p H2 e2 (st_of g)
theorem es_of {p : Addr} {xs : List V} (a : Ev te σ H (.ref p)) (h : SqT K H p xs) : EvS K te σ H xs := fun H1 e Q q => a H1 e Q fun H2 e2 => q p H2 e2 (ex_t (e.trans e2) h)
theorem e_lenS {xs : List V} (a : EvS K ta σ H xs) : Ev (tCB (rLenQ K) (tCons ta tNil)) σ H (.int (xs.length : Int)) := fun H1 e Q q =>
  a H1 e _ fun p H2 e2 h => ⟨p, xs, rfl, .inr h, q H2 e2⟩
theorem e_ixS {xs : List V} (a : EvS K ta σ H xs) (b : Ev tb σ H (.int i)) (g : atI xs i = some v) : Ev (tOp (rIx K) ta tb) σ H v := fun H1 e Q q =>
  a H1 e _ fun p H2 e2 h => b H2 (e.trans e2) _ fun H3 e3 => .inr (.inl ⟨p, xs, i, v, rfl, rfl, ex_t e3 h, g, q H3 (e2.trans e3)⟩)
/-- tuple(list), tuple(tuple), list(..) -/
theorem eu_tupL {xs : List V} (a : EvL ta σ H xs) : EvU (tCB (rTupQ K) (tCons ta tNil)) σ H xs := fun H1 e Q q =>
  a H1 e _ fun p H2 _ e2 h => ⟨p, xs, rfl, .inl ⟨sq_of h, fun l hl => q l _ (fresh_back e2 hl) (e2.trans (Ex.new hl)) upd_same⟩⟩
theorem eu_tupL' {p : Addr} {xs : List V} (a : Ev ta σ H (.ref p)) (h : SqL K H p xs) : EvU (tCB (rTupQ K) (tCons ta tNil)) σ H xs := fun H1 e Q q =>
  a H1 e _ fun H2 e2 => ⟨p, xs, rfl, .inl ⟨ex_l (e.trans e2) h, fun l hl => q l _ (fresh_back e2 hl) (e2.trans (Ex.new hl)) upd_same⟩⟩
theorem es_tupS {xs : List V} (a : EvS K ta σ H xs) : EvS K (tCB (rTupQ K) (tCons ta tNil)) σ H xs := fun H1 e Q q =>
  a H1 e _ fun p H2 e2 h => ⟨p, xs, rfl, .inr ⟨h, q p H2 e2 h⟩⟩
theorem el_listA {p : Addr} {xs : List V} (a : Ev ta σ H (.ref p)) (h : SqA K H p xs) : EvL (tCB (rListQ K) (tCons ta tNil)) σ H xs := fun H1 e Q q =>
  a H1 e _ fun H2 e2 => ⟨p, xs, rfl, SqA.ex (e.trans e2) h, fun l hl => q l _ (fresh_back e2 hl) (e2.trans (Ex.new hl)) upd_same⟩
theorem e_intI (a : Ev ta σ H (.int i)) : Ev (tCB rIntQ (tCons ta tNil)) σ H (.int i) := fun H1 e Q q => a H1 e _ fun H2 e2 => .inl ⟨i, rfl, q H2 e2⟩
theorem e_intB {k : Bool} (a : Ev ta σ H (.bl k)) : Ev (tCB rIntQ (tCons ta tNil)) σ H (.int (if k then 1 else 0)) := fun H1 e Q q => a H1 e _ fun H2 e2 => .inr ⟨k, rfl, q H2 e2⟩
theorem e_max (a : Ev ta σ H (.int i)) (b : Ev tb σ H (.int j)) : Ev (tCB rMaxQ (tCons ta (tCons tb tNil))) σ H (.int (if j > i then j else i)) := fun H1 e Q q =>
  a H1 e _ fun H2 e2 => b H2 (e.trans e2) _ fun H3 e3 => ⟨i, j, rfl, q H3 (e2.trans e3)⟩
theorem e_min (a : Ev ta σ H (.int i)) (b : Ev tb σ H (.int j)) : Ev (tCB rMinQ (tCons ta (tCons tb tNil))) σ H (.int (if j < i then j else i)) := fun H1 e Q q =>
  a H1 e _ fun H2 e2 => b H2 (e.trans e2) _ fun H3 e3 => ⟨i, j, rfl, q H3 (e2.trans e3)⟩
theorem e_sum {ns : List Int} (a : EvL ta σ H (ns.map V.int)) : Ev (tCB (rSum K) (tCons ta tNil)) σ H (.int ns.sum) := fun H1 e Q q =>
  a H1 e _ fun p H2 _ e2 h => ⟨p, ns, rfl, sq_of h, q H2 e2⟩
theorem e_all {bs : List Bool} (a : EvL ta σ H (bs.map V.bl)) : Ev (tCB (rAll K) (tCons ta tNil)) σ H (.bl (bs.all id)) := fun H1 e Q q =>
  a H1 e _ fun p H2 _ e2 h => ⟨p, bs, rfl, sq_of h, q H2 e2⟩
theorem e_any {bs : List Bool} (a : EvL ta σ H (bs.map V.bl)) : Ev (tCB (rAny K) (tCons ta tNil)) σ H (.bl (bs.any id)) := fun H1 e Q q =>
  a H1 e _ fun p H2 _ e2 h => ⟨p, bs, rfl, sq_of h, q H2 e2⟩
/-! ### in -/
theorem e_inT {p : Addr} {xs : List V} (a : Ev ta σ H x) (b : Ev tb σ H (.ref p)) (h : SqT K H p xs) (hx : flatV x = true) (ha : xs.all flatV = true) : Ev (tOp (rIn K false) ta tb) σ H (.bl (inV x xs)) := ev_op a b (rv_isT h hx ha)
theorem e_inU {xs : List V} (a : Ev ta σ H x) (b : EvU tb σ H xs) (hx : flatV x = true) (ha : xs.all flatV = true) : Ev (tOp (rIn K false) ta tb) σ H (.bl (inV x xs)) := ev_inU a b hx ha
/-! ### loops, comprehensions -/
theorem s_forRg {ta : TA} {k : Nat} {n : Int} (h : EvA ta σ H [.int n]) (hn : -100000 ≤ n ∧ n ≤ 100000) (Pv : Nat → L2.St → Hp → Prop) (h0 : ∀ H1, Ex H H1 → Pv 0 σ H1)
    (hs : ∀ (m : Nat) σ' G, m < n.toNat → Pv m σ' G → tu { D with nx := Pv (m + 1), ct := Pv (m + 1), bk := D.nx } (σ'.set k (some (.int (m : Int)))) G) (hd : ∀ σ' G, Pv n.toNat σ' G → D.nx σ' G) : tFor (iRng1 ta) (gName k) tu D σ H :=
  h H (Ex.refl H) _ fun H1 e => ⟨n, rfl, by omega, by omega, for_range (lo := 0) Pv (h0 H1 e) (fun m σ' G hm p => by
    have z : (0 : Int) + (m : Int) = (m : Int) := Int.zero_add _
    show tu { D with nx := Pv (m + 1), ct := Pv (m + 1), bk := D.nx } (σ'.set k (some (.int ((0 : Int) + (m : Int))))) G
    rw [z]
    exact hs m σ' G hm p) hd⟩
theorem q_forRg {ta : TA} {k : Nat} {n : Int} (h : EvA ta σ H [.int n]) (hn : -100000 ≤ n ∧ n ≤ 100000) (Pv : Nat → L2.St → Hp → Prop) (h0 : ∀ H1, Ex H H1 → Pv 0 σ H1)
    (hs : ∀ (m : Nat) σ' G, m < n.toNat → Pv m σ' G → tu { D with nx := Pv (m + 1), ct := Pv (m + 1), bk := tz D } (σ'.set k (some (.int (m : Int)))) G) (hd : ∀ σ' G, Pv n.toNat σ' G → tz D σ' G) : tSeq (tFor (iRng1 ta) (gName k) tu) tz D σ H :=
  s_forRg (D := { D with nx := tz D }) h hn Pv h0 hs hd
/-- over reversed(a tuple) -/
theorem q_forRev {p : Addr} {xs : List V} {k : Nat} (h : Ev te σ H (.ref p)) (hx : SqT K H p xs) (Pv : Nat → L2.St → Hp → Prop) (h0 : ∀ H1, Ex H H1 → Pv 0 σ H1) (hk : ∀ m σ' G, m ≤ xs.length → Pv m σ' G → Ex H G)
    (hs : ∀ (m : Nat) (y : V) σ' G, xs[xs.length - 1 - m]? = some y → m < xs.length → Pv m σ' G → tu { D with nx := Pv (m + 1), ct := Pv (m + 1), bk := tz D } (σ'.set k (some y)) G) (hd : ∀ σ' G, Pv xs.length σ' G → tz D σ' G) : tSeq (tFor (RT.iRevA K te) (gName k) tu) tz D σ H :=
  h H (Ex.refl H) _ fun H1 e => ⟨p, xs, rfl, .inr ⟨ex_t e hx, fun m n σ' G => m + n = xs.length ∧ Pv m σ' G, ⟨xs.length, Nat.zero_add _, h0 H1 e⟩, fun m n σ' G hW => by
    obtain ⟨hm, hp⟩ := hW
    have hT := ex_t (hk m σ' G (by omega) hp) hx
    by_cases hlt : m < xs.length
    · have hi : xs.length - 1 - m < xs.length := by omega
      refine .inr ⟨⟨hlt, xs, xs[xs.length - 1 - m], hT, List.getElem?_eq_getElem hi⟩, fun σ2 G2 => Pv (m + 1) σ2 G2, fun σ2 G2 hq => ⟨n - 1, by omega, by omega, hq⟩, fun y G' hy => ?_⟩
      obtain ⟨rfl, g⟩ := hy
      exact hs m y σ' _ (g xs hT) hlt hp
    · have em : m = xs.length := by omega
      subst em
      exact .inl ⟨Nat.le_refl _, hd σ' G hp⟩⟩⟩
theorem given_all (n : Nat) (f : Nat → V) : given n (fun _ => true) f = (List.range n).map f := by
  unfold given
  rw [List.filter_eq_self.mpr (fun _ _ => rfl)]
theorem given_map (xs : List V) (g : V → V) : given xs.length (fun _ => true) (fun i => g (xs.getD i .non)) = xs.map g := by
  rw [given_all]
  refine List.ext_getElem? fun k => ?_
  rw [List.getElem?_map, List.getElem?_map]
  by_cases h : k < xs.length
  · rw [List.getElem?_range h, List.getElem?_eq_getElem h]
    show some (g (xs.getD k .non)) = some (g xs[k])
    rw [List.getD_eq_getElem?_getD, List.getElem?_eq_getElem h]
    rfl
  · rw [List.getElem?_eq_none (by rw [List.length_range]; omega), List.getElem?_eq_none (by omega)]
    rfl
theorem el_lcT {p : Addr} {xs : List V} {tl : TE} {k : Nat} {vs : List Nat} (f : Nat → Bool) (g : Nat → V) (h : Ev tl σ H (.ref p)) (hx : SqT K H p xs) (hz : xs.length ≤ 40000) (hw : ∀ x, wipe ((wipe σ vs).set k (some x)) vs = wipe σ vs)
    (ht : ∀ (m : Nat) (y : V) H1, Ex H H1 → xs[m]? = some y → EvT t ((wipe σ vs).set k (some y)) H1 (f m)) (he : ∀ (m : Nat) (y : V) H1, Ex H H1 → xs[m]? = some y → f m = true → Ev te ((wipe σ vs).set k (some y)) H1 (g m)) :
    EvL (tLc (iTup K tl) (gName k) t te vs) σ H (given xs.length f g) := fun H0 e Q q => h H0 e _ fun H1 e1 => ⟨p, rfl, ⟨xs, ex_t (e.trans e1) hx⟩, fun L hL =>
  lc_tup (xs := xs) (Cw H1 f g L) ⟨hL, Ex.new hL, upd_same⟩ (fun m G _ w => ex_t ((e.trans e1).trans w.2.1) hx) (fun m y G hm w => ⟨hw y, cw_turn w (by have := (List.getElem?_eq_some_iff.mp hm).1; omega) (ht m y H1 (e.trans e1) hm) (fun hf => he m y H1 (e.trans e1) hm hf)⟩)
    (fun G w => q L G (fresh_back e1 w.1) (e1.trans w.2.1) w.2.2)⟩
theorem et_yes : EvT tYes σ H true := fun H1 _ _ q => q H1 (Ex.refl H1)
theorem getD_some {xs : List V} {m : Nat} {y : V} (h : xs[m]? = some y) : xs.getD m .non = y := by
  rw [List.getD_eq_getElem?_getD, h]
  rfl
/-- [e for x in a tuple] -/
theorem el_mapT {p : Addr} {xs : List V} {tl : TE} {k : Nat} {vs : List Nat} (g : V → V) (h : Ev tl σ H (.ref p)) (hx : SqT K H p xs) (hz : xs.length ≤ 40000) (hw : ∀ x, wipe ((wipe σ vs).set k (some x)) vs = wipe σ vs)
    (he : ∀ (m : Nat) (y : V) H1, Ex H H1 → xs[m]? = some y → Ev te ((wipe σ vs).set k (some y)) H1 (g y)) : EvL (tLc (iTup K tl) (gName k) tYes te vs) σ H (xs.map g) := by
  rw [← given_map]
  exact el_lcT _ _ h hx hz hw (fun _ _ _ _ _ => et_yes) fun m y H1 e hm _ => by
    show Ev te _ H1 (g (xs.getD m .non))
    rw [getD_some hm]
    exact he m y H1 e hm
theorem el_mapL {p : Addr} {xs : List V} {tl : TE} {k : Nat} {vs : List Nat} (g : V → V) (h : Ev tl σ H (.ref p)) (hx : SqL K H p xs) (hz : xs.length ≤ 40000) (hw : ∀ x, wipe ((wipe σ vs).set k (some x)) vs = wipe σ vs)
    (he : ∀ (m : Nat) (y : V) H1, Ex H H1 → xs[m]? = some y → Ev te ((wipe σ vs).set k (some y)) H1 (g y)) : EvL (tLc (iList K tl) (gName k) tYes te vs) σ H (xs.map g) := by
  rw [← given_map]
  exact el_lcL _ _ h hx hz hw (fun _ _ _ _ _ => et_yes) fun m y H1 e hm _ => by
    show Ev te _ H1 (g (xs.getD m .non))
    rw [getD_some hm]
    exact he m y H1 e hm
theorem el_mapR {ta : TA} {k : Nat} {vs : List Nat} {n : Int} (g : Nat → V) (h : EvA ta σ H [.int n]) (hn : 0 ≤ n ∧ n ≤ 40000) (hw : ∀ x, wipe ((wipe σ vs).set k (some x)) vs = wipe σ vs)
    (he : ∀ (m : Nat) H1, Ex H H1 → (m : Int) < n → Ev te ((wipe σ vs).set k (some (.int (m : Int)))) H1 (g m)) : EvL (tLc (iRng1 ta) (gName k) tYes te vs) σ H ((List.range n.toNat).map g) := by
  rw [← given_all]
  exact el_lcR1 _ _ h hn hw (fun _ _ _ _ => et_yes) fun m H1 e hm _ => he m H1 e hm
/-! ### data -/
mutual
theorem dp_ex (e : Ex H H') : ∀ (d : PyData) (v : V), Dp K H v d → Dp K H' v d
  | .none, _, h => by
    cases h
    exact .non
  | .bool b, _, h => by
    cases h
    exact .bl b
  | .int i, _, h => by
    cases h
    exact .int i
  | .str x, _, h => by
    cases h
    exact .str x
  | .list ds, _, h => by
    cases h with
    | lst a b => exact .lst (ex_l e a) (dpa_ex e ds _ b)
  | .tuple ds, _, h => by
    cases h with
    | tup a b => exact .tup (ex_t e a) (dpa_ex e ds _ b)
  | .dict _, _, h => by cases h
theorem dpa_ex (e : Ex H H') : ∀ (ds : List PyData) (vs : List V), DpAll K H vs ds → DpAll K H' vs ds
  | [], _, h => by
    cases h
    exact .nil
  | d :: ds, _, h => by
    cases h with
    | cons a b => exact .cons (dp_ex e d _ a) (dpa_ex e ds _ b)
end
theorem e_eqD {d f : PyData} (a : Ev ta σ H x) (b : Ev tb σ H y) (hd : Dp K H x d) (hf : Dp K H y f) (sd : SeqAt.shaped d = true) (sf : SeqAt.shaped f = true) : Ev (tOp (rEqD K) ta tb) σ H (.bl (PyData.eqv d f)) := fun H1 e Q q =>
  a H1 e _ fun H2 e2 => b H2 (e.trans e2) _ fun H3 e3 => ⟨d, f, dp_ex ((e.trans e2).trans e3) d _ hd, dp_ex ((e.trans e2).trans e3) f _ hf, sd, sf, q H3 (e2.trans e3)⟩
theorem e_neD {d f : PyData} (a : Ev ta σ H x) (b : Ev tb σ H y) (hd : Dp K H x d) (hf : Dp K H y f) (sd : SeqAt.shaped d = true) (sf : SeqAt.shaped f = true) : Ev (tOp (rNeD K) ta tb) σ H (.bl (!PyData.eqv d f)) := fun H1 e Q q =>
  a H1 e _ fun H2 e2 => b H2 (e.trans e2) _ fun H3 e3 => ⟨d, f, dp_ex ((e.trans e2).trans e3) d _ hd, dp_ex ((e.trans e2).trans e3) f _ hf, sd, sf, q H3 (e2.trans e3)⟩
/-- against a tuple, a list made on the way -/
theorem e_eqDU {d : PyData} {ys : List V} {fs : List PyData} (a : Ev ta σ H x) (b : EvU tb σ H ys) (hd : Dp K H x d) (hf : DpAll K H ys fs) (sd : SeqAt.shaped d = true) (sf : SeqAt.shaped (.tuple fs) = true) : Ev (tOp (rEqD K) ta tb) σ H (.bl (PyData.eqv d (.tuple fs))) := fun H1 e Q q =>
  a H1 e _ fun H2 e2 => b H2 (e.trans e2) _ fun p H3 _ e3 g => ⟨d, .tuple fs, dp_ex ((e.trans e2).trans e3) d _ hd, .tup (st_of g) (dpa_ex ((e.trans e2).trans e3) _ _ hf), sd, sf, q H3 (e2.trans e3)⟩
theorem e_eqDL {d : PyData} {ys : List V} {fs : List PyData} (a : Ev ta σ H x) (b : EvL tb σ H ys) (hd : Dp K H x d) (hf : DpAll K H ys fs) (sd : SeqAt.shaped d = true) (sf : SeqAt.shaped (.list fs) = true) : Ev (tOp (rEqD K) ta tb) σ H (.bl (PyData.eqv d (.list fs))) := fun H1 e Q q =>
  a H1 e _ fun H2 e2 => b H2 (e.trans e2) _ fun p H3 _ e3 g => ⟨d, .list fs, dp_ex ((e.trans e2).trans e3) d _ hd, .lst (sq_of g) (dpa_ex ((e.trans e2).trans e3) _ _ hf), sd, sf, q H3 (e2.trans e3)⟩
theorem e_neDL {d : PyData} {ys : List V} {fs : List PyData} (a : Ev ta σ H x) (b : EvL tb σ H ys) (hd : Dp K H x d) (hf : DpAll K H ys fs) (sd : SeqAt.shaped d = true) (sf : SeqAt.shaped (.list fs) = true) : Ev (tOp (rNeD K) ta tb) σ H (.bl (!PyData.eqv d (.list fs))) := fun H1 e Q q =>
  a H1 e _ fun H2 e2 => b H2 (e.trans e2) _ fun p H3 _ e3 g => ⟨d, .list fs, dp_ex ((e.trans e2).trans e3) d _ hd, .lst (sq_of g) (dpa_ex ((e.trans e2).trans e3) _ _ hf), sd, sf, q H3 (e2.trans e3)⟩
/-- a new list against a new list -/
theorem e_eqLL {xs ys : List V} {ds fs : List PyData} (a : EvL ta σ H xs) (b : EvL tb σ H ys) (hd : DpAll K H xs ds) (hf : DpAll K H ys fs) (sd : SeqAt.shaped (.list ds) = true) (sf : SeqAt.shaped (.list fs) = true) : Ev (tOp (rEqD K) ta tb) σ H (.bl (PyData.eqv (.list ds) (.list fs))) := fun H1 e Q q =>
  a H1 e _ fun p1 H2 _ e2 g1 => b H2 (e.trans e2) _ fun p H3 _ e3 g => ⟨.list ds, .list fs, .lst (sq_of (e3 _ _ g1)) (dpa_ex ((e.trans e2).trans e3) _ _ hd), .lst (sq_of g) (dpa_ex ((e.trans e2).trans e3) _ _ hf), sd, sf, q H3 (e2.trans e3)⟩
theorem e_neLL {xs ys : List V} {ds fs : List PyData} (a : EvL ta σ H xs) (b : EvL tb σ H ys) (hd : DpAll K H xs ds) (hf : DpAll K H ys fs) (sd : SeqAt.shaped (.list ds) = true) (sf : SeqAt.shaped (.list fs) = true) : Ev (tOp (rNeD K) ta tb) σ H (.bl (!PyData.eqv (.list ds) (.list fs))) := fun H1 e Q q =>
  a H1 e _ fun p1 H2 _ e2 g1 => b H2 (e.trans e2) _ fun p H3 _ e3 g => ⟨.list ds, .list fs, .lst (sq_of (e3 _ _ g1)) (dpa_ex ((e.trans e2).trans e3) _ _ hd), .lst (sq_of g) (dpa_ex ((e.trans e2).trans e3) _ _ hf), sd, sf, q H3 (e2.trans e3)⟩
/-! ### kinds -/
def kinds : List String := ["int", "bool", "str", "NoneType", "tuple", "list", "dict"]
def Knd (K : PySem.W.Frag) (H : Hp) (x : V) (t : String) : Prop := TyX K H x (.type t) ∧ t ∈ kinds
theorem tyx_ex {t : Value} (e : Ex H H') (h : TyX K H x t) : TyX K H' x t := by
  cases h with
  | base b =>
    cases b with
    | non => exact .base .non
    | bl y => exact .base (.bl y)
    | int y => exact .base (.int y)
    | str y => exact .base (.str y)
    | flt y => exact .base (.flt y)
    | lst a => exact .base (.lst (e _ _ a))
    | frz a => exact .base (.frz (e _ _ a))
    | tup a => exact .base (.tup (e _ _ a))
    | dK a => exact .base (.dK (e _ _ a))
    | dT a => exact .base (.dT (e _ _ a))
    | ins a b c d f g => exact .base (.ins (e _ _ a) b c d f g)
  | byt b => exact .byt b
  | set a => exact .set (e _ _ a)
  | kList a b => exact .kList a b
  | kTuple a b => exact .kTuple a b
  | kDict a b => exact .kDict a b
  | fTuple a => exact .fTuple (e _ _ a)
  | fDict a => exact .fDict (e _ _ a)
theorem Knd.ex {t : String} (e : Ex H H') (h : Knd K H x t) : Knd K H' x t := ⟨tyx_ex e h.1, h.2⟩
theorem Knd.int (i : Int) : Knd K H (.int i) "int" := ⟨.base (.int i), by simp [kinds]⟩
theorem Knd.bl (b : Bool) : Knd K H (.bl b) "bool" := ⟨.base (.bl b), by simp [kinds]⟩
theorem Knd.str (b : Str) : Knd K H (.str b) "str" := ⟨.base (.str b), by simp [kinds]⟩
theorem Knd.non : Knd K H .non "NoneType" := ⟨.base .non, by simp [kinds]⟩
theorem Knd.tup {a : Addr} {xs : List V} (h : SqT K H a xs) : Knd K H (.ref a) "tuple" := ⟨by
  rcases h with (h | ⟨o, h⟩) | ⟨o, its, n, h, c, _⟩
  · exact .base (.tup h)
  · exact .fTuple h
  · exact .kTuple h c, by simp [kinds]⟩
theorem Knd.lst {a : Addr} {xs : List V} (h : SqL K H a xs) : Knd K H (.ref a) "list" := ⟨by
  rcases h with (h | ⟨o, h⟩) | ⟨o, its, n, h, c, _⟩
  · exact .base (.lst h)
  · exact .base (.frz h)
  · exact .kList h c, by simp [kinds]⟩
/-- isinstance's answers -/
def isaB (t T : String) : Bool := t == T || (t == "bool" && T == "int")
theorem kit_isa {t : String} (h : t ∈ kinds) (T : String) (hT : T ∈ kinds) : PySem.W.kitOne K (.type t) (.type T) = some (isaB t T) := by
  have key : (kinds.all fun a => kinds.all fun b => decide (kitB a b = some (isaB a b))) = true := by decide +kernel
  exact kit_ty (of_decide_eq_true (List.all_eq_true.mp (List.all_eq_true.mp key t h) T hT))
theorem kit_two {t T U : String} (h : t ∈ kinds) (hT : T ∈ kinds) (hU : U ∈ kinds) : PySem.W.kitAny K (.type t) [.type T, .type U] = some (isaB t T || isaB t U) := by
  have w : PySem.W.kitAny K (.type t) [.type U] = some (isaB t U) := by
    refine kitAny_cons (kit_isa h U hU) (fun z => ?_) fun z => z
    rw [z]
    exact kitAny_nil
  refine kitAny_cons (kit_isa h T hT) (fun z => ?_) fun z => by rw [z]; rfl
  rw [z, Bool.false_or]
  exact w
theorem e_isi {t T : String} (a : Ev ta σ H x) (k : Knd K H x t) (hT : T ∈ kinds) : Ev (tCB (rIsi K) (tCons ta (tCons (tC (.ty T)) tNil))) σ H (.bl (isaB t T)) := fun H1 e Q q =>
  a H1 e _ fun H2 e2 => ⟨x, .ty T, .type t, .type T, isaB t T, rfl, .ty T, tyx_ex (e.trans e2) k.1, kit_isa k.2 T hT, q H2 e2⟩
theorem e_isi2 {t T U : String} (a : Ev ta σ H x) (k : Knd K H x t) (hT : T ∈ kinds) (hU : U ∈ kinds) : Ev (tCB (rIsiT K) (tCons ta (tCons (tTup (tCons (tC (.ty T)) (tCons (tC (.ty U)) tNil))) tNil))) σ H (.bl (isaB t T || isaB t U)) := fun H1 e Q q =>
  a H1 e _ fun H2 e2 => ⟨by show 2 ≤ sizeLine; decide, fun p hp => ⟨x, p, [.ty T, .ty U], .type t, [.type T, .type U], (isaB t T || isaB t U), rfl, upd_same, .cons (.ty T) (.cons (.ty U) .nil), tyx_ex ((e.trans e2).trans (Ex.new hp)) k.1,
    kit_two k.2 hT hU, q _ (e2.trans (Ex.new hp))⟩⟩
end
end K10

set_option Elab.async false
set_option linter.all false
set_option maxRecDepth 100000
set_option maxHeartbeats 4000000
/-! derivations -/
namespace K10
open PySem PySem.Spec PyProof.Rows L2 Evl
section
variable {P : Program} {w : World} {K : PySem.W.Frag} {mg : Str → Option Value} {base : Heap}

abbrev n_is_integer : List Str := ["value"]
theorem sc_is_integer : FnScope n_is_integer ["value"] (defScope s_is_integer) := ⟨rfl, rfl, rfl, by decide +kernel, rfl, by decide +kernel, by decide +kernel⟩
def t_is_integer (K : PySem.W.Frag) : TS :=
    (tRet (tAndV (tCB (rIsi K) (tCons (tVar 0) (tCons (tC (.ty "int")) tNil))) (tNotV (tCB (rIsi K) (tCons (tVar 0) (tCons (tC (.ty "bool")) tNil))))))
theorem der_is_integer (T : Top K mg)  {cdv : Value} {A : Around} {outer : List Env} {s : Shared} {H : Hp} {E : XK} {j : Nat} (hr : Room j (A.deeper (envOfC "is_integer" (defScope s_is_integer) s.heap.objs.size (He.ga K "is_integer") cdv)))  :
    PSs (cxOf CX0 P w K mg base n_is_integer "is_integer" (defScope s_is_integer) (He.ga K "is_integer") cdv A outer s H E).nox (defBody s_is_integer) (t_is_integer K) :=
  (pss_one (ps_ret (pe_and (pe_callB call_isi (by rfl) (T.free 0 _ rfl) (by decide +kernel) (pa_cons (pv 0) (pa_cons (pe_bltn (v := .ty "int") (by rfl) (T.free 13 _ rfl) (by decide +kernel) rfl) pa_nil))) (pe_one (pe_not (pe_callB call_isi (by rfl) (T.free 0 _ rfl) (by decide +kernel) (pa_cons (pv 0) (pa_cons (pe_bltn (v := .ty "bool") (by rfl) (T.free 17 _ rfl) (by decide +kernel) rfl) pa_nil))))))))
theorem mk_is_integer (T : Top K mg)  {k : Nat}  {sp : Sp} (len : ∀ vs H Q E, sp vs H Q E → vs.length = 1)
    (read : ∀ vs H Q E, sp vs H Q E → t_is_integer K ⟨fun _ H' => Q .non H', Q, fun _ _ => False, fun _ _ => False⟩ (start n_is_integer vs) H) : Ok1 P w K mg base (k + 1) "is_integer" ["value"] sp :=
  T.ok (d := d_is_integer) 0 rfl sc_is_integer (fun _ _ _ _ _ _ us hl => match us, hl with | [_], _ => rfl) len fun cdv A outer s H vs Q E hr h => ⟨_, der_is_integer T  hr , read vs H Q E h⟩

abbrev n_is_from : List Str := ["value", "low", "high"]
theorem sc_is_from : FnScope n_is_from ["value", "low", "high"] (defScope s_is_from) := ⟨rfl, rfl, rfl, by decide +kernel, rfl, by decide +kernel, by decide +kernel⟩
def t_is_from (K : PySem.W.Frag) (sp_is_integer : Sp) : TS :=
    (tRet (tAndV (tCall sp_is_integer [] E0 (tCons (tVar 0) tNil)) (tChain rLeI rLeI (tVar 1) (tVar 0) (tVar 2))))
theorem der_is_from (T : Top K mg) {sp_is_integer : Sp} {l_is_integer : Nat} (O_is_integer : Ok1 P w K mg base l_is_integer "is_integer" ["value"] sp_is_integer) {cdv : Value} {A : Around} {outer : List Env} {s : Shared} {H : Hp} {E : XK} {j : Nat} (hr : Room j (A.deeper (envOfC "is_from" (defScope s_is_from) s.heap.objs.size (He.ga K "is_from") cdv))) (h_is_integer : l_is_integer ≤ j) :
    PSs (cxOf CX0 P w K mg base n_is_from "is_from" (defScope s_is_from) (He.ga K "is_from") cdv A outer s H E).nox (defBody s_is_from) (t_is_from K sp_is_integer) :=
  (pss_one (ps_ret (pe_and (pe_callO O_is_integer hr (by omega) (by rfl) (pa_cons (pv 0) pa_nil)) (pe_one (pe_chain op_le op_le (pv 1) (pv 0) (pv 2))))))
theorem mk_is_from (T : Top K mg) {sp_is_integer : Sp} {l_is_integer : Nat} (O_is_integer : Ok1 P w K mg base l_is_integer "is_integer" ["value"] sp_is_integer) {k : Nat} (h_is_integer : l_is_integer ≤ k) {sp : Sp} (len : ∀ vs H Q E, sp vs H Q E → vs.length = 3)
    (read : ∀ vs H Q E, sp vs H Q E → t_is_from K sp_is_integer ⟨fun _ H' => Q .non H', Q, fun _ _ => False, fun _ _ => False⟩ (start n_is_from vs) H) : Ok1 P w K mg base (k + 1) "is_from" ["value", "low", "high"] sp :=
  T.ok (d := d_is_from) 1 rfl sc_is_from (fun _ _ _ _ _ _ us hl => match us, hl with | [_, _, _], _ => rfl) len fun cdv A outer s H vs Q E hr h => ⟨_, der_is_from T O_is_integer hr h_is_integer, read vs H Q E h⟩

abbrev n_raised : List Str := ["p", "base", "times", "found"]
theorem sc_raised : FnScope n_raised ["p", "base", "times"] (defScope s_raised) := ⟨rfl, rfl, rfl, by decide +kernel, rfl, by decide +kernel, by decide +kernel⟩
def t_raised (K : PySem.W.Frag) : TS :=
    (tSeq (tPar 3 1 (tCons (tC (.int 1)) (tCons (tOp rModI (tVar 1) (tVar 0)) tNil)))
    (tSeq (tWhile (tB (tGt (tVar 2) (tC (.int 0)))) (tSeq (tIfS (tB (tEqI (tOp rModI (tVar 2) (tC (.int 2))) (tC (.int 1)))) (tAsg (tOp rModI (tOp rMulI (tVar 3) (tVar 1)) (tVar 0)) (gName 3)) tNext)
    (tPar 1 2 (tCons (tOp rModI (tOp rMulI (tVar 1) (tVar 1)) (tVar 0)) (tCons (tOp rDivI (tVar 2) (tC (.int 2))) tNil)))))
    (tRet (tVar 3))))
theorem der_raised (T : Top K mg)  {cdv : Value} {A : Around} {outer : List Env} {s : Shared} {H : Hp} {E : XK} {j : Nat} (hr : Room j (A.deeper (envOfC "raised" (defScope s_raised) s.heap.objs.size (He.ga K "raised") cdv)))  :
    PSs (cxOf CX0 P w K mg base n_raised "raised" (defScope s_raised) (He.ga K "raised") cdv A outer s H E).nox (defBody s_raised) (t_raised K) :=
  (pss_cons (ps_par (i := 3) (j := 1) (by rfl) sc_raised.nd rfl rfl (by decide) rfl rfl (pa_cons pe_int (pa_cons (pe_op op_mod (pv 1) (pv 0)) pa_nil)) (by rfl))
    (pss_cons (ps_while PassesOwn.never (pt_cmp (pc_gt (pv 2) pe_int)) (pss_cons (ps_if (pt_cmp (pc_eqI (pe_op op_mod (pv 2) pe_int) pe_int)) (pss_one (ps_set (i := 3) sc_raised.nd rfl (Or.inl rfl) (pe_op op_mod (pe_op op_mul (pv 3) (pv 1)) (pv 0)))) pss_nil)
    (pss_one (ps_par (i := 1) (j := 2) (by rfl) sc_raised.nd rfl rfl (by decide) rfl rfl (pa_cons (pe_op op_mod (pe_op op_mul (pv 1) (pv 1)) (pv 0)) (pa_cons (pe_op op_fdivW (pv 2) pe_int) pa_nil)) (by rfl)))))
    (pss_one (ps_ret (pv 3)))))
theorem mk_raised (T : Top K mg)  {k : Nat}  {sp : Sp} (len : ∀ vs H Q E, sp vs H Q E → vs.length = 3)
    (read : ∀ vs H Q E, sp vs H Q E → t_raised K ⟨fun _ H' => Q .non H', Q, fun _ _ => False, fun _ _ => False⟩ (start n_raised vs) H) : Ok1 P w K mg base (k + 1) "raised" ["p", "base", "times"] sp :=
  T.ok (d := d_raised) 2 rfl sc_raised (fun _ _ _ _ _ _ us hl => match us, hl with | [_, _, _], _ => rfl) len fun cdv A outer s H vs Q E hr h => ⟨_, der_raised T  hr , read vs H Q E h⟩

abbrev n_passes : List Str := ["value", "base", "times", "twos", "found", "turn"]
theorem sc_passes : FnScope n_passes ["value", "base"] (defScope s_passes) := ⟨rfl, rfl, rfl, by decide +kernel, rfl, by decide +kernel, by decide +kernel⟩
def t_passes (K : PySem.W.Frag) (sp_raised : Sp) : TS :=
    (tSeq (tPar 2 3 (tCons (tOp rSubI (tVar 0) (tC (.int 1))) (tCons (tC (.int 0)) tNil)))
    (tSeq (tWhile (tB (tEqI (tOp rModI (tVar 2) (tC (.int 2))) (tC (.int 0)))) (tPar 2 3 (tCons (tOp rDivI (tVar 2) (tC (.int 2))) (tCons (tOp rAddI (tVar 3) (tC (.int 1))) tNil))))
    (tSeq (tAsg (tCall sp_raised [] E0 (tCons (tVar 0) (tCons (tVar 1) (tCons (tVar 2) tNil)))) (gName 4))
    (tSeq (tIfS (tTest (tOp (rIn K false) (tVar 4) (tTup (tCons (tC (.int 1)) (tCons (tOp rSubI (tVar 0) (tC (.int 1))) tNil))))) (tRet (tC (.bl true))) tNext)
    (tSeq (tFor (iRng1 (tCons (tOp rSubI (tVar 3) (tC (.int 1))) tNil)) (gName 5) (tSeq (tAsg (tOp rModI (tOp rMulI (tVar 4) (tVar 4)) (tVar 0)) (gName 4))
    (tIfS (tB (tEqI (tVar 4) (tOp rSubI (tVar 0) (tC (.int 1))))) (tRet (tC (.bl true))) tNext)))
    (tRet (tC (.bl false))))))))
theorem der_passes (T : Top K mg) {sp_raised : Sp} {l_raised : Nat} (O_raised : Ok1 P w K mg base l_raised "raised" ["p", "base", "times"] sp_raised) {cdv : Value} {A : Around} {outer : List Env} {s : Shared} {H : Hp} {E : XK} {j : Nat} (hr : Room j (A.deeper (envOfC "passes" (defScope s_passes) s.heap.objs.size (He.ga K "passes") cdv))) (h_raised : l_raised ≤ j) :
    PSs (cxOf CX0 P w K mg base n_passes "passes" (defScope s_passes) (He.ga K "passes") cdv A outer s H E).nox (defBody s_passes) (t_passes K sp_raised) :=
  (pss_cons (ps_par (i := 2) (j := 3) (by rfl) sc_passes.nd rfl rfl (by decide) rfl rfl (pa_cons (pe_op op_sub (pv 0) pe_int) (pa_cons pe_int pa_nil)) (by rfl))
    (pss_cons (ps_while PassesOwn.never (pt_cmp (pc_eqI (pe_op op_mod (pv 2) pe_int) pe_int)) (pss_one (ps_par (i := 2) (j := 3) (by rfl) sc_passes.nd rfl rfl (by decide) rfl rfl (pa_cons (pe_op op_fdivW (pv 2) pe_int) (pa_cons (pe_op op_add (pv 3) pe_int) pa_nil)) (by rfl))))
    (pss_cons (ps_set (i := 4) sc_passes.nd rfl (Or.inl rfl) (pe_callO O_raised hr (by omega) (by rfl) (pa_cons (pv 0) (pa_cons (pv 1) (pa_cons (pv 2) pa_nil)))))
    (pss_cons (ps_if (pt_cmpR op_in_seq (pv 4) (pe_tup (pa_cons pe_int (pa_cons (pe_op op_sub (pv 0) pe_int) pa_nil))) (by rfl)) (pss_one (ps_ret pe_bl)) pss_nil)
    (pss_cons (ps_for PassesOwn.never rfl (pi_range1 (by rfl) (T.free 9 _ rfl) (pa_cons (pe_op op_sub (pv 3) pe_int) pa_nil)) (pg_name (i := 5) sc_passes.nd rfl (Or.inl rfl)) (pss_cons (ps_set (i := 4) sc_passes.nd rfl (Or.inl rfl) (pe_op op_mod (pe_op op_mul (pv 4) (pv 4)) (pv 0)))
    (pss_one (ps_if (pt_cmp (pc_eqI (pv 4) (pe_op op_sub (pv 0) pe_int))) (pss_one (ps_ret pe_bl)) pss_nil))))
    (pss_one (ps_ret pe_bl)))))))
theorem mk_passes (T : Top K mg) {sp_raised : Sp} {l_raised : Nat} (O_raised : Ok1 P w K mg base l_raised "raised" ["p", "base", "times"] sp_raised) {k : Nat} (h_raised : l_raised ≤ k) {sp : Sp} (len : ∀ vs H Q E, sp vs H Q E → vs.length = 2)
    (read : ∀ vs H Q E, sp vs H Q E → t_passes K sp_raised ⟨fun _ H' => Q .non H', Q, fun _ _ => False, fun _ _ => False⟩ (start n_passes vs) H) : Ok1 P w K mg base (k + 1) "passes" ["value", "base"] sp :=
  T.ok (d := d_passes) 3 rfl sc_passes (fun _ _ _ _ _ _ us hl => match us, hl with | [_, _], _ => rfl) len fun cdv A outer s H vs Q E hr h => ⟨_, der_passes T O_raised hr h_raised, read vs H Q E h⟩

abbrev n_is_prime : List Str := ["value", "base"]
theorem sc_is_prime : FnScope n_is_prime ["value"] (defScope s_is_prime) := ⟨rfl, rfl, rfl, by decide +kernel, rfl, by decide +kernel, by decide +kernel⟩
def t_is_prime (K : PySem.W.Frag) (sp_is_from sp_passes : Sp) : TS :=
    (tSeq (tIfS (tNot (tB (tCall sp_is_from [] E0 (tCons (tVar 0) (tCons (tC (.int 5)) (tCons (tC (.int 2147483647)) tNil)))))) (tRet (tC (.bl false))) tNext)
    (tSeq (tIfS (tTest (tOp (rIn K false) (tVar 0) (tC (.ref (He.ga K "BASES"))))) (tRet (tC (.bl true))) tNext)
    (tSeq (tIfS (tB (tCB (rAny K) (tCons (tLc (iTup K (tC (.ref (He.ga K "BASES")))) (gName 1) tYes (tEqI (tOp rModI (tVar 0) (tVar 1)) (tC (.int 0))) [1]) tNil))) (tRet (tC (.bl false))) tNext)
    (tRet (tCB (rAll K) (tCons (tLc (iTup K (tC (.ref (He.ga K "BASES")))) (gName 1) tYes (tCall sp_passes [] E0 (tCons (tVar 0) (tCons (tVar 1) tNil))) [1]) tNil))))))
theorem der_is_prime (T : Top K mg) {sp_is_from : Sp} {l_is_from : Nat} (O_is_from : Ok1 P w K mg base l_is_from "is_from" ["value", "low", "high"] sp_is_from) {sp_passes : Sp} {l_passes : Nat} (O_passes : Ok1 P w K mg base l_passes "passes" ["value", "base"] sp_passes) {cdv : Value} {A : Around} {outer : List Env} {s : Shared} {H : Hp} {E : XK} {j : Nat} (hr : Room j (A.deeper (envOfC "is_prime" (defScope s_is_prime) s.heap.objs.size (He.ga K "is_prime") cdv))) (h_is_from : l_is_from ≤ j) (h_passes : l_passes ≤ j) :
    PSs (cxOf CX0 P w K mg base n_is_prime "is_prime" (defScope s_is_prime) (He.ga K "is_prime") cdv A outer s H E).nox (defBody s_is_prime) (t_is_prime K sp_is_from sp_passes) :=
  (pss_cons (ps_if (pt_not (pt_val (pe_callO O_is_from hr (by omega) (by rfl) (pa_cons (pv 0) (pa_cons pe_int (pa_cons (pe_glob (by rfl) (T.nums 0 _ _ rfl).choose_spec ⟨_, rfl⟩) pa_nil)))))) (pss_one (ps_ret pe_bl)) pss_nil)
    (pss_cons (ps_if (pt_cmpR op_in_seq (pv 0) (pe_glob (by rfl) T.gBASES rfl) (by rfl)) (pss_one (ps_ret pe_bl)) pss_nil)
    (pss_cons (ps_if (pt_val (pe_callB (cr_any rfl) (by rfl) (T.free 3 _ rfl) (by decide +kernel) (pa_cons (pe_lc (own := [("base", 1)]) (g := (gName 1)) (tt := tYes) (by rfl) sc_is_prime.nd (pi_tup (pe_glob (by rfl) T.gBASES rfl)) (blkOk_by (own := [("base", 1)]) (N := n_is_prime) (sc := defScope s_is_prime) (by decide +kernel)) (fun _ _ _ _ _ => (pg_name (i := 1) sc_is_prime.nd rfl (by first | exact Or.inl rfl | exact Or.inr rfl))) (fun _ _ _ _ _ => pts_nil) (fun _ _ _ _ _ => (pe_cmp (pc_eqI (pe_op op_mod (pv 0) (pv 1)) pe_int)))) pa_nil))) (pss_one (ps_ret pe_bl)) pss_nil)
    (pss_one (ps_ret (pe_callB (cr_all rfl) (by rfl) (T.free 2 _ rfl) (by decide +kernel) (pa_cons (pe_lc (own := [("base", 1)]) (g := (gName 1)) (tt := tYes) (by rfl) sc_is_prime.nd (pi_tup (pe_glob (by rfl) T.gBASES rfl)) (blkOk_by (own := [("base", 1)]) (N := n_is_prime) (sc := defScope s_is_prime) (by decide +kernel)) (fun _ _ _ _ _ => (pg_name (i := 1) sc_is_prime.nd rfl (by first | exact Or.inl rfl | exact Or.inr rfl))) (fun _ _ _ _ _ => pts_nil) (fun _ _ _ _ _ => (pe_callO O_passes hr (by omega) (by rfl) (pa_cons (pv 0) (pa_cons (pv 1) pa_nil))))) pa_nil)))))))
theorem mk_is_prime (T : Top K mg) {sp_is_from : Sp} {l_is_from : Nat} (O_is_from : Ok1 P w K mg base l_is_from "is_from" ["value", "low", "high"] sp_is_from) {sp_passes : Sp} {l_passes : Nat} (O_passes : Ok1 P w K mg base l_passes "passes" ["value", "base"] sp_passes) {k : Nat} (h_is_from : l_is_from ≤ k) (h_passes : l_passes ≤ k) {sp : Sp} (len : ∀ vs H Q E, sp vs H Q E → vs.length = 1)
    (read : ∀ vs H Q E, sp vs H Q E → t_is_prime K sp_is_from sp_passes ⟨fun _ H' => Q .non H', Q, fun _ _ => False, fun _ _ => False⟩ (start n_is_prime vs) H) : Ok1 P w K mg base (k + 1) "is_prime" ["value"] sp :=
  T.ok (d := d_is_prime) 4 rfl sc_is_prime (fun _ _ _ _ _ _ us hl => match us, hl with | [_], _ => rfl) len fun cdv A outer s H vs Q E hr h => ⟨_, der_is_prime T O_is_from O_passes hr h_is_from h_passes, read vs H Q E h⟩

abbrev n_is_number : List Str := ["p", "value"]
theorem sc_is_number : FnScope n_is_number ["p", "value"] (defScope s_is_number) := ⟨rfl, rfl, rfl, by decide +kernel, rfl, by decide +kernel, by decide +kernel⟩
def t_is_number (K : PySem.W.Frag) (sp_is_from : Sp) : TS :=
    (tRet (tCall sp_is_from [] E0 (tCons (tVar 1) (tCons (tC (.int 0)) (tCons (tOp rSubI (tVar 0) (tC (.int 1))) tNil)))))
theorem der_is_number (T : Top K mg) {sp_is_from : Sp} {l_is_from : Nat} (O_is_from : Ok1 P w K mg base l_is_from "is_from" ["value", "low", "high"] sp_is_from) {cdv : Value} {A : Around} {outer : List Env} {s : Shared} {H : Hp} {E : XK} {j : Nat} (hr : Room j (A.deeper (envOfC "is_number" (defScope s_is_number) s.heap.objs.size (He.ga K "is_number") cdv))) (h_is_from : l_is_from ≤ j) :
    PSs (cxOf CX0 P w K mg base n_is_number "is_number" (defScope s_is_number) (He.ga K "is_number") cdv A outer s H E).nox (defBody s_is_number) (t_is_number K sp_is_from) :=
  (pss_one (ps_ret (pe_callO O_is_from hr (by omega) (by rfl) (pa_cons (pv 1) (pa_cons pe_int (pa_cons (pe_op op_sub (pv 0) pe_int) pa_nil))))))
theorem mk_is_number (T : Top K mg) {sp_is_from : Sp} {l_is_from : Nat} (O_is_from : Ok1 P w K mg base l_is_from "is_from" ["value", "low", "high"] sp_is_from) {k : Nat} (h_is_from : l_is_from ≤ k) {sp : Sp} (len : ∀ vs H Q E, sp vs H Q E → vs.length = 2)
    (read : ∀ vs H Q E, sp vs H Q E → t_is_number K sp_is_from ⟨fun _ H' => Q .non H', Q, fun _ _ => False, fun _ _ => False⟩ (start n_is_number vs) H) : Ok1 P w K mg base (k + 1) "is_number" ["p", "value"] sp :=
  T.ok (d := d_is_number) 5 rfl sc_is_number (fun _ _ _ _ _ _ us hl => match us, hl with | [_, _], _ => rfl) len fun cdv A outer s H vs Q E hr h => ⟨_, der_is_number T O_is_from hr h_is_from, read vs H Q E h⟩

abbrev n_are_numbers : List Str := ["p", "value", "low", "high", "one"]
theorem sc_are_numbers : FnScope n_are_numbers ["p", "value", "low", "high"] (defScope s_are_numbers) := ⟨rfl, rfl, rfl, by decide +kernel, rfl, by decide +kernel, by decide +kernel⟩
def t_are_numbers (K : PySem.W.Frag) (sp_is_number : Sp) : TS :=
    (tRet (tAndV (tCB (rIsi K) (tCons (tVar 1) (tCons (tC (.ty "tuple")) tNil))) (tAndV (tChain rLeI rLeI (tVar 2) (tCB (rLenQ K) (tCons (tVar 1) tNil)) (tVar 3)) (tCB (rAll K) (tCons (tLc (iTup K (tVar 1)) (gName 4) tYes (tCall sp_is_number [] E0 (tCons (tVar 0) (tCons (tVar 4) tNil))) [4]) tNil)))))
theorem der_are_numbers (T : Top K mg) {sp_is_number : Sp} {l_is_number : Nat} (O_is_number : Ok1 P w K mg base l_is_number "is_number" ["p", "value"] sp_is_number) {cdv : Value} {A : Around} {outer : List Env} {s : Shared} {H : Hp} {E : XK} {j : Nat} (hr : Room j (A.deeper (envOfC "are_numbers" (defScope s_are_numbers) s.heap.objs.size (He.ga K "are_numbers") cdv))) (h_is_number : l_is_number ≤ j) :
    PSs (cxOf CX0 P w K mg base n_are_numbers "are_numbers" (defScope s_are_numbers) (He.ga K "are_numbers") cdv A outer s H E).nox (defBody s_are_numbers) (t_are_numbers K sp_is_number) :=
  (pss_one (ps_ret (pe_and (pe_callB call_isi (by rfl) (T.free 0 _ rfl) (by decide +kernel) (pa_cons (pv 1) (pa_cons (pe_bltn (v := .ty "tuple") (by rfl) (T.free 4 _ rfl) (by decide +kernel) rfl) pa_nil))) (pe_and (pe_chain op_le op_le (pv 2) (pe_callB c_len (by rfl) (T.free 1 _ rfl) (by decide +kernel) (pa_cons (pv 1) pa_nil)) (pv 3)) (pe_one (pe_callB (cr_all rfl) (by rfl) (T.free 2 _ rfl) (by decide +kernel) (pa_cons (pe_lc (own := [("one", 4)]) (g := (gName 4)) (tt := tYes) (by rfl) sc_are_numbers.nd (pi_tup (pv 1)) (blkOk_by (own := [("one", 4)]) (N := n_are_numbers) (sc := defScope s_are_numbers) (by decide +kernel)) (fun _ _ _ _ _ => (pg_name (i := 4) sc_are_numbers.nd rfl (by first | exact Or.inl rfl | exact Or.inr rfl))) (fun _ _ _ _ _ => pts_nil) (fun _ _ _ _ _ => (pe_callO O_is_number hr (by omega) (by rfl) (pa_cons (pv 0) (pa_cons (pv 4) pa_nil))))) pa_nil)))))))
theorem mk_are_numbers (T : Top K mg) {sp_is_number : Sp} {l_is_number : Nat} (O_is_number : Ok1 P w K mg base l_is_number "is_number" ["p", "value"] sp_is_number) {k : Nat} (h_is_number : l_is_number ≤ k) {sp : Sp} (len : ∀ vs H Q E, sp vs H Q E → vs.length = 4)
    (read : ∀ vs H Q E, sp vs H Q E → t_are_numbers K sp_is_number ⟨fun _ H' => Q .non H', Q, fun _ _ => False, fun _ _ => False⟩ (start n_are_numbers vs) H) : Ok1 P w K mg base (k + 1) "are_numbers" ["p", "value", "low", "high"] sp :=
  T.ok (d := d_are_numbers) 6 rfl sc_are_numbers (fun _ _ _ _ _ _ us hl => match us, hl with | [_, _, _, _], _ => rfl) len fun cdv A outer s H vs Q E hr h => ⟨_, der_are_numbers T O_is_number hr h_is_number, read vs H Q E h⟩

abbrev n_is_plain_line : List Str := ["p", "value"]
theorem sc_is_plain_line : FnScope n_is_plain_line ["p", "value"] (defScope s_is_plain_line) := ⟨rfl, rfl, rfl, by decide +kernel, rfl, by decide +kernel, by decide +kernel⟩
def t_is_plain_line (K : PySem.W.Frag) (sp_are_numbers : Sp) : TS :=
    (tRet (tAndV (tCall sp_are_numbers [] E0 (tCons (tVar 0) (tCons (tVar 1) (tCons (tC (.int 0)) (tCons (tC (.int 200)) tNil))))) (tOrV (tOp (rEqD K) (tVar 1) (tTup tNil)) (tNeI (tOp (rIx K) (tVar 1) (tUn uNeg (tC (.int 1)))) (tC (.int 0))))))
theorem der_is_plain_line (T : Top K mg) {sp_are_numbers : Sp} {l_are_numbers : Nat} (O_are_numbers : Ok1 P w K mg base l_are_numbers "are_numbers" ["p", "value", "low", "high"] sp_are_numbers) {cdv : Value} {A : Around} {outer : List Env} {s : Shared} {H : Hp} {E : XK} {j : Nat} (hr : Room j (A.deeper (envOfC "is_plain_line" (defScope s_is_plain_line) s.heap.objs.size (He.ga K "is_plain_line") cdv))) (h_are_numbers : l_are_numbers ≤ j) :
    PSs (cxOf CX0 P w K mg base n_is_plain_line "is_plain_line" (defScope s_is_plain_line) (He.ga K "is_plain_line") cdv A outer s H E).nox (defBody s_is_plain_line) (t_is_plain_line K sp_are_numbers) :=
  (pss_one (ps_ret (pe_and (pe_callO O_are_numbers hr (by omega) (by rfl) (pa_cons (pv 0) (pa_cons (pv 1) (pa_cons pe_int (pa_cons (pe_glob (by rfl) (T.nums 1 _ _ rfl).choose_spec ⟨_, rfl⟩) pa_nil))))) (pe_one (pe_or (pe_cmpR (op_eqD hr.units) (pv 1) (pe_tup pa_nil) (nomark _)) (pe_one (pe_cmp (pc_neI (pe_ix ix_seq (pv 1) (pe_un un_neg pe_int) (fun _ _ => rfl)) pe_int))))))))
theorem mk_is_plain_line (T : Top K mg) {sp_are_numbers : Sp} {l_are_numbers : Nat} (O_are_numbers : Ok1 P w K mg base l_are_numbers "are_numbers" ["p", "value", "low", "high"] sp_are_numbers) {k : Nat} (h_are_numbers : l_are_numbers ≤ k) {sp : Sp} (len : ∀ vs H Q E, sp vs H Q E → vs.length = 2)
    (read : ∀ vs H Q E, sp vs H Q E → t_is_plain_line K sp_are_numbers ⟨fun _ H' => Q .non H', Q, fun _ _ => False, fun _ _ => False⟩ (start n_is_plain_line vs) H) : Ok1 P w K mg base (k + 1) "is_plain_line" ["p", "value"] sp :=
  T.ok (d := d_is_plain_line) 7 rfl sc_is_plain_line (fun _ _ _ _ _ _ us hl => match us, hl with | [_, _], _ => rfl) len fun cdv A outer s H vs Q E hr h => ⟨_, der_is_plain_line T O_are_numbers hr h_are_numbers, read vs H Q E h⟩

abbrev n_at_place : List Str := ["p", "line", "place", "found", "number"]
theorem sc_at_place : FnScope n_at_place ["p", "line", "place"] (defScope s_at_place) := ⟨rfl, rfl, rfl, by decide +kernel, rfl, by decide +kernel, by decide +kernel⟩
def t_at_place (K : PySem.W.Frag) : TS :=
    (tSeq (tAsg (tC (.int 0)) (gName 3))
    (tSeq (tFor (RT.iRevA K (tVar 1)) (gName 4) (tAsg (tOp rModI (tOp rAddI (tOp rMulI (tVar 3) (tVar 2)) (tVar 4)) (tVar 0)) (gName 3)))
    (tRet (tVar 3))))
theorem der_at_place (T : Top K mg)  {cdv : Value} {A : Around} {outer : List Env} {s : Shared} {H : Hp} {E : XK} {j : Nat} (hr : Room j (A.deeper (envOfC "at_place" (defScope s_at_place) s.heap.objs.size (He.ga K "at_place") cdv)))  :
    PSs (cxOf CX0 P w K mg base n_at_place "at_place" (defScope s_at_place) (He.ga K "at_place") cdv A outer s H E).nox (defBody s_at_place) (t_at_place K) :=
  (pss_cons (ps_set (i := 3) sc_at_place.nd rfl (Or.inl rfl) pe_int)
    (pss_cons (ps_for PassesOwn.never rfl (RT.pi_revA (by rfl) (T.free 10 _ rfl) (pv 1)) (pg_name (i := 4) sc_at_place.nd rfl (Or.inl rfl)) (pss_one (ps_set (i := 3) sc_at_place.nd rfl (Or.inl rfl) (pe_op op_mod (pe_op op_add (pe_op op_mul (pv 3) (pv 2)) (pv 4)) (pv 0)))))
    (pss_one (ps_ret (pv 3)))))
theorem mk_at_place (T : Top K mg)  {k : Nat}  {sp : Sp} (len : ∀ vs H Q E, sp vs H Q E → vs.length = 3)
    (read : ∀ vs H Q E, sp vs H Q E → t_at_place K ⟨fun _ H' => Q .non H', Q, fun _ _ => False, fun _ _ => False⟩ (start n_at_place vs) H) : Ok1 P w K mg base (k + 1) "at_place" ["p", "line", "place"] sp :=
  T.ok (d := d_at_place) 8 rfl sc_at_place (fun _ _ _ _ _ _ us hl => match us, hl with | [_, _, _], _ => rfl) len fun cdv A outer s H vs Q E hr h => ⟨_, der_at_place T  hr , read vs H Q E h⟩

abbrev n_degree_of : List Str := ["line"]
theorem sc_degree_of : FnScope n_degree_of ["line"] (defScope s_degree_of) := ⟨rfl, rfl, rfl, by decide +kernel, rfl, by decide +kernel, by decide +kernel⟩
def t_degree_of (K : PySem.W.Frag) : TS :=
    (tRet (tOp rSubI (tCB (rLenQ K) (tCons (tVar 0) tNil)) (tC (.int 1))))
theorem der_degree_of (T : Top K mg)  {cdv : Value} {A : Around} {outer : List Env} {s : Shared} {H : Hp} {E : XK} {j : Nat} (hr : Room j (A.deeper (envOfC "degree_of" (defScope s_degree_of) s.heap.objs.size (He.ga K "degree_of") cdv)))  :
    PSs (cxOf CX0 P w K mg base n_degree_of "degree_of" (defScope s_degree_of) (He.ga K "degree_of") cdv A outer s H E).nox (defBody s_degree_of) (t_degree_of K) :=
  (pss_one (ps_ret (pe_op op_sub (pe_callB c_len (by rfl) (T.free 1 _ rfl) (by decide +kernel) (pa_cons (pv 0) pa_nil)) pe_int)))
theorem mk_degree_of (T : Top K mg)  {k : Nat}  {sp : Sp} (len : ∀ vs H Q E, sp vs H Q E → vs.length = 1)
    (read : ∀ vs H Q E, sp vs H Q E → t_degree_of K ⟨fun _ H' => Q .non H', Q, fun _ _ => False, fun _ _ => False⟩ (start n_degree_of vs) H) : Ok1 P w K mg base (k + 1) "degree_of" ["line"] sp :=
  T.ok (d := d_degree_of) 9 rfl sc_degree_of (fun _ _ _ _ _ _ us hl => match us, hl with | [_], _ => rfl) len fun cdv A outer s H vs Q E hr h => ⟨_, der_degree_of T  hr , read vs H Q E h⟩

abbrev n_names_in : List Str := ["table"]
theorem sc_names_in : FnScope n_names_in ["table"] (defScope s_names_in) := ⟨rfl, rfl, rfl, by decide +kernel, rfl, by decide +kernel, by decide +kernel⟩
def t_names_in (K : PySem.W.Frag) : TS :=
    (tRet (tOp rSubI (tBits (tCB (rLenQ K) (tCons (tVar 0) tNil))) (tC (.int 1))))
theorem der_names_in (T : Top K mg)  {cdv : Value} {A : Around} {outer : List Env} {s : Shared} {H : Hp} {E : XK} {j : Nat} (hr : Room j (A.deeper (envOfC "names_in" (defScope s_names_in) s.heap.objs.size (He.ga K "names_in") cdv)))  :
    PSs (cxOf CX0 P w K mg base n_names_in "names_in" (defScope s_names_in) (He.ga K "names_in") cdv A outer s H E).nox (defBody s_names_in) (t_names_in K) :=
  (pss_one (ps_ret (pe_op op_sub (pe_bits (pe_callB c_len (by rfl) (T.free 1 _ rfl) (by decide +kernel) (pa_cons (pv 0) pa_nil))) pe_int)))
theorem mk_names_in (T : Top K mg)  {k : Nat}  {sp : Sp} (len : ∀ vs H Q E, sp vs H Q E → vs.length = 1)
    (read : ∀ vs H Q E, sp vs H Q E → t_names_in K ⟨fun _ H' => Q .non H', Q, fun _ _ => False, fun _ _ => False⟩ (start n_names_in vs) H) : Ok1 P w K mg base (k + 1) "names_in" ["table"] sp :=
  T.ok (d := d_names_in) 10 rfl sc_names_in (fun _ _ _ _ _ _ us hl => match us, hl with | [_], _ => rfl) len fun cdv A outer s H vs Q E hr h => ⟨_, der_names_in T  hr , read vs H Q E h⟩

abbrev n_is_plain_table : List Str := ["p", "value"]
theorem sc_is_plain_table : FnScope n_is_plain_table ["p", "value"] (defScope s_is_plain_table) := ⟨rfl, rfl, rfl, by decide +kernel, rfl, by decide +kernel, by decide +kernel⟩
def t_is_plain_table (K : PySem.W.Frag) (sp_are_numbers : Sp) : TS :=
    (tSeq (tIfS (tNot (tB (tCall sp_are_numbers [] E0 (tCons (tVar 0) (tCons (tVar 1) (tCons (tC (.int 1)) (tCons (tC (.int 1024)) tNil))))))) (tRet (tC (.bl false))) tNext)
    (tRet (tEqI (tOp rAndI (tCB (rLenQ K) (tCons (tVar 1) tNil)) (tOp rSubI (tCB (rLenQ K) (tCons (tVar 1) tNil)) (tC (.int 1)))) (tC (.int 0)))))
theorem der_is_plain_table (T : Top K mg) {sp_are_numbers : Sp} {l_are_numbers : Nat} (O_are_numbers : Ok1 P w K mg base l_are_numbers "are_numbers" ["p", "value", "low", "high"] sp_are_numbers) {cdv : Value} {A : Around} {outer : List Env} {s : Shared} {H : Hp} {E : XK} {j : Nat} (hr : Room j (A.deeper (envOfC "is_plain_table" (defScope s_is_plain_table) s.heap.objs.size (He.ga K "is_plain_table") cdv))) (h_are_numbers : l_are_numbers ≤ j) :
    PSs (cxOf CX0 P w K mg base n_is_plain_table "is_plain_table" (defScope s_is_plain_table) (He.ga K "is_plain_table") cdv A outer s H E).nox (defBody s_is_plain_table) (t_is_plain_table K sp_are_numbers) :=
  (pss_cons (ps_if (pt_not (pt_val (pe_callO O_are_numbers hr (by omega) (by rfl) (pa_cons (pv 0) (pa_cons (pv 1) (pa_cons pe_int (pa_cons (pe_glob (by rfl) (T.nums 2 _ _ rfl).choose_spec ⟨_, rfl⟩) pa_nil))))))) (pss_one (ps_ret pe_bl)) pss_nil)
    (pss_one (ps_ret (pe_cmp (pc_eqI (pe_op op_and (pe_callB c_len (by rfl) (T.free 1 _ rfl) (by decide +kernel) (pa_cons (pv 1) pa_nil)) (pe_op op_sub (pe_callB c_len (by rfl) (T.free 1 _ rfl) (by decide +kernel) (pa_cons (pv 1) pa_nil)) pe_int)) pe_int)))))
theorem mk_is_plain_table (T : Top K mg) {sp_are_numbers : Sp} {l_are_numbers : Nat} (O_are_numbers : Ok1 P w K mg base l_are_numbers "are_numbers" ["p", "value", "low", "high"] sp_are_numbers) {k : Nat} (h_are_numbers : l_are_numbers ≤ k) {sp : Sp} (len : ∀ vs H Q E, sp vs H Q E → vs.length = 2)
    (read : ∀ vs H Q E, sp vs H Q E → t_is_plain_table K sp_are_numbers ⟨fun _ H' => Q .non H', Q, fun _ _ => False, fun _ _ => False⟩ (start n_is_plain_table vs) H) : Ok1 P w K mg base (k + 1) "is_plain_table" ["p", "value"] sp :=
  T.ok (d := d_is_plain_table) 11 rfl sc_is_plain_table (fun _ _ _ _ _ _ us hl => match us, hl with | [_, _], _ => rfl) len fun cdv A outer s H vs Q E hr h => ⟨_, der_is_plain_table T O_are_numbers hr h_are_numbers, read vs H Q E h⟩

abbrev n_half : List Str := ["p", "table", "number", "middle", "at"]
theorem sc_half : FnScope n_half ["p", "table", "number"] (defScope s_half) := ⟨rfl, rfl, rfl, by decide +kernel, rfl, by decide +kernel, by decide +kernel⟩
def t_half (K : PySem.W.Frag) : TS :=
    (tSeq (tAsg (tOp rDivI (tCB (rLenQ K) (tCons (tVar 1) tNil)) (tC (.int 2))) (gName 3))
    (tRet (tCB (rTupQ K) (tCons (tLc (iRng1 (tCons (tVar 3) tNil)) (gName 4) tYes (tOp rModI (tOp rAddI (tOp (rIx K) (tVar 1) (tVar 4)) (tOp rMulI (tVar 2) (tOp rSubI (tOp (rIx K) (tVar 1) (tOp rAddI (tVar 3) (tVar 4))) (tOp (rIx K) (tVar 1) (tVar 4))))) (tVar 0)) [4]) tNil))))
theorem der_half (T : Top K mg)  {cdv : Value} {A : Around} {outer : List Env} {s : Shared} {H : Hp} {E : XK} {j : Nat} (hr : Room j (A.deeper (envOfC "half" (defScope s_half) s.heap.objs.size (He.ga K "half") cdv)))  :
    PSs (cxOf CX0 P w K mg base n_half "half" (defScope s_half) (He.ga K "half") cdv A outer s H E).nox (defBody s_half) (t_half K) :=
  (pss_cons (ps_set (i := 3) sc_half.nd rfl (Or.inr rfl) (pe_op op_fdivW (pe_callB c_len (by rfl) (T.free 1 _ rfl) (by decide +kernel) (pa_cons (pv 1) pa_nil)) pe_int))
    (pss_one (ps_ret (pe_callTy c_tuple (by rfl) (T.free 4 _ rfl) (by decide +kernel) (pa_cons (pe_lc (own := [("at", 4)]) (g := (gName 4)) (tt := tYes) (by rfl) sc_half.nd (pi_range1 (by rfl) (T.free 9 _ rfl) (pa_cons (pv 3) pa_nil)) (blkOk_by (own := [("at", 4)]) (N := n_half) (sc := defScope s_half) (by decide +kernel)) (fun _ _ _ _ _ => (pg_name (i := 4) sc_half.nd rfl (by first | exact Or.inl rfl | exact Or.inr rfl))) (fun _ _ _ _ _ => pts_nil) (fun _ _ _ _ _ => (pe_op op_mod (pe_op op_add (pe_ix ix_seq (pv 1) (pv 4) (fun _ _ => rfl)) (pe_op op_mul (pv 2) (pe_op op_sub (pe_ix ix_seq (pv 1) (pe_op op_add (pv 3) (pv 4)) (fun _ _ => rfl)) (pe_ix ix_seq (pv 1) (pv 4) (fun _ _ => rfl))))) (pv 0)))) pa_nil)))))
theorem mk_half (T : Top K mg)  {k : Nat}  {sp : Sp} (len : ∀ vs H Q E, sp vs H Q E → vs.length = 3)
    (read : ∀ vs H Q E, sp vs H Q E → t_half K ⟨fun _ H' => Q .non H', Q, fun _ _ => False, fun _ _ => False⟩ (start n_half vs) H) : Ok1 P w K mg base (k + 1) "half" ["p", "table", "number"] sp :=
  T.ok (d := d_half) 12 rfl sc_half (fun _ _ _ _ _ _ us hl => match us, hl with | [_, _, _], _ => rfl) len fun cdv A outer s H vs Q E hr h => ⟨_, der_half T  hr , read vs H Q E h⟩

abbrev n_spread_at : List Str := ["p", "table", "point", "number"]
theorem sc_spread_at : FnScope n_spread_at ["p", "table", "point"] (defScope s_spread_at) := ⟨rfl, rfl, rfl, by decide +kernel, rfl, by decide +kernel, by decide +kernel⟩
def t_spread_at (K : PySem.W.Frag) (sp_half : Sp) : TS :=
    (tSeq (tFor (iList K (tVar 2)) (gName 3) (tAsg (tCall sp_half [] E0 (tCons (tVar 0) (tCons (tVar 1) (tCons (tVar 3) tNil)))) (gName 1)))
    (tRet (tOp (rIx K) (tVar 1) (tC (.int 0)))))
theorem der_spread_at (T : Top K mg) {sp_half : Sp} {l_half : Nat} (O_half : Ok1 P w K mg base l_half "half" ["p", "table", "number"] sp_half) {cdv : Value} {A : Around} {outer : List Env} {s : Shared} {H : Hp} {E : XK} {j : Nat} (hr : Room j (A.deeper (envOfC "spread_at" (defScope s_spread_at) s.heap.objs.size (He.ga K "spread_at") cdv))) (h_half : l_half ≤ j) :
    PSs (cxOf CX0 P w K mg base n_spread_at "spread_at" (defScope s_spread_at) (He.ga K "spread_at") cdv A outer s H E).nox (defBody s_spread_at) (t_spread_at K sp_half) :=
  (pss_cons (ps_for PassesOwn.never rfl (pi_list (pv 2)) (pg_name (i := 3) sc_spread_at.nd rfl (Or.inl rfl)) (pss_one (ps_set (i := 1) sc_spread_at.nd rfl (Or.inl rfl) (pe_callO O_half hr (by omega) (by rfl) (pa_cons (pv 0) (pa_cons (pv 1) (pa_cons (pv 3) pa_nil)))))))
    (pss_one (ps_ret (pe_ix ix_seq (pv 1) pe_int (fun _ _ => rfl)))))
theorem mk_spread_at (T : Top K mg) {sp_half : Sp} {l_half : Nat} (O_half : Ok1 P w K mg base l_half "half" ["p", "table", "number"] sp_half) {k : Nat} (h_half : l_half ≤ k) {sp : Sp} (len : ∀ vs H Q E, sp vs H Q E → vs.length = 3)
    (read : ∀ vs H Q E, sp vs H Q E → t_spread_at K sp_half ⟨fun _ H' => Q .non H', Q, fun _ _ => False, fun _ _ => False⟩ (start n_spread_at vs) H) : Ok1 P w K mg base (k + 1) "spread_at" ["p", "table", "point"] sp :=
  T.ok (d := d_spread_at) 13 rfl sc_spread_at (fun _ _ _ _ _ _ us hl => match us, hl with | [_, _, _], _ => rfl) len fun cdv A outer s H vs Q E hr h => ⟨_, der_spread_at T O_half hr h_half, read vs H Q E h⟩

end
end K10

set_option Elab.async false
set_option linter.all false
set_option maxRecDepth 100000
set_option maxHeartbeats 4000000
/-! derivations -/
namespace K10
open PySem PySem.Spec PyProof.Rows L2 Evl
section
variable {P : Program} {w : World} {K : PySem.W.Frag} {mg : Str → Option Value} {base : Heap}

abbrev n_is_place : List Str := ["p", "many", "value"]
theorem sc_is_place : FnScope n_is_place ["p", "many", "value"] (defScope s_is_place) := ⟨rfl, rfl, rfl, by decide +kernel, rfl, by decide +kernel, by decide +kernel⟩
def t_is_place (K : PySem.W.Frag) (sp_is_from sp_is_number : Sp) : TS :=
    (tSeq (tIfS (tOr (tNot (tB (tCB (rIsi K) (tCons (tVar 2) (tCons (tC (.ty "tuple")) tNil))))) (tB (tNeI (tCB (rLenQ K) (tCons (tVar 2) tNil)) (tC (.int 2))))) (tRet (tC (.bl false))) tNext)
    (tSeq (tIfS (tTest (tOp rEq (tOp (rIx K) (tVar 2) (tC (.int 0))) (tC (.str "name")))) (tRet (tCall sp_is_from [] E0 (tCons (tOp (rIx K) (tVar 2) (tC (.int 1))) (tCons (tC (.int 0)) (tCons (tOp rSubI (tVar 1) (tC (.int 1))) tNil))))) tNext)
    (tRet (tAndV (tOp rEq (tOp (rIx K) (tVar 2) (tC (.int 0))) (tC (.str "number"))) (tCall sp_is_number [] E0 (tCons (tVar 0) (tCons (tOp (rIx K) (tVar 2) (tC (.int 1))) tNil)))))))
theorem der_is_place (T : Top K mg) {sp_is_from : Sp} {l_is_from : Nat} (O_is_from : Ok1 P w K mg base l_is_from "is_from" ["value", "low", "high"] sp_is_from) {sp_is_number : Sp} {l_is_number : Nat} (O_is_number : Ok1 P w K mg base l_is_number "is_number" ["p", "value"] sp_is_number) {cdv : Value} {A : Around} {outer : List Env} {s : Shared} {H : Hp} {E : XK} {j : Nat} (hr : Room j (A.deeper (envOfC "is_place" (defScope s_is_place) s.heap.objs.size (He.ga K "is_place") cdv))) (h_is_from : l_is_from ≤ j) (h_is_number : l_is_number ≤ j) :
    PSs (cxOf CX0 P w K mg base n_is_place "is_place" (defScope s_is_place) (He.ga K "is_place") cdv A outer s H E).nox (defBody s_is_place) (t_is_place K sp_is_from sp_is_number) :=
  (pss_cons (ps_if (PW.pt (pw_or (pt_not (pt_val (pe_callB call_isi (by rfl) (T.free 0 _ rfl) (by decide +kernel) (pa_cons (pv 2) (pa_cons (pe_bltn (v := .ty "tuple") (by rfl) (T.free 4 _ rfl) (by decide +kernel) rfl) pa_nil))))) (pw_or1 (pt_cmp (pc_neI (pe_callB c_len (by rfl) (T.free 1 _ rfl) (by decide +kernel) (pa_cons (pv 2) pa_nil)) pe_int))))) (pss_one (ps_ret pe_bl)) pss_nil)
    (pss_cons (ps_if (pt_cmpR op_eq (pe_ix ix_seq (pv 2) pe_int (fun _ _ => rfl)) pe_str (nomark _)) (pss_one (ps_ret (pe_callO O_is_from hr (by omega) (by rfl) (pa_cons (pe_ix ix_seq (pv 2) pe_int (fun _ _ => rfl)) (pa_cons pe_int (pa_cons (pe_op op_sub (pv 1) pe_int) pa_nil)))))) pss_nil)
    (pss_one (ps_ret (pe_and (pe_cmpR op_eq (pe_ix ix_seq (pv 2) pe_int (fun _ _ => rfl)) pe_str (nomark _)) (pe_one (pe_callO O_is_number hr (by omega) (by rfl) (pa_cons (pv 0) (pa_cons (pe_ix ix_seq (pv 2) pe_int (fun _ _ => rfl)) pa_nil)))))))))
theorem mk_is_place (T : Top K mg) {sp_is_from : Sp} {l_is_from : Nat} (O_is_from : Ok1 P w K mg base l_is_from "is_from" ["value", "low", "high"] sp_is_from) {sp_is_number : Sp} {l_is_number : Nat} (O_is_number : Ok1 P w K mg base l_is_number "is_number" ["p", "value"] sp_is_number) {k : Nat} (h_is_from : l_is_from ≤ k) (h_is_number : l_is_number ≤ k) {sp : Sp} (len : ∀ vs H Q E, sp vs H Q E → vs.length = 3)
    (read : ∀ vs H Q E, sp vs H Q E → t_is_place K sp_is_from sp_is_number ⟨fun _ H' => Q .non H', Q, fun _ _ => False, fun _ _ => False⟩ (start n_is_place vs) H) : Ok1 P w K mg base (k + 1) "is_place" ["p", "many", "value"] sp :=
  T.ok (d := d_is_place) 14 rfl sc_is_place (fun _ _ _ _ _ _ us hl => match us, hl with | [_, _, _], _ => rfl) len fun cdv A outer s H vs Q E hr h => ⟨_, der_is_place T O_is_from O_is_number hr h_is_from h_is_number, read vs H Q E h⟩

abbrev n_is_leaf : List Str := ["p", "many", "value", "place"]
theorem sc_is_leaf : FnScope n_is_leaf ["p", "many", "value"] (defScope s_is_leaf) := ⟨rfl, rfl, rfl, by decide +kernel, rfl, by decide +kernel, by decide +kernel⟩
def t_is_leaf (K : PySem.W.Frag) (sp_names_in sp_is_plain_table sp_is_place : Sp) : TS :=
    (tSeq (tIfS (tTest (tOp (rIn K false) (tOp (rIx K) (tVar 2) (tC (.int 0))) (tTup (tCons (tC (.str "number")) (tCons (tC (.str "name")) tNil))))) (tRet (tCall sp_is_place [] E0 (tCons (tVar 0) (tCons (tVar 1) (tCons (tVar 2) tNil))))) tNext)
    (tSeq (tIfS (tOr (tTest (tOp rNe (tOp (rIx K) (tVar 2) (tC (.int 0))) (tC (.str "table")))) (tOr (tB (tNeI (tCB (rLenQ K) (tCons (tVar 2) tNil)) (tC (.int 3)))) (tOr (tNot (tB (tCall sp_is_plain_table [] E0 (tCons (tVar 0) (tCons (tOp (rIx K) (tVar 2) (tC (.int 1))) tNil))))) (tNot (tB (tCB (rIsi K) (tCons (tOp (rIx K) (tVar 2) (tC (.int 2))) (tCons (tC (.ty "tuple")) tNil)))))))) (tRet (tC (.bl false))) tNext)
    (tRet (tAndV (tEqI (tCB (rLenQ K) (tCons (tOp (rIx K) (tVar 2) (tC (.int 2))) tNil)) (tCall sp_names_in [] E0 (tCons (tOp (rIx K) (tVar 2) (tC (.int 1))) tNil))) (tCB (rAll K) (tCons (tLc (iTup K (tOp (rIx K) (tVar 2) (tC (.int 2)))) (gName 3) tYes (tCall sp_is_place [] E0 (tCons (tVar 0) (tCons (tVar 1) (tCons (tVar 3) tNil)))) [3]) tNil))))))
theorem der_is_leaf (T : Top K mg) {sp_names_in : Sp} {l_names_in : Nat} (O_names_in : Ok1 P w K mg base l_names_in "names_in" ["table"] sp_names_in) {sp_is_plain_table : Sp} {l_is_plain_table : Nat} (O_is_plain_table : Ok1 P w K mg base l_is_plain_table "is_plain_table" ["p", "value"] sp_is_plain_table) {sp_is_place : Sp} {l_is_place : Nat} (O_is_place : Ok1 P w K mg base l_is_place "is_place" ["p", "many", "value"] sp_is_place) {cdv : Value} {A : Around} {outer : List Env} {s : Shared} {H : Hp} {E : XK} {j : Nat} (hr : Room j (A.deeper (envOfC "is_leaf" (defScope s_is_leaf) s.heap.objs.size (He.ga K "is_leaf") cdv))) (h_names_in : l_names_in ≤ j) (h_is_plain_table : l_is_plain_table ≤ j) (h_is_place : l_is_place ≤ j) :
    PSs (cxOf CX0 P w K mg base n_is_leaf "is_leaf" (defScope s_is_leaf) (He.ga K "is_leaf") cdv A outer s H E).nox (defBody s_is_leaf) (t_is_leaf K sp_names_in sp_is_plain_table sp_is_place) :=
  (pss_cons (ps_if (pt_cmpR op_in_seq (pe_ix ix_seq (pv 2) pe_int (fun _ _ => rfl)) (pe_tup (pa_cons pe_str (pa_cons pe_str pa_nil))) (by rfl)) (pss_one (ps_ret (pe_callO O_is_place hr (by omega) (by rfl) (pa_cons (pv 0) (pa_cons (pv 1) (pa_cons (pv 2) pa_nil)))))) pss_nil)
    (pss_cons (ps_if (PW.pt (pw_or (pt_cmpR op_ne (pe_ix ix_seq (pv 2) pe_int (fun _ _ => rfl)) pe_str (nomark _)) (pw_or (pt_cmp (pc_neI (pe_callB c_len (by rfl) (T.free 1 _ rfl) (by decide +kernel) (pa_cons (pv 2) pa_nil)) pe_int)) (pw_or (pt_not (pt_val (pe_callO O_is_plain_table hr (by omega) (by rfl) (pa_cons (pv 0) (pa_cons (pe_ix ix_seq (pv 2) pe_int (fun _ _ => rfl)) pa_nil))))) (pw_or1 (pt_not (pt_val (pe_callB call_isi (by rfl) (T.free 0 _ rfl) (by decide +kernel) (pa_cons (pe_ix ix_seq (pv 2) pe_int (fun _ _ => rfl)) (pa_cons (pe_bltn (v := .ty "tuple") (by rfl) (T.free 4 _ rfl) (by decide +kernel) rfl) pa_nil)))))))))) (pss_one (ps_ret pe_bl)) pss_nil)
    (pss_one (ps_ret (pe_and (pe_cmp (pc_eqI (pe_callB c_len (by rfl) (T.free 1 _ rfl) (by decide +kernel) (pa_cons (pe_ix ix_seq (pv 2) pe_int (fun _ _ => rfl)) pa_nil)) (pe_callO O_names_in hr (by omega) (by rfl) (pa_cons (pe_ix ix_seq (pv 2) pe_int (fun _ _ => rfl)) pa_nil)))) (pe_one (pe_callB (cr_all rfl) (by rfl) (T.free 2 _ rfl) (by decide +kernel) (pa_cons (pe_lc (own := [("place", 3)]) (g := (gName 3)) (tt := tYes) (by rfl) sc_is_leaf.nd (pi_tup (pe_ix ix_seq (pv 2) pe_int (fun _ _ => rfl))) (blkOk_by (own := [("place", 3)]) (N := n_is_leaf) (sc := defScope s_is_leaf) (by decide +kernel)) (fun _ _ _ _ _ => (pg_name (i := 3) sc_is_leaf.nd rfl (by first | exact Or.inl rfl | exact Or.inr rfl))) (fun _ _ _ _ _ => pts_nil) (fun _ _ _ _ _ => (pe_callO O_is_place hr (by omega) (by rfl) (pa_cons (pv 0) (pa_cons (pv 1) (pa_cons (pv 3) pa_nil)))))) pa_nil))))))))
theorem mk_is_leaf (T : Top K mg) {sp_names_in : Sp} {l_names_in : Nat} (O_names_in : Ok1 P w K mg base l_names_in "names_in" ["table"] sp_names_in) {sp_is_plain_table : Sp} {l_is_plain_table : Nat} (O_is_plain_table : Ok1 P w K mg base l_is_plain_table "is_plain_table" ["p", "value"] sp_is_plain_table) {sp_is_place : Sp} {l_is_place : Nat} (O_is_place : Ok1 P w K mg base l_is_place "is_place" ["p", "many", "value"] sp_is_place) {k : Nat} (h_names_in : l_names_in ≤ k) (h_is_plain_table : l_is_plain_table ≤ k) (h_is_place : l_is_place ≤ k) {sp : Sp} (len : ∀ vs H Q E, sp vs H Q E → vs.length = 3)
    (read : ∀ vs H Q E, sp vs H Q E → t_is_leaf K sp_names_in sp_is_plain_table sp_is_place ⟨fun _ H' => Q .non H', Q, fun _ _ => False, fun _ _ => False⟩ (start n_is_leaf vs) H) : Ok1 P w K mg base (k + 1) "is_leaf" ["p", "many", "value"] sp :=
  T.ok (d := d_is_leaf) 15 rfl sc_is_leaf (fun _ _ _ _ _ _ us hl => match us, hl with | [_, _, _], _ => rfl) len fun cdv A outer s H vs Q E hr h => ⟨_, der_is_leaf T O_names_in O_is_plain_table O_is_place hr h_names_in h_is_plain_table h_is_place, read vs H Q E h⟩

abbrev n_is_plain_rule : List Str := ["p", "many", "value", "left", "words", "part", "deep"]
theorem sc_is_plain_rule : FnScope n_is_plain_rule ["p", "many", "value"] (defScope s_is_plain_rule) := ⟨rfl, rfl, rfl, by decide +kernel, rfl, by decide +kernel, by decide +kernel⟩
def t_is_plain_rule (K : PySem.W.Frag) (sp_is_leaf : Sp) : TS :=
    (tSeq (tPar 3 4 (tCons (tLst (tCons (tTup (tCons (tVar 2) (tCons (tC (.int 1)) tNil))) tNil)) (tCons (tC (.int 0)) tNil)))
    (tSeq (tWhile (tTest (tOp (rNeD K) (tVar 3) (tLst tNil))) (tSeq (tAsg (tBM0 K "list" rPop (tVar 3)) (gTup K 2 (gCons (gName 5) (gCons (gName 6) gNil))))
    (tSeq (tAug 4 (tC (.int 1)) (ipI fun i j => i + j))
    (tSeq (tIfS (tOr (tB (tGt (tVar 4) (tC (.int 2000)))) (tB (tGt (tVar 6) (tC (.int 400))))) (tRet (tC (.bl false))) tNext)
    (tSeq (tIfS (tOr (tNot (tB (tCB (rIsi K) (tCons (tVar 5) (tCons (tC (.ty "tuple")) tNil))))) (tOr (tTest (tOp (rEqD K) (tVar 5) (tTup tNil))) (tNot (tB (tCB (rIsi K) (tCons (tOp (rIx K) (tVar 5) (tC (.int 0))) (tCons (tC (.ty "str")) tNil))))))) (tRet (tC (.bl false))) tNext)
    (tIfS (tTest (tOp (rIn K false) (tOp (rIx K) (tVar 5) (tC (.int 0))) (tC (.ref (He.ga K "JOINS"))))) (tSeq (tIfS (tB (tNeI (tCB (rLenQ K) (tCons (tVar 5) tNil)) (tC (.int 3)))) (tRet (tC (.bl false))) tNext)
    (tSeq (tDrop (tBM K "list" rAppend (tVar 3) (tCons (tTup (tCons (tOp (rIx K) (tVar 5) (tC (.int 1))) (tCons (tOp rAddI (tVar 6) (tC (.int 1))) tNil))) tNil)))
    (tDrop (tBM K "list" rAppend (tVar 3) (tCons (tTup (tCons (tOp (rIx K) (tVar 5) (tC (.int 2))) (tCons (tOp rAddI (tVar 6) (tC (.int 1))) tNil))) tNil))))) (tIfS (tNot (tB (tCall sp_is_leaf [] E0 (tCons (tVar 0) (tCons (tVar 1) (tCons (tVar 5) tNil)))))) (tRet (tC (.bl false))) tNext)))))))
    (tRet (tC (.bl true)))))
theorem der_is_plain_rule (T : Top K mg) {sp_is_leaf : Sp} {l_is_leaf : Nat} (O_is_leaf : Ok1 P w K mg base l_is_leaf "is_leaf" ["p", "many", "value"] sp_is_leaf) {cdv : Value} {A : Around} {outer : List Env} {s : Shared} {H : Hp} {E : XK} {j : Nat} (hr : Room j (A.deeper (envOfC "is_plain_rule" (defScope s_is_plain_rule) s.heap.objs.size (He.ga K "is_plain_rule") cdv))) (h_is_leaf : l_is_leaf ≤ j) :
    PSs (cxOf CX0 P w K mg base n_is_plain_rule "is_plain_rule" (defScope s_is_plain_rule) (He.ga K "is_plain_rule") cdv A outer s H E).nox (defBody s_is_plain_rule) (t_is_plain_rule K sp_is_leaf) :=
  (pss_cons (ps_par (i := 3) (j := 4) (by rfl) sc_is_plain_rule.nd rfl rfl (by decide) rfl rfl (pa_cons (pe_lst (pa_cons (pe_tup (pa_cons (pv 2) (pa_cons pe_int pa_nil))) pa_nil)) (pa_cons pe_int pa_nil)) (by rfl))
    (pss_cons (ps_while PassesOwn.never (pt_cmpR (op_neD hr.units) (pv 3) (pe_lst pa_nil) (nomark _)) (pss_cons (ps_asg (pe_bm0 PySem.F.plainAttrs_list PySem.F.slot_list_pop PySem.F.type_list_pop mt_pop (pv 3)) (pg_tup rfl (pgs_cons (pg_name (i := 5) sc_is_plain_rule.nd rfl (Or.inl rfl)) (pgs_cons (pg_name (i := 6) sc_is_plain_rule.nd rfl (Or.inl rfl)) pgs_nil))))
    (pss_cons (ps_aug (i := 4) sc_is_plain_rule.nd rfl (Or.inl rfl) pe_int ip_add)
    (pss_cons (ps_if (PW.pt (pw_or (pt_cmp (pc_gt (pv 4) (pe_glob (by rfl) (T.nums 4 _ _ rfl).choose_spec ⟨_, rfl⟩))) (pw_or1 (pt_cmp (pc_gt (pv 6) (pe_glob (by rfl) (T.nums 5 _ _ rfl).choose_spec ⟨_, rfl⟩)))))) (pss_one (ps_ret pe_bl)) pss_nil)
    (pss_cons (ps_if (PW.pt (pw_or (pt_not (pt_val (pe_callB call_isi (by rfl) (T.free 0 _ rfl) (by decide +kernel) (pa_cons (pv 5) (pa_cons (pe_bltn (v := .ty "tuple") (by rfl) (T.free 4 _ rfl) (by decide +kernel) rfl) pa_nil))))) (pw_or (pt_cmpR (op_eqD hr.units) (pv 5) (pe_tup pa_nil) (nomark _)) (pw_or1 (pt_not (pt_val (pe_callB call_isi (by rfl) (T.free 0 _ rfl) (by decide +kernel) (pa_cons (pe_ix ix_seq (pv 5) pe_int (fun _ _ => rfl)) (pa_cons (pe_bltn (v := .ty "str") (by rfl) (T.free 16 _ rfl) (by decide +kernel) rfl) pa_nil))))))))) (pss_one (ps_ret pe_bl)) pss_nil)
    (pss_one (ps_if (pt_cmpR op_in_seq (pe_ix ix_seq (pv 5) pe_int (fun _ _ => rfl)) (pe_glob (by rfl) T.gJOINS rfl) (by rfl)) (pss_cons (ps_if (pt_cmp (pc_neI (pe_callB c_len (by rfl) (T.free 1 _ rfl) (by decide +kernel) (pa_cons (pv 5) pa_nil)) pe_int)) (pss_one (ps_ret pe_bl)) pss_nil)
    (pss_cons (ps_expr (pe_bm PySem.F.plainAttrs_list PySem.F.slot_list_append PySem.F.type_list_append mt_append (pv 3) (pa_cons (pe_tup (pa_cons (pe_ix ix_seq (pv 5) pe_int (fun _ _ => rfl)) (pa_cons (pe_op op_add (pv 6) pe_int) pa_nil))) pa_nil)))
    (pss_one (ps_expr (pe_bm PySem.F.plainAttrs_list PySem.F.slot_list_append PySem.F.type_list_append mt_append (pv 3) (pa_cons (pe_tup (pa_cons (pe_ix ix_seq (pv 5) pe_int (fun _ _ => rfl)) (pa_cons (pe_op op_add (pv 6) pe_int) pa_nil))) pa_nil)))))) (pss_one (ps_if (pt_not (pt_val (pe_callO O_is_leaf hr (by omega) (by rfl) (pa_cons (pv 0) (pa_cons (pv 1) (pa_cons (pv 5) pa_nil)))))) (pss_one (ps_ret pe_bl)) pss_nil)))))))))
    (pss_one (ps_ret pe_bl))))
theorem mk_is_plain_rule (T : Top K mg) {sp_is_leaf : Sp} {l_is_leaf : Nat} (O_is_leaf : Ok1 P w K mg base l_is_leaf "is_leaf" ["p", "many", "value"] sp_is_leaf) {k : Nat} (h_is_leaf : l_is_leaf ≤ k) {sp : Sp} (len : ∀ vs H Q E, sp vs H Q E → vs.length = 3)
    (read : ∀ vs H Q E, sp vs H Q E → t_is_plain_rule K sp_is_leaf ⟨fun _ H' => Q .non H', Q, fun _ _ => False, fun _ _ => False⟩ (start n_is_plain_rule vs) H) : Ok1 P w K mg base (k + 1) "is_plain_rule" ["p", "many", "value"] sp :=
  T.ok (d := d_is_plain_rule) 16 rfl sc_is_plain_rule (fun _ _ _ _ _ _ us hl => match us, hl with | [_, _, _], _ => rfl) len fun cdv A outer s H vs Q E hr h => ⟨_, der_is_plain_rule T O_is_leaf hr h_is_leaf, read vs H Q E h⟩

abbrev n_place_at : List Str := ["place", "point"]
theorem sc_place_at : FnScope n_place_at ["place", "point"] (defScope s_place_at) := ⟨rfl, rfl, rfl, by decide +kernel, rfl, by decide +kernel, by decide +kernel⟩
def t_place_at (K : PySem.W.Frag) : TS :=
    (tRet (tIf (tTest (tOp rEq (tOp (rIx K) (tVar 0) (tC (.int 0))) (tC (.str "number")))) (tOp (rIx K) (tVar 0) (tC (.int 1))) (tOp (rIx K) (tVar 1) (tOp (rIx K) (tVar 0) (tC (.int 1))))))
theorem der_place_at (T : Top K mg)  {cdv : Value} {A : Around} {outer : List Env} {s : Shared} {H : Hp} {E : XK} {j : Nat} (hr : Room j (A.deeper (envOfC "place_at" (defScope s_place_at) s.heap.objs.size (He.ga K "place_at") cdv)))  :
    PSs (cxOf CX0 P w K mg base n_place_at "place_at" (defScope s_place_at) (He.ga K "place_at") cdv A outer s H E).nox (defBody s_place_at) (t_place_at K) :=
  (pss_one (ps_ret (pe_ifExp (pt_cmpR op_eq (pe_ix ix_seq (pv 0) pe_int (fun _ _ => rfl)) pe_str (nomark _)) (pe_ix ix_seq (pv 0) pe_int (fun _ _ => rfl)) (pe_ix ix_seq (pv 1) (pe_ix ix_seq (pv 0) pe_int (fun _ _ => rfl)) (fun _ _ => rfl)))))
theorem mk_place_at (T : Top K mg)  {k : Nat}  {sp : Sp} (len : ∀ vs H Q E, sp vs H Q E → vs.length = 2)
    (read : ∀ vs H Q E, sp vs H Q E → t_place_at K ⟨fun _ H' => Q .non H', Q, fun _ _ => False, fun _ _ => False⟩ (start n_place_at vs) H) : Ok1 P w K mg base (k + 1) "place_at" ["place", "point"] sp :=
  T.ok (d := d_place_at) 17 rfl sc_place_at (fun _ _ _ _ _ _ us hl => match us, hl with | [_, _], _ => rfl) len fun cdv A outer s H vs Q E hr h => ⟨_, der_place_at T  hr , read vs H Q E h⟩

abbrev n_value_at : List Str := ["p", "rule", "point", "word", "one", "other", "place"]
theorem sc_value_at : FnScope n_value_at ["p", "rule", "point"] (defScope s_value_at) := ⟨rfl, rfl, rfl, by decide +kernel, rfl, by decide +kernel, by decide +kernel⟩
def t_value_at (K : PySem.W.Frag) (sp_spread_at sp_place_at spSelf : Sp) : TS :=
    (tSeq (tAsg (tOp (rIx K) (tVar 1) (tC (.int 0))) (gName 3))
    (tSeq (tIfS (tOr (tTest (tOp rEq (tVar 3) (tC (.str "number")))) (tTest (tOp rEq (tVar 3) (tC (.str "name"))))) (tRet (tCall sp_place_at [] E0 (tCons (tVar 1) (tCons (tVar 2) tNil)))) tNext)
    (tSeq (tIfS (tTest (tOp rEq (tVar 3) (tC (.str "table")))) (tRet (tCall sp_spread_at [] E0 (tCons (tVar 0) (tCons (tOp (rIx K) (tVar 1) (tC (.int 1))) (tCons (tLc (iTup K (tOp (rIx K) (tVar 1) (tC (.int 2)))) (gName 6) tYes (tCall sp_place_at [] E0 (tCons (tVar 6) (tCons (tVar 2) tNil))) [6]) tNil))))) tNext)
    (tSeq (tPar 4 5 (tCons (tCall spSelf [] E0 (tCons (tVar 0) (tCons (tOp (rIx K) (tVar 1) (tC (.int 1))) (tCons (tVar 2) tNil)))) (tCons (tCall spSelf [] E0 (tCons (tVar 0) (tCons (tOp (rIx K) (tVar 1) (tC (.int 2))) (tCons (tVar 2) tNil)))) tNil)))
    (tSeq (tIfS (tTest (tOp rEq (tVar 3) (tC (.str "times")))) (tRet (tOp rModI (tOp rMulI (tVar 4) (tVar 5)) (tVar 0))) tNext)
    (tRet (tIf (tTest (tOp rEq (tVar 3) (tC (.str "plus")))) (tOp rModI (tOp rAddI (tVar 4) (tVar 5)) (tVar 0)) (tOp rModI (tOp rSubI (tVar 4) (tVar 5)) (tVar 0)))))))))
theorem der_value_at (T : Top K mg) {sp_spread_at : Sp} {l_spread_at : Nat} (O_spread_at : Ok1 P w K mg base l_spread_at "spread_at" ["p", "table", "point"] sp_spread_at) {sp_place_at : Sp} {l_place_at : Nat} (O_place_at : Ok1 P w K mg base l_place_at "place_at" ["place", "point"] sp_place_at) {spSelf : Sp} {l_self : Nat} (OSelf : Ok1 P w K mg base l_self "value_at" ["p", "rule", "point"] spSelf) {cdv : Value} {A : Around} {outer : List Env} {s : Shared} {H : Hp} {E : XK} {j : Nat} (hr : Room j (A.deeper (envOfC "value_at" (defScope s_value_at) s.heap.objs.size (He.ga K "value_at") cdv))) (h_spread_at : l_spread_at ≤ j) (h_place_at : l_place_at ≤ j) (h_self : l_self ≤ j) :
    PSs (cxOf CX0 P w K mg base n_value_at "value_at" (defScope s_value_at) (He.ga K "value_at") cdv A outer s H E).nox (defBody s_value_at) (t_value_at K sp_spread_at sp_place_at spSelf) :=
  (pss_cons (ps_set (i := 3) sc_value_at.nd rfl (Or.inl rfl) (pe_ix ix_seq (pv 1) pe_int (fun _ _ => rfl)))
    (pss_cons (ps_if (PW.pt (pw_or (pt_cmpR op_eq (pv 3) pe_str (nomark _)) (pw_or1 (pt_cmpR op_eq (pv 3) pe_str (nomark _))))) (pss_one (ps_ret (pe_callO O_place_at hr (by omega) (by rfl) (pa_cons (pv 1) (pa_cons (pv 2) pa_nil))))) pss_nil)
    (pss_cons (ps_if (pt_cmpR op_eq (pv 3) pe_str (nomark _)) (pss_one (ps_ret (pe_callO O_spread_at hr (by omega) (by rfl) (pa_cons (pv 0) (pa_cons (pe_ix ix_seq (pv 1) pe_int (fun _ _ => rfl)) (pa_cons (pe_lc (own := [("place", 6)]) (g := (gName 6)) (tt := tYes) (by rfl) sc_value_at.nd (pi_tup (pe_ix ix_seq (pv 1) pe_int (fun _ _ => rfl))) (blkOk_by (own := [("place", 6)]) (N := n_value_at) (sc := defScope s_value_at) (by decide +kernel)) (fun _ _ _ _ _ => (pg_name (i := 6) sc_value_at.nd rfl (by first | exact Or.inl rfl | exact Or.inr rfl))) (fun _ _ _ _ _ => pts_nil) (fun _ _ _ _ _ => (pe_callO O_place_at hr (by omega) (by rfl) (pa_cons (pv 6) (pa_cons (pv 2) pa_nil))))) pa_nil)))))) pss_nil)
    (pss_cons (ps_par (i := 4) (j := 5) (by rfl) sc_value_at.nd rfl rfl (by decide) rfl rfl (pa_cons (pe_callO OSelf hr (by omega) (by rfl) (pa_cons (pv 0) (pa_cons (pe_ix ix_seq (pv 1) pe_int (fun _ _ => rfl)) (pa_cons (pv 2) pa_nil)))) (pa_cons (pe_callO OSelf hr (by omega) (by rfl) (pa_cons (pv 0) (pa_cons (pe_ix ix_seq (pv 1) pe_int (fun _ _ => rfl)) (pa_cons (pv 2) pa_nil)))) pa_nil)) (by rfl))
    (pss_cons (ps_if (pt_cmpR op_eq (pv 3) pe_str (nomark _)) (pss_one (ps_ret (pe_op op_mod (pe_op op_mul (pv 4) (pv 5)) (pv 0)))) pss_nil)
    (pss_one (ps_ret (pe_ifExp (pt_cmpR op_eq (pv 3) pe_str (nomark _)) (pe_op op_mod (pe_op op_add (pv 4) (pv 5)) (pv 0)) (pe_op op_mod (pe_op op_sub (pv 4) (pv 5)) (pv 0))))))))))
theorem mk_value_at (T : Top K mg) {sp_spread_at : Sp} {l_spread_at : Nat} (O_spread_at : Ok1 P w K mg base l_spread_at "spread_at" ["p", "table", "point"] sp_spread_at) {sp_place_at : Sp} {l_place_at : Nat} (O_place_at : Ok1 P w K mg base l_place_at "place_at" ["place", "point"] sp_place_at) {spSelf : Sp} {l_self : Nat} (OSelf : Ok1 P w K mg base l_self "value_at" ["p", "rule", "point"] spSelf) {k : Nat} (h_spread_at : l_spread_at ≤ k) (h_place_at : l_place_at ≤ k) (h_self : l_self ≤ k) {sp : Sp} (len : ∀ vs H Q E, sp vs H Q E → vs.length = 3)
    (read : ∀ vs H Q E, sp vs H Q E → t_value_at K sp_spread_at sp_place_at spSelf ⟨fun _ H' => Q .non H', Q, fun _ _ => False, fun _ _ => False⟩ (start n_value_at vs) H) : Ok1 P w K mg base (k + 1) "value_at" ["p", "rule", "point"] sp :=
  T.ok (d := d_value_at) 18 rfl sc_value_at (fun _ _ _ _ _ _ us hl => match us, hl with | [_, _, _], _ => rfl) len fun cdv A outer s H vs Q E hr h => ⟨_, der_value_at T O_spread_at O_place_at OSelf hr h_spread_at h_place_at h_self, read vs H Q E h⟩

abbrev n_told_degrees : List Str := ["many", "rule", "word", "one", "other", "places", "name", "left", "right", "place"]
theorem sc_told_degrees : FnScope n_told_degrees ["many", "rule"] (defScope s_told_degrees) := ⟨rfl, rfl, rfl, by decide +kernel, rfl, by decide +kernel, by decide +kernel⟩
def t_told_degrees (K : PySem.W.Frag) (spSelf : Sp) : TS :=
    (tSeq (tAsg (tOp (rIx K) (tVar 1) (tC (.int 0))) (gName 2))
    (tSeq (tIfS (tTest (tOp (rIn K false) (tVar 2) (tC (.ref (He.ga K "JOINS"))))) (tSeq (tPar 3 4 (tCons (tCall spSelf [] E0 (tCons (tVar 0) (tCons (tOp (rIx K) (tVar 1) (tC (.int 1))) tNil))) (tCons (tCall spSelf [] E0 (tCons (tVar 0) (tCons (tOp (rIx K) (tVar 1) (tC (.int 2))) tNil))) tNil)))
    (tSeq (tIfS (tTest (tOp rEq (tVar 2) (tC (.str "times")))) (tRet (tCB (rTupQ K) (tCons (tLc (RZ.iZipA K (tCons (tVar 3) (tCons (tVar 4) tNil))) (gTup K 2 (gCons (gName 7) (gCons (gName 8) gNil))) tYes (tOp rAddI (tVar 7) (tVar 8)) [7, 8]) tNil))) tNext)
    (tRet (tCB (rTupQ K) (tCons (tLc (RZ.iZipA K (tCons (tVar 3) (tCons (tVar 4) tNil))) (gTup K 2 (gCons (gName 7) (gCons (gName 8) gNil))) tYes (tCB rMaxQ (tCons (tVar 7) (tCons (tVar 8) tNil))) [7, 8]) tNil))))) tNext)
    (tSeq (tAsg (tIf (tTest (tOp rEq (tVar 2) (tC (.str "table")))) (tOp (rIx K) (tVar 1) (tC (.int 2))) (tTup (tCons (tVar 1) tNil))) (gName 5))
    (tRet (tCB (rTupQ K) (tCons (tLc (iRng1 (tCons (tVar 0) tNil)) (gName 6) tYes (tCB (rLenQ K) (tCons (tLc (iTup K (tVar 5)) (gName 9) (tTest (tOp (rEqD K) (tVar 9) (tTup (tCons (tC (.str "name")) (tCons (tVar 6) tNil))))) (tVar 9) [9]) tNil)) [6]) tNil))))))
theorem der_told_degrees (T : Top K mg)  {spSelf : Sp} {l_self : Nat} (OSelf : Ok1 P w K mg base l_self "told_degrees" ["many", "rule"] spSelf) {cdv : Value} {A : Around} {outer : List Env} {s : Shared} {H : Hp} {E : XK} {j : Nat} (hr : Room j (A.deeper (envOfC "told_degrees" (defScope s_told_degrees) s.heap.objs.size (He.ga K "told_degrees") cdv)))  (h_self : l_self ≤ j) :
    PSs (cxOf CX0 P w K mg base n_told_degrees "told_degrees" (defScope s_told_degrees) (He.ga K "told_degrees") cdv A outer s H E).nox (defBody s_told_degrees) (t_told_degrees K spSelf) :=
  (pss_cons (ps_set (i := 2) sc_told_degrees.nd rfl (Or.inl rfl) (pe_ix ix_seq (pv 1) pe_int (fun _ _ => rfl)))
    (pss_cons (ps_if (pt_cmpR op_in_seq (pv 2) (pe_glob (by rfl) T.gJOINS rfl) (by rfl)) (pss_cons (ps_par (i := 3) (j := 4) (by rfl) sc_told_degrees.nd rfl rfl (by decide) rfl rfl (pa_cons (pe_callO OSelf hr (by omega) (by rfl) (pa_cons (pv 0) (pa_cons (pe_ix ix_seq (pv 1) pe_int (fun _ _ => rfl)) pa_nil))) (pa_cons (pe_callO OSelf hr (by omega) (by rfl) (pa_cons (pv 0) (pa_cons (pe_ix ix_seq (pv 1) pe_int (fun _ _ => rfl)) pa_nil))) pa_nil)) (by rfl))
    (pss_cons (ps_if (pt_cmpR op_eq (pv 2) pe_str (nomark _)) (pss_one (ps_ret (pe_callTy c_tuple (by rfl) (T.free 4 _ rfl) (by decide +kernel) (pa_cons (pe_lc (own := [("left", 7), ("right", 8)]) (g := (gTup K 2 (gCons (gName 7) (gCons (gName 8) gNil)))) (tt := tYes) (by rfl) sc_told_degrees.nd (RZ.pi_zipA (by rfl) (T.free 11 _ rfl) (pa_cons (pv 3) (pa_cons (pv 4) pa_nil))) (blkOk_by (own := [("left", 7), ("right", 8)]) (N := n_told_degrees) (sc := defScope s_told_degrees) (by decide +kernel)) (fun _ _ _ _ _ => (pg_tup rfl (pgs_cons (pg_name (i := 7) sc_told_degrees.nd rfl (by first | exact Or.inl rfl | exact Or.inr rfl)) (pgs_cons (pg_name (i := 8) sc_told_degrees.nd rfl (by first | exact Or.inl rfl | exact Or.inr rfl)) pgs_nil)))) (fun _ _ _ _ _ => pts_nil) (fun _ _ _ _ _ => (pe_op op_add (pv 7) (pv 8)))) pa_nil)))) pss_nil)
    (pss_one (ps_ret (pe_callTy c_tuple (by rfl) (T.free 4 _ rfl) (by decide +kernel) (pa_cons (pe_lc (own := [("left", 7), ("right", 8)]) (g := (gTup K 2 (gCons (gName 7) (gCons (gName 8) gNil)))) (tt := tYes) (by rfl) sc_told_degrees.nd (RZ.pi_zipA (by rfl) (T.free 11 _ rfl) (pa_cons (pv 3) (pa_cons (pv 4) pa_nil))) (blkOk_by (own := [("left", 7), ("right", 8)]) (N := n_told_degrees) (sc := defScope s_told_degrees) (by decide +kernel)) (fun _ _ _ _ _ => (pg_tup rfl (pgs_cons (pg_name (i := 7) sc_told_degrees.nd rfl (by first | exact Or.inl rfl | exact Or.inr rfl)) (pgs_cons (pg_name (i := 8) sc_told_degrees.nd rfl (by first | exact Or.inl rfl | exact Or.inr rfl)) pgs_nil)))) (fun _ _ _ _ _ => pts_nil) (fun _ _ _ _ _ => (pe_callB (c_max rfl) (by rfl) (T.free 7 _ rfl) (by decide +kernel) (pa_cons (pv 7) (pa_cons (pv 8) pa_nil))))) pa_nil)))))) pss_nil)
    (pss_cons (ps_set (i := 5) sc_told_degrees.nd rfl (Or.inr rfl) (pe_ifExp (pt_cmpR op_eq (pv 2) pe_str (nomark _)) (pe_ix ix_seq (pv 1) pe_int (fun _ _ => rfl)) (pe_tup (pa_cons (pv 1) pa_nil))))
    (pss_one (ps_ret (pe_callTy c_tuple (by rfl) (T.free 4 _ rfl) (by decide +kernel) (pa_cons (pe_lc (own := [("name", 6)]) (g := (gName 6)) (tt := tYes) (by rfl) sc_told_degrees.nd (pi_range1 (by rfl) (T.free 9 _ rfl) (pa_cons (pv 0) pa_nil)) (blkOk_by (own := [("name", 6)]) (N := n_told_degrees) (sc := defScope s_told_degrees) (by decide +kernel)) (fun _ _ _ _ _ => (pg_name (i := 6) sc_told_degrees.nd rfl (by first | exact Or.inl rfl | exact Or.inr rfl))) (fun _ _ _ _ _ => pts_nil) (fun _ _ _ _ _ => (pe_callB c_len (by rfl) (T.free 1 _ rfl) (by decide +kernel) (pa_cons (pe_lc (own := [("place", 9)]) (g := (gName 9)) (tt := (tTest (tOp (rEqD K) (tVar 9) (tTup (tCons (tC (.str "name")) (tCons (tVar 6) tNil)))))) (by rfl) sc_told_degrees.nd (pi_tup (pv 5)) (blkOk_by (own := [("place", 9)]) (by kernel_rfl)) (fun _ _ _ _ _ => (pg_name (i := 9) sc_told_degrees.nd rfl (by first | exact Or.inl rfl | exact Or.inr rfl))) (fun _ _ _ _ _ => (pts_one (pt_cmpR (op_eqD hr.units) (pv 9) (pe_tup (pa_cons pe_str (pa_cons (pv 6) pa_nil))) (nomark _)))) (fun _ _ _ _ _ => (pv 9))) pa_nil)))) pa_nil)))))))
theorem mk_told_degrees (T : Top K mg)  {spSelf : Sp} {l_self : Nat} (OSelf : Ok1 P w K mg base l_self "told_degrees" ["many", "rule"] spSelf) {k : Nat}  (h_self : l_self ≤ k) {sp : Sp} (len : ∀ vs H Q E, sp vs H Q E → vs.length = 2)
    (read : ∀ vs H Q E, sp vs H Q E → t_told_degrees K spSelf ⟨fun _ H' => Q .non H', Q, fun _ _ => False, fun _ _ => False⟩ (start n_told_degrees vs) H) : Ok1 P w K mg base (k + 1) "told_degrees" ["many", "rule"] sp :=
  T.ok (d := d_told_degrees) 19 rfl sc_told_degrees (fun _ _ _ _ _ _ us hl => match us, hl with | [_, _], _ => rfl) len fun cdv A outer s H vs Q E hr h => ⟨_, der_told_degrees T OSelf hr h_self, read vs H Q E h⟩

abbrev n_is_sum : List Str := ["value", "p", "many", "rule", "claim", "degree"]
theorem sc_is_sum : FnScope n_is_sum ["value"] (defScope s_is_sum) := ⟨rfl, rfl, rfl, by decide +kernel, rfl, by decide +kernel, by decide +kernel⟩
def t_is_sum (K : PySem.W.Frag) (sp_is_from sp_is_prime sp_is_number sp_is_plain_rule sp_told_degrees : Sp) : TS :=
    (tSeq (tIfS (tOr (tNot (tB (tCB (rIsi K) (tCons (tVar 0) (tCons (tC (.ty "tuple")) tNil))))) (tOr (tB (tNeI (tCB (rLenQ K) (tCons (tVar 0) tNil)) (tC (.int 4)))) (tNot (tB (tCall sp_is_prime [] E0 (tCons (tOp (rIx K) (tVar 0) (tC (.int 0))) tNil)))))) (tRet (tC (.bl false))) tNext)
    (tSeq (tAsg (tVar 0) (gTup K 4 (gCons (gName 1) (gCons (gName 2) (gCons (gName 3) (gCons (gName 4) gNil))))))
    (tSeq (tIfS (tOr (tNot (tB (tCall sp_is_from [] E0 (tCons (tVar 2) (tCons (tC (.int 0)) (tCons (tC (.int 10)) tNil)))))) (tOr (tNot (tB (tCall sp_is_plain_rule [] E0 (tCons (tVar 1) (tCons (tVar 2) (tCons (tVar 3) tNil)))))) (tNot (tB (tCall sp_is_number [] E0 (tCons (tVar 1) (tCons (tVar 4) tNil))))))) (tRet (tC (.bl false))) tNext)
    (tRet (tCB (rAll K) (tCons (tLc (iTup K (tCall sp_told_degrees [] E0 (tCons (tVar 2) (tCons (tVar 3) tNil)))) (gName 5) tYes (tLe (tVar 5) (tC (.int 30))) [5]) tNil))))))
theorem der_is_sum (T : Top K mg) {sp_is_from : Sp} {l_is_from : Nat} (O_is_from : Ok1 P w K mg base l_is_from "is_from" ["value", "low", "high"] sp_is_from) {sp_is_prime : Sp} {l_is_prime : Nat} (O_is_prime : Ok1 P w K mg base l_is_prime "is_prime" ["value"] sp_is_prime) {sp_is_number : Sp} {l_is_number : Nat} (O_is_number : Ok1 P w K mg base l_is_number "is_number" ["p", "value"] sp_is_number) {sp_is_plain_rule : Sp} {l_is_plain_rule : Nat} (O_is_plain_rule : Ok1 P w K mg base l_is_plain_rule "is_plain_rule" ["p", "many", "value"] sp_is_plain_rule) {sp_told_degrees : Sp} {l_told_degrees : Nat} (O_told_degrees : Ok1 P w K mg base l_told_degrees "told_degrees" ["many", "rule"] sp_told_degrees) {cdv : Value} {A : Around} {outer : List Env} {s : Shared} {H : Hp} {E : XK} {j : Nat} (hr : Room j (A.deeper (envOfC "is_sum" (defScope s_is_sum) s.heap.objs.size (He.ga K "is_sum") cdv))) (h_is_from : l_is_from ≤ j) (h_is_prime : l_is_prime ≤ j) (h_is_number : l_is_number ≤ j) (h_is_plain_rule : l_is_plain_rule ≤ j) (h_told_degrees : l_told_degrees ≤ j) :
    PSs (cxOf CX0 P w K mg base n_is_sum "is_sum" (defScope s_is_sum) (He.ga K "is_sum") cdv A outer s H E).nox (defBody s_is_sum) (t_is_sum K sp_is_from sp_is_prime sp_is_number sp_is_plain_rule sp_told_degrees) :=
  (pss_cons (ps_if (PW.pt (pw_or (pt_not (pt_val (pe_callB call_isi (by rfl) (T.free 0 _ rfl) (by decide +kernel) (pa_cons (pv 0) (pa_cons (pe_bltn (v := .ty "tuple") (by rfl) (T.free 4 _ rfl) (by decide +kernel) rfl) pa_nil))))) (pw_or (pt_cmp (pc_neI (pe_callB c_len (by rfl) (T.free 1 _ rfl) (by decide +kernel) (pa_cons (pv 0) pa_nil)) pe_int)) (pw_or1 (pt_not (pt_val (pe_callO O_is_prime hr (by omega) (by rfl) (pa_cons (pe_ix ix_seq (pv 0) pe_int (fun _ _ => rfl)) pa_nil)))))))) (pss_one (ps_ret pe_bl)) pss_nil)
    (pss_cons (ps_asg (pv 0) (pg_tup rfl (pgs_cons (pg_name (i := 1) sc_is_sum.nd rfl (Or.inl rfl)) (pgs_cons (pg_name (i := 2) sc_is_sum.nd rfl (Or.inl rfl)) (pgs_cons (pg_name (i := 3) sc_is_sum.nd rfl (Or.inl rfl)) (pgs_cons (pg_name (i := 4) sc_is_sum.nd rfl (Or.inl rfl)) pgs_nil))))))
    (pss_cons (ps_if (PW.pt (pw_or (pt_not (pt_val (pe_callO O_is_from hr (by omega) (by rfl) (pa_cons (pv 2) (pa_cons pe_int (pa_cons (pe_glob (by rfl) (T.nums 3 _ _ rfl).choose_spec ⟨_, rfl⟩) pa_nil)))))) (pw_or (pt_not (pt_val (pe_callO O_is_plain_rule hr (by omega) (by rfl) (pa_cons (pv 1) (pa_cons (pv 2) (pa_cons (pv 3) pa_nil)))))) (pw_or1 (pt_not (pt_val (pe_callO O_is_number hr (by omega) (by rfl) (pa_cons (pv 1) (pa_cons (pv 4) pa_nil))))))))) (pss_one (ps_ret pe_bl)) pss_nil)
    (pss_one (ps_ret (pe_callB (cr_all rfl) (by rfl) (T.free 2 _ rfl) (by decide +kernel) (pa_cons (pe_lc (own := [("degree", 5)]) (g := (gName 5)) (tt := tYes) (by rfl) sc_is_sum.nd (pi_tup (pe_callO O_told_degrees hr (by omega) (by rfl) (pa_cons (pv 2) (pa_cons (pv 3) pa_nil)))) (blkOk_by (own := [("degree", 5)]) (N := n_is_sum) (sc := defScope s_is_sum) (by decide +kernel)) (fun _ _ _ _ _ => (pg_name (i := 5) sc_is_sum.nd rfl (by first | exact Or.inl rfl | exact Or.inr rfl))) (fun _ _ _ _ _ => pts_nil) (fun _ _ _ _ _ => (pe_cmp (pc_le (pv 5) (pe_glob (by rfl) (T.nums 6 _ _ rfl).choose_spec ⟨_, rfl⟩))))) pa_nil)))))))
theorem mk_is_sum (T : Top K mg) {sp_is_from : Sp} {l_is_from : Nat} (O_is_from : Ok1 P w K mg base l_is_from "is_from" ["value", "low", "high"] sp_is_from) {sp_is_prime : Sp} {l_is_prime : Nat} (O_is_prime : Ok1 P w K mg base l_is_prime "is_prime" ["value"] sp_is_prime) {sp_is_number : Sp} {l_is_number : Nat} (O_is_number : Ok1 P w K mg base l_is_number "is_number" ["p", "value"] sp_is_number) {sp_is_plain_rule : Sp} {l_is_plain_rule : Nat} (O_is_plain_rule : Ok1 P w K mg base l_is_plain_rule "is_plain_rule" ["p", "many", "value"] sp_is_plain_rule) {sp_told_degrees : Sp} {l_told_degrees : Nat} (O_told_degrees : Ok1 P w K mg base l_told_degrees "told_degrees" ["many", "rule"] sp_told_degrees) {k : Nat} (h_is_from : l_is_from ≤ k) (h_is_prime : l_is_prime ≤ k) (h_is_number : l_is_number ≤ k) (h_is_plain_rule : l_is_plain_rule ≤ k) (h_told_degrees : l_told_degrees ≤ k) {sp : Sp} (len : ∀ vs H Q E, sp vs H Q E → vs.length = 1)
    (read : ∀ vs H Q E, sp vs H Q E → t_is_sum K sp_is_from sp_is_prime sp_is_number sp_is_plain_rule sp_told_degrees ⟨fun _ H' => Q .non H', Q, fun _ _ => False, fun _ _ => False⟩ (start n_is_sum vs) H) : Ok1 P w K mg base (k + 1) "is_sum" ["value"] sp :=
  T.ok (d := d_is_sum) 20 rfl sc_is_sum (fun _ _ _ _ _ _ us hl => match us, hl with | [_], _ => rfl) len fun cdv A outer s H vs Q E hr h => ⟨_, der_is_sum T O_is_from O_is_prime O_is_number O_is_plain_rule O_told_degrees hr h_is_from h_is_prime h_is_number h_is_plain_rule h_told_degrees, read vs H Q E h⟩

abbrev n_need_sum : List Str := ["value"]
theorem sc_need_sum : FnScope n_need_sum ["value"] (defScope s_need_sum) := ⟨rfl, rfl, rfl, by decide +kernel, rfl, by decide +kernel, by decide +kernel⟩
def t_need_sum (K : PySem.W.Frag) (sp_is_sum : Sp) : TS :=
    (tIfS (tNot (tB (tCall sp_is_sum [] E0 (tCons (tVar 0) tNil)))) tNever tNext)
theorem der_need_sum (T : Top K mg) {sp_is_sum : Sp} {l_is_sum : Nat} (O_is_sum : Ok1 P w K mg base l_is_sum "is_sum" ["value"] sp_is_sum) {cdv : Value} {A : Around} {outer : List Env} {s : Shared} {H : Hp} {E : XK} {j : Nat} (hr : Room j (A.deeper (envOfC "need_sum" (defScope s_need_sum) s.heap.objs.size (He.ga K "need_sum") cdv))) (h_is_sum : l_is_sum ≤ j) :
    PSs (cxOf CX0 P w K mg base n_need_sum "need_sum" (defScope s_need_sum) (He.ga K "need_sum") cdv A outer s H E).nox (defBody s_need_sum) (t_need_sum K sp_is_sum) :=
  (pss_one (ps_if (pt_not (pt_val (pe_callO O_is_sum hr (by omega) (by rfl) (pa_cons (pv 0) pa_nil)))) (pss_one ps_never) pss_nil))
theorem mk_need_sum (T : Top K mg) {sp_is_sum : Sp} {l_is_sum : Nat} (O_is_sum : Ok1 P w K mg base l_is_sum "is_sum" ["value"] sp_is_sum) {k : Nat} (h_is_sum : l_is_sum ≤ k) {sp : Sp} (len : ∀ vs H Q E, sp vs H Q E → vs.length = 1)
    (read : ∀ vs H Q E, sp vs H Q E → t_need_sum K sp_is_sum ⟨fun _ H' => Q .non H', Q, fun _ _ => False, fun _ _ => False⟩ (start n_need_sum vs) H) : Ok1 P w K mg base (k + 1) "need_sum" ["value"] sp :=
  T.ok (d := d_need_sum) 21 rfl sc_need_sum (fun _ _ _ _ _ _ us hl => match us, hl with | [_], _ => rfl) len fun cdv A outer s H vs Q E hr h => ⟨_, der_need_sum T O_is_sum hr h_is_sum, read vs H Q E h⟩

abbrev n_need_draws : List Str := ["p", "value", "low", "high"]
theorem sc_need_draws : FnScope n_need_draws ["p", "value", "low", "high"] (defScope s_need_draws) := ⟨rfl, rfl, rfl, by decide +kernel, rfl, by decide +kernel, by decide +kernel⟩
def t_need_draws (K : PySem.W.Frag) (sp_are_numbers : Sp) : TS :=
    (tIfS (tNot (tB (tCall sp_are_numbers [] E0 (tCons (tVar 0) (tCons (tVar 1) (tCons (tVar 2) (tCons (tVar 3) tNil))))))) tNever tNext)
theorem der_need_draws (T : Top K mg) {sp_are_numbers : Sp} {l_are_numbers : Nat} (O_are_numbers : Ok1 P w K mg base l_are_numbers "are_numbers" ["p", "value", "low", "high"] sp_are_numbers) {cdv : Value} {A : Around} {outer : List Env} {s : Shared} {H : Hp} {E : XK} {j : Nat} (hr : Room j (A.deeper (envOfC "need_draws" (defScope s_need_draws) s.heap.objs.size (He.ga K "need_draws") cdv))) (h_are_numbers : l_are_numbers ≤ j) :
    PSs (cxOf CX0 P w K mg base n_need_draws "need_draws" (defScope s_need_draws) (He.ga K "need_draws") cdv A outer s H E).nox (defBody s_need_draws) (t_need_draws K sp_are_numbers) :=
  (pss_one (ps_if (pt_not (pt_val (pe_callO O_are_numbers hr (by omega) (by rfl) (pa_cons (pv 0) (pa_cons (pv 1) (pa_cons (pv 2) (pa_cons (pv 3) pa_nil))))))) (pss_one ps_never) pss_nil))
theorem mk_need_draws (T : Top K mg) {sp_are_numbers : Sp} {l_are_numbers : Nat} (O_are_numbers : Ok1 P w K mg base l_are_numbers "are_numbers" ["p", "value", "low", "high"] sp_are_numbers) {k : Nat} (h_are_numbers : l_are_numbers ≤ k) {sp : Sp} (len : ∀ vs H Q E, sp vs H Q E → vs.length = 4)
    (read : ∀ vs H Q E, sp vs H Q E → t_need_draws K sp_are_numbers ⟨fun _ H' => Q .non H', Q, fun _ _ => False, fun _ _ => False⟩ (start n_need_draws vs) H) : Ok1 P w K mg base (k + 1) "need_draws" ["p", "value", "low", "high"] sp :=
  T.ok (d := d_need_draws) 22 rfl sc_need_draws (fun _ _ _ _ _ _ us hl => match us, hl with | [_, _, _, _], _ => rfl) len fun cdv A outer s H vs Q E hr h => ⟨_, der_need_draws T O_are_numbers hr h_are_numbers, read vs H Q E h⟩

abbrev n_halves : List Str := ["p", "line"]
theorem sc_halves : FnScope n_halves ["p", "line"] (defScope s_halves) := ⟨rfl, rfl, rfl, by decide +kernel, rfl, by decide +kernel, by decide +kernel⟩
def t_halves (K : PySem.W.Frag) (sp_at_place : Sp) : TS :=
    (tRet (tOp rModI (tOp rAddI (tCall sp_at_place [] E0 (tCons (tVar 0) (tCons (tVar 1) (tCons (tC (.int 0)) tNil)))) (tCall sp_at_place [] E0 (tCons (tVar 0) (tCons (tVar 1) (tCons (tC (.int 1)) tNil))))) (tVar 0)))
theorem der_halves (T : Top K mg) {sp_at_place : Sp} {l_at_place : Nat} (O_at_place : Ok1 P w K mg base l_at_place "at_place" ["p", "line", "place"] sp_at_place) {cdv : Value} {A : Around} {outer : List Env} {s : Shared} {H : Hp} {E : XK} {j : Nat} (hr : Room j (A.deeper (envOfC "halves" (defScope s_halves) s.heap.objs.size (He.ga K "halves") cdv))) (h_at_place : l_at_place ≤ j) :
    PSs (cxOf CX0 P w K mg base n_halves "halves" (defScope s_halves) (He.ga K "halves") cdv A outer s H E).nox (defBody s_halves) (t_halves K sp_at_place) :=
  (pss_one (ps_ret (pe_op op_mod (pe_op op_add (pe_callO O_at_place hr (by omega) (by rfl) (pa_cons (pv 0) (pa_cons (pv 1) (pa_cons pe_int pa_nil)))) (pe_callO O_at_place hr (by omega) (by rfl) (pa_cons (pv 0) (pa_cons (pv 1) (pa_cons pe_int pa_nil))))) (pv 0))))
theorem mk_halves (T : Top K mg) {sp_at_place : Sp} {l_at_place : Nat} (O_at_place : Ok1 P w K mg base l_at_place "at_place" ["p", "line", "place"] sp_at_place) {k : Nat} (h_at_place : l_at_place ≤ k) {sp : Sp} (len : ∀ vs H Q E, sp vs H Q E → vs.length = 2)
    (read : ∀ vs H Q E, sp vs H Q E → t_halves K sp_at_place ⟨fun _ H' => Q .non H', Q, fun _ _ => False, fun _ _ => False⟩ (start n_halves vs) H) : Ok1 P w K mg base (k + 1) "halves" ["p", "line"] sp :=
  T.ok (d := d_halves) 24 rfl sc_halves (fun _ _ _ _ _ _ us hl => match us, hl with | [_, _], _ => rfl) len fun cdv A outer s H vs Q E hr h => ⟨_, der_halves T O_at_place hr h_at_place, read vs H Q E h⟩

abbrev n_judged : List Str := ["claimed", "lines", "draws"]
theorem sc_judged : FnScope n_judged ["claimed", "lines", "draws"] (defScope s_judged) := ⟨rfl, rfl, rfl, by decide +kernel, rfl, by decide +kernel, by decide +kernel⟩
def t_judged (K : PySem.W.Frag) (sp_need_sum sp_need_draws sp_followed : Sp) : TS :=
    (tSeq (tDrop (tCall sp_need_sum [] E0 (tCons (tVar 0) tNil)))
    (tSeq (tDrop (tCall sp_need_draws [] E0 (tCons (tOp (rIx K) (tVar 0) (tC (.int 0))) (tCons (tVar 2) (tCons (tOp (rIx K) (tVar 0) (tC (.int 1))) (tCons (tOp (rIx K) (tVar 0) (tC (.int 1))) tNil))))))
    (tRet (tOp (rIx K) (tCall sp_followed [] E0 (tCons (tVar 0) (tCons (tVar 1) (tCons (tVar 2) tNil)))) (tC (.int 0))))))
theorem der_judged (T : Top K mg) {sp_need_sum : Sp} {l_need_sum : Nat} (O_need_sum : Ok1 P w K mg base l_need_sum "need_sum" ["value"] sp_need_sum) {sp_need_draws : Sp} {l_need_draws : Nat} (O_need_draws : Ok1 P w K mg base l_need_draws "need_draws" ["p", "value", "low", "high"] sp_need_draws) {sp_followed : Sp} {l_followed : Nat} (O_followed : Ok1 P w K mg base l_followed "followed" ["claimed", "lines", "draws"] sp_followed) {cdv : Value} {A : Around} {outer : List Env} {s : Shared} {H : Hp} {E : XK} {j : Nat} (hr : Room j (A.deeper (envOfC "judged" (defScope s_judged) s.heap.objs.size (He.ga K "judged") cdv))) (h_need_sum : l_need_sum ≤ j) (h_need_draws : l_need_draws ≤ j) (h_followed : l_followed ≤ j) :
    PSs (cxOf CX0 P w K mg base n_judged "judged" (defScope s_judged) (He.ga K "judged") cdv A outer s H E).nox (defBody s_judged) (t_judged K sp_need_sum sp_need_draws sp_followed) :=
  (pss_cons (ps_expr (pe_callO O_need_sum hr (by omega) (by rfl) (pa_cons (pv 0) pa_nil)))
    (pss_cons (ps_expr (pe_callO O_need_draws hr (by omega) (by rfl) (pa_cons (pe_ix ix_seq (pv 0) pe_int (fun _ _ => rfl)) (pa_cons (pv 2) (pa_cons (pe_ix ix_seq (pv 0) pe_int (fun _ _ => rfl)) (pa_cons (pe_ix ix_seq (pv 0) pe_int (fun _ _ => rfl)) pa_nil))))))
    (pss_one (ps_ret (pe_ix ix_seq (pe_callO O_followed hr (by omega) (by rfl) (pa_cons (pv 0) (pa_cons (pv 1) (pa_cons (pv 2) pa_nil)))) pe_int (fun _ _ => rfl))))))
theorem mk_judged (T : Top K mg) {sp_need_sum : Sp} {l_need_sum : Nat} (O_need_sum : Ok1 P w K mg base l_need_sum "need_sum" ["value"] sp_need_sum) {sp_need_draws : Sp} {l_need_draws : Nat} (O_need_draws : Ok1 P w K mg base l_need_draws "need_draws" ["p", "value", "low", "high"] sp_need_draws) {sp_followed : Sp} {l_followed : Nat} (O_followed : Ok1 P w K mg base l_followed "followed" ["claimed", "lines", "draws"] sp_followed) {k : Nat} (h_need_sum : l_need_sum ≤ k) (h_need_draws : l_need_draws ≤ k) (h_followed : l_followed ≤ k) {sp : Sp} (len : ∀ vs H Q E, sp vs H Q E → vs.length = 3)
    (read : ∀ vs H Q E, sp vs H Q E → t_judged K sp_need_sum sp_need_draws sp_followed ⟨fun _ H' => Q .non H', Q, fun _ _ => False, fun _ _ => False⟩ (start n_judged vs) H) : Ok1 P w K mg base (k + 1) "judged" ["claimed", "lines", "draws"] sp :=
  T.ok (d := d_judged) 26 rfl sc_judged (fun _ _ _ _ _ _ us hl => match us, hl with | [_, _, _], _ => rfl) len fun cdv A outer s H vs Q E hr h => ⟨_, der_judged T O_need_sum O_need_draws O_followed hr h_need_sum h_need_draws h_followed, read vs H Q E h⟩

abbrev n_claims : List Str := ["claimed", "lines", "draws"]
theorem sc_claims : FnScope n_claims ["claimed", "lines", "draws"] (defScope s_claims) := ⟨rfl, rfl, rfl, by decide +kernel, rfl, by decide +kernel, by decide +kernel⟩
def t_claims (K : PySem.W.Frag) (sp_need_sum sp_need_draws sp_followed : Sp) : TS :=
    (tSeq (tDrop (tCall sp_need_sum [] E0 (tCons (tVar 0) tNil)))
    (tSeq (tDrop (tCall sp_need_draws [] E0 (tCons (tOp (rIx K) (tVar 0) (tC (.int 0))) (tCons (tVar 2) (tCons (tOp (rIx K) (tVar 0) (tC (.int 1))) (tCons (tOp (rIx K) (tVar 0) (tC (.int 1))) tNil))))))
    (tRet (tCB (rTupQ K) (tCons (tOp (rIx K) (tCall sp_followed [] E0 (tCons (tVar 0) (tCons (tVar 1) (tCons (tVar 2) tNil)))) (tC (.int 1))) tNil)))))
theorem der_claims (T : Top K mg) {sp_need_sum : Sp} {l_need_sum : Nat} (O_need_sum : Ok1 P w K mg base l_need_sum "need_sum" ["value"] sp_need_sum) {sp_need_draws : Sp} {l_need_draws : Nat} (O_need_draws : Ok1 P w K mg base l_need_draws "need_draws" ["p", "value", "low", "high"] sp_need_draws) {sp_followed : Sp} {l_followed : Nat} (O_followed : Ok1 P w K mg base l_followed "followed" ["claimed", "lines", "draws"] sp_followed) {cdv : Value} {A : Around} {outer : List Env} {s : Shared} {H : Hp} {E : XK} {j : Nat} (hr : Room j (A.deeper (envOfC "claims" (defScope s_claims) s.heap.objs.size (He.ga K "claims") cdv))) (h_need_sum : l_need_sum ≤ j) (h_need_draws : l_need_draws ≤ j) (h_followed : l_followed ≤ j) :
    PSs (cxOf CX0 P w K mg base n_claims "claims" (defScope s_claims) (He.ga K "claims") cdv A outer s H E).nox (defBody s_claims) (t_claims K sp_need_sum sp_need_draws sp_followed) :=
  (pss_cons (ps_expr (pe_callO O_need_sum hr (by omega) (by rfl) (pa_cons (pv 0) pa_nil)))
    (pss_cons (ps_expr (pe_callO O_need_draws hr (by omega) (by rfl) (pa_cons (pe_ix ix_seq (pv 0) pe_int (fun _ _ => rfl)) (pa_cons (pv 2) (pa_cons (pe_ix ix_seq (pv 0) pe_int (fun _ _ => rfl)) (pa_cons (pe_ix ix_seq (pv 0) pe_int (fun _ _ => rfl)) pa_nil))))))
    (pss_one (ps_ret (pe_callTy c_tuple (by rfl) (T.free 4 _ rfl) (by decide +kernel) (pa_cons (pe_ix ix_seq (pe_callO O_followed hr (by omega) (by rfl) (pa_cons (pv 0) (pa_cons (pv 1) (pa_cons (pv 2) pa_nil)))) pe_int (fun _ _ => rfl)) pa_nil))))))
theorem mk_claims (T : Top K mg) {sp_need_sum : Sp} {l_need_sum : Nat} (O_need_sum : Ok1 P w K mg base l_need_sum "need_sum" ["value"] sp_need_sum) {sp_need_draws : Sp} {l_need_draws : Nat} (O_need_draws : Ok1 P w K mg base l_need_draws "need_draws" ["p", "value", "low", "high"] sp_need_draws) {sp_followed : Sp} {l_followed : Nat} (O_followed : Ok1 P w K mg base l_followed "followed" ["claimed", "lines", "draws"] sp_followed) {k : Nat} (h_need_sum : l_need_sum ≤ k) (h_need_draws : l_need_draws ≤ k) (h_followed : l_followed ≤ k) {sp : Sp} (len : ∀ vs H Q E, sp vs H Q E → vs.length = 3)
    (read : ∀ vs H Q E, sp vs H Q E → t_claims K sp_need_sum sp_need_draws sp_followed ⟨fun _ H' => Q .non H', Q, fun _ _ => False, fun _ _ => False⟩ (start n_claims vs) H) : Ok1 P w K mg base (k + 1) "claims" ["claimed", "lines", "draws"] sp :=
  T.ok (d := d_claims) 27 rfl sc_claims (fun _ _ _ _ _ _ us hl => match us, hl with | [_, _, _], _ => rfl) len fun cdv A outer s H vs Q E hr h => ⟨_, der_claims T O_need_sum O_need_draws O_followed hr h_need_sum h_need_draws h_followed, read vs H Q E h⟩

end
end K10

set_option Elab.async false
set_option linter.all false
set_option maxRecDepth 100000
set_option maxHeartbeats 4000000
/-! derivations -/
namespace K10
open PySem PySem.Spec PyProof.Rows L2 Evl
section
variable {P : Program} {w : World} {K : PySem.W.Frag} {mg : Str → Option Value} {base : Heap}

abbrev n_law_taken : List Str := ["_law_row", "_law_many", "_law_found", "_law_cell"]
theorem sc_law_taken : FnScope n_law_taken ["_law_row", "_law_many"] (defScope s_law_taken) := ⟨rfl, rfl, rfl, by decide +kernel, rfl, by decide +kernel, by decide +kernel⟩
def t_law_taken (K : PySem.W.Frag) : TS :=
    (tSeq (tIfS (tB (tGt (tOp (rIx K) (tVar 0) (tC (.int 3))) (tC (.int 0)))) (tSeq (tAsg (tOp rModI (tCB rIntQ (tCons (tOp (rIx K) (tVar 0) (tC (.int 3))) tNil)) (tVar 1)) (gName 2))
    (tSeq (tAsg (tOp rDivI (tOp (rIx K) (tVar 0) (tC (.int 3))) (tVar 1)) (gSub (tVar 0) (tC (.int 3)) rSetL))
    (tRet (tVar 2)))) tNext)
    (tSeq (tAsg (tOp rAddI (tOp (rIx K) (tVar 0) (tC (.int 1))) (tC (.int 1))) (gSub (tVar 0) (tC (.int 1)) rSetL))
    (tSeq (tIfS (tB (tGt (tOp (rIx K) (tVar 0) (tC (.int 1))) (tCB (rLenQ K) (tCons (tOp (rIx K) (tVar 0) (tC (.int 0))) tNil)))) (tSeq (tAsg (tOp rModI (tCB rIntQ (tCons (tOp rAddI (tOp rMulI (tOp (rIx K) (tVar 0) (tC (.int 2))) (tC (.int 48271))) (tC (.int 11))) tNil)) (tC (.int 2147483647))) (gSub (tVar 0) (tC (.int 2)) rSetL))
    (tRet (tOp rModI (tCB rIntQ (tCons (tOp rDivI (tOp (rIx K) (tVar 0) (tC (.int 2))) (tC (.int 7))) tNil)) (tVar 1)))) tNext)
    (tSeq (tAsg (tOp (rIx K) (tOp (rIx K) (tVar 0) (tC (.int 0))) (tOp rSubI (tOp (rIx K) (tVar 0) (tC (.int 1))) (tC (.int 1)))) (gName 3))
    (tSeq (tAsg (tOp rModI (tCB rIntQ (tCons (tOp rAddI (tOp rAddI (tOp rMulI (tOp (rIx K) (tVar 0) (tC (.int 2))) (tC (.int 48271))) (tVar 3)) (tC (.int 11))) tNil)) (tC (.int 2147483647))) (gSub (tVar 0) (tC (.int 2)) rSetL))
    (tSeq (tIfS (tB (tGe (tVar 3) (tOp rPowI (tC (.int 10)) (tC (.int 18))))) (tAsg (tOp rDivI (tVar 3) (tVar 1)) (gSub (tVar 0) (tC (.int 3)) rSetL)) tNext)
    (tRet (tOp rModI (tCB rIntQ (tCons (tVar 3) tNil)) (tVar 1)))))))))
theorem der_law_taken (T : Top K mg)  {cdv : Value} {A : Around} {outer : List Env} {s : Shared} {H : Hp} {E : XK} {j : Nat} (hr : Room j (A.deeper (envOfC "_law_taken" (defScope s_law_taken) s.heap.objs.size (He.ga K "_law_taken") cdv)))  :
    PSs (cxOf CX0 P w K mg base n_law_taken "_law_taken" (defScope s_law_taken) (He.ga K "_law_taken") cdv A outer s H E).nox (defBody s_law_taken) (t_law_taken K) :=
  (pss_cons (ps_if (pt_cmp (pc_gt (pe_ix ix_seq (pv 0) pe_int (fun _ _ => rfl)) pe_int)) (pss_cons (ps_set (i := 2) sc_law_taken.nd rfl (Or.inl rfl) (pe_op op_mod (pe_callTy c_int (by rfl) (T.free 13 _ rfl) (by decide +kernel) (pa_cons (pe_ix ix_seq (pv 0) pe_int (fun _ _ => rfl)) pa_nil)) (pv 1)))
    (pss_cons (ps_asg (pe_op op_fdivW (pe_ix ix_seq (pv 0) pe_int (fun _ _ => rfl)) (pv 1)) (pg_sub (pv 0) pe_int set_list))
    (pss_one (ps_ret (pv 2))))) pss_nil)
    (pss_cons (ps_asg (pe_op op_add (pe_ix ix_seq (pv 0) pe_int (fun _ _ => rfl)) pe_int) (pg_sub (pv 0) pe_int set_list))
    (pss_cons (ps_if (pt_cmp (pc_gt (pe_ix ix_seq (pv 0) pe_int (fun _ _ => rfl)) (pe_callB c_len (by rfl) (T.free 1 _ rfl) (by decide +kernel) (pa_cons (pe_ix ix_seq (pv 0) pe_int (fun _ _ => rfl)) pa_nil)))) (pss_cons (ps_asg (pe_op op_mod (pe_callTy c_int (by rfl) (T.free 13 _ rfl) (by decide +kernel) (pa_cons (pe_op op_add (pe_op op_mul (pe_ix ix_seq (pv 0) pe_int (fun _ _ => rfl)) pe_int) pe_int) pa_nil)) pe_int) (pg_sub (pv 0) pe_int set_list))
    (pss_one (ps_ret (pe_op op_mod (pe_callTy c_int (by rfl) (T.free 13 _ rfl) (by decide +kernel) (pa_cons (pe_op op_fdivW (pe_ix ix_seq (pv 0) pe_int (fun _ _ => rfl)) pe_int) pa_nil)) (pv 1))))) pss_nil)
    (pss_cons (ps_set (i := 3) sc_law_taken.nd rfl (Or.inl rfl) (pe_ix ix_seq (pe_ix ix_seq (pv 0) pe_int (fun _ _ => rfl)) (pe_op op_sub (pe_ix ix_seq (pv 0) pe_int (fun _ _ => rfl)) pe_int) (fun _ _ => rfl)))
    (pss_cons (ps_asg (pe_op op_mod (pe_callTy c_int (by rfl) (T.free 13 _ rfl) (by decide +kernel) (pa_cons (pe_op op_add (pe_op op_add (pe_op op_mul (pe_ix ix_seq (pv 0) pe_int (fun _ _ => rfl)) pe_int) (pv 3)) pe_int) pa_nil)) pe_int) (pg_sub (pv 0) pe_int set_list))
    (pss_cons (ps_if (pt_cmp (pc_ge (pv 3) (pe_op op_pow pe_int pe_int))) (pss_one (ps_asg (pe_op op_fdivW (pv 3) (pv 1)) (pg_sub (pv 0) pe_int set_list))) pss_nil)
    (pss_one (ps_ret (pe_op op_mod (pe_callTy c_int (by rfl) (T.free 13 _ rfl) (by decide +kernel) (pa_cons (pv 3) pa_nil)) (pv 1))))))))))
theorem mk_law_taken (T : Top K mg)  {k : Nat}  {sp : Sp} (len : ∀ vs H Q E, sp vs H Q E → vs.length = 2)
    (read : ∀ vs H Q E, sp vs H Q E → t_law_taken K ⟨fun _ H' => Q .non H', Q, fun _ _ => False, fun _ _ => False⟩ (start n_law_taken vs) H) : Ok1 P w K mg base (k + 1) "_law_taken" ["_law_row", "_law_many"] sp :=
  T.ok (d := d_law_taken) 28 rfl sc_law_taken (fun _ _ _ _ _ _ us hl => match us, hl with | [_, _], _ => rfl) len fun cdv A outer s H vs Q E hr h => ⟨_, der_law_taken T  hr , read vs H Q E h⟩

abbrev n_law_pick : List Str := ["_law_row", "_law_things"]
theorem sc_law_pick : FnScope n_law_pick ["_law_row", "_law_things"] (defScope s_law_pick) := ⟨rfl, rfl, rfl, by decide +kernel, rfl, by decide +kernel, by decide +kernel⟩
def t_law_pick (K : PySem.W.Frag) (sp_law_taken : Sp) : TS :=
    (tRet (tOp (rIx K) (tVar 1) (tCall sp_law_taken [] E0 (tCons (tVar 0) (tCons (tCB (rLenQ K) (tCons (tVar 1) tNil)) tNil)))))
theorem der_law_pick (T : Top K mg) {sp_law_taken : Sp} {l_law_taken : Nat} (O_law_taken : Ok1 P w K mg base l_law_taken "_law_taken" ["_law_row", "_law_many"] sp_law_taken) {cdv : Value} {A : Around} {outer : List Env} {s : Shared} {H : Hp} {E : XK} {j : Nat} (hr : Room j (A.deeper (envOfC "_law_pick" (defScope s_law_pick) s.heap.objs.size (He.ga K "_law_pick") cdv))) (h_law_taken : l_law_taken ≤ j) :
    PSs (cxOf CX0 P w K mg base n_law_pick "_law_pick" (defScope s_law_pick) (He.ga K "_law_pick") cdv A outer s H E).nox (defBody s_law_pick) (t_law_pick K sp_law_taken) :=
  (pss_one (ps_ret (pe_ix ix_seq (pv 1) (pe_callO O_law_taken hr (by omega) (by rfl) (pa_cons (pv 0) (pa_cons (pe_callB c_len (by rfl) (T.free 1 _ rfl) (by decide +kernel) (pa_cons (pv 1) pa_nil)) pa_nil))) (fun _ _ => rfl))))
theorem mk_law_pick (T : Top K mg) {sp_law_taken : Sp} {l_law_taken : Nat} (O_law_taken : Ok1 P w K mg base l_law_taken "_law_taken" ["_law_row", "_law_many"] sp_law_taken) {k : Nat} (h_law_taken : l_law_taken ≤ k) {sp : Sp} (len : ∀ vs H Q E, sp vs H Q E → vs.length = 2)
    (read : ∀ vs H Q E, sp vs H Q E → t_law_pick K sp_law_taken ⟨fun _ H' => Q .non H', Q, fun _ _ => False, fun _ _ => False⟩ (start n_law_pick vs) H) : Ok1 P w K mg base (k + 1) "_law_pick" ["_law_row", "_law_things"] sp :=
  T.ok (d := d_law_pick) 29 rfl sc_law_pick (fun _ _ _ _ _ _ us hl => match us, hl with | [_, _], _ => rfl) len fun cdv A outer s H vs Q E hr h => ⟨_, der_law_pick T O_law_taken hr h_law_taken, read vs H Q E h⟩

abbrev n_law_alike : List Str := ["_law_found", "_law_due", "_law_k", "_law_key"]
theorem sc_law_alike : FnScope n_law_alike ["_law_found", "_law_due"] (defScope s_law_alike) := ⟨rfl, rfl, rfl, by decide +kernel, rfl, by decide +kernel, by decide +kernel⟩
def t_law_alike (K : PySem.W.Frag) (spSelf : Sp) : TS :=
    (tSeq (tIfS (tB (tCB (rIsiT K) (tCons (tVar 1) (tCons (tTup (tCons (tC (.ty "tuple")) (tCons (tC (.ty "list")) tNil))) tNil)))) (tSeq (tIfS (tOr (tNot (tB (tCB (rIsiT K) (tCons (tVar 0) (tCons (tTup (tCons (tC (.ty "tuple")) (tCons (tC (.ty "list")) tNil))) tNil))))) (tTest (tOp rNe (tCB (rIsi K) (tCons (tVar 0) (tCons (tC (.ty "list")) tNil))) (tCB (rIsi K) (tCons (tVar 1) (tCons (tC (.ty "list")) tNil)))))) (tRet (tC (.bl false))) tNext)
    (tSeq (tIfS (tB (tNeI (tCB (rLenQ K) (tCons (tVar 0) tNil)) (tCB (rLenQ K) (tCons (tVar 1) tNil)))) (tRet (tC (.bl false))) tNext)
    (tRet (tOp (rEqD K) (tLc (iRng1 (tCons (tCB (rLenQ K) (tCons (tVar 1) tNil)) tNil)) (gName 2) (tNot (tB (tCall spSelf [] E0 (tCons (tOp (rIx K) (tVar 0) (tVar 2)) (tCons (tOp (rIx K) (tVar 1) (tVar 2)) tNil))))) (tVar 2) [2]) (tLst tNil))))) tNext)
    (tSeq (tIfS (tB (tCB (rIsi K) (tCons (tVar 1) (tCons (tC (.ty "dict")) tNil)))) (tSeq (tIfS (tOr (tNot (tB (tCB (rIsi K) (tCons (tVar 0) (tCons (tC (.ty "dict")) tNil))))) (tTest (tOp (rNeD K) tNeverE tNeverE))) (tRet (tC (.bl false))) tNext)
    (tRet (tOp (rEqD K) (tLc (iList K (tVar 1)) (gName 3) (tNot (tB (tCall spSelf [] E0 (tCons (tOp (rIx K) (tVar 0) (tVar 3)) (tCons (tOp (rIx K) (tVar 1) (tVar 3)) tNil))))) (tVar 3) [3]) (tLst tNil)))) tNext)
    (tSeq (tIfS (tOr (tB (tIsN (tVar 1))) (tB (tCB (rIsi K) (tCons (tVar 1) (tCons (tC (.ty "str")) tNil))))) (tRet (tAndV (tOp (rEqD K) (tVar 0) (tVar 1)) (tOp rEq (tCB (rIsi K) (tCons (tVar 0) (tCons (tC (.ty "str")) tNil))) (tCB (rIsi K) (tCons (tVar 1) (tCons (tC (.ty "str")) tNil)))))) tNext)
    (tRet (tAndV (tCB (rIsi K) (tCons (tVar 0) (tCons (tC (.ty "int")) tNil))) (tAndV (tOp rEq (tCB (rIsi K) (tCons (tVar 0) (tCons (tC (.ty "bool")) tNil))) (tCB (rIsi K) (tCons (tVar 1) (tCons (tC (.ty "bool")) tNil)))) (tOp (rEqD K) (tVar 0) (tVar 1))))))))
theorem der_law_alike (T : Top K mg)  {spSelf : Sp} {l_self : Nat} (OSelf : Ok1 P w K mg base l_self "_law_alike" ["_law_found", "_law_due"] spSelf) {cdv : Value} {A : Around} {outer : List Env} {s : Shared} {H : Hp} {E : XK} {j : Nat} (hr : Room j (A.deeper (envOfC "_law_alike" (defScope s_law_alike) s.heap.objs.size (He.ga K "_law_alike") cdv)))  (h_self : l_self ≤ j) :
    PSs (cxOf CX0 P w K mg base n_law_alike "_law_alike" (defScope s_law_alike) (He.ga K "_law_alike") cdv A outer s H E).nox (defBody s_law_alike) (t_law_alike K spSelf) :=
  (pss_cons (ps_if (pt_val (pe_callB call_isiT (by rfl) (T.free 0 _ rfl) (by decide +kernel) (pa_cons (pv 1) (pa_cons (pe_tup (pa_cons (pe_bltn (v := .ty "tuple") (by rfl) (T.free 4 _ rfl) (by decide +kernel) rfl) (pa_cons (pe_bltn (v := .ty "list") (by rfl) (T.free 5 _ rfl) (by decide +kernel) rfl) pa_nil))) pa_nil)))) (pss_cons (ps_if (PW.pt (pw_or (pt_not (pt_val (pe_callB call_isiT (by rfl) (T.free 0 _ rfl) (by decide +kernel) (pa_cons (pv 0) (pa_cons (pe_tup (pa_cons (pe_bltn (v := .ty "tuple") (by rfl) (T.free 4 _ rfl) (by decide +kernel) rfl) (pa_cons (pe_bltn (v := .ty "list") (by rfl) (T.free 5 _ rfl) (by decide +kernel) rfl) pa_nil))) pa_nil))))) (pw_or1 (pt_cmpR op_ne (pe_callB call_isi (by rfl) (T.free 0 _ rfl) (by decide +kernel) (pa_cons (pv 0) (pa_cons (pe_bltn (v := .ty "list") (by rfl) (T.free 5 _ rfl) (by decide +kernel) rfl) pa_nil))) (pe_callB call_isi (by rfl) (T.free 0 _ rfl) (by decide +kernel) (pa_cons (pv 1) (pa_cons (pe_bltn (v := .ty "list") (by rfl) (T.free 5 _ rfl) (by decide +kernel) rfl) pa_nil))) (nomark _))))) (pss_one (ps_ret pe_bl)) pss_nil)
    (pss_cons (ps_if (pt_cmp (pc_neI (pe_callB c_len (by rfl) (T.free 1 _ rfl) (by decide +kernel) (pa_cons (pv 0) pa_nil)) (pe_callB c_len (by rfl) (T.free 1 _ rfl) (by decide +kernel) (pa_cons (pv 1) pa_nil)))) (pss_one (ps_ret pe_bl)) pss_nil)
    (pss_one (ps_ret (pe_cmpR (op_eqD hr.units) (pe_lc (own := [("_law_k", 2)]) (g := (gName 2)) (tt := (tNot (tB (tCall spSelf [] E0 (tCons (tOp (rIx K) (tVar 0) (tVar 2)) (tCons (tOp (rIx K) (tVar 1) (tVar 2)) tNil)))))) (by rfl) sc_law_alike.nd (pi_range1 (by rfl) (T.free 9 _ rfl) (pa_cons (pe_callB c_len (by rfl) (T.free 1 _ rfl) (by decide +kernel) (pa_cons (pv 1) pa_nil)) pa_nil)) (blkOk_by (own := [("_law_k", 2)]) (N := n_law_alike) (sc := defScope s_law_alike) (by decide +kernel)) (fun _ _ _ _ _ => (pg_name (i := 2) sc_law_alike.nd rfl (by first | exact Or.inl rfl | exact Or.inr rfl))) (fun _ _ _ _ _ => (pts_one (pt_not (pt_val (pe_callO OSelf hr (by omega) (by rfl) (pa_cons (pe_ix ix_seq (pv 0) (pv 2) (fun _ _ => rfl)) (pa_cons (pe_ix ix_seq (pv 1) (pv 2) (fun _ _ => rfl)) pa_nil))))))) (fun _ _ _ _ _ => (pv 2))) (pe_lst pa_nil) (nomark _)))))) pss_nil)
    (pss_cons (ps_if (pt_val (pe_callB call_isi (by rfl) (T.free 0 _ rfl) (by decide +kernel) (pa_cons (pv 1) (pa_cons (pe_bltn (v := .ty "dict") (by rfl) (T.free 15 _ rfl) (by decide +kernel) rfl) pa_nil)))) (pss_cons (ps_if (PW.pt (pw_or (pt_not (pt_val (pe_callB call_isi (by rfl) (T.free 0 _ rfl) (by decide +kernel) (pa_cons (pv 0) (pa_cons (pe_bltn (v := .ty "dict") (by rfl) (T.free 15 _ rfl) (by decide +kernel) rfl) pa_nil))))) (pw_or1 (pt_cmpR (op_neD hr.units) pe_never pe_never (nomark _))))) (pss_one (ps_ret pe_bl)) pss_nil)
    (pss_one (ps_ret (pe_cmpR (op_eqD hr.units) (pe_lc (own := [("_law_key", 3)]) (g := (gName 3)) (tt := (tNot (tB (tCall spSelf [] E0 (tCons (tOp (rIx K) (tVar 0) (tVar 3)) (tCons (tOp (rIx K) (tVar 1) (tVar 3)) tNil)))))) (by rfl) sc_law_alike.nd (pi_list (pv 1)) (blkOk_by (own := [("_law_key", 3)]) (N := n_law_alike) (sc := defScope s_law_alike) (by decide +kernel)) (fun _ _ _ _ _ => (pg_name (i := 3) sc_law_alike.nd rfl (by first | exact Or.inl rfl | exact Or.inr rfl))) (fun _ _ _ _ _ => (pts_one (pt_not (pt_val (pe_callO OSelf hr (by omega) (by rfl) (pa_cons (pe_ix ix_seq (pv 0) (pv 3) (fun _ _ => rfl)) (pa_cons (pe_ix ix_seq (pv 1) (pv 3) (fun _ _ => rfl)) pa_nil))))))) (fun _ _ _ _ _ => (pv 3))) (pe_lst pa_nil) (nomark _))))) pss_nil)
    (pss_cons (ps_if (PW.pt (pw_or (pt_cmp (pc_isN (pv 1))) (pw_or1 (pt_val (pe_callB call_isi (by rfl) (T.free 0 _ rfl) (by decide +kernel) (pa_cons (pv 1) (pa_cons (pe_bltn (v := .ty "str") (by rfl) (T.free 16 _ rfl) (by decide +kernel) rfl) pa_nil))))))) (pss_one (ps_ret (pe_and (pe_cmpR (op_eqD hr.units) (pv 0) (pv 1) (nomark _)) (pe_one (pe_cmpR op_eq (pe_callB call_isi (by rfl) (T.free 0 _ rfl) (by decide +kernel) (pa_cons (pv 0) (pa_cons (pe_bltn (v := .ty "str") (by rfl) (T.free 16 _ rfl) (by decide +kernel) rfl) pa_nil))) (pe_callB call_isi (by rfl) (T.free 0 _ rfl) (by decide +kernel) (pa_cons (pv 1) (pa_cons (pe_bltn (v := .ty "str") (by rfl) (T.free 16 _ rfl) (by decide +kernel) rfl) pa_nil))) (nomark _)))))) pss_nil)
    (pss_one (ps_ret (pe_and (pe_callB call_isi (by rfl) (T.free 0 _ rfl) (by decide +kernel) (pa_cons (pv 0) (pa_cons (pe_bltn (v := .ty "int") (by rfl) (T.free 13 _ rfl) (by decide +kernel) rfl) pa_nil))) (pe_and (pe_cmpR op_eq (pe_callB call_isi (by rfl) (T.free 0 _ rfl) (by decide +kernel) (pa_cons (pv 0) (pa_cons (pe_bltn (v := .ty "bool") (by rfl) (T.free 17 _ rfl) (by decide +kernel) rfl) pa_nil))) (pe_callB call_isi (by rfl) (T.free 0 _ rfl) (by decide +kernel) (pa_cons (pv 1) (pa_cons (pe_bltn (v := .ty "bool") (by rfl) (T.free 17 _ rfl) (by decide +kernel) rfl) pa_nil))) (nomark _)) (pe_one (pe_cmpR (op_eqD hr.units) (pv 0) (pv 1) (nomark _))))))))))
theorem mk_law_alike (T : Top K mg)  {spSelf : Sp} {l_self : Nat} (OSelf : Ok1 P w K mg base l_self "_law_alike" ["_law_found", "_law_due"] spSelf) {k : Nat}  (h_self : l_self ≤ k) {sp : Sp} (len : ∀ vs H Q E, sp vs H Q E → vs.length = 2)
    (read : ∀ vs H Q E, sp vs H Q E → t_law_alike K spSelf ⟨fun _ H' => Q .non H', Q, fun _ _ => False, fun _ _ => False⟩ (start n_law_alike vs) H) : Ok1 P w K mg base (k + 1) "_law_alike" ["_law_found", "_law_due"] sp :=
  T.ok (d := d_law_alike) 30 rfl sc_law_alike (fun _ _ _ _ _ _ us hl => match us, hl with | [_, _], _ => rfl) len fun cdv A outer s H vs Q E hr h => ⟨_, der_law_alike T OSelf hr h_self, read vs H Q E h⟩

abbrev n_law_prime : List Str := ["_law_row"]
theorem sc_law_prime : FnScope n_law_prime ["_law_row"] (defScope s_law_prime) := ⟨rfl, rfl, rfl, by decide +kernel, rfl, by decide +kernel, by decide +kernel⟩
def t_law_prime (K : PySem.W.Frag) (sp_law_pick : Sp) : TS :=
    (tRet (tCall sp_law_pick [] E0 (tCons (tVar 0) (tCons (tLst (tCons (tC (.int 5)) (tCons (tC (.int 5)) (tCons (tC (.int 7)) (tCons (tC (.int 7)) (tCons (tC (.int 11)) (tCons (tC (.int 13)) (tCons (tC (.int 101)) (tCons (tC (.int 65537)) (tCons (tC (.int 2147483647)) tNil)))))))))) tNil))))
theorem der_law_prime (T : Top K mg) {sp_law_pick : Sp} {l_law_pick : Nat} (O_law_pick : Ok1 P w K mg base l_law_pick "_law_pick" ["_law_row", "_law_things"] sp_law_pick) {cdv : Value} {A : Around} {outer : List Env} {s : Shared} {H : Hp} {E : XK} {j : Nat} (hr : Room j (A.deeper (envOfC "_law_prime" (defScope s_law_prime) s.heap.objs.size (He.ga K "_law_prime") cdv))) (h_law_pick : l_law_pick ≤ j) :
    PSs (cxOf CX0 P w K mg base n_law_prime "_law_prime" (defScope s_law_prime) (He.ga K "_law_prime") cdv A outer s H E).nox (defBody s_law_prime) (t_law_prime K sp_law_pick) :=
  (pss_one (ps_ret (pe_callO O_law_pick hr (by omega) (by rfl) (pa_cons (pv 0) (pa_cons (pe_lst (pa_cons pe_int (pa_cons pe_int (pa_cons pe_int (pa_cons pe_int (pa_cons pe_int (pa_cons pe_int (pa_cons pe_int (pa_cons pe_int (pa_cons pe_int pa_nil)))))))))) pa_nil)))))
theorem mk_law_prime (T : Top K mg) {sp_law_pick : Sp} {l_law_pick : Nat} (O_law_pick : Ok1 P w K mg base l_law_pick "_law_pick" ["_law_row", "_law_things"] sp_law_pick) {k : Nat} (h_law_pick : l_law_pick ≤ k) {sp : Sp} (len : ∀ vs H Q E, sp vs H Q E → vs.length = 1)
    (read : ∀ vs H Q E, sp vs H Q E → t_law_prime K sp_law_pick ⟨fun _ H' => Q .non H', Q, fun _ _ => False, fun _ _ => False⟩ (start n_law_prime vs) H) : Ok1 P w K mg base (k + 1) "_law_prime" ["_law_row"] sp :=
  T.ok (d := d_law_prime) 31 rfl sc_law_prime (fun _ _ _ _ _ _ us hl => match us, hl with | [_], _ => rfl) len fun cdv A outer s H vs Q E hr h => ⟨_, der_law_prime T O_law_pick hr h_law_pick, read vs H Q E h⟩

abbrev n_law_number : List Str := ["_law_row", "_law_p", "_law_way"]
theorem sc_law_number : FnScope n_law_number ["_law_row", "_law_p"] (defScope s_law_number) := ⟨rfl, rfl, rfl, by decide +kernel, rfl, by decide +kernel, by decide +kernel⟩
def t_law_number (K : PySem.W.Frag) (sp_law_taken : Sp) : TS :=
    (tSeq (tAsg (tCall sp_law_taken [] E0 (tCons (tVar 0) (tCons (tC (.int 5)) tNil))) (gName 2))
    (tSeq (tIfS (tB (tLt (tVar 2) (tC (.int 3)))) (tRet (tOp (rIx K) (tLst (tCons (tC (.int 0)) (tCons (tC (.int 1)) (tCons (tOp rSubI (tVar 1) (tC (.int 1))) tNil)))) (tVar 2))) tNext)
    (tRet (tOp rModI (tOp rAddI (tOp rMulI (tCall sp_law_taken [] E0 (tCons (tVar 0) (tCons (tC (.int 1000)) tNil))) (tC (.int 2147483))) (tCall sp_law_taken [] E0 (tCons (tVar 0) (tCons (tC (.int 1000)) tNil)))) (tVar 1)))))
theorem der_law_number (T : Top K mg) {sp_law_taken : Sp} {l_law_taken : Nat} (O_law_taken : Ok1 P w K mg base l_law_taken "_law_taken" ["_law_row", "_law_many"] sp_law_taken) {cdv : Value} {A : Around} {outer : List Env} {s : Shared} {H : Hp} {E : XK} {j : Nat} (hr : Room j (A.deeper (envOfC "_law_number" (defScope s_law_number) s.heap.objs.size (He.ga K "_law_number") cdv))) (h_law_taken : l_law_taken ≤ j) :
    PSs (cxOf CX0 P w K mg base n_law_number "_law_number" (defScope s_law_number) (He.ga K "_law_number") cdv A outer s H E).nox (defBody s_law_number) (t_law_number K sp_law_taken) :=
  (pss_cons (ps_set (i := 2) sc_law_number.nd rfl (Or.inl rfl) (pe_callO O_law_taken hr (by omega) (by rfl) (pa_cons (pv 0) (pa_cons pe_int pa_nil))))
    (pss_cons (ps_if (pt_cmp (pc_lt (pv 2) pe_int)) (pss_one (ps_ret (pe_ix ix_seq (pe_lst (pa_cons pe_int (pa_cons pe_int (pa_cons (pe_op op_sub (pv 1) pe_int) pa_nil)))) (pv 2) (fun _ _ => rfl)))) pss_nil)
    (pss_one (ps_ret (pe_op op_mod (pe_op op_add (pe_op op_mul (pe_callO O_law_taken hr (by omega) (by rfl) (pa_cons (pv 0) (pa_cons pe_int pa_nil))) pe_int) (pe_callO O_law_taken hr (by omega) (by rfl) (pa_cons (pv 0) (pa_cons pe_int pa_nil)))) (pv 1))))))
theorem mk_law_number (T : Top K mg) {sp_law_taken : Sp} {l_law_taken : Nat} (O_law_taken : Ok1 P w K mg base l_law_taken "_law_taken" ["_law_row", "_law_many"] sp_law_taken) {k : Nat} (h_law_taken : l_law_taken ≤ k) {sp : Sp} (len : ∀ vs H Q E, sp vs H Q E → vs.length = 2)
    (read : ∀ vs H Q E, sp vs H Q E → t_law_number K sp_law_taken ⟨fun _ H' => Q .non H', Q, fun _ _ => False, fun _ _ => False⟩ (start n_law_number vs) H) : Ok1 P w K mg base (k + 1) "_law_number" ["_law_row", "_law_p"] sp :=
  T.ok (d := d_law_number) 32 rfl sc_law_number (fun _ _ _ _ _ _ us hl => match us, hl with | [_, _], _ => rfl) len fun cdv A outer s H vs Q E hr h => ⟨_, der_law_number T O_law_taken hr h_law_taken, read vs H Q E h⟩

abbrev n_law_numbers : List Str := ["_law_row", "_law_p", "_law_many", "_law_at_here"]
theorem sc_law_numbers : FnScope n_law_numbers ["_law_row", "_law_p", "_law_many"] (defScope s_law_numbers) := ⟨rfl, rfl, rfl, by decide +kernel, rfl, by decide +kernel, by decide +kernel⟩
def t_law_numbers (K : PySem.W.Frag) (sp_law_number : Sp) : TS :=
    (tRet (tCB (rTupQ K) (tCons (tLc (iRng1 (tCons (tVar 2) tNil)) (gName 3) tYes (tCall sp_law_number [] E0 (tCons (tVar 0) (tCons (tVar 1) tNil))) [3]) tNil)))
theorem der_law_numbers (T : Top K mg) {sp_law_number : Sp} {l_law_number : Nat} (O_law_number : Ok1 P w K mg base l_law_number "_law_number" ["_law_row", "_law_p"] sp_law_number) {cdv : Value} {A : Around} {outer : List Env} {s : Shared} {H : Hp} {E : XK} {j : Nat} (hr : Room j (A.deeper (envOfC "_law_numbers" (defScope s_law_numbers) s.heap.objs.size (He.ga K "_law_numbers") cdv))) (h_law_number : l_law_number ≤ j) :
    PSs (cxOf CX0 P w K mg base n_law_numbers "_law_numbers" (defScope s_law_numbers) (He.ga K "_law_numbers") cdv A outer s H E).nox (defBody s_law_numbers) (t_law_numbers K sp_law_number) :=
  (pss_one (ps_ret (pe_callTy c_tuple (by rfl) (T.free 4 _ rfl) (by decide +kernel) (pa_cons (pe_lc (own := [("_law_at_here", 3)]) (g := (gName 3)) (tt := tYes) (by rfl) sc_law_numbers.nd (pi_range1 (by rfl) (T.free 9 _ rfl) (pa_cons (pv 2) pa_nil)) (blkOk_by (own := [("_law_at_here", 3)]) (N := n_law_numbers) (sc := defScope s_law_numbers) (by decide +kernel)) (fun _ _ _ _ _ => (pg_name (i := 3) sc_law_numbers.nd rfl (by first | exact Or.inl rfl | exact Or.inr rfl))) (fun _ _ _ _ _ => pts_nil) (fun _ _ _ _ _ => (pe_callO O_law_number hr (by omega) (by rfl) (pa_cons (pv 0) (pa_cons (pv 1) pa_nil))))) pa_nil))))
theorem mk_law_numbers (T : Top K mg) {sp_law_number : Sp} {l_law_number : Nat} (O_law_number : Ok1 P w K mg base l_law_number "_law_number" ["_law_row", "_law_p"] sp_law_number) {k : Nat} (h_law_number : l_law_number ≤ k) {sp : Sp} (len : ∀ vs H Q E, sp vs H Q E → vs.length = 3)
    (read : ∀ vs H Q E, sp vs H Q E → t_law_numbers K sp_law_number ⟨fun _ H' => Q .non H', Q, fun _ _ => False, fun _ _ => False⟩ (start n_law_numbers vs) H) : Ok1 P w K mg base (k + 1) "_law_numbers" ["_law_row", "_law_p", "_law_many"] sp :=
  T.ok (d := d_law_numbers) 33 rfl sc_law_numbers (fun _ _ _ _ _ _ us hl => match us, hl with | [_, _, _], _ => rfl) len fun cdv A outer s H vs Q E hr h => ⟨_, der_law_numbers T O_law_number hr h_law_number, read vs H Q E h⟩

abbrev n_law_cut : List Str := ["_law_numbers_here", "_law_found"]
theorem sc_law_cut : FnScope n_law_cut ["_law_numbers_here"] (defScope s_law_cut) := ⟨rfl, rfl, rfl, by decide +kernel, rfl, by decide +kernel, by decide +kernel⟩
def t_law_cut (K : PySem.W.Frag) : TS :=
    (tSeq (tAsg (tCB (rListQ K) (tCons (tVar 0) tNil)) (gName 1))
    (tSeq (tWhile (tAnd (tTest (tOp (rNeD K) (tVar 1) (tLst tNil))) (tB (tEqI (tOp (rIx K) (tVar 1) (tUn uNeg (tC (.int 1)))) (tC (.int 0))))) (tDrop (tBM0 K "list" rPop (tVar 1))))
    (tRet (tCB (rTupQ K) (tCons (tVar 1) tNil)))))
theorem der_law_cut (T : Top K mg)  {cdv : Value} {A : Around} {outer : List Env} {s : Shared} {H : Hp} {E : XK} {j : Nat} (hr : Room j (A.deeper (envOfC "_law_cut" (defScope s_law_cut) s.heap.objs.size (He.ga K "_law_cut") cdv)))  :
    PSs (cxOf CX0 P w K mg base n_law_cut "_law_cut" (defScope s_law_cut) (He.ga K "_law_cut") cdv A outer s H E).nox (defBody s_law_cut) (t_law_cut K) :=
  (pss_cons (ps_set (i := 1) sc_law_cut.nd rfl (Or.inl rfl) (pe_callTy c_list (by rfl) (T.free 5 _ rfl) (by decide +kernel) (pa_cons (pv 0) pa_nil)))
    (pss_cons (ps_while PassesOwn.never (PW.pt (pw_and (pt_cmpR (op_neD hr.units) (pv 1) (pe_lst pa_nil) (nomark _)) (pw_and1 (pt_cmp (pc_eqI (pe_ix ix_seq (pv 1) (pe_un un_neg pe_int) (fun _ _ => rfl)) pe_int))))) (pss_one (ps_expr (pe_bm0 PySem.F.plainAttrs_list PySem.F.slot_list_pop PySem.F.type_list_pop mt_pop (pv 1)))))
    (pss_one (ps_ret (pe_callTy c_tuple (by rfl) (T.free 4 _ rfl) (by decide +kernel) (pa_cons (pv 1) pa_nil))))))
theorem mk_law_cut (T : Top K mg)  {k : Nat}  {sp : Sp} (len : ∀ vs H Q E, sp vs H Q E → vs.length = 1)
    (read : ∀ vs H Q E, sp vs H Q E → t_law_cut K ⟨fun _ H' => Q .non H', Q, fun _ _ => False, fun _ _ => False⟩ (start n_law_cut vs) H) : Ok1 P w K mg base (k + 1) "_law_cut" ["_law_numbers_here"] sp :=
  T.ok (d := d_law_cut) 34 rfl sc_law_cut (fun _ _ _ _ _ _ us hl => match us, hl with | [_], _ => rfl) len fun cdv A outer s H vs Q E hr h => ⟨_, der_law_cut T  hr , read vs H Q E h⟩

abbrev n_law_line : List Str := ["_law_row", "_law_p", "_law_most"]
theorem sc_law_line : FnScope n_law_line ["_law_row", "_law_p", "_law_most"] (defScope s_law_line) := ⟨rfl, rfl, rfl, by decide +kernel, rfl, by decide +kernel, by decide +kernel⟩
def t_law_line (K : PySem.W.Frag) (sp_law_taken sp_law_numbers sp_law_cut : Sp) : TS :=
    (tRet (tCall sp_law_cut [] E0 (tCons (tCall sp_law_numbers [] E0 (tCons (tVar 0) (tCons (tVar 1) (tCons (tCall sp_law_taken [] E0 (tCons (tVar 0) (tCons (tOp rAddI (tVar 2) (tC (.int 1))) tNil))) tNil)))) tNil)))
theorem der_law_line (T : Top K mg) {sp_law_taken : Sp} {l_law_taken : Nat} (O_law_taken : Ok1 P w K mg base l_law_taken "_law_taken" ["_law_row", "_law_many"] sp_law_taken) {sp_law_numbers : Sp} {l_law_numbers : Nat} (O_law_numbers : Ok1 P w K mg base l_law_numbers "_law_numbers" ["_law_row", "_law_p", "_law_many"] sp_law_numbers) {sp_law_cut : Sp} {l_law_cut : Nat} (O_law_cut : Ok1 P w K mg base l_law_cut "_law_cut" ["_law_numbers_here"] sp_law_cut) {cdv : Value} {A : Around} {outer : List Env} {s : Shared} {H : Hp} {E : XK} {j : Nat} (hr : Room j (A.deeper (envOfC "_law_line" (defScope s_law_line) s.heap.objs.size (He.ga K "_law_line") cdv))) (h_law_taken : l_law_taken ≤ j) (h_law_numbers : l_law_numbers ≤ j) (h_law_cut : l_law_cut ≤ j) :
    PSs (cxOf CX0 P w K mg base n_law_line "_law_line" (defScope s_law_line) (He.ga K "_law_line") cdv A outer s H E).nox (defBody s_law_line) (t_law_line K sp_law_taken sp_law_numbers sp_law_cut) :=
  (pss_one (ps_ret (pe_callO O_law_cut hr (by omega) (by rfl) (pa_cons (pe_callO O_law_numbers hr (by omega) (by rfl) (pa_cons (pv 0) (pa_cons (pv 1) (pa_cons (pe_callO O_law_taken hr (by omega) (by rfl) (pa_cons (pv 0) (pa_cons (pe_op op_add (pv 2) pe_int) pa_nil))) pa_nil)))) pa_nil))))
theorem mk_law_line (T : Top K mg) {sp_law_taken : Sp} {l_law_taken : Nat} (O_law_taken : Ok1 P w K mg base l_law_taken "_law_taken" ["_law_row", "_law_many"] sp_law_taken) {sp_law_numbers : Sp} {l_law_numbers : Nat} (O_law_numbers : Ok1 P w K mg base l_law_numbers "_law_numbers" ["_law_row", "_law_p", "_law_many"] sp_law_numbers) {sp_law_cut : Sp} {l_law_cut : Nat} (O_law_cut : Ok1 P w K mg base l_law_cut "_law_cut" ["_law_numbers_here"] sp_law_cut) {k : Nat} (h_law_taken : l_law_taken ≤ k) (h_law_numbers : l_law_numbers ≤ k) (h_law_cut : l_law_cut ≤ k) {sp : Sp} (len : ∀ vs H Q E, sp vs H Q E → vs.length = 3)
    (read : ∀ vs H Q E, sp vs H Q E → t_law_line K sp_law_taken sp_law_numbers sp_law_cut ⟨fun _ H' => Q .non H', Q, fun _ _ => False, fun _ _ => False⟩ (start n_law_line vs) H) : Ok1 P w K mg base (k + 1) "_law_line" ["_law_row", "_law_p", "_law_most"] sp :=
  T.ok (d := d_law_line) 35 rfl sc_law_line (fun _ _ _ _ _ _ us hl => match us, hl with | [_, _, _], _ => rfl) len fun cdv A outer s H vs Q E hr h => ⟨_, der_law_line T O_law_taken O_law_numbers O_law_cut hr h_law_taken h_law_numbers h_law_cut, read vs H Q E h⟩

abbrev n_law_at : List Str := ["_law_p", "_law_line_here", "_law_place", "_law_found", "_law_number_here"]
theorem sc_law_at : FnScope n_law_at ["_law_p", "_law_line_here", "_law_place"] (defScope s_law_at) := ⟨rfl, rfl, rfl, by decide +kernel, rfl, by decide +kernel, by decide +kernel⟩
def t_law_at (K : PySem.W.Frag) : TS :=
    (tSeq (tAsg (tC (.int 0)) (gName 3))
    (tSeq (tFor (iTup K (tRevT K (tVar 1))) (gName 4) (tAsg (tOp rModI (tOp rAddI (tOp rMulI (tVar 3) (tVar 2)) (tVar 4)) (tVar 0)) (gName 3)))
    (tRet (tVar 3))))
theorem der_law_at (T : Top K mg)  {cdv : Value} {A : Around} {outer : List Env} {s : Shared} {H : Hp} {E : XK} {j : Nat} (hr : Room j (A.deeper (envOfC "_law_at" (defScope s_law_at) s.heap.objs.size (He.ga K "_law_at") cdv)))  :
    PSs (cxOf CX0 P w K mg base n_law_at "_law_at" (defScope s_law_at) (He.ga K "_law_at") cdv A outer s H E).nox (defBody s_law_at) (t_law_at K) :=
  (pss_cons (ps_set (i := 3) sc_law_at.nd rfl (Or.inl rfl) pe_int)
    (pss_cons (ps_for PassesOwn.never rfl (pi_tup (pe_revT (pv 1))) (pg_name (i := 4) sc_law_at.nd rfl (Or.inl rfl)) (pss_one (ps_set (i := 3) sc_law_at.nd rfl (Or.inl rfl) (pe_op op_mod (pe_op op_add (pe_op op_mul (pv 3) (pv 2)) (pv 4)) (pv 0)))))
    (pss_one (ps_ret (pv 3)))))
theorem mk_law_at (T : Top K mg)  {k : Nat}  {sp : Sp} (len : ∀ vs H Q E, sp vs H Q E → vs.length = 3)
    (read : ∀ vs H Q E, sp vs H Q E → t_law_at K ⟨fun _ H' => Q .non H', Q, fun _ _ => False, fun _ _ => False⟩ (start n_law_at vs) H) : Ok1 P w K mg base (k + 1) "_law_at" ["_law_p", "_law_line_here", "_law_place"] sp :=
  T.ok (d := d_law_at) 36 rfl sc_law_at (fun _ _ _ _ _ _ us hl => match us, hl with | [_, _, _], _ => rfl) len fun cdv A outer s H vs Q E hr h => ⟨_, der_law_at T  hr , read vs H Q E h⟩

def t_law_atL (K : PySem.W.Frag) : TS :=
    (tSeq (tAsg (tC (.int 0)) (gName 3))
    (tSeq (tFor (iList K (tRevL K (tVar 1))) (gName 4) (tAsg (tOp rModI (tOp rAddI (tOp rMulI (tVar 3) (tVar 2)) (tVar 4)) (tVar 0)) (gName 3)))
    (tRet (tVar 3))))
theorem der_law_atL (T : Top K mg)  {cdv : Value} {A : Around} {outer : List Env} {s : Shared} {H : Hp} {E : XK} {j : Nat} (hr : Room j (A.deeper (envOfC "_law_at" (defScope s_law_at) s.heap.objs.size (He.ga K "_law_at") cdv)))  :
    PSs (cxOf CX0 P w K mg base n_law_at "_law_at" (defScope s_law_at) (He.ga K "_law_at") cdv A outer s H E).nox (defBody s_law_at) (t_law_atL K) :=
  (pss_cons (ps_set (i := 3) sc_law_at.nd rfl (Or.inl rfl) pe_int)
    (pss_cons (ps_for PassesOwn.never rfl (pi_list (pe_revL (pv 1))) (pg_name (i := 4) sc_law_at.nd rfl (Or.inl rfl)) (pss_one (ps_set (i := 3) sc_law_at.nd rfl (Or.inl rfl) (pe_op op_mod (pe_op op_add (pe_op op_mul (pv 3) (pv 2)) (pv 4)) (pv 0)))))
    (pss_one (ps_ret (pv 3)))))
theorem mk_law_atL (T : Top K mg)  {k : Nat}  {sp : Sp} (len : ∀ vs H Q E, sp vs H Q E → vs.length = 3)
    (read : ∀ vs H Q E, sp vs H Q E → t_law_atL K ⟨fun _ H' => Q .non H', Q, fun _ _ => False, fun _ _ => False⟩ (start n_law_at vs) H) : Ok1 P w K mg base (k + 1) "_law_at" ["_law_p", "_law_line_here", "_law_place"] sp :=
  T.ok (d := d_law_at) 36 rfl sc_law_at (fun _ _ _ _ _ _ us hl => match us, hl with | [_, _, _], _ => rfl) len fun cdv A outer s H vs Q E hr h => ⟨_, der_law_atL T  hr , read vs H Q E h⟩

abbrev n_law_inverse : List Str := ["_law_p", "_law_number_here", "_law_found", "_law_base", "_law_times"]
theorem sc_law_inverse : FnScope n_law_inverse ["_law_p", "_law_number_here"] (defScope s_law_inverse) := ⟨rfl, rfl, rfl, by decide +kernel, rfl, by decide +kernel, by decide +kernel⟩
def t_law_inverse (K : PySem.W.Frag) : TS :=
    (tSeq (tPar3 2 3 4 (tCons (tC (.int 1)) (tCons (tOp rModI (tVar 1) (tVar 0)) (tCons (tOp rSubI (tVar 0) (tC (.int 2))) tNil))))
    (tSeq (tWhile (tB (tGt (tVar 4) (tC (.int 0)))) (tSeq (tIfS (tB (tEqI (tOp rModI (tVar 4) (tC (.int 2))) (tC (.int 1)))) (tAsg (tOp rModI (tOp rMulI (tVar 2) (tVar 3)) (tVar 0)) (gName 2)) tNext)
    (tPar 3 4 (tCons (tOp rModI (tOp rMulI (tVar 3) (tVar 3)) (tVar 0)) (tCons (tOp rDivI (tVar 4) (tC (.int 2))) tNil)))))
    (tRet (tVar 2))))
theorem der_law_inverse (T : Top K mg)  {cdv : Value} {A : Around} {outer : List Env} {s : Shared} {H : Hp} {E : XK} {j : Nat} (hr : Room j (A.deeper (envOfC "_law_inverse" (defScope s_law_inverse) s.heap.objs.size (He.ga K "_law_inverse") cdv)))  :
    PSs (cxOf CX0 P w K mg base n_law_inverse "_law_inverse" (defScope s_law_inverse) (He.ga K "_law_inverse") cdv A outer s H E).nox (defBody s_law_inverse) (t_law_inverse K) :=
  (pss_cons (ps_par3 (i := 2) (j := 3) (l := 4) (by rfl) sc_law_inverse.nd rfl rfl rfl (by decide) (by decide) (by decide) rfl rfl rfl (pa_cons pe_int (pa_cons (pe_op op_mod (pv 1) (pv 0)) (pa_cons (pe_op op_sub (pv 0) pe_int) pa_nil))) (by rfl))
    (pss_cons (ps_while PassesOwn.never (pt_cmp (pc_gt (pv 4) pe_int)) (pss_cons (ps_if (pt_cmp (pc_eqI (pe_op op_mod (pv 4) pe_int) pe_int)) (pss_one (ps_set (i := 2) sc_law_inverse.nd rfl (Or.inl rfl) (pe_op op_mod (pe_op op_mul (pv 2) (pv 3)) (pv 0)))) pss_nil)
    (pss_one (ps_par (i := 3) (j := 4) (by rfl) sc_law_inverse.nd rfl rfl (by decide) rfl rfl (pa_cons (pe_op op_mod (pe_op op_mul (pv 3) (pv 3)) (pv 0)) (pa_cons (pe_op op_fdivW (pv 4) pe_int) pa_nil)) (by rfl)))))
    (pss_one (ps_ret (pv 2)))))
theorem mk_law_inverse (T : Top K mg)  {k : Nat}  {sp : Sp} (len : ∀ vs H Q E, sp vs H Q E → vs.length = 2)
    (read : ∀ vs H Q E, sp vs H Q E → t_law_inverse K ⟨fun _ H' => Q .non H', Q, fun _ _ => False, fun _ _ => False⟩ (start n_law_inverse vs) H) : Ok1 P w K mg base (k + 1) "_law_inverse" ["_law_p", "_law_number_here"] sp :=
  T.ok (d := d_law_inverse) 37 rfl sc_law_inverse (fun _ _ _ _ _ _ us hl => match us, hl with | [_, _], _ => rfl) len fun cdv A outer s H vs Q E hr h => ⟨_, der_law_inverse T  hr , read vs H Q E h⟩

abbrev n_law_bits : List Str := ["_law_many", "_law_index", "_law_found", "_law_at_here"]
theorem sc_law_bits : FnScope n_law_bits ["_law_many", "_law_index"] (defScope s_law_bits) := ⟨rfl, rfl, rfl, by decide +kernel, rfl, by decide +kernel, by decide +kernel⟩
def t_law_bits (K : PySem.W.Frag) : TS :=
    (tSeq (tAsg (tLst tNil) (gName 2))
    (tSeq (tFor (iRng1 (tCons (tVar 0) tNil)) (gName 3) (tDrop (tBM K "list" rAppend (tVar 2) (tCons (tOp rModI (tOp rDivI (tVar 1) (tOp rShlI (tC (.int 1)) (tOp rSubI (tOp rSubI (tVar 0) (tC (.int 1))) (tVar 3)))) (tC (.int 2))) tNil))))
    (tRet (tCB (rTupQ K) (tCons (tVar 2) tNil)))))
theorem der_law_bits (T : Top K mg)  {cdv : Value} {A : Around} {outer : List Env} {s : Shared} {H : Hp} {E : XK} {j : Nat} (hr : Room j (A.deeper (envOfC "_law_bits" (defScope s_law_bits) s.heap.objs.size (He.ga K "_law_bits") cdv)))  :
    PSs (cxOf CX0 P w K mg base n_law_bits "_law_bits" (defScope s_law_bits) (He.ga K "_law_bits") cdv A outer s H E).nox (defBody s_law_bits) (t_law_bits K) :=
  (pss_cons (ps_set (i := 2) sc_law_bits.nd rfl (Or.inl rfl) (pe_lst pa_nil))
    (pss_cons (ps_for PassesOwn.never rfl (pi_range1 (by rfl) (T.free 9 _ rfl) (pa_cons (pv 0) pa_nil)) (pg_name (i := 3) sc_law_bits.nd rfl (Or.inl rfl)) (pss_one (ps_expr (pe_bm PySem.F.plainAttrs_list PySem.F.slot_list_append PySem.F.type_list_append mt_append (pv 2) (pa_cons (pe_op op_mod (pe_op op_fdivW (pv 1) (pe_op op_shl pe_int (pe_op op_sub (pe_op op_sub (pv 0) pe_int) (pv 3)))) pe_int) pa_nil)))))
    (pss_one (ps_ret (pe_callTy c_tuple (by rfl) (T.free 4 _ rfl) (by decide +kernel) (pa_cons (pv 2) pa_nil))))))
theorem mk_law_bits (T : Top K mg)  {k : Nat}  {sp : Sp} (len : ∀ vs H Q E, sp vs H Q E → vs.length = 2)
    (read : ∀ vs H Q E, sp vs H Q E → t_law_bits K ⟨fun _ H' => Q .non H', Q, fun _ _ => False, fun _ _ => False⟩ (start n_law_bits vs) H) : Ok1 P w K mg base (k + 1) "_law_bits" ["_law_many", "_law_index"] sp :=
  T.ok (d := d_law_bits) 38 rfl sc_law_bits (fun _ _ _ _ _ _ us hl => match us, hl with | [_, _], _ => rfl) len fun cdv A outer s H vs Q E hr h => ⟨_, der_law_bits T  hr , read vs H Q E h⟩

abbrev n_law_weight : List Str := ["_law_p", "_law_bits_here", "_law_point", "_law_found", "_law_bit", "_law_number_here"]
theorem sc_law_weight : FnScope n_law_weight ["_law_p", "_law_bits_here", "_law_point"] (defScope s_law_weight) := ⟨rfl, rfl, rfl, by decide +kernel, rfl, by decide +kernel, by decide +kernel⟩
def t_law_weight (K : PySem.W.Frag) : TS :=
    (tSeq (tAsg (tC (.int 1)) (gName 3))
    (tSeq (tFor (iZipM K (tCons (tVar 1) (tCons (tVar 2) tNil))) (gTup K 2 (gCons (gName 4) (gCons (gName 5) gNil))) (tAsg (tOp rModI (tOp rMulI (tVar 3) (tIf (tB (tEqI (tVar 4) (tC (.int 1)))) (tVar 5) (tOp rSubI (tC (.int 1)) (tVar 5)))) (tVar 0)) (gName 3)))
    (tRet (tVar 3))))
theorem der_law_weight (T : Top K mg)  {cdv : Value} {A : Around} {outer : List Env} {s : Shared} {H : Hp} {E : XK} {j : Nat} (hr : Room j (A.deeper (envOfC "_law_weight" (defScope s_law_weight) s.heap.objs.size (He.ga K "_law_weight") cdv)))  :
    PSs (cxOf CX0 P w K mg base n_law_weight "_law_weight" (defScope s_law_weight) (He.ga K "_law_weight") cdv A outer s H E).nox (defBody s_law_weight) (t_law_weight K) :=
  (pss_cons (ps_set (i := 3) sc_law_weight.nd rfl (Or.inl rfl) pe_int)
    (pss_cons (ps_for PassesOwn.never rfl (pi_zipM (by rfl) (T.free 11 _ rfl) (pa_cons (pv 1) (pa_cons (pv 2) pa_nil))) (pg_tup rfl (pgs_cons (pg_name (i := 4) sc_law_weight.nd rfl (Or.inl rfl)) (pgs_cons (pg_name (i := 5) sc_law_weight.nd rfl (Or.inl rfl)) pgs_nil))) (pss_one (ps_set (i := 3) sc_law_weight.nd rfl (Or.inl rfl) (pe_op op_mod (pe_op op_mul (pv 3) (pe_ifExp (pt_cmp (pc_eqI (pv 4) pe_int)) (pv 5) (pe_op op_sub pe_int (pv 5)))) (pv 0)))))
    (pss_one (ps_ret (pv 3)))))
theorem mk_law_weight (T : Top K mg)  {k : Nat}  {sp : Sp} (len : ∀ vs H Q E, sp vs H Q E → vs.length = 3)
    (read : ∀ vs H Q E, sp vs H Q E → t_law_weight K ⟨fun _ H' => Q .non H', Q, fun _ _ => False, fun _ _ => False⟩ (start n_law_weight vs) H) : Ok1 P w K mg base (k + 1) "_law_weight" ["_law_p", "_law_bits_here", "_law_point"] sp :=
  T.ok (d := d_law_weight) 39 rfl sc_law_weight (fun _ _ _ _ _ _ us hl => match us, hl with | [_, _, _], _ => rfl) len fun cdv A outer s H vs Q E hr h => ⟨_, der_law_weight T  hr , read vs H Q E h⟩

abbrev n_law_spread : List Str := ["_law_p", "_law_table_here", "_law_point", "_law_many", "_law_at_here"]
theorem sc_law_spread : FnScope n_law_spread ["_law_p", "_law_table_here", "_law_point"] (defScope s_law_spread) := ⟨rfl, rfl, rfl, by decide +kernel, rfl, by decide +kernel, by decide +kernel⟩
def t_law_spread (K : PySem.W.Frag) (sp_law_bits sp_law_weight : Sp) : TS :=
    (tSeq (tAsg (tCB (rLenQ K) (tCons (tVar 2) tNil)) (gName 3))
    (tRet (tOp rModI (tCB (rSum K) (tCons (tLc (iRng1 (tCons (tCB (rLenQ K) (tCons (tVar 1) tNil)) tNil)) (gName 4) tYes (tOp rMulI (tOp (rIx K) (tVar 1) (tVar 4)) (tCall sp_law_weight [] E0 (tCons (tVar 0) (tCons (tCall sp_law_bits [] E0 (tCons (tVar 3) (tCons (tVar 4) tNil))) (tCons (tVar 2) tNil))))) [4]) tNil)) (tVar 0))))
theorem der_law_spread (T : Top K mg) {sp_law_bits : Sp} {l_law_bits : Nat} (O_law_bits : Ok1 P w K mg base l_law_bits "_law_bits" ["_law_many", "_law_index"] sp_law_bits) {sp_law_weight : Sp} {l_law_weight : Nat} (O_law_weight : Ok1 P w K mg base l_law_weight "_law_weight" ["_law_p", "_law_bits_here", "_law_point"] sp_law_weight) {cdv : Value} {A : Around} {outer : List Env} {s : Shared} {H : Hp} {E : XK} {j : Nat} (hr : Room j (A.deeper (envOfC "_law_spread" (defScope s_law_spread) s.heap.objs.size (He.ga K "_law_spread") cdv))) (h_law_bits : l_law_bits ≤ j) (h_law_weight : l_law_weight ≤ j) :
    PSs (cxOf CX0 P w K mg base n_law_spread "_law_spread" (defScope s_law_spread) (He.ga K "_law_spread") cdv A outer s H E).nox (defBody s_law_spread) (t_law_spread K sp_law_bits sp_law_weight) :=
  (pss_cons (ps_set (i := 3) sc_law_spread.nd rfl (Or.inr rfl) (pe_callB c_len (by rfl) (T.free 1 _ rfl) (by decide +kernel) (pa_cons (pv 2) pa_nil)))
    (pss_one (ps_ret (pe_op op_mod (pe_callB (cr_sum rfl) (by rfl) (T.free 6 _ rfl) (by decide +kernel) (pa_cons (pe_lc (own := [("_law_at_here", 4)]) (g := (gName 4)) (tt := tYes) (by rfl) sc_law_spread.nd (pi_range1 (by rfl) (T.free 9 _ rfl) (pa_cons (pe_callB c_len (by rfl) (T.free 1 _ rfl) (by decide +kernel) (pa_cons (pv 1) pa_nil)) pa_nil)) (blkOk_by (own := [("_law_at_here", 4)]) (N := n_law_spread) (sc := defScope s_law_spread) (by decide +kernel)) (fun _ _ _ _ _ => (pg_name (i := 4) sc_law_spread.nd rfl (by first | exact Or.inl rfl | exact Or.inr rfl))) (fun _ _ _ _ _ => pts_nil) (fun _ _ _ _ _ => (pe_op op_mul (pe_ix ix_seq (pv 1) (pv 4) (fun _ _ => rfl)) (pe_callO O_law_weight hr (by omega) (by rfl) (pa_cons (pv 0) (pa_cons (pe_callO O_law_bits hr (by omega) (by rfl) (pa_cons (pv 3) (pa_cons (pv 4) pa_nil))) (pa_cons (pv 2) pa_nil))))))) pa_nil)) (pv 0)))))
theorem mk_law_spread (T : Top K mg) {sp_law_bits : Sp} {l_law_bits : Nat} (O_law_bits : Ok1 P w K mg base l_law_bits "_law_bits" ["_law_many", "_law_index"] sp_law_bits) {sp_law_weight : Sp} {l_law_weight : Nat} (O_law_weight : Ok1 P w K mg base l_law_weight "_law_weight" ["_law_p", "_law_bits_here", "_law_point"] sp_law_weight) {k : Nat} (h_law_bits : l_law_bits ≤ k) (h_law_weight : l_law_weight ≤ k) {sp : Sp} (len : ∀ vs H Q E, sp vs H Q E → vs.length = 3)
    (read : ∀ vs H Q E, sp vs H Q E → t_law_spread K sp_law_bits sp_law_weight ⟨fun _ H' => Q .non H', Q, fun _ _ => False, fun _ _ => False⟩ (start n_law_spread vs) H) : Ok1 P w K mg base (k + 1) "_law_spread" ["_law_p", "_law_table_here", "_law_point"] sp :=
  T.ok (d := d_law_spread) 40 rfl sc_law_spread (fun _ _ _ _ _ _ us hl => match us, hl with | [_, _, _], _ => rfl) len fun cdv A outer s H vs Q E hr h => ⟨_, der_law_spread T O_law_bits O_law_weight hr h_law_bits h_law_weight, read vs H Q E h⟩

abbrev n_law_table : List Str := ["_law_row", "_law_p", "_law_many"]
theorem sc_law_table : FnScope n_law_table ["_law_row", "_law_p", "_law_many"] (defScope s_law_table) := ⟨rfl, rfl, rfl, by decide +kernel, rfl, by decide +kernel, by decide +kernel⟩
def t_law_table (K : PySem.W.Frag) (sp_law_numbers : Sp) : TS :=
    (tRet (tCall sp_law_numbers [] E0 (tCons (tVar 0) (tCons (tVar 1) (tCons (tOp rShlI (tC (.int 1)) (tVar 2)) tNil)))))
theorem der_law_table (T : Top K mg) {sp_law_numbers : Sp} {l_law_numbers : Nat} (O_law_numbers : Ok1 P w K mg base l_law_numbers "_law_numbers" ["_law_row", "_law_p", "_law_many"] sp_law_numbers) {cdv : Value} {A : Around} {outer : List Env} {s : Shared} {H : Hp} {E : XK} {j : Nat} (hr : Room j (A.deeper (envOfC "_law_table" (defScope s_law_table) s.heap.objs.size (He.ga K "_law_table") cdv))) (h_law_numbers : l_law_numbers ≤ j) :
    PSs (cxOf CX0 P w K mg base n_law_table "_law_table" (defScope s_law_table) (He.ga K "_law_table") cdv A outer s H E).nox (defBody s_law_table) (t_law_table K sp_law_numbers) :=
  (pss_one (ps_ret (pe_callO O_law_numbers hr (by omega) (by rfl) (pa_cons (pv 0) (pa_cons (pv 1) (pa_cons (pe_op op_shl pe_int (pv 2)) pa_nil))))))
theorem mk_law_table (T : Top K mg) {sp_law_numbers : Sp} {l_law_numbers : Nat} (O_law_numbers : Ok1 P w K mg base l_law_numbers "_law_numbers" ["_law_row", "_law_p", "_law_many"] sp_law_numbers) {k : Nat} (h_law_numbers : l_law_numbers ≤ k) {sp : Sp} (len : ∀ vs H Q E, sp vs H Q E → vs.length = 3)
    (read : ∀ vs H Q E, sp vs H Q E → t_law_table K sp_law_numbers ⟨fun _ H' => Q .non H', Q, fun _ _ => False, fun _ _ => False⟩ (start n_law_table vs) H) : Ok1 P w K mg base (k + 1) "_law_table" ["_law_row", "_law_p", "_law_many"] sp :=
  T.ok (d := d_law_table) 41 rfl sc_law_table (fun _ _ _ _ _ _ us hl => match us, hl with | [_, _, _], _ => rfl) len fun cdv A outer s H vs Q E hr h => ⟨_, der_law_table T O_law_numbers hr h_law_numbers, read vs H Q E h⟩

abbrev n_law_part : List Str := ["_law_row", "_law_p", "_law_many", "_law_way", "_law_size", "_law_places", "_law_at_here"]
theorem sc_law_part : FnScope n_law_part ["_law_row", "_law_p", "_law_many"] (defScope s_law_part) := ⟨rfl, rfl, rfl, by decide +kernel, rfl, by decide +kernel, by decide +kernel⟩
def t_law_part (K : PySem.W.Frag) (sp_law_taken sp_law_pick sp_law_number sp_law_table : Sp) : TS :=
    (tSeq (tAsg (tCall sp_law_taken [] E0 (tCons (tVar 0) (tCons (tC (.int 4)) tNil))) (gName 3))
    (tSeq (tIfS (tOr (tB (tEqI (tVar 3) (tC (.int 0)))) (tB (tEqI (tVar 2) (tC (.int 0))))) (tRet (tTup (tCons (tC (.str "number")) (tCons (tCall sp_law_number [] E0 (tCons (tVar 0) (tCons (tVar 1) tNil))) tNil)))) tNext)
    (tSeq (tIfS (tB (tLt (tVar 3) (tC (.int 3)))) (tRet (tTup (tCons (tC (.str "name")) (tCons (tCall sp_law_taken [] E0 (tCons (tVar 0) (tCons (tVar 2) tNil))) tNil)))) tNext)
    (tSeq (tAsg (tCall sp_law_taken [] E0 (tCons (tVar 0) (tCons (tC (.int 3)) tNil))) (gName 4))
    (tSeq (tAsg (tLst tNil) (gName 5))
    (tSeq (tFor (iRng1 (tCons (tVar 4) tNil)) (gName 6) (tDrop (tBM K "list" rAppend (tVar 5) (tCons (tCall sp_law_pick [] E0 (tCons (tVar 0) (tCons (tLst (tCons (tTup (tCons (tC (.str "name")) (tCons (tCall sp_law_taken [] E0 (tCons (tVar 0) (tCons (tVar 2) tNil))) tNil))) (tCons (tTup (tCons (tC (.str "name")) (tCons (tCall sp_law_taken [] E0 (tCons (tVar 0) (tCons (tVar 2) tNil))) tNil))) (tCons (tTup (tCons (tC (.str "number")) (tCons (tCall sp_law_number [] E0 (tCons (tVar 0) (tCons (tVar 1) tNil))) tNil))) tNil)))) tNil))) tNil))))
    (tRet (tTup (tCons (tC (.str "table")) (tCons (tCall sp_law_table [] E0 (tCons (tVar 0) (tCons (tVar 1) (tCons (tVar 4) tNil)))) (tCons (tCB (rTupQ K) (tCons (tVar 5) tNil)) tNil)))))))))))
theorem der_law_part (T : Top K mg) {sp_law_taken : Sp} {l_law_taken : Nat} (O_law_taken : Ok1 P w K mg base l_law_taken "_law_taken" ["_law_row", "_law_many"] sp_law_taken) {sp_law_pick : Sp} {l_law_pick : Nat} (O_law_pick : Ok1 P w K mg base l_law_pick "_law_pick" ["_law_row", "_law_things"] sp_law_pick) {sp_law_number : Sp} {l_law_number : Nat} (O_law_number : Ok1 P w K mg base l_law_number "_law_number" ["_law_row", "_law_p"] sp_law_number) {sp_law_table : Sp} {l_law_table : Nat} (O_law_table : Ok1 P w K mg base l_law_table "_law_table" ["_law_row", "_law_p", "_law_many"] sp_law_table) {cdv : Value} {A : Around} {outer : List Env} {s : Shared} {H : Hp} {E : XK} {j : Nat} (hr : Room j (A.deeper (envOfC "_law_part" (defScope s_law_part) s.heap.objs.size (He.ga K "_law_part") cdv))) (h_law_taken : l_law_taken ≤ j) (h_law_pick : l_law_pick ≤ j) (h_law_number : l_law_number ≤ j) (h_law_table : l_law_table ≤ j) :
    PSs (cxOf CX0 P w K mg base n_law_part "_law_part" (defScope s_law_part) (He.ga K "_law_part") cdv A outer s H E).nox (defBody s_law_part) (t_law_part K sp_law_taken sp_law_pick sp_law_number sp_law_table) :=
  (pss_cons (ps_set (i := 3) sc_law_part.nd rfl (Or.inl rfl) (pe_callO O_law_taken hr (by omega) (by rfl) (pa_cons (pv 0) (pa_cons pe_int pa_nil))))
    (pss_cons (ps_if (PW.pt (pw_or (pt_cmp (pc_eqI (pv 3) pe_int)) (pw_or1 (pt_cmp (pc_eqI (pv 2) pe_int))))) (pss_one (ps_ret (pe_tup (pa_cons pe_str (pa_cons (pe_callO O_law_number hr (by omega) (by rfl) (pa_cons (pv 0) (pa_cons (pv 1) pa_nil))) pa_nil))))) pss_nil)
    (pss_cons (ps_if (pt_cmp (pc_lt (pv 3) pe_int)) (pss_one (ps_ret (pe_tup (pa_cons pe_str (pa_cons (pe_callO O_law_taken hr (by omega) (by rfl) (pa_cons (pv 0) (pa_cons (pv 2) pa_nil))) pa_nil))))) pss_nil)
    (pss_cons (ps_set (i := 4) sc_law_part.nd rfl (Or.inl rfl) (pe_callO O_law_taken hr (by omega) (by rfl) (pa_cons (pv 0) (pa_cons pe_int pa_nil))))
    (pss_cons (ps_set (i := 5) sc_law_part.nd rfl (Or.inl rfl) (pe_lst pa_nil))
    (pss_cons (ps_for PassesOwn.never rfl (pi_range1 (by rfl) (T.free 9 _ rfl) (pa_cons (pv 4) pa_nil)) (pg_name (i := 6) sc_law_part.nd rfl (Or.inl rfl)) (pss_one (ps_expr (pe_bm PySem.F.plainAttrs_list PySem.F.slot_list_append PySem.F.type_list_append mt_append (pv 5) (pa_cons (pe_callO O_law_pick hr (by omega) (by rfl) (pa_cons (pv 0) (pa_cons (pe_lst (pa_cons (pe_tup (pa_cons pe_str (pa_cons (pe_callO O_law_taken hr (by omega) (by rfl) (pa_cons (pv 0) (pa_cons (pv 2) pa_nil))) pa_nil))) (pa_cons (pe_tup (pa_cons pe_str (pa_cons (pe_callO O_law_taken hr (by omega) (by rfl) (pa_cons (pv 0) (pa_cons (pv 2) pa_nil))) pa_nil))) (pa_cons (pe_tup (pa_cons pe_str (pa_cons (pe_callO O_law_number hr (by omega) (by rfl) (pa_cons (pv 0) (pa_cons (pv 1) pa_nil))) pa_nil))) pa_nil)))) pa_nil))) pa_nil)))))
    (pss_one (ps_ret (pe_tup (pa_cons pe_str (pa_cons (pe_callO O_law_table hr (by omega) (by rfl) (pa_cons (pv 0) (pa_cons (pv 1) (pa_cons (pv 4) pa_nil)))) (pa_cons (pe_callTy c_tuple (by rfl) (T.free 4 _ rfl) (by decide +kernel) (pa_cons (pv 5) pa_nil)) pa_nil))))))))))))
theorem mk_law_part (T : Top K mg) {sp_law_taken : Sp} {l_law_taken : Nat} (O_law_taken : Ok1 P w K mg base l_law_taken "_law_taken" ["_law_row", "_law_many"] sp_law_taken) {sp_law_pick : Sp} {l_law_pick : Nat} (O_law_pick : Ok1 P w K mg base l_law_pick "_law_pick" ["_law_row", "_law_things"] sp_law_pick) {sp_law_number : Sp} {l_law_number : Nat} (O_law_number : Ok1 P w K mg base l_law_number "_law_number" ["_law_row", "_law_p"] sp_law_number) {sp_law_table : Sp} {l_law_table : Nat} (O_law_table : Ok1 P w K mg base l_law_table "_law_table" ["_law_row", "_law_p", "_law_many"] sp_law_table) {k : Nat} (h_law_taken : l_law_taken ≤ k) (h_law_pick : l_law_pick ≤ k) (h_law_number : l_law_number ≤ k) (h_law_table : l_law_table ≤ k) {sp : Sp} (len : ∀ vs H Q E, sp vs H Q E → vs.length = 3)
    (read : ∀ vs H Q E, sp vs H Q E → t_law_part K sp_law_taken sp_law_pick sp_law_number sp_law_table ⟨fun _ H' => Q .non H', Q, fun _ _ => False, fun _ _ => False⟩ (start n_law_part vs) H) : Ok1 P w K mg base (k + 1) "_law_part" ["_law_row", "_law_p", "_law_many"] sp :=
  T.ok (d := d_law_part) 42 rfl sc_law_part (fun _ _ _ _ _ _ us hl => match us, hl with | [_, _, _], _ => rfl) len fun cdv A outer s H vs Q E hr h => ⟨_, der_law_part T O_law_taken O_law_pick O_law_number O_law_table hr h_law_taken h_law_pick h_law_number h_law_table, read vs H Q E h⟩

abbrev n_law_rule : List Str := ["_law_row", "_law_p", "_law_many", "_law_deep", "_law_way", "_law_word"]
theorem sc_law_rule : FnScope n_law_rule ["_law_row", "_law_p", "_law_many", "_law_deep"] (defScope s_law_rule) := ⟨rfl, rfl, rfl, by decide +kernel, rfl, by decide +kernel, by decide +kernel⟩
def t_law_rule (K : PySem.W.Frag) (sp_law_taken sp_law_pick sp_law_part spSelf : Sp) : TS :=
    (tSeq (tAsg (tIf (tB (tGt (tVar 3) (tC (.int 0)))) (tCall sp_law_taken [] E0 (tCons (tVar 0) (tCons (tC (.int 5)) tNil))) (tC (.int 0))) (gName 4))
    (tSeq (tIfS (tB (tEqI (tVar 4) (tC (.int 0)))) (tRet (tCall sp_law_part [] E0 (tCons (tVar 0) (tCons (tVar 1) (tCons (tVar 2) tNil))))) tNext)
    (tSeq (tAsg (tCall sp_law_pick [] E0 (tCons (tVar 0) (tCons (tLst (tCons (tC (.str "plus")) (tCons (tC (.str "minus")) (tCons (tC (.str "times")) (tCons (tC (.str "times")) tNil))))) tNil))) (gName 5))
    (tRet (tTup (tCons (tVar 5) (tCons (tCall spSelf [] E0 (tCons (tVar 0) (tCons (tVar 1) (tCons (tVar 2) (tCons (tOp rSubI (tVar 3) (tC (.int 1))) tNil))))) (tCons (tCall spSelf [] E0 (tCons (tVar 0) (tCons (tVar 1) (tCons (tVar 2) (tCons (tOp rSubI (tVar 3) (tC (.int 1))) tNil))))) tNil))))))))
theorem der_law_rule (T : Top K mg) {sp_law_taken : Sp} {l_law_taken : Nat} (O_law_taken : Ok1 P w K mg base l_law_taken "_law_taken" ["_law_row", "_law_many"] sp_law_taken) {sp_law_pick : Sp} {l_law_pick : Nat} (O_law_pick : Ok1 P w K mg base l_law_pick "_law_pick" ["_law_row", "_law_things"] sp_law_pick) {sp_law_part : Sp} {l_law_part : Nat} (O_law_part : Ok1 P w K mg base l_law_part "_law_part" ["_law_row", "_law_p", "_law_many"] sp_law_part) {spSelf : Sp} {l_self : Nat} (OSelf : Ok1 P w K mg base l_self "_law_rule" ["_law_row", "_law_p", "_law_many", "_law_deep"] spSelf) {cdv : Value} {A : Around} {outer : List Env} {s : Shared} {H : Hp} {E : XK} {j : Nat} (hr : Room j (A.deeper (envOfC "_law_rule" (defScope s_law_rule) s.heap.objs.size (He.ga K "_law_rule") cdv))) (h_law_taken : l_law_taken ≤ j) (h_law_pick : l_law_pick ≤ j) (h_law_part : l_law_part ≤ j) (h_self : l_self ≤ j) :
    PSs (cxOf CX0 P w K mg base n_law_rule "_law_rule" (defScope s_law_rule) (He.ga K "_law_rule") cdv A outer s H E).nox (defBody s_law_rule) (t_law_rule K sp_law_taken sp_law_pick sp_law_part spSelf) :=
  (pss_cons (ps_set (i := 4) sc_law_rule.nd rfl (Or.inl rfl) (pe_ifExp (pt_cmp (pc_gt (pv 3) pe_int)) (pe_callO O_law_taken hr (by omega) (by rfl) (pa_cons (pv 0) (pa_cons pe_int pa_nil))) pe_int))
    (pss_cons (ps_if (pt_cmp (pc_eqI (pv 4) pe_int)) (pss_one (ps_ret (pe_callO O_law_part hr (by omega) (by rfl) (pa_cons (pv 0) (pa_cons (pv 1) (pa_cons (pv 2) pa_nil)))))) pss_nil)
    (pss_cons (ps_set (i := 5) sc_law_rule.nd rfl (Or.inl rfl) (pe_callO O_law_pick hr (by omega) (by rfl) (pa_cons (pv 0) (pa_cons (pe_lst (pa_cons pe_str (pa_cons pe_str (pa_cons pe_str (pa_cons pe_str pa_nil))))) pa_nil))))
    (pss_one (ps_ret (pe_tup (pa_cons (pv 5) (pa_cons (pe_callO OSelf hr (by omega) (by rfl) (pa_cons (pv 0) (pa_cons (pv 1) (pa_cons (pv 2) (pa_cons (pe_op op_sub (pv 3) pe_int) pa_nil))))) (pa_cons (pe_callO OSelf hr (by omega) (by rfl) (pa_cons (pv 0) (pa_cons (pv 1) (pa_cons (pv 2) (pa_cons (pe_op op_sub (pv 3) pe_int) pa_nil))))) pa_nil)))))))))
theorem mk_law_rule (T : Top K mg) {sp_law_taken : Sp} {l_law_taken : Nat} (O_law_taken : Ok1 P w K mg base l_law_taken "_law_taken" ["_law_row", "_law_many"] sp_law_taken) {sp_law_pick : Sp} {l_law_pick : Nat} (O_law_pick : Ok1 P w K mg base l_law_pick "_law_pick" ["_law_row", "_law_things"] sp_law_pick) {sp_law_part : Sp} {l_law_part : Nat} (O_law_part : Ok1 P w K mg base l_law_part "_law_part" ["_law_row", "_law_p", "_law_many"] sp_law_part) {spSelf : Sp} {l_self : Nat} (OSelf : Ok1 P w K mg base l_self "_law_rule" ["_law_row", "_law_p", "_law_many", "_law_deep"] spSelf) {k : Nat} (h_law_taken : l_law_taken ≤ k) (h_law_pick : l_law_pick ≤ k) (h_law_part : l_law_part ≤ k) (h_self : l_self ≤ k) {sp : Sp} (len : ∀ vs H Q E, sp vs H Q E → vs.length = 4)
    (read : ∀ vs H Q E, sp vs H Q E → t_law_rule K sp_law_taken sp_law_pick sp_law_part spSelf ⟨fun _ H' => Q .non H', Q, fun _ _ => False, fun _ _ => False⟩ (start n_law_rule vs) H) : Ok1 P w K mg base (k + 1) "_law_rule" ["_law_row", "_law_p", "_law_many", "_law_deep"] sp :=
  T.ok (d := d_law_rule) 43 rfl sc_law_rule (fun _ _ _ _ _ _ us hl => match us, hl with | [_, _, _, _], _ => rfl) len fun cdv A outer s H vs Q E hr h => ⟨_, der_law_rule T O_law_taken O_law_pick O_law_part OSelf hr h_law_taken h_law_pick h_law_part h_self, read vs H Q E h⟩

end
end K10

set_option Elab.async false
set_option linter.all false
set_option maxRecDepth 100000
set_option maxHeartbeats 4000000
/-! derivations -/
namespace K10
open PySem PySem.Spec PyProof.Rows L2 Evl
section
variable {P : Program} {w : World} {K : PySem.W.Frag} {mg : Str → Option Value} {base : Heap}

abbrev n_law_value : List Str := ["_law_p", "_law_rule_here", "_law_point", "_law_one", "_law_other", "_law_place"]
theorem sc_law_value : FnScope n_law_value ["_law_p", "_law_rule_here", "_law_point"] (defScope s_law_value) := ⟨rfl, rfl, rfl, by decide +kernel, rfl, by decide +kernel, by decide +kernel⟩
def t_law_value (K : PySem.W.Frag) (sp_law_spread spSelf : Sp) : TS :=
    (tSeq (tIfS (tTest (tOp rEq (tOp (rIx K) (tVar 1) (tC (.int 0))) (tC (.str "number")))) (tRet (tOp (rIx K) (tVar 1) (tC (.int 1)))) tNext)
    (tSeq (tIfS (tTest (tOp rEq (tOp (rIx K) (tVar 1) (tC (.int 0))) (tC (.str "name")))) (tRet (tOp (rIx K) (tVar 2) (tOp (rIx K) (tVar 1) (tC (.int 1))))) tNext)
    (tSeq (tIfS (tTest (tOp rEq (tOp (rIx K) (tVar 1) (tC (.int 0))) (tC (.str "table")))) (tRet (tCall sp_law_spread [] E0 (tCons (tVar 0) (tCons (tOp (rIx K) (tVar 1) (tC (.int 1))) (tCons (tLc (iTup K (tOp (rIx K) (tVar 1) (tC (.int 2)))) (gName 5) tYes (tCall spSelf [] E0 (tCons (tVar 0) (tCons (tVar 5) (tCons (tVar 2) tNil)))) [5]) tNil))))) tNext)
    (tSeq (tPar 3 4 (tCons (tCall spSelf [] E0 (tCons (tVar 0) (tCons (tOp (rIx K) (tVar 1) (tC (.int 1))) (tCons (tVar 2) tNil)))) (tCons (tCall spSelf [] E0 (tCons (tVar 0) (tCons (tOp (rIx K) (tVar 1) (tC (.int 2))) (tCons (tVar 2) tNil)))) tNil)))
    (tRet (tOp rModI (tIf (tTest (tOp rEq (tOp (rIx K) (tVar 1) (tC (.int 0))) (tC (.str "plus")))) (tOp rAddI (tVar 3) (tVar 4)) (tIf (tTest (tOp rEq (tOp (rIx K) (tVar 1) (tC (.int 0))) (tC (.str "minus")))) (tOp rSubI (tVar 3) (tVar 4)) (tOp rMulI (tVar 3) (tVar 4)))) (tVar 0)))))))
theorem der_law_value (T : Top K mg) {sp_law_spread : Sp} {l_law_spread : Nat} (O_law_spread : Ok1 P w K mg base l_law_spread "_law_spread" ["_law_p", "_law_table_here", "_law_point"] sp_law_spread) {spSelf : Sp} {l_self : Nat} (OSelf : Ok1 P w K mg base l_self "_law_value" ["_law_p", "_law_rule_here", "_law_point"] spSelf) {cdv : Value} {A : Around} {outer : List Env} {s : Shared} {H : Hp} {E : XK} {j : Nat} (hr : Room j (A.deeper (envOfC "_law_value" (defScope s_law_value) s.heap.objs.size (He.ga K "_law_value") cdv))) (h_law_spread : l_law_spread ≤ j) (h_self : l_self ≤ j) :
    PSs (cxOf CX0 P w K mg base n_law_value "_law_value" (defScope s_law_value) (He.ga K "_law_value") cdv A outer s H E).nox (defBody s_law_value) (t_law_value K sp_law_spread spSelf) :=
  (pss_cons (ps_if (pt_cmpR op_eq (pe_ix ix_seq (pv 1) pe_int (fun _ _ => rfl)) pe_str (nomark _)) (pss_one (ps_ret (pe_ix ix_seq (pv 1) pe_int (fun _ _ => rfl)))) pss_nil)
    (pss_cons (ps_if (pt_cmpR op_eq (pe_ix ix_seq (pv 1) pe_int (fun _ _ => rfl)) pe_str (nomark _)) (pss_one (ps_ret (pe_ix ix_seq (pv 2) (pe_ix ix_seq (pv 1) pe_int (fun _ _ => rfl)) (fun _ _ => rfl)))) pss_nil)
    (pss_cons (ps_if (pt_cmpR op_eq (pe_ix ix_seq (pv 1) pe_int (fun _ _ => rfl)) pe_str (nomark _)) (pss_one (ps_ret (pe_callO O_law_spread hr (by omega) (by rfl) (pa_cons (pv 0) (pa_cons (pe_ix ix_seq (pv 1) pe_int (fun _ _ => rfl)) (pa_cons (pe_lc (own := [("_law_place", 5)]) (g := (gName 5)) (tt := tYes) (by rfl) sc_law_value.nd (pi_tup (pe_ix ix_seq (pv 1) pe_int (fun _ _ => rfl))) (blkOk_by (own := [("_law_place", 5)]) (N := n_law_value) (sc := defScope s_law_value) (by decide +kernel)) (fun _ _ _ _ _ => (pg_name (i := 5) sc_law_value.nd rfl (by first | exact Or.inl rfl | exact Or.inr rfl))) (fun _ _ _ _ _ => pts_nil) (fun _ _ _ _ _ => (pe_callO OSelf hr (by omega) (by rfl) (pa_cons (pv 0) (pa_cons (pv 5) (pa_cons (pv 2) pa_nil)))))) pa_nil)))))) pss_nil)
    (pss_cons (ps_par (i := 3) (j := 4) (by rfl) sc_law_value.nd rfl rfl (by decide) rfl rfl (pa_cons (pe_callO OSelf hr (by omega) (by rfl) (pa_cons (pv 0) (pa_cons (pe_ix ix_seq (pv 1) pe_int (fun _ _ => rfl)) (pa_cons (pv 2) pa_nil)))) (pa_cons (pe_callO OSelf hr (by omega) (by rfl) (pa_cons (pv 0) (pa_cons (pe_ix ix_seq (pv 1) pe_int (fun _ _ => rfl)) (pa_cons (pv 2) pa_nil)))) pa_nil)) (by rfl))
    (pss_one (ps_ret (pe_op op_mod (pe_ifExp (pt_cmpR op_eq (pe_ix ix_seq (pv 1) pe_int (fun _ _ => rfl)) pe_str (nomark _)) (pe_op op_add (pv 3) (pv 4)) (pe_ifExp (pt_cmpR op_eq (pe_ix ix_seq (pv 1) pe_int (fun _ _ => rfl)) pe_str (nomark _)) (pe_op op_sub (pv 3) (pv 4)) (pe_op op_mul (pv 3) (pv 4)))) (pv 0))))))))
theorem mk_law_value (T : Top K mg) {sp_law_spread : Sp} {l_law_spread : Nat} (O_law_spread : Ok1 P w K mg base l_law_spread "_law_spread" ["_law_p", "_law_table_here", "_law_point"] sp_law_spread) {spSelf : Sp} {l_self : Nat} (OSelf : Ok1 P w K mg base l_self "_law_value" ["_law_p", "_law_rule_here", "_law_point"] spSelf) {k : Nat} (h_law_spread : l_law_spread ≤ k) (h_self : l_self ≤ k) {sp : Sp} (len : ∀ vs H Q E, sp vs H Q E → vs.length = 3)
    (read : ∀ vs H Q E, sp vs H Q E → t_law_value K sp_law_spread spSelf ⟨fun _ H' => Q .non H', Q, fun _ _ => False, fun _ _ => False⟩ (start n_law_value vs) H) : Ok1 P w K mg base (k + 1) "_law_value" ["_law_p", "_law_rule_here", "_law_point"] sp :=
  T.ok (d := d_law_value) 44 rfl sc_law_value (fun _ _ _ _ _ _ us hl => match us, hl with | [_, _, _], _ => rfl) len fun cdv A outer s H vs Q E hr h => ⟨_, der_law_value T O_law_spread OSelf hr h_law_spread h_self, read vs H Q E h⟩

abbrev n_law_degree : List Str := ["_law_rule_here", "_law_name", "_law_one", "_law_other", "_law_place"]
theorem sc_law_degree : FnScope n_law_degree ["_law_rule_here", "_law_name"] (defScope s_law_degree) := ⟨rfl, rfl, rfl, by decide +kernel, rfl, by decide +kernel, by decide +kernel⟩
def t_law_degree (K : PySem.W.Frag) (spSelf : Sp) : TS :=
    (tSeq (tIfS (tTest (tOp (rIn K false) (tOp (rIx K) (tVar 0) (tC (.int 0))) (tTup (tCons (tC (.str "number")) (tCons (tC (.str "name")) tNil))))) (tRet (tCB rIntQ (tCons (tOp (rEqD K) (tVar 0) (tTup (tCons (tC (.str "name")) (tCons (tVar 1) tNil)))) tNil))) tNext)
    (tSeq (tIfS (tTest (tOp rEq (tOp (rIx K) (tVar 0) (tC (.int 0))) (tC (.str "table")))) (tRet (tCB (rSum K) (tCons (tLc (iTup K (tOp (rIx K) (tVar 0) (tC (.int 2)))) (gName 4) tYes (tCB rIntQ (tCons (tOp (rEqD K) (tVar 4) (tTup (tCons (tC (.str "name")) (tCons (tVar 1) tNil)))) tNil)) [4]) tNil))) tNext)
    (tSeq (tPar 2 3 (tCons (tCall spSelf [] E0 (tCons (tOp (rIx K) (tVar 0) (tC (.int 1))) (tCons (tVar 1) tNil))) (tCons (tCall spSelf [] E0 (tCons (tOp (rIx K) (tVar 0) (tC (.int 2))) (tCons (tVar 1) tNil))) tNil)))
    (tRet (tIf (tTest (tOp rEq (tOp (rIx K) (tVar 0) (tC (.int 0))) (tC (.str "times")))) (tOp rAddI (tVar 2) (tVar 3)) (tCB rMaxQ (tCons (tVar 2) (tCons (tVar 3) tNil))))))))
theorem der_law_degree (T : Top K mg)  {spSelf : Sp} {l_self : Nat} (OSelf : Ok1 P w K mg base l_self "_law_degree" ["_law_rule_here", "_law_name"] spSelf) {cdv : Value} {A : Around} {outer : List Env} {s : Shared} {H : Hp} {E : XK} {j : Nat} (hr : Room j (A.deeper (envOfC "_law_degree" (defScope s_law_degree) s.heap.objs.size (He.ga K "_law_degree") cdv)))  (h_self : l_self ≤ j) :
    PSs (cxOf CX0 P w K mg base n_law_degree "_law_degree" (defScope s_law_degree) (He.ga K "_law_degree") cdv A outer s H E).nox (defBody s_law_degree) (t_law_degree K spSelf) :=
  (pss_cons (ps_if (pt_cmpR op_in_seq (pe_ix ix_seq (pv 0) pe_int (fun _ _ => rfl)) (pe_tup (pa_cons pe_str (pa_cons pe_str pa_nil))) (by rfl)) (pss_one (ps_ret (pe_callTy c_int (by rfl) (T.free 13 _ rfl) (by decide +kernel) (pa_cons (pe_cmpR (op_eqD hr.units) (pv 0) (pe_tup (pa_cons pe_str (pa_cons (pv 1) pa_nil))) (nomark _)) pa_nil)))) pss_nil)
    (pss_cons (ps_if (pt_cmpR op_eq (pe_ix ix_seq (pv 0) pe_int (fun _ _ => rfl)) pe_str (nomark _)) (pss_one (ps_ret (pe_callB (cr_sum rfl) (by rfl) (T.free 6 _ rfl) (by decide +kernel) (pa_cons (pe_lc (own := [("_law_place", 4)]) (g := (gName 4)) (tt := tYes) (by rfl) sc_law_degree.nd (pi_tup (pe_ix ix_seq (pv 0) pe_int (fun _ _ => rfl))) (blkOk_by (own := [("_law_place", 4)]) (N := n_law_degree) (sc := defScope s_law_degree) (by decide +kernel)) (fun _ _ _ _ _ => (pg_name (i := 4) sc_law_degree.nd rfl (by first | exact Or.inl rfl | exact Or.inr rfl))) (fun _ _ _ _ _ => pts_nil) (fun _ _ _ _ _ => (pe_callTy c_int (by rfl) (T.free 13 _ rfl) (by decide +kernel) (pa_cons (pe_cmpR (op_eqD hr.units) (pv 4) (pe_tup (pa_cons pe_str (pa_cons (pv 1) pa_nil))) (nomark _)) pa_nil)))) pa_nil)))) pss_nil)
    (pss_cons (ps_par (i := 2) (j := 3) (by rfl) sc_law_degree.nd rfl rfl (by decide) rfl rfl (pa_cons (pe_callO OSelf hr (by omega) (by rfl) (pa_cons (pe_ix ix_seq (pv 0) pe_int (fun _ _ => rfl)) (pa_cons (pv 1) pa_nil))) (pa_cons (pe_callO OSelf hr (by omega) (by rfl) (pa_cons (pe_ix ix_seq (pv 0) pe_int (fun _ _ => rfl)) (pa_cons (pv 1) pa_nil))) pa_nil)) (by rfl))
    (pss_one (ps_ret (pe_ifExp (pt_cmpR op_eq (pe_ix ix_seq (pv 0) pe_int (fun _ _ => rfl)) pe_str (nomark _)) (pe_op op_add (pv 2) (pv 3)) (pe_callB (c_max rfl) (by rfl) (T.free 7 _ rfl) (by decide +kernel) (pa_cons (pv 2) (pa_cons (pv 3) pa_nil)))))))))
theorem mk_law_degree (T : Top K mg)  {spSelf : Sp} {l_self : Nat} (OSelf : Ok1 P w K mg base l_self "_law_degree" ["_law_rule_here", "_law_name"] spSelf) {k : Nat}  (h_self : l_self ≤ k) {sp : Sp} (len : ∀ vs H Q E, sp vs H Q E → vs.length = 2)
    (read : ∀ vs H Q E, sp vs H Q E → t_law_degree K spSelf ⟨fun _ H' => Q .non H', Q, fun _ _ => False, fun _ _ => False⟩ (start n_law_degree vs) H) : Ok1 P w K mg base (k + 1) "_law_degree" ["_law_rule_here", "_law_name"] sp :=
  T.ok (d := d_law_degree) 45 rfl sc_law_degree (fun _ _ _ _ _ _ us hl => match us, hl with | [_, _], _ => rfl) len fun cdv A outer s H vs Q E hr h => ⟨_, der_law_degree T OSelf hr h_self, read vs H Q E h⟩

abbrev n_law_degrees : List Str := ["_law_many", "_law_rule_here", "_law_name"]
theorem sc_law_degrees : FnScope n_law_degrees ["_law_many", "_law_rule_here"] (defScope s_law_degrees) := ⟨rfl, rfl, rfl, by decide +kernel, rfl, by decide +kernel, by decide +kernel⟩
def t_law_degrees (K : PySem.W.Frag) (sp_law_degree : Sp) : TS :=
    (tRet (tLc (iRng1 (tCons (tVar 0) tNil)) (gName 2) tYes (tCall sp_law_degree [] E0 (tCons (tVar 1) (tCons (tVar 2) tNil))) [2]))
theorem der_law_degrees (T : Top K mg) {sp_law_degree : Sp} {l_law_degree : Nat} (O_law_degree : Ok1 P w K mg base l_law_degree "_law_degree" ["_law_rule_here", "_law_name"] sp_law_degree) {cdv : Value} {A : Around} {outer : List Env} {s : Shared} {H : Hp} {E : XK} {j : Nat} (hr : Room j (A.deeper (envOfC "_law_degrees" (defScope s_law_degrees) s.heap.objs.size (He.ga K "_law_degrees") cdv))) (h_law_degree : l_law_degree ≤ j) :
    PSs (cxOf CX0 P w K mg base n_law_degrees "_law_degrees" (defScope s_law_degrees) (He.ga K "_law_degrees") cdv A outer s H E).nox (defBody s_law_degrees) (t_law_degrees K sp_law_degree) :=
  (pss_one (ps_ret (pe_lc (own := [("_law_name", 2)]) (g := (gName 2)) (tt := tYes) (by rfl) sc_law_degrees.nd (pi_range1 (by rfl) (T.free 9 _ rfl) (pa_cons (pv 0) pa_nil)) (blkOk_by (own := [("_law_name", 2)]) (N := n_law_degrees) (sc := defScope s_law_degrees) (by decide +kernel)) (fun _ _ _ _ _ => (pg_name (i := 2) sc_law_degrees.nd rfl (by first | exact Or.inl rfl | exact Or.inr rfl))) (fun _ _ _ _ _ => pts_nil) (fun _ _ _ _ _ => (pe_callO O_law_degree hr (by omega) (by rfl) (pa_cons (pv 1) (pa_cons (pv 2) pa_nil)))))))
theorem mk_law_degrees (T : Top K mg) {sp_law_degree : Sp} {l_law_degree : Nat} (O_law_degree : Ok1 P w K mg base l_law_degree "_law_degree" ["_law_rule_here", "_law_name"] sp_law_degree) {k : Nat} (h_law_degree : l_law_degree ≤ k) {sp : Sp} (len : ∀ vs H Q E, sp vs H Q E → vs.length = 2)
    (read : ∀ vs H Q E, sp vs H Q E → t_law_degrees K sp_law_degree ⟨fun _ H' => Q .non H', Q, fun _ _ => False, fun _ _ => False⟩ (start n_law_degrees vs) H) : Ok1 P w K mg base (k + 1) "_law_degrees" ["_law_many", "_law_rule_here"] sp :=
  T.ok (d := d_law_degrees) 46 rfl sc_law_degrees (fun _ _ _ _ _ _ us hl => match us, hl with | [_, _], _ => rfl) len fun cdv A outer s H vs Q E hr h => ⟨_, der_law_degrees T O_law_degree hr h_law_degree, read vs H Q E h⟩

abbrev n_law_total : List Str := ["_law_p", "_law_many", "_law_rule_here", "_law_ahead", "_law_rest", "_law_index"]
theorem sc_law_total : FnScope n_law_total ["_law_p", "_law_many", "_law_rule_here", "_law_ahead"] (defScope s_law_total) := ⟨rfl, rfl, rfl, by decide +kernel, rfl, by decide +kernel, by decide +kernel⟩
def t_law_total (K : PySem.W.Frag) (sp_law_bits sp_law_value : Sp) : TS :=
    (tSeq (tAsg (tOp rSubI (tVar 1) (tCB (rLenQ K) (tCons (tVar 3) tNil))) (gName 4))
    (tRet (tOp rModI (tCB (rSum K) (tCons (tLc (iRng1 (tCons (tOp rShlI (tC (.int 1)) (tVar 4)) tNil)) (gName 5) tYes (tCall sp_law_value [] E0 (tCons (tVar 0) (tCons (tVar 2) (tCons (tOp (rCatA K) (tVar 3) (tCall sp_law_bits [] E0 (tCons (tVar 4) (tCons (tVar 5) tNil)))) tNil)))) [5]) tNil)) (tVar 0))))
theorem der_law_total (T : Top K mg) {sp_law_bits : Sp} {l_law_bits : Nat} (O_law_bits : Ok1 P w K mg base l_law_bits "_law_bits" ["_law_many", "_law_index"] sp_law_bits) {sp_law_value : Sp} {l_law_value : Nat} (O_law_value : Ok1 P w K mg base l_law_value "_law_value" ["_law_p", "_law_rule_here", "_law_point"] sp_law_value) {cdv : Value} {A : Around} {outer : List Env} {s : Shared} {H : Hp} {E : XK} {j : Nat} (hr : Room j (A.deeper (envOfC "_law_total" (defScope s_law_total) s.heap.objs.size (He.ga K "_law_total") cdv))) (h_law_bits : l_law_bits ≤ j) (h_law_value : l_law_value ≤ j) :
    PSs (cxOf CX0 P w K mg base n_law_total "_law_total" (defScope s_law_total) (He.ga K "_law_total") cdv A outer s H E).nox (defBody s_law_total) (t_law_total K sp_law_bits sp_law_value) :=
  (pss_cons (ps_set (i := 4) sc_law_total.nd rfl (Or.inr rfl) (pe_op op_sub (pv 1) (pe_callB c_len (by rfl) (T.free 1 _ rfl) (by decide +kernel) (pa_cons (pv 3) pa_nil))))
    (pss_one (ps_ret (pe_op op_mod (pe_callB (cr_sum rfl) (by rfl) (T.free 6 _ rfl) (by decide +kernel) (pa_cons (pe_lc (own := [("_law_index", 5)]) (g := (gName 5)) (tt := tYes) (by rfl) sc_law_total.nd (pi_range1 (by rfl) (T.free 9 _ rfl) (pa_cons (pe_op op_shl pe_int (pv 4)) pa_nil)) (blkOk_by (own := [("_law_index", 5)]) (N := n_law_total) (sc := defScope s_law_total) (by decide +kernel)) (fun _ _ _ _ _ => (pg_name (i := 5) sc_law_total.nd rfl (by first | exact Or.inl rfl | exact Or.inr rfl))) (fun _ _ _ _ _ => pts_nil) (fun _ _ _ _ _ => (pe_callO O_law_value hr (by omega) (by rfl) (pa_cons (pv 0) (pa_cons (pv 2) (pa_cons (pe_op op_catA (pv 3) (pe_callO O_law_bits hr (by omega) (by rfl) (pa_cons (pv 4) (pa_cons (pv 5) pa_nil)))) pa_nil)))))) pa_nil)) (pv 0)))))
theorem mk_law_total (T : Top K mg) {sp_law_bits : Sp} {l_law_bits : Nat} (O_law_bits : Ok1 P w K mg base l_law_bits "_law_bits" ["_law_many", "_law_index"] sp_law_bits) {sp_law_value : Sp} {l_law_value : Nat} (O_law_value : Ok1 P w K mg base l_law_value "_law_value" ["_law_p", "_law_rule_here", "_law_point"] sp_law_value) {k : Nat} (h_law_bits : l_law_bits ≤ k) (h_law_value : l_law_value ≤ k) {sp : Sp} (len : ∀ vs H Q E, sp vs H Q E → vs.length = 4)
    (read : ∀ vs H Q E, sp vs H Q E → t_law_total K sp_law_bits sp_law_value ⟨fun _ H' => Q .non H', Q, fun _ _ => False, fun _ _ => False⟩ (start n_law_total vs) H) : Ok1 P w K mg base (k + 1) "_law_total" ["_law_p", "_law_many", "_law_rule_here", "_law_ahead"] sp :=
  T.ok (d := d_law_total) 47 rfl sc_law_total (fun _ _ _ _ _ _ us hl => match us, hl with | [_, _, _, _], _ => rfl) len fun cdv A outer s H vs Q E hr h => ⟨_, der_law_total T O_law_bits O_law_value hr h_law_bits h_law_value, read vs H Q E h⟩

abbrev n_law_through : List Str := ["_law_p", "_law_values", "_law_found", "_law_at_here", "_law_value_here", "_law_part_here", "_law_under", "_law_place", "_law_over", "_law_k"]
theorem sc_law_through : FnScope n_law_through ["_law_p", "_law_values"] (defScope s_law_through) := ⟨rfl, rfl, rfl, by decide +kernel, rfl, by decide +kernel, by decide +kernel⟩
def t_law_through (K : PySem.W.Frag) (sp_law_cut sp_law_inverse : Sp) : TS :=
    (tSeq (tAsg (tOp rRep (tLst (tCons (tC (.int 0)) tNil)) (tCB (rLenQ K) (tCons (tVar 1) tNil))) (gName 2))
    (tSeq (tFor (iEnum K (tCons (tVar 1) tNil)) (gTup K 2 (gCons (gName 3) (gCons (gName 4) gNil))) (tSeq (tAsg (tTup (tCons (tLst (tCons (tC (.int 1)) tNil)) (tCons (tC (.int 1)) tNil))) (gTup K 2 (gCons (gName 5) (gCons (gName 6) gNil))))
    (tSeq (tFor (iRng1 (tCons (tCB (rLenQ K) (tCons (tVar 1) tNil)) tNil)) (gName 7) (tIfS (tB (tNeI (tVar 7) (tVar 3))) (tSeq (tAsg (tLc (iRng1 (tCons (tOp rAddI (tCB (rLenQ K) (tCons (tVar 5) tNil)) (tC (.int 1))) tNil)) (gName 9) tYes (tOp rModI (tOp rSubI (tIf (tB (tGt (tVar 9) (tC (.int 0)))) (tOp (rIx K) (tVar 5) (tOp rSubI (tVar 9) (tC (.int 1)))) (tC (.int 0))) (tOp rMulI (tVar 7) (tIf (tB (tLt (tVar 9) (tCB (rLenQ K) (tCons (tVar 5) tNil)))) (tOp (rIx K) (tVar 5) (tVar 9)) (tC (.int 0))))) (tVar 0)) [9]) (gName 5))
    (tAsg (tOp rModI (tOp rMulI (tVar 6) (tOp rSubI (tVar 3) (tVar 7))) (tVar 0)) (gName 6))) tNext))
    (tSeq (tAsg (tOp rModI (tOp rMulI (tVar 4) (tCall sp_law_inverse [] E0 (tCons (tVar 0) (tCons (tOp rModI (tVar 6) (tVar 0)) tNil)))) (tVar 0)) (gName 8))
    (tAsg (tLc (iRng1 (tCons (tCB (rLenQ K) (tCons (tVar 2) tNil)) tNil)) (gName 9) tYes (tOp rModI (tOp rAddI (tOp (rIx K) (tVar 2) (tVar 9)) (tOp rMulI (tOp (rIx K) (tVar 5) (tVar 9)) (tVar 8))) (tVar 0)) [9]) (gName 2))))))
    (tRet (tCall sp_law_cut [] E0 (tCons (tVar 2) tNil)))))
theorem der_law_through (T : Top K mg) {sp_law_cut : Sp} {l_law_cut : Nat} (O_law_cut : Ok1 P w K mg base l_law_cut "_law_cut" ["_law_numbers_here"] sp_law_cut) {sp_law_inverse : Sp} {l_law_inverse : Nat} (O_law_inverse : Ok1 P w K mg base l_law_inverse "_law_inverse" ["_law_p", "_law_number_here"] sp_law_inverse) {cdv : Value} {A : Around} {outer : List Env} {s : Shared} {H : Hp} {E : XK} {j : Nat} (hr : Room j (A.deeper (envOfC "_law_through" (defScope s_law_through) s.heap.objs.size (He.ga K "_law_through") cdv))) (h_law_cut : l_law_cut ≤ j) (h_law_inverse : l_law_inverse ≤ j) :
    PSs (cxOf CX0 P w K mg base n_law_through "_law_through" (defScope s_law_through) (He.ga K "_law_through") cdv A outer s H E).nox (defBody s_law_through) (t_law_through K sp_law_cut sp_law_inverse) :=
  (pss_cons (ps_set (i := 2) sc_law_through.nd rfl (Or.inr rfl) (pe_op op_rep (pe_lst (pa_cons pe_int pa_nil)) (pe_callB c_len (by rfl) (T.free 1 _ rfl) (by decide +kernel) (pa_cons (pv 1) pa_nil))))
    (pss_cons (ps_for PassesOwn.never rfl (pi_enum (by rfl) (T.free 12 _ rfl) (pa_cons (pv 1) pa_nil)) (pg_tup rfl (pgs_cons (pg_name (i := 3) sc_law_through.nd rfl (Or.inl rfl)) (pgs_cons (pg_name (i := 4) sc_law_through.nd rfl (Or.inl rfl)) pgs_nil))) (pss_cons (ps_asg (pe_tup (pa_cons (pe_lst (pa_cons pe_int pa_nil)) (pa_cons pe_int pa_nil))) (pg_tup rfl (pgs_cons (pg_name (i := 5) sc_law_through.nd rfl (Or.inr rfl)) (pgs_cons (pg_name (i := 6) sc_law_through.nd rfl (Or.inl rfl)) pgs_nil))))
    (pss_cons (ps_for PassesOwn.never rfl (pi_range1 (by rfl) (T.free 9 _ rfl) (pa_cons (pe_callB c_len (by rfl) (T.free 1 _ rfl) (by decide +kernel) (pa_cons (pv 1) pa_nil)) pa_nil)) (pg_name (i := 7) sc_law_through.nd rfl (Or.inr rfl)) (pss_one (ps_if (pt_cmp (pc_neI (pv 7) (pv 3))) (pss_cons (ps_set (i := 5) sc_law_through.nd rfl (Or.inr rfl) (pe_lc (own := [("_law_k", 9)]) (g := (gName 9)) (tt := tYes) (by rfl) sc_law_through.nd (pi_range1 (by rfl) (T.free 9 _ rfl) (pa_cons (pe_op op_add (pe_callB c_len (by rfl) (T.free 1 _ rfl) (by decide +kernel) (pa_cons (pv 5) pa_nil)) pe_int) pa_nil)) (blkOk_by (own := [("_law_k", 9)]) (N := n_law_through) (sc := defScope s_law_through) (by decide +kernel)) (fun _ _ _ _ _ => (pg_name (i := 9) sc_law_through.nd rfl (by first | exact Or.inl rfl | exact Or.inr rfl))) (fun _ _ _ _ _ => pts_nil) (fun _ _ _ _ _ => (pe_op op_mod (pe_op op_sub (pe_ifExp (pt_cmp (pc_gt (pv 9) pe_int)) (pe_ix ix_seq (pv 5) (pe_op op_sub (pv 9) pe_int) (fun _ _ => rfl)) pe_int) (pe_op op_mul (pv 7) (pe_ifExp (pt_cmp (pc_lt (pv 9) (pe_callB c_len (by rfl) (T.free 1 _ rfl) (by decide +kernel) (pa_cons (pv 5) pa_nil)))) (pe_ix ix_seq (pv 5) (pv 9) (fun _ _ => rfl)) pe_int))) (pv 0)))))
    (pss_one (ps_set (i := 6) sc_law_through.nd rfl (Or.inl rfl) (pe_op op_mod (pe_op op_mul (pv 6) (pe_op op_sub (pv 3) (pv 7))) (pv 0))))) pss_nil)))
    (pss_cons (ps_set (i := 8) sc_law_through.nd rfl (Or.inr rfl) (pe_op op_mod (pe_op op_mul (pv 4) (pe_callO O_law_inverse hr (by omega) (by rfl) (pa_cons (pv 0) (pa_cons (pe_op op_mod (pv 6) (pv 0)) pa_nil)))) (pv 0)))
    (pss_one (ps_set (i := 2) sc_law_through.nd rfl (Or.inr rfl) (pe_lc (own := [("_law_k", 9)]) (g := (gName 9)) (tt := tYes) (by rfl) sc_law_through.nd (pi_range1 (by rfl) (T.free 9 _ rfl) (pa_cons (pe_callB c_len (by rfl) (T.free 1 _ rfl) (by decide +kernel) (pa_cons (pv 2) pa_nil)) pa_nil)) (blkOk_by (own := [("_law_k", 9)]) (N := n_law_through) (sc := defScope s_law_through) (by decide +kernel)) (fun _ _ _ _ _ => (pg_name (i := 9) sc_law_through.nd rfl (by first | exact Or.inl rfl | exact Or.inr rfl))) (fun _ _ _ _ _ => pts_nil) (fun _ _ _ _ _ => (pe_op op_mod (pe_op op_add (pe_ix ix_seq (pv 2) (pv 9) (fun _ _ => rfl)) (pe_op op_mul (pe_ix ix_seq (pv 5) (pv 9) (fun _ _ => rfl)) (pv 8))) (pv 0))))))))))
    (pss_one (ps_ret (pe_callO O_law_cut hr (by omega) (by rfl) (pa_cons (pv 2) pa_nil))))))
theorem mk_law_through (T : Top K mg) {sp_law_cut : Sp} {l_law_cut : Nat} (O_law_cut : Ok1 P w K mg base l_law_cut "_law_cut" ["_law_numbers_here"] sp_law_cut) {sp_law_inverse : Sp} {l_law_inverse : Nat} (O_law_inverse : Ok1 P w K mg base l_law_inverse "_law_inverse" ["_law_p", "_law_number_here"] sp_law_inverse) {k : Nat} (h_law_cut : l_law_cut ≤ k) (h_law_inverse : l_law_inverse ≤ k) {sp : Sp} (len : ∀ vs H Q E, sp vs H Q E → vs.length = 2)
    (read : ∀ vs H Q E, sp vs H Q E → t_law_through K sp_law_cut sp_law_inverse ⟨fun _ H' => Q .non H', Q, fun _ _ => False, fun _ _ => False⟩ (start n_law_through vs) H) : Ok1 P w K mg base (k + 1) "_law_through" ["_law_p", "_law_values"] sp :=
  T.ok (d := d_law_through) 48 rfl sc_law_through (fun _ _ _ _ _ _ us hl => match us, hl with | [_, _], _ => rfl) len fun cdv A outer s H vs Q E hr h => ⟨_, der_law_through T O_law_cut O_law_inverse hr h_law_cut h_law_inverse, read vs H Q E h⟩

abbrev n_law_plain : List Str := ["_law_p", "_law_many", "_law_rule_here", "_law_draws", "_law_degree_here", "_law_place"]
theorem sc_law_plain : FnScope n_law_plain ["_law_p", "_law_many", "_law_rule_here", "_law_draws"] (defScope s_law_plain) := ⟨rfl, rfl, rfl, by decide +kernel, rfl, by decide +kernel, by decide +kernel⟩
def t_law_plain (K : PySem.W.Frag) (sp_law_degree sp_law_total sp_law_through : Sp) : TS :=
    (tSeq (tAsg (tCB rMinQ (tCons (tCall sp_law_degree [] E0 (tCons (tVar 2) (tCons (tCB (rLenQ K) (tCons (tVar 3) tNil)) tNil))) (tCons (tOp rSubI (tVar 0) (tC (.int 1))) tNil))) (gName 4))
    (tRet (tCall sp_law_through [] E0 (tCons (tVar 0) (tCons (tLc (iRng1 (tCons (tOp rAddI (tVar 4) (tC (.int 1))) tNil)) (gName 5) tYes (tCall sp_law_total [] E0 (tCons (tVar 0) (tCons (tVar 1) (tCons (tVar 2) (tCons (tOp (rCatA K) (tVar 3) (tTup (tCons (tVar 5) tNil))) tNil))))) [5]) tNil)))))
theorem der_law_plain (T : Top K mg) {sp_law_degree : Sp} {l_law_degree : Nat} (O_law_degree : Ok1 P w K mg base l_law_degree "_law_degree" ["_law_rule_here", "_law_name"] sp_law_degree) {sp_law_total : Sp} {l_law_total : Nat} (O_law_total : Ok1 P w K mg base l_law_total "_law_total" ["_law_p", "_law_many", "_law_rule_here", "_law_ahead"] sp_law_total) {sp_law_through : Sp} {l_law_through : Nat} (O_law_through : Ok1 P w K mg base l_law_through "_law_through" ["_law_p", "_law_values"] sp_law_through) {cdv : Value} {A : Around} {outer : List Env} {s : Shared} {H : Hp} {E : XK} {j : Nat} (hr : Room j (A.deeper (envOfC "_law_plain" (defScope s_law_plain) s.heap.objs.size (He.ga K "_law_plain") cdv))) (h_law_degree : l_law_degree ≤ j) (h_law_total : l_law_total ≤ j) (h_law_through : l_law_through ≤ j) :
    PSs (cxOf CX0 P w K mg base n_law_plain "_law_plain" (defScope s_law_plain) (He.ga K "_law_plain") cdv A outer s H E).nox (defBody s_law_plain) (t_law_plain K sp_law_degree sp_law_total sp_law_through) :=
  (pss_cons (ps_set (i := 4) sc_law_plain.nd rfl (Or.inl rfl) (pe_callB (c_min rfl) (by rfl) (T.free 8 _ rfl) (by decide +kernel) (pa_cons (pe_callO O_law_degree hr (by omega) (by rfl) (pa_cons (pv 2) (pa_cons (pe_callB c_len (by rfl) (T.free 1 _ rfl) (by decide +kernel) (pa_cons (pv 3) pa_nil)) pa_nil))) (pa_cons (pe_op op_sub (pv 0) pe_int) pa_nil))))
    (pss_one (ps_ret (pe_callO O_law_through hr (by omega) (by rfl) (pa_cons (pv 0) (pa_cons (pe_lc (own := [("_law_place", 5)]) (g := (gName 5)) (tt := tYes) (by rfl) sc_law_plain.nd (pi_range1 (by rfl) (T.free 9 _ rfl) (pa_cons (pe_op op_add (pv 4) pe_int) pa_nil)) (blkOk_by (own := [("_law_place", 5)]) (N := n_law_plain) (sc := defScope s_law_plain) (by decide +kernel)) (fun _ _ _ _ _ => (pg_name (i := 5) sc_law_plain.nd rfl (by first | exact Or.inl rfl | exact Or.inr rfl))) (fun _ _ _ _ _ => pts_nil) (fun _ _ _ _ _ => (pe_callO O_law_total hr (by omega) (by rfl) (pa_cons (pv 0) (pa_cons (pv 1) (pa_cons (pv 2) (pa_cons (pe_op op_catA (pv 3) (pe_tup (pa_cons (pv 5) pa_nil))) pa_nil))))))) pa_nil))))))
theorem mk_law_plain (T : Top K mg) {sp_law_degree : Sp} {l_law_degree : Nat} (O_law_degree : Ok1 P w K mg base l_law_degree "_law_degree" ["_law_rule_here", "_law_name"] sp_law_degree) {sp_law_total : Sp} {l_law_total : Nat} (O_law_total : Ok1 P w K mg base l_law_total "_law_total" ["_law_p", "_law_many", "_law_rule_here", "_law_ahead"] sp_law_total) {sp_law_through : Sp} {l_law_through : Nat} (O_law_through : Ok1 P w K mg base l_law_through "_law_through" ["_law_p", "_law_values"] sp_law_through) {k : Nat} (h_law_degree : l_law_degree ≤ k) (h_law_total : l_law_total ≤ k) (h_law_through : l_law_through ≤ k) {sp : Sp} (len : ∀ vs H Q E, sp vs H Q E → vs.length = 4)
    (read : ∀ vs H Q E, sp vs H Q E → t_law_plain K sp_law_degree sp_law_total sp_law_through ⟨fun _ H' => Q .non H', Q, fun _ _ => False, fun _ _ => False⟩ (start n_law_plain vs) H) : Ok1 P w K mg base (k + 1) "_law_plain" ["_law_p", "_law_many", "_law_rule_here", "_law_draws"] sp :=
  T.ok (d := d_law_plain) 49 rfl sc_law_plain (fun _ _ _ _ _ _ us hl => match us, hl with | [_, _, _, _], _ => rfl) len fun cdv A outer s H vs Q E hr h => ⟨_, der_law_plain T O_law_degree O_law_total O_law_through hr h_law_degree h_law_total h_law_through, read vs H Q E h⟩

abbrev n_law_plains : List Str := ["_law_p", "_law_many", "_law_rule_here", "_law_draws", "_law_at_here"]
theorem sc_law_plains : FnScope n_law_plains ["_law_p", "_law_many", "_law_rule_here", "_law_draws"] (defScope s_law_plains) := ⟨rfl, rfl, rfl, by decide +kernel, rfl, by decide +kernel, by decide +kernel⟩
def t_law_plains (K : PySem.W.Frag) (sp_law_plain : Sp) : TS :=
    (tRet (tLc (iRng1 (tCons (tVar 1) tNil)) (gName 4) tYes (tCall sp_law_plain [] E0 (tCons (tVar 0) (tCons (tVar 1) (tCons (tVar 2) (tCons (tCB (rTupQ K) (tCons (tSl (rSlA K) (tVar 3) tNoPart (tPart (tVar 4))) tNil)) tNil))))) [4]))
theorem der_law_plains (T : Top K mg) {sp_law_plain : Sp} {l_law_plain : Nat} (O_law_plain : Ok1 P w K mg base l_law_plain "_law_plain" ["_law_p", "_law_many", "_law_rule_here", "_law_draws"] sp_law_plain) {cdv : Value} {A : Around} {outer : List Env} {s : Shared} {H : Hp} {E : XK} {j : Nat} (hr : Room j (A.deeper (envOfC "_law_plains" (defScope s_law_plains) s.heap.objs.size (He.ga K "_law_plains") cdv))) (h_law_plain : l_law_plain ≤ j) :
    PSs (cxOf CX0 P w K mg base n_law_plains "_law_plains" (defScope s_law_plains) (He.ga K "_law_plains") cdv A outer s H E).nox (defBody s_law_plains) (t_law_plains K sp_law_plain) :=
  (pss_one (ps_ret (pe_lc (own := [("_law_at_here", 4)]) (g := (gName 4)) (tt := tYes) (by rfl) sc_law_plains.nd (pi_range1 (by rfl) (T.free 9 _ rfl) (pa_cons (pv 1) pa_nil)) (blkOk_by (own := [("_law_at_here", 4)]) (N := n_law_plains) (sc := defScope s_law_plains) (by decide +kernel)) (fun _ _ _ _ _ => (pg_name (i := 4) sc_law_plains.nd rfl (by first | exact Or.inl rfl | exact Or.inr rfl))) (fun _ _ _ _ _ => pts_nil) (fun _ _ _ _ _ => (pe_callO O_law_plain hr (by omega) (by rfl) (pa_cons (pv 0) (pa_cons (pv 1) (pa_cons (pv 2) (pa_cons (pe_callTy c_tuple (by rfl) (T.free 4 _ rfl) (by decide +kernel) (pa_cons (pe_slice sl_tupA (pv 3) po_none (po_some (pv 4))) pa_nil)) pa_nil)))))))))
theorem mk_law_plains (T : Top K mg) {sp_law_plain : Sp} {l_law_plain : Nat} (O_law_plain : Ok1 P w K mg base l_law_plain "_law_plain" ["_law_p", "_law_many", "_law_rule_here", "_law_draws"] sp_law_plain) {k : Nat} (h_law_plain : l_law_plain ≤ k) {sp : Sp} (len : ∀ vs H Q E, sp vs H Q E → vs.length = 4)
    (read : ∀ vs H Q E, sp vs H Q E → t_law_plains K sp_law_plain ⟨fun _ H' => Q .non H', Q, fun _ _ => False, fun _ _ => False⟩ (start n_law_plains vs) H) : Ok1 P w K mg base (k + 1) "_law_plains" ["_law_p", "_law_many", "_law_rule_here", "_law_draws"] sp :=
  T.ok (d := d_law_plains) 50 rfl sc_law_plains (fun _ _ _ _ _ _ us hl => match us, hl with | [_, _, _, _], _ => rfl) len fun cdv A outer s H vs Q E hr h => ⟨_, der_law_plains T O_law_plain hr h_law_plain, read vs H Q E h⟩

abbrev n_law_is_line : List Str := ["_law_p", "_law_value_here", "_law_one"]
theorem sc_law_is_line : FnScope n_law_is_line ["_law_p", "_law_value_here"] (defScope s_law_is_line) := ⟨rfl, rfl, rfl, by decide +kernel, rfl, by decide +kernel, by decide +kernel⟩
def t_law_is_line (K : PySem.W.Frag) : TS :=
    (tSeq (tIfS (tOr (tNot (tB (tCB (rIsi K) (tCons (tVar 1) (tCons (tC (.ty "tuple")) tNil))))) (tB (tGt (tCB (rLenQ K) (tCons (tVar 1) tNil)) (tC (.int 200))))) (tRet (tC (.bl false))) tNext)
    (tSeq (tIfS (tTest (tOp (rNeD K) (tLc (iTup K (tVar 1)) (gName 2) (tOr (tNot (tB (tCB (rIsi K) (tCons (tVar 2) (tCons (tC (.ty "int")) tNil))))) (tOr (tB (tCB (rIsi K) (tCons (tVar 2) (tCons (tC (.ty "bool")) tNil)))) (tNot (tTest (tChain rLeI rLtI (tC (.int 0)) (tVar 2) (tVar 0)))))) (tVar 2) [2]) (tLst tNil))) (tRet (tC (.bl false))) tNext)
    (tRet (tOrV (tOp (rEqD K) (tVar 1) (tTup tNil)) (tNeI (tOp (rIx K) (tVar 1) (tUn uNeg (tC (.int 1)))) (tC (.int 0)))))))
theorem der_law_is_line (T : Top K mg)  {cdv : Value} {A : Around} {outer : List Env} {s : Shared} {H : Hp} {E : XK} {j : Nat} (hr : Room j (A.deeper (envOfC "_law_is_line" (defScope s_law_is_line) s.heap.objs.size (He.ga K "_law_is_line") cdv)))  :
    PSs (cxOf CX0 P w K mg base n_law_is_line "_law_is_line" (defScope s_law_is_line) (He.ga K "_law_is_line") cdv A outer s H E).nox (defBody s_law_is_line) (t_law_is_line K) :=
  (pss_cons (ps_if (PW.pt (pw_or (pt_not (pt_val (pe_callB call_isi (by rfl) (T.free 0 _ rfl) (by decide +kernel) (pa_cons (pv 1) (pa_cons (pe_bltn (v := .ty "tuple") (by rfl) (T.free 4 _ rfl) (by decide +kernel) rfl) pa_nil))))) (pw_or1 (pt_cmp (pc_gt (pe_callB c_len (by rfl) (T.free 1 _ rfl) (by decide +kernel) (pa_cons (pv 1) pa_nil)) pe_int))))) (pss_one (ps_ret pe_bl)) pss_nil)
    (pss_cons (ps_if (pt_cmpR (op_neD hr.units) (pe_lc (own := [("_law_one", 2)]) (g := (gName 2)) (tt := (tOr (tNot (tB (tCB (rIsi K) (tCons (tVar 2) (tCons (tC (.ty "int")) tNil))))) (tOr (tB (tCB (rIsi K) (tCons (tVar 2) (tCons (tC (.ty "bool")) tNil)))) (tNot (tTest (tChain rLeI rLtI (tC (.int 0)) (tVar 2) (tVar 0))))))) (by rfl) sc_law_is_line.nd (pi_tup (pv 1)) (blkOk_by (own := [("_law_one", 2)]) (N := n_law_is_line) (sc := defScope s_law_is_line) (by decide +kernel)) (fun _ _ _ _ _ => (pg_name (i := 2) sc_law_is_line.nd rfl (by first | exact Or.inl rfl | exact Or.inr rfl))) (fun _ _ _ _ _ => (pts_one (PW.pt (pw_or (pt_not (pt_val (pe_callB call_isi (by rfl) (T.free 0 _ rfl) (by decide +kernel) (pa_cons (pv 2) (pa_cons (pe_bltn (v := .ty "int") (by rfl) (T.free 13 _ rfl) (by decide +kernel) rfl) pa_nil))))) (pw_or (pt_val (pe_callB call_isi (by rfl) (T.free 0 _ rfl) (by decide +kernel) (pa_cons (pv 2) (pa_cons (pe_bltn (v := .ty "bool") (by rfl) (T.free 17 _ rfl) (by decide +kernel) rfl) pa_nil)))) (pw_or1 (pt_not (pt_chain op_le op_lt pe_int (pv 2) (pv 0))))))))) (fun _ _ _ _ _ => (pv 2))) (pe_lst pa_nil) (nomark _)) (pss_one (ps_ret pe_bl)) pss_nil)
    (pss_one (ps_ret (pe_or (pe_cmpR (op_eqD hr.units) (pv 1) (pe_tup pa_nil) (nomark _)) (pe_one (pe_cmp (pc_neI (pe_ix ix_seq (pv 1) (pe_un un_neg pe_int) (fun _ _ => rfl)) pe_int))))))))
theorem mk_law_is_line (T : Top K mg)  {k : Nat}  {sp : Sp} (len : ∀ vs H Q E, sp vs H Q E → vs.length = 2)
    (read : ∀ vs H Q E, sp vs H Q E → t_law_is_line K ⟨fun _ H' => Q .non H', Q, fun _ _ => False, fun _ _ => False⟩ (start n_law_is_line vs) H) : Ok1 P w K mg base (k + 1) "_law_is_line" ["_law_p", "_law_value_here"] sp :=
  T.ok (d := d_law_is_line) 51 rfl sc_law_is_line (fun _ _ _ _ _ _ us hl => match us, hl with | [_, _], _ => rfl) len fun cdv A outer s H vs Q E hr h => ⟨_, der_law_is_line T  hr , read vs H Q E h⟩

abbrev n_law_judge : List Str := ["_law_told", "_law_lines", "_law_draws", "_law_p", "_law_many", "_law_rule_here", "_law_claim", "_law_so_far", "_law_at_here"]
theorem sc_law_judge : FnScope n_law_judge ["_law_told", "_law_lines", "_law_draws"] (defScope s_law_judge) := ⟨rfl, rfl, rfl, by decide +kernel, rfl, by decide +kernel, by decide +kernel⟩
def t_law_judge (K : PySem.W.Frag) (sp_law_at sp_law_value sp_law_degree sp_law_is_line : Sp) : TS :=
    (tSeq (tAsg (tVar 0) (gTup K 4 (gCons (gName 3) (gCons (gName 4) (gCons (gName 5) (gCons (gName 6) gNil))))))
    (tSeq (tAsg (tLst (tCons (tVar 6) tNil)) (gName 7))
    (tSeq (tIfS (tNot (tB (tCB (rIsiT K) (tCons (tVar 1) (tCons (tTup (tCons (tC (.ty "tuple")) (tCons (tC (.ty "list")) tNil))) tNil))))) (tRet (tTup (tCons (tTup (tCons (tC (.str "caught")) (tCons (tC (.int 0)) (tCons (tC (.str "line")) tNil)))) (tCons (tVar 7) tNil)))) tNext)
    (tSeq (tFor (iRng1 (tCons (tVar 4) tNil)) (gName 8) (tSeq (tIfS (tOr (tB (tGe (tVar 8) (tCB (rLenQ K) (tCons (tVar 1) tNil)))) (tNot (tB (tCall sp_law_is_line [] E0 (tCons (tVar 3) (tCons (tOp (rIx K) (tVar 1) (tVar 8)) tNil)))))) (tRet (tTup (tCons (tTup (tCons (tC (.str "caught")) (tCons (tVar 8) (tCons (tC (.str "line")) tNil)))) (tCons (tVar 7) tNil)))) tNext)
    (tSeq (tIfS (tB (tGt (tOp rSubI (tCB (rLenQ K) (tCons (tOp (rIx K) (tVar 1) (tVar 8)) tNil)) (tC (.int 1))) (tCall sp_law_degree [] E0 (tCons (tVar 5) (tCons (tVar 8) tNil))))) (tRet (tTup (tCons (tTup (tCons (tC (.str "caught")) (tCons (tVar 8) (tCons (tC (.str "degree")) tNil)))) (tCons (tVar 7) tNil)))) tNext)
    (tSeq (tIfS (tB (tNeI (tOp rModI (tOp rSubI (tOp rAddI (tCall sp_law_at [] E0 (tCons (tVar 3) (tCons (tOp (rIx K) (tVar 1) (tVar 8)) (tCons (tC (.int 0)) tNil)))) (tCall sp_law_at [] E0 (tCons (tVar 3) (tCons (tOp (rIx K) (tVar 1) (tVar 8)) (tCons (tC (.int 1)) tNil))))) (tOp (rIx K) (tVar 7) (tUn uNeg (tC (.int 1))))) (tVar 3)) (tC (.int 0)))) (tRet (tTup (tCons (tTup (tCons (tC (.str "caught")) (tCons (tVar 8) (tCons (tC (.str "halves")) tNil)))) (tCons (tVar 7) tNil)))) tNext)
    (tDrop (tBM K "list" rAppend (tVar 7) (tCons (tCall sp_law_at [] E0 (tCons (tVar 3) (tCons (tOp (rIx K) (tVar 1) (tVar 8)) (tCons (tOp (rIx K) (tVar 2) (tVar 8)) tNil)))) tNil)))))))
    (tSeq (tIfS (tB (tGt (tCB (rLenQ K) (tCons (tVar 1) tNil)) (tVar 4))) (tRet (tTup (tCons (tTup (tCons (tC (.str "caught")) (tCons (tVar 4) (tCons (tC (.str "line")) tNil)))) (tCons (tVar 7) tNil)))) tNext)
    (tSeq (tIfS (tB (tNeI (tCall sp_law_value [] E0 (tCons (tVar 3) (tCons (tVar 5) (tCons (tCB (rTupQ K) (tCons (tVar 2) tNil)) tNil)))) (tOp (rIx K) (tVar 7) (tUn uNeg (tC (.int 1)))))) (tRet (tTup (tCons (tTup (tCons (tC (.str "caught")) (tCons (tVar 4) (tCons (tC (.str "end")) tNil)))) (tCons (tVar 7) tNil)))) tNext)
    (tRet (tTup (tCons (tTup (tCons (tC (.str "passed")) tNil)) (tCons (tVar 7) tNil))))))))))
theorem der_law_judge (T : Top K mg) {sp_law_at : Sp} {l_law_at : Nat} (O_law_at : Ok1 P w K mg base l_law_at "_law_at" ["_law_p", "_law_line_here", "_law_place"] sp_law_at) {sp_law_value : Sp} {l_law_value : Nat} (O_law_value : Ok1 P w K mg base l_law_value "_law_value" ["_law_p", "_law_rule_here", "_law_point"] sp_law_value) {sp_law_degree : Sp} {l_law_degree : Nat} (O_law_degree : Ok1 P w K mg base l_law_degree "_law_degree" ["_law_rule_here", "_law_name"] sp_law_degree) {sp_law_is_line : Sp} {l_law_is_line : Nat} (O_law_is_line : Ok1 P w K mg base l_law_is_line "_law_is_line" ["_law_p", "_law_value_here"] sp_law_is_line) {cdv : Value} {A : Around} {outer : List Env} {s : Shared} {H : Hp} {E : XK} {j : Nat} (hr : Room j (A.deeper (envOfC "_law_judge" (defScope s_law_judge) s.heap.objs.size (He.ga K "_law_judge") cdv))) (h_law_at : l_law_at ≤ j) (h_law_value : l_law_value ≤ j) (h_law_degree : l_law_degree ≤ j) (h_law_is_line : l_law_is_line ≤ j) :
    PSs (cxOf CX0 P w K mg base n_law_judge "_law_judge" (defScope s_law_judge) (He.ga K "_law_judge") cdv A outer s H E).nox (defBody s_law_judge) (t_law_judge K sp_law_at sp_law_value sp_law_degree sp_law_is_line) :=
  (pss_cons (ps_asg (pv 0) (pg_tup rfl (pgs_cons (pg_name (i := 3) sc_law_judge.nd rfl (Or.inl rfl)) (pgs_cons (pg_name (i := 4) sc_law_judge.nd rfl (Or.inl rfl)) (pgs_cons (pg_name (i := 5) sc_law_judge.nd rfl (Or.inl rfl)) (pgs_cons (pg_name (i := 6) sc_law_judge.nd rfl (Or.inl rfl)) pgs_nil))))))
    (pss_cons (ps_set (i := 7) sc_law_judge.nd rfl (Or.inl rfl) (pe_lst (pa_cons (pv 6) pa_nil)))
    (pss_cons (ps_if (pt_not (pt_val (pe_callB call_isiT (by rfl) (T.free 0 _ rfl) (by decide +kernel) (pa_cons (pv 1) (pa_cons (pe_tup (pa_cons (pe_bltn (v := .ty "tuple") (by rfl) (T.free 4 _ rfl) (by decide +kernel) rfl) (pa_cons (pe_bltn (v := .ty "list") (by rfl) (T.free 5 _ rfl) (by decide +kernel) rfl) pa_nil))) pa_nil))))) (pss_one (ps_ret (pe_tup (pa_cons (pe_tup (pa_cons pe_str (pa_cons pe_int (pa_cons pe_str pa_nil)))) (pa_cons (pv 7) pa_nil))))) pss_nil)
    (pss_cons (ps_for PassesOwn.never rfl (pi_range1 (by rfl) (T.free 9 _ rfl) (pa_cons (pv 4) pa_nil)) (pg_name (i := 8) sc_law_judge.nd rfl (Or.inl rfl)) (pss_cons (ps_if (PW.pt (pw_or (pt_cmp (pc_ge (pv 8) (pe_callB c_len (by rfl) (T.free 1 _ rfl) (by decide +kernel) (pa_cons (pv 1) pa_nil)))) (pw_or1 (pt_not (pt_val (pe_callO O_law_is_line hr (by omega) (by rfl) (pa_cons (pv 3) (pa_cons (pe_ix ix_seq (pv 1) (pv 8) (fun _ _ => rfl)) pa_nil)))))))) (pss_one (ps_ret (pe_tup (pa_cons (pe_tup (pa_cons pe_str (pa_cons (pv 8) (pa_cons pe_str pa_nil)))) (pa_cons (pv 7) pa_nil))))) pss_nil)
    (pss_cons (ps_if (pt_cmp (pc_gt (pe_op op_sub (pe_callB c_len (by rfl) (T.free 1 _ rfl) (by decide +kernel) (pa_cons (pe_ix ix_seq (pv 1) (pv 8) (fun _ _ => rfl)) pa_nil)) pe_int) (pe_callO O_law_degree hr (by omega) (by rfl) (pa_cons (pv 5) (pa_cons (pv 8) pa_nil))))) (pss_one (ps_ret (pe_tup (pa_cons (pe_tup (pa_cons pe_str (pa_cons (pv 8) (pa_cons pe_str pa_nil)))) (pa_cons (pv 7) pa_nil))))) pss_nil)
    (pss_cons (ps_if (pt_cmp (pc_neI (pe_op op_mod (pe_op op_sub (pe_op op_add (pe_callO O_law_at hr (by omega) (by rfl) (pa_cons (pv 3) (pa_cons (pe_ix ix_seq (pv 1) (pv 8) (fun _ _ => rfl)) (pa_cons pe_int pa_nil)))) (pe_callO O_law_at hr (by omega) (by rfl) (pa_cons (pv 3) (pa_cons (pe_ix ix_seq (pv 1) (pv 8) (fun _ _ => rfl)) (pa_cons pe_int pa_nil))))) (pe_ix ix_seq (pv 7) (pe_un un_neg pe_int) (fun _ _ => rfl))) (pv 3)) pe_int)) (pss_one (ps_ret (pe_tup (pa_cons (pe_tup (pa_cons pe_str (pa_cons (pv 8) (pa_cons pe_str pa_nil)))) (pa_cons (pv 7) pa_nil))))) pss_nil)
    (pss_one (ps_expr (pe_bm PySem.F.plainAttrs_list PySem.F.slot_list_append PySem.F.type_list_append mt_append (pv 7) (pa_cons (pe_callO O_law_at hr (by omega) (by rfl) (pa_cons (pv 3) (pa_cons (pe_ix ix_seq (pv 1) (pv 8) (fun _ _ => rfl)) (pa_cons (pe_ix ix_seq (pv 2) (pv 8) (fun _ _ => rfl)) pa_nil)))) pa_nil))))))))
    (pss_cons (ps_if (pt_cmp (pc_gt (pe_callB c_len (by rfl) (T.free 1 _ rfl) (by decide +kernel) (pa_cons (pv 1) pa_nil)) (pv 4))) (pss_one (ps_ret (pe_tup (pa_cons (pe_tup (pa_cons pe_str (pa_cons (pv 4) (pa_cons pe_str pa_nil)))) (pa_cons (pv 7) pa_nil))))) pss_nil)
    (pss_cons (ps_if (pt_cmp (pc_neI (pe_callO O_law_value hr (by omega) (by rfl) (pa_cons (pv 3) (pa_cons (pv 5) (pa_cons (pe_callTy c_tuple (by rfl) (T.free 4 _ rfl) (by decide +kernel) (pa_cons (pv 2) pa_nil)) pa_nil)))) (pe_ix ix_seq (pv 7) (pe_un un_neg pe_int) (fun _ _ => rfl)))) (pss_one (ps_ret (pe_tup (pa_cons (pe_tup (pa_cons pe_str (pa_cons (pv 4) (pa_cons pe_str pa_nil)))) (pa_cons (pv 7) pa_nil))))) pss_nil)
    (pss_one (ps_ret (pe_tup (pa_cons (pe_tup (pa_cons pe_str pa_nil)) (pa_cons (pv 7) pa_nil)))))))))))
theorem mk_law_judge (T : Top K mg) {sp_law_at : Sp} {l_law_at : Nat} (O_law_at : Ok1 P w K mg base l_law_at "_law_at" ["_law_p", "_law_line_here", "_law_place"] sp_law_at) {sp_law_value : Sp} {l_law_value : Nat} (O_law_value : Ok1 P w K mg base l_law_value "_law_value" ["_law_p", "_law_rule_here", "_law_point"] sp_law_value) {sp_law_degree : Sp} {l_law_degree : Nat} (O_law_degree : Ok1 P w K mg base l_law_degree "_law_degree" ["_law_rule_here", "_law_name"] sp_law_degree) {sp_law_is_line : Sp} {l_law_is_line : Nat} (O_law_is_line : Ok1 P w K mg base l_law_is_line "_law_is_line" ["_law_p", "_law_value_here"] sp_law_is_line) {k : Nat} (h_law_at : l_law_at ≤ k) (h_law_value : l_law_value ≤ k) (h_law_degree : l_law_degree ≤ k) (h_law_is_line : l_law_is_line ≤ k) {sp : Sp} (len : ∀ vs H Q E, sp vs H Q E → vs.length = 3)
    (read : ∀ vs H Q E, sp vs H Q E → t_law_judge K sp_law_at sp_law_value sp_law_degree sp_law_is_line ⟨fun _ H' => Q .non H', Q, fun _ _ => False, fun _ _ => False⟩ (start n_law_judge vs) H) : Ok1 P w K mg base (k + 1) "_law_judge" ["_law_told", "_law_lines", "_law_draws"] sp :=
  T.ok (d := d_law_judge) 52 rfl sc_law_judge (fun _ _ _ _ _ _ us hl => match us, hl with | [_, _, _], _ => rfl) len fun cdv A outer s H vs Q E hr h => ⟨_, der_law_judge T O_law_at O_law_value O_law_degree O_law_is_line hr h_law_at h_law_value h_law_degree h_law_is_line, read vs H Q E h⟩

end
end K10

set_option Elab.async false
set_option linter.all false
set_option maxRecDepth 100000
set_option maxHeartbeats 4000000
/-! derivations -/
namespace K10
open PySem PySem.Spec PyProof.Rows L2 Evl
section
variable {P : Program} {w : World} {K : PySem.W.Frag} {mg : Str → Option Value} {base : Heap}

abbrev n_law_sum : List Str := ["_law_row", "_law_p", "_law_most", "_law_deep", "_law_many", "_law_rule_here", "_law_claim"]
theorem sc_law_sum : FnScope n_law_sum ["_law_row", "_law_p", "_law_most", "_law_deep"] (defScope s_law_sum) := ⟨rfl, rfl, rfl, by decide +kernel, rfl, by decide +kernel, by decide +kernel⟩
def t_law_sum (K : PySem.W.Frag) (sp_law_taken sp_law_rule sp_law_total : Sp) : TS :=
    (tSeq (tAsg (tCall sp_law_taken [] E0 (tCons (tVar 0) (tCons (tOp rAddI (tVar 2) (tC (.int 1))) tNil))) (gName 4))
    (tSeq (tAsg (tCall sp_law_rule [] E0 (tCons (tVar 0) (tCons (tVar 1) (tCons (tVar 4) (tCons (tVar 3) tNil))))) (gName 5))
    (tSeq (tAsg (tCall sp_law_total [] E0 (tCons (tVar 1) (tCons (tVar 4) (tCons (tVar 5) (tCons (tTup tNil) tNil))))) (gName 6))
    (tRet (tTup (tCons (tVar 1) (tCons (tVar 4) (tCons (tVar 5) (tCons (tIf (tB (tEqI (tCall sp_law_taken [] E0 (tCons (tVar 0) (tCons (tC (.int 2)) tNil))) (tC (.int 0)))) (tVar 6) (tOp rModI (tOp rAddI (tOp rAddI (tVar 6) (tC (.int 1))) (tCall sp_law_taken [] E0 (tCons (tVar 0) (tCons (tOp rSubI (tVar 1) (tC (.int 1))) tNil)))) (tVar 1))) tNil)))))))))
theorem der_law_sum (T : Top K mg) {sp_law_taken : Sp} {l_law_taken : Nat} (O_law_taken : Ok1 P w K mg base l_law_taken "_law_taken" ["_law_row", "_law_many"] sp_law_taken) {sp_law_rule : Sp} {l_law_rule : Nat} (O_law_rule : Ok1 P w K mg base l_law_rule "_law_rule" ["_law_row", "_law_p", "_law_many", "_law_deep"] sp_law_rule) {sp_law_total : Sp} {l_law_total : Nat} (O_law_total : Ok1 P w K mg base l_law_total "_law_total" ["_law_p", "_law_many", "_law_rule_here", "_law_ahead"] sp_law_total) {cdv : Value} {A : Around} {outer : List Env} {s : Shared} {H : Hp} {E : XK} {j : Nat} (hr : Room j (A.deeper (envOfC "_law_sum" (defScope s_law_sum) s.heap.objs.size (He.ga K "_law_sum") cdv))) (h_law_taken : l_law_taken ≤ j) (h_law_rule : l_law_rule ≤ j) (h_law_total : l_law_total ≤ j) :
    PSs (cxOf CX0 P w K mg base n_law_sum "_law_sum" (defScope s_law_sum) (He.ga K "_law_sum") cdv A outer s H E).nox (defBody s_law_sum) (t_law_sum K sp_law_taken sp_law_rule sp_law_total) :=
  (pss_cons (ps_set (i := 4) sc_law_sum.nd rfl (Or.inl rfl) (pe_callO O_law_taken hr (by omega) (by rfl) (pa_cons (pv 0) (pa_cons (pe_op op_add (pv 2) pe_int) pa_nil))))
    (pss_cons (ps_set (i := 5) sc_law_sum.nd rfl (Or.inl rfl) (pe_callO O_law_rule hr (by omega) (by rfl) (pa_cons (pv 0) (pa_cons (pv 1) (pa_cons (pv 4) (pa_cons (pv 3) pa_nil))))))
    (pss_cons (ps_set (i := 6) sc_law_sum.nd rfl (Or.inl rfl) (pe_callO O_law_total hr (by omega) (by rfl) (pa_cons (pv 1) (pa_cons (pv 4) (pa_cons (pv 5) (pa_cons (pe_tup pa_nil) pa_nil))))))
    (pss_one (ps_ret (pe_tup (pa_cons (pv 1) (pa_cons (pv 4) (pa_cons (pv 5) (pa_cons (pe_ifExp (pt_cmp (pc_eqI (pe_callO O_law_taken hr (by omega) (by rfl) (pa_cons (pv 0) (pa_cons pe_int pa_nil))) pe_int)) (pv 6) (pe_op op_mod (pe_op op_add (pe_op op_add (pv 6) pe_int) (pe_callO O_law_taken hr (by omega) (by rfl) (pa_cons (pv 0) (pa_cons (pe_op op_sub (pv 1) pe_int) pa_nil)))) (pv 1))) pa_nil))))))))))
theorem mk_law_sum (T : Top K mg) {sp_law_taken : Sp} {l_law_taken : Nat} (O_law_taken : Ok1 P w K mg base l_law_taken "_law_taken" ["_law_row", "_law_many"] sp_law_taken) {sp_law_rule : Sp} {l_law_rule : Nat} (O_law_rule : Ok1 P w K mg base l_law_rule "_law_rule" ["_law_row", "_law_p", "_law_many", "_law_deep"] sp_law_rule) {sp_law_total : Sp} {l_law_total : Nat} (O_law_total : Ok1 P w K mg base l_law_total "_law_total" ["_law_p", "_law_many", "_law_rule_here", "_law_ahead"] sp_law_total) {k : Nat} (h_law_taken : l_law_taken ≤ k) (h_law_rule : l_law_rule ≤ k) (h_law_total : l_law_total ≤ k) {sp : Sp} (len : ∀ vs H Q E, sp vs H Q E → vs.length = 4)
    (read : ∀ vs H Q E, sp vs H Q E → t_law_sum K sp_law_taken sp_law_rule sp_law_total ⟨fun _ H' => Q .non H', Q, fun _ _ => False, fun _ _ => False⟩ (start n_law_sum vs) H) : Ok1 P w K mg base (k + 1) "_law_sum" ["_law_row", "_law_p", "_law_most", "_law_deep"] sp :=
  T.ok (d := d_law_sum) 53 rfl sc_law_sum (fun _ _ _ _ _ _ us hl => match us, hl with | [_, _, _, _], _ => rfl) len fun cdv A outer s H vs Q E hr h => ⟨_, der_law_sum T O_law_taken O_law_rule O_law_total hr h_law_taken h_law_rule h_law_total, read vs H Q E h⟩

abbrev n_law_best : List Str := ["_law_p", "_law_plain_here", "_law_claim", "_law_degree_here", "_law_lack", "_law_way", "_law_place", "_law_scale", "_law_size", "_law_first", "_law_second", "_law_k"]
theorem sc_law_best : FnScope n_law_best ["_law_p", "_law_plain_here", "_law_claim", "_law_degree_here"] (defScope s_law_best) := ⟨rfl, rfl, rfl, by decide +kernel, rfl, by decide +kernel, by decide +kernel⟩
def t_law_best (K : PySem.W.Frag) (sp_law_cut sp_law_at sp_law_atL sp_law_inverse : Sp) : TS :=
    (tSeq (tAsg (tOp rModI (tOp rSubI (tOp rSubI (tVar 2) (tCall sp_law_at [] E0 (tCons (tVar 0) (tCons (tVar 1) (tCons (tC (.int 0)) tNil))))) (tCall sp_law_at [] E0 (tCons (tVar 0) (tCons (tVar 1) (tCons (tC (.int 1)) tNil))))) (tVar 0)) (gName 4))
    (tSeq (tIfS (tB (tEqI (tVar 4) (tC (.int 0)))) (tRet (tVar 1)) tNext)
    (tSeq (tAsg (tLst (tCons (tC (.int 1)) tNil)) (gName 5))
    (tSeq (tFor (iList K (tSl (rSlL K) (tIf (tB (tLt (tVar 0) (tC (.int 40)))) (tOp rCat (tLst (tCons (tC (.int 0)) tNil)) (tLstRg (tRg2 (tC (.int 2)) (tOp rAddI (tVar 0) (tC (.int 1)))))) (tOp rCat (tLst (tCons (tC (.int 0)) tNil)) (tLstRg (tRg2 (tC (.int 2)) (tC (.int 40)))))) tNoPart (tPart (tCB rMinQ (tCons (tVar 3) (tCons (tOp rSubI (tVar 0) (tC (.int 1))) tNil)))))) (gName 6) (tAsg (tLc (iRng1 (tCons (tOp rAddI (tCB (rLenQ K) (tCons (tVar 5) tNil)) (tC (.int 1))) tNil)) (gName 11) tYes (tOp rModI (tOp rSubI (tIf (tB (tGt (tVar 11) (tC (.int 0)))) (tOp (rIx K) (tVar 5) (tOp rSubI (tVar 11) (tC (.int 1)))) (tC (.int 0))) (tOp rMulI (tVar 6) (tIf (tB (tLt (tVar 11) (tCB (rLenQ K) (tCons (tVar 5) tNil)))) (tOp (rIx K) (tVar 5) (tVar 11)) (tC (.int 0))))) (tVar 0)) [11]) (gName 5)))
    (tSeq (tAsg (tOp rModI (tOp rMulI (tVar 4) (tCall sp_law_inverse [] E0 (tCons (tVar 0) (tCons (tOp rModI (tOp rAddI (tCall sp_law_atL [] E0 (tCons (tVar 0) (tCons (tVar 5) (tCons (tC (.int 0)) tNil)))) (tCall sp_law_atL [] E0 (tCons (tVar 0) (tCons (tVar 5) (tCons (tC (.int 1)) tNil))))) (tVar 0)) tNil)))) (tVar 0)) (gName 7))
    (tSeq (tAsg (tCB rMaxQ (tCons (tCB (rLenQ K) (tCons (tVar 5) tNil)) (tCons (tCB (rLenQ K) (tCons (tVar 1) tNil)) tNil))) (gName 8))
    (tSeq (tAsg (tTup (tCons (tOp rCat (tCB (rListQ K) (tCons (tVar 1) tNil)) (tOp rRep (tLst (tCons (tC (.int 0)) tNil)) (tOp rSubI (tVar 8) (tCB (rLenQ K) (tCons (tVar 1) tNil))))) (tCons (tOp rCat (tVar 5) (tOp rRep (tLst (tCons (tC (.int 0)) tNil)) (tOp rSubI (tVar 8) (tCB (rLenQ K) (tCons (tVar 5) tNil))))) tNil))) (gTup K 2 (gCons (gName 9) (gCons (gName 10) gNil))))
    (tRet (tCall sp_law_cut [] E0 (tCons (tLc (iRng1 (tCons (tVar 8) tNil)) (gName 11) tYes (tOp rModI (tOp rAddI (tOp (rIx K) (tVar 9) (tVar 11)) (tOp rMulI (tVar 7) (tOp (rIx K) (tVar 10) (tVar 11)))) (tVar 0)) [11]) tNil))))))))))
theorem der_law_best (T : Top K mg) {sp_law_cut : Sp} {l_law_cut : Nat} (O_law_cut : Ok1 P w K mg base l_law_cut "_law_cut" ["_law_numbers_here"] sp_law_cut) {sp_law_at : Sp} {l_law_at : Nat} (O_law_at : Ok1 P w K mg base l_law_at "_law_at" ["_law_p", "_law_line_here", "_law_place"] sp_law_at) {sp_law_atL : Sp} {l_law_atL : Nat} (O_law_atL : Ok1 P w K mg base l_law_atL "_law_at" ["_law_p", "_law_line_here", "_law_place"] sp_law_atL) {sp_law_inverse : Sp} {l_law_inverse : Nat} (O_law_inverse : Ok1 P w K mg base l_law_inverse "_law_inverse" ["_law_p", "_law_number_here"] sp_law_inverse) {cdv : Value} {A : Around} {outer : List Env} {s : Shared} {H : Hp} {E : XK} {j : Nat} (hr : Room j (A.deeper (envOfC "_law_best" (defScope s_law_best) s.heap.objs.size (He.ga K "_law_best") cdv))) (h_law_cut : l_law_cut ≤ j) (h_law_at : l_law_at ≤ j) (h_law_atL : l_law_atL ≤ j) (h_law_inverse : l_law_inverse ≤ j) :
    PSs (cxOf CX0 P w K mg base n_law_best "_law_best" (defScope s_law_best) (He.ga K "_law_best") cdv A outer s H E).nox (defBody s_law_best) (t_law_best K sp_law_cut sp_law_at sp_law_atL sp_law_inverse) :=
  (pss_cons (ps_set (i := 4) sc_law_best.nd rfl (Or.inl rfl) (pe_op op_mod (pe_op op_sub (pe_op op_sub (pv 2) (pe_callO O_law_at hr (by omega) (by rfl) (pa_cons (pv 0) (pa_cons (pv 1) (pa_cons pe_int pa_nil))))) (pe_callO O_law_at hr (by omega) (by rfl) (pa_cons (pv 0) (pa_cons (pv 1) (pa_cons pe_int pa_nil))))) (pv 0)))
    (pss_cons (ps_if (pt_cmp (pc_eqI (pv 4) pe_int)) (pss_one (ps_ret (pv 1))) pss_nil)
    (pss_cons (ps_set (i := 5) sc_law_best.nd rfl (Or.inr rfl) (pe_lst (pa_cons pe_int pa_nil)))
    (pss_cons (ps_for PassesOwn.never rfl (pi_list (pe_slice sl_list (pe_ifExp (pt_cmp (pc_lt (pv 0) pe_int)) (pe_op op_cat (pe_lst (pa_cons pe_int pa_nil)) (pe_listRg rfl (by rfl) (T.free 5 _ rfl) (prg_2 (by rfl) (T.free 9 _ rfl) pe_int (pe_op op_add (pv 0) pe_int)))) (pe_op op_cat (pe_lst (pa_cons pe_int pa_nil)) (pe_listRg rfl (by rfl) (T.free 5 _ rfl) (prg_2 (by rfl) (T.free 9 _ rfl) pe_int pe_int)))) po_none (po_some (pe_callB (c_min rfl) (by rfl) (T.free 8 _ rfl) (by decide +kernel) (pa_cons (pv 3) (pa_cons (pe_op op_sub (pv 0) pe_int) pa_nil)))))) (pg_name (i := 6) sc_law_best.nd rfl (Or.inr rfl)) (pss_one (ps_set (i := 5) sc_law_best.nd rfl (Or.inr rfl) (pe_lc (own := [("_law_k", 11)]) (g := (gName 11)) (tt := tYes) (by rfl) sc_law_best.nd (pi_range1 (by rfl) (T.free 9 _ rfl) (pa_cons (pe_op op_add (pe_callB c_len (by rfl) (T.free 1 _ rfl) (by decide +kernel) (pa_cons (pv 5) pa_nil)) pe_int) pa_nil)) (blkOk_by (own := [("_law_k", 11)]) (N := n_law_best) (sc := defScope s_law_best) (by decide +kernel)) (fun _ _ _ _ _ => (pg_name (i := 11) sc_law_best.nd rfl (by first | exact Or.inl rfl | exact Or.inr rfl))) (fun _ _ _ _ _ => pts_nil) (fun _ _ _ _ _ => (pe_op op_mod (pe_op op_sub (pe_ifExp (pt_cmp (pc_gt (pv 11) pe_int)) (pe_ix ix_seq (pv 5) (pe_op op_sub (pv 11) pe_int) (fun _ _ => rfl)) pe_int) (pe_op op_mul (pv 6) (pe_ifExp (pt_cmp (pc_lt (pv 11) (pe_callB c_len (by rfl) (T.free 1 _ rfl) (by decide +kernel) (pa_cons (pv 5) pa_nil)))) (pe_ix ix_seq (pv 5) (pv 11) (fun _ _ => rfl)) pe_int))) (pv 0)))))))
    (pss_cons (ps_set (i := 7) sc_law_best.nd rfl (Or.inr rfl) (pe_op op_mod (pe_op op_mul (pv 4) (pe_callO O_law_inverse hr (by omega) (by rfl) (pa_cons (pv 0) (pa_cons (pe_op op_mod (pe_op op_add (pe_callO O_law_atL hr (by omega) (by rfl) (pa_cons (pv 0) (pa_cons (pv 5) (pa_cons pe_int pa_nil)))) (pe_callO O_law_atL hr (by omega) (by rfl) (pa_cons (pv 0) (pa_cons (pv 5) (pa_cons pe_int pa_nil))))) (pv 0)) pa_nil)))) (pv 0)))
    (pss_cons (ps_set (i := 8) sc_law_best.nd rfl (Or.inl rfl) (pe_callB (c_max rfl) (by rfl) (T.free 7 _ rfl) (by decide +kernel) (pa_cons (pe_callB c_len (by rfl) (T.free 1 _ rfl) (by decide +kernel) (pa_cons (pv 5) pa_nil)) (pa_cons (pe_callB c_len (by rfl) (T.free 1 _ rfl) (by decide +kernel) (pa_cons (pv 1) pa_nil)) pa_nil))))
    (pss_cons (ps_asg (pe_tup (pa_cons (pe_op op_cat (pe_callTy c_list (by rfl) (T.free 5 _ rfl) (by decide +kernel) (pa_cons (pv 1) pa_nil)) (pe_op op_rep (pe_lst (pa_cons pe_int pa_nil)) (pe_op op_sub (pv 8) (pe_callB c_len (by rfl) (T.free 1 _ rfl) (by decide +kernel) (pa_cons (pv 1) pa_nil))))) (pa_cons (pe_op op_cat (pv 5) (pe_op op_rep (pe_lst (pa_cons pe_int pa_nil)) (pe_op op_sub (pv 8) (pe_callB c_len (by rfl) (T.free 1 _ rfl) (by decide +kernel) (pa_cons (pv 5) pa_nil))))) pa_nil))) (pg_tup rfl (pgs_cons (pg_name (i := 9) sc_law_best.nd rfl (Or.inr rfl)) (pgs_cons (pg_name (i := 10) sc_law_best.nd rfl (Or.inr rfl)) pgs_nil))))
    (pss_one (ps_ret (pe_callO O_law_cut hr (by omega) (by rfl) (pa_cons (pe_lc (own := [("_law_k", 11)]) (g := (gName 11)) (tt := tYes) (by rfl) sc_law_best.nd (pi_range1 (by rfl) (T.free 9 _ rfl) (pa_cons (pv 8) pa_nil)) (blkOk_by (own := [("_law_k", 11)]) (N := n_law_best) (sc := defScope s_law_best) (by decide +kernel)) (fun _ _ _ _ _ => (pg_name (i := 11) sc_law_best.nd rfl (by first | exact Or.inl rfl | exact Or.inr rfl))) (fun _ _ _ _ _ => pts_nil) (fun _ _ _ _ _ => (pe_op op_mod (pe_op op_add (pe_ix ix_seq (pv 9) (pv 11) (fun _ _ => rfl)) (pe_op op_mul (pv 7) (pe_ix ix_seq (pv 10) (pv 11) (fun _ _ => rfl)))) (pv 0)))) pa_nil)))))))))))
theorem mk_law_best (T : Top K mg) {sp_law_cut : Sp} {l_law_cut : Nat} (O_law_cut : Ok1 P w K mg base l_law_cut "_law_cut" ["_law_numbers_here"] sp_law_cut) {sp_law_at : Sp} {l_law_at : Nat} (O_law_at : Ok1 P w K mg base l_law_at "_law_at" ["_law_p", "_law_line_here", "_law_place"] sp_law_at) {sp_law_atL : Sp} {l_law_atL : Nat} (O_law_atL : Ok1 P w K mg base l_law_atL "_law_at" ["_law_p", "_law_line_here", "_law_place"] sp_law_atL) {sp_law_inverse : Sp} {l_law_inverse : Nat} (O_law_inverse : Ok1 P w K mg base l_law_inverse "_law_inverse" ["_law_p", "_law_number_here"] sp_law_inverse) {k : Nat} (h_law_cut : l_law_cut ≤ k) (h_law_at : l_law_at ≤ k) (h_law_atL : l_law_atL ≤ k) (h_law_inverse : l_law_inverse ≤ k) {sp : Sp} (len : ∀ vs H Q E, sp vs H Q E → vs.length = 4)
    (read : ∀ vs H Q E, sp vs H Q E → t_law_best K sp_law_cut sp_law_at sp_law_atL sp_law_inverse ⟨fun _ H' => Q .non H', Q, fun _ _ => False, fun _ _ => False⟩ (start n_law_best vs) H) : Ok1 P w K mg base (k + 1) "_law_best" ["_law_p", "_law_plain_here", "_law_claim", "_law_degree_here"] sp :=
  T.ok (d := d_law_best) 54 rfl sc_law_best (fun _ _ _ _ _ _ us hl => match us, hl with | [_, _, _, _], _ => rfl) len fun cdv A outer s H vs Q E hr h => ⟨_, der_law_best T O_law_cut O_law_at O_law_atL O_law_inverse hr h_law_cut h_law_at h_law_atL h_law_inverse, read vs H Q E h⟩

abbrev n_law_bent : List Str := ["_law_row", "_law_p", "_law_lines", "_law_degrees_here", "_law_way", "_law_found", "_law_at_here", "_law_size", "_law_claim"]
theorem sc_law_bent : FnScope n_law_bent ["_law_row", "_law_p", "_law_lines", "_law_degrees_here"] (defScope s_law_bent) := ⟨rfl, rfl, rfl, by decide +kernel, rfl, by decide +kernel, by decide +kernel⟩
def t_law_bent (K : PySem.W.Frag) (sp_law_taken sp_law_pick sp_law_numbers sp_law_cut sp_law_line sp_law_at sp_law_best : Sp) : TS :=
    (tSeq (tPar 4 5 (tCons (tCall sp_law_taken [] E0 (tCons (tVar 0) (tCons (tC (.int 12)) tNil))) (tCons (tCB (rListQ K) (tCons (tVar 2) tNil)) tNil)))
    (tSeq (tIfS (tB (tEqI (tVar 4) (tC (.int 0)))) (tRet (tCall sp_law_pick [] E0 (tCons (tVar 0) (tCons (tLst (tCons (tC .non) (tCons (tC (.str "x")) (tCons (tC (.int 3)) (tCons tDNewK (tCons (tTup tNil) (tCons (tLst tNil) tNil))))))) tNil)))) tNext)
    (tSeq (tIfS (tB (tEqI (tVar 4) (tC (.int 1)))) (tRet (tOp (rCatA K) (tCB (rTupQ K) (tCons (tVar 5) tNil)) (tTup (tCons (tCall sp_law_pick [] E0 (tCons (tVar 0) (tCons (tLst (tCons (tTup tNil) (tCons (tTup (tCons (tC (.int 1)) tNil)) (tCons (tC .non) tNil)))) tNil))) tNil)))) tNext)
    (tSeq (tIfS (tOr (tTest (tOp (rEqD K) (tVar 5) (tLst tNil))) (tB (tLt (tVar 4) (tC (.int 4))))) (tRet (tCall sp_law_pick [] E0 (tCons (tVar 0) (tCons (tLst (tCons (tCB (rTupQ K) (tCons (tVar 5) tNil)) (tCons (tVar 5) tNil))) tNil)))) tNext)
    (tSeq (tAsg (tCall sp_law_taken [] E0 (tCons (tVar 0) (tCons (tCB (rLenQ K) (tCons (tVar 5) tNil)) tNil))) (gName 6))
    (tSeq (tIfS (tB (tEqI (tVar 4) (tC (.int 4)))) (tRet (tCB (rTupQ K) (tCons (tSl (rSlL K) (tVar 5) tNoPart (tPart (tVar 6))) tNil))) tNext)
    (tSeq (tIfS (tB (tEqI (tVar 4) (tC (.int 5)))) (tAsg (tCall sp_law_pick [] E0 (tCons (tVar 0) (tCons (tLst (tCons (tC .non) (tCons (tLst (tCons (tC (.int 1)) tNil)) (tCons (tTup (tCons (tVar 1) tNil)) (tCons (tTup (tCons (tC (.int 1)) (tCons (tC (.int 0)) tNil))) (tCons (tTup (tCons (tC (.bl true)) tNil)) (tCons (tC (.str "x")) (tCons (tC (.int 3)) (tCons (tTup (tCons (tOp rSubI (tC (.int 0)) (tC (.int 1))) tNil)) (tCons tDNewK tNil)))))))))) tNil))) (gSub (tVar 5) (tVar 6) rSetL)) tNext)
    (tSeq (tIfS (tB (tEqI (tVar 4) (tC (.int 6)))) (tSeq (tAsg (tOp rAddI (tOp (rIx K) (tVar 3) (tVar 6)) (tC (.int 1))) (gName 7))
    (tAsg (tIf (tB (tLe (tCB (rLenQ K) (tCons (tOp (rIx K) (tVar 5) (tVar 6)) tNil)) (tVar 7))) (tOp (rCatA K) (tCall sp_law_cut [] E0 (tCons (tCall sp_law_numbers [] E0 (tCons (tVar 0) (tCons (tVar 1) (tCons (tVar 7) tNil)))) tNil)) (tTup (tCons (tC (.int 1)) tNil))) (tOp (rIx K) (tVar 5) (tVar 6))) (gSub (tVar 5) (tVar 6) rSetL))) tNext)
    (tSeq (tIfS (tTest (tOp (rIn K false) (tVar 4) (tTup (tCons (tC (.int 7)) (tCons (tC (.int 8)) tNil))))) (tAsg (tCall sp_law_line [] E0 (tCons (tVar 0) (tCons (tVar 1) (tCons (tOp rAddI (tOp (rIx K) (tVar 3) (tVar 6)) (tC (.int 1))) tNil)))) (gSub (tVar 5) (tVar 6) rSetL)) tNext)
    (tSeq (tIfS (tB (tGt (tVar 4) (tC (.int 8)))) (tSeq (tAsg (tOp rAddI (tCall sp_law_at [] E0 (tCons (tVar 1) (tCons (tOp (rIx K) (tVar 5) (tVar 6)) (tCons (tC (.int 0)) tNil)))) (tCall sp_law_at [] E0 (tCons (tVar 1) (tCons (tOp (rIx K) (tVar 5) (tVar 6)) (tCons (tC (.int 1)) tNil))))) (gName 8))
    (tAsg (tCall sp_law_best [] E0 (tCons (tVar 1) (tCons (tCall sp_law_line [] E0 (tCons (tVar 0) (tCons (tVar 1) (tCons (tOp rAddI (tOp (rIx K) (tVar 3) (tVar 6)) (tC (.int 1))) tNil)))) (tCons (tOp rModI (tVar 8) (tVar 1)) (tCons (tOp (rIx K) (tVar 3) (tVar 6)) tNil))))) (gSub (tVar 5) (tVar 6) rSetL))) tNext)
    (tRet (tCB (rTupQ K) (tCons (tVar 5) tNil)))))))))))))
theorem der_law_bent (T : Top K mg) {sp_law_taken : Sp} {l_law_taken : Nat} (O_law_taken : Ok1 P w K mg base l_law_taken "_law_taken" ["_law_row", "_law_many"] sp_law_taken) {sp_law_pick : Sp} {l_law_pick : Nat} (O_law_pick : Ok1 P w K mg base l_law_pick "_law_pick" ["_law_row", "_law_things"] sp_law_pick) {sp_law_numbers : Sp} {l_law_numbers : Nat} (O_law_numbers : Ok1 P w K mg base l_law_numbers "_law_numbers" ["_law_row", "_law_p", "_law_many"] sp_law_numbers) {sp_law_cut : Sp} {l_law_cut : Nat} (O_law_cut : Ok1 P w K mg base l_law_cut "_law_cut" ["_law_numbers_here"] sp_law_cut) {sp_law_line : Sp} {l_law_line : Nat} (O_law_line : Ok1 P w K mg base l_law_line "_law_line" ["_law_row", "_law_p", "_law_most"] sp_law_line) {sp_law_at : Sp} {l_law_at : Nat} (O_law_at : Ok1 P w K mg base l_law_at "_law_at" ["_law_p", "_law_line_here", "_law_place"] sp_law_at) {sp_law_best : Sp} {l_law_best : Nat} (O_law_best : Ok1 P w K mg base l_law_best "_law_best" ["_law_p", "_law_plain_here", "_law_claim", "_law_degree_here"] sp_law_best) {cdv : Value} {A : Around} {outer : List Env} {s : Shared} {H : Hp} {E : XK} {j : Nat} (hr : Room j (A.deeper (envOfC "_law_bent" (defScope s_law_bent) s.heap.objs.size (He.ga K "_law_bent") cdv))) (h_law_taken : l_law_taken ≤ j) (h_law_pick : l_law_pick ≤ j) (h_law_numbers : l_law_numbers ≤ j) (h_law_cut : l_law_cut ≤ j) (h_law_line : l_law_line ≤ j) (h_law_at : l_law_at ≤ j) (h_law_best : l_law_best ≤ j) :
    PSs (cxOf CX0 P w K mg base n_law_bent "_law_bent" (defScope s_law_bent) (He.ga K "_law_bent") cdv A outer s H E).nox (defBody s_law_bent) (t_law_bent K sp_law_taken sp_law_pick sp_law_numbers sp_law_cut sp_law_line sp_law_at sp_law_best) :=
  (pss_cons (ps_par (i := 4) (j := 5) (by rfl) sc_law_bent.nd rfl rfl (by decide) rfl rfl (pa_cons (pe_callO O_law_taken hr (by omega) (by rfl) (pa_cons (pv 0) (pa_cons pe_int pa_nil))) (pa_cons (pe_callTy c_list (by rfl) (T.free 5 _ rfl) (by decide +kernel) (pa_cons (pv 2) pa_nil)) pa_nil)) (by rfl))
    (pss_cons (ps_if (pt_cmp (pc_eqI (pv 4) pe_int)) (pss_one (ps_ret (pe_callO O_law_pick hr (by omega) (by rfl) (pa_cons (pv 0) (pa_cons (pe_lst (pa_cons pe_non (pa_cons pe_str (pa_cons pe_int (pa_cons pe_dnewK (pa_cons (pe_tup pa_nil) (pa_cons (pe_lst pa_nil) pa_nil))))))) pa_nil))))) pss_nil)
    (pss_cons (ps_if (pt_cmp (pc_eqI (pv 4) pe_int)) (pss_one (ps_ret (pe_op op_catA (pe_callTy c_tuple (by rfl) (T.free 4 _ rfl) (by decide +kernel) (pa_cons (pv 5) pa_nil)) (pe_tup (pa_cons (pe_callO O_law_pick hr (by omega) (by rfl) (pa_cons (pv 0) (pa_cons (pe_lst (pa_cons (pe_tup pa_nil) (pa_cons (pe_tup (pa_cons pe_int pa_nil)) (pa_cons pe_non pa_nil)))) pa_nil))) pa_nil))))) pss_nil)
    (pss_cons (ps_if (PW.pt (pw_or (pt_cmpR (op_eqD hr.units) (pv 5) (pe_lst pa_nil) (nomark _)) (pw_or1 (pt_cmp (pc_lt (pv 4) pe_int))))) (pss_one (ps_ret (pe_callO O_law_pick hr (by omega) (by rfl) (pa_cons (pv 0) (pa_cons (pe_lst (pa_cons (pe_callTy c_tuple (by rfl) (T.free 4 _ rfl) (by decide +kernel) (pa_cons (pv 5) pa_nil)) (pa_cons (pv 5) pa_nil))) pa_nil))))) pss_nil)
    (pss_cons (ps_set (i := 6) sc_law_bent.nd rfl (Or.inl rfl) (pe_callO O_law_taken hr (by omega) (by rfl) (pa_cons (pv 0) (pa_cons (pe_callB c_len (by rfl) (T.free 1 _ rfl) (by decide +kernel) (pa_cons (pv 5) pa_nil)) pa_nil))))
    (pss_cons (ps_if (pt_cmp (pc_eqI (pv 4) pe_int)) (pss_one (ps_ret (pe_callTy c_tuple (by rfl) (T.free 4 _ rfl) (by decide +kernel) (pa_cons (pe_slice sl_list (pv 5) po_none (po_some (pv 6))) pa_nil)))) pss_nil)
    (pss_cons (ps_if (pt_cmp (pc_eqI (pv 4) pe_int)) (pss_one (ps_asg (pe_callO O_law_pick hr (by omega) (by rfl) (pa_cons (pv 0) (pa_cons (pe_lst (pa_cons pe_non (pa_cons (pe_lst (pa_cons pe_int pa_nil)) (pa_cons (pe_tup (pa_cons (pv 1) pa_nil)) (pa_cons (pe_tup (pa_cons pe_int (pa_cons pe_int pa_nil))) (pa_cons (pe_tup (pa_cons pe_bl pa_nil)) (pa_cons pe_str (pa_cons pe_int (pa_cons (pe_tup (pa_cons (pe_op op_sub pe_int pe_int) pa_nil)) (pa_cons pe_dnewK pa_nil)))))))))) pa_nil))) (pg_sub (pv 5) (pv 6) set_list))) pss_nil)
    (pss_cons (ps_if (pt_cmp (pc_eqI (pv 4) pe_int)) (pss_cons (ps_set (i := 7) sc_law_bent.nd rfl (Or.inl rfl) (pe_op op_add (pe_ix ix_seq (pv 3) (pv 6) (fun _ _ => rfl)) pe_int))
    (pss_one (ps_asg (pe_ifExp (pt_cmp (pc_le (pe_callB c_len (by rfl) (T.free 1 _ rfl) (by decide +kernel) (pa_cons (pe_ix ix_seq (pv 5) (pv 6) (fun _ _ => rfl)) pa_nil)) (pv 7))) (pe_op op_catA (pe_callO O_law_cut hr (by omega) (by rfl) (pa_cons (pe_callO O_law_numbers hr (by omega) (by rfl) (pa_cons (pv 0) (pa_cons (pv 1) (pa_cons (pv 7) pa_nil)))) pa_nil)) (pe_tup (pa_cons pe_int pa_nil))) (pe_ix ix_seq (pv 5) (pv 6) (fun _ _ => rfl))) (pg_sub (pv 5) (pv 6) set_list)))) pss_nil)
    (pss_cons (ps_if (pt_cmpR op_in_seq (pv 4) (pe_tup (pa_cons pe_int (pa_cons pe_int pa_nil))) (by rfl)) (pss_one (ps_asg (pe_callO O_law_line hr (by omega) (by rfl) (pa_cons (pv 0) (pa_cons (pv 1) (pa_cons (pe_op op_add (pe_ix ix_seq (pv 3) (pv 6) (fun _ _ => rfl)) pe_int) pa_nil)))) (pg_sub (pv 5) (pv 6) set_list))) pss_nil)
    (pss_cons (ps_if (pt_cmp (pc_gt (pv 4) pe_int)) (pss_cons (ps_set (i := 8) sc_law_bent.nd rfl (Or.inl rfl) (pe_op op_add (pe_callO O_law_at hr (by omega) (by rfl) (pa_cons (pv 1) (pa_cons (pe_ix ix_seq (pv 5) (pv 6) (fun _ _ => rfl)) (pa_cons pe_int pa_nil)))) (pe_callO O_law_at hr (by omega) (by rfl) (pa_cons (pv 1) (pa_cons (pe_ix ix_seq (pv 5) (pv 6) (fun _ _ => rfl)) (pa_cons pe_int pa_nil))))))
    (pss_one (ps_asg (pe_callO O_law_best hr (by omega) (by rfl) (pa_cons (pv 1) (pa_cons (pe_callO O_law_line hr (by omega) (by rfl) (pa_cons (pv 0) (pa_cons (pv 1) (pa_cons (pe_op op_add (pe_ix ix_seq (pv 3) (pv 6) (fun _ _ => rfl)) pe_int) pa_nil)))) (pa_cons (pe_op op_mod (pv 8) (pv 1)) (pa_cons (pe_ix ix_seq (pv 3) (pv 6) (fun _ _ => rfl)) pa_nil))))) (pg_sub (pv 5) (pv 6) set_list)))) pss_nil)
    (pss_one (ps_ret (pe_callTy c_tuple (by rfl) (T.free 4 _ rfl) (by decide +kernel) (pa_cons (pv 5) pa_nil))))))))))))))
theorem mk_law_bent (T : Top K mg) {sp_law_taken : Sp} {l_law_taken : Nat} (O_law_taken : Ok1 P w K mg base l_law_taken "_law_taken" ["_law_row", "_law_many"] sp_law_taken) {sp_law_pick : Sp} {l_law_pick : Nat} (O_law_pick : Ok1 P w K mg base l_law_pick "_law_pick" ["_law_row", "_law_things"] sp_law_pick) {sp_law_numbers : Sp} {l_law_numbers : Nat} (O_law_numbers : Ok1 P w K mg base l_law_numbers "_law_numbers" ["_law_row", "_law_p", "_law_many"] sp_law_numbers) {sp_law_cut : Sp} {l_law_cut : Nat} (O_law_cut : Ok1 P w K mg base l_law_cut "_law_cut" ["_law_numbers_here"] sp_law_cut) {sp_law_line : Sp} {l_law_line : Nat} (O_law_line : Ok1 P w K mg base l_law_line "_law_line" ["_law_row", "_law_p", "_law_most"] sp_law_line) {sp_law_at : Sp} {l_law_at : Nat} (O_law_at : Ok1 P w K mg base l_law_at "_law_at" ["_law_p", "_law_line_here", "_law_place"] sp_law_at) {sp_law_best : Sp} {l_law_best : Nat} (O_law_best : Ok1 P w K mg base l_law_best "_law_best" ["_law_p", "_law_plain_here", "_law_claim", "_law_degree_here"] sp_law_best) {k : Nat} (h_law_taken : l_law_taken ≤ k) (h_law_pick : l_law_pick ≤ k) (h_law_numbers : l_law_numbers ≤ k) (h_law_cut : l_law_cut ≤ k) (h_law_line : l_law_line ≤ k) (h_law_at : l_law_at ≤ k) (h_law_best : l_law_best ≤ k) {sp : Sp} (len : ∀ vs H Q E, sp vs H Q E → vs.length = 4)
    (read : ∀ vs H Q E, sp vs H Q E → t_law_bent K sp_law_taken sp_law_pick sp_law_numbers sp_law_cut sp_law_line sp_law_at sp_law_best ⟨fun _ H' => Q .non H', Q, fun _ _ => False, fun _ _ => False⟩ (start n_law_bent vs) H) : Ok1 P w K mg base (k + 1) "_law_bent" ["_law_row", "_law_p", "_law_lines", "_law_degrees_here"] sp :=
  T.ok (d := d_law_bent) 55 rfl sc_law_bent (fun _ _ _ _ _ _ us hl => match us, hl with | [_, _, _, _], _ => rfl) len fun cdv A outer s H vs Q E hr h => ⟨_, der_law_bent T O_law_taken O_law_pick O_law_numbers O_law_cut O_law_line O_law_at O_law_best hr h_law_taken h_law_pick h_law_numbers h_law_cut h_law_line h_law_at h_law_best, read vs H Q E h⟩

abbrev n_law : List Str := ["_law_script", "_law_row", "_law_p", "_law_told", "_law_many", "_law_rule_here", "_law_draws", "_law_lines", "_law_turn", "_law_value_here", "_law_due", "_law_so_far", "_law_where"]
theorem sc_law : FnScope n_law ["_law_script"] (defScope s_law) := ⟨rfl, rfl, rfl, by decide +kernel, rfl, by decide +kernel, by decide +kernel⟩
def t_law (K : PySem.W.Frag) (sp_judged sp_claims sp_law_alike sp_law_prime sp_law_numbers sp_law_degrees sp_law_total sp_law_plains sp_law_judge sp_law_sum sp_law_bent : Sp) : TS :=
    (tSeq (tAsg (tLst (tCons (tVar 0) (tCons (tC (.int 0)) (tCons (tC (.int 5610)) (tCons (tC (.int 0)) tNil))))) (gName 1))
    (tSeq (tAsg (tCall sp_law_prime [] E0 (tCons (tVar 1) tNil)) (gName 2))
    (tSeq (tAsg (tCall sp_law_sum [] E0 (tCons (tVar 1) (tCons (tVar 2) (tCons (tC (.int 3)) (tCons (tC (.int 3)) tNil))))) (gName 3))
    (tSeq (tPar 4 5 (tCons (tOp (rIx K) (tVar 3) (tC (.int 1))) (tCons (tOp (rIx K) (tVar 3) (tC (.int 2))) tNil)))
    (tSeq (tAsg (tCall sp_law_numbers [] E0 (tCons (tVar 1) (tCons (tVar 2) (tCons (tVar 4) tNil)))) (gName 6))
    (tSeq (tAsg (tCall sp_law_plains [] E0 (tCons (tVar 2) (tCons (tVar 4) (tCons (tVar 5) (tCons (tVar 6) tNil))))) (gName 7))
    (tSeq (tFor (iRng1 (tCons (tC (.int 4)) tNil)) (gName 8) (tSeq (tAsg (tCall sp_law_bent [] E0 (tCons (tVar 1) (tCons (tVar 2) (tCons (tVar 7) (tCons (tCall sp_law_degrees [] E0 (tCons (tVar 4) (tCons (tVar 5) tNil))) tNil))))) (gName 9))
    (tSeq (tAsg (tCall sp_law_judge [] E0 (tCons (tVar 3) (tCons (tVar 9) (tCons (tVar 6) tNil)))) (gTup K 2 (gCons (gName 10) (gCons (gName 11) gNil))))
    (tSeq (tIfS (tNot (tB (tCall sp_law_alike [] E0 (tCons (tCall sp_judged [] E0 (tCons (tVar 3) (tCons (tVar 9) (tCons (tVar 6) tNil)))) (tCons (tVar 10) tNil))))) (tRet (tC (.bl false))) tNext)
    (tIfS (tNot (tB (tCall sp_law_alike [] E0 (tCons (tCall sp_claims [] E0 (tCons (tVar 3) (tCons (tVar 9) (tCons (tVar 6) tNil)))) (tCons (tCB (rTupQ K) (tCons (tVar 11) tNil)) tNil))))) (tRet (tC (.bl false))) tNext)))))
    (tSeq (tIfS (tB (tNeI (tOp (rIx K) (tVar 3) (tC (.int 3))) (tCall sp_law_total [] E0 (tCons (tVar 2) (tCons (tVar 4) (tCons (tVar 5) (tCons (tTup tNil) tNil))))))) (tSeq (tAsg (tCall sp_judged [] E0 (tCons (tVar 3) (tCons (tVar 7) (tCons (tVar 6) tNil)))) (gName 12))
    (tRet (tOp (rEqD K) (tVar 12) (tIf (tB (tGt (tVar 4) (tC (.int 0)))) (tTup (tCons (tC (.str "caught")) (tCons (tC (.int 0)) (tCons (tC (.str "halves")) tNil)))) (tTup (tCons (tC (.str "caught")) (tCons (tC (.int 0)) (tCons (tC (.str "end")) tNil)))))))) tNext)
    (tRet (tOp (rEqD K) (tCall sp_judged [] E0 (tCons (tVar 3) (tCons (tVar 7) (tCons (tVar 6) tNil)))) (tTup (tCons (tC (.str "passed")) tNil))))))))))))
theorem der_law (T : Top K mg) {sp_judged : Sp} {l_judged : Nat} (O_judged : Ok1 P w K mg base l_judged "judged" ["claimed", "lines", "draws"] sp_judged) {sp_claims : Sp} {l_claims : Nat} (O_claims : Ok1 P w K mg base l_claims "claims" ["claimed", "lines", "draws"] sp_claims) {sp_law_alike : Sp} {l_law_alike : Nat} (O_law_alike : Ok1 P w K mg base l_law_alike "_law_alike" ["_law_found", "_law_due"] sp_law_alike) {sp_law_prime : Sp} {l_law_prime : Nat} (O_law_prime : Ok1 P w K mg base l_law_prime "_law_prime" ["_law_row"] sp_law_prime) {sp_law_numbers : Sp} {l_law_numbers : Nat} (O_law_numbers : Ok1 P w K mg base l_law_numbers "_law_numbers" ["_law_row", "_law_p", "_law_many"] sp_law_numbers) {sp_law_degrees : Sp} {l_law_degrees : Nat} (O_law_degrees : Ok1 P w K mg base l_law_degrees "_law_degrees" ["_law_many", "_law_rule_here"] sp_law_degrees) {sp_law_total : Sp} {l_law_total : Nat} (O_law_total : Ok1 P w K mg base l_law_total "_law_total" ["_law_p", "_law_many", "_law_rule_here", "_law_ahead"] sp_law_total) {sp_law_plains : Sp} {l_law_plains : Nat} (O_law_plains : Ok1 P w K mg base l_law_plains "_law_plains" ["_law_p", "_law_many", "_law_rule_here", "_law_draws"] sp_law_plains) {sp_law_judge : Sp} {l_law_judge : Nat} (O_law_judge : Ok1 P w K mg base l_law_judge "_law_judge" ["_law_told", "_law_lines", "_law_draws"] sp_law_judge) {sp_law_sum : Sp} {l_law_sum : Nat} (O_law_sum : Ok1 P w K mg base l_law_sum "_law_sum" ["_law_row", "_law_p", "_law_most", "_law_deep"] sp_law_sum) {sp_law_bent : Sp} {l_law_bent : Nat} (O_law_bent : Ok1 P w K mg base l_law_bent "_law_bent" ["_law_row", "_law_p", "_law_lines", "_law_degrees_here"] sp_law_bent) {cdv : Value} {A : Around} {outer : List Env} {s : Shared} {H : Hp} {E : XK} {j : Nat} (hr : Room j (A.deeper (envOfC "law" (defScope s_law) s.heap.objs.size (He.ga K "law") cdv))) (h_judged : l_judged ≤ j) (h_claims : l_claims ≤ j) (h_law_alike : l_law_alike ≤ j) (h_law_prime : l_law_prime ≤ j) (h_law_numbers : l_law_numbers ≤ j) (h_law_degrees : l_law_degrees ≤ j) (h_law_total : l_law_total ≤ j) (h_law_plains : l_law_plains ≤ j) (h_law_judge : l_law_judge ≤ j) (h_law_sum : l_law_sum ≤ j) (h_law_bent : l_law_bent ≤ j) :
    PSs (cxOf CX0 P w K mg base n_law "law" (defScope s_law) (He.ga K "law") cdv A outer s H E).nox (defBody s_law) (t_law K sp_judged sp_claims sp_law_alike sp_law_prime sp_law_numbers sp_law_degrees sp_law_total sp_law_plains sp_law_judge sp_law_sum sp_law_bent) :=
  (pss_cons (ps_set (i := 1) sc_law.nd rfl (Or.inl rfl) (pe_lst (pa_cons (pv 0) (pa_cons pe_int (pa_cons pe_int (pa_cons pe_int pa_nil))))))
    (pss_cons (ps_set (i := 2) sc_law.nd rfl (Or.inl rfl) (pe_callO O_law_prime hr (by omega) (by rfl) (pa_cons (pv 1) pa_nil)))
    (pss_cons (ps_set (i := 3) sc_law.nd rfl (Or.inl rfl) (pe_callO O_law_sum hr (by omega) (by rfl) (pa_cons (pv 1) (pa_cons (pv 2) (pa_cons pe_int (pa_cons pe_int pa_nil))))))
    (pss_cons (ps_par (i := 4) (j := 5) (by rfl) sc_law.nd rfl rfl (by decide) rfl rfl (pa_cons (pe_ix ix_seq (pv 3) pe_int (fun _ _ => rfl)) (pa_cons (pe_ix ix_seq (pv 3) pe_int (fun _ _ => rfl)) pa_nil)) (by rfl))
    (pss_cons (ps_set (i := 6) sc_law.nd rfl (Or.inl rfl) (pe_callO O_law_numbers hr (by omega) (by rfl) (pa_cons (pv 1) (pa_cons (pv 2) (pa_cons (pv 4) pa_nil)))))
    (pss_cons (ps_set (i := 7) sc_law.nd rfl (Or.inl rfl) (pe_callO O_law_plains hr (by omega) (by rfl) (pa_cons (pv 2) (pa_cons (pv 4) (pa_cons (pv 5) (pa_cons (pv 6) pa_nil))))))
    (pss_cons (ps_for PassesOwn.never rfl (pi_range1 (by rfl) (T.free 9 _ rfl) (pa_cons pe_int pa_nil)) (pg_name (i := 8) sc_law.nd rfl (Or.inl rfl)) (pss_cons (ps_set (i := 9) sc_law.nd rfl (Or.inl rfl) (pe_callO O_law_bent hr (by omega) (by rfl) (pa_cons (pv 1) (pa_cons (pv 2) (pa_cons (pv 7) (pa_cons (pe_callO O_law_degrees hr (by omega) (by rfl) (pa_cons (pv 4) (pa_cons (pv 5) pa_nil))) pa_nil))))))
    (pss_cons (ps_asg (pe_callO O_law_judge hr (by omega) (by rfl) (pa_cons (pv 3) (pa_cons (pv 9) (pa_cons (pv 6) pa_nil)))) (pg_tup rfl (pgs_cons (pg_name (i := 10) sc_law.nd rfl (Or.inl rfl)) (pgs_cons (pg_name (i := 11) sc_law.nd rfl (Or.inl rfl)) pgs_nil))))
    (pss_cons (ps_if (pt_not (pt_val (pe_callO O_law_alike hr (by omega) (by rfl) (pa_cons (pe_callO O_judged hr (by omega) (by rfl) (pa_cons (pv 3) (pa_cons (pv 9) (pa_cons (pv 6) pa_nil)))) (pa_cons (pv 10) pa_nil))))) (pss_one (ps_ret pe_bl)) pss_nil)
    (pss_one (ps_if (pt_not (pt_val (pe_callO O_law_alike hr (by omega) (by rfl) (pa_cons (pe_callO O_claims hr (by omega) (by rfl) (pa_cons (pv 3) (pa_cons (pv 9) (pa_cons (pv 6) pa_nil)))) (pa_cons (pe_callTy c_tuple (by rfl) (T.free 4 _ rfl) (by decide +kernel) (pa_cons (pv 11) pa_nil)) pa_nil))))) (pss_one (ps_ret pe_bl)) pss_nil))))))
    (pss_cons (ps_if (pt_cmp (pc_neI (pe_ix ix_seq (pv 3) pe_int (fun _ _ => rfl)) (pe_callO O_law_total hr (by omega) (by rfl) (pa_cons (pv 2) (pa_cons (pv 4) (pa_cons (pv 5) (pa_cons (pe_tup pa_nil) pa_nil))))))) (pss_cons (ps_set (i := 12) sc_law.nd rfl (Or.inl rfl) (pe_callO O_judged hr (by omega) (by rfl) (pa_cons (pv 3) (pa_cons (pv 7) (pa_cons (pv 6) pa_nil)))))
    (pss_one (ps_ret (pe_cmpR (op_eqD hr.units) (pv 12) (pe_ifExp (pt_cmp (pc_gt (pv 4) pe_int)) (pe_tup (pa_cons pe_str (pa_cons pe_int (pa_cons pe_str pa_nil)))) (pe_tup (pa_cons pe_str (pa_cons pe_int (pa_cons pe_str pa_nil))))) (nomark _))))) pss_nil)
    (pss_one (ps_ret (pe_cmpR (op_eqD hr.units) (pe_callO O_judged hr (by omega) (by rfl) (pa_cons (pv 3) (pa_cons (pv 7) (pa_cons (pv 6) pa_nil)))) (pe_tup (pa_cons pe_str pa_nil)) (nomark _))))))))))))
theorem mk_law (T : Top K mg) {sp_judged : Sp} {l_judged : Nat} (O_judged : Ok1 P w K mg base l_judged "judged" ["claimed", "lines", "draws"] sp_judged) {sp_claims : Sp} {l_claims : Nat} (O_claims : Ok1 P w K mg base l_claims "claims" ["claimed", "lines", "draws"] sp_claims) {sp_law_alike : Sp} {l_law_alike : Nat} (O_law_alike : Ok1 P w K mg base l_law_alike "_law_alike" ["_law_found", "_law_due"] sp_law_alike) {sp_law_prime : Sp} {l_law_prime : Nat} (O_law_prime : Ok1 P w K mg base l_law_prime "_law_prime" ["_law_row"] sp_law_prime) {sp_law_numbers : Sp} {l_law_numbers : Nat} (O_law_numbers : Ok1 P w K mg base l_law_numbers "_law_numbers" ["_law_row", "_law_p", "_law_many"] sp_law_numbers) {sp_law_degrees : Sp} {l_law_degrees : Nat} (O_law_degrees : Ok1 P w K mg base l_law_degrees "_law_degrees" ["_law_many", "_law_rule_here"] sp_law_degrees) {sp_law_total : Sp} {l_law_total : Nat} (O_law_total : Ok1 P w K mg base l_law_total "_law_total" ["_law_p", "_law_many", "_law_rule_here", "_law_ahead"] sp_law_total) {sp_law_plains : Sp} {l_law_plains : Nat} (O_law_plains : Ok1 P w K mg base l_law_plains "_law_plains" ["_law_p", "_law_many", "_law_rule_here", "_law_draws"] sp_law_plains) {sp_law_judge : Sp} {l_law_judge : Nat} (O_law_judge : Ok1 P w K mg base l_law_judge "_law_judge" ["_law_told", "_law_lines", "_law_draws"] sp_law_judge) {sp_law_sum : Sp} {l_law_sum : Nat} (O_law_sum : Ok1 P w K mg base l_law_sum "_law_sum" ["_law_row", "_law_p", "_law_most", "_law_deep"] sp_law_sum) {sp_law_bent : Sp} {l_law_bent : Nat} (O_law_bent : Ok1 P w K mg base l_law_bent "_law_bent" ["_law_row", "_law_p", "_law_lines", "_law_degrees_here"] sp_law_bent) {k : Nat} (h_judged : l_judged ≤ k) (h_claims : l_claims ≤ k) (h_law_alike : l_law_alike ≤ k) (h_law_prime : l_law_prime ≤ k) (h_law_numbers : l_law_numbers ≤ k) (h_law_degrees : l_law_degrees ≤ k) (h_law_total : l_law_total ≤ k) (h_law_plains : l_law_plains ≤ k) (h_law_judge : l_law_judge ≤ k) (h_law_sum : l_law_sum ≤ k) (h_law_bent : l_law_bent ≤ k) {sp : Sp} (len : ∀ vs H Q E, sp vs H Q E → vs.length = 1)
    (read : ∀ vs H Q E, sp vs H Q E → t_law K sp_judged sp_claims sp_law_alike sp_law_prime sp_law_numbers sp_law_degrees sp_law_total sp_law_plains sp_law_judge sp_law_sum sp_law_bent ⟨fun _ H' => Q .non H', Q, fun _ _ => False, fun _ _ => False⟩ (start n_law vs) H) : Ok1 P w K mg base (k + 1) "law" ["_law_script"] sp :=
  T.ok (d := d_law) 56 rfl sc_law (fun _ _ _ _ _ _ us hl => match us, hl with | [_], _ => rfl) len fun cdv A outer s H vs Q E hr h => ⟨_, der_law T O_judged O_claims O_law_alike O_law_prime O_law_numbers O_law_degrees O_law_total O_law_plains O_law_judge O_law_sum O_law_bent hr h_judged h_claims h_law_alike h_law_prime h_law_numbers h_law_degrees h_law_total h_law_plains h_law_judge h_law_sum h_law_bent, read vs H Q E h⟩

end
end K10

set_option Elab.async false
set_option linter.all false
set_option maxRecDepth 100000
set_option maxHeartbeats 4000000
/-! K10RdA: numbers and lines keep their promises -/
namespace K10
open PySem PySem.Spec PyProof.Rows L2 Evl K10M
section
variable {P : Program} {w : World} {K : PySem.W.Frag} {mg : Str → Option Value} {base : Heap}

def RetS (K : PySem.W.Frag) (xs : List V) (H : Hp) (Q : VK) : Prop := ∀ p H2, Ex H H2 → SqT K H2 p xs → Q (.ref p) H2
/-! ### is_integer, is_from -/
def sp_is_integer (K : PySem.W.Frag) : Sp := fun vs H Q _ => ∃ x t, vs = [x] ∧ Knd K H x t ∧ RetV (.bl (t == "int")) H Q
theorem int_only {t : String} (h : t ∈ kinds) : (isaB t "int" && !isaB t "bool") = (t == "int") := by
  have key : (kinds.all fun a => decide ((isaB a "int" && !isaB a "bool") = (a == "int"))) = true := by decide +kernel
  exact of_decide_eq_true (List.all_eq_true.mp key t h)
theorem ok_is_integer (T : Top K mg) : Ok1 P w K mg base 1 "is_integer" ["value"] (sp_is_integer K) := by
  refine mk_is_integer T (fun vs H Q E h => ?_) fun vs H Q E h => ?_
  · obtain ⟨x, t, rfl, _⟩ := h
    rfl
  · obtain ⟨x, t, rfl, hk, q⟩ := h
    rw [← int_only hk.2] at q
    exact s_ret (ev_andV (e_isi (ev_var rfl) hk (by decide)) fun _ => ev_notV (e_isi (ev_var rfl) hk (by decide))) q
def isFrom (x : V) (lo hi : Int) : Bool := match x with
  | .int i => decide (lo ≤ i) && decide (i ≤ hi)
  | _ => false
theorem knd_int {x : V} {H : Hp} (h : Knd K H x "int") : ∃ i, x = .int i := by
  obtain ⟨h, _⟩ := h
  generalize ht : (Value.type "int") = u at h
  cases h with
  | base b =>
    cases b with
    | int i => exact ⟨i, rfl⟩
    | ins => exact nomatch ht
    | _ => exact absurd (Value.type.inj ht) (by decide)
  | _ => exact absurd (Value.type.inj ht) (by decide)
theorem knd_not {x : V} {H : Hp} {t : String} (h : Knd K H x t) (ht : (t == "int") = false) (lo hi : Int) : isFrom x lo hi = false := by
  cases x with
  | int i =>
    obtain ⟨h, _⟩ := h
    cases h with
    | base b =>
      cases b with
      | int i => exact absurd ht (by decide)
  | _ => rfl
def sp_is_from (K : PySem.W.Frag) : Sp := fun vs H Q _ => ∃ x t lo hi, vs = [x, .int lo, .int hi] ∧ Knd K H x t ∧ RetV (.bl (isFrom x lo hi)) H Q
theorem sv_is_integer {x : V} {t : String} {H : Hp} (h : Knd K H x t) : SpV (sp_is_integer K) [x] H (.bl (t == "int")) := fun H1 e Q q E => ⟨x, t, rfl, h.ex e, q⟩
theorem ok_is_from (T : Top K mg) : Ok1 P w K mg base 2 "is_from" ["value", "low", "high"] (sp_is_from K) := by
  refine mk_is_from T (ok_is_integer T) (by decide) (fun vs H Q E h => ?_) fun vs H Q E h => ?_
  · obtain ⟨x, t, lo, hi, rfl, _⟩ := h
    rfl
  · obtain ⟨x, t, lo, hi, rfl, hk, q⟩ := h
    cases ht : t == "int" with
    | true =>
      have e : t = "int" := eq_of_beq ht
      subst e
      obtain ⟨i, rfl⟩ := knd_int hk
      exact s_ret (ev_andV (ev_call (ea_cons (ev_var rfl) ea_nil) (sv_is_integer hk)) fun _ => e_chain (ev_var rfl) (ev_var rfl) (ev_var rfl)) q
    | false =>
      rw [knd_not hk ht lo hi] at q
      have c := ev_call (σ := start n_is_from [x, .int lo, .int hi]) (dvs := []) (E := E0) (ea_cons (ev_var (i := 0) rfl) ea_nil) (sv_is_integer hk)
      rw [ht] at c
      exact s_ret (ev_andV (b := false) c fun z => by cases z) q
theorem sv_is_from {x : V} {t : String} {lo hi : Int} {H : Hp} (h : Knd K H x t) : SpV (sp_is_from K) [x, .int lo, .int hi] H (.bl (isFrom x lo hi)) := fun H1 e Q q E => ⟨x, t, lo, hi, rfl, h.ex e, q⟩
/-! ### powers -/
def sp_raised : Sp := fun vs H Q _ => ∃ p b t : Int, vs = [.int p, .int b, .int t] ∧ 1 < p ∧ p < 4294967296 ∧ t < 1099511627776 ∧ RetV (.int (powm p 40 1 (b % p) t)) H Q
theorem mul_ok {i j p : Int} (h : 0 ≤ i ∧ i < p) (hp : p < 4294967296) : CMul i j := .inl ⟨by omega, by omega⟩
theorem div2_ok (i : Int) : CDivW i 2 := ⟨by decide, by decide⟩
/-- one turn of the loop of halves -/
theorem powm_turn {p : Int} {m : Nat} {f c u : Int} (hu : 0 < u) : powm p (m + 1) f c u = powm p m (if u % 2 = 1 then f * c % p else f) (c * c % p) (u / 2) := by
  show (if u > 0 then _ else _) = _
  rw [if_pos hu]
theorem powm_end {p : Int} {m : Nat} {f c u : Int} (hu : ¬ 0 < u) : powm p m f c u = f := by
  cases m with
  | zero => rfl
  | succ m =>
    show (if u > 0 then _ else _) = _
    rw [if_neg hu]
theorem half_lt {u : Int} {m : Nat} (h : u < 2 ^ (m + 1)) : u / 2 < 2 ^ m := by
  have e : (2 : Int) ^ (m + 1) = 2 * 2 ^ m := by rw [Int.pow_succ]; omega
  omega
theorem some_fuel {u : Int} {m : Nat} (h : u < 2 ^ m) (hu : 0 < u) : ∃ k, m = k + 1 := by
  cases m with
  | zero =>
    have : (2 : Int) ^ 0 = 1 := rfl
    omega
  | succ m => exact ⟨m, rfl⟩
theorem ok_raised (T : Top K mg) : Ok1 P w K mg base 1 "raised" ["p", "base", "times"] sp_raised := by
  refine mk_raised T (k := 0) (fun vs H Q E h => ?_) fun vs H Q E h => ?_
  · obtain ⟨p, b, t, rfl, _⟩ := h
    rfl
  · obtain ⟨p, b, t, rfl, hp1, hp2, ht, q⟩ := h
    have hp : 0 < p := by omega
    refine q_par (ea_cons ev_c (ea_cons (e_mod (ev_var rfl) (ev_var rfl) hp) ea_nil)) fun H1 e1 => ?_
    refine q_while (fun m σ G => ∃ f c u : Int, σ = [some (.int p), some (.int c), some (.int u), some (.int f)] ∧ (0 ≤ f ∧ f < p) ∧ (0 ≤ c ∧ c < p) ∧ u < 2 ^ m ∧ powm p m f c u = powm p 40 1 (b % p) t ∧ Ex H G) 40
      ⟨1, b % p, t, rfl, ⟨by omega, hp1⟩, mod_in hp _, ht, rfl, e1⟩ fun m σ G hW => ?_
    obtain ⟨f, c, u, rfl, hf, hc, hu, hk, eG⟩ := hW
    refine ⟨decide (0 < u), et_B (e_cmp (p := fun i j => decide (j < i)) (ev_var rfl) ev_c), fun hb G1 e2 => ?_, fun hb G1 e2 => ?_⟩
    · have hu0 : 0 < u := of_decide_eq_true hb
      obtain ⟨m, rfl⟩ := some_fuel hu hu0
      rw [powm_turn hu0] at hk
      refine ⟨fun σ G => ∃ f c u : Int, σ = [some (.int p), some (.int c), some (.int u), some (.int f)] ∧ (0 ≤ f ∧ f < p) ∧ (0 ≤ c ∧ c < p) ∧ u < 2 ^ m ∧ powm p m f c u = powm p 40 1 (b % p) t ∧ Ex H G, fun σ2 H2 n2 => ⟨m, by omega, n2⟩, ?_⟩
      refine q_ifAsg (v := .int (if u % 2 = 1 then f * c % p else f)) (et_B (e_cmp (p := fun i j => decide (i = j)) (e_mod (ev_var rfl) ev_c (by decide)) ev_c)) (fun hz => ?_) (fun hz => ?_) fun G2 e3 => ?_
      · rw [if_pos (of_decide_eq_true hz)]
        exact e_mod (e_mul (ev_var rfl) (ev_var rfl) (mul_ok hf hp2)) (ev_var rfl) hp
      · rw [if_neg (of_decide_eq_false hz)]
        rfl
      · refine s_par (ea_cons (e_mod (e_mul (ev_var rfl) (ev_var rfl) (mul_ok hc hp2)) (ev_var rfl) hp) (ea_cons (e_div (ev_var rfl) ev_c (div2_ok u)) ea_nil)) fun G3 e4 => ?_
        refine ⟨_, _, _, rfl, ?_, mod_in hp _, half_lt hu, hk, ((eG.trans e2).trans e3).trans e4⟩
        split
        · exact mod_in hp _
        · exact hf
    · rw [powm_end (of_decide_eq_false hb)] at hk
      rw [← hk] at q
      exact s_ret (ev_var rfl) fun H3 e3 => q H3 ((eG.trans e2).trans e3)
theorem sv_raised {p b t : Int} {H : Hp} (h1 : 1 < p) (h2 : p < 4294967296) (h3 : t < 1099511627776) : SpV sp_raised [.int p, .int b, .int t] H (.int (powm p 40 1 (b % p) t)) := fun H1 e Q q E => ⟨p, b, t, rfl, h1, h2, h3, q⟩
/-! ### passes, is_prime -/
def twos : Nat → Int → Int → Int × Int
  | 0, t, k => (t, k)
  | n + 1, t, k => if t % 2 = 0 then twos n (t / 2) (k + 1) else (t, k)
def sqs (v : Int) : Nat → Int → Bool
  | 0, _ => false
  | n + 1, f => if f * f % v = v - 1 then true else sqs v n (f * f % v)
def passesF (v b : Int) : Bool :=
  if powm v 40 1 (b % v) (twos 40 (v - 1) 0).1 = 1 ∨ powm v 40 1 (b % v) (twos 40 (v - 1) 0).1 = v - 1 then true else sqs v ((twos 40 (v - 1) 0).2 - 1).toNat (powm v 40 1 (b % v) (twos 40 (v - 1) 0).1)
def sp_passes : Sp := fun vs H Q _ => ∃ v b : Int, vs = [.int v, .int b] ∧ 1 < v ∧ v < 4294967296 ∧ RetV (.bl (passesF v b)) H Q
theorem twos_in : ∀ (n : Nat) (t k : Int), 0 < t → t < 2 ^ n → 0 < (twos n t k).1 ∧ (twos n t k).1 ≤ t ∧ k ≤ (twos n t k).2 ∧ (twos n t k).2 ≤ k + n
  | 0, t, k, h, _ => ⟨h, Int.le_refl _, Int.le_refl _, by simp [twos]⟩
  | n + 1, t, k, h, g => by
    unfold twos
    by_cases e : t % 2 = 0
    · rw [if_pos e]
      have ih := twos_in n (t / 2) (k + 1) (by omega) (half_lt g)
      refine ⟨ih.1, by omega, by omega, by omega⟩
    · rw [if_neg e]
      exact ⟨h, Int.le_refl _, Int.le_refl _, by simp; omega⟩
theorem in_two {z a b : Int} : inV (.int z) [.int a, .int b] = decide (z = a ∨ z = b) := by
  show (eqV (.int a) (.int z) || (eqV (.int b) (.int z) || false)) = _
  have e : ∀ u v : Int, eqV (.int u) (.int v) = decide (v = u) := fun u v => by
    show (u == v) = _
    rw [Bool.eq_iff_iff]
    simp
    exact eq_comm
  rw [e, e, Bool.or_false, Bool.decide_or]
theorem ok_passes (T : Top K mg) : Ok1 P w K mg base 2 "passes" ["value", "base"] sp_passes := by
  refine mk_passes T (ok_raised T) (by decide) (fun vs H Q E h => ?_) fun vs H Q E h => ?_
  · obtain ⟨v, b, rfl, _⟩ := h
    rfl
  · obtain ⟨v, b, rfl, hv1, hv2, q⟩ := h
    have hv0 : 0 < v := by omega
    refine q_par (ea_cons (e_sub (ev_var rfl) ev_c) (ea_cons ev_c ea_nil)) fun H1 e1 => ?_
    refine q_while (fun m σ G => ∃ t k : Int, σ = [some (.int v), some (.int b), some (.int t), some (.int k), none, none] ∧ 0 < t ∧ t < 2 ^ m ∧ twos m t k = twos 40 (v - 1) 0 ∧ Ex H G) 40
      ⟨v - 1, 0, rfl, by omega, ?_, rfl, e1⟩ fun m σ G hW => ?_
    · have : (2 : Int) ^ 40 = 1099511627776 := by decide
      omega
    obtain ⟨t, k, rfl, ht, hu, hk, eG⟩ := hW
    refine ⟨decide (t % 2 = 0), et_B (e_cmp (p := fun i j => decide (i = j)) (e_mod (ev_var rfl) ev_c (by decide)) ev_c), fun hb G1 e2 => ?_, fun hb G1 e2 => ?_⟩
    · have hz : t % 2 = 0 := of_decide_eq_true hb
      obtain ⟨m, rfl⟩ := some_fuel hu ht
      have hk2 : twos m (t / 2) (k + 1) = twos 40 (v - 1) 0 := by
        rw [← hk]
        show _ = (if t % 2 = 0 then _ else _)
        rw [if_pos hz]
      refine ⟨fun σ G => ∃ t k : Int, σ = [some (.int v), some (.int b), some (.int t), some (.int k), none, none] ∧ 0 < t ∧ t < 2 ^ m ∧ twos m t k = twos 40 (v - 1) 0 ∧ Ex H G, fun σ2 H2 n2 => ⟨m, by omega, n2⟩, ?_⟩
      refine s_par (ea_cons (e_div (ev_var rfl) ev_c (div2_ok t)) (ea_cons (e_add (ev_var rfl) ev_c) ea_nil)) fun G3 e4 => ?_
      exact ⟨_, _, rfl, by omega, half_lt hu, hk2, (eG.trans e2).trans e4⟩
    · have hz : ¬ t % 2 = 0 := of_decide_eq_false hb
      have hfin : twos 40 (v - 1) 0 = (t, k) := by
        rw [← hk]
        cases m with
        | zero => rfl
        | succ m =>
          show (if t % 2 = 0 then _ else _) = _
          rw [if_neg hz]
      have hin := twos_in 40 (v - 1) 0 (by omega) (by
        have : (2 : Int) ^ 40 = 1099511627776 := by decide
        omega)
      unfold passesF at q
      rw [hfin] at q hin
      obtain ⟨i1, i2, i3, i4⟩ := hin
      have i4 : k ≤ 0 + (40 : Nat) := i4
      have i3 : 0 ≤ k := i3
      have i2 : t ≤ v - 1 := i2
      have q : RetV (.bl (if powm v 40 1 (b % v) t = 1 ∨ powm v 40 1 (b % v) t = v - 1 then true else sqs v (k - 1).toNat (powm v 40 1 (b % v) t))) H Q := q
      have hf := powm_in hv0 40 1 (b % v) t (by omega) hv1
      refine q_asg (ev_call (ea_cons (ev_var rfl) (ea_cons (ev_var rfl) (ea_cons (ev_var rfl) ea_nil))) (sv_raised hv1 hv2 (by omega))) fun G2 e3 => ?_
      have e5 : Ex H G2 := (eG.trans e2).trans e3
      generalize powm v 40 1 (b % v) t = f at q hf
      refine q_when (et_test (e_inU (ev_var rfl) (eu_tup (ea_cons ev_c (ea_cons (e_sub (ev_var rfl) ev_c) ea_nil)) (by simp)) rfl rfl)) (fun hb G3 e4 => ?_) (fun hb G3 e4 => ?_)
      · rw [in_two] at hb
        rw [if_pos (of_decide_eq_true hb)] at q
        exact s_ret ev_c fun G4 e6 => q G4 ((e5.trans e4).trans e6)
      · rw [in_two] at hb
        rw [if_neg (of_decide_eq_false hb)] at q
        refine q_forRg (ea_cons (e_sub (ev_var rfl) ev_c) ea_nil) (by omega) (fun m σ G => ∃ (f : Int) (y : Option V), σ = [some (.int v), some (.int b), some (.int t), some (.int k), some (.int f), y] ∧ (0 ≤ f ∧ f < v) ∧ Ex H G ∧ RetV (.bl (sqs v ((k - 1).toNat - m) f)) H Q)
          (fun G4 e6 => ⟨f, none, rfl, hf, (e5.trans e4).trans e6, q⟩) (fun m σ G4 hm hP => ?_) fun σ G4 hP => ?_
        · obtain ⟨f, y, rfl, hf, e6, q⟩ := hP
          obtain ⟨r, hr⟩ : ∃ r, (k - 1).toNat - m = r + 1 := ⟨(k - 1).toNat - m - 1, by omega⟩
          have hr2 : (k - 1).toNat - (m + 1) = r := by omega
          rw [hr] at q
          refine q_asg (e_mod (e_mul (ev_var rfl) (ev_var rfl) (mul_ok hf hv2)) (ev_var rfl) hv0) fun G5 e7 => ?_
          refine s_when (et_B (e_cmp (p := fun i j => decide (i = j)) (ev_var rfl) (e_sub (ev_var rfl) ev_c))) (fun hb G6 e8 => ?_) (fun hb G6 e8 => ?_)
          · have q2 : RetV (.bl true) H Q := by
              have z : sqs v (r + 1) f = true := if_pos (of_decide_eq_true hb)
              rw [z] at q
              exact q
            exact s_ret ev_c fun G7 e9 => q2 G7 (((e6.trans e7).trans e8).trans e9)
          · have q2 : RetV (.bl (sqs v r (f * f % v))) H Q := by
              have z : sqs v (r + 1) f = sqs v r (f * f % v) := if_neg (of_decide_eq_false hb)
              rw [z] at q
              exact q
            rw [← hr2] at q2
            exact ⟨_, _, rfl, mod_in hv0 _, (e6.trans e7).trans e8, q2⟩
        · obtain ⟨f, y, rfl, hf, e6, q⟩ := hP
          rw [Nat.sub_self] at q
          exact s_ret ev_c fun G7 e9 => q G7 (e6.trans e9)
theorem sv_passes {v b : Int} {H : Hp} (h1 : 1 < v) (h2 : v < 4294967296) : SpV sp_passes [.int v, .int b] H (.bl (passesF v b)) := fun H1 e Q q E => ⟨v, b, rfl, h1, h2, q⟩
def sp_is_prime : Sp := fun vs H Q _ => ∃ p : Int, vs = [.int p] ∧ p ∈ primes ∧ RetV (.bl true) H Q
def baseL : List Int := [2, 3, 5, 7]
theorem prime_chk : (primes.all fun p => decide (p = 5) || decide (p = 7) || (baseL.all (fun b => decide (p ≠ b) && !decide (p % b = 0) && passesF p b))) = true := by decide +kernel
theorem ok_is_prime (T : Top K mg) : Ok1 P w K mg base 3 "is_prime" ["value"] sp_is_prime := by
  refine mk_is_prime T (ok_is_from T) (ok_passes T) (by decide) (by decide) (fun vs H Q E h => ?_) fun vs H Q E h => ?_
  · obtain ⟨p, rfl, _⟩ := h
    rfl
  · obtain ⟨p, rfl, hp, q⟩ := h
    have hin := primes_in hp
    have hc := List.all_eq_true.mp prime_chk p hp
    have f1 : isFrom (.int p) 5 2147483647 = true := by
      show (decide (5 ≤ p) && decide (p ≤ 2147483647)) = true
      rw [decide_eq_true hin.1, decide_eq_true hin.2]
      rfl
    refine q_when (b := false) (et_is (et_not (et_B (ev_call (ea_cons (ev_var rfl) (ea_cons ev_c (ea_cons ev_c ea_nil))) (sv_is_from (Knd.int p))))) (by rw [f1]; rfl)) (fun z => by cases z) fun _ H1 e1 => ?_
    refine q_when (et_test (e_inT (ev_var rfl) ev_c (T.tBASES _) rfl rfl)) (fun _ H2 e2 => s_ret ev_c fun H3 e3 => q H3 ((e1.trans e2).trans e3)) fun hb H2 e2 => ?_
    have nb : ∀ b ∈ baseL, p ≠ b ∧ ¬ p % b = 0 ∧ passesF p b = true := by
      have h5 : ¬ p = 5 ∧ ¬ p = 7 := by
        constructor
        · intro z
          subst z
          exact absurd hb (by decide)
        · intro z
          subst z
          exact absurd hb (by decide)
      rw [decide_eq_false h5.1, decide_eq_false h5.2, Bool.false_or, Bool.false_or] at hc
      intro b hbm
      have := List.all_eq_true.mp hc b hbm
      simp only [Bool.and_eq_true, decide_eq_true_eq, Bool.not_eq_true', decide_eq_false_iff_not] at this
      exact ⟨this.1.1, this.1.2, this.2⟩
    have eqb : [V.int 2, V.int 3, V.int 5, V.int 7] = baseL.map V.int := rfl
    have getb : ∀ (m : Nat) (y : V), [V.int 2, V.int 3, V.int 5, V.int 7][m]? = some y → ∃ b ∈ baseL, y = .int b := fun m y hm => by
      rw [eqb, List.getElem?_map] at hm
      cases hg : baseL[m]? with
      | none =>
        rw [hg] at hm
        cases hm
      | some b =>
        rw [hg] at hm
        exact ⟨b, List.mem_of_getElem? hg, (Option.some.inj hm).symm⟩
    have e12 : Ex H H2 := e1.trans e2
    refine q_when (b := false) (et_B (ev_is (e_any (bs := [false, false, false, false]) (el_mapT (fun _ => V.bl false) ev_c (T.tBASES _) (by decide) (fun _ => rfl) fun m y G eG hm => ?_)) rfl)) (fun z => by cases z) fun _ H3 e3 => ?_
    · obtain ⟨b, hbm, rfl⟩ := getb m y hm
      have hpos : 0 < b := by
        simp [baseL] at hbm
        omega
      refine ev_is (e_cmp (p := fun i j => decide (i = j)) (e_mod (ev_var rfl) (ev_var rfl) hpos) ev_c) ?_
      rw [decide_eq_false (nb b hbm).2.1]
    · refine s_ret (ev_is (e_all (bs := [true, true, true, true]) (el_mapT (fun _ => V.bl true) ev_c (T.tBASES _) (by decide) (fun _ => rfl) fun m y G eG hm => ?_)) rfl) fun H4 e4 => q H4 ((e12.trans e3).trans e4)
      obtain ⟨b, hbm, rfl⟩ := getb m y hm
      refine ev_is (ev_call (ea_cons (ev_var rfl) (ea_cons (ev_var rfl) ea_nil)) (sv_passes (v := p) (b := b) (by omega) (by omega))) ?_
      rw [(nb b hbm).2.2]
theorem sv_is_prime {p : Int} {H : Hp} (h : p ∈ primes) : SpV sp_is_prime [.int p] H (.bl true) := fun H1 e Q q E => ⟨p, rfl, h, q⟩
end
end K10

set_option Elab.async false
set_option linter.all false
set_option maxRecDepth 100000
set_option maxHeartbeats 4000000
/-! K10RdB: numbers told, lines, tables keep their promises -/
namespace K10
open PySem PySem.Spec PyProof.Rows L2 Evl K10M
section
variable {P : Program} {w : World} {K : PySem.W.Frag} {mg : Str → Option Value} {base : Heap} {H H' : Hp}

/-! ### data for entries, items -/
def enV : En → V
  | .int i => .int i
  | .bl b => .bl b
def enD : En → PyData
  | .int i => .int i
  | .bl b => .bool b
def enK : En → String
  | .int _ => "int"
  | .bl _ => "bool"
theorem en_knd (e : En) : Knd K H (enV e) (enK e) := by
  cases e with
  | int i => exact Knd.int i
  | bl b => exact Knd.bl b
theorem en_dp : ∀ es : List En, DpAll K H (es.map enV) (es.map enD)
  | [] => .nil
  | e :: es => .cons (by
    cases e with
    | int i => exact .int i
    | bl b => exact .bl b) (en_dp es)
theorem en_lay : ∀ es : List En, PyData.canLayAll0 (es.map enD) = true
  | [] => rfl
  | e :: es => by
    have ih := en_lay es
    cases e <;> simp [PyData.canLayAll0, PyData.canLay0, enD, ih]
theorem en_depth : ∀ es : List En, PyData.depthAll (es.map enD) = 0
  | [] => rfl
  | e :: es => by
    have ih := en_depth es
    cases e <;> simp [PyData.depthAll, PyData.depth, enD, ih]
theorem en_shT (es : List En) : SeqAt.shaped (.tuple (es.map enD)) = true := by simp [SeqAt.shaped, PyData.canLay0, PyData.depth, en_lay, en_depth]
theorem en_shL (es : List En) : SeqAt.shaped (.list (es.map enD)) = true := by simp [SeqAt.shaped, PyData.canLay0, PyData.depth, en_lay, en_depth]
theorem en_nil (es : List En) : PyData.eqv (.tuple (es.map enD)) (.tuple []) = es.isEmpty := by
  cases es with
  | nil => simp [PyData.eqv, PyData.eqvAll]
  | cons e es => simp [PyData.eqv, PyData.eqvAll]
theorem en_nilL (es : List En) : PyData.eqv (.list (es.map enD)) (.list []) = es.isEmpty := by
  cases es with
  | nil => simp [PyData.eqv, PyData.eqvAll]
  | cons e es => simp [PyData.eqv, PyData.eqvAll]
theorem ints_en (l : List Int) : l.map V.int = (l.map En.int).map enV := by
  rw [List.map_map]
  rfl
/-- a value is the item it -/
def ItAt (K : PySem.W.Frag) (H : Hp) (x : V) : Itm → Prop
  | none => ∃ t, Knd K H x t ∧ t ≠ "tuple"
  | some es => ∃ a, x = .ref a ∧ SqT K H a (es.map enV)
theorem ItAt.ex {x : V} {it : Itm} (e : Ex H H') (h : ItAt K H x it) : ItAt K H' x it := by
  cases it with
  | none =>
    obtain ⟨t, h1, h2⟩ := h
    exact ⟨t, h1.ex e, h2⟩
  | some es =>
    obtain ⟨a, rfl, h⟩ := h
    exact ⟨a, rfl, ex_t e h⟩
theorem ItAt.ints {a : Addr} {l : List Int} (h : SqT K H a (l.map V.int)) : ItAt K H (.ref a) (some (l.map En.int)) := ⟨a, rfl, by rw [← ints_en]; exact h⟩

/-! ### is_number, are_numbers, is_plain_line -/
def sp_is_number (K : PySem.W.Frag) : Sp := fun vs H Q _ => ∃ (p : Int) (e : En), vs = [.int p, enV e] ∧ RetV (.bl (isNum p e)) H Q
theorem ok_is_number (T : Top K mg) : Ok1 P w K mg base 3 "is_number" ["p", "value"] (sp_is_number K) := by
  refine mk_is_number T (ok_is_from T) (by decide) (fun vs H Q E h => ?_) fun vs H Q E h => ?_
  · obtain ⟨p, e, rfl, _⟩ := h
    rfl
  · obtain ⟨p, e, rfl, q⟩ := h
    have z : isFrom (enV e) 0 (p - 1) = isNum p e := by cases e <;> rfl
    rw [← z] at q
    exact s_ret (ev_call (ea_cons (ev_var rfl) (ea_cons ev_c (ea_cons (e_sub (ev_var rfl) ev_c) ea_nil))) (sv_is_from (en_knd e))) q
theorem sv_is_number {p : Int} {e : En} : SpV (sp_is_number K) [.int p, enV e] H (.bl (isNum p e)) := fun H1 _ Q q E => ⟨p, e, rfl, q⟩
def arN (p lo hi : Int) : Itm → Bool
  | none => false
  | some es => (decide (lo ≤ (es.length : Int)) && decide ((es.length : Int) ≤ hi)) && es.all (isNum p)
def sp_are_numbers (K : PySem.W.Frag) : Sp := fun vs H Q _ => ∃ (p lo hi : Int) (x : V) (it : Itm), vs = [.int p, x, .int lo, .int hi] ∧ ItAt K H x it ∧ hi ≤ 1024 ∧ RetV (.bl (arN p lo hi it)) H Q
theorem all_map (es : List En) (f : En → Bool) : (es.map f).all id = es.all f := by
  rw [List.all_map]
  rfl
theorem ok_are_numbers (T : Top K mg) : Ok1 P w K mg base 4 "are_numbers" ["p", "value", "low", "high"] (sp_are_numbers K) := by
  refine mk_are_numbers T (ok_is_number T) (by decide) (fun vs H Q E h => ?_) fun vs H Q E h => ?_
  · obtain ⟨p, lo, hi, x, it, rfl, _⟩ := h
    rfl
  · obtain ⟨p, lo, hi, x, it, rfl, hx, hhi, q⟩ := h
    cases it with
    | none =>
      obtain ⟨t, hk, ht⟩ := hx
      have z : isaB t "tuple" = false := by
        have key : (kinds.all fun a => decide (a = "tuple") || !isaB a "tuple") = true := by decide +kernel
        have := List.all_eq_true.mp key t hk.2
        rw [decide_eq_false ht, Bool.false_or] at this
        simpa using this
      have c := e_isi (K := K) (σ := start n_are_numbers [.int p, x, .int lo, .int hi]) (ta := tVar 1) (T := "tuple") (ev_var rfl) hk (by decide)
      rw [z] at c
      exact s_ret (ev_andV (b := false) c fun z => by cases z) q
    | some es =>
      obtain ⟨a, rfl, hs⟩ := hx
      refine s_ret (ev_is (ev_andV (e_isi (ev_var rfl) (Knd.tup hs) (by decide)) fun _ => ev_andV (e_chain (ev_var rfl) (e_len (ev_var rfl) (.inr hs)) (ev_var rfl)) fun hb => e_all (bs := es.map (isNum p)) ?_) ?_) q
      · have hl : (es.map enV).length ≤ 40000 := by
          rw [Bool.and_eq_true] at hb
          have := of_decide_eq_true hb.2
          omega
        have g : (es.map (isNum p)).map V.bl = (es.map enV).map (fun v => V.bl (isFrom v 0 (p - 1))) := by
          rw [List.map_map, List.map_map]
          refine List.map_congr_left fun e _ => ?_
          cases e <;> rfl
        rw [g]
        refine el_mapT _ (ev_var rfl) hs hl (fun _ => rfl) fun m y G eG hm => ?_
        rw [List.getElem?_map] at hm
        cases he : es[m]? with
        | none =>
          rw [he] at hm
          cases hm
        | some e =>
          rw [he] at hm
          have hy : enV e = y := Option.some.inj hm
          subst hy
          have z : isFrom (enV e) 0 (p - 1) = isNum p e := by cases e <;> rfl
          show Ev _ _ _ (.bl (isFrom (enV e) 0 (p - 1)))
          rw [z]
          exact ev_call (ea_cons (ev_var rfl) (ea_cons (ev_var rfl) ea_nil)) sv_is_number
      · rw [all_map, List.length_map]
        rfl
theorem sv_are_numbers {p lo hi : Int} {x : V} {it : Itm} (h : ItAt K H x it) (hh : hi ≤ 1024) : SpV (sp_are_numbers K) [.int p, x, .int lo, .int hi] H (.bl (arN p lo hi it)) := fun H1 e Q q E => ⟨p, lo, hi, x, it, rfl, h.ex e, hh, q⟩
def sp_is_plain_line (K : PySem.W.Frag) : Sp := fun vs H Q _ => ∃ (p : Int) (x : V) (it : Itm), vs = [.int p, x] ∧ ItAt K H x it ∧ RetV (.bl (isLine p it)) H Q
theorem arN_line (p : Int) (es : List En) : isLine p (some es) = (arN p 0 200 (some es) && (es.isEmpty || lastNz es)) := by
  show (decide (es.length ≤ 200) && (es.all (isNum p) && _)) = (((decide (0 ≤ (es.length : Int)) && decide ((es.length : Int) ≤ 200)) && es.all (isNum p)) && _)
  rw [decide_eq_true (show (0 : Int) ≤ es.length by omega), Bool.true_and, Bool.and_assoc]
  congr 1
  rw [Bool.eq_iff_iff, decide_eq_true_iff, decide_eq_true_iff]
  omega
theorem at_end {xs : List V} {v : V} (h : xs.getLast? = some v) : atI xs (-1) = some v := by
  have hne : xs ≠ [] := by
    intro z
    subst z
    cases h
  have e := List.dropLast_concat_getLast hne
  rw [List.getLast?_eq_getLast hne] at h
  rw [← e, Option.some.inj h]
  exact atI_last _ _
theorem ok_is_plain_line (T : Top K mg) : Ok1 P w K mg base 5 "is_plain_line" ["p", "value"] (sp_is_plain_line K) := by
  refine mk_is_plain_line T (ok_are_numbers T) (by decide) (fun vs H Q E h => ?_) fun vs H Q E h => ?_
  · obtain ⟨p, x, it, rfl, _⟩ := h
    rfl
  · obtain ⟨p, x, it, rfl, hx, q⟩ := h
    have c := ev_call (σ := start n_is_plain_line [.int p, x]) (dvs := []) (E := E0) (ea_cons (ev_var (i := 0) rfl) (ea_cons (ev_var (i := 1) rfl) (ea_cons ev_c (ea_cons ev_c ea_nil)))) (sv_are_numbers (p := p) (lo := 0) (hi := 200) hx (by decide))
    cases it with
    | none => exact s_ret (ev_andV (b := false) c fun z => by cases z) q
    | some es =>
      obtain ⟨a, rfl, hs⟩ := hx
      rw [arN_line] at q
      refine s_ret (ev_andV c fun hb => ev_orV (ev_is (e_eqDU (ev_var rfl) (eu_tup ea_nil (by simp)) (.tup hs (en_dp es)) .nil (en_shT es) (by decide)) (by rw [en_nil])) fun hne => ?_) q
      have hne2 : es ≠ [] := by
        intro z
        subst z
        cases hne
      have hg := List.getLast?_eq_getLast hne2
      have hall : (isNum p) (es.getLast hne2) = true := by
        have h2 := (Bool.and_eq_true_iff.mp (show ((decide (0 ≤ (es.length : Int)) && decide ((es.length : Int) ≤ 200)) && es.all (isNum p)) = true from hb)).2
        exact List.all_eq_true.mp h2 _ (List.getLast_mem hne2)
      cases hlast : es.getLast hne2 with
      | bl b =>
        rw [hlast] at hall
        cases hall
      | int i =>
        rw [hlast] at hg
        have hz : lastNz es = !decide (i = 0) := by
          unfold lastNz
          rw [hg]
          rfl
        rw [hz]
        refine e_cmp (p := fun i j => !decide (i = j)) (e_ixT (ev_var rfl) (e_neg ev_c) hs (at_end ?_)) ev_c
        rw [List.getLast?_map, hg]
        rfl
theorem sv_is_plain_line {p : Int} {x : V} {it : Itm} (h : ItAt K H x it) : SpV (sp_is_plain_line K) [.int p, x] H (.bl (isLine p it)) := fun H1 e Q q E => ⟨p, x, it, rfl, h.ex e, q⟩

/-! ### at_place, degree_of -/
def sp_at_place (K : PySem.W.Frag) : Sp := fun vs H Q _ => ∃ (p x : Int) (a : Addr) (l : List Int), vs = [.int p, .ref a, .int x] ∧ SqT K H a (l.map V.int) ∧ 0 < p ∧ p < 4294967296 ∧ RetV (.int (ev p x l)) H Q
theorem back_at {l : List Int} {m : Nat} {y : V} (h : (l.map V.int)[(l.map V.int).length - 1 - m]? = some y) (hm : m < (l.map V.int).length) : ∃ c, y = .int c ∧ l.drop (l.length - (m + 1)) = c :: l.drop (l.length - m) := by
  rw [List.length_map] at h hm
  have hi : l.length - 1 - m < l.length := by omega
  rw [List.getElem?_map, List.getElem?_eq_getElem hi] at h
  refine ⟨l[l.length - 1 - m], (Option.some.inj h).symm, ?_⟩
  have e1 : l.length - (m + 1) = l.length - 1 - m := by omega
  have e2 : l.length - m = l.length - 1 - m + 1 := by omega
  rw [e1, e2]
  exact List.drop_eq_getElem_cons hi
theorem ok_at_place (T : Top K mg) : Ok1 P w K mg base 1 "at_place" ["p", "line", "place"] (sp_at_place K) := by
  refine mk_at_place T (k := 0) (fun vs H Q E h => ?_) fun vs H Q E h => ?_
  · obtain ⟨p, x, a, l, rfl, _⟩ := h
    rfl
  · obtain ⟨p, x, a, l, rfl, hs, hp, hp2, q⟩ := h
    refine q_asg ev_c fun H1 e1 => ?_
    refine q_forRev (p := a) (ev_var rfl) (ex_t e1 hs) (fun m σ G => ∃ y : Option V, σ = [some (.int p), some (.ref a), some (.int x), some (.int (ev p x (l.drop (l.length - m)))), y] ∧ Ex H1 G)
      (fun G e2 => ⟨none, ?_, e2⟩) (fun m σ G _ hP => hP.elim fun _ z => z.2) (fun m y σ G hg hm hP => ?_) fun σ G hP => ?_
    · rw [Nat.sub_zero, List.drop_length]
      rfl
    · obtain ⟨y0, rfl, e2⟩ := hP
      obtain ⟨c, rfl, hd⟩ := back_at hg hm
      refine s_asg (e_mod (e_add (e_mul (ev_var rfl) (ev_var rfl) (mul_ok (ev_in hp x _) hp2)) (ev_var rfl)) (ev_var rfl) hp) fun G2 e3 => ⟨some (.int c), ?_, e2.trans e3⟩
      rw [hd]
      rfl
    · obtain ⟨y0, rfl, e2⟩ := hP
      rw [List.length_map, Nat.sub_self, List.drop_zero]
      exact s_ret (ev_var rfl) fun G2 e3 => q G2 ((e1.trans e2).trans e3)
theorem sv_at_place {p x : Int} {a : Addr} {l : List Int} (h : SqT K H a (l.map V.int)) (hp : 0 < p) (hp2 : p < 4294967296) : SpV (sp_at_place K) [.int p, .ref a, .int x] H (.int (ev p x l)) := fun H1 e Q q E => ⟨p, x, a, l, rfl, ex_t e h, hp, hp2, q⟩
def sp_degree_of (K : PySem.W.Frag) : Sp := fun vs H Q _ => ∃ (a : Addr) (xs : List V), vs = [.ref a] ∧ SqT K H a xs ∧ RetV (.int ((xs.length : Int) - 1)) H Q
theorem ok_degree_of (T : Top K mg) : Ok1 P w K mg base 1 "degree_of" ["line"] (sp_degree_of K) := by
  refine mk_degree_of T (k := 0) (fun vs H Q E h => ?_) fun vs H Q E h => ?_
  · obtain ⟨a, xs, rfl, _⟩ := h
    rfl
  · obtain ⟨a, xs, rfl, hs, q⟩ := h
    exact s_ret (e_sub (e_len (ev_var rfl) (.inr hs)) ev_c) q
theorem sv_degree_of {a : Addr} {xs : List V} (h : SqT K H a xs) : SpV (sp_degree_of K) [.ref a] H (.int ((xs.length : Int) - 1)) := fun H1 e Q q E => ⟨a, xs, rfl, ex_t e h, q⟩
/-! ### tables -/
theorem pow_cases {n k : Nat} (h : n = 2 ^ k) (hk : k ≤ 2) : (n = 1 ∧ k = 0) ∨ (n = 2 ∧ k = 1) ∨ (n = 4 ∧ k = 2) := by
  match k, hk with
  | 0, _ => exact .inl ⟨h, rfl⟩
  | 1, _ => exact .inr (.inl ⟨h, rfl⟩)
  | 2, _ => exact .inr (.inr ⟨h, rfl⟩)
def sp_names_in (K : PySem.W.Frag) : Sp := fun vs H Q _ => ∃ (a : Addr) (xs : List V) (k : Nat), vs = [.ref a] ∧ SqT K H a xs ∧ xs.length = 2 ^ k ∧ k ≤ 2 ∧ RetV (.int (k : Int)) H Q
theorem ok_names_in (T : Top K mg) : Ok1 P w K mg base 1 "names_in" ["table"] (sp_names_in K) := by
  refine mk_names_in T (k := 0) (fun vs H Q E h => ?_) fun vs H Q E h => ?_
  · obtain ⟨a, xs, k, rfl, _⟩ := h
    rfl
  · obtain ⟨a, xs, k, rfl, hs, hl, hk, q⟩ := h
    refine s_ret (ev_is (e_sub (e_bits (e_len (ev_var rfl) (.inr hs))) ev_c) ?_) q
    rcases pow_cases hl hk with ⟨e, rfl⟩ | ⟨e, rfl⟩ | ⟨e, rfl⟩ <;> rw [e] <;> decide +kernel
theorem sv_names_in {a : Addr} {xs : List V} {k : Nat} (h : SqT K H a xs) (hl : xs.length = 2 ^ k) (hk : k ≤ 2) : SpV (sp_names_in K) [.ref a] H (.int (k : Int)) := fun H1 e Q q E => ⟨a, xs, k, rfl, ex_t e h, hl, hk, q⟩
def sp_is_plain_table (K : PySem.W.Frag) : Sp := fun vs H Q _ => ∃ (p : Int) (a : Addr) (t : List Int) (k : Nat), vs = [.int p, .ref a] ∧ SqT K H a (t.map V.int) ∧ t.length = 2 ^ k ∧ k ≤ 2 ∧ InAll p t ∧ RetV (.bl true) H Q
theorem all_num {p : Int} {l : List Int} (h : InAll p l) : (l.map En.int).all (isNum p) = true := by
  rw [List.all_eq_true]
  intro e he
  obtain ⟨c, hc, rfl⟩ := List.mem_map.mp he
  have := h c hc
  show (decide (0 ≤ c) && decide (c ≤ p - 1)) = true
  rw [decide_eq_true (by omega), decide_eq_true (by omega)]
  rfl
theorem arN_ok {p lo hi : Int} {l : List Int} (h : InAll p l) (h1 : lo ≤ l.length) (h2 : (l.length : Int) ≤ hi) : arN p lo hi (some (l.map En.int)) = true := by
  show ((decide (lo ≤ ((l.map En.int).length : Int)) && decide (((l.map En.int).length : Int) ≤ hi)) && _) = true
  rw [all_num h, List.length_map, decide_eq_true h1, decide_eq_true h2]
  rfl
theorem ok_is_plain_table (T : Top K mg) : Ok1 P w K mg base 5 "is_plain_table" ["p", "value"] (sp_is_plain_table K) := by
  refine mk_is_plain_table T (ok_are_numbers T) (by decide) (fun vs H Q E h => ?_) fun vs H Q E h => ?_
  · obtain ⟨p, a, t, k, rfl, _⟩ := h
    rfl
  · obtain ⟨p, a, t, k, rfl, hs, hl, hk, ht, q⟩ := h
    have c := pow_cases hl hk
    have z : arN p 1 1024 (some (t.map En.int)) = true := arN_ok ht (by omega) (by omega)
    refine q_when (b := false) (et_is (et_not (et_B (ev_call (ea_cons (ev_var rfl) (ea_cons (ev_var rfl) (ea_cons ev_c (ea_cons ev_c ea_nil)))) (sv_are_numbers (ItAt.ints hs) (by decide))))) (by rw [z]; rfl)) (fun z => by cases z) fun _ H1 e1 => ?_
    refine s_ret (ev_is (e_cmp (p := fun i j => decide (i = j)) (e_and (e_len (ev_var rfl) (.inr (ex_t e1 hs))) (e_sub (e_len (ev_var rfl) (.inr (ex_t e1 hs))) ev_c)) ev_c) ?_) fun H2 e2 => q H2 (e1.trans e2)
    rw [List.length_map]
    rcases c with ⟨e, _⟩ | ⟨e, _⟩ | ⟨e, _⟩ <;> rw [e] <;> decide +kernel
theorem sv_is_plain_table {p : Int} {a : Addr} {t : List Int} {k : Nat} (h : SqT K H a (t.map V.int)) (hl : t.length = 2 ^ k) (hk : k ≤ 2) (ht : InAll p t) : SpV (sp_is_plain_table K) [.int p, .ref a] H (.bl true) := fun H1 e Q q E => ⟨p, a, t, k, rfl, ex_t e h, hl, hk, ht, q⟩
theorem int_at {l : List Int} {m : Nat} (h : m < l.length) : atI (l.map V.int) (m : Int) = some (.int (l.getD m 0)) := by
  refine atI_nat ?_
  rw [List.getElem?_map, List.getD_eq_getElem?_getD, List.getElem?_eq_getElem h]
  rfl
def SpS (K : PySem.W.Frag) (sp : Sp) (vs : List V) (H : Hp) (xs : List V) : Prop := ∀ H1, Ex H H1 → ∀ Q : VK, (∀ p H2, Ex H1 H2 → SqT K H2 p xs → Q (.ref p) H2) → ∀ E : XK, sp vs H1 Q E
theorem es_call {σ : L2.St} {sp : Sp} {dvs vs xs : List V} {E : XK} {ta : TA} (h : EvA ta σ H vs) (hs : SpS K sp (vs ++ dvs) H xs) : EvS K (tCall sp dvs E ta) σ H xs := fun H1 e Q q =>
  h H1 e _ fun H2 e2 => hs H2 (e.trans e2) Q (fun p H3 e3 h3 => q p H3 (e2.trans e3) h3) E
theorem q_asgS {σ : L2.St} {te : TE} {tz : TS} {D : Ends} {i : Nat} {xs : List V} (h : EvS K te σ H xs) (k : ∀ p H1, Ex H H1 → SqT K H1 p xs → tz D (σ.set i (some (.ref p))) H1) : tSeq (tAsg te (gName i)) tz D σ H := h H (Ex.refl H) _ fun p H1 e g => k p H1 e g
theorem s_asgS {σ : L2.St} {te : TE} {D : Ends} {i : Nat} {xs : List V} (h : EvS K te σ H xs) (k : ∀ p H1, Ex H H1 → SqT K H1 p xs → D.nx (σ.set i (some (.ref p))) H1) : tAsg te (gName i) D σ H := h H (Ex.refl H) _ fun p H1 e g => k p H1 e g
theorem s_retS {σ : L2.St} {te : TE} {D : Ends} {xs : List V} (h : EvS K te σ H xs) (k : ∀ p H1, Ex H H1 → SqT K H1 p xs → D.rt (.ref p) H1) : tRet te D σ H := h H (Ex.refl H) _ k
def sp_half (K : PySem.W.Frag) : Sp := fun vs H Q _ => ∃ (p x : Int) (a : Addr) (t : List Int), vs = [.int p, .ref a, .int x] ∧ SqT K H a (t.map V.int) ∧ 0 < p ∧ p < 4294967296 ∧ (0 ≤ x ∧ x < p) ∧ t.length ≤ 1024 ∧ RetS K ((halfT p t x).map V.int) H Q
theorem ok_half (T : Top K mg) : Ok1 P w K mg base 1 "half" ["p", "table", "number"] (sp_half K) := by
  refine mk_half T (k := 0) (fun vs H Q E h => ?_) fun vs H Q E h => ?_
  · obtain ⟨p, x, a, t, rfl, _⟩ := h
    rfl
  · obtain ⟨p, x, a, t, rfl, hs, hp, hp2, hx, hl, q⟩ := h
    refine q_asg (e_div (e_len (ev_var rfl) (.inr hs)) ev_c (div2_ok _)) fun H1 e1 => ?_
    rw [List.length_map]
    have hs1 := ex_t e1 hs
    have hn : ((t.length : Int) / 2).toNat = t.length / 2 := by omega
    have g : (halfT p t x).map V.int = (List.range ((t.length : Int) / 2).toNat).map fun m => V.int ((t.getD m 0 + x * (t.getD (t.length / 2 + m) 0 - t.getD m 0)) % p) := by
      unfold halfT
      rw [List.map_map, hn]
      rfl
    rw [g] at q
    refine s_retS (EvU.s (eu_tupL (el_mapR _ (ea_cons (ev_var rfl) ea_nil) (by omega) (fun _ => rfl) fun m G eG hm => ?_))) fun a2 H2 e2 h2 => q a2 H2 (e1.trans e2) h2
    have a1 := int_at (l := t) (m := m) (by omega)
    have a2 := int_at (l := t) (m := t.length / 2 + m) (by omega)
    have ei : (((t.length / 2 + m : Nat) : Int)) = (t.length : Int) / 2 + (m : Int) := by omega
    rw [ei] at a2
    have hsG := ex_t eG hs1
    exact e_mod (e_add (e_ixT (ev_var rfl) (ev_var rfl) hsG a1) (e_mul (ev_var rfl) (e_sub (e_ixT (ev_var rfl) (e_add (ev_var rfl) (ev_var rfl)) hsG a2) (e_ixT (ev_var rfl) (ev_var rfl) hsG a1)) (mul_ok hx hp2))) (ev_var rfl) hp
theorem ss_half {p x : Int} {a : Addr} {t : List Int} (h : SqT K H a (t.map V.int)) (hp : 0 < p) (hp2 : p < 4294967296) (hx : 0 ≤ x ∧ x < p) (hl : t.length ≤ 1024) : SpS K (sp_half K) [.int p, .ref a, .int x] H ((halfT p t x).map V.int) := fun H1 e Q q E => ⟨p, x, a, t, rfl, ex_t e h, hp, hp2, hx, hl, q⟩
def sp_spread_at (K : PySem.W.Frag) : Sp := fun vs H Q _ => ∃ (p : Int) (a l : Addr) (t xs : List Int), vs = [.int p, .ref a, .ref l] ∧ SqT K H a (t.map V.int) ∧ SqL K H l (xs.map V.int) ∧ 0 < p ∧ p < 4294967296 ∧ InAll p xs ∧ t.length = 2 ^ xs.length ∧ xs.length ≤ 2 ∧ RetV (.int (spreadP p t xs)) H Q
theorem halfT_len (p : Int) (t : List Int) (x : Int) : (halfT p t x).length = t.length / 2 := by simp [halfT]
theorem ok_spread_at (T : Top K mg) : Ok1 P w K mg base 2 "spread_at" ["p", "table", "point"] (sp_spread_at K) := by
  refine mk_spread_at T (ok_half T) (by decide) (fun vs H Q E h => ?_) fun vs H Q E h => ?_
  · obtain ⟨p, a, l, t, xs, rfl, _⟩ := h
    rfl
  · obtain ⟨p, a, l, t, xs, rfl, hs, hl, hp, hp2, hx, ht, hn, q⟩ := h
    refine q_forLn (a := l) (ev_var rfl) hl (fun m σ G => ∃ (a' : Addr) (t' : List Int) (y : Option V), σ = [some (.int p), some (.ref a'), some (.ref l), y] ∧ SqT K G a' (t'.map V.int) ∧ t'.length = 2 ^ (xs.length - m) ∧ spreadP p t' (xs.drop m) = spreadP p t xs ∧ Ex H G)
      (fun H1 e1 => ⟨a, t, none, rfl, ex_t e1 hs, ht, rfl, e1⟩) (fun m σ G _ hP => ?_) (fun m y σ G hm hP => ?_) fun σ G hP => ?_
    · obtain ⟨a', t', y, _, _, _, _, eG⟩ := hP
      exact ex_l eG hl
    · obtain ⟨a', t', y0, rfl, hs', hl', hv, eG⟩ := hP
      rw [List.getElem?_map] at hm
      cases hg : xs[m]? with
      | none =>
        rw [hg] at hm
        cases hm
      | some c =>
        rw [hg] at hm
        have ey : V.int c = y := Option.some.inj hm
        subst ey
        have hlt := (List.getElem?_eq_some_iff.mp hg).1
        have hc := hx c (List.mem_of_getElem? hg)
        have hb : t'.length ≤ 1024 := by
          rw [hl']
          exact Nat.le_trans (Nat.pow_le_pow_right (by decide) (show xs.length - m ≤ 2 by omega)) (by decide)
        refine s_asgS (es_call (ea_cons (ev_var rfl) (ea_cons (ev_var rfl) (ea_cons (ev_var rfl) ea_nil))) (ss_half hs' hp hp2 hc hb)) fun a2 G2 e2 h2 => ⟨a2, halfT p t' c, some (.int c), rfl, h2, ?_, ?_, eG.trans e2⟩
        · rw [halfT_len, hl']
          have : xs.length - m = (xs.length - (m + 1)) + 1 := by omega
          rw [this, Nat.pow_succ, Nat.mul_div_cancel _ (by decide)]
        · rw [← hv, List.drop_eq_getElem_cons hlt]
          have : xs[m] = c := by
            have := List.getElem?_eq_getElem hlt
            rw [hg] at this
            exact (Option.some.inj this).symm
          rw [this]
          rfl
    · obtain ⟨a', t', y0, rfl, hs', hl', hv, eG⟩ := hP
      rw [List.length_map, Nat.sub_self] at hl'
      rw [List.length_map, List.drop_length] at hv
      rw [← hv] at q
      refine s_ret (e_ixT (ev_var rfl) ev_c hs' (int_at (l := t') (m := 0) (by rw [hl']; decide))) fun G2 e2 => q G2 (eG.trans e2)
theorem sv_spread_at {p : Int} {a l : Addr} {t xs : List Int} (h : SqT K H a (t.map V.int)) (h2 : SqL K H l (xs.map V.int)) (hp : 0 < p) (hp2 : p < 4294967296) (hx : InAll p xs) (ht : t.length = 2 ^ xs.length) (hn : xs.length ≤ 2) : SpV (sp_spread_at K) [.int p, .ref a, .ref l] H (.int (spreadP p t xs)) := fun H1 e Q q E => ⟨p, a, l, t, xs, rfl, ex_t e h, ex_l e h2, hp, hp2, hx, ht, hn, q⟩
end
end K10

set_option Elab.async false
set_option linter.all false
set_option maxRecDepth 100000
set_option maxHeartbeats 4000000
/-! K10RdC: rules keep their promises -/
namespace K10
open PySem PySem.Spec PyProof.Rows L2 Evl K10M
section
variable {P : Program} {w : World} {K : PySem.W.Frag} {mg : Str → Option Value} {base : Heap} {H H' : Hp}

/-! ### rules as data -/
def opS : Op → Str
  | .plus => "plus"
  | .minus => "minus"
  | .times => "times"
def dP : Pl → PyData
  | .num a => .tuple [.str "number", .int a]
  | .nam i => .tuple [.str "name", .int (i : Int)]
def dR : Rl → PyData
  | .leaf q => dP q
  | .tab t ps => .tuple [.str "table", .tuple (t.map .int), .tuple (ps.map dP)]
  | .join o l r => .tuple [.str (opS o), dR l, dR r]
/-- the slots of a place -/
def plS : Pl → List V
  | .num a => [.str "number", .int a]
  | .nam i => [.str "name", .int (i : Int)]
theorem pl_inv {v : V} {q : Pl} (h : Dp K H v (dP q)) : ∃ a, v = .ref a ∧ SqT K H a (plS q) := by
  cases q with
  | num b =>
    cases h with
    | tup hs ha =>
      cases ha with
      | cons h1 h2 =>
        cases h2 with
        | cons h3 h4 =>
          cases h4
          cases h1
          cases h3
          exact ⟨_, rfl, hs⟩
  | nam i =>
    cases h with
    | tup hs ha =>
      cases ha with
      | cons h1 h2 =>
        cases h2 with
        | cons h3 h4 =>
          cases h4
          cases h1
          cases h3
          exact ⟨_, rfl, hs⟩
theorem dpa_ints : ∀ {l : List Int} {vs : List V}, DpAll K H vs (l.map .int) → vs = l.map V.int
  | [], _, h => by
    cases h
    rfl
  | a :: l, _, h => by
    cases h with
    | cons h1 h2 =>
      cases h1
      rw [dpa_ints h2]
      rfl
theorem dpa_len : ∀ {ds : List PyData} {vs : List V}, DpAll K H vs ds → vs.length = ds.length
  | [], _, h => by
    cases h
    rfl
  | d :: ds, _, h => by
    cases h with
    | cons h1 h2 => rw [List.length_cons, List.length_cons, dpa_len h2]
theorem dpa_get : ∀ {ds : List PyData} {vs : List V} {m : Nat} {v : V}, DpAll K H vs ds → vs[m]? = some v → ∃ d, ds[m]? = some d ∧ Dp K H v d
  | [], _, m, v, h, g => by
    cases h
    simp at g
  | d :: ds, _, m, v, h, g => by
    cases h with
    | cons h1 h2 =>
      cases m with
      | zero =>
        cases g
        exact ⟨d, rfl, h1⟩
      | succ m => exact dpa_get (m := m) h2 (by simpa using g)
theorem tab_inv {v : V} {t : List Int} {ps : List Pl} (h : Dp K H v (dR (.tab t ps))) : ∃ (a b c : Addr) (ws : List V), v = .ref a ∧ SqT K H a [.str "table", .ref b, .ref c] ∧ SqT K H b (t.map V.int) ∧ SqT K H c ws ∧ DpAll K H ws (ps.map dP) := by
  cases h with
  | tup hs ha =>
    cases ha with
    | cons h1 h2 =>
      cases h2 with
      | cons h3 h4 =>
        cases h4 with
        | cons h5 h6 =>
          cases h6
          cases h1
          cases h3 with
          | tup s3 a3 =>
            cases h5 with
            | tup s5 a5 =>
              have e := dpa_ints a3
              subst e
              exact ⟨_, _, _, _, rfl, hs, s3, s5, a5⟩
theorem join_inv {v : V} {o : Op} {l r : Rl} (h : Dp K H v (dR (.join o l r))) : ∃ (a : Addr) (v1 v2 : V), v = .ref a ∧ SqT K H a [.str (opS o), v1, v2] ∧ Dp K H v1 (dR l) ∧ Dp K H v2 (dR r) := by
  cases h with
  | tup hs ha =>
    cases ha with
    | cons h1 h2 =>
      cases h2 with
      | cons h3 h4 =>
        cases h4 with
        | cons h5 h6 =>
          cases h6
          cases h1
          exact ⟨_, _, _, rfl, hs, h3, h5⟩
/-! ### is_place, is_leaf -/
def sp_is_place (K : PySem.W.Frag) : Sp := fun vs H Q _ => ∃ (p : Int) (n : Nat) (v : V) (q : Pl), vs = [.int p, .int (n : Int), v] ∧ Dp K H v (dP q) ∧ PlOk p n q ∧ RetV (.bl true) H Q
theorem ok_is_place (T : Top K mg) : Ok1 P w K mg base 4 "is_place" ["p", "many", "value"] (sp_is_place K) := by
  refine mk_is_place T (ok_is_from T) (ok_is_number T) (by decide) (by decide) (fun vs H Q E h => ?_) fun vs H Q E h => ?_
  · obtain ⟨p, n, v, q, rfl, _⟩ := h
    rfl
  · obtain ⟨p, n, v, q, rfl, hd, hk, k⟩ := h
    obtain ⟨a, rfl, hs⟩ := pl_inv hd
    have hlen : (plS q).length = 2 := by cases q <;> rfl
    refine q_when (b := false) (et_is (et_or (et_not (et_B (e_isi (ev_var rfl) (Knd.tup hs) (by decide)))) fun _ => et_B (e_cmp (p := fun i j => !decide (i = j)) (e_len (ev_var rfl) (.inr hs)) ev_c)) (by rw [hlen]; decide +kernel)) (fun z => by cases z) fun _ H1 e1 => ?_
    have hs1 := ex_t e1 hs
    cases q with
    | num b =>
      have hb : 0 ≤ b ∧ b < p := hk
      refine q_when (b := false) (et_is (et_test (e_eqS (e_ixT (ev_var rfl) ev_c hs1 (atI_nat (j := 0) rfl)) ev_c rfl)) (by decide +kernel)) (fun z => by cases z) fun _ H2 e2 => ?_
      have hs2 := ex_t e2 hs1
      refine s_ret (ev_is (ev_andV (ev_is (e_eqS (e_ixT (ev_var rfl) ev_c hs2 (atI_nat (j := 0) rfl)) ev_c rfl) (show V.bl (decide (V.str "number" = V.str "number")) = V.bl true by decide +kernel)) fun _ => ev_call (ea_cons (ev_var rfl) (ea_cons (e_ixT (ev_var rfl) ev_c hs2 (atI_nat (j := 1) rfl)) ea_nil)) (sv_is_number (e := .int b))) ?_) fun H3 e3 => k H3 ((e1.trans e2).trans e3)
      show V.bl (true && (decide (0 ≤ b) && decide (b ≤ p - 1))) = V.bl true
      rw [decide_eq_true hb.1, decide_eq_true (by omega)]
      rfl
    | nam i =>
      have hi : i < n := hk
      refine q_when (b := true) (et_is (et_test (e_eqS (e_ixT (ev_var rfl) ev_c hs1 (atI_nat (j := 0) rfl)) ev_c rfl)) (by decide +kernel)) (fun _ H2 e2 => ?_) fun z => by cases z
      have hs2 := ex_t e2 hs1
      refine s_ret (ev_is (ev_call (ea_cons (e_ixT (ev_var rfl) ev_c hs2 (atI_nat (j := 1) rfl)) (ea_cons ev_c (ea_cons (e_sub (ev_var rfl) ev_c) ea_nil))) (sv_is_from (Knd.int _))) ?_) fun H3 e3 => k H3 ((e1.trans e2).trans e3)
      show V.bl (decide ((0 : Int) ≤ (i : Int)) && decide ((i : Int) ≤ (n : Int) - 1)) = V.bl true
      rw [decide_eq_true (by omega), decide_eq_true (by omega)]
      rfl
theorem sv_is_place {p : Int} {n : Nat} {v : V} {q : Pl} (h : Dp K H v (dP q)) (hk : PlOk p n q) : SpV (sp_is_place K) [.int p, .int (n : Int), v] H (.bl true) := fun H1 e Q k E => ⟨p, n, v, q, rfl, dp_ex e _ _ h, hk, k⟩
def Leafy : Rl → Prop
  | .join _ _ _ => False
  | _ => True
def sp_is_leaf (K : PySem.W.Frag) : Sp := fun vs H Q _ => ∃ (p : Int) (n : Nat) (v : V) (R : Rl), vs = [.int p, .int (n : Int), v] ∧ Dp K H v (dR R) ∧ RlOk p n R ∧ Leafy R ∧ RetV (.bl true) H Q
theorem ok_is_leaf (T : Top K mg) : Ok1 P w K mg base 6 "is_leaf" ["p", "many", "value"] (sp_is_leaf K) := by
  refine mk_is_leaf T (ok_names_in T) (ok_is_plain_table T) (ok_is_place T) (by decide) (by decide) (by decide) (fun vs H Q E h => ?_) fun vs H Q E h => ?_
  · obtain ⟨p, n, v, R, rfl, _⟩ := h
    rfl
  · obtain ⟨p, n, v, R, rfl, hd, hk, hL, k⟩ := h
    cases R with
    | join o l r => exact hL.elim
    | leaf q =>
      obtain ⟨a, rfl, hs⟩ := pl_inv hd
      have h0 : (plS q)[0]? = some (.str "number") ∨ (plS q)[0]? = some (.str "name") := by
        cases q
        · exact .inl rfl
        · exact .inr rfl
      have hin : ∃ x, (plS q)[0]? = some x ∧ flatV x = true ∧ inV x [.str "number", .str "name"] = true := by
        rcases h0 with h0 | h0
        · exact ⟨_, h0, rfl, by decide +kernel⟩
        · exact ⟨_, h0, rfl, by decide +kernel⟩
      obtain ⟨x, hx, hf, hi⟩ := hin
      refine q_when (b := true) (et_is (et_test (e_inU (e_ixT (ev_var rfl) ev_c hs (atI_nat (j := 0) hx)) (eu_tup (ea_cons ev_c (ea_cons ev_c ea_nil)) (by simp)) hf (by decide +kernel))) hi) (fun _ H2 e2 => ?_) fun z => by cases z
      exact s_ret (ev_call (ea_cons (ev_var rfl) (ea_cons (ev_var rfl) (ea_cons (ev_var rfl) ea_nil))) (sv_is_place (dp_ex e2 _ _ hd) hk)) fun H3 e3 => k H3 (e2.trans e3)
    | tab t ps =>
      obtain ⟨a, b, c, ws, rfl, hs, hb, hc, hw⟩ := tab_inv hd
      obtain ⟨k1, k2, k3, k4⟩ := hk
      have hwl : ws.length = ps.length := by rw [dpa_len hw, List.length_map]
      refine q_when (b := false) (et_is (et_test (e_inU (e_ixT (ev_var rfl) ev_c hs (atI_nat (j := 0) rfl)) (eu_tup (ea_cons ev_c (ea_cons ev_c ea_nil)) (by simp)) rfl (by decide +kernel))) (by decide +kernel)) (fun z => by cases z) fun _ H1 e1 => ?_
      have hs1 := ex_t e1 hs
      have hb1 := ex_t e1 hb
      have hc1 := ex_t e1 hc
      have hw1 := dpa_ex e1 _ _ hw
      refine q_when (b := false) (et_is (et_or (et_is (et_test (e_neS (e_ixT (ev_var rfl) ev_c hs1 (atI_nat (j := 0) rfl)) ev_c rfl)) (show _ = false by decide +kernel)) fun _ => et_or (et_is (et_B (e_cmp (p := fun i j => !decide (i = j)) (e_len (ev_var rfl) (.inr hs1)) ev_c)) (show _ = false from rfl)) fun _ =>
        et_or (et_not (et_B (ev_call (ea_cons (ev_var rfl) (ea_cons (e_ixT (ev_var rfl) ev_c hs1 (atI_nat (j := 1) rfl)) ea_nil)) (sv_is_plain_table hb1 k1 k2 k3)))) fun _ => et_not (et_B (e_isi (e_ixT (ev_var rfl) ev_c hs1 (atI_nat (j := 2) rfl)) (Knd.tup hc1) (by decide)))) (by decide +kernel)) (fun z => by cases z) fun _ H2 e2 => ?_
      have hs2 := ex_t e2 hs1
      have hb2 := ex_t e2 hb1
      have hc2 := ex_t e2 hc1
      have hw2 := dpa_ex e2 _ _ hw1
      refine s_ret (ev_is (ev_andV (e_cmp (p := fun i j => decide (i = j)) (e_len (e_ixT (ev_var rfl) ev_c hs2 (atI_nat (j := 2) rfl)) (.inr hc2)) (ev_call (ea_cons (e_ixT (ev_var rfl) ev_c hs2 (atI_nat (j := 1) rfl)) ea_nil) (sv_names_in hb2 (by rw [List.length_map]; exact k1) k2))) fun _ =>
        e_all (bs := ws.map fun _ => true) (by
          rw [List.map_map]
          refine el_mapT (fun _ => V.bl true) (e_ixT (ev_var rfl) ev_c hs2 (atI_nat (j := 2) rfl)) hc2 (by omega) (fun _ => rfl) fun m y G eG hm => ?_
          obtain ⟨d, h1, h2⟩ := dpa_get hw2 hm
          rw [List.getElem?_map] at h1
          cases hq : ps[m]? with
          | none =>
            rw [hq] at h1
            cases h1
          | some q =>
            rw [hq] at h1
            have ed : dP q = d := Option.some.inj h1
            subst ed
            exact ev_call (ea_cons (ev_var rfl) (ea_cons (ev_var rfl) (ea_cons (ev_var rfl) ea_nil))) (sv_is_place (dp_ex eG _ _ h2) (k4 q (List.mem_of_getElem? hq))))) ?_) fun H3 e3 => k H3 ((e1.trans e2).trans e3)
      rw [hwl, decide_eq_true rfl, Bool.true_and]
      congr 1
      rw [List.all_eq_true]
      intro z hz
      obtain ⟨_, _, rfl⟩ := List.mem_map.mp hz
      rfl
theorem sv_is_leaf {p : Int} {n : Nat} {v : V} {R : Rl} (h : Dp K H v (dR R)) (hk : RlOk p n R) (hL : Leafy R) : SpV (sp_is_leaf K) [.int p, .int (n : Int), v] H (.bl true) := fun H1 e Q k E => ⟨p, n, v, R, rfl, dp_ex e _ _ h, hk, hL, k⟩
end
end K10

set_option Elab.async false
set_option linter.all false
set_option maxRecDepth 100000
set_option maxHeartbeats 4000000
/-! K10RdD: whole rules: the stack, values, degrees -/
namespace K10
open PySem PySem.Spec PyProof.Rows L2 Evl K10M
section
variable {P : Program} {w : World} {K : PySem.W.Frag} {mg : Str → Option Value} {base : Heap} {H H' : Hp}

/-! ### tuples stay -/
def TEx (K : PySem.W.Frag) (H H' : Hp) : Prop := ∀ a xs, SqT K H a xs → SqT K H' a xs
theorem Ex.t (e : Ex H H') : TEx K H H' := fun _ _ h => ex_t e h
theorem TEx.refl (H : Hp) : TEx K H H := fun _ _ h => h
theorem TEx.trans {H1 H2 H3 : Hp} (a : TEx K H1 H2) (b : TEx K H2 H3) : TEx K H1 H3 := fun p xs h => b p xs (a p xs h)
theorem tex_upd {l : Addr} {xs : List V} {o : HO} (h : H l = some (.lst xs)) : TEx K H (upd H l o) := fun a ys g => by
  rcases g with (g | ⟨ob, g⟩) | g
  · have ne : a ≠ l := ne_of g h (fun z => nomatch z)
    exact .inl (.inl (by rw [upd_ne ne]; exact g))
  · have ne : a ≠ l := ne_of g h (fun z => nomatch z)
    exact .inl (.inr ⟨ob, by rw [upd_ne ne]; exact g⟩)
  · exact .inr g
mutual
def noL : PyData → Bool
  | .list _ => false
  | .dict _ => false
  | .tuple ds => noLs ds
  | _ => true
def noLs : List PyData → Bool
  | [] => true
  | d :: ds => noL d && noLs ds
end
mutual
theorem dp_tex (e : TEx K H H') : ∀ (d : PyData) (v : V), noL d = true → Dp K H v d → Dp K H' v d
  | .none, _, _, h => by
    cases h
    exact .non
  | .bool b, _, _, h => by
    cases h
    exact .bl b
  | .int i, _, _, h => by
    cases h
    exact .int i
  | .str x, _, _, h => by
    cases h
    exact .str x
  | .list ds, _, n, h => by simp [noL] at n
  | .tuple ds, _, n, h => by
    cases h with
    | tup a b => exact .tup (e _ _ a) (dpa_tex e ds _ (by simpa [noL] using n) b)
  | .dict _, _, n, h => by simp [noL] at n
theorem dpa_tex (e : TEx K H H') : ∀ (ds : List PyData) (vs : List V), noLs ds = true → DpAll K H vs ds → DpAll K H' vs ds
  | [], _, _, h => by
    cases h
    exact .nil
  | d :: ds, _, n, h => by
    have n' : noL d = true ∧ noLs ds = true := by simpa [noLs] using n
    cases h with
    | cons a b => exact .cons (dp_tex e d _ n'.1 a) (dpa_tex e ds _ n'.2 b)
end
theorem noL_P (q : Pl) : noL (dP q) = true := by cases q <;> simp [dP, noL, noLs]
theorem noL_Ps : ∀ ps : List Pl, noLs (ps.map dP) = true
  | [] => by simp [noLs]
  | q :: ps => by simp [noLs, noL_P, noL_Ps ps]
theorem noL_ints : ∀ l : List Int, noLs (l.map .int) = true
  | [] => by simp [noLs]
  | a :: l => by simp [noLs, noL, noL_ints l]
theorem noL_R : ∀ R : Rl, noL (dR R) = true
  | .leaf q => noL_P q
  | .tab t ps => by simp [dR, noL, noLs, noL_Ps, noL_ints]
  | .join o l r => by simp [dR, noL, noLs, noL_R l, noL_R r]
theorem rl_tex {v : V} {R : Rl} (e : TEx K H H') (h : Dp K H v (dR R)) : Dp K H' v (dR R) := dp_tex e _ _ (noL_R R) h
/-! ### shapes -/
theorem lay_P (q : Pl) : PyData.canLay0 (dP q) = true := by
  cases q with
  | num a =>
    have : PyData.strOk (Str.ofString "number") = true := by decide +kernel
    simp [dP, PyData.canLay0, PyData.canLayAll0, this]
  | nam i =>
    have : PyData.strOk (Str.ofString "name") = true := by decide +kernel
    simp [dP, PyData.canLay0, PyData.canLayAll0, this]
theorem lay_Ps : ∀ ps : List Pl, PyData.canLayAll0 (ps.map dP) = true
  | [] => by simp [PyData.canLayAll0]
  | q :: ps => by simp [PyData.canLayAll0, lay_P, lay_Ps ps]
theorem lay_R : ∀ R : Rl, PyData.canLay0 (dR R) = true
  | .leaf q => lay_P q
  | .tab t ps => by
    have : PyData.strOk (Str.ofString "table") = true := by decide +kernel
    simp [dR, PyData.canLay0, PyData.canLayAll0, lay_Ps, PySem.W.ke_canLayAll0, this]
  | .join o l r => by
    have : PyData.strOk (opS o) = true := by cases o <;> decide +kernel
    simp [dR, PyData.canLay0, PyData.canLayAll0, lay_R l, lay_R r, this]
theorem dep_P (q : Pl) : PyData.depth (dP q) ≤ 1 := by cases q <;> simp [dP, PyData.depth, PyData.depthAll]
theorem dep_Ps : ∀ ps : List Pl, PyData.depthAll (ps.map dP) ≤ 1
  | [] => by simp [PyData.depthAll]
  | q :: ps => by
    have a := dep_P q
    have b := dep_Ps ps
    simp only [List.map_cons, PyData.depthAll]
    omega
theorem dep_R : ∀ R : Rl, PyData.depth (dR R) ≤ hgt R + 3
  | .leaf q => by
    have a := dep_P q
    show PyData.depth (dP q) ≤ 0 + 3
    omega
  | .tab t ps => by
    have a := dep_Ps ps
    have b := PySem.W.ke_depthAll t
    show PyData.depth (.tuple [.str "table", .tuple (t.map .int), .tuple (ps.map dP)]) ≤ 0 + 3
    simp only [PyData.depth, PyData.depthAll, b]
    omega
  | .join o l r => by
    have a := dep_R l
    have b := dep_R r
    show PyData.depth (.tuple [.str (opS o), dR l, dR r]) ≤ max (hgt l) (hgt r) + 1 + 3
    simp only [PyData.depth, PyData.depthAll]
    omega
theorem sh_R {R : Rl} (h : hgt R ≤ 50) : SeqAt.shaped (dR R) = true := by
  have a := dep_R R
  show ((dR R).canLay0 && decide ((dR R).depth ≤ 64)) = true
  rw [lay_R, decide_eq_true (by omega)]
  rfl
theorem sh_P (q : Pl) : SeqAt.shaped (dP q) = true := sh_R (R := .leaf q) (Nat.zero_le 50)
/-! ### is_plain_rule -/
def rsz : Rl → Nat
  | .leaf _ => 1
  | .tab _ _ => 1
  | .join _ l r => 1 + rsz l + rsz r
theorem rsz_le : ∀ R, rsz R + 1 ≤ 2 ^ (hgt R + 1)
  | .leaf _ => Nat.le_refl 2
  | .tab _ _ => Nat.le_refl 2
  | .join o l r => by
    have a := rsz_le l
    have b := rsz_le r
    have e1 : 2 ^ (hgt l + 1) ≤ 2 ^ (max (hgt l) (hgt r) + 1) := Nat.pow_le_pow_right (by decide) (by omega)
    have e2 : 2 ^ (hgt r + 1) ≤ 2 ^ (max (hgt l) (hgt r) + 1) := Nat.pow_le_pow_right (by decide) (by omega)
    have e3 : 2 ^ (hgt (.join o l r) + 1) = 2 ^ (max (hgt l) (hgt r) + 1) * 2 := Nat.pow_succ ..
    show 1 + rsz l + rsz r + 1 ≤ _
    omega
theorem rsz_pos (R : Rl) : 1 ≤ rsz R := by cases R <;> simp [rsz] <;> omega
def dS (s : Rl × Nat) : PyData := .tuple [dR s.1, .int (s.2 : Int)]
theorem noL_Ss : ∀ ss : List (Rl × Nat), noLs (ss.map dS) = true
  | [] => by simp [noLs]
  | s :: ss => by simp [noLs, dS, noL, noL_R, noL_Ss ss]
theorem lay_Ss : ∀ ss : List (Rl × Nat), PyData.canLayAll0 (ss.map dS) = true
  | [] => by simp [PyData.canLayAll0]
  | s :: ss => by simp [PyData.canLayAll0, dS, PyData.canLay0, lay_R, lay_Ss ss]
theorem dep_Ss : ∀ ss : List (Rl × Nat), (∀ s ∈ ss, hgt s.1 ≤ 4) → PyData.depthAll (ss.map dS) ≤ 8
  | [], _ => by simp [PyData.depthAll]
  | s :: ss, h => by
    have a := dep_Ss ss fun x hx => h x (List.mem_cons_of_mem _ hx)
    have b := dep_R s.1
    have c := h s (by simp)
    simp only [List.map_cons, PyData.depthAll, dS, PyData.depth]
    omega
theorem sh_Ss {ss : List (Rl × Nat)} (h : ∀ s ∈ ss, hgt s.1 ≤ 4) : SeqAt.shaped (.list (ss.map dS)) = true := by
  have a := dep_Ss ss h
  show (PyData.canLay0 (.list (ss.map dS)) && decide (PyData.depth (.list (ss.map dS)) ≤ 64)) = true
  rw [Bool.and_eq_true]
  refine ⟨by simp only [PyData.canLay0]; exact lay_Ss ss, decide_eq_true ?_⟩
  simp only [PyData.depth]
  omega
theorem dpa_snoc : ∀ {ds : List PyData} {d : PyData} {vs : List V}, DpAll K H vs (ds ++ [d]) → ∃ us v, vs = us ++ [v] ∧ DpAll K H us ds ∧ Dp K H v d
  | [], d, _, h => by
    cases h with
    | cons a b =>
      cases b
      exact ⟨[], _, rfl, .nil, a⟩
  | e :: ds, d, _, h => by
    cases h with
    | cons a b =>
      obtain ⟨us, v, rfl, h1, h2⟩ := dpa_snoc b
      exact ⟨_ :: us, v, rfl, .cons a h1, h2⟩
theorem dpa_app : ∀ {ds es : List PyData} {us vs : List V}, DpAll K H us ds → DpAll K H vs es → DpAll K H (us ++ vs) (ds ++ es)
  | [], es, _, vs, h, g => by
    cases h
    exact g
  | d :: ds, es, _, vs, h, g => by
    cases h with
    | cons a b => exact .cons a (dpa_app b g)
theorem snoc_cases {α : Type} (l : List α) : l = [] ∨ ∃ r a, l = r ++ [a] := by
  cases h : l.getLast? with
  | none => exact .inl (List.getLast?_eq_none_iff.mp h)
  | some a =>
    have hne : l ≠ [] := by
      intro z
      subst z
      cases h
    exact .inr ⟨l.dropLast, l.getLast hne, (List.dropLast_concat_getLast hne).symm⟩
def ssz (ss : List (Rl × Nat)) : Nat := (ss.map fun s => rsz s.1).sum
theorem ssz_snoc (ss : List (Rl × Nat)) (s : Rl × Nat) : ssz (ss ++ [s]) = ssz ss + rsz s.1 := by simp [ssz]
/-- the word of a rule -/
def hdS : Rl → Str
  | .leaf (.num _) => "number"
  | .leaf (.nam _) => "name"
  | .tab _ _ => "table"
  | .join o _ _ => opS o
theorem dr_head {v : V} {R : Rl} (h : Dp K H v (dR R)) : ∃ a z rest, v = .ref a ∧ SqT K H a (.str z :: rest) ∧ z = hdS R := by
  cases R with
  | leaf q =>
    obtain ⟨a, rfl, hs⟩ := pl_inv h
    cases q with
    | num b => exact ⟨a, _, _, rfl, hs, rfl⟩
    | nam i => exact ⟨a, _, _, rfl, hs, rfl⟩
  | tab t ps =>
    obtain ⟨a, b, c, ws, rfl, hs, _⟩ := tab_inv h
    exact ⟨a, _, _, rfl, hs, rfl⟩
  | join o l r =>
    obtain ⟨a, v1, v2, rfl, hs, _⟩ := join_inv h
    exact ⟨a, _, _, rfl, hs, rfl⟩
theorem eqv_R_nil (R : Rl) : PyData.eqv (dR R) (.tuple []) = false := by
  cases R with
  | leaf q => cases q <;> simp [dR, dP, PyData.eqv, PyData.eqvAll]
  | tab t ps => simp [dR, PyData.eqv, PyData.eqvAll]
  | join o l r => simp [dR, PyData.eqv, PyData.eqvAll]
theorem eqva_nil {ds : List PyData} (h : ds ≠ []) : PyData.eqvAll ds [] = false := by
  cases ds with
  | nil => exact absurd rfl h
  | cons d ds => simp [PyData.eqvAll]
theorem ssz_len : ∀ ss, List.length ss ≤ ssz ss
  | [] => Nat.zero_le _
  | s :: ss => by
    have a := ssz_len ss
    have b := rsz_pos s.1
    have e : ssz (s :: ss) = rsz s.1 + ssz ss := by simp [ssz]
    rw [e, List.length_cons]
    omega
def sp_is_plain_rule (K : PySem.W.Frag) : Sp := fun vs H Q _ => ∃ (p : Int) (n : Nat) (v : V) (R : Rl), vs = [.int p, .int (n : Int), v] ∧ Dp K H v (dR R) ∧ RlOk p n R ∧ hgt R ≤ 3 ∧ RetV (.bl true) H Q
def Stk (K : PySem.W.Frag) (p : Int) (n : Nat) (v : V) (H : Hp) (l : Addr) (m : Nat) (σ : L2.St) (G : Hp) : Prop :=
  ∃ (vs : List V) (ss : List (Rl × Nat)) (wd : Nat) (y5 y6 : Option V), σ = [some (.int p), some (.int (n : Int)), some v, some (.ref l), some (.int (wd : Int)), y5, y6] ∧ G l = some (.lst vs) ∧ DpAll K G vs (ss.map dS) ∧
    (∀ s ∈ ss, RlOk p n s.1 ∧ s.2 + hgt s.1 ≤ 4) ∧ m = ssz ss ∧ wd + m ≤ 15 ∧ Ex H G
theorem ok_is_plain_rule (T : Top K mg) : Ok1 P w K mg base 7 "is_plain_rule" ["p", "many", "value"] (sp_is_plain_rule K) := by
  refine mk_is_plain_rule T (ok_is_leaf T) (by decide) (fun vs H Q E h => ?_) fun vs H Q E h => ?_
  · obtain ⟨p, n, v, R, rfl, _⟩ := h
    rfl
  · obtain ⟨p, n, v, R, rfl, hd, hk, hh, q⟩ := h
    have hsz : rsz R ≤ 15 := by
      have a := rsz_le R
      have b : 2 ^ (hgt R + 1) ≤ 2 ^ 4 := Nat.pow_le_pow_right (by decide) (by omega)
      omega
    refine ⟨v, rfl, by show 2 ≤ sizeLine; decide, fun t nt => ⟨by show 1 ≤ sizeLine; decide, fun l nl => ⟨_, _, rfl, ?_⟩⟩⟩
    have hl0 : H l = none := fresh_back (Ex.new nt) nl
    have e0 : Ex H (upd (upd H t (.tup [v, .int 1])) l (.lst [.ref t])) := (Ex.new nt).trans (Ex.new nl)
    refine q_while (fun m σ G => Stk K p n v H l m σ G) (rsz R) ⟨[.ref t], [(R, 1)], 0, none, none, rfl, upd_same, .cons (.tup (Ex.new nl |> fun e => ex_t e (st_of upd_same)) (.cons (dp_ex e0 _ _ hd) (.cons (.int 1) .nil))) .nil, fun s hs => ?_, by simp [ssz], by omega, e0⟩ fun m σ G hW => ?_
    · have es : s = (R, 1) := by simpa using hs
      subst es
      exact ⟨hk, by show 1 + hgt R ≤ 4; omega⟩
    obtain ⟨us0, ss, wd, y5, y6, rfl, hl, hv, hss, rfl, hwd, eG⟩ := hW
    have test : EvT (tTest (tOp (rNeD K) (tVar 3) (tLst tNil))) [some (.int p), some (.int (n : Int)), some v, some (.ref l), some (.int (wd : Int)), y5, y6] G (!PyData.eqv (.list (ss.map dS)) (.list [])) :=
      et_test (e_neDL (ev_var rfl) (el_lst ea_nil (by simp)) (.lst (sq_of hl) hv) .nil (sh_Ss fun s hs => by have := (hss s hs).2; omega) (by decide))
    rcases snoc_cases ss with rfl | ⟨ss, ⟨R0, d⟩, rfl⟩
    · refine ⟨false, et_is test (by simp [PyData.eqv, PyData.eqvAll]), fun z => absurd z (by decide), fun _ G1 e1 => ?_⟩
      exact s_ret ev_c fun G2 e2 => q G2 ((eG.trans e1).trans e2)
    · refine ⟨true, et_is test (by rw [PyData.eqv, eqva_nil (by simp)]; rfl), fun _ G1 e1 => ?_, fun z => absurd z (by decide)⟩
      rw [List.map_append, List.map_cons, List.map_nil] at hv
      obtain ⟨us, y, rfl, hus, hy⟩ := dpa_snoc hv
      have hR := hss (R0, d) (by simp)
      have hrest : ∀ s ∈ ss, RlOk p n s.1 ∧ s.2 + hgt s.1 ≤ 4 := fun s hs => hss s (by simp [hs])
      have hRk : RlOk p n R0 := hR.1
      have hRd : d + hgt R0 ≤ 4 := hR.2
      rw [ssz_snoc] at hwd ⊢
      have hpos := rsz_pos R0
      have hwd : wd + (ssz ss + rsz R0) ≤ 15 := hwd
      cases hy with
      | tup sy ay =>
        cases ay with
        | cons a1 a2 =>
          cases a2 with
          | cons a3 a4 =>
            cases a4
            cases a3
            rename_i ay vr
            have hl1 : G1 l = some (.lst (us ++ [.ref ay])) := e1 _ _ hl
            refine ⟨fun σ G => ∃ m', m' < ssz ss + rsz R0 ∧ Stk K p n v H l m' σ G, fun σ2 H2 n2 => n2, ?_⟩
            have t2 : TEx K G (upd G1 l (.lst us)) := (Ex.t e1).trans (tex_upd hl1)
            have e2 : Ex H (upd G1 l (.lst us)) := Ex.mut (eG.trans e1) hl0
            refine ⟨.ref l, rfl, .inl ⟨rfl, _, sq_of hl1⟩, l, us ++ [.ref ay], .ref ay, rfl, rfl, hl1, by simp, ?_⟩
            rw [List.dropLast_concat]
            refine ⟨ay, [vr, .int (d : Int)], rfl, t2 _ _ sy, rfl, vr, [.int (d : Int)], rfl, .int (d : Int), [], rfl, rfl, ?_⟩
            have hl2 : (upd G1 l (.lst us)) l = some (.lst us) := upd_same
            have hus2 := dpa_tex t2 _ _ (noL_Ss ss) hus
            have hvr2 := rl_tex t2 a1
            generalize upd G1 l (.lst us) = G2 at hl2 hus2 hvr2 e2 t2
            refine q_aug (a := (wd : Int)) (b := 1) rfl ev_c fun G3 e3 => ?_
            refine q_when (b := false) (et_is (et_or (et_B (e_cmp (p := fun i j => decide (j < i)) (ev_var rfl) ev_c)) fun _ => et_B (e_cmp (p := fun i j => decide (j < i)) (ev_var rfl) ev_c)) ?_) (fun z => by cases z) fun _ G4 e4 => ?_
            · rw [decide_eq_false (by omega), decide_eq_false (by omega)]
              rfl
            have e24 := e3.trans e4
            have hvr4 := dp_ex e24 _ _ hvr2
            obtain ⟨av, z, rest, rfl, sv, hz⟩ := dr_head hvr4
            refine q_when (b := false) (et_is (et_or (et_not (et_B (e_isi (ev_var rfl) (Knd.tup sv) (by decide)))) fun _ => et_or (et_test (e_eqDU (ev_var rfl) (eu_tup ea_nil (by simp)) hvr4 .nil (sh_R (by omega)) (by decide))) fun _ => et_not (et_B (e_isi (e_ixT (ev_var rfl) ev_c sv (atI_nat (j := 0) rfl)) (Knd.str z) (by decide)))) ?_) (fun z => by cases z) fun _ G5 e5 => ?_
            · rw [eqv_R_nil]
              decide +kernel
            have e25 := e24.trans e5
            have hl5 : G5 l = some (.lst us) := e25 _ _ hl2
            have hus5 := dpa_ex e25 _ _ hus2
            have sv5 := ex_t e5 sv
            have hvr5 := dp_ex e5 _ _ hvr4
            have eH5 := e2.trans e25
            have ewd : (wd : Int) + 1 = ((wd + 1 : Nat) : Int) := by omega
            have ed : (d : Int) + 1 = ((d + 1 : Nat) : Int) := by omega
            have hul : us.length ≤ 15 := by
              have a := dpa_len hus
              have b := ssz_len ss
              rw [List.length_map] at a
              omega
            cases R0 with
            | join o r1 r2 =>
              obtain ⟨av', v1, v2, e, s3, h1, h2⟩ := join_inv hvr5
              cases e
              have hh : d + (max (hgt r1) (hgt r2) + 1) ≤ 4 := hRd
              have hs : rsz (.join o r1 r2) = 1 + rsz r1 + rsz r2 := rfl
              refine s_if (b := true) (et_is (et_test (e_inT (e_ixT (ev_var rfl) ev_c s3 (atI_nat (j := 0) rfl)) ev_c (T.tJOINS _) rfl (by decide +kernel))) (by cases o <;> decide +kernel)) (fun _ G6 e6 => ?_) fun z => by cases z
              refine q_when (b := false) (et_is (et_B (e_cmp (p := fun i j => !decide (i = j)) (e_len (ev_var rfl) (.inr (ex_t e6 s3))) ev_c)) rfl) (fun z => by cases z) fun _ G7 e7 => ?_
              have e57 := e6.trans e7
              have s7 := ex_t e57 s3
              have h17 := dp_ex e57 _ _ h1
              have h27 := dp_ex e57 _ _ h2
              have hl7 : G7 l = some (.lst us) := e57 _ _ hl5
              have hus7 := dpa_ex e57 _ _ hus5
              have eH7 := eH5.trans e57
              refine q_appU hl7 (ev_var rfl) (eu_tup (ea_cons (e_ixT (ev_var rfl) ev_c s7 (atI_nat (j := 1) rfl)) (ea_cons (e_add (ev_var rfl) ev_c) ea_nil)) (by simp)) (by omega) fun p8 G8 _ e8 h8 => ?_
              have hl8 : G8 l = some (.lst us) := e8 _ _ hl7
              have t9 : TEx K G7 (upd G8 l (.lst (us ++ [.ref p8]))) := (Ex.t e8).trans (tex_upd hl8)
              have e9 : Ex H (upd G8 l (.lst (us ++ [.ref p8]))) := Ex.mut (eH7.trans e8) hl0
              have hl9 : (upd G8 l (.lst (us ++ [.ref p8]))) l = some (.lst (us ++ [.ref p8])) := upd_same
              have s9 := t9 _ _ s7
              have h19 := rl_tex t9 h17
              have h29 := rl_tex t9 h27
              have hus9 := dpa_tex t9 _ _ (noL_Ss ss) hus7
              have h89 : SqT K (upd G8 l (.lst (us ++ [.ref p8]))) p8 [v1, .int ((d : Int) + 1)] := tex_upd hl8 _ _ (st_of h8)
              generalize upd G8 l (.lst (us ++ [.ref p8])) = G9 at t9 e9 hl9 s9 h19 h29 hus9 h89
              refine s_appU hl9 (ev_var rfl) (eu_tup (ea_cons (e_ixT (ev_var rfl) ev_c s9 (atI_nat (j := 2) rfl)) (ea_cons (e_add (ev_var rfl) ev_c) ea_nil)) (by simp)) (by simp; omega) fun p10 G10 _ e10 h10 => ?_
              have hl10 : G10 l = some (.lst (us ++ [.ref p8])) := e10 _ _ hl9
              have t11 : TEx K G9 (upd G10 l (.lst (us ++ [.ref p8] ++ [.ref p10]))) := (Ex.t e10).trans (tex_upd hl10)
              refine ⟨ssz (ss ++ [(r1, d + 1)] ++ [(r2, d + 1)]), by rw [ssz_snoc, ssz_snoc, hs]; show ssz ss + rsz r1 + rsz r2 < _; omega, us ++ [.ref p8] ++ [.ref p10], ss ++ [(r1, d + 1)] ++ [(r2, d + 1)], wd + 1, _, _, by rw [← ewd]; rfl, upd_same, ?_, ?_, rfl, ?_, Ex.mut (e9.trans e10) hl0⟩
              · rw [List.map_append, List.map_append]
                refine dpa_app (dpa_app (dpa_tex t11 _ _ (noL_Ss ss) hus9) (.cons (.tup (t11 _ _ h89) (.cons (rl_tex t11 h19) (.cons ?_ .nil))) .nil)) (.cons (.tup (tex_upd hl10 _ _ (st_of h10)) (.cons (rl_tex t11 h29) (.cons ?_ .nil))) .nil)
                · rw [ed]
                  exact .int _
                · rw [ed]
                  exact .int _
              · intro s hs
                rcases List.mem_append.mp hs with hs | hs
                · rcases List.mem_append.mp hs with hs | hs
                  · exact hrest s hs
                  · have es : s = (r1, d + 1) := by simpa using hs
                    subst es
                    exact ⟨hRk.1, by show d + 1 + hgt r1 ≤ 4; omega⟩
                · have es : s = (r2, d + 1) := by simpa using hs
                  subst es
                  exact ⟨hRk.2, by show d + 1 + hgt r2 ≤ 4; omega⟩
              · rw [ssz_snoc, ssz_snoc]
                rw [hs] at hwd
                show wd + 1 + (ssz ss + rsz r1 + rsz r2) ≤ 15
                omega
            | leaf q0 =>
              have hin : inV (.str z) [.str "plus", .str "minus", .str "times"] = false := by
                subst hz
                cases q0
                · show inV (.str "number") _ = false
                  decide +kernel
                · show inV (.str "name") _ = false
                  decide +kernel
              refine s_if (b := false) (et_is (et_test (e_inT (e_ixT (ev_var rfl) ev_c sv5 (atI_nat (j := 0) rfl)) ev_c (T.tJOINS _) rfl (by decide +kernel))) hin) (fun z => by cases z) fun _ G6 e6 => ?_
              refine s_when (b := false) (et_not (et_B (ev_call (ea_cons (ev_var rfl) (ea_cons (ev_var rfl) (ea_cons (ev_var rfl) ea_nil))) (sv_is_leaf (dp_ex e6 _ _ hvr5) hRk trivial)))) (fun z => by cases z) fun _ G7 e7 => ?_
              refine ⟨ssz ss, by omega, us, ss, wd + 1, _, _, by rw [← ewd]; rfl, (e6.trans e7) _ _ hl5, dpa_ex (e6.trans e7) _ _ hus5, hrest, rfl, by omega, eH5.trans (e6.trans e7)⟩
            | tab t0 ps0 =>
              have hin : inV (.str z) [.str "plus", .str "minus", .str "times"] = false := by
                subst hz
                show inV (.str "table") _ = false
                decide +kernel
              refine s_if (b := false) (et_is (et_test (e_inT (e_ixT (ev_var rfl) ev_c sv5 (atI_nat (j := 0) rfl)) ev_c (T.tJOINS _) rfl (by decide +kernel))) hin) (fun z => by cases z) fun _ G6 e6 => ?_
              refine s_when (b := false) (et_not (et_B (ev_call (ea_cons (ev_var rfl) (ea_cons (ev_var rfl) (ea_cons (ev_var rfl) ea_nil))) (sv_is_leaf (dp_ex e6 _ _ hvr5) hRk trivial)))) (fun z => by cases z) fun _ G7 e7 => ?_
              refine ⟨ssz ss, by omega, us, ss, wd + 1, _, _, by rw [← ewd]; rfl, (e6.trans e7) _ _ hl5, dpa_ex (e6.trans e7) _ _ hus5, hrest, rfl, by omega, eH5.trans (e6.trans e7)⟩
theorem sv_is_plain_rule {p : Int} {n : Nat} {v : V} {R : Rl} (h : Dp K H v (dR R)) (hk : RlOk p n R) (hh : hgt R ≤ 3) : SpV (sp_is_plain_rule K) [.int p, .int (n : Int), v] H (.bl true) := fun H1 e Q k E => ⟨p, n, v, R, rfl, dp_ex e _ _ h, hk, hh, k⟩
end
end K10

set_option Elab.async false
set_option linter.all false
set_option maxRecDepth 100000
set_option maxHeartbeats 4000000
/-! K10RdE: values, degrees, sums -/
namespace K10
open PySem PySem.Spec PyProof.Rows L2 Evl K10M
section
variable {P : Program} {w : World} {K : PySem.W.Frag} {mg : Str → Option Value} {base : Heap} {H H' : Hp}

/-! ### place_at, value_at -/
def sp_place_at (K : PySem.W.Frag) : Sp := fun vs H Q _ => ∃ (v : V) (b : Addr) (q : Pl) (x : List Int) (p : Int), vs = [v, .ref b] ∧ Dp K H v (dP q) ∧ SqT K H b (x.map V.int) ∧ PlOk p x.length q ∧ RetV (.int (plv x q)) H Q
theorem ok_place_at (T : Top K mg) : Ok1 P w K mg base 1 "place_at" ["place", "point"] (sp_place_at K) := by
  refine mk_place_at T (k := 0) (fun vs H Q E h => ?_) fun vs H Q E h => ?_
  · obtain ⟨v, b, q, x, p, rfl, _⟩ := h
    rfl
  · obtain ⟨v, b, q, x, p, rfl, hd, hb, hk, k⟩ := h
    obtain ⟨a, rfl, hs⟩ := pl_inv hd
    cases q with
    | num c =>
      exact s_ret (ev_if (b := true) (et_is (et_test (e_eqS (e_ixT (ev_var rfl) ev_c hs (atI_nat (j := 0) rfl)) ev_c rfl)) (by decide +kernel)) (fun _ => e_ixT (ev_var rfl) ev_c hs (atI_nat (j := 1) rfl)) fun z => by cases z) k
    | nam i =>
      have hi : i < x.length := hk
      exact s_ret (ev_if (b := false) (et_is (et_test (e_eqS (e_ixT (ev_var rfl) ev_c hs (atI_nat (j := 0) rfl)) ev_c rfl)) (by decide +kernel)) (fun z => by cases z) fun _ => e_ixT (ev_var rfl) (e_ixT (ev_var rfl) ev_c hs (atI_nat (j := 1) rfl)) hb (int_at hi)) k
theorem sv_place_at {v : V} {b : Addr} {q : Pl} {x : List Int} {p : Int} (h : Dp K H v (dP q)) (hb : SqT K H b (x.map V.int)) (hk : PlOk p x.length q) : SpV (sp_place_at K) [v, .ref b] H (.int (plv x q)) := fun H1 e Q k E => ⟨v, b, q, x, p, rfl, dp_ex e _ _ h, ex_t e hb, hk, k⟩
theorem ints_range (l : List Int) : l.map V.int = (List.range l.length).map fun m => V.int (l.getD m 0) := by
  induction l with
  | nil => rfl
  | cons a l ih =>
    rw [List.length_cons, List.range_succ_eq_map, List.map_cons, List.map_cons, List.map_map, ih]
    rfl
/-- a call whose last argument is a new list -/
theorem ev_call3L {σ : L2.St} {ta tb tc : TE} {sp : Sp} {x y z : V} {xs : List V} (a : Ev ta σ H x) (b : Ev tb σ H y) (c : EvL tc σ H xs) (h : ∀ l H1, Ex H H1 → H1 l = some (.lst xs) → SpV sp [x, y, .ref l] H1 z) : Ev (tCall sp [] E0 (tCons ta (tCons tb (tCons tc tNil)))) σ H z := fun H1 e Q q =>
  a H1 e _ fun H2 e2 => b H2 (e.trans e2) _ fun H3 e3 => c H3 ((e.trans e2).trans e3) _ fun l H4 _ e4 g => h l H4 (((e.trans e2).trans e3).trans e4) g H4 (Ex.refl H4) Q (fun H5 e5 => q H5 (((e2.trans e3).trans e4).trans e5)) E0
def sp_value_at (h : Nat) (K : PySem.W.Frag) : Sp := fun vs H Q _ => ∃ (p : Int) (v : V) (b : Addr) (R : Rl) (x : List Int), vs = [.int p, v, .ref b] ∧ 1 < p ∧ p < 4294967296 ∧ Dp K H v (dR R) ∧ SqT K H b (x.map V.int) ∧ InAll p x ∧ RlOk p x.length R ∧ hgt R ≤ h ∧ RetV (.int (val p x R)) H Q
theorem sv_value_at {h : Nat} {p : Int} {v : V} {b : Addr} {R : Rl} {x : List Int} (h1 : 1 < p) (h2 : p < 4294967296) (hd : Dp K H v (dR R)) (hb : SqT K H b (x.map V.int)) (hx : InAll p x) (hk : RlOk p x.length R) (hh : hgt R ≤ h) : SpV (sp_value_at h K) [.int p, v, .ref b] H (.int (val p x R)) := fun H1 e Q k E =>
  ⟨p, v, b, R, x, rfl, h1, h2, dp_ex e _ _ hd, ex_t e hb, hx, hk, hh, k⟩
/-- one turn of value_at, its own promise for lower rules given -/
theorem rd_value_at {h : Nat} {spSelf : Sp} (ih : ∀ {H : Hp} {p : Int} {v : V} {b : Addr} {R : Rl} {x : List Int}, 1 < p → p < 4294967296 → Dp K H v (dR R) → SqT K H b (x.map V.int) → InAll p x → RlOk p x.length R → hgt R < h → SpV spSelf [.int p, v, .ref b] H (.int (val p x R)))
    (vs : List V) (H : Hp) (Q : VK) (E : XK) (hsp : sp_value_at h K vs H Q E) : t_value_at K (sp_spread_at K) (sp_place_at K) spSelf ⟨fun _ H' => Q .non H', Q, fun _ _ => False, fun _ _ => False⟩ (start n_value_at vs) H := by
  obtain ⟨p, v, b, R, x, rfl, h1, h2, hd, hb, hx, hk, hh, k⟩ := hsp
  have hp : 0 < p := by omega
  cases R with
  | leaf q =>
    obtain ⟨a, rfl, hs⟩ := pl_inv hd
    obtain ⟨z, hz, ht⟩ : ∃ z : Str, (plS q)[0]? = some (.str z) ∧ (decide (V.str z = V.str "number") || decide (V.str z = V.str "name")) = true := by
      cases q with
      | num c => exact ⟨"number", rfl, by decide +kernel⟩
      | nam i => exact ⟨"name", rfl, by decide +kernel⟩
    refine q_asg (e_ixT (ev_var rfl) ev_c hs (atI_nat (j := 0) hz)) fun H1 e1 => ?_
    refine q_when (b := true) (et_is (et_or (et_test (e_eqS (ev_var rfl) ev_c rfl)) fun _ => et_test (e_eqS (ev_var rfl) ev_c rfl)) ht) (fun _ H2 e2 => ?_) fun z => by cases z
    exact s_ret (ev_call (ea_cons (ev_var rfl) (ea_cons (ev_var rfl) ea_nil)) (sv_place_at (p := p) (dp_ex (e1.trans e2) _ _ hd) (ex_t (e1.trans e2) hb) hk)) fun H3 e3 => k H3 ((e1.trans e2).trans e3)
  | tab t ps =>
    obtain ⟨a, b1, c1, ws, rfl, hs, hb1, hc1, hw⟩ := tab_inv hd
    obtain ⟨k1, k2, k3, k4⟩ := hk
    have hwl : ws.length = ps.length := by rw [dpa_len hw, List.length_map]
    refine q_asg (e_ixT (ev_var rfl) ev_c hs (atI_nat (j := 0) rfl)) fun H1 e1 => ?_
    refine q_when (b := false) (et_is (et_or (et_test (e_eqS (ev_var rfl) ev_c rfl)) fun _ => et_test (e_eqS (ev_var rfl) ev_c rfl)) (by decide +kernel)) (fun z => by cases z) fun _ H2 e2 => ?_
    refine q_when (b := true) (et_is (et_test (e_eqS (ev_var rfl) ev_c rfl)) (by decide +kernel)) (fun _ H3 e3 => ?_) fun z => by cases z
    have e13 := (e1.trans e2).trans e3
    have hs3 := ex_t e13 hs
    have hb3 := ex_t e13 hb1
    have hc3 := ex_t e13 hc1
    have hw3 := dpa_ex e13 _ _ hw
    have hp3 := ex_t e13 hb
    have gl : (ps.map (plv x)).map V.int = (List.range ws.length).map fun m => V.int ((ps.map (plv x)).getD m 0) := by
      rw [ints_range (ps.map (plv x)), List.length_map, hwl]
    refine s_ret (ev_call3L (xs := (ps.map (plv x)).map V.int) (ev_var rfl) (e_ixT (ev_var rfl) ev_c hs3 (atI_nat (j := 1) rfl)) (by
      rw [gl, ← given_all]
      refine el_lcT _ _ (e_ixT (ev_var rfl) ev_c hs3 (atI_nat (j := 2) rfl)) hc3 (by omega) (fun _ => rfl) (fun _ _ _ _ _ => et_yes) fun m y G eG hm _ => ?_
      obtain ⟨d, g1, g2⟩ := dpa_get hw3 hm
      rw [List.getElem?_map] at g1
      cases hq : ps[m]? with
      | none =>
        rw [hq] at g1
        cases g1
      | some q =>
        rw [hq] at g1
        have ed : dP q = d := Option.some.inj g1
        subst ed
        have ev : (ps.map (plv x)).getD m 0 = plv x q := by
          rw [List.getD_eq_getElem?_getD, List.getElem?_map, hq]
          rfl
        rw [ev]
        exact ev_call (ea_cons (ev_var rfl) (ea_cons (ev_var rfl) ea_nil)) (sv_place_at (p := p) (dp_ex eG _ _ g2) (ex_t eG hp3) (k4 q (List.mem_of_getElem? hq)))) fun l G eG gl => sv_spread_at (ex_t eG hb3) (sq_of gl) hp h2 (fun c hc => by
          obtain ⟨q, hq, rfl⟩ := List.mem_map.mp hc
          exact plv_in hp hx q (k4 q hq)) (by rw [List.length_map]; exact k1) (by rw [List.length_map]; exact k2)) fun H4 e4 => k H4 (e13.trans e4)
  | join o r1 r2 =>
    obtain ⟨a, v1, v2, rfl, hs, hd1, hd2⟩ := join_inv hd
    have hh1 : hgt r1 < h := by
      have : max (hgt r1) (hgt r2) + 1 ≤ h := hh
      omega
    have hh2 : hgt r2 < h := by
      have : max (hgt r1) (hgt r2) + 1 ≤ h := hh
      omega
    refine q_asg (e_ixT (ev_var rfl) ev_c hs (atI_nat (j := 0) rfl)) fun H1 e1 => ?_
    refine q_when (b := false) (et_is (et_or (et_test (e_eqS (ev_var rfl) ev_c rfl)) fun _ => et_test (e_eqS (ev_var rfl) ev_c rfl)) (by cases o <;> decide +kernel)) (fun z => by cases z) fun _ H2 e2 => ?_
    refine q_when (b := false) (et_is (et_test (e_eqS (ev_var rfl) ev_c rfl)) (by cases o <;> decide +kernel)) (fun z => by cases z) fun _ H3 e3 => ?_
    have e13 := (e1.trans e2).trans e3
    have hs3 := ex_t e13 hs
    have hp3 := ex_t e13 hb
    refine q_par (ea_cons (ev_call (ea_cons (ev_var rfl) (ea_cons (e_ixT (ev_var rfl) ev_c hs3 (atI_nat (j := 1) rfl)) (ea_cons (ev_var rfl) ea_nil))) (ih h1 h2 (dp_ex e13 _ _ hd1) hp3 hx hk.1 hh1)) (ea_cons (ev_call (ea_cons (ev_var rfl) (ea_cons (e_ixT (ev_var rfl) ev_c hs3 (atI_nat (j := 2) rfl)) (ea_cons (ev_var rfl) ea_nil))) (ih h1 h2 (dp_ex e13 _ _ hd2) hp3 hx hk.2 hh2)) ea_nil)) fun H4 e4 => ?_
    have e14 := e13.trans e4
    have i1 := val_in hp hx r1 hk.1
    cases o with
    | times =>
      refine q_when (b := true) (et_is (et_test (e_eqS (ev_var rfl) ev_c rfl)) (by decide +kernel)) (fun _ H5 e5 => ?_) fun z => by cases z
      exact s_ret (e_mod (e_mul (ev_var rfl) (ev_var rfl) (mul_ok i1 h2)) (ev_var rfl) hp) fun H6 e6 => k H6 ((e14.trans e5).trans e6)
    | plus =>
      refine q_when (b := false) (et_is (et_test (e_eqS (ev_var rfl) ev_c rfl)) (by decide +kernel)) (fun z => by cases z) fun _ H5 e5 => ?_
      exact s_ret (ev_if (b := true) (et_is (et_test (e_eqS (ev_var rfl) ev_c rfl)) (by decide +kernel)) (fun _ => e_mod (e_add (ev_var rfl) (ev_var rfl)) (ev_var rfl) hp) fun z => by cases z) fun H6 e6 => k H6 ((e14.trans e5).trans e6)
    | minus =>
      refine q_when (b := false) (et_is (et_test (e_eqS (ev_var rfl) ev_c rfl)) (by decide +kernel)) (fun z => by cases z) fun _ H5 e5 => ?_
      exact s_ret (ev_if (b := false) (et_is (et_test (e_eqS (ev_var rfl) ev_c rfl)) (by decide +kernel)) (fun z => by cases z) fun _ => e_mod (e_sub (ev_var rfl) (ev_var rfl)) (ev_var rfl) hp) fun H6 e6 => k H6 ((e14.trans e5).trans e6)
/-- a promise that nothing keeps asking: of rules below height 0 -/
def spNo : Sp := fun _ _ _ _ => False
/-- the def at level 1 under a promise that asks the impossible -/
theorem ok_never (T : Top K mg) : Ok1 P w K mg base 1 "value_at" ["p", "rule", "point"] spNo := by
  refine T.ok (k := 0) (d := d_value_at) 18 rfl sc_value_at (fun _ _ _ _ _ _ us hl => match us, hl with | [_, _, _], _ => rfl) (fun vs H Q E h => h.elim) fun cdv A outer s H vs Q E hr h => h.elim
theorem len_value_at {h : Nat} (vs : List V) (H : Hp) (Q : VK) (E : XK) (hs : sp_value_at h K vs H Q E) : vs.length = 3 := by
  obtain ⟨p, v, b, R, x, rfl, _⟩ := hs
  rfl
theorem ok_value_at (T : Top K mg) : ∀ h : Nat, Ok1 P w K mg base (4 + h) "value_at" ["p", "rule", "point"] (sp_value_at h K)
  | 0 => mk_value_at T (k := 3) (O_spread_at := ok_spread_at T) (O_place_at := ok_place_at T) (OSelf := ok_never T) (by decide) (by decide) (by decide) len_value_at (rd_value_at fun {H p v b R x} _ _ _ _ _ _ hh => absurd hh (Nat.not_lt_zero _))
  | h + 1 => mk_value_at T (k := 4 + h) (O_spread_at := ok_spread_at T) (O_place_at := ok_place_at T) (OSelf := ok_value_at T h) (by omega) (by omega) (by omega) len_value_at (rd_value_at fun {H p v b R x} h1 h2 hd hb hx hk hh => sv_value_at h1 h2 hd hb hx hk (by omega))
end
end K10

set_option Elab.async false
set_option linter.all false
set_option maxRecDepth 100000
set_option maxHeartbeats 4000000
/-! K10RdF: degrees, sums, draws -/
namespace K10
open PySem PySem.Spec PyProof.Rows L2 Evl K10M
section
variable {P : Program} {w : World} {K : PySem.W.Frag} {mg : Str → Option Value} {base : Heap} {H H' : Hp}

/-- [e for a, b in zip(two tuples)] -/
theorem el_zipT {σ : L2.St} {p q : Addr} {xs ys : List V} {ta tb te : TE} {k1 k2 : Nat} {vs : List Nat} (g : Nat → V) (ha : Ev ta σ H (.ref p)) (hb : Ev tb σ H (.ref q)) (hx : SqT K H p xs) (hy : SqT K H q ys) (hl : xs.length = ys.length) (hz : xs.length ≤ 40000)
    (hw : ∀ x y, wipe (((wipe σ vs).set k1 (some x)).set k2 (some y)) vs = wipe σ vs)
    (he : ∀ (m : Nat) (x y : V) H1, Ex H H1 → xs[m]? = some x → ys[m]? = some y → Ev te (((wipe σ vs).set k1 (some x)).set k2 (some y)) H1 (g m)) :
    EvL (tLc (RZ.iZipA K (tCons ta (tCons tb tNil))) (gTup K 2 (gCons (gName k1) (gCons (gName k2) gNil))) tYes te vs) σ H ((List.range xs.length).map g) := fun H0 e Q k =>
  ha H0 e _ fun H1 e1 => hb H1 (e.trans e1) _ fun H2 e2 => by
    have e02 := e1.trans e2
    have eH2 := e.trans e02
    refine ⟨p, q, xs, ys, rfl, .inr ⟨ex_t eH2 hx, ex_t eH2 hy, fun L hL => ?_⟩⟩
    rw [← given_all] at k
    refine ⟨fun i m G => m = xs.length - i ∧ i ≤ xs.length ∧ Cw H2 (fun _ => true) g L i G, ⟨xs.length, rfl, Nat.zero_le _, hL, Ex.new hL, upd_same⟩, fun i m G hW => ?_⟩
    obtain ⟨rfl, hi, hC⟩ := hW
    have sx := ex_t (eH2.trans hC.2.1) hx
    have sy := ex_t (eH2.trans hC.2.1) hy
    by_cases hlt : i < xs.length
    · have hlt2 : i < ys.length := by omega
      refine .inr ⟨⟨xs, ys, _, _, sx, sy, List.getElem?_eq_getElem hlt, List.getElem?_eq_getElem hlt2⟩, fun G => Cw H2 (fun _ => true) g L (i + 1) G, fun G hG => ⟨xs.length - (i + 1), by omega, rfl, hlt, hG⟩, fun v G' hy' => ?_⟩
      obtain ⟨T, x, y, rfl, hT, rfl, f1, f2⟩ := hy'
      refine ⟨T, [x, y], rfl, .inl (.inl upd_same), rfl, x, [y], rfl, y, [], rfl, rfl, hw x y, ?_⟩
      have hC2 : Cw H2 (fun _ => true) g L i (upd G T (.tup [x, y])) := ⟨hC.1, hC.2.1.trans (Ex.new hT), by rw [upd_ne (ne_of_none hC.2.2 hT)]; exact hC.2.2⟩
      exact cw_turn (te := te) (t := tYes) (σ2 := ((wipe σ vs).set k1 (some x)).set k2 (some y)) hC2 (by omega) et_yes fun _ => he i x y H2 eH2 (f1 xs sx) (f2 ys sy)
    · have ei : i = xs.length := by omega
      subst ei
      exact .inl ⟨⟨xs, ys, sx, sy, .inl (Nat.le_refl _)⟩, k L G (fresh_back e02 hC.1) (e02.trans hC.2.1) hC.2.2⟩
theorem es_if {σ : L2.St} {t : TT} {ta tb : TE} {b : Bool} {xs : List V} (h : EvT t σ H b) (h1 : b = true → EvS K ta σ H xs) (h2 : b = false → EvS K tb σ H xs) : EvS K (tIf t ta tb) σ H xs := fun H1 e Q q => h H1 e _ fun H2 e2 => by
  cases b with
  | true =>
    show ta σ H2 Q
    exact h1 rfl H2 (e.trans e2) Q fun p H3 e3 g => q p H3 (e2.trans e3) g
  | false =>
    show tb σ H2 Q
    exact h2 rfl H2 (e.trans e2) Q fun p H3 e3 g => q p H3 (e2.trans e3) g
theorem q_parS {σ : L2.St} {a b : Nat} {ta tb : TE} {tz : TS} {D : Ends} {xs ys : List V} (h1 : EvS K ta σ H xs) (h2 : EvS K tb σ H ys) (k : ∀ p q H1, Ex H H1 → SqT K H1 p xs → SqT K H1 q ys → tz D ((σ.set a (some (.ref p))).set b (some (.ref q))) H1) : tSeq (tPar a b (tCons ta (tCons tb tNil))) tz D σ H :=
  h1 H (Ex.refl H) _ fun p H1 e1 g1 => h2 H1 e1 _ fun q H2 e2 g2 => ⟨.ref p, .ref q, rfl, k p q H2 (e1.trans e2) (ex_t e2 g1) g2⟩
theorem max_int (a b : Nat) : (if (b : Int) > (a : Int) then (b : Int) else (a : Int)) = ((max a b : Nat) : Int) := by
  by_cases h : a < b
  · rw [if_pos (by omega), Nat.max_eq_right (by omega)]
  · rw [if_neg (by omega), Nat.max_eq_left (by omega)]
/-! ### told_degrees -/
def dgV (n : Nat) (R : Rl) : List V := (List.range n).map fun i => V.int (dg i R)
def sp_told (h : Nat) (K : PySem.W.Frag) : Sp := fun vs H Q _ => ∃ (n : Nat) (v : V) (R : Rl) (p : Int), vs = [.int (n : Int), v] ∧ Dp K H v (dR R) ∧ RlOk p n R ∧ n ≤ 100 ∧ hgt R ≤ h ∧ RetS K (dgV n R) H Q
theorem ss_told {h n : Nat} {v : V} {R : Rl} {p : Int} (hd : Dp K H v (dR R)) (hk : RlOk p n R) (hn : n ≤ 100) (hh : hgt R ≤ h) : SpS K (sp_told h K) [.int (n : Int), v] H (dgV n R) := fun H1 e Q k E => ⟨n, v, R, p, rfl, dp_ex e _ _ hd, hk, hn, hh, k⟩
theorem dgV_len (n : Nat) (R : Rl) : (dgV n R).length = n := by simp [dgV]
theorem dgV_get {n : Nat} {R : Rl} {m : Nat} {x : V} (h : (dgV n R)[m]? = some x) : x = .int (dg m R) := by
  unfold dgV at h
  rw [List.getElem?_map] at h
  cases hg : (List.range n)[m]? with
  | none =>
    rw [hg] at h
    cases h
  | some i =>
    rw [hg] at h
    have hm : i = m := by
      have := (List.getElem?_eq_some_iff.mp hg)
      obtain ⟨a, b⟩ := this
      rw [List.getElem_range] at b
      exact b.symm
    subst hm
    exact (Option.some.inj h).symm
/-- whether a place is the name i -/
def isNam (i : Nat) (q : Pl) : Bool := decide (q = .nam i)
theorem eqv_P (q : Pl) (i : Nat) : PyData.eqv (dP q) (.tuple [.str "name", .int (i : Int)]) = isNam i q := by
  cases q with
  | num a =>
    have e : ((("number" : Str) : Str) == ("name" : Str)) = false := by decide +kernel
    simp [dP, PyData.eqv, PyData.eqvAll, e, isNam]
  | nam j =>
    have e : ((("name" : Str) : Str) == ("name" : Str)) = true := by decide +kernel
    by_cases h : j = i
    · subst h
      simp [dP, PyData.eqv, PyData.eqvAll, isNam]
    · have h2 : ¬ (j : Int) = (i : Int) := by omega
      simp [dP, PyData.eqv, PyData.eqvAll, isNam, h, h2]
theorem pdg_isNam (i : Nat) (q : Pl) : pdg i q = if isNam i q then 1 else 0 := by
  cases q with
  | num a => rfl
  | nam j =>
    by_cases h : j = i
    · simp [pdg, isNam, h]
    · simp [pdg, isNam, h]
theorem count_nam (i : Nat) : ∀ ps : List Pl, ((List.range ps.length).filter fun m => isNam i (ps.getD m (.num 0))).length = (ps.map (pdg i)).sum
  | [] => rfl
  | q :: ps => by
    have ih := count_nam i ps
    rw [List.length_cons, List.range_succ_eq_map, List.filter_cons, List.map_cons, List.sum_cons, ← ih, pdg_isNam, List.filter_map]
    have e : (fun m => isNam i ((q :: ps).getD m (.num 0))) ∘ Nat.succ = fun m => isNam i (ps.getD m (.num 0)) := by
      funext m
      show isNam i ((q :: ps).getD (m + 1) (.num 0)) = _
      simp
    rw [e]
    show List.length (if isNam i q = true then (0 :: List.map Nat.succ _) else _) = _
    by_cases h : isNam i q = true
    · rw [if_pos h, if_pos h, List.length_cons, List.length_map]
      omega
    · rw [if_neg h, if_neg h, List.length_map]
      omega
theorem rd_told {h : Nat} {spSelf : Sp} (T : Top K mg) (ih : ∀ {H : Hp} {n : Nat} {v : V} {R : Rl} {p : Int}, Dp K H v (dR R) → RlOk p n R → n ≤ 100 → hgt R < h → SpS K spSelf [.int (n : Int), v] H (dgV n R))
    (vs : List V) (H : Hp) (Q : VK) (E : XK) (hsp : sp_told h K vs H Q E) : t_told_degrees K spSelf ⟨fun _ H' => Q .non H', Q, fun _ _ => False, fun _ _ => False⟩ (start n_told_degrees vs) H := by
  obtain ⟨n, v, R, p, rfl, hd, hk, hn, hh, k⟩ := hsp
  -- the last part: places is the tuple of these places
  have last : ∀ (ps : List Pl) (ws : List V) (a5 : Addr) (σ : L2.St) (G : Hp), σ[0]? = some (some (.int (n : Int))) → σ.length = 10 → (wipe (wipe σ [6]) [9]) = wipe (wipe σ [6]) [9] → σ[5]? = some (some (.ref a5)) → SqT K G a5 ws → DpAll K G ws (ps.map dP) → ps.length ≤ 2 → Ex H G →
      (∀ i, dg i R = (ps.map (pdg i)).sum) →
      tRet (tCB (rTupQ K) (tCons (tLc (iRng1 (tCons (tVar 0) tNil)) (gName 6) tYes (tCB (rLenQ K) (tCons (tLc (iTup K (tVar 5)) (gName 9) (tTest (tOp (rEqD K) (tVar 9) (tTup (tCons (tC (.str "name")) (tCons (tVar 6) tNil))))) (tVar 9) [9]) tNil)) [6]) tNil)) ⟨fun _ H' => Q .non H', Q, fun _ _ => False, fun _ _ => False⟩ σ G := by
    intro ps ws a5 σ G h0 hlen _ h5 hs hw hps eG hdg
    obtain ⟨s0, s1, s2, s3, s4, s5, s6, s7, s8, s9, rfl⟩ : ∃ s0 s1 s2 s3 s4 s5 s6 s7 s8 s9, σ = [s0, s1, s2, s3, s4, s5, s6, s7, s8, s9] := by
      match σ, hlen with
      | [s0, s1, s2, s3, s4, s5, s6, s7, s8, s9], _ => exact ⟨s0, s1, s2, s3, s4, s5, s6, s7, s8, s9, rfl⟩
    cases (show some s0 = _ from h0)
    cases (show some s5 = _ from h5)
    have hwl : ws.length = ps.length := by rw [dpa_len hw, List.length_map]
    refine s_retS (EvU.s (eu_tupL (el_mapR (n := (n : Int)) (fun i => V.int (dg i R)) (ea_cons (ev_var rfl) ea_nil) (by omega) (fun _ => rfl) fun i G1 e1 hi => ?_))) fun a H2 e2 hsa => k a H2 (eG.trans e2) (by rw [Int.toNat_natCast] at hsa; exact hsa)
    have c := el_lcT (K := K) (σ := [some (V.int (n : Int)), s1, s2, s3, s4, some (.ref a5), some (.int (i : Int)), s7, s8, s9]) (H := G1) (te := tVar 9) (t := tTest (tOp (rEqD K) (tVar 9) (tTup (tCons (tC (.str "name")) (tCons (tVar 6) tNil))))) (tl := tVar 5) (k := 9) (vs := [9]) (fun m => isNam i (ps.getD m (.num 0))) (fun m => ws.getD m .non) (ev_var rfl) (ex_t e1 hs) (by omega) (fun _ => rfl) (fun m y G2 e3 hm => ?_) (fun m y G2 e3 hm _ => ?_)
    · refine ev_is (e_lenL c) ?_
      rw [hdg i, ← count_nam i ps, hwl]
      unfold given
      rw [List.length_map]
    · obtain ⟨d, g1, g2⟩ := dpa_get hw hm
      rw [List.getElem?_map] at g1
      cases hq : ps[m]? with
      | none =>
        rw [hq] at g1
        cases g1
      | some q =>
        rw [hq] at g1
        have ed : dP q = d := Option.some.inj g1
        subst ed
        have eq : ps.getD m (.num 0) = q := by
          rw [List.getD_eq_getElem?_getD, hq]
          rfl
        rw [eq, ← eqv_P]
        exact et_test (e_eqDU (ev_var rfl) (eu_tup (ea_cons ev_c (ea_cons (ev_var rfl) ea_nil)) (by simp)) (dp_ex (e1.trans e3) _ _ g2) (.cons (.str _) (.cons (.int _) .nil)) (sh_P q) (sh_P (.nam i)))
    · rw [getD_some hm]
      exact ev_var rfl
  cases R with
  | leaf q =>
    obtain ⟨a, rfl, hs⟩ := pl_inv hd
    obtain ⟨z, hz, ht, hj⟩ : ∃ z : Str, (plS q)[0]? = some (.str z) ∧ decide (V.str z = V.str "table") = false ∧ inV (.str z) [.str "plus", .str "minus", .str "times"] = false := by
      cases q with
      | num c => exact ⟨"number", rfl, by decide +kernel, by decide +kernel⟩
      | nam i => exact ⟨"name", rfl, by decide +kernel, by decide +kernel⟩
    refine q_asg (e_ixT (ev_var rfl) ev_c hs (atI_nat (j := 0) hz)) fun H1 e1 => ?_
    refine q_when (b := false) (et_is (et_test (e_inT (ev_var rfl) ev_c (T.tJOINS _) rfl (by decide +kernel))) hj) (fun z => by cases z) fun _ H2 e2 => ?_
    refine q_asgS (K := K) (xs := [.ref a]) (es_if (b := false) (et_is (et_test (e_eqS (ev_var rfl) ev_c rfl)) ht) (fun z => by cases z) fun _ => EvU.s (K := K) (eu_tup (ea_cons (ev_var rfl) ea_nil) (by simp))) fun a5 H3 e3 h5 => ?_
    refine last [q] [.ref a] a5 _ H3 rfl rfl rfl rfl h5 (.cons (dp_ex ((e1.trans e2).trans e3) _ _ hd) .nil) (by simp) ((e1.trans e2).trans e3) fun i => ?_
    show pdg i q = _
    simp
  | tab t ps =>
    obtain ⟨a, b1, c1, ws, rfl, hs, hb1, hc1, hw⟩ := tab_inv hd
    refine q_asg (e_ixT (ev_var rfl) ev_c hs (atI_nat (j := 0) rfl)) fun H1 e1 => ?_
    refine q_when (b := false) (et_is (et_test (e_inT (ev_var rfl) ev_c (T.tJOINS _) rfl (by decide +kernel))) (by decide +kernel)) (fun z => by cases z) fun _ H2 e2 => ?_
    have e12 := e1.trans e2
    refine q_asgS (xs := ws) (es_if (b := true) (et_is (et_test (e_eqS (ev_var rfl) ev_c rfl)) (by decide +kernel)) (fun _ => es_of (e_ixT (ev_var rfl) ev_c (ex_t e12 hs) (atI_nat (j := 2) rfl)) (ex_t e12 hc1)) fun z => by cases z) fun a5 H3 e3 h5 => ?_
    exact last ps ws a5 _ H3 rfl rfl rfl rfl h5 (dpa_ex (e12.trans e3) _ _ hw) hk.2.1 (e12.trans e3) fun i => rfl
  | join o r1 r2 =>
    obtain ⟨a, v1, v2, rfl, hs, hd1, hd2⟩ := join_inv hd
    have hh1 : hgt r1 < h := by
      have : max (hgt r1) (hgt r2) + 1 ≤ h := hh
      omega
    have hh2 : hgt r2 < h := by
      have : max (hgt r1) (hgt r2) + 1 ≤ h := hh
      omega
    refine q_asg (e_ixT (ev_var rfl) ev_c hs (atI_nat (j := 0) rfl)) fun H1 e1 => ?_
    refine q_when (b := true) (et_is (et_test (e_inT (ev_var rfl) ev_c (T.tJOINS _) rfl (by decide +kernel))) (by cases o <;> decide +kernel)) (fun _ H2 e2 => ?_) fun z => by cases z
    have e12 := e1.trans e2
    have hs2 := ex_t e12 hs
    refine q_parS (es_call (ea_cons (ev_var rfl) (ea_cons (e_ixT (ev_var rfl) ev_c hs2 (atI_nat (j := 1) rfl)) ea_nil)) (ih (dp_ex e12 _ _ hd1) hk.1 hn hh1)) (es_call (ea_cons (ev_var rfl) (ea_cons (e_ixT (ev_var rfl) ev_c hs2 (atI_nat (j := 2) rfl)) ea_nil)) (ih (dp_ex e12 _ _ hd2) hk.2 hn hh2)) fun p1 p2 H3 e3 g1 g2 => ?_
    have e13 := e12.trans e3
    have hl : (dgV n r1).length = (dgV n r2).length := by rw [dgV_len, dgV_len]
    have hl1 : (dgV n r1).length = n := dgV_len n r1
    cases o with
    | times =>
      refine q_when (b := true) (et_is (et_test (e_eqS (ev_var rfl) ev_c rfl)) (by decide +kernel)) (fun _ H4 e4 => ?_) fun z => by cases z
      refine s_retS (EvU.s (eu_tupL (el_zipT (fun i => V.int (dg i (.join .times r1 r2))) (ev_var rfl) (ev_var rfl) (ex_t e4 g1) (ex_t e4 g2) hl (by omega) (fun _ _ => rfl) fun m x y G eG hx hy => ?_))) fun a5 H5 e5 h5 => k a5 H5 ((e13.trans e4).trans e5) (by rw [hl1] at h5; exact h5)
      cases dgV_get hx
      cases dgV_get hy
      exact ev_is (e_add (ev_var rfl) (ev_var rfl)) (congrArg V.int (Int.natCast_add _ _).symm)
    | plus =>
      refine q_when (b := false) (et_is (et_test (e_eqS (ev_var rfl) ev_c rfl)) (by decide +kernel)) (fun z => by cases z) fun _ H4 e4 => ?_
      refine s_retS (EvU.s (eu_tupL (el_zipT (fun i => V.int (dg i (.join .plus r1 r2))) (ev_var rfl) (ev_var rfl) (ex_t e4 g1) (ex_t e4 g2) hl (by omega) (fun _ _ => rfl) fun m x y G eG hx hy => ?_))) fun a5 H5 e5 h5 => k a5 H5 ((e13.trans e4).trans e5) (by rw [hl1] at h5; exact h5)
      cases dgV_get hx
      cases dgV_get hy
      exact ev_is (e_max (ev_var rfl) (ev_var rfl)) (congrArg V.int (max_int _ _))
    | minus =>
      refine q_when (b := false) (et_is (et_test (e_eqS (ev_var rfl) ev_c rfl)) (by decide +kernel)) (fun z => by cases z) fun _ H4 e4 => ?_
      refine s_retS (EvU.s (eu_tupL (el_zipT (fun i => V.int (dg i (.join .minus r1 r2))) (ev_var rfl) (ev_var rfl) (ex_t e4 g1) (ex_t e4 g2) hl (by omega) (fun _ _ => rfl) fun m x y G eG hx hy => ?_))) fun a5 H5 e5 h5 => k a5 H5 ((e13.trans e4).trans e5) (by rw [hl1] at h5; exact h5)
      cases dgV_get hx
      cases dgV_get hy
      exact ev_is (e_max (ev_var rfl) (ev_var rfl)) (congrArg V.int (max_int _ _))
theorem len_told {h : Nat} (vs : List V) (H : Hp) (Q : VK) (E : XK) (hs : sp_told h K vs H Q E) : vs.length = 2 := by
  obtain ⟨n, v, R, p, rfl, _⟩ := hs
  rfl
theorem ok_neverT (T : Top K mg) : Ok1 P w K mg base 1 "told_degrees" ["many", "rule"] spNo := by
  refine T.ok (k := 0) (d := d_told_degrees) 19 rfl sc_told_degrees (fun _ _ _ _ _ _ us hl => match us, hl with | [_, _], _ => rfl) (fun vs H Q E h => h.elim) fun cdv A outer s H vs Q E hr h => h.elim
theorem ok_told (T : Top K mg) : ∀ h : Nat, Ok1 P w K mg base (4 + h) "told_degrees" ["many", "rule"] (sp_told h K)
  | 0 => mk_told_degrees T (k := 3) (OSelf := ok_neverT T) (by decide) len_told (rd_told T fun {H n v R p} _ _ _ hh => absurd hh (Nat.not_lt_zero _))
  | h + 1 => mk_told_degrees T (k := 4 + h) (OSelf := ok_told T h) (by omega) len_told (rd_told T fun {H n v R p} hd hk hn hh => ss_told hd hk hn (by omega))
end
end K10

set_option Elab.async false
set_option linter.all false
set_option maxRecDepth 100000
set_option maxHeartbeats 4000000
/-! K10RdG: sums, draws, halves -/
namespace K10
open PySem PySem.Spec PyProof.Rows L2 Evl K10M
section
variable {P : Program} {w : World} {K : PySem.W.Frag} {mg : Str → Option Value} {base : Heap} {H H' : Hp}

theorem q_asgT2 {σ : L2.St} {te : TE} {tz : TS} {D : Ends} {i j : Nat} {a : Addr} {x y : V} (h : Ev te σ H (.ref a)) (hs : SqT K H a [x, y]) (k : ∀ H1, Ex H H1 → tz D ((σ.set i (some x)).set j (some y)) H1) : tSeq (tAsg te (gTup K 2 (gCons (gName i) (gCons (gName j) gNil)))) tz D σ H :=
  h H (Ex.refl H) _ fun H1 e => ⟨a, [x, y], rfl, ex_t e hs, rfl, x, [y], rfl, y, [], rfl, rfl, k H1 e⟩
theorem q_asgT4 {σ : L2.St} {te : TE} {tz : TS} {D : Ends} {i j m n : Nat} {a : Addr} {x y z u : V} (h : Ev te σ H (.ref a)) (hs : SqT K H a [x, y, z, u]) (k : ∀ H1, Ex H H1 → tz D ((((σ.set i (some x)).set j (some y)).set m (some z)).set n (some u)) H1) : tSeq (tAsg te (gTup K 4 (gCons (gName i) (gCons (gName j) (gCons (gName m) (gCons (gName n) gNil)))))) tz D σ H :=
  h H (Ex.refl H) _ fun H1 e => ⟨a, [x, y, z, u], rfl, ex_t e hs, rfl, x, [y, z, u], rfl, y, [z, u], rfl, z, [u], rfl, u, [], rfl, rfl, k H1 e⟩
/-- [e for x in a tuple told by what it holds] -/
theorem el_mapS {σ : L2.St} {xs : List V} {tl te : TE} {k : Nat} {vs : List Nat} (g : V → V) (h : EvS K tl σ H xs) (hz : xs.length ≤ 40000) (hw : ∀ x, wipe ((wipe σ vs).set k (some x)) vs = wipe σ vs)
    (he : ∀ (m : Nat) (y : V) H1, Ex H H1 → xs[m]? = some y → Ev te ((wipe σ vs).set k (some y)) H1 (g y)) : EvL (tLc (iTup K tl) (gName k) tYes te vs) σ H (xs.map g) := fun H0 e Q q => h H0 e _ fun p H1 e1 hp => ⟨p, rfl, ⟨xs, hp⟩, fun L hL => by
  rw [← given_map] at q
  exact lc_tup (xs := xs) (Cw H1 (fun _ => true) (fun i => g (xs.getD i .non)) L) ⟨hL, Ex.new hL, upd_same⟩ (fun m G _ w => ex_t w.2.1 hp) (fun m y G hm w => ⟨hw y, cw_turn w (by have := (List.getElem?_eq_some_iff.mp hm).1; omega) et_yes (fun hf => by
    show Ev te _ H1 (g (xs.getD m .non))
    rw [getD_some hm]
    exact he m y H1 (e.trans e1) hm)⟩)
    (fun G w => q L G (fresh_back e1 w.1) (e1.trans w.2.1) w.2.2)⟩
/-! ### is_sum -/
structure SumAt (K : PySem.W.Frag) (H : Hp) (a : Addr) (p : Int) (n : Nat) (vr : V) (R : Rl) (c : Int) : Prop where
  at_ : SqT K H a [.int p, .int (n : Int), vr, .int c]
  rl : Dp K H vr (dR R)
  ok : RlOk p n R
  hp : p ∈ primes
  hn : n ≤ 3
  hh : hgt R ≤ 3
  hc : 0 ≤ c ∧ c < p
theorem SumAt.tex {a : Addr} {p : Int} {n : Nat} {vr : V} {R : Rl} {c : Int} (e : TEx K H H') (h : SumAt K H a p n vr R c) : SumAt K H' a p n vr R c := ⟨e _ _ h.at_, rl_tex e h.rl, h.ok, h.hp, h.hn, h.hh, h.hc⟩
theorem SumAt.ex {a : Addr} {p : Int} {n : Nat} {vr : V} {R : Rl} {c : Int} (e : Ex H H') (h : SumAt K H a p n vr R c) : SumAt K H' a p n vr R c := h.tex (Ex.t e)
def sp_is_sum (K : PySem.W.Frag) : Sp := fun vs H Q _ => ∃ (a : Addr) (p : Int) (n : Nat) (vr : V) (R : Rl) (c : Int), vs = [.ref a] ∧ SumAt K H a p n vr R c ∧ RetV (.bl true) H Q
theorem isf_n {n : Nat} (h : n ≤ 3) : isFrom (.int (n : Int)) 0 10 = true := by
  show (decide ((0 : Int) ≤ n) && decide ((n : Int) ≤ 10)) = true
  rw [decide_eq_true (by omega), decide_eq_true (by omega)]
  rfl
theorem num_c {p c : Int} (h : 0 ≤ c ∧ c < p) : isNum p (.int c) = true := by
  show (decide (0 ≤ c) && decide (c ≤ p - 1)) = true
  rw [decide_eq_true (by omega), decide_eq_true (by omega)]
  rfl
theorem dg16 {p : Int} {n : Nat} {R : Rl} (i : Nat) (h : RlOk p n R) (hh : hgt R ≤ 3) : dg i R ≤ 16 := by
  have h1 := dg_le i R h
  have : 2 ^ hgt R ≤ 2 ^ 3 := Nat.pow_le_pow_right (by decide) hh
  omega
theorem ok_is_sum (T : Top K mg) : Ok1 P w K mg base 8 "is_sum" ["value"] (sp_is_sum K) := by
  refine mk_is_sum T (ok_is_from T) (ok_is_prime T) (ok_is_number T) (ok_is_plain_rule T) (ok_told T 3) (by decide) (by decide) (by decide) (by decide) (by decide) (fun vs H Q E h => ?_) fun vs H Q E h => ?_
  · obtain ⟨a, p, n, vr, R, c, rfl, _⟩ := h
    rfl
  · obtain ⟨a, p, n, vr, R, c, rfl, s, q⟩ := h
    refine q_when (b := false) (et_is (et_or (et_not (et_B (e_isi (ev_var rfl) (Knd.tup s.at_) (by decide)))) fun _ => et_or (et_B (e_cmp (e_len (ev_var rfl) (.inr s.at_)) ev_c)) fun _ => et_not (et_B (ev_call (ea_cons (e_ixT (ev_var rfl) ev_c s.at_ (atI_nat (j := 0) rfl)) ea_nil) (sv_is_prime s.hp)))) (by simp [isaB])) (fun z => by cases z) fun _ H1 e1 => ?_
    have s1 := s.ex e1
    refine q_asgT4 (ev_var rfl) s1.at_ fun H2 e2 => ?_
    have s2 := s1.ex e2
    refine q_when (b := false) (et_is (et_or (et_not (et_B (ev_call (ea_cons (ev_var rfl) (ea_cons ev_c (ea_cons ev_c ea_nil))) (sv_is_from (Knd.int _))))) fun _ => et_or (et_not (et_B (ev_call (ea_cons (ev_var rfl) (ea_cons (ev_var rfl) (ea_cons (ev_var rfl) ea_nil))) (sv_is_plain_rule s2.rl s2.ok s2.hh)))) fun _ => et_not (et_B (ev_call (ea_cons (ev_var rfl) (ea_cons (ev_var rfl) ea_nil)) (sv_is_number (p := p) (e := .int c))))) (by rw [isf_n s.hn, num_c s.hc]; rfl)) (fun z => by cases z) fun _ H3 e3 => ?_
    have s3 := s2.ex e3
    refine s_ret (ev_is (e_all (bs := (List.range n).map fun i => decide ((dg i R : Int) ≤ 30)) ?_) ?_) (fun H4 e4 => q H4 (((e1.trans e2).trans e3).trans e4))
    · have g : ((List.range n).map fun i => decide ((dg i R : Int) ≤ 30)).map V.bl = (dgV n R).map fun v => V.bl (match v with | .int i => decide (i ≤ 30) | _ => false) := by
        unfold dgV
        rw [List.map_map, List.map_map]
        rfl
      rw [g]
      refine el_mapS _ (es_call (ea_cons (ev_var rfl) (ea_cons (ev_var rfl) ea_nil)) (ss_told s3.rl s3.ok (by have := s.hn; omega) s3.hh)) (by rw [dgV_len]; have := s.hn; omega) (fun _ => rfl) fun m y G eG hm => ?_
      cases dgV_get hm
      exact e_cmp (ev_var rfl) ev_c
    · rw [List.all_map, List.all_eq_true.mpr]
      intro i _
      show decide ((dg i R : Int) ≤ 30) = true
      have := dg16 i s.ok s.hh
      exact decide_eq_true (by omega)
theorem sv_is_sum {a : Addr} {p : Int} {n : Nat} {vr : V} {R : Rl} {c : Int} (s : SumAt K H a p n vr R c) : SpV (sp_is_sum K) [.ref a] H (.bl true) := fun H1 e Q q E => ⟨a, p, n, vr, R, c, rfl, s.ex e, q⟩
def sp_need_sum (K : PySem.W.Frag) : Sp := fun vs H Q _ => ∃ (a : Addr) (p : Int) (n : Nat) (vr : V) (R : Rl) (c : Int), vs = [.ref a] ∧ SumAt K H a p n vr R c ∧ RetV .non H Q
theorem ok_need_sum (T : Top K mg) : Ok1 P w K mg base 9 "need_sum" ["value"] (sp_need_sum K) := by
  refine mk_need_sum T (ok_is_sum T) (by decide) (fun vs H Q E h => ?_) fun vs H Q E h => ?_
  · obtain ⟨a, p, n, vr, R, c, rfl, _⟩ := h
    rfl
  · obtain ⟨a, p, n, vr, R, c, rfl, s, q⟩ := h
    exact s_if (b := false) (et_not (et_B (ev_call (ea_cons (ev_var rfl) ea_nil) (sv_is_sum s)))) (fun z => by cases z) fun _ H1 e1 => q H1 e1
theorem sv_need_sum {a : Addr} {p : Int} {n : Nat} {vr : V} {R : Rl} {c : Int} (s : SumAt K H a p n vr R c) : SpV (sp_need_sum K) [.ref a] H .non := fun H1 e Q q E => ⟨a, p, n, vr, R, c, rfl, s.ex e, q⟩
def sp_need_draws (K : PySem.W.Frag) : Sp := fun vs H Q _ => ∃ (p lo hi : Int) (a : Addr) (l : List Int), vs = [.int p, .ref a, .int lo, .int hi] ∧ SqT K H a (l.map V.int) ∧ InAll p l ∧ lo ≤ l.length ∧ (l.length : Int) ≤ hi ∧ hi ≤ 1024 ∧ RetV .non H Q
theorem ok_need_draws (T : Top K mg) : Ok1 P w K mg base 5 "need_draws" ["p", "value", "low", "high"] (sp_need_draws K) := by
  refine mk_need_draws T (ok_are_numbers T) (by decide) (fun vs H Q E h => ?_) fun vs H Q E h => ?_
  · obtain ⟨p, lo, hi, a, l, rfl, _⟩ := h
    rfl
  · obtain ⟨p, lo, hi, a, l, rfl, hs, hl, h1, h2, h3, q⟩ := h
    exact s_if (b := false) (et_is (et_not (et_B (ev_call (ea_cons (ev_var rfl) (ea_cons (ev_var rfl) (ea_cons (ev_var rfl) (ea_cons (ev_var rfl) ea_nil)))) (sv_are_numbers (ItAt.ints hs) h3)))) (by rw [arN_ok hl h1 h2]; rfl)) (fun z => by cases z) fun _ H1 e1 => q H1 e1
theorem sv_need_draws {p lo hi : Int} {a : Addr} {l : List Int} (hs : SqT K H a (l.map V.int)) (hl : InAll p l) (h1 : lo ≤ l.length) (h2 : (l.length : Int) ≤ hi) (h3 : hi ≤ 1024) : SpV (sp_need_draws K) [.int p, .ref a, .int lo, .int hi] H .non := fun H1 e Q q E => ⟨p, lo, hi, a, l, rfl, ex_t e hs, hl, h1, h2, h3, q⟩
def sp_halves (K : PySem.W.Frag) : Sp := fun vs H Q _ => ∃ (p : Int) (a : Addr) (l : List Int), vs = [.int p, .ref a] ∧ SqT K H a (l.map V.int) ∧ 0 < p ∧ p < 4294967296 ∧ RetV (.int ((ev p 0 l + ev p 1 l) % p)) H Q
theorem ok_halves (T : Top K mg) : Ok1 P w K mg base 2 "halves" ["p", "line"] (sp_halves K) := by
  refine mk_halves T (ok_at_place T) (by decide) (fun vs H Q E h => ?_) fun vs H Q E h => ?_
  · obtain ⟨p, a, l, rfl, _⟩ := h
    rfl
  · obtain ⟨p, a, l, rfl, hs, h1, h2, q⟩ := h
    exact s_ret (e_mod (e_add (ev_call (ea_cons (ev_var rfl) (ea_cons (ev_var rfl) (ea_cons ev_c ea_nil))) (sv_at_place hs h1 h2)) (ev_call (ea_cons (ev_var rfl) (ea_cons (ev_var rfl) (ea_cons ev_c ea_nil))) (sv_at_place hs h1 h2))) (ev_var rfl) h1) q
theorem sv_halves {p : Int} {a : Addr} {l : List Int} (h : SqT K H a (l.map V.int)) (hp : 0 < p) (hp2 : p < 4294967296) : SpV (sp_halves K) [.int p, .ref a] H (.int ((ev p 0 l + ev p 1 l) % p)) := fun H1 e Q q E => ⟨p, a, l, rfl, ex_t e h, hp, hp2, q⟩
end
end K10

set_option Elab.async false
set_option linter.all false
set_option maxRecDepth 100000
set_option maxHeartbeats 4000000
/-! K10Lam: a lambda of one parameter, handed over as the last of five arguments and called there -/
namespace K10
open PySem PySem.Spec PyProof.Rows L2 LamX
/-- its one parameter a; captured names and globals else -/
structure Lam1 (sc scope : Scope) (a : Str) : Prop where
  kind : scope.kind = .function
  co : scope.isCoroutine = false
  gen : scope.isGenerator = false
  nocell : ∀ y ∈ scope.names, y.2 ≠ .cell
  loc : ∀ y ∈ scope.names, y.2 = .local → y.1 = a
  par : scope.names.lookup a = some .local
  free : ∀ y ∈ scope.names, y.2 = .free → sc.names.lookup y.1 = some .cell ∨ sc.names.lookup y.1 = some .free
theorem Lam1.has {X : Cx} {scope : Scope} {a : Str} (L : Lam1 X.env.scope scope a) (ok : X.Ok) (y : Str × NameKind) (hy : y ∈ scope.names) (e : y.2 = .free) : ∃ c, X.env.cells.lookup y.1 = some c :=
  (L.free y hy e).elim (fun z => ok.has _ (.inl z)) fun z => ok.has _ (.inr z)
/-- the context of its body, entered at s from the frames outer -/
def lamC (X : Cx) (A : Around) (outer : List Env) (s : Shared) (H : Hp) (scope : Scope) (a : Str) (f c' : Addr) : Cx where
  prog := X.prog
  w := X.w
  K := X.K
  mg := X.mg
  base := X.base
  A := A.deeper (lamEnv X scope s.heap.objs.size f c')
  N := a :: X.N
  s_0 := s
  H_0 := H
  env := lamEnv X scope s.heap.objs.size f c'
  outer := outer
  stack := lamEnv X scope s.heap.objs.size f c' :: outer
  ex := []
  fn := fun _ => false
  calm := true
  pn := []
  xe := fun _ _ => False
section
variable {X : Cx} {pins : List (Addr × Obj)} {σ : L2.St} {H HZ : Hp} {s s1 : Shared}
theorem lamC_start {A : Around} {outer : List Env} {scope : Scope} {a : Str} {f c' : Addr} {h1 : Heap} {tk : Nat} {v : V} {u : Value} (I : Inv X pins σ H s) (L : Lam1 X.env.scope scope a) (hna : a ∉ X.N) (ru : RelV v u) (e0 : Env0 X.prog X.w X.K X.mg X.base A outer s1 HZ)
    (hd : A.handled = none) (un : Un (frs X.stack) [] H HZ s.heap s1.heap) (hns : h1.Ns s1.heap.objs.size fun y => ([(a, u)] : List (Str × Value)).reverse.lookup y) (kp : ∀ b o, s1.heap.get? b = some o → h1.get? b = some o) :
    Inv (lamC X A outer s1 HZ scope a f c') [] (some v :: σ) HZ { s1 with heap := h1, toks := tk } := by
  have hfree := L.has I.ok
  have cm : ∀ {y c}, (cloFrom X.env.cells scope.names []).lookup y = some c → X.env.cells.lookup y = some c := fun {y c} e => NdefX.clo_cm hfree e
  have look : ∀ {y}, scope.names.lookup y = some .free → ∃ c, (cloFrom X.env.cells scope.names []).lookup y = some c := fun {y} hl =>
    have hy : (y, NameKind.free) ∈ scope.names := PySem.mem_of_lookup hl
    mem_lookup (cloFrom_has (cells := X.env.cells) (acc := []) hy)
  have cellK : ∀ {c : Addr} {z : Option Value}, H c = none → s.heap.IsCell c z → h1.IsCell c z := fun {c z} n hz => by
    obtain ⟨o, ho, hdat⟩ := hz
    obtain ⟨sl, q⟩ := un.any ho n (by simp)
    exact ⟨_, kp _ _ q, hdat⟩
  have no_ex : ∀ b : Addr, b ∉ (lamC X A outer s1 HZ scope a f c').ex := fun b z => absurd (show b ∈ ([] : List Addr) from z) (by simp)
  have okC : (lamC X A outer s1 HZ scope a f c').Ok := by
    refine ⟨e0.mod, L.kind, rfl, rfl, Nat.le_refl _, fun y z c g1 g2 => I.ok.inj y z c (cm g1) (cm g2), fun y hy => ?_, fun y c z _ => ?_, fun _ => hd, Around.frames_deeper e0.frames, .inr ⟨rfl, rfl⟩, fun b z => absurd z (no_ex b), e0.bs, e0.bsz,
      fun b _ _ => no_ex b, fun b z => absurd z (no_ex b), e0.funs, e0.frf⟩
    · rcases (show scope.names.lookup y = some .cell ∨ scope.names.lookup y = some .free from hy) with hy | hy
      · exact absurd rfl (L.nocell _ (PySem.mem_of_lookup hy))
      · exact look hy
    · exact absurd (show false = true from z) (by simp)
  refine ⟨okC, rfl, e0.bare, Un.kept kp, ⟨_, hns, fun i y vv g1 g2 g3 => ?_⟩, fun y c e => ?_, e0.hok.fresh (Nat.le_refl _), fun y c e => ?_, fun q hq => absurd (show q ∈ ([] : List (Addr × Obj)) ++ [] from hq) (by simp), e0.hok.kept kp, ?_⟩
  · cases i with
    | zero =>
      have ey : a = y := Option.some.inj (show some a = some y from g1)
      have ev : v = vv := Option.some.inj (Option.some.inj (show some (some v) = some (some vv) from g2))
      subst ey ev
      refine ⟨u, ru, .inl ⟨L.par, ?_⟩⟩
      simp [List.lookup]
    | succ j =>
      have g1 : X.N[j]? = some y := g1
      have g2 : σ[j]? = some (some vv) := g2
      rcases (show Vis scope y from g3) with k | k | k
      · have e := L.loc _ (PySem.mem_of_lookup k) rfl
        have e : y = a := e
        exact absurd (List.mem_of_getElem? g1) (by rw [e]; exact hna)
      · exact absurd rfl (L.nocell _ (PySem.mem_of_lookup k))
      · obtain ⟨m, hn, hl⟩ := I.loc
        have hfr := L.free _ (PySem.mem_of_lookup k) rfl
        obtain ⟨w', r, q⟩ := hl j y vv g1 g2 (hfr.elim (fun z => .inr (.inl z)) fun z => .inr (.inr z))
        obtain ⟨c2, h2⟩ := look k
        refine ⟨w', r, .inr ⟨.inr k, c2, h2, ?_⟩⟩
        have c1 := cm h2
        rcases q with ⟨k', _⟩ | ⟨_, c3, e', z⟩
        · have k' : X.env.scope.names.lookup y = some .local := k'
          have hfr : X.env.scope.names.lookup y = some .cell ∨ X.env.scope.names.lookup y = some .free := hfr
          rw [k'] at hfr
          exact absurd hfr (by simp)
        · rw [c1] at e'
          cases e'
          exact cellK (I.freeC y _ c1) z
  · obtain ⟨w', z⟩ := I.cell y c (cm e)
    exact ⟨w', cellK (I.freeC y c (cm e)) z⟩
  · obtain ⟨z, o, ho, _⟩ := I.cell y c (cm e)
    exact un.free c o ho (I.freeC y c (cm e)) (by simp)
  · show (some v :: σ).length = (a :: X.N).length
    rw [List.length_cons, List.length_cons, I.len]
/-- what is known of the made lambda at f, told ahead of the call of the def that gets it -/
structure Made (X : Cx) (pins : List (Addr × Obj)) (σ : L2.St) (H : Hp) (s : Shared) (params : Arguments) (body : Expr) (scope : Scope) (f c' : Addr) : Prop where
  I : Inv X pins σ H s
  at_ : ∃ pm ctv, s.heap.get? f = some (PySem.W.kla_obj "<lambda>" (X.env.qual ++ "<lambda>") params body scope (cloFrom X.env.cells scope.names []) pm c' ctv)
  no : H f = none
  nf : f ∉ frs X.stack
  code : H c' = some (CodeO c' (X.env.qual ++ "<lambda>"))
/-- the reading of x(e), x the name that holds the lambda, tb its body's reading, σ the values of the maker's names -/
def tAct (q : Str) (σ : L2.St) (f c' : Addr) (i : Nat) (tb : TE) (t : TA) : TE := fun σZ HZ Q => σZ[i]? = some (some (.ref f)) ∧ t σZ HZ fun vs H1 => ∃ v, vs = [v] ∧ H1 c' = some (CodeO c' q) ∧ tb (some v :: σ) H1 Q
theorem pe_act1 {Ng : List Str} {qg : Str} {sg : Scope} {g f c' : Addr} {cdg : Value} {params : Arguments} {body : Expr} {scope : Scope} {k i : Nat} {a x : Str} {E : XK} {tb : TE} {e : Expr} {t : TA} {p1 p2 : Pos}
    (M : Made X pins σ H s params body scope f c') (L : Lam1 X.env.scope scope a) (hna : a ∉ X.N)
    (hbind : ∀ (pm ctv u : Value), bindArgs (PySem.W.kla_fn "<lambda>" (X.env.qual ++ "<lambda>") params body scope (cloFrom X.env.cells scope.names []) pm (.ref c') ctv) ⟨[u], []⟩ = pure [(a, u)])
    (hr : Room (k + 1) (X.A.deeper (envOfC qg sg s.heap.objs.size g cdg))) (hbody : ∀ (A : Around) (outer : List Env) (s : Shared) (H : Hp), Room k (A.deeper (lamEnv X scope s.heap.objs.size f c')) → PE (lamC X A outer s H scope a f c') body tb)
    (hN : Ng[i]? = some x) (hv : Vis sg x) (ha : PA (cxOf CX0 X.prog X.w X.K X.mg X.base Ng qg sg g cdg X.A X.stack s H E).nox [e] t) (hdb : (x == ("__debug__" : Str)) = false := by decide) (hcd : (x == ("__classdict__" : Str)) = false := by decide)
    (he : starEach [e] (cxOf CX0 X.prog X.w X.K X.mg X.base Ng qg sg g cdg X.A X.stack s H E).nox.env = [(false, eval e (cxOf CX0 X.prog X.w X.K X.mg X.base Ng qg sg g cdg X.A X.stack s H E).nox.env)] := by rfl) :
    PE (cxOf CX0 X.prog X.w X.K X.mg X.base Ng qg sg g cdg X.A X.stack s H E).nox (.Call (.Name x p1) [e] [] p2) (tAct (X.env.qual ++ "<lambda>") σ f c' i tb t) := by
  obtain ⟨I, ⟨pm, ctv, hf⟩, hfn, hfr, _⟩ := M
  refine ⟨fun pinsZ sZ σZ HZ Q IZ h => ?_⟩
  obtain ⟨hs, ht⟩ := h
  refine wpAny_Call_Name_kw (thn ((pe_var (pos := p1) (i := i) hN hv hdb hcd).run pinsZ sZ σZ HZ (fun v G => v = .ref f ∧ G = HZ) IZ ⟨.ref f, hs, rfl, rfl⟩) fun z s2 ⟨v, G, I2, r1, q1⟩ => ?_)
  obtain ⟨ev, eG⟩ := q1
  subst ev
  rw [eG] at I2
  obtain rfl : z = Value.ref f := r1
  have no_f : ∀ {H2 : Hp} {s3 : Shared} {pz σz}, Inv (cxOf CX0 X.prog X.w X.K X.mg X.base Ng qg sg g cdg X.A X.stack s H E).nox pz σz H2 s3 → s3.heap.get? f = some (PySem.W.kla_obj "<lambda>" (X.env.qual ++ "<lambda>") params body scope (cloFrom X.env.cells scope.names []) pm c' ctv) := fun J =>
    J.base.keep f _ hf hfn hfr (fun z => nomatch (show f ∈ ([] : List Addr) from z))
  refine PySem.W.callWith_F (first := []) ⟨_, _, _, _, no_f I2⟩ (thn (ha.run p2 pinsZ s2 σZ HZ _ I2 ht) fun us s3 ⟨vs, H3, I3, r3, q3⟩ => ⟨⟨_, _, _, _, no_f I3⟩, ?_⟩) he rfl
  obtain ⟨v3, rfl, hc3, hb3⟩ := q3
  obtain ⟨u, us', rfl, ru, r4⟩ : ∃ u us', us = u :: us' ∧ RelV v3 u ∧ Vals [] us' := by
    cases r3 with
    | cons a b => exact ⟨_, _, rfl, a, b⟩
  cases r4
  have of3 := no_f I3
  have un : Un (frs X.stack) [] H H3 s.heap s3.heap := I3.base
  have cr := NdefX.codeO_at I3.hok hc3
  have rc : codeAny (model X.prog X.w) (X.A.deeper (envOfC qg sg s.heap.objs.size g cdg)) (.call (.ref f) ⟨[u], []⟩) (CR CX0 (envOfC qg sg s.heap.objs.size g cdg :: X.stack) X.prog X.w H3 s3 Q E0) s3 := by
    refine PySem.W.kla_callFunE hr.depth of3 rfl L.co L.gen rfl cr ?_
    rw [hbind]
    refine wpAny_pure (wpAny_newFunctionEnv (fun y hy => L.nocell y hy) (fun y hy => ?_) (fun h1 hns hsb => ⟨I3.nolimit.fresh _ hsb, ?_⟩) L.kind)
    · have ey : y = (a, u) := by simpa using hy
      rw [ey]
      exact L.par
    show codeAny _ _ (.expr body (lamEnv X scope s3.heap.objs.size f c')) _ _
    have kp : ∀ b o, s3.heap.get? b = some o → h1.get? b = some o := fun b o e => hsb.extBut b o (Nat.ne_of_lt (Heap.lt_size e)) (Heap.get?_push_of_some _ e)
    have J : Inv (lamC X (X.A.deeper (envOfC qg sg s.heap.objs.size g cdg)) (envOfC qg sg s.heap.objs.size g cdg :: X.stack) s3 H3 scope a f c') [] (some v3 :: σ) H3 { s3 with heap := h1, toks := s3.toks + ([(a, u)] : List (Str × Value)).length } :=
      lamC_start I L hna ru I3.env0 hr.hd un hns kp
    refine PySem.W.kla_codeExpr (wpAny_mono ((hbody _ _ s3 H3 (hr.deeper _)).run [] _ _ H3 Q J hb3) (fun w s' hq => ?_) fun _ _ hq => False.elim hq)
    obtain ⟨w', H', J', rv, q⟩ := hq
    exact ⟨w', H', J'.os, J'.bare, J'.base, J'.hok, rv, q⟩
  refine wpAny_call (codeAny_mono rc fun r s' hq => ?_)
  cases r with
  | error e => exact False.elim hq
  | ok fl =>
    cases fl with
    | ret w => exact I3.after hq
    | next => exact False.elim hq
    | brk => exact False.elim hq
    | cont => exact False.elim hq
/-- the reading of x(e1, e2, e3, e4, lambda): TT: what x's body makes of it, of the very state -/
def tGive (T : List (Addr × Str)) (TT : L2.St → List V → Hp → VK → Prop) (t1 t2 t3 t4 : TE) : TE := fun σ H Q => t1 σ H fun v1 H1 => t2 σ H1 fun v2 H2 => t3 σ H2 fun v3 H3 => t4 σ H3 fun v4 H4 => Tabs T H4 ∧ ∀ H5, ExtN H4 H5 → Tabs T H5 → TT σ [v1, v2, v3, v4] H5 Q
theorem pe_give {T : List (Addr × Str)} {TT : L2.St → List V → Hp → VK → Prop} {x a : Str} {g c P0 : Addr} {k : Nat} {pg : Arguments} {bg : List Stmt} {sg : Scope} {fd : FuncData} {Ng ps : List Str} {params : Arguments} {body e1 e2 e3 e4 : Expr} {scope : Scope} {t1 t2 t3 t4 : TE} {p lpos pos : Pos}
    (hg : Gl X x) (hm : X.mg x = some (.ref g)) (F : FunD X.K x x pg bg sg [] [] g fd) (Sg : FnScope Ng ps sg)
    (hb : ∀ (kV doc pm : Value) (an : Option Addr) (cdv ct : Value) (us : List Value), us.length = ps.length → bindArgs (PySem.W.fnOf x x pg bg sg .none kV doc pm an cdv ct) ⟨us, []⟩ = pure (ps.zip us)) (hpl : ps.length = 5)
    (hG : ∀ (f c' : Addr) (cdg : Value) (pins : List (Addr × Obj)) (σ : L2.St) (s : Shared) (H : Hp) (vs : List V) (Q : VK), Made X pins σ H s params body scope f c' → Room k (X.A.deeper (envOfC x sg s.heap.objs.size g cdg)) → TT σ vs H Q →
      ∃ t, PSs (cxOf CX0 X.prog X.w X.K X.mg X.base Ng x sg g cdg X.A X.stack s H E0).nox bg t ∧ t ⟨fun _ H' => Q .non H', Q, fun _ _ => False, fun _ _ => False⟩ (L2.start Ng (vs ++ [.ref f])) H)
    (TB : TabB X.base X.mg c P0) (hcode : X.env.code = .ref c) (hmT : (P0, X.env.qual ++ "<lambda>") ∈ T) (hu : ∀ p ∈ T, p.1 = P0 → p.2 = X.env.qual ++ "<lambda>") (hr : Room (k + 1) X.A) (L : Lam1 X.env.scope scope a) (hdef : defaultsOf params X.env = ([], []))
    (h1 : PE X e1 t1) (h2 : PE X e2 t2) (h3 : PE X e3 t3) (h4 : PE X e4 t4) (hdb : (x == ("__debug__" : Str)) = false := by decide)
    (he : starEach [e1, e2, e3, e4, .Lambda params body scope lpos] X.env = (false, eval e1 X.env) :: starEach [e2, e3, e4, .Lambda params body scope lpos] X.env := by rfl)
    (he2 : starEach [e2, e3, e4, .Lambda params body scope lpos] X.env = [(false, eval e2 X.env), (false, eval e3 X.env), (false, eval e4 X.env), (false, eval (.Lambda params body scope lpos) X.env)] := by rfl) :
    PE X (.Call (.Name x p) [e1, e2, e3, e4, .Lambda params body scope lpos] [] pos) (tGive T TT t1 t2 t3 t4) := by
  obtain ⟨oc, od, dV, kV, doc, pm, an, cdv, ct, osl, rfl, lk, hcd, hD, _⟩ := F.ex
  have hdV : dV = Value.none := by
    rcases hD with ⟨_, e⟩ | ⟨e, _⟩
    · exact e
    · exact absurd rfl e
  subst hdV
  refine ⟨fun pins s σ H Q I h => ?_⟩
  refine wpAny_Call_Name_kw (ld_glob I hg hm ?_ hdb)
  refine PySem.W.callWith_K (h₀ := X.base) I.ok.mod.kin F.kp ?_ he (by rw [he2]; rfl)
  rw [he, he2]
  show wpAny _ _ (spliced [(false, eval e1 X.env), (false, eval e2 X.env), (false, eval e3 X.env), (false, eval e4 X.env), (false, eval (.Lambda params body scope lpos) X.env)]) _ _ s
  refine Calls.spliced_cons (thn (h1.run pins s σ H _ I h) fun u1 s1 ⟨v1, H1, I1, r1, q1⟩ => ?_)
  refine Calls.spliced_cons (thn (h2.run pins s1 σ H1 _ I1 q1) fun u2 s2 ⟨v2, H2, I2, r2, q2⟩ => ?_)
  refine Calls.spliced_cons (thn (h3.run pins s2 σ H2 _ I2 q2) fun u3 s3 ⟨v3, H3, I3, r3, q3⟩ => ?_)
  refine Calls.spliced_cons (thn (h4.run pins s3 σ H3 _ I3 q3) fun u4 s4 ⟨v4, H4, I4, r4, q4⟩ => ?_)
  refine Calls.spliced_cons (lam_make2 I4 TB hcode hmT hu q4.1 hdef (L.has I4.ok) fun f c' pm' ctv H5 s5 I5 eN T5 hf hfn hfr hco => ?_)
  refine Calls.spliced_nil ⟨I5.kIn, ?_⟩
  have q5 := q4.2 H5 eN T5
  have rc : codeAny (model X.prog X.w) X.A (.call (.ref g) ⟨[u1, u2, u3, u4, .ref f], []⟩) (CR CX0 X.stack X.prog X.w H5 s5 Q E0) s5 := by
    refine run_ofS (N := Ng) (ps := ps) (us := [u1, u2, u3, u4, .ref f]) (vs := [v1, v2, v3, v4, .ref f]) lk hcd Sg hr I5.env0 (.of_eq (hb kV doc pm an cdv ct _ (by rw [hpl]; rfl))) (.cons r1 (.cons r2 (.cons r3 (.cons r4 (.cons rfl .nil))))) (by rw [hpl]; rfl) fun hr' => ?_
    obtain ⟨t', ht', hq'⟩ := hG f c' cdv pins σ s5 H5 [v1, v2, v3, v4] Q ⟨I5, ⟨pm', ctv, hf⟩, hfn, hfr, hco⟩ hr' q5
    exact ⟨t', ht'.nox, hq'⟩
  refine wpAny_call (codeAny_mono rc fun r s6 hq => ?_)
  cases r with
  | error e => exact False.elim hq
  | ok fl =>
    cases fl with
    | ret w => exact I5.after hq
    | next => exact False.elim hq
    | brk => exact False.elim hq
    | cont => exact False.elim hq
end
end K10

set_option Elab.async false
set_option linter.all false
set_option maxRecDepth 100000
set_option maxHeartbeats 4000000
/-! K10DerF: word_of and followed, derived -/
namespace K10
open PySem PySem.Spec PyProof.Rows L2 Evl LamX
abbrev lamQ : Str := "followed.<locals>.<lambda>"
abbrev tabsF (K : PySem.W.Frag) : List (Addr × Str) := [((He.cT K ("followed", none)).2, lamQ)]
abbrev n_word_of : List Str := ["p", "lines", "at", "degree", "fits"]
theorem sc_word_of : FnScope n_word_of n_word_of (defScope s_word_of) := ⟨rfl, rfl, rfl, by decide +kernel, rfl, by decide +kernel, by decide +kernel⟩
abbrev n_followed : List Str := ["claimed", "lines", "draws", "many", "rule", "claim", "degrees", "at", "word", "p", "so_far"]
theorem sc_followed : FnScope n_followed ["claimed", "lines", "draws"] (defScope s_followed) := ⟨rfl, rfl, rfl, by decide +kernel, rfl, by decide +kernel, by decide +kernel⟩
/-- the lambda: halves(p, line) == so_far[-1] -/
def t_fits (K : PySem.W.Frag) (sp_halves : Sp) : TE := tEqI (tCall sp_halves [] E0 (tCons (tVar 10) (tCons (tVar 0) tNil))) (tOp (rIx K) (tVar 11) (tUn uNeg (tC (.int 1))))
def t_word_of (K : PySem.W.Frag) (sp_is_plain_line sp_degree_of : Sp) (q : Str) (σF : L2.St) (f c1 : Addr) (tb : TE) : TS :=
    (tSeq (tIfS (tOr (tNot (tB (tCB (rIsiT K) (tCons (tVar 1) (tCons (tTup (tCons (tC (.ty "tuple")) (tCons (tC (.ty "list")) tNil))) tNil))))) (tOr (tB (tGe (tVar 2) (tCB (rLenQ K) (tCons (tVar 1) tNil)))) (tNot (tB (tCall sp_is_plain_line [] E0 (tCons (tVar 0) (tCons (tOp (rIx K) (tVar 1) (tVar 2)) tNil))))))) (tRet (tC (.str "line"))) tNext)
    (tSeq (tIfS (tB (tGt (tCall sp_degree_of [] E0 (tCons (tOp (rIx K) (tVar 1) (tVar 2)) tNil)) (tVar 3))) (tRet (tC (.str "degree"))) tNext)
    (tRet (tIf (tB (tAct q σF f c1 4 tb (tCons (tOp (rIx K) (tVar 1) (tVar 2)) tNil))) (tC .non) (tC (.str "halves"))))))
def TTw (K : PySem.W.Frag) (sp_is_plain_line sp_degree_of sp_halves : Sp) : L2.St → List V → Hp → VK → Prop := fun σ vs H Q => ∀ f c', H c' = some (CodeO c' lamQ) → t_word_of K sp_is_plain_line sp_degree_of lamQ σ f c' (t_fits K sp_halves) ⟨fun _ H' => Q .non H', Q, fun _ _ => False, fun _ _ => False⟩ (start n_word_of (vs ++ [.ref f])) H
def t_followed (K : PySem.W.Frag) (sp_is_plain_line sp_degree_of sp_halves sp_at_place sp_told_degrees sp_value_at : Sp) : TS :=
    (tSeq (tAsg (tVar 0) (gTup K 4 (gCons (gName 9) (gCons (gName 3) (gCons (gName 4) (gCons (gName 5) gNil))))))
    (tSeq (tAsg (tTup (tCons (tCall sp_told_degrees [] E0 (tCons (tVar 3) (tCons (tVar 4) tNil))) (tCons (tLst (tCons (tVar 5) tNil)) tNil))) (gTup K 2 (gCons (gName 6) (gCons (gName 10) gNil))))
    (tSeq (tIfS (tNot (tB (tCB (rIsiT K) (tCons (tVar 1) (tCons (tTup (tCons (tC (.ty "tuple")) (tCons (tC (.ty "list")) tNil))) tNil))))) (tRet (tTup (tCons (tTup (tCons (tC (.str "caught")) (tCons (tC (.int 0)) (tCons (tC (.str "line")) tNil)))) (tCons (tVar 10) tNil)))) tNext)
    (tSeq (tFor (iRng1 (tCons (tVar 3) tNil)) (gName 7) (tSeq (tAsg (tGive (tabsF K) (TTw K sp_is_plain_line sp_degree_of sp_halves) (tVar 9) (tVar 1) (tVar 7) (tOp (rIx K) (tVar 6) (tVar 7))) (gName 8))
    (tSeq (tIfS (tB (tNotN (tVar 8))) (tRet (tTup (tCons (tTup (tCons (tC (.str "caught")) (tCons (tVar 7) (tCons (tVar 8) tNil)))) (tCons (tVar 10) tNil)))) tNext)
    (tDrop (tBM K "list" rAppend (tVar 10) (tCons (tCall sp_at_place [] E0 (tCons (tVar 9) (tCons (tOp (rIx K) (tVar 1) (tVar 7)) (tCons (tOp (rIx K) (tVar 2) (tVar 7)) tNil)))) tNil))))))
    (tSeq (tIfS (tB (tGt (tCB (rLenQ K) (tCons (tVar 1) tNil)) (tVar 3))) (tRet (tTup (tCons (tTup (tCons (tC (.str "caught")) (tCons (tVar 3) (tCons (tC (.str "line")) tNil)))) (tCons (tVar 10) tNil)))) tNext)
    (tSeq (tIfS (tB (tNeI (tCall sp_value_at [] E0 (tCons (tVar 9) (tCons (tVar 4) (tCons (tVar 2) tNil)))) (tOp (rIx K) (tVar 10) (tUn uNeg (tC (.int 1)))))) (tRet (tTup (tCons (tTup (tCons (tC (.str "caught")) (tCons (tVar 3) (tCons (tC (.str "end")) tNil)))) (tCons (tVar 10) tNil)))) tNext)
    (tRet (tTup (tCons (tC (.ref (He.ga K "PASSED"))) (tCons (tVar 10) tNil))))))))))
section
variable {P : Program} {w : World} {K : PySem.W.Frag} {mg : Str → Option Value} {base : Heap}
theorem der_word_of (T : Top K mg) {sp_is_plain_line : Sp} {l_is_plain_line : Nat} (O_is_plain_line : Ok1 P w K mg base l_is_plain_line "is_plain_line" ["p", "value"] sp_is_plain_line) {sp_degree_of : Sp} {l_degree_of : Nat} (O_degree_of : Ok1 P w K mg base l_degree_of "degree_of" ["line"] sp_degree_of)
    {cdv : Value} {A : Around} {outer : List Env} {s : Shared} {H : Hp} {E : XK} {j : Nat} (hr : Room j (A.deeper (envOfC "word_of" (defScope s_word_of) s.heap.objs.size (He.ga K "word_of") cdv))) (h_is_plain_line : l_is_plain_line ≤ j) (h_degree_of : l_degree_of ≤ j) {q : Str} {σF : L2.St} {f c1 : Addr} {tb : TE}
    (act : ∀ {e : Expr} {t : TA} {p1 p2 : Pos}, PA (cxOf CX0 P w K mg base n_word_of "word_of" (defScope s_word_of) (He.ga K "word_of") cdv A outer s H E).nox [e] t →
      starEach [e] (cxOf CX0 P w K mg base n_word_of "word_of" (defScope s_word_of) (He.ga K "word_of") cdv A outer s H E).nox.env = [(false, eval e (cxOf CX0 P w K mg base n_word_of "word_of" (defScope s_word_of) (He.ga K "word_of") cdv A outer s H E).nox.env)] →
      PE (cxOf CX0 P w K mg base n_word_of "word_of" (defScope s_word_of) (He.ga K "word_of") cdv A outer s H E).nox (.Call (.Name "fits" p1) [e] [] p2) (tAct q σF f c1 4 tb t)) :
    PSs (cxOf CX0 P w K mg base n_word_of "word_of" (defScope s_word_of) (He.ga K "word_of") cdv A outer s H E).nox (defBody s_word_of) (t_word_of K sp_is_plain_line sp_degree_of q σF f c1 tb) :=
  (pss_cons (ps_if (PW.pt (pw_or (pt_not (pt_val (pe_callB call_isiT (by rfl) (T.free 0 _ rfl) (by decide +kernel) (pa_cons (pv 1) (pa_cons (pe_tup (pa_cons (pe_bltn (v := .ty "tuple") (by rfl) (T.free 4 _ rfl) (by decide +kernel) rfl) (pa_cons (pe_bltn (v := .ty "list") (by rfl) (T.free 5 _ rfl) (by decide +kernel) rfl) pa_nil))) pa_nil))))) (pw_or (pt_cmp (pc_ge (pv 2) (pe_callB c_len (by rfl) (T.free 1 _ rfl) (by decide +kernel) (pa_cons (pv 1) pa_nil)))) (pw_or1 (pt_not (pt_val (pe_callO O_is_plain_line hr (by omega) (by rfl) (pa_cons (pv 0) (pa_cons (pe_ix ix_seq (pv 1) (pv 2) (fun _ _ => rfl)) pa_nil))))))))) (pss_one (ps_ret pe_str)) pss_nil)
    (pss_cons (ps_if (pt_cmp (pc_gt (pe_callO O_degree_of hr (by omega) (by rfl) (pa_cons (pe_ix ix_seq (pv 1) (pv 2) (fun _ _ => rfl)) pa_nil)) (pv 3))) (pss_one (ps_ret pe_str)) pss_nil)
    (pss_one (ps_ret (pe_ifExp (pt_val (act (pa_cons (pe_ix ix_seq (pv 1) (pv 2) (fun _ _ => rfl)) pa_nil) (by rfl))) pe_non pe_str)))))
def lamSc : Scope := { kind := .function, names := [("line", .local), ("p", .free), ("so_far", .free), ("halves", .globalImplicit)], isGenerator := false, isCoroutine := false }
theorem no_line : ("line" : Str) ∉ n_followed := by decide +kernel
theorem lamS : Lam1 (defScope s_followed) lamSc "line" := ⟨by decide +kernel, by decide +kernel, by decide +kernel, by decide +kernel, by decide +kernel, by decide +kernel, by decide +kernel⟩
theorem der_followed (T : Top K mg) (TB : TabB base mg (He.cT K ("followed", none)).1 (He.cT K ("followed", none)).2) {sp_is_plain_line : Sp} {l_is_plain_line : Nat} (O_is_plain_line : Ok1 P w K mg base l_is_plain_line "is_plain_line" ["p", "value"] sp_is_plain_line) {sp_degree_of : Sp} {l_degree_of : Nat} (O_degree_of : Ok1 P w K mg base l_degree_of "degree_of" ["line"] sp_degree_of)
    {sp_halves : Sp} {l_halves : Nat} (O_halves : Ok1 P w K mg base l_halves "halves" ["p", "line"] sp_halves) {sp_at_place : Sp} {l_at_place : Nat} (O_at_place : Ok1 P w K mg base l_at_place "at_place" ["p", "line", "place"] sp_at_place)
    {sp_told_degrees : Sp} {l_told_degrees : Nat} (O_told_degrees : Ok1 P w K mg base l_told_degrees "told_degrees" ["many", "rule"] sp_told_degrees) {sp_value_at : Sp} {l_value_at : Nat} (O_value_at : Ok1 P w K mg base l_value_at "value_at" ["p", "rule", "point"] sp_value_at)
    {A : Around} {outer : List Env} {s : Shared} {H : Hp} {E : XK} {j : Nat} (hr : Room j (A.deeper (envOfC "followed" (defScope s_followed) s.heap.objs.size (He.ga K "followed") (.ref (He.cT K ("followed", none)).1))))
    (h_is_plain_line : l_is_plain_line ≤ 5) (h_degree_of : l_degree_of ≤ 5) (h_halves : l_halves ≤ 4) (h_at_place : l_at_place ≤ j) (h_told_degrees : l_told_degrees ≤ j) (h_value_at : l_value_at ≤ j) (h6 : 6 ≤ j) :
    PSs (cxOf CX0 P w K mg base n_followed "followed" (defScope s_followed) (He.ga K "followed") (.ref (He.cT K ("followed", none)).1) A outer s H E).nox (defBody s_followed) (t_followed K sp_is_plain_line sp_degree_of sp_halves sp_at_place sp_told_degrees sp_value_at) := by
  have FW := T.fn 23 d_word_of rfl
  exact (pss_cons (ps_asg (pv 0) (pg_tup rfl (pgs_cons (pg_name (i := 9) sc_followed.nd rfl (Or.inr rfl)) (pgs_cons (pg_name (i := 3) sc_followed.nd rfl (Or.inl rfl)) (pgs_cons (pg_name (i := 4) sc_followed.nd rfl (Or.inl rfl)) (pgs_cons (pg_name (i := 5) sc_followed.nd rfl (Or.inl rfl)) pgs_nil))))))
    (pss_cons (ps_asg (pe_tup (pa_cons (pe_callO O_told_degrees hr (by omega) (by rfl) (pa_cons (pv 3) (pa_cons (pv 4) pa_nil))) (pa_cons (pe_lst (pa_cons (pv 5) pa_nil)) pa_nil))) (pg_tup rfl (pgs_cons (pg_name (i := 6) sc_followed.nd rfl (Or.inl rfl)) (pgs_cons (pg_name (i := 10) sc_followed.nd rfl (Or.inr rfl)) pgs_nil))))
    (pss_cons (ps_if (pt_not (pt_val (pe_callB call_isiT (by rfl) (T.free 0 _ rfl) (by decide +kernel) (pa_cons (pv 1) (pa_cons (pe_tup (pa_cons (pe_bltn (v := .ty "tuple") (by rfl) (T.free 4 _ rfl) (by decide +kernel) rfl) (pa_cons (pe_bltn (v := .ty "list") (by rfl) (T.free 5 _ rfl) (by decide +kernel) rfl) pa_nil))) pa_nil))))) (pss_one (ps_ret (pe_tup (pa_cons (pe_tup (pa_cons pe_str (pa_cons pe_int (pa_cons pe_str pa_nil)))) (pa_cons (pv 10) pa_nil))))) pss_nil)
    (pss_cons (ps_for PassesOwn.never rfl (pi_range1 (by rfl) (T.free 9 _ rfl) (pa_cons (pv 3) pa_nil)) (pg_name (i := 7) sc_followed.nd rfl (Or.inl rfl)) (pss_cons (ps_set (i := 8) sc_followed.nd rfl (Or.inl rfl) (pe_give (a := "line") (k := 5) (by rfl) FW.2 FW.1.choose_spec sc_word_of (fun _ _ _ _ _ _ us hl => match us, hl with | [_, _, _, _, _], _ => rfl) rfl
      (fun f c' cdg pins σ s H vs Q M hr5 h => ⟨_, der_word_of T O_is_plain_line O_degree_of hr5 h_is_plain_line h_degree_of (σF := σ) (tb := t_fits K sp_halves)
        (fun ha he => pe_act1 (k := 4) (i := 4) (a := "line") M lamS no_line (fun _ _ _ => rfl) hr5 (fun A outer s H hr4 => pe_cmp (pc_eqI (pe_callO O_halves hr4 h_halves (by rfl) (pa_cons (pv 10) (pa_cons (pv 0) pa_nil))) (pe_ix ix_seq (pv 11) (pe_un un_neg pe_int) (fun _ _ => rfl)))) rfl (Or.inl rfl) ha (by decide) (by decide) he), h f c' M.code⟩)
      TB rfl (by exact List.mem_singleton.mpr rfl) (fun p hp _ => by rw [List.mem_singleton.mp hp]; rfl) (hr.mono h6) lamS rfl (pv 9) (pv 1) (pv 7) (pe_ix ix_seq (pv 6) (pv 7) (fun _ _ => rfl))))
    (pss_cons (ps_if (pt_cmp (pc_notN (pv 8))) (pss_one (ps_ret (pe_tup (pa_cons (pe_tup (pa_cons pe_str (pa_cons (pv 7) (pa_cons (pv 8) pa_nil)))) (pa_cons (pv 10) pa_nil))))) pss_nil)
    (pss_one (ps_expr (pe_bm PySem.F.plainAttrs_list PySem.F.slot_list_append PySem.F.type_list_append mt_append (pv 10) (pa_cons (pe_callO O_at_place hr (by omega) (by rfl) (pa_cons (pv 9) (pa_cons (pe_ix ix_seq (pv 1) (pv 7) (fun _ _ => rfl)) (pa_cons (pe_ix ix_seq (pv 2) (pv 7) (fun _ _ => rfl)) pa_nil)))) pa_nil)))))))
    (pss_cons (ps_if (pt_cmp (pc_gt (pe_callB c_len (by rfl) (T.free 1 _ rfl) (by decide +kernel) (pa_cons (pv 1) pa_nil)) (pv 3))) (pss_one (ps_ret (pe_tup (pa_cons (pe_tup (pa_cons pe_str (pa_cons (pv 3) (pa_cons pe_str pa_nil)))) (pa_cons (pv 10) pa_nil))))) pss_nil)
    (pss_cons (ps_if (pt_cmp (pc_neI (pe_callO O_value_at hr (by omega) (by rfl) (pa_cons (pv 9) (pa_cons (pv 4) (pa_cons (pv 2) pa_nil)))) (pe_ix ix_seq (pv 10) (pe_un un_neg pe_int) (fun _ _ => rfl)))) (pss_one (ps_ret (pe_tup (pa_cons (pe_tup (pa_cons pe_str (pa_cons (pv 3) (pa_cons pe_str pa_nil)))) (pa_cons (pv 10) pa_nil))))) pss_nil)
    (pss_one (ps_ret (pe_tup (pa_cons (pe_glob (by rfl) T.gPASSED rfl) (pa_cons (pv 10) pa_nil)))))))))))
end
end K10

set_option Elab.async false
set_option linter.all false
set_option maxRecDepth 100000
set_option maxHeartbeats 4000000
/-! K10RdH: the judge -/
namespace K10
open PySem PySem.Spec PyProof.Rows L2 Evl LamX K10M
section
variable {P : Program} {w : World} {K : PySem.W.Frag} {mg : Str → Option Value} {base : Heap} {H H' : Hp}

/-! ### what stays -/
def At1 (H H' : Hp) (a : Addr) : Prop := ∀ o, H a = some o → (∀ ps, o ≠ .tbl ps) → H' a = some o
theorem at_N (e : ExtN H H') (a : Addr) : At1 H H' a := fun o h n => e a o h n
theorem at_E (e : Ex H H') (a : Addr) : At1 H H' a := fun o h n => e a o h
theorem st_at {a : Addr} {xs : List V} (e : At1 H H' a) (h : SqT K H a xs) : SqT K H' a xs := by
  rcases h with (h | ⟨o, h⟩) | h
  · exact .inl (.inl (e _ h fun ps z => by cases z))
  · exact .inl (.inr ⟨o, e _ h fun ps z => by cases z⟩)
  · exact .inr h
theorem sl_at {a : Addr} {xs : List V} (e : At1 H H' a) (h : SqL K H a xs) : SqL K H' a xs := by
  rcases h with (h | ⟨o, h⟩) | h
  · exact .inl (.inl (e _ h fun ps z => by cases z))
  · exact .inl (.inr ⟨o, e _ h fun ps z => by cases z⟩)
  · exact .inr h
theorem sa_at {a : Addr} {xs : List V} (e : At1 H H' a) (h : SqA K H a xs) : SqA K H' a xs := h.elim (fun z => .inl (sl_at e z)) fun z => .inr (st_at e z)
theorem tyx_at {x : V} {t : Value} (e : ∀ a, x = .ref a → At1 H H' a) (h : TyX K H x t) : TyX K H' x t := by
  cases h with
  | base b =>
    cases b with
    | non => exact .base .non
    | bl y => exact .base (.bl y)
    | int y => exact .base (.int y)
    | str y => exact .base (.str y)
    | flt y => exact .base (.flt y)
    | lst a => exact .base (.lst (e _ rfl _ a fun ps z => by cases z))
    | frz a => exact .base (.frz (e _ rfl _ a fun ps z => by cases z))
    | tup a => exact .base (.tup (e _ rfl _ a fun ps z => by cases z))
    | dK a => exact .base (.dK (e _ rfl _ a fun ps z => by cases z))
    | dT a => exact .base (.dT (e _ rfl _ a fun ps z => by cases z))
    | ins a b c d f g => exact .base (.ins (e _ rfl _ a fun ps z => by cases z) b c d f g)
  | byt b => exact .byt b
  | set a => exact .set (e _ rfl _ a fun ps z => by cases z)
  | kList a b => exact .kList a b
  | kTuple a b => exact .kTuple a b
  | kDict a b => exact .kDict a b
  | fTuple a => exact .fTuple (e _ rfl _ a fun ps z => by cases z)
  | fDict a => exact .fDict (e _ rfl _ a fun ps z => by cases z)
theorem Knd.at {x : V} {t : String} (e : ∀ a, x = .ref a → At1 H H' a) (h : Knd K H x t) : Knd K H' x t := ⟨tyx_at e h.1, h.2⟩
theorem tex_N (e : ExtN H H') : TEx K H H' := fun a xs h => st_at (at_N e a) h
theorem ItAt.at {x : V} {it : Itm} (e : ∀ a, x = .ref a → At1 H H' a) (h : ItAt K H x it) : ItAt K H' x it := by
  cases it with
  | none =>
    obtain ⟨t, h1, h2⟩ := h
    exact ⟨t, h1.at e, h2⟩
  | some es =>
    obtain ⟨a, rfl, h⟩ := h
    exact ⟨a, rfl, st_at (e a rfl) h⟩
/-- lines, told: a row of items, or neither tuple nor list -/
def LnsAt (K : PySem.W.Frag) (H : Hp) (x : V) : Option (List Itm) → Prop
  | none => ∃ t, Knd K H x t ∧ t ≠ "tuple" ∧ t ≠ "list"
  | some its => ∃ a xs, x = .ref a ∧ SqA K H a xs ∧ xs.length = its.length ∧ ∀ (m : Nat) (y : V), xs[m]? = some y → ∃ it, its[m]? = some it ∧ ItAt K H y it
theorem LnsAt.at {x : V} {ls : Option (List Itm)} (e : ∀ a, At1 H H' a) (h : LnsAt K H x ls) : LnsAt K H' x ls := by
  cases ls with
  | none =>
    obtain ⟨t, h1, h2⟩ := h
    exact ⟨t, h1.at fun a _ => e a, h2⟩
  | some its =>
    obtain ⟨a, xs, rfl, h1, h2, h3⟩ := h
    exact ⟨a, xs, rfl, sa_at (e a) h1, h2, fun m y hy => (h3 m y hy).elim fun it z => ⟨it, z.1, z.2.at fun a _ => e a⟩⟩
theorem LnsAt.N {x : V} {ls : Option (List Itm)} (e : ExtN H H') (h : LnsAt K H x ls) : LnsAt K H' x ls := h.at (at_N e)
theorem LnsAt.ex {x : V} {ls : Option (List Itm)} (e : Ex H H') (h : LnsAt K H x ls) : LnsAt K H' x ls := h.at (at_E e)
theorem line_ints {p : Int} {es : List En} (h : isLine p (some es) = true) : es.map enV = (nsOf (some es)).map V.int := by
  have h1 : es.all (isNum p) = true := by
    have h : (decide (es.length ≤ 200) && (es.all (isNum p) && (es.isEmpty || lastNz es))) = true := h
    rw [Bool.and_eq_true, Bool.and_eq_true] at h
    exact h.2.1
  show es.map enV = (es.map toI).map V.int
  rw [List.map_map]
  refine List.map_congr_left fun e he => ?_
  have h2 := List.all_eq_true.mp h1 e he
  cases e with
  | int i => rfl
  | bl b => cases h2
/-! ### word_of -/
def wdV (p : Int) (its : List Itm) (m d : Nat) (cl : Int) : V := match its[m]? with
  | none => .str "line"
  | some it => if isLine p it = false then .str "line" else if ((nsOf it).length : Int) - 1 > d then .str "degree" else if (ev p 0 (nsOf it) + ev p 1 (nsOf it)) % p ≠ cl then .str "halves" else .non
theorem ev_act {q : Str} {σF σ : L2.St} {f c1 : Addr} {i : Nat} {tb te : TE} {x z : V} (hi : σ[i]? = some (some (.ref f))) (ha : Ev te σ H x) (hc : H c1 = some (CodeO c1 q)) (hb : Ev tb (some x :: σF) H z) : Ev (tAct q σF f c1 i tb (tCons te tNil)) σ H z := fun H1 e Q k =>
  ⟨hi, (ea_cons ha ea_nil) H1 e _ fun H2 e2 => ⟨x, rfl, (e.trans e2) _ _ hc, hb H2 (e.trans e2) Q fun H3 e3 => k H3 (e2.trans e3)⟩⟩
theorem isa_seq {t : String} (h1 : t ≠ "tuple") (h2 : t ≠ "list") (hk : t ∈ kinds) : (isaB t "tuple" || isaB t "list") = false := by
  have key : (kinds.all fun a => decide (a = "tuple") || decide (a = "list") || !(isaB a "tuple" || isaB a "list")) = true := by decide +kernel
  have := List.all_eq_true.mp key t hk
  rw [decide_eq_false h1, decide_eq_false h2, Bool.false_or, Bool.false_or] at this
  simpa using this
theorem isa_seqA {a : Addr} {xs : List V} (h : SqA K H a xs) : ∃ t, Knd K H (.ref a) t ∧ (isaB t "tuple" || isaB t "list") = true := by
  rcases h with h | h
  · exact ⟨"list", Knd.lst h, by decide +kernel⟩
  · exact ⟨"tuple", Knd.tup h, by decide +kernel⟩
theorem end_cl {so : List Int} {cl : Int} (h : so.getLast? = some cl) : atI (so.map V.int) (-1) = some (.int cl) := at_end (by rw [List.getLast?_map, h]; rfl)
theorem rd_word {p cl : Int} {m d : Nat} {x : V} {f c' l : Addr} {σF : L2.St} {so : List Int} {its : List Itm} {Q : VK} (hp : 0 < p) (hp2 : p < 4294967296) (hx : LnsAt K H x (some its)) (hc : H c' = some (CodeO c' lamQ))
    (s9 : σF[9]? = some (some (.int p))) (s10 : σF[10]? = some (some (.ref l))) (hl : H l = some (.lst (so.map V.int))) (hcl : so.getLast? = some cl) (q : ∀ H2, Ex H H2 → Q (wdV p its m d cl) H2) :
    t_word_of K (sp_is_plain_line K) (sp_degree_of K) lamQ σF f c' (t_fits K (sp_halves K)) ⟨fun _ H' => Q .non H', Q, fun _ _ => False, fun _ _ => False⟩ (start n_word_of [.int p, x, .int (m : Int), .int (d : Int), .ref f]) H := by
  obtain ⟨a, xs, rfl, hs, hlen, hit⟩ := hx
  obtain ⟨t, hk, ht⟩ := isa_seqA hs
  have first : Ev (tCB (rIsiT K) (tCons (tVar 1) (tCons (tTup (tCons (tC (.ty "tuple")) (tCons (tC (.ty "list")) tNil))) tNil))) (start n_word_of [.int p, .ref a, .int (m : Int), .int (d : Int), .ref f]) H (.bl true) := ev_is (e_isi2 (ev_var rfl) hk (by decide) (by decide)) (by rw [ht])
  cases hm : its[m]? with
  | none =>
    have hge : its.length ≤ m := List.getElem?_eq_none_iff.mp hm
    have qv : ∀ H2, Ex H H2 → Q (.str "line") H2 := by
      intro H2 e2
      have := q H2 e2
      unfold wdV at this
      rw [hm] at this
      exact this
    refine q_when (b := true) (et_is (et_or (et_not (et_B first)) fun _ => et_or (b := false) (et_B (e_cmp (ev_var rfl) (e_len (ev_var rfl) hs))) fun z => absurd z (by rw [decide_eq_true (by omega)]; simp)) (by rw [decide_eq_true (by omega)]; rfl)) (fun _ H1 e1 => s_ret ev_c fun H2 e2 => qv H2 (e1.trans e2)) fun z => by cases z
  | some it =>
    have hlt : m < its.length := (List.getElem?_eq_some_iff.mp hm).1
    have hlt2 : m < xs.length := by omega
    obtain ⟨it', h1, h2⟩ := hit m _ (List.getElem?_eq_getElem hlt2)
    rw [hm] at h1
    have e1 : it = it' := Option.some.inj h1
    subst e1
    have hat : atI xs (m : Int) = some xs[m] := atI_nat (List.getElem?_eq_getElem hlt2)
    have cond : EvT (tOr (tNot (tB (tCB (rIsiT K) (tCons (tVar 1) (tCons (tTup (tCons (tC (.ty "tuple")) (tCons (tC (.ty "list")) tNil))) tNil))))) (tOr (tB (tGe (tVar 2) (tCB (rLenQ K) (tCons (tVar 1) tNil)))) (tNot (tB (tCall (sp_is_plain_line K) [] E0 (tCons (tVar 0) (tCons (tOp (rIx K) (tVar 1) (tVar 2)) tNil))))))) (start n_word_of [.int p, .ref a, .int (m : Int), .int (d : Int), .ref f]) H (!isLine p it) :=
      et_is (et_or (et_not (et_B first)) fun _ => et_or (et_B (e_cmp (ev_var rfl) (e_len (ev_var rfl) hs))) fun _ => et_not (et_B (ev_call (ea_cons (ev_var rfl) (ea_cons (e_ixA (ev_var rfl) (ev_var rfl) hs hat) ea_nil)) (sv_is_plain_line h2)))) (by rw [decide_eq_false (by omega)]; rfl)
    have wq : wdV p its m d cl = if isLine p it = false then .str "line" else if ((nsOf it).length : Int) - 1 > d then .str "degree" else if (ev p 0 (nsOf it) + ev p 1 (nsOf it)) % p ≠ cl then .str "halves" else .non := by
      unfold wdV
      rw [hm]
    rw [wq] at q
    cases hil : isLine p it with
    | false =>
      rw [hil] at q cond
      exact q_when (b := true) cond (fun _ H1 e1 => s_ret ev_c fun H2 e2 => q H2 (e1.trans e2)) fun z => by cases z
    | true =>
      rw [hil] at q cond
      refine q_when (b := false) cond (fun z => by cases z) fun _ H1 e1 => ?_
      rw [if_neg (by simp)] at q
      cases it with
      | none => cases hil
      | some es =>
        obtain ⟨b, eb, hb⟩ := h2
        have hbi := hb
        rw [line_ints hil] at hbi
        have hz : es.length = (nsOf (some es)).length := by
          show _ = (es.map toI).length
          rw [List.length_map]
        rw [eb] at hat
        have hs1 := hs.ex e1
        have dcond : EvT (tB (tGt (tCall (sp_degree_of K) [] E0 (tCons (tOp (rIx K) (tVar 1) (tVar 2)) tNil)) (tVar 3))) (start n_word_of [.int p, .ref a, .int (m : Int), .int (d : Int), .ref f]) H1 (decide (((nsOf (some es)).length : Int) - 1 > d)) := by
          refine et_is (et_B (e_cmp (ev_call (ea_cons (e_ixA (ev_var rfl) (ev_var rfl) hs1 hat) ea_nil) (sv_degree_of (ex_t e1 hb))) (ev_var rfl))) ?_
          rw [List.length_map, hz]
        by_cases hd : ((nsOf (some es)).length : Int) - 1 > d
        · rw [decide_eq_true hd] at dcond
          rw [if_pos hd] at q
          exact q_when (b := true) dcond (fun _ H2 e2 => s_ret ev_c fun H3 e3 => q H3 ((e1.trans e2).trans e3)) fun z => by cases z
        · rw [decide_eq_false hd] at dcond
          rw [if_neg hd] at q
          refine q_when (b := false) dcond (fun z => by cases z) fun _ H2 e2 => ?_
          have e12 := e1.trans e2
          have fit : Ev (tAct lamQ σF f c' 4 (t_fits K (sp_halves K)) (tCons (tOp (rIx K) (tVar 1) (tVar 2)) tNil)) (start n_word_of [.int p, .ref a, .int (m : Int), .int (d : Int), .ref f]) H2 (.bl (decide ((ev p 0 (nsOf (some es)) + ev p 1 (nsOf (some es))) % p = cl))) :=
            ev_act rfl (e_ixA (ev_var rfl) (ev_var rfl) (hs.ex e12) hat) (e12 _ _ hc) (e_cmp (ev_call (ea_cons (ev_var s9) (ea_cons (ev_var rfl) ea_nil)) (sv_halves (ex_t e12 hbi) hp hp2)) (e_ixL (ev_var s10) (e_neg ev_c) (sq_of (e12 _ _ hl)) (end_cl hcl)))
          by_cases hv : (ev p 0 (nsOf (some es)) + ev p 1 (nsOf (some es))) % p = cl
          · rw [decide_eq_true hv] at fit
            rw [if_neg (fun z => z hv)] at q
            exact s_ret (ev_if (b := true) (et_B fit) (fun _ => ev_c) fun z => by cases z) fun H3 e3 => q H3 (e12.trans e3)
          · rw [decide_eq_false hv] at fit
            rw [if_pos hv] at q
            exact s_ret (ev_if (b := false) (et_B fit) (fun z => by cases z) fun _ => ev_c) fun H3 e3 => q H3 (e12.trans e3)
end
end K10

set_option Elab.async false
set_option linter.all false
set_option maxRecDepth 100000
set_option maxHeartbeats 4000000
/-! K10RdI: followed, judged, claims -/
namespace K10
open PySem PySem.Spec PyProof.Rows L2 Evl LamX K10M
section
variable {P : Program} {w : World} {K : PySem.W.Frag} {mg : Str → Option Value} {base : Heap} {H H' : Hp}

/-- followed's promise by its reading: its code object is known by its name -/
theorem mk_followed (T : Top K mg) (TB : TabB base mg (He.cT K ("followed", none)).1 (He.cT K ("followed", none)).2) {k : Nat} {sp_is_plain_line sp_degree_of sp_halves sp_at_place sp_told_degrees sp_value_at sp : Sp} {l_is_plain_line l_degree_of l_halves l_at_place l_told_degrees l_value_at : Nat}
    (O_is_plain_line : Ok1 P w K mg base l_is_plain_line "is_plain_line" ["p", "value"] sp_is_plain_line) (O_degree_of : Ok1 P w K mg base l_degree_of "degree_of" ["line"] sp_degree_of) (O_halves : Ok1 P w K mg base l_halves "halves" ["p", "line"] sp_halves)
    (O_at_place : Ok1 P w K mg base l_at_place "at_place" ["p", "line", "place"] sp_at_place) (O_told_degrees : Ok1 P w K mg base l_told_degrees "told_degrees" ["many", "rule"] sp_told_degrees) (O_value_at : Ok1 P w K mg base l_value_at "value_at" ["p", "rule", "point"] sp_value_at)
    (h_is_plain_line : l_is_plain_line ≤ 5) (h_degree_of : l_degree_of ≤ 5) (h_halves : l_halves ≤ 4) (h_at_place : l_at_place ≤ k) (h_told_degrees : l_told_degrees ≤ k) (h_value_at : l_value_at ≤ k) (h6 : 6 ≤ k) (len : ∀ vs H Q E, sp vs H Q E → vs.length = 3)
    (read : ∀ vs H Q E, sp vs H Q E → t_followed K sp_is_plain_line sp_degree_of sp_halves sp_at_place sp_told_degrees sp_value_at ⟨fun _ H' => Q .non H', Q, fun _ _ => False, fun _ _ => False⟩ (start n_followed vs) H) :
    Ok1 P w K mg base (k + 1) "followed" ["claimed", "lines", "draws"] sp := by
  obtain ⟨⟨fd, F⟩, g⟩ := T.fn 25 d_followed rfl
  refine ⟨⟨fd, ?_, F.bindsN fun _ _ _ _ _ _ us hl => match us, hl with | [_, _, _], _ => rfl, F.kp⟩, g⟩
  obtain ⟨oc, od, dV, kV, doc, pm, an, cdv, ct, osl, rfl, lk, hcd, _, _⟩ := F.ex
  obtain ⟨c, rfl⟩ := He.codeIn_ref hcd
  have ec : (He.cT K ("followed", none)).1 = c := He.codeOf_eq (p := ("followed", none)) lk rfl
  refine fn_of (N := n_followed) lk hcd sc_followed len fun A outer s H vs Q E hr h => ⟨_, (PSs.nox ?_), read vs H Q E h⟩
  rw [← ec] at hr ⊢
  exact der_followed T TB O_is_plain_line O_degree_of O_halves O_at_place O_told_degrees O_value_at hr h_is_plain_line h_degree_of h_halves h_at_place h_told_degrees h_value_at h6
/-! ### what is told of a judging -/
def vdV : Vd → List V
  | .passed => [.str "passed"]
  | .caught k z => [.str "caught", .int (k : Int), .str (Str.ofString z)]
structure PairAt (K : PySem.W.Frag) (H : Hp) (r : V) (o : Vd × List Int) : Prop where
  ex : ∃ a v l, r = .ref a ∧ SqT K H a [.ref v, .ref l] ∧ SqT K H v (vdV o.1) ∧ SqL K H l (o.2.map V.int)
def RetJ (K : PySem.W.Frag) (o : Vd × List Int) (H : Hp) (Q : VK) : Prop := ∀ r H2, ExtN H H2 → Tabs (tabsF K) H2 → PairAt K H2 r o → Q r H2
def sp_followed (K : PySem.W.Frag) : Sp := fun vs H Q _ => ∃ (a b : Addr) (x vr : V) (p c : Int) (n : Nat) (R : Rl) (draws : List Int) (its : Option (List Itm)), vs = [.ref a, x, .ref b] ∧ SumAt K H a p n vr R c ∧ LnsAt K H x its ∧ SqT K H b (draws.map V.int) ∧ InAll p draws ∧ draws.length = n ∧ Tabs (tabsF K) H ∧
  RetJ K (judge p n R c draws its) H Q
theorem q_any {te : TE} {tz : TS} {D : Ends} {σ : L2.St} {i : Nat} (h : te σ H fun x H1 => tz D (σ.set i (some x)) H1) : tSeq (tAsg te (gName i)) tz D σ H := h
theorem give_ok {T : List (Addr × Str)} {TT : L2.St → List V → Hp → VK → Prop} {t1 t2 t3 t4 : TE} {σ : L2.St} {v1 v2 v3 v4 : V} {Q : VK} (hT : Tabs T H) (h1 : Ev t1 σ H v1) (h2 : Ev t2 σ H v2) (h3 : Ev t3 σ H v3) (h4 : Ev t4 σ H v4) (h : ∀ H5, ExtN H H5 → Tabs T H5 → TT σ [v1, v2, v3, v4] H5 Q) :
    tGive T TT t1 t2 t3 t4 σ H Q := h1 H (Ex.refl H) _ fun H1 e1 => h2 H1 e1 _ fun H2 e2 => h3 H2 (e1.trans e2) _ fun H3 e3 => h4 H3 ((e1.trans e2).trans e3) _ fun H4 e4 =>
  have e := ((e1.trans e2).trans e3).trans e4
  ⟨hT.ext e, fun H5 eN T5 => h H5 ((ExtN.of e).trans eN) T5⟩
theorem q_asgTL {σ : L2.St} {ta tb : TE} {tz : TS} {D : Ends} {i j : Nat} {xs ys : List V} (ha : EvS K ta σ H xs) (hb : EvL tb σ H ys) (k : ∀ p l H1 H2, Ex H H1 → SqT K H1 p xs → H1 l = none → Ex H1 H2 → H2 l = some (.lst ys) → tz D ((σ.set i (some (.ref p))).set j (some (.ref l))) H2) :
    tSeq (tAsg (tTup (tCons ta (tCons tb tNil))) (gTup K 2 (gCons (gName i) (gCons (gName j) gNil)))) tz D σ H :=
  ha H (Ex.refl H) _ fun p H1 e1 hp => hb H1 e1 _ fun l H2 hl e2 h2 => ⟨sz_of (by simp), fun t ht => by
    have e3 : Ex H2 (upd H2 t (.tup [.ref p, .ref l])) := Ex.new ht
    exact ⟨t, [.ref p, .ref l], rfl, st_of upd_same, rfl, .ref p, [.ref l], rfl, .ref l, [], rfl, rfl, k p l _ _ e1 hp hl (e2.trans e3) (e3 _ _ h2)⟩⟩
theorem tabs_upd {T : List (Addr × Str)} {l : Addr} {xs ys : List V} (hT : Tabs T H) (h : H l = some (.lst xs)) : Tabs T (upd H l (.lst ys)) := fun p hp => by
  obtain ⟨ps, h1, h2, h3⟩ := hT p hp
  refine ⟨ps, ?_, h2, fun pos cv hc => ?_⟩
  · rw [upd_ne (fun z => by rw [z, h] at h1; cases h1)]
    exact h1
  · obtain ⟨c, e1, e2⟩ := h3 pos cv hc
    refine ⟨c, e1, ?_⟩
    rw [upd_ne (fun z => by
      rw [z, h] at e2
      unfold CodeO at e2
      cases e2)]
    exact e2
theorem s_retP {σ : L2.St} {ta tb : TE} {D : Ends} {xs : List V} {y : V} (ha : EvS K ta σ H xs) (hb : Ev tb σ H y) (k : ∀ p r H1, Ex H H1 → SqT K H1 p xs → SqT K H1 r [.ref p, y] → D.rt (.ref r) H1) : tRet (tTup (tCons ta (tCons tb tNil))) D σ H :=
  ha H (Ex.refl H) _ fun p H1 e1 hp => hb H1 e1 _ fun H2 e2 => ⟨sz_of (by simp), fun t ht => by
    have e3 : Ex H2 (upd H2 t (.tup [.ref p, y])) := Ex.new ht
    exact k p t _ ((e1.trans e2).trans e3) (ex_t (e2.trans e3) hp) (st_of upd_same)⟩
theorem prime_small {p : Int} (h : p ∈ primes) : 0 < p ∧ 1 < p ∧ p < 4294967296 := by
  have := primes_in h
  omega
theorem isN_wd (s : Str) : (!decide (V.str s = V.non)) = true := by simp
theorem ok_followed (T : Top K mg) (TB : TabB base mg (He.cT K ("followed", none)).1 (He.cT K ("followed", none)).2) : Ok1 P w K mg base 8 "followed" ["claimed", "lines", "draws"] (sp_followed K) := by
  refine mk_followed T TB (k := 7) (ok_is_plain_line T) (ok_degree_of T) (ok_halves T) (ok_at_place T) (ok_told T 3) (ok_value_at T 3) (by decide) (by decide) (by decide) (by decide) (by decide) (by decide) (by decide) (fun vs H Q E h => ?_) fun vs H Q E h => ?_
  · obtain ⟨a, b, x, vr, p, c, n, R, draws, its, rfl, _⟩ := h
    rfl
  obtain ⟨a, b, x, vr, p, c, n, R, draws, ls, rfl, s, hx, hb, hd, hdl, hT, k⟩ := h
  obtain ⟨hp0, hp1, hp2⟩ := prime_small s.hp
  have hn3 := s.hn
  refine q_asgT4 (ev_var rfl) s.at_ fun H1 e1 => ?_
  have s1 := s.ex e1
  refine q_asgTL (K := K) (es_call (ea_cons (ev_var rfl) (ea_cons (ev_var rfl) ea_nil)) (ss_told s1.rl s1.ok (by omega) s1.hh)) (el_lst (ea_cons (ev_var rfl) ea_nil) (by simp)) fun dgp l Hd H2 ed hdg hld e2 hl => ?_
  have sd := s1.ex ed
  have e0d := e1.trans ed
  have e02 := e0d.trans e2
  -- an end of the walk: so is told, the verdict's tuple is told
  have fin : ∀ {G : Hp} {σ : L2.St} {ta tb : TE} {o : Vd × List Int} {D : Ends}, D.rt = Q → ExtN Hd G → Tabs (tabsF K) G → EvS K ta σ G (vdV o.1) → Ev tb σ G (.ref l) → G l = some (.lst (o.2.map V.int)) → judge p n R c draws ls = o → tRet (tTup (tCons ta (tCons tb tNil))) D σ G := by
    intro G σ ta tb o D hD eN hG ha hb' hlG ho
    refine s_retP ha hb' fun v r G1 eG hv hr => ?_
    rw [hD]
    rw [ho] at k
    exact k _ G1 ((ExtN.of e0d).trans (eN.trans (ExtN.of eG))) (hG.ext eG) ⟨r, v, l, rfl, hr, hv, sq_of (eG _ _ hlG)⟩
  have T2 : Tabs (tabsF K) H2 := hT.ext e02
  cases ls with
  | none =>
    obtain ⟨t, hk, ht1, ht2⟩ := hx.ex e02
    refine q_when (b := true) (et_is (et_not (et_B (e_isi2 (ev_var rfl) hk (by decide) (by decide)))) (by rw [isa_seq ht1 ht2 hk.2]; rfl)) (fun _ H3 e3 => ?_) fun z => by cases z
    exact fin (o := (.caught 0 "line", [c])) rfl (ExtN.of (e2.trans e3)) (T2.ext e3) (EvU.s (eu_tup (ea_cons ev_c (ea_cons ev_c (ea_cons ev_c ea_nil))) (by simp [vdV]))) (ev_var rfl) (e3 _ _ hl) rfl
  | some its =>
    have hxd := hx.ex e0d
    obtain ⟨ax, xs, rfl, hsx, hlen, hit⟩ := hx
    obtain ⟨t, hk, ht⟩ := isa_seqA (hsx.ex e02)
    refine q_when (b := false) (et_is (et_not (et_B (e_isi2 (ev_var rfl) hk (by decide) (by decide)))) (by rw [ht]; rfl)) (fun z => by cases z) fun _ H3 e3 => ?_
    have e03 := e02.trans e3
    let Pv : Nat → L2.St → Hp → Prop := fun m σ G => ∃ (cl : Int) (so : List Int) (y7 y8 : Option V), judge p n R c draws (some its) = judgeL p n R draws its (n - m) m cl so ∧ so.getLast? = some cl ∧ so.length = m + 1 ∧ G l = some (.lst (so.map V.int)) ∧ ExtN Hd G ∧ Tabs (tabsF K) G ∧
      σ = [some (.ref a), some (.ref ax), some (.ref b), some (.int (n : Int)), some vr, some (.int c), some (.ref dgp), y7, y8, some (.int p), some (.ref l)]
    have facts : ∀ {G : Hp}, ExtN Hd G → SumAt K G a p n vr R c ∧ LnsAt K G (.ref ax) (some its) ∧ SqT K G b (draws.map V.int) ∧ SqT K G dgp (dgV n R) ∧ SqA K G ax xs := fun {G} eN =>
      ⟨sd.tex (tex_N eN), hxd.N eN, tex_N eN _ _ (ex_t e0d hb), tex_N eN _ _ hdg, sa_at (at_N eN ax) (hsx.ex e0d)⟩
    refine q_forRg (n := (n : Int)) (ea_cons (ev_var rfl) ea_nil) (by omega) Pv (fun H4 e4 => ?_) (fun m σ' G hm hP => ?_) fun σ' G hP => ?_
    · exact ⟨c, [c], none, none, by simp [judge], rfl, rfl, e4 _ _ (e3 _ _ hl), ExtN.of (e2.trans (e3.trans e4)), T2.ext (e3.trans e4), rfl⟩
    · rw [Int.toNat_natCast] at hm
      obtain ⟨cl, so, y7, y8, hj, hcl, hsl, hlG, eN, hTG, rfl⟩ := hP
      obtain ⟨sG, xG, bG, dG, aG⟩ := facts eN
      obtain ⟨kk, hkk⟩ : ∃ kk, n - m = kk + 1 := ⟨n - m - 1, by omega⟩
      have hdm : atI (dgV n R) (m : Int) = some (.int ((dg m R : Nat) : Int)) := atI_nat (by
        unfold dgV
        rw [List.getElem?_map, List.getElem?_range hm]
        rfl)
      refine q_any (give_ok hTG (ev_var rfl) (ev_var rfl) (ev_var rfl) (e_ixT (ev_var rfl) (ev_var rfl) dG hdm) fun H5 eN5 T5 f c' hc => ?_)
      have eN25 := eN.trans eN5
      obtain ⟨s5, x5, b5, d5, a5⟩ := facts eN25
      have l5 : H5 l = some (.lst (so.map V.int)) := eN5 _ _ hlG fun ps z => by cases z
      refine rd_word (l := l) (so := so) (cl := cl) hp0 hp2 x5 hc rfl rfl l5 hcl fun H6 e6 => ?_
      have l6 : H6 l = some (.lst (so.map V.int)) := e6 _ _ l5
      have T6 := T5.ext e6
      have eN6 := eN25.trans (ExtN.of e6)
      -- caught by a word
      have bad : ∀ (z : String) (bk : L2.St → Hp → Prop), judge p n R c draws (some its) = (.caught m z, so) → tSeq (tIfS (tB (tNotN (tVar 8))) (tRet (tTup (tCons (tTup (tCons (tC (.str "caught")) (tCons (tVar 7) (tCons (tVar 8) tNil)))) (tCons (tVar 10) tNil)))) tNext)
          (tDrop (tBM K "list" rAppend (tVar 10) (tCons (tCall (sp_at_place K) [] E0 (tCons (tVar 9) (tCons (tOp (rIx K) (tVar 1) (tVar 7)) (tCons (tOp (rIx K) (tVar 2) (tVar 7)) tNil)))) tNil))) ⟨Pv (m + 1), Q, bk, Pv (m + 1)⟩ ([some (.ref a), some (.ref ax), some (.ref b), some (.int (n : Int)), some vr, some (.int c), some (.ref dgp), some (.int (m : Int)), some (.str (Str.ofString z)), some (.int p), some (.ref l)]) H6 := by
        intro z bk hz
        refine q_when (b := true) (et_is (et_B (e_notN (ev_var rfl))) rfl) (fun _ H7 e7 => ?_) fun z => by cases z
        exact fin (o := (.caught m z, so)) rfl (eN6.trans (ExtN.of e7)) (T6.ext e7) (EvU.s (eu_tup (ea_cons ev_c (ea_cons (ev_var rfl) (ea_cons (ev_var rfl) ea_nil))) (by simp [vdV]))) (ev_var rfl) (e7 _ _ l6) hz
      have hj2 : judge p n R c draws (some its) = (match its[m]? with
        | none => (.caught m "line", so)
        | some it => if isLine p it = false then (.caught m "line", so) else if ((nsOf it).length : Int) - 1 > dg m R then (.caught m "degree", so) else if (ev p 0 (nsOf it) + ev p 1 (nsOf it)) % p ≠ cl then (.caught m "halves", so)
          else judgeL p n R draws its kk (m + 1) (ev p (draws.getD m 0) (nsOf it)) (so ++ [ev p (draws.getD m 0) (nsOf it)])) := by
        rw [hj, hkk]
        rfl
      cases hm2 : its[m]? with
      | none =>
        rw [hm2] at hj2
        have ew : wdV p its m (dg m R) cl = .str "line" := by
          unfold wdV
          rw [hm2]
        rw [ew]
        exact bad "line" _ hj2
      | some it =>
        rw [hm2] at hj2
        have ew : wdV p its m (dg m R) cl = if isLine p it = false then .str "line" else if ((nsOf it).length : Int) - 1 > (dg m R : Nat) then .str "degree" else if (ev p 0 (nsOf it) + ev p 1 (nsOf it)) % p ≠ cl then .str "halves" else .non := by
          unfold wdV
          rw [hm2]
        rw [ew]
        by_cases c1 : isLine p it = false
        · rw [if_pos c1]
          exact bad "line" _ (by rw [hj2]; exact if_pos c1)
        rw [if_neg c1]
        by_cases c2 : ((nsOf it).length : Int) - 1 > (dg m R : Nat)
        · rw [if_pos c2]
          exact bad "degree" _ (by rw [hj2]; show (if isLine p it = false then _ else _) = _; rw [if_neg c1, if_pos c2])
        rw [if_neg c2]
        by_cases c3 : (ev p 0 (nsOf it) + ev p 1 (nsOf it)) % p ≠ cl
        · rw [if_pos c3]
          exact bad "halves" _ (by rw [hj2]; show (if isLine p it = false then _ else _) = _; rw [if_neg c1, if_neg c2, if_pos c3])
        rw [if_neg c3]
        have hj3 : judge p n R c draws (some its) = judgeL p n R draws its kk (m + 1) (ev p (draws.getD m 0) (nsOf it)) (so ++ [ev p (draws.getD m 0) (nsOf it)]) := by
          rw [hj2]
          show (if isLine p it = false then _ else _) = _
          rw [if_neg c1, if_neg c2, if_neg c3]
        refine q_when (b := false) (et_is (et_B (e_notN (ev_var rfl))) rfl) (fun z => by cases z) fun _ H7 e7 => ?_
        have eN7 := eN6.trans (ExtN.of e7)
        obtain ⟨s7, x7, b7, d7, a7⟩ := facts eN7
        have l7 := e7 _ _ l6
        have T7 := T6.ext e7
        have hlt2 : m < xs.length := by
          have := (List.getElem?_eq_some_iff.mp hm2).1
          omega
        obtain ⟨it', g1, g2⟩ := hit m _ (List.getElem?_eq_getElem hlt2)
        rw [hm2] at g1
        have eit : it = it' := Option.some.inj g1
        subst eit
        cases it with
        | none => exact absurd rfl c1
        | some es =>
          have hil : isLine p (some es) = true := by
            cases hb : isLine p (some es) with
            | false => exact absurd hb c1
            | true => rfl
          obtain ⟨ai, eai, hai⟩ := g2
          rw [line_ints hil] at hai
          have hat : atI xs (m : Int) = some (.ref ai) := by
            rw [← eai]
            exact atI_nat (List.getElem?_eq_getElem hlt2)
          have hdr : atI (draws.map V.int) (m : Int) = some (.int (draws.getD m 0)) := int_at (by omega)
          refine s_app l7 (ev_var rfl) (ev_call (ea_cons (ev_var rfl) (ea_cons (e_ixA (ev_var rfl) (ev_var rfl) a7 hat) (ea_cons (e_ixT (ev_var rfl) (ev_var rfl) b7 hdr) ea_nil))) (sv_at_place (tex_N eN7 _ _ (ex_t e0d hai)) hp0 hp2)) (by rw [List.length_map]; omega) fun H8 e8 => ?_
          have nl : ∀ bb, bb ≠ l → upd H8 l (.lst (so.map V.int ++ [.int (ev p (draws.getD m 0) (nsOf (some es)))])) bb = H8 bb := fun bb hbb => upd_ne hbb
          refine ⟨ev p (draws.getD m 0) (nsOf (some es)), so ++ [ev p (draws.getD m 0) (nsOf (some es))], _, _, ?_, by rw [List.getLast?_concat], by rw [List.length_append, hsl]; rfl, by rw [List.map_append]; exact upd_same, ?_, ?_, rfl⟩
          · rw [hj3]
            congr 1
            omega
          · intro bb o hbb hno
            have hne : bb ≠ l := fun z => by
              rw [z, hld] at hbb
              cases hbb
            rw [nl bb hne]
            exact (ExtN.of e8) bb o (eN7 bb o hbb hno) hno
          · exact tabs_upd (T7.ext e8) (e8 _ _ l7)
    · rw [Int.toNat_natCast] at hP
      obtain ⟨cl, so, y7, y8, hj, hcl, hsl, hlG, eN, hTG, rfl⟩ := hP
      obtain ⟨sG, xG, bG, dG, aG⟩ := facts eN
      rw [Nat.sub_self] at hj
      have hj2 : judge p n R c draws (some its) = (if its.length > n then (.caught n "line", so) else if val p draws R ≠ cl then (.caught n "end", so) else (.passed, so)) := hj
      have lcond : EvT (tB (tGt (tCB (rLenQ K) (tCons (tVar 1) tNil)) (tVar 3))) [some (.ref a), some (.ref ax), some (.ref b), some (.int (n : Int)), some vr, some (.int c), some (.ref dgp), y7, y8, some (.int p), some (.ref l)] G (decide (its.length > n)) :=
        et_is (et_B (e_cmp (e_len (ev_var rfl) aG) (ev_var rfl))) (by rw [hlen, decide_eq_decide]; omega)
      by_cases c1 : its.length > n
      · rw [decide_eq_true c1] at lcond
        rw [if_pos c1] at hj2
        refine q_when (b := true) lcond (fun _ H4 e4 => ?_) fun z => by cases z
        exact fin (o := (.caught n "line", so)) rfl (eN.trans (ExtN.of e4)) (hTG.ext e4) (EvU.s (eu_tup (ea_cons ev_c (ea_cons (ev_var rfl) (ea_cons ev_c ea_nil))) (by simp [vdV]))) (ev_var rfl) (e4 _ _ hlG) hj2
      rw [decide_eq_false c1] at lcond
      rw [if_neg c1] at hj2
      refine q_when (b := false) lcond (fun z => by cases z) fun _ H4 e4 => ?_
      have eN4 := eN.trans (ExtN.of e4)
      obtain ⟨s4, x4, b4, d4, a4⟩ := facts eN4
      have l4 := e4 _ _ hlG
      have vcond : EvT (tB (tNeI (tCall (sp_value_at 3 K) [] E0 (tCons (tVar 9) (tCons (tVar 4) (tCons (tVar 2) tNil)))) (tOp (rIx K) (tVar 10) (tUn uNeg (tC (.int 1)))))) [some (.ref a), some (.ref ax), some (.ref b), some (.int (n : Int)), some vr, some (.int c), some (.ref dgp), y7, y8, some (.int p), some (.ref l)] H4 (!decide (val p draws R = cl)) :=
        et_B (e_cmp (ev_call (ea_cons (ev_var rfl) (ea_cons (ev_var rfl) (ea_cons (ev_var rfl) ea_nil))) (sv_value_at hp1 hp2 s4.rl b4 hd (by rw [hdl]; exact s4.ok) s4.hh)) (e_ixL (ev_var rfl) (e_neg ev_c) (sq_of l4) (end_cl hcl)))
      by_cases c2 : val p draws R = cl
      · rw [decide_eq_true c2] at vcond
        rw [if_neg (fun z => z c2)] at hj2
        refine q_when (b := false) vcond (fun z => by cases z) fun _ H5 e5 => ?_
        exact fin (o := (.passed, so)) rfl (eN4.trans (ExtN.of e5)) ((hTG.ext e4).ext e5) (es_of ev_c (T.tPASSED _)) (ev_var rfl) (e5 _ _ l4) hj2
      · rw [decide_eq_false c2] at vcond
        rw [if_pos c2] at hj2
        refine q_when (b := true) vcond (fun _ H5 e5 => ?_) fun z => by cases z
        exact fin (o := (.caught n "end", so)) rfl (eN4.trans (ExtN.of e5)) ((hTG.ext e4).ext e5) (EvU.s (eu_tup (ea_cons ev_c (ea_cons (ev_var rfl) (ea_cons ev_c ea_nil))) (by simp [vdV]))) (ev_var rfl) (e5 _ _ l4) hj2
end
end K10

set_option Elab.async false
set_option linter.all false
set_option maxRecDepth 100000
set_option maxHeartbeats 4000000
/-! K10RdJ: judged, claims -/
namespace K10
open PySem PySem.Spec PyProof.Rows L2 Evl LamX K10M
section
variable {P : Program} {w : World} {K : PySem.W.Frag} {mg : Str → Option Value} {base : Heap} {H H' : Hp}
/-- what is handed to judged and claims -/
structure JIn (K : PySem.W.Frag) (H : Hp) (a b : Addr) (x vr : V) (p c : Int) (n : Nat) (R : Rl) (draws : List Int) (its : Option (List Itm)) : Prop where
  s : SumAt K H a p n vr R c
  x : LnsAt K H x its
  b : SqT K H b (draws.map V.int)
  d : InAll p draws
  dl : draws.length = n
  t : Tabs (tabsF K) H
theorem JIn.N {a b : Addr} {x vr : V} {p c : Int} {n : Nat} {R : Rl} {draws : List Int} {its : Option (List Itm)} (e : ExtN H H') (hT : Tabs (tabsF K) H') (h : JIn K H a b x vr p c n R draws its) : JIn K H' a b x vr p c n R draws its := ⟨h.s.tex (tex_N e), h.x.N e, tex_N e _ _ h.b, h.d, h.dl, hT⟩
theorem JIn.ex {a b : Addr} {x vr : V} {p c : Int} {n : Nat} {R : Rl} {draws : List Int} {its : Option (List Itm)} (e : Ex H H') (h : JIn K H a b x vr p c n R draws its) : JIn K H' a b x vr p c n R draws its := h.N (ExtN.of e) (h.t.ext e)
theorem sx_followed {a b : Addr} {x vr : V} {p c : Int} {n : Nat} {R : Rl} {draws : List Int} {its : Option (List Itm)} (h : JIn K H a b x vr p c n R draws its) {Q : VK} {E : XK} (q : RetJ K (judge p n R c draws its) H Q) : sp_followed K [.ref a, x, .ref b] H Q E :=
  ⟨a, b, x, vr, p, c, n, R, draws, its, rfl, h.s, h.x, h.b, h.d, h.dl, h.t, q⟩
/-- a new or old tuple told by what it holds, all but the tables kept -/
def RetTN (K : PySem.W.Frag) (xs : List V) (H : Hp) (Q : VK) : Prop := ∀ v H2, ExtN H H2 → Tabs (tabsF K) H2 → SqT K H2 v xs → Q (.ref v) H2
def sp_judged (K : PySem.W.Frag) : Sp := fun vs H Q _ => ∃ (a b : Addr) (x vr : V) (p c : Int) (n : Nat) (R : Rl) (draws : List Int) (its : Option (List Itm)), vs = [.ref a, x, .ref b] ∧ JIn K H a b x vr p c n R draws its ∧ RetTN K (vdV (judge p n R c draws its).1) H Q
def sp_claims (K : PySem.W.Frag) : Sp := fun vs H Q _ => ∃ (a b : Addr) (x vr : V) (p c : Int) (n : Nat) (R : Rl) (draws : List Int) (its : Option (List Itm)), vs = [.ref a, x, .ref b] ∧ JIn K H a b x vr p c n R draws its ∧ RetTN K ((judge p n R c draws its).2.map V.int) H Q
theorem c_followed {σ : L2.St} {a b : Addr} {x vr : V} {p c : Int} {n : Nat} {R : Rl} {draws : List Int} {its : Option (List Itm)} (h : JIn K H a b x vr p c n R draws its) {Q : VK} (h0 : σ[0]? = some (some (.ref a))) (h1 : σ[1]? = some (some x)) (h2 : σ[2]? = some (some (.ref b))) (q : RetJ K (judge p n R c draws its) H Q) :
    tCall (sp_followed K) [] E0 (tCons (tVar 0) (tCons (tVar 1) (tCons (tVar 2) tNil))) σ H Q :=
  (ea_cons (ev_var h0) (ea_cons (ev_var h1) (ea_cons (ev_var h2) ea_nil))) H (Ex.refl H) (fun vs H1 => sp_followed K (vs ++ []) H1 Q E0) fun H1 e1 => sx_followed (h.ex e1) fun r H2 eN T2 hp => q r H2 ((ExtN.of e1).trans eN) T2 hp
theorem ok_judged (T : Top K mg) (TB : TabB base mg (He.cT K ("followed", none)).1 (He.cT K ("followed", none)).2) : Ok1 P w K mg base 10 "judged" ["claimed", "lines", "draws"] (sp_judged K) := by
  refine mk_judged T (ok_need_sum T) (ok_need_draws T) (ok_followed T TB) (by decide) (by decide) (by decide) (fun vs H Q E h => ?_) fun vs H Q E h => ?_
  · obtain ⟨a, b, x, vr, p, c, n, R, draws, its, rfl, _⟩ := h
    rfl
  obtain ⟨a, b, x, vr, p, c, n, R, draws, its, rfl, h, k⟩ := h
  refine q_drop (ev_call (ea_cons (ev_var rfl) ea_nil) (sv_need_sum h.s)) fun H1 e1 => ?_
  have h1 := h.ex e1
  refine q_drop (ev_call (ea_cons (e_ixT (ev_var rfl) ev_c h1.s.at_ (atI_nat (j := 0) rfl)) (ea_cons (ev_var rfl) (ea_cons (e_ixT (ev_var rfl) ev_c h1.s.at_ (atI_nat (j := 1) rfl)) (ea_cons (e_ixT (ev_var rfl) ev_c h1.s.at_ (atI_nat (j := 1) rfl)) ea_nil)))) (sv_need_draws h1.b h1.d (by rw [h1.dl]; exact Int.le_refl _) (by rw [h1.dl]; exact Int.le_refl _) (by have := h1.s.hn; omega))) fun H2 e2 => ?_
  have h2 := h1.ex e2
  refine c_followed (Q := fun x G => tOp (rIx K) (tC x) (tC (.int 0)) (start n_judged []) G Q) h2 rfl rfl rfl fun r H4 eN T4 hp => ?_
  obtain ⟨ar, v, l, rfl, g1, g2, g3⟩ := hp
  exact e_ixT (σ := start n_judged []) ev_c ev_c g1 (atI_nat (j := 0) rfl) H4 (Ex.refl H4) Q fun H5 e5 => k v H5 ((ExtN.of (e1.trans e2)).trans (eN.trans (ExtN.of e5))) (T4.ext e5) (ex_t e5 g2)
theorem ok_claims (T : Top K mg) (TB : TabB base mg (He.cT K ("followed", none)).1 (He.cT K ("followed", none)).2) : Ok1 P w K mg base 10 "claims" ["claimed", "lines", "draws"] (sp_claims K) := by
  refine mk_claims T (ok_need_sum T) (ok_need_draws T) (ok_followed T TB) (by decide) (by decide) (by decide) (fun vs H Q E h => ?_) fun vs H Q E h => ?_
  · obtain ⟨a, b, x, vr, p, c, n, R, draws, its, rfl, _⟩ := h
    rfl
  obtain ⟨a, b, x, vr, p, c, n, R, draws, its, rfl, h, k⟩ := h
  refine q_drop (ev_call (ea_cons (ev_var rfl) ea_nil) (sv_need_sum h.s)) fun H1 e1 => ?_
  have h1 := h.ex e1
  refine q_drop (ev_call (ea_cons (e_ixT (ev_var rfl) ev_c h1.s.at_ (atI_nat (j := 0) rfl)) (ea_cons (ev_var rfl) (ea_cons (e_ixT (ev_var rfl) ev_c h1.s.at_ (atI_nat (j := 1) rfl)) (ea_cons (e_ixT (ev_var rfl) ev_c h1.s.at_ (atI_nat (j := 1) rfl)) ea_nil)))) (sv_need_draws h1.b h1.d (by rw [h1.dl]; exact Int.le_refl _) (by rw [h1.dl]; exact Int.le_refl _) (by have := h1.s.hn; omega))) fun H2 e2 => ?_
  have h2 := h1.ex e2
  refine c_followed (Q := fun x G => tCB (rTupQ K) (tCons (tOp (rIx K) (tC x) (tC (.int 1))) tNil) (start n_claims []) G Q) h2 rfl rfl rfl fun r H4 eN T4 hp => ?_
  obtain ⟨ar, v, l, rfl, g1, g2, g3⟩ := hp
  exact eu_tupL' (σ := start n_claims []) (e_ixT ev_c ev_c g1 (atI_nat (j := 1) rfl)) g3 H4 (Ex.refl H4) Q fun pp H6 _ e6 g6 => k pp H6 ((ExtN.of (e1.trans e2)).trans (eN.trans (ExtN.of e6))) (T4.ext e6) (st_of g6)
end
end K10

set_option Elab.async false
set_option linter.all false
set_option maxRecDepth 100000
set_option maxHeartbeats 4000000
/-! K10RdK: the row of draws; what draws change nothing but the row -/
namespace K10
open PySem PySem.Spec PyProof.Rows L2 Evl LamX K10M
section
variable {P : Program} {w : World} {K : PySem.W.Frag} {mg : Str → Option Value} {base : Heap} {H H' H1 H2 : Hp} {l : Addr × Addr}

/-- the row: a script, three numbers -/
def RowOk (K : PySem.W.Frag) (H : Hp) (l : Addr × Addr) : Prop := ∃ (ns : List Int) (k m r : Int), H l.1 = some (.lst [.ref l.2, .int k, .int m, .int r]) ∧ SqL K H l.2 (ns.map V.int) ∧ (l.2 ≠ l.1 ∨ ∀ G, SqL K G l.2 (ns.map V.int)) ∧ 0 ≤ k ∧ (0 ≤ m ∧ m < 2147483647) ∧ 0 ≤ r
def Xo (l : Addr × Addr) (H H' : Hp) : Prop := ∀ b o, b ≠ l.1 → H b = some o → H' b = some o
theorem Xo.at (h : Xo l H H') {a : Addr} (n : a ≠ l.1) : At1 H H' a := fun o e _ => h a o n e
theorem RowOk.ex (e : Ex H H') (h : RowOk K H l) : RowOk K H' l := by
  obtain ⟨ns, k, m, r, h1, h2, h3, h4⟩ := h
  exact ⟨ns, k, m, r, e _ _ h1, ex_l e h2, h3, h4⟩
/-- all but the row is kept, the row is a row still -/
structure Rw (K : PySem.W.Frag) (l : Addr × Addr) (H H' : Hp) : Prop where
  xo : Xo l H H'
  r0 : RowOk K H l
  r1 : RowOk K H' l
theorem Rw.trans (a : Rw K l H H1) (b : Rw K l H1 H2) : Rw K l H H2 := ⟨fun x o n h => b.xo x o n (a.xo x o n h), a.r0, b.r1⟩
theorem Rw.of (e : Ex H H') (h : RowOk K H l) : Rw K l H H' := ⟨fun b o _ z => e b o z, h, h.ex e⟩
theorem RowOk.isl (h : RowOk K H l) : ∃ xs, H l.1 = some (.lst xs) := by
  obtain ⟨ns, k, m, r, h1, _⟩ := h
  exact ⟨_, h1⟩
theorem row_ne_t (h : RowOk K H l) {a : Addr} {xs : List V} (s : H a = some (.tup xs)) : a ≠ l.1 := fun z => by
  obtain ⟨ys, hy⟩ := h.isl
  rw [z, hy] at s
  cases s
theorem Rw.tex (h : Rw K l H H') : TEx K H H' := fun a xs s => by
  obtain ⟨ys, hy⟩ := h.r0.isl
  by_cases e : a = l.1
  · subst e
    rcases s with (s | ⟨o, s⟩) | s
    · rw [hy] at s
      cases s
    · rw [hy] at s
      cases s
    · exact .inr s
  · exact st_at (h.xo.at e) s
theorem Rw.lst (h : Rw K l H H') {a : Addr} {xs : List V} (n : a ≠ l.1) (s : SqL K H a xs) : SqL K H' a xs := sl_at (h.xo.at n) s
theorem Rw.sc (h : Rw K l H H') {xs : List V} (n : l.2 ≠ l.1 ∨ ∀ G, SqL K G l.2 xs) (s : SqL K H l.2 xs) : SqL K H' l.2 xs := n.elim (fun n => h.lst n s) fun g => g _
theorem fresh_ne (h : RowOk K H l) {a : Addr} (e : H a = none) : a ≠ l.1 := fun z => by
  obtain ⟨ys, hy⟩ := h.isl
  rw [z, hy] at e
  cases e
/-! ### expressions that may draw -/
def MEv (K : PySem.W.Frag) (l : Addr × Addr) (te : TE) (σ : L2.St) (H : Hp) (F : V → Hp → Prop) : Prop := ∀ Q : VK, (∀ v H', Rw K l H H' → F v H' → Q v H') → te σ H Q
def MAv (K : PySem.W.Frag) (l : Addr × Addr) (ta : TA) (σ : L2.St) (H : Hp) (F : List V → Hp → Prop) : Prop := ∀ Q : List V → Hp → Prop, (∀ vs H', Rw K l H H' → F vs H' → Q vs H') → ta σ H Q
variable {te ta tb : TE} {σ : L2.St} {F G : V → Hp → Prop} {tas : TA} {FA : List V → Hp → Prop} {D : Ends} {tz : TS}
theorem m_of {v : V} (r : RowOk K H l) (h : Ev te σ H v) (k : ∀ H', Ex H H' → F v H') : MEv K l te σ H F := fun Q q => h H (Ex.refl H) Q fun H' e => q v H' (.of e r) (k H' e)
theorem m_ofS {xs : List V} (r : RowOk K H l) (h : EvS K te σ H xs) (k : ∀ p H', Ex H H' → SqT K H' p xs → F (.ref p) H') : MEv K l te σ H F := fun Q q => h H (Ex.refl H) Q fun p H' e g => q _ H' (.of e r) (k p H' e g)
theorem m_ofL {xs : List V} (r : RowOk K H l) (h : EvL te σ H xs) (k : ∀ p H', p ≠ l.1 → Ex H H' → H' p = some (.lst xs) → F (.ref p) H') : MEv K l te σ H F := fun Q q => h H (Ex.refl H) Q fun p H' hp e g => q _ H' (.of e r) (k p H' (fresh_ne r hp) e g)
theorem m_imp (h : MEv K l te σ H F) (k : ∀ v H', Rw K l H H' → F v H' → G v H') : MEv K l te σ H G := fun Q q => h Q fun v H' r f => q v H' r (k v H' r f)
theorem m_op {r : R2} (h : MEv K l ta σ H F) (k : ∀ x H1, Rw K l H H1 → F x H1 → MEv K l (tOp r (tC x) tb) σ H1 G) : MEv K l (tOp r ta tb) σ H G := fun Q q =>
  h (fun x H1 => tOp r (tC x) tb σ H1 Q) fun x H1 r1 f1 => k x H1 r1 f1 Q fun v H2 r2 f2 => q v H2 (r1.trans r2) f2
theorem m_op2 {r : R2} {x : V} (h : MEv K l tb σ H F) (k : ∀ y H1, Rw K l H H1 → F y H1 → MEv K l (tOp r (tC x) (tC y)) σ H1 G) : MEv K l (tOp r (tC x) tb) σ H G := fun Q q =>
  h (fun y H1 => tOp r (tC x) (tC y) σ H1 Q) fun y H1 r1 f1 => k y H1 r1 f1 Q fun v H2 r2 f2 => q v H2 (r1.trans r2) f2
theorem ma_nil (r : RowOk K H l) (h : FA [] H) : MAv K l tNil σ H FA := fun Q q => q [] H (.of (Ex.refl H) r) h
theorem ma_cons (h : MEv K l te σ H F) (k : ∀ x H1, Rw K l H H1 → F x H1 → MAv K l tas σ H1 fun vs H2 => FA (x :: vs) H2) : MAv K l (tCons te tas) σ H FA := fun Q q =>
  h _ fun x H1 r1 f1 => k x H1 r1 f1 (fun vs H2 => Q (x :: vs) H2) fun vs H2 r2 f2 => q (x :: vs) H2 (r1.trans r2) f2
theorem ma_of {vs : List V} (r : RowOk K H l) (h : EvA tas σ H vs) (k : ∀ H', Ex H H' → FA vs H') : MAv K l tas σ H FA := fun Q q => h H (Ex.refl H) Q fun H' e => q vs H' (.of e r) (k H' e)
theorem m_tup (h : MAv K l tas σ H FA) (hz : ∀ xs H1, FA xs H1 → xs.length ≤ 100000) (k : ∀ p xs H1 H2, Rw K l H H1 → FA xs H1 → Ex H1 H2 → SqT K H2 p xs → F (.ref p) H2) : MEv K l (tTup tas) σ H F := fun Q q =>
  h _ fun xs H1 r1 f1 => ⟨sz_of (hz xs H1 f1), fun p hp => q _ _ (r1.trans (.of (Ex.new hp) r1.r1)) (k p xs H1 _ r1 f1 (Ex.new hp) (st_of upd_same))⟩
theorem m_lst (h : MAv K l tas σ H FA) (hz : ∀ xs H1, FA xs H1 → xs.length ≤ 100000) (k : ∀ p xs H1 H2, Rw K l H H1 → FA xs H1 → Ex H1 H2 → p ≠ l.1 → H2 p = some (.lst xs) → F (.ref p) H2) : MEv K l (tLst tas) σ H F := fun Q q =>
  h _ fun xs H1 r1 f1 => ⟨sz_of (hz xs H1 f1), fun p hp => q _ _ (r1.trans (.of (Ex.new hp) r1.r1)) (k p xs H1 _ r1 f1 (Ex.new hp) (fresh_ne r1.r1 hp) upd_same)⟩
def RetR (K : PySem.W.Frag) (l : Addr × Addr) (F : V → Hp → Prop) (H : Hp) (Q : VK) : Prop := ∀ v H', Rw K l H H' → F v H' → Q v H'
theorem m_call {sp : Sp} (h : MAv K l tas σ H FA) (k : ∀ vs H1, Rw K l H H1 → FA vs H1 → ∀ Q : VK, RetR K l F H1 Q → sp vs H1 Q E0) : MEv K l (tCall sp [] E0 tas) σ H F := fun Q q =>
  h (fun vs H1 => sp (vs ++ []) H1 Q E0) fun vs H1 r1 f1 => by
    rw [List.append_nil]
    exact k vs H1 r1 f1 Q fun v H2 r2 f2 => q v H2 (r1.trans r2) f2
theorem mq_asg {i : Nat} (h : MEv K l te σ H F) (k : ∀ v H1, Rw K l H H1 → F v H1 → tz D (σ.set i (some v)) H1) : tSeq (tAsg te (gName i)) tz D σ H := h _ k
theorem ms_asg {i : Nat} (h : MEv K l te σ H F) (k : ∀ v H1, Rw K l H H1 → F v H1 → D.nx (σ.set i (some v)) H1) : tAsg te (gName i) D σ H := h _ k
theorem ms_ret (h : MEv K l te σ H F) (k : ∀ v H1, Rw K l H H1 → F v H1 → D.rt v H1) : tRet te D σ H := h _ k

/-! ### taken -/
def sp_law_taken (K : PySem.W.Frag) : Sp := fun vs H Q _ => ∃ (l : Addr × Addr) (many : Int), vs = [.ref l.1, .int many] ∧ RowOk K H l ∧ 0 < many ∧ many < 4294967296 ∧ RetR K l (fun v _ => ∃ j : Nat, v = .int (j : Int) ∧ (j : Int) < many) H Q
theorem log_small {m : Int} (h0 : 0 < m) (h : m < 4294967296) : CDivW 1 m := by
  refine ⟨h0, ?_⟩
  have h1 : m.natAbs < 2 ^ 32 := by omega
  have h2 : m.natAbs ≠ 0 := by omega
  exact Nat.lt_trans ((Nat.log2_lt h2).mpr h1) (by decide)
theorem q_setR {to ti tv : TE} {xs : List V} {j : Nat} {v : V} (hl : H l.1 = some (.lst xs)) (h : Ev tv σ H v) (ho : Ev to σ H (.ref l.1)) (hi : Ev ti σ H (.int (j : Int))) (hj : j < xs.length) (k : ∀ H1, Ex H H1 → tz D σ (upd H1 l.1 (.lst (xs.set j v)))) : tSeq (tAsg tv (gSub to ti rSetL)) tz D σ H := q_setL hl h ho hi hj k
theorem row_upd {xs : List V} (e : Ex H H') (h : RowOk K H l) {ns : List Int} {k m r : Int} (hs : SqL K H l.2 (ns.map V.int)) (hn : l.2 ≠ l.1 ∨ ∀ G, SqL K G l.2 (ns.map V.int)) (hk : 0 ≤ k) (hm : 0 ≤ m ∧ m < 2147483647) (hr : 0 ≤ r) : Rw K l H (upd H' l.1 (.lst [.ref l.2, .int k, .int m, .int r])) := by
  refine ⟨fun b o n z => by rw [upd_ne n]; exact e b o z, h, ns, k, m, r, upd_same, ?_, hn, hk, hm, hr⟩
  exact hn.elim (fun hn => sl_at (fun o z _ => by rw [upd_ne hn]; exact e l.2 o z) hs) fun g => g _
theorem ok_law_taken (T : Top K mg) : Ok1 P w K mg base 1 "_law_taken" ["_law_row", "_law_many"] (sp_law_taken K) := by
  refine mk_law_taken T (fun vs H Q E h => ?_) fun vs H Q E h => ?_
  · obtain ⟨l, many, rfl, _⟩ := h
    rfl
  obtain ⟨l, many, rfl, hrow, h0, h1, q⟩ := h
  have hrow0 := hrow
  obtain ⟨ns, k, m, r, hl, hs, hn, hk, hm, hr⟩ := hrow
  have dv : ∀ i, CDivW i many := fun i => log_small h0 h1
  have fin : ∀ (x : Int) (H' : Hp), Rw K l H H' → Q (.int (x % many)) H' := fun x H' hR => by
    have := mod_in h0 x
    exact q _ H' hR ⟨(x % many).toNat, by rw [Int.toNat_of_nonneg this.1], by rw [Int.toNat_of_nonneg this.1]; exact this.2⟩
  by_cases hr0 : r > 0
  · refine q_when (b := true) (et_is (et_B (e_cmp (e_ixL (ev_var rfl) ev_c (sq_of hl) (atI_nat (j := 3) rfl)) ev_c)) (decide_eq_true hr0)) (fun _ H1 e1 => ?_) fun z => by cases z
    refine q_asg (e_mod (e_intI (e_ixL (ev_var rfl) ev_c (sq_of (e1 _ _ hl)) (atI_nat (j := 3) rfl))) (ev_var rfl) h0) fun H2 e2 => ?_
    have e12 := e1.trans e2
    refine q_setR (j := 3) (e12 _ _ hl) (e_div (e_ixL (ev_var rfl) ev_c (sq_of (e12 _ _ hl)) (atI_nat (j := 3) rfl)) (ev_var rfl) (dv _)) (ev_var rfl) ev_c (by simp) fun H3 e3 => ?_
    have hR := row_upd (H' := H3) (xs := []) (k := k) (m := m) (r := r / many) (e12.trans e3) hrow0 hs hn hk hm (Int.ediv_nonneg hr (by omega))
    exact s_ret (ev_var rfl) fun H4 e4 => fin r H4 (hR.trans (.of e4 hR.r1))
  · have er : r = 0 := by omega
    subst er
    refine q_when (b := false) (et_is (et_B (e_cmp (e_ixL (ev_var rfl) ev_c (sq_of hl) (atI_nat (j := 3) rfl)) ev_c)) (decide_eq_false hr0)) (fun z => by cases z) fun _ H1 e1 => ?_
    refine q_setR (j := 1) (e1 _ _ hl) (e_add (e_ixL (ev_var rfl) ev_c (sq_of (e1 _ _ hl)) (atI_nat (j := 1) rfl)) ev_c) (ev_var rfl) ev_c (by simp) fun H2 e2 => ?_
    have hR := row_upd (H' := H2) (xs := []) (k := k + 1) (m := m) (r := 0) (e1.trans e2) hrow0 hs hn (by omega) hm (Int.le_refl 0)
    have l2 : (upd H2 l.1 (.lst [.ref l.2, .int (k + 1), .int m, .int 0])) l.1 = some (.lst [.ref l.2, .int (k + 1), .int m, .int 0]) := upd_same
    have s2 := hR.sc hn hs
    generalize hG : upd H2 l.1 (.lst [.ref l.2, .int (k + 1), .int m, .int 0]) = G2 at hR l2 s2
    have hG' : upd H2 l.1 (.lst (List.set [V.ref l.2, V.int k, V.int m, V.int 0] 1 (V.int (k + 1)))) = G2 := hG
    rw [hG']
    by_cases hlt : k + 1 > (ns.length : Int)
    · refine q_when (b := true) (et_is (et_B (e_cmp (e_ixL (ev_var rfl) ev_c (sq_of l2) (atI_nat (j := 1) rfl)) (e_len (e_ixL (ev_var rfl) ev_c (sq_of l2) (atI_nat (j := 0) rfl)) (.inl s2)))) (by rw [List.length_map]; exact decide_eq_true hlt)) (fun _ H3 e3 => ?_) fun z => by cases z
      refine q_setR (j := 2) (e3 _ _ l2) (e_mod (e_intI (e_add (e_mul (e_ixL (ev_var rfl) ev_c (sq_of (e3 _ _ l2)) (atI_nat (j := 2) rfl)) ev_c (.inr ⟨by decide, by decide⟩)) ev_c)) ev_c (by decide)) (ev_var rfl) ev_c (by simp) fun H4 e4 => ?_
      have hm2 := mod_in (p := 2147483647) (by decide) (m * 48271 + 11)
      have hR3 := row_upd (H' := H4) (xs := []) (k := k + 1) (m := (m * 48271 + 11) % 2147483647) (r := 0) (e3.trans e4) hR.r1 s2 hn (by omega) hm2 (Int.le_refl 0)
      refine s_ret (e_mod (e_intI (e_div (e_ixL (ev_var rfl) ev_c (sq_of upd_same) (atI_nat (j := 2) rfl)) ev_c ⟨by decide, by decide⟩)) (ev_var rfl) h0) fun H5 e5 => fin _ H5 ((hR.trans hR3).trans (.of e5 hR3.r1))
    · refine q_when (b := false) (et_is (et_B (e_cmp (e_ixL (ev_var rfl) ev_c (sq_of l2) (atI_nat (j := 1) rfl)) (e_len (e_ixL (ev_var rfl) ev_c (sq_of l2) (atI_nat (j := 0) rfl)) (.inl s2)))) (by rw [List.length_map]; exact decide_eq_false hlt)) (fun z => by cases z) fun _ H3 e3 => ?_
      have hkk : k.toNat < ns.length := by omega
      have hat : atI (ns.map V.int) (k + 1 - 1) = some (.int (ns.getD k.toNat 0)) := by
        have := int_at (l := ns) (m := k.toNat) hkk
        rw [Int.toNat_of_nonneg hk] at this
        rw [show k + 1 - 1 = k by omega]
        exact this
      generalize ns.getD k.toNat 0 = cc at hat
      have l3 := e3 _ _ l2
      refine q_asg (e_ixL (e_ixL (ev_var rfl) ev_c (sq_of l3) (atI_nat (j := 0) rfl)) (e_sub (e_ixL (ev_var rfl) ev_c (sq_of l3) (atI_nat (j := 1) rfl)) ev_c) (ex_l e3 s2) hat) fun H4 e4 => ?_
      have e34 := e3.trans e4
      have l4 := e34 _ _ l2
      refine q_setR (j := 2) l4 (e_mod (e_intI (e_add (e_add (e_mul (e_ixL (ev_var rfl) ev_c (sq_of l4) (atI_nat (j := 2) rfl)) ev_c (.inr ⟨by decide, by decide⟩)) (ev_var rfl)) ev_c)) ev_c (by decide)) (ev_var rfl) ev_c (by simp) fun H5 e5 => ?_
      have hm2 := mod_in (p := 2147483647) (by decide) (m * 48271 + cc + 11)
      have hR3 := row_upd (H' := H5) (xs := []) (k := k + 1) (m := (m * 48271 + cc + 11) % 2147483647) (r := 0) (e34.trans e5) hR.r1 s2 hn (by omega) hm2 (Int.le_refl 0)
      have s5 := hR3.sc hn s2
      have l5 : (upd H5 l.1 (.lst [.ref l.2, .int (k + 1), .int ((m * 48271 + cc + 11) % 2147483647), .int 0])) l.1 = some (.lst [.ref l.2, .int (k + 1), .int ((m * 48271 + cc + 11) % 2147483647), .int 0]) := upd_same
      generalize hG5 : upd H5 l.1 (.lst [.ref l.2, .int (k + 1), .int ((m * 48271 + cc + 11) % 2147483647), .int 0]) = G5 at hR3 l5 s5
      have hG5' : upd H5 l.1 (.lst (List.set [V.ref l.2, V.int (k + 1), V.int m, V.int 0] 2 (V.int ((m * 48271 + cc + 11) % 2147483647)))) = G5 := hG5
      rw [hG5']
      have hR5 := hR.trans hR3
      by_cases hbig : cc ≥ (10 : Int) ^ (18 : Int).toNat
      · refine q_when (b := true) (et_is (et_B (e_cmp (ev_var rfl) (e_pow ev_c ev_c ⟨by decide, by decide, by decide⟩))) (decide_eq_true hbig)) (fun _ H6 e6 => ?_) fun z => by cases z
        refine s_setL (j := 3) (e6 _ _ l5) (e_div (ev_var rfl) (ev_var rfl) (dv _)) (ev_var rfl) ev_c (by simp) fun H7 e7 => ?_
        have hge : 0 ≤ cc := Int.le_trans (by decide) hbig
        have hR7 := row_upd (H' := H7) (xs := []) (k := k + 1) (m := (m * 48271 + cc + 11) % 2147483647) (r := cc / many) (e6.trans e7) hR3.r1 s5 hn (by omega) hm2 (Int.ediv_nonneg hge (by omega))
        exact s_ret (e_mod (e_intI (ev_var rfl)) (ev_var rfl) h0) fun H8 e8 => fin cc H8 ((hR5.trans hR7).trans (.of e8 hR7.r1))
      · refine q_when (b := false) (et_is (et_B (e_cmp (ev_var rfl) (e_pow ev_c ev_c ⟨by decide, by decide, by decide⟩))) (decide_eq_false hbig)) (fun z => by cases z) fun _ H6 e6 => ?_
        exact s_ret (e_mod (e_intI (ev_var rfl)) (ev_var rfl) h0) fun H8 e8 => fin cc H8 (hR5.trans (.of (e6.trans e8) hR5.r1))
theorem sm_taken {vs : List V} {many : Int} {Q : VK} {E : XK} (hv : vs = [.ref l.1, .int many]) (r : RowOk K H l) (h0 : 0 < many) (h1 : many < 4294967296) (q : RetR K l (fun v _ => ∃ j : Nat, v = .int (j : Int) ∧ (j : Int) < many) H Q) : sp_law_taken K vs H Q E := ⟨l, many, hv, r, h0, h1, q⟩
end
end K10

set_option Elab.async false
set_option linter.all false
set_option maxRecDepth 100000
set_option maxHeartbeats 4000000
/-! K10RdL: the law's plain reckoning: lines, powers, spreads -/
namespace K10
open PySem PySem.Spec PyProof.Rows L2 Evl LamX K10M
section
variable {P : Program} {w : World} {K : PySem.W.Frag} {mg : Str → Option Value} {base : Heap} {H H' : Hp}

theorem q_forS {σ : L2.St} {te : TE} {tu tz : TS} {D : Ends} {k : Nat} {xs : List V} (h : EvS K te σ H xs) (Pv : Nat → L2.St → Prop) (h0 : Pv 0 σ)
    (hs : ∀ (m : Nat) (y : V) σ' G, Ex H G → xs[m]? = some y → Pv m σ' → ∀ D' : Ends, D'.rt = D.rt → (∀ σ2 G2, Ex G G2 → Pv (m + 1) σ2 → D'.nx σ2 G2) → tu D' (σ'.set k (some y)) G) (hd : ∀ σ' G, Ex H G → Pv xs.length σ' → tz D σ' G) :
    tSeq (tFor (iTup K te) (gName k) tu) tz D σ H := h H (Ex.refl H) _ fun p H1 e1 hp => ⟨p, rfl, ⟨xs, hp⟩, for_tup (D := { D with nx := tz D }) (fun m σ' G => Ex H1 G ∧ Pv m σ') ⟨Ex.refl H1, h0⟩ (fun m σ' G _ z => ex_t z.1 hp)
      (fun m y σ' G hm z => hs m y σ' G (e1.trans z.1) hm z.2 _ rfl fun σ2 G2 e2 hp2 => ⟨z.1.trans e2, hp2⟩) fun σ' G z => hd σ' G (e1.trans z.1) z.2⟩
theorem q_forL' {σ : L2.St} {te : TE} {tu tz : TS} {D : Ends} {k : Nat} {xs : List V} (h : EvL te σ H xs) (Pv : Nat → L2.St → Prop) (h0 : Pv 0 σ)
    (hs : ∀ (m : Nat) (y : V) σ' G, Ex H G → xs[m]? = some y → Pv m σ' → ∀ D' : Ends, D'.rt = D.rt → (∀ σ2 G2, Ex G G2 → Pv (m + 1) σ2 → D'.nx σ2 G2) → tu D' (σ'.set k (some y)) G) (hd : ∀ σ' G, Ex H G → Pv xs.length σ' → tz D σ' G) :
    tSeq (tFor (iList K te) (gName k) tu) tz D σ H := h H (Ex.refl H) _ fun p H1 _ e1 hp => ⟨p, rfl, ⟨xs, sq_of hp⟩, for_list (D := { D with nx := tz D }) (fun m σ' G => Ex H1 G ∧ Pv m σ') ⟨Ex.refl H1, h0⟩ (fun m σ' G _ z => ex_l z.1 (sq_of hp))
      (fun m y σ' G hm z => hs m y σ' G (e1.trans z.1) hm z.2 _ rfl fun σ2 G2 e2 hp2 => ⟨z.1.trans e2, hp2⟩) fun σ' G z => hd σ' G (e1.trans z.1) z.2⟩
theorem es_revT {σ : L2.St} {te : TE} {p : Addr} {xs : List V} (a : Ev te σ H (.ref p)) (h : SqT K H p xs) : EvS K (tRevT K te) σ H xs.reverse := fun H1 e Q q => a H1 e _ fun H2 e2 => ⟨p, xs, rfl, ex_t (e.trans e2) h, fun t ht => q t _ (e2.trans (Ex.new ht)) (st_of upd_same)⟩
theorem el_revL {σ : L2.St} {te : TE} {p : Addr} {xs : List V} (a : Ev te σ H (.ref p)) (h : SqL K H p xs) : EvL (tRevL K te) σ H xs.reverse := fun H1 e Q q => a H1 e _ fun H2 e2 => ⟨p, xs, rfl, ex_l (e.trans e2) h, fun t ht => q t _ (fresh_back e2 ht) (e2.trans (Ex.new ht)) upd_same⟩
/-! ### cut -/
def sp_law_cut (K : PySem.W.Frag) : Sp := fun vs H Q _ => ∃ (a : Addr) (l : List Int), vs = [.ref a] ∧ SqA K H a (l.map V.int) ∧ RetS K ((cut l).map V.int) H Q
theorem ints_app (us : List Int) (c : Int) : (us ++ [c]).map V.int = us.map V.int ++ [.int c] := by simp
theorem ok_law_cut (T : Top K mg) : Ok1 P w K mg base 1 "_law_cut" ["_law_numbers_here"] (sp_law_cut K) := by
  refine mk_law_cut T (fun vs H Q E h => ?_) fun vs H Q E h => ?_
  · obtain ⟨a, l, rfl, _⟩ := h
    rfl
  obtain ⟨a, xs, rfl, hs, q⟩ := h
  refine q_asgL (el_listA (ev_var rfl) hs) fun l H1 hl0 e1 hl => ?_
  refine q_while (fun m σ G => ∃ us : List Int, σ = [some (.ref a), some (.ref l)] ∧ G l = some (.lst (us.map V.int)) ∧ cut us = cut xs ∧ m = us.length ∧ Ex H G) xs.length ⟨xs, rfl, hl, rfl, rfl, e1⟩ fun m σ G hW => ?_
  obtain ⟨us, rfl, hlG, hc, rfl, eG⟩ := hW
  have t1 : EvT (tTest (tOp (rNeD K) (tVar 1) (tLst tNil))) [some (.ref a), some (.ref l)] G (!us.isEmpty) := by
    have hd : Dp K G (.ref l) (.list ((us.map En.int).map enD)) := .lst (sq_of (by rw [hlG, ints_en])) (en_dp _)
    refine et_is (et_test (e_neDL (ev_var rfl) (el_lst ea_nil (by simp)) hd .nil (en_shL _) (by decide))) ?_
    have e := en_nilL (us.map En.int)
    rw [List.map_map] at e ⊢
    show (!PyData.eqv (.list (us.map (enD ∘ En.int))) (.list [])) = _
    rw [e]
    cases us <;> rfl
  rcases snoc_cases us with rfl | ⟨us, c, rfl⟩
  · refine ⟨false, et_is (et_and t1 (b := false) fun z => absurd z (by decide)) rfl, fun z => absurd z (by decide), fun _ G1 e2 => ?_⟩
    rw [← hc] at q
    exact s_retS (EvU.s (eu_tupL' (ev_var rfl) (sq_of (e2 _ _ hlG)))) fun p G2 e3 h3 => q p G2 ((eG.trans e2).trans e3) h3
  · have hlast : atI ((us ++ [c]).map V.int) (-1) = some (.int c) := end_cl (by rw [List.getLast?_concat])
    have t2 : EvT (tAnd (tTest (tOp (rNeD K) (tVar 1) (tLst tNil))) (tB (tEqI (tOp (rIx K) (tVar 1) (tUn uNeg (tC (.int 1)))) (tC (.int 0))))) [some (.ref a), some (.ref l)] G (decide (c = 0)) := by
      refine et_is (et_and t1 fun _ => et_B (e_cmp (e_ixL (ev_var rfl) (e_neg ev_c) (sq_of hlG) hlast) ev_c)) ?_
      have e : (us ++ [c]).isEmpty = false := by cases us <;> rfl
      rw [e]
      rfl
    by_cases hz : c = 0
    · rw [decide_eq_true hz] at t2
      refine ⟨true, t2, fun _ G1 e2 => ?_, fun z => absurd z (by decide)⟩
      subst hz
      have hl1 := e2 _ _ hlG
      refine ⟨fun σ G => ∃ m', m' < (us ++ [0]).length ∧ ∃ us' : List Int, σ = [some (.ref a), some (.ref l)] ∧ G l = some (.lst (us'.map V.int)) ∧ cut us' = cut xs ∧ m' = us'.length ∧ Ex H G, fun σ2 H2 n2 => n2, ?_⟩
      refine ⟨.ref l, rfl, .inl ⟨rfl, _, sq_of hl1⟩, l, (us ++ [0]).map V.int, .int 0, rfl, rfl, hl1, by simp, us.length, by simp, us, rfl, ?_, ?_, rfl, Ex.mut (eG.trans e2) hl0⟩
      · rw [ints_app, List.dropLast_concat]
        exact upd_same
      · rw [← hc, cut_snoc0]
    · rw [decide_eq_false hz] at t2
      refine ⟨false, t2, fun z => absurd z (by decide), fun _ G1 e2 => ?_⟩
      rw [← hc, cut_snoc hz] at q
      exact s_retS (EvU.s (eu_tupL' (ev_var rfl) (sq_of (e2 _ _ hlG)))) fun p G2 e3 h3 => q p G2 ((eG.trans e2).trans e3) h3
theorem ss_law_cut {a : Addr} {l : List Int} (h : SqA K H a (l.map V.int)) : SpS K (sp_law_cut K) [.ref a] H ((cut l).map V.int) := fun H1 e Q q E => ⟨a, l, rfl, h.ex e, q⟩
/-! ### values of lines -/
theorem rev_at {l : List Int} {m : Nat} {y : V} (h : (l.map V.int).reverse[m]? = some y) : ∃ c, y = .int c ∧ l.drop (l.length - (m + 1)) = c :: l.drop (l.length - m) := by
  have hm : m < (l.map V.int).length := by
    have := (List.getElem?_eq_some_iff.mp h).1
    rwa [List.length_reverse] at this
  rw [List.getElem?_reverse hm] at h
  exact back_at h hm
def sp_law_at (K : PySem.W.Frag) : Sp := fun vs H Q _ => ∃ (p x : Int) (a : Addr) (l : List Int), vs = [.int p, .ref a, .int x] ∧ SqT K H a (l.map V.int) ∧ 0 < p ∧ p < 4294967296 ∧ RetV (.int (ev p x l)) H Q
def sp_law_atL (K : PySem.W.Frag) : Sp := fun vs H Q _ => ∃ (p x : Int) (a : Addr) (l : List Int), vs = [.int p, .ref a, .int x] ∧ SqL K H a (l.map V.int) ∧ 0 < p ∧ p < 4294967296 ∧ RetV (.int (ev p x l)) H Q
theorem ok_law_at (T : Top K mg) : Ok1 P w K mg base 1 "_law_at" ["_law_p", "_law_line_here", "_law_place"] (sp_law_at K) := by
  refine mk_law_at T (fun vs H Q E h => ?_) fun vs H Q E h => ?_
  · obtain ⟨p, x, a, l, rfl, _⟩ := h
    rfl
  obtain ⟨p, x, a, l, rfl, hs, hp, hp2, q⟩ := h
  refine q_asg ev_c fun H1 e1 => ?_
  refine q_forS (es_revT (ev_var rfl) (ex_t e1 hs)) (fun m σ => ∃ y : Option V, σ = [some (.int p), some (.ref a), some (.int x), some (.int (ev p x (l.drop (l.length - m)))), y]) ⟨none, ?_⟩ (fun m y σ G eG hg hP D' _ kk => ?_) fun σ G eG hP => ?_
  · rw [Nat.sub_zero, List.drop_length]
    rfl
  · obtain ⟨y0, rfl⟩ := hP
    obtain ⟨c, rfl, hd⟩ := rev_at hg
    refine s_asg (e_mod (e_add (e_mul (ev_var rfl) (ev_var rfl) (mul_ok (ev_in hp x _) hp2)) (ev_var rfl)) (ev_var rfl) hp) fun G2 e3 => kk _ _ e3 ⟨some (.int c), ?_⟩
    rw [hd]
    rfl
  · obtain ⟨y0, rfl⟩ := hP
    rw [List.length_reverse, List.length_map, Nat.sub_self, List.drop_zero]
    exact s_ret (ev_var rfl) fun G2 e3 => q G2 ((e1.trans eG).trans e3)
theorem ok_law_atL (T : Top K mg) : Ok1 P w K mg base 1 "_law_at" ["_law_p", "_law_line_here", "_law_place"] (sp_law_atL K) := by
  refine mk_law_atL T (fun vs H Q E h => ?_) fun vs H Q E h => ?_
  · obtain ⟨p, x, a, l, rfl, _⟩ := h
    rfl
  obtain ⟨p, x, a, l, rfl, hs, hp, hp2, q⟩ := h
  refine q_asg ev_c fun H1 e1 => ?_
  refine q_forL' (el_revL (ev_var rfl) (ex_l e1 hs)) (fun m σ => ∃ y : Option V, σ = [some (.int p), some (.ref a), some (.int x), some (.int (ev p x (l.drop (l.length - m)))), y]) ⟨none, ?_⟩ (fun m y σ G eG hg hP D' _ kk => ?_) fun σ G eG hP => ?_
  · rw [Nat.sub_zero, List.drop_length]
    rfl
  · obtain ⟨y0, rfl⟩ := hP
    obtain ⟨c, rfl, hd⟩ := rev_at hg
    refine s_asg (e_mod (e_add (e_mul (ev_var rfl) (ev_var rfl) (mul_ok (ev_in hp x _) hp2)) (ev_var rfl)) (ev_var rfl) hp) fun G2 e3 => kk _ _ e3 ⟨some (.int c), ?_⟩
    rw [hd]
    rfl
  · obtain ⟨y0, rfl⟩ := hP
    rw [List.length_reverse, List.length_map, Nat.sub_self, List.drop_zero]
    exact s_ret (ev_var rfl) fun G2 e3 => q G2 ((e1.trans eG).trans e3)
theorem sv_law_at {p x : Int} {a : Addr} {l : List Int} (h : SqT K H a (l.map V.int)) (hp : 0 < p) (hp2 : p < 4294967296) : SpV (sp_law_at K) [.int p, .ref a, .int x] H (.int (ev p x l)) := fun H1 e Q q E => ⟨p, x, a, l, rfl, ex_t e h, hp, hp2, q⟩
theorem sv_law_atL {p x : Int} {a : Addr} {l : List Int} (h : SqL K H a (l.map V.int)) (hp : 0 < p) (hp2 : p < 4294967296) : SpV (sp_law_atL K) [.int p, .ref a, .int x] H (.int (ev p x l)) := fun H1 e Q q E => ⟨p, x, a, l, rfl, ex_l e h, hp, hp2, q⟩
/-! ### the inverse -/
def sp_law_inverse : Sp := fun vs H Q _ => ∃ p b : Int, vs = [.int p, .int b] ∧ 1 < p ∧ p < 4294967296 ∧ RetV (.int (inv p b)) H Q
theorem ok_law_inverse (T : Top K mg) : Ok1 P w K mg base 1 "_law_inverse" ["_law_p", "_law_number_here"] sp_law_inverse := by
  refine mk_law_inverse T (fun vs H Q E h => ?_) fun vs H Q E h => ?_
  · obtain ⟨p, b, rfl, _⟩ := h
    rfl
  obtain ⟨p, b, rfl, hp1, hp2, q⟩ := h
  have hp : 0 < p := by omega
  have ht : p - 2 < 2 ^ 40 := by
    have : (2 : Int) ^ 40 = 1099511627776 := by decide
    omega
  refine q_par3 (ea_cons ev_c (ea_cons (e_mod (ev_var rfl) (ev_var rfl) hp) (ea_cons (e_sub (ev_var rfl) ev_c) ea_nil))) fun H1 e1 => ?_
  let W : Nat → L2.St → Hp → Prop := fun m σ G => ∃ f c u : Int, σ = [some (.int p), some (.int b), some (.int f), some (.int c), some (.int u)] ∧ (0 ≤ f ∧ f < p) ∧ (0 ≤ c ∧ c < p) ∧ u < 2 ^ m ∧ powm p m f c u = powm p 40 1 (b % p) (p - 2) ∧ Ex H G
  refine q_while W 40 ⟨1, b % p, p - 2, rfl, ⟨by omega, hp1⟩, mod_in hp _, ht, rfl, e1⟩ fun m σ G hW => ?_
  obtain ⟨f, c, u, rfl, hf, hc, hu, hk, eG⟩ := hW
  refine ⟨decide (0 < u), et_B (e_cmp (p := fun i j => decide (j < i)) (ev_var rfl) ev_c), fun hb G1 e2 => ?_, fun hb G1 e2 => ?_⟩
  · have hu0 : 0 < u := of_decide_eq_true hb
    obtain ⟨m, rfl⟩ := some_fuel hu hu0
    rw [powm_turn hu0] at hk
    refine ⟨W m, fun σ2 H2 n2 => ⟨m, by omega, n2⟩, ?_⟩
    refine q_ifAsg (v := .int (if u % 2 = 1 then f * c % p else f)) (et_B (e_cmp (p := fun i j => decide (i = j)) (e_mod (ev_var rfl) ev_c (by decide)) ev_c)) (fun hz => ?_) (fun hz => ?_) fun G2 e3 => ?_
    · rw [if_pos (of_decide_eq_true hz)]
      exact e_mod (e_mul (ev_var rfl) (ev_var rfl) (mul_ok hf hp2)) (ev_var rfl) hp
    · rw [if_neg (of_decide_eq_false hz)]
      rfl
    · refine s_par (ea_cons (e_mod (e_mul (ev_var rfl) (ev_var rfl) (mul_ok hc hp2)) (ev_var rfl) hp) (ea_cons (e_div (ev_var rfl) ev_c (div2_ok u)) ea_nil)) fun G3 e4 => ?_
      refine ⟨_, _, _, rfl, ?_, mod_in hp _, half_lt hu, hk, ((eG.trans e2).trans e3).trans e4⟩
      split
      · exact mod_in hp _
      · exact hf
  · rw [powm_end (of_decide_eq_false hb)] at hk
    rw [show inv p b = f from hk.symm] at q
    exact s_ret (ev_var rfl) fun H3 e3 => q H3 ((eG.trans e2).trans e3)
theorem sv_law_inverse {p b : Int} (h1 : 1 < p) (h2 : p < 4294967296) : SpV sp_law_inverse [.int p, .int b] H (.int (inv p b)) := fun H1 e Q q E => ⟨p, b, rfl, h1, h2, q⟩
/-! ### rows of names, weights, spreads -/
def sp_law_bits (K : PySem.W.Frag) : Sp := fun vs H Q _ => ∃ n k : Nat, vs = [.int (n : Int), .int (k : Int)] ∧ n ≤ 100 ∧ RetS K ((K10M.bits n k).map V.int) H Q
theorem pow_div_ok {j : Nat} (h : j ≤ 100) (i : Int) : CDivW i ((1 : Int) * 2 ^ j) := by
  have e : (1 : Int) * 2 ^ j = ((2 ^ j : Nat) : Int) := by rw [Int.one_mul]; norm_cast
  refine ⟨by rw [e]; exact_mod_cast Nat.two_pow_pos j, ?_⟩
  rw [e, Int.natAbs_natCast, Nat.log2_two_pow]
  omega
theorem ok_law_bits (T : Top K mg) : Ok1 P w K mg base 1 "_law_bits" ["_law_many", "_law_index"] (sp_law_bits K) := by
  refine mk_law_bits T (fun vs H Q E h => ?_) fun vs H Q E h => ?_
  · obtain ⟨n, k, rfl, _⟩ := h
    rfl
  obtain ⟨n, k, rfl, hn, q⟩ := h
  refine q_asgL (el_lst ea_nil (by simp)) fun l H1 hl0 e1 hl => ?_
  refine q_forRg (n := (n : Int)) (ea_cons (ev_var rfl) ea_nil) (by omega) (fun m σ G => ∃ y : Option V, σ = [some (.int (n : Int)), some (.int (k : Int)), some (.ref l), y] ∧ G l = some (.lst (((List.range m).map fun (i : Nat) => (k : Int) / 2 ^ (n - 1 - i) % 2).map V.int)) ∧ Ex H G)
    (fun H2 e2 => ⟨none, rfl, e2 _ _ hl, e1.trans e2⟩) (fun m σ G hm hP => ?_) fun σ G hP => ?_
  · obtain ⟨y, rfl, hlG, eG⟩ := hP
    rw [Int.toNat_natCast] at hm
    refine s_app hlG (ev_var rfl) (e_mod (e_div (ev_var rfl) (e_shl ev_c (e_sub (e_sub (ev_var rfl) ev_c) (ev_var rfl)) ⟨by omega, by omega, by decide⟩) (pow_div_ok (by omega) _)) ev_c (by decide)) (by simp; omega) fun G2 e2 => ⟨_, rfl, ?_, Ex.mut (eG.trans e2) hl0⟩
    rw [List.range_succ, List.map_append, List.map_append, upd_same]
    have ej : ((n : Int) - 1 - (m : Int)).toNat = n - 1 - m := by omega
    rw [ej, Int.one_mul]
    rfl
  · obtain ⟨y, rfl, hlG, eG⟩ := hP
    rw [Int.toNat_natCast] at hlG
    exact s_retS (EvU.s (eu_tupL' (ev_var rfl) (sq_of hlG))) fun p G2 e3 h3 => q p G2 (eG.trans e3) h3
theorem ss_law_bits {n k : Nat} (h : n ≤ 100) : SpS K (sp_law_bits K) [.int (n : Int), .int (k : Int)] H ((K10M.bits n k).map V.int) := fun H1 e Q q E => ⟨n, k, rfl, h, q⟩
/-- a loop over zip of a tuple and a list of one length -/
theorem q_forZM {σ : L2.St} {ta tb : TE} {tu tz : TS} {D : Ends} {i j : Nat} {a b : Addr} {xs ys : List V} (ha : Ev ta σ H (.ref a)) (hb : Ev tb σ H (.ref b)) (hx : SqT K H a xs) (hy : SqL K H b ys) (hl : xs.length = ys.length) (Pv : Nat → L2.St → Prop) (h0 : Pv 0 σ)
    (hs : ∀ (m : Nat) (x y : V) σ' G, Ex H G → xs[m]? = some x → ys[m]? = some y → Pv m σ' → ∀ D' : Ends, D'.rt = D.rt → (∀ σ2 G2, Ex G G2 → Pv (m + 1) σ2 → D'.nx σ2 G2) → tu D' ((σ'.set i (some x)).set j (some y)) G) (hd : ∀ σ' G, Ex H G → Pv xs.length σ' → tz D σ' G) :
    tSeq (tFor (iZipM K (tCons ta (tCons tb tNil))) (gTup K 2 (gCons (gName i) (gCons (gName j) gNil))) tu) tz D σ H :=
  ha H (Ex.refl H) _ fun H1 e1 => hb H1 e1 _ fun H2 e2 => by
    have e02 := e1.trans e2
    refine ⟨a, b, xs, ys, rfl, ex_t e02 hx, ex_l e02 hy, fun m n σ' G => n = xs.length - m ∧ m ≤ xs.length ∧ Ex H G ∧ Pv m σ', ⟨xs.length, rfl, Nat.zero_le _, e02, h0⟩, ?_⟩
    rintro m n σ' G ⟨rfl, hm, eG, hp⟩
    have sx := ex_t eG hx
    have sy := ex_l eG hy
    by_cases hlt : m < xs.length
    · have hlt2 : m < ys.length := by omega
      refine .inr ⟨⟨xs, ys, _, _, sx, sy, List.getElem?_eq_getElem hlt, List.getElem?_eq_getElem hlt2⟩, fun σ2 G2 => Ex H G2 ∧ Pv (m + 1) σ2, fun σ2 G2 z => ⟨xs.length - (m + 1), by omega, rfl, hlt, z.1, z.2⟩, fun v G' hv => ?_⟩
      obtain ⟨t, x, y, rfl, ht, rfl, f1, f2⟩ := hv
      have et : Ex G (upd G t (.tup [x, y])) := Ex.new ht
      exact ⟨t, [x, y], rfl, st_of upd_same, rfl, x, [y], rfl, y, [], rfl, rfl, hs m x y σ' _ (eG.trans et) (f1 xs sx) (f2 ys sy) hp _ rfl fun σ2 G2 e3 hp2 => ⟨(eG.trans et).trans e3, hp2⟩⟩
    · have em : m = xs.length := by omega
      subst em
      exact .inl ⟨⟨xs, ys, sx, sy, rfl, hl.symm⟩, hd σ' G eG hp⟩
def sp_law_weight (K : PySem.W.Frag) : Sp := fun vs H Q _ => ∃ (p : Int) (a b : Addr) (bs xs : List Int), vs = [.int p, .ref a, .ref b] ∧ SqT K H a (bs.map V.int) ∧ SqL K H b (xs.map V.int) ∧ bs.length = xs.length ∧ 1 < p ∧ p < 4294967296 ∧ RetV (.int (wgt p 1 (bs.zip xs))) H Q
theorem drop_zip {bs xs : List Int} {m : Nat} {x y : V} (h1 : (bs.map V.int)[m]? = some x) (h2 : (xs.map V.int)[m]? = some y) : ∃ b c, x = .int b ∧ y = .int c ∧ (bs.zip xs).drop m = (b, c) :: (bs.zip xs).drop (m + 1) := by
  rw [List.getElem?_map] at h1 h2
  cases e1 : bs[m]? with
  | none =>
    rw [e1] at h1
    cases h1
  | some b =>
    cases e2 : xs[m]? with
    | none =>
      rw [e2] at h2
      cases h2
    | some c =>
      rw [e1] at h1
      rw [e2] at h2
      refine ⟨b, c, (Option.some.inj h1).symm, (Option.some.inj h2).symm, ?_⟩
      have l1 := (List.getElem?_eq_some_iff.mp e1).1
      have l2 := (List.getElem?_eq_some_iff.mp e2).1
      have hz : m < (bs.zip xs).length := by rw [List.length_zip]; omega
      rw [List.drop_eq_getElem_cons hz, List.getElem_zip]
      have b1 := (List.getElem?_eq_some_iff.mp e1).2
      have b2 := (List.getElem?_eq_some_iff.mp e2).2
      rw [b1, b2]
theorem ok_law_weight (T : Top K mg) : Ok1 P w K mg base 1 "_law_weight" ["_law_p", "_law_bits_here", "_law_point"] (sp_law_weight K) := by
  refine mk_law_weight T (fun vs H Q E h => ?_) fun vs H Q E h => ?_
  · obtain ⟨p, a, b, bs, xs, rfl, _⟩ := h
    rfl
  obtain ⟨p, a, b, bs, xs, rfl, hs, hx, hl, hp, hp2, q⟩ := h
  refine q_asg ev_c fun H1 e1 => ?_
  refine q_forZM (ev_var rfl) (ev_var rfl) (ex_t e1 hs) (ex_l e1 hx) (by simp [hl]) (fun m σ => ∃ (f : Int) (y4 y5 : Option V), σ = [some (.int p), some (.ref a), some (.ref b), some (.int f), y4, y5] ∧ (0 ≤ f ∧ f < p) ∧ wgt p f ((bs.zip xs).drop m) = wgt p 1 (bs.zip xs)) ⟨1, none, none, rfl, ⟨by omega, hp⟩, rfl⟩ (fun m x y σ G eG hx1 hy1 hP D' _ kk => ?_) fun σ G eG hP => ?_
  · obtain ⟨f, y4, y5, rfl, hf, hw⟩ := hP
    obtain ⟨bb, c, rfl, rfl, hd⟩ := drop_zip hx1 hy1
    rw [hd] at hw
    have hw : wgt p (f * (if bb = 1 then c else 1 - c) % p) ((bs.zip xs).drop (m + 1)) = wgt p 1 (bs.zip xs) := hw
    refine s_asg (e_mod (e_mul (ev_var rfl) (ev_if (v := .int (if bb = 1 then c else 1 - c)) (et_B (e_cmp (p := fun i j => decide (i = j)) (ev_var rfl) ev_c)) (fun hz => ?_) fun hz => ?_) (mul_ok hf hp2)) (ev_var rfl) (by omega)) fun G2 e3 => kk _ _ e3 ⟨_, _, _, rfl, mod_in (by omega) _, hw⟩
    · rw [if_pos (of_decide_eq_true hz)]
      exact ev_var rfl
    · rw [if_neg (of_decide_eq_false hz)]
      exact e_sub ev_c (ev_var rfl)
  · obtain ⟨f, y4, y5, rfl, hf, hw⟩ := hP
    rw [List.length_map, List.drop_eq_nil_of_le (by rw [List.length_zip]; omega)] at hw
    have hw : f = wgt p 1 (bs.zip xs) := hw
    rw [← hw] at q
    exact s_ret (ev_var rfl) fun G2 e3 => q G2 ((e1.trans eG).trans e3)
theorem sv_law_weight {p : Int} {a b : Addr} {bs xs : List Int} (h : SqT K H a (bs.map V.int)) (h2 : SqL K H b (xs.map V.int)) (hl : bs.length = xs.length) (hp : 1 < p) (hp2 : p < 4294967296) : SpV (sp_law_weight K) [.int p, .ref a, .ref b] H (.int (wgt p 1 (bs.zip xs))) := fun H1 e Q q E =>
  ⟨p, a, b, bs, xs, rfl, ex_t e h, ex_l e h2, hl, hp, hp2, q⟩
/-- a call whose middle argument is a tuple told by what it holds -/
theorem ev_call3S {σ : L2.St} {ta tb tc : TE} {sp : Sp} {x y z : V} {xs : List V} (a : Ev ta σ H x) (b : EvS K tb σ H xs) (c : Ev tc σ H y) (h : ∀ l H1, Ex H H1 → SqT K H1 l xs → SpV sp [x, .ref l, y] H1 z) : Ev (tCall sp [] E0 (tCons ta (tCons tb (tCons tc tNil)))) σ H z := fun H1 e Q q =>
  a H1 e _ fun H2 e2 => b H2 (e.trans e2) _ fun l H3 e3 g => c H3 ((e.trans e2).trans e3) _ fun H4 e4 => h l H4 (((e.trans e2).trans e3).trans e4) (ex_t e4 g) H4 (Ex.refl H4) Q (fun H5 e5 => q H5 (((e2.trans e3).trans e4).trans e5)) E0
def sp_law_spread (K : PySem.W.Frag) : Sp := fun vs H Q _ => ∃ (p : Int) (a b : Addr) (t xs : List Int), vs = [.int p, .ref a, .ref b] ∧ SqT K H a (t.map V.int) ∧ SqL K H b (xs.map V.int) ∧ InAll p t ∧ t.length ≤ 1024 ∧ xs.length ≤ 10 ∧ 1 < p ∧ p < 4294967296 ∧ RetV (.int (spreadL p t xs)) H Q
theorem ok_law_spread (T : Top K mg) : Ok1 P w K mg base 2 "_law_spread" ["_law_p", "_law_table_here", "_law_point"] (sp_law_spread K) := by
  refine mk_law_spread T (ok_law_bits T) (ok_law_weight T) (by decide) (by decide) (fun vs H Q E h => ?_) fun vs H Q E h => ?_
  · obtain ⟨p, a, b, t, xs, rfl, _⟩ := h
    rfl
  obtain ⟨p, a, b, t, xs, rfl, hs, hx, ht, htl, hxl, hp, hp2, q⟩ := h
  refine q_asg (e_len (ev_var rfl) (.inl hx)) fun H1 e1 => ?_
  refine s_ret (e_mod (e_sum (ns := (List.range t.length).map fun k => t.getD k 0 * wgt p 1 ((K10M.bits xs.length k).zip xs)) ?_) (ev_var rfl) (by omega)) fun H2 e2 => q H2 (e1.trans e2)
  rw [List.map_map]
  refine el_mapR (n := (t.length : Int)) (fun k => V.int (t.getD k 0 * wgt p 1 ((K10M.bits xs.length k).zip xs))) (ea_cons (ev_is (e_len (ev_var rfl) (.inr (ex_t e1 hs))) (by rw [List.length_map])) ea_nil) (by omega) (fun _ => rfl) fun k G eG hk => ?_
  have a1 := int_at (l := t) (m := k) (by omega)
  refine e_mul (e_ixT (ev_var rfl) (ev_var rfl) (ex_t (e1.trans eG) hs) a1) (ev_call3S (xs := (K10M.bits xs.length k).map V.int) (ev_var rfl) (es_call (ea_cons (ev_var rfl) (ea_cons (ev_var rfl) ea_nil)) (by rw [List.length_map]; exact ss_law_bits (by omega))) (ev_var rfl) fun l G2 e2 hl => sv_law_weight hl (ex_l ((e1.trans eG).trans e2) hx) (K10M.bits_len _ _) hp hp2) (mul_ok (ht.getD (by omega) k) hp2)
theorem sv_law_spread {p : Int} {a b : Addr} {t xs : List Int} (h : SqT K H a (t.map V.int)) (h2 : SqL K H b (xs.map V.int)) (ht : InAll p t) (htl : t.length ≤ 1024) (hxl : xs.length ≤ 10) (hp : 1 < p) (hp2 : p < 4294967296) : SpV (sp_law_spread K) [.int p, .ref a, .ref b] H (.int (spreadL p t xs)) := fun H1 e Q q E =>
  ⟨p, a, b, t, xs, rfl, ex_t e h, ex_l e h2, ht, htl, hxl, hp, hp2, q⟩
end
end K10

set_option Elab.async false
set_option linter.all false
set_option maxRecDepth 100000
set_option maxHeartbeats 4000000
/-! K10RdM: what is drawn: numbers, lines, rules -/
namespace K10
open PySem PySem.Spec PyProof.Rows L2 Evl LamX K10M
section
variable {P : Program} {w : World} {K : PySem.W.Frag} {mg : Str → Option Value} {base : Heap} {H H' : Hp} {l : Addr × Addr}

/-! ### pick, prime, number -/
def sp_law_pick (K : PySem.W.Frag) : Sp := fun vs H Q _ => ∃ (l : Addr × Addr) (a : Addr) (xs : List V), vs = [.ref l.1, .ref a] ∧ RowOk K H l ∧ SqL K H a xs ∧ a ≠ l.1 ∧ 0 < xs.length ∧ xs.length ≤ 1000 ∧ RetR K l (fun v _ => v ∈ xs) H Q
theorem ok_law_pick (T : Top K mg) : Ok1 P w K mg base 2 "_law_pick" ["_law_row", "_law_things"] (sp_law_pick K) := by
  refine mk_law_pick T (ok_law_taken T) (by decide) (fun vs H Q E h => ?_) fun vs H Q E h => ?_
  · obtain ⟨l, a, xs, rfl, _⟩ := h
    rfl
  obtain ⟨l, a, xs, rfl, hr, hs, hn, h0, h1, q⟩ := h
  refine ms_ret (l := l) (F := fun v _ => v ∈ xs) (m_op (F := fun x _ => x = .ref a) (m_of hr (ev_var rfl) fun _ _ => rfl) fun x H1 r1 ex => ?_) fun v H1 r f => q v H1 r f
  subst ex
  have hs1 := r1.lst hn hs
  refine m_op2 (F := fun v _ => ∃ j : Nat, v = .int (j : Int) ∧ (j : Int) < xs.length) (m_call (FA := fun vs _ => vs = [.ref l.1, .int (xs.length : Int)]) (ma_of r1.r1 (ea_cons (ev_var rfl) (ea_cons (e_len (ev_var rfl) (.inl hs1)) ea_nil)) fun _ _ => rfl) fun vs H2 r2 ev Q k => sm_taken ev r2.r1 (by omega) (by omega) k) fun y H2 r2 fy => ?_
  obtain ⟨j, rfl, hj⟩ := fy
  have hj : j < xs.length := by omega
  exact m_of r2.r1 (e_ixL ev_c ev_c (r2.lst hn hs1) (atI_nat (List.getElem?_eq_getElem hj))) fun _ _ => List.getElem_mem hj
theorem sm_pick {vs : List V} {a : Addr} {xs : List V} {Q : VK} {E : XK} (hv : vs = [.ref l.1, .ref a]) (r : RowOk K H l) (hs : SqL K H a xs) (hn : a ≠ l.1) (h0 : 0 < xs.length) (h1 : xs.length ≤ 1000) (q : RetR K l (fun v _ => v ∈ xs) H Q) : sp_law_pick K vs H Q E := ⟨l, a, xs, hv, r, hs, hn, h0, h1, q⟩
/-- pick of a list of plain values -/
theorem m_pick {σ : L2.St} {tas : TA} {xs : List V} (r : RowOk K H l) (h0 : σ[0]? = some (some (.ref l.1))) (h : EvA tas σ H xs) (hz : 0 < xs.length) (hz2 : xs.length ≤ 1000) : MEv K l (tCall (sp_law_pick K) [] E0 (tCons (tVar 0) (tCons (tLst tas) tNil))) σ H fun v _ => v ∈ xs := by
  refine m_call (FA := fun vs H1 => ∃ a, vs = [.ref l.1, .ref a] ∧ a ≠ l.1 ∧ SqL K H1 a xs) (ma_cons (F := fun x H1 => x = .ref l.1 ∧ Ex H H1) (m_of r (ev_var h0) fun _ e => ⟨rfl, e⟩) fun x H1 r1 ex => ?_) fun vs H1 r1 ev Q k => ?_
  · obtain ⟨rfl, e1⟩ := ex
    refine ma_cons (F := fun x H1 => ∃ a, x = .ref a ∧ a ≠ l.1 ∧ SqL K H1 a xs) (m_ofL r1.r1 (el_lst (fun G e => h G (e1.trans e)) (by omega)) fun p G n _ g => ⟨p, rfl, n, sq_of g⟩) fun x H2 r2 ex => ?_
    obtain ⟨a, rfl, n, g⟩ := ex
    exact ma_nil r2.r1 ⟨a, rfl, n, g⟩
  · obtain ⟨a, rfl, n, g⟩ := ev
    exact sm_pick rfl r1.r1 g n hz hz2 k
def sp_law_prime (K : PySem.W.Frag) : Sp := fun vs H Q _ => ∃ (l : Addr × Addr), vs = [.ref l.1] ∧ RowOk K H l ∧ RetR K l (fun v _ => ∃ p, v = .int p ∧ p ∈ primes) H Q
theorem ok_law_prime (T : Top K mg) : Ok1 P w K mg base 3 "_law_prime" ["_law_row"] (sp_law_prime K) := by
  refine mk_law_prime T (ok_law_pick T) (by decide) (fun vs H Q E h => ?_) fun vs H Q E h => ?_
  · obtain ⟨l, rfl, _⟩ := h
    rfl
  obtain ⟨l, rfl, hr, q⟩ := h
  refine ms_ret (m_pick (xs := [.int 5, .int 5, .int 7, .int 7, .int 11, .int 13, .int 101, .int 65537, .int 2147483647]) hr rfl (ea_cons ev_c (ea_cons ev_c (ea_cons ev_c (ea_cons ev_c (ea_cons ev_c (ea_cons ev_c (ea_cons ev_c (ea_cons ev_c (ea_cons ev_c ea_nil))))))))) (by simp) (by simp)) fun v H1 r f => q v H1 r ?_
  simp only [List.mem_cons, List.not_mem_nil, or_false] at f
  rcases f with rfl | rfl | rfl | rfl | rfl | rfl | rfl | rfl | rfl <;> exact ⟨_, rfl, by decide⟩
theorem sm_prime {vs : List V} {Q : VK} {E : XK} (hv : vs = [.ref l.1]) (r : RowOk K H l) (q : RetR K l (fun v _ => ∃ p, v = .int p ∧ p ∈ primes) H Q) : sp_law_prime K vs H Q E := ⟨l, hv, r, q⟩
/-- a draw of a number below many, from the names' values -/
theorem m_taken {σ : L2.St} {tb : TE} {n : Int} (r : RowOk K H l) (h0 : σ[0]? = some (some (.ref l.1))) (hb : Ev tb σ H (.int n)) (hn : 0 < n) (hn2 : n < 4294967296) : MEv K l (tCall (sp_law_taken K) [] E0 (tCons (tVar 0) (tCons tb tNil))) σ H fun v _ => ∃ j : Nat, v = .int (j : Int) ∧ (j : Int) < n :=
  m_call (FA := fun vs _ => vs = [.ref l.1, .int n]) (ma_of r (ea_cons (ev_var h0) (ea_cons hb ea_nil)) fun _ _ => rfl) fun vs H1 r1 ev Q k => sm_taken ev r1.r1 hn hn2 k
def NumV (p : Int) (v : V) : Prop := ∃ c, v = .int c ∧ 0 ≤ c ∧ c < p
def sp_law_number (K : PySem.W.Frag) : Sp := fun vs H Q _ => ∃ (l : Addr × Addr) (p : Int), vs = [.ref l.1, .int p] ∧ RowOk K H l ∧ 1 < p ∧ RetR K l (fun v _ => NumV p v) H Q
theorem ok_law_number (T : Top K mg) : Ok1 P w K mg base 2 "_law_number" ["_law_row", "_law_p"] (sp_law_number K) := by
  refine mk_law_number T (ok_law_taken T) (by decide) (fun vs H Q E h => ?_) fun vs H Q E h => ?_
  · obtain ⟨l, p, rfl, _⟩ := h
    rfl
  obtain ⟨l, p, rfl, hr, hp, q⟩ := h
  refine mq_asg (m_taken hr rfl ev_c (by decide) (by decide)) fun v H1 r1 ev => ?_
  obtain ⟨j, rfl, hj⟩ := ev
  by_cases hj3 : (j : Int) < 3
  · refine q_when (b := true) (et_is (et_B (e_cmp (ev_var rfl) ev_c)) (decide_eq_true hj3)) (fun _ H2 e2 => ?_) fun z => by cases z
    have hj4 : j < [(0 : Int), 1, p - 1].length := by show j < 3; omega
    have hat := int_at (l := [(0 : Int), 1, p - 1]) (m := j) hj4
    have ld : EvL (tLst (tCons (tC (.int 0)) (tCons (tC (.int 1)) (tCons (tOp rSubI (tVar 1) (tC (.int 1))) tNil)))) [some (.ref l.1), some (.int p), some (.int (j : Int))] H2 ([(0 : Int), 1, p - 1].map V.int) := el_lst (ea_cons ev_c (ea_cons ev_c (ea_cons (e_sub (ev_var rfl) ev_c) ea_nil))) (by simp)
    have c : Ev (tOp (rIx K) (tLst (tCons (tC (.int 0)) (tCons (tC (.int 1)) (tCons (tOp rSubI (tVar 1) (tC (.int 1))) tNil)))) (tVar 2)) [some (.ref l.1), some (.int p), some (.int (j : Int))] H2 (.int ([(0 : Int), 1, p - 1].getD j 0)) := fun G e Q k => ld G e _ fun a G1 _ e1 g => e_ixL (σ := [some (.ref l.1), some (.int p), some (.int (j : Int))]) ev_c (ev_var rfl) (sq_of g) hat G1 (Ex.refl G1) Q fun G2 e2 => k G2 (e1.trans e2)
    refine s_ret c fun H3 e3 => q _ H3 (r1.trans (.of (e2.trans e3) r1.r1)) ⟨_, rfl, ?_⟩
    rcases (show j = 0 ∨ j = 1 ∨ j = 2 by omega) with rfl | rfl | rfl
    · exact ⟨Int.le_refl 0, by show (0 : Int) < p; omega⟩
    · exact ⟨show (0 : Int) ≤ 1 by decide, hp⟩
    · show 0 ≤ p - 1 ∧ p - 1 < p
      omega
  · refine q_when (b := false) (et_is (et_B (e_cmp (ev_var rfl) ev_c)) (decide_eq_false hj3)) (fun z => by cases z) fun _ H2 e2 => ?_
    have r2 := r1.trans (.of e2 r1.r1)
    refine ms_ret (F := fun v _ => NumV p v) (m_op (F := fun v _ => ∃ i, v = .int i) (m_op (F := fun v _ => ∃ i, v = .int i) (m_op (F := fun v _ => ∃ j : Nat, v = .int (j : Int) ∧ (j : Int) < 1000) (m_taken r2.r1 rfl ev_c (by decide) (by decide)) fun x H3 r3 ex => ?_) fun x H3 r3 ex => ?_) fun x H3 r3 ex => ?_) fun v H3 r3 f => q v H3 (r2.trans r3) f
    · obtain ⟨i, rfl, hi⟩ := ex
      exact m_of r3.r1 (e_mul ev_c ev_c (.inr ⟨by decide, by decide⟩)) fun _ _ => ⟨_, rfl⟩
    · obtain ⟨i, rfl⟩ := ex
      refine m_op2 (m_taken r3.r1 rfl ev_c (by decide) (by decide)) fun y H4 r4 ey => ?_
      obtain ⟨i2, rfl, _⟩ := ey
      exact m_of r4.r1 (e_add ev_c ev_c) fun _ _ => ⟨_, rfl⟩
    · obtain ⟨i, rfl⟩ := ex
      exact m_of r3.r1 (e_mod ev_c (ev_var rfl) (by omega)) fun _ _ => ⟨_, rfl, mod_in (by omega) _⟩
theorem m_number {σ : L2.St} {p : Int} (r : RowOk K H l) (h0 : σ[0]? = some (some (.ref l.1))) (h1 : σ[1]? = some (some (.int p))) (hp : 1 < p) : MEv K l (tCall (sp_law_number K) [] E0 (tCons (tVar 0) (tCons (tVar 1) tNil))) σ H fun v _ => NumV p v :=
  m_call (FA := fun vs _ => vs = [.ref l.1, .int p]) (ma_of r (ea_cons (ev_var h0) (ea_cons (ev_var h1) ea_nil)) fun _ _ => rfl) fun vs H1 r1 ev Q k => ⟨l, p, ev, r1.r1, hp, k⟩
/-! ### numbers -/
def NumT (K : PySem.W.Frag) (p : Int) (n : Nat) (v : V) (H : Hp) : Prop := ∃ a xs, v = .ref a ∧ SqT K H a (xs.map V.int) ∧ xs.length = n ∧ InAll p xs
theorem ints_of {p : Int} : ∀ {vs : List V}, (∀ v ∈ vs, NumV p v) → ∃ xs : List Int, vs = xs.map V.int ∧ InAll p xs
  | [], _ => ⟨[], rfl, fun c h => nomatch h⟩
  | v :: vs, h => by
    obtain ⟨c, rfl, hc⟩ := h v (by simp)
    obtain ⟨xs, rfl, hx⟩ := ints_of (fun u hu => h u (List.mem_cons_of_mem _ hu))
    refine ⟨c :: xs, rfl, fun d hd => ?_⟩
    rcases List.mem_cons.mp hd with rfl | hd
    · exact hc
    · exact hx d hd
/-- [a draw for _ in range(n)] -/
theorem m_lcR {σ : L2.St} {ta : TA} {te : TE} {k n : Nat} {vs : List Nat} {S : V → Prop} (r : RowOk K H l) (h : EvA ta σ H [.int (n : Int)]) (hn : n ≤ 40000) (hw : ∀ x, wipe ((wipe σ vs).set k (some x)) vs = wipe σ vs)
    (he : ∀ (m : Nat) H1, Rw K l H H1 → m < n → MEv K l te ((wipe σ vs).set k (some (.int (m : Int)))) H1 fun v _ => S v) : MEv K l (tLc (iRng1 ta) (gName k) tYes te vs) σ H fun v H' => ∃ p xs, v = .ref p ∧ p ≠ l.1 ∧ H' p = some (.lst xs) ∧ xs.length = n ∧ ∀ x ∈ xs, S x := fun Q q =>
  h H (Ex.refl H) _ fun H1 e1 => ⟨(n : Int), rfl, by omega, by omega, fun dl hdl => by
    have rdl := r.ex e1
    have hne := fresh_ne rdl hdl
    have hdl0 := fresh_back e1 hdl
    have upR : ∀ {G : Hp} {o : HO}, Rw K l H G → Rw K l H (upd G dl o) := fun {G o} rG => ⟨fun b o' nb hb => by
      rw [upd_ne (ne_of_none hb hdl0)]
      exact rG.xo b o' nb hb, r, by
      obtain ⟨ns, k, m, rr, g1, g2, g3, g4⟩ := rG.r1
      have g1' : upd G dl o l.1 = some (.lst [.ref l.2, .int k, .int m, .int rr]) := by
        rw [upd_ne hne.symm]
        exact g1
      by_cases hb : l.2 = dl
      · obtain ⟨ns0, k0, m0, rr0, f1, f2, f3, f4⟩ := r
        rcases f2 with (f2 | ⟨ob, f2⟩) | f2
        · rw [hb, hdl0] at f2
          cases f2
        · rw [hb, hdl0] at f2
          cases f2
        · exact ⟨ns0, k, m, rr, g1', .inr f2, f3, g4⟩
      · exact ⟨ns, k, m, rr, g1', sl_at (fun o' z _ => by rw [upd_ne hb]; exact z) g2, g3, g4⟩⟩
    refine lc_range (lo := 0) (n := (n : Int).toNat) (fun m G => Rw K l H G ∧ ∃ xs, G dl = some (.lst xs) ∧ xs.length = m ∧ ∀ x ∈ xs, S x) ⟨upR (.of e1 r), [], upd_same, rfl, fun x h => nomatch h⟩ (fun m G hm hP => ?_) fun G hP => ?_
    · obtain ⟨rG, xs, g1, g2, g3⟩ := hP
      have e0 : (0 : Int) + (m : Int) = (m : Int) := Int.zero_add _
      refine ⟨hw _, ?_⟩
      show te ((wipe σ vs).set k (some (.int ((0 : Int) + (m : Int))))) G _
      rw [e0]
      refine he m G rG (by omega) _ fun y G2 r2 sy => ⟨xs, r2.xo _ _ hne g1, sz_lt (by omega), upR (rG.trans r2), xs ++ [y], upd_same, by rw [List.length_append, g2]; rfl, fun x hx => ?_⟩
      rcases List.mem_append.mp hx with hx | hx
      · exact g3 x hx
      · have : x = y := by simpa using hx
        rw [this]
        exact sy
    · obtain ⟨rG, xs, g1, g2, g3⟩ := hP
      exact q _ G rG ⟨dl, xs, rfl, hne, g1, by rw [g2]; omega, g3⟩⟩
def sp_law_numbers (K : PySem.W.Frag) : Sp := fun vs H Q _ => ∃ (l : Addr × Addr) (p : Int) (n : Nat), vs = [.ref l.1, .int p, .int (n : Int)] ∧ RowOk K H l ∧ 1 < p ∧ n ≤ 1000 ∧ RetR K l (NumT K p n) H Q
theorem ok_law_numbers (T : Top K mg) : Ok1 P w K mg base 3 "_law_numbers" ["_law_row", "_law_p", "_law_many"] (sp_law_numbers K) := by
  refine mk_law_numbers T (ok_law_number T) (by decide) (fun vs H Q E h => ?_) fun vs H Q E h => ?_
  · obtain ⟨l, p, n, rfl, _⟩ := h
    rfl
  obtain ⟨l, p, n, rfl, hr, hp, hn, q⟩ := h
  refine (m_lcR (n := n) (S := NumV p) hr (ea_cons (ev_var rfl) ea_nil) (by omega) (fun _ => rfl) fun m H1 r1 _ => m_number r1.r1 rfl rfl hp) (fun x H1 => tCB (rTupQ K) (tCons (tC x) tNil) (start n_law_numbers []) H1 Q) fun v H1 r1 hv => ?_
  obtain ⟨a, vs, rfl, hna, ha, hvl, hall⟩ := hv
  obtain ⟨xs, rfl, hx⟩ := ints_of hall
  rw [List.length_map] at hvl
  exact eu_tupL' (σ := start n_law_numbers []) (ta := tC (.ref a)) ev_c (sq_of ha) H1 (Ex.refl H1) Q fun t H2 _ e2 g => q _ H2 (r1.trans (.of e2 r1.r1)) ⟨t, xs, rfl, st_of g, hvl, hx⟩
theorem sm_numbers {vs : List V} {p : Int} {n : Nat} {Q : VK} {E : XK} (hv : vs = [.ref l.1, .int p, .int (n : Int)]) (r : RowOk K H l) (hp : 1 < p) (hn : n ≤ 1000) (q : RetR K l (NumT K p n) H Q) : sp_law_numbers K vs H Q E := ⟨l, p, n, hv, r, hp, hn, q⟩
theorem m_numbers {σ : L2.St} {tc : TE} {p : Int} {n : Nat} (r : RowOk K H l) (h0 : σ[0]? = some (some (.ref l.1))) (h1 : σ[1]? = some (some (.int p))) (hc : Ev tc σ H (.int (n : Int))) (hp : 1 < p) (hn : n ≤ 1000) : MEv K l (tCall (sp_law_numbers K) [] E0 (tCons (tVar 0) (tCons (tVar 1) (tCons tc tNil)))) σ H (NumT K p n) :=
  m_call (FA := fun vs _ => vs = [.ref l.1, .int p, .int (n : Int)]) (ma_of r (ea_cons (ev_var h0) (ea_cons (ev_var h1) (ea_cons hc ea_nil))) fun _ _ => rfl) fun vs H1 r1 ev Q k => sm_numbers ev r1.r1 hp hn k
/-! ### a line, a table -/
/-- a line: its numbers, the last no nought, at most so many -/
def LineT (K : PySem.W.Frag) (p : Int) (n : Nat) (v : V) (H : Hp) : Prop := ∃ a xs, v = .ref a ∧ SqT K H a (xs.map V.int) ∧ xs.length ≤ n ∧ InAll p xs
def sp_law_line (K : PySem.W.Frag) : Sp := fun vs H Q _ => ∃ (l : Addr × Addr) (p : Int) (n : Nat), vs = [.ref l.1, .int p, .int (n : Int)] ∧ RowOk K H l ∧ 1 < p ∧ n ≤ 999 ∧ RetR K l (LineT K p n) H Q
theorem ok_law_line (T : Top K mg) : Ok1 P w K mg base 4 "_law_line" ["_law_row", "_law_p", "_law_most"] (sp_law_line K) := by
  refine mk_law_line T (ok_law_taken T) (ok_law_numbers T) (ok_law_cut T) (by decide) (by decide) (by decide) (fun vs H Q E h => ?_) fun vs H Q E h => ?_
  · obtain ⟨l, p, n, rfl, _⟩ := h
    rfl
  obtain ⟨l, p, n, rfl, hr, hp, hn, q⟩ := h
  -- the row's draws: first how many, then these
  refine ms_ret (l := l) (F := LineT K p n) (m_call (FA := fun vs H1 => ∃ (a : Addr) (xs : List Int), vs = [.ref a] ∧ SqT K H1 a (xs.map V.int) ∧ xs.length ≤ n ∧ InAll p xs) (ma_cons (F := LineT K p n) (m_call (FA := fun vs _ => ∃ j : Nat, vs = [.ref l.1, .int p, .int (j : Int)] ∧ j ≤ n) ?_ fun vs H1 r1 ev Q k => ?_) fun x H1 r1 ex => ?_) fun vs H1 r1 ev Q k => ?_) fun v H1 r f => q v H1 r f
  · refine ma_cons (F := fun x _ => x = .ref l.1) (m_of hr (ev_var rfl) fun _ _ => rfl) fun x H1 r1 ex => ?_
    subst ex
    refine ma_cons (F := fun x _ => x = .int p) (m_of r1.r1 (ev_var rfl) fun _ _ => rfl) fun x H2 r2 ex => ?_
    subst ex
    refine ma_cons (m_taken r2.r1 rfl (e_add (ev_var rfl) ev_c) (by omega) (by omega)) fun x H3 r3 ex => ?_
    obtain ⟨j, rfl, hj⟩ := ex
    exact ma_nil r3.r1 ⟨j, rfl, by omega⟩
  · obtain ⟨j, rfl, hj⟩ := ev
    exact sm_numbers rfl r1.r1 hp (by omega) fun v H2 r2 f => k v H2 r2 (by
      obtain ⟨a, xs, e1, e2, e3, e4⟩ := f
      exact ⟨a, xs, e1, e2, by omega, e4⟩)
  · obtain ⟨a, xs, rfl, e2, e3, e4⟩ := ex
    exact ma_nil r1.r1 ⟨a, xs, rfl, e2, e3, e4⟩
  · obtain ⟨a, xs, rfl, e2, e3, e4⟩ := ev
    exact ⟨a, xs, rfl, .inr e2, fun t H2 eH ht => k _ H2 (.of eH r1.r1) ⟨t, cut xs, rfl, ht, Nat.le_trans (cut_len xs) e3, fun c hc => e4 c (cut_mem xs c hc)⟩⟩
theorem sm_line {vs : List V} {p : Int} {n : Nat} {Q : VK} {E : XK} (hv : vs = [.ref l.1, .int p, .int (n : Int)]) (r : RowOk K H l) (hp : 1 < p) (hn : n ≤ 999) (q : RetR K l (LineT K p n) H Q) : sp_law_line K vs H Q E := ⟨l, p, n, hv, r, hp, hn, q⟩
def sp_law_table (K : PySem.W.Frag) : Sp := fun vs H Q _ => ∃ (l : Addr × Addr) (p : Int) (n : Nat), vs = [.ref l.1, .int p, .int (n : Int)] ∧ RowOk K H l ∧ 1 < p ∧ n ≤ 3 ∧ RetR K l (NumT K p (2 ^ n)) H Q
theorem ok_law_table (T : Top K mg) : Ok1 P w K mg base 4 "_law_table" ["_law_row", "_law_p", "_law_many"] (sp_law_table K) := by
  refine mk_law_table T (ok_law_numbers T) (by decide) (fun vs H Q E h => ?_) fun vs H Q E h => ?_
  · obtain ⟨l, p, n, rfl, _⟩ := h
    rfl
  obtain ⟨l, p, n, rfl, hr, hp, hn, q⟩ := h
  have hs : Ev (tOp rShlI (tC (.int 1)) (tVar 2)) (start n_law_table [.ref l.1, .int p, .int (n : Int)]) H (.int ((2 ^ n : Nat) : Int)) := ev_is (e_shl ev_c (ev_var rfl) ⟨by omega, by omega, by decide⟩) (by rw [Int.toNat_natCast, Int.one_mul]; norm_cast)
  have h8 : 2 ^ n ≤ 2 ^ 3 := Nat.pow_le_pow_right (by decide) hn
  exact ms_ret (m_numbers hr rfl rfl hs hp (by omega)) q
theorem m_table {σ : L2.St} {tc : TE} {p : Int} {n : Nat} (r : RowOk K H l) (h0 : σ[0]? = some (some (.ref l.1))) (h1 : σ[1]? = some (some (.int p))) (hc : Ev tc σ H (.int (n : Int))) (hp : 1 < p) (hn : n ≤ 3) : MEv K l (tCall (sp_law_table K) [] E0 (tCons (tVar 0) (tCons (tVar 1) (tCons tc tNil)))) σ H (NumT K p (2 ^ n)) :=
  m_call (FA := fun vs _ => vs = [.ref l.1, .int p, .int (n : Int)]) (ma_of r (ea_cons (ev_var h0) (ea_cons (ev_var h1) (ea_cons hc ea_nil))) fun _ _ => rfl) fun vs H1 r1 ev Q k => ⟨l, p, n, ev, r1.r1, hp, hn, k⟩
end
end K10

set_option Elab.async false
set_option linter.all false
set_option maxRecDepth 100000
set_option maxHeartbeats 4000000
/-! K10RdN: drawn rules -/
namespace K10
open PySem PySem.Spec PyProof.Rows L2 Evl LamX K10M
section
variable {P : Program} {w : World} {K : PySem.W.Frag} {mg : Str → Option Value} {base : Heap} {H H' : Hp} {l : Addr × Addr}

theorem rw_new {G : Hp} {a : Addr} {o : HO} (rG : Rw K l H G) (h : H a = none) : Rw K l H (upd G a o) := by
  have r := rG.r0
  have hne := fresh_ne r h
  refine ⟨fun b o' nb hb => by rw [upd_ne (ne_of_none hb h)]; exact rG.xo b o' nb hb, r, ?_⟩
  obtain ⟨ns, k, m, rr, g1, g2, g3, g4⟩ := rG.r1
  have g1' : upd G a o l.1 = some (.lst [.ref l.2, .int k, .int m, .int rr]) := by
    rw [upd_ne hne.symm]
    exact g1
  by_cases hb : l.2 = a
  · obtain ⟨ns0, k0, m0, rr0, f1, f2, f3, f4⟩ := r
    rcases f2 with (f2 | ⟨ob, f2⟩) | f2
    · rw [hb, h] at f2
      cases f2
    · rw [hb, h] at f2
      cases f2
    · exact ⟨ns0, k, m, rr, g1', .inr f2, f3, g4⟩
  · exact ⟨ns, k, m, rr, g1', sl_at (fun o' z _ => by rw [upd_ne hb]; exact z) g2, g3, g4⟩
theorem m_if {σ : L2.St} {t : TT} {ta tb : TE} {b : Bool} {F : V → Hp → Prop} (r : RowOk K H l) (h : EvT t σ H b) (h1 : b = true → ∀ H1, Ex H H1 → MEv K l ta σ H1 F) (h2 : b = false → ∀ H1, Ex H H1 → MEv K l tb σ H1 F) : MEv K l (tIf t ta tb) σ H F := fun Q q => h H (Ex.refl H) _ fun H1 e1 => by
  cases b with
  | true =>
    show ta σ H1 Q
    exact h1 rfl H1 e1 Q fun v H2 r2 f => q v H2 ((Rw.of e1 r).trans r2) f
  | false =>
    show tb σ H1 Q
    exact h2 rfl H1 e1 Q fun v H2 r2 f => q v H2 ((Rw.of e1 r).trans r2) f
/-! ### places -/
def PlT (K : PySem.W.Frag) (p : Int) (n : Nat) (v : V) (H : Hp) : Prop := ∃ q, Dp K H v (dP q) ∧ PlOk p n q
theorem PlT.tex {p : Int} {n : Nat} {v : V} (e : TEx K H H') (h : PlT K p n v H) : PlT K p n v H' := by
  obtain ⟨q, h1, h2⟩ := h
  exact ⟨q, dp_tex e _ _ (noL_P q) h1, h2⟩
theorem pls_of {p : Int} {n : Nat} : ∀ {us : List V}, (∀ u ∈ us, PlT K p n u H) → ∃ ps : List Pl, DpAll K H us (ps.map dP) ∧ ps.length = us.length ∧ ∀ q ∈ ps, PlOk p n q
  | [], _ => ⟨[], .nil, rfl, fun q h => nomatch h⟩
  | u :: us, h => by
    obtain ⟨q, h1, h2⟩ := h u (by simp)
    obtain ⟨ps, h3, h4, h5⟩ := pls_of (fun x hx => h x (List.mem_cons_of_mem _ hx))
    refine ⟨q :: ps, .cons h1 h3, by simp [h4], fun y hy => ?_⟩
    rcases List.mem_cons.mp hy with rfl | hy
    · exact h2
    · exact h5 y hy
theorem m_name {σ : L2.St} {p : Int} {n : Nat} (r : RowOk K H l) (h0 : σ[0]? = some (some (.ref l.1))) (h2 : σ[2]? = some (some (.int (n : Int)))) (hn : 0 < n) (hn2 : n ≤ 100) : MEv K l (tTup (tCons (tC (.str "name")) (tCons (tCall (sp_law_taken K) [] E0 (tCons (tVar 0) (tCons (tVar 2) tNil))) tNil))) σ H (PlT K p n) := by
  refine m_tup (FA := fun xs _ => ∃ j : Nat, xs = [.str "name", .int (j : Int)] ∧ j < n) (ma_cons (F := fun x _ => x = .str "name") (m_of r ev_c fun _ _ => rfl) fun x H1 r1 ex => ?_) (fun xs H1 h => ?_) fun a xs H1 H2 r1 h e g => ?_
  · subst ex
    refine ma_cons (m_taken r1.r1 h0 (ev_var h2) (by omega) (by omega)) fun x H2 r2 ex => ?_
    obtain ⟨j, rfl, hj⟩ := ex
    exact ma_nil r2.r1 ⟨j, rfl, by omega⟩
  · obtain ⟨j, rfl, _⟩ := h
    simp
  · obtain ⟨j, rfl, hj⟩ := h
    exact ⟨.nam j, .tup g (.cons (.str _) (.cons (.int _) .nil)), hj⟩
theorem m_num {σ : L2.St} {p : Int} {n : Nat} (r : RowOk K H l) (h0 : σ[0]? = some (some (.ref l.1))) (h1 : σ[1]? = some (some (.int p))) (hp : 1 < p) : MEv K l (tTup (tCons (tC (.str "number")) (tCons (tCall (sp_law_number K) [] E0 (tCons (tVar 0) (tCons (tVar 1) tNil))) tNil))) σ H (PlT K p n) := by
  refine m_tup (FA := fun xs _ => ∃ c : Int, xs = [.str "number", .int c] ∧ 0 ≤ c ∧ c < p) (ma_cons (F := fun x _ => x = .str "number") (m_of r ev_c fun _ _ => rfl) fun x H1 r1 ex => ?_) (fun xs H1 h => ?_) fun a xs H1 H2 r1 h e g => ?_
  · subst ex
    refine ma_cons (m_number r1.r1 h0 h1 hp) fun x H2 r2 ex => ?_
    obtain ⟨c, rfl, hc⟩ := ex
    exact ma_nil r2.r1 ⟨c, rfl, hc⟩
  · obtain ⟨c, rfl, _⟩ := h
    simp
  · obtain ⟨c, rfl, hc⟩ := h
    exact ⟨.num c, .tup g (.cons (.str _) (.cons (.int _) .nil)), hc⟩
/-- pick of a list of drawn values -/
theorem m_pickA {σ : L2.St} {tas : TA} {S : V → Hp → Prop} (hS : ∀ v H1 H2, Rw K l H1 H2 → S v H1 → S v H2) (r : RowOk K H l) (h0 : σ[0]? = some (some (.ref l.1))) (h : MAv K l tas σ H fun vs H1 => 0 < vs.length ∧ vs.length ≤ 1000 ∧ ∀ v ∈ vs, S v H1) :
    MEv K l (tCall (sp_law_pick K) [] E0 (tCons (tVar 0) (tCons (tLst tas) tNil))) σ H S := by
  refine m_call (FA := fun vs H1 => ∃ a xs, vs = [.ref l.1, .ref a] ∧ a ≠ l.1 ∧ SqL K H1 a xs ∧ 0 < xs.length ∧ xs.length ≤ 1000 ∧ ∀ v ∈ xs, S v H1) ?_ fun vs H1 r1 ev Q k => ?_
  · intro Q q
    refine (m_lst (F := fun x H1 => ∃ a xs, x = .ref a ∧ a ≠ l.1 ∧ SqL K H1 a xs ∧ 0 < xs.length ∧ xs.length ≤ 1000 ∧ ∀ v ∈ xs, S v H1) h (fun xs H1 z => by omega) fun p xs H1 H2 r1 z e n g => ⟨p, xs, rfl, n, sq_of g, z.1, z.2.1, fun v hv => hS v _ _ (.of e r1.r1) (z.2.2 v hv)⟩)
      |> fun hm => ?_
    exact ⟨.ref l.1, h0, hm _ fun v H1 r1 f => by
      obtain ⟨a, xs, rfl, n, g⟩ := f
      exact q _ H1 r1 ⟨a, xs, rfl, n, g⟩⟩
  · obtain ⟨a, xs, rfl, n, g, g1, g2, g3⟩ := ev
    exact sm_pick rfl r1.r1 g n g1 g2 fun v H2 r2 hv => k v H2 r2 (hS v _ _ r2 (g3 v hv))
def RuleT (K : PySem.W.Frag) (p : Int) (n h : Nat) (v : V) (H : Hp) : Prop := ∃ R, Dp K H v (dR R) ∧ RlOk p n R ∧ hgt R ≤ h
theorem RuleT.tex {p : Int} {n h : Nat} {v : V} (e : TEx K H H') (z : RuleT K p n h v H) : RuleT K p n h v H' := by
  obtain ⟨R, h1, h2, h3⟩ := z
  exact ⟨R, rl_tex e h1, h2, h3⟩
theorem dpa_of_ints : ∀ xs : List Int, DpAll K H (xs.map V.int) (xs.map .int)
  | [] => .nil
  | x :: xs => .cons (.int x) (dpa_of_ints xs)
def sp_law_part (K : PySem.W.Frag) : Sp := fun vs H Q _ => ∃ (l : Addr × Addr) (p : Int) (n : Nat), vs = [.ref l.1, .int p, .int (n : Int)] ∧ RowOk K H l ∧ 1 < p ∧ n ≤ 100 ∧ RetR K l (RuleT K p n 0) H Q
theorem ok_law_part (T : Top K mg) : Ok1 P w K mg base 5 "_law_part" ["_law_row", "_law_p", "_law_many"] (sp_law_part K) := by
  refine mk_law_part T (ok_law_taken T) (ok_law_pick T) (ok_law_number T) (ok_law_table T) (by decide) (by decide) (by decide) (by decide) (fun vs H Q E h => ?_) fun vs H Q E h => ?_
  · obtain ⟨l, p, n, rfl, _⟩ := h
    rfl
  obtain ⟨l, p, n, rfl, hr, hp, hn, q⟩ := h
  refine mq_asg (m_taken hr rfl ev_c (by decide) (by decide)) fun v H1 r1 ev => ?_
  obtain ⟨j, rfl, hj⟩ := ev
  have c1 : EvT (tOr (tB (tEqI (tVar 3) (tC (.int 0)))) (tB (tEqI (tVar 2) (tC (.int 0))))) [some (.ref l.1), some (.int p), some (.int (n : Int)), some (.int (j : Int)), none, none, none] H1 (decide ((j : Int) = 0) || decide ((n : Int) = 0)) := et_or (et_B (e_cmp (ev_var rfl) ev_c)) fun _ => et_B (e_cmp (ev_var rfl) ev_c)
  by_cases hz : (j : Int) = 0 ∨ (n : Int) = 0
  · refine q_when (b := true) (et_is c1 (by simpa using hz)) (fun _ H2 e2 => ?_) fun z => by cases z
    have r2 := r1.trans (.of e2 r1.r1)
    exact ms_ret (m_num (n := n) r2.r1 rfl rfl hp) fun v H3 r3 f => q v H3 (r2.trans r3) (f.elim fun q z => ⟨.leaf q, z.1, z.2, Nat.le_refl 0⟩)
  refine q_when (b := false) (et_is c1 (by simpa using hz)) (fun z => by cases z) fun _ H2 e2 => ?_
  have hn0 : 0 < n := by omega
  have r2 := r1.trans (.of e2 r1.r1)
  by_cases hj3 : (j : Int) < 3
  · refine q_when (b := true) (et_is (et_B (e_cmp (ev_var rfl) ev_c)) (decide_eq_true hj3)) (fun _ H3 e3 => ?_) fun z => by cases z
    have r3 := r2.trans (.of e3 r2.r1)
    exact ms_ret (m_name (p := p) (n := n) r3.r1 rfl rfl hn0 hn) fun v H4 r4 f => q v H4 (r3.trans r4) (f.elim fun q z => ⟨.leaf q, z.1, z.2, Nat.le_refl 0⟩)
  refine q_when (b := false) (et_is (et_B (e_cmp (ev_var rfl) ev_c)) (decide_eq_false hj3)) (fun z => by cases z) fun _ H3 e3 => ?_
  have r3 := r2.trans (.of e3 r2.r1)
  refine mq_asg (m_taken r3.r1 rfl ev_c (by decide) (by decide)) fun v H4 r4 ev => ?_
  obtain ⟨z, rfl, hz3⟩ := ev
  have hz3 : z < 3 := by omega
  have r04 := r3.trans r4
  refine q_asgL (el_lst ea_nil (by simp)) fun al H5 hal0 e5 hal => ?_
  have hne := fresh_ne r04.r1 hal0
  let Pv : Nat → L2.St → Hp → Prop := fun m σ G => ∃ (us : List V) (y : Option V), σ = [some (.ref l.1), some (.int p), some (.int (n : Int)), some (.int (j : Int)), some (.int (z : Int)), some (.ref al), y] ∧ Rw K l H4 G ∧ G al = some (.lst us) ∧ us.length = m ∧ ∀ u ∈ us, PlT K p n u G
  refine q_forRg (n := (z : Int)) (ea_cons (ev_var rfl) ea_nil) (by omega) Pv (fun H6 e6 => ⟨[], none, rfl, .of (e5.trans e6) r04.r1, e6 _ _ hal, rfl, fun u h => nomatch h⟩) (fun m σ' G hm hP => ?_) fun σ' G hP => ?_
  · rw [Int.toNat_natCast] at hm
    obtain ⟨us, y, rfl, rG, hG, hul, hus⟩ := hP
    have tups : MEv K l (tCall (sp_law_pick K) [] E0 (tCons (tVar 0) (tCons (tLst (tCons (tTup (tCons (tC (.str "name")) (tCons (tCall (sp_law_taken K) [] E0 (tCons (tVar 0) (tCons (tVar 2) tNil))) tNil))) (tCons (tTup (tCons (tC (.str "name")) (tCons (tCall (sp_law_taken K) [] E0 (tCons (tVar 0) (tCons (tVar 2) tNil))) tNil))) (tCons (tTup (tCons (tC (.str "number")) (tCons (tCall (sp_law_number K) [] E0 (tCons (tVar 0) (tCons (tVar 1) tNil))) tNil))) tNil)))) tNil)))
        [some (.ref l.1), some (.int p), some (.int (n : Int)), some (.int (j : Int)), some (.int (z : Int)), some (.ref al), some (.int (m : Int))] G (PlT K p n) := by
      refine m_pickA (fun v H1 H2 r h => h.tex r.tex) rG.r1 rfl (ma_cons (m_name (p := p) rG.r1 rfl rfl hn0 hn) fun x1 G1 g1 f1 => ma_cons (m_name (p := p) g1.r1 rfl rfl hn0 hn) fun x2 G2 g2 f2 => ma_cons (m_num (n := n) g2.r1 rfl rfl hp) fun x3 G3 g3 f3 => ma_nil g3.r1 ⟨by simp, by simp, fun v hv => ?_⟩)
      simp only [List.mem_cons, List.not_mem_nil, or_false] at hv
      rcases hv with rfl | rfl | rfl
      · exact f1.tex (g2.trans g3).tex
      · exact f2.tex g3.tex
      · exact f3
    refine ⟨.ref al, rfl, .inl ⟨rfl, us, sq_of hG⟩, ?_⟩
    refine tups _ fun v G2 r2 fv => ?_
    have hG2 : G2 al = some (.lst us) := r2.xo _ _ hne hG
    refine ⟨al, us, v, rfl, rfl, hG2, sz_lt (by omega), ?_⟩
    have rN : Rw K l H4 (upd G2 al (.lst (us ++ [v]))) := rw_new (rG.trans r2) hal0
    have tN : TEx K G2 (upd G2 al (.lst (us ++ [v]))) := tex_upd hG2
    refine ⟨us ++ [v], _, rfl, rN, upd_same, by rw [List.length_append, hul]; rfl, fun u hu => ?_⟩
    rcases List.mem_append.mp hu with hu | hu
    · exact ((hus u hu).tex r2.tex).tex tN
    · have e : u = v := by simpa using hu
      rw [e]
      exact fv.tex tN
  · rw [Int.toNat_natCast] at hP
    obtain ⟨us, y, rfl, rG, hG, hul, hus⟩ := hP
    refine ms_ret (l := l) (F := RuleT K p n 0) (m_tup (FA := fun xs H1 => ∃ (at_ bt : Addr) (t : List Int) (ps : List Pl) (ws : List V), xs = [.str "table", .ref at_, .ref bt] ∧ SqT K H1 at_ (t.map V.int) ∧ SqT K H1 bt ws ∧ DpAll K H1 ws (ps.map dP) ∧ RlOk p n (.tab t ps)) (ma_cons (F := fun x _ => x = .str "table") (m_of rG.r1 ev_c fun _ _ => rfl) fun x G1 g1 ex => ?_) (fun xs H1 h => ?_) fun a xs H1 H2 r1 h e g => ?_) fun v G1 r f => q v G1 ((r04.trans rG).trans r) f
    · subst ex
      refine ma_cons (m_table (n := z) g1.r1 rfl rfl (ev_var rfl) hp (by omega)) fun x G2 g2 ex => ?_
      obtain ⟨a, t, rfl, ht, htl, hti⟩ := ex
      have g12 := g1.trans g2
      refine ma_cons (F := fun x G3 => ∃ b, x = .ref b ∧ SqT K G3 b us ∧ Ex G2 G3) (m_ofS g2.r1 (EvU.s (eu_tupL' (ev_var rfl) (sq_of (g12.xo _ _ hne hG)))) fun b G3 e3 h3 => ⟨b, rfl, h3, e3⟩) fun x G3 g3 ex => ?_
      obtain ⟨b, rfl, hb, e3⟩ := ex
      obtain ⟨ps, h1, h2, h3⟩ := pls_of (fun u hu => (hus u hu).tex (g12.trans g3).tex)
      exact ma_nil g3.r1 ⟨a, b, t, ps, us, rfl, ex_t e3 ht, hb, h1, by rw [htl, h2, hul], by omega, hti, h3⟩
    · obtain ⟨at_, bt, t, ps, ws, rfl, _⟩ := h
      simp
    · obtain ⟨at_, bt, t, ps, ws, rfl, h1, h2, h3, h4⟩ := h
      exact ⟨.tab t ps, .tup g (.cons (.str _) (.cons (.tup (ex_t e h1) (dpa_of_ints t)) (.cons (.tup (ex_t e h2) (dpa_ex e _ _ h3)) .nil))), h4, Nat.le_refl 0⟩
/-! ### rules -/
def sp_law_rule (h : Nat) (K : PySem.W.Frag) : Sp := fun vs H Q _ => ∃ (l : Addr × Addr) (p : Int) (n d : Nat), vs = [.ref l.1, .int p, .int (n : Int), .int (d : Int)] ∧ d ≤ h ∧ RowOk K H l ∧ 1 < p ∧ n ≤ 100 ∧ RetR K l (RuleT K p n d) H Q
theorem rd_rule {h : Nat} {spSelf : Sp} (ih : ∀ {l : Addr × Addr} {H : Hp} {vs : List V} {p : Int} {n d : Nat} {Q : VK} {E : XK}, vs = [.ref l.1, .int p, .int (n : Int), .int (d : Int)] → d < h → RowOk K H l → 1 < p → n ≤ 100 → RetR K l (RuleT K p n d) H Q → spSelf vs H Q E)
    (vs : List V) (H : Hp) (Q : VK) (E : XK) (hsp : sp_law_rule h K vs H Q E) : t_law_rule K (sp_law_taken K) (sp_law_pick K) (sp_law_part K) spSelf ⟨fun _ H' => Q .non H', Q, fun _ _ => False, fun _ _ => False⟩ (start n_law_rule vs) H := by
  obtain ⟨l, p, n, d, rfl, hd, hr, hp, hn, q⟩ := hsp
  refine mq_asg (l := l) (F := fun v _ => ∃ j : Nat, v = .int (j : Int) ∧ (d = 0 → j = 0)) (m_if (b := decide ((d : Int) > 0)) hr (et_B (e_cmp (ev_var rfl) ev_c)) (fun hb H1 e1 => ?_) fun hb H1 e1 => ?_) fun v H1 r1 ev => ?_
  · have hd0 : (d : Int) > 0 := of_decide_eq_true hb
    exact m_imp (m_taken (hr.ex e1) rfl ev_c (by decide) (by decide)) fun v H2 r2 f => by
      obtain ⟨j, rfl, _⟩ := f
      exact ⟨j, rfl, fun z => by omega⟩
  · exact m_of (hr.ex e1) ev_c fun _ _ => ⟨0, rfl, fun _ => rfl⟩
  obtain ⟨j, rfl, hj⟩ := ev
  by_cases hz : (j : Int) = 0
  · refine q_when (b := true) (et_is (et_B (e_cmp (ev_var rfl) ev_c)) (decide_eq_true hz)) (fun _ H2 e2 => ?_) fun z => by cases z
    have r2 := r1.trans (.of e2 r1.r1)
    refine ms_ret (l := l) (F := RuleT K p n d) (m_call (FA := fun vs _ => vs = [.ref l.1, .int p, .int (n : Int)]) (ma_of r2.r1 (ea_cons (ev_var rfl) (ea_cons (ev_var rfl) (ea_cons (ev_var rfl) ea_nil))) fun _ _ => rfl) fun vs H3 r3 ev Q k => ⟨l, p, n, ev, r3.r1, hp, hn, fun v H4 r4 f => k v H4 r4 ?_⟩) fun v H3 r3 f => q v H3 (r2.trans r3) f
    obtain ⟨R, f1, f2, f3⟩ := f
    exact ⟨R, f1, f2, by omega⟩
  · refine q_when (b := false) (et_is (et_B (e_cmp (ev_var rfl) ev_c)) (decide_eq_false hz)) (fun z => by cases z) fun _ H2 e2 => ?_
    have r2 := r1.trans (.of e2 r1.r1)
    obtain ⟨d, rfl⟩ : ∃ k, d = k + 1 := ⟨d - 1, by omega⟩
    refine mq_asg (m_pick (xs := [.str "plus", .str "minus", .str "times", .str "times"]) r2.r1 rfl (ea_cons ev_c (ea_cons ev_c (ea_cons ev_c (ea_cons ev_c ea_nil)))) (by simp) (by simp)) fun v H3 r3 ev => ?_
    obtain ⟨o, rfl⟩ : ∃ o, v = .str (opS o) := by
      simp only [List.mem_cons, List.not_mem_nil, or_false] at ev
      rcases ev with rfl | rfl | rfl | rfl
      · exact ⟨.plus, rfl⟩
      · exact ⟨.minus, rfl⟩
      · exact ⟨.times, rfl⟩
      · exact ⟨.times, rfl⟩
    have r03 := r2.trans r3
    have ed : ((d + 1 : Nat) : Int) - 1 = (d : Int) := by omega
    have rec_ : ∀ {G : Hp}, RowOk K G l → MEv K l (tCall spSelf [] E0 (tCons (tVar 0) (tCons (tVar 1) (tCons (tVar 2) (tCons (tOp rSubI (tVar 3) (tC (.int 1))) tNil))))) [some (.ref l.1), some (.int p), some (.int (n : Int)), some (.int ((d + 1 : Nat) : Int)), some (.int (j : Int)), some (.str (opS o))] G (RuleT K p n d) := fun {G} hG =>
      m_call (FA := fun vs _ => vs = [.ref l.1, .int p, .int (n : Int), .int (d : Int)]) (ma_of hG (ea_cons (ev_var rfl) (ea_cons (ev_var rfl) (ea_cons (ev_var rfl) (ea_cons (ev_is (e_sub (ev_var rfl) ev_c) (by rw [ed])) ea_nil)))) fun _ _ => rfl) fun vs H4 r4 ev Q k => ih ev (by omega) r4.r1 hp hn k
    refine ms_ret (l := l) (F := RuleT K p n (d + 1)) (m_tup (FA := fun xs H1 => ∃ v1 v2, xs = [.str (opS o), v1, v2] ∧ RuleT K p n d v1 H1 ∧ RuleT K p n d v2 H1) (ma_cons (F := fun x _ => x = .str (opS o)) (m_of r03.r1 (ev_var rfl) fun _ _ => rfl) fun x G1 g1 ex => ?_) (fun xs H1 h => ?_) fun a xs G1 G2 g1 h e g => ?_) fun v H3 r3 f => q v H3 (r03.trans r3) f
    · subst ex
      refine ma_cons (rec_ g1.r1) fun x G2 g2 f1 => ma_cons (rec_ g2.r1) fun y G3 g3 f2 => ma_nil g3.r1 ⟨x, y, rfl, f1.tex g3.tex, f2⟩
    · obtain ⟨v1, v2, rfl, _⟩ := h
      simp
    · obtain ⟨v1, v2, rfl, ⟨R1, a1, a2, a3⟩, ⟨R2, b1, b2, b3⟩⟩ := h
      exact ⟨.join o R1 R2, .tup g (.cons (.str _) (.cons (dp_ex e _ _ a1) (.cons (dp_ex e _ _ b1) .nil))), ⟨a2, b2⟩, by show max (hgt R1) (hgt R2) + 1 ≤ d + 1; omega⟩
theorem len_law_rule {h : Nat} (vs : List V) (H : Hp) (Q : VK) (E : XK) (hs : sp_law_rule h K vs H Q E) : vs.length = 4 := by
  obtain ⟨l, p, n, d, rfl, _⟩ := hs
  rfl
theorem ok_neverR (T : Top K mg) : Ok1 P w K mg base 1 "_law_rule" ["_law_row", "_law_p", "_law_many", "_law_deep"] spNo := by
  refine T.ok (k := 0) (d := d_law_rule) 43 rfl sc_law_rule (fun _ _ _ _ _ _ us hl => match us, hl with | [_, _, _, _], _ => rfl) (fun vs H Q E h => h.elim) fun cdv A outer s H vs Q E hr h => h.elim
theorem ok_law_rule (T : Top K mg) : ∀ h : Nat, Ok1 P w K mg base (6 + h) "_law_rule" ["_law_row", "_law_p", "_law_many", "_law_deep"] (sp_law_rule h K)
  | 0 => mk_law_rule T (k := 5) (ok_law_taken T) (ok_law_pick T) (ok_law_part T) (OSelf := ok_neverR T) (by decide) (by decide) (by decide) (by decide) len_law_rule (rd_rule fun {l H vs p n d Q E} _ hh => absurd hh (Nat.not_lt_zero _))
  | h + 1 => mk_law_rule T (k := 6 + h) (ok_law_taken T) (ok_law_pick T) (ok_law_part T) (OSelf := ok_law_rule T h) (by omega) (by omega) (by omega) (by omega) len_law_rule (rd_rule fun {l H vs p n d Q E} e hd r hp hn q => ⟨l, p, n, d, e, by omega, r, hp, hn, q⟩)
end
end K10

set_option Elab.async false
set_option linter.all false
set_option maxRecDepth 100000
set_option maxHeartbeats 4000000
/-! K10RdO: the law's values, degrees, sums over rows -/
namespace K10
open PySem PySem.Spec PyProof.Rows L2 Evl LamX K10M
section
variable {P : Program} {w : World} {K : PySem.W.Frag} {mg : Str → Option Value} {base : Heap} {H H' : Hp}

theorem es_catA {σ : L2.St} {ta tb : TE} {xs ys : List V} (ha : EvS K ta σ H xs) (hb : EvS K tb σ H ys) (hz : xs.length + ys.length ≤ 100000) : EvS K (tOp (rCatA K) ta tb) σ H (xs ++ ys) := fun H1 e Q q =>
  ha H1 e _ fun a H2 e2 h2 => hb H2 (e.trans e2) _ fun b H3 e3 h3 => ⟨a, b, xs, ys, rfl, rfl, ex_t e3 h2, h3, sz_of hz, fun z => by
    subst z
    exact q b H3 (e2.trans e3) h3, fun _ z => by
    subst z
    rw [List.append_nil] at q
    exact q a H3 (e2.trans e3) (ex_t e3 h2), fun _ _ p hp => q p _ ((e2.trans e3).trans (Ex.new hp)) (st_of upd_same)⟩
/-- a call whose last argument is a tuple told by what it holds -/
theorem ev_call3S' {σ : L2.St} {ta tb tc : TE} {sp : Sp} {x y z : V} {xs : List V} (a : Ev ta σ H x) (b : Ev tb σ H y) (c : EvS K tc σ H xs) (h : ∀ l H1, Ex H H1 → SqT K H1 l xs → SpV sp [x, y, .ref l] H1 z) : Ev (tCall sp [] E0 (tCons ta (tCons tb (tCons tc tNil)))) σ H z := fun H1 e Q q =>
  a H1 e _ fun H2 e2 => b H2 (e.trans e2) _ fun H3 e3 => c H3 ((e.trans e2).trans e3) _ fun l H4 e4 g => h l H4 (((e.trans e2).trans e3).trans e4) g H4 (Ex.refl H4) Q (fun H5 e5 => q H5 (((e2.trans e3).trans e4).trans e5)) E0
/-! ### values -/
def rk : Rl → Nat
  | .leaf _ => 0
  | .tab _ _ => 1
  | .join _ l r => max (rk l) (rk r) + 1
theorem rk_le : ∀ R, rk R ≤ hgt R + 1
  | .leaf _ => Nat.zero_le _
  | .tab _ _ => Nat.le_refl _
  | .join _ l r => by
    have h1 := rk_le l
    have h2 := rk_le r
    show max (rk l) (rk r) + 1 ≤ (max (hgt l) (hgt r) + 1) + 1
    omega
def sp_law_value (h : Nat) (K : PySem.W.Frag) : Sp := fun vs H Q _ => ∃ (p : Int) (v : V) (b : Addr) (R : Rl) (x : List Int), vs = [.int p, v, .ref b] ∧ 1 < p ∧ p < 4294967296 ∧ Dp K H v (dR R) ∧ SqT K H b (x.map V.int) ∧ InAll p x ∧ RlOk p x.length R ∧ rk R ≤ h ∧ RetV (.int (val p x R)) H Q
theorem sv_law_value {h : Nat} {p : Int} {v : V} {b : Addr} {R : Rl} {x : List Int} (h1 : 1 < p) (h2 : p < 4294967296) (hd : Dp K H v (dR R)) (hb : SqT K H b (x.map V.int)) (hx : InAll p x) (hk : RlOk p x.length R) (hh : rk R ≤ h) : SpV (sp_law_value h K) [.int p, v, .ref b] H (.int (val p x R)) := fun H1 e Q k E =>
  ⟨p, v, b, R, x, rfl, h1, h2, dp_ex e _ _ hd, ex_t e hb, hx, hk, hh, k⟩
theorem rd_law_value {h : Nat} {spSelf : Sp} (ih : ∀ {H : Hp} {p : Int} {v : V} {b : Addr} {R : Rl} {x : List Int}, 1 < p → p < 4294967296 → Dp K H v (dR R) → SqT K H b (x.map V.int) → InAll p x → RlOk p x.length R → rk R < h → SpV spSelf [.int p, v, .ref b] H (.int (val p x R)))
    (vs : List V) (H : Hp) (Q : VK) (E : XK) (hsp : sp_law_value h K vs H Q E) : t_law_value K (sp_law_spread K) spSelf ⟨fun _ H' => Q .non H', Q, fun _ _ => False, fun _ _ => False⟩ (start n_law_value vs) H := by
  obtain ⟨p, v, b, R, x, rfl, h1, h2, hd, hb, hx, hk, hh, k⟩ := hsp
  have hp : 0 < p := by omega
  cases R with
  | leaf q =>
    obtain ⟨a, rfl, hs⟩ := pl_inv hd
    cases q with
    | num c =>
      exact q_when (b := true) (et_is (et_test (e_eqS (e_ixT (ev_var rfl) ev_c hs (atI_nat (j := 0) rfl)) ev_c rfl)) (by decide +kernel)) (fun _ H1 e1 => s_ret (e_ixT (ev_var rfl) ev_c (ex_t e1 hs) (atI_nat (j := 1) rfl)) fun H2 e2 => k H2 (e1.trans e2)) fun z => by cases z
    | nam i =>
      refine q_when (b := false) (et_is (et_test (e_eqS (e_ixT (ev_var rfl) ev_c hs (atI_nat (j := 0) rfl)) ev_c rfl)) (by decide +kernel)) (fun z => by cases z) fun _ H1 e1 => ?_
      have hi : i < x.length := hk
      exact q_when (b := true) (et_is (et_test (e_eqS (e_ixT (ev_var rfl) ev_c (ex_t e1 hs) (atI_nat (j := 0) rfl)) ev_c rfl)) (by decide +kernel)) (fun _ H2 e2 => s_ret (e_ixT (ev_var rfl) (e_ixT (ev_var rfl) ev_c (ex_t (e1.trans e2) hs) (atI_nat (j := 1) rfl)) (ex_t (e1.trans e2) hb) (int_at hi)) fun H3 e3 => k H3 ((e1.trans e2).trans e3)) fun z => by cases z
  | tab t ps =>
    obtain ⟨a, b1, c1, ws, rfl, hs, hb1, hc1, hw⟩ := tab_inv hd
    obtain ⟨k1, k2, k3, k4⟩ := id hk
    have hwl : ws.length = ps.length := by rw [dpa_len hw, List.length_map]
    refine q_when (b := false) (et_is (et_test (e_eqS (e_ixT (ev_var rfl) ev_c hs (atI_nat (j := 0) rfl)) ev_c rfl)) (by decide +kernel)) (fun z => by cases z) fun _ H1 e1 => ?_
    refine q_when (b := false) (et_is (et_test (e_eqS (e_ixT (ev_var rfl) ev_c (ex_t e1 hs) (atI_nat (j := 0) rfl)) ev_c rfl)) (by decide +kernel)) (fun z => by cases z) fun _ H2 e2 => ?_
    refine q_when (b := true) (et_is (et_test (e_eqS (e_ixT (ev_var rfl) ev_c (ex_t (e1.trans e2) hs) (atI_nat (j := 0) rfl)) ev_c rfl)) (by decide +kernel)) (fun _ H3 e3 => ?_) fun z => by cases z
    have e13 := (e1.trans e2).trans e3
    have hs3 := ex_t e13 hs
    have hb3 := ex_t e13 hb1
    have hc3 := ex_t e13 hc1
    have hw3 := dpa_ex e13 _ _ hw
    have hp3 := ex_t e13 hb
    have gl : (ps.map (plv x)).map V.int = (List.range ws.length).map fun m => V.int ((ps.map (plv x)).getD m 0) := by
      rw [ints_range (ps.map (plv x)), List.length_map, hwl]
    have hval : val p x (.tab t ps) = spreadL p t (ps.map (plv x)) := (spread_same hp hk).symm
    rw [hval] at k
    have h4 : 2 ^ ps.length ≤ 2 ^ 2 := Nat.pow_le_pow_right (by decide) k2
    refine s_ret (ev_call3L (xs := (ps.map (plv x)).map V.int) (ev_var rfl) (e_ixT (ev_var rfl) ev_c hs3 (atI_nat (j := 1) rfl)) (by
      rw [gl, ← given_all]
      refine el_lcT _ _ (e_ixT (ev_var rfl) ev_c hs3 (atI_nat (j := 2) rfl)) hc3 (by omega) (fun _ => rfl) (fun _ _ _ _ _ => et_yes) fun m y G eG hm _ => ?_
      obtain ⟨d, g1, g2⟩ := dpa_get hw3 hm
      rw [List.getElem?_map] at g1
      cases hq : ps[m]? with
      | none =>
        rw [hq] at g1
        cases g1
      | some q =>
        rw [hq] at g1
        have ed : dP q = d := Option.some.inj g1
        subst ed
        have ev : (ps.map (plv x)).getD m 0 = val p x (.leaf q) := by
          rw [List.getD_eq_getElem?_getD, List.getElem?_map, hq]
          rfl
        rw [ev]
        exact ev_call (ea_cons (ev_var rfl) (ea_cons (ev_var rfl) (ea_cons (ev_var rfl) ea_nil))) (ih (R := .leaf q) h1 h2 (dp_ex eG _ _ g2) (ex_t eG hp3) hx (k4 q (List.mem_of_getElem? hq)) (by show 0 < h; have : 1 ≤ h := hh; omega))) fun l G eG gl => sv_law_spread (ex_t eG hb3) (sq_of gl) k3 (by omega) (by rw [List.length_map]; omega) h1 h2) fun H4 e4 => k H4 (e13.trans e4)
  | join o r1 r2 =>
    obtain ⟨a, v1, v2, rfl, hs, hd1, hd2⟩ := join_inv hd
    have hh : max (rk r1) (rk r2) + 1 ≤ h := hh
    have hh1 : rk r1 < h := by omega
    have hh2 : rk r2 < h := by omega
    refine q_when (b := false) (et_is (et_test (e_eqS (e_ixT (ev_var rfl) ev_c hs (atI_nat (j := 0) rfl)) ev_c rfl)) (by cases o <;> decide +kernel)) (fun z => by cases z) fun _ H1 e1 => ?_
    refine q_when (b := false) (et_is (et_test (e_eqS (e_ixT (ev_var rfl) ev_c (ex_t e1 hs) (atI_nat (j := 0) rfl)) ev_c rfl)) (by cases o <;> decide +kernel)) (fun z => by cases z) fun _ H2 e2 => ?_
    refine q_when (b := false) (et_is (et_test (e_eqS (e_ixT (ev_var rfl) ev_c (ex_t (e1.trans e2) hs) (atI_nat (j := 0) rfl)) ev_c rfl)) (by cases o <;> decide +kernel)) (fun z => by cases z) fun _ H3 e3 => ?_
    have e13 := (e1.trans e2).trans e3
    have hs3 := ex_t e13 hs
    have hp3 := ex_t e13 hb
    refine q_par (ea_cons (ev_call (ea_cons (ev_var rfl) (ea_cons (e_ixT (ev_var rfl) ev_c hs3 (atI_nat (j := 1) rfl)) (ea_cons (ev_var rfl) ea_nil))) (ih h1 h2 (dp_ex e13 _ _ hd1) hp3 hx hk.1 hh1)) (ea_cons (ev_call (ea_cons (ev_var rfl) (ea_cons (e_ixT (ev_var rfl) ev_c hs3 (atI_nat (j := 2) rfl)) (ea_cons (ev_var rfl) ea_nil))) (ih h1 h2 (dp_ex e13 _ _ hd2) hp3 hx hk.2 hh2)) ea_nil)) fun H4 e4 => ?_
    have e14 := e13.trans e4
    have hs4 := ex_t e14 hs
    have i1 := val_in hp hx r1 hk.1
    cases o with
    | times => exact s_ret (e_mod (ev_if (b := false) (et_is (et_test (e_eqS (e_ixT (ev_var rfl) ev_c hs4 (atI_nat (j := 0) rfl)) ev_c rfl)) (by decide +kernel)) (fun z => by cases z) fun _ => ev_if (b := false) (et_is (et_test (e_eqS (e_ixT (ev_var rfl) ev_c hs4 (atI_nat (j := 0) rfl)) ev_c rfl)) (by decide +kernel)) (fun z => by cases z) fun _ => e_mul (ev_var rfl) (ev_var rfl) (mul_ok i1 h2)) (ev_var rfl) hp) fun H5 e5 => k H5 (e14.trans e5)
    | plus => exact s_ret (e_mod (ev_if (b := true) (et_is (et_test (e_eqS (e_ixT (ev_var rfl) ev_c hs4 (atI_nat (j := 0) rfl)) ev_c rfl)) (by decide +kernel)) (fun _ => e_add (ev_var rfl) (ev_var rfl)) fun z => by cases z) (ev_var rfl) hp) fun H5 e5 => k H5 (e14.trans e5)
    | minus => exact s_ret (e_mod (ev_if (b := false) (et_is (et_test (e_eqS (e_ixT (ev_var rfl) ev_c hs4 (atI_nat (j := 0) rfl)) ev_c rfl)) (by decide +kernel)) (fun z => by cases z) fun _ => ev_if (b := true) (et_is (et_test (e_eqS (e_ixT (ev_var rfl) ev_c hs4 (atI_nat (j := 0) rfl)) ev_c rfl)) (by decide +kernel)) (fun _ => e_sub (ev_var rfl) (ev_var rfl)) fun z => by cases z) (ev_var rfl) hp) fun H5 e5 => k H5 (e14.trans e5)
theorem ok_neverV (T : Top K mg) : Ok1 P w K mg base 1 "_law_value" ["_law_p", "_law_rule_here", "_law_point"] spNo := by
  refine T.ok (k := 0) (d := d_law_value) 44 rfl sc_law_value (fun _ _ _ _ _ _ us hl => match us, hl with | [_, _, _], _ => rfl) (fun vs H Q E h => h.elim) fun cdv A outer s H vs Q E hr h => h.elim
theorem len_law_value {h : Nat} (vs : List V) (H : Hp) (Q : VK) (E : XK) (hs : sp_law_value h K vs H Q E) : vs.length = 3 := by
  obtain ⟨p, v, b, R, x, rfl, _⟩ := hs
  rfl
theorem ok_law_value (T : Top K mg) : ∀ h : Nat, Ok1 P w K mg base (3 + h) "_law_value" ["_law_p", "_law_rule_here", "_law_point"] (sp_law_value h K)
  | 0 => mk_law_value T (k := 2) (ok_law_spread T) (OSelf := ok_neverV T) (by decide) (by decide) len_law_value (rd_law_value fun {H p v b R x} _ _ _ _ _ _ hh => absurd hh (Nat.not_lt_zero _))
  | h + 1 => mk_law_value T (k := 3 + h) (ok_law_spread T) (OSelf := ok_law_value T h) (by omega) (by omega) len_law_value (rd_law_value fun {H p v b R x} h1 h2 hd hb hx hk hh => sv_law_value h1 h2 hd hb hx hk (by omega))
/-! ### degrees -/
def sp_law_degree (h : Nat) (K : PySem.W.Frag) : Sp := fun vs H Q _ => ∃ (v : V) (R : Rl) (p : Int) (n i : Nat), vs = [v, .int (i : Int)] ∧ Dp K H v (dR R) ∧ RlOk p n R ∧ hgt R ≤ h ∧ RetV (.int ((dg i R : Nat) : Int)) H Q
theorem sv_law_degree {h : Nat} {v : V} {R : Rl} {p : Int} {n i : Nat} (hd : Dp K H v (dR R)) (hk : RlOk p n R) (hh : hgt R ≤ h) : SpV (sp_law_degree h K) [v, .int (i : Int)] H (.int ((dg i R : Nat) : Int)) := fun H1 e Q k E => ⟨v, R, p, n, i, rfl, dp_ex e _ _ hd, hk, hh, k⟩
theorem pdg_int (i : Nat) (q : Pl) : (if isNam i q then (1 : Int) else 0) = ((pdg i q : Nat) : Int) := by
  rw [pdg_isNam]
  cases isNam i q <;> rfl
theorem sum_cast : ∀ l : List Nat, (l.map fun (n : Nat) => (n : Int)).sum = ((l.sum : Nat) : Int)
  | [] => rfl
  | n :: l => by
    rw [List.map_cons, List.sum_cons, List.sum_cons, sum_cast l]
    omega
theorem rd_law_degree {h : Nat} {spSelf : Sp} (ih : ∀ {H : Hp} {v : V} {R : Rl} {p : Int} {n i : Nat}, Dp K H v (dR R) → RlOk p n R → hgt R < h → SpV spSelf [v, .int (i : Int)] H (.int ((dg i R : Nat) : Int)))
    (vs : List V) (H : Hp) (Q : VK) (E : XK) (hsp : sp_law_degree h K vs H Q E) : t_law_degree K spSelf ⟨fun _ H' => Q .non H', Q, fun _ _ => False, fun _ _ => False⟩ (start n_law_degree vs) H := by
  obtain ⟨v, R, p, n, i, rfl, hd, hk, hh, k⟩ := hsp
  cases R with
  | leaf q =>
    obtain ⟨a, rfl, hs⟩ := pl_inv hd
    obtain ⟨z, hz, hj⟩ : ∃ z : Str, (plS q)[0]? = some (.str z) ∧ inV (.str z) [.str "number", .str "name"] = true := by
      cases q with
      | num c => exact ⟨"number", rfl, by decide +kernel⟩
      | nam i => exact ⟨"name", rfl, by decide +kernel⟩
    refine q_when (b := true) (et_is (et_test (e_inU (e_ixT (ev_var rfl) ev_c hs (atI_nat (j := 0) hz)) (eu_tup (ea_cons ev_c (ea_cons ev_c ea_nil)) (by simp)) rfl rfl)) hj) (fun _ H1 e1 => ?_) fun z => by cases z
    refine s_ret (ev_is (e_intB (e_eqDU (ev_var rfl) (eu_tup (ea_cons ev_c (ea_cons (ev_var rfl) ea_nil)) (by simp)) (dp_ex e1 _ _ hd) (.cons (.str _) (.cons (.int _) .nil)) (sh_P q) (sh_P (.nam i)))) ?_) fun H2 e2 => k H2 (e1.trans e2)
    show V.int (if PyData.eqv (dP q) (.tuple [.str "name", .int (i : Int)]) = true then 1 else 0) = _
    rw [eqv_P]
    exact congrArg V.int (pdg_int i q)
  | tab t ps =>
    obtain ⟨a, b1, c1, ws, rfl, hs, hb1, hc1, hw⟩ := tab_inv hd
    obtain ⟨k1, k2, k3, k4⟩ := hk
    have hwl : ws.length = ps.length := by rw [dpa_len hw, List.length_map]
    refine q_when (b := false) (et_is (et_test (e_inU (e_ixT (ev_var rfl) ev_c hs (atI_nat (j := 0) rfl)) (eu_tup (ea_cons ev_c (ea_cons ev_c ea_nil)) (by simp)) rfl rfl)) (by decide +kernel)) (fun z => by cases z) fun _ H1 e1 => ?_
    refine q_when (b := true) (et_is (et_test (e_eqS (e_ixT (ev_var rfl) ev_c (ex_t e1 hs) (atI_nat (j := 0) rfl)) ev_c rfl)) (by decide +kernel)) (fun _ H2 e2 => ?_) fun z => by cases z
    have e12 := e1.trans e2
    have hs2 := ex_t e12 hs
    have hw2 := dpa_ex e12 _ _ hw
    have es : ((ps.map fun q => ((pdg i q : Nat) : Int))).sum = ((dg i (.tab t ps) : Nat) : Int) := by
      have := sum_cast (ps.map (pdg i))
      rw [List.map_map] at this
      exact this
    rw [← es] at k
    refine s_ret (e_sum ?_) fun H3 e3 => k H3 (e12.trans e3)
    have gl : (ps.map fun q => ((pdg i q : Nat) : Int)).map V.int = (List.range ws.length).map fun m => V.int ((ps.map fun q => ((pdg i q : Nat) : Int)).getD m 0) := by
      rw [ints_range, List.length_map, hwl]
    rw [gl, ← given_all]
    refine el_lcT _ _ (e_ixT (ev_var rfl) ev_c hs2 (atI_nat (j := 2) rfl)) (ex_t e12 hc1) (by omega) (fun _ => rfl) (fun _ _ _ _ _ => et_yes) fun m y G eG hm _ => ?_
    obtain ⟨d, g1, g2⟩ := dpa_get hw2 hm
    rw [List.getElem?_map] at g1
    cases hq : ps[m]? with
    | none =>
      rw [hq] at g1
      cases g1
    | some q =>
      rw [hq] at g1
      have ed : dP q = d := Option.some.inj g1
      subst ed
      have ev : (ps.map fun q => ((pdg i q : Nat) : Int)).getD m 0 = ((pdg i q : Nat) : Int) := by
        rw [List.getD_eq_getElem?_getD, List.getElem?_map, hq]
        rfl
      rw [ev, ← pdg_int, ← eqv_P]
      exact e_intB (e_eqDU (ev_var rfl) (eu_tup (ea_cons ev_c (ea_cons (ev_var rfl) ea_nil)) (by simp)) (dp_ex eG _ _ g2) (.cons (.str _) (.cons (.int _) .nil)) (sh_P q) (sh_P (.nam i)))
  | join o r1 r2 =>
    obtain ⟨a, v1, v2, rfl, hs, hd1, hd2⟩ := join_inv hd
    have hh : max (hgt r1) (hgt r2) + 1 ≤ h := hh
    have hh1 : hgt r1 < h := by omega
    have hh2 : hgt r2 < h := by omega
    refine q_when (b := false) (et_is (et_test (e_inU (e_ixT (ev_var rfl) ev_c hs (atI_nat (j := 0) rfl)) (eu_tup (ea_cons ev_c (ea_cons ev_c ea_nil)) (by simp)) rfl rfl)) (by cases o <;> decide +kernel)) (fun z => by cases z) fun _ H1 e1 => ?_
    refine q_when (b := false) (et_is (et_test (e_eqS (e_ixT (ev_var rfl) ev_c (ex_t e1 hs) (atI_nat (j := 0) rfl)) ev_c rfl)) (by cases o <;> decide +kernel)) (fun z => by cases z) fun _ H2 e2 => ?_
    have e12 := e1.trans e2
    have hs2 := ex_t e12 hs
    refine q_par (ea_cons (ev_call (ea_cons (e_ixT (ev_var rfl) ev_c hs2 (atI_nat (j := 1) rfl)) (ea_cons (ev_var rfl) ea_nil)) (ih (dp_ex e12 _ _ hd1) hk.1 hh1)) (ea_cons (ev_call (ea_cons (e_ixT (ev_var rfl) ev_c hs2 (atI_nat (j := 2) rfl)) (ea_cons (ev_var rfl) ea_nil)) (ih (dp_ex e12 _ _ hd2) hk.2 hh2)) ea_nil)) fun H3 e3 => ?_
    have e13 := e12.trans e3
    have hs3 := ex_t e13 hs
    cases o with
    | times => exact s_ret (ev_if (b := true) (et_is (et_test (e_eqS (e_ixT (ev_var rfl) ev_c hs3 (atI_nat (j := 0) rfl)) ev_c rfl)) (by decide +kernel)) (fun _ => ev_is (e_add (ev_var rfl) (ev_var rfl)) (congrArg V.int (Int.natCast_add _ _).symm)) fun z => by cases z) fun H5 e5 => k H5 (e13.trans e5)
    | plus => exact s_ret (ev_if (b := false) (et_is (et_test (e_eqS (e_ixT (ev_var rfl) ev_c hs3 (atI_nat (j := 0) rfl)) ev_c rfl)) (by decide +kernel)) (fun z => by cases z) fun _ => ev_is (e_max (ev_var rfl) (ev_var rfl)) (congrArg V.int (max_int _ _))) fun H5 e5 => k H5 (e13.trans e5)
    | minus => exact s_ret (ev_if (b := false) (et_is (et_test (e_eqS (e_ixT (ev_var rfl) ev_c hs3 (atI_nat (j := 0) rfl)) ev_c rfl)) (by decide +kernel)) (fun z => by cases z) fun _ => ev_is (e_max (ev_var rfl) (ev_var rfl)) (congrArg V.int (max_int _ _))) fun H5 e5 => k H5 (e13.trans e5)
theorem ok_neverD (T : Top K mg) : Ok1 P w K mg base 1 "_law_degree" ["_law_rule_here", "_law_name"] spNo := by
  refine T.ok (k := 0) (d := d_law_degree) 45 rfl sc_law_degree (fun _ _ _ _ _ _ us hl => match us, hl with | [_, _], _ => rfl) (fun vs H Q E h => h.elim) fun cdv A outer s H vs Q E hr h => h.elim
theorem len_law_degree {h : Nat} (vs : List V) (H : Hp) (Q : VK) (E : XK) (hs : sp_law_degree h K vs H Q E) : vs.length = 2 := by
  obtain ⟨v, R, p, n, i, rfl, _⟩ := hs
  rfl
theorem ok_law_degree (T : Top K mg) : ∀ h : Nat, Ok1 P w K mg base (2 + h) "_law_degree" ["_law_rule_here", "_law_name"] (sp_law_degree h K)
  | 0 => mk_law_degree T (k := 1) (OSelf := ok_neverD T) (by decide) len_law_degree (rd_law_degree fun {H v R p n i} _ _ hh => absurd hh (Nat.not_lt_zero _))
  | h + 1 => mk_law_degree T (k := 2 + h) (OSelf := ok_law_degree T h) (by omega) len_law_degree (rd_law_degree fun {H v R p n i} hd hk hh => sv_law_degree hd hk (by omega))
/-- a new list -/
def RetL (xs : List V) (H : Hp) (Q : VK) : Prop := ∀ l H2, H l = none → Ex H H2 → H2 l = some (.lst xs) → Q (.ref l) H2
def SpL (sp : Sp) (vs : List V) (H : Hp) (xs : List V) : Prop := ∀ H1, Ex H H1 → ∀ Q : VK, RetL xs H1 Q → ∀ E : XK, sp vs H1 Q E
theorem el_call {σ : L2.St} {sp : Sp} {vs xs : List V} {ta : TA} (h : EvA ta σ H vs) (hs : SpL sp vs H xs) : EvL (tCall sp [] E0 ta) σ H xs := fun H1 e Q q => h H1 e (fun vs H1 => sp (vs ++ []) H1 Q E0) fun H2 e2 => by
  rw [List.append_nil]
  exact hs H2 (e.trans e2) Q (fun l H3 hl e3 g => q l H3 (fresh_back e2 hl) (e2.trans e3) g) E0
theorem s_retL {σ : L2.St} {te : TE} {D : Ends} {xs : List V} (h : EvL te σ H xs) (k : RetL xs H D.rt) : tRet te D σ H := h H (Ex.refl H) _ k
def sp_law_degrees (K : PySem.W.Frag) : Sp := fun vs H Q _ => ∃ (v : V) (R : Rl) (p : Int) (n : Nat), vs = [.int (n : Int), v] ∧ Dp K H v (dR R) ∧ RlOk p n R ∧ hgt R ≤ 3 ∧ n ≤ 100 ∧ RetL (dgV n R) H Q
theorem ok_law_degrees (T : Top K mg) : Ok1 P w K mg base 6 "_law_degrees" ["_law_many", "_law_rule_here"] (sp_law_degrees K) := by
  refine mk_law_degrees T (ok_law_degree T 3) (by decide) (fun vs H Q E h => ?_) fun vs H Q E h => ?_
  · obtain ⟨v, R, p, n, rfl, _⟩ := h
    rfl
  obtain ⟨v, R, p, n, rfl, hd, hk, hh, hn, k⟩ := h
  exact s_retL (el_mapR (n := (n : Int)) (fun i => V.int ((dg i R : Nat) : Int)) (ea_cons (ev_var rfl) ea_nil) (by omega) (fun _ => rfl) fun m G eG hm => ev_call (ea_cons (ev_var rfl) (ea_cons (ev_var rfl) ea_nil)) (sv_law_degree (dp_ex eG _ _ hd) hk hh)) k
theorem sl_law_degrees {v : V} {R : Rl} {p : Int} {n : Nat} (hd : Dp K H v (dR R)) (hk : RlOk p n R) (hh : hgt R ≤ 3) (hn : n ≤ 100) : SpL (sp_law_degrees K) [.int (n : Int), v] H (dgV n R) := fun H1 e Q q E => ⟨v, R, p, n, rfl, dp_ex e _ _ hd, hk, hh, hn, q⟩
/-! ### sums over rows -/
def sp_law_total (K : PySem.W.Frag) : Sp := fun vs H Q _ => ∃ (p : Int) (n : Nat) (v : V) (R : Rl) (b : Addr) (x : List Int), vs = [.int p, .int (n : Int), v, .ref b] ∧ 1 < p ∧ p < 4294967296 ∧ Dp K H v (dR R) ∧ RlOk p n R ∧ hgt R ≤ 3 ∧ SqT K H b (x.map V.int) ∧ InAll p x ∧ x.length ≤ n ∧ n ≤ 3 ∧ RetV (.int (total p n R x)) H Q
theorem ok_law_total (T : Top K mg) : Ok1 P w K mg base 8 "_law_total" ["_law_p", "_law_many", "_law_rule_here", "_law_ahead"] (sp_law_total K) := by
  refine mk_law_total T (ok_law_bits T) (ok_law_value T 4) (by decide) (by decide) (fun vs H Q E h => ?_) fun vs H Q E h => ?_
  · obtain ⟨p, n, v, R, b, x, rfl, _⟩ := h
    rfl
  obtain ⟨p, n, v, R, b, x, rfl, hp, hp2, hd, hk, hh, hb, hx, hxl, hn, q⟩ := h
  refine q_asg (e_sub (ev_var rfl) (e_len (ev_var rfl) (.inr hb))) fun H1 e1 => ?_
  have er : (n : Int) - ((x.map V.int).length : Int) = ((n - x.length : Nat) : Int) := by
    rw [List.length_map]
    omega
  rw [er]
  have h8 : 2 ^ (n - x.length) ≤ 2 ^ 3 := Nat.pow_le_pow_right (by decide) (by omega)
  have hle : ((2 ^ (n - x.length) : Nat) : Int) ≤ 40000 := Int.le_trans (Int.ofNat_le.mpr h8) (by decide)
  refine s_ret (e_mod (e_sum (ns := (List.range (2 ^ (n - x.length))).map fun k => val p (x ++ K10M.bits (n - x.length) k) R) ?_) (ev_var rfl) (by omega)) fun H2 e2 => q H2 (e1.trans e2)
  rw [List.map_map]
  have hs : ∀ {G : Hp} {y : Option V}, Ev (tOp rShlI (tC (.int 1)) (tVar 4)) [some (.int p), some (.int (n : Int)), some v, some (.ref b), some (.int ((n - x.length : Nat) : Int)), y] G (.int ((2 ^ (n - x.length) : Nat) : Int)) := fun {G y} => ev_is (e_shl ev_c (ev_var rfl) ⟨by omega, by omega, by decide⟩) (by rw [Int.toNat_natCast, Int.one_mul]; norm_cast)
  refine el_mapR (n := ((2 ^ (n - x.length) : Nat) : Int)) (fun k => V.int (val p (x ++ K10M.bits (n - x.length) k) R)) (ea_cons hs ea_nil) ⟨Int.natCast_nonneg _, hle⟩ (fun _ => rfl) fun k G eG hk2 => ?_
  have e1G := e1.trans eG
  have hlen : (x ++ K10M.bits (n - x.length) k).length = n := by
    rw [List.length_append, K10M.bits_len]
    omega
  refine ev_call3S' (xs := (x ++ K10M.bits (n - x.length) k).map V.int) (ev_var rfl) (ev_var rfl) ?_ fun l G2 e2 hl => sv_law_value hp hp2 (dp_ex (e1G.trans e2) _ _ hd) hl (fun c hc => ?_) (by rw [hlen]; exact hk) (by have := rk_le R; omega)
  · rw [List.map_append]
    exact es_catA (es_of (ev_var rfl) (ex_t e1G hb)) (es_call (ea_cons (ev_var rfl) (ea_cons (ev_var rfl) ea_nil)) (ss_law_bits (by omega))) (by rw [List.length_map, List.length_map, K10M.bits_len]; omega)
  · rcases List.mem_append.mp hc with hc | hc
    · exact hx c hc
    · exact K10M.bits_in hp _ _ c hc
theorem sv_law_total {p : Int} {n : Nat} {v : V} {R : Rl} {b : Addr} {x : List Int} (hp : 1 < p) (hp2 : p < 4294967296) (hd : Dp K H v (dR R)) (hk : RlOk p n R) (hh : hgt R ≤ 3) (hb : SqT K H b (x.map V.int)) (hx : InAll p x) (hxl : x.length ≤ n) (hn : n ≤ 3) : SpV (sp_law_total K) [.int p, .int (n : Int), v, .ref b] H (.int (total p n R x)) :=
  fun H1 e Q q E => ⟨p, n, v, R, b, x, rfl, hp, hp2, dp_ex e _ _ hd, hk, hh, ex_t e hb, hx, hxl, hn, q⟩
end
end K10

set_option Elab.async false
set_option linter.all false
set_option maxRecDepth 100000
set_option maxHeartbeats 4000000
/-! K10RdP: lines through values, plain lines -/
namespace K10
open PySem PySem.Spec PyProof.Rows L2 Evl LamX K10M
section
variable {P : Program} {w : World} {K : PySem.W.Frag} {mg : Str → Option Value} {base : Heap} {H H' : Hp}

/-- a loop over enumerate(a list) -/
theorem q_forEn {σ : L2.St} {ta : TE} {tu tz : TS} {D : Ends} {i j : Nat} {a : Addr} {xs : List V} (ha : Ev ta σ H (.ref a)) (hx : SqL K H a xs) (Pv : Nat → L2.St → Hp → Prop) (hk : ∀ m σ' G, Pv m σ' G → Ex H G) (h0 : ∀ H1, Ex H H1 → Pv 0 σ H1)
    (hs : ∀ (m : Nat) (x : V) σ' G G', xs[m]? = some x → Pv m σ' G → Ex G G' → tu { D with nx := Pv (m + 1), ct := Pv (m + 1), bk := tz D } ((σ'.set i (some (.int (m : Int)))).set j (some x)) G') (hd : ∀ σ' G, Pv xs.length σ' G → tz D σ' G) :
    tSeq (tFor (iEnum K (tCons ta tNil)) (gTup K 2 (gCons (gName i) (gCons (gName j) gNil))) tu) tz D σ H :=
  ha H (Ex.refl H) _ fun H1 e1 => by
    refine ⟨a, xs, rfl, ex_l e1 hx, fun m n σ' G => n = xs.length - m ∧ m ≤ xs.length ∧ Pv m σ' G, ⟨xs.length, rfl, Nat.zero_le _, h0 H1 e1⟩, ?_⟩
    rintro m n σ' G ⟨rfl, hm, hp⟩
    have sx := ex_l (hk m σ' G hp) hx
    by_cases hlt : m < xs.length
    · refine .inr ⟨⟨xs, _, sx, List.getElem?_eq_getElem hlt⟩, Pv (m + 1), fun σ2 G2 z => ⟨xs.length - (m + 1), by omega, rfl, hlt, z⟩, fun v G' hv => ?_⟩
      obtain ⟨t, x, rfl, ht, rfl, f1⟩ := hv
      exact ⟨t, [.int (m : Int), x], rfl, st_of upd_same, rfl, .int (m : Int), [x], rfl, x, [], rfl, rfl, hs m x σ' G _ (f1 xs sx) hp (Ex.new ht)⟩
    · have em : m = xs.length := by omega
      subst em
      exact .inl ⟨⟨xs, sx, Nat.le_refl _⟩, hd σ' G hp⟩
/-- a, b = [..], e -/
theorem q_asgLI {σ : L2.St} {ta tb : TE} {tz : TS} {D : Ends} {i j : Nat} {xs : List V} {y : V} (ha : EvL ta σ H xs) (hb : Ev tb σ H y) (k : ∀ l H2, Ex H H2 → H2 l = some (.lst xs) → tz D ((σ.set i (some (.ref l))).set j (some y)) H2) :
    tSeq (tAsg (tTup (tCons ta (tCons tb tNil))) (gTup K 2 (gCons (gName i) (gCons (gName j) gNil)))) tz D σ H :=
  ha H (Ex.refl H) _ fun l H1 _ e1 hl => hb H1 e1 _ fun H2 e2 => ⟨sz_of (by simp), fun t ht => by
    have e3 : Ex H2 (upd H2 t (.tup [.ref l, y])) := Ex.new ht
    exact ⟨t, [.ref l, y], rfl, st_of upd_same, rfl, .ref l, [y], rfl, y, [], rfl, rfl, k l _ ((e1.trans e2).trans e3) ((e2.trans e3) _ _ hl)⟩⟩
/-- a, b = [..], [..] -/
theorem q_asgLL {σ : L2.St} {ta tb : TE} {tz : TS} {D : Ends} {i j : Nat} {xs ys : List V} (ha : EvL ta σ H xs) (hb : EvL tb σ H ys) (k : ∀ l m H2, Ex H H2 → H2 l = some (.lst xs) → H2 m = some (.lst ys) → tz D ((σ.set i (some (.ref l))).set j (some (.ref m))) H2) :
    tSeq (tAsg (tTup (tCons ta (tCons tb tNil))) (gTup K 2 (gCons (gName i) (gCons (gName j) gNil)))) tz D σ H :=
  ha H (Ex.refl H) _ fun l H1 _ e1 hl => hb H1 e1 _ fun m H2 _ e2 hm => ⟨sz_of (by simp), fun t ht => by
    have e3 : Ex H2 (upd H2 t (.tup [.ref l, .ref m])) := Ex.new ht
    exact ⟨t, [.ref l, .ref m], rfl, st_of upd_same, rfl, .ref l, [.ref m], rfl, .ref m, [], rfl, rfl, k l m _ ((e1.trans e2).trans e3) ((e2.trans e3) _ _ hl) (e3 _ _ hm)⟩⟩
theorem flat0 : ∀ n : Nat, (List.replicate n [V.int 0]).flatten = (List.replicate n (0 : Int)).map V.int
  | 0 => rfl
  | n + 1 => by
    rw [List.replicate_succ, List.replicate_succ, List.flatten_cons, flat0 n]
    rfl
theorem el_rep0 {σ : L2.St} {tb : TE} {n : Nat} (hb : Ev tb σ H (.int (n : Int))) (hn : n ≤ 100000) : EvL (tOp rRep (tLst (tCons (tC (.int 0)) tNil)) tb) σ H ((List.replicate n (0 : Int)).map V.int) := fun H1 e Q q =>
  (el_lst (σ := σ) (ea_cons (ev_c (v := .int 0)) ea_nil) (by simp)) H1 (Ex.refl H1) _ fun l H2 _ e2 hl => hb H2 (e.trans e2) _ fun H3 e3 => ⟨l, (n : Int), [.int 0], rfl, rfl, e3 _ _ hl, by omega, by omega, by
    show [V.int 0].length * ((n : Int)).toNat ≤ sizeLine
    rw [List.length_singleton, Nat.one_mul, Int.toNat_natCast]
    exact sz_of hn, fun p hp => q p _ (fresh_back (e2.trans e3) hp) ((e2.trans e3).trans (Ex.new hp)) (by
    rw [Int.toNat_natCast]
    rw [flat0]
    exact upd_same)⟩
/-- one more factor of a line -/
theorem el_step {σ : L2.St} {ip il kk : Nat} {p place : Int} {pl : Addr} {part : List Int} (h0 : ∀ k : Int, ((wipe σ [kk]).set kk (some (.int k)))[0]? = some (some (.int p))) (hi : ∀ k : Int, ((wipe σ [kk]).set kk (some (.int k)))[ip]? = some (some (.ref pl))) (hl : ∀ k : Int, ((wipe σ [kk]).set kk (some (.int k)))[il]? = some (some (.int place)))
    (hk : ∀ k : Int, ((wipe σ [kk]).set kk (some (.int k)))[kk]? = some (some (.int k))) (hσ : σ[ip]? = some (some (.ref pl))) (hw : ∀ x, wipe ((wipe σ [kk]).set kk (some x)) [kk] = wipe σ [kk]) (hs : SqL K H pl (part.map V.int)) (hz : part.length ≤ 1000) (hp : 0 < p) (hpl : 0 ≤ place ∧ place < 4294967296) :
    EvL (tLc (iRng1 (tCons (tOp rAddI (tCB (rLenQ K) (tCons (tVar ip) tNil)) (tC (.int 1))) tNil)) (gName kk) tYes (tOp rModI (tOp rSubI (tIf (tB (tGt (tVar kk) (tC (.int 0)))) (tOp (rIx K) (tVar ip) (tOp rSubI (tVar kk) (tC (.int 1)))) (tC (.int 0))) (tOp rMulI (tVar il) (tIf (tB (tLt (tVar kk) (tCB (rLenQ K) (tCons (tVar ip) tNil)))) (tOp (rIx K) (tVar ip) (tVar kk)) (tC (.int 0))))) (tVar 0)) [kk]) σ H ((stepPart p place part).map V.int) := by
  have hlen : ((part.map V.int).length : Int) = (part.length : Int) := by rw [List.length_map]
  have g : (stepPart p place part).map V.int = (List.range (((part.map V.int).length : Int) + 1).toNat).map fun (m : Nat) => V.int (((if (m : Int) > 0 then part.getD (m - 1) 0 else 0) - place * (if m < part.length then part.getD m 0 else 0)) % p) := by
    unfold stepPart
    rw [List.map_map, hlen, show ((part.length : Int) + 1).toNat = part.length + 1 by omega]
    rfl
  rw [g]
  refine el_mapR (fun (m : Nat) => V.int (((if (m : Int) > 0 then part.getD (m - 1) 0 else 0) - place * (if m < part.length then part.getD m 0 else 0)) % p)) (ea_cons (e_add (e_len (ev_var hσ) (.inl hs)) ev_c) ea_nil) (by omega) hw fun m G eG hm => ?_
  rw [hlen] at hm
  have hsG := ex_l eG hs
  refine e_mod (e_sub (ev_if (v := .int (if (m : Int) > 0 then part.getD (m - 1) 0 else 0)) (b := decide ((m : Int) > 0)) (et_B (e_cmp (ev_var (hk _)) ev_c)) (fun hz => ?_) fun hz => ?_) (e_mul (ev_var (hl _)) (ev_if (v := .int (if m < part.length then part.getD m 0 else 0)) (b := decide (m < part.length)) (et_is (et_B (e_cmp (ev_var (hk _)) (e_len (ev_var (hi _)) (.inl hsG)))) (by rw [hlen, decide_eq_decide]; omega)) (fun hz => ?_) fun hz => ?_) (.inl ⟨by omega, by omega⟩))) (ev_var (h0 _)) hp
  · have h1 : (m : Int) > 0 := of_decide_eq_true hz
    rw [if_pos h1]
    have a1 := int_at (l := part) (m := m - 1) (by omega)
    rw [show ((m - 1 : Nat) : Int) = (m : Int) - 1 by omega] at a1
    exact e_ixL (ev_var (hi _)) (e_sub (ev_var (hk _)) ev_c) hsG a1
  · rw [if_neg (of_decide_eq_false hz)]
    exact ev_c
  · have h1 : m < part.length := of_decide_eq_true hz
    rw [if_pos h1]
    exact e_ixL (ev_var (hi _)) (ev_var (hk _)) hsG (int_at h1)
  · rw [if_neg (of_decide_eq_false hz)]
    exact ev_c
/-! ### through -/
def sp_law_through (K : PySem.W.Frag) : Sp := fun vs H Q _ => ∃ (p : Int) (a : Addr) (vals : List Int), vs = [.int p, .ref a] ∧ SqL K H a (vals.map V.int) ∧ 1 < p ∧ p < 4294967296 ∧ vals.length ≤ 100 ∧ RetS K ((through p vals).map V.int) H Q
theorem inv_in {p : Int} (hp : 1 < p) (b : Int) : 0 ≤ inv p b ∧ inv p b < p := powm_in (by omega) _ _ _ _ (by omega) hp
theorem bas_snd {p : Int} (hp : 1 < p) (k : Nat) : ∀ m, 0 ≤ (bas p k m).2 ∧ (bas p k m).2 < p
  | 0 => ⟨show (0 : Int) ≤ 1 by decide, hp⟩
  | m + 1 => by
    unfold bas
    split
    · exact mod_in (by omega) _
    · exact bas_snd hp k m
theorem mulR {i j p : Int} (h : 0 ≤ j ∧ j < p) (hp : p < 4294967296) : CMul i j := .inr ⟨by omega, by omega⟩
theorem ok_law_through (T : Top K mg) : Ok1 P w K mg base 2 "_law_through" ["_law_p", "_law_values"] (sp_law_through K) := by
  refine mk_law_through T (ok_law_cut T) (ok_law_inverse T) (by decide) (by decide) (fun vs H Q E h => ?_) fun vs H Q E h => ?_
  · obtain ⟨p, a, vals, rfl, _⟩ := h
    rfl
  obtain ⟨p, a, vals, rfl, hs, hp, hp2, hn, q⟩ := h
  have hp0 : 0 < p := by omega
  have hlen : ((vals.map V.int).length : Int) = (vals.length : Int) := by rw [List.length_map]
  refine q_asgL (el_rep0 (n := vals.length) (ev_is (e_len (ev_var rfl) (.inl hs)) (by rw [hlen])) (by omega)) fun f0 H1 _ e1 hf0 => ?_
  let Pv : Nat → L2.St → Hp → Prop := fun m σ G => ∃ (fl : Addr) (y3 y4 y5 y6 y7 y8 y9 : Option V), σ = [some (.int p), some (.ref a), some (.ref fl), y3, y4, y5, y6, y7, y8, y9] ∧ G fl = some (.lst ((thr p vals vals.length m).map V.int)) ∧ Ex H1 G
  refine q_forEn (ev_var rfl) (ex_l e1 hs) Pv (fun m σ' G h => by
    obtain ⟨fl, y3, y4, y5, y6, y7, y8, y9, _, _, h⟩ := h
    exact h) (fun H2 e2 => ⟨f0, none, none, none, none, none, none, none, rfl, e2 _ _ hf0, e2⟩) (fun m x σ' G G' hx hP eG => ?_) fun σ' G hP => ?_
  · obtain ⟨fl, y3, y4, y5, y6, y7, y8, y9, rfl, hfl, e2⟩ := hP
    have hm : m < vals.length := by
      have := (List.getElem?_eq_some_iff.mp hx).1
      rwa [List.length_map] at this
    have hxv : x = .int (vals.getD m 0) := by
      have h1 := int_at (l := vals) hm
      have h2 : atI (vals.map V.int) (m : Int) = some x := atI_nat hx
      rw [h1] at h2
      exact (Option.some.inj h2).symm
    subst hxv
    refine q_asgLI (xs := [.int 1]) (el_lst (ea_cons ev_c ea_nil) (by simp)) ev_c fun p0 H3 e3 hp0l => ?_
    let Pi : Nat → L2.St → Hp → Prop := fun i σ G => ∃ (pl : Addr) (z7 : Option V), σ = [some (.int p), some (.ref a), some (.ref fl), some (.int (m : Int)), some (.int (vals.getD m 0)), some (.ref pl), some (.int (bas p m i).2), z7, y8, y9] ∧ G pl = some (.lst ((bas p m i).1.map V.int)) ∧ Ex H3 G
    have hs3 : SqL K H3 a (vals.map V.int) := ex_l (((e1.trans e2).trans eG).trans e3) hs
    have hf3 : H3 fl = some (.lst ((thr p vals vals.length m).map V.int)) := e3 _ _ (eG _ _ hfl)
    refine q_forRg (n := (vals.length : Int)) (ea_cons (ev_is (e_len (ev_var rfl) (.inl hs3)) (by rw [hlen])) ea_nil) (by omega) Pi (fun H4 e4 => ⟨p0, y7, rfl, e4 _ _ hp0l, e4⟩) (fun i σ' G4 hi hP => ?_) fun σ' G4 hP => ?_
    · obtain ⟨pl, z7, rfl, hpl, e4⟩ := hP
      rw [Int.toNat_natCast] at hi
      have hbl : (bas p m i).1.length ≤ 1000 := by
        rw [bas_len]
        split <;> omega
      by_cases him : (i : Int) = (m : Int)
      · refine s_if (b := false) (et_is (et_B (e_cmp (ev_var rfl) (ev_var rfl))) (by rw [decide_eq_true him]; rfl)) (fun z => by cases z) fun _ H5 e5 => ⟨pl, some (.int (i : Int)), ?_, ?_, e4.trans e5⟩
        · have him : i = m := by omega
          have eb : bas p m (i + 1) = bas p m i := by
            rw [bas, if_neg (fun z => z him)]
          rw [eb]
          rfl
        · have him : i = m := by omega
          have eb : bas p m (i + 1) = bas p m i := by
            rw [bas, if_neg (fun z => z him)]
          rw [eb]
          exact e5 _ _ hpl
      · have him2 : i ≠ m := by omega
        have eb : bas p m (i + 1) = (stepPart p i (bas p m i).1, (bas p m i).2 * ((m : Int) - i) % p) := by
          rw [bas, if_pos him2]
        refine s_if (b := true) (et_is (et_B (e_cmp (ev_var rfl) (ev_var rfl))) (by rw [decide_eq_false him]; rfl)) (fun _ H5 e5 => ?_) fun z => by cases z
        refine q_asgL (el_step (p := p) (place := (i : Int)) (pl := pl) (part := (bas p m i).1) (fun _ => rfl) (fun _ => rfl) (fun _ => rfl) (fun _ => rfl) rfl (fun _ => rfl) (sq_of (e5 _ _ hpl)) hbl hp0 (by omega)) fun q1 H6 _ e6 h6 => ?_
        refine s_asg (e_mod (e_mul (ev_var rfl) (e_sub (ev_var rfl) (ev_var rfl)) (mul_ok (bas_snd hp m i) hp2)) (ev_var rfl) hp0) fun H7 e7 => ⟨q1, some (.int (i : Int)), ?_, ?_, ((e4.trans e5).trans e6).trans e7⟩
        · rw [eb]
          rfl
        · rw [eb]
          exact e7 _ _ h6
    · obtain ⟨pl, z7, rfl, hpl, e4⟩ := hP
      rw [Int.toNat_natCast] at hpl ⊢
      have hio := inv_in hp ((bas p m vals.length).2 % p)
      refine q_asg (v := .int (K10M.over p vals vals.length m)) (e_mod (e_mul (ev_var rfl) (ev_call (ea_cons (ev_var rfl) (ea_cons (e_mod (ev_var rfl) (ev_var rfl) hp0) ea_nil)) (sv_law_inverse hp hp2)) (mulR hio hp2)) (ev_var rfl) hp0) fun H5 e5 => ?_
      have hf5 : H5 fl = some (.lst ((thr p vals vals.length m).map V.int)) := e5 _ _ (e4 _ _ hf3)
      have hp5 := e5 _ _ hpl
      have tl : (thr p vals vals.length m).length = vals.length := thr_len _ _ _ _
      have bl : (bas p m vals.length).1.length = vals.length := by rw [bas_len, if_pos hm]
      have hov : 0 ≤ K10M.over p vals vals.length m ∧ K10M.over p vals vals.length m < p := mod_in hp0 _
      have g : (thr p vals vals.length (m + 1)).map V.int = (List.range ((vals.length : Int)).toNat).map fun (k : Nat) => V.int (((thr p vals vals.length m).getD k 0 + (bas p m vals.length).1.getD k 0 * K10M.over p vals vals.length m) % p) := by
        rw [thr]
        unfold addTo
        rw [List.map_map, tl]
        rfl
      refine s_asgL (xs := (thr p vals vals.length (m + 1)).map V.int) (by
        rw [g]
        refine el_mapR (n := (vals.length : Int)) _ (ea_cons (ev_is (e_len (ev_var rfl) (.inl (sq_of hf5))) (by rw [List.length_map, tl])) ea_nil) (by omega) (fun _ => rfl) fun k G6 e6 hk => ?_
        exact e_mod (e_add (e_ixL (ev_var rfl) (ev_var rfl) (sq_of (e6 _ _ hf5)) (int_at (by omega))) (e_mul (e_ixL (ev_var rfl) (ev_var rfl) (sq_of (e6 _ _ hp5)) (int_at (by omega))) (ev_var rfl) (mulR hov hp2))) (ev_var rfl) hp0) fun q1 H6 _ e6 h6 => ?_
      exact ⟨q1, _, _, _, _, _, _, _, rfl, h6, ((((e2.trans eG).trans e3).trans e4).trans e5).trans e6⟩
  · obtain ⟨fl, y3, y4, y5, y6, y7, y8, y9, rfl, hfl, e2⟩ := hP
    rw [List.length_map] at hfl
    exact s_retS (es_call (ea_cons (ev_var rfl) ea_nil) (ss_law_cut (.inl (sq_of hfl)))) fun t H2 e3 h3 => q t H2 ((e1.trans e2).trans e3) h3
theorem ss_law_through {p : Int} {a : Addr} {vals : List Int} (hs : SqL K H a (vals.map V.int)) (hp : 1 < p) (hp2 : p < 4294967296) (hn : vals.length ≤ 100) : SpS K (sp_law_through K) [.int p, .ref a] H ((through p vals).map V.int) := fun H1 e Q q E => ⟨p, a, vals, rfl, ex_l e hs, hp, hp2, hn, q⟩
end
end K10

set_option Elab.async false
set_option linter.all false
set_option maxRecDepth 100000
set_option maxHeartbeats 4000000
/-! K10RdQ: plain lines, what is a line -/
namespace K10
open PySem PySem.Spec PyProof.Rows L2 Evl LamX K10M
section
variable {P : Program} {w : World} {K : PySem.W.Frag} {mg : Str → Option Value} {base : Heap} {H H' : Hp}

theorem cut_take (xs : List V) (m : Nat) : cutV xs none (some (m : Int)) = xs.take m := by
  unfold cutV
  rw [HT.sIx_none, HT.sIx_nat, List.drop_zero, Nat.sub_zero]
  by_cases h : m ≤ xs.length
  · rw [Nat.min_eq_left h]
  · rw [Nat.min_eq_right (by omega), List.take_length, List.take_of_length_le (by omega)]
theorem es_slA {σ : L2.St} {te th : TE} {a : Addr} {xs : List V} {m : Nat} (h : Ev te σ H (.ref a)) (h2 : Ev th σ H (.int (m : Int))) (hs : SqT K H a xs) : EvS K (tSl (rSlA K) te tNoPart (tPart th)) σ H (xs.take m) := fun H1 e Q q =>
  h H1 e _ fun H2 e2 => (eo_none (σ := σ) (H := H2)) H2 (Ex.refl H2) _ fun H3 e3 => (eo_some h2) H3 ((e.trans e2).trans e3) _ fun H4 e4 => by
    have e14 := (e2.trans e3).trans e4
    refine ⟨a, xs, rfl, ex_t (e.trans e14) hs, fun z => ?_, fun _ p hp => q p _ (e14.trans (Ex.new hp)) (by rw [← cut_take]; exact st_of upd_same)⟩
    have z2 := z.2
    rw [HT.sIx_nat] at z2
    have : xs.take m = xs := List.take_of_length_le (by omega)
    rw [this] at q
    exact q a H4 e14 (ex_t (e.trans e14) hs)
/-- a call of four arguments, the last a tuple told by what it holds -/
theorem ev_call4S {σ : L2.St} {ta tb tc td : TE} {sp : Sp} {x y u z : V} {xs : List V} (a : Ev ta σ H x) (b : Ev tb σ H y) (c : Ev tc σ H u) (d : EvS K td σ H xs) (h : ∀ l H1, Ex H H1 → SqT K H1 l xs → SpV sp [x, y, u, .ref l] H1 z) :
    Ev (tCall sp [] E0 (tCons ta (tCons tb (tCons tc (tCons td tNil))))) σ H z := fun H1 e Q q =>
  a H1 e _ fun H2 e2 => b H2 (e.trans e2) _ fun H3 e3 => c H3 ((e.trans e2).trans e3) _ fun H4 e4 => d H4 (((e.trans e2).trans e3).trans e4) _ fun l H5 e5 g => h l H5 ((((e.trans e2).trans e3).trans e4).trans e5) g H5 (Ex.refl H5) Q (fun H6 e6 => q H6 ((((e2.trans e3).trans e4).trans e5).trans e6)) E0
theorem es_call2L {σ : L2.St} {ta tb : TE} {sp : Sp} {x : V} {xs ys : List V} (a : Ev ta σ H x) (b : EvL tb σ H xs) (h : ∀ l H1, Ex H H1 → H1 l = some (.lst xs) → SpS K sp [x, .ref l] H1 ys) : EvS K (tCall sp [] E0 (tCons ta (tCons tb tNil))) σ H ys := fun H1 e Q q =>
  a H1 e _ fun H2 e2 => b H2 (e.trans e2) _ fun l H3 _ e3 g => h l H3 ((e.trans e2).trans e3) g H3 (Ex.refl H3) Q (fun p H4 e4 g4 => q p H4 ((e2.trans e3).trans e4) g4) E0
theorem es_call4S {σ : L2.St} {ta tb tc td : TE} {sp : Sp} {x y u : V} {xs ys : List V} (a : Ev ta σ H x) (b : Ev tb σ H y) (c : Ev tc σ H u) (d : EvS K td σ H xs) (h : ∀ l H1, Ex H H1 → SqT K H1 l xs → SpS K sp [x, y, u, .ref l] H1 ys) :
    EvS K (tCall sp [] E0 (tCons ta (tCons tb (tCons tc (tCons td tNil))))) σ H ys := fun H1 e Q q =>
  a H1 e _ fun H2 e2 => b H2 (e.trans e2) _ fun H3 e3 => c H3 ((e.trans e2).trans e3) _ fun H4 e4 => d H4 (((e.trans e2).trans e3).trans e4) _ fun l H5 e5 g => h l H5 ((((e.trans e2).trans e3).trans e4).trans e5) g H5 (Ex.refl H5) Q (fun p H6 e6 g6 => q p H6 ((((e2.trans e3).trans e4).trans e5).trans e6) g6) E0
/-! ### plain lines -/
def sp_law_plain (K : PySem.W.Frag) : Sp := fun vs H Q _ => ∃ (p : Int) (n : Nat) (v : V) (R : Rl) (b : Addr) (x : List Int), vs = [.int p, .int (n : Int), v, .ref b] ∧ p ∈ primes ∧ Dp K H v (dR R) ∧ RlOk p n R ∧ hgt R ≤ 3 ∧ SqT K H b (x.map V.int) ∧ InAll p x ∧ x.length < n ∧ n ≤ 3 ∧ RetS K ((plainL p n R x).map V.int) H Q
theorem ok_law_plain (T : Top K mg) : Ok1 P w K mg base 9 "_law_plain" ["_law_p", "_law_many", "_law_rule_here", "_law_draws"] (sp_law_plain K) := by
  refine mk_law_plain T (ok_law_degree T 3) (ok_law_total T) (ok_law_through T) (by decide) (by decide) (by decide) (fun vs H Q E h => ?_) fun vs H Q E h => ?_
  · obtain ⟨p, n, v, R, b, x, rfl, _⟩ := h
    rfl
  obtain ⟨p, n, v, R, b, x, rfl, hp, hd, hk, hh, hb, hx, hxl, hn, q⟩ := h
  obtain ⟨hp0, hp1, hp2⟩ := prime_small hp
  have d16 := dg16 x.length hk hh
  have hm : mdeg p (dg x.length R) ≤ 16 ∧ ((mdeg p (dg x.length R) : Nat) : Int) ≤ p - 1 ∧ (if p - 1 < ((dg x.length R : Nat) : Int) then p - 1 else ((dg x.length R : Nat) : Int)) = ((mdeg p (dg x.length R) : Nat) : Int) := by
    unfold mdeg
    by_cases h : ((dg x.length R : Nat) : Int) ≤ p - 1
    · rw [if_pos h, if_neg (by omega)]
      exact ⟨d16, h, rfl⟩
    · rw [if_neg h, if_pos (by omega)]
      omega
  obtain ⟨hm1, hm2, hm3⟩ := hm
  refine q_asg (v := .int ((mdeg p (dg x.length R) : Nat) : Int)) (ev_is (e_min (ev_call (ea_cons (ev_var rfl) (ea_cons (ev_is (e_len (ev_var rfl) (.inr hb)) (by rw [List.length_map])) ea_nil)) (sv_law_degree hd hk hh)) (e_sub (ev_var rfl) ev_c)) (congrArg V.int hm3)) fun H1 e1 => ?_
  refine s_retS (es_call2L (xs := (pvals p n R x).map V.int) (ev_var rfl) ?_ fun l H2 e2 g => ss_law_through (sq_of g) hp1 hp2 (by rw [pvals_len]; omega)) fun t H2 e2 h2 => q t H2 (e1.trans e2) h2
  have g : (pvals p n R x).map V.int = (List.range (((mdeg p (dg x.length R) : Nat) : Int) + 1).toNat).map fun (k : Nat) => V.int (total p n R (x ++ [(k : Int)])) := by
    unfold pvals
    rw [List.map_map, show (((mdeg p (dg x.length R) : Nat) : Int) + 1).toNat = mdeg p (dg x.length R) + 1 by omega]
    rfl
  rw [g]
  refine el_mapR _ (ea_cons (e_add (ev_var rfl) ev_c) ea_nil) (by omega) (fun _ => rfl) fun k G eG hk2 => ?_
  have e1G := e1.trans eG
  refine ev_call4S (xs := (x ++ [(k : Int)]).map V.int) (ev_var rfl) (ev_var rfl) (ev_var rfl) ?_ fun l G2 e2 hl => sv_law_total hp1 hp2 (dp_ex (e1G.trans e2) _ _ hd) hk hh hl (fun c hc => ?_) (by rw [List.length_append]; show x.length + 1 ≤ n; omega) hn
  · rw [List.map_append]
    exact es_catA (es_of (ev_var rfl) (ex_t e1G hb)) (EvU.s (eu_tup (ea_cons (ev_var rfl) ea_nil) (by simp))) (by simp; omega)
  · rcases List.mem_append.mp hc with hc | hc
    · exact hx c hc
    · have : c = (k : Int) := by simpa using hc
      omega
theorem ss_law_plain {p : Int} {n : Nat} {v : V} {R : Rl} {b : Addr} {x : List Int} (hp : p ∈ primes) (hd : Dp K H v (dR R)) (hk : RlOk p n R) (hh : hgt R ≤ 3) (hb : SqT K H b (x.map V.int)) (hx : InAll p x) (hxl : x.length < n) (hn : n ≤ 3) : SpS K (sp_law_plain K) [.int p, .int (n : Int), v, .ref b] H ((plainL p n R x).map V.int) :=
  fun H1 e Q q E => ⟨p, n, v, R, b, x, rfl, hp, dp_ex e _ _ hd, hk, hh, ex_t e hb, hx, hxl, hn, q⟩
/-- [e for _ in range(n)], each item in a relation that all but lists keeps -/
theorem lcR_rel {σ : L2.St} {ta : TA} {te : TE} {k n : Nat} {vs : List Nat} {S : Nat → V → Hp → Prop} (hS : ∀ j y H1 H2, TEx K H1 H2 → S j y H1 → S j y H2) (h : EvA ta σ H [.int (n : Int)]) (hn : n ≤ 40000) (hw : ∀ x, wipe ((wipe σ vs).set k (some x)) vs = wipe σ vs)
    (he : ∀ (m : Nat) H1, Ex H H1 → m < n → ∀ Q : VK, (∀ v H2, Ex H1 H2 → S m v H2 → Q v H2) → te ((wipe σ vs).set k (some (.int (m : Int)))) H1 Q) {Q : VK} (q : ∀ dl xs H2, H dl = none → Ex H H2 → H2 dl = some (.lst xs) → xs.length = n → (∀ (j : Nat) (y : V), xs[j]? = some y → S j y H2) → Q (.ref dl) H2) :
    tLc (iRng1 ta) (gName k) tYes te vs σ H Q := h H (Ex.refl H) _ fun H1 e1 => ⟨(n : Int), rfl, by omega, by omega, fun dl hdl => by
    have hdl0 := fresh_back e1 hdl
    refine lc_range (lo := 0) (n := (n : Int).toNat) (fun m G => Ex H G ∧ ∃ xs, G dl = some (.lst xs) ∧ xs.length = m ∧ ∀ (j : Nat) (y : V), xs[j]? = some y → S j y G) ⟨e1.trans (Ex.new hdl), [], upd_same, rfl, fun j y h => by simp at h⟩ (fun m G hm hP => ?_) fun G hP => ?_
    · obtain ⟨eG, xs, g1, g2, g3⟩ := hP
      have e0 : (0 : Int) + (m : Int) = (m : Int) := Int.zero_add _
      refine ⟨hw _, ?_⟩
      show te ((wipe σ vs).set k (some (.int ((0 : Int) + (m : Int))))) G _
      rw [e0]
      refine he m G eG (by omega) _ fun y G2 e2 sy => ?_
      have g12 := e2 _ _ g1
      have tu : TEx K G2 (upd G2 dl (.lst (xs ++ [y]))) := tex_upd g12
      refine ⟨xs, g12, sz_lt (by omega), Ex.mut (eG.trans e2) hdl0, xs ++ [y], upd_same, by rw [List.length_append, g2]; rfl, fun j z hj => ?_⟩
      by_cases hlt : j < xs.length
      · rw [List.getElem?_append_left hlt] at hj
        exact hS j z _ _ ((Ex.t e2).trans tu) (g3 j z hj)
      · have hj2 : j < (xs ++ [y]).length := (List.getElem?_eq_some_iff.mp hj).1
        rw [List.length_append] at hj2
        have hj3 : j < xs.length + 1 := hj2
        have ej : j = xs.length := by omega
        subst ej
        rw [List.getElem?_append_right (Nat.le_refl _), Nat.sub_self] at hj
        have ez : y = z := Option.some.inj hj
        subst ez
        rw [g2]
        exact hS m y _ _ tu sy
    · obtain ⟨eG, xs, g1, g2, g3⟩ := hP
      exact q dl xs G hdl0 eG g1 (by rw [g2]; omega) g3⟩
/-- a value is a tuple of these numbers -/
def TupI (K : PySem.W.Frag) (H : Hp) (v : V) (l : List Int) : Prop := ∃ a, v = .ref a ∧ SqT K H a (l.map V.int)
def sp_law_plains (K : PySem.W.Frag) : Sp := fun vs H Q _ => ∃ (p : Int) (n : Nat) (v : V) (R : Rl) (b : Addr) (x : List Int), vs = [.int p, .int (n : Int), v, .ref b] ∧ p ∈ primes ∧ Dp K H v (dR R) ∧ RlOk p n R ∧ hgt R ≤ 3 ∧ SqT K H b (x.map V.int) ∧ InAll p x ∧ x.length = n ∧ n ≤ 3 ∧
  ∀ dl xs H2, H dl = none → Ex H H2 → H2 dl = some (.lst xs) → xs.length = n → (∀ (j : Nat) (y : V), xs[j]? = some y → TupI K H2 y (plainL p n R (x.take j))) → Q (.ref dl) H2
theorem ok_law_plains (T : Top K mg) : Ok1 P w K mg base 10 "_law_plains" ["_law_p", "_law_many", "_law_rule_here", "_law_draws"] (sp_law_plains K) := by
  refine mk_law_plains T (ok_law_plain T) (by decide) (fun vs H Q E h => ?_) fun vs H Q E h => ?_
  · obtain ⟨p, n, v, R, b, x, rfl, _⟩ := h
    rfl
  obtain ⟨p, n, v, R, b, x, rfl, hp, hd, hk, hh, hb, hx, hxl, hn, q⟩ := h
  refine lcR_rel (K := K) (n := n) (S := fun j y G => TupI K G y (plainL p n R (x.take j))) (fun j y H1 H2 e h => by
    obtain ⟨a, rfl, g⟩ := h
    exact ⟨a, rfl, e _ _ g⟩) (ea_cons (ev_var rfl) ea_nil) (by omega) (fun _ => rfl) (fun m H1 e1 hm Q k => ?_) q
  refine (es_call4S (K := K) (ev_var rfl) (ev_var rfl) (ev_var rfl) (es_tupS (es_slA (ev_var rfl) (ev_var rfl) (ex_t e1 hb))) fun l G e2 hl => ss_law_plain hp (dp_ex (e1.trans e2) _ _ hd) hk hh (x := x.take m) (by rw [List.map_take]; exact hl) (fun c hc => hx c (List.mem_of_mem_take hc)) (by rw [List.length_take]; omega) hn) H1 (Ex.refl H1) Q fun t H2 e2 h2 => k _ H2 e2 ⟨t, rfl, h2⟩
/-! ### what is a line -/
end
end K10

set_option Elab.async false
set_option linter.all false
set_option maxRecDepth 100000
set_option maxHeartbeats 4000000
/-! K10RdR: what is a line, the law's judge -/
namespace K10
open PySem PySem.Spec PyProof.Rows L2 Evl LamX K10M
section
variable {P : Program} {w : World} {K : PySem.W.Frag} {mg : Str → Option Value} {base : Heap} {H H' : Hp}

def sp_law_is_line (K : PySem.W.Frag) : Sp := fun vs H Q _ => ∃ (p : Int) (x : V) (it : Itm), vs = [.int p, x] ∧ ItAt K H x it ∧ RetV (.bl (isLine p it)) H Q
theorem isa_tup {t : String} (hk : t ∈ kinds) (ht : t ≠ "tuple") : isaB t "tuple" = false := by
  have key : (kinds.all fun a => decide (a = "tuple") || !isaB a "tuple") = true := by decide +kernel
  have := List.all_eq_true.mp key t hk
  rw [decide_eq_false ht, Bool.false_or] at this
  simpa using this
theorem num_chain (p i : Int) : (decide (0 ≤ i) && decide (i < p)) = isNum p (.int i) := by
  show _ = (decide (0 ≤ i) && decide (i ≤ p - 1))
  congr 1
  rw [decide_eq_decide]
  omega
theorem ok_law_is_line (T : Top K mg) : Ok1 P w K mg base 1 "_law_is_line" ["_law_p", "_law_value_here"] (sp_law_is_line K) := by
  refine mk_law_is_line T (fun vs H Q E h => ?_) fun vs H Q E h => ?_
  · obtain ⟨p, x, it, rfl, _⟩ := h
    rfl
  obtain ⟨p, x, it, rfl, hx, q⟩ := h
  cases it with
  | none =>
    obtain ⟨t, hk, ht⟩ := hx
    exact q_when (b := true) (et_is (et_or (et_not (et_B (e_isi (ev_var rfl) hk (by decide)))) (b := false) fun z => absurd z (by rw [isa_tup hk.2 ht]; decide)) (by rw [isa_tup hk.2 ht]; rfl)) (fun _ H1 e1 => s_ret ev_c fun H2 e2 => q H2 (e1.trans e2)) fun z => by cases z
  | some es =>
    obtain ⟨a, rfl, hs⟩ := hx
    have c1 : EvT (tOr (tNot (tB (tCB (rIsi K) (tCons (tVar 1) (tCons (tC (.ty "tuple")) tNil))))) (tB (tGt (tCB (rLenQ K) (tCons (tVar 1) tNil)) (tC (.int 200))))) [some (.int p), some (.ref a), none] H (decide ((es.length : Int) > 200)) :=
      et_is (et_or (et_not (et_B (e_isi (ev_var rfl) (Knd.tup hs) (by decide)))) fun _ => et_B (e_cmp (e_len (ev_var rfl) (.inr hs)) ev_c)) (by rw [List.length_map]; rfl)
    have hq : isLine p (some es) = (decide (es.length ≤ 200) && (es.all (isNum p) && (es.isEmpty || lastNz es))) := rfl
    rw [hq] at q
    by_cases hl : (es.length : Int) > 200
    · rw [decide_eq_true hl] at c1
      rw [decide_eq_false (show ¬ es.length ≤ 200 by omega)] at q
      exact q_when (b := true) c1 (fun _ H1 e1 => s_ret ev_c fun H2 e2 => q H2 (e1.trans e2)) fun z => by cases z
    · rw [decide_eq_false hl] at c1
      rw [decide_eq_true (show es.length ≤ 200 by omega), Bool.true_and] at q
      refine q_when (b := false) c1 (fun z => by cases z) fun _ H1 e1 => ?_
      have hs1 := ex_t e1 hs
      let fs : List En := ((List.range es.length).filter fun m => !isNum p (es.getD m (.int 0))).map fun m => es.getD m (.int 0)
      have hfe : fs.isEmpty = es.all (isNum p) := by
        show (((List.range es.length).filter fun m => !isNum p (es.getD m (.int 0))).map fun m => es.getD m (.int 0)).isEmpty = _
        rw [Bool.eq_iff_iff, List.isEmpty_iff, List.map_eq_nil_iff, List.filter_eq_nil_iff, List.all_eq_true]
        constructor
        · intro h e he
          obtain ⟨m, hm, hme⟩ := List.mem_iff_getElem.mp he
          have h1 := h m (List.mem_range.mpr hm)
          rw [List.getD_eq_getElem?_getD, List.getElem?_eq_getElem hm, Option.getD_some, hme] at h1
          simpa using h1
        · intro h m hm
          have hm := List.mem_range.mp hm
          rw [List.getD_eq_getElem?_getD, List.getElem?_eq_getElem hm, Option.getD_some]
          simpa using h _ (List.getElem_mem hm)
      have gl : given (es.map enV).length (fun m => !isNum p (es.getD m (.int 0))) (fun m => enV (es.getD m (.int 0))) = fs.map enV := by
        unfold given
        rw [List.length_map]
        show _ = (((List.range es.length).filter fun m => !isNum p (es.getD m (.int 0))).map fun m => es.getD m (.int 0)).map enV
        rw [List.map_map]
        rfl
      have lc := el_lcT (K := K) (σ := [some (.int p), some (.ref a), none]) (H := H1) (te := tVar 2) (t := tOr (tNot (tB (tCB (rIsi K) (tCons (tVar 2) (tCons (tC (.ty "int")) tNil))))) (tOr (tB (tCB (rIsi K) (tCons (tVar 2) (tCons (tC (.ty "bool")) tNil)))) (tNot (tTest (tChain rLeI rLtI (tC (.int 0)) (tVar 2) (tVar 0)))))) (tl := tVar 1) (k := 2) (vs := [2])
        (fun m => !isNum p (es.getD m (.int 0))) (fun m => enV (es.getD m (.int 0))) (ev_var rfl) hs1 (by rw [List.length_map]; omega) (fun _ => rfl) (fun m y G eG hm => by
          rw [List.getElem?_map] at hm
          cases he : es[m]? with
          | none =>
            rw [he] at hm
            cases hm
          | some e =>
            rw [he] at hm
            have ey : enV e = y := Option.some.inj hm
            subst ey
            rw [List.getD_eq_getElem?_getD, he, Option.getD_some]
            cases e with
            | int i => exact et_is (et_or (et_not (et_B (e_isi (ev_var rfl) (Knd.int i) (by decide)))) fun _ => et_or (et_B (e_isi (ev_var rfl) (Knd.int i) (by decide))) fun _ => et_not (et_test (e_chainLt ev_c (ev_var rfl) (ev_var rfl)))) (by rw [num_chain]; rfl)
            | bl b => exact et_is (et_or (et_not (et_B (e_isi (ev_var rfl) (Knd.bl b) (by decide)))) fun _ => et_or (b := false) (et_B (e_isi (ev_var rfl) (Knd.bl b) (by decide))) fun z => absurd z (by decide)) (by rfl)) (fun m y G eG hm _ => by
          rw [List.getElem?_map] at hm
          cases he : es[m]? with
          | none =>
            rw [he] at hm
            cases hm
          | some e =>
            rw [he] at hm
            have ey : enV e = y := Option.some.inj hm
            subst ey
            rw [List.getD_eq_getElem?_getD, he, Option.getD_some]
            exact ev_var rfl)
      rw [gl] at lc
      have c2 : EvT (tTest (tOp (rNeD K) (tLc (iTup K (tVar 1)) (gName 2) (tOr (tNot (tB (tCB (rIsi K) (tCons (tVar 2) (tCons (tC (.ty "int")) tNil))))) (tOr (tB (tCB (rIsi K) (tCons (tVar 2) (tCons (tC (.ty "bool")) tNil)))) (tNot (tTest (tChain rLeI rLtI (tC (.int 0)) (tVar 2) (tVar 0)))))) (tVar 2) [2]) (tLst tNil))) [some (.int p), some (.ref a), none] H1 (!es.all (isNum p)) :=
        et_is (et_test (e_neLL lc (el_lst ea_nil (by simp)) (en_dp fs) .nil (en_shL fs) (by decide))) (by rw [en_nilL, hfe])
      cases hall : es.all (isNum p) with
      | false =>
        rw [hall] at c2 q
        exact q_when (b := true) c2 (fun _ H2 e2 => s_ret ev_c fun H3 e3 => q H3 ((e1.trans e2).trans e3)) fun z => by cases z
      | true =>
        rw [hall] at c2 q
        rw [Bool.true_and] at q
        refine q_when (b := false) c2 (fun z => by cases z) fun _ H2 e2 => ?_
        have e12 := e1.trans e2
        have hs2 := ex_t e12 hs
        refine s_ret (ev_orV (ev_is (e_eqDU (ev_var rfl) (eu_tup ea_nil (by simp)) (.tup hs2 (en_dp es)) .nil (en_shT es) (by decide)) (by rw [en_nil])) fun hne => ?_) fun H3 e3 => q H3 (e12.trans e3)
        have hne2 : es ≠ [] := by
          intro z
          subst z
          cases hne
        have hg := List.getLast?_eq_getLast hne2
        have hal : (isNum p) (es.getLast hne2) = true := List.all_eq_true.mp hall _ (List.getLast_mem hne2)
        cases hlast : es.getLast hne2 with
        | bl b =>
          rw [hlast] at hal
          cases hal
        | int i =>
          rw [hlast] at hg
          have hz : lastNz es = !decide (i = 0) := by
            unfold lastNz
            rw [hg]
            rfl
          rw [hz]
          refine e_cmp (p := fun i j => !decide (i = j)) (e_ixT (ev_var rfl) (e_neg ev_c) hs2 (at_end ?_)) ev_c
          rw [List.getLast?_map, hg]
          rfl
theorem sv_law_is_line {p : Int} {x : V} {it : Itm} (h : ItAt K H x it) : SpV (sp_law_is_line K) [.int p, x] H (.bl (isLine p it)) := fun H1 e Q q E => ⟨p, x, it, rfl, h.ex e, q⟩
/-! ### the judge -/
def sp_law_judge (K : PySem.W.Frag) : Sp := fun vs H Q _ => ∃ (a b : Addr) (x vr : V) (p c : Int) (n : Nat) (R : Rl) (draws : List Int) (its : Option (List Itm)), vs = [.ref a, x, .ref b] ∧ SumAt K H a p n vr R c ∧ LnsAt K H x its ∧ SqT K H b (draws.map V.int) ∧ InAll p draws ∧ draws.length = n ∧
  ∀ r H2, Ex H H2 → PairAt K H2 r (judge p n R c draws its) → Q r H2
theorem halves_same {p x cl : Int} (hp : 0 < p) (hcl : 0 ≤ cl ∧ cl < p) : (x - cl) % p = 0 ↔ x % p = cl := by
  constructor
  · intro h
    have := Int.emod_eq_emod_iff_emod_sub_eq_zero.mpr h
    rw [this, Int.emod_eq_of_lt hcl.1 hcl.2]
  · intro h
    refine Int.emod_eq_emod_iff_emod_sub_eq_zero.mp ?_
    rw [h, Int.emod_eq_of_lt hcl.1 hcl.2]
theorem ok_law_judge (T : Top K mg) : Ok1 P w K mg base 8 "_law_judge" ["_law_told", "_law_lines", "_law_draws"] (sp_law_judge K) := by
  refine mk_law_judge T (ok_law_at T) (ok_law_value T 4) (ok_law_degree T 3) (ok_law_is_line T) (by decide) (by decide) (by decide) (by decide) (fun vs H Q E h => ?_) fun vs H Q E h => ?_
  · obtain ⟨a, b, x, vr, p, c, n, R, draws, its, rfl, _⟩ := h
    rfl
  obtain ⟨a, b, x, vr, p, c, n, R, draws, ls, rfl, s, hx, hb, hd, hdl, k⟩ := h
  obtain ⟨hp0, hp1, hp2⟩ := prime_small s.hp
  have hn3 := s.hn
  refine q_asgT4 (ev_var rfl) s.at_ fun H1 e1 => ?_
  refine q_asgL (xs := [.int c]) (el_lst (ea_cons (ev_var rfl) ea_nil) (by simp)) fun l H2 hl0 e2 hl => ?_
  have e02 := e1.trans e2
  have fin : ∀ {G : Hp} {σ : L2.St} {ta tb : TE} {o : Vd × List Int} {D : Ends}, D.rt = Q → Ex H1 G → EvS K ta σ G (vdV o.1) → Ev tb σ G (.ref l) → G l = some (.lst (o.2.map V.int)) → judge p n R c draws ls = o → tRet (tTup (tCons ta (tCons tb tNil))) D σ G := by
    intro G σ ta tb o D hD eN ha hb' hlG ho
    refine s_retP ha hb' fun v r G1 eG hv hr => ?_
    rw [hD]
    rw [ho] at k
    exact k _ G1 (e1.trans (eN.trans eG)) ⟨r, v, l, rfl, hr, hv, sq_of (eG _ _ hlG)⟩
  cases ls with
  | none =>
    obtain ⟨t, hk, ht1, ht2⟩ := hx.ex e02
    refine q_when (b := true) (et_is (et_not (et_B (e_isi2 (ev_var rfl) hk (by decide) (by decide)))) (by rw [isa_seq ht1 ht2 hk.2]; rfl)) (fun _ H3 e3 => ?_) fun z => by cases z
    exact fin (o := (.caught 0 "line", [c])) rfl (e2.trans e3) (EvU.s (eu_tup (ea_cons ev_c (ea_cons ev_c (ea_cons ev_c ea_nil))) (by simp [vdV]))) (ev_var rfl) (e3 _ _ hl) rfl
  | some its =>
    obtain ⟨ax, xs, rfl, hsx, hlen, hit⟩ := hx
    obtain ⟨t, hk, ht⟩ := isa_seqA (hsx.ex e02)
    refine q_when (b := false) (et_is (et_not (et_B (e_isi2 (ev_var rfl) hk (by decide) (by decide)))) (by rw [ht]; rfl)) (fun z => by cases z) fun _ H3 e3 => ?_
    let Pv : Nat → L2.St → Hp → Prop := fun m σ G => ∃ (cl : Int) (so : List Int) (y8 : Option V), judge p n R c draws (some its) = judgeL p n R draws its (n - m) m cl so ∧ so.getLast? = some cl ∧ so.length = m + 1 ∧ (0 ≤ cl ∧ cl < p) ∧ G l = some (.lst (so.map V.int)) ∧ Ex H1 G ∧
      σ = [some (.ref a), some (.ref ax), some (.ref b), some (.int p), some (.int (n : Int)), some vr, some (.int c), some (.ref l), y8]
    have facts : ∀ {G : Hp}, Ex H1 G → SumAt K G a p n vr R c ∧ SqT K G b (draws.map V.int) ∧ SqA K G ax xs := fun {G} eN => ⟨s.ex (e1.trans eN), ex_t (e1.trans eN) hb, hsx.ex (e1.trans eN)⟩
    refine q_forRg (n := (n : Int)) (ea_cons (ev_var rfl) ea_nil) (by omega) Pv (fun H4 e4 => ?_) (fun m σ' G hm hP => ?_) fun σ' G hP => ?_
    · exact ⟨c, [c], none, by simp [judge], rfl, rfl, s.hc, e4 _ _ (e3 _ _ hl), e2.trans (e3.trans e4), rfl⟩
    · rw [Int.toNat_natCast] at hm
      obtain ⟨cl, so, y8, hj, hcl, hsl, hclp, hlG, eN, rfl⟩ := hP
      obtain ⟨sG, bG, aG⟩ := facts eN
      obtain ⟨kk, hkk⟩ : ∃ kk, n - m = kk + 1 := ⟨n - m - 1, by omega⟩
      have hj2 : judge p n R c draws (some its) = (match its[m]? with
        | none => (.caught m "line", so)
        | some it => if isLine p it = false then (.caught m "line", so) else if ((nsOf it).length : Int) - 1 > dg m R then (.caught m "degree", so) else if (ev p 0 (nsOf it) + ev p 1 (nsOf it)) % p ≠ cl then (.caught m "halves", so)
          else judgeL p n R draws its kk (m + 1) (ev p (draws.getD m 0) (nsOf it)) (so ++ [ev p (draws.getD m 0) (nsOf it)])) := by
        rw [hj, hkk]
        rfl
      -- caught by a word
      have bad : ∀ (z : String) (G' : Hp) (D : Ends), D.rt = Q → Ex G G' → judge p n R c draws (some its) = (.caught m z, so) → tRet (tTup (tCons (tTup (tCons (tC (.str "caught")) (tCons (tVar 8) (tCons (tC (.str (Str.ofString z))) tNil)))) (tCons (tVar 7) tNil))) D
          [some (.ref a), some (.ref ax), some (.ref b), some (.int p), some (.int (n : Int)), some vr, some (.int c), some (.ref l), some (.int (m : Int))] G' := by
        intro z G' D hD eG hz
        exact fin (o := (.caught m z, so)) hD (eN.trans eG) (EvU.s (eu_tup (ea_cons ev_c (ea_cons (ev_var rfl) (ea_cons ev_c ea_nil))) (by simp [vdV]))) (ev_var rfl) (eG _ _ hlG) hz
      cases hm2 : its[m]? with
      | none =>
        rw [hm2] at hj2
        have hge : its.length ≤ m := List.getElem?_eq_none_iff.mp hm2
        exact q_when (b := true) (et_is (et_or (b := false) (et_B (e_cmp (ev_var rfl) (e_len (ev_var rfl) aG))) fun z => absurd z (by rw [decide_eq_true (by omega)]; simp)) (by rw [decide_eq_true (by omega)]; rfl)) (fun _ H5 e5 => bad "line" H5 _ rfl e5 hj2) fun z => by cases z
      | some it =>
        rw [hm2] at hj2
        have hlt : m < its.length := (List.getElem?_eq_some_iff.mp hm2).1
        have hlt2 : m < xs.length := by omega
        obtain ⟨it', g1, g2⟩ := hit m _ (List.getElem?_eq_getElem hlt2)
        rw [hm2] at g1
        have eit : it = it' := Option.some.inj g1
        subst eit
        have hat : atI xs (m : Int) = some xs[m] := atI_nat (List.getElem?_eq_getElem hlt2)
        have c1 : EvT (tOr (tB (tGe (tVar 8) (tCB (rLenQ K) (tCons (tVar 1) tNil)))) (tNot (tB (tCall (sp_law_is_line K) [] E0 (tCons (tVar 3) (tCons (tOp (rIx K) (tVar 1) (tVar 8)) tNil)))))) [some (.ref a), some (.ref ax), some (.ref b), some (.int p), some (.int (n : Int)), some vr, some (.int c), some (.ref l), some (.int (m : Int))] G (!isLine p it) :=
          et_is (et_or (et_B (e_cmp (ev_var rfl) (e_len (ev_var rfl) aG))) fun _ => et_not (et_B (ev_call (ea_cons (ev_var rfl) (ea_cons (e_ixA (ev_var rfl) (ev_var rfl) aG hat) ea_nil)) (sv_law_is_line (g2.ex (e1.trans eN)))))) (by rw [decide_eq_false (by omega)]; rfl)
        cases hil : isLine p it with
        | false =>
          rw [hil] at c1
          exact q_when (b := true) c1 (fun _ H5 e5 => bad "line" H5 _ rfl e5 (by rw [hj2]; exact if_pos hil)) fun z => by cases z
        | true =>
          rw [hil] at c1
          have nil1 : ¬ isLine p it = false := by rw [hil]; simp
          refine q_when (b := false) c1 (fun z => by cases z) fun _ H5 e5 => ?_
          cases it with
          | none => cases hil
          | some es =>
            obtain ⟨ai, eai, hai⟩ := g2
            have hz : ((es.map enV).length : Int) = ((nsOf (some es)).length : Int) := by rw [line_ints hil, List.length_map]
            rw [line_ints hil] at hai
            rw [eai] at hat
            have eN5 := eN.trans e5
            obtain ⟨s5, b5, a5⟩ := facts eN5
            have hai5 := ex_t (e1.trans eN5) hai
            have c2 : EvT (tB (tGt (tOp rSubI (tCB (rLenQ K) (tCons (tOp (rIx K) (tVar 1) (tVar 8)) tNil)) (tC (.int 1))) (tCall (sp_law_degree 3 K) [] E0 (tCons (tVar 5) (tCons (tVar 8) tNil))))) [some (.ref a), some (.ref ax), some (.ref b), some (.int p), some (.int (n : Int)), some vr, some (.int c), some (.ref l), some (.int (m : Int))] H5 (decide (((nsOf (some es)).length : Int) - 1 > dg m R)) :=
              et_is (et_B (e_cmp (e_sub (e_len (e_ixA (ev_var rfl) (ev_var rfl) a5 hat) (.inr hai5)) ev_c) (ev_call (ea_cons (ev_var rfl) (ea_cons (ev_var rfl) ea_nil)) (sv_law_degree s5.rl s5.ok s5.hh)))) (by rw [List.length_map])
            by_cases hd2 : ((nsOf (some es)).length : Int) - 1 > dg m R
            · rw [decide_eq_true hd2] at c2
              exact q_when (b := true) c2 (fun _ H6 e6 => bad "degree" H6 _ rfl (e5.trans e6) (by rw [hj2]; show (if isLine p (some es) = false then _ else _) = _; rw [if_neg nil1, if_pos hd2])) fun z => by cases z
            rw [decide_eq_false hd2] at c2
            refine q_when (b := false) c2 (fun z => by cases z) fun _ H6 e6 => ?_
            have eN6 := eN5.trans e6
            obtain ⟨s6, b6, a6⟩ := facts eN6
            have hai6 := ex_t (e1.trans eN6) hai
            have l6 : H6 l = some (.lst (so.map V.int)) := (e5.trans e6) _ _ hlG
            have c3 : EvT (tB (tNeI (tOp rModI (tOp rSubI (tOp rAddI (tCall (sp_law_at K) [] E0 (tCons (tVar 3) (tCons (tOp (rIx K) (tVar 1) (tVar 8)) (tCons (tC (.int 0)) tNil)))) (tCall (sp_law_at K) [] E0 (tCons (tVar 3) (tCons (tOp (rIx K) (tVar 1) (tVar 8)) (tCons (tC (.int 1)) tNil))))) (tOp (rIx K) (tVar 7) (tUn uNeg (tC (.int 1))))) (tVar 3)) (tC (.int 0))))
                [some (.ref a), some (.ref ax), some (.ref b), some (.int p), some (.int (n : Int)), some vr, some (.int c), some (.ref l), some (.int (m : Int))] H6 (!decide ((ev p 0 (nsOf (some es)) + ev p 1 (nsOf (some es)) - cl) % p = 0)) :=
              et_B (e_cmp (e_mod (e_sub (e_add (ev_call (ea_cons (ev_var rfl) (ea_cons (e_ixA (ev_var rfl) (ev_var rfl) a6 hat) (ea_cons ev_c ea_nil))) (sv_law_at hai6 hp0 hp2)) (ev_call (ea_cons (ev_var rfl) (ea_cons (e_ixA (ev_var rfl) (ev_var rfl) a6 hat) (ea_cons ev_c ea_nil))) (sv_law_at hai6 hp0 hp2))) (e_ixL (ev_var rfl) (e_neg ev_c) (sq_of l6) (end_cl hcl))) (ev_var rfl) hp0) ev_c)
            by_cases hv : (ev p 0 (nsOf (some es)) + ev p 1 (nsOf (some es))) % p = cl
            · rw [decide_eq_true ((halves_same hp0 hclp).mpr hv)] at c3
              refine q_when (b := false) c3 (fun z => by cases z) fun _ H7 e7 => ?_
              have hj3 : judge p n R c draws (some its) = judgeL p n R draws its kk (m + 1) (ev p (draws.getD m 0) (nsOf (some es))) (so ++ [ev p (draws.getD m 0) (nsOf (some es))]) := by
                rw [hj2]
                show (if isLine p (some es) = false then _ else _) = _
                rw [if_neg nil1, if_neg hd2, if_neg (fun z => z hv)]
              have eN7 := eN6.trans e7
              obtain ⟨s7, b7, a7⟩ := facts eN7
              have hai7 := ex_t (e1.trans eN7) hai
              have l7 := e7 _ _ l6
              have hdr : atI (draws.map V.int) (m : Int) = some (.int (draws.getD m 0)) := int_at (by omega)
              refine s_app l7 (ev_var rfl) (ev_call (ea_cons (ev_var rfl) (ea_cons (e_ixA (ev_var rfl) (ev_var rfl) a7 hat) (ea_cons (e_ixT (ev_var rfl) (ev_var rfl) b7 hdr) ea_nil))) (sv_law_at hai7 hp0 hp2)) (by rw [List.length_map]; omega) fun H8 e8 => ?_
              refine ⟨ev p (draws.getD m 0) (nsOf (some es)), so ++ [ev p (draws.getD m 0) (nsOf (some es))], _, ?_, by rw [List.getLast?_concat], by rw [List.length_append, hsl]; rfl, ev_in hp0 _ _, by rw [List.map_append]; exact upd_same, Ex.mut (eN7.trans e8) hl0, rfl⟩
              rw [hj3]
              congr 1
              omega
            · rw [decide_eq_false (fun z => hv ((halves_same hp0 hclp).mp z))] at c3
              exact q_when (b := true) c3 (fun _ H7 e7 => bad "halves" H7 _ rfl ((e5.trans e6).trans e7) (by rw [hj2]; show (if isLine p (some es) = false then _ else _) = _; rw [if_neg nil1, if_neg hd2, if_pos hv])) fun z => by cases z
    · rw [Int.toNat_natCast] at hP
      obtain ⟨cl, so, y8, hj, hcl, hsl, hclp, hlG, eN, rfl⟩ := hP
      obtain ⟨sG, bG, aG⟩ := facts eN
      rw [Nat.sub_self] at hj
      have hj2 : judge p n R c draws (some its) = (if its.length > n then (.caught n "line", so) else if val p draws R ≠ cl then (.caught n "end", so) else (.passed, so)) := hj
      have lcond : EvT (tB (tGt (tCB (rLenQ K) (tCons (tVar 1) tNil)) (tVar 4))) [some (.ref a), some (.ref ax), some (.ref b), some (.int p), some (.int (n : Int)), some vr, some (.int c), some (.ref l), y8] G (decide (its.length > n)) :=
        et_is (et_B (e_cmp (e_len (ev_var rfl) aG) (ev_var rfl))) (by rw [hlen, decide_eq_decide]; omega)
      by_cases c1 : its.length > n
      · rw [decide_eq_true c1] at lcond
        rw [if_pos c1] at hj2
        refine q_when (b := true) lcond (fun _ H4 e4 => ?_) fun z => by cases z
        exact fin (o := (.caught n "line", so)) rfl (eN.trans e4) (EvU.s (eu_tup (ea_cons ev_c (ea_cons (ev_var rfl) (ea_cons ev_c ea_nil))) (by simp [vdV]))) (ev_var rfl) (e4 _ _ hlG) hj2
      rw [decide_eq_false c1] at lcond
      rw [if_neg c1] at hj2
      refine q_when (b := false) lcond (fun z => by cases z) fun _ H4 e4 => ?_
      have eN4 := eN.trans e4
      obtain ⟨s4, b4, a4⟩ := facts eN4
      have l4 := e4 _ _ hlG
      have vcond : EvT (tB (tNeI (tCall (sp_law_value 4 K) [] E0 (tCons (tVar 3) (tCons (tVar 5) (tCons (tCB (rTupQ K) (tCons (tVar 2) tNil)) tNil)))) (tOp (rIx K) (tVar 7) (tUn uNeg (tC (.int 1)))))) [some (.ref a), some (.ref ax), some (.ref b), some (.int p), some (.int (n : Int)), some vr, some (.int c), some (.ref l), y8] H4 (!decide (val p draws R = cl)) :=
        et_B (e_cmp (ev_call3S' (ev_var rfl) (ev_var rfl) (es_tupS (es_of (ev_var rfl) b4)) fun t G5 e5 ht => sv_law_value hp1 hp2 (dp_ex e5 _ _ s4.rl) ht hd (by rw [hdl]; exact s4.ok) (by have := rk_le R; have := s4.hh; omega)) (e_ixL (ev_var rfl) (e_neg ev_c) (sq_of l4) (end_cl hcl)))
      by_cases c2 : val p draws R = cl
      · rw [decide_eq_true c2] at vcond
        rw [if_neg (fun z => z c2)] at hj2
        refine q_when (b := false) vcond (fun z => by cases z) fun _ H5 e5 => ?_
        exact fin (o := (.passed, so)) rfl (eN4.trans e5) (EvU.s (eu_tup (ea_cons ev_c ea_nil) (by simp [vdV]))) (ev_var rfl) (e5 _ _ l4) hj2
      · rw [decide_eq_false c2] at vcond
        rw [if_pos c2] at hj2
        refine q_when (b := true) vcond (fun _ H5 e5 => ?_) fun z => by cases z
        exact fin (o := (.caught n "end", so)) rfl (eN4.trans e5) (EvU.s (eu_tup (ea_cons ev_c (ea_cons (ev_var rfl) (ea_cons ev_c ea_nil))) (by simp [vdV]))) (ev_var rfl) (e5 _ _ l4) hj2
end
end K10

set_option Elab.async false
set_option linter.all false
set_option maxRecDepth 100000
set_option maxHeartbeats 4000000
/-! K10RdS: alike, drawn sums, the best line -/
namespace K10
open PySem PySem.Spec PyProof.Rows L2 Evl LamX K10M
section
variable {P : Program} {w : World} {K : PySem.W.Frag} {mg : Str → Option Value} {base : Heap} {H H' : Hp} {l : Addr × Addr}

/-! ### alike -/
def scV : V → Bool
  | .int _ => true
  | .str z => SeqAt.shaped (.str z)
  | _ => false
def sp_law_alike (h : Nat) (K : PySem.W.Frag) : Sp := fun vs H Q _ => ∃ u v, vs = [u, v] ∧ RetV (.bl true) H Q ∧ ((u = v ∧ scV v = true) ∨ (0 < h ∧ ∃ a b xs, u = .ref a ∧ v = .ref b ∧ SqT K H a xs ∧ SqT K H b xs ∧ xs.length ≤ 1000 ∧ ∀ x ∈ xs, scV x = true))
theorem rd_alike {h : Nat} {spSelf : Sp} (ih : 0 < h → ∀ {H : Hp} {x : V}, scV x = true → SpV spSelf [x, x] H (.bl true)) (vs : List V) (H : Hp) (Q : VK) (E : XK) (hsp : sp_law_alike h K vs H Q E) :
    t_law_alike K spSelf ⟨fun _ H' => Q .non H', Q, fun _ _ => False, fun _ _ => False⟩ (start n_law_alike vs) H := by
  obtain ⟨u, v, rfl, q, hc⟩ := hsp
  rcases hc with ⟨rfl, hs⟩ | ⟨hh, a, b, xs, rfl, rfl, ha, hb, hl, hall⟩
  · cases u with
    | int i =>
      refine q_when (b := false) (et_is (et_B (e_isi2 (ev_var rfl) (Knd.int i) (by decide) (by decide))) (by decide +kernel)) (fun z => by cases z) fun _ H1 e1 => ?_
      refine q_when (b := false) (et_is (et_B (e_isi (ev_var rfl) (Knd.int i) (by decide))) (by decide +kernel)) (fun z => by cases z) fun _ H2 e2 => ?_
      refine q_when (b := false) (et_is (et_or (et_B (e_isN (ev_var rfl))) fun _ => et_B (e_isi (ev_var rfl) (Knd.int i) (by decide))) (by rw [decide_eq_false (by simp)]; decide +kernel)) (fun z => by cases z) fun _ H3 e3 => ?_
      exact s_ret (ev_is (ev_andV (e_isi (ev_var rfl) (Knd.int i) (by decide)) fun _ => ev_andV (e_eqS (e_isi (ev_var rfl) (Knd.int i) (by decide)) (e_isi (ev_var rfl) (Knd.int i) (by decide)) rfl) fun _ => e_eqD (ev_var rfl) (ev_var rfl) (.int i) (.int i) (by rfl) (by rfl)) (by simp [isaB, PyData.eqv])) fun H4 e4 => q H4 (((e1.trans e2).trans e3).trans e4)
    | str z =>
      refine q_when (b := false) (et_is (et_B (e_isi2 (ev_var rfl) (Knd.str z) (by decide) (by decide))) (by decide +kernel)) (fun z => by cases z) fun _ H1 e1 => ?_
      refine q_when (b := false) (et_is (et_B (e_isi (ev_var rfl) (Knd.str z) (by decide))) (by decide +kernel)) (fun z => by cases z) fun _ H2 e2 => ?_
      refine q_when (b := true) (et_is (et_or (et_B (e_isN (ev_var rfl))) fun _ => et_B (e_isi (ev_var rfl) (Knd.str z) (by decide))) (by rw [decide_eq_false (by simp)]; decide +kernel)) (fun _ H3 e3 => ?_) fun z => by cases z
      exact s_ret (ev_is (ev_andV (e_eqD (ev_var rfl) (ev_var rfl) (.str z) (.str z) hs hs) fun _ => e_eqS (e_isi (ev_var rfl) (Knd.str z) (by decide)) (e_isi (ev_var rfl) (Knd.str z) (by decide)) rfl) (by simp [isaB, PyData.eqv])) fun H4 e4 => q H4 (((e1.trans e2).trans e3).trans e4)
    | _ => cases hs
  · refine q_when (b := true) (et_is (et_B (e_isi2 (ev_var rfl) (Knd.tup hb) (by decide) (by decide))) (by decide +kernel)) (fun _ H1 e1 => ?_) fun z => by cases z
    refine q_when (b := false) (et_is (et_or (et_not (et_B (e_isi2 (ev_var rfl) (Knd.tup (ex_t e1 ha)) (by decide) (by decide)))) fun _ => et_test (e_neS (e_isi (ev_var rfl) (Knd.tup (ex_t e1 ha)) (by decide)) (e_isi (ev_var rfl) (Knd.tup (ex_t e1 hb)) (by decide)) rfl)) (by simp [isaB])) (fun z => by cases z) fun _ H2 e2 => ?_
    have e12 := e1.trans e2
    refine q_when (b := false) (et_is (et_B (e_cmp (e_len (ev_var rfl) (.inr (ex_t e12 ha))) (e_len (ev_var rfl) (.inr (ex_t e12 hb))))) (by simp)) (fun z => by cases z) fun _ H3 e3 => ?_
    have e13 := e12.trans e3
    have lc : EvL (tLc (iRng1 (tCons (tCB (rLenQ K) (tCons (tVar 1) tNil)) tNil)) (gName 2) (tNot (tB (tCall spSelf [] E0 (tCons (tOp (rIx K) (tVar 0) (tVar 2)) (tCons (tOp (rIx K) (tVar 1) (tVar 2)) tNil))))) (tVar 2) [2]) (start n_law_alike [.ref a, .ref b]) H3 (given ((xs.length : Int)).toNat (fun _ => false) fun _ => .non) := by
      refine el_lcR1 (n := (xs.length : Int)) (fun _ => false) (fun _ => .non) (ea_cons (e_len (ev_var rfl) (.inr (ex_t e13 hb))) ea_nil) (by omega) (fun _ => rfl) (fun m G eG hm => ?_) fun m G eG hm z => by cases z
      have hm2 : m < xs.length := by omega
      have hat : atI xs (m : Int) = some xs[m] := atI_nat (List.getElem?_eq_getElem hm2)
      exact et_is (et_not (et_B (ev_call (ea_cons (e_ixT (ev_var rfl) (ev_var rfl) (ex_t (e13.trans eG) ha) hat) (ea_cons (e_ixT (ev_var rfl) (ev_var rfl) (ex_t (e13.trans eG) hb) hat) ea_nil)) (ih hh (hall _ (List.getElem_mem hm2)))))) rfl
    have eg : given ((xs.length : Int)).toNat (fun _ => false) (fun _ => V.non) = [] := by
      unfold given
      rw [List.filter_eq_nil_iff.mpr (fun _ _ => by simp)]
      rfl
    rw [eg] at lc
    exact s_ret (ev_is (e_eqLL lc (el_lst ea_nil (by simp)) .nil .nil (by decide) (by decide)) (by simp [PyData.eqv, PyData.eqvAll])) fun H4 e4 => q H4 (e13.trans e4)
theorem ok_neverA (T : Top K mg) : Ok1 P w K mg base 1 "_law_alike" ["_law_found", "_law_due"] spNo := by
  refine T.ok (k := 0) (d := d_law_alike) 30 rfl sc_law_alike (fun _ _ _ _ _ _ us hl => match us, hl with | [_, _], _ => rfl) (fun vs H Q E h => h.elim) fun cdv A outer s H vs Q E hr h => h.elim
theorem len_law_alike {h : Nat} (vs : List V) (H : Hp) (Q : VK) (E : XK) (hs : sp_law_alike h K vs H Q E) : vs.length = 2 := by
  obtain ⟨u, v, rfl, _⟩ := hs
  rfl
theorem ok_law_alike (T : Top K mg) : ∀ h : Nat, Ok1 P w K mg base (2 + h) "_law_alike" ["_law_found", "_law_due"] (sp_law_alike h K)
  | 0 => mk_law_alike T (k := 1) (OSelf := ok_neverA T) (by decide) len_law_alike (rd_alike fun hh => absurd hh (Nat.not_lt_zero _))
  | h + 1 => mk_law_alike T (k := 2 + h) (OSelf := ok_law_alike T h) (by omega) len_law_alike (rd_alike fun _ {H x} hx => fun H1 e Q q E => ⟨x, x, rfl, q, .inl ⟨rfl, hx⟩⟩)
/-! ### a drawn sum -/
theorem m_cmp {σ : L2.St} {p : Int → Int → Bool} {ta tb : TE} {F G : V → Hp → Prop} (h : MEv K l ta σ H F) (k : ∀ x H1, Rw K l H H1 → F x H1 → MEv K l (tCmp p (tC x) tb) σ H1 G) : MEv K l (tCmp p ta tb) σ H G := fun Q q =>
  h (fun x H1 => tCmp p (tC x) tb σ H1 Q) fun x H1 r1 f1 => k x H1 r1 f1 Q fun v H2 r2 f2 => q v H2 (r1.trans r2) f2
theorem m_ifB {σ : L2.St} {te ta tb : TE} {F G : V → Hp → Prop} (h : MEv K l te σ H F) (k : ∀ v H1, Rw K l H H1 → F v H1 → ∃ b, v = .bl b ∧ (b = true → MEv K l ta σ H1 G) ∧ (b = false → MEv K l tb σ H1 G)) : MEv K l (tIf (tB te) ta tb) σ H G := fun Q q =>
  h _ fun v H1 r1 f1 => by
    obtain ⟨b, rfl, k1, k2⟩ := k v H1 r1 f1
    refine ⟨b, rfl, ?_⟩
    cases b with
    | true =>
      show ta σ H1 Q
      exact k1 rfl Q fun u H2 r2 f2 => q u H2 (r1.trans r2) f2
    | false =>
      show tb σ H1 Q
      exact k2 rfl Q fun u H2 r2 f2 => q u H2 (r1.trans r2) f2
def sp_law_sum (K : PySem.W.Frag) : Sp := fun vs H Q _ => ∃ (l : Addr × Addr) (p : Int), vs = [.ref l.1, .int p, .int 3, .int 3] ∧ RowOk K H l ∧ p ∈ primes ∧ RetR K l (fun v H' => ∃ a n vr R c, v = .ref a ∧ SumAt K H' a p n vr R c) H Q
theorem ok_law_sum (T : Top K mg) : Ok1 P w K mg base 10 "_law_sum" ["_law_row", "_law_p", "_law_most", "_law_deep"] (sp_law_sum K) := by
  refine mk_law_sum T (ok_law_taken T) (ok_law_rule T 3) (ok_law_total T) (by decide) (by decide) (by decide) (fun vs H Q E h => ?_) fun vs H Q E h => ?_
  · obtain ⟨l, p, rfl, _⟩ := h
    rfl
  obtain ⟨l, p, rfl, hr, hp, q⟩ := h
  obtain ⟨hp0, hp1, hp2⟩ := prime_small hp
  have hp5 := primes_in hp
  refine mq_asg (m_taken hr rfl (e_add (ev_var rfl) ev_c) (by decide) (by decide)) fun v H1 r1 ev => ?_
  obtain ⟨n, rfl, hn⟩ := ev
  have hn : n ≤ 3 := by omega
  refine mq_asg (l := l) (F := RuleT K p n 3) (m_call (FA := fun vs _ => vs = [.ref l.1, .int p, .int (n : Int), .int ((3 : Nat) : Int)]) (ma_of r1.r1 (ea_cons (ev_var rfl) (ea_cons (ev_var rfl) (ea_cons (ev_var rfl) (ea_cons (ev_var rfl) ea_nil)))) fun _ _ => rfl) fun vs H2 r2 ev Q k => ⟨l, p, n, 3, ev, Nat.le_refl 3, r2.r1, hp1, by omega, k⟩) fun vr H2 r2 ev => ?_
  obtain ⟨R, hd, hk, hh⟩ := ev
  refine q_asg (v := .int (total p n R [])) (ev_call4S (xs := []) (ev_var rfl) (ev_var rfl) (ev_var rfl) (EvU.s (eu_tup ea_nil (by simp))) fun t G e ht => sv_law_total (x := []) hp1 hp2 (dp_ex e _ _ hd) hk hh ht (fun c h => nomatch h) (Nat.zero_le n) hn) fun H3 e3 => ?_
  have r03 := (r1.trans r2).trans (.of e3 r2.r1)
  have hd3 := dp_ex e3 _ _ hd
  have tin := total_in hp0 n R []
  generalize total p n R [] = tt at tin ⊢
  refine ms_ret (l := l) (F := fun v H' => ∃ a n vr R c, v = .ref a ∧ SumAt K H' a p n vr R c) (m_tup (FA := fun xs G => ∃ c, xs = [.int p, .int (n : Int), vr, .int c] ∧ (0 ≤ c ∧ c < p) ∧ Dp K G vr (dR R)) (ma_cons (F := fun x _ => x = .int p) (m_of r03.r1 (ev_var rfl) fun _ _ => rfl) fun x G1 g1 ex => ?_) (fun xs G h => ?_) fun a xs G1 G2 r h e g => ?_) fun v G r f => q v G (r03.trans r) f
  · subst ex
    refine ma_cons (F := fun x _ => x = .int (n : Int)) (m_of g1.r1 (ev_var rfl) fun _ _ => rfl) fun x G2 g2 ex => ?_
    subst ex
    refine ma_cons (F := fun x _ => x = vr) (m_of g2.r1 (ev_var rfl) fun _ _ => rfl) fun x G3 g3 ex => ?_
    subst ex
    refine ma_cons (F := fun x _ => ∃ c, x = .int c ∧ 0 ≤ c ∧ c < p) (m_ifB (F := fun v _ => ∃ b, v = .bl b) (m_cmp (m_taken g3.r1 rfl ev_c (by decide) (by decide)) fun x G4 g4 ex => ?_) fun v G4 g4 ev => ?_) fun x G4 g4 ex => ?_
    · obtain ⟨j, rfl, _⟩ := ex
      exact m_of g4.r1 (e_cmp ev_c ev_c) fun _ _ => ⟨_, rfl⟩
    · obtain ⟨b, rfl⟩ := ev
      refine ⟨b, rfl, fun _ => m_of g4.r1 (ev_var rfl) fun _ _ => ⟨tt, rfl, tin⟩, fun _ => ?_⟩
      refine m_op (F := fun v _ => ∃ i, v = .int i) (m_op (F := fun v _ => ∃ i, v = .int i) (m_of g4.r1 (e_add (ev_var rfl) ev_c) fun _ _ => ⟨_, rfl⟩) fun x G5 g5 ex => ?_) fun x G5 g5 ex => ?_
      · obtain ⟨i, rfl⟩ := ex
        refine m_op2 (m_taken g5.r1 rfl (e_sub (ev_var rfl) ev_c) (by omega) (by omega)) fun y G6 g6 ey => ?_
        obtain ⟨j, rfl, _⟩ := ey
        exact m_of g6.r1 (e_add ev_c ev_c) fun _ _ => ⟨_, rfl⟩
      · obtain ⟨i, rfl⟩ := ex
        exact m_of g5.r1 (e_mod ev_c (ev_var rfl) hp0) fun _ _ => ⟨_, rfl, mod_in hp0 _⟩
    · obtain ⟨c, rfl, hc⟩ := ex
      exact ma_nil g4.r1 ⟨c, rfl, hc, rl_tex (((g1.trans g2).trans g3).trans g4).tex hd3⟩
  · obtain ⟨c, rfl, _⟩ := h
    simp
  · obtain ⟨c, rfl, hc, hd4⟩ := h
    exact ⟨a, n, vr, R, c, rfl, g, dp_ex e _ _ hd4, hk, hp, hn, hh, hc⟩
/-! ### the best line: its shape -/
theorem el_slL {σ : L2.St} {te : TE} {tl th : TO} {xs : List V} {lo hi : Option Int} (h : EvL te σ H xs) (h1 : EvO tl σ H lo) (h2 : EvO th σ H hi) : EvL (tSl (rSlL K) te tl th) σ H (cutV xs lo hi) := fun H1 e _ q =>
  h H1 e _ fun a H2 ha e2 g => h1 H2 (e.trans e2) _ fun H3 e3 => h2 H3 ((e.trans e2).trans e3) _ fun H4 e4 =>
    ⟨a, xs, rfl, sq_of ((e3.trans e4) _ _ g), fun p hp => q p _ (fresh_back ((e2.trans e3).trans e4) hp) (((e2.trans e3).trans e4).trans (Ex.new hp)) upd_same⟩
theorem el_catL {σ : L2.St} {ta tb : TE} {xs ys : List V} (ha : EvL ta σ H xs) (hb : EvL tb σ H ys) (hz : xs.length + ys.length ≤ 100000) : EvL (tOp rCat ta tb) σ H (xs ++ ys) := fun H1 e Q q =>
  ha H1 e _ fun a H2 _ e2 h2 => hb H2 (e.trans e2) _ fun b H3 _ e3 h3 => ⟨a, b, xs, ys, rfl, rfl, e3 _ _ h2, h3, sz_of hz, fun p hp => q p _ (fresh_back (e2.trans e3) hp) ((e2.trans e3).trans (Ex.new hp)) upd_same⟩
theorem el_catV {σ : L2.St} {ta tb : TE} {a : Addr} {xs ys : List V} (ha : Ev ta σ H (.ref a)) (hs : H a = some (.lst xs)) (hb : EvL tb σ H ys) (hz : xs.length + ys.length ≤ 100000) : EvL (tOp rCat ta tb) σ H (xs ++ ys) := fun H1 e Q q =>
  ha H1 e _ fun H2 e2 => hb H2 (e.trans e2) _ fun b H3 _ e3 h3 => ⟨a, b, xs, ys, rfl, rfl, ((e.trans e2).trans e3) _ _ hs, h3, sz_of hz, fun p hp => q p _ (fresh_back (e2.trans e3) hp) ((e2.trans e3).trans (Ex.new hp)) upd_same⟩
theorem el_rg {σ : L2.St} {ta tb : TE} {i j : Int} (ha : Ev ta σ H (.int i)) (hb : Ev tb σ H (.int j)) (h : RgOk i j) : EvL (tLstRg (tRg2 ta tb)) σ H (rgV i j) := fun H1 e Q q =>
  ha H1 e _ fun H2 e2 => hb H2 (e.trans e2) _ fun H3 e3 => ⟨i, j, rfl, rfl, h, fun p hp => q p _ (fresh_back (e2.trans e3) hp) ((e2.trans e3).trans (Ex.new hp)) upd_same⟩
theorem el_if {σ : L2.St} {t : TT} {ta tb : TE} {b : Bool} {xs : List V} (h : EvT t σ H b) (h1 : b = true → EvL ta σ H xs) (h2 : b = false → EvL tb σ H xs) : EvL (tIf t ta tb) σ H xs := fun H1 e Q q => h H1 e _ fun H2 e2 => by
  cases b with
  | true =>
    show ta σ H2 Q
    exact h1 rfl H2 (e.trans e2) Q fun p H3 hp e3 g => q p H3 (fresh_back e2 hp) (e2.trans e3) g
  | false =>
    show tb σ H2 Q
    exact h2 rfl H2 (e.trans e2) Q fun p H3 hp e3 g => q p H3 (fresh_back e2 hp) (e2.trans e3) g
theorem q_forLG {σ : L2.St} {te : TE} {tu tz : TS} {D : Ends} {k : Nat} {xs : List V} (h : EvL te σ H xs) (Pv : Nat → L2.St → Hp → Prop) (h0 : ∀ H1, Ex H H1 → Pv 0 σ H1)
    (hs : ∀ (m : Nat) (y : V) σ' G, Ex H G → xs[m]? = some y → Pv m σ' G → ∀ D' : Ends, D'.rt = D.rt → (∀ σ2 G2, Ex G G2 → Pv (m + 1) σ2 G2 → D'.nx σ2 G2) → tu D' (σ'.set k (some y)) G) (hd : ∀ σ' G, Ex H G → Pv xs.length σ' G → tz D σ' G) :
    tSeq (tFor (iList K te) (gName k) tu) tz D σ H := h H (Ex.refl H) _ fun p H1 _ e1 hp => ⟨p, rfl, ⟨xs, sq_of hp⟩, for_list (D := { D with nx := tz D }) (fun m σ' G => Ex H1 G ∧ Pv m σ' G) ⟨Ex.refl H1, h0 H1 e1⟩ (fun m σ' G _ z => ex_l z.1 (sq_of hp))
      (fun m y σ' G hm z => hs m y σ' G (e1.trans z.1) hm z.2 _ rfl fun σ2 G2 e2 hp2 => ⟨z.1.trans e2, hp2⟩) fun σ' G z => hd σ' G (e1.trans z.1) z.2⟩
theorem es_call1L {σ : L2.St} {ta : TE} {sp : Sp} {xs ys : List V} (a : EvL ta σ H xs) (h : ∀ l H1, Ex H H1 → H1 l = some (.lst xs) → SpS K sp [.ref l] H1 ys) : EvS K (tCall sp [] E0 (tCons ta tNil)) σ H ys := fun H1 e Q q =>
  a H1 e _ fun l H2 _ e2 g => h l H2 (e.trans e2) g H2 (Ex.refl H2) Q (fun p H3 e3 g3 => q p H3 (e2.trans e3) g3) E0
def sp_law_best (K : PySem.W.Frag) : Sp := fun vs H Q _ => ∃ (p c : Int) (a : Addr) (xs : List Int) (d : Nat), vs = [.int p, .ref a, .int c, .int (d : Int)] ∧ 1 < p ∧ p < 4294967296 ∧ SqT K H a (xs.map V.int) ∧ xs.length ≤ 1000 ∧ d ≤ 100 ∧ ∀ v H2 ys, Ex H H2 → TupI K H2 v ys → Q v H2
theorem rg_mem {i j : Int} {v : V} (h : v ∈ rgV i j) (h0 : 0 ≤ i) (h1 : j ≤ 1000) : ∃ c, v = .int c ∧ 0 ≤ c ∧ c < 4294967296 := by
  unfold rgV at h
  obtain ⟨k, hk, rfl⟩ := List.mem_map.mp h
  have := List.mem_range.mp hk
  exact ⟨_, rfl, by omega, by omega⟩
theorem cut_mem' {xs : List V} {lo hi : Option Int} {v : V} (h : v ∈ cutV xs lo hi) : v ∈ xs := List.mem_of_mem_drop (List.mem_of_mem_take h)
theorem ok_law_best (T : Top K mg) : Ok1 P w K mg base 2 "_law_best" ["_law_p", "_law_plain_here", "_law_claim", "_law_degree_here"] (sp_law_best K) := by
  refine mk_law_best T (ok_law_cut T) (ok_law_at T) (ok_law_atL T) (ok_law_inverse T) (by decide) (by decide) (by decide) (by decide) (fun vs H Q E h => ?_) fun vs H Q E h => ?_
  · obtain ⟨p, c, a, xs, d, rfl, _⟩ := h
    rfl
  obtain ⟨p, c, a, xs, d, rfl, hp, hp2, hs, hxl, hd, q⟩ := h
  have hp0 : 0 < p := by omega
  refine q_asg (e_mod (e_sub (e_sub (ev_var rfl) (ev_call (ea_cons (ev_var rfl) (ea_cons (ev_var rfl) (ea_cons ev_c ea_nil))) (sv_law_at hs hp0 hp2))) (ev_call (ea_cons (ev_var rfl) (ea_cons (ev_var rfl) (ea_cons ev_c ea_nil))) (sv_law_at hs hp0 hp2))) (ev_var rfl) hp0) fun H1 e1 => ?_
  have lin := mod_in hp0 (c - ev p 0 xs - ev p 1 xs)
  generalize (c - ev p 0 xs - ev p 1 xs) % p = lack at lin ⊢
  by_cases hz : lack = 0
  · exact q_when (b := true) (et_is (et_B (e_cmp (ev_var rfl) ev_c)) (decide_eq_true hz)) (fun _ H2 e2 => s_ret (ev_var rfl) fun H3 e3 => q _ H3 xs ((e1.trans e2).trans e3) ⟨a, rfl, ex_t ((e1.trans e2).trans e3) hs⟩) fun z => by cases z
  refine q_when (b := false) (et_is (et_B (e_cmp (ev_var rfl) ev_c)) (decide_eq_false hz)) (fun z => by cases z) fun _ H2 e2 => ?_
  refine q_asgL (xs := [.int 1]) (el_lst (ea_cons ev_c ea_nil) (by simp)) fun w0 H3 _ e3 hw0 => ?_
  have e03 := (e1.trans e2).trans e3
  have hmn : ∃ m : Nat, (if p - 1 < (d : Int) then p - 1 else (d : Int)) = (m : Int) := by
    by_cases h : p - 1 < (d : Int)
    · rw [if_pos h]
      exact ⟨(p - 1).toNat, by omega⟩
    · rw [if_neg h]
      exact ⟨d, rfl⟩
  obtain ⟨mn, hmn⟩ := hmn
  obtain ⟨zs, hlen, hzs, lst⟩ : ∃ zs : List V, zs.length ≤ 50 ∧ (∀ z ∈ zs, ∃ c, z = .int c ∧ 0 ≤ c ∧ c < 4294967296) ∧ EvL (tSl (rSlL K) (tIf (tB (tLt (tVar 0) (tC (.int 40)))) (tOp rCat (tLst (tCons (tC (.int 0)) tNil)) (tLstRg (tRg2 (tC (.int 2)) (tOp rAddI (tVar 0) (tC (.int 1)))))) (tOp rCat (tLst (tCons (tC (.int 0)) tNil)) (tLstRg (tRg2 (tC (.int 2)) (tC (.int 40)))))) tNoPart (tPart (tCB rMinQ (tCons (tVar 3) (tCons (tOp rSubI (tVar 0) (tC (.int 1))) tNil)))))
      [some (.int p), some (.ref a), some (.int c), some (.int (d : Int)), some (.int lack), some (.ref w0), none, none, none, none, none, none] H3 zs := by
    by_cases h40 : p < 40
    · refine ⟨cutV ([.int 0] ++ rgV 2 (p + 1)) none (some (mn : Int)), ?_, fun z hz => ?_, el_slL (el_if (b := true) (et_is (et_B (e_cmp (ev_var rfl) ev_c)) (decide_eq_true h40)) (fun _ => el_catL (el_lst (ea_cons ev_c ea_nil) (by simp)) (el_rg ev_c (e_add (ev_var rfl) ev_c) (RgOk.of_le (by decide) (by omega) (by decide) (by omega))) (by rw [rgV_length]; simp; omega)) fun z => by cases z) eo_none (eo_some (ev_is (e_min (ev_var rfl) (e_sub (ev_var rfl) ev_c)) (congrArg V.int hmn)))⟩
      · refine Nat.le_trans (cutV_length _ _ _) ?_
        rw [List.length_append, rgV_length]
        simp
        omega
      · rcases List.mem_append.mp (cut_mem' hz) with hz | hz
        · have : z = .int 0 := by simpa using hz
          exact ⟨0, this, by decide, by decide⟩
        · exact rg_mem hz (by decide) (by omega)
    · refine ⟨cutV ([.int 0] ++ rgV 2 40) none (some (mn : Int)), ?_, fun z hz => ?_, el_slL (el_if (b := false) (et_is (et_B (e_cmp (ev_var rfl) ev_c)) (decide_eq_false h40)) (fun z => by cases z) fun _ => el_catL (el_lst (ea_cons ev_c ea_nil) (by simp)) (el_rg ev_c ev_c (RgOk.of_le (by decide) (by decide) (by decide) (by decide))) (by rw [rgV_length]; decide)) eo_none (eo_some (ev_is (e_min (ev_var rfl) (e_sub (ev_var rfl) ev_c)) (congrArg V.int hmn)))⟩
      · refine Nat.le_trans (cutV_length _ _ _) ?_
        rw [List.length_append, rgV_length]
        decide
      · rcases List.mem_append.mp (cut_mem' hz) with hz | hz
        · have : z = .int 0 := by simpa using hz
          exact ⟨0, this, by decide, by decide⟩
        · exact rg_mem hz (by decide) (by decide)
  let Pv : Nat → L2.St → Hp → Prop := fun m σ G => ∃ (wl : Addr) (way : List Int) (y6 : Option V), σ = [some (.int p), some (.ref a), some (.int c), some (.int (d : Int)), some (.int lack), some (.ref wl), y6, none, none, none, none, none] ∧ G wl = some (.lst (way.map V.int)) ∧ way.length = m + 1 ∧ Ex H3 G
  refine q_forLG lst Pv (fun G e => ⟨w0, [1], none, rfl, e _ _ hw0, rfl, e⟩) (fun m y σ' G eG hy hP D' _ kk => ?_) fun σ' G eG hP => ?_
  · obtain ⟨wl, way, y6, rfl, hwl, hwn, eG3⟩ := hP
    obtain ⟨cc, rfl, hc0, hc1⟩ := hzs y (List.mem_of_getElem? hy)
    have hm := (List.getElem?_eq_some_iff.mp hy).1
    exact s_asgL (el_step (p := p) (place := cc) (pl := wl) (part := way) (fun _ => rfl) (fun _ => rfl) (fun _ => rfl) (fun _ => rfl) rfl (fun _ => rfl) (sq_of hwl) (by omega) hp0 ⟨hc0, hc1⟩) fun q1 G2 _ e2 h2 => kk _ _ e2 ⟨q1, _, _, rfl, h2, by rw [stepPart_len, hwn], eG3.trans e2⟩
  · obtain ⟨wl, way, y6, rfl, hwl, hwn, eG3⟩ := hP
    have e0G := e03.trans eG
    have iv := inv_in hp ((ev p 0 way + ev p 1 way) % p)
    refine q_asg (e_mod (e_mul (ev_var rfl) (ev_call (ea_cons (ev_var rfl) (ea_cons (e_mod (e_add (ev_call (ea_cons (ev_var rfl) (ea_cons (ev_var rfl) (ea_cons ev_c ea_nil))) (sv_law_atL (sq_of hwl) hp0 hp2)) (ev_call (ea_cons (ev_var rfl) (ea_cons (ev_var rfl) (ea_cons ev_c ea_nil))) (sv_law_atL (sq_of hwl) hp0 hp2))) (ev_var rfl) hp0) ea_nil)) (sv_law_inverse hp hp2)) (mul_ok lin hp2)) (ev_var rfl) hp0) fun H4 e4 => ?_
    have sin := mod_in hp0 (lack * inv p ((ev p 0 way + ev p 1 way) % p))
    generalize lack * inv p ((ev p 0 way + ev p 1 way) % p) % p = scale at sin ⊢
    have hw4 := e4 _ _ hwl
    have hs4 := ex_t (e0G.trans e4) hs
    have hmax : (if ((xs.length : Nat) : Int) > ((way.length : Nat) : Int) then ((xs.length : Nat) : Int) else ((way.length : Nat) : Int)) = ((max way.length xs.length : Nat) : Int) := max_int _ _
    refine q_asg (v := .int ((max way.length xs.length : Nat) : Int)) (ev_is (e_max (e_len (ev_var rfl) (.inl (sq_of hw4))) (e_len (ev_var rfl) (.inr hs4))) (by rw [List.length_map, List.length_map, hmax])) fun H5 e5 => ?_
    have hw5 := e5 _ _ hw4
    have hs5 := ex_t e5 hs4
    have hb : max way.length xs.length ≤ 2000 := by omega
    refine q_asgLL (xs := (xs ++ List.replicate (max way.length xs.length - xs.length) 0).map V.int) (ys := (way ++ List.replicate (max way.length xs.length - way.length) 0).map V.int) (by
      rw [List.map_append]
      exact el_catL (el_listA (ev_var rfl) (.inr hs5)) (el_rep0 (n := max way.length xs.length - xs.length) (ev_is (e_sub (ev_var rfl) (e_len (ev_var rfl) (.inr hs5))) (by rw [List.length_map]; congr 1; omega)) (by omega)) (by simp; omega)) (by
      rw [List.map_append]
      exact el_catV (ev_var rfl) hw5 (el_rep0 (n := max way.length xs.length - way.length) (ev_is (e_sub (ev_var rfl) (e_len (ev_var rfl) (.inl (sq_of hw5)))) (by rw [List.length_map]; congr 1; omega)) (by omega)) (by simp; omega)) fun f1 f2 H6 e6 h1 h2 => ?_
    have l1 : (xs ++ List.replicate (max way.length xs.length - xs.length) 0).length = max way.length xs.length := by rw [List.length_append, List.length_replicate]; omega
    have l2 : (way ++ List.replicate (max way.length xs.length - way.length) 0).length = max way.length xs.length := by rw [List.length_append, List.length_replicate]; omega
    generalize xs ++ List.replicate (max way.length xs.length - xs.length) 0 = us at h1 l1
    generalize way ++ List.replicate (max way.length xs.length - way.length) 0 = ws at h2 l2
    let rs : List Int := (List.range (max way.length xs.length)).map fun k => (us.getD k 0 + scale * ws.getD k 0) % p
    refine s_retS (es_call1L (xs := rs.map V.int) ?_ fun t G2 e7 g => ss_law_cut (.inl (sq_of g))) fun t H7 e7 h7 => q _ H7 (cut rs) ((((e0G.trans e4).trans e5).trans e6).trans e7) ⟨t, rfl, h7⟩
    have g : rs.map V.int = (List.range (((max way.length xs.length : Nat) : Int)).toNat).map fun k => V.int ((us.getD k 0 + scale * ws.getD k 0) % p) := by
      show ((List.range (max way.length xs.length)).map _).map V.int = _
      rw [List.map_map]
      rfl
    rw [g]
    exact el_mapR (n := ((max way.length xs.length : Nat) : Int)) _ (ea_cons (ev_var rfl) ea_nil) (by omega) (fun _ => rfl) fun k G2 e7 hk => e_mod (e_add (e_ixL (ev_var rfl) (ev_var rfl) (sq_of (e7 _ _ h1)) (int_at (by omega))) (e_mul (ev_var rfl) (e_ixL (ev_var rfl) (ev_var rfl) (sq_of (e7 _ _ h2)) (int_at (by omega))) (mul_ok sin hp2))) (ev_var rfl) hp0
end
end K10

set_option Elab.async false
set_option linter.all false
set_option maxRecDepth 100000
set_option maxHeartbeats 4000000
/-! K10RdT: bent lines -/
namespace K10
open PySem PySem.Spec PyProof.Rows L2 Evl LamX K10M
section
variable {P : Program} {w : World} {K : PySem.W.Frag} {mg : Str → Option Value} {base : Heap} {H H' : Hp} {l : Addr × Addr}

theorem m_ofU {σ : L2.St} {te : TE} {xs : List V} {F : V → Hp → Prop} (r : RowOk K H l) (h : EvU te σ H xs) (k : ∀ p H', H p = none → Ex H H' → H' p = some (.tup xs) → F (.ref p) H') : MEv K l te σ H F := fun Q q => h H (Ex.refl H) Q fun p H' hp e g => q _ H' (.of e r) (k p H' hp e g)
theorem m_ofN {σ : L2.St} {te : TE} {xs : List V} {F : V → Hp → Prop} (r : RowOk K H l) (h : EvL te σ H xs) (k : ∀ p H', H p = none → Ex H H' → H' p = some (.lst xs) → F (.ref p) H') : MEv K l te σ H F := fun Q q => h H (Ex.refl H) Q fun p H' hp e g => q _ H' (.of e r) (k p H' hp e g)
theorem m_dict {σ : L2.St} {F : V → Hp → Prop} (r : RowOk K H l) (k : ∀ p H', H p = none → Ex H H' → H' p = some (.dK []) → F (.ref p) H') : MEv K l tDNewK σ H F := fun Q q p hp => q _ _ (.of (Ex.new hp) r) (k p _ hp (Ex.new hp) upd_same)
theorem Knd.dict {a : Addr} (h : H a = some (.dK [])) : Knd K H (.ref a) "dict" := ⟨.base (.dK h), by simp [kinds]⟩
/-- an item among bent lines: a tuple, or what lies apart from the row and the list fl -/
def ItF (K : PySem.W.Frag) (l : Addr × Addr) (fl : Addr) (v : V) (H : Hp) : Prop := (∃ es, ItAt K H v (some es)) ∨ (v ≠ .ref l.1 ∧ v ≠ .ref fl ∧ ItAt K H v none)
theorem ItF.it {fl : Addr} {v : V} (h : ItF K l fl v H) : ∃ it, ItAt K H v it := by
  rcases h with ⟨es, h⟩ | ⟨_, _, h⟩
  · exact ⟨_, h⟩
  · exact ⟨_, h⟩
theorem ItF.keep {fl : Addr} {v : V} (t : TEx K H H') (e : ∀ a, a ≠ l.1 → a ≠ fl → At1 H H' a) (h : ItF K l fl v H) : ItF K l fl v H' := by
  rcases h with ⟨es, a, rfl, h⟩ | ⟨n1, n2, h⟩
  · exact .inl ⟨es, a, rfl, t _ _ h⟩
  · exact .inr ⟨n1, n2, h.at fun a ea => e a (fun z => n1 (by rw [ea, z])) fun z => n2 (by rw [ea, z])⟩
theorem ItF.rw {fl : Addr} {v : V} (r : Rw K l H H') (h : ItF K l fl v H) : ItF K l fl v H' := h.keep r.tex fun a n _ => r.xo.at n
theorem ItF.set {fl : Addr} {v : V} {xs ys : List V} (hf : H fl = some (.lst xs)) (h : ItF K l fl v H) : ItF K l fl v (upd H fl (.lst ys)) := h.keep (tex_upd hf) fun a _ n o e _ => by
  rw [upd_ne n]
  exact e
theorem its_of : ∀ {xs : List V}, (∀ y ∈ xs, ∃ it, ItAt K H y it) → ∃ its : List Itm, xs.length = its.length ∧ ∀ (m : Nat) (y : V), xs[m]? = some y → ∃ it, its[m]? = some it ∧ ItAt K H y it
  | [], _ => ⟨[], rfl, fun m y h => by simp at h⟩
  | x :: xs, h => by
    obtain ⟨it, h1⟩ := h x (by simp)
    obtain ⟨its, h2, h3⟩ := its_of (fun y hy => h y (List.mem_cons_of_mem _ hy))
    refine ⟨it :: its, by simp [h2], fun m y hm => ?_⟩
    cases m with
    | zero =>
      have e : x = y := by simpa using hm
      exact ⟨it, rfl, by rw [← e]; exact h1⟩
    | succ m => exact h3 m y (by simpa using hm)
theorem lns_of {a : Addr} {xs : List V} (hs : SqA K H a xs) (h : ∀ y ∈ xs, ∃ it, ItAt K H y it) : ∃ ls, LnsAt K H (.ref a) ls := by
  obtain ⟨its, h2, h3⟩ := its_of h
  exact ⟨some its, a, xs, rfl, hs, h2, h3⟩
/-- what a pick among lines holds -/
def LnR (K : PySem.W.Frag) (l : Addr × Addr) (fl : Addr) (v : V) (H : Hp) : Prop := (v ≠ .ref l.1 ∧ ∃ t, Knd K H v t ∧ t ≠ "tuple" ∧ t ≠ "list") ∨ (∃ a xs, v = .ref a ∧ SqT K H a xs ∧ ∀ y ∈ xs, ItF K l fl y H) ∨ ∃ a xs, v = .ref a ∧ a ≠ l.1 ∧ SqL K H a xs ∧ ∀ y ∈ xs, ItF K l fl y H
theorem LnR.rw {fl : Addr} {v : V} (r : Rw K l H H') (h : LnR K l fl v H) : LnR K l fl v H' := by
  rcases h with ⟨n, t, h1, h2⟩ | ⟨a, xs, rfl, h1, h2⟩ | ⟨a, xs, rfl, n, h1, h2⟩
  · exact .inl ⟨n, t, h1.at (fun a ea => r.xo.at fun z => n (by rw [ea, z])), h2⟩
  · exact .inr (.inl ⟨a, xs, rfl, r.tex _ _ h1, fun y hy => (h2 y hy).rw r⟩)
  · exact .inr (.inr ⟨a, xs, rfl, n, r.lst n h1, fun y hy => (h2 y hy).rw r⟩)
theorem LnR.lns {fl : Addr} {v : V} (h : LnR K l fl v H) : ∃ ls, LnsAt K H v ls := by
  rcases h with ⟨n, t, h1, h2⟩ | ⟨a, xs, rfl, h1, h2⟩ | ⟨a, xs, rfl, n, h1, h2⟩
  · exact ⟨none, t, h1, h2⟩
  · exact lns_of (.inr h1) fun y hy => (h2 y hy).it
  · exact lns_of (.inl h1) fun y hy => (h2 y hy).it
theorem tup_it {v : V} {us : List Int} (h : TupI K H v us) : ItAt K H v (some (us.map En.int)) := by
  obtain ⟨a, rfl, h⟩ := h
  exact ItAt.ints h
theorem data_of : ∀ {us : List V}, (∀ y ∈ us, ∃ xs, TupI K H y xs) → ∃ ds, DpAll K H us ds ∧ PyData.canLayAll0 ds = true ∧ PyData.depthAll ds ≤ 1 ∧ ds.isEmpty = us.isEmpty
  | [], _ => ⟨[], .nil, rfl, Nat.zero_le _, rfl⟩
  | u :: us, h => by
    obtain ⟨xs, a, rfl, h1⟩ := h u (by simp)
    obtain ⟨ds, h2, h3, h4, _⟩ := data_of (fun y hy => h y (List.mem_cons_of_mem _ hy))
    refine ⟨.tuple ((xs.map En.int).map enD) :: ds, .cons (.tup h1 (by rw [ints_en]; exact en_dp _)) h2, ?_, ?_, rfl⟩
    · simp [PyData.canLayAll0, PyData.canLay0, -List.map_map, en_lay, h3]
    · simp [PyData.depthAll, PyData.depth, -List.map_map, en_depth]
      omega
theorem eqv_nil (ds : List PyData) : PyData.eqv (.list ds) (.list []) = ds.isEmpty := by
  cases ds <;> simp [PyData.eqv, PyData.eqvAll]
theorem sh_list {ds : List PyData} (h : PyData.canLayAll0 ds = true) (h2 : PyData.depthAll ds ≤ 1) : SeqAt.shaped (.list ds) = true := by
  simp [SeqAt.shaped, PyData.canLay0, PyData.depth, h]
  omega
theorem mq_par {σ : L2.St} {tas : TA} {tz : TS} {D : Ends} {i j : Nat} {F : V → V → Hp → Prop} (h : MAv K l tas σ H fun vs H1 => ∃ x y, vs = [x, y] ∧ F x y H1) (k : ∀ x y H1, Rw K l H H1 → F x y H1 → tz D ((σ.set i (some x)).set j (some y)) H1) : tSeq (tPar i j tas) tz D σ H := h _ fun vs H1 r f => by
  obtain ⟨x, y, rfl, f⟩ := f
  exact ⟨x, y, rfl, k x y H1 r f⟩
theorem ms_setL {σ : L2.St} {te : TE} {F : V → Hp → Prop} {D : Ends} {i5 i6 j : Nat} {fl : Addr} {us : List V} (h : MEv K l te σ H F) (h5 : σ[i5]? = some (some (.ref fl))) (h6 : σ[i6]? = some (some (.int (j : Int)))) (hl : ∀ H1, Rw K l H H1 → H1 fl = some (.lst us)) (hj : j < us.length)
    (k : ∀ v H1, Rw K l H H1 → F v H1 → D.nx σ (upd H1 fl (.lst (us.set j v)))) : tAsg te (gSub (tVar i5) (tVar i6) rSetL) D σ H := h _ fun v H1 r f => ⟨.ref fl, h5, .int (j : Int), h6, fl, us, (j : Int), j, rfl, rfl, hl H1 r, ixN_nat hj, k v H1 r f⟩
def sp_law_bent (K : PySem.W.Frag) : Sp := fun vs H Q _ => ∃ (l : Addr × Addr) (p : Int) (ll dl : Addr) (xs : List V) (n : Nat) (R : Rl), vs = [.ref l.1, .int p, .ref ll, .ref dl] ∧ RowOk K H l ∧ p ∈ primes ∧ SqL K H ll xs ∧ ll ≠ l.1 ∧ xs.length = n ∧ n ≤ 3 ∧ (∀ y ∈ xs, ∃ us, TupI K H y us) ∧ SqL K H dl (dgV n R) ∧ dl ≠ l.1 ∧ (∀ i, dg i R ≤ 16) ∧
  RetR K l (fun v H' => ∃ ls, LnsAt K H' v ls) H Q
theorem ok_law_bent (T : Top K mg) : Ok1 P w K mg base 5 "_law_bent" ["_law_row", "_law_p", "_law_lines", "_law_degrees_here"] (sp_law_bent K) := by
  refine mk_law_bent T (ok_law_taken T) (ok_law_pick T) (ok_law_numbers T) (ok_law_cut T) (ok_law_line T) (ok_law_at T) (ok_law_best T) (by decide) (by decide) (by decide) (by decide) (by decide) (by decide) (by decide) (fun vs H Q E h => ?_) fun vs H Q E h => ?_
  · obtain ⟨l, p, ll, dl, xs, n, R, rfl, _⟩ := h
    rfl
  obtain ⟨l, p, ll, dl, xs, n, R, rfl, hr, hp, hll, hln, hxn, hn, hxs, hdl, hdn, hdg, q⟩ := h
  obtain ⟨hp0, hp1, hp2⟩ := prime_small hp
  refine mq_par (l := l) (F := fun x y G => ∃ (wy : Nat) (fl : Addr) (Hb : Hp), x = .int (wy : Int) ∧ wy < 12 ∧ y = .ref fl ∧ Rw K l H Hb ∧ Hb fl = none ∧ Rw K l Hb G ∧ G fl = some (.lst xs)) (ma_cons (m_taken hr rfl ev_c (by decide) (by decide)) fun x H1 r1 ex => ?_) fun x y G rG hF => ?_
  · obtain ⟨wy, rfl, hw⟩ := ex
    exact ma_cons (F := fun y G => ∃ fl, y = .ref fl ∧ H1 fl = none ∧ Ex H1 G ∧ G fl = some (.lst xs)) (m_ofN r1.r1 (el_listA (ev_var rfl) (.inl (r1.lst hln hll))) fun p G hp e g => ⟨p, rfl, hp, e, g⟩) fun y G g2 ey => by
      obtain ⟨fl, rfl, h1, h2, h3⟩ := ey
      exact ma_nil g2.r1 ⟨_, _, rfl, wy, fl, H1, rfl, by omega, rfl, r1, h1, .of h2 r1.r1, h3⟩
  obtain ⟨wy, fl, Hb, rfl, hw, rfl, rb, hfb, rbG, hfG⟩ := hF
  have hfn := fresh_ne rb.r1 hfb
  have itG : ∀ {G : Hp}, Rw K l Hb G → ∀ y ∈ xs, ∃ us, TupI K G y us := fun {G} r y hy => by
    obtain ⟨us, a, rfl, h⟩ := hxs y hy
    exact ⟨us, a, rfl, (rb.trans r).tex _ _ h⟩
  have itF : ∀ {G : Hp}, Rw K l Hb G → ∀ y ∈ xs, ItF K l fl y G := fun {G} r y hy => by
    obtain ⟨us, h⟩ := itG r y hy
    exact .inl ⟨_, tup_it h⟩
  -- way 0
  by_cases w0 : (wy : Int) = 0
  · refine q_when (b := true) (et_is (et_B (e_cmp (ev_var rfl) ev_c)) (decide_eq_true w0)) (fun _ H2 e2 => ?_) fun z => by cases z
    have r2 := rbG.trans (.of e2 rbG.r1)
    refine ms_ret (l := l) (m_pickA (S := LnR K l fl) (fun v H1 H2 r h => h.rw r) r2.r1 rfl (ma_cons (F := fun v _ => v = .non) (m_of r2.r1 ev_c fun _ _ => rfl) fun x1 G1 g1 f1 => ma_cons (F := fun v _ => v = .str "x") (m_of g1.r1 ev_c fun _ _ => rfl) fun x2 G2 g2 f2 => ma_cons (F := fun v _ => v = .int 3) (m_of g2.r1 ev_c fun _ _ => rfl) fun x3 G3 g3 f3 =>
      ma_cons (F := LnR K l fl) (m_dict g3.r1 fun p G hp e g => .inl ⟨fun z => fresh_ne g3.r1 hp (V.ref.inj z), "dict", Knd.dict g, by decide, by decide⟩) fun x4 G4 g4 f4 =>
      ma_cons (F := LnR K l fl) (m_ofU g4.r1 (eu_tup ea_nil (by simp)) fun p G hp e g => .inr (.inl ⟨p, [], rfl, st_of g, fun y hy => nomatch hy⟩)) fun x5 G5 g5 f5 =>
      ma_cons (F := LnR K l fl) (m_ofN g5.r1 (el_lst ea_nil (by simp)) fun p G hp e g => .inr (.inr ⟨p, [], rfl, fresh_ne g5.r1 hp, sq_of g, fun y hy => nomatch hy⟩)) fun x6 G6 g6 f6 => ma_nil g6.r1 ⟨by simp, by simp, fun v hv => ?_⟩)) fun v G3 r3 f => q v G3 ((rb.trans r2).trans r3) f.lns
    simp only [List.mem_cons, List.not_mem_nil, or_false] at hv
    rcases hv with rfl | rfl | rfl | rfl | rfl | rfl
    · rw [f1]
      exact .inl ⟨by simp, _, Knd.non, by decide, by decide⟩
    · rw [f2]
      exact .inl ⟨by simp, _, Knd.str _, by decide, by decide⟩
    · rw [f3]
      exact .inl ⟨by simp, _, Knd.int _, by decide, by decide⟩
    · exact (f4.rw g5).rw g6
    · exact f5.rw g6
    · exact f6
  refine q_when (b := false) (et_is (et_B (e_cmp (ev_var rfl) ev_c)) (decide_eq_false w0)) (fun z => by cases z) fun _ H2 e2 => ?_
  have r2 := rbG.trans (.of e2 rbG.r1)
  have hf2 := e2 _ _ hfG
  -- way 1
  by_cases w1 : (wy : Int) = 1
  · refine q_when (b := true) (et_is (et_B (e_cmp (ev_var rfl) ev_c)) (decide_eq_true w1)) (fun _ H3 e3 => ?_) fun z => by cases z
    have r3 := r2.trans (.of e3 r2.r1)
    refine ms_ret (l := l) (F := fun v H' => ∃ ls, LnsAt K H' v ls) (m_op (F := fun x G => ∃ t, x = .ref t ∧ SqT K G t xs) (m_ofU r3.r1 (eu_tupL' (ev_var rfl) (sq_of (e3 _ _ hf2))) fun p G hp e g => ⟨p, rfl, st_of g⟩) fun x G4 g4 ex => ?_) fun v G r f => q v G ((rb.trans r3).trans r) f
    obtain ⟨t, rfl, ht⟩ := ex
    refine m_op2 (F := fun y G => ∃ t2 z, y = .ref t2 ∧ SqT K G t2 [z] ∧ ItF K l fl z G) (m_tup (FA := fun ys G => ∃ z, ys = [z] ∧ ItF K l fl z G) (ma_cons (m_pickA (S := ItF K l fl) (fun v H1 H2 r h => h.rw r) g4.r1 rfl (ma_cons (F := ItF K l fl) (m_ofU g4.r1 (eu_tup ea_nil (by simp)) fun p G hp e g => .inl ⟨[], p, rfl, st_of g⟩) fun x1 G1 g1 f1 => ma_cons (F := ItF K l fl) (m_ofU g1.r1 (eu_tup (ea_cons ev_c ea_nil) (by simp)) fun p G hp e g => .inl ⟨[.int 1], p, rfl, st_of g⟩) fun x2 G2 g2 f2 =>
      ma_cons (F := ItF K l fl) (m_of g2.r1 ev_c fun _ _ => .inr ⟨by simp, by simp, _, Knd.non, by decide⟩) fun x3 G3 g3 f3 => ma_nil g3.r1 ⟨by simp, by simp, fun v hv => ?_⟩)) fun z G5 g5 fz => ma_nil g5.r1 ⟨z, rfl, fz⟩) (fun ys G h => ?_) fun a ys G1 G2 r h e g => ?_) fun y G5 g5 ey => ?_
    · simp only [List.mem_cons, List.not_mem_nil, or_false] at hv
      rcases hv with rfl | rfl | rfl
      · exact (f1.rw g2).rw g3
      · exact f2.rw g3
      · exact f3
    · obtain ⟨z, rfl, _⟩ := h
      simp
    · obtain ⟨z, rfl, hz⟩ := h
      exact ⟨a, z, rfl, g, hz.rw (.of e r.r1)⟩
    · obtain ⟨t2, z, rfl, ht2, hz⟩ := ey
      refine m_ofS g5.r1 (es_catA (es_of ev_c (g5.tex _ _ ht)) (es_of ev_c ht2) (by simp; omega)) fun p G6 e6 g6 => lns_of (.inr g6) fun y hy => ?_
      rcases List.mem_append.mp hy with hy | hy
      · exact (itF (((r3.trans g4).trans g5).trans (.of e6 g5.r1)) y hy).it
      · have : y = z := by simpa using hy
        rw [this]
        exact (hz.rw (.of e6 g5.r1)).it
  refine q_when (b := false) (et_is (et_B (e_cmp (ev_var rfl) ev_c)) (decide_eq_false w1)) (fun z => by cases z) fun _ H3 e3 => ?_
  have r3 := r2.trans (.of e3 r2.r1)
  have hf3 := e3 _ _ hf2
  -- ways 2, 3, or no line
  obtain ⟨ds, d1, d2, d3, d4⟩ := data_of (itG r3)
  have ct : EvT (tOr (tTest (tOp (rEqD K) (tVar 5) (tLst tNil))) (tB (tLt (tVar 4) (tC (.int 4))))) [some (.ref l.1), some (.int p), some (.ref ll), some (.ref dl), some (.int (wy : Int)), some (.ref fl), none, none, none] H3 (xs.isEmpty || decide ((wy : Int) < 4)) :=
    et_is (et_or (et_test (e_eqDL (ev_var rfl) (el_lst ea_nil (by simp)) (.lst (sq_of hf3) d1) .nil (sh_list d2 d3) (by decide))) fun _ => et_B (e_cmp (ev_var rfl) ev_c)) (by rw [eqv_nil, d4])
  by_cases w4 : xs = [] ∨ (wy : Int) < 4
  · have eb : (xs.isEmpty || decide ((wy : Int) < 4)) = true := by
      rcases w4 with z | z
      · rw [z]
        rfl
      · rw [decide_eq_true z, Bool.or_true]
    refine q_when (b := true) (et_is ct eb) (fun _ H4 e4 => ?_) fun z => by cases z
    have r4 := r3.trans (.of e4 r3.r1)
    have hf4 := e4 _ _ hf3
    refine ms_ret (l := l) (m_pickA (S := LnR K l fl) (fun v H1 H2 r h => h.rw r) r4.r1 rfl (ma_cons (F := LnR K l fl) (m_ofU r4.r1 (eu_tupL' (ev_var rfl) (sq_of hf4)) fun p G hp e g => .inr (.inl ⟨p, xs, rfl, st_of g, itF (r4.trans (.of e r4.r1))⟩)) fun x1 G1 g1 f1 =>
      ma_cons (F := LnR K l fl) (m_of g1.r1 (ev_var rfl) fun G e => .inr (.inr ⟨fl, xs, rfl, hfn, sq_of (e _ _ (g1.xo _ _ hfn hf4)), itF ((r4.trans g1).trans (.of e g1.r1))⟩)) fun x2 G2 g2 f2 => ma_nil g2.r1 ⟨by simp, by simp, fun v hv => ?_⟩)) fun v G r f => q v G ((rb.trans r4).trans r) f.lns
    simp only [List.mem_cons, List.not_mem_nil, or_false] at hv
    rcases hv with rfl | rfl
    · exact f1.rw g2
    · exact f2
  have hne : xs ≠ [] := fun z => w4 (.inl z)
  have hw4 : ¬ (wy : Int) < 4 := fun z => w4 (.inr z)
  have eb : (xs.isEmpty || decide ((wy : Int) < 4)) = false := by
    rw [decide_eq_false hw4]
    cases xs with
    | nil => exact absurd rfl hne
    | cons a b => rfl
  have hn0 : 0 < n := by
    rw [← hxn]
    exact List.length_pos_iff.mpr hne
  refine q_when (b := false) (et_is ct eb) (fun z => by cases z) fun _ H4 e4 => ?_
  have r4 := r3.trans (.of e4 r3.r1)
  have hf4 := e4 _ _ hf3
  refine mq_asg (m_taken (n := (n : Int)) r4.r1 rfl (ev_is (e_len (ev_var rfl) (.inl (sq_of hf4))) (by rw [hxn])) (by omega) (by omega)) fun v H5 r5 ev => ?_
  obtain ⟨j, rfl, hj⟩ := ev
  have hj : j < n := by omega
  have rb5 := r4.trans r5
  have hf5 : H5 fl = some (.lst xs) := r5.xo _ _ hfn hf4
  -- way 4
  by_cases c4 : (wy : Int) = 4
  · refine q_when (b := true) (et_is (et_B (e_cmp (ev_var rfl) ev_c)) (decide_eq_true c4)) (fun _ H6 e6 => ?_) fun z => by cases z
    refine s_retS (K := K) (EvU.s (eu_tupL (el_sl (ev_var rfl) eo_none (eo_some (ev_var rfl)) (sq_of (e6 _ _ hf5))))) fun t H7 e7 h7 => ?_
    have r7 := rb5.trans (.of (e6.trans e7) rb5.r1)
    exact q _ H7 (rb.trans r7) (lns_of (.inr h7) fun y hy => (itF r7 y (cut_mem' hy)).it)
  refine q_when (b := false) (et_is (et_B (e_cmp (ev_var rfl) ev_c)) (decide_eq_false c4)) (fun z => by cases z) fun _ H6 e6 => ?_
  have r6 := rb5.trans (.of e6 rb5.r1)
  have hf6 := e6 _ _ hf5
  -- the end, some item written anew
  have fin : ∀ {G : Hp} {σ : L2.St} {us : List V} {D : Ends}, D.rt = Q → σ[5]? = some (some (.ref fl)) → Rw K l Hb G → G fl = some (.lst us) → (∀ y ∈ us, ItF K l fl y G) → tRet (tCB (rTupQ K) (tCons (tVar 5) tNil)) D σ G := by
    intro G σ us D hD h5 rG2 hG2 hit
    refine s_retS (K := K) (EvU.s (eu_tupL' (ev_var h5) (sq_of hG2))) fun t H7 e7 h7 => ?_
    rw [hD]
    exact q _ H7 (rb.trans (rG2.trans (.of e7 rG2.r1))) (lns_of (.inr h7) fun y hy => ((hit y hy).rw (.of e7 rG2.r1)).it)
  have put : ∀ {G : Hp} {v : V}, Rw K l Hb G → G fl = some (.lst xs) → ItF K l fl v G → Rw K l Hb (upd G fl (.lst (xs.set j v))) ∧ ∀ y ∈ xs.set j v, ItF K l fl y (upd G fl (.lst (xs.set j v))) := fun {G v} rG2 hG2 hv => by
    refine ⟨rw_new rG2 hfb, fun y hy => ?_⟩
    rcases List.mem_or_eq_of_mem_set hy with hy | rfl
    · exact (itF rG2 y hy).set hG2
    · exact hv.set hG2
  have hjx : j < xs.length := by omega
  have keepF : ∀ {G G2 : Hp}, G fl = some (.lst xs) → Rw K l G G2 → G2 fl = some (.lst xs) := fun h r => r.xo _ _ hfn h
  have hdj : atI (dgV n R) (j : Int) = some (.int ((dg j R : Nat) : Int)) := atI_nat (by
    unfold dgV
    rw [List.getElem?_map, List.getElem?_range hj]
    rfl)
  have hxj : atI xs (j : Int) = some xs[j] := atI_nat (List.getElem?_eq_getElem hjx)
  have hd16 := hdg j
  -- way 5
  by_cases c5 : (wy : Int) = 5
  · refine q_when (b := true) (et_is (et_B (e_cmp (ev_var rfl) ev_c)) (decide_eq_true c5)) (fun _ H7 e7 => ?_) fun z => by cases z
    have r7 := r6.trans (.of e7 r6.r1)
    have hf7 := e7 _ _ hf6
    have nf : ∀ {G : Hp} {p : Addr}, G fl = some (.lst xs) → G p = none → V.ref p ≠ .ref fl := fun {G p} h hp z => by
      rw [V.ref.inj z, h] at hp
      cases hp
    refine ms_setL (F := ItF K l fl) (us := xs) (m_pickA (S := ItF K l fl) (fun v H1 H2 r h => h.rw r) r7.r1 rfl (ma_cons (F := ItF K l fl) (m_of r7.r1 ev_c fun _ _ => .inr ⟨by simp, by simp, _, Knd.non, by decide⟩) fun x1 G1 g1 f1 =>
      ma_cons (F := ItF K l fl) (m_ofN g1.r1 (el_lst (ea_cons ev_c ea_nil) (by simp)) fun p G hp e g => .inr ⟨fun z => fresh_ne g1.r1 hp (V.ref.inj z), nf (keepF hf7 g1) hp, "list", Knd.lst (sq_of g), by decide⟩) fun x2 G2 g2 f2 =>
      ma_cons (F := ItF K l fl) (m_ofU g2.r1 (eu_tup (ea_cons (ev_var rfl) ea_nil) (by simp)) fun a G hp e g => .inl ⟨[.int p], a, rfl, st_of g⟩) fun x3 G3 g3 f3 =>
      ma_cons (F := ItF K l fl) (m_ofU g3.r1 (eu_tup (ea_cons ev_c (ea_cons ev_c ea_nil)) (by simp)) fun p G hp e g => .inl ⟨[.int 1, .int 0], p, rfl, st_of g⟩) fun x4 G4 g4 f4 =>
      ma_cons (F := ItF K l fl) (m_ofU g4.r1 (eu_tup (ea_cons ev_c ea_nil) (by simp)) fun p G hp e g => .inl ⟨[.bl true], p, rfl, st_of g⟩) fun x5 G5 g5 f5 =>
      ma_cons (F := ItF K l fl) (m_of g5.r1 ev_c fun _ _ => .inr ⟨by simp, by simp, _, Knd.str _, by decide⟩) fun x6 G6 g6 f6 =>
      ma_cons (F := ItF K l fl) (m_of g6.r1 ev_c fun _ _ => .inr ⟨by simp, by simp, _, Knd.int _, by decide⟩) fun x7 G7 g7 f7 =>
      ma_cons (F := ItF K l fl) (m_ofU g7.r1 (eu_tup (ea_cons (e_sub ev_c ev_c) ea_nil) (by simp)) fun p G hp e g => .inl ⟨[.int (0 - 1)], p, rfl, st_of g⟩) fun x8 G8 g8 f8 =>
      ma_cons (F := ItF K l fl) (m_dict g8.r1 fun p G hp e g => .inr ⟨fun z => fresh_ne g8.r1 hp (V.ref.inj z), nf (keepF hf7 (((((((g1.trans g2).trans g3).trans g4).trans g5).trans g6).trans g7).trans g8)) hp, "dict", Knd.dict g, by decide⟩) fun x9 G9 g9 f9 => ma_nil g9.r1 ⟨by simp, by simp, fun v hv => ?_⟩)) rfl rfl (fun H1 r => keepF hf7 r) hjx fun v H8 r8 fv => ?_
    · simp only [List.mem_cons, List.not_mem_nil, or_false] at hv
      rcases hv with rfl | rfl | rfl | rfl | rfl | rfl | rfl | rfl | rfl
      · exact ((((((((f1.rw g2).rw g3).rw g4).rw g5).rw g6).rw g7).rw g8).rw g9)
      · exact (((((((f2.rw g3).rw g4).rw g5).rw g6).rw g7).rw g8).rw g9)
      · exact ((((((f3.rw g4).rw g5).rw g6).rw g7).rw g8).rw g9)
      · exact (((((f4.rw g5).rw g6).rw g7).rw g8).rw g9)
      · exact ((((f5.rw g6).rw g7).rw g8).rw g9)
      · exact (((f6.rw g7).rw g8).rw g9)
      · exact ((f7.rw g8).rw g9)
      · exact f8.rw g9
      · exact f9
    · obtain ⟨p1, p2⟩ := put (r7.trans r8) (keepF hf7 r8) fv
      have pf : (upd H8 fl (.lst (xs.set j v))) fl = some (.lst (xs.set j v)) := upd_same
      generalize upd H8 fl (.lst (xs.set j v)) = G8 at p1 p2 pf ⊢
      refine q_when (b := false) (et_is (et_B (e_cmp (ev_var rfl) ev_c)) (decide_eq_false (by omega))) (fun z => by cases z) fun _ H9 e9 => ?_
      refine q_when (b := false) (et_is (et_test (e_inU (ev_var rfl) (eu_tup (ea_cons ev_c (ea_cons ev_c ea_nil)) (by simp)) rfl rfl)) (by rw [in_two]; exact decide_eq_false (by omega))) (fun z => by cases z) fun _ HA eA => ?_
      refine q_when (b := false) (et_is (et_B (e_cmp (ev_var rfl) ev_c)) (decide_eq_false (by omega))) (fun z => by cases z) fun _ HB eB => ?_
      have eE := (e9.trans eA).trans eB
      have rE := Rw.of eE p1.r1
      exact fin rfl rfl (p1.trans rE) (eE _ _ pf) fun y hy => (p2 y hy).rw rE
  refine q_when (b := false) (et_is (et_B (e_cmp (ev_var rfl) ev_c)) (decide_eq_false c5)) (fun z => by cases z) fun _ H7 e7 => ?_
  have r7 := r6.trans (.of e7 r6.r1)
  have hf7 := e7 _ _ hf6
  obtain ⟨uj, huj⟩ := itG r7 xs[j] (List.getElem_mem hjx)
  obtain ⟨aj, eaj, hsj⟩ := huj
  have hxj2 : atI xs (j : Int) = some (.ref aj) := by rw [← eaj]; exact hxj
  have hd7 : ∀ {G : Hp}, Rw K l Hb G → SqL K G dl (dgV n R) := fun {G} r => (rb.trans r).lst hdn hdl
  -- way 6
  by_cases c6 : (wy : Int) = 6
  · refine q_when (b := true) (et_is (et_B (e_cmp (ev_var rfl) ev_c)) (decide_eq_true c6)) (fun _ H8 e8 => ?_) fun z => by cases z
    have r8 := r7.trans (.of e8 r7.r1)
    refine q_asg (e_add (e_ixL (ev_var rfl) (ev_var rfl) (hd7 r8) hdj) ev_c) fun H9 e9 => ?_
    have r9 := r8.trans (.of e9 r8.r1)
    have hf9 := e9 _ _ (e8 _ _ hf7)
    have es1 : ((dg j R : Nat) : Int) + 1 = ((dg j R + 1 : Nat) : Int) := by omega
    refine ms_setL (l := l) (F := ItF K l fl) (us := xs) (m_if (b := decide ((uj.length : Int) ≤ ((dg j R : Nat) : Int) + 1)) r9.r1 (et_is (et_B (e_cmp (e_len (e_ixL (ev_var rfl) (ev_var rfl) (sq_of hf9) hxj2) (.inr (ex_t (e8.trans e9) hsj))) (ev_var rfl))) (by rw [List.length_map])) (fun _ HA eA => ?_) fun _ HA eA => ?_) rfl rfl (fun H1 r => keepF hf9 r) hjx fun v HA rA fv => ?_
    · have rA := r9.r1.ex eA
      refine m_op (F := fun x G => ∃ (t : Addr) (us : List Int), x = .ref t ∧ SqT K G t (us.map V.int) ∧ us.length ≤ 1000) (m_call (FA := fun vs G => ∃ (t : Addr) (us : List Int), vs = [.ref t] ∧ SqT K G t (us.map V.int) ∧ us.length ≤ 1000) (ma_cons (m_numbers (n := dg j R + 1) rA rfl rfl (ev_is (ev_var rfl) (by rw [es1])) hp1 (by omega)) fun x G g ex => ?_) fun vs G g ev Q k => ?_) fun x G g ex => ?_
      · obtain ⟨t, us, rfl, ht, hul, _⟩ := ex
        exact ma_nil g.r1 ⟨t, us, rfl, ht, by omega⟩
      · obtain ⟨t, us, rfl, ht, hul⟩ := ev
        exact ⟨t, us, rfl, .inr ht, fun t2 G2 e2 h2 => k _ G2 (.of e2 g.r1) ⟨t2, cut us, rfl, h2, Nat.le_trans (cut_len us) hul⟩⟩
      · obtain ⟨t, us, rfl, ht, hul⟩ := ex
        refine m_ofS g.r1 (es_catA (ys := [.int 1]) (es_of ev_c ht) (EvU.s (eu_tup (ea_cons ev_c ea_nil) (by simp))) (by rw [List.length_map]; show us.length + 1 ≤ 100000; omega)) fun t2 G2 e2 h2 => .inl ⟨(us ++ [1]).map En.int, t2, rfl, ?_⟩
        rw [← ints_en, List.map_append]
        exact h2
    · exact m_of (r9.r1.ex eA) (e_ixL (ev_var rfl) (ev_var rfl) (sq_of (eA _ _ hf9)) hxj2) fun G e => .inl ⟨_, ItAt.ints (ex_t (((e8.trans e9).trans eA).trans e) hsj)⟩
    · obtain ⟨p1, p2⟩ := put (r9.trans rA) (keepF hf9 rA) fv
      have pf : (upd HA fl (.lst (xs.set j v))) fl = some (.lst (xs.set j v)) := upd_same
      generalize upd HA fl (.lst (xs.set j v)) = G8 at p1 p2 pf ⊢
      refine q_when (b := false) (et_is (et_test (e_inU (ev_var rfl) (eu_tup (ea_cons ev_c (ea_cons ev_c ea_nil)) (by simp)) rfl rfl)) (by rw [in_two]; exact decide_eq_false (by omega))) (fun z => by cases z) fun _ HB eB => ?_
      refine q_when (b := false) (et_is (et_B (e_cmp (ev_var rfl) ev_c)) (decide_eq_false (by omega))) (fun z => by cases z) fun _ HC eC => ?_
      have eE := eB.trans eC
      have rE := Rw.of eE p1.r1
      exact fin rfl rfl (p1.trans rE) (eE _ _ pf) fun y hy => (p2 y hy).rw rE
  refine q_when (b := false) (et_is (et_B (e_cmp (ev_var rfl) ev_c)) (decide_eq_false c6)) (fun z => by cases z) fun _ H8 e8 => ?_
  have r8 := r7.trans (.of e8 r7.r1)
  have hf8 := e8 _ _ hf7
  have m_line : ∀ {σ : L2.St} {G : Hp}, RowOk K G l → σ[0]? = some (some (.ref l.1)) → σ[1]? = some (some (.int p)) → σ[3]? = some (some (.ref dl)) → σ[6]? = some (some (.int (j : Int))) → SqL K G dl (dgV n R) →
      MEv K l (tCall (sp_law_line K) [] E0 (tCons (tVar 0) (tCons (tVar 1) (tCons (tOp rAddI (tOp (rIx K) (tVar 3) (tVar 6)) (tC (.int 1))) tNil)))) σ G (LineT K p (dg j R + 1)) := fun {σ G} hG s0 s1 s3 s6 hdG =>
    m_call (FA := fun vs _ => vs = [.ref l.1, .int p, .int ((dg j R + 1 : Nat) : Int)]) (ma_of hG (ea_cons (ev_var s0) (ea_cons (ev_var s1) (ea_cons (ev_is (e_add (e_ixL (ev_var s3) (ev_var s6) hdG hdj) ev_c) (by congr 1)) ea_nil))) fun _ _ => rfl) fun vs G1 g ev Q k => sm_line ev g.r1 hp1 (by omega) k
  -- ways 7, 8
  by_cases c7 : (wy : Int) = 7 ∨ (wy : Int) = 8
  · refine q_when (b := true) (et_is (et_test (e_inU (ev_var rfl) (eu_tup (ea_cons ev_c (ea_cons ev_c ea_nil)) (by simp)) rfl rfl)) (by rw [in_two]; exact decide_eq_true c7)) (fun _ H9 e9 => ?_) fun z => by cases z
    have r9 := r8.trans (.of e9 r8.r1)
    have hf9 := e9 _ _ hf8
    refine ms_setL (F := LineT K p (dg j R + 1)) (us := xs) (m_line r9.r1 rfl rfl rfl rfl (hd7 r9)) rfl rfl (fun H1 r => keepF hf9 r) hjx fun v HA rA fv => ?_
    obtain ⟨t, us, rfl, ht, _⟩ := fv
    obtain ⟨p1, p2⟩ := put (r9.trans rA) (keepF hf9 rA) (.inl ⟨_, ItAt.ints ht⟩)
    have pf : (upd HA fl (.lst (xs.set j (.ref t)))) fl = some (.lst (xs.set j (.ref t))) := upd_same
    generalize upd HA fl (.lst (xs.set j (.ref t))) = G8 at p1 p2 pf ⊢
    refine q_when (b := false) (et_is (et_B (e_cmp (ev_var rfl) ev_c)) (decide_eq_false (by omega))) (fun z => by cases z) fun _ HB eB => ?_
    have rE := Rw.of eB p1.r1
    exact fin rfl rfl (p1.trans rE) (eB _ _ pf) fun y hy => (p2 y hy).rw rE
  refine q_when (b := false) (et_is (et_test (e_inU (ev_var rfl) (eu_tup (ea_cons ev_c (ea_cons ev_c ea_nil)) (by simp)) rfl rfl)) (by rw [in_two]; exact decide_eq_false c7)) (fun z => by cases z) fun _ H9 e9 => ?_
  have r9 := r8.trans (.of e9 r8.r1)
  have hf9 := e9 _ _ hf8
  -- the others
  refine q_when (b := true) (et_is (et_B (e_cmp (ev_var rfl) ev_c)) (decide_eq_true (by omega))) (fun _ HA eA => ?_) fun z => by cases z
  have rA := r9.trans (.of eA r9.r1)
  have hfA := eA _ _ hf9
  have hsA := ex_t ((e8.trans e9).trans eA) hsj
  refine q_asg (e_add (ev_call (ea_cons (ev_var rfl) (ea_cons (e_ixL (ev_var rfl) (ev_var rfl) (sq_of hfA) hxj2) (ea_cons ev_c ea_nil))) (sv_law_at hsA hp0 hp2)) (ev_call (ea_cons (ev_var rfl) (ea_cons (e_ixL (ev_var rfl) (ev_var rfl) (sq_of hfA) hxj2) (ea_cons ev_c ea_nil))) (sv_law_at hsA hp0 hp2))) fun HB eB => ?_
  have rB := rA.trans (.of eB rA.r1)
  have hfB := eB _ _ hfA
  refine ms_setL (F := fun v G => ∃ ys, TupI K G v ys) (us := xs) (m_call (FA := fun vs G => ∃ (t : Addr) (us : List Int) (c : Int), vs = [.int p, .ref t, .int c, .int ((dg j R : Nat) : Int)] ∧ SqT K G t (us.map V.int) ∧ us.length ≤ 1000) (ma_cons (F := fun x _ => x = .int p) (m_of rB.r1 (ev_var rfl) fun _ _ => rfl) fun x G g ex => ?_) fun vs G g ev Q k => ?_) rfl rfl (fun H1 r => keepF hfB r) hjx fun v HC rC fv => ?_
  · subst ex
    refine ma_cons (m_line g.r1 rfl rfl rfl rfl (hd7 (rB.trans g))) fun x G2 g2 ex => ?_
    obtain ⟨t, us, rfl, ht, hul, _⟩ := ex
    have g12 := g.trans g2
    exact ma_of g2.r1 (ea_cons (e_mod (ev_var rfl) (ev_var rfl) hp0) (ea_cons (e_ixL (ev_var rfl) (ev_var rfl) (hd7 (rB.trans g12)) hdj) ea_nil)) fun G3 e3 => ⟨t, us, _, rfl, ex_t e3 ht, by omega⟩
  · obtain ⟨t, us, c, rfl, ht, hul⟩ := ev
    exact ⟨p, c, t, us, dg j R, rfl, hp1, hp2, ht, hul, by omega, fun v G2 ys e2 h2 => k v G2 (.of e2 g.r1) ⟨ys, h2⟩⟩
  · obtain ⟨ys, hy⟩ := fv
    obtain ⟨p1, p2⟩ := put (rB.trans rC) (keepF hfB rC) (.inl ⟨_, tup_it hy⟩)
    have pf : (upd HC fl (.lst (xs.set j v))) fl = some (.lst (xs.set j v)) := upd_same
    generalize upd HC fl (.lst (xs.set j v)) = G8 at p1 p2 pf ⊢
    exact fin rfl rfl p1 pf p2
end
end K10

set_option Elab.async false
set_option linter.all false
set_option maxRecDepth 100000
set_option maxHeartbeats 4000000
/-! K10RdU: the law -/
namespace K10
open PySem PySem.Spec PyProof.Rows L2 Evl LamX K10M
section
variable {P : Program} {w : World} {K : PySem.W.Frag} {mg : Str → Option Value} {base : Heap} {H H' : Hp} {l : Addr × Addr}

/-! ### words, claims -/
def wordsL : List String := ["line", "degree", "halves", "end"]
theorem judgeL_word (p : Int) (n : Nat) (R : Rl) (draws : List Int) (its : List Itm) : ∀ (k a : Nat) (cl : Int) (so : List Int), (judgeL p n R draws its k a cl so).1 = .passed ∨ ∃ i, ∃ z ∈ wordsL, (judgeL p n R draws its k a cl so).1 = .caught i z
  | 0, a, cl, so => by
    unfold judgeL
    split
    · exact .inr ⟨n, "line", by simp [wordsL], rfl⟩
    · split
      · exact .inr ⟨n, "end", by simp [wordsL], rfl⟩
      · exact .inl rfl
  | k + 1, a, cl, so => by
    unfold judgeL
    cases its[a]? with
    | none => exact .inr ⟨a, "line", by simp [wordsL], rfl⟩
    | some it =>
      simp only
      split
      · exact .inr ⟨a, "line", by simp [wordsL], rfl⟩
      · split
        · exact .inr ⟨a, "degree", by simp [wordsL], rfl⟩
        · split
          · exact .inr ⟨a, "halves", by simp [wordsL], rfl⟩
          · exact judgeL_word p n R draws its k (a + 1) _ _
theorem judgeL_len (p : Int) (n : Nat) (R : Rl) (draws : List Int) (its : List Itm) : ∀ (k a : Nat) (cl : Int) (so : List Int), (judgeL p n R draws its k a cl so).2.length ≤ so.length + k
  | 0, a, cl, so => by
    unfold judgeL
    split
    · exact Nat.le_refl _
    · split <;> exact Nat.le_refl _
  | k + 1, a, cl, so => by
    unfold judgeL
    cases its[a]? with
    | none => exact Nat.le_add_right _ _
    | some it =>
      simp only
      split
      · exact Nat.le_add_right _ _
      · split
        · exact Nat.le_add_right _ _
        · split
          · exact Nat.le_add_right _ _
          · refine Nat.le_trans (judgeL_len p n R draws its k (a + 1) _ _) ?_
            rw [List.length_append, List.length_singleton]
            omega
theorem words_sc {z : String} (h : z ∈ wordsL) : scV (.str (Str.ofString z)) = true := by
  have key : (wordsL.all fun z => scV (.str (Str.ofString z))) = true := by decide +kernel
  exact List.all_eq_true.mp key z h
theorem vd_sc {p : Int} {n : Nat} {R : Rl} {c : Int} {draws : List Int} {ls : Option (List Itm)} : ∀ x ∈ vdV (judge p n R c draws ls).1, scV x = true := by
  have key : (judge p n R c draws ls).1 = .passed ∨ ∃ i, ∃ z ∈ wordsL, (judge p n R c draws ls).1 = .caught i z := by
    cases ls with
    | none => exact .inr ⟨0, "line", by simp [wordsL], rfl⟩
    | some its => exact judgeL_word p n R draws its n 0 c [c]
  have h1 : scV (.str "caught") = true := by decide +kernel
  have h2 : scV (.str "passed") = true := by decide +kernel
  rcases key with e | ⟨i, z, hz, e⟩
  · rw [e]
    intro x hx
    have : x = .str "passed" := by simpa [vdV] using hx
    rw [this]
    exact h2
  · rw [e]
    intro x hx
    simp only [vdV, List.mem_cons, List.not_mem_nil, or_false] at hx
    rcases hx with rfl | rfl | rfl
    · exact h1
    · rfl
    · exact words_sc hz
theorem vd_len (v : Vd) : (vdV v).length ≤ 3 := by cases v <;> simp [vdV]
theorem so_len {p : Int} {n : Nat} {R : Rl} {c : Int} {draws : List Int} {ls : Option (List Itm)} : (judge p n R c draws ls).2.length ≤ n + 1 := by
  cases ls with
  | none => exact Nat.le_add_left _ _
  | some its =>
    have := judgeL_len p n R draws its n 0 c [c]
    rw [List.length_singleton] at this
    show (judgeL p n R draws its n 0 c [c]).2.length ≤ n + 1
    omega
/-! ### what stays through the turns -/
theorem tabs_rw {T : List (Addr × Str)} (hT : Tabs T H) (r : Rw K l H H') : Tabs T H' := fun p hp => by
  obtain ⟨ys, hy⟩ := r.r0.isl
  obtain ⟨ps, h1, h2, h3⟩ := hT p hp
  refine ⟨ps, r.xo _ _ (fun z => by rw [z, hy] at h1; cases h1) h1, h2, fun pos cv hc => ?_⟩
  obtain ⟨c, e1, e2⟩ := h3 pos cv hc
  refine ⟨c, e1, r.xo _ _ (fun z => ?_) e2⟩
  rw [z, hy] at e2
  unfold CodeO at e2
  cases e2
theorem row_N (e : ExtN H H') (h : RowOk K H l) : RowOk K H' l := by
  obtain ⟨ns, k, m, r, h1, h2, h3, h4⟩ := h
  exact ⟨ns, k, m, r, e _ _ h1 (fun ps z => by cases z), sl_at (at_N e _) h2, h3, h4⟩
structure Fc (K : PySem.W.Frag) (l : Addr × Addr) (a b ll : Addr) (vr : V) (p c : Int) (n : Nat) (R : Rl) (draws : List Int) (xs : List V) (G : Hp) : Prop where
  row : RowOk K G l
  s : SumAt K G a p n vr R c
  b : SqT K G b (draws.map V.int)
  ln : SqL K G ll xs
  it : ∀ (j : Nat) (y : V), xs[j]? = some y → TupI K G y (plainL p n R (draws.take j))
  tb : Tabs (tabsF K) G
section
variable {a b ll : Addr} {vr : V} {p c : Int} {n : Nat} {R : Rl} {draws : List Int} {xs : List V}
theorem tupI_tex {v : V} {us : List Int} (e : TEx K H H') (h : TupI K H v us) : TupI K H' v us := by
  obtain ⟨t, rfl, h⟩ := h
  exact ⟨t, rfl, e _ _ h⟩
theorem Fc.rw (r : Rw K l H H') (hl : ll ≠ l.1) (f : Fc K l a b ll vr p c n R draws xs H) : Fc K l a b ll vr p c n R draws xs H' := ⟨r.r1, f.s.tex r.tex, r.tex _ _ f.b, r.lst hl f.ln, fun j y h => tupI_tex r.tex (f.it j y h), tabs_rw f.tb r⟩
theorem Fc.N (e : ExtN H H') (hT : Tabs (tabsF K) H') (f : Fc K l a b ll vr p c n R draws xs H) : Fc K l a b ll vr p c n R draws xs H' := ⟨row_N e f.row, f.s.tex (tex_N e), tex_N e _ _ f.b, sl_at (at_N e _) f.ln, fun j y h => tupI_tex (tex_N e) (f.it j y h), hT⟩
theorem Fc.ex (e : Ex H H') (f : Fc K l a b ll vr p c n R draws xs H) : Fc K l a b ll vr p c n R draws xs H' := f.N (ExtN.of e) (f.tb.ext e)
theorem Fc.plain (f : Fc K l a b ll vr p c n R draws xs H) (hx : xs.length = n) : LnsAt K H (.ref ll) (some (plains p n R draws)) := by
  refine ⟨ll, xs, rfl, .inl f.ln, by simp [plains, hx], fun m y hy => ?_⟩
  have hm : m < n := by
    have := (List.getElem?_eq_some_iff.mp hy).1
    omega
  refine ⟨lineIt (plainL p n R (draws.take m)), ?_, tup_it (f.it m y hy)⟩
  unfold plains
  rw [List.getElem?_map, List.getElem?_range hm]
  rfl
end
/-- a value that is a tuple of xs, the tables grown -/
def NEv (K : PySem.W.Frag) (te : TE) (σ : L2.St) (H : Hp) (xs : List V) : Prop := ∀ Q : VK, RetTN K xs H Q → te σ H Q
theorem n_alike {σ : L2.St} {te tb : TE} {xs : List V} {Q : Bool → Hp → Prop} (ha : NEv K te σ H xs) (hb : ∀ H', ExtN H H' → Tabs (tabsF K) H' → EvS K tb σ H' xs) (hx : xs.length ≤ 1000) (hs : ∀ x ∈ xs, scV x = true) (k : ∀ H', ExtN H H' → Tabs (tabsF K) H' → Q true H') :
    tB (tCall (sp_law_alike 1 K) [] E0 (tCons te (tCons tb tNil))) σ H Q := ha _ fun t H1 e1 T1 h1 => hb H1 e1 T1 H1 (Ex.refl H1) _ fun t2 H2 e2 h2 =>
  ⟨.ref t, .ref t2, rfl, fun H3 e3 => ⟨true, rfl, k H3 (e1.trans (ExtN.of (e2.trans e3))) (T1.ext (e2.trans e3))⟩, .inr ⟨Nat.one_pos, t, t2, xs, rfl, rfl, ex_t e2 h1, h2, hx, hs⟩⟩
theorem s_alike {σ : L2.St} {te tb : TE} {tu : TS} {D : Ends} {xs : List V} (ha : NEv K te σ H xs) (hb : ∀ H', ExtN H H' → Tabs (tabsF K) H' → EvS K tb σ H' xs) (hx : xs.length ≤ 1000) (hs : ∀ x ∈ xs, scV x = true) (k : ∀ H', ExtN H H' → Tabs (tabsF K) H' → D.nx σ H') :
    tIfS (tNot (tB (tCall (sp_law_alike 1 K) [] E0 (tCons te (tCons tb tNil))))) tu tNext D σ H := n_alike (Q := fun b H1 => if (!b) = true then tu D σ H1 else tNext D σ H1) ha hb hx hs fun H' e T => k H' e T
theorem q_alike {σ : L2.St} {te tb : TE} {tu tz : TS} {D : Ends} {xs : List V} (ha : NEv K te σ H xs) (hb : ∀ H', ExtN H H' → Tabs (tabsF K) H' → EvS K tb σ H' xs) (hx : xs.length ≤ 1000) (hs : ∀ x ∈ xs, scV x = true) (k : ∀ H', ExtN H H' → Tabs (tabsF K) H' → tz D σ H') :
    tSeq (tIfS (tNot (tB (tCall (sp_law_alike 1 K) [] E0 (tCons te (tCons tb tNil))))) tu tNext) tz D σ H := s_alike (D := { D with nx := tz D }) ha hb hx hs k
section
variable {a b : Addr} {x vr : V} {p c : Int} {n : Nat} {R : Rl} {draws : List Int} {its : Option (List Itm)} {σ : L2.St} {i j k : Nat}
theorem nv_judged (h : JIn K H a b x vr p c n R draws its) (h0 : σ[i]? = some (some (.ref a))) (h1 : σ[j]? = some (some x)) (h2 : σ[k]? = some (some (.ref b))) : NEv K (tCall (sp_judged K) [] E0 (tCons (tVar i) (tCons (tVar j) (tCons (tVar k) tNil)))) σ H (vdV (judge p n R c draws its).1) := fun Q q =>
  (ea_cons (ev_var h0) (ea_cons (ev_var h1) (ea_cons (ev_var h2) ea_nil))) H (Ex.refl H) (fun vs H1 => sp_judged K (vs ++ []) H1 Q E0) fun H1 e1 => ⟨a, b, x, vr, p, c, n, R, draws, its, rfl, h.ex e1, fun v H2 e2 T2 g => q v H2 ((ExtN.of e1).trans e2) T2 g⟩
theorem nv_claims (h : JIn K H a b x vr p c n R draws its) (h0 : σ[i]? = some (some (.ref a))) (h1 : σ[j]? = some (some x)) (h2 : σ[k]? = some (some (.ref b))) : NEv K (tCall (sp_claims K) [] E0 (tCons (tVar i) (tCons (tVar j) (tCons (tVar k) tNil)))) σ H ((judge p n R c draws its).2.map V.int) := fun Q q =>
  (ea_cons (ev_var h0) (ea_cons (ev_var h1) (ea_cons (ev_var h2) ea_nil))) H (Ex.refl H) (fun vs H1 => sp_claims K (vs ++ []) H1 Q E0) fun H1 e1 => ⟨a, b, x, vr, p, c, n, R, draws, its, rfl, h.ex e1, fun v H2 e2 T2 g => q v H2 ((ExtN.of e1).trans e2) T2 g⟩
end
theorem c_judge {σ : L2.St} {i j k : Nat} {a b : Addr} {x vr : V} {p c : Int} {n : Nat} {R : Rl} {draws : List Int} {its : Option (List Itm)} (hs : SumAt K H a p n vr R c) (hx : LnsAt K H x its) (hb : SqT K H b (draws.map V.int)) (hd : InAll p draws) (hl : draws.length = n) (h0 : σ[i]? = some (some (.ref a))) (h1 : σ[j]? = some (some x)) (h2 : σ[k]? = some (some (.ref b))) {Q : VK}
    (q : ∀ r H2, Ex H H2 → PairAt K H2 r (judge p n R c draws its) → Q r H2) : tCall (sp_law_judge K) [] E0 (tCons (tVar i) (tCons (tVar j) (tCons (tVar k) tNil))) σ H Q :=
  (ea_cons (ev_var h0) (ea_cons (ev_var h1) (ea_cons (ev_var h2) ea_nil))) H (Ex.refl H) (fun vs H1 => sp_law_judge K (vs ++ []) H1 Q E0) fun H1 e1 => ⟨a, b, x, vr, p, c, n, R, draws, its, rfl, hs.ex e1, hx.ex e1, ex_t e1 hb, hd, hl, fun r H2 e2 hr => q r H2 (e1.trans e2) hr⟩
theorem q_asgP {σ : L2.St} {te : TE} {tz : TS} {D : Ends} {i j : Nat} {o : Vd × List Int} (h : ∀ Q : VK, (∀ r H2, Ex H H2 → PairAt K H2 r o → Q r H2) → te σ H Q) (k : ∀ v s H2, Ex H H2 → SqT K H2 v (vdV o.1) → SqL K H2 s (o.2.map V.int) → tz D ((σ.set i (some (.ref v))).set j (some (.ref s))) H2) :
    tSeq (tAsg te (gTup K 2 (gCons (gName i) (gCons (gName j) gNil)))) tz D σ H := h _ fun r H2 e hr => by
  obtain ⟨ar, v, s, rfl, k1, k2, k3⟩ := hr
  exact ⟨ar, [.ref v, .ref s], rfl, k1, rfl, .ref v, [.ref s], rfl, .ref s, [], rfl, rfl, k v s H2 e k2 k3⟩
theorem eu_if {σ : L2.St} {t : TT} {ta tb : TE} {b : Bool} {xs : List V} (h : EvT t σ H b) (h1 : b = true → EvU ta σ H xs) (h2 : b = false → EvU tb σ H xs) : EvU (tIf t ta tb) σ H xs := fun H1 e Q q => h H1 e _ fun H2 e2 => by
  cases b with
  | true =>
    show ta σ H2 Q
    exact h1 rfl H2 (e.trans e2) Q fun p H3 hp e3 g => q p H3 (fresh_back e2 hp) (e2.trans e3) g
  | false =>
    show tb σ H2 Q
    exact h2 rfl H2 (e.trans e2) Q fun p H3 hp e3 g => q p H3 (fresh_back e2 hp) (e2.trans e3) g
def vdD : Vd → List PyData
  | .passed => [.str "passed"]
  | .caught k z => [.str "caught", .int (k : Int), .str (Str.ofString z)]
theorem vd_dp (v : Vd) : DpAll K H (vdV v) (vdD v) := by
  cases v with
  | passed => exact .cons (.str _) .nil
  | caught k z => exact .cons (.str _) (.cons (.int _) (.cons (.str _) .nil))
/-! ### the law -/
def sp_law (K : PySem.W.Frag) : Sp := fun vs H Q _ => ∃ (sc : Addr) (ns : List Int), vs = [.ref sc] ∧ SqL K H sc (ns.map V.int) ∧ Tabs (tabsF K) H ∧ ∀ H', Q (.bl true) H'
theorem rd_law (vs : List V) (H : Hp) (Q : VK) (E : XK) (h : sp_law K vs H Q E) : t_law K (sp_judged K) (sp_claims K) (sp_law_alike 1 K) (sp_law_prime K) (sp_law_numbers K) (sp_law_degrees K) (sp_law_total K) (sp_law_plains K) (sp_law_judge K) (sp_law_sum K) (sp_law_bent K) ⟨fun _ H' => Q .non H', Q, fun _ _ => False, fun _ _ => False⟩ (start n_law vs) H := by
  obtain ⟨sc, ns, rfl, hs, hT, q⟩ := h
  refine q_asgL (xs := [.ref sc, .int 0, .int 5610, .int 0]) (el_lst (ea_cons (ev_var rfl) (ea_cons ev_c (ea_cons ev_c (ea_cons ev_c ea_nil)))) (by simp)) fun lr H1 hlr e1 h1 => ?_
  have hsc : sc ≠ lr ∨ ∀ G, SqL K G sc (ns.map V.int) := by
    rcases hs with (hs | ⟨o, hs⟩) | hs
    · exact .inl fun z => by
        rw [z, hlr] at hs
        cases hs
    · exact .inl fun z => by
        rw [z, hlr] at hs
        cases hs
    · exact .inr fun G => .inr hs
  have row1 : RowOk K H1 (lr, sc) := ⟨ns, 0, 5610, 0, h1, ex_l e1 hs, hsc, by decide, by decide, by decide⟩
  have T1 := hT.ext e1
  refine mq_asg (l := (lr, sc)) (F := fun v _ => ∃ p, v = .int p ∧ p ∈ primes) (m_call (FA := fun vs _ => vs = [.ref lr]) (ma_of row1 (ea_cons (ev_var rfl) ea_nil) fun _ _ => rfl) fun vs G g ev Q k => sm_prime (l := (lr, sc)) ev g.r1 k) fun v H2 r2 ev => ?_
  obtain ⟨p, rfl, hp⟩ := ev
  obtain ⟨hp0, hp1, hp2⟩ := prime_small hp
  refine mq_asg (l := (lr, sc)) (F := fun v H' => ∃ a n vr R c, v = .ref a ∧ SumAt K H' a p n vr R c) (m_call (FA := fun vs _ => vs = [.ref lr, .int p, .int 3, .int 3]) (ma_of r2.r1 (ea_cons (ev_var rfl) (ea_cons (ev_var rfl) (ea_cons ev_c (ea_cons ev_c ea_nil)))) fun _ _ => rfl) fun vs G g ev Q k => ⟨(lr, sc), p, ev, g.r1, hp, k⟩) fun v H3 r3 ev => ?_
  obtain ⟨a, n, vr, R, c, rfl, s3⟩ := ev
  refine q_par (ea_cons (e_ixT (ev_var rfl) ev_c s3.at_ (atI_nat (j := 1) rfl)) (ea_cons (e_ixT (ev_var rfl) ev_c s3.at_ (atI_nat (j := 2) rfl)) ea_nil)) fun H4 e4 => ?_
  have r4 : Rw K (lr, sc) H1 H4 := (r2.trans r3).trans (.of e4 r3.r1)
  have s4 := s3.ex e4
  have hn := s3.hn
  refine mq_asg (l := (lr, sc)) (F := NumT K p n) (m_call (FA := fun vs _ => vs = [.ref lr, .int p, .int (n : Int)]) (ma_of r4.r1 (ea_cons (ev_var rfl) (ea_cons (ev_var rfl) (ea_cons (ev_var rfl) ea_nil))) fun _ _ => rfl) fun vs G g ev Q k => sm_numbers (l := (lr, sc)) ev g.r1 hp1 (by omega) k) fun v H5 r5 ev => ?_
  obtain ⟨b, draws, rfl, hb, hdl, hdi⟩ := ev
  have r15 := r4.trans r5
  have s5 := s4.tex r5.tex
  refine q_any ((ea_cons (ev_var rfl) (ea_cons (ev_var rfl) (ea_cons (ev_var rfl) (ea_cons (ev_var rfl) ea_nil)))) H5 (Ex.refl H5) _ fun H6 e6 => ⟨p, n, vr, R, b, draws, rfl, hp, dp_ex e6 _ _ s5.rl, s5.ok, s5.hh, ex_t e6 hb, hdi, hdl, hn, fun ll xs H7 hll e7 hlx hxn hit => ?_⟩)
  have r16 := r15.trans (.of e6 r15.r1)
  have hlln := fresh_ne r16.r1 hll
  have r17 := r16.trans (.of e7 r16.r1)
  have F7 : Fc K (lr, sc) a b ll vr p c n R draws xs H7 := ⟨r17.r1, s5.ex (e6.trans e7), ex_t (e6.trans e7) hb, sq_of hlx, hit, tabs_rw T1 r17⟩
  have jin : ∀ {G : Hp} {x : V} {ls : Option (List Itm)}, Fc K (lr, sc) a b ll vr p c n R draws xs G → LnsAt K G x ls → JIn K G a b x vr p c n R draws ls := fun {G x ls} f hx => ⟨f.s, hx, f.b, hdi, hdl, f.tb⟩
  refine q_forRg (n := 4) (ea_cons ev_c ea_nil) (by decide) (fun m σ G => (∃ y8 y9 y10 y11, σ = [some (.ref sc), some (.ref lr), some (.int p), some (.ref a), some (.int (n : Int)), some vr, some (.ref b), some (.ref ll), y8, y9, y10, y11, none]) ∧ Fc K (lr, sc) a b ll vr p c n R draws xs G) (fun G e => ⟨⟨none, none, none, none, rfl⟩, F7.ex e⟩) (fun m σ' G hm hP => ?_) fun σ' G hP => ?_
  · obtain ⟨⟨y8, y9, y10, y11, rfl⟩, fG⟩ := hP
    refine mq_asg (l := (lr, sc)) (F := fun v G' => ∃ ls, LnsAt K G' v ls) (m_call (FA := fun vs G' => ∃ dl, vs = [.ref lr, .int p, .ref ll, .ref dl] ∧ dl ≠ lr ∧ SqL K G' dl (dgV n R)) (ma_cons (F := fun x _ => x = .ref lr) (m_of fG.row (ev_var rfl) fun _ _ => rfl) fun x G1 g1 ex => ?_) fun vs G1 g1 ev Q k => ?_) fun v G1 g1 ev => ?_
    · subst ex
      refine ma_cons (F := fun x _ => x = .int p) (m_of g1.r1 (ev_var rfl) fun _ _ => rfl) fun x G2 g2 ex => ?_
      subst ex
      refine ma_cons (F := fun x _ => x = .ref ll) (m_of g2.r1 (ev_var rfl) fun _ _ => rfl) fun x G3 g3 ex => ?_
      subst ex
      have f3 := fG.rw ((g1.trans g2).trans g3) hlln
      refine ma_cons (F := fun x G' => ∃ dl, x = .ref dl ∧ dl ≠ lr ∧ SqL K G' dl (dgV n R)) (m_ofL g3.r1 (el_call (ea_cons (ev_var rfl) (ea_cons (ev_var rfl) ea_nil)) (sl_law_degrees f3.s.rl f3.s.ok f3.s.hh (by omega))) fun t G' hne e g => ⟨t, rfl, hne, sq_of g⟩) fun x G4 g4 ex => ?_
      obtain ⟨dl, rfl, hne, hd⟩ := ex
      exact ma_nil g4.r1 ⟨dl, rfl, hne, hd⟩
    · obtain ⟨dl, rfl, hne, hd⟩ := ev
      have f1 := fG.rw g1 hlln
      exact ⟨(lr, sc), p, ll, dl, xs, n, R, rfl, g1.r1, hp, f1.ln, hlln, hxn, hn, fun y hy => by
        obtain ⟨j, hj, e⟩ := List.mem_iff_getElem.mp hy
        exact ⟨_, f1.it j y (by rw [List.getElem?_eq_getElem hj, e])⟩, hd, hne, fun i => dg16 i f1.s.ok f1.s.hh, k⟩
    · obtain ⟨ls, hls⟩ := ev
      have f1 := fG.rw g1 hlln
      -- due, so far
      refine q_asgP (fun Q q => c_judge f1.s hls f1.b hdi hdl rfl rfl rfl q) fun vv sl G3 e13 k2 k3 => ?_
      have f3 := f1.ex e13
      have hls3 := hls.ex e13
      refine q_alike (nv_judged (jin f3 hls3) rfl rfl rfl) (fun G4 e4 T4 => es_of (ev_var rfl) (tex_N e4 _ _ k2)) (Nat.le_trans (vd_len _) (by decide)) vd_sc fun G4 e4 T4 => ?_
      have f4 := f3.N e4 T4
      refine s_alike (nv_claims (jin f4 (hls3.N e4)) rfl rfl rfl) (fun G5 e5 T5 => EvU.s (eu_tupL' (ev_var rfl) (sl_at (at_N (e4.trans e5) _) k3))) (by
        rw [List.length_map]
        have := so_len (p := p) (n := n) (R := R) (c := c) (draws := draws) (ls := ls)
        omega) (fun x hx => by
        obtain ⟨i, _, rfl⟩ := List.mem_map.mp hx
        rfl) fun G5 e5 T5 => ⟨⟨_, _, _, _, rfl⟩, f4.N e5 T5⟩
  · obtain ⟨⟨y8, y9, y10, y11, rfl⟩, fG⟩ := hP
    have ct : Ev (tCall (sp_law_total K) [] E0 (tCons (tVar 2) (tCons (tVar 4) (tCons (tVar 5) (tCons (tTup tNil) tNil))))) [some (.ref sc), some (.ref lr), some (.int p), some (.ref a), some (.int (n : Int)), some vr, some (.ref b), some (.ref ll), y8, y9, y10, y11, none] G (.int (total p n R [])) :=
      ev_call4S (xs := []) (ev_var rfl) (ev_var rfl) (ev_var rfl) (EvU.s (eu_tup ea_nil (by simp))) fun t G2 e2 ht => sv_law_total (x := []) hp1 hp2 (dp_ex e2 _ _ fG.s.rl) fG.s.ok fG.s.hh ht (fun c h => nomatch h) (Nat.zero_le n) hn
    have c1 : EvT (tB (tNeI (tOp (rIx K) (tVar 3) (tC (.int 3))) (tCall (sp_law_total K) [] E0 (tCons (tVar 2) (tCons (tVar 4) (tCons (tVar 5) (tCons (tTup tNil) tNil))))))) [some (.ref sc), some (.ref lr), some (.int p), some (.ref a), some (.int (n : Int)), some vr, some (.ref b), some (.ref ll), y8, y9, y10, y11, none] G (!decide (c = total p n R [])) :=
      et_B (e_cmp (e_ixT (ev_var rfl) ev_c fG.s.at_ (atI_nat (j := 3) rfl)) ct)
    by_cases hct : c = total p n R []
    · rw [decide_eq_true hct] at c1
      refine q_when (b := false) c1 (fun z => by cases z) fun _ G2 e2 => ?_
      have f2 := fG.ex e2
      have hv : (judge p n R c draws (some (plains p n R draws))).1 = .passed := judge_right hp hn fG.s.ok fG.s.hh hdi hdl n 0 c [c] rfl hct
      refine (nv_judged (jin f2 (f2.plain hxn)) rfl rfl rfl) (fun x G' => tOp (rEqD K) (tC x) (tTup (tCons (tC (.str "passed")) tNil)) [some (.ref sc), some (.ref lr), some (.int p), some (.ref a), some (.int (n : Int)), some vr, some (.ref b), some (.ref ll), y8, y9, y10, y11, none] G' Q) fun t G3 e3 T3 h3 => ?_
      rw [hv] at h3
      exact e_eqDU ev_c (eu_tup (ea_cons ev_c ea_nil) (by simp)) (.tup h3 (vd_dp .passed)) (vd_dp .passed) (by decide +kernel) (by decide +kernel) G3 (Ex.refl G3) Q fun G4 e4 => by
        have : PyData.eqv (.tuple (vdD .passed)) (.tuple (vdD .passed)) = true := by decide +kernel
        rw [this]
        exact q G4
    · rw [decide_eq_false hct] at c1
      refine q_when (b := true) c1 (fun _ G2 e2 => ?_) fun z => by cases z
      have f2 := fG.ex e2
      refine q_any ((nv_judged (jin f2 (f2.plain hxn)) rfl rfl rfl) _ fun t G3 e3 T3 h3 => ?_)
      by_cases h0 : 0 < n
      · have hv : (judge p n R c draws (some (plains p n R draws))).1 = .caught 0 "halves" := judge_wrong hp hn fG.s.ok fG.s.hh hdi hdl h0 fG.s.hc hct [c]
        rw [hv] at h3
        refine s_ret (e_eqDU (ev_var rfl) (eu_if (b := true) (et_is (et_B (e_cmp (ev_var rfl) ev_c)) (decide_eq_true (by omega))) (fun _ => eu_tup (ea_cons ev_c (ea_cons ev_c (ea_cons ev_c ea_nil))) (by simp)) fun z => by cases z) (.tup h3 (vd_dp (.caught 0 "halves"))) (vd_dp (.caught 0 "halves")) (by decide +kernel) (by decide +kernel)) fun G4 e4 => by
          have : PyData.eqv (.tuple (vdD (.caught 0 "halves"))) (.tuple (vdD (.caught 0 "halves"))) = true := by decide +kernel
          rw [this]
          exact q G4
      · have hv : (judge p n R c draws (some (plains p n R draws))).1 = .caught 0 "end" := by
          have z := judge_wrong0 hp hn fG.s.ok fG.s.hh hdi hdl (show n = 0 by omega) hct [c]
          exact z
        rw [hv] at h3
        refine s_ret (e_eqDU (ev_var rfl) (eu_if (b := false) (et_is (et_B (e_cmp (ev_var rfl) ev_c)) (decide_eq_false (by omega))) (fun z => by cases z) fun _ => eu_tup (ea_cons ev_c (ea_cons ev_c (ea_cons ev_c ea_nil))) (by simp)) (.tup h3 (vd_dp (.caught 0 "end"))) (vd_dp (.caught 0 "end")) (by decide +kernel) (by decide +kernel)) fun G4 e4 => by
          have : PyData.eqv (.tuple (vdD (.caught 0 "end"))) (.tuple (vdD (.caught 0 "end"))) = true := by decide +kernel
          rw [this]
          exact q G4
/-- the law keeps its promise, its function object given -/
theorem ok_law (T : Top K mg) (TB : TabB base mg (He.cT K ("followed", none)).1 (He.cT K ("followed", none)).2) {fd : FuncData} (F : FunD K "law" "law" (defArgs s_law) (defBody s_law) (defScope s_law) [] [] (He.ga K "law") fd) : FnOk P w K mg base CX0 11 (He.ga K "law") fd ["_law_script"] (sp_law K) := by
  refine F.ok (k := 10) sc_law (fun vs H Q E h => ?_) fun cdv A outer s H vs Q E hr h => ⟨_, (der_law T (ok_judged T TB) (ok_claims T TB) (ok_law_alike T 1) (ok_law_prime T) (ok_law_numbers T) (ok_law_degrees T) (ok_law_total T) (ok_law_plains T) (ok_law_judge T) (ok_law_sum T) (ok_law_bent T) hr (by decide) (by decide) (by decide) (by decide) (by decide) (by decide) (by decide) (by decide) (by decide) (by decide) (by decide)).nox, rd_law vs H Q E h⟩
  obtain ⟨sc, ns, rfl, _⟩ := h
  rfl
end
end K10

set_option Elab.async false
set_option linter.all false
set_option maxRecDepth 100000
set_option maxHeartbeats 0
/-! K10End: the head's facts, the end -/
namespace K10
open PySem PySem.Spec PyProof.Rows L2 LamX
def okD (d : He.DefD) : Bool := decide (d.at_ = (d.name, none)) && (d.dfl.isEmpty && d.kwd.isEmpty)
theorem all_d : fn.all okD = true := by decide +kernel
def okG (i : Nat) : Bool := match fn[i]?, fa[i]? with
  | some d, some (.glo x) => decide (d.name = x)
  | _, _ => false
theorem all_g : (List.range fn.length).all okG = true := by decide +kernel
def okF (i : Nat) : Bool := match freeL[i]?, fa[60 + i]? with
  | some y, some (.free x) => decide (y = x)
  | _, _ => false
theorem all_f : (List.range freeL.length).all okF = true := by decide +kernel
def okI (i : Nat) : Bool := match intL[i]?, fa[78 + i]? with
  | some y, some (.int x n) => decide (y = (x, n))
  | _, _ => false
theorem all_i : (List.range intL.length).all okI = true := by decide +kernel
theorem in_range {α : Type} {l : List α} {i : Nat} {x : α} (h : l[i]? = some x) : i ∈ List.range l.length := List.mem_range.mpr (List.getElem?_eq_some_iff.mp h).1
theorem top_of {w : World} {K : PySem.W.Frag} {h : Heap} {mg : Str → Option Value} (X : K.In h) (G : h.Ns mainGlobals mg) (c : He.SaysX fa fn [] tf ex w h K) : Top K mg where
  fn := fun i d hd => by
    have m := List.mem_of_getElem? hd
    obtain ⟨fd, F⟩ := c.t.d.defs m
    have q := List.all_eq_true.mp all_d d m
    unfold okD at q
    rw [Bool.and_eq_true, Bool.and_eq_true] at q
    have q1 : d.at_ = (d.name, none) := of_decide_eq_true q.1
    have q2 : d.dfl = [] := List.isEmpty_iff.mp q.2.1
    have q3 : d.kwd = [] := List.isEmpty_iff.mp q.2.2
    have e1 : d.dvs K = [] := by
      unfold He.DefD.dvs
      rw [q2]
      rfl
    have e2 : d.kws K = [] := by
      unfold He.DefD.kws
      rw [q3]
      rfl
    rw [e1, e2, q1] at F
    refine ⟨⟨fd, F⟩, ?_⟩
    have g := List.all_eq_true.mp all_g i (in_range hd)
    unfold okG at g
    rw [hd] at g
    cases hf : fa[i]? with
    | none =>
      rw [hf] at g
      cases g
    | some f =>
      rw [hf] at g
      cases f with
      | glo x =>
        have e : d.name = x := of_decide_eq_true g
        rw [e]
        exact He.glo_ok X G (c.t.d.fact i hf)
      | _ => cases g
  free := fun i x hx => by
    have g := List.all_eq_true.mp all_f i (in_range hx)
    unfold okF at g
    rw [hx] at g
    cases hf : fa[60 + i]? with
    | none =>
      rw [hf] at g
      cases g
    | some f =>
      rw [hf] at g
      cases f with
      | free y =>
        have e : x = y := of_decide_eq_true g
        rw [e]
        exact He.free_ok X G (c.t.d.fact (60 + i) hf)
      | _ => cases g
  nums := fun i x n hx => by
    have g := List.all_eq_true.mp all_i i (in_range hx)
    unfold okI at g
    rw [hx] at g
    cases hf : fa[78 + i]? with
    | none =>
      rw [hf] at g
      cases g
    | some f =>
      rw [hf] at g
      cases f with
      | int y m =>
        have e : (x, n) = (y, m) := of_decide_eq_true g
        cases e
        exact He.int_ok X G (c.t.d.fact (78 + i) hf)
      | _ => cases g
  gBASES := He.glo_ok X G (c.t.d.fact 57 rfl)
  gJOINS := He.glo_ok X G (c.t.d.fact 58 rfl)
  gPASSED := He.glo_ok X G (c.t.d.fact 59 rfl)
  tBASES := fun H => He.tupB_ok (Bool.and_eq_true_iff.mp c.more).1 H
  tJOINS := fun H => He.tupB_ok (Bool.and_eq_true_iff.mp (Bool.and_eq_true_iff.mp c.more).2).1 H
  tPASSED := fun H => He.tupB_ok (Bool.and_eq_true_iff.mp (Bool.and_eq_true_iff.mp c.more).2).2 H
theorem facts {w : World} {K : PySem.W.Frag} {h : Heap} {mg : Str → Option Value} {f : Addr} (X : K.In h) (G : h.Ns mainGlobals mg) (hfa : mg ("law" : Str) = some (.ref f)) (c : He.SaysX fa fn [] tf ex w h K) :
    LawAtS PySem.Challenge.rw_pointsenough_k10_whole_judgements w K CX0 11 63 "_law_script" mg f h := by
  have T := top_of X G c
  obtain ⟨⟨fd, F⟩, g⟩ := T.fn 56 d_law rfl
  have e := hfa.symm.trans g
  cases e
  have b := FunD.bindsA (ps := ["_law_script"]) F fun _ _ _ _ _ _ us hl => match us, hl with | [_], _ => rfl
  have mem : ((("followed", none) : He.Defn)) ∈ tf := List.mem_singleton.mpr rfl
  refine ⟨fd, [He.cT K ("followed", none)], sp_law K, fun p hp => ?_, fun p hp => ?_, fun p hp => ?_, fun s v => b s [v] rfl, fun H a ns _ _ hH hS => ⟨a, ns, rfl, hS, fun p hp => ?_, fun _ => rfl⟩, fun base _ _ hTB => ok_law T (hTB _ (by simp)) F⟩
  · rw [List.mem_singleton.mp hp]
    exact c.empty _ mem
  · rw [List.mem_singleton.mp hp]
    exact c.out _ mem
  · rw [List.mem_singleton.mp hp]
    exact PySem.W.codeHd_of_K X (c.hd _ mem)
  · rw [List.mem_singleton.mp hp]
    exact TabS.nil (hH _ (by simp))
end K10
open PySem PySem.W PySem.Calls PyProof.Rows
theorem PySem.Challenge.cw_pointsenough_k10_whole_judgements_holds : PySem.Challenge.rw_pointsenough_k10_whole_judgements.Holds := by
  w_on; o_law
  refine HandSHeadRun.head_any (r := OpenLaw.row PySem.Challenge.rw_pointsenough_k10_whole_judgements) (q := K10.qv) (H := K10.hk) (ob := K10.ob) (M := 3000) (loose := K10.names) (d := HandSHeadRun.topDef (OpenLaw.row PySem.Challenge.rw_pointsenough_k10_whole_judgements).prog 76) (kwd := []) K10.ob_eq
    (by kernel_rfl) (fun s => by kernel_rfl) K10.run (by kernel_rfl) (by kernel_rfl) (by kernel_rfl) (by rfl) (by first | assumption | decide +kernel) (by decide +kernel) ⟨rfl, rfl, rfl, rfl, rfl, by decide +kernel⟩ ?hw ?hc
  case hw => w_witness2
  case hc =>
    refine LamX.walk_ofTsE (l := PySem.Challenge.rw_pointsenough_k10_whole_judgements) (n := 63) (k := 11) (x := "_law_script") (CX := fun _ => L2.CX0) rfl (by decide) (by kernel_rfl) ⟨rfl, by decide, by decide⟩ ?F (fun _ _ _ _ _ z => z)
    intro w mg fa h Y G hmg0
    obtain ⟨K, KX, c⟩ := Y
    have hmg : mg ("law" : PySem.Str) = some (.ref fa) := by
      have e : (HandSHeadRun.topDef (OpenLaw.row PySem.Challenge.rw_pointsenough_k10_whole_judgements).prog 76).name = ("law" : PySem.Str) := by kernel_rfl
      rw [← e]
      exact hmg0
    exact ⟨K, KX, K10.facts KX G hmg c⟩

