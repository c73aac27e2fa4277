import PyProof.Rows.All
import Wide.All
import OpenK.AllK
import Wide.FinOn
import PySem.Challenge.RW_nn0249_01
set_option Elab.async false
set_option linter.unusedVariables false
set_option linter.unusedSimpArgs false
section
set_option genSizeOf false
set_option genSizeOfSpec false
set_option genInjectivity false
namespace Mine

/-- alike modulo p -/
def Cg (p x y : Int) : Prop := ∃ u, x = y + p * u
namespace Cg
variable {p x y z w : Int}
theorem rfl' : Cg p x x := ⟨0, by simp⟩
theorem of_eq (h : x = y) : Cg p x y := h ▸ rfl'
theorem symm (h : Cg p x y) : Cg p y x := by obtain ⟨u, h⟩ := h; exact ⟨-u, by grind⟩
theorem trans (h : Cg p x y) (k : Cg p y z) : Cg p x z := by obtain ⟨u, h⟩ := h; obtain ⟨v, k⟩ := k; exact ⟨u + v, by grind⟩
theorem add (h : Cg p x y) (k : Cg p z w) : Cg p (x + z) (y + w) := by obtain ⟨u, h⟩ := h; obtain ⟨v, k⟩ := k; exact ⟨u + v, by grind⟩
theorem sub (h : Cg p x y) (k : Cg p z w) : Cg p (x - z) (y - w) := by obtain ⟨u, h⟩ := h; obtain ⟨v, k⟩ := k; exact ⟨u - v, by grind⟩
theorem neg (h : Cg p x y) : Cg p (-x) (-y) := by obtain ⟨u, h⟩ := h; exact ⟨-u, by grind⟩
theorem mul (h : Cg p x y) (k : Cg p z w) : Cg p (x * z) (y * w) := by obtain ⟨u, h⟩ := h; obtain ⟨v, k⟩ := k; exact ⟨y * v + u * w + p * u * v, by grind⟩
theorem mulL (c : Int) (h : Cg p x y) : Cg p (c * x) (c * y) := mul rfl' h
theorem mulR (c : Int) (h : Cg p x y) : Cg p (x * c) (y * c) := mul h rfl'
theorem mod (x : Int) : Cg p (x % p) x := ⟨-(x / p), by have := Int.emod_def x p; grind⟩
theorem emod (h : Cg p x y) (hp : 0 < p) : x % p = y % p := by
  obtain ⟨u, rfl⟩ := h; exact Int.add_mul_emod_self_left y p u
theorem eq_of (h : Cg p x y) (hx : 0 ≤ x ∧ x < p) (hy : 0 ≤ y ∧ y < p) : x = y := by
  have := h.emod (by lia)
  rwa [Int.emod_eq_of_lt hx.1 hx.2, Int.emod_eq_of_lt hy.1 hy.2] at this
theorem trans' (h : Cg p x y) (k : y = z) : Cg p x z := k ▸ h
theorem zero_mod (h : Cg p x 0) : x % p = 0 := by obtain ⟨u, rfl⟩ := h; simp
end Cg
theorem Cg.of_mod {p x : Int} (h : x % p = 0) : Cg p x 0 := ⟨x / p, by have := Int.emod_def x p; grind⟩

def dotp : List Int → (Nat → Int) → Int
  | [], _ => 0
  | c :: F, g => c * g 0 + dotp F fun k => g (k + 1)
theorem dotp_append : ∀ (a b : List Int) (g : Nat → Int), dotp (a ++ b) g = dotp a g + dotp b fun k => g (k + a.length)
  | [], b, g => by simp [dotp]
  | c :: a, b, g => by
    rw [List.cons_append, dotp, dotp_append a b, dotp]
    simp only [List.length_cons, Int.add_assoc, Nat.add_assoc]
theorem dotp_zeros : ∀ (z : Nat) (g : Nat → Int), dotp (List.replicate z 0) g = 0
  | 0, _ => rfl
  | z + 1, g => by rw [List.replicate_succ, dotp, dotp_zeros z]; simp
theorem dotp_take_succ {a : List Int} {i : Nat} {x : Int} (h : a[i]? = some x) (g : Nat → Int) : dotp (a.take (i + 1)) g = dotp (a.take i) g + x * g i := by
  have hl : i < a.length := by
    rcases Nat.lt_or_ge i a.length with h' | h'
    · exact h'
    · rw [List.getElem?_eq_none h'] at h; cases h
  rw [List.take_add_one, h, dotp_append]
  simp [dotp, Nat.min_eq_left (Nat.le_of_lt hl)]
theorem dotp_set : ∀ (F : List Int) (k : Nat) (x : Int) (g : Nat → Int), k < F.length → dotp (F.set k x) g = dotp F g + (x - F.getD k 0) * g k
  | [], _, _, _, h => by simp at h
  | c :: F, 0, x, g, h => by simp [dotp]; grind
  | c :: F, k + 1, x, g, h => by
    rw [List.set_cons_succ, dotp, dotp_set F k x _ (by simpa using h), dotp]
    simp; grind
theorem dotp_cg {p : Int} : ∀ (a : List Int) (g g' : Nat → Int), (∀ k, k < a.length → Cg p (g k) (g' k)) → Cg p (dotp a g) (dotp a g')
  | [], _, _, _ => Cg.rfl'
  | c :: a, g, g', h => (Cg.mulL c (h 0 (by simp))).add (dotp_cg a _ _ fun k hk => h (k + 1) (by simpa using hk))
theorem dotp_lin {p c : Int} : ∀ (F' F B : List Int) (g : Nat → Int), F'.length = F.length → B.length = F.length → (∀ k, k < F.length → Cg p (F'.getD k 0) (F.getD k 0 - c * B.getD k 0)) → Cg p (dotp F' g) (dotp F g - c * dotp B g)
  | [], [], [], g, _, _, _ => by simp [dotp]; exact Cg.rfl'
  | x :: F', y :: F, z :: B, g, h1, h2, h => by
    have h0 := h 0 (by simp)
    simp at h0
    have := (Cg.mulR (g 0) h0).add (dotp_lin F' F B (fun k => g (k + 1)) (by simpa using h1) (by simpa using h2) fun k hk => by simpa using h (k + 1) (by simpa using hk))
    simp only [dotp]
    refine this.trans (Cg.of_eq ?_)
    grind
theorem dotp_delta : ∀ (a : List Int) (i : Nat), dotp a (fun k => if k = i then 1 else 0) = a.getD i 0
  | [], i => by simp [dotp]
  | c :: a, 0 => by
    have e : (fun k => if k + 1 = 0 then (1 : Int) else 0) = fun _ => 0 := by funext k; simp
    have z : ∀ b : List Int, dotp b (fun _ => 0) = 0 := fun b => by
      induction b with
      | nil => rfl
      | cons x b ih => simp [dotp, ih]
    simp only [dotp, e, z]; simp
  | c :: a, i + 1 => by
    have := dotp_delta a i
    simp only [dotp]
    simp [this]

def Ri (p : Int) (xs : List Int) : Prop := ∀ x ∈ xs, 0 ≤ x ∧ x < p
theorem Ri.at {p : Int} {xs : List Int} (h : Ri p xs) {i : Nat} {x : Int} (hx : xs[i]? = some x) : 0 ≤ x ∧ x < p := h x (List.mem_of_getElem? hx)
theorem Ri.getD {p : Int} {xs : List Int} (h : Ri p xs) (hp : 0 < p) (i : Nat) : 0 ≤ xs.getD i 0 ∧ xs.getD i 0 < p := by
  cases e : xs[i]? with
  | none => simp [List.getD, e, hp]
  | some x => simpa [List.getD, e] using h.at e
theorem Ri.nil {p : Int} : Ri p [] := by simp [Ri]
theorem Ri.append {p : Int} {a b : List Int} (h : Ri p a) (k : Ri p b) : Ri p (a ++ b) := fun x hx => (List.mem_append.mp hx).elim (h x) (k x)
theorem Ri.left {p : Int} {a b : List Int} (h : Ri p (a ++ b)) : Ri p a := fun x hx => h x (List.mem_append.mpr (.inl hx))
theorem Ri.take {p : Int} {a : List Int} (h : Ri p a) (i : Nat) : Ri p (a.take i) := fun x hx => h x (List.mem_of_mem_take hx)
theorem Ri.set {p : Int} {a : List Int} (h : Ri p a) {x : Int} (hx : 0 ≤ x ∧ x < p) (i : Nat) : Ri p (a.set i x) := fun y hy => (List.mem_or_eq_of_mem_set hy).elim (h y) fun e => e ▸ hx
theorem Ri.zeros {p : Int} (hp : 0 < p) (z : Nat) : Ri p (List.replicate z 0) := fun x hx => by rw [(List.mem_replicate.mp hx).2]; lia
theorem Ri.one {p x : Int} (h : 0 ≤ x ∧ x < p) : Ri p [x] := fun y hy => by rw [List.mem_singleton.mp hy]; exact h
theorem mod_ri {p x : Int} (hp : 0 < p) : 0 ≤ x % p ∧ x % p < p := ⟨Int.emod_nonneg _ (by lia), Int.emod_lt_of_pos _ hp⟩

/-- r is a without the noughts at its end -/
def IsTrim (a r : List Int) : Prop := ∃ z, a = r ++ List.replicate z 0 ∧ r.getLast? ≠ some 0
theorem IsTrim.dot {a r : List Int} (h : IsTrim a r) (g : Nat → Int) : dotp r g = dotp a g := by
  obtain ⟨z, rfl, _⟩ := h
  rw [dotp_append, dotp_zeros]; simp
theorem IsTrim.ri {a r : List Int} {p : Int} (h : IsTrim a r) (k : Ri p a) : Ri p r := by
  obtain ⟨z, rfl, _⟩ := h
  exact k.left
theorem IsTrim.len {a r : List Int} (h : IsTrim a r) : r.length ≤ a.length := by
  obtain ⟨z, rfl, _⟩ := h
  simp
theorem IsTrim.lt {a r : List Int} (h : IsTrim a r) (k : a.getLast? = some 0) : r.length < a.length := by
  obtain ⟨z, rfl, hr⟩ := h
  cases z with
  | zero => simp at k; exact absurd k hr
  | succ z => simp

/-- g obeys f -/
def Rec (p : Int) (f : List Int) (g : Nat → Int) : Prop := ∀ k, Cg p (dotp f fun j => g (k + j)) 0
theorem Rec.shift {p : Int} {f : List Int} {g : Nat → Int} (h : Rec p f g) (i : Nat) : Rec p f fun j => g (i + j) := fun k => by
  have := h (i + k); simpa [Nat.add_assoc] using this
theorem Rec.shiftR {p : Int} {f : List Int} {g : Nat → Int} (h : Rec p f g) (i : Nat) : Rec p f fun j => g (j + i) := by
  have := h.shift i; simpa [Nat.add_comm] using this
/-- a is what x to the power k leaves by f -/
structure Rep (p : Int) (f : List Int) (n k : Nat) (a : List Int) : Prop where
  ri : Ri p a
  len : a.length ≤ n
  dot : ∀ g, Rec p f g → Cg p (dotp a g) (g k)
/-- r is a b modulo p -/
structure MulS (p : Int) (a b r : List Int) : Prop where
  ri : Ri p r
  len : r.length ≤ a.length + b.length
  dot : ∀ g, Cg p (dotp r g) (dotp a fun i => dotp b fun j => g (i + j))
/-- r is what a leaves by f -/
structure RemS (p : Int) (f : List Int) (n : Nat) (a r : List Int) : Prop where
  ri : Ri p r
  len : r.length ≤ n
  dot : ∀ g, Rec p f g → Cg p (dotp r g) (dotp a g)
section
variable {p : Int} {f : List Int} {n : Nat}
theorem Rep.mul {k m : Nat} {a b c r : List Int} (ha : Rep p f n k a) (hb : Rep p f n m b) (hc : MulS p a b c) (hr : RemS p f n c r) : Rep p f n (k + m) r := by
  refine ⟨hr.ri, hr.len, fun g hg => (hr.dot g hg).trans ((hc.dot g).trans ?_)⟩
  refine (dotp_cg a _ (fun i => g (i + m)) fun i _ => hb.dot _ (hg.shift i)).trans ?_
  exact ha.dot _ (hg.shiftR m)
theorem Rep.one {r : List Int} (hr : RemS p f n [1] r) : Rep p f n 0 r :=
  ⟨hr.ri, hr.len, fun g hg => (hr.dot g hg).trans (Cg.of_eq (by simp [dotp]))⟩
theorem Rep.x {r : List Int} (hr : RemS p f n [0, 1] r) : Rep p f n 1 r :=
  ⟨hr.ri, hr.len, fun g hg => (hr.dot g hg).trans (Cg.of_eq (by simp [dotp]))⟩
theorem Rep.step {k : Nat} {a c r : List Int} (ha : Rep p f n k a) (hc : MulS p a [0, 1] c) (hr : RemS p f n c r) : Rep p f n (k + 1) r := by
  refine ⟨hr.ri, hr.len, fun g hg => (hr.dot g hg).trans ((hc.dot g).trans ?_)⟩
  refine (dotp_cg a _ (fun i => g (i + 1)) fun i _ => Cg.of_eq (by simp [dotp])).trans ?_
  exact ha.dot _ (hg.shiftR 1)

/-- the sequence that obeys fl ++ [1] and opens as s -/
def seqG (fl : List Int) : List Int → Nat → Int
  | s, 0 => s.getD 0 0
  | s, k + 1 => seqG fl (s.tail ++ [-(dotp fl fun j => s.getD j 0)]) k
theorem seqG_lt {fl : List Int} : ∀ (k : Nat) (s : List Int), k < s.length → seqG fl s k = s.getD k 0
  | 0, s, h => rfl
  | k + 1, s, h => by
    rw [seqG, seqG_lt k _ (by simp; lia)]
    cases s with
    | nil => simp at h
    | cons x s =>
      have : k < s.length := by simpa using h
      simp [List.getElem?_append_left this]
theorem seqG_rec {fl : List Int} : ∀ (k : Nat) (s : List Int), s.length = fl.length → 0 < fl.length → dotp (fl ++ [1]) (fun j => seqG fl s (k + j)) = 0
  | 0, s, h, h0 => by
    rw [dotp_append]
    have e1 : seqG fl s fl.length = -(dotp fl fun j => s.getD j 0) := by
      obtain ⟨m, hm⟩ : ∃ m, fl.length = m + 1 := ⟨fl.length - 1, by lia⟩
      rw [hm, seqG, seqG_lt _ _ (by simp; lia)]
      have : m = s.tail.length := by simp; lia
      rw [List.getD_eq_getElem?_getD, List.getElem?_append_right (by lia), this]
      simp
    have e2 : ∀ (F : List Int) (i : Nat), i + F.length ≤ s.length → dotp F (fun j => seqG fl s (i + j)) = dotp F fun j => s.getD (i + j) 0 := fun F => by
      induction F with
      | nil => intros; rfl
      | cons c F ih =>
        intro i hi
        simp only [dotp]
        have hi' : i + (F.length + 1) ≤ s.length := by simpa using hi
        have := ih (i + 1) (by lia)
        simp only [Nat.add_assoc, Nat.add_comm 1] at this
        rw [this, seqG_lt _ _ (by lia)]
    have := e2 fl 0 (by lia)
    simp only [Nat.zero_add] at this ⊢
    rw [this]
    simp only [dotp, Nat.zero_add, e1]
    lia
  | k + 1, s, h, h0 => by
    have e : (fun j => seqG fl s (k + 1 + j)) = fun j => seqG fl (s.tail ++ [-(dotp fl fun j => s.getD j 0)]) (k + j) := by
      funext j; rw [show k + 1 + j = (k + j) + 1 by lia, seqG]
    rw [e]
    exact seqG_rec k _ (by simp; lia) h0
theorem dot_short {g : Nat → Int} {i : Nat} : ∀ (a : List Int) (n o : Nat), o + a.length ≤ n → (∀ k, k < n → g k = if k = i then 1 else 0) → dotp a (fun k => g (o + k)) = dotp a (fun k => if o + k = i then 1 else 0)
  | [], _, _, _, _ => rfl
  | c :: a, n, o, h, hg => by
    have h' : o + (a.length + 1) ≤ n := by simpa using h
    simp only [dotp]
    have := dot_short a n (o + 1) (by lia) hg
    simp only [Nat.add_assoc, Nat.add_comm 1] at this
    rw [this, hg (o + 0) (by lia)]
theorem Rep.uniq {fl : List Int} {k : Nat} {a b : List Int} (hf : f = fl ++ [1]) (hn : fl.length = n) (hp : 0 < p) (ha : Rep p f n k a) (hb : Rep p f n k b) (i : Nat) : a.getD i 0 = b.getD i 0 := by
  by_cases hi : i < n
  · have hs : ((List.range n).map fun j => if j = i then (1 : Int) else 0).length = fl.length := by simp [hn]
    have hr : Rec p f (seqG fl ((List.range n).map fun j => if j = i then (1 : Int) else 0)) := fun m => by
      rw [hf]; exact Cg.of_eq (seqG_rec m _ hs (by lia))
    have hg : ∀ m, m < n → seqG fl ((List.range n).map fun j => if j = i then (1 : Int) else 0) m = if m = i then 1 else 0 := fun m hm => by
      rw [seqG_lt _ _ (by simpa using hm)]
      simp [hm]
    have key : ∀ {r : List Int}, Rep p f n k r → Cg p (r.getD i 0) (seqG fl ((List.range n).map fun j => if j = i then (1 : Int) else 0) k) := fun {r} h => by
      have e := dot_short r n 0 (by have := h.len; lia) hg
      simp only [Nat.zero_add] at e
      have d := h.dot _ hr
      rw [e, dotp_delta] at d
      exact d
    exact ((key ha).trans (key hb).symm).eq_of (ha.ri.getD hp i) (hb.ri.getD hp i)
  · rw [List.getD_eq_getElem?_getD, List.getD_eq_getElem?_getD, List.getElem?_eq_none (by have := ha.len; lia), List.getElem?_eq_none (by have := hb.len; lia)]
def pad (n : Nat) (a : List Int) : List Int := a ++ List.replicate (n - a.length) 0
theorem pad_getD (n : Nat) (a : List Int) (i : Nat) : (pad n a).getD i 0 = a.getD i 0 := by
  unfold pad
  simp only [List.getD_eq_getElem?_getD]
  by_cases h : i < a.length
  · rw [List.getElem?_append_left h]
  · rw [List.getElem?_append_right (by lia), List.getElem?_eq_none (l := a) (by lia)]
    by_cases h2 : i - a.length < n - a.length
    · simp [List.getElem?_replicate, h2]
    · simp [List.getElem?_replicate, h2]
theorem pad_len {n : Nat} {a : List Int} (h : a.length ≤ n) : (pad n a).length = n := by unfold pad; simp; lia
theorem Rep.pad_eq {fl : List Int} {k : Nat} {a b : List Int} (hf : f = fl ++ [1]) (hn : fl.length = n) (hp : 0 < p) (ha : Rep p f n k a) (hb : Rep p f n k b) : pad n a = pad n b := by
  refine List.ext_getElem (by rw [pad_len ha.len, pad_len hb.len]) fun i h1 h2 => ?_
  have := Rep.uniq hf hn hp ha hb i
  rw [← pad_getD n a, ← pad_getD n b] at this
  simpa [h1, h2] using this
end

/-- the primes at hand -/
def Pp (p : Int) : Prop := p = 2 ∨ p = 3 ∨ p = 5 ∨ p = 7
theorem Pp.pos {p : Int} (h : Pp p) : 0 < p := by rcases h with rfl | rfl | rfl | rfl <;> decide
theorem Pp.le {p : Int} (h : Pp p) : 2 ≤ p ∧ p ≤ 7 := by rcases h with rfl | rfl | rfl | rfl <;> decide
theorem Pp.coprime {p a : Int} (h : Pp p) (h0 : 0 < a) (ha : a < p) (d : Int) (h1 : d ∣ a) (h2 : d ∣ p) : d ∣ 1 := by
  have hn : d.natAbs ∣ p.natAbs := Int.natAbs_dvd_natAbs.mpr h2
  have ha' : d.natAbs ∣ a.natAbs := Int.natAbs_dvd_natAbs.mpr h1
  have hle : d.natAbs ≤ a.natAbs := Nat.le_of_dvd (by lia) ha'
  have hlt : a.natAbs < p.natAbs := by lia
  have : d.natAbs = 1 := by
    have hpp := h.le
    generalize d.natAbs = e at *
    have hpn : p.natAbs ≤ 7 := by lia
    have he : e < p.natAbs := by lia
    have h0 : 0 < e := by
      rcases Nat.eq_zero_or_pos e with h | h'
      · rw [h] at hn; have := Nat.eq_zero_of_zero_dvd hn; lia
      · exact h'
    rcases h with rfl | rfl | rfl | rfl
    · have : e = 1 := by simp at he; lia
      exact this
    · have : e = 1 ∨ e = 2 := by simp at he; lia
      rcases this with rfl | rfl <;> first | rfl | (exfalso; revert hn; decide)
    · have : e = 1 ∨ e = 2 ∨ e = 3 ∨ e = 4 := by simp at he; lia
      rcases this with rfl | rfl | rfl | rfl <;> first | rfl | (exfalso; revert hn; decide)
    · have : e = 1 ∨ e = 2 ∨ e = 3 ∨ e = 4 ∨ e = 5 ∨ e = 6 := by simp at he; lia
      rcases this with rfl | rfl | rfl | rfl | rfl | rfl <;> first | rfl | (exfalso; revert hn; decide)
  exact Int.natAbs_dvd_natAbs.mp (by rw [this]; exact Nat.one_dvd _)
end Mine
end
section
set_option genSizeOf false
set_option genSizeOfSpec false
set_option genInjectivity false
namespace Mine

def col (W : List (List Int)) (k : Nat) : List Int := W.map fun r => r.getD k 0
@[simp] theorem col_len (W : List (List Int)) (k : Nat) : (col W k).length = W.length := by simp [col]
theorem col_at {W : List (List Int)} {k i : Nat} {r : List Int} (h : W[i]? = some r) : (col W k)[i]? = some (r.getD k 0) := by simp [col, h]
theorem col_getD {W : List (List Int)} {k i : Nat} {r : List Int} (h : W[i]? = some r) : (col W k).getD i 0 = r.getD k 0 := by simp [List.getD, col_at h]
theorem col_set (W : List (List Int)) (k a : Nat) (r : List Int) : col (W.set a r) k = (col W k).set a (r.getD k 0) := by simp [col, List.map_set]

theorem dotp_zero_fun' : ∀ a : List Int, dotp a (fun _ => 0) = 0
  | [] => rfl
  | x :: a => by simp [dotp, dotp_zero_fun' a]
theorem dotp_add_g : ∀ (a : List Int) (g h : Nat → Int), dotp a (fun k => g k + h k) = dotp a g + dotp a h
  | [], _, _ => rfl
  | x :: a, g, h => by simp only [dotp, dotp_add_g a]; grind
theorem dotp_mul_g (z : Int) : ∀ (a : List Int) (g : Nat → Int), dotp a (fun k => g k * z) = dotp a g * z
  | [], _ => by simp [dotp]
  | x :: a, g => by simp only [dotp, dotp_mul_g z a]; grind
theorem dotp_sub_g (a : List Int) (g h : Nat → Int) : dotp a (fun k => g k - h k) = dotp a g - dotp a h := by
  have := dotp_add_g a (fun k => g k - h k) h
  have e : (fun k => g k - h k + h k) = g := by funext k; lia
  rw [e] at this
  lia
def upd (c : Nat → Int) (a : Nat) (v : Int) : Nat → Int := fun i => if i = a then v else c i
theorem dotp_upd : ∀ (F : List Int) (c : Nat → Int) (a : Nat) (v : Int), dotp F (upd c a v) = dotp F c + F.getD a 0 * (v - c a)
  | [], _, _, _ => by simp [dotp]
  | x :: F, c, 0, v => by
    have e : (fun k => upd c 0 v (k + 1)) = fun k => c (k + 1) := by funext k; simp [upd]
    simp only [dotp, e]
    simp [upd]; grind
  | x :: F, c, a + 1, v => by
    have e : (fun k => upd c (a + 1) v (k + 1)) = upd (fun k => c (k + 1)) a v := by funext k; simp [upd]
    simp only [dotp, e]
    rw [dotp_upd F]
    simp [upd]; grind
theorem dotp_drop (F : List Int) (d : Nat) (c : Nat → Int) (hd : d ≤ F.length) : dotp F (fun i => if i < d then 0 else c (i - d)) = dotp (F.drop d) c := by
  conv => lhs; rw [← List.take_append_drop d F, dotp_append]
  have h1 : dotp (F.take d) (fun i => if i < d then 0 else c (i - d)) = 0 := by
    have : ∀ (G : List Int) (o : Nat), o + G.length ≤ d → dotp G (fun i => if o + i < d then 0 else c (o + i - d)) = 0 := fun G => by
      induction G with
      | nil => intros; rfl
      | cons x G ih =>
        intro o ho
        have ho' : o + (G.length + 1) ≤ d := by simpa using ho
        have := ih (o + 1) (by lia)
        simp only [dotp]
        simp only [Nat.add_assoc, Nat.add_comm 1] at this
        rw [this, if_pos (by lia)]; simp
    have := this (F.take d) 0 (by simp; lia)
    simpa using this
  rw [h1]
  simp only [List.length_take, Nat.min_eq_left hd, Int.zero_add]
  congr 1
  funext k
  rw [if_neg (by lia)]
  congr 1; lia
theorem dotp_take_z {F : List Int} {n : Nat} (h : ∀ k, n ≤ k → F.getD k 0 = 0) (g : Nat → Int) : dotp (F.take n) g = dotp F g := by
  have e : F.drop n = List.replicate (F.drop n).length 0 := by
    refine List.eq_replicate_iff.mpr ⟨rfl, fun x hx => ?_⟩
    obtain ⟨i, hi, rfl⟩ := List.mem_iff_getElem.mp hx
    have hi' : n + i < F.length := by simp at hi; lia
    have := h (n + i) (by lia)
    simpa [hi'] using this
  conv => rhs; rw [← List.take_append_drop n F, e, dotp_append, dotp_zeros]
  simp

/-- rows: left | right, of the rows given -/
structure Good (p : Int) (rows : List (List Int)) (size wide : Nat) (W : List (List Int)) : Prop where
  len : W.length = size
  row : ∀ r ∈ W, r.length = wide + size ∧ Ri p r
  lin : ∀ r ∈ W, ∀ k, k < wide → Cg p (r.getD k 0) (dotp (col rows k) fun j => r.getD (wide + j) 0)
  inj : ∀ c : Nat → Int, (∀ j, j < size → Cg p (dotp (col W (wide + j)) c) 0) → ∀ i, i < size → Cg p (c i) 0
  onto : ∀ w : Nat → Int, ∃ c : Nat → Int, ∀ j, j < size → Cg p (dotp (col W (wide + j)) c) (w j)

section
variable {p : Int} {rows W : List (List Int)} {size wide : Nat}
theorem Good.swap (G : Good p rows size wide W) {a b : Nat} {ra rb : List Int} (ha : W[a]? = some ra) (hb : W[b]? = some rb) : Good p rows size wide ((W.set a rb).set b ra) := by
  have mem : ∀ r ∈ (W.set a rb).set b ra, r ∈ W := fun r hr => by
    rcases List.mem_or_eq_of_mem_set hr with hr | rfl
    · rcases List.mem_or_eq_of_mem_set hr with hr | rfl
      · exact hr
      · exact List.mem_of_getElem? hb
    · exact List.mem_of_getElem? ha
  have hal : a < W.length := (List.getElem?_eq_some_iff.mp ha).1
  have hbl : b < W.length := (List.getElem?_eq_some_iff.mp hb).1
  have key : ∀ k c, dotp (col ((W.set a rb).set b ra) k) c = dotp (col W k) (upd (upd c a (c b)) b (c a)) := fun k c => by
    rw [col_set, col_set, dotp_set _ _ _ _ (by simpa using hbl), dotp_set _ _ _ _ (by simpa using hal), dotp_upd, dotp_upd, col_getD ha, col_getD hb]
    by_cases hab : a = b
    · subst hab
      rw [ha] at hb; cases hb
      have : ((col W k).set a (ra.getD k 0)).getD a 0 = ra.getD k 0 := by simp [List.getD, hal]
      rw [this]; simp [upd]
    · have h1 : ((col W k).set a (rb.getD k 0)).getD b 0 = rb.getD k 0 := by
        have := col_getD (k := k) hb
        simp only [List.getD] at this ⊢
        rw [List.getElem?_set_ne hab]; exact this
      have h2 : upd c a (c b) b = c b := by simp [upd, Ne.symm hab]
      rw [h1, h2]; grind
  refine ⟨by simp [G.len], fun r hr => G.row r (mem r hr), fun r hr => G.lin r (mem r hr), fun c hc i hi => ?_, fun w => ?_⟩
  · have h := G.inj _ fun j hj => by rw [← key]; exact hc j hj
    have hla := G.len
    by_cases hia : i = a
    · subst hia
      have := h b (by lia)
      simpa [upd] using this
    · by_cases hib : i = b
      · subst hib
        have := h a (by lia)
        by_cases hab : a = i
        · exact absurd hab.symm hia
        · simpa [upd, hab] using this
      · have := h i hi
        simpa [upd, hia, hib] using this
  · obtain ⟨c, hc⟩ := G.onto w
    refine ⟨upd (upd c a (c b)) b (c a), fun j hj => ?_⟩
    rw [key]
    have : upd (upd (upd (upd c a (c b)) b (c a)) a (upd (upd c a (c b)) b (c a) b)) b (upd (upd c a (c b)) b (c a) a) = c := by
      funext i
      simp only [upd]
      by_cases h1 : i = b <;> by_cases h2 : i = a <;> by_cases h3 : a = b <;> simp_all
    rw [this]; exact hc j hj

/-- the row x less k times the row y -/
def rowop (p k : Int) (x y : List Int) : List Int := (List.range x.length).map fun j => (x.getD j 0 - k * y.getD j 0) % p
theorem rowop_getD {k : Int} {x y : List Int} (hl : x.length = y.length) (j : Nat) (hp : 0 < p) : (rowop p k x y).getD j 0 = (x.getD j 0 - k * y.getD j 0) % p := by
  by_cases hj : j < x.length
  · simp [rowop, hj]
  · have h1 : x.getD j 0 = 0 := by rw [List.getD_eq_getElem?_getD, List.getElem?_eq_none (by lia)]; rfl
    have h2 : y.getD j 0 = 0 := by rw [List.getD_eq_getElem?_getD, List.getElem?_eq_none (by lia)]; rfl
    rw [h1, h2]
    simp [rowop, hj]
theorem rowop_cg {k : Int} {x y : List Int} (hl : x.length = y.length) (j : Nat) (hp : 0 < p) : Cg p ((rowop p k x y).getD j 0) (x.getD j 0 - k * y.getD j 0) := by
  rw [rowop_getD hl j hp]; exact Cg.mod _
theorem Good.op (hp : 0 < p) (G : Good p rows size wide W) {a d : Nat} {ra rd : List Int} (k : Int) (ha : W[a]? = some ra) (hd : W[d]? = some rd) (had : a ≠ d) : Good p rows size wide (W.set a (rowop p k ra rd)) := by
  have hal : a < W.length := (List.getElem?_eq_some_iff.mp ha).1
  have hdl : d < W.length := (List.getElem?_eq_some_iff.mp hd).1
  have ma := List.mem_of_getElem? ha
  have md := List.mem_of_getElem? hd
  have hll : ra.length = rd.length := by rw [(G.row ra ma).1, (G.row rd md).1]
  have key : ∀ j c, Cg p (dotp (col (W.set a (rowop p k ra rd)) j) c) (dotp (col W j) (upd c d (c d - k * c a))) := fun j c => by
    rw [col_set, dotp_set _ _ _ _ (by simpa using hal), dotp_upd, col_getD ha, col_getD hd]
    refine (Cg.rfl'.add (Cg.mulR (c a) ((rowop_cg hll j hp).sub Cg.rfl'))).trans (Cg.of_eq ?_)
    grind
  refine ⟨by simp [G.len], fun r hr => ?_, fun r hr i hi => ?_, fun c hc i hi => ?_, fun w => ?_⟩
  · rcases List.mem_or_eq_of_mem_set hr with hr | rfl
    · exact G.row r hr
    · refine ⟨by simp [rowop, (G.row ra ma).1], fun x hx => ?_⟩
      obtain ⟨j, _, rfl⟩ := List.mem_map.mp hx
      exact mod_ri hp
  · rcases List.mem_or_eq_of_mem_set hr with hr | rfl
    · exact G.lin r hr i hi
    · refine (rowop_cg hll i hp).trans (((G.lin ra ma i hi).sub (Cg.mulL k (G.lin rd md i hi))).trans ?_)
      refine (Cg.trans (Cg.of_eq ?_) (dotp_cg (col rows i) (fun j => ra.getD (wide + j) 0 - rd.getD (wide + j) 0 * k) _ fun j _ => ((rowop_cg hll (wide + j) hp).trans (Cg.of_eq (by grind))).symm))
      rw [dotp_sub_g, dotp_mul_g]; grind
  · have h := G.inj _ fun j hj => (key (wide + j) c).symm.trans (hc j hj)
    have hla := G.len
    have hca : Cg p (c a) 0 := by
      have := h a (by lia)
      simpa [upd, had] using this
    by_cases hid : i = d
    · subst hid
      have h1 := h i hi
      simp only [upd, if_pos] at h1
      have := h1.add (Cg.mulL k hca)
      exact (Cg.of_eq (by grind)).trans (this.trans (Cg.of_eq (by grind)))
    · have := h i hi
      simpa [upd, hid] using this
  · obtain ⟨c, hc⟩ := G.onto w
    refine ⟨upd c d (c d + k * c a), fun j hj => (key (wide + j) _).trans ?_⟩
    have : upd (upd c d (c d + k * c a)) d (upd c d (c d + k * c a) d - k * upd c d (c d + k * c a) a) = c := by
      funext i
      simp only [upd]
      by_cases h1 : i = d
      · subst h1; simp [had]
      · simp [h1]
    rw [this]; exact hc j hj

/-- the echelon so far -/
structure Ech (p : Int) (W : List (List Int)) (done cl : Nat) : Prop where
  le : done ≤ W.length
  zero : ∀ i r, done ≤ i → W[i]? = some r → ∀ k, k < cl → r.getD k 0 = 0
  piv : ∀ c : Nat → Int, (∀ k, k < cl → Cg p (dotp (col W k) c) 0) → ∀ i, i < done → Cg p (c i) 0
theorem Ech.skip (E : Ech p W done cl) (h : ∀ i r, done ≤ i → W[i]? = some r → r.getD cl 0 = 0) : Ech p W done (cl + 1) :=
  ⟨E.le, fun i r hi hr k hk => by
    by_cases hk' : k < cl
    · exact E.zero i r hi hr k hk'
    · rw [show k = cl by lia]; exact h i r hi hr, fun c hc i hi => E.piv c (fun k hk => hc k (by lia)) i hi⟩
theorem col_ext {V W : List (List Int)} {done k : Nat} (hl : V.length = W.length) (hs : ∀ i, i < done → V[i]? = W[i]?) (hv : ∀ i r, done ≤ i → V[i]? = some r → r.getD k 0 = 0) (hw : ∀ i r, done ≤ i → W[i]? = some r → r.getD k 0 = 0) : col V k = col W k := by
  refine List.ext_getElem (by simp [hl]) fun i h1 h2 => ?_
  have i1 : i < V.length := by simpa using h1
  have i2 : i < W.length := by simpa using h2
  simp only [col, List.getElem_map]
  by_cases hi : i < done
  · have := hs i hi
    rw [List.getElem?_eq_getElem i1, List.getElem?_eq_getElem i2] at this
    rw [Option.some.inj this]
  · rw [hv i V[i] (by lia) (by simp), hw i W[i] (by lia) (by simp)]
/-- a column is done: V is W but for the rows from done on -/
theorem Ech.next {V : List (List Int)} {done cl : Nat} {y t : Int} {rd : List Int} (E : Ech p W done cl) (hl : V.length = W.length) (hs : ∀ i, i < done → V[i]? = W[i]?) (hd : V[done]? = some rd) (hy : rd.getD cl 0 = y) (ht : Cg p (t * y) 1)
    (hz : ∀ i r, done ≤ i → V[i]? = some r → ∀ k, k < cl → r.getD k 0 = 0) (hn : ∀ i r, done + 1 ≤ i → V[i]? = some r → r.getD cl 0 = 0) : Ech p V (done + 1) (cl + 1) := by
  refine ⟨(List.getElem?_eq_some_iff.mp hd).1, fun i r hi hr k hk => ?_, fun c hc => ?_⟩
  · by_cases hk' : k < cl
    · exact hz i r (by lia) hr k hk'
    · rw [show k = cl by lia]; exact hn i r hi hr
  · have h1 : ∀ i, i < done → Cg p (c i) 0 := E.piv c fun k hk => by
      rw [← col_ext hl hs (fun i r hi hr => hz i r hi hr k hk) (fun i r hi hr => E.zero i r hi hr k hk)]
      exact hc k (by lia)
    have h2 := hc cl (by lia)
    have hzz : ∀ i, done + 1 ≤ i → (col V cl).getD i 0 = 0 := fun i hi => by
      cases e : V[i]? with
      | none => simp [List.getD, col, e]
      | some r => rw [col_getD e]; exact hn i r hi e
    rw [← dotp_take_z hzz, dotp_take_succ (col_at hd), hy] at h2
    have h3 : Cg p (dotp ((col V cl).take done) c) 0 := (dotp_cg _ c (fun _ => 0) fun k hk => h1 k (by simp at hk; lia)).trans (Cg.of_eq (dotp_zero_fun' _))
    have h4 : Cg p (y * c done) 0 := (Cg.of_eq (by lia)).trans ((h2.sub h3).trans (Cg.of_eq (by lia)))
    have h5 : Cg p (c done) 0 := by
      have a := Cg.mulL t h4
      have b := Cg.mulR (c done) ht
      exact (Cg.of_eq (by lia)).trans (b.symm.trans ((Cg.of_eq (by grind)).trans (a.trans (Cg.of_eq (by lia)))))
    intro i hi
    by_cases hid : i = done
    · rw [hid]; exact h5
    · exact h1 i (by lia)

/-- what base is told to be -/
structure NullS (p : Int) (rows : List (List Int)) (size wide : Nat) (base : List (List Int)) : Prop where
  len : base.length ≤ size
  row : ∀ r ∈ base, r.length = size ∧ Ri p r
  lies : ∀ c : Nat → Int, ∀ k, k < wide → Cg p (dotp (col rows k) fun j => dotp (col base j) c) 0
  onto : ∀ w : Nat → Int, (∀ k, k < wide → Cg p (dotp (col rows k) w) 0) → ∃ c : Nat → Int, ∀ j, j < size → Cg p (dotp (col base j) c) (w j)
  inj : ∀ c : Nat → Int, (∀ j, j < size → Cg p (dotp (col base j) c) 0) → ∀ i, i < base.length → Cg p (c i) 0
theorem lin_all {V : List (List Int)} (hl : ∀ r ∈ V, ∀ k, k < wide → Cg p (r.getD k 0) (dotp (col rows k) fun j => r.getD (wide + j) 0)) {k : Nat} (hk : k < wide) : ∀ c : Nat → Int, Cg p (dotp (col rows k) fun j => dotp (col V (wide + j)) c) (dotp (col V k) c) := by
  induction V with
  | nil => intro c; simp only [col, List.map_nil, dotp]; exact Cg.of_eq (dotp_zero_fun' _)
  | cons r V ih =>
    intro c
    have ih' := ih (fun r hr => hl r (List.mem_cons_of_mem _ hr)) fun k => c (k + 1)
    have h := hl r List.mem_cons_self k hk
    have e : (fun j => dotp (col (r :: V) (wide + j)) c) = fun j => r.getD (wide + j) 0 * c 0 + dotp (col V (wide + j)) fun k => c (k + 1) := by
      funext j; simp [col, dotp]
    rw [e, dotp_add_g, dotp_mul_g]
    have e2 : dotp (col (r :: V) k) c = r.getD k 0 * c 0 + dotp (col V k) fun k => c (k + 1) := by simp [col, dotp]
    rw [e2]
    exact (Cg.mulR _ h.symm).add ih'
theorem null_of {base : List (List Int)} {done : Nat} (G : Good p rows size wide W) (E : Ech p W done wide) (hp : 0 < p) (hrl : rows.length ≤ size) (hb : base = (W.drop done).map fun r => r.drop wide) : NullS p rows size wide base := by
  have hcb : ∀ j, col base j = (col W (wide + j)).drop done := fun j => by
    rw [hb]; unfold col
    rw [List.map_map, ← List.map_drop]
    exact List.map_congr_left fun r _ => by simp [List.getD]
  have hle := E.le
  have hlen := G.len
  have hd : ∀ j c, dotp (col base j) c = dotp (col W (wide + j)) fun i => if i < done then 0 else c (i - done) := fun j c => by
    rw [hcb, dotp_drop _ _ _ (by simpa using hle)]
  refine ⟨by rw [hb]; simp; lia, fun r hr => ?_, fun c k hk => ?_, fun w hw => ?_, fun c hc i hi => ?_⟩
  · rw [hb] at hr
    obtain ⟨r', hr', rfl⟩ := List.mem_map.mp hr
    obtain ⟨h1, h2⟩ := G.row r' (List.mem_of_mem_drop hr')
    exact ⟨by simp [h1], fun x hx => h2 x (List.mem_of_mem_drop hx)⟩
  · simp only [hd]
    refine (lin_all G.lin hk _).trans (Cg.of_eq ?_)
    have : col W k = (col W k).take done ++ List.replicate (size - done) 0 := by
      conv => lhs; rw [← List.take_append_drop done (col W k)]
      congr 1
      refine List.eq_replicate_iff.mpr ⟨by simp [hlen], fun x hx => ?_⟩
      obtain ⟨i, hi, rfl⟩ := List.mem_iff_getElem.mp hx
      have hi' : done + i < W.length := by simp at hi; lia
      simp only [List.getElem_drop, col, List.getElem_map]
      exact E.zero (done + i) _ (by lia) (List.getElem?_eq_getElem hi') k hk
    have h0 := dotp_drop (col W k) done c (by simpa using hle)
    rw [h0, this, List.drop_append]
    simp only [List.length_take, col_len, Nat.min_eq_left hle, Nat.sub_self, List.drop_zero]
    rw [dotp_append, dotp_zeros, List.drop_of_length_le (by simp; lia)]
    simp [dotp]
  · obtain ⟨c, hc⟩ := G.onto w
    have hz := E.piv c fun k hk => ((lin_all G.lin hk c).symm).trans ((dotp_cg _ _ _ fun j hj => hc j (by
      by_cases h : j < size
      · exact h
      · exfalso
        have : (col rows k).length ≤ size := by simpa using hrl
        lia)).trans (hw k hk))
    refine ⟨fun i => c (i + done), fun j hj => ?_⟩
    rw [hd]
    refine (dotp_cg _ _ c fun i hi => ?_).trans (hc j hj)
    by_cases hid : i < done
    · rw [if_pos hid]; exact (hz i hid).symm
    · rw [if_neg hid]; exact Cg.of_eq (by congr 1; lia)
  · have h := G.inj _ fun j hj => by rw [← hd]; exact hc j hj
    have hbl : base.length = size - done := by rw [hb]; simp [hlen]
    have := h (i + done) (by lia)
    rw [if_neg (by lia)] at this
    exact (Cg.of_eq (by congr 1; lia)).trans this
end
end Mine
end
section
namespace Mine

def unit (n i : Nat) : List Int := (List.range n).map fun s => if s = i then 1 else 0
theorem unit_getD {n i j : Nat} (hj : j < n) : (unit n i).getD j 0 = if j = i then 1 else 0 := by simp [unit, hj]
def work0 (rows : List (List Int)) : List (List Int) := (List.range rows.length).map fun i => rows.getD i [] ++ unit rows.length i
theorem dotp_unit (c : Nat → Int) (j : Nat) : ∀ n, j < n → dotp ((List.range n).map fun i => if i = j then 1 else 0) c = c j := by
  intro n hj
  have : ∀ m, dotp ((List.range m).map fun i => if i = j then 1 else 0) c = if j < m then c j else 0 := fun m => by
    induction m with
    | zero => simp [dotp]
    | succ m ih =>
      rw [List.range_succ, List.map_append, dotp_append, ih]
      simp only [List.map_cons, List.map_nil, dotp, List.length_map, List.length_range, Nat.zero_add]
      by_cases h1 : j < m
      · simp [h1, show ¬ (m = j) by lia, show j < m + 1 by lia]
      · by_cases h2 : m = j
        · simp [h2]
        · simp [h1, h2, show ¬ (j < m + 1) by lia]
  rw [this, if_pos hj]
theorem good0 {p : Int} {rows : List (List Int)} {wide : Nat} (hp : 2 ≤ p) (hr : ∀ r ∈ rows, r.length = wide ∧ Ri p r) : Good p rows rows.length wide (work0 rows) := by
  have hat : ∀ r ∈ work0 rows, ∃ i r0, i < rows.length ∧ rows[i]? = some r0 ∧ r0 ∈ rows ∧ r = r0 ++ unit rows.length i := fun r h => by
    obtain ⟨i, hi, rfl⟩ := List.mem_map.mp h
    have hi' : i < rows.length := by simpa using hi
    exact ⟨i, rows[i], hi', by simp, by simp, by simp [hi']⟩
  have hu : ∀ r0 : List Int, r0.length = wide → ∀ i j, j < rows.length → (r0 ++ unit rows.length i).getD (wide + j) 0 = if j = i then 1 else 0 := fun r0 h0 i j hj => by
    rw [← unit_getD hj, ← h0, List.getD_eq_getElem?_getD, List.getElem?_append_right (by lia), List.getD_eq_getElem?_getD]
    congr 2; lia
  have hcol : ∀ j, j < rows.length → col (work0 rows) (wide + j) = (List.range rows.length).map fun i => if i = j then 1 else 0 := fun j hj => by
    unfold col work0
    rw [List.map_map]
    refine List.map_congr_left fun i hi => ?_
    have hi' : i < rows.length := by simpa using hi
    have := hu (rows.getD i []) (by simpa [hi'] using (hr rows[i] (by simp)).1) i j hj
    simp only [Function.comp]
    rw [this]
    by_cases h : i = j
    · rw [if_pos h, if_pos h.symm]
    · rw [if_neg h, if_neg (fun e => h e.symm)]
  refine ⟨by simp [work0], fun r h => ?_, fun r h k hk => ?_, fun c hc i hi => ?_, fun w => ⟨w, fun j hj => ?_⟩⟩
  · obtain ⟨i, r0, hi, h0, hm, rfl⟩ := hat r h
    obtain ⟨h1, h2⟩ := hr r0 hm
    refine ⟨by simp [h1, unit], h2.append fun x hx => ?_⟩
    obtain ⟨s, _, rfl⟩ := List.mem_map.mp hx
    split <;> lia
  · obtain ⟨i, r0, hi, h0, hm, rfl⟩ := hat r h
    have h1 := (hr r0 hm).1
    have e : (r0 ++ unit rows.length i).getD k 0 = r0.getD k 0 := by
      rw [List.getD_eq_getElem?_getD, List.getElem?_append_left (by lia), ← List.getD_eq_getElem?_getD]
    rw [e]
    refine Cg.trans (Cg.of_eq ?_) (dotp_cg (col rows k) (fun j => if j = i then 1 else 0) _ fun j hj => Cg.of_eq (hu r0 h1 i j (by simpa using hj)).symm)
    rw [dotp_delta, col_getD h0]
  · have := hc i hi
    rw [hcol i hi, dotp_unit c i _ hi] at this
    exact this
  · rw [hcol j hj, dotp_unit w j _ hj]; exact Cg.rfl'
theorem ech0 {p : Int} {W : List (List Int)} : Ech p W 0 0 := ⟨Nat.zero_le _, fun i r _ _ k hk => absurd hk (Nat.not_lt_zero _), fun c _ i hi => absurd hi (Nat.not_lt_zero _)⟩

def putP (p : Int) (ws : List Int) (rows : List (List Int)) (wide : Nat) : List Int := (List.range wide).map fun k => dotp (col rows k) (fun i => ws.getD i 0) % p
def allP (P : Nat) : Nat → List (List Int)
  | 0 => [[]]
  | n + 1 => (allP P n).flatMap fun row => (List.range P).map fun (x : Nat) => row ++ [(x : Int)]
theorem mem_allP (P : Nat) : ∀ (n : Nat) (v : List Int), v ∈ allP P n ↔ v.length = n ∧ Ri P v
  | 0, v => by
    simp only [allP, List.mem_singleton]
    constructor
    · rintro rfl; exact ⟨rfl, Ri.nil⟩
    · rintro ⟨h, _⟩; exact List.length_eq_zero_iff.mp h
  | n + 1, v => by
    simp only [allP, List.mem_flatMap, List.mem_map, List.mem_range, mem_allP P n]
    constructor
    · rintro ⟨row, ⟨h1, h2⟩, x, hx, rfl⟩
      exact ⟨by simp [h1], h2.append (Ri.one ⟨by lia, by lia⟩)⟩
    · rintro ⟨h1, h2⟩
      have hne : v ≠ [] := by rintro rfl; simp at h1
      have hl := h2 (v.getLast hne) (List.getLast_mem hne)
      refine ⟨v.dropLast, ⟨by simp [h1], fun x hx => h2 x (List.dropLast_subset v hx)⟩, (v.getLast hne).toNat, by lia, ?_⟩
      rw [show (((v.getLast hne).toNat : Nat) : Int) = v.getLast hne by lia]
      exact List.dropLast_concat_getLast hne
theorem nodup_allP (P : Nat) : ∀ n, (allP P n).Nodup
  | 0 => by simp [allP]
  | n + 1 => by
    unfold List.Nodup
    simp only [allP]
    rw [List.pairwise_flatMap]
    refine ⟨fun row hr => ?_, (nodup_allP P n).imp_of_mem fun {a b} ha hb hab x hx y hy => ?_⟩
    · rw [List.pairwise_map]
      refine List.nodup_range.imp fun {a b} hab e => hab ?_
      have := List.append_cancel_left e
      have : (a : Int) = b := by simpa using this
      lia
    · obtain ⟨i, _, rfl⟩ := List.mem_map.mp hx
      obtain ⟨j, _, rfl⟩ := List.mem_map.mp hy
      intro e
      have la := ((mem_allP P n a).mp ha).1
      have lb := ((mem_allP P n b).mp hb).1
      exact hab (List.append_inj_left e (by rw [la, lb]))
theorem len_allP (P : Nat) : ∀ n, (allP P n).length = P ^ n
  | 0 => by simp [allP]
  | n + 1 => by
    simp only [allP, List.length_flatMap, List.length_map, List.length_range]
    rw [List.map_const', List.sum_replicate_nat, len_allP P n, Nat.pow_succ]
theorem putP_ri {p : Int} (hp : 0 < p) (ws : List Int) (rows : List (List Int)) (wide : Nat) : (putP p ws rows wide).length = wide ∧ Ri p (putP p ws rows wide) :=
  ⟨by simp [putP], fun x hx => by obtain ⟨k, _, rfl⟩ := List.mem_map.mp hx; exact mod_ri hp⟩
theorem putP_getD {p : Int} {ws : List Int} {rows : List (List Int)} {wide k : Nat} (hk : k < wide) : (putP p ws rows wide).getD k 0 = dotp (col rows k) (fun i => ws.getD i 0) % p := by simp [putP, hk]
theorem ri_ext {p : Int} {a b : List Int} (hl : a.length = b.length) (ha : Ri p a) (hb : Ri p b) (hp : 0 < p) (h : ∀ i, i < a.length → Cg p (a.getD i 0) (b.getD i 0)) : a = b := by
  refine List.ext_getElem hl fun i h1 h2 => ?_
  have := (h i h1).eq_of (ha.getD hp i) (hb.getD hp i)
  simpa [h1, h2] using this
theorem putP_zero {p : Int} {ws : List Int} {rows : List (List Int)} {wide : Nat} (hp : 0 < p) : putP p ws rows wide = List.replicate wide 0 ↔ ∀ k, k < wide → Cg p (dotp (col rows k) fun i => ws.getD i 0) 0 := by
  constructor
  · intro h k hk
    have := putP_getD (p := p) (ws := ws) (rows := rows) hk
    rw [h] at this
    refine Cg.of_mod ?_
    rw [← this]; simp [hk]
  · intro h
    refine ri_ext (by simp [putP]) (putP_ri hp ..).2 (Ri.zeros hp _) hp fun k hk => ?_
    have hk' : k < wide := by simpa [putP] using hk
    rw [putP_getD hk']
    exact (Cg.mod _).trans ((h k hk').trans (Cg.of_eq (by simp [hk'])))
theorem null_perm {P : Nat} {rows base : List (List Int)} {size wide : Nat} (hp : 0 < P) (hrl : rows.length = size) (N : NullS P rows size wide base) (q : List Int → Bool) (hq : ∀ w, q w = true ↔ putP P w rows wide = List.replicate wide 0) :
    ((allP P base.length).map fun c => putP P c base size).Perm ((allP P size).filter q) := by
  have hp' : (0 : Int) < P := by lia
  refine (List.perm_ext_iff_of_nodup ?_ ((nodup_allP P size).filter q)).mpr fun w => ?_
  · unfold List.Nodup
    rw [List.pairwise_map]
    refine (nodup_allP P base.length).imp_of_mem fun {a b} ha hb hab e => hab ?_
    obtain ⟨la, ra⟩ := (mem_allP P _ a).mp ha
    obtain ⟨lb, rb⟩ := (mem_allP P _ b).mp hb
    have key : ∀ i, i < base.length → Cg P (a.getD i 0 - b.getD i 0) 0 := N.inj _ fun j hj => by
      have h1 := putP_getD (p := P) (ws := a) (rows := base) hj
      have h2 := putP_getD (p := P) (ws := b) (rows := base) hj
      rw [e, h2] at h1
      rw [dotp_sub_g]
      exact ((Cg.mod _).symm.trans ((Cg.of_eq h1.symm).trans (Cg.mod _))).sub Cg.rfl' |>.trans (Cg.of_eq (by lia))
    refine ri_ext (by rw [la, lb]) ra rb hp' fun i hi => ?_
    have := (key i (by lia)).add (Cg.rfl' (x := b.getD i 0))
    exact (Cg.of_eq (by lia)).trans (this.trans (Cg.of_eq (by lia)))
  · rw [List.mem_map, List.mem_filter, mem_allP, hq, putP_zero hp']
    constructor
    · rintro ⟨c, hc, rfl⟩
      refine ⟨putP_ri hp' .., fun k hk => ?_⟩
      refine Cg.trans ?_ (N.lies (fun i => c.getD i 0) k hk)
      refine dotp_cg _ _ _ fun j hj => ?_
      rw [putP_getD (by simp at hj; lia)]
      exact Cg.mod _
    · rintro ⟨⟨hl, hr⟩, hz⟩
      obtain ⟨c, hc⟩ := N.onto _ hz
      refine ⟨(List.range base.length).map fun i => c i % P, (mem_allP P _ _).mpr ⟨by simp, fun x hx => by obtain ⟨k, _, rfl⟩ := List.mem_map.mp hx; exact mod_ri hp'⟩, ?_⟩
      refine ri_ext (by simp [putP, hl]) (putP_ri hp' ..).2 hr hp' fun j hj => ?_
      have hj' : j < size := by simpa [putP] using hj
      rw [putP_getD hj']
      refine (Cg.mod _).trans (Cg.trans ?_ (hc j hj'))
      refine dotp_cg _ _ _ fun i hi => ?_
      have hi' : i < base.length := by simpa using hi
      rw [show ((List.range base.length).map fun i => c i % (P : Int)).getD i 0 = c i % P by simp [hi']]
      exact Cg.mod _
end Mine
end
section
open PySem PySem.Calls
set_option genSizeOf false
set_option genSizeOfSpec false
namespace Mine

inductive AV where
  | int (i : Int)
  | bool (b : Bool)
  | none
  | lst (xs : List AV)
  | tup (xs : List AV)
  | own (a : Addr)

set_option genInjectivity false
abbrev lobj (vs : List Value) (n : Nat) : Obj := { cls := .type "list", dict := Option.none, data := .seq vs.toArray n, slots := #[] }
abbrev tobj (vs : List Value) (n : Nat) : Obj := { cls := .type "tuple", dict := Option.none, data := .seq vs.toArray n, slots := #[] }

mutual
inductive IsV (P : Addr → Obj → Prop) : Value → AV → Prop
  | int (i : Int) (t : Tok) : IsV P (.int i t) (.int i)
  | bool (b : Bool) : IsV P (.bool b) (.bool b)
  | none : IsV P .none .none
  | own (a : Addr) : IsV P (.ref a) (.own a)
  | lst {a : Addr} {vs : List Value} {n : Nat} {xs : List AV} : P a (lobj vs n) → IsVs P vs xs → IsV P (.ref a) (.lst xs)
  | tup {a : Addr} {o : Obj} {vs : List Value} {n : Nat} {xs : List AV} : P a o → o.cls = .type "tuple" → o.data = .seq vs.toArray n → IsVs P vs xs → IsV P (.ref a) (.tup xs)
inductive IsVs (P : Addr → Obj → Prop) : List Value → List AV → Prop
  | nil : IsVs P [] []
  | cons {v : Value} {vs : List Value} {x : AV} {xs : List AV} : IsV P v x → IsVs P vs xs → IsVs P (v :: vs) (x :: xs)
end

/-- an object that holds a row of items -/
def SeqO (o : Obj) : Prop := ∃ xs n, o.data = .seq xs n
theorem SeqO.l {vs : List Value} {n : Nat} : SeqO (lobj vs n) := ⟨_, _, rfl⟩

mutual
theorem IsV.mono {P P' : Addr → Obj → Prop} (h : ∀ a o, SeqO o → P a o → P' a o) : ∀ {v : Value} {x : AV}, IsV P v x → IsV P' v x
  | _, _, .int i t => .int i t
  | _, _, .bool b => .bool b
  | _, _, .none => .none
  | _, _, .own a => .own a
  | _, _, .lst p q => .lst (h _ _ SeqO.l p) (IsVs.mono h q)
  | _, _, .tup p c d q => .tup (h _ _ ⟨_, _, d⟩ p) c d (IsVs.mono h q)
theorem IsVs.mono {P P' : Addr → Obj → Prop} (h : ∀ a o, SeqO o → P a o → P' a o) : ∀ {vs : List Value} {xs : List AV}, IsVs P vs xs → IsVs P' vs xs
  | _, _, .nil => .nil
  | _, _, .cons p q => .cons (IsV.mono h p) (IsVs.mono h q)
end

section
variable {P : Addr → Obj → Prop} {vs ws : List Value} {xs ys : List AV} {v : Value} {x : AV}
theorem IsVs.length (h : IsVs P vs xs) : vs.length = xs.length := by
  induction vs generalizing xs with
  | nil => cases h; rfl
  | cons v vs ih => cases h with | cons _ r => simp [ih r]
theorem IsVs.append (h : IsVs P vs xs) (k : IsVs P ws ys) : IsVs P (vs ++ ws) (xs ++ ys) := by
  induction vs generalizing xs with
  | nil => cases h; exact k
  | cons v vs ih => cases h with | cons h r => exact .cons h (ih r)
theorem IsVs.get (h : IsVs P vs xs) {i : Nat} {x : AV} (hx : xs[i]? = some x) : ∃ v, vs[i]? = some v ∧ IsV P v x := by
  induction vs generalizing xs i with
  | nil => cases h; simp at hx
  | cons v vs ih =>
    cases h with
    | cons h r =>
      cases i with
      | zero => simp at hx; subst hx; exact ⟨v, rfl, h⟩
      | succ i => simp at hx; simpa using ih r hx
theorem IsVs.get' (h : IsVs P vs xs) {i : Nat} {v : Value} (hv : vs[i]? = some v) : ∃ x, xs[i]? = some x ∧ IsV P v x := by
  induction vs generalizing xs i with
  | nil => simp at hv
  | cons w vs ih =>
    cases h with
    | cons h r =>
      cases i with
      | zero => simp at hv; subst hv; exact ⟨_, rfl, h⟩
      | succ i => simp at hv; simpa using ih r hv
theorem IsVs.set (h : IsVs P vs xs) (k : IsV P v x) (i : Nat) : IsVs P (vs.set i v) (xs.set i x) := by
  induction vs generalizing xs i with
  | nil => cases h; exact .nil
  | cons w vs ih =>
    cases h with
    | cons h r =>
      cases i with
      | zero => exact .cons k r
      | succ i => exact .cons h (ih r i)
theorem IsVs.take (h : IsVs P vs xs) (i : Nat) : IsVs P (vs.take i) (xs.take i) := by
  induction vs generalizing xs i with
  | nil => cases h; simpa using IsVs.nil
  | cons w vs ih =>
    cases h with
    | cons h r =>
      cases i with
      | zero => exact .nil
      | succ i => exact .cons h (ih r i)
theorem IsVs.drop (h : IsVs P vs xs) (i : Nat) : IsVs P (vs.drop i) (xs.drop i) := by
  induction vs generalizing xs i with
  | nil => cases h; simpa using IsVs.nil
  | cons w vs ih =>
    cases h with
    | cons h r =>
      cases i with
      | zero => exact .cons h r
      | succ i => exact ih r i
theorem IsVs.one (h : IsV P v x) : IsVs P [v] [x] := .cons h .nil
end

theorem IsV.int_inv {P : Addr → Obj → Prop} {v : Value} {i : Int} (h : IsV P v (.int i)) : ∃ t, v = .int i t := by cases h; exact ⟨_, rfl⟩
theorem IsV.bool_inv {P : Addr → Obj → Prop} {v : Value} {b : Bool} (h : IsV P v (.bool b)) : v = .bool b := by cases h; rfl
theorem IsV.own_inv {P : Addr → Obj → Prop} {v : Value} {a : Addr} (h : IsV P v (.own a)) : v = .ref a := by cases h; rfl
theorem IsV.lst_inv {P : Addr → Obj → Prop} {v : Value} {xs : List AV} (h : IsV P v (.lst xs)) : ∃ a vs n, v = .ref a ∧ P a (lobj vs n) ∧ IsVs P vs xs := by cases h with | lst p q => exact ⟨_, _, _, rfl, p, q⟩
theorem IsV.tup_inv {P : Addr → Obj → Prop} {v : Value} {xs : List AV} (h : IsV P v (.tup xs)) : ∃ a o vs n, v = .ref a ∧ P a o ∧ o.cls = .type "tuple" ∧ o.data = .seq vs.toArray n ∧ IsVs P vs xs := by cases h with | tup p c d q => exact ⟨_, _, _, _, rfl, p, c, d, q⟩
theorem IsVs.nil_inv {P : Addr → Obj → Prop} {vs : List Value} (h : IsVs P vs []) : vs = [] := by cases h; rfl
theorem IsVs.cons_inv {P : Addr → Obj → Prop} {vs : List Value} {x : AV} {xs : List AV} (h : IsVs P vs (x :: xs)) : ∃ v ws, vs = v :: ws ∧ IsV P v x ∧ IsVs P ws xs := by cases h with | cons p q => exact ⟨_, _, rfl, p, q⟩
theorem IsVs.one_inv {P : Addr → Obj → Prop} {vs : List Value} {x : AV} (h : IsVs P vs [x]) : ∃ v, vs = [v] ∧ IsV P v x := by
  obtain ⟨v, ws, rfl, h1, h2⟩ := h.cons_inv
  rw [h2.nil_inv]; exact ⟨v, rfl, h1⟩
theorem IsVs.two_inv {P : Addr → Obj → Prop} {vs : List Value} {x y : AV} (h : IsVs P vs [x, y]) : ∃ v w, vs = [v, w] ∧ IsV P v x ∧ IsV P w y := by
  obtain ⟨v, ws, rfl, h1, h2⟩ := h.cons_inv
  obtain ⟨w, rfl, h3⟩ := h2.one_inv
  exact ⟨v, w, rfl, h1, h3⟩
theorem IsVs.three_inv {P : Addr → Obj → Prop} {vs : List Value} {x y z : AV} (h : IsVs P vs [x, y, z]) : ∃ v w u, vs = [v, w, u] ∧ IsV P v x ∧ IsV P w y ∧ IsV P u z := by
  obtain ⟨v, ws, rfl, h1, h2⟩ := h.cons_inv
  obtain ⟨w, u, rfl, h3, h4⟩ := h2.two_inv
  exact ⟨v, w, u, rfl, h1, h3, h4⟩

/-- the ledger of owned lists -/
abbrev Led := List (Addr × List AV)
def keys (o : Led) : List Addr := o.map (·.1)
@[simp] theorem keys_nil : keys [] = [] := rfl
@[simp] theorem keys_cons (p : Addr × List AV) (o : Led) : keys (p :: o) = p.1 :: keys o := rfl
@[simp] theorem keys_append (o o' : Led) : keys (o ++ o') = keys o ++ keys o' := List.map_append

/-- frozen look-ups -/
def Fz (o : Led) (hid : List Addr) (h : Heap) (a : Addr) (ob : Obj) : Prop := h.get? a = some ob ∧ a ∉ keys o ∧ a ∉ hid

structure FD where
  name : Str
  params : Arguments
  body : List Stmt
  scope : Scope
/-- the global part -/
structure Gl where
  defs : List FD
  prog : Program
  w : World
  B : Heap
  mg : Str → Option Value
  mb : Str → Option Value

structure HRel (g : Gl) (own : Led) (hid : List Addr) (h : Heap) : Prop where
  keep : ∀ a o, g.B.get? a = some o → h.get? a = some o
  led : ∀ p ∈ own, ∃ vs n, h.get? p.1 = some (lobj vs n) ∧ IsVs (Fz own hid h) vs p.2
  nod : (keys own).Nodup
  off : ∀ a ∈ keys own, a ∉ hid
  new : ∀ a ∈ keys own, g.B.get? a = none
  hx : ∀ a ∈ hid, ∃ o, h.get? a = some o ∧ SeqO o

/-- from (own, h) to (own', h'): what is not owned (nor in S) stays -/
structure Ste (S : List Addr) (own : Led) (h : Heap) (own' : Led) (h' : Heap) : Prop where
  chg : ∀ a o, a ∉ keys own → a ∉ S → h.get? a = some o → h'.get? a = some o
  fresh : ∀ a ∈ keys own', a ∈ keys own ∨ (h.get? a = none ∧ a ∉ S)
  thr : ∀ a, a ∉ S → (∃ o, h.get? a = some o) → ∃ o, h'.get? a = some o

theorem Ste.refl (S : List Addr) (own : Led) (h : Heap) : Ste S own h own h := ⟨fun _ _ _ _ e => e, fun _ m => .inl m, fun _ _ e => e⟩
theorem Ste.trans {S : List Addr} {o o' o'' : Led} {h h' h'' : Heap} (x : Ste S o h o' h') (y : Ste S o' h' o'' h'') : Ste S o h o'' h'' := by
  refine ⟨fun a ob ha hs e => y.chg a ob (fun m => ?_) hs (x.chg a ob ha hs e), fun a m => ?_, fun a hs e => y.thr a hs (x.thr a hs e)⟩
  · rcases x.fresh a m with q | q
    · exact ha q
    · rw [q.1] at e; cases e
  · rcases y.fresh a m with q | q
    · exact x.fresh a q
    · by_cases ha : a ∈ keys o
      · exact .inl ha
      · refine .inr ⟨?_, q.2⟩
        cases e : h.get? a with
        | none => rfl
        | some ob => have := x.chg a ob ha q.2 e; rw [q.1] at this; cases this
theorem Ste.widen {S S' : List Addr} {o o' : Led} {h h' : Heap} (x : Ste S' o h o' h') (sub : ∀ a ∈ S', a ∈ S) (hs : ∀ a ∈ S, a ∈ S' ∨ ∃ ob, h.get? a = some ob) : Ste S o h o' h' :=
  ⟨fun a ob ha hn e => x.chg a ob ha (fun m => hn (sub a m)) e, fun a m => (x.fresh a m).imp id fun q => ⟨q.1, fun ms => by
    rcases hs a ms with m' | ⟨ob, e⟩
    · exact q.2 m'
    · rw [q.1] at e; cases e⟩, fun a hn e => x.thr a (fun m => hn (sub a m)) e⟩
theorem Ste.wide {S : List Addr} {o o' : Led} {h h' : Heap} (x : Ste [] o h o' h') (hs : ∀ a ∈ S, ∃ ob, h.get? a = some ob) : Ste S o h o' h' := x.widen (by simp) fun a m => .inr (hs a m)
/-- the heap grew, the ledger stands -/
theorem Ste.grow {S : List Addr} {o : Led} {h h' : Heap} (k : ∀ a ob, h.get? a = some ob → h'.get? a = some ob) : Ste S o h o h' :=
  ⟨fun a ob _ _ e => k a ob e, fun _ m => .inl m, fun a _ ⟨o, e⟩ => ⟨o, k a o e⟩⟩
/-- what is written is of S -/
theorem Ste.but {S : List Addr} {o : Led} {h h' : Heap} (k : ∀ a ob, a ∉ S → h.get? a = some ob → h'.get? a = some ob) : Ste S o h o h' :=
  ⟨fun a ob _ hs e => k a ob hs e, fun _ m => .inl m, fun a hs ⟨o, e⟩ => ⟨o, k a o hs e⟩⟩

/-- the step keeps what is frozen -/
theorem Ste.fz {S : List Addr} {own own' : Led} {hid : List Addr} {h h' : Heap} (x : Ste S own h own' h') (hS : ∀ a ∈ S, ∀ o, h.get? a = some o → SeqO o → a ∈ hid) (a : Addr) (o : Obj) (ho : SeqO o) (p : Fz own hid h a o) : Fz own' hid h' a o := by
  have h1 : a ∉ S := fun m => p.2.2 (hS a m o p.1 ho)
  refine ⟨x.chg a o p.2.1 h1 p.1, fun m => ?_, p.2.2⟩
  rcases x.fresh a m with q | q
  · exact p.2.1 q
  · have := p.1; rw [q.1] at this; cases this

/-- a state: names and the owned lists -/
structure St where
  loc : List (Str × AV)
  own : Led

structure Room (A : Around) (n : Nat) : Prop where
  hd : A.handled = Option.none
  dp : A.depth + n < recursionLimit
  un : A.units + 8 * n + 80 < cLine

structure Cx where
  g : Gl
  A : Around
  n : Nat
  env : Env
  hid : List Addr

def slots (env : Env) : List Addr := env.locals :: env.cells.filterMap fun p => env.cells.lookup p.1
theorem slots_cell {env : Env} {x : Str} {a : Addr} (h : env.cells.lookup x = some a) : a ∈ slots env :=
  List.mem_cons_of_mem _ (List.mem_filterMap.mpr ⟨(x, a), mem_of_lookup h, h⟩)
/-- those that are written here -/
def wslots (env : Env) : List Addr := env.locals :: (env.cells.filterMap fun p => env.cells.lookup p.1).filter fun a => decide (@LT.lt Nat _ env.locals a)
theorem wslots_cell {env : Env} {x : Str} {a : Addr} (h : env.cells.lookup x = some a) (hl : @LT.lt Nat _ env.locals a) : a ∈ wslots env :=
  List.mem_cons_of_mem _ (List.mem_filter.mpr ⟨List.mem_filterMap.mpr ⟨(x, a), mem_of_lookup h, h⟩, decide_eq_true hl⟩)
theorem wsub {env : Env} {a : Addr} (h : a ∈ wslots env) : a ∈ slots env := by
  rcases List.mem_cons.mp h with h | h
  · exact List.mem_cons.mpr (.inl h)
  · exact List.mem_cons.mpr (.inr (List.mem_filter.mp h).1)
theorem slots_cases {env : Env} {a : Addr} (h : a ∈ slots env) : a = env.locals ∨ ∃ x, env.cells.lookup x = some a := by
  rcases List.mem_cons.mp h with h | h
  · exact .inl h
  · obtain ⟨p, _, e⟩ := List.mem_filterMap.mp h; exact .inr ⟨_, e⟩

def bis : List (Str × Value) := [("len", .builtin "len"), ("list", .type "list"), ("range", .type "range"), ("enumerate", .type "enumerate"), ("zip", .type "zip"), ("int", .type "int"), ("abs", .builtin "abs"), ("max", .builtin "max"), ("sum", .builtin "sum"), ("sorted", .builtin "sorted")]

structure Gl.Ok (g : Gl) : Prop where
  fn : ∀ d ∈ g.defs, ∃ fa o pm code doc, g.mg d.name = some (.ref fa) ∧ g.B.get? fa = some o ∧ o.data = .func (docDef d.name d.params d.body d.scope pm code doc) ∧ g.B.CodeRec code d.name
  bi : ∀ p ∈ bis, g.mg p.1 = Option.none ∧ g.mb p.1 = some p.2
  gl : g.B.Ns mainGlobals g.mg
  bl : g.B.Ns builtinsNs g.mb
  lim : g.B.NoLimit

structure Cx.Ok (c : Cx) : Prop where
  g : c.g.Ok
  rm : Room c.A c.n
  ek : c.env.scope.kind = .function
  eg : c.env.globals = mainGlobals
  eb : c.env.builtins = builtinsNs
  ep : c.env.cells.Pairwise fun x y => x.2 ≠ y.2
  el : ∀ x, c.env.cells.lookup x ≠ some c.env.locals
  nb : ∀ a ∈ slots c.env, c.g.B.get? a = Option.none

def SlotV (env : Env) (h : Heap) (x : Str) (v : Value) : Prop :=
  (env.kindOf x = some .local ∧ ∃ m, h.Ns env.locals m ∧ m x = some v) ∨
  ((env.kindOf x = some .cell ∨ env.kindOf x = some .free) ∧ ∃ a, env.cells.lookup x = some a ∧ h.IsCell a (some v))

/-- names and what is in them -/
structure LRel (c : Cx) (σ : St) (h : Heap) : Prop where
  ns : ∃ m, h.Ns c.env.locals m
  cl : ∀ x a, c.env.cells.lookup x = some a → ∃ v, h.IsCell a v
  loc : ∀ x av, σ.loc.lookup x = some av → ∃ v, IsV (Fz σ.own c.hid h) v av ∧ SlotV c.env h x v

structure Rel (c : Cx) (σ : St) (s : Shared) : Prop where
  ok : c.Ok
  hr : HRel c.g σ.own c.hid s.heap
  lr : LRel c σ s.heap

theorem not_seq_dict {o : Obj} {es : Array DictEntry} {ep : Nat} (h : o.data = .dict es ep) : ¬ SeqO o := by
  rintro ⟨vs, n, e⟩; rw [h] at e; cases e
theorem not_seq_cell {o : Obj} {v : Option Value} (h : o.data = .cell v) : ¬ SeqO o := by
  rintro ⟨vs, n, e⟩; rw [h] at e; cases e

theorem LRel.slotSeq {c : Cx} {σ : St} {h : Heap} (r : LRel c σ h) : ∀ a ∈ slots c.env, ∀ o, h.get? a = some o → ¬ SeqO o := by
  intro a ha o e
  rcases slots_cases ha with rfl | ⟨x, hx⟩
  · obtain ⟨m, o', es, ep, e', hd, _⟩ := r.ns
    rw [e] at e'; cases e'; exact not_seq_dict hd
  · obtain ⟨v, o', e', hd⟩ := r.cl x a hx
    rw [e] at e'; cases e'; exact not_seq_cell hd
theorem LRel.slotHid {c : Cx} {σ : St} {h : Heap} (r : LRel c σ h) : ∀ a ∈ slots c.env, ∀ o, h.get? a = some o → SeqO o → a ∈ c.hid := fun a ha o e so => (r.slotSeq a ha o e so).elim
theorem LRel.slotThere {c : Cx} {σ : St} {h : Heap} (r : LRel c σ h) : ∀ a ∈ slots c.env, ∃ o, h.get? a = some o := by
  intro a ha
  rcases slots_cases ha with rfl | ⟨x, hx⟩
  · obtain ⟨m, o', es, ep, e', _⟩ := r.ns
    exact ⟨_, e'⟩
  · obtain ⟨v, o', e', hd⟩ := r.cl x a hx
    exact ⟨_, e'⟩
theorem HRel.seq {g : Gl} {own : Led} {hid : List Addr} {h : Heap} (r : HRel g own hid h) {a : Addr} (m : a ∈ keys own) : ∃ vs n, h.get? a = some (lobj vs n) := by
  obtain ⟨p, hp, rfl⟩ := List.mem_map.mp m
  obtain ⟨vs, n, e, _⟩ := r.led p hp
  exact ⟨vs, n, e⟩
theorem Rel.slotOff {c : Cx} {σ : St} {s : Shared} (r : Rel c σ s) : ∀ a ∈ slots c.env, a ∉ keys σ.own := by
  intro a ha m
  obtain ⟨vs, n, e⟩ := r.hr.seq m
  exact r.lr.slotSeq a ha _ e SeqO.l
theorem Rel.slotOffH {c : Cx} {σ : St} {s : Shared} (r : Rel c σ s) : ∀ a ∈ slots c.env, a ∉ c.hid := by
  intro a ha m
  obtain ⟨o, e, so⟩ := r.hr.hx a m
  exact r.lr.slotSeq a ha _ e so

theorem SlotV.keep {env : Env} {h h' : Heap} {x : Str} {v : Value} (sv : SlotV env h x v) (k : ∀ a ∈ slots env, ∀ o, h.get? a = some o → h'.get? a = some o) : SlotV env h' x v := by
  rcases sv with ⟨hk, m, hm, e⟩ | ⟨hk, a, ha, o, e, hd⟩
  · exact .inl ⟨hk, m, hm.at' fun o e => k _ List.mem_cons_self o e, e⟩
  · exact .inr ⟨hk, a, ha, o, k _ (slots_cell ha) o e, hd⟩

/-- a step that keeps the slots keeps the names -/
theorem LRel.step {c : Cx} {σ σ' : St} {S : List Addr} {s : Shared} {h' : Heap} (r : Rel c σ s) (x : Ste S σ.own s.heap σ'.own h') (hl : σ'.loc = σ.loc) (hS : ∀ a ∈ S, ∀ o, s.heap.get? a = some o → SeqO o → a ∈ c.hid) (hs : ∀ a ∈ slots c.env, a ∉ S) : LRel c σ' h' := by
  have off := r.slotOff
  have k : ∀ a ∈ slots c.env, ∀ o, s.heap.get? a = some o → h'.get? a = some o := fun a ha o e =>
    x.chg a o (off a ha) (hs a ha) e
  refine ⟨?_, fun p a hp => ?_, fun y av e => ?_⟩
  · obtain ⟨m, hm⟩ := r.lr.ns
    exact ⟨m, hm.at' fun o e => k _ List.mem_cons_self o e⟩
  · obtain ⟨v, o, e, hd⟩ := r.lr.cl p a hp
    exact ⟨v, o, k _ (slots_cell hp) o e, hd⟩
  · rw [hl] at e
    obtain ⟨v, hv, sv⟩ := r.lr.loc y av e
    exact ⟨v, hv.mono (fun a o so p => x.fz hS a o so p), sv.keep k⟩
theorem LRel.stepE {c : Cx} {σ σ' : St} {s : Shared} {h' : Heap} (r : Rel c σ s) (x : Ste [] σ.own s.heap σ'.own h') (hl : σ'.loc = σ.loc) : LRel c σ' h' := LRel.step r x hl (by simp) (by simp)

theorem Fz.grow {o : Led} {hid : List Addr} {h h' : Heap} (k : ∀ a ob, h.get? a = some ob → h'.get? a = some ob) (a : Addr) (ob : Obj) (_ : SeqO ob) (q : Fz o hid h a ob) : Fz o hid h' a ob := ⟨k _ _ q.1, q.2⟩
/-- the heap turns, the ledger's own objects stand -/
theorem HRel.step {g : Gl} {own : Led} {hid : List Addr} {h h' : Heap} {S : List Addr} (r : HRel g own hid h) (x : ∀ a o, a ∉ S → h.get? a = some o → h'.get? a = some o) (hB : ∀ a ∈ S, g.B.get? a = none) (hS : ∀ a ∈ S, ∀ o, h.get? a = some o → SeqO o → a ∈ hid) (hh : ∀ a ∈ S, a ∈ hid → ∃ o, h'.get? a = some o ∧ SeqO o) : HRel g own hid h' := by
  have hS' : ∀ a ∈ S, a ∉ keys own := fun a ha m => by
    obtain ⟨vs, n, e⟩ := r.seq m
    exact r.off a m (hS a ha _ e SeqO.l)
  refine ⟨fun a o e => x a o (fun m => by rw [hB a m] at e; cases e) (r.keep a o e), fun p hp => ?_, r.nod, r.off, r.new, fun a m => ?_⟩
  · obtain ⟨vs, n, e, hv⟩ := r.led p hp
    exact ⟨vs, n, x _ _ (fun m => hS' _ m (List.mem_map.mpr ⟨p, hp, rfl⟩)) e, hv.mono fun a o so q => ⟨x _ _ (fun m => q.2.2 (hS a m o q.1 so)) q.1, q.2⟩⟩
  · by_cases ms : a ∈ S
    · exact hh a ms m
    · obtain ⟨o, e, so⟩ := r.hx a m; exact ⟨o, x _ _ ms e, so⟩
theorem HRel.grow {g : Gl} {own : Led} {hid : List Addr} {h h' : Heap} (r : HRel g own hid h) (k : ∀ a ob, h.get? a = some ob → h'.get? a = some ob) : HRel g own hid h' :=
  r.step (S := []) (fun a o _ e => k a o e) (by simp) (by simp) (by simp)
theorem Rel.grow {c : Cx} {σ : St} {s : Shared} (r : Rel c σ s) {h' : Heap} {tk : Nat} (k : ∀ a ob, s.heap.get? a = some ob → h'.get? a = some ob) : Rel c σ { s with heap := h', toks := tk } :=
  ⟨r.ok, r.hr.grow k, LRel.stepE r (Ste.grow k) rfl⟩

/-- a new list, owned -/
theorem HRel.push {g : Gl} {own : Led} {hid : List Addr} {h h' : Heap} {vs : List Value} {xs : List AV} {n : Nat} {a : Addr} (r : HRel g own hid h) (k : ∀ a ob, h.get? a = some ob → h'.get? a = some ob)
    (ha : h.get? a = Option.none) (ha' : h'.get? a = some (lobj vs n)) (hv : IsVs (Fz own hid h) vs xs) : HRel g ((a, xs) :: own) hid h' := by
  have hna : a ∉ keys own := fun m => by obtain ⟨vs, n, e⟩ := r.seq m; rw [ha] at e; cases e
  have hnh : a ∉ hid := fun m => by obtain ⟨o, e, _⟩ := r.hx a m; rw [ha] at e; cases e
  have up : ∀ b o, SeqO o → Fz own hid h b o → Fz ((a, xs) :: own) hid h' b o := fun b o _ q => by
    refine ⟨k _ _ q.1, fun m => ?_, q.2.2⟩
    rw [keys_cons] at m
    rcases List.mem_cons.mp m with rfl | m
    · have := q.1; rw [ha] at this; cases this
    · exact q.2.1 m
  refine ⟨fun b o e => k b o (r.keep b o e), fun p hp => ?_, ?_, fun b hb => ?_, fun b hb => ?_, fun b hb => ?_⟩
  · rcases List.mem_cons.mp hp with rfl | hp
    · exact ⟨vs, n, ha', hv.mono up⟩
    · obtain ⟨ws, m, e, hw⟩ := r.led p hp
      exact ⟨ws, m, k _ _ e, hw.mono up⟩
  · rw [keys_cons]; exact List.nodup_cons.mpr ⟨hna, r.nod⟩
  · rw [keys_cons] at hb
    rcases List.mem_cons.mp hb with rfl | hb
    · exact hnh
    · exact r.off b hb
  · rw [keys_cons] at hb
    rcases List.mem_cons.mp hb with rfl | hb
    · cases e : g.B.get? b with
      | none => rfl
      | some o => have := r.keep _ _ e; rw [ha] at this; cases this
    · exact r.new b hb
  · obtain ⟨o, e, so⟩ := r.hx b hb; exact ⟨o, k _ _ e, so⟩
theorem Ste.push {S : List Addr} {own : Led} {h h' : Heap} {xs : List AV} {a : Addr} (k : ∀ a ob, h.get? a = some ob → h'.get? a = some ob) (ha : h.get? a = Option.none) (hs : a ∉ S) : Ste S own h ((a, xs) :: own) h' :=
  ⟨fun b o _ _ e => k b o e, fun b m => by
    rw [keys_cons] at m
    rcases List.mem_cons.mp m with rfl | m
    · exact .inr ⟨ha, hs⟩
    · exact .inl m, fun b _ ⟨o, e⟩ => ⟨o, k b o e⟩⟩

/-- an owned list is written -/
theorem HRel.put {g : Gl} {l r : Led} {hid : List Addr} {h h' : Heap} {a : Addr} {xs ys : List AV} {vs : List Value} {n : Nat} (x : HRel g (l ++ (a, xs) :: r) hid h) (hs : Heap.SameBut a h h') (e : h'.get? a = some (lobj vs n)) (hv : IsVs (Fz (l ++ (a, xs) :: r) hid h) vs ys) :
    HRel g (l ++ (a, ys) :: r) hid h' := by
  have ek : keys (l ++ (a, ys) :: r) = keys (l ++ (a, xs) :: r) := by simp
  have hak : a ∈ keys (l ++ (a, xs) :: r) := by simp
  have up : ∀ b o, SeqO o → Fz (l ++ (a, xs) :: r) hid h b o → Fz (l ++ (a, ys) :: r) hid h' b o := fun b o _ q =>
    ⟨hs.extBut b o (fun e => q.2.1 (e ▸ hak)) q.1, by rw [ek]; exact q.2.1, q.2.2⟩
  refine ⟨fun b o eb => hs.extBut b o (fun e => by rw [e, x.new a hak] at eb; cases eb) (x.keep b o eb), fun p hp => ?_, by rw [ek]; exact x.nod, by rw [ek]; exact x.off, by rw [ek]; exact x.new, fun b hb => ?_⟩
  · by_cases hpa : p.1 = a
    · have : p = (a, ys) := by
        have hn := x.nod
        rw [← ek] at hn
        have hn' := List.nodup_append.mp (by simpa using hn : (keys l ++ a :: keys r).Nodup)
        rcases List.mem_append.mp hp with m | m
        · exact absurd rfl (hn'.2.2 _ (List.mem_map.mpr ⟨p, m, rfl⟩) p.1 (by rw [hpa]; exact List.mem_cons_self))
        · rcases List.mem_cons.mp m with rfl | m
          · rfl
          · exact absurd (List.mem_map.mpr ⟨p, m, rfl⟩ : p.1 ∈ keys r) (by rw [hpa]; exact (List.nodup_cons.mp hn'.2.1).1)
      subst this
      exact ⟨vs, n, e, hv.mono up⟩
    · have hp' : p ∈ l ++ (a, xs) :: r := by
        rcases List.mem_append.mp hp with m | m
        · exact List.mem_append.mpr (.inl m)
        · rcases List.mem_cons.mp m with rfl | m
          · exact absurd rfl hpa
          · exact List.mem_append.mpr (.inr (List.mem_cons_of_mem _ m))
      obtain ⟨ws, k, e', hw⟩ := x.led p hp'
      exact ⟨ws, k, hs.extBut _ _ hpa e', hw.mono up⟩
  · obtain ⟨o, e', so⟩ := x.hx b hb
    exact ⟨o, hs.extBut b o (fun e => x.off a hak (e ▸ hb)) e', so⟩
theorem Ste.put {S : List Addr} {l r : Led} {h h' : Heap} {a : Addr} {xs ys : List AV} (hs : Heap.SameBut a h h') (ea : ∃ o, h'.get? a = some o) : Ste S (l ++ (a, xs) :: r) h (l ++ (a, ys) :: r) h' :=
  ⟨fun b o hb _ e => hs.extBut b o (fun q => hb (by rw [q]; simp)) e, fun b m => .inl (by simpa using m), fun b _ ⟨o, e⟩ => by
    by_cases hb : b = a
    · rw [hb]; exact ea
    · exact ⟨o, hs.extBut b o hb e⟩⟩
theorem Ste.none {S : List Addr} {o o' : Led} {h h' : Heap} (x : Ste S o h o' h') {a : Addr} (hs : a ∉ S) (e : h'.get? a = none) : h.get? a = none := by
  cases e' : h.get? a with
  | none => rfl
  | some ob => obtain ⟨q, eq⟩ := x.thr a hs ⟨ob, e'⟩; rw [e] at eq; cases eq

/-- ghost: an owned list is frozen -/
theorem HRel.freeze {g : Gl} {l r : Led} {hid : List Addr} {h : Heap} {a : Addr} {xs : List AV} (x : HRel g (l ++ (a, xs) :: r) hid h) : HRel g (l ++ r) hid h ∧ (∃ vs n, Fz (l ++ r) hid h a (lobj vs n) ∧ IsVs (Fz (l ++ r) hid h) vs xs) ∧ (∀ b o, SeqO o → Fz (l ++ (a, xs) :: r) hid h b o → Fz (l ++ r) hid h b o) := by
  have sub : ∀ b, b ∈ keys (l ++ r) → b ∈ keys (l ++ (a, xs) :: r) := fun b m => by
    simp only [keys_append, keys_cons, List.mem_append, List.mem_cons] at m ⊢; rcases m with m | m <;> simp [m]
  have up : ∀ b o, SeqO o → Fz (l ++ (a, xs) :: r) hid h b o → Fz (l ++ r) hid h b o := fun b o _ q => ⟨q.1, fun m => q.2.1 (sub b m), q.2.2⟩
  have hn : (keys l ++ a :: keys r).Nodup := by simpa using x.nod
  have hn' := List.nodup_append.mp hn
  have hna : a ∉ keys (l ++ r) := fun m => by
    simp only [keys_append, List.mem_append] at m
    rcases m with m | m
    · exact hn'.2.2 _ m a List.mem_cons_self rfl
    · exact (List.nodup_cons.mp hn'.2.1).1 m
  obtain ⟨vs, n, ea, hv⟩ := x.led (a, xs) (by simp)
  refine ⟨⟨x.keep, fun p hp => ?_, ?_, fun b hb => x.off b (sub b hb), fun b hb => x.new b (sub b hb), x.hx⟩, ⟨vs, n, ⟨ea, hna, x.off a (by simp)⟩, hv.mono up⟩, up⟩
  · obtain ⟨ws, m, e, hv⟩ := x.led p (by simp only [List.mem_append, List.mem_cons] at hp ⊢; rcases hp with h | h <;> simp [h])
    exact ⟨ws, m, e, hv.mono up⟩
  · rw [keys_append]
    exact List.nodup_append.mpr ⟨hn'.1, (List.nodup_cons.mp hn'.2.1).2, fun b hb d hd => hn'.2.2 b hb d (List.mem_cons_of_mem _ hd)⟩

theorem Ste.keepV {S : List Addr} {own own' : Led} {hid : List Addr} {h h' : Heap} {v : Value} {x : AV} (st : Ste S own h own' h') (hS : ∀ a ∈ S, ∀ o, h.get? a = some o → SeqO o → a ∈ hid) (iv : IsV (Fz own hid h) v x) : IsV (Fz own' hid h') v x :=
  iv.mono (st.fz hS)
theorem Ste.keepVs {S : List Addr} {own own' : Led} {hid : List Addr} {h h' : Heap} {v : List Value} {x : List AV} (st : Ste S own h own' h') (hS : ∀ a ∈ S, ∀ o, h.get? a = some o → SeqO o → a ∈ hid) (iv : IsVs (Fz own hid h) v x) : IsVs (Fz own' hid h') v x :=
  iv.mono (st.fz hS)
theorem Ste.keepE {own own' : Led} {hid : List Addr} {h h' : Heap} {v : Value} {x : AV} (st : Ste [] own h own' h') (iv : IsV (Fz own hid h) v x) : IsV (Fz own' hid h') v x := st.keepV (by simp) iv
theorem Ste.keepEs {own own' : Led} {hid : List Addr} {h h' : Heap} {v : List Value} {x : List AV} (st : Ste [] own h own' h') (iv : IsVs (Fz own hid h) v x) : IsVs (Fz own' hid h') v x := st.keepVs (by simp) iv

/-- a list that can be read -/
def Lst (σ : St) (x : AV) (xs : List AV) : Prop := x = .lst xs ∨ ∃ a, x = .own a ∧ (a, xs) ∈ σ.own
theorem Lst.fz {σ : St} {xs : List AV} : Lst σ (.lst xs) xs := .inl rfl
theorem Lst.hd {l : List (Str × AV)} {a : Addr} {xs : List AV} {o : Led} : Lst ⟨l, (a, xs) :: o⟩ (.own a) xs := .inr ⟨a, rfl, by simp⟩
theorem Lst.tl {l : List (Str × AV)} {a b : Addr} {xs ys : List AV} {o : Led} : Lst ⟨l, (b, ys) :: (a, xs) :: o⟩ (.own a) xs := .inr ⟨a, rfl, by simp⟩
theorem Lst.read {c : Cx} {σ : St} {s : Shared} {v : Value} {x : AV} {xs : List AV} (R : Rel c σ s) (l : Lst σ x xs) (iv : IsV (Fz σ.own c.hid s.heap) v x) :
    ∃ a vs n, v = .ref a ∧ s.heap.get? a = some (lobj vs n) ∧ IsVs (Fz σ.own c.hid s.heap) vs xs := by
  rcases l with rfl | ⟨a, rfl, m⟩
  · cases iv with | lst p q => exact ⟨_, _, _, rfl, p.1, q⟩
  · cases iv with | own => obtain ⟨vs, n, e, hv⟩ := R.hr.led _ m; exact ⟨a, vs, n, rfl, e, hv⟩
theorem isList_of {h : Heap} {a : Addr} {vs : List Value} {n : Nat} (e : h.get? a = some (lobj vs n)) : h.IsList a vs.toArray := ⟨_, e, rfl, n, rfl⟩
end Mine
end
section
open PySem PySem.Calls PyProof.Rows
namespace Mine

def Run (c : Cx) {α β : Type} (V : Led → List Addr → Heap → α → β → Prop) (t : Sem α) (σ : St) (s : Shared) (K : β → St → Prop) : Prop :=
  ∀ (Q : α → Shared → Prop) (E : Value → Shared → Prop), Rel c σ s →
    (∀ v b σ' h' tk, K b σ' → σ'.loc = σ.loc → Rel c σ' { s with heap := h', toks := tk } → Ste [] σ.own s.heap σ'.own h' → V σ'.own c.hid h' v b → Q v { s with heap := h', toks := tk }) →
    wpAny (model c.g.prog c.g.w) c.A t Q E s

def VV (o : Led) (hid : List Addr) (h : Heap) (v : Value) (x : AV) : Prop := IsV (Fz o hid h) v x
def VL (o : Led) (hid : List Addr) (h : Heap) (v : List Value) (x : List AV) : Prop := IsVs (Fz o hid h) v x
def VBo (_ : Led) (_ : List Addr) (_ : Heap) (v : Value) (b : Bool) : Prop := v = .bool b
def VB (_ : Led) (_ : List Addr) (_ : Heap) (v : Bool) (x : Bool) : Prop := v = x

def Ev (c : Cx) (e : Expr) (σ : St) (K : AV → St → Prop) : Prop := ∀ s, Run c VV (eval e c.env) σ s K
def EvT (c : Cx) (e : Expr) (σ : St) (K : Bool → St → Prop) : Prop := ∀ s, Run c VB (isTrue e c.env (eval e c.env)) σ s K
def EvL (c : Cx) (pos : Pos) (es : List Expr) (σ : St) (K : List AV → St → Prop) : Prop := ∀ s, Run c VL (spliced (backTo pos (starEach es c.env))) σ s K

section
variable {c : Cx} {σ : St} {s : Shared} {α β : Type} {V : Led → List Addr → Heap → α → β → Prop} {t : Sem α} {K : β → St → Prop}

theorem Run.mono {K' : β → St → Prop} (h : Run c V t σ s K) (k : ∀ b σ', K b σ' → K' b σ') : Run c V t σ s K' :=
  fun Q E R hQ => h Q E R fun v b σ' h' tk kb => hQ v b σ' h' tk (k _ _ kb)

/-- an end at the same heap -/
theorem Run.same {v : α} {b : β} {tk : Nat} {Q : α → Shared → Prop} (R : Rel c σ s) (hQ : ∀ v b σ' h' tk, K b σ' → σ'.loc = σ.loc → Rel c σ' { s with heap := h', toks := tk } → Ste [] σ.own s.heap σ'.own h' → V σ'.own c.hid h' v b → Q v { s with heap := h', toks := tk })
    (k : K b σ) (hv : V σ.own c.hid s.heap v b) : Q v { s with toks := tk } :=
  hQ v b σ s.heap tk k rfl (R.grow fun _ _ e => e) (Ste.refl ..) hv
/-- an end at a grown heap -/
theorem Run.grown {v : α} {b : β} {h' : Heap} {tk : Nat} {Q : α → Shared → Prop} (R : Rel c σ s) (hQ : ∀ v b σ' h' tk, K b σ' → σ'.loc = σ.loc → Rel c σ' { s with heap := h', toks := tk } → Ste [] σ.own s.heap σ'.own h' → V σ'.own c.hid h' v b → Q v { s with heap := h', toks := tk })
    (g : ∀ a ob, s.heap.get? a = some ob → h'.get? a = some ob) (k : K b σ) (hv : V σ.own c.hid h' v b) : Q v { s with heap := h', toks := tk } :=
  hQ v b σ h' tk k rfl (R.grow g) (Ste.grow g) hv
end


/-- a new list: frozen at once, or owned -/
def New (K : AV → St → Prop) (σ : St) (xs : List AV) : Prop := K (.lst xs) σ ∨ ∀ a, K (.own a) ⟨σ.loc, (a, xs) :: σ.own⟩
/-- a new tuple -/
theorem Run.newTup {c : Cx} {σ : St} {s : Shared} {K : AV → St → Prop} {Q : Value → Shared → Prop} {h' : Heap} {tk : Nat} {a : Addr} {vs : List Value} {n : Nat} {xs : List AV} (R : Rel c σ s)
    (hQ : ∀ v b σ' h' tk, K b σ' → σ'.loc = σ.loc → Rel c σ' { s with heap := h', toks := tk } → Ste [] σ.own s.heap σ'.own h' → VV σ'.own c.hid h' v b → Q v { s with heap := h', toks := tk })
    (g : ∀ a ob, s.heap.get? a = some ob → h'.get? a = some ob) (ha : s.heap.get? a = none) (ha' : h'.get? a = some (tobj vs n)) (hv : IsVs (Fz σ.own c.hid s.heap) vs xs) (k : K (.tup xs) σ) : Q (.ref a) { s with heap := h', toks := tk } := by
  refine Run.grown R hQ g k (.tup (n := n) (vs := vs) ⟨ha', fun m => ?_, fun m => ?_⟩ rfl rfl (hv.mono (Fz.grow g)))
  · obtain ⟨vs, n, e⟩ := R.hr.seq m
    rw [ha] at e; cases e
  · obtain ⟨o, e, _⟩ := R.hr.hx a m
    rw [ha] at e; cases e
theorem Run.newList {c : Cx} {σ : St} {s : Shared} {K : AV → St → Prop} {Q : Value → Shared → Prop} {h' : Heap} {tk : Nat} {a : Addr} {vs : List Value} {n : Nat} {xs : List AV} (R : Rel c σ s)
    (hQ : ∀ v b σ' h' tk, K b σ' → σ'.loc = σ.loc → Rel c σ' { s with heap := h', toks := tk } → Ste [] σ.own s.heap σ'.own h' → VV σ'.own c.hid h' v b → Q v { s with heap := h', toks := tk })
    (g : ∀ a ob, s.heap.get? a = some ob → h'.get? a = some ob) (ha : s.heap.get? a = none) (ha' : h'.get? a = some (lobj vs n)) (hv : IsVs (Fz σ.own c.hid s.heap) vs xs) (k : New K σ xs) : Q (.ref a) { s with heap := h', toks := tk } := by
  rcases k with k | k
  · refine Run.grown R hQ g k (.lst (n := n) (vs := vs) ⟨ha', fun m => ?_, fun m => ?_⟩ (hv.mono (Fz.grow g)))
    · obtain ⟨vs, n, e⟩ := R.hr.seq m
      rw [ha] at e; cases e
    · obtain ⟨o, e, _⟩ := R.hr.hx a m
      rw [ha] at e; cases e
  · have S : Ste [] σ.own s.heap ((a, xs) :: σ.own) h' := Ste.push g ha (by simp)
    exact hQ _ _ ⟨σ.loc, (a, xs) :: σ.own⟩ h' tk (k a) rfl ⟨R.ok, R.hr.push g ha ha' hv, LRel.stepE R S rfl⟩ S (.own a)

section
variable {c : Cx} {σ : St} {K : AV → St → Prop} {KT : Bool → St → Prop}

theorem ev_int {i : Int} {k : Nat} {pos : Pos} (h : K (.int i) σ) : Ev c (.Constant (.int i) k pos) σ K :=
  fun s Q E R hQ => wpAny_Constant_int (Run.same R hQ h (.int _ _))
theorem ev_bool {b : Bool} {k : Nat} {pos : Pos} (h : K (.bool b) σ) : Ev c (.Constant (.bool b) k pos) σ K :=
  fun s Q E R hQ => wpAny_Constant_bool (Run.same R hQ h (.bool _))
theorem ev_none {k : Nat} {pos : Pos} (h : K .none σ) : Ev c (.Constant .none k pos) σ K :=
  fun s Q E R hQ => wpAny_Constant_none (Run.same R hQ h .none)

theorem load_slot {c : Cx} {M : Model} {s : Shared} {x : Str} {v : Value} {Q : Value → Shared → Prop} {E : Value → Shared → Prop} (ok : c.Ok) (sv : SlotV c.env s.heap x v) (h : Q v s) (hn : (x == ("__classdict__" : Str)) = false) : wpAny M c.A (loadName c.env x) Q E s := by
  rcases sv with ⟨hk, m, hm, e⟩ | ⟨hk | hk, a, ha, o, e, hd⟩
  · exact wpAny_loadName_local ok.ek hk hm e h
  · exact wpAny_loadName_cell ok.ek hk ha ⟨o, e, hd⟩ h
  · exact wpAny_loadName_free ok.ek hk ha ⟨o, e, hd⟩ h hn

theorem ev_name {x : Str} {pos : Pos} {av : AV} (hx : σ.loc.lookup x = some av) (h : K av σ) (hd : (x == ("__debug__" : Str)) = false := by decide) (hn : (x == ("__classdict__" : Str)) = false := by decide) : Ev c (.Name x pos) σ K :=
  fun s Q E R hQ => by
    obtain ⟨v, hv, sv⟩ := R.lr.loc x av hx
    exact wpAny_Name (load_slot R.ok sv (Run.same R hQ h hv) hn) hd

/-- binary operators -/
def Bin (c : Cx) (op : Operator) (a b : AV) (σ : St) (K : AV → St → Prop) : Prop :=
  ∀ s va vb, IsV (Fz σ.own c.hid s.heap) va a → IsV (Fz σ.own c.hid s.heap) vb b → Run c VV (binaryOp op va vb) σ s K
theorem ev_bin {l r : Expr} {op : Operator} {pos : Pos} (h : Ev c l σ fun a σ₁ => Ev c r σ₁ fun b σ₂ => Bin c op a b σ₂ K) : Ev c (.BinOp l op r pos) σ K :=
  fun s Q E R hQ => wpAny_BinOp (h s _ E R fun va a σ₁ h₁ t₁ k₁ l₁ R₁ S₁ v₁ => k₁ _ _ E R₁ fun vb b σ₂ h₂ t₂ k₂ l₂ R₂ S₂ v₂ =>
    k₂ { s with heap := h₂, toks := t₂ } va vb (S₂.keepE v₁) v₂ Q E R₂ fun v x σ' h' t' k' l' R' S' v' => hQ v x σ' h' t' k' (l'.trans (l₂.trans l₁)) R' ((S₁.trans S₂).trans S') v')

theorem bin_add {i j : Int} (h : K (.int (i + j)) σ) : Bin c .Add (.int i) (.int j) σ K := fun s va vb ha hb Q E R hQ => by
  obtain ⟨_, rfl⟩ := ha.int_inv; obtain ⟨_, rfl⟩ := hb.int_inv; exact P.add_int (Run.same R hQ h (.int _ _))
theorem bin_sub {i j : Int} (h : K (.int (i - j)) σ) : Bin c .Sub (.int i) (.int j) σ K := fun s va vb ha hb Q E R hQ => by
  obtain ⟨_, rfl⟩ := ha.int_inv; obtain ⟨_, rfl⟩ := hb.int_inv; exact P.sub_int (Run.same R hQ h (.int _ _))
theorem bin_mulR {i j : Int} (hj : -(2 ^ 64) < j ∧ j < 2 ^ 64) (h : K (.int (i * j)) σ) : Bin c .Mult (.int i) (.int j) σ K := fun s va vb ha hb Q E R hQ => by
  obtain ⟨_, rfl⟩ := ha.int_inv; obtain ⟨_, rfl⟩ := hb.int_inv; exact P.mul_int (Run.same R hQ h (.int _ _)) (IntMulOk.of_right (intBits_le_64 hj.1 hj.2))
theorem bin_mulL {i j : Int} (hj : -(2 ^ 64) < i ∧ i < 2 ^ 64) (h : K (.int (i * j)) σ) : Bin c .Mult (.int i) (.int j) σ K := fun s va vb ha hb Q E R hQ => by
  obtain ⟨_, rfl⟩ := ha.int_inv; obtain ⟨_, rfl⟩ := hb.int_inv; exact P.mul_int (Run.same R hQ h (.int _ _)) (IntMulOk.of_left (intBits_le_64 hj.1 hj.2))
theorem bin_mod {i j : Int} (hj : j ≠ 0) (h : K (.int (i.fmod j)) σ) : Bin c .Mod (.int i) (.int j) σ K := fun s va vb ha hb Q E R hQ => by
  obtain ⟨_, rfl⟩ := ha.int_inv; obtain ⟨_, rfl⟩ := hb.int_inv; exact mod_int' hj (Run.same R hQ h (.int _ _))
theorem log2_small {n : Nat} (h : n < 2 ^ 64) : n.log2 < 9000 := by
  by_cases h0 : n = 0
  · subst h0; decide
  · exact Nat.lt_trans ((Nat.log2_lt h0).mpr h) (by decide)
theorem bin_fdiv {i j : Int} (hj : j ≠ 0) (hb : j.natAbs < 2 ^ 64) (h : K (.int (i.fdiv j)) σ) : Bin c .FloorDiv (.int i) (.int j) σ K := fun s va vb ha hb' Q E R hQ => by
  obtain ⟨_, rfl⟩ := ha.int_inv; obtain ⟨_, rfl⟩ := hb'.int_inv; exact floordiv_int hj (Run.same R hQ h (.int _ _)) (.inl (PyProof.noPylong_of_log2 (log2_small hb)))
theorem bin_pow {i j : Int} (h0 : 0 ≤ j) (h1 : j ≤ 1000000) (hi : i.natAbs < 2 ^ 64) (h : K (.int (i ^ j.toNat)) σ) : Bin c .Pow (.int i) (.int j) σ K := fun s va vb ha hb Q E R hQ => by
  obtain ⟨_, rfl⟩ := ha.int_inv; obtain ⟨_, rfl⟩ := hb.int_inv; exact pow_int_small h0 h1 hi (Run.same R hQ h (.int _ _))

/-- comparisons -/
def Cmp (c : Cx) (op : CmpOp) (a b : AV) (σ : St) (K : Bool → St → Prop) : Prop :=
  ∀ s va vb, IsV (Fz σ.own c.hid s.heap) va a → IsV (Fz σ.own c.hid s.heap) vb b → Run c VBo (compareOp op va vb) σ s K
theorem ev_cmp {l r : Expr} {op : CmpOp} {pos : Pos} (h : Ev c l σ fun a σ₁ => Ev c r σ₁ fun b σ₂ => Cmp c op a b σ₂ fun b σ₃ => K (.bool b) σ₃) (hm : behindInMarks op r = false := by with_unfolding_all rfl) : Ev c (.Compare l [op] [r] pos) σ K :=
  fun s Q E R hQ => wpAny_Compare1 (h s _ E R fun va a σ₁ h₁ t₁ k₁ l₁ R₁ S₁ v₁ => k₁ _ _ E R₁ fun vb b σ₂ h₂ t₂ k₂ l₂ R₂ S₂ v₂ =>
    k₂ { s with heap := h₂, toks := t₂ } va vb (S₂.keepE v₁) v₂ Q E R₂ fun v x σ' h' t' k' l' R' S' v' => by
      subst v'; exact hQ _ _ σ' h' t' k' (l'.trans (l₂.trans l₁)) R' ((S₁.trans S₂).trans S') (.bool x)) hm
theorem evt_cmp {l r : Expr} {op : CmpOp} {pos : Pos} (h : Ev c l σ fun a σ₁ => Ev c r σ₁ fun b σ₂ => Cmp c op a b σ₂ KT) (hm : behindInMarks op r = false := by with_unfolding_all rfl) : EvT c (.Compare l [op] [r] pos) σ KT :=
  fun s Q E R hQ => wpAny_isTrue_Compare1 (h s _ E R fun va a σ₁ h₁ t₁ k₁ l₁ R₁ S₁ v₁ => k₁ _ _ E R₁ fun vb b σ₂ h₂ t₂ k₂ l₂ R₂ S₂ v₂ =>
    k₂ { s with heap := h₂, toks := t₂ } va vb (S₂.keepE v₁) v₂ _ E R₂ fun v x σ' h' t' k' l' R' S' v' => by
      subst v'; exact wpAny_truthy_bool (hQ _ _ σ' h' t' k' (l'.trans (l₂.trans l₁)) R' ((S₁.trans S₂).trans S') rfl)) hm
theorem cmp_eq {i j : Int} {K : Bool → St → Prop} (h : K (i == j) σ) : Cmp c .Eq (.int i) (.int j) σ K := fun s va vb ha hb Q E R hQ => by
  obtain ⟨_, rfl⟩ := ha.int_inv; obtain ⟨_, rfl⟩ := hb.int_inv; exact P.eq_int (Run.same (tk := s.toks) R hQ h rfl)
theorem cmp_ne {i j : Int} {K : Bool → St → Prop} (h : K (i != j) σ) : Cmp c .NotEq (.int i) (.int j) σ K := fun s va vb ha hb Q E R hQ => by
  obtain ⟨_, rfl⟩ := ha.int_inv; obtain ⟨_, rfl⟩ := hb.int_inv; exact P.ne_int (Run.same (tk := s.toks) R hQ h rfl)
theorem cmp_lt {i j : Int} {K : Bool → St → Prop} (h : K (decide (i < j)) σ) : Cmp c .Lt (.int i) (.int j) σ K := fun s va vb ha hb Q E R hQ => by
  obtain ⟨_, rfl⟩ := ha.int_inv; obtain ⟨_, rfl⟩ := hb.int_inv; exact P.lt_int (Run.same (tk := s.toks) R hQ h rfl)
theorem cmp_gt {i j : Int} {K : Bool → St → Prop} (h : K (decide (i > j)) σ) : Cmp c .Gt (.int i) (.int j) σ K := fun s va vb ha hb Q E R hQ => by
  obtain ⟨_, rfl⟩ := ha.int_inv; obtain ⟨_, rfl⟩ := hb.int_inv; exact P.gt_int (Run.same (tk := s.toks) R hQ h rfl)
theorem cmp_ge {i j : Int} {K : Bool → St → Prop} (h : K (decide (i ≥ j)) σ) : Cmp c .GtE (.int i) (.int j) σ K := fun s va vb ha hb Q E R hQ => by
  obtain ⟨_, rfl⟩ := ha.int_inv; obtain ⟨_, rfl⟩ := hb.int_inv; exact P.ge_int (Run.same (tk := s.toks) R hQ h rfl)
theorem cmp_le {i j : Int} {K : Bool → St → Prop} (h : K (decide (i ≤ j)) σ) : Cmp c .LtE (.int i) (.int j) σ K := fun s va vb ha hb Q E R hQ => by
  obtain ⟨_, rfl⟩ := ha.int_inv; obtain ⟨_, rfl⟩ := hb.int_inv; exact P.le_int (Run.same (tk := s.toks) R hQ h rfl)

/-- tests -/
theorem evt_not {x : Expr} {pos : Pos} (h : EvT c x σ fun b σ₁ => KT (!b) σ₁) : EvT c (.UnaryOp .Not x pos) σ KT :=
  fun s Q E R hQ => wpAny_isTrue_Not (h s _ E R fun v b σ' h' t' k' l' R' S' v' => by subst v'; exact hQ _ _ σ' h' t' k' l' R' S' rfl)
theorem evt_bool {e : Expr} (h : Ev c e σ fun v σ₁ => ∃ b, v = .bool b ∧ KT b σ₁) (he : isTrue e c.env (eval e c.env) = (do let v ← eval e c.env; standAt e.pos; holding [v] (truthy v)) := by rfl) : EvT c e σ KT :=
  fun s Q E R hQ => wpAny_isTrue_value (h s _ E R fun v x σ' h' t' k' l' R' S' v' => by
    obtain ⟨b, rfl, k'⟩ := k'
    cases v'
    exact wpAny_truthy_bool (hQ _ _ σ' h' t' k' l' R' S' rfl)) he

def EvAll (c : Cx) (op : BoolOp) (es : List Expr) (σ : St) (K : Bool → St → Prop) : Prop := ∀ s, Run c VB (allTrue op es c.env) σ s K
theorem evt_boolop {op : BoolOp} {es : List Expr} {pos : Pos} (h : EvAll c op es σ KT) : EvT c (.BoolOp op es pos) σ KT :=
  fun s Q E R hQ => wpAny_isTrue_BoolOp (h s Q E R hQ)
theorem all_nil_and (h : KT true σ) : EvAll c .And [] σ KT := fun s Q E R hQ => wpAny_allTrue_And_nil (Run.same (tk := s.toks) R hQ h rfl)
theorem all_nil_or (h : KT false σ) : EvAll c .Or [] σ KT := fun s Q E R hQ => wpAny_allTrue_Or_nil (Run.same (tk := s.toks) R hQ h rfl)
theorem all_cons_and {x : Expr} {r : List Expr} (h : EvT c x σ fun b σ₁ => if b then EvAll c .And r σ₁ KT else KT false σ₁) : EvAll c .And (x :: r) σ KT :=
  fun s Q E R hQ => wpAny_allTrue_And_cons (h s _ E R fun v b σ₁ h₁ t₁ k₁ l₁ R₁ S₁ v₁ => by
    subst v₁
    cases v with
    | true => exact k₁ _ Q E R₁ fun v x σ' h' t' k' l' R' S' v' => hQ v x σ' h' t' k' (l'.trans l₁) R' (S₁.trans S') v'
    | false => exact hQ _ _ σ₁ h₁ t₁ k₁ l₁ R₁ S₁ rfl)
theorem all_cons_or {x : Expr} {r : List Expr} (h : EvT c x σ fun b σ₁ => if b then KT true σ₁ else EvAll c .Or r σ₁ KT) : EvAll c .Or (x :: r) σ KT :=
  fun s Q E R hQ => wpAny_allTrue_Or_cons (h s _ E R fun v b σ₁ h₁ t₁ k₁ l₁ R₁ S₁ v₁ => by
    subst v₁
    cases v with
    | false => exact k₁ _ Q E R₁ fun v x σ' h' t' k' l' R' S' v' => hQ v x σ' h' t' k' (l'.trans l₁) R' (S₁.trans S') v'
    | true => exact hQ _ _ σ₁ h₁ t₁ k₁ l₁ R₁ S₁ rfl)
theorem ev_ifexp {t a b : Expr} {pos : Pos} (h : EvT c t σ fun v σ₁ => if v then Ev c a σ₁ K else Ev c b σ₁ K) : Ev c (.IfExp t a b pos) σ K :=
  fun s Q E R hQ => wpAny_IfExp (h s _ E R fun v b' σ₁ h₁ t₁ k₁ l₁ R₁ S₁ v₁ => by
    subst v₁
    cases v <;> exact k₁ _ Q E R₁ fun v x σ' h' t' k' l' R' S' v' => hQ v x σ' h' t' k' (l'.trans l₁) R' (S₁.trans S') v')

/-- arguments, displays -/
theorem evl_nil {pos : Pos} {K : List AV → St → Prop} (h : K [] σ) : EvL c pos [] σ K := fun s Q E R hQ => wpAny_items_nil (Run.same (tk := s.toks) R hQ h .nil)
theorem evl_cons {pos : Pos} {e : Expr} {r : List Expr} {K : List AV → St → Prop} (h : Ev c e σ fun a σ₁ => EvL c pos r σ₁ fun as σ₂ => K (a :: as) σ₂)
    (he : starEach (e :: r) c.env = (false, eval e c.env) :: starEach r c.env := by rfl) : EvL c pos (e :: r) σ K :=
  fun s Q E R hQ => wpAny_items_cons (h s _ E R fun va a σ₁ h₁ t₁ k₁ l₁ R₁ S₁ v₁ => k₁ _ _ E R₁ fun vb b σ₂ h₂ t₂ k₂ l₂ R₂ S₂ v₂ =>
    hQ _ _ σ₂ h₂ t₂ k₂ (l₂.trans l₁) R₂ (S₁.trans S₂) (.cons (S₂.keepE v₁) v₂)) he
theorem new_addr (h : Heap) : h.get? h.objs.size = Option.none := by
  cases e : h.get? h.objs.size with
  | none => rfl
  | some o => exact absurd (Heap.lt_size e) (Nat.lt_irrefl _)
theorem ev_list {es : List Expr} {pos : Pos} (h : EvL c pos es σ fun xs σ₁ => xs.length ≤ 1000000 ∧ New K σ₁ xs) : Ev c (.List es pos) σ K :=
  fun s Q E R hQ => wpAny_List (h s _ E R fun vs xs σ₁ h₁ t₁ k₁ l₁ R₁ S₁ v₁ => by
    refine ⟨by rw [IsVs.length v₁]; exact Nat.le_trans k₁.1 (by decide), ?_⟩
    exact Run.newList R₁ (fun v x σ' h' t' k' l' R' S' v' => hQ v x σ' h' t' k' (l'.trans l₁) R' (S₁.trans S') v') (tk := t₁)
      (fun a ob e => Heap.get?_push_of_some _ e) (new_addr _) (Heap.get?_push_size _ rfl) v₁ k₁.2)
theorem ev_tuple {es : List Expr} {k : Nat} {pos : Pos} (h : EvL c pos es σ fun xs σ₁ => xs.length ≤ 1000000 ∧ K (.tup xs) σ₁) : Ev c (.Tuple es k pos) σ K :=
  fun s Q E R hQ => wpAny_Tuple (h s _ E R fun vs xs σ₁ h₁ t₁ k₁ l₁ R₁ S₁ v₁ => by
    refine ⟨by rw [IsVs.length v₁]; exact Nat.le_trans k₁.1 (by decide), ?_⟩
    exact Run.newTup R₁ (fun v x σ' h' t' k' l' R' S' v' => hQ v x σ' h' t' k' (l'.trans l₁) R' (S₁.trans S') v') (tk := t₁)
      (fun a ob e => Heap.get?_push_of_some _ e) (new_addr _) (Heap.get?_push_size _ rfl) v₁ k₁.2)
end
end Mine
end
section
open PySem PySem.Calls PyProof.Rows
namespace Mine

/-- where the owned list a stands -/
theorem led_split {o : Led} {i : Nat} {a : Addr} {xs : List AV} (h : o[i]? = some (a, xs)) : o = o.take i ++ (a, xs) :: o.drop (i + 1) ∧ ∀ ys, o.set i (a, ys) = o.take i ++ (a, ys) :: o.drop (i + 1) := by
  obtain ⟨hi, e⟩ := List.getElem?_eq_some_iff.mp h
  refine ⟨?_, fun ys => ?_⟩
  · rw [← e, List.getElem_cons_drop, List.take_append_drop]
  · rw [List.set_eq_take_append_cons_drop, if_pos hi]
theorem Run.put {c : Cx} {σ : St} {s : Shared} {α β : Type} {V : Led → List Addr → Heap → α → β → Prop} {K : β → St → Prop} {Q : α → Shared → Prop} {v : α} {b : β} {h' : Heap} {tk : Nat} {i : Nat} {a : Addr} {xs ys : List AV} {vs : List Value} {n : Nat} (R : Rel c σ s)
    (hQ : ∀ v b σ' h' tk, K b σ' → σ'.loc = σ.loc → Rel c σ' { s with heap := h', toks := tk } → Ste [] σ.own s.heap σ'.own h' → V σ'.own c.hid h' v b → Q v { s with heap := h', toks := tk })
    (hi : σ.own[i]? = some (a, xs)) (hs : Heap.SameBut a s.heap h') (e : h'.get? a = some (lobj vs n)) (hv : IsVs (Fz σ.own c.hid s.heap) vs ys) (k : K b ⟨σ.loc, σ.own.set i (a, ys)⟩)
    (hV : V (σ.own.set i (a, ys)) c.hid h' v b) : Q v { s with heap := h', toks := tk } := by
  obtain ⟨e1, e2⟩ := led_split hi
  have S : Ste [] σ.own s.heap (σ.own.set i (a, ys)) h' := by
    rw [e2 ys]; conv => arg 2; rw [e1]
    exact Ste.put hs ⟨_, e⟩
  have H : HRel c.g (σ.own.set i (a, ys)) c.hid h' := by
    rw [e2 ys]
    have h0 := R.hr
    rw [e1] at h0
    refine h0.put hs e ?_
    rw [← e1]; exact hv
  exact hQ v b ⟨σ.loc, σ.own.set i (a, ys)⟩ h' tk k rfl ⟨R.ok, H, LRel.stepE R S rfl⟩ S hV
theorem own_there {c : Cx} {σ : St} {s : Shared} {i : Nat} {a : Addr} {xs : List AV} (R : Rel c σ s) (hi : σ.own[i]? = some (a, xs)) : ∃ vs n, s.heap.get? a = some (lobj vs n) ∧ IsVs (Fz σ.own c.hid s.heap) vs xs :=
  R.hr.led (a, xs) (List.mem_of_getElem? hi)

section
variable {c : Cx} {σ : St} {K : AV → St → Prop}

theorem bin_cat {a b : AV} {xs ys : List AV} (ha : Lst σ a xs) (hb : Lst σ b ys) (hz : xs.length + ys.length ≤ 1000000) (k : New K σ (xs ++ ys)) : Bin c .Add a b σ K := fun s va vb va' vb' Q E R hQ => by
  obtain ⟨l, vs, n, rfl, el, hv⟩ := ha.read R va'
  obtain ⟨l2, ws, n2, rfl, el2, hw⟩ := hb.read R vb'
  refine P.add_list (n := n) (n2 := n2) el el2 ?_ (by simp only [List.size_toArray, hv.length, hw.length]; exact Nat.le_trans hz (by decide))
  exact Run.newList (vs := vs ++ ws) (n := 0) (tk := s.toks) R hQ (fun a ob e => Heap.get?_push_of_some _ e) (new_addr _) (by rw [Heap.get?_push_size _ rfl]; simp) (hv.append hw) k

theorem foldl_one {v : Value} : ∀ (n : Nat) (acc : Array Value), List.foldl (fun x1 x2 => x1 ++ x2) acc (List.replicate n #[v]) = acc ++ (List.replicate n v).toArray
  | 0, acc => by simp
  | n + 1, acc => by
    rw [List.replicate_succ, List.foldl_cons, foldl_one n, List.replicate_succ]
    apply Array.toList_inj.mp
    simp
theorem isVs_replicate {P : Addr → Obj → Prop} {v : Value} {x : AV} (h : IsV P v x) : ∀ n : Nat, IsVs P (List.replicate n v) (List.replicate n x)
  | 0 => .nil
  | n + 1 => .cons h (isVs_replicate h n)
theorem bin_rep {a : AV} {x : AV} {i : Int} (ha : Lst σ a [x]) (hlo : -(2 ^ 63 : Int) ≤ i) (hz : i ≤ 1000000) (k : New K σ (List.replicate i.toNat x)) : Bin c .Mult a (.int i) σ K := fun s va vb va' vb' Q E R hQ => by
  obtain ⟨l, vs, n, rfl, el, hv⟩ := ha.read R va'
  obtain ⟨u, rfl⟩ := vb'.int_inv
  obtain ⟨v, rfl, h1⟩ := hv.one_inv
  refine wpAny_binaryOp_repeat_ref (T := "list") (U := "int") (by decide) ⟨_, el, rfl⟩ (fun s' => typeIs_int s' i u) noFill_list_mul F.fills_int_mul F.slot_int_rmul repeat_list F.slot_int_index.lookup
    (call_meets F.slot_int_rmul (typeIs_int s i u) F.entry_int_rmul (F.args_int_rmul_2 _ _) (int___rmul___int_list i u l _ n)
      ⟨el, rfl, ⟨_, el, rfl⟩, call_meets F.slot_list_mul ⟨_, el, rfl⟩ F.entry_list_mul (F.args_list_mul_2 _ _)
        (AutoListH.list___mul___list_int_3 l _ n i u (by simp [Builtin.List.listFitsIndex]; lia) (by simp; lia) (by simp [Builtin.List.listTooLong, sizeLine]; lia)) ⟨el, ?_⟩⟩)
  refine Run.newList (vs := List.replicate i.toNat v) (n := 0) (tk := s.toks) R hQ (fun a ob e => Heap.get?_push_of_some _ e) (new_addr _) ?_ (isVs_replicate h1 _) k
  rw [Heap.get?_push_size _ rfl]
  have := foldl_one (v := v) i.toNat #[]
  simp at this ⊢
  exact this

/-- items -/
def Sub (c : Cx) (value slice : Expr) (o i : AV) (σ : St) (K : AV → St → Prop) : Prop :=
  ∀ s va vb, IsV (Fz σ.own c.hid s.heap) va o → IsV (Fz σ.own c.hid s.heap) vb i → Run c VV (subscriptTail value slice va vb) σ s K
theorem ev_sub {value slice : Expr} {pos : Pos} (h : Ev c value σ fun a σ₁ => Ev c slice σ₁ fun b σ₂ => Sub c value slice a b σ₂ K) : Ev c (.Subscript value slice pos) σ K :=
  fun s Q E R hQ => Subscript_ (h s _ E R fun va a σ₁ h₁ t₁ k₁ l₁ R₁ S₁ v₁ => k₁ _ _ E R₁ fun vb b σ₂ h₂ t₂ k₂ l₂ R₂ S₂ v₂ =>
    k₂ { s with heap := h₂, toks := t₂ } va vb (S₂.keepE v₁) v₂ Q E R₂ fun v x σ' h' t' k' l' R' S' v' => hQ v x σ' h' t' k' (l'.trans (l₂.trans l₁)) R' ((S₁.trans S₂).trans S') v')
abbrev PlainIx (slice : Expr) : Prop := ∀ (a : Addr) (k : Int) (u : Tok), subscripted slice false (.ref a) (.int k u) = operate [.ref a, .int k u] (getItem (.ref a) (.int k u))
theorem sub_list {value slice : Expr} {o : AV} {xs : List AV} {i : Int} {x : AV} (ho : Lst σ o xs) (h0 : 0 ≤ i) (hz : i < 2 ^ 63) (hx : xs[i.toNat]? = some x) (k : K x σ)
    (hs : PlainIx slice := by (intro _ _ _; with_unfolding_all rfl)) : Sub c value slice o (.int i) σ K := fun s va vb va' vb' Q E R hQ => by
  obtain ⟨l, vs, n, rfl, el, hv⟩ := ho.read R va'
  obtain ⟨u, rfl⟩ := vb'.int_inv
  obtain ⟨v, ev, iv⟩ := hv.get hx
  exact tail_any (isList_of el).typeIs slot_list_getitem.lookup (wpAny_getItem_list (isList_of el) h0 hz (by simpa using ev) (Run.same (tk := s.toks) R hQ k iv)) (hs _ _ _)
theorem sub_list_neg {value slice : Expr} {o : AV} {xs : List AV} {i : Int} {x : AV} (ho : Lst σ o xs) (h0 : i < 0) (hz : -(xs.length : Int) ≤ i) (hlo : -(2 ^ 63) ≤ i) (hx : xs[(i + xs.length).toNat]? = some x) (k : K x σ)
    (hs : PlainIx slice := by (intro _ _ _; with_unfolding_all rfl)) : Sub c value slice o (.int i) σ K := fun s va vb va' vb' Q E R hQ => by
  obtain ⟨l, vs, n, rfl, el, hv⟩ := ho.read R va'
  obtain ⟨u, rfl⟩ := vb'.int_inv
  obtain ⟨v, ev, iv⟩ := hv.get hx
  exact tail_any (isList_of el).typeIs slot_list_getitem.lookup (wpAny_getItem_list_neg (isList_of el) h0 (by simpa [hv.length] using hz) hlo (by simpa [hv.length] using ev) (Run.same (tk := s.toks) R hQ k iv)) (hs _ _ _)
theorem sub_tup {value slice : Expr} {xs : List AV} {i : Int} {x : AV} (h0 : 0 ≤ i) (hz : i < 2 ^ 63) (hx : xs[i.toNat]? = some x) (k : K x σ)
    (hs : PlainIx slice := by (intro _ _ _; with_unfolding_all rfl)) : Sub c value slice (.tup xs) (.int i) σ K := fun s va vb va' vb' Q E R hQ => by
  obtain ⟨l, o, vs, n, rfl, p, hc, hd, hv⟩ := va'.tup_inv
  obtain ⟨u, rfl⟩ := vb'.int_inv
  obtain ⟨v, ev, iv⟩ := hv.get hx
  have hl : i.toNat < vs.length := (List.getElem?_eq_some_iff.mp ev).1
  exact item_tupleT (l := vs) (Q := Q) ⟨o, p.1, hc, n, hd⟩ (by lia) hz (j := i.toNat) (by rw [seqIndex_of h0 (by lia)]) (by simpa using ev) (Run.same (tk := s.toks) R hQ k iv) (hs _ _ _)
end
end Mine
end
section
open PySem PySem.Calls PyProof.Rows
namespace Mine

theorem pick_upto (items : Array Value) (b : Nat) : slicePick items none (some (b : Int)) none = (items.toList.take b).toArray := by
  by_cases h : b ≤ items.size
  · exact slicePick_upto items b h
  · have e : slicePick items none (some (b : Int)) none = slicePick items none (some (items.size : Int)) none := by
      unfold slicePick
      have : sliceBounds none (some (b : Int)) none items.size = sliceBounds none (some (items.size : Int)) none items.size := by
        have h1 : ¬ ((b : Int) < 0) := by lia
        have h2 : ¬ ((items.size : Int) < 0) := by lia
        simp [sliceBounds, h1, h2]
        lia
      rw [this]
    rw [e, slicePick_upto items items.size (Nat.le_refl _)]
    congr 1
    rw [List.take_of_length_le (i := b) (by rw [Array.length_toList]; lia), List.take_of_length_le (by simp)]
theorem pick_from (items : Array Value) (a : Nat) : slicePick items (some (a : Int)) none none = (items.toList.drop a).toArray := by
  by_cases h : a ≤ items.size
  · exact slicePick_from items a h
  · have e : slicePick items (some (a : Int)) none none = slicePick items (some (items.size : Int)) none none := by
      unfold slicePick
      have : sliceBounds (some (a : Int)) none none items.size = sliceBounds (some (items.size : Int)) none none items.size := by
        have h1 : ¬ ((a : Int) < 0) := by lia
        have h2 : ¬ ((items.size : Int) < 0) := by lia
        simp [sliceBounds, h1, h2]
        lia
      rw [this]
    rw [e, slicePick_from items items.size (Nat.le_refl _)]
    congr 1
    rw [List.drop_of_length_le (i := a) (by rw [Array.length_toList]; lia), List.drop_of_length_le (by simp)]

section
variable {c : Cx} {σ : St} {K : AV → St → Prop}

theorem isPart_int {P : Addr → Obj → Prop} {v : Value} {i : Int} (h : IsV P v (.int i)) : IsPart v (some i) := by cases h; exact .int _ _

theorem two_push (h : Heap) (o1 o2 : Obj) (a : Addr) (ob : Obj) (e : h.get? a = some ob) : ((h.push o1).push o2).get? a = some ob := Heap.get?_push_of_some _ (Heap.get?_push_of_some _ e)
theorem new_addr1 (h : Heap) : h.get? (h.objs.size + 1) = Option.none := by
  cases e : h.get? (h.objs.size + 1) with
  | none => rfl
  | some o => exact absurd (Heap.lt_size e) (Nat.not_lt.mpr (Nat.le_succ _))
theorem ev_slice_to {value u : Expr} {p pos : Pos} (h : Ev c value σ fun o σ₁ => Ev c u σ₁ fun b σ₂ => ∃ xs i, Lst σ₂ o xs ∧ b = .int i ∧ 0 ≤ i ∧ xs.length ≤ 1000000 ∧ New K σ₂ (xs.take i.toNat))
    (ht : ∀ o r, letTemporaryGo value o r = pure () := by intro _ _; rfl) : Ev c (.Subscript value (.Slice none (some u) none p) pos) σ K :=
  fun s Q E R hQ => by
    refine wpAny_Subscript_list_slice (h s _ E R fun va a σ₁ h₁ t₁ k₁ l₁ R₁ S₁ v₁ => ?_) ht
    rw [evalPart_none]
    refine wpAny_pure ?_
    rw [evalPart_some]
    refine k₁ _ _ E R₁ fun vb b σ₂ h₂ t₂ k₂ l₂ R₂ S₂ v₂ => ?_
    obtain ⟨xs, i, ho, rfl, h0, hz, kn⟩ := k₂
    obtain ⟨l, vs, n, rfl, el, hv⟩ := ho.read R₂ (S₂.keepE v₁)
    refine ⟨l, vs.toArray, none, some i, rfl, isList_of el, by simp only [List.size_toArray, hv.length]; exact Nat.le_trans hz (by decide), .none, isPart_int v₂, ?_⟩
    refine Run.newList (vs := vs.take i.toNat) (n := 0) (tk := t₂) R₂ (fun v x σ' h' t' k' l' R' S' v' => hQ v x σ' h' t' k' (l'.trans (l₂.trans l₁)) R' ((S₁.trans S₂).trans S') v') (two_push _ _ _) (new_addr1 _) ?_ (hv.take _) kn
    have hs : (Shared.heap { s with heap := h₂, toks := t₂ }).objs.size + 1 = (h₂.push { cls := .type "slice", data := .fields #[Value.none, vb, .none] }).objs.size := (Heap.size_push ..).symm
    rw [hs, Heap.get?_push_size _ rfl]
    obtain ⟨m, rfl⟩ := Int.eq_ofNat_of_zero_le h0
    exact congrArg some (congrArg (fun x => ({ cls := .type "list", dict := Option.none, data := .seq x 0, slots := #[] } : Obj)) (pick_upto vs.toArray m))
theorem ev_slice_from {value u : Expr} {p pos : Pos} (h : Ev c value σ fun o σ₁ => Ev c u σ₁ fun b σ₂ => ∃ xs i, Lst σ₂ o xs ∧ b = .int i ∧ 0 ≤ i ∧ xs.length ≤ 1000000 ∧ New K σ₂ (xs.drop i.toNat))
    (ht : ∀ o r, letTemporaryGo value o r = pure () := by intro _ _; rfl) : Ev c (.Subscript value (.Slice (some u) none none p) pos) σ K :=
  fun s Q E R hQ => by
    refine wpAny_Subscript_list_slice (h s _ E R fun va a σ₁ h₁ t₁ k₁ l₁ R₁ S₁ v₁ => ?_) ht
    rw [evalPart_some]
    refine k₁ _ _ E R₁ fun vb b σ₂ h₂ t₂ k₂ l₂ R₂ S₂ v₂ => ?_
    rw [evalPart_none]
    refine wpAny_pure ?_
    obtain ⟨xs, i, ho, rfl, h0, hz, kn⟩ := k₂
    obtain ⟨l, vs, n, rfl, el, hv⟩ := ho.read R₂ (S₂.keepE v₁)
    refine ⟨l, vs.toArray, some i, none, rfl, isList_of el, by simp only [List.size_toArray, hv.length]; exact Nat.le_trans hz (by decide), isPart_int v₂, .none, ?_⟩
    refine Run.newList (vs := vs.drop i.toNat) (n := 0) (tk := t₂) R₂ (fun v x σ' h' t' k' l' R' S' v' => hQ v x σ' h' t' k' (l'.trans (l₂.trans l₁)) R' ((S₁.trans S₂).trans S') v') (two_push _ _ _) (new_addr1 _) ?_ (hv.drop _) kn
    have hs : (Shared.heap { s with heap := h₂, toks := t₂ }).objs.size + 1 = (h₂.push { cls := .type "slice", data := .fields #[vb, Value.none, .none] }).objs.size := (Heap.size_push ..).symm
    rw [hs, Heap.get?_push_size _ rfl]
    obtain ⟨m, rfl⟩ := Int.eq_ofNat_of_zero_le h0
    exact congrArg some (congrArg (fun x => ({ cls := .type "list", dict := Option.none, data := .seq x 0, slots := #[] } : Obj)) (pick_from vs.toArray m))

/-- a built-in by its name -/
def BC (c : Cx) (f : Value) (as : List AV) (σ : St) (K : AV → St → Prop) : Prop := ∀ s vs, IsVs (Fz σ.own c.hid s.heap) vs as → Run c VV (call f vs) σ s K
theorem load_bi {M : Model} {s : Shared} {x : Str} {pos : Pos} {v : Value} {Q : Value → Shared → Prop} {E : Value → Shared → Prop} (R : Rel c σ s) (hx : (x, v) ∈ bis) (hk : c.env.kindOf x = some .globalImplicit) (h : Q v s) (hd : (x == ("__debug__" : Str)) = false) :
    wpAny M c.A (eval (.Name x pos) c.env) Q E s := by
  obtain ⟨h1, h2⟩ := R.ok.g.bi _ hx
  exact Name_function_global R.ok.ek hk (loadGlobal_builtin (by rw [R.ok.eg]; exact R.ok.g.gl.keeps R.hr.keep) h1 (by rw [R.ok.eb]; exact R.ok.g.bl.keeps R.hr.keep) h2 h) hd
theorem eval_Call_plain (f : Expr) (args : List Expr) (pos : Pos) (env : Env) (hf : ∀ o n p, f ≠ .Attribute o n p) : eval (.Call f args [] pos) env = (eval f env >>= fun v => callWith pos v [] (backTo pos (starEach args env)) []) := by
  cases f <;> first | rfl | exact absurd rfl (hf _ _ _)
theorem ev_bcall {x : Str} {pn pos : Pos} {v : Value} {e : Expr} {r : List Expr} (hx : (x, v) ∈ bis) (hk : c.env.kindOf x = some .globalImplicit) (hv : (∃ id, v = .builtin id) ∨ ∃ T, v = .type T)
    (h : EvL c pos (e :: r) σ fun as σ₁ => BC c v as σ₁ K) (hd : (x == ("__debug__" : Str)) = false := by decide)
    (he : starEach (e :: r) c.env = (false, eval e c.env) :: starEach r c.env := by rfl) (hp : (backTo pos (starEach r c.env)).any (·.1) = false := by rfl) : Ev c (.Call (.Name x pn) (e :: r) [] pos) σ K :=
  fun s Q E R hQ => by
    rw [eval_Call_plain _ _ _ _ (by intro o n p q; cases q)]
    refine wpAny_bind (load_bi R hx hk ?_ hd)
    have main : wpAny (model c.g.prog c.g.w) c.A (spliced (backTo pos (starEach (e :: r) c.env))) (fun vs s₁ => wpAny (model c.g.prog c.g.w) c.A (call v vs) Q E s₁) E s :=
      h s _ E R fun vs as σ₁ h₁ t₁ k₁ l₁ R₁ S₁ v₁ => k₁ { s with heap := h₁, toks := t₁ } vs v₁ Q E R₁ fun v x σ' h' t' k' l' R' S' v' => hQ v x σ' h' t' k' (l'.trans l₁) R' (S₁.trans S') v'
    rcases hv with ⟨id, rfl⟩ | ⟨T, rfl⟩
    · exact PyProof.Rows.callWith_builtin1 main he hp
    · exact Pv.callWith_type1 main he hp

theorem bc_len {o : AV} {xs : List AV} (ho : Lst σ o xs) (hz : xs.length ≤ 1000000) (k : K (.int xs.length) σ) : BC c (.builtin "len") [o] σ K := fun s vs hv Q E R hQ => by
  obtain ⟨_, rfl, h1⟩ := hv.one_inv
  obtain ⟨l, vs, n, rfl, el, hv⟩ := ho.read R h1
  refine call_len_list (isList_of el) (by simp only [List.size_toArray, hv.length]; lia) ?_
  rw [show ((vs.toArray.size : Nat) : Int) = (xs.length : Int) by simp [hv.length]]
  exact Run.same R hQ k (.int _ _)
theorem bc_abs {i : Int} (k : K (.int (if i < 0 then -i else i)) σ) : BC c (.builtin "abs") [.int i] σ K := fun s vs hv Q E R hQ => by
  obtain ⟨_, rfl, h1⟩ := hv.one_inv; obtain ⟨_, rfl⟩ := h1.int_inv; exact call_abs_int fun u tk => Run.same R hQ k (.int _ _)
theorem bc_int_int {i : Int} (k : K (.int i) σ) : BC c (.type "int") [.int i] σ K := fun s vs hv Q E R hQ => by
  obtain ⟨_, rfl, h1⟩ := hv.one_inv; obtain ⟨_, rfl⟩ := h1.int_inv; exact PySem.call_int_int (Run.same (tk := s.toks) R hQ k (.int _ _))
theorem bc_int_bool {b : Bool} (k : K (.int (if b then 1 else 0)) σ) : BC c (.type "int") [.bool b] σ K := fun s vs hv Q E R hQ => by
  obtain ⟨_, rfl, h1⟩ := hv.one_inv; obtain rfl := h1.bool_inv; exact call_int_bool (Run.same R hQ k (.int _ _))
theorem bc_list {o : AV} {xs : List AV} (ho : Lst σ o xs) (hz : xs.length ≤ 1000000) (k : New K σ xs) : BC c (.type "list") [o] σ K := fun s vs hv Q E R hQ => by
  obtain ⟨_, rfl, h1⟩ := hv.one_inv
  · obtain ⟨l, vs, n, rfl, el, hv⟩ := ho.read R h1
    exact call_list_seq l (.inl rfl) el rfl rfl (fun h' c' g e => Run.newList (vs := vs) (n := c') (tk := s.toks) R hQ g (new_addr _) e hv k) (by simp only [List.size_toArray, hv.length]; exact Nat.le_trans hz (by decide))
theorem bc_max {i j : Int} (k : K (.int (if j > i then j else i)) σ) : BC c (.builtin "max") [.int i, .int j] σ K := fun s vs hv Q E R hQ => by
  obtain ⟨_, _, rfl, h1, h2⟩ := hv.two_inv; obtain ⟨_, rfl⟩ := h1.int_inv; obtain ⟨_, rfl⟩ := h2.int_inv; exact max_two_ints R.ok.rm.hd fun h' tk g => Run.grown R hQ g k (by
    by_cases hc : j > i
    · rw [if_pos hc, if_pos hc]; exact .int _ _
    · rw [if_neg hc, if_neg hc]; exact .int _ _)
theorem preSum_eq (is : List Int) : ∀ n, n ≤ is.length → preSum (fun i => is.getD i 0) n = (is.take n).sum
  | 0, _ => by simp [preSum]
  | n + 1, h => by
    rw [preSum, preSum_eq is n (by lia), List.take_add_one, List.sum_append]
    congr 1
    have : is[n]? = some is[n] := List.getElem?_eq_getElem (by lia)
    simp [List.getD, this]
theorem bc_sum {o : AV} {is : List Int} (ho : Lst σ o (is.map .int)) (k : K (.int is.sum) σ) : BC c (.builtin "sum") [o] σ K := fun s vs hv Q E R hQ => by
  obtain ⟨_, rfl, h1⟩ := hv.one_inv
  · obtain ⟨l, vs, n, rfl, el, hv⟩ := ho.read R h1
    have hh : c.A.in1.handled = none := R.ok.rm.hd
    have hlen : vs.length = is.length := by simpa using hv.length
    have hl : s.heap.IsList l vs.toArray := isList_of el
    refine call_sum_walkAnyS (wpAny_pyIter_list hl ?_)
    refine ⟨_, _, _, _, _, _, _, fun i => is.getD i 0, rfl, (Walks.list (A := c.A.in1) hh s.heap.objs.size l (Nat.ne_of_lt (Heap.lt_size el)) vs.toArray).toS, ⟨⟨_, Heap.get?_push_size _ rfl, rfl, rfl⟩, hl.push _⟩, ?_, ?_, ?_⟩
    · intro b hb
      rw [show (s.heap.push _).objs.size = s.heap.objs.size + 1 from Heap.size_push ..]
      rcases List.mem_cons.mp hb with rfl | hb
      · exact Nat.lt_succ_self _
      · rw [List.mem_singleton.mp hb]; exact Nat.lt_succ_of_lt (Heap.lt_size el)
    · intro i v hv'
      obtain ⟨x, hx, iv⟩ := hv.get' (by simpa using hv' : vs[i]? = some v)
      rw [List.getElem?_map] at hx
      obtain ⟨j, hj, rfl⟩ := Option.map_eq_some_iff.mp hx
      cases iv with | int _ t => exact ⟨t, by simp [List.getD, hj]⟩
    · intro s' t' mv
      have e1 : preSum (fun i => is.getD i 0) vs.toArray.size = is.sum := by
        rw [List.size_toArray, hlen, preSum_eq is _ (Nat.le_refl _), List.take_length]
      rw [e1]
      obtain ⟨hp', g', d', tk', os'⟩ := s'
      obtain ⟨hheap, rfl, rfl, rfl, _⟩ := mv
      have gr : ∀ a ob, s.heap.get? a = some ob → hp'.get? a = some ob := fun a ob e => hheap a ob (fun m => by rw [List.mem_singleton.mp m, new_addr] at e; cases e) (Heap.get?_push_of_some _ e)
      exact Run.grown (s := s) (V := VV) R hQ gr k (IsV.int _ _)
end
end Mine
end
section
open PySem PySem.Calls PyProof.Rows
set_option genSizeOf false
set_option genSizeOfSpec false
set_option genInjectivity false
namespace Mine

inductive Fl where
  | next | brk | cont
  | ret (v : AV)
def FlV (o : Led) (hid : List Addr) (h : Heap) : Flow → Fl → Prop
  | .next, .next => True
  | .brk, .brk => True
  | .cont, .cont => True
  | .ret v, .ret x => IsV (Fz o hid h) v x
  | _, _ => False

/-- a tree of statements: as Run, but the names may turn -/
def RunS (c : Cx) {α β : Type} (V : Led → List Addr → Heap → α → β → Prop) (t : Sem α) (σ : St) (s : Shared) (K : β → St → Prop) : Prop :=
  ∀ (Q : α → Shared → Prop) (E : Value → Shared → Prop), Rel c σ s →
    (∀ v b σ' h' tk, K b σ' → Rel c σ' { s with heap := h', toks := tk } → Ste (wslots c.env) σ.own s.heap σ'.own h' → V σ'.own c.hid h' v b → Q v { s with heap := h', toks := tk }) →
    wpAny (model c.g.prog c.g.w) c.A t Q E s
def Ex (c : Cx) (st : Stmt) (σ : St) (K : Fl → St → Prop) : Prop := ∀ s, RunS c FlV (exec st c.env) σ s K
def Exs (c : Cx) (sts : List Stmt) (σ : St) (K : Fl → St → Prop) : Prop := ∀ s, RunS c FlV (execs sts c.env) σ s K
def VU (_ : Led) (_ : List Addr) (_ : Heap) (_ : Unit) (_ : Unit) : Prop := True
def AsT (c : Cx) (t : Expr) (av : AV) (σ : St) (K : St → Prop) : Prop := ∀ s v, IsV (Fz σ.own c.hid s.heap) v av → RunS c VU (assign t c.env v) σ s fun _ => K

theorem Rel.wide {c : Cx} {σ : St} {s : Shared} (R : Rel c σ s) {o' : Led} {h' : Heap} (x : Ste [] σ.own s.heap o' h') : Ste (wslots c.env) σ.own s.heap o' h' := x.wide fun a m => R.lr.slotThere a (wsub m)

theorem Heap.Ns.uniq {h : Heap} {a : Addr} {m m' : Str → Option Value} (x : h.Ns a m) (y : h.Ns a m') : m = m' := by
  obtain ⟨o, es, ep, e, hd, _, hf⟩ := x
  obtain ⟨o', es', ep', e', hd', _, hf'⟩ := y
  rw [e] at e'; cases e'
  rw [hd] at hd'; cases hd'
  funext n
  rw [← hf, ← hf']

/-- a name that may be stored -/
def IsVar (env : Env) (x : Str) : Prop := env.kindOf x = some .local ∨ (env.kindOf x = some .cell ∧ ∃ a, env.cells.lookup x = some a ∧ @LT.lt Nat _ env.locals a)

theorem store_slot {c : Cx} {σ : St} {s : Shared} {x : Str} {v : Value} {av : AV} {Q : Unit → Shared → Prop} {E : Value → Shared → Prop} (R : Rel c σ s) (hx : IsVar c.env x) (iv : IsV (Fz σ.own c.hid s.heap) v av)
    (h : ∀ h' tk, Rel c ⟨(x, av) :: σ.loc, σ.own⟩ { s with heap := h', toks := tk } → Ste (wslots c.env) σ.own s.heap σ.own h' → Q () { s with heap := h', toks := tk }) :
    wpAny (model c.g.prog c.g.w) c.A (storeName c.env x v) Q E s := by
  have go : ∀ (d : Addr) (h' : Heap) (tk : Nat), d ∈ wslots c.env → Heap.SameBut d s.heap h' → (∃ m, h'.Ns c.env.locals m) → (∀ y a, c.env.cells.lookup y = some a → ∃ v, h'.IsCell a v) → SlotV c.env h' x v →
      (∀ y w, y ≠ x → SlotV c.env s.heap y w → SlotV c.env h' y w) → Q () { s with heap := h', toks := tk } := by
    intro d h' tk hd hs hns hcl hsv hot
    have hB := R.ok.nb d (wsub hd)
    have hnk := R.slotOff d (wsub hd)
    have chg : ∀ a o, a ∉ [d] → s.heap.get? a = some o → h'.get? a = some o := fun a o hn e => hs.extBut a o (by simpa using hn) e
    have hseq : ∀ a ∈ [d], ∀ o, s.heap.get? a = some o → SeqO o → a ∈ c.hid := fun a ha o e so => by
      rw [List.mem_singleton.mp ha] at e; exact (R.lr.slotSeq d (wsub hd) o e so).elim
    have S : Ste (wslots c.env) σ.own s.heap σ.own h' := Ste.but fun a ob hn e => chg a ob (by simp only [List.mem_singleton]; rintro rfl; exact hn hd) e
    have H : HRel c.g σ.own c.hid h' := R.hr.step chg (fun a ha => by rw [List.mem_singleton.mp ha]; exact hB) hseq (fun a ha m => absurd m (by rw [List.mem_singleton.mp ha]; exact R.slotOffH d (wsub hd)))
    refine h h' tk ⟨R.ok, H, hns, hcl, fun y bv e => ?_⟩ S
    by_cases hy : y = x
    · subst hy
      have : bv = av := by simpa using e.symm
      subst this
      exact ⟨v, iv.mono fun a o so p => S.fz (fun a m => R.lr.slotHid a (wsub m)) a o so p, hsv⟩
    · have hb : (y == x) = false := beq_eq_false_iff_ne.mpr hy
      have e' : σ.loc.lookup y = some bv := by simpa [List.lookup_cons, hb] using e
      obtain ⟨w, hw, sw⟩ := R.lr.loc y bv e'
      exact ⟨w, hw.mono fun a o so p => S.fz (fun a m => R.lr.slotHid a (wsub m)) a o so p, hot y w hy sw⟩
  rcases hx with hk | ⟨hk, a, ha, halt⟩
  · obtain ⟨m, hm⟩ := R.lr.ns
    refine wpAny_storeName_local hk hm (fun h' hn hs => ?_) (by rw [R.ok.ek]; rfl)
    refine go c.env.locals h' _ List.mem_cons_self hs ⟨_, hn⟩ (fun y a hy => ?_) (.inl ⟨hk, _, hn, by simp⟩) (fun y w hy sw => ?_)
    · obtain ⟨v, o, e, d⟩ := R.lr.cl y a hy
      exact ⟨v, o, hs.extBut a o (by rintro rfl; exact R.ok.el y hy) e, d⟩
    · rcases sw with ⟨hk', m', hm', e⟩ | ⟨hk', a, ha, o, e, hd⟩
      · refine .inl ⟨hk', _, hn, ?_⟩
        rw [Heap.Ns.uniq hm hm']
        simpa [hy] using e
      · exact .inr ⟨hk', a, ha, o, hs.extBut a o (by rintro rfl; exact R.ok.el y ha) e, hd⟩
  · obtain ⟨v0, hc⟩ := R.lr.cl x a ha
    refine wpAny_storeName_cell R.ok.ek hk ha hc fun h' hv hs => ?_
    have hla : c.env.locals ≠ a := by rintro rfl; exact R.ok.el x ha
    have oth : ∀ y b, y ≠ x → c.env.cells.lookup y = some b → b ≠ a := fun y b hy hb e => by
      subst e; exact hy (name_of_addr R.ok.ep (mem_of_lookup hb) (mem_of_lookup ha))
    refine go a h' s.toks (wslots_cell ha halt) hs ?_ (fun y b hy => ?_) (.inr ⟨.inl hk, a, ha, hv⟩) (fun y w hy sw => ?_)
    · obtain ⟨m, hm⟩ := R.lr.ns
      exact ⟨m, hm.sameBut hs hla⟩
    · by_cases hyx : y = x
      · subst hyx; rw [ha] at hy; cases hy; exact ⟨_, hv⟩
      · obtain ⟨v, o, e, d⟩ := R.lr.cl y b hy
        exact ⟨v, o, hs.extBut b o (oth y b hyx hy) e, d⟩
    · rcases sw with ⟨hk', m', hm', e⟩ | ⟨hk', b, hb, o, e, hd⟩
      · exact .inl ⟨hk', m', hm'.sameBut hs hla, e⟩
      · exact .inr ⟨hk', b, hb, o, hs.extBut b o (oth y b hy hb) e, hd⟩

section
variable {c : Cx} {σ : St} {K : St → Prop} {KF : Fl → St → Prop}

theorem as_name {x : Str} {pos : Pos} {av : AV} (hx : IsVar c.env x) (k : K ⟨(x, av) :: σ.loc, σ.own⟩) : AsT c (.Name x pos) av σ K :=
  fun s v iv Q E R hQ => wpAny_assign_Name (store_slot R hx iv fun h' tk R' S' => hQ () () _ h' tk k R' S' trivial)
theorem as_sub {o i : Expr} {pos : Pos} {av : AV} (h : Ev c o σ fun ov σ₁ => Ev c i σ₁ fun iv σ₂ => ∃ a xs j k, ov = .own a ∧ iv = .int k ∧ σ₂.own[j]? = some (a, xs) ∧ 0 ≤ k ∧ k < xs.length ∧ k < 2 ^ 63 ∧ K ⟨σ₂.loc, σ₂.own.set j (a, xs.set k.toNat av)⟩) : AsT c (.Subscript o i pos) av σ K :=
  fun s v iv Q E R hQ => by
    refine PySem.W.kas_sub (h s _ E R fun vo ov σ₁ h₁ t₁ k₁ l₁ R₁ S₁ v₁ => k₁ _ _ E R₁ fun vi iv' σ₂ h₂ t₂ k₂ l₂ R₂ S₂ v₂ => ?_)
    obtain ⟨a, xs, j, n, rfl, rfl, hj, h0, hn, hz, kk⟩ := k₂
    cases S₂.keepE v₁ with | own =>
    obtain ⟨u, rfl⟩ := IsV.int_inv v₂
    obtain ⟨vs, m, el, hv⟩ := own_there R₂ hj
    have iv₂ : IsV (Fz σ₂.own c.hid h₂) v av := S₂.keepE (S₁.keepE iv)
    refine PySem.W.ki_setAt (n := m) el h0 hz (by simpa [hv.length] using hn) ?_
    have el' := PySem.IsL.update (n := m) el (·.setIfInBounds n.toNat v)
    simp only [Array.size_setIfInBounds, beq_self_eq_true, if_true] at el'
    have go := Run.put (V := VU) (K := fun _ => K) (b := ()) (v := ()) (tk := t₂) R₂ (fun v b σ' h' tk k' l' R' S' _ => hQ () () σ' h' tk k' R' (R.wide ((S₁.trans S₂).trans S')) trivial) hj (Heap.SameBut.update h₂ a (Obj.mapSeq (·.setIfInBounds n.toNat v))) (vs := vs.set n.toNat v) (n := m)
      (by simpa using el') (hv.set iv₂ n.toNat) kk trivial
    exact go

/-- several targets in order -/
def AsL (c : Cx) : List Expr → List AV → St → (St → Prop) → Prop
  | [], _, σ, K => K σ
  | t :: ts, x :: xs, σ, K => AsT c t x σ fun σ₁ => AsL c ts xs σ₁ K
  | _ :: _, [], _, _ => False
theorem asL_run : ∀ (ts : List Expr) (xs : List AV) (σ : St) (s : Shared) (vs : List Value), AsL c ts xs σ K → IsVs (Fz σ.own c.hid s.heap) vs xs → ts.length = xs.length →
    RunS c VU (assignInOrder (ts.map fun t => assign t c.env) vs) σ s fun _ => K := by
  intro ts
  induction ts with
  | nil =>
    intro xs σ s vs k iv hl Q E R hQ
    have : xs = [] := List.length_eq_zero_iff.mp hl.symm
    subst this; cases iv
    exact wpAny_assignInOrder_none (hQ () () σ s.heap s.toks k (R.grow fun _ _ e => e) (Ste.refl ..) trivial)
  | cons t ts ih =>
    intro xs σ s vs k iv hl Q E R hQ
    cases iv with
    | nil => cases hl
    | cons i1 ir =>
      exact wpAny_assignInOrder_more (k s _ i1 _ E R fun _ _ σ₁ h₁ t₁ k₁ R₁ S₁ _ =>
        ih _ σ₁ _ _ k₁ (S₁.keepVs (fun a m => R.lr.slotHid a (wsub m)) ir) (by simpa using hl) Q E R₁ fun _ _ σ' h' tk k' R' S' _ => hQ () () σ' h' tk k' R' (S₁.trans S') trivial)
theorem as_tuple {elts : List Expr} {k : Nat} {pos : Pos} {xs : List AV} (h : AsL c elts xs σ K) (hl : elts.length = xs.length := by rfl)
    (hm : (assignEach elts c.env).map (·.2) = elts.map (fun t => assign t c.env) := by rfl) (hs : (assignEach elts c.env).findIdx? (·.1) = none := by rfl) : AsT c (.Tuple elts k pos) (.tup xs) σ K :=
  fun s v iv Q E R hQ => by
    cases iv with | @tup a o vs n _ p hc hd hv =>
    have ht : s.heap.IsTuple a vs.toArray := ⟨o, p.1, hc, n, hd⟩
    refine wpAny_assign_Tuple R.ok.rm.hd ht (by
      have := congrArg List.length hm
      simp only [List.length_map] at this
      rw [this, hl]; simp [hv.length]) hs fun h' hx => ?_
    rw [hm]
    have g : ∀ a ob, s.heap.get? a = some ob → h'.get? a = some ob := fun a ob e => hx a ob (Nat.ne_of_lt (Heap.lt_size e)) e
    exact asL_run elts xs σ { s with heap := h' } vs h (hv.mono (Fz.grow g)) hl Q E (R.grow (tk := s.toks) g) fun _ _ σ' h'' tk k' R' S' _ => hQ () () σ' h'' tk k' R' (by
      have S0 : Ste (wslots c.env) σ.own s.heap σ.own h' := Ste.grow g
      exact S0.trans S') trivial
def AsNs (c : Cx) : List Str → List AV → St → (St → Prop) → Prop
  | [], _, σ, K => K σ
  | t :: ts, x :: xs, σ, K => IsVar c.env t ∧ AsNs c ts xs ⟨(t, x) :: σ.loc, σ.own⟩ K
  | _ :: _, [], _, _ => False
theorem asNs_run : ∀ (ts : List Str) (xs : List AV) (σ : St) (s : Shared) (vs : List Value), AsNs c ts xs σ K → IsVs (Fz σ.own c.hid s.heap) vs xs → ts.length = xs.length →
    RunS c VU (assignInOrder (ts.map fun n => bindName c.env n) vs) σ s fun _ => K := by
  intro ts
  induction ts with
  | nil =>
    intro xs σ s vs k iv hl Q E R hQ
    have : xs = [] := List.length_eq_zero_iff.mp hl.symm
    subst this; cases iv
    exact wpAny_assignInOrder_none (hQ () () σ s.heap s.toks k (R.grow fun _ _ e => e) (Ste.refl ..) trivial)
  | cons t ts ih =>
    intro xs σ s vs k iv hl Q E R hQ
    cases iv with
    | nil => cases hl
    | cons i1 ir =>
      exact wpAny_assignInOrder_more (wpAny_bindName (store_slot R k.1 i1 fun h₁ t₁ R₁ S₁ =>
        ih _ _ _ _ k.2 (S₁.keepVs (fun a m => R.lr.slotHid a (wsub m)) ir) (by simpa using hl) Q E R₁ fun _ _ σ' h' tk k' R' S' _ => hQ () () σ' h' tk k' R' (S₁.trans S') trivial))

theorem IsVs.reverse {P : Addr → Obj → Prop} : ∀ {vs : List Value} {xs : List AV}, IsVs P vs xs → IsVs P vs.reverse xs.reverse
  | [], _, .nil => .nil
  | _ :: _, _, .cons h r => by simpa using r.reverse.append (IsVs.one h)
theorem exec_Assign_one (t value : Expr) (pos : Pos) (env : Env) : (assignEach [t] env).map (·.2) = [assign t env] ∨ True := .inr trivial
theorem ex_assign {t value : Expr} {pos : Pos} (h : Ev c value σ fun av σ₁ => AsT c t av σ₁ (KF .next)) (hs : swapsWithSole [t] value pos.line c.env = pure false := by rfl) (hw : swappedStores [t] value c.env = pure none := by rfl)
    (hm : (assignEach [t] c.env).map (·.2) = [assign t c.env] := by rfl) : Ex c (.Assign [t] value pos) σ KF :=
  fun s Q E R hQ => by
    refine wpAny_Assign_stores (h s _ E R fun v av σ₁ h₁ t₁ k₁ l₁ R₁ S₁ v₁ => ?_) hs hw
    rw [hm]
    exact k₁ { s with heap := h₁, toks := t₁ } v v₁ _ E R₁ fun _ _ σ' h' tk k' R' S' _ => hQ .next .next σ' h' tk k' R' ((R.wide S₁).trans S') trivial
theorem ex_swap {elts : List Expr} {k : Nat} {tp pos : Pos} {value : Expr} {names : List Str} (hw : swappedStores [.Tuple elts k tp] value c.env = pure (some names)) (h : Ev c value σ fun av σ₁ => ∃ xs, av = .tup xs ∧ names.length = xs.length ∧ AsNs c names.reverse xs.reverse σ₁ (KF .next))
    (hs : swapsWithSole [.Tuple elts k tp] value pos.line c.env = pure false := by rfl) : Ex c (.Assign [.Tuple elts k tp] value pos) σ KF :=
  fun s Q E R hQ => by
    refine Assign_Tuple_swapped (names := names) (h s _ E R fun v av σ₁ h₁ t₁ k₁ l₁ R₁ S₁ v₁ => ?_) hs hw
    obtain ⟨xs, rfl, hl, kk⟩ := k₁
    obtain ⟨a, o, vs, n, rfl, p, hc, hd, hv⟩ := IsV.tup_inv v₁
    have ht : Heap.IsTuple h₁ a vs.toArray := ⟨o, p.1, hc, n, hd⟩
    have hsz : names.length = vs.toArray.size := by simp [hl, hv.length]
    rw [hsz]
    refine wpAny_unpackItems_tuple R.ok.rm.hd ht fun h' hx => ?_
    have g : ∀ a ob, h₁.get? a = some ob → h'.get? a = some ob := fun a ob e => hx a ob (Nat.ne_of_lt (Heap.lt_size e)) e
    have hvr : IsVs (Fz σ₁.own c.hid h') vs.toArray.toList.reverse xs.reverse := by
      exact (hv.mono (Fz.grow g)).reverse
    refine wpAny_mono (asNs_run names.reverse xs.reverse σ₁ { s with heap := h', toks := t₁ } _ kk hvr (by simpa using hl) (fun _ s' => Q .next s') E (R₁.grow (tk := t₁) g) fun _ _ σ' h'' tk k' R' S' _ => ?_) (fun _ _ x => x) fun _ _ x => x
    refine hQ .next .next σ' h'' tk k' R' ?_ trivial
    have S0 : Ste (wslots c.env) σ₁.own h₁ σ₁.own h' := Ste.grow g
    exact ((R.wide S₁).trans S0).trans S'

theorem ex_if {test : Expr} {body orelse : List Stmt} {pos : Pos} (h : EvT c test σ fun b σ₁ => if b then Exs c body σ₁ KF else Exs c orelse σ₁ KF) : Ex c (.If test body orelse pos) σ KF :=
  fun s Q E R hQ => wpAny_If (h s _ E R fun v b σ₁ h₁ t₁ k₁ l₁ R₁ S₁ v₁ => by
    subst v₁
    cases v <;> exact k₁ _ Q E R₁ fun f fl σ' h' t' k' R' S' v' => hQ f fl σ' h' t' k' R' ((R.wide S₁).trans S') v')
theorem ex_ret {e : Expr} {pos : Pos} (h : Ev c e σ fun av σ₁ => KF (.ret av) σ₁) : Ex c (.Return (some e) pos) σ KF :=
  fun s Q E R hQ => wpAny_Return_some (h s _ E R fun v b σ₁ h₁ t₁ k₁ l₁ R₁ S₁ v₁ => hQ (.ret v) (.ret b) σ₁ h₁ t₁ k₁ R₁ (R.wide S₁) v₁)
theorem ex_expr {e : Expr} {pos : Pos} (h : Ev c e σ fun _ σ₁ => KF .next σ₁) (hs : swapsWith e none pos.line c.env = pure false := by rfl) : Ex c (.Expr e pos) σ KF :=
  fun s Q E R hQ => wpAny_Expr_any (h s _ E R fun v b σ₁ h₁ t₁ k₁ l₁ R₁ S₁ v₁ => hQ .next .next σ₁ h₁ t₁ k₁ R₁ (R.wide S₁) trivial) (by unfold interactive; rw [R.ok.ek]; rfl) hs
theorem exs_nil (k : KF .next σ) : Exs c [] σ KF := fun s Q E R hQ => wpAny_execs_nil (hQ .next .next σ s.heap s.toks k (R.grow fun _ _ e => e) (Ste.refl ..) trivial)
/-- what holds behind a statement that others follow -/
@[reducible] def SeqK (c : Cx) (rest : List Stmt) (KF : Fl → St → Prop) : Fl → St → Prop := fun fl σ₁ => match fl with | .next => Exs c rest σ₁ KF | fl => KF fl σ₁
theorem exs_cons {st : Stmt} {rest : List Stmt} (h : Ex c st σ (SeqK c rest KF)) : Exs c (st :: rest) σ KF :=
  fun s Q E R hQ => wpAny_execs_cons (h s _ E R fun f fl σ₁ h₁ t₁ k₁ R₁ S₁ v₁ => by
    cases f <;> cases fl <;> first
      | exact k₁ _ Q E R₁ fun f fl σ' h' t' k' R' S' v' => hQ f fl σ' h' t' k' R' (S₁.trans S') v'
      | exact hQ _ _ σ₁ h₁ t₁ k₁ R₁ S₁ v₁
      | exact v₁.elim)

/-- forgetting -/
def Wk (σ σ' : St) : Prop := (∀ x av, σ'.loc.lookup x = some av → σ.loc.lookup x = some av) ∧ σ.own = σ'.own
theorem Rel.wk {σ' : St} {s : Shared} (R : Rel c σ s) (w : Wk σ σ') : Rel c σ' s := by
  obtain ⟨w1, w2⟩ := w
  refine ⟨R.ok, w2 ▸ R.hr, R.lr.ns, R.lr.cl, fun x av e => ?_⟩
  rw [← w2]; exact R.lr.loc x av (w1 x av e)
theorem exs_wk {sts : List Stmt} (σ' : St) (w : Wk σ σ') (h : Exs c sts σ' KF) : Exs c sts σ KF := fun s Q E R hQ => h s Q E (R.wk w) fun f fl σ₁ h₁ t₁ k₁ R₁ S₁ v₁ => hQ f fl σ₁ h₁ t₁ k₁ R₁ (by rw [w.2]; exact S₁) v₁
theorem Exs.mono {sts : List Stmt} {K' : Fl → St → Prop} (h : Exs c sts σ KF) (k : ∀ fl σ', KF fl σ' → K' fl σ') : Exs c sts σ K' := fun s Q E R hQ => h s Q E R fun f fl σ₁ h₁ t₁ k₁ => hQ f fl σ₁ h₁ t₁ (k _ _ k₁)

/-- a turn's end -/
@[reducible] def WhileK (n : Nat) (Inv : Nat → St → Prop) (KF : Fl → St → Prop) : Fl → St → Prop := fun fl σ₂ => match fl with
  | .next | .cont => ∃ m σ₃, m < n ∧ Wk σ₂ σ₃ ∧ Inv m σ₃
  | .brk => KF .next σ₂
  | .ret v => KF (.ret v) σ₂
@[reducible] def ForK (I : St → Prop) (KF : Fl → St → Prop) : Fl → St → Prop := fun fl σ₃ => match fl with
  | .next | .cont => ∃ σ₄, Wk σ₃ σ₄ ∧ I σ₄
  | .brk => KF .next σ₃
  | .ret v => KF (.ret v) σ₃
/-- a while by an invariant and a measure -/
theorem ex_while {test : Expr} {body : List Stmt} {pos : Pos} (Inv : Nat → St → Prop) (n : Nat) (w : ∃ σ₀, Wk σ σ₀ ∧ Inv n σ₀)
    (turn : ∀ n σ, Inv n σ → EvT c test σ fun b σ₁ => if b then Exs c body σ₁ (WhileK n Inv KF) else KF .next σ₁) : Ex c (.While test body [] pos) σ KF :=
  fun s Q E R hQ => by
    refine wpAny_noRaise ?_
    refine wpAny_While (codeAny_whileLoop (fun k s' => ∃ σ₁, Inv k σ₁ ∧ Rel c σ₁ s' ∧ Ste (wslots c.env) σ.own s.heap σ₁.own s'.heap ∧ ∃ h' tk, s' = { s with heap := h', toks := tk }) ?_ n ?_)
    · rintro k s' ⟨σ₁, hI, R₁, S₁, h', tk, rfl⟩
      refine turn k σ₁ hI _ _ _ R₁ fun v b σ₂ h₂ t₂ k₂ l₂ R₂ S₂ v₂ => ?_
      subst v₂
      have S₁₂ : Ste (wslots c.env) σ.own s.heap σ₂.own h₂ := S₁.trans (R₁.wide S₂)
      cases v with
      | false => exact wpAny_execs_nil (hQ .next .next σ₂ h₂ t₂ k₂ R₂ S₁₂ trivial)
      | true =>
        refine k₂ _ _ _ R₂ fun f fl σ₃ h₃ t₃ k₃ R₃ S₃ v₃ => ?_
        have S₁₃ := S₁₂.trans S₃
        cases f <;> cases fl <;> first
          | exact v₃.elim
          | (obtain ⟨m, σ₄, hm, w4, i4⟩ := k₃
             exact ⟨m, hm, σ₄, i4, R₃.wk w4, by rw [← w4.2]; exact S₁₃, h₃, t₃, rfl⟩)
          | exact hQ _ _ σ₃ h₃ t₃ k₃ R₃ S₁₃ v₃
    · obtain ⟨σ₀, w0, i0⟩ := w
      exact ⟨σ₀, i0, R.wk w0, by rw [← w0.2]; exact Ste.refl .., s.heap, s.toks, rfl⟩
end
end Mine
end
section
open PySem PySem.Calls PyProof.Rows
set_option genSizeOf false
set_option genSizeOfSpec false
set_option genInjectivity false
namespace Mine

/-- a contract: the def d, called on args with the owned lists own, gives back v and own' with K v own' -/
def Fn (g : Gl) (d : FD) (n : Nat) (args : List AV) (own : Led) (K : AV → Led → Prop) : Prop :=
  ∀ (A : Around) (fa : Addr) (vs : List Value) (hid : List Addr) (s : Shared) (Q E : Value → Shared → Prop), g.Ok → Room A (n + 1) → g.mg d.name = some (.ref fa) → HRel g own hid s.heap → IsVs (Fz own hid s.heap) vs args →
    (∀ v x own' h' tk, K x own' → HRel g own' hid h' → Ste [] own s.heap own' h' → IsV (Fz own' hid h') v x → Q v { s with heap := h', toks := tk }) → wpAny (model g.prog g.w) A (call (.ref fa) vs) Q E s

theorem Fn.mono {g : Gl} {d : FD} {n : Nat} {args : List AV} {own : Led} {K K' : AV → Led → Prop} (h : Fn g d n args own K) (k : ∀ v o, K v o → K' v o) : Fn g d n args own K' :=
  fun A fa vs hid s Q E ok rm hm hr iv hQ => h A fa vs hid s Q E ok rm hm hr iv fun v x own' h' tk kk => hQ v x own' h' tk (k _ _ kk)

theorem Room.le {A : Around} {n m : Nat} (r : Room A n) (h : m ≤ n) : Room A m := ⟨r.hd, by have := r.dp; lia, by have := r.un; lia⟩

theorem mem_keys_mid {l o t : Led} {a : Addr} : a ∈ keys (l ++ o ++ t) ↔ a ∈ keys o ∨ a ∈ keys l ∨ a ∈ keys t := by
  simp only [keys_append, List.mem_append]; constructor
  · rintro ((h | h) | h) <;> simp [h]
  · rintro (h | h | h) <;> simp [h]

theorem HRel.part {g : Gl} {l o t : Led} {hid : List Addr} {h : Heap} (r : HRel g (l ++ o ++ t) hid h) : HRel g o (keys l ++ keys t ++ hid) h ∧ ∀ b ob, Fz (l ++ o ++ t) hid h b ob → Fz o (keys l ++ keys t ++ hid) h b ob := by
  have up : ∀ b ob, Fz (l ++ o ++ t) hid h b ob → Fz o (keys l ++ keys t ++ hid) h b ob := fun b ob q =>
    ⟨q.1, fun m => q.2.1 (mem_keys_mid.mpr (.inl m)), fun m => by
      rcases List.mem_append.mp m with m | m
      · exact q.2.1 (mem_keys_mid.mpr (.inr (List.mem_append.mp m)))
      · exact q.2.2 m⟩
  have nd : (keys l ++ keys o ++ keys t).Nodup := by simpa using r.nod
  have nd1 := List.nodup_append.mp nd
  have nd2 := List.nodup_append.mp nd1.1
  refine ⟨⟨r.keep, fun p hp => ?_, nd2.2.1, fun a m hm => ?_, fun a m => r.new a (mem_keys_mid.mpr (.inl m)), fun a m => ?_⟩, up⟩
  · obtain ⟨vs, n, e, hv⟩ := r.led p (by simp [hp])
    exact ⟨vs, n, e, hv.mono fun b ob _ q => up b ob q⟩
  · rcases List.mem_append.mp hm with hm | hm
    · rcases List.mem_append.mp hm with hm | hm
      · exact nd2.2.2 a hm a m rfl
      · exact nd1.2.2 a (List.mem_append.mpr (.inr m)) a hm rfl
    · exact r.off a (mem_keys_mid.mpr (.inl m)) hm
  · rcases List.mem_append.mp m with m | m
    · obtain ⟨vs, n, e⟩ := r.seq (mem_keys_mid.mpr (.inr (List.mem_append.mp m)))
      exact ⟨_, e, SeqO.l⟩
    · exact r.hx a m
theorem HRel.whole {g : Gl} {l o o' t : Led} {hid : List Addr} {h h' : Heap} (r : HRel g (l ++ o ++ t) hid h) (r' : HRel g o' (keys l ++ keys t ++ hid) h') (st : Ste [] o h o' h') :
    HRel g (l ++ o' ++ t) hid h' ∧ Ste [] (l ++ o ++ t) h (l ++ o' ++ t) h' ∧ ∀ b ob, Fz o' (keys l ++ keys t ++ hid) h' b ob → Fz (l ++ o' ++ t) hid h' b ob := by
  have dn : ∀ b ob, Fz o' (keys l ++ keys t ++ hid) h' b ob → Fz (l ++ o' ++ t) hid h' b ob := fun b ob q =>
    ⟨q.1, fun m => (mem_keys_mid.mp m).elim q.2.1 fun m => q.2.2 (List.mem_append.mpr (.inl (List.mem_append.mpr m))), fun m => q.2.2 (List.mem_append.mpr (.inr m))⟩
  have S : Ste [] (l ++ o ++ t) h (l ++ o' ++ t) h' := by
    refine ⟨fun a ob ha hs e => st.chg a ob (fun m => ha (mem_keys_mid.mpr (.inl m))) hs e, fun a m => ?_, st.thr⟩
    rcases mem_keys_mid.mp m with m | m
    · exact (st.fresh a m).imp (fun m => mem_keys_mid.mpr (.inl m)) id
    · exact .inl (mem_keys_mid.mpr (.inr m))
  have nd : (keys l ++ keys o ++ keys t).Nodup := by simpa using r.nod
  have nd1 := List.nodup_append.mp nd
  have nd2 := List.nodup_append.mp nd1.1
  have offl : ∀ a ∈ keys o', a ∉ keys l ∧ a ∉ keys t := fun a m => ⟨fun m' => r'.off a m (by simp [m']), fun m' => r'.off a m (by simp [m'])⟩
  refine ⟨⟨r'.keep, fun p hp => ?_, ?_, fun a m hm => ?_, fun a m => ?_, fun a m => r'.hx a (by simp [m])⟩, S, dn⟩
  · have old : p ∈ l ∨ p ∈ t → ∃ vs n, h'.get? p.1 = some (lobj vs n) ∧ IsVs (Fz (l ++ o' ++ t) hid h') vs p.2 := fun hp => by
      have hpk : p.1 ∈ keys l ∨ p.1 ∈ keys t := hp.imp (fun q => List.mem_map.mpr ⟨p, q, rfl⟩) fun q => List.mem_map.mpr ⟨p, q, rfl⟩
      obtain ⟨vs, n, e, hv⟩ := r.led p (by rcases hp with hp | hp <;> simp [hp])
      refine ⟨vs, n, st.chg _ _ (fun m => ?_) (by simp) e, hv.mono fun b ob so q => S.fz (by simp) b ob so q⟩
      rcases hpk with q | q
      · exact nd2.2.2 _ q _ m rfl
      · exact nd1.2.2 _ (List.mem_append.mpr (.inr m)) _ q rfl
    rcases List.mem_append.mp hp with hp | hp
    · rcases List.mem_append.mp hp with hp | hp
      · exact old (.inl hp)
      · obtain ⟨vs, n, e, hv⟩ := r'.led p hp
        exact ⟨vs, n, e, hv.mono fun b ob _ q => dn b ob q⟩
    · exact old (.inr hp)
  · rw [keys_append, keys_append]
    refine List.nodup_append.mpr ⟨List.nodup_append.mpr ⟨nd2.1, r'.nod, fun a ha b hb e => (offl b hb).1 (e ▸ ha)⟩, nd1.2.1, fun a ha b hb e => ?_⟩
    subst e
    rcases List.mem_append.mp ha with ha | ha
    · exact nd1.2.2 a (List.mem_append.mpr (.inl ha)) a hb rfl
    · exact (offl a ha).2 hb
  · rcases mem_keys_mid.mp m with m | m
    · exact r'.off a m (by simp [hm])
    · exact r.off a (mem_keys_mid.mpr (.inr m)) hm
  · rcases mem_keys_mid.mp m with m | m
    · exact r'.new a m
    · exact r.new a (mem_keys_mid.mpr (.inr m))

section
variable {c : Cx} {σ : St} {K : AV → St → Prop}
theorem ev_call {x : Str} {pn pos : Pos} {e : Expr} {r : List Expr} {d : FD} {n : Nat} (hd : d ∈ c.g.defs) (hk : c.env.kindOf x = some .globalImplicit) (hn : n + 1 ≤ c.n)
    (h : EvL c pos (e :: r) σ fun as σ₁ => ∃ l own t, σ₁.own = l ++ own ++ t ∧ Fn c.g d n as own fun v own' => K v ⟨σ₁.loc, l ++ own' ++ t⟩)
    (hxn : x = d.name := by rfl) (hdb : (x == ("__debug__" : Str)) = false := by decide)
    (he : starEach (e :: r) c.env = (false, eval e c.env) :: starEach r c.env := by rfl) : Ev c (.Call (.Name x pn) (e :: r) [] pos) σ K :=
  fun s Q E R hQ => by
    rw [eval_Call_plain _ _ _ _ (by intro o n p q; cases q)]
    obtain ⟨fa, o, pm, code, doc, hm, ho, hdat, hcd⟩ := R.ok.g.fn d hd
    refine wpAny_bind (Name_function_global R.ok.ek hk (loadGlobal_global (mg := c.g.mg) (by rw [R.ok.eg]; exact R.ok.g.gl.keeps R.hr.keep) (by rw [hxn]; exact hm) ?_) hdb)
    refine callWith_def hdat (h s _ E R fun vs as σ₁ h₁ t₁ k₁ l₁ R₁ S₁ v₁ => ⟨R₁.hr.keep _ _ ho, ?_⟩) he
    obtain ⟨l, own, t, eo, hf⟩ := k₁
    have r₁ := R₁.hr
    have v₁' : IsVs (Fz σ₁.own c.hid h₁) vs as := v₁
    rw [eo] at r₁ v₁'
    obtain ⟨rp, up⟩ := r₁.part
    refine hf c.A fa vs _ { s with heap := h₁, toks := t₁ } Q E R.ok.g (R.ok.rm.le hn) hm rp (v₁'.mono fun b ob _ q => up b ob q) fun v x own' h' tk k' r' st iv => ?_
    obtain ⟨rw', S', dn⟩ := r₁.whole r' st
    have S'' : Ste [] σ₁.own h₁ (l ++ own' ++ t) h' := by rw [eo]; exact S'
    exact hQ v x ⟨σ₁.loc, l ++ own' ++ t⟩ h' tk k' l₁ ⟨R.ok, rw', LRel.stepE R₁ S'' rfl⟩ (S₁.trans S'') (iv.mono fun b ob _ q => dn b ob q)
end

/-- the kinds of the names: what is free here is a cell -/
def fr (k : NameKind) : NameKind := match k with | .free => .cell | k => k
structure Kinds (env : Env) (names : List (Str × NameKind)) : Prop where
  k : ∀ x k, names.lookup x = some k → env.kindOf x = some (fr k)
  c : ∀ x, names.lookup x = some .cell → ∃ a, env.cells.lookup x = some a ∧ @LT.lt Nat _ env.locals a
  f : ∀ x, names.lookup x = some .free → ∃ a, env.cells.lookup x = some a
theorem Kinds.gi {env : Env} {names : List (Str × NameKind)} {x : Str} (h : Kinds env names) (hx : names.lookup x = some .globalImplicit := by rfl) : env.kindOf x = some .globalImplicit := h.k x _ hx
theorem Kinds.vl {env : Env} {names : List (Str × NameKind)} {x : Str} (h : Kinds env names) (hx : names.lookup x = some .local := by rfl) : IsVar env x := .inl (h.k x _ hx)
theorem Kinds.vc {env : Env} {names : List (Str × NameKind)} {x : Str} (h : Kinds env names) (hx : names.lookup x = some .cell := by rfl) : IsVar env x := .inr ⟨h.k x _ hx, h.c x hx⟩

def retOf : Fl → AV
  | .ret v => v
  | _ => .none

theorem bindL_eq (k : Str → Option NameKind) (x : Str) : ∀ (b : List (Str × Value)) (m : Str → Option Value), bindL k b m x = if k x = some .local then (b.reverse.lookup x).or (m x) else m x
  | [], m => by simp [bindL]
  | (n, v) :: r, m => by
    rw [bindL, bindL_eq k x r]
    by_cases hx : k x = some .local
    · rw [if_pos hx, if_pos hx, List.reverse_cons, List.lookup_append]
      by_cases hn : x = n
      · subst hn; simp [hx]
      · have hb : (x == n) = false := beq_eq_false_iff_ne.mpr hn
        by_cases hk : k n = some .local <;> simp [hk, hn, hb, List.lookup_cons]
    · rw [if_neg hx, if_neg hx]
      by_cases hn : x = n
      · subst hn; simp [hx]
      · by_cases hk : k n = some .local <;> simp [hk, hn]
theorem bindC_eq (k : Str → Option NameKind) (x : Str) : ∀ (b : List (Str × Value)) (m : Str → Option Value), bindC k b m x = if k x = some .local then m x else (b.reverse.lookup x).or (m x)
  | [], m => by simp [bindC]
  | (n, v) :: r, m => by
    rw [bindC, bindC_eq k x r]
    by_cases hx : k x = some .local
    · rw [if_pos hx, if_pos hx]
      by_cases hn : x = n
      · subst hn; simp [hx]
      · by_cases hk : k n = some .local <;> simp [hk, hn]
    · rw [if_neg hx, if_neg hx, List.reverse_cons, List.lookup_append]
      by_cases hn : x = n
      · subst hn; simp [hx]
      · have hb : (x == n) = false := beq_eq_false_iff_ne.mpr hn
        by_cases hk : k n = some .local <;> simp [hk, hn, hb, List.lookup_cons]

theorem zip_lookup {P : Addr → Obj → Prop} {x : Str} {av : AV} : ∀ (names : List Str) {vs : List Value} {as : List AV}, IsVs P vs as → (names.zip as).reverse.lookup x = some av → ∃ v, (names.zip vs).reverse.lookup x = some v ∧ IsV P v av
  | [], _, _, _, h => by simp at h
  | n :: ns, _, _, .nil, h => by simp at h
  | n :: ns, v :: vs, a :: as, .cons h1 hr, h => by
    simp only [List.zip_cons_cons, List.reverse_cons, List.lookup_append] at h ⊢
    cases e : (ns.zip as).reverse.lookup x with
    | some b =>
      rw [e] at h
      obtain ⟨w, hw, iw⟩ := zip_lookup ns hr e
      exact ⟨w, by rw [hw]; rfl, by simpa using (by simpa using h : b = av) ▸ iw⟩
    | none =>
      rw [e] at h
      have hn : (ns.zip vs).reverse.lookup x = none := by
        rw [List.lookup_eq_none_iff] at e ⊢
        intro p hp
        have hp' := List.mem_reverse.mp hp
        obtain ⟨i, hi, ei⟩ := List.mem_iff_getElem.mp hp'
        have hlen := hr.length
        have hi1 : i < ns.length := by simp at hi; lia
        have hi2 : i < as.length := by simp at hi; lia
        have := e (ns[i], as[i]) (List.mem_reverse.mpr (List.mem_iff_getElem.mpr ⟨i, by simp; lia, by simp⟩))
        rw [← ei]; simpa using this
      rw [hn]
      by_cases hx : x = n
      · subst hx
        simp at h ⊢
        exact h ▸ h1
      · have hb : (x == n) = false := beq_eq_false_iff_ne.mpr hx
        simp [List.lookup_cons, hb] at h

theorem fn_intro {g : Gl} {d : FD} {n : Nat} {args : List AV} {own : Led} {K : AV → Led → Prop} (names : List Str) (hd : d ∈ g.defs)
    (hb : ∀ pm code doc (vs : List Value), vs.length = names.length → bindArgs (docDef d.name d.params d.body d.scope pm code doc) ⟨vs, []⟩ = pure (names.zip vs))
    (hkn : ∀ x ∈ names, d.scope.names.lookup x = some .local ∨ d.scope.names.lookup x = some .cell)
    (hlen : args.length = names.length) (hfree' : ∀ p ∈ d.scope.names, p.2 ≠ .free)
    (hk : d.scope.kind = .function) (hco : d.scope.isCoroutine = false) (hgen : d.scope.isGenerator = false)
    (body : ∀ c : Cx, c.g = g → c.n = n → Kinds c.env d.scope.names → Exs c d.body ⟨(names.zip args).reverse, own⟩ fun fl σ' => K (retOf fl) σ'.own) : Fn g d n args own K := by
  intro A fa vs hid s Q E ok rm hm hr iv hQ
  obtain ⟨fa', o, pm, code, doc, hm', ho, hdat, hcd⟩ := ok.fn d hd
  rw [hm] at hm'; cases hm'
  have hfree : ∀ y k, d.scope.names.lookup y = some k → k ≠ .free := fun y k e => hfree' _ (mem_of_lookup e)
  have hvl : vs.length = names.length := iv.length.trans hlen
  have cellSome : ∀ x n, d.scope.names.lookup x = some .cell → ((cellsFrom n d.scope.names []).lookup x).isSome = true := fun x n e => PySem.W.cellsFrom_some _ _ _ (.inl e)
  refine wpAny_call (codeAny_call_cells (fd := docDef d.name d.params d.body d.scope pm code doc) (body := d.body) (binds := names.zip vs) (by have := rm.dp; lia) (hr.keep _ _ ho) hdat (ok.lim.keeps hr.keep) (hcd.keeps hr.keep) rfl (hb _ _ _ _ hvl) rfl
    (fun p hp => ?_) (fun s₁ x => ?_) hco hgen hk)
  · have hpn : p.1 ∈ names := (List.of_mem_zip (a := p.1) (b := p.2) hp).1
    exact (hkn _ hpn).imp id fun e => ⟨e, cellSome _ _ e⟩
  · obtain ⟨h₁, tk, rfl, gr⟩ := x.done
    obtain ⟨env, henv⟩ : ∃ env, env = callEnvC (docDef d.name d.params d.body d.scope pm code doc) s.heap.objs.size fa := ⟨_, rfl⟩
    have e1 : env.scope = d.scope := by rw [henv]; rfl
    have e2 : env.globals = mainGlobals := by rw [henv]; rfl
    have e3 : env.builtins = builtinsNs := by rw [henv]; rfl
    have e4 : env.locals = s.heap.objs.size := by rw [henv]; rfl
    have e5 : env.cells = cellsFrom (s.heap.objs.size + 1) d.scope.names [] := by rw [henv]; rfl
    rw [← henv] at x ⊢
    let c : Cx := ⟨g, A.deeper env, n, env, hid⟩
    have fresh : ∀ a, s.heap.objs.size ≤ a → s.heap.get? a = Option.none := fun a ha => by
      cases e : s.heap.get? a with
      | none => rfl
      | some o => exact absurd (Heap.lt_size e) (Nat.not_lt.mpr ha)
    have slf : ∀ a ∈ slots env, s.heap.get? a = Option.none := fun a ha => by
      rcases slots_cases ha with rfl | ⟨y, hy⟩
      · rw [e4]; exact fresh _ (Nat.le_refl _)
      · refine fresh _ ?_
        have := x.above y a (mem_of_lookup hy)
        rw [e4] at this; exact Nat.le_of_lt this
    have ck : c.Ok := by
      refine ⟨ok, ⟨rm.hd, ?_, ?_⟩, by show env.scope.kind = _; rw [e1]; exact hk, e2, e3, x.apart, fun y hy => ?_, fun a ha => ?_⟩
      · show A.depth + 1 + n < _; have := rm.dp; lia
      · show A.units + 3 + 8 * n + 80 < _; have := rm.un; lia
      · exact absurd (x.above y _ (mem_of_lookup hy)) (Nat.lt_irrefl _)
      · cases e : g.B.get? a with
        | none => rfl
        | some o => have := hr.keep _ _ e; rw [slf a ha] at this; cases this
    have R : Rel c ⟨(names.zip args).reverse, own⟩ { s with heap := h₁, toks := tk } := by
      refine ⟨ck, hr.grow gr, ⟨_, x.toInCall.ns⟩, fun y a hy => ⟨_, x.cell y a hy⟩, fun y av e => ?_⟩
      obtain ⟨v, hv, iv'⟩ := zip_lookup names iv e
      refine ⟨v, iv'.mono (Fz.grow gr), ?_⟩
      have hyn : y ∈ names := by
        have := mem_of_lookup hv
        exact (List.of_mem_zip (List.mem_reverse.mp this)).1
      have hko : env.kindOf y = d.scope.names.lookup y := by show env.scope.names.lookup y = _; rw [e1]
      rcases hkn y hyn with q | q
      · refine .inl ⟨hko.trans q, _, x.toInCall.ns, ?_⟩
        rw [bindL_eq, if_pos (hko.trans q), hv]; rfl
      · have qs := cellSome y (s.heap.objs.size + 1) q
        rw [← e5] at qs
        obtain ⟨a, ha⟩ := Option.isSome_iff_exists.mp qs
        have hne : env.kindOf y ≠ some .local := by rw [hko, q]; simp
        have := x.cell y a ha
        rw [bindC_eq, if_neg hne, hv] at this
        exact .inr ⟨.inl (hko.trans q), a, ha, this⟩
    have kd : Kinds c.env d.scope.names := by
      refine ⟨fun y k e => ?_, fun y e => ?_, fun y e => ?_⟩
      · have hkf : k ≠ .free := hfree y k e
        have : fr k = k := by cases k <;> first | rfl | exact absurd rfl hkf
        rw [this]; show env.scope.names.lookup y = _; rw [e1]; exact e
      · have qs := cellSome y (s.heap.objs.size + 1) e
        rw [← e5] at qs
        obtain ⟨a, ha⟩ := Option.isSome_iff_exists.mp qs
        exact ⟨a, ha, x.above y a (mem_of_lookup ha)⟩
      · exact absurd rfl (hfree y _ e)
    refine body c rfl rfl kd _ _ _ R fun f fl σ' h' t' k' R' S' v' => ?_
    have S : Ste [] own s.heap σ'.own h' := by
      refine ⟨fun a ob ha _ e => S'.chg a ob ha (fun m => by rw [slf a (wsub m)] at e; cases e) (gr _ _ e), fun a m => ?_, fun a _ ⟨o, e⟩ => S'.thr a (fun m => by rw [slf a (wsub m)] at e; cases e) ⟨o, gr _ _ e⟩⟩
      rcases S'.fresh a m with q | q
      · exact .inl q
      · refine .inr ⟨?_, by simp⟩
        cases e : s.heap.get? a with
        | none => rfl
        | some ob => have := gr _ _ e; rw [q.1] at this; cases this
    cases f <;> cases fl <;> first
      | exact v'.elim
      | exact hQ _ _ σ'.own h' t' k' R'.hr S v'
      | exact hQ _ _ σ'.own h' t' k' R'.hr S IsV.none
end Mine
end
section
open PySem PySem.Calls PyProof.Rows
set_option genSizeOf false
set_option genSizeOfSpec false
set_option genInjectivity false
namespace Mine

/-- an iterator that will give n items -/
structure Src (prog : Program) (w : World) (A : Around) (P₀ : Addr → Obj → Prop) (target : Expr) (it : Value) (hs wr fp : List Addr) (n : Nat) (item : Nat → AV) (St : Nat → Heap → Prop) : Prop where
  frame : ∀ i h h', St i h → (∀ b ∈ fp, ∀ o, h.get? b = some o → h'.get? b = some o) → St i h'
  pull : ∀ i (s : Shared) (N : Shared → Prop) (Q : Value → Shared → Prop) (E E2 : Value → Shared → Prop), i < n → St i s.heap →
    (∀ v h' tk, St (i + 1) h' → (∀ b o, b ∉ wr → s.heap.get? b = some o → h'.get? b = some o) → (∀ P : Addr → Obj → Prop, (∀ a o, SeqO o → P₀ a o → P a o) → (∀ a o, s.heap.get? a = none → h'.get? a = some o → P a o) → IsV P v (item i)) → Q v { s with heap := h', toks := tk }) →
    wpAny (model prog w) A (pyNext it) (fun r s₁ => match r with | none => N s₁ | some v => wpAny (model prog w) A (letOwnedTupleGo target it v) (fun _ s₂ => Q v s₂) E2 s₁) E s
  done : ∀ (s : Shared) (N : Shared → Prop) (Q : Value → Shared → Prop) (E : Value → Shared → Prop), St n s.heap →
    (∀ h' tk, (∀ b o, b ∉ wr → s.heap.get? b = some o → h'.get? b = some o) → N { s with heap := h', toks := tk }) →
    wpAny (model prog w) A (pyNext it) (fun r s₁ => match r with | none => N s₁ | some v => Q v s₁) E s
  self : ∀ i (s : Shared) (Q : Value → Shared → Prop) (E : Value → Shared → Prop), St i s.heap → Q it s → wpAny (model prog w) A (pyIter it) Q E s
  thr : ∀ i h, St i h → ∀ b ∈ wr, ∃ o, h.get? b = some o
  wsq : ∀ i h, St i h → ∀ b ∈ wr, ∀ o, h.get? b = some o → SeqO o → b ∈ hs
  hsq : ∀ i h, St i h → ∀ b ∈ hs, ∃ o, h.get? b = some o ∧ SeqO o

/-- it stands: laid at h, of objects that were not at h0 -/
structure SrcOk (c : Cx) (target : Expr) (own : Led) (h0 h : Heap) (it : Value) (n : Nat) (item : Nat → AV) (hs wr fp : List Addr) (P₀ : Addr → Obj → Prop) (St : Nat → Heap → Prop) : Prop where
  src : Src c.g.prog c.g.w c.A P₀ target it hs wr fp n item St
  st : St 0 h
  val : ∀ a o, SeqO o → P₀ a o → Fz own (hs ++ c.hid) h a o
  new : ∀ b ∈ wr, h0.get? b = none
  hsw : ∀ b ∈ hs, b ∈ wr
  fpo : ∀ b ∈ fp, (∃ o, h.get? b = some o) ∧ b ∉ keys own ∧ b ∉ slots c.env
  fph : ∀ b ∈ fp, b ∉ c.hid

def Cx.hide (c : Cx) (hs : List Addr) : Cx := { c with hid := hs ++ c.hid }
@[simp] theorem Cx.hide_g (c : Cx) (hs : List Addr) : (c.hide hs).g = c.g := rfl
@[simp] theorem Cx.hide_A (c : Cx) (hs : List Addr) : (c.hide hs).A = c.A := rfl
@[simp] theorem Cx.hide_env (c : Cx) (hs : List Addr) : (c.hide hs).env = c.env := rfl
@[simp] theorem Cx.hide_n (c : Cx) (hs : List Addr) : (c.hide hs).n = c.n := rfl
theorem Cx.Ok.hide {c : Cx} (x : c.Ok) (hs : List Addr) : (c.hide hs).Ok := ⟨x.g, x.rm, x.ek, x.eg, x.eb, x.ep, x.el, x.nb⟩

/-- the heap grew by objects that are hidden at once -/
theorem HRel.hide {g : Gl} {own : Led} {hid hs : List Addr} {h h' : Heap} (r : HRel g own hid h) (k : ∀ a ob, h.get? a = some ob → h'.get? a = some ob) (hn : ∀ b ∈ hs, h.get? b = none) (hq : ∀ b ∈ hs, ∃ o, h'.get? b = some o ∧ SeqO o) : HRel g own (hs ++ hid) h' := by
  have up : ∀ b o, SeqO o → Fz own hid h b o → Fz own (hs ++ hid) h' b o := fun b o _ q => ⟨k _ _ q.1, q.2.1, fun m => by
    rcases List.mem_append.mp m with m | m
    · have := q.1; rw [hn b m] at this; cases this
    · exact q.2.2 m⟩
  refine ⟨fun a o e => k _ _ (r.keep a o e), fun p hp => ?_, r.nod, fun a m hm => ?_, r.new, fun a m => ?_⟩
  · obtain ⟨vs, n, e, hv⟩ := r.led p hp
    exact ⟨vs, n, k _ _ e, hv.mono up⟩
  · rcases List.mem_append.mp hm with hm | hm
    · obtain ⟨vs, n, e⟩ := r.seq m; rw [hn a hm] at e; cases e
    · exact r.off a m hm
  · rcases List.mem_append.mp m with m | m
    · exact hq a m
    · obtain ⟨o, e, so⟩ := r.hx a m; exact ⟨o, k _ _ e, so⟩
theorem Fz.hide {own : Led} {hid hs : List Addr} {h h' : Heap} (k : ∀ a ob, h.get? a = some ob → h'.get? a = some ob) (hn : ∀ b ∈ hs, h.get? b = none) (a : Addr) (o : Obj) (_ : SeqO o) (q : Fz own hid h a o) : Fz own (hs ++ hid) h' a o :=
  ⟨k _ _ q.1, q.2.1, fun m => by
    rcases List.mem_append.mp m with m | m
    · have := q.1; rw [hn a m] at this; cases this
    · exact q.2.2 m⟩
theorem Rel.hide {c : Cx} {σ : St} {s : Shared} (R : Rel c σ s) {hs : List Addr} {h' : Heap} {tk : Nat} (k : ∀ a ob, s.heap.get? a = some ob → h'.get? a = some ob) (hn : ∀ b ∈ hs, s.heap.get? b = none) (hq : ∀ b ∈ hs, ∃ o, h'.get? b = some o ∧ SeqO o) : Rel (c.hide hs) σ { s with heap := h', toks := tk } := by
  refine ⟨R.ok.hide hs, R.hr.hide k hn hq, ?_, fun x a e => ?_, fun x av e => ?_⟩
  · obtain ⟨m, hm⟩ := R.lr.ns; exact ⟨m, hm.keeps k⟩
  · obtain ⟨v, o, e', hd⟩ := R.lr.cl x a e; exact ⟨v, o, k _ _ e', hd⟩
  · obtain ⟨v, hv, sv⟩ := R.lr.loc x av e
    exact ⟨v, hv.mono (Fz.hide k hn), sv.keep fun a _ o e => k a o e⟩

/-- e gives an iterable of n items; hs: what it lays aside -/
def EvI (c : Cx) (target e : Expr) (σ : St) (K : List Addr → Nat → (Nat → AV) → St → Prop) : Prop :=
  ∀ s (Q : Value → Shared → Prop) (E : Value → Shared → Prop), Rel c σ s →
    (∀ it n item σ' h' tk hs wr fp P₀ St, K hs n item σ' → σ'.loc = σ.loc → Rel c σ' { s with heap := h', toks := tk } → Rel (c.hide hs) σ' { s with heap := h', toks := tk } → Ste [] σ.own s.heap σ'.own h' → SrcOk c target σ'.own s.heap h' it n item hs wr fp P₀ St → Q it { s with heap := h', toks := tk }) →
    wpAny (model c.g.prog c.g.w) c.A (eval e c.env) (fun x s₁ => wpAny (model c.g.prog c.g.w) c.A (pyIter x) Q E s₁) E s

section
variable {c : Cx} {σ : St} {K : AV → St → Prop} {KF : Fl → St → Prop}

theorem hid_not_new {c : Cx} {σ : St} {s : Shared} (R : Rel c σ s) {b : Addr} (hb : s.heap.get? b = none) : b ∉ c.hid := fun m => by
  obtain ⟨o, e, _⟩ := R.hr.hx b m; rw [hb] at e; cases e
theorem slot_not_new {c : Cx} {σ : St} {s : Shared} (R : Rel c σ s) {b : Addr} (hb : s.heap.get? b = none) : b ∉ slots c.env := fun m => by
  obtain ⟨o, e⟩ := R.lr.slotThere b m; rw [hb] at e; cases e

/-- sources -/
theorem src_walks {A : Around} {prog : Program} {w : World} {x : Str} {px : Pos} {I : Addr} {fp wr : List Addr} {n : Nat} {P : Nat → Value → Prop} {St : Nat → Heap → Prop} {P₀ : Addr → Obj → Prop} {item : Nat → AV} (W : Walks prog w A I fp wr n P St)
    (hi : ∀ i v, i < n → P i v → ∀ P' : Addr → Obj → Prop, (∀ a o, SeqO o → P₀ a o → P' a o) → IsV P' v (item i)) (thr : ∀ i h, St i h → ∀ b ∈ wr, ∃ o, h.get? b = some o) (wsq : ∀ i h, St i h → ∀ b ∈ wr, ∀ o, h.get? b = some o → ¬ SeqO o) :
    Src prog w A P₀ (.Name x px) (.ref I) [] wr fp n item St where
  frame := W.frame
  pull := fun i s N Q E E2 hlt st h => W.item i s _ E hlt st fun v h' tk hP st' chg => by
    show wpAny (model prog w) A (letOwnedTupleGo (.Name x px) (.ref I) v) _ _ _
    exact wpAny_pure (h v h' tk st' chg fun P' hp _ => hi i v hlt hP P' hp)
  done := fun s N Q E st h => W.done s _ E st fun h' tk chg => h h' tk chg
  self := W.self
  thr := thr
  wsq := fun i h st b hb o e q => (wsq i h st b hb o e q).elim
  hsq := fun _ _ _ _ hb => absurd hb (by simp)
theorem src_walksT {A : Around} {prog : Program} {w : World} {elts : List Expr} {k : Nat} {px : Pos} {I : Addr} {hs fp wr : List Addr} {n : Nat} {Pt : Nat → Array Value → Prop} {St : Nat → Heap → Prop} {Mid : Nat → Addr → Heap → Prop} {P₀ : Addr → Obj → Prop} {item : Nat → List AV} (W : WalksT prog w A I fp wr n Pt St Mid)
    (hi : ∀ i vals, i < n → Pt i vals → ∀ P' : Addr → Obj → Prop, (∀ a o, SeqO o → P₀ a o → P' a o) → IsVs P' vals.toList (item i)) (thr : ∀ i h, St i h → ∀ b ∈ wr, ∃ o, h.get? b = some o) (wsq : ∀ i h, St i h → ∀ b ∈ wr, ∀ o, h.get? b = some o → SeqO o → b ∈ hs)
    (hsq : ∀ i h, St i h → ∀ b ∈ hs, ∃ o, h.get? b = some o ∧ SeqO o) :
    Src prog w A P₀ (.Tuple elts k px) (.ref I) hs wr fp n (fun i => .tup (item i)) St where
  frame := W.frame
  pull := fun i s N Q E E2 hlt st h => W.item i s _ E hlt st fun T vals h' tk hP hT ht hm chg => by
    show wpAny (model prog w) A (letOwnedTupleGo (.Tuple elts k px) (.ref I) (.ref T)) _ _ _
    have hap := W.apart i T h' hm
    refine W.go elts k px i T _ _ _ hm fun h'' st'' chg' => ?_
    have hnone : s.heap.get? T = none := by
      cases e : s.heap.get? T with
      | none => rfl
      | some o => exact absurd (Heap.lt_size e) (Nat.not_lt.mpr hT)
    refine h (.ref T) h'' tk st'' (fun b o hb e => chg' b o hb (chg b o hb e)) fun P' hp hq => ?_
    obtain ⟨o, e, hc, m, hd⟩ := ht
    exact .tup (vs := vals.toList) (n := m) (hq T o hnone (chg' T o hap e)) hc (by simpa using hd) (hi i vals hlt hP P' hp)
  done := fun s N Q E st h => W.done s _ E st fun h' tk chg => h h' tk chg
  self := W.self
  thr := thr
  wsq := wsq
  hsq := hsq

theorem fields_not_seq {o : Obj} {vs : Array Value} (h : o.data = .fields vs) : ¬ SeqO o := by rintro ⟨xs, n, e⟩; rw [h] at e; cases e
theorem listIter_not_seq {h : Heap} {a l : Addr} {i : Nat} (x : h.IsListIter a l i) (o : Obj) (e : h.get? a = some o) : ¬ SeqO o := by
  obtain ⟨o', e', _, hd⟩ := x; rw [e] at e'; cases e'; exact fields_not_seq hd

/-- a list that stands frozen, as a source -/
theorem evi_list {x : Str} {px : Pos} {e : Expr} {KI : List Addr → Nat → (Nat → AV) → St → Prop} (h : Ev c e σ fun o σ₁ => ∃ xs : List AV, o = .lst xs ∧ KI [] xs.length (fun i => xs.getD i .none) σ₁) : EvI c (.Name x px) e σ KI :=
  fun s Q E R hQ => h s _ E R fun v o σ₁ h₁ t₁ k₁ l₁ R₁ S₁ v₁ => by
    obtain ⟨xs, rfl, k⟩ := k₁
    obtain ⟨a, vs, n, rfl, p, hv⟩ := IsV.lst_inv v₁
    have hl : Heap.IsList h₁ a vs.toArray := isList_of p.1
    refine wpAny_pyIter_list hl ?_
    have gr : ∀ b ob, h₁.get? b = some ob → (h₁.push { cls := .type "list_iterator", data := .fields #[.ref a, .int 0 0] }).get? b = some ob := fun b ob e => Heap.get?_push_of_some _ e
    have hlt : a < h₁.objs.size := Heap.lt_size p.1
    have hne : a ≠ h₁.objs.size := Nat.ne_of_lt hlt
    have hlen : vs.length = xs.length := hv.length
    have W := Walks.list (prog := c.g.prog) (w := c.g.w) (A := c.A) R.ok.rm.hd h₁.objs.size a hne vs.toArray
    have hz : vs.toArray.size = xs.length := by simp [hlen]
    rw [hz] at W
    have n0 : s.heap.get? h₁.objs.size = none := S₁.none (by simp) (new_addr _)
    refine hQ _ _ _ σ₁ _ t₁ [] [h₁.objs.size] [h₁.objs.size, a] (Fz σ₁.own c.hid h₁) _ k l₁ (R₁.grow gr) (R₁.hide gr (by simp) (by simp)) (S₁.trans (Ste.grow gr))
      ⟨src_walks W ?_ ?_ ?_, ⟨⟨_, Heap.get?_push_size _ rfl, rfl, rfl⟩, hl.push _⟩, fun b ob q f => Fz.grow gr b ob q f, ?_, by simp, ?_, ?_⟩
    · intro i v hlt' hP P' hp
      have hP' : vs[i]? = some v := by simpa using hP
      obtain ⟨x', hx', iv⟩ := hv.get' hP'
      rw [show xs.getD i .none = x' by simp [List.getD, hx']]
      exact iv.mono hp
    · intro i h st b hb
      rw [List.mem_singleton.mp hb]; obtain ⟨o, e, _⟩ := st.1; exact ⟨o, e⟩
    · intro i h st b hb o e
      rw [List.mem_singleton.mp hb] at e; exact listIter_not_seq st.1 o e
    · intro b hb; rw [List.mem_singleton.mp hb]; exact n0
    · intro b hb
      rcases List.mem_cons.mp hb with rfl | hb
      · exact ⟨⟨_, Heap.get?_push_size _ rfl⟩, (fun m => by obtain ⟨vs, n, e⟩ := R₁.hr.seq m; rw [new_addr] at e; cases e), slot_not_new R₁ (new_addr _)⟩
      · rw [List.mem_singleton.mp hb]
        exact ⟨⟨_, gr _ _ p.1⟩, p.2.1, fun m => R₁.lr.slotSeq a m _ p.1 SeqO.l⟩
    · intro b hb
      rcases List.mem_cons.mp hb with rfl | hb
      · exact hid_not_new R₁ (new_addr _)
      · rw [List.mem_singleton.mp hb]; exact p.2.2
end
end Mine
end
section
open PySem PySem.Calls PyProof.Rows
namespace Mine
section
variable {c : Cx} {σ : St} {K : AV → St → Prop} {KF : Fl → St → Prop}

theorem wp_bcall {x : Str} {pn pos : Pos} {v : Value} {e : Expr} {r : List Expr} {KL : List AV → St → Prop} {s : Shared} {Q : Value → Shared → Prop} {E : Value → Shared → Prop} (R : Rel c σ s) (hx : (x, v) ∈ bis) (hk : c.env.kindOf x = some .globalImplicit) (hv : (∃ id, v = .builtin id) ∨ ∃ T, v = .type T)
    (h : EvL c pos (e :: r) σ KL)
    (k : ∀ vs as σ₁ h₁ t₁, KL as σ₁ → σ₁.loc = σ.loc → Rel c σ₁ { s with heap := h₁, toks := t₁ } → Ste [] σ.own s.heap σ₁.own h₁ → IsVs (Fz σ₁.own c.hid h₁) vs as → wpAny (model c.g.prog c.g.w) c.A (call v vs) Q E { s with heap := h₁, toks := t₁ })
    (hd : (x == ("__debug__" : Str)) = false := by decide)
    (he : starEach (e :: r) c.env = (false, eval e c.env) :: starEach r c.env := by rfl) (hp : (backTo pos (starEach r c.env)).any (·.1) = false := by rfl) :
    wpAny (model c.g.prog c.g.w) c.A (eval (.Call (.Name x pn) (e :: r) [] pos) c.env) Q E s := by
  rw [eval_Call_plain _ _ _ _ (by intro o n p q; cases q)]
  refine wpAny_bind (load_bi R hx hk ?_ hd)
  have main : wpAny (model c.g.prog c.g.w) c.A (spliced (backTo pos (starEach (e :: r) c.env))) (fun vs s₁ => wpAny (model c.g.prog c.g.w) c.A (call v vs) Q E s₁) E s :=
    h s _ E R fun vs as σ₁ h₁ t₁ k₁ l₁ R₁ S₁ v₁ => k vs as σ₁ h₁ t₁ k₁ l₁ R₁ S₁ v₁
  rcases hv with ⟨id, rfl⟩ | ⟨T, rfl⟩
  · exact PyProof.Rows.callWith_builtin1 main he hp
  · exact Pv.callWith_type1 main he hp

theorem range_src {x : Str} {px : Pos} {KI : List Addr → Nat → (Nat → AV) → St → Prop} {s : Shared} {Q : Value → Shared → Prop} {E : Value → Shared → Prop} {a b d : Int} {t u w : Tok} {n : Nat} {r : Addr} {σ₁ : St} {h₁ : Heap} {t₁ : Nat}
    (hQ : ∀ it n item σ' h' tk hs wr fp P₀ St, KI hs n item σ' → σ'.loc = σ.loc → Rel c σ' { s with heap := h', toks := tk } → Rel (c.hide hs) σ' { s with heap := h', toks := tk } → Ste [] σ.own s.heap σ'.own h' → SrcOk c (.Name x px) σ'.own s.heap h' it n item hs wr fp P₀ St → Q it { s with heap := h', toks := tk })
    (l₁ : σ₁.loc = σ.loc) (R₁ : Rel c σ₁ { s with heap := h₁, toks := t₁ }) (S₁ : Ste [] σ.own s.heap σ₁.own h₁) (hr : IsRange h₁ r a b d t u w) (hsm : Builtin.Range.small a b d = true) (hn : Builtin.Range.rangeSize a b d = (n : Int)) (k : KI [] n (fun i => .int (a + i * d)) σ₁) :
    wpAny (model c.g.prog c.g.w) c.A (pyIter (.ref r)) Q E { s with heap := h₁, toks := t₁ } := by
  refine wpAny_pyIter_range hr hsm ?_
  have gr : ∀ b' ob, h₁.get? b' = some ob → (h₁.push { cls := .type "range_iterator", data := .fields #[rawInt a, rawInt (Builtin.Range.rangeSize a b d), rawInt d] }).get? b' = some ob := fun b ob e => Heap.get?_push_of_some _ e
  have W := Walks.range (prog := c.g.prog) (w := c.g.w) (A := c.A) R₁.ok.rm.hd h₁.objs.size a d n
  have n0 : s.heap.get? h₁.objs.size = none := S₁.none (by simp) (new_addr _)
  refine hQ _ n _ σ₁ _ t₁ [] [h₁.objs.size] [h₁.objs.size] (Fz σ₁.own c.hid h₁) _ k l₁ (R₁.grow gr) (R₁.hide gr (by simp) (by simp)) (S₁.trans (Ste.grow gr))
    ⟨src_walks W ?_ ?_ ?_, ?_, fun b ob q f => Fz.grow gr b ob q f, ?_, by simp, ?_, fun b hb => by rw [List.mem_singleton.mp hb]; exact hid_not_new R₁ (new_addr _)⟩
  · rintro i v _ ⟨tk, rfl⟩ P' _; exact .int _ _
  · intro i h st b hb; rw [List.mem_singleton.mp hb]; exact ⟨_, st⟩
  · intro i h st b hb o e
    rw [List.mem_singleton.mp hb] at e
    rw [show h.get? h₁.objs.size = _ from st] at e
    cases e; exact fields_not_seq rfl
  · show IsRangeIter _ _ _ _ _
    rw [hn]; simpa using Heap.get?_push_size _ rfl
  · intro b hb; rw [List.mem_singleton.mp hb]; exact n0
  · intro b hb
    rw [List.mem_singleton.mp hb]
    exact ⟨⟨_, Heap.get?_push_size _ rfl⟩, (fun m => by obtain ⟨vs, n, e⟩ := R₁.hr.seq m; rw [new_addr] at e; cases e), slot_not_new R₁ (new_addr _)⟩

theorem small_of {a b d : Int} {n : Nat} (h1 : -1000000 ≤ a ∧ a ≤ 1000000) (h2 : -1000000 ≤ b ∧ b ≤ 1000000) (h3 : d = 1 ∨ d = -1) (hn : Builtin.Range.rangeSize a b d = (n : Int)) (hz : n ≤ 1000000) : Builtin.Range.small a b d = true := by
  unfold Builtin.Range.small
  rw [hn]
  simp only [Builtin.Range.rangeFitsLong, Bool.and_eq_true, decide_eq_true_eq, Bool.or_eq_true, beq_iff_eq]
  rcases h3 with rfl | rfl
  · refine ⟨⟨⟨⟨⟨by lia, by lia⟩, by lia, by lia⟩, by decide⟩, by lia, by lia⟩, .inr ?_⟩
    rw [if_pos (by decide)]
    simp only [Bool.and_eq_true, decide_eq_true_eq]; lia
  · refine ⟨⟨⟨⟨⟨by lia, by lia⟩, by lia, by lia⟩, by decide⟩, by lia, by lia⟩, .inr ?_⟩
    rw [if_neg (by decide)]
    simp only [Bool.and_eq_true, decide_eq_true_eq]; lia
theorem size_up (a b : Int) : Builtin.Range.rangeSize a b 1 = ((b - a).toNat : Int) := by
  unfold Builtin.Range.rangeSize; rw [if_pos (by decide)]; split <;> lia
theorem size_down (a b : Int) : Builtin.Range.rangeSize a b (-1) = ((a - b).toNat : Int) := by
  unfold Builtin.Range.rangeSize; rw [if_neg (by decide), Int.neg_neg, Int.ediv_one]; split <;> lia

theorem evi_range1 {x y : Str} {px pn pos : Pos} {e : Expr} {KI : List Addr → Nat → (Nat → AV) → St → Prop} (hk : c.env.kindOf y = some .globalImplicit)
    (h : EvL c pos [e] σ fun as σ₁ => ∃ b, as = [.int b] ∧ b ≤ 1000000 ∧ -1000000 ≤ b ∧ KI [] b.toNat (fun i => .int i) σ₁) (hy : y = "range" := by rfl)
    (he : starEach [e] c.env = (false, eval e c.env) :: starEach [] c.env := by rfl) (hp : (backTo pos (starEach [] c.env)).any (·.1) = false := by rfl) : EvI c (.Name x px) (.Call (.Name y pn) [e] [] pos) σ KI :=
  fun s Q E R hQ => by
    subst hy
    refine wp_bcall R (v := .type "range") (by decide) hk (.inr ⟨_, rfl⟩) h (he := he) (hp := hp) fun vs as σ₁ h₁ t₁ k₁ l₁ R₁ S₁ v₁ => ?_
    obtain ⟨b, rfl, hz, hz', k⟩ := k₁
    obtain ⟨_, rfl, i1⟩ := IsVs.one_inv v₁
    obtain ⟨u1, rfl⟩ := i1.int_inv
    refine call_range_1 ?_
    have gr : ∀ b' ob, h₁.get? b' = some ob → (h₁.push { cls := .type "range", data := .fields #[.int 0 t₁, .int b u1, .int 1 (t₁ + 1)] }).get? b' = some ob := fun b ob e => Heap.get?_push_of_some _ e
    refine range_src (s := s) (n := b.toNat) hQ l₁ (R₁.grow gr) (S₁.trans (Ste.grow gr)) (IsRange.new ..) (small_of (by lia) (by lia) (.inl rfl) (size_up 0 b) (by lia)) (by rw [size_up]; simp) (by simpa using k)
theorem evi_range2 {x y : Str} {px pn pos : Pos} {e e2 : Expr} {KI : List Addr → Nat → (Nat → AV) → St → Prop} (hk : c.env.kindOf y = some .globalImplicit)
    (h : EvL c pos [e, e2] σ fun as σ₁ => ∃ a b, as = [.int a, .int b] ∧ (-1000000 ≤ a ∧ a ≤ 1000000) ∧ (-1000000 ≤ b ∧ b ≤ 1000000) ∧ (b - a).toNat ≤ 1000000 ∧ KI [] (b - a).toNat (fun i => .int (a + i)) σ₁) (hy : y = "range" := by rfl)
    (he : starEach [e, e2] c.env = (false, eval e c.env) :: starEach [e2] c.env := by rfl) (hp : (backTo pos (starEach [e2] c.env)).any (·.1) = false := by rfl) : EvI c (.Name x px) (.Call (.Name y pn) [e, e2] [] pos) σ KI :=
  fun s Q E R hQ => by
    subst hy
    refine wp_bcall R (v := .type "range") (by decide) hk (.inr ⟨_, rfl⟩) h (he := he) (hp := hp) fun vs as σ₁ h₁ t₁ k₁ l₁ R₁ S₁ v₁ => ?_
    obtain ⟨a, b, rfl, hz, hz', hz2, k⟩ := k₁
    obtain ⟨_, _, rfl, i1, i2⟩ := IsVs.two_inv v₁
    obtain ⟨u1, rfl⟩ := i1.int_inv
    obtain ⟨u2, rfl⟩ := i2.int_inv
    refine call_range_2 ?_
    have gr : ∀ b' ob, h₁.get? b' = some ob → (h₁.push { cls := .type "range", data := .fields #[.int a u1, .int b u2, .int 1 t₁] }).get? b' = some ob := fun b ob e => Heap.get?_push_of_some _ e
    refine range_src (s := s) (n := (b - a).toNat) hQ l₁ (R₁.grow gr) (S₁.trans (Ste.grow gr)) (IsRange.new ..) (small_of hz hz' (.inl rfl) (size_up a b) hz2) (size_up a b) (by simpa using k)
theorem evi_range3 {x y : Str} {px pn pos : Pos} {e e2 e3 : Expr} {KI : List Addr → Nat → (Nat → AV) → St → Prop} (hk : c.env.kindOf y = some .globalImplicit)
    (h : EvL c pos [e, e2, e3] σ fun as σ₁ => ∃ a b, as = [.int a, .int b, .int (-1)] ∧ (-1000000 ≤ a ∧ a ≤ 1000000) ∧ (-1000000 ≤ b ∧ b ≤ 1000000) ∧ (a - b).toNat ≤ 1000000 ∧ KI [] (a - b).toNat (fun i => .int (a - i)) σ₁) (hy : y = "range" := by rfl)
    (he : starEach [e, e2, e3] c.env = (false, eval e c.env) :: starEach [e2, e3] c.env := by rfl) (hp : (backTo pos (starEach [e2, e3] c.env)).any (·.1) = false := by rfl) : EvI c (.Name x px) (.Call (.Name y pn) [e, e2, e3] [] pos) σ KI :=
  fun s Q E R hQ => by
    subst hy
    refine wp_bcall R (v := .type "range") (by decide) hk (.inr ⟨_, rfl⟩) h (he := he) (hp := hp) fun vs as σ₁ h₁ t₁ k₁ l₁ R₁ S₁ v₁ => ?_
    obtain ⟨a, b, rfl, hz, hz', hz2, k⟩ := k₁
    obtain ⟨_, _, _, rfl, i1, i2, i3⟩ := IsVs.three_inv v₁
    obtain ⟨u1, rfl⟩ := i1.int_inv
    obtain ⟨u2, rfl⟩ := i2.int_inv
    obtain ⟨u3, rfl⟩ := i3.int_inv
    refine call_range_3 (by decide) ?_ (.inl (PyProof.noPylong_of_log2 (by decide +kernel)))
    have gr : ∀ b' ob, h₁.get? b' = some ob → (h₁.push { cls := .type "range", data := .fields #[.int a u1, .int b u2, .int (-1) u3] }).get? b' = some ob := fun b ob e => Heap.get?_push_of_some _ e
    refine range_src (s := s) (n := (a - b).toNat) hQ l₁ (R₁.grow gr) (S₁.trans (Ste.grow gr)) (IsRange.new ..) (small_of hz hz' (.inr rfl) (size_down a b) hz2) (size_down a b) ?_
    have e : (fun i : Nat => AV.int (a + i * (-1))) = fun i : Nat => AV.int (a - i) := by funext i; congr 1; lia
    rw [e]; exact k

/-- enumerate over a frozen list -/
theorem evi_enum {elts : List Expr} {k : Nat} {px pn pos : Pos} {y : Str} {e : Expr} {KI : List Addr → Nat → (Nat → AV) → St → Prop} (hk : c.env.kindOf y = some .globalImplicit)
    (h : EvL c pos [e] σ fun as σ₁ => ∃ xs, as = [.lst xs] ∧ KI [] xs.length (fun i => .tup [.int i, xs.getD i .none]) σ₁) (hy : y = "enumerate" := by rfl)
    (he : starEach [e] c.env = (false, eval e c.env) :: starEach [] c.env := by rfl) (hp : (backTo pos (starEach [] c.env)).any (·.1) = false := by rfl) : EvI c (.Tuple elts k px) (.Call (.Name y pn) [e] [] pos) σ KI :=
  fun s Q E R hQ => by
    subst hy
    refine wp_bcall R (v := .type "enumerate") (by decide) hk (.inr ⟨_, rfl⟩) h (he := he) (hp := hp) fun vs as σ₁ h₁ t₁ k₁ l₁ R₁ S₁ v₁ => ?_
    obtain ⟨xs, rfl, k⟩ := k₁
    obtain ⟨_, rfl, i1⟩ := IsVs.one_inv v₁
    obtain ⟨a, vs, n, rfl, p, hv⟩ := i1.lst_inv
    have hl : Heap.IsList h₁ a vs.toArray := isList_of p.1
    refine call_enumerate_list hl fun h' he hit hsz gr => ?_
    refine wpAny_pyIter_enum he ?_
    have hlt : a < h₁.objs.size := Heap.lt_size p.1
    have hlen : vs.length = xs.length := hv.length
    have ne1 : h₁.objs.size + 1 ≠ h₁.objs.size := Nat.succ_ne_self _
    have W := WalksT.enumerate (prog := c.g.prog) (w := c.g.w) (A := c.A) R.ok.rm.hd (h₁.objs.size + 1) h₁.objs.size a ne1 (Nat.ne_of_lt (Nat.lt_succ_of_lt hlt)) (Nat.ne_of_lt hlt) vs.toArray
    have hz : vs.toArray.size = xs.length := by simp [hlen]
    rw [hz] at W
    refine hQ _ _ _ σ₁ _ t₁ [] [h₁.objs.size + 1, h₁.objs.size] [h₁.objs.size + 1, h₁.objs.size, a] (Fz σ₁.own c.hid h₁) _ k l₁ (R₁.grow gr) (R₁.hide gr (by simp) (by simp)) (S₁.trans (Ste.grow gr))
      ⟨src_walksT W ?_ ?_ ?_ (by simp), ⟨⟨_, he⟩, hit, hl.at fun o e => gr _ _ e⟩, fun b ob q f => Fz.grow gr b ob q f, ?_, by simp, ?_, ?_⟩
    · rintro i vals _ ⟨t, x, hx, rfl⟩ P' hp
      obtain ⟨x', hx', iv⟩ := hv.get' (by simpa using hx : vs[i]? = some x)
      rw [show xs.getD i .none = x' by simp [List.getD, hx']]
      exact .cons (.int _ _) (.cons (iv.mono hp) .nil)
    · intro i h st b hb
      obtain ⟨⟨old, q⟩, q2, _⟩ := st
      rcases List.mem_cons.mp hb with rfl | hb
      · exact ⟨_, q⟩
      · rw [List.mem_singleton.mp hb]; obtain ⟨o, e, _⟩ := q2; exact ⟨o, e⟩
    · intro i h st b hb o e so
      obtain ⟨⟨old, q⟩, q2, _⟩ := st
      rcases List.mem_cons.mp hb with rfl | hb
      · rw [q] at e; cases e; exact absurd so (fields_not_seq rfl)
      · rw [List.mem_singleton.mp hb] at e; exact absurd so (listIter_not_seq q2 o e)
    · intro b hb
      rcases List.mem_cons.mp hb with rfl | hb
      · exact S₁.none (by simp) (new_addr1 _)
      · rw [List.mem_singleton.mp hb]; exact S₁.none (by simp) (new_addr _)
    · intro b hb
      rcases List.mem_cons.mp hb with rfl | hb
      · exact ⟨⟨_, he⟩, (fun m => by obtain ⟨vs, n, e⟩ := R₁.hr.seq m; rw [new_addr1] at e; cases e), slot_not_new R₁ (new_addr1 _)⟩
      · rcases List.mem_cons.mp hb with rfl | hb
        · obtain ⟨o, e, _⟩ := hit
          exact ⟨⟨o, e⟩, (fun m => by obtain ⟨vs, n, e⟩ := R₁.hr.seq m; rw [new_addr] at e; cases e), slot_not_new R₁ (new_addr _)⟩
        · rw [List.mem_singleton.mp hb]
          exact ⟨⟨_, gr _ _ p.1⟩, p.2.1, fun m => R₁.lr.slotSeq a m _ p.1 SeqO.l⟩
    · intro b hb
      rcases List.mem_cons.mp hb with rfl | hb
      · exact hid_not_new R₁ (new_addr1 _)
      · rcases List.mem_cons.mp hb with rfl | hb
        · exact hid_not_new R₁ (new_addr _)
        · rw [List.mem_singleton.mp hb]; exact p.2.2
end
end Mine
end
section
open PySem PySem.Calls PyProof.Rows
namespace Mine

section
variable {prog : Program} {w : World} {A : Around}
abbrev BWT := (Value → Shared → Prop) → (Shared → Prop) → Shared → Prop
def CT (prog : Program) (w : World) (A : Around) (e : Expr) (depth : Nat) (it acc : Value) (env : Env) (target : Expr) (BW : BWT) : Prop :=
  ∀ (Q : PySem.Fin → Shared → Prop) (E : Value → Shared → Prop) (s : Shared),
    wpAny (model prog w) A (pyNext it) (fun r s₁ => match r with
      | none => Q (.done .next) s₁
      | some v => wpAny (model prog w) A (letOwnedTupleGo target it v) (fun _ s₂ => wpAny (model prog w) A (assign target env v) (fun _ s₃ => BW E (fun s₄ => Q (.again (.compLoop e depth it acc env)) s₄) s₃) E s₂) E s₁) E s →
    wpAny (model prog w) A (compTurn e depth it acc env) Q E s
def bw0 (prog : Program) (w : World) (A : Around) (elt : Expr) (acc : Value) (env : Env) : BWT := fun E N s =>
  wpAny (model prog w) A (eval elt env) (fun x s' => wpAny (model prog w) A (call (.builtin "list.append") [acc, x]) (fun _ s'' => N s'') E s') E s
def bw1 (prog : Program) (w : World) (A : Around) (t elt : Expr) (acc : Value) (env : Env) : BWT := fun E N s =>
  wpAny (model prog w) A (isTrue t env (eval t env)) (fun ok s' => if ok = true then bw0 prog w A elt acc env E N s' else N s') E s
def bw2 (prog : Program) (w : World) (A : Around) (iter2 e : Expr) (acc : Value) (env : Env) : BWT := fun E N s =>
  wpAny (model prog w) A (eval iter2 env) (fun x s' => wpAny (model prog w) A (pyIter x) (fun it2 s'' =>
    codeAny (model prog w) A (.compStart e 1 it2 acc env) (fun r s3 => match r with | .ok _ => N s3 | .error x => cameBackBy (model prog w) A env E x s3) s'') E s') E s

theorem ct0 {elt target iter : Expr} {scope : Scope} {pos : Pos} {it acc : Value} {env : Env} : CT prog w A (.ListComp elt [⟨target, iter, [], 0⟩] scope pos) 0 it acc env target (bw0 prog w A elt acc env) := fun Q E s h => by
  have e : compTurn (.ListComp elt [⟨target, iter, [], 0⟩] scope pos) 0 it acc env = (standAt iter.pos >>= fun _ => pyNext it >>= fun r => match r with
      | none => pure (.done .next)
      | some v => letOwnedTupleGo target it v >>= fun _ => assign target env v >>= fun _ =>
        (eval elt env >>= fun x => call (.builtin "list.append") [acc, x] >>= fun _ => pure ()) >>= fun _ =>
          again (.compLoop (.ListComp elt [⟨target, iter, [], 0⟩] scope pos) 0 it acc env)) := by rfl
  rw [e]
  refine wpAny_bind (wpAny_standAt (wpAny_bind (wpAny_mono h (fun r s₁ h₁ => ?_) fun _ _ x => x)))
  cases r with
  | none => exact wpAny_pure h₁
  | some v => exact wpAny_bind (wpAny_mono h₁ (fun _ s₂ h₂ => wpAny_bind (wpAny_mono h₂ (fun _ s₃ h₃ => wpAny_bind (wpAny_bind (wpAny_mono h₃ (fun x s₄ h₄ => wpAny_bind (wpAny_mono h₄ (fun _ s₅ h₅ => wpAny_pure (wpAny_pure h₅)) fun _ _ x => x)) fun _ _ x => x))) fun _ _ x => x)) fun _ _ x => x)

theorem ct1 {elt target iter t : Expr} {scope : Scope} {pos : Pos} {it acc : Value} {env : Env} : CT prog w A (.ListComp elt [⟨target, iter, [t], 0⟩] scope pos) 0 it acc env target (bw1 prog w A t elt acc env) := fun Q E s h => by
  rw [compTurn_list]
  refine wpAny_bind (wpAny_standAt (wpAny_bind (wpAny_mono h (fun r s₁ h₁ => ?_) fun _ _ x => x)))
  cases r with
  | none => exact wpAny_pure h₁
  | some v =>
    refine wpAny_bind (wpAny_mono h₁ (fun _ s₂ h₂ => wpAny_bind (wpAny_mono h₂ (fun _ s₃ h₃ => ?_) fun _ _ x => x)) fun _ _ x => x)
    refine wpAny_bind (wpAny_mono (wpAny_tests_one h₃) (fun ok s₄ h₄ => ?_) fun _ _ x => x)
    cases ok with
    | false => exact wpAny_pure h₄
    | true => exact wpAny_bind (wpAny_bind (wpAny_mono h₄ (fun x s₄ h₄ => wpAny_bind (wpAny_mono h₄ (fun _ s₅ h₅ => wpAny_pure (wpAny_pure h₅)) fun _ _ x => x)) fun _ _ x => x))

theorem ct2 {elt target iter t2 iter2 : Expr} {scope : Scope} {pos : Pos} {it acc : Value} {env : Env} (hf : ∀ x, foldedSetIterable iter2 env x = pure x) : CT prog w A (.ListComp elt [⟨target, iter, [], 0⟩, ⟨t2, iter2, [], 0⟩] scope pos) 0 it acc env target
    (bw2 prog w A iter2 (.ListComp elt [⟨target, iter, [], 0⟩, ⟨t2, iter2, [], 0⟩] scope pos) acc env) := fun Q E s h => by
  have e : compTurn (.ListComp elt [⟨target, iter, [], 0⟩, ⟨t2, iter2, [], 0⟩] scope pos) 0 it acc env = (standAt iter.pos >>= fun _ => pyNext it >>= fun r => match r with
      | none => pure (.done .next)
      | some v => letOwnedTupleGo target it v >>= fun _ => assign target env v >>= fun _ =>
        (eval iter2 env >>= fun x => standAt iter2.pos >>= fun _ => foldedSetIterable iter2 env x >>= fun x => (holding [x] (pyIter x)) >>= fun it2 => runOwn (.compStart (.ListComp elt [⟨target, iter, [], 0⟩, ⟨t2, iter2, [], 0⟩] scope pos) 1 it2 acc env) env >>= fun _ =>
          again (.compLoop (.ListComp elt [⟨target, iter, [], 0⟩, ⟨t2, iter2, [], 0⟩] scope pos) 0 it acc env))) := by rfl
  rw [e]
  refine wpAny_bind (wpAny_standAt (wpAny_bind (wpAny_mono h (fun r s₁ h₁ => ?_) fun _ _ x => x)))
  cases r with
  | none => exact wpAny_pure h₁
  | some v =>
    refine wpAny_bind (wpAny_mono h₁ (fun _ s₂ h₂ => wpAny_bind (wpAny_mono h₂ (fun _ s₃ h₃ => ?_) fun _ _ x => x)) fun _ _ x => x)
    refine wpAny_bind (wpAny_mono h₃ (fun x s₄ h₄ => wpAny_bind (wpAny_standAt (wpAny_bind (wpAny_of_eq (hf x) (wpAny_bind (wpAny_holding (wpAny_mono h₄ (fun it2 s₅ h₅ => ?_) fun _ _ x => x))))))) fun _ _ x => x)
    refine wpAny_bind (wpAny_runOwn (codeAny_mono h₅ fun r s6 h6 => ?_))
    cases r with
    | ok f => exact wpAny_pure h6
    | error x => exact h6
theorem ct3 {elt target iter t2 iter2 : Expr} {scope : Scope} {pos : Pos} {it acc : Value} {env : Env} : CT prog w A (.ListComp elt [⟨target, iter, [], 0⟩, ⟨t2, iter2, [], 0⟩] scope pos) 1 it acc env t2 (bw0 prog w A elt acc env) := fun Q E s h => by
  have e : compTurn (.ListComp elt [⟨target, iter, [], 0⟩, ⟨t2, iter2, [], 0⟩] scope pos) 1 it acc env = (standAt iter2.pos >>= fun _ => pyNext it >>= fun r => match r with
      | none => pure (.done .next)
      | some v => letOwnedTupleGo t2 it v >>= fun _ => assign t2 env v >>= fun _ =>
        (eval elt env >>= fun x => call (.builtin "list.append") [acc, x] >>= fun _ => pure ()) >>= fun _ =>
          again (.compLoop (.ListComp elt [⟨target, iter, [], 0⟩, ⟨t2, iter2, [], 0⟩] scope pos) 1 it acc env)) := by rfl
  rw [e]
  refine wpAny_bind (wpAny_standAt (wpAny_bind (wpAny_mono h (fun r s₁ h₁ => ?_) fun _ _ x => x)))
  cases r with
  | none => exact wpAny_pure h₁
  | some v => exact wpAny_bind (wpAny_mono h₁ (fun _ s₂ h₂ => wpAny_bind (wpAny_mono h₂ (fun _ s₃ h₃ => wpAny_bind (wpAny_bind (wpAny_mono h₃ (fun x s₄ h₄ => wpAny_bind (wpAny_mono h₄ (fun _ s₅ h₅ => wpAny_pure (wpAny_pure h₅)) fun _ _ x => x)) fun _ _ x => x))) fun _ _ x => x)) fun _ _ x => x)

/-- the loop of a comprehension as turns -/
theorem comp_turns {elt : Expr} {gens : List Comprehension} {scope : Scope} {pos : Pos} {depth : Nat} {it acc : Value} {env : Env} {target : Expr} {BW : BWT} {R : Result → Shared → Prop} {s : Shared} (ct : CT prog w A (.ListComp elt gens scope pos) depth it acc env target BW) (I : Nat → Shared → Prop)
    (turn : ∀ n s E, I n s → wpAny (model prog w) A (pyNext it) (fun r s₁ => match r with
      | none => R (.ok .next) s₁
      | some v => wpAny (model prog w) A (letOwnedTupleGo target it v) (fun _ s₂ => wpAny (model prog w) A (assign target env v) (fun _ s₃ => BW E (fun s₄ => ∃ m, m < n ∧ I m s₄) s₃) E s₂) E s₁) E s)
    (n : Nat) (h : I n s) : codeAny (model prog w) A (.compLoop (.ListComp elt gens scope pos) depth it acc env) R s := by
  refine codeAny_loop rfl I (fun n s hI => ?_) n h
  show wpAny _ A ((compTurn (.ListComp elt gens scope pos) depth it acc env).onRaise (fun x => do noteFrame x env; theTreesLotGoes x)) _ _ s
  refine wpAny_noted (ct _ _ _ (wpAny_mono (turn n s _ hI) (fun r s₁ h₁ => ?_) fun _ _ x => x))
  cases r with
  | none => exact h₁
  | some v => exact wpAny_mono h₁ (fun _ s₂ h₂ => wpAny_mono h₂ (fun _ s₃ h₃ => by simpa using h₃) fun _ _ x => x) fun _ _ x => x

theorem comp_start1 {elt t1 iter1 t2 iter2 : Expr} {i1 i2 : List Expr} {scope : Scope} {pos : Pos} {it acc : Value} {env : Env} {R : Result → Shared → Prop} {s : Shared}
    (h0 : codeAny (model prog w) A (.compLoop (.ListComp elt [⟨t1, iter1, i1, 0⟩, ⟨t2, iter2, i2, 0⟩] scope pos) 1 it acc env) R s)
    (h : wpAny (model prog w) A (pyIter it) (fun it' s' => codeAny (model prog w) A (.compLoop (.ListComp elt [⟨t1, iter1, i1, 0⟩, ⟨t2, iter2, i2, 0⟩] scope pos) 1 it' acc env) R s') (notedBy (model prog w) A env fun x s' => R (.error x) s') s) :
    codeAny (model prog w) A (.compStart (.ListComp elt [⟨t1, iter1, i1, 0⟩, ⟨t2, iter2, i2, 0⟩] scope pos) 1 it acc env) R s := by
  refine codeAny_of_tree ?_
  show wpAny _ _ ((compStart (.ListComp elt [⟨t1, iter1, i1, 0⟩, ⟨t2, iter2, i2, 0⟩] scope pos) 1 it acc env).onRaise (fun x => do noteFrame x env; standAt theWindowsPlace)) _ _ s
  refine wpAny_notedAt ?_
  unfold compStart
  show wpAny _ _ (ask >>= _) _ _ s
  refine wpAny_bind (wpAny_askSetting (wpAny_ite ?_))
  split
  · first
      | exact wpAny_pure (And.intro rfl h0)
      | exact wpAny_bind (wpAny_pure (wpAny_pure (And.intro rfl h0)))
  · refine wpAny_bind (wpAny_rule ?_)
    show wpAny _ _ (standAt iter2.pos >>= _) _ _ s
    exact wpAny_bind (wpAny_standAt (wpAny_bind (wpAny_mono h (fun it' s' h' => wpAny_pure (And.intro rfl h')) fun _ _ x => x)))
end
end Mine
end
section
open PySem PySem.Calls PyProof.Rows
namespace Mine

def frees (sc : Scope) : List Str := (sc.names.filter fun p => p.2 == .free).map (·.1)
def inner (sc : Scope) (loc : List (Str × AV)) : List (Str × AV) := (frees sc).filterMap fun x => (loc.lookup x).map fun av => (x, av)
theorem inner_lookup {sc : Scope} {loc : List (Str × AV)} {x : Str} {av : AV} (h : (inner sc loc).lookup x = some av) : x ∈ frees sc ∧ loc.lookup x = some av := by
  have hm := mem_of_lookup h
  obtain ⟨y, hy, e⟩ := List.mem_filterMap.mp hm
  obtain ⟨bv, hb, e2⟩ := Option.map_eq_some_iff.mp e
  cases e2
  exact ⟨hy, hb⟩
def clo (env : Env) (fs : List Str) : List (Str × Addr) := (fs.map fun x => (x, (env.cells.lookup x).getD 0)).reverse
theorem clo_go {env : Env} (f : Str × NameKind → List (Str × Addr) → Sem (ForInStep (List (Str × Addr))))
    (hf : ∀ n k cs, f (n, k) cs = if k == .free then (do let a ← cellOf env n; pure (.yield ((n, a) :: cs))) else pure (.yield cs)) :
    ∀ (names : List (Str × NameKind)) (acc : List (Str × Addr)), (∀ x ∈ names, x.2 = .free → ∃ a, env.cells.lookup x.1 = some a) → forIn names acc f = pure (clo env ((names.filter fun p => p.2 == .free).map (·.1)) ++ acc)
  | [], acc, _ => by rw [List.forIn_nil]; rfl
  | (n, k) :: r, acc, h => by
    rw [List.forIn_cons, hf]
    by_cases hk : (k == NameKind.free) = true
    · obtain ⟨a, ha⟩ := h (n, k) List.mem_cons_self (by simpa using hk)
      have e : cellOf env n = pure a := by unfold cellOf; rw [ha]
      rw [if_pos hk, e, List.filter_cons_of_pos (by exact hk)]
      show forIn r ((n, a) :: acc) f = _
      rw [clo_go f hf r _ fun x hx => h x (List.mem_cons_of_mem _ hx)]
      simp [clo, ha]
    · rw [if_neg hk, List.filter_cons_of_neg (by exact hk)]
      show forIn r acc f = _
      rw [clo_go f hf r _ fun x hx => h x (List.mem_cons_of_mem _ hx)]
theorem closure_eq {env : Env} {scope : Scope} (h : ∀ x ∈ scope.names, x.2 = .free → ∃ a, env.cells.lookup x.1 = some a) : closureFor scope env = pure (clo env (frees scope)) := by
  simp only [closureFor]
  rw [clo_go (env := env) _ (fun n k cs => by cases hk : (k == NameKind.free) <;> simp [hk]) scope.names [] h]
  simp [frees]
theorem clo_mem {env : Env} {fs : List Str} {x : Str} {a : Addr} (h : (x, a) ∈ clo env fs) : x ∈ fs ∧ a = (env.cells.lookup x).getD 0 := by
  obtain ⟨y, hy, e⟩ := List.mem_map.mp (List.mem_reverse.mp h)
  cases e; exact ⟨hy, rfl⟩
theorem clo_lookup {env : Env} {fs : List Str} {x : Str} (h : x ∈ fs) : (clo env fs).lookup x = some ((env.cells.lookup x).getD 0) := by
  cases e : (clo env fs).lookup x with
  | none =>
    rw [List.lookup_eq_none_iff] at e
    have := e (x, (env.cells.lookup x).getD 0) (List.mem_reverse.mpr (List.mem_map.mpr ⟨x, h, rfl⟩))
    simp at this
  | some b => rw [(clo_mem (mem_of_lookup e)).2]
theorem clo_apart {env : Env} {fs : List Str} (hn : fs.Nodup) (hp : env.cells.Pairwise fun x y => x.2 ≠ y.2) (h : ∀ x ∈ fs, ∃ a, env.cells.lookup x = some a) : (clo env fs).Pairwise fun x y => x.2 ≠ y.2 := by
  unfold clo
  rw [List.pairwise_reverse, List.pairwise_map]
  refine hn.imp_of_mem fun {x y} hx hy hxy e => hxy ?_
  obtain ⟨a, ha⟩ := h x hx
  obtain ⟨b, hb⟩ := h y hy
  simp only [ha, hb, Option.getD_some] at e
  subst e
  exact name_of_addr hp (mem_of_lookup ha) (mem_of_lookup hb)
theorem cellsFrom_app : ∀ (names : List (Str × NameKind)) (n : Nat) (acc : List (Str × Addr)), cellsFrom n names acc = cellsFrom n names [] ++ acc
  | [], _, _ => rfl
  | (x, k) :: r, n, acc => by
    unfold cellsFrom
    split
    · rw [cellsFrom_app r (n + 1) ((x, n) :: acc), cellsFrom_app r (n + 1) [(x, n)]]; simp
    · exact cellsFrom_app r n acc
theorem cellsFrom_names : ∀ (names : List (Str × NameKind)) (n : Nat) (x : Str) (a : Addr), (x, a) ∈ cellsFrom n names [] → (x, NameKind.cell) ∈ names
  | [], _, _, _, h => by simp [cellsFrom] at h
  | (y, k) :: r, n, x, a, h => by
    unfold cellsFrom at h
    split at h
    · rename_i hk
      rw [cellsFrom_app] at h
      rcases List.mem_append.mp h with h | h
      · exact List.mem_cons_of_mem _ (cellsFrom_names r _ x a h)
      · rw [List.mem_singleton] at h; cases h
        have : k = .cell := by simpa using hk
        rw [this]; exact List.mem_cons_self
    · exact List.mem_cons_of_mem _ (cellsFrom_names r _ x a h)

section
variable {M : Model} {A : Around} {E : Value → Shared → Prop} {s : Shared} {env : Env}
abbrev nfeHeap (h : Heap) (scope : Scope) : Heap := pushCells (h.push { cls := .type "dict", data := .dict #[] }) scope.names
abbrev nfeCells (h : Heap) (scope : Scope) (env : Env) : List (Str × Addr) := cellsFrom (h.objs.size + 1) scope.names [] ++ clo env (frees scope)
theorem nfe {scope : Scope} {globals : Addr} {qual : Str} {Q : Env → Shared → Prop}
    (h : Q (newEnv scope s.heap.objs.size globals (nfeCells s.heap scope env) qual none .none (some env) builtinsNs) { s with heap := nfeHeap s.heap scope }) :
    wpAny M A (newFunctionEnv scope globals (clo env (frees scope)) [] qual none .none (some env)) Q E s := by
  simp only [newFunctionEnv, Option.isSome_some, if_true]
  refine wpAny_bind (wpAny_alloc ?_)
  refine wpAny_bind (wpAny_layCells _ (fun name kind cells => by cases hkc : kind == NameKind.cell <;> simp [hkc]) _ _ _ _ ?_)
  rw [show ({ s with heap := s.heap.push { cls := .type "dict", data := .dict #[] } } : Shared).heap.objs.size = s.heap.objs.size + 1 from Heap.size_push ..]
  rw [List.forIn_nil, cellsFrom_app]
  exact wpAny_bind (wpAny_pure (wpAny_pure h))
end

/-- the list that a comprehension fills -/
structure AccC (c : Cx) (D : Addr) : Prop where
  h : D ∈ c.hid
  b : c.g.B.get? D = none
def AccAt (c : Cx) (D : Addr) (own : Led) (ys : List AV) (h : Heap) : Prop := ∃ vs m, h.get? D = some (lobj vs m) ∧ IsVs (Fz own c.hid h) vs ys
def BSpec (c : Cx) (D : Addr) (BW : BWT) (σ : St) (ys : List AV) (K : St → List AV → Prop) : Prop :=
  ∀ s E N, Rel c σ s → AccAt c D σ.own ys s.heap → (∀ σ' ys' h' tk, K σ' ys' → Rel c σ' { s with heap := h', toks := tk } → Ste (D :: wslots c.env) σ.own s.heap σ'.own h' → AccAt c D σ'.own ys' h' → N { s with heap := h', toks := tk }) → BW E N s

section
variable {c : Cx} {σ : St} {D : Addr} {ys : List AV} {K : St → List AV → Prop}

theorem AccAt.step {σ' : St} {s : Shared} {h' : Heap} {S : List Addr} (R : Rel c σ s) (hD : AccC c D) (A : AccAt c D σ.own ys s.heap) (x : Ste S σ.own s.heap σ'.own h') (hS : ∀ a ∈ S, ∀ o, s.heap.get? a = some o → SeqO o → a ∈ c.hid) (hDS : D ∉ S) : AccAt c D σ'.own ys h' := by
  obtain ⟨vs, m, e, hv⟩ := A
  exact ⟨vs, m, x.chg D _ (fun m => R.hr.off D m hD.h) hDS e, hv.mono fun a o so p => x.fz hS a o so p⟩
theorem Rel.wHid {s : Shared} (R : Rel c σ s) : ∀ a ∈ wslots c.env, ∀ o, s.heap.get? a = some o → SeqO o → a ∈ c.hid := fun a m => R.lr.slotHid a (wsub m)
theorem AccC.offW {s : Shared} (R : Rel c σ s) (hD : AccC c D) : D ∉ wslots c.env := fun m => R.slotOffH D (wsub m) hD.h
theorem Ste.sub {S S' : List Addr} {o o' : Led} {s : Shared} {h' : Heap} (x : Ste S' o s.heap o' h') (sub : ∀ a ∈ S', a ∈ S) (hs : ∀ a ∈ S, ∃ ob, s.heap.get? a = some ob) : Ste S o s.heap o' h' := x.widen sub fun a m => .inr (hs a m)
theorem AccAt.there {h : Heap} {o : Led} (A : AccAt c D o ys h) : ∃ ob, h.get? D = some ob := by obtain ⟨vs, m, e, _⟩ := A; exact ⟨_, e⟩
theorem dThere {s : Shared} (R : Rel c σ s) (A : AccAt c D σ.own ys s.heap) : ∀ a ∈ D :: wslots c.env, ∃ ob, s.heap.get? a = some ob := fun a m => by
  rcases List.mem_cons.mp m with rfl | m
  · exact A.there
  · exact R.lr.slotThere a (wsub m)

theorem spec0 {elt : Expr} {e' : Env} (hD : AccC c D) (h : Ev c elt σ fun av σ' => ys.length ≤ 1000000 ∧ K σ' (ys ++ [av])) (he : e' = c.env := by rfl) : BSpec c D (bw0 c.g.prog c.g.w c.A elt (.ref D) e') σ ys K := fun s E N R A hN => by
  subst he
  refine h s _ E R fun v av σ₁ h₁ t₁ k₁ l₁ R₁ S₁ v₁ => ?_
  obtain ⟨vs, m, e, hv⟩ := A.step R hD S₁ (by simp) (by simp)
  refine wpAny_list_append_plain (items := vs.toArray) (by exact ⟨m, e⟩) (fun h' hp hs => ?_) (by rw [List.size_toArray, hv.length]; exact Nat.le_trans k₁.1 (by decide))
  obtain ⟨n, ep⟩ := hp
  have ep' : h'.get? D = some (lobj (vs ++ [v]) n) := by rw [ep]; simp
  have chg : ∀ a o, a ∉ [D] → h₁.get? a = some o → h'.get? a = some o := fun a o hn e => hs.extBut a o (by simpa using hn) e
  have S : Ste [D] σ₁.own h₁ σ₁.own h' := Ste.but chg
  have hSq : ∀ a ∈ [D], ∀ o, h₁.get? a = some o → SeqO o → a ∈ c.hid := fun a ha o _ _ => by rw [List.mem_singleton.mp ha]; exact hD.h
  have R' : Rel c σ₁ { s with heap := h', toks := t₁ } := ⟨R₁.ok, R₁.hr.step chg (fun a ha => by rw [List.mem_singleton.mp ha]; exact hD.b) hSq (fun a ha _ => by rw [List.mem_singleton.mp ha]; exact ⟨_, ep', SeqO.l⟩),
    LRel.step R₁ S rfl hSq (fun a ha m => by rw [List.mem_singleton.mp m] at ha; exact R₁.slotOffH D ha hD.h)⟩
  refine hN σ₁ _ h' t₁ k₁.2 R' ((S₁.wide (dThere R A)).trans (Ste.sub (s := { s with heap := h₁, toks := t₁ }) S (by simp) (dThere R₁ ⟨vs, m, e, hv⟩))) ⟨_, _, ep', ?_⟩
  exact (hv.mono fun a o so p => S.fz hSq a o so p).append (IsVs.one (IsV.mono (fun a o so p => S.fz hSq a o so p) v₁))

theorem BSpec.after {BW : BWT} {σ₁ : St} {s : Shared} {h₁ : Heap} {t₁ : Nat} {E : Value → Shared → Prop} {N : Shared → Prop} (hD : AccC c D) (R : Rel c σ s) (A : AccAt c D σ.own ys s.heap) (R₁ : Rel c σ₁ { s with heap := h₁, toks := t₁ }) (S₁ : Ste [] σ.own s.heap σ₁.own h₁)
    (hN : ∀ σ' ys' h' tk, K σ' ys' → Rel c σ' { s with heap := h', toks := tk } → Ste (D :: wslots c.env) σ.own s.heap σ'.own h' → AccAt c D σ'.own ys' h' → N { s with heap := h', toks := tk }) (b : BSpec c D BW σ₁ ys K) : BW E N { s with heap := h₁, toks := t₁ } :=
  b _ E N R₁ (A.step R hD S₁ (by simp) (by simp)) fun σ' ys' h' tk k' R' S' A' => hN σ' ys' h' tk k' R' ((S₁.wide (dThere R A)).trans S') A'
theorem spec1 {t elt : Expr} {e' : Env} (hD : AccC c D) (h : EvT c t σ fun b σ₁ => if b then BSpec c D (bw0 c.g.prog c.g.w c.A elt (.ref D) c.env) σ₁ ys K else K σ₁ ys) (he : e' = c.env := by rfl) : BSpec c D (bw1 c.g.prog c.g.w c.A t elt (.ref D) e') σ ys K := fun s E N R A hN => by
  subst he
  refine h s _ E R fun v b σ₁ h₁ t₁ k₁ l₁ R₁ S₁ v₁ => ?_
  subst v₁
  cases v with
  | false => exact hN σ₁ ys h₁ t₁ k₁ R₁ (S₁.wide (dThere R A)) (A.step R hD S₁ (by simp) (by simp))
  | true => exact BSpec.after hD R A R₁ S₁ hN k₁

/-- what was not there before is dropped -/
theorem Ste.drop {S wr : List Addr} {o0 o1 o2 : Led} {h0 h1 h2 : Heap} (S₁ : Ste S o0 h0 o1 h1) (x : Ste (wr ++ S) o1 h1 o2 h2) (hw : ∀ b ∈ wr, h0.get? b = Option.none) : Ste S o0 h0 o2 h2 := by
  refine ⟨fun a ob ha hs e => ?_, fun a m => ?_, fun a hs ⟨o, e⟩ => x.thr a (fun m => ?_) (S₁.thr a hs ⟨o, e⟩)⟩
  rotate_left 2
  · rcases List.mem_append.mp m with m | m
    · rw [hw a m] at e; cases e
    · exact hs m
  · refine x.chg a ob (fun m => ?_) (fun m => ?_) (S₁.chg a ob ha hs e)
    · rcases S₁.fresh a m with q | q
      · exact ha q
      · rw [q.1] at e; cases e
    · rcases List.mem_append.mp m with m | m
      · rw [hw a m] at e; cases e
      · exact hs m
  · rcases x.fresh a m with q | q
    · exact S₁.fresh a q
    · have hs : a ∉ S := fun ms => q.2 (List.mem_append.mpr (.inr ms))
      by_cases ha : a ∈ keys o0
      · exact .inl ha
      · refine .inr ⟨?_, hs⟩
        cases e : h0.get? a with
        | none => rfl
        | some ob => have := S₁.chg a ob ha hs e; rw [q.1] at this; cases this

/-- a step at whose end a part of what was hidden is seen again -/
def Cx.re (c : Cx) (hid : List Addr) : Cx := { c with hid := hid }
theorem Rel.stepShow {s : Shared} {h' : Heap} {tk : Nat} {S hid2 : List Addr} (R : Rel c σ s) (x : ∀ a o, a ∉ S → s.heap.get? a = some o → h'.get? a = some o) (hB : ∀ a ∈ S, c.g.B.get? a = Option.none) (hS : ∀ a ∈ S, ∀ o, s.heap.get? a = some o → SeqO o → a ∈ c.hid)
    (hw : ∀ a ∈ S, a ∉ slots c.env) (h2 : ∀ a ∈ hid2, a ∈ c.hid ∧ a ∉ S) : Rel (c.re hid2) σ { s with heap := h', toks := tk } := by
  have up : ∀ a o, SeqO o → Fz σ.own c.hid s.heap a o → Fz σ.own hid2 h' a o := fun a o so q =>
    ⟨x a o (fun m => q.2.2 (hS a m o q.1 so)) q.1, q.2.1, fun m => q.2.2 (h2 a m).1⟩
  have ks : ∀ a ∈ slots c.env, ∀ o, s.heap.get? a = some o → h'.get? a = some o := fun a m o e => x a o (fun m' => hw a m' m) e
  refine ⟨⟨R.ok.g, R.ok.rm, R.ok.ek, R.ok.eg, R.ok.eb, R.ok.ep, R.ok.el, R.ok.nb⟩, ⟨fun a o e => x a o (fun m => by rw [show Gl.B (Cx.g (c.re hid2)) = c.g.B from rfl, hB a m] at e; cases e) (R.hr.keep a o e), fun p hp => ?_, R.hr.nod, fun a m hm => R.hr.off a m (h2 a hm).1, R.hr.new, fun a m => ?_⟩, ?_, fun y a e => ?_, fun y av e => ?_⟩
  · obtain ⟨vs, n, e, hv⟩ := R.hr.led p hp
    exact ⟨vs, n, x _ _ (fun m => R.hr.off p.1 (List.mem_map.mpr ⟨p, hp, rfl⟩) (hS _ m _ e SeqO.l)) e, hv.mono up⟩
  · obtain ⟨o, e, so⟩ := R.hr.hx a (h2 a m).1
    exact ⟨o, x a o (h2 a m).2 e, so⟩
  · obtain ⟨m, hm⟩ := R.lr.ns
    exact ⟨m, hm.at' fun o e => ks _ List.mem_cons_self o e⟩
  · obtain ⟨v, o, e', hd⟩ := R.lr.cl y a e
    exact ⟨v, o, ks _ (slots_cell e) o e', hd⟩
  · obtain ⟨v, hv, sv⟩ := R.lr.loc y av e
    exact ⟨v, hv.mono up, sv.keep ks⟩

/-- the loop of a comprehension -/
theorem comp_loop {hid2 : List Addr} {elt : Expr} {gens : List Comprehension} {scope : Scope} {pos : Pos} {depth : Nat} {it : Value} {target : Expr} {BW : BWT} {R : Result → Shared → Prop} {σ₀ : St} {s : Shared} {ys₀ : List AV} {n : Nat} {item : Nat → AV} {hs wr fp : List Addr} {P₀ : Addr → Obj → Prop} {St' : Nat → Heap → Prop}
    (ct : CT c.g.prog c.g.w c.A (.ListComp elt gens scope pos) depth it (.ref D) c.env target BW) (src : Src c.g.prog c.g.w c.A P₀ target it hs wr fp n item St') (st0 : St' 0 s.heap) (val : ∀ a o, SeqO o → P₀ a o → Fz σ₀.own c.hid s.heap a o)
    (hB : ∀ b ∈ wr, c.g.B.get? b = none) (hsh : ∀ b ∈ hs, b ∈ c.hid) (hsw : ∀ b ∈ hs, b ∈ wr) (hwD : D ∉ wr) (hwS : ∀ b ∈ wr, b ∉ slots c.env)
    (fpo : ∀ b ∈ fp, (∃ o, s.heap.get? b = some o) ∧ b ∉ keys σ₀.own ∧ b ∉ slots c.env ∧ b ≠ D) (hD : AccC c D) (R0 : Rel c σ₀ s) (A0 : AccAt c D σ₀.own ys₀ s.heap) (hh2 : ∀ a ∈ hid2, a ∈ c.hid ∧ a ∉ wr)
    (Inv : Nat → St → List AV → Prop) (i0 : Inv 0 σ₀ ys₀)
    (turn : ∀ i σ ys, i < n → Inv i σ ys → AsT c target (item i) σ fun σ₂ => BSpec c D BW σ₂ ys fun σ₃ ys' => ∃ σ₄, Wk σ₃ σ₄ ∧ Inv (i + 1) σ₄ ys')
    (fin : ∀ σ ys h' tk, Inv n σ ys → Rel (c.re hid2) σ { s with heap := h', toks := tk } → Ste (wr ++ D :: wslots c.env) σ₀.own s.heap σ.own h' → AccAt (c.re hid2) D σ.own ys h' → R (.ok .next) { s with heap := h', toks := tk }) :
    codeAny (model c.g.prog c.g.w) c.A (.compLoop (.ListComp elt gens scope pos) depth it (.ref D) c.env) R s := by
  have there : ∀ {σ' : St} {s' : Shared} {ys : List AV} {i : Nat}, Rel c σ' s' → AccAt c D σ'.own ys s'.heap → St' i s'.heap → ∀ a ∈ wr ++ D :: wslots c.env, ∃ ob, s'.heap.get? a = some ob := fun R' A' st' a m => by
    rcases List.mem_append.mp m with m | m
    · exact src.thr _ _ st' a m
    · exact dThere R' A' a m
  have hSq : ∀ {σ' : St} {s' : Shared} {i : Nat}, Rel c σ' s' → St' i s'.heap → ∀ a ∈ wr ++ D :: wslots c.env, ∀ o, s'.heap.get? a = some o → SeqO o → a ∈ c.hid := fun R' st' a m o e q => by
    rcases List.mem_append.mp m with m | m
    · exact hsh a (src.wsq _ _ st' a m o e q)
    · rcases List.mem_cons.mp m with rfl | m
      · exact hD.h
      · exact R'.wHid a m o e q
  -- one pull of the iterator
  have pulled : ∀ {σ' : St} {s' : Shared} {h₂ : Heap} {t₂ : Nat} {i : Nat} {ys : List AV}, Rel c σ' s' → AccAt c D σ'.own ys s'.heap → St' i s'.heap → (∀ b o, b ∉ wr → s'.heap.get? b = some o → h₂.get? b = some o) → (∀ b ∈ hs, ∃ o, h₂.get? b = some o ∧ SeqO o) →
      Rel c σ' { s' with heap := h₂, toks := t₂ } ∧ Ste (wr ++ D :: wslots c.env) σ'.own s'.heap σ'.own h₂ ∧ AccAt c D σ'.own ys h₂ := fun {σ' s' h₂ t₂ i ys} R' A' st' chg hq => by
    have hsq2 : ∀ a ∈ wr, ∀ o, s'.heap.get? a = some o → SeqO o → a ∈ c.hid := fun a m o e q => hsh a (src.wsq _ _ st' a m o e q)
    have S2 : Ste wr σ'.own s'.heap σ'.own h₂ := Ste.but chg
    refine ⟨⟨R'.ok, R'.hr.step (S := wr) (fun a o hn e => chg a o hn e) hB hsq2 (fun a m mh => ?_), LRel.step R' S2 rfl hsq2 fun a ha m => hwS a m ha⟩, S2.widen (fun a m => List.mem_append.mpr (.inl m)) (fun a m => .inr (there R' A' st' a m)), A'.step R' hD S2 hsq2 hwD⟩
    obtain ⟨o, e, so⟩ := R'.hr.hx a mh
    exact hq a (src.wsq _ _ st' a m o e so)
  refine comp_turns ct (fun k s' => ∃ i σ' ys, k = n + 1 - i ∧ i ≤ n ∧ Inv i σ' ys ∧ Rel c σ' s' ∧ St' i s'.heap ∧ AccAt c D σ'.own ys s'.heap ∧ Ste (wr ++ D :: wslots c.env) σ₀.own s.heap σ'.own s'.heap ∧ ∃ h' tk, s' = { s with heap := h', toks := tk }) ?_ (n + 1)
    ⟨0, σ₀, ys₀, rfl, Nat.zero_le _, i0, R0, st0, A0, Ste.refl .., s.heap, s.toks, rfl⟩
  rintro k s' E ⟨i, σ', ys, rfl, hi, hI, R', st', A', S', h', tk, rfl⟩
  by_cases hlt : i < n
  · refine src.pull i _ _ _ _ _ hlt st' fun v h₂ t₂ st₂ chg iv => ?_
    obtain ⟨R2, S2', A2⟩ := pulled (t₂ := t₂) R' A' st' chg (fun b hb => src.hsq _ _ st₂ b hb)
    have iv' : IsV (Fz σ'.own c.hid h₂) v (item i) := by
      refine iv _ (fun a o q p => (S'.trans S2').fz (hSq R0 st0) a o q (val a o q p)) (fun a o en e => ⟨e, fun m => ?_, fun m => ?_⟩)
      · obtain ⟨vs, n, e'⟩ := R'.hr.seq m; rw [en] at e'; cases e'
      · obtain ⟨o', e', _⟩ := R'.hr.hx a m; rw [en] at e'; cases e'
    refine turn i σ' ys hlt hI { s with heap := h₂, toks := t₂ } v iv' _ _ R2 fun _ _ σ₃ h₃ t₃ k₃ R₃ S₃ _ => ?_
    have A3 := A2.step R2 hD S₃ R2.wHid (hD.offW R2)
    refine k₃ _ _ _ R₃ A3 fun σ₄ ys₄ h₄ t₄ k₄ R₄ S₄ A₄ => ?_
    obtain ⟨σ₅, w5, i5⟩ := k₄
    have S34 : Ste (D :: wslots c.env) σ'.own h₂ σ₄.own h₄ := (S₃.widen (fun a m => List.mem_cons_of_mem _ m) (fun a m => .inr (dThere R2 A2 a m))).trans S₄
    have Sall := (S'.trans S2').trans (S34.widen (fun a m => List.mem_append.mpr (.inr m)) (fun a m => .inr (there R2 A2 st₂ a m)))
    have st4 : St' (i + 1) h₄ := src.frame _ _ _ st₂ fun b hb o e => S34.chg b o (fun m => by
      obtain ⟨⟨o0, e0⟩, hk, _⟩ := fpo b hb
      rcases S'.fresh b m with q | q
      · exact hk q
      · rw [q.1] at e0; cases e0) (fun m => by
      rcases List.mem_cons.mp m with q | q
      · exact (fpo b hb).2.2.2 q
      · exact (fpo b hb).2.2.1 (wsub q)) e
    exact ⟨n + 1 - (i + 1), by lia, i + 1, σ₅, ys₄, rfl, hlt, i5, R₄.wk w5, st4, by rw [← w5.2]; exact A₄, by rw [← w5.2]; exact Sall, h₄, t₄, rfl⟩
  · have hin : i = n := Nat.le_antisymm hi (Nat.not_lt.mp hlt)
    subst hin
    refine wpAny_mono (src.done _ (fun s' => R (.ok .next) s') (fun _ _ => False) E st' fun h₂ t₂ chg => ?_) (fun r s₁ h₁ => ?_) fun _ _ x => x
    · have hsq2 : ∀ a ∈ wr, ∀ o, h'.get? a = some o → SeqO o → a ∈ c.hid := fun a m o e q => hsh a (src.wsq _ _ st' a m o e q)
      have S2 : Ste wr σ'.own h' σ'.own h₂ := Ste.but chg
      obtain ⟨vs, m, eD, hvD⟩ := A'
      refine fin σ' ys h₂ t₂ hI (R'.stepShow chg hB hsq2 hwS hh2) (S'.trans (S2.widen (fun a m => List.mem_append.mpr (.inl m)) (fun a m' => .inr (there R' ⟨vs, m, eD, hvD⟩ st' a m')))) ⟨vs, m, chg D _ hwD eD, hvD.mono fun a o so q => ⟨chg a o (fun m => q.2.2 (hsq2 a m o q.1 so)) q.1, q.2.1, fun m => q.2.2 (hh2 a m).1⟩⟩
    · cases r with
      | none => exact h₁
      | some v => exact h₁.elim

theorem spec2 {elt target iter t2 iter2 : Expr} {scope : Scope} {pos : Pos} {e' : Env} (hD : AccC c D)
    (h : EvI c t2 iter2 σ fun hs n item σ₁ => hs = [] ∧ ∃ Inv : Nat → St → List AV → Prop, (∃ σ₂, Wk σ₁ σ₂ ∧ Inv 0 σ₂ ys) ∧
      (∀ i σ ys, i < n → Inv i σ ys → AsT c t2 (item i) σ fun σ₂ => BSpec c D (bw0 c.g.prog c.g.w c.A elt (.ref D) c.env) σ₂ ys fun σ₃ ys' => ∃ σ₄, Wk σ₃ σ₄ ∧ Inv (i + 1) σ₄ ys') ∧ ∀ σ ys, Inv n σ ys → K σ ys) (he : e' = c.env := by rfl) :
    BSpec c D (bw2 c.g.prog c.g.w c.A iter2 (.ListComp elt [⟨target, iter, [], 0⟩, ⟨t2, iter2, [], 0⟩] scope pos) (.ref D) e') σ ys K := fun s E N R A hN => by
  subst he
  refine h s _ E R fun it n item σ₁ h₁ t₁ hs wr fp P₀ St' k₁ l₁ R₁ _ S₁ so => ?_
  obtain ⟨rfl, Inv, ⟨σ₂, w2, i0⟩, turn, fin⟩ := k₁
  have hB : ∀ b ∈ wr, c.g.B.get? b = Option.none := fun b hb => by
    cases e : c.g.B.get? b with
    | none => rfl
    | some o => have := R.hr.keep _ _ e; rw [so.new b hb] at this; cases this
  have hwD : D ∉ wr := fun m => by obtain ⟨ob, e⟩ := A.there; rw [so.new D m] at e; cases e
  have hwS : ∀ b ∈ wr, b ∉ slots c.env := fun b hb => slot_not_new R (so.new b hb)
  have A₁ := A.step R hD S₁ (by simp) (by simp)
  have hE : ∀ x s', False → cameBackBy (model c.g.prog c.g.w) c.A c.env E x s' := fun _ _ f => f.elim
  have loop := comp_loop (hid2 := c.hid) (R := fun r s3 => match r with | .ok _ => N s3 | .error x => cameBackBy (model c.g.prog c.g.w) c.A c.env E x s3) (σ₀ := σ₂) (s := { s with heap := h₁, toks := t₁ }) (ys₀ := ys) (ct3 (elt := elt) (target := target) (iter := iter) (t2 := t2) (iter2 := iter2) (scope := scope) (pos := pos) (it := it) (acc := .ref D) (env := c.env)) so.src so.st
    (fun a o q p => by rw [← w2.2]; simpa using so.val a o q p) hB (by simp) (by simp) hwD hwS (fun b hb => by
      obtain ⟨x, y, z⟩ := so.fpo b hb
      refine ⟨x, by rw [← w2.2]; exact y, z, fun e => ?_⟩
      subst e
      exact so.fph b hb hD.h) hD (R₁.wk w2) (by rw [← w2.2]; exact A₁) (fun a m => ⟨m, fun mw => by obtain ⟨o, e, _⟩ := R.hr.hx a m; rw [so.new a mw] at e; cases e⟩) Inv i0 turn
    (fun σf ysf h' tk hI R' S' A' => by
      refine hN σf ysf h' tk (fin σf ysf hI) R' ?_ A'
      have S1' : Ste (D :: wslots c.env) σ.own s.heap σ₁.own h₁ := S₁.wide (dThere R A)
      rw [← w2.2] at S'
      exact Ste.drop S1' S' so.new)
  refine comp_start1 (loop) ?_
  exact so.src.self 0 _ _ _ so.st loop
end
end Mine
end
section
open PySem PySem.Calls PyProof.Rows
namespace Mine

theorem relabel_lookup {scope : Scope} {env : Env} {x : Str} {k : NameKind} (hk : env.scope.kind = .function) (hf : k = .free → env.kindOf x = some .cell) (h : scope.names.lookup x = some k) : (relabel scope env).names.lookup x = some (fr k) := by
  unfold relabel
  show List.lookup x (scope.names.map _) = _
  generalize scope.names = names at h
  induction names with
  | nil => simp at h
  | cons p r ih =>
    obtain ⟨n, k'⟩ := p
    rw [List.map_cons]
    cases hx : x == n with
    | true =>
      simp only [List.lookup_cons, hx] at h
      cases h
      have e : x = n := by simpa using hx
      subst e
      by_cases hfree : k = .free
      · subst hfree
        simp [hk, hf rfl, fr]
      · have : (k == NameKind.free) = false := by simpa using hfree
        have e2 : fr k = k := by cases k <;> first | rfl | exact absurd rfl hfree
        simp [this, e2]
    | false =>
      simp only [List.lookup_cons, hx] at h
      dsimp only
      split <;> simp only [List.lookup_cons, hx] <;> exact ih h

theorem HRel.show {g : Gl} {own : Led} {hid hid' : List Addr} {h : Heap} (r : HRel g own hid' h) (sub : ∀ a ∈ hid, a ∈ hid') : HRel g own hid h :=
  ⟨r.keep, fun p hp => by
    obtain ⟨vs, n, e, hv⟩ := r.led p hp
    exact ⟨vs, n, e, hv.mono fun a o _ q => ⟨q.1, q.2.1, fun m => q.2.2 (sub a m)⟩⟩, r.nod, fun a m hm => r.off a m (sub a hm), r.new, fun a m => r.hx a (sub a m)⟩
theorem HRel.adopt {g : Gl} {own : Led} {hid : List Addr} {D : Addr} {h : Heap} {vs : List Value} {n : Nat} {ys : List AV} (r : HRel g own (D :: hid) h) (hD : D ∉ hid) (hB : g.B.get? D = none) (e : h.get? D = some (lobj vs n)) (hv : IsVs (Fz own (D :: hid) h) vs ys) : HRel g ((D, ys) :: own) hid h := by
  have up : ∀ b o, SeqO o → Fz own (D :: hid) h b o → Fz ((D, ys) :: own) hid h b o := fun b o _ q => ⟨q.1, fun m => by
    rw [keys_cons] at m
    rcases List.mem_cons.mp m with rfl | m
    · exact q.2.2 List.mem_cons_self
    · exact q.2.1 m, fun m => q.2.2 (List.mem_cons_of_mem _ m)⟩
  have hnk : D ∉ keys own := fun m => r.off D m List.mem_cons_self
  refine ⟨r.keep, fun p hp => ?_, ?_, fun a m hm => ?_, fun a m => ?_, fun a m => r.hx a (List.mem_cons_of_mem _ m)⟩
  · rcases List.mem_cons.mp hp with rfl | hp
    · exact ⟨vs, n, e, hv.mono up⟩
    · obtain ⟨ws, m, e', hw⟩ := r.led p hp
      exact ⟨ws, m, e', hw.mono up⟩
  · rw [keys_cons]; exact List.nodup_cons.mpr ⟨hnk, r.nod⟩
  · rw [keys_cons] at m
    rcases List.mem_cons.mp m with rfl | m
    · exact hD hm
    · exact r.off a m (List.mem_cons_of_mem _ hm)
  · rw [keys_cons] at m
    rcases List.mem_cons.mp m with rfl | m
    · exact hB
    · exact r.new a m

section
variable {c : Cx} {σ : St} {K : AV → St → Prop}

theorem comp_core {elt target iter : Expr} {ifs : List Expr} {rest : List Comprehension} {scope : Scope} {pos : Pos} {use : Option (Value → Sem Unit)} {names : List (Str × NameKind)} {BW : Value → Env → BWT} {s : Shared} {Q E : Value → Shared → Prop}
    (ct : ∀ it acc env, CT c.g.prog c.g.w c.A (.ListComp elt (⟨target, iter, ifs, 0⟩ :: rest) scope pos) 0 it acc env target (BW acc env))
    (hkc : Kinds c.env names) (hfr : ∀ x ∈ frees scope, names.lookup x = some .cell ∨ names.lookup x = some .free) (hnd : (frees scope).Nodup) (hkind : scope.kind = .function) (hnames : ∀ p ∈ scope.names, scope.names.lookup p.1 = some p.2)
    (h : EvI c target iter σ fun hs n item σ₁ => ∃ (L : List (Str × AV)) (Inv : Nat → Led → List AV → Prop), inner scope σ₁.loc = L ∧ Inv 0 σ₁.own [] ∧
      (∀ (c' : Cx) (D : Addr) (i : Nat) (own : Led) (ys : List AV), c'.g = c.g → c'.n = c.n → c'.A = c.A → Kinds c'.env scope.names → AccC c' D → i < n → Inv i own ys →
        AsT c' target (item i) ⟨L, own⟩ fun σ₂ => BSpec c' D (BW (.ref D) c'.env) σ₂ ys fun σ₃ ys' => Wk σ₃ ⟨L, σ₃.own⟩ ∧ Inv (i + 1) σ₃.own ys') ∧ ∀ own ys, Inv n own ys → New K ⟨σ₁.loc, own⟩ ys)
    (hs : ∀ x, foldedSetIterable iter c.env x = pure x) (R : Rel c σ s)
    (post : ∀ acc av σ' h' tk C m, K av σ' → σ'.loc = σ.loc → Rel c σ' { s with heap := h', toks := tk } → Ste [] σ.own s.heap σ'.own h' → IsV (Fz σ'.own c.hid h') acc av → Heap.Ns h' C m → s.heap.get? C = none →
      compPost (model c.g.prog c.g.w) c.A E use Q acc C (.ok .next) { s with heap := h', toks := tk }) :
    wpAny (model c.g.prog c.g.w) c.A (comprehension (.ListComp elt (⟨target, iter, ifs, 0⟩ :: rest) scope pos) scope c.env iter.pos (newList []) false (eval iter c.env) use) Q E s := by
  have free_of : ∀ x ∈ frees scope, scope.names.lookup x = some .free := fun x hx => by
    obtain ⟨p, hp, rfl⟩ := List.mem_map.mp hx
    obtain ⟨hp, hf⟩ := List.mem_filter.mp hp
    rw [hnames p hp]; simpa using hf
  have to_free : ∀ x, scope.names.lookup x = some .free → x ∈ frees scope := fun x hx =>
    List.mem_map.mpr ⟨(x, .free), List.mem_filter.mpr ⟨mem_of_lookup hx, rfl⟩, rfl⟩
  have okind : ∀ x ∈ frees scope, c.env.kindOf x = some .cell := fun x hx => (hfr x hx).elim (fun e => hkc.k x _ e) fun e => hkc.k x _ e
  have ocell : ∀ x ∈ frees scope, ∃ a, c.env.cells.lookup x = some a := fun x hx => (hfr x hx).elim (fun e => (hkc.c x e).imp fun _ q => q.1) fun e => hkc.f x e
  have hclos : closureFor scope c.env = pure (clo c.env (frees scope)) := closure_eq fun p hp hf => ocell _ (to_free _ (by rw [hnames p hp, hf]))
  refine wpAny_comprehension_free (use := use) rfl hs hclos hkind (fun x hx hl => by rw [hnames x hx, hl]) ?_
  refine h s _ _ R fun it n item σ₁ h₁ t₁ hs wr fp P₀ St' k₁ l₁ R₁ RH S₁ so => ?_
  obtain ⟨L, Inv, hL, i0, turn, fin⟩ := k₁
  refine wpAny_newObj_type (hd := by size_fits) (nfe ?_)
  show codeAny _ _ _ _ _
  generalize hH2 : (h₁.push { cls := .type "list", dict := Option.none, data := .seq ([] : List Value).toArray } : Heap) = H2
  have hDsz : H2.objs.size = h₁.objs.size + 1 := by rw [← hH2, Heap.size_push]
  have g12 : ∀ a ob, h₁.get? a = some ob → H2.get? a = some ob := fun a ob e => hH2 ▸ Heap.get?_push_of_some _ e
  have g23 : ∀ a ob, H2.get? a = some ob → (nfeHeap H2 scope).get? a = some ob := fun a ob e => pushCells_keeps _ _ _ _ (Heap.get?_push_of_some _ e)
  have g13 : ∀ a ob, h₁.get? a = some ob → (nfeHeap H2 scope).get? a = some ob := fun a ob e => g23 _ _ (g12 _ _ e)
  obtain ⟨D, hDe⟩ : ∃ D, D = h₁.objs.size := ⟨_, rfl⟩
  obtain ⟨C, hCe⟩ : ∃ C, C = H2.objs.size := ⟨_, rfl⟩
  have fresh1 : ∀ a, @LE.le Nat _ h₁.objs.size a → h₁.get? a = Option.none := fun a ha => by
    cases e : h₁.get? a with
    | none => rfl
    | some o => exact absurd (Heap.lt_size e) (Nat.not_lt.mpr ha)
  have hDn : h₁.get? D = Option.none := fresh1 D (by rw [hDe]; exact Nat.le_refl _)
  have hCn : h₁.get? C = Option.none := fresh1 C (by rw [hCe, hDsz]; exact Nat.le_succ _)
  have hDC : D ≠ C := by rw [hDe, hCe, hDsz]; exact Nat.ne_of_lt (Nat.lt_succ_self _)
  have cok := cellsFrom_ok scope.names (H2.push { cls := .type "dict", data := .dict #[] }) (H2.objs.size + 1) [] ⟨fun _ _ hm => (nomatch hm), List.Pairwise.nil⟩ (by rw [Heap.size_push]; exact Nat.le_refl _)
  rw [Heap.size_push] at cok
  have ownC : ∀ x a, (x, a) ∈ cellsFrom (H2.objs.size + 1) scope.names [] → (nfeHeap H2 scope).IsCell a Option.none ∧ @LT.lt Nat _ C a := fun x a hm => by
    have q := cok.empty x a hm
    exact ⟨q.1, by rw [hCe]; exact q.2⟩
  have cloC : ∀ x a, (x, a) ∈ clo c.env (frees scope) → x ∈ frees scope ∧ c.env.cells.lookup x = some a := fun x a hm => by
    obtain ⟨q1, q2⟩ := clo_mem hm
    obtain ⟨b, hb⟩ := ocell x q1
    exact ⟨q1, by rw [q2, hb]; rfl⟩
  have cloLt : ∀ x a, (x, a) ∈ clo c.env (frees scope) → @LT.lt Nat _ a h₁.objs.size := fun x a hm => by
    obtain ⟨v, o, e, _⟩ := R₁.lr.cl x a (cloC x a hm).2
    exact Heap.lt_size e
  let env' : Env := { newEnv scope H2.objs.size c.env.globals (nfeCells H2 scope c.env) c.env.qual none .none (some c.env) builtinsNs with scope := relabel scope c.env }
  have lk : ∀ x a, env'.cells.lookup x = some a → (x, a) ∈ cellsFrom (H2.objs.size + 1) scope.names [] ∨ (x, a) ∈ clo c.env (frees scope) := fun x a e => List.mem_append.mp (mem_of_lookup e)
  have lkFree : ∀ x ∈ frees scope, ∀ a, c.env.cells.lookup x = some a → env'.cells.lookup x = some a := fun x hx a ha => by
    show (cellsFrom (H2.objs.size + 1) scope.names [] ++ clo c.env (frees scope)).lookup x = some a
    rw [List.lookup_append]
    have : (cellsFrom (H2.objs.size + 1) scope.names []).lookup x = Option.none := by
      cases e : (cellsFrom (H2.objs.size + 1) scope.names []).lookup x with
      | none => rfl
      | some b =>
        have q := hnames _ (cellsFrom_names _ _ _ _ (mem_of_lookup e))
        have q' := free_of x hx
        simp only at q
        rw [q] at q'; cases q'
    rw [this, clo_lookup hx, ha]; rfl
  let c' : Cx := ⟨c.g, c.A, c.n, env', D :: (hs ++ c.hid)⟩
  have slN : ∀ a ∈ slots env', a = C ∨ @LT.lt Nat _ C a ∨ ∃ x ∈ frees scope, c.env.cells.lookup x = some a := fun a ha => by
    rcases slots_cases ha with e | ⟨x, hx⟩
    · exact .inl (by rw [e, hCe]; rfl)
    · rcases lk x a hx with q | q
      · exact .inr (.inl (ownC x a q).2)
      · exact .inr (.inr ⟨x, cloC x a q⟩)
  have hbig : ∀ a, @LT.lt Nat _ C a → h₁.get? a = Option.none := fun a ha => fresh1 a (by rw [hCe, hDsz] at ha; lia)
  have noB : ∀ a, h₁.get? a = Option.none → c.g.B.get? a = Option.none := fun a ha => by
    cases e : c.g.B.get? a with
    | none => rfl
    | some o => have := R₁.hr.keep _ _ e; rw [show Shared.heap { s with heap := h₁, toks := t₁ } = h₁ from rfl, ha] at this; cases this
  have ck : c'.Ok := by
    refine ⟨R.ok.g, R.ok.rm, hkind, R.ok.eg, R.ok.eb, ?_, fun x e => ?_, fun a ha => ?_⟩
    · refine List.pairwise_append.mpr ⟨cok.apart, clo_apart hnd R.ok.ep ocell, fun p hp q hq e => ?_⟩
      have l1 := (ownC p.1 p.2 hp).2
      have l2 := cloLt q.1 q.2 hq
      rw [hCe, hDsz] at l1
      rw [e] at l1
      exact absurd (Nat.lt_trans l1 l2) (Nat.not_lt.mpr (Nat.le_succ _))
    · have e' : env'.cells.lookup x = some C := by rw [hCe]; exact e
      rcases lk x C e' with q | q
      · exact absurd (ownC x C q).2 (Nat.lt_irrefl _)
      · have := cloLt x C q; rw [hCe, hDsz] at this; exact absurd this (Nat.not_lt.mpr (Nat.le_succ _))
    · rcases slN a ha with rfl | q | ⟨x, hx, e⟩
      · exact noB _ hCn
      · exact noB _ (hbig a q)
      · exact R.ok.nb a (slots_cell e)
  have hDget : (nfeHeap H2 scope).get? D = some (lobj [] 0) := g23 _ _ (by rw [hDe, ← hH2]; exact Heap.get?_push_size _ rfl)
  have hidOk : HRel c.g σ₁.own (D :: (hs ++ c.hid)) (nfeHeap H2 scope) := by
    have := RH.hr.hide (hs := [D]) (h' := nfeHeap H2 scope) g13 (fun b hb => by rw [List.mem_singleton.mp hb]; exact hDn) (fun b hb => by rw [List.mem_singleton.mp hb]; exact ⟨_, hDget, SeqO.l⟩)
    exact this
  have RI : Rel c' ⟨L, σ₁.own⟩ { s with heap := nfeHeap H2 scope, toks := t₁ } := by
    refine ⟨ck, hidOk, ⟨_, (Heap.Ns.new H2 (.type "dict")).keeps (pushCells_keeps _ _)⟩, fun x a e => ?_, fun x av e => ?_⟩
    · rcases lk x a e with q | q
      · exact ⟨_, (ownC x a q).1⟩
      · obtain ⟨v, hv⟩ := R₁.lr.cl x a (cloC x a q).2
        exact ⟨v, hv.keeps g13⟩
    · rw [show St.loc ⟨L, σ₁.own⟩ = L from rfl, ← hL] at e
      obtain ⟨hx, e⟩ := inner_lookup e
      obtain ⟨v, hv, sv⟩ := RH.lr.loc x av e
      refine ⟨v, hv.mono fun a o so q => Fz.hide (hs := [D]) g13 (fun b hb => by rw [List.mem_singleton.mp hb]; exact hDn) a o so q, ?_⟩
      rcases sv with ⟨hk, _⟩ | ⟨_, a, ha, hcell⟩
      · have hk' : c.env.kindOf x = some .local := hk
        rw [okind x hx] at hk'; cases hk'
      · exact .inr ⟨.inl (relabel_lookup R.ok.ek (fun _ => okind x hx) (free_of x hx)), a, lkFree x hx a ha, hcell.keeps g13⟩
  have kd : Kinds c'.env scope.names := by
    refine ⟨fun x k e => relabel_lookup R.ok.ek (fun hf => okind x (to_free x (by rw [e, hf]))) e, fun x e => ?_, fun x e => ?_⟩
    · have q := PySem.W.cellsFrom_some scope.names (H2.objs.size + 1) [] (.inl e)
      obtain ⟨a, ha⟩ := Option.isSome_iff_exists.mp q
      refine ⟨a, ?_, ?_⟩
      · show (cellsFrom (H2.objs.size + 1) scope.names [] ++ clo c.env (frees scope)).lookup x = some a
        rw [List.lookup_append, ha]; rfl
      · have := (ownC x a (mem_of_lookup ha)).2
        rw [hCe] at this; exact this
    · obtain ⟨a, ha⟩ := ocell x (to_free x e)
      exact ⟨a, lkFree x (to_free x e) a ha⟩
  have aD : AccC c' D := ⟨List.mem_cons_self, noB D hDn⟩
  have aA : AccAt c' D σ₁.own [] (nfeHeap H2 scope) := ⟨[], 0, hDget, .nil⟩
  have st1 : St' 0 (nfeHeap H2 scope) := so.src.frame _ _ _ so.st fun b _ o e => g13 _ _ e
  have new0 : ∀ a, h₁.get? a = Option.none → s.heap.get? a = Option.none := fun a ha => S₁.none (by simp) ha
  have wrB : ∀ b ∈ wr, c.g.B.get? b = Option.none := fun b hb => by
    cases e : c.g.B.get? b with
    | none => rfl
    | some o => have := R.hr.keep _ _ e; rw [so.new b hb] at this; cases this
  have wrT : ∀ b ∈ wr, ∃ o, h₁.get? b = some o := fun b hb => so.src.thr _ _ so.st b hb
  have ns13 : ∀ {b : Addr}, (∃ o, h₁.get? b = some o) → b ∉ slots c.env → b ∉ slots env' := fun {b} ⟨o, e⟩ hn m => by
    rcases slN b m with rfl | q | ⟨x, hx, e'⟩
    · rw [hCn] at e; cases e
    · rw [hbig b q] at e; cases e
    · exact hn (slots_cell e')
  have loop := comp_loop (hid2 := D :: c.hid) (c := c') (D := D) (R := compPost (model c.g.prog c.g.w) c.A E use Q (.ref D) C) (σ₀ := ⟨L, σ₁.own⟩) (s := { s with heap := nfeHeap H2 scope, toks := t₁ }) (ys₀ := []) (ct it (.ref D) env') so.src st1
    (fun a o q p => Fz.hide (hs := [D]) g13 (fun b hb => by rw [List.mem_singleton.mp hb]; exact hDn) a o q (so.val a o q p)) wrB (fun b hb => List.mem_cons_of_mem _ (List.mem_append.mpr (.inl hb))) so.hsw
    (fun m => by obtain ⟨o, e⟩ := wrT D m; rw [hDn] at e; cases e) (fun b hb => ns13 (wrT b hb) (slot_not_new R (so.new b hb)))
    (fun b hb => by
      obtain ⟨⟨o, e⟩, y, z⟩ := so.fpo b hb
      exact ⟨⟨o, g13 _ _ e⟩, y, ns13 ⟨o, e⟩ z, fun q => by subst q; rw [hDn] at e; cases e⟩) aD RI aA
    (fun a m => by
      rcases List.mem_cons.mp m with rfl | m
      · exact ⟨List.mem_cons_self, fun mw => by obtain ⟨o, e⟩ := wrT a mw; rw [hDn] at e; cases e⟩
      · exact ⟨List.mem_cons_of_mem _ (List.mem_append.mpr (.inr m)), fun mw => by obtain ⟨o, e, _⟩ := R.hr.hx a m; rw [so.new a mw] at e; cases e⟩)
    (fun i σ' ys => σ'.loc = L ∧ Inv i σ'.own ys) ⟨rfl, i0⟩
    (fun i σ' ys hlt hI => by
      obtain ⟨l', own'⟩ := σ'
      obtain ⟨rfl, hI⟩ := hI
      intro s' v iv Q' E' R' hQ'
      refine turn c' D i own' ys rfl rfl rfl kd aD hlt hI s' v iv Q' E' R' fun v b σ'' h' tk k' => hQ' v b σ'' h' tk ?_
      intro s'' E'' N'' R'' A'' hN''
      refine k' s'' E'' N'' R'' A'' fun σ4 ys4 h4 t4 k4 => hN'' σ4 ys4 h4 t4 ⟨_, k4.1, rfl, k4.2⟩)
    (fun σf ys h' tk hI R' S' A' => by
      obtain ⟨lf, of'⟩ := σf
      obtain ⟨rfl, hI⟩ := hI
      have hW : ∀ a ∈ wslots env', a = C ∨ @LT.lt Nat _ C a := fun a m => by
        rcases List.mem_cons.mp m with e | m
        · exact .inl (by rw [e, hCe]; rfl)
        · have := (List.mem_filter.mp m).2
          exact .inr (by rw [hCe]; exact of_decide_eq_true this)
      have T : Ste [] σ.own s.heap of' h' := by
        have g : Ste [] σ.own s.heap σ₁.own (nfeHeap H2 scope) := S₁.trans (Ste.grow g13)
        refine Ste.drop (wr := wr ++ D :: wslots env') g (by simpa using S') fun b hb => ?_
        rcases List.mem_append.mp hb with hb | hb
        · exact so.new b hb
        · rcases List.mem_cons.mp hb with rfl | hb
          · exact new0 _ hDn
          · rcases hW b hb with rfl | q
            · exact new0 _ hCn
            · exact new0 _ (hbig b q)
      obtain ⟨mC, hnC⟩ := R'.lr.ns
      have hnC' : Heap.Ns h' C mC := by rw [hCe]; exact hnC
      have hDh : D ∉ hs ++ c.hid := fun m => by obtain ⟨o, e, _⟩ := RH.hr.hx D m; rw [show Shared.heap { s with heap := h₁, toks := t₁ } = h₁ from rfl, hDn] at e; cases e
      have H0 : HRel c.g of' c.hid h' := R'.hr.show (hid := c.hid) fun a m => List.mem_cons_of_mem _ m
      obtain ⟨vs, m, eD, hvD⟩ := A'
      rcases fin of' ys hI with k | k
      · refine post (.ref D) (.lst ys) ⟨σ₁.loc, of'⟩ h' tk C mC k l₁ ⟨R.ok, H0, LRel.stepE R T l₁⟩ T (.lst ⟨eD, fun m => R'.hr.off D m List.mem_cons_self, fun m => hDh (List.mem_append.mpr (.inr m))⟩ (hvD.mono fun a o _ q => ⟨q.1, q.2.1, fun m => q.2.2 (List.mem_cons_of_mem _ m)⟩)) hnC' (new0 _ hCn)
      · have T' : Ste [] σ.own s.heap ((D, ys) :: of') h' := ⟨T.chg, fun a m => by
          rw [keys_cons] at m
          rcases List.mem_cons.mp m with rfl | m
          · exact .inr ⟨new0 _ hDn, by simp⟩
          · exact T.fresh a m, T.thr⟩
        have H1 : HRel c.g ((D, ys) :: of') c.hid h' := HRel.adopt (hid := c.hid) R'.hr (fun m => hDh (List.mem_append.mpr (.inr m))) aD.b eD hvD
        exact post (.ref D) (.own D) ⟨σ₁.loc, (D, ys) :: of'⟩ h' tk C mC (k D) l₁ ⟨R.ok, H1, LRel.stepE R T' l₁⟩ T' (.own D) hnC' (new0 _ hCn))
  subst hDe
  subst hCe
  refine codeAny_compStart_list loop (so.src.self 0 _ _ _ st1 ?_)
  exact loop

/-- what a comprehension does in the abstract -/
def CompK (c : Cx) (target : Expr) (scope : Scope) (BW : Value → Env → BWT) (K : AV → St → Prop) (n : Nat) (item : Nat → AV) (σ₁ : St) : Prop :=
  ∃ (L : List (Str × AV)) (Inv : Nat → Led → List AV → Prop), inner scope σ₁.loc = L ∧ Inv 0 σ₁.own [] ∧
      (∀ (c' : Cx) (D : Addr) (i : Nat) (own : Led) (ys : List AV), c'.g = c.g → c'.n = c.n → c'.A = c.A → Kinds c'.env scope.names → AccC c' D → i < n → Inv i own ys →
        AsT c' target (item i) ⟨L, own⟩ fun σ₂ => BSpec c' D (BW (.ref D) c'.env) σ₂ ys fun σ₃ ys' => Wk σ₃ ⟨L, σ₃.own⟩ ∧ Inv (i + 1) σ₃.own ys') ∧ ∀ own ys, Inv n own ys → New K ⟨σ₁.loc, own⟩ ys

/-- the namespace that is let go is none of ours -/
theorem Rel.letgo {σ' : St} {s : Shared} {h' h'' : Heap} {tk : Nat} {C : Addr} {m : Str → Option Value} {S : List Addr} {o0 : Led} {h0 : Heap} (R' : Rel c σ' { s with heap := h', toks := tk }) (T : Ste S o0 h0 σ'.own h') (hS : ∀ a ∈ S, ∃ ob, h'.get? a = some ob) (hn : Heap.Ns h' C m) (hC : h0.get? C = Option.none) (hsl : ∀ a ∈ slots c.env, ∃ ob, h0.get? a = some ob) (hB : c.g.B.get? C = Option.none) (hs : Heap.SameBut C h' h'') :
    Rel c σ' { s with heap := h'', toks := tk } ∧ Ste S o0 h0 σ'.own h'' ∧ ∀ {v x}, IsV (Fz σ'.own c.hid h') v x → IsV (Fz σ'.own c.hid h'') v x := by
  obtain ⟨o, es, ep, e, hd, _⟩ := hn
  have chg : ∀ a o, a ∉ [C] → h'.get? a = some o → h''.get? a = some o := fun a o hn e => hs.extBut a o (by simpa using hn) e
  have hSq : ∀ a ∈ [C], ∀ o, h'.get? a = some o → SeqO o → a ∈ c.hid := fun a ha o' e' so => by
    rw [List.mem_singleton.mp ha, e] at e'; cases e'; exact absurd so (not_seq_dict hd)
  have nh : C ∉ c.hid := fun m => by obtain ⟨o', e', so⟩ := R'.hr.hx C m; rw [show Shared.heap { s with heap := h', toks := tk } = h' from rfl, e] at e'; cases e'; exact not_seq_dict hd so
  have S1 : Ste [C] σ'.own h' σ'.own h'' := Ste.but chg
  refine ⟨⟨R'.ok, R'.hr.step chg (fun a ha => by rw [List.mem_singleton.mp ha]; exact hB) hSq (fun a ha m => absurd m (by rw [List.mem_singleton.mp ha]; exact nh)),
    LRel.step R' S1 rfl hSq fun a ha m => ?_⟩, Ste.drop T (S1.widen (fun a m => List.mem_append.mpr (.inl m)) fun a m => ?_) (fun b hb => by rw [List.mem_singleton.mp hb]; exact hC), fun iv => S1.keepV hSq iv⟩
  · rw [List.mem_singleton.mp m] at ha; obtain ⟨ob, q⟩ := hsl _ ha; rw [hC] at q; cases q
  · rcases List.mem_append.mp m with m | m
    · exact .inl m
    · exact .inr (hS a m)

theorem ev_comp {elt target iter : Expr} {ifs : List Expr} {rest : List Comprehension} {scope : Scope} {pos : Pos} {names : List (Str × NameKind)} {BW : Value → Env → BWT}
    (hkc : Kinds c.env names) (ct : ∀ it acc env, CT c.g.prog c.g.w c.A (.ListComp elt (⟨target, iter, ifs, 0⟩ :: rest) scope pos) 0 it acc env target (BW acc env))
    (h : EvI c target iter σ fun _ n item σ₁ => CompK c target scope BW K n item σ₁)
    (hfr : ∀ x ∈ frees scope, names.lookup x = some .cell ∨ names.lookup x = some .free := by decide) (hnd : (frees scope).Nodup := by decide) (hkind : scope.kind = .function := by rfl) (hnames : ∀ p ∈ scope.names, scope.names.lookup p.1 = some p.2 := by decide)
    (hs : ∀ x, foldedSetIterable iter c.env x = pure x := by intro _; rfl) : Ev c (.ListComp elt (⟨target, iter, ifs, 0⟩ :: rest) scope pos) σ K :=
  fun s Q E R hQ => by
    rw [eval_ListComp]
    refine comp_core ct hkc hfr hnd hkind hnames h hs R fun acc av σ' h' tk C m k l R' T iv hn hC => ⟨m, hn, fun h'' sb => ?_⟩
    obtain ⟨R2, T2, up⟩ := R'.letgo T (by simp) hn hC R.lr.slotThere (by
      cases e : c.g.B.get? C with
      | none => rfl
      | some o => have := R.hr.keep _ _ e; rw [hC] at this; cases this) sb
    exact hQ acc av σ' h'' tk k l R2 T2 (up iv)

theorem swaps_local {env : Env} {elt : Expr} {gens : List Comprehension} {scope : Scope} {pos px : Pos} {x : Str} {ln : Nat} (hk : env.scope.kind = .function) (hx : env.kindOf x = some .local) (hl : (px.line == pos.line) = true) (hn : (scope.names.any fun p => p.1 == x && (p.2 == .local || p.2 == .cell)) = false) :
    swapsWith (.ListComp elt gens scope pos) (some (.Name x px)) ln env = pure true := by
  have e : swapsWith (.ListComp elt gens scope pos) (some (.Name x px)) ln env = pure (env.blockKind == .function && env.kindOf x == some .local && px.line == (Expr.ListComp elt gens scope pos).pos.line && !(scope.names.any fun (n, k) => n == x && (k == .local || k == .cell))) := rfl
  rw [e, hx, show (Expr.ListComp elt gens scope pos).pos = pos from rfl, hl, show Env.blockKind env = .function by simp [Env.blockKind, hk, ScopeKind.isAnnotationScope], show (scope.names.any fun (n, k) => n == x && (k == .local || k == .cell)) = false from hn]
  rfl
theorem swaps_cell {env : Env} {elt : Expr} {gens : List Comprehension} {scope : Scope} {pos px : Pos} {x : Str} {ln : Nat} (hx : env.kindOf x = some .cell) : swapsWithSole [.Name x px] (.ListComp elt gens scope pos) ln env = pure false := by
  have e : swapsWithSole [.Name x px] (.ListComp elt gens scope pos) ln env = pure (env.blockKind == .function && env.kindOf x == some .local && px.line == (Expr.ListComp elt gens scope pos).pos.line && !(scope.names.any fun (n, k) => n == x && (k == .local || k == .cell))) := rfl
  rw [e, hx, show ((some NameKind.cell : Option NameKind) == some .local) = false from rfl, Bool.and_false, Bool.false_and, Bool.false_and]

theorem ex_assign_comp {KF : Fl → St → Prop} {x : Str} {px : Pos} {elt target iter : Expr} {ifs : List Expr} {rest : List Comprehension} {scope : Scope} {pos spos : Pos} {names : List (Str × NameKind)} {BW : Value → Env → BWT}
    (hkc : Kinds c.env names) (ct : ∀ it acc env, CT c.g.prog c.g.w c.A (.ListComp elt (⟨target, iter, ifs, 0⟩ :: rest) scope pos) 0 it acc env target (BW acc env))
    (h : EvI c target iter σ fun _ n item σ₁ => CompK c target scope BW (fun av σ' => KF .next ⟨(x, av) :: σ'.loc, σ'.own⟩) n item σ₁)
    (hx : names.lookup x = some .local := by rfl) (hl : (px.line == pos.line) = true := by rfl) (hnx : (scope.names.any fun p => p.1 == x && (p.2 == .local || p.2 == .cell)) = false := by rfl)
    (hfr : ∀ x ∈ frees scope, names.lookup x = some .cell ∨ names.lookup x = some .free := by decide) (hnd : (frees scope).Nodup := by decide) (hkind : scope.kind = .function := by rfl) (hnames : ∀ p ∈ scope.names, scope.names.lookup p.1 = some p.2 := by decide)
    (hs : ∀ x, foldedSetIterable iter c.env x = pure x := by intro _; rfl) : Ex c (.Assign [.Name x px] (.ListComp elt (⟨target, iter, ifs, 0⟩ :: rest) scope pos) spos) σ KF :=
  fun s Q E R hQ => by
    rw [exec_Assign_Name_used _ _ _ _ (swaps_local R.ok.ek (hkc.k x _ hx) hl hnx)]
    refine wpAny_bind (wpAny_standAt (wpAny_bind ?_))
    show wpAny _ _ (do let _ ← comprehension (.ListComp elt (⟨target, iter, ifs, 0⟩ :: rest) scope pos) scope c.env iter.pos (newList []) false (eval iter c.env) (some (assign (.Name x px) c.env))) _ _ s
    refine wpAny_bind (wpAny_mono (comp_core (Q := fun _ s' => Q .next s') ct hkc hfr hnd hkind hnames h hs R fun acc av σ' h' tk C m k l R' T iv hn hC => ?_) (fun _ s' hq => wpAny_pure (wpAny_pure hq)) fun _ _ e => e)
    refine wpAny_assign_Name (store_slot R' (.inl (hkc.k x _ hx)) iv fun h2 t2 R2 S2 => ?_)
    have hB : c.g.B.get? C = Option.none := by
      cases e : c.g.B.get? C with
      | none => rfl
      | some o => have := R.hr.keep _ _ e; rw [hC] at this; cases this
    have hCk : C ∉ keys σ'.own := fun m' => by
      obtain ⟨vs, n, e⟩ := R'.hr.seq m'
      obtain ⟨o, es, ep, e', hd, _⟩ := hn
      rw [show Shared.heap { s with heap := h', toks := tk } = h' from rfl, e'] at e; cases e; cases hd
    have hCs : C ∉ wslots c.env := fun m' => by obtain ⟨o, e⟩ := R.lr.slotThere C (wsub m'); rw [hC] at e; cases e
    have hn2 : Heap.Ns h2 C m := hn.at' fun o e => S2.chg C o hCk hCs e
    refine ⟨m, hn2, fun h3 sb => ?_⟩
    obtain ⟨R3, T3, up⟩ := R2.letgo ((R.wide T).trans S2) (fun a m => R2.lr.slotThere a (wsub m)) hn2 hC R.lr.slotThere hB sb
    rw [← show σ'.loc = σ.loc from l] at *
    exact hQ .next .next _ h3 t2 k R3 T3 trivial
end
end Mine
end
section
open PySem PySem.Calls PyProof.Rows
namespace Mine

def starry (v : Expr) : Bool := match v with | .Starred .. => true | _ => false
theorem pos_name (x : Str) (p : Pos) : Expr.pos (.Name x p) = p := rfl
theorem bk_fun {env : Env} (hk : env.scope.kind = .function) : env.blockKind = .function := by simp [Env.blockKind, hk, ScopeKind.isAnnotationScope]
theorem swap2 {env : Env} {x1 x2 : Str} {p1 p2 tp vp : Pos} {k k2 : Nat} {v1 v2 : Expr} (hk : env.scope.kind = .function) (h1 : env.kindOf x1 = some .local) (h2 : env.kindOf x2 = some .local)
    (hv : ([v1, v2].any starry) = false := by rfl) (hl : (p2.line == p1.line) = true := by rfl) (hn : (x1 == x2) = false := by decide) (hf : [v1, v2].all (foldedForSure 8) = false := by rfl) (hc : [v1, v2].all (constantsAlone 8) = false := by rfl) :
    swappedStores [.Tuple [.Name x1 p1, .Name x2 p2] k tp] (.Tuple [v1, v2] k2 vp) env = pure (some [x1, x2]) := by
  have hne : (x2 == x1) = false := by
    rw [beq_eq_false_iff_ne] at hn ⊢; exact fun e => hn e.symm
  unfold swappedStores
  have hv' : ([v1, v2].any fun | .Starred .. => true | _ => false) = false := hv
  simp only [bk_fun hk, hv', h1, h2, hl, pos_name, hf, hc, List.head?, List.filterMap, Option.map, Option.getD, List.length]
  simp [hl, List.eraseDups, List.eraseDupsBy, List.eraseDupsBy.loop, hn, hne]
  have q : starry v1 = false ∧ starry v2 = false := by simpa using hv
  intro h; exact absurd (show starry v1 = true ∨ starry v2 = true from h) (by simp [q.1, q.2])
theorem swap3 {env : Env} {x1 x2 x3 : Str} {p1 p2 p3 tp vp : Pos} {k k2 : Nat} {v1 v2 v3 : Expr} (hk : env.scope.kind = .function) (h1 : env.kindOf x1 = some .local) (h2 : env.kindOf x2 = some .local) (h3 : env.kindOf x3 = some .local)
    (hv : ([v1, v2, v3].any starry) = false := by rfl) (hl : (p2.line == p1.line) = true := by rfl) (hl3 : (p3.line == p1.line) = true := by rfl) (hn : (x2 == x1) = false := by decide) (hn2 : (x3 == x1) = false := by decide) (hn3 : (x3 == x2) = false := by decide) (hf : [v1, v2, v3].all (foldedForSure 8) = false := by rfl) (hc : [v1, v2, v3].all (constantsAlone 8) = false := by rfl) :
    swappedStores [.Tuple [.Name x1 p1, .Name x2 p2, .Name x3 p3] k tp] (.Tuple [v1, v2, v3] k2 vp) env = pure (some [x1, x2, x3]) := by
  unfold swappedStores
  have hv' : ([v1, v2, v3].any fun | .Starred .. => true | _ => false) = false := hv
  simp only [bk_fun hk, hv', h1, h2, h3, hl, hl3, pos_name, hf, hc, List.head?, List.filterMap, Option.map, Option.getD, List.length]
  simp [hl, hl3, List.eraseDups, List.eraseDupsBy, List.eraseDupsBy.loop, hn, hn2, hn3]
  have q : starry v1 = false ∧ starry v2 = false ∧ starry v3 = false := by simpa using hv
  intro h; exact absurd (show starry v1 = true ∨ starry v2 = true ∨ starry v3 = true from h) (by simp [q.1, q.2.1, q.2.2])
theorem swapCell2 {env : Env} {x1 x2 : Str} {p1 p2 tp vp : Pos} {k k2 : Nat} {v1 v2 : Expr} (hk : env.scope.kind = .function) (h : env.kindOf x1 = some .cell ∨ env.kindOf x2 = some .cell)
    (hv : ([v1, v2].any starry) = false := by rfl) :
    swappedStores [.Tuple [.Name x1 p1, .Name x2 p2] k tp] (.Tuple [v1, v2] k2 vp) env = pure none := by
  unfold swappedStores
  have hv' : ([v1, v2].any fun | .Starred .. => true | _ => false) = false := hv
  simp only [bk_fun hk, hv', pos_name, List.head?, List.filterMap, Option.map, Option.getD, List.length]
  rcases h with h | h
  · simp only [h]
    cases h2 : env.kindOf x2 with
    | none => simp
    | some k => by_cases hkk : k = .local <;> by_cases hl : p2.line = p1.line <;> simp [hkk, hl]
  · simp only [h]
    cases h2 : env.kindOf x1 with
    | none => simp
    | some k => by_cases hkk : k = .local <;> by_cases hl : p2.line = p1.line <;> simp [hkk, hl]

section
variable {c : Cx} {σ : St} {K : AV → St → Prop}

theorem get_pop {M : Model} {A : Around} {E : Value → Shared → Prop} {s : Shared} {D : Addr} {vs : List Value} {n : Nat} {pl : Sem Bool} {Q : Value × List Value → Shared → Prop} (ho : s.heap.get? D = some (lobj vs n)) (h : Q (.builtin "list.pop", [.ref D]) s) : wpAny M A (getMethod (.ref D) "pop" pl) Q E s :=
  getMethod_builtin ⟨_, ho, rfl⟩ PySem.F.plainAttrs_list PySem.F.slot_list_pop PySem.F.type_list_pop (fun a e => by cases e; exact ⟨_, ho, rfl⟩) h
theorem get_append {M : Model} {A : Around} {E : Value → Shared → Prop} {s : Shared} {D : Addr} {vs : List Value} {n : Nat} {pl : Sem Bool} {Q : Value × List Value → Shared → Prop} (ho : s.heap.get? D = some (lobj vs n)) (h : Q (.builtin "list.append", [.ref D]) s) : wpAny M A (getMethod (.ref D) "append" pl) Q E s :=
  getMethod_list_append ho rfl rfl h

/-- what a turn of a list's items leaves -/
theorem upd_obj {h : Heap} {a : Addr} {vs : List Value} {n : Nat} (e : h.get? a = some (lobj vs n)) (f : Array Value → Array Value) (ws : List Value) (hf : f vs.toArray = ws.toArray) : ∃ m, (h.update a (Obj.mapSeq f)).get? a = some (lobj ws m) := by
  have := PySem.IsL.update (n := n) e f
  rw [hf] at this
  exact ⟨_, this⟩

theorem ev_append {o arg : Expr} {apos pos : Pos} {pl : Sem Bool} (h : Ev c o σ fun ov σ₁ => ∃ a, ov = .own a ∧ a ∈ keys σ₁.own ∧ Ev c arg σ₁ fun av σ₂ => ∃ xs j, σ₂.own[j]? = some (a, xs) ∧ xs.length ≤ 1000000 ∧ K .none ⟨σ₂.loc, σ₂.own.set j (a, xs ++ [av])⟩)
    (he : eval (.Call (.Attribute o "append" apos) [arg] [] pos) c.env = (do
      let ov ← eval o c.env
      standAt apos.atName
      let (f, first) ← holding [ov] (getMethod ov "append" pl)
      callWith pos f first (backTo pos (starEach [arg] c.env)) []) := by rfl)
    (hse : starEach [arg] c.env = [(false, eval arg c.env)] := by rfl) : Ev c (.Call (.Attribute o "append" apos) [arg] [] pos) σ K :=
  fun s Q E R hQ => by
    refine MethodCall_ (h s _ E R fun v ov σ₁ h₁ t₁ k₁ l₁ R₁ S₁ v₁ => ?_) he
    obtain ⟨a, rfl, ha, k₁⟩ := k₁
    obtain rfl := IsV.own_inv v₁
    obtain ⟨vs, n, e⟩ := R₁.hr.seq ha
    refine get_append e ?_
    rw [hse]
    refine P.append_list (k₁ { s with heap := h₁, toks := t₁ } _ E R₁ fun vb av σ₂ h₂ t₂ k₂ l₂ R₂ S₂ v₂ => ?_)
    obtain ⟨xs, j, hj, hz, kk⟩ := k₂
    obtain ⟨ws, m, e2, hw⟩ := own_there R₂ hj
    refine ⟨ws.toArray, m, by rw [List.size_toArray, hw.length]; exact Nat.le_trans hz (by decide), e2, ?_⟩
    obtain ⟨m', e3⟩ := upd_obj e2 (fun xs => xs.push vb) (ws ++ [vb]) (by simp)
    exact Run.put (s := { s with heap := h₂, toks := t₂ }) (V := VV) (K := K) (b := .none) (tk := t₂) R₂ (fun v b σ' h' tk k' l' R' S' v' => hQ v b σ' h' tk k' (l'.trans (l₂.trans l₁)) R' ((S₁.trans S₂).trans S') v') hj (Heap.SameBut.update h₂ a _) e3 (hw.append (IsVs.one v₂)) kk .none

theorem erase_last (vs : List Value) : vs.toArray.eraseIdxIfInBounds (vs.toArray.size - 1) = vs.dropLast.toArray := by
  simp only [Array.eraseIdxIfInBounds, List.size_toArray]
  split
  · apply Array.toList_inj.mp
    simp only [List.eraseIdx_toArray]
    exact List.eraseIdx_length_sub_one
  · rename_i h
    have : vs = [] := by cases vs with | nil => rfl | cons a t => simp at h
    subst this; rfl
theorem IsVs.dropLast {P : Addr → Obj → Prop} {vs : List Value} {xs : List AV} (h : IsVs P vs xs) : IsVs P vs.dropLast xs.dropLast := by
  rw [List.dropLast_eq_take, List.dropLast_eq_take, h.length]; exact h.take _
theorem ev_pop {o : Expr} {apos pos : Pos} {pl : Sem Bool} (h : Ev c o σ fun ov σ₁ => ∃ a xs j x, ov = .own a ∧ σ₁.own[j]? = some (a, xs) ∧ xs.length ≤ 1000000 ∧ xs[xs.length - 1]? = some x ∧ K x ⟨σ₁.loc, σ₁.own.set j (a, xs.dropLast)⟩)
    (he : eval (.Call (.Attribute o "pop" apos) [] [] pos) c.env = (do
      let ov ← eval o c.env
      standAt apos.atName
      let (f, first) ← holding [ov] (getMethod ov "pop" pl)
      callWith pos f first (backTo pos (starEach [] c.env)) []) := by rfl) : Ev c (.Call (.Attribute o "pop" apos) [] [] pos) σ K :=
  fun s Q E R hQ => by
    refine MethodCall_ (h s _ E R fun v ov σ₁ h₁ t₁ k₁ l₁ R₁ S₁ v₁ => ?_) he
    obtain ⟨a, xs, j, x, rfl, hj, hz, hx, k₁⟩ := k₁
    obtain rfl := IsV.own_inv v₁
    obtain ⟨vs, n, e, hv⟩ := own_there R₁ hj
    obtain ⟨y, hy, iv⟩ := hv.get hx
    refine get_pop e ?_
    refine P.pop_list (n := n) (items := vs.toArray) (y := y) e (by rw [List.getElem?_toArray, List.size_toArray, hv.length]; exact hy) ?_ (by rw [List.size_toArray, hv.length]; exact Nat.le_trans hz (by decide))
    obtain ⟨m', e3⟩ := upd_obj e (fun xs => xs.eraseIdxIfInBounds (vs.toArray.size - 1)) vs.dropLast (erase_last vs)
    exact Run.put (s := { s with heap := h₁, toks := t₁ }) (V := VV) (K := K) (b := x) (tk := t₁) R₁ (fun v b σ' h' tk k' l' R' S' v' => hQ v b σ' h' tk k' (l'.trans l₁) R' (S₁.trans S') v') hj (Heap.SameBut.update h₁ a _) e3 hv.dropLast k₁ (by
      have S : Ste [] σ₁.own h₁ (σ₁.own.set j (a, xs.dropLast)) (h₁.update a (Obj.mapSeq fun xs => xs.eraseIdxIfInBounds (vs.toArray.size - 1))) := by
        obtain ⟨e1, e2⟩ := led_split hj
        rw [e2]; conv => arg 2; rw [e1]
        exact Ste.put (Heap.SameBut.update h₁ a _) ⟨_, e3⟩
      exact S.keepE iv)
theorem erase_first (v : Value) (vs : List Value) : (v :: vs).toArray.eraseIdxIfInBounds 0 = vs.toArray := by
  simp [Array.eraseIdxIfInBounds]
theorem ev_pop0 {o arg : Expr} {apos pos : Pos} {pl : Sem Bool} (h : Ev c o σ fun ov σ₁ => ∃ a, ov = .own a ∧ a ∈ keys σ₁.own ∧ Ev c arg σ₁ fun iv σ₂ => iv = .int 0 ∧ ∃ x xs j, σ₂.own[j]? = some (a, x :: xs) ∧ xs.length ≤ 1000000 ∧ K x ⟨σ₂.loc, σ₂.own.set j (a, xs)⟩)
    (he : eval (.Call (.Attribute o "pop" apos) [arg] [] pos) c.env = (do
      let ov ← eval o c.env
      standAt apos.atName
      let (f, first) ← holding [ov] (getMethod ov "pop" pl)
      callWith pos f first (backTo pos (starEach [arg] c.env)) []) := by rfl)
    (hse : starEach [arg] c.env = [(false, eval arg c.env)] := by rfl) : Ev c (.Call (.Attribute o "pop" apos) [arg] [] pos) σ K :=
  fun s Q E R hQ => by
    refine MethodCall_ (h s _ E R fun v ov σ₁ h₁ t₁ k₁ l₁ R₁ S₁ v₁ => ?_) he
    obtain ⟨a, rfl, ha, k₁⟩ := k₁
    obtain rfl := IsV.own_inv v₁
    obtain ⟨vs, n, e⟩ := R₁.hr.seq ha
    refine get_pop e ?_
    rw [hse]
    refine P.pop_at_list (k₁ { s with heap := h₁, toks := t₁ } _ E R₁ fun vb av σ₂ h₂ t₂ k₂ l₂ R₂ S₂ v₂ => ?_)
    obtain ⟨rfl, x, xs, j, hj, hz, kk⟩ := k₂
    obtain ⟨ws, m, e2, hw⟩ := own_there R₂ hj
    cases hw with | @cons y ws _ _ iv hw =>
    obtain ⟨u, rfl⟩ := IsV.int_inv v₂
    refine ⟨(y :: ws).toArray, m, 0, u, 0, y, by rw [List.size_toArray, List.length_cons, hw.length]; exact Nat.le_trans (Nat.succ_le_succ hz) (by decide), rfl, e2, by decide, ?_, by simp, ?_⟩
    · rw [seqIndex_of (by decide) (by simp)]; rfl
    obtain ⟨m', e3⟩ := upd_obj e2 (fun xs => xs.eraseIdxIfInBounds 0) ws (erase_first y ws)
    exact Run.put (s := { s with heap := h₂, toks := t₂ }) (V := VV) (K := K) (b := x) (tk := t₂) R₂ (fun v b σ' h' tk k' l' R' S' v' => hQ v b σ' h' tk k' (l'.trans (l₂.trans l₁)) R' ((S₁.trans S₂).trans S') v') hj (Heap.SameBut.update h₂ a _) e3 hw kk (by
      have S : Ste [] σ₂.own h₂ (σ₂.own.set j (a, xs)) (h₂.update a (Obj.mapSeq fun xs => xs.eraseIdxIfInBounds 0)) := by
        obtain ⟨e1, e2⟩ := led_split hj
        rw [e2]; conv => arg 2; rw [e1]
        exact Ste.put (Heap.SameBut.update h₂ a _) ⟨_, e3⟩
      exact S.keepE iv)

/-- zip over two frozen lists -/
theorem evi_zip {elts : List Expr} {k : Nat} {px pn pos : Pos} {y : Str} {e e2 : Expr} {KI : List Addr → Nat → (Nat → AV) → St → Prop} (hk : c.env.kindOf y = some .globalImplicit)
    (h : EvL c pos [e, e2] σ fun as σ₁ => ∃ xs ys, as = [.lst xs, .lst ys] ∧ ∀ hs, KI hs (min xs.length ys.length) (fun i => .tup [xs.getD i .none, ys.getD i .none]) σ₁) (hy : y = "zip" := by rfl)
    (he : starEach [e, e2] c.env = (false, eval e c.env) :: starEach [e2] c.env := by rfl) (hp : (backTo pos (starEach [e2] c.env)).any (·.1) = false := by rfl) : EvI c (.Tuple elts k px) (.Call (.Name y pn) [e, e2] [] pos) σ KI :=
  fun s Q E R hQ => by
    subst hy
    refine wp_bcall R (v := .type "zip") (by decide) hk (.inr ⟨_, rfl⟩) h (he := he) (hp := hp) fun vs as σ₁ h₁ t₁ k₁ l₁ R₁ S₁ v₁ => ?_
    obtain ⟨xs, ys, rfl, k⟩ := k₁
    obtain ⟨_, _, rfl, i1, i2⟩ := IsVs.two_inv v₁
    obtain ⟨a, vs, n, rfl, p, hv⟩ := i1.lst_inv
    obtain ⟨b, ws, m, rfl, p2, hw⟩ := i2.lst_inv
    have hl : Heap.IsList h₁ a vs.toArray := isList_of p.1
    have hl2 : Heap.IsList h₁ b ws.toArray := isList_of p2.1
    refine call_zip_2 hl hl2 fun h' hz hTI hTO hi1 hi2 hsz gr => ?_
    refine wpAny_pyIter_zip hz ?_
    have la : @LT.lt Nat _ a h₁.objs.size := Heap.lt_size p.1
    have lb : @LT.lt Nat _ b h₁.objs.size := Heap.lt_size p2.1
    have ap : ZipApart (h₁.objs.size + 4) (h₁.objs.size + 2) (h₁.objs.size + 3) h₁.objs.size (h₁.objs.size + 1) a b := by
      generalize h₁.objs.size = N at la lb
      constructor <;> (intro q; have q' : @Eq Nat _ _ := q; lia)
    have W := WalksT.zip2 (prog := c.g.prog) (w := c.g.w) (A := c.A) R.ok.rm.hd _ _ _ _ _ _ _ ap vs.toArray ws.toArray
    have hlen : min vs.toArray.size ws.toArray.size = min xs.length ys.length := by simp [hv.length, hw.length]
    rw [hlen] at W
    have nw : ∀ k, h₁.get? (h₁.objs.size + k) = Option.none := fun k => by
      cases e : h₁.get? (h₁.objs.size + k) with
      | none => rfl
      | some o => exact absurd (Heap.lt_size e) (Nat.not_lt.mpr (Nat.le_add_right _ _))
    have nw0 : h₁.get? h₁.objs.size = Option.none := nw 0
    have nw0' : (Shared.heap { s with heap := h₁, toks := t₁ }).get? h₁.objs.size = Option.none := nw 0
    refine hQ _ _ _ σ₁ _ t₁ [h₁.objs.size + 3] [h₁.objs.size + 4, h₁.objs.size + 3, h₁.objs.size, h₁.objs.size + 1] [h₁.objs.size + 4, h₁.objs.size + 2, h₁.objs.size + 3, h₁.objs.size, h₁.objs.size + 1, a, b] (Fz σ₁.own c.hid h₁) _ (k _) l₁ (R₁.grow gr)
      (R₁.hide gr (fun q hq => by rw [List.mem_singleton.mp hq]; exact nw 3) (fun q hq => by rw [List.mem_singleton.mp hq]; exact ⟨_, hTO, ⟨#[_, _], 0, rfl⟩⟩)) (S₁.trans (Ste.grow gr))
      ⟨src_walksT (item := fun i => [xs.getD i .none, ys.getD i .none]) W ?_ ?_ ?_ ?_, ⟨hz, hTI, ⟨_, _, hTO⟩, hi1, hi2, hl.at fun o e => gr _ _ e, hl2.at fun o e => gr _ _ e⟩, fun q ob so f => ?_, ?_, by simp, ?_, ?_⟩
    · rintro i vals _ ⟨x, y, hx, hy, rfl⟩ P' hp
      obtain ⟨x', hx', iv⟩ := hv.get' (by simpa using hx : vs[i]? = some x)
      obtain ⟨y', hy', iw⟩ := hw.get' (by simpa using hy : ws[i]? = some y)
      rw [show xs.getD i .none = x' by simp [List.getD, hx'], show ys.getD i .none = y' by simp [List.getD, hy']]
      exact .cons (iv.mono hp) (.cons (iw.mono hp) .nil)
    · rintro i h ⟨z1, z2, ⟨_, _, z3⟩, z4, z5, _⟩ q hq
      simp only [List.mem_cons, List.not_mem_nil, or_false] at hq
      rcases hq with rfl | rfl | rfl | rfl
      · exact ⟨_, z1⟩
      · exact ⟨_, z3⟩
      · obtain ⟨o, e, _⟩ := z4; exact ⟨o, e⟩
      · obtain ⟨o, e, _⟩ := z5; exact ⟨o, e⟩
    · rintro i h ⟨z1, z2, ⟨_, _, z3⟩, z4, z5, _⟩ q hq o e so
      simp only [List.mem_cons, List.not_mem_nil, or_false] at hq
      rcases hq with rfl | rfl | rfl | rfl
      · rw [z1] at e; cases e; exact absurd so (fields_not_seq rfl)
      · simp
      · exact absurd so (listIter_not_seq z4 o e)
      · exact absurd so (listIter_not_seq z5 o e)
    · rintro i h ⟨z1, z2, ⟨_, _, z3⟩, z4, z5, _⟩ q hq
      rw [List.mem_singleton.mp hq]; exact ⟨_, z3, ⟨#[_, _], 0, rfl⟩⟩
    · exact Fz.hide gr (fun q hq => by rw [List.mem_singleton.mp hq]; exact nw 3) q ob so f
    · intro q hq
      simp only [List.mem_cons, List.not_mem_nil, or_false] at hq
      rcases hq with rfl | rfl | rfl | rfl
      · exact S₁.none (by simp) (nw 4)
      · exact S₁.none (by simp) (nw 3)
      · exact S₁.none (by simp) (nw 0)
      · exact S₁.none (by simp) (nw 1)
    · have fresh : ∀ q, h₁.get? q = Option.none → q ∉ keys σ₁.own ∧ q ∉ slots c.env := fun q hq => ⟨(fun m => by obtain ⟨vs, n, e⟩ := R₁.hr.seq m; rw [show Shared.heap { s with heap := h₁, toks := t₁ } = h₁ from rfl, hq] at e; cases e), slot_not_new R₁ hq⟩
      intro q hq
      simp only [List.mem_cons, List.not_mem_nil, or_false] at hq
      rcases hq with rfl | rfl | rfl | rfl | rfl | rfl | rfl
      · exact ⟨⟨_, hz⟩, fresh _ (nw 4)⟩
      · exact ⟨⟨_, hTI⟩, fresh _ (nw 2)⟩
      · exact ⟨⟨_, hTO⟩, fresh _ (nw 3)⟩
      · obtain ⟨o, e, _⟩ := hi1; exact ⟨⟨o, e⟩, fresh _ (nw 0)⟩
      · obtain ⟨o, e, _⟩ := hi2; exact ⟨⟨o, e⟩, fresh _ (nw 1)⟩
      · exact ⟨⟨_, gr _ _ p.1⟩, p.2.1, fun m => R₁.lr.slotSeq _ m _ p.1 SeqO.l⟩
      · exact ⟨⟨_, gr _ _ p2.1⟩, p2.2.1, fun m => R₁.lr.slotSeq _ m _ p2.1 SeqO.l⟩
    · intro q hq
      simp only [List.mem_cons, List.not_mem_nil, or_false] at hq
      rcases hq with rfl | rfl | rfl | rfl | rfl | rfl | rfl
      · exact hid_not_new R₁ (nw 4)
      · exact hid_not_new R₁ (nw 2)
      · exact hid_not_new R₁ (nw 3)
      · exact hid_not_new R₁ (nw 0)
      · exact hid_not_new R₁ (nw 1)
      · exact p.2.2
      · exact p2.2.2
end
end Mine
end
section
open PySem PySem.Calls PyProof.Rows
open PySem.SeqAt (EqAt RcAt RcNeAt)
namespace Mine

section
variable {c : Cx} {σ : St}

/-- the loop of a for -/
theorem for_loop {target : Expr} {body : List Stmt} {it : Value} {R : Result → Shared → Prop} {σ₀ : St} {s : Shared} {n : Nat} {item : Nat → AV} {wr fp : List Addr} {P₀ : Addr → Obj → Prop} {St' : Nat → Heap → Prop} {KF : Fl → St → Prop}
    (src : Src c.g.prog c.g.w c.A P₀ target it [] wr fp n item St') (st0 : St' 0 s.heap) (val : ∀ a o, SeqO o → P₀ a o → Fz σ₀.own c.hid s.heap a o)
    (hB : ∀ b ∈ wr, c.g.B.get? b = none) (hwS : ∀ b ∈ wr, b ∉ slots c.env) (hwh : ∀ b ∈ wr, b ∉ c.hid)
    (fpo : ∀ b ∈ fp, (∃ o, s.heap.get? b = some o) ∧ b ∉ keys σ₀.own ∧ b ∉ slots c.env) (R0 : Rel c σ₀ s)
    (Inv : Nat → St → Prop) (i0 : Inv 0 σ₀)
    (turn : ∀ i σ, i < n → Inv i σ → AsT c target (item i) σ fun σ₂ => Exs c body σ₂ (ForK (Inv (i + 1)) KF)) (done : ∀ σ, Inv n σ → KF .next σ)
    (fin : ∀ f fl σ h' tk, KF fl σ → Rel c σ { s with heap := h', toks := tk } → Ste (wr ++ wslots c.env) σ₀.own s.heap σ.own h' → FlV σ.own c.hid h' f fl → R (.ok f) { s with heap := h', toks := tk }) :
    codeAny (model c.g.prog c.g.w) c.A (.forLoop target it body [] c.env) R s := by
  have hSq : ∀ {σ' : St} {s' : Shared} {i : Nat}, Rel c σ' s' → St' i s'.heap → ∀ a ∈ wr ++ wslots c.env, ∀ o, s'.heap.get? a = some o → SeqO o → a ∈ c.hid := fun R' st' a m o e q => by
    rcases List.mem_append.mp m with m | m
    · exact absurd (src.wsq _ _ st' a m o e q) (by simp)
    · exact R'.wHid a m o e q
  have there : ∀ {σ' : St} {s' : Shared} {i : Nat}, Rel c σ' s' → St' i s'.heap → ∀ a ∈ wr ++ wslots c.env, ∃ ob, s'.heap.get? a = some ob := fun R' st' a m => by
    rcases List.mem_append.mp m with m | m
    · exact src.thr _ _ st' a m
    · exact R'.lr.slotThere a (wsub m)
  have pulled : ∀ {σ' : St} {s' : Shared} {h₂ : Heap} {t₂ : Nat} {i : Nat}, Rel c σ' s' → St' i s'.heap → (∀ b o, b ∉ wr → s'.heap.get? b = some o → h₂.get? b = some o) →
      Rel c σ' { s' with heap := h₂, toks := t₂ } ∧ Ste (wr ++ wslots c.env) σ'.own s'.heap σ'.own h₂ := fun {σ' s' h₂ t₂ i} R' st' chg => by
    have hsq2 : ∀ a ∈ wr, ∀ o, s'.heap.get? a = some o → SeqO o → a ∈ c.hid := fun a m o e q => absurd (src.wsq _ _ st' a m o e q) (by simp)
    have S2 : Ste wr σ'.own s'.heap σ'.own h₂ := Ste.but chg
    exact ⟨⟨R'.ok, R'.hr.step (S := wr) (fun a o hn e => chg a o hn e) hB hsq2 (fun a m mh => absurd mh (hwh a m)), LRel.step R' S2 rfl hsq2 fun a ha m => hwS a m ha⟩, S2.widen (fun a m => List.mem_append.mpr (.inl m)) (fun a m => .inr (there R' st' a m))⟩
  refine codeAny_forLoop_any (fun k s' => ∃ i σ', k = n + 1 - i ∧ i ≤ n ∧ Inv i σ' ∧ Rel c σ' s' ∧ St' i s'.heap ∧ Ste (wr ++ wslots c.env) σ₀.own s.heap σ'.own s'.heap ∧ ∃ h' tk, s' = { s with heap := h', toks := tk }) ?_ (n + 1)
    ⟨0, σ₀, rfl, Nat.zero_le _, i0, R0, st0, Ste.refl .., s.heap, s.toks, rfl⟩
  rintro k s' ⟨i, σ', rfl, hi, hI, R', st', S', h', tk, rfl⟩
  by_cases hlt : i < n
  · refine src.pull i _ _ _ _ _ hlt st' fun v h₂ t₂ st₂ chg iv => ?_
    obtain ⟨R2, S2'⟩ := pulled (t₂ := t₂) R' st' chg
    have iv' : IsV (Fz σ'.own c.hid h₂) v (item i) := by
      refine iv _ (fun a o q p => (S'.trans S2').fz (hSq R0 st0) a o q (val a o q p)) (fun a o en e => ⟨e, fun m => ?_, fun m => ?_⟩)
      · obtain ⟨vs, n, e'⟩ := R'.hr.seq m; rw [en] at e'; cases e'
      · obtain ⟨o', e', _⟩ := R'.hr.hx a m; rw [en] at e'; cases e'
    refine turn i σ' hlt hI { s with heap := h₂, toks := t₂ } v iv' _ _ R2 fun _ _ σ₃ h₃ t₃ k₃ R₃ S₃ _ => ?_
    refine k₃ _ _ _ R₃ fun f fl σ₄ h₄ t₄ k₄ R₄ S₄ v₄ => ?_
    have S34 : Ste (wslots c.env) σ'.own h₂ σ₄.own h₄ := S₃.trans S₄
    have Sall := (S'.trans S2').trans (S34.widen (fun a m => List.mem_append.mpr (.inr m)) (fun a m => .inr (there R2 st₂ a m)))
    have st4 : St' (i + 1) h₄ := src.frame _ _ _ st₂ fun b hb o e => S34.chg b o (fun m => by
      obtain ⟨⟨o0, e0⟩, hk, _⟩ := fpo b hb
      rcases S'.fresh b m with q | q
      · exact hk q
      · rw [q.1] at e0; cases e0) (fun m => (fpo b hb).2.2 (wsub m)) e
    cases f <;> cases fl <;> first
      | exact v₄.elim
      | (obtain ⟨σ₅, w5, i5⟩ := k₄
         exact ⟨n + 1 - (i + 1), by lia, i + 1, σ₅, rfl, hlt, i5, R₄.wk w5, st4, by rw [← w5.2]; exact Sall, h₄, t₄, rfl⟩)
      | exact fin _ _ σ₄ h₄ t₄ k₄ R₄ Sall v₄
  · have hin : i = n := Nat.le_antisymm hi (Nat.not_lt.mp hlt)
    subst hin
    refine src.done _ _ _ _ st' fun h₂ t₂ chg => wpAny_execs_nil ?_
    obtain ⟨R2, S2'⟩ := pulled (t₂ := t₂) R' st' chg
    exact fin .next .next σ' h₂ t₂ (done σ' hI) R2 (S'.trans S2') trivial

theorem ex_for {KF : Fl → St → Prop} {target iter : Expr} {body : List Stmt} {pos : Pos} (h : EvI c target iter σ fun hs n item σ₁ => hs = [] ∧ ∃ Inv : Nat → St → Prop, (∃ σ₂, Wk σ₁ σ₂ ∧ Inv 0 σ₂) ∧
      (∀ i σ, i < n → Inv i σ → AsT c target (item i) σ fun σ₂ => Exs c body σ₂ (ForK (Inv (i + 1)) KF)) ∧ (∀ σ, Inv n σ → KF .next σ))
    (hs : ∀ x, foldedSetIterable iter c.env x = pure x := by intro _; rfl) : Ex c (.For target iter body [] pos) σ KF :=
  fun s Q E R hQ => by
    refine wpAny_noRaise ?_
    refine wpAny_For (h s _ _ R fun it n item σ₁ h₁ t₁ hs wr fp P₀ St k₁ l₁ R₁ _ S₁ so => ?_) hs
    obtain ⟨rfl, Inv, ⟨σ₂, w2, i0⟩, turn, fin⟩ := k₁
    have hB : ∀ b ∈ wr, c.g.B.get? b = Option.none := fun b hb => by
      cases e : c.g.B.get? b with
      | none => rfl
      | some o => have := R.hr.keep _ _ e; rw [so.new b hb] at this; cases this
    refine for_loop (s := { s with heap := h₁, toks := t₁ }) (σ₀ := σ₂) (KF := KF) so.src so.st (fun a o q p => by rw [← w2.2]; simpa using so.val a o q p) hB (fun b hb => slot_not_new R (so.new b hb)) (fun b hb => hid_not_new R (so.new b hb))
      (fun b hb => by obtain ⟨x, y, z⟩ := so.fpo b hb; exact ⟨x, by rw [← w2.2]; exact y, z⟩) (R₁.wk w2) Inv i0 turn fin fun f fl σf h' tk k R' S' v' => hQ f fl σf h' tk k R' ?_ v'
    rw [← w2.2] at S'
    exact Ste.drop (R.wide S₁) S' so.new

/-- an owned list is laid aside -/
theorem HRel.aside {g : Gl} {l r : Led} {hid : List Addr} {h : Heap} {a : Addr} {xs : List AV} (x : HRel g (l ++ (a, xs) :: r) hid h) : HRel g (l ++ r) (a :: hid) h ∧ (∀ b o, SeqO o → Fz (l ++ (a, xs) :: r) hid h b o → Fz (l ++ r) (a :: hid) h b o) := by
  have sub : ∀ b, b ∈ keys (l ++ r) → b ∈ keys (l ++ (a, xs) :: r) := fun b m => by
    simp only [keys_append, keys_cons, List.mem_append, List.mem_cons] at m ⊢; rcases m with m | m <;> simp [m]
  have hak : a ∈ keys (l ++ (a, xs) :: r) := by simp
  have up : ∀ b o, SeqO o → Fz (l ++ (a, xs) :: r) hid h b o → Fz (l ++ r) (a :: hid) h b o := fun b o _ q => ⟨q.1, fun m => q.2.1 (sub b m), fun m => by
    rcases List.mem_cons.mp m with rfl | m
    · exact q.2.1 hak
    · exact q.2.2 m⟩
  have hn : (keys l ++ a :: keys r).Nodup := by simpa using x.nod
  have hn' := List.nodup_append.mp hn
  have hna : a ∉ keys (l ++ r) := fun m => by
    simp only [keys_append, List.mem_append] at m
    rcases m with m | m
    · exact hn'.2.2 _ m a List.mem_cons_self rfl
    · exact (List.nodup_cons.mp hn'.2.1).1 m
  refine ⟨⟨x.keep, fun p hp => ?_, ?_, fun b hb m => ?_, fun b hb => x.new b (sub b hb), fun b hb => ?_⟩, up⟩
  · obtain ⟨ws, m, e, hv⟩ := x.led p (by simp only [List.mem_append, List.mem_cons] at hp ⊢; rcases hp with h | h <;> simp [h])
    exact ⟨ws, m, e, hv.mono up⟩
  · rw [keys_append]
    exact List.nodup_append.mpr ⟨hn'.1, (List.nodup_cons.mp hn'.2.1).2, fun b hb d hd => hn'.2.2 b hb d (List.mem_cons_of_mem _ hd)⟩
  · rcases List.mem_cons.mp m with rfl | m
    · exact hna hb
    · exact x.off b (sub b hb) m
  · rcases List.mem_cons.mp hb with rfl | hb
    · obtain ⟨vs, n, e⟩ := x.seq hak; exact ⟨_, e, SeqO.l⟩
    · exact x.hx b hb

/-- a for over an owned list that its body leaves alone -/
theorem ex_for_own {KF : Fl → St → Prop} {x : Str} {px pos : Pos} {iter : Expr} {body : List Stmt}
    (h : Ev c iter σ fun o σ₁ => ∃ a l xs r, o = .own a ∧ σ₁.own = l ++ (a, xs) :: r ∧ ∃ Inv : Nat → St → Prop, Inv 0 ⟨σ₁.loc, l ++ r⟩ ∧
      (∀ c' : Cx, c'.g = c.g → c'.n = c.n → c'.env = c.env → ∀ i σ, i < xs.length → Inv i σ → AsT c' (.Name x px) (xs.getD i .none) σ fun σ₂ => Exs c' body σ₂ fun fl σ₃ => match fl with
        | .next | .cont => ∃ σ₄, Wk σ₃ σ₄ ∧ Inv (i + 1) σ₄
        | _ => False) ∧ ∀ σ, Inv xs.length σ → KF .next ⟨σ.loc, (a, xs) :: σ.own⟩)
    (hs : ∀ x, foldedSetIterable iter c.env x = pure x := by intro _; rfl) : Ex c (.For (.Name x px) iter body [] pos) σ KF :=
  fun s Q E R hQ => by
    refine wpAny_noRaise ?_
    refine wpAny_For (h s _ _ R fun v o σ₁ h₁ t₁ k₁ l₁ R₁ S₁ v₁ => ?_) hs
    obtain ⟨a, l, xs, r, rfl, eo, Inv, i0, turn, fin⟩ := k₁
    obtain rfl := IsV.own_inv v₁
    have hak : a ∈ keys σ₁.own := by rw [eo]; simp
    obtain ⟨vs, n, ea, hv⟩ := R₁.hr.led (a, xs) (by rw [eo]; simp)
    have hl : Heap.IsList h₁ a vs.toArray := isList_of ea
    refine wpAny_pyIter_list hl ?_
    have gr : ∀ b ob, h₁.get? b = some ob → (h₁.push { cls := .type "list_iterator", data := .fields #[.ref a, .int 0 0] }).get? b = some ob := fun b ob e => Heap.get?_push_of_some _ e
    have hlt : a < h₁.objs.size := Heap.lt_size ea
    have W := Walks.list (prog := c.g.prog) (w := c.g.w) (A := c.A) R.ok.rm.hd h₁.objs.size a (Nat.ne_of_lt hlt) vs.toArray
    have hz : vs.toArray.size = xs.length := by have := hv.length; simpa using this
    rw [hz] at W
    have R₂ : Rel c σ₁ { s with heap := h₁.push { cls := .type "list_iterator", data := .fields #[.ref a, .int 0 0] }, toks := t₁ } := R₁.grow gr
    have hr2 := R₂.hr
    rw [eo] at hr2
    obtain ⟨ha2, up⟩ := hr2.aside
    let c' : Cx := c.re (a :: c.hid)
    have asl : a ∉ slots c.env := fun m => R₁.slotOff a m hak
    have n1 : h₁.get? h₁.objs.size = Option.none := new_addr _
    have R₃ : Rel c' ⟨σ₁.loc, l ++ r⟩ { s with heap := h₁.push { cls := .type "list_iterator", data := .fields #[.ref a, .int 0 0] }, toks := t₁ } := by
      refine ⟨⟨R.ok.g, R.ok.rm, R.ok.ek, R.ok.eg, R.ok.eb, R.ok.ep, R.ok.el, R.ok.nb⟩, ha2, R₂.lr.ns, R₂.lr.cl, fun y av e => ?_⟩
      obtain ⟨v, hv, sv⟩ := R₂.lr.loc y av e
      exact ⟨v, hv.mono fun b o so q => up b o so (eo ▸ q), sv⟩
    have hvF : IsVs (Fz (l ++ r) (a :: c.hid) (h₁.push { cls := .type "list_iterator", data := .fields #[.ref a, .int 0 0] })) vs xs := hv.mono fun b o so q => up b o so (eo ▸ Fz.grow gr b o so q)
    have hdis : a ∉ keys (l ++ r) := fun m => R₃.hr.off a m List.mem_cons_self
    refine for_loop (c := c') (KF := fun fl σ' => fl = .next ∧ Inv xs.length σ') (src_walks (x := x) (px := px) (P₀ := Fz (l ++ r) (a :: c.hid) (h₁.push { cls := .type "list_iterator", data := .fields #[.ref a, .int 0 0] })) (item := fun i => xs.getD i .none) W ?_ ?_ ?_) ⟨⟨_, Heap.get?_push_size _ rfl, rfl, rfl⟩, hl.push _⟩ (fun b o so q => q)
      (fun b hb => ?_) (fun b hb => ?_) (fun b hb => ?_) (fun b hb => ?_) R₃ Inv i0 (fun i σ' hi hI => ?_) (fun σ' hI => ⟨rfl, hI⟩) (fun f fl σf h' tk k R' S' v' => ?_)
    · intro i v _ hP P' hp
      have hP' : vs[i]? = some v := by simpa using hP
      obtain ⟨x', hx', iv⟩ := hvF.get' hP'
      rw [show xs.getD i .none = x' by simp [List.getD, hx']]
      exact iv.mono hp
    · intro i h st b hb
      rw [List.mem_singleton.mp hb]; obtain ⟨o, e, _⟩ := st.1; exact ⟨o, e⟩
    · intro i h st b hb o e
      rw [List.mem_singleton.mp hb] at e; exact listIter_not_seq st.1 o e
    · rw [List.mem_singleton.mp hb]
      show c.g.B.get? _ = _
      cases e : c.g.B.get? h₁.objs.size with
      | none => rfl
      | some o => have := R₁.hr.keep _ _ e; rw [show Shared.heap { s with heap := h₁, toks := t₁ } = h₁ from rfl, n1] at this; cases this
    · rw [List.mem_singleton.mp hb]; exact slot_not_new R₁ n1
    · rw [List.mem_singleton.mp hb]
      intro m
      rcases List.mem_cons.mp m with q | m
      · exact absurd q.symm (Nat.ne_of_lt hlt)
      · exact hid_not_new R₁ n1 m
    · rcases List.mem_cons.mp hb with rfl | hb
      · exact ⟨⟨_, Heap.get?_push_size _ rfl⟩, (fun m => by
          obtain ⟨vs', n', e⟩ := R₁.hr.seq (a := h₁.objs.size) (by rw [eo]; simp only [keys_append, keys_cons, List.mem_append, List.mem_cons] at m ⊢; rcases m with m | m <;> simp [m])
          rw [show Shared.heap { s with heap := h₁, toks := t₁ } = h₁ from rfl, n1] at e; cases e), slot_not_new R₁ n1⟩
      · rw [List.mem_singleton.mp hb]
        exact ⟨⟨_, gr _ _ ea⟩, hdis, asl⟩
    · refine fun s' v iv Q' E' R' hQ' => turn c' rfl rfl rfl i σ' hi hI s' v iv Q' E' R' fun v b σ'' h' tk k' => hQ' v b σ'' h' tk ?_
      exact fun s'' Q'' E'' R'' hQ'' => k' s'' Q'' E'' R'' fun f fl σ4 h4 t4 k4 => hQ'' f fl σ4 h4 t4 (by cases fl <;> first | exact k4 | exact k4.elim)
    · obtain ⟨rfl, hI⟩ := k
      cases f <;> first | exact v'.elim | skip
      have ea' : h'.get? a = some (lobj vs n) := S'.chg a _ hdis (fun m => by
        rcases List.mem_append.mp m with m | m
        · exact absurd (List.mem_singleton.mp m) (Nat.ne_of_lt hlt)
        · exact asl (wsub m)) (gr _ _ ea)
      have hSq : ∀ b ∈ [h₁.objs.size] ++ wslots c.env, ∀ o, (h₁.push { cls := .type "list_iterator", data := .fields #[.ref a, .int 0 0] }).get? b = some o → SeqO o → b ∈ a :: c.hid := fun b m o e so => by
        rcases List.mem_append.mp m with m | m
        · rw [List.mem_singleton.mp m, Heap.get?_push_size _ rfl] at e; cases e; exact absurd so (fields_not_seq rfl)
        · exact List.mem_cons_of_mem _ (R₂.wHid b m o e so)
      have hv' : IsVs (Fz σf.own (a :: c.hid) h') vs xs := hvF.mono fun b o so q => S'.fz hSq b o so q
      have H := HRel.adopt (hid := c.hid) R'.hr (R₁.hr.off a hak) (R₁.hr.new a hak) ea' hv'
      have up2 : ∀ b o, SeqO o → Fz σf.own (a :: c.hid) h' b o → Fz ((a, xs) :: σf.own) c.hid h' b o := fun b o _ q => ⟨q.1, fun m => by
        rw [keys_cons] at m
        rcases List.mem_cons.mp m with rfl | m
        · exact q.2.2 List.mem_cons_self
        · exact q.2.1 m, fun m => q.2.2 (List.mem_cons_of_mem _ m)⟩
      refine hQ .next .next ⟨σf.loc, (a, xs) :: σf.own⟩ h' tk (fin σf hI) ⟨R.ok, H, R'.lr.ns, R'.lr.cl, fun y av e => ?_⟩ ?_ trivial
      · obtain ⟨v, hv, sv⟩ := R'.lr.loc y av e
        exact ⟨v, hv.mono up2, sv⟩
      · have S'' : Ste ([h₁.objs.size] ++ wslots c.env) σ₁.own (h₁.push { cls := .type "list_iterator", data := .fields #[.ref a, .int 0 0] }) ((a, xs) :: σf.own) h' := by
          rw [eo]
          refine ⟨fun b ob hb hs e => S'.chg b ob (fun m => hb (by simp only [keys_append, keys_cons, List.mem_append, List.mem_cons] at m ⊢; rcases m with m | m <;> simp [m])) hs e, fun b m => ?_, S'.thr⟩
          rw [keys_cons] at m
          rcases List.mem_cons.mp m with rfl | m
          · exact .inl (by simp)
          · refine (S'.fresh b m).imp (fun q => ?_) id
            simp only [keys_append, keys_cons, List.mem_append, List.mem_cons] at q ⊢; rcases q with q | q <;> simp [q]
        have S0 : Ste (wslots c.env) σ.own s.heap σ₁.own (h₁.push { cls := .type "list_iterator", data := .fields #[.ref a, .int 0 0] }) := (R.wide S₁).trans (Ste.grow gr)
        exact Ste.drop S0 S'' fun b hb => by rw [List.mem_singleton.mp hb]; exact S₁.none (by simp) n1
end

/-- lists are compared -/
theorem ints_at {P : Addr → Obj → Prop} {vs : List Value} {xs : List Int} (h : IsVs P vs (xs.map .int)) {j : Nat} (hj : j < vs.length) : ∃ x t, xs[j]? = some x ∧ vs[j] = .int x t := by
  obtain ⟨y, hy, iv⟩ := h.get' (List.getElem?_eq_getElem hj)
  rw [List.getElem?_map] at hy
  obtain ⟨x, hx, rfl⟩ := Option.map_eq_some_iff.mp hy
  generalize vs[j] = w at iv
  cases iv with | int _ t => exact ⟨x, t, hx, rfl⟩
theorem ints_uniq {P P' : Addr → Obj → Prop} : ∀ {vs : List Value} {xs ys : List Int}, IsVs P vs (xs.map .int) → IsVs P' vs (ys.map .int) → xs = ys
  | [], [], [], _, _ => rfl
  | [], [], _ :: _, _, h => by cases h
  | [], _ :: _, _, h, _ => by cases h
  | _ :: _, [], _, h, _ => by cases h
  | _ :: _, _ :: _, [], _, h => by cases h
  | _ :: _, x :: xs, y :: ys, .cons a h, .cons b k => by
    cases a with | int _ t => cases b with | int _ u => rw [ints_uniq h k]
theorem all_eq {α : Type} [DecidableEq α] {xs ys : List α} (h : xs.length = ys.length) : (List.range xs.length).all (fun j => decide (xs[j]? = ys[j]?)) = decide (xs = ys) := by
  rw [Bool.eq_iff_iff]
  simp only [List.all_eq_true, List.mem_range, decide_eq_true_eq]
  constructor
  · intro k
    refine List.ext_getElem? fun i => ?_
    by_cases hi : i < xs.length
    · exact k i hi
    · rw [List.getElem?_eq_none (by lia), List.getElem?_eq_none (by lia)]
  · rintro rfl _ _; rfl
section
variable {A : Around} {s : Shared} {P P' : Addr → Obj → Prop} {a b : Addr} {vs ws : List Value} {n m : Nat}
theorem eqv_int {x y : Int} {t u : Tok} {xs ys : List Int} {j : Nat} (h1 : xs[j]? = some x) (h2 : ys[j]? = some y) : EqAt A s (.int x t) (.int y u) (decide (xs[j]? = ys[j]?)) := by
  have := SeqAt.EqAt.int_int (A := A) (s := s) x t y u
  have e : (x == y) = decide (xs[j]? = ys[j]?) := by rw [h1, h2, Bool.eq_iff_iff]; simp
  rwa [e] at this
theorem rc_ints {xs ys : List Int} (ha : s.heap.get? a = some (lobj vs n)) (hb : s.heap.get? b = some (lobj ws m)) (iv : IsVs P vs (xs.map .int)) (iw : IsVs P' ws (ys.map .int)) (hu : A.units < cLine) : RcAt A s (.ref a) (.ref b) (decide (xs = ys)) := by
  have l1 : vs.length = xs.length := by simpa using iv.length
  have l2 : ws.length = ys.length := by simpa using iw.length
  by_cases hl : xs.length = ys.length
  · have := RcAt.lists (A := A) (e := fun j => decide (xs[j]? = ys[j]?)) (isList_of ha) (isList_of hb) (by simp [l1, l2, hl]) hu fun j h1 h2 => by
      obtain ⟨x, t, hx, ex⟩ := ints_at iv (j := j) (by simpa using h1)
      obtain ⟨y, u, hy, ey⟩ := ints_at iw (j := j) (by simpa using h2)
      simp only [List.getElem_toArray, ex, ey]
      exact eqv_int hx hy
    rw [show vs.toArray.size = xs.length by simp [l1], all_eq hl] at this
    exact this
  · have := RcAt.lists_lengths (A := A) (isList_of ha) (isList_of hb) (by simp [l1, l2, hl]) hu
    rw [show decide (xs = ys) = false by simp; rintro rfl; exact hl rfl]
    exact this
theorem rn_ints {xs ys : List Int} (ha : s.heap.get? a = some (lobj vs n)) (hb : s.heap.get? b = some (lobj ws m)) (iv : IsVs P vs (xs.map .int)) (iw : IsVs P' ws (ys.map .int)) (hu : A.units < cLine) : RcNeAt A s (.ref a) (.ref b) (!decide (xs = ys)) := by
  have l1 : vs.length = xs.length := by simpa using iv.length
  have l2 : ws.length = ys.length := by simpa using iw.length
  by_cases hl : xs.length = ys.length
  · have := RcNeAt.lists (A := A) (e := fun j => decide (xs[j]? = ys[j]?)) (isList_of ha) (isList_of hb) (by simp [l1, l2, hl]) hu fun j h1 h2 => by
      obtain ⟨x, t, hx, ex⟩ := ints_at iv (j := j) (by simpa using h1)
      obtain ⟨y, u, hy, ey⟩ := ints_at iw (j := j) (by simpa using h2)
      simp only [List.getElem_toArray, ex, ey]
      exact eqv_int hx hy
    rw [show vs.toArray.size = xs.length by simp [l1], all_eq hl] at this
    exact this
  · have := RcNeAt.lists_lengths (A := A) (isList_of ha) (isList_of hb) (by simp [l1, l2, hl]) hu
    rw [show decide (xs = ys) = false by simp; rintro rfl; exact hl rfl]
    exact this
abbrev avL (xs : List Int) : AV := .lst (xs.map .int)
theorem rows_at {own : Led} {hid : List Addr} {vs : List Value} {xs : List (List Int)} (h : IsVs (Fz own hid s.heap) vs (xs.map avL)) {j : Nat} (hj : j < vs.length) : ∃ x a us k, xs[j]? = some x ∧ vs[j] = .ref a ∧ s.heap.get? a = some (lobj us k) ∧ IsVs (Fz own hid s.heap) us (x.map .int) := by
  obtain ⟨y, hy, iv⟩ := h.get' (List.getElem?_eq_getElem hj)
  rw [List.getElem?_map] at hy
  obtain ⟨x, hx, rfl⟩ := Option.map_eq_some_iff.mp hy
  generalize vs[j] = w at iv
  cases iv with | lst p q => exact ⟨x, _, _, _, hx, rfl, p.1, q⟩
theorem rc_rows {own : Led} {hid : List Addr} {xs ys : List (List Int)} (ha : s.heap.get? a = some (lobj vs n)) (hb : s.heap.get? b = some (lobj ws m)) (iv : IsVs (Fz own hid s.heap) vs (xs.map avL)) (iw : IsVs (Fz own hid s.heap) ws (ys.map avL)) (hu : A.units + 8 < cLine) : RcAt A s (.ref a) (.ref b) (decide (xs = ys)) := by
  have l1 : vs.length = xs.length := by simpa using iv.length
  have l2 : ws.length = ys.length := by simpa using iw.length
  by_cases hl : xs.length = ys.length
  · have := RcAt.lists (A := A) (e := fun j => decide (xs[j]? = ys[j]?)) (isList_of ha) (isList_of hb) (by simp [l1, l2, hl]) (by lia) fun j h1 h2 => by
      obtain ⟨x, p, us, k, hx, ex, ep, ip⟩ := rows_at iv (j := j) (by simpa using h1)
      obtain ⟨y, q, us', k', hy, ey, eq, iq⟩ := rows_at iw (j := j) (by simpa using h2)
      simp only [List.getElem_toArray, ex, ey]
      have e : decide (xs[j]? = ys[j]?) = decide (x = y) := by rw [hx, hy]; simp
      rw [e]
      by_cases hpq : p = q
      · subst hpq
        rw [ep] at eq; cases eq
        rw [ints_uniq ip iq, decide_eq_true rfl]
        exact SeqAt.EqAt.same _
      · exact SeqAt.EqAt.of_refs hpq (rc_ints ep eq ip iq (by show A.units + 1 < _; lia))
    rw [show vs.toArray.size = xs.length by simp [l1], all_eq hl] at this
    exact this
  · have := RcAt.lists_lengths (A := A) (isList_of ha) (isList_of hb) (by simp [l1, l2, hl]) (by lia)
    rw [show decide (xs = ys) = false by simp; rintro rfl; exact hl rfl]
    exact this
end
section
variable {c : Cx} {σ : St} {K : Bool → St → Prop}
theorem cmp_eqL {x y : AV} {xs ys : List Int} (hx : Lst σ x (xs.map .int)) (hy : Lst σ y (ys.map .int)) (k : K (decide (xs = ys)) σ) : Cmp c .Eq x y σ K := fun s va vb ha hb Q E R hQ => by
  obtain ⟨a, vs, n, rfl, ea, iv⟩ := hx.read R ha
  obtain ⟨b, ws, m, rfl, eb, iw⟩ := hy.read R hb
  exact rc_ints ea eb iv iw (by have := R.ok.rm.un; lia) _ _ _ _ (Run.same (tk := s.toks) R hQ k rfl)
theorem cmp_neL {x y : AV} {xs ys : List Int} (hx : Lst σ x (xs.map .int)) (hy : Lst σ y (ys.map .int)) (k : K (!decide (xs = ys)) σ) : Cmp c .NotEq x y σ K := fun s va vb ha hb Q E R hQ => by
  obtain ⟨a, vs, n, rfl, ea, iv⟩ := hx.read R ha
  obtain ⟨b, ws, m, rfl, eb, iw⟩ := hy.read R hb
  exact rn_ints ea eb iv iw (by have := R.ok.rm.un; lia) _ _ _ _ (Run.same (tk := s.toks) R hQ k rfl)
theorem cmp_eqR {xs ys : List (List Int)} (k : K (decide (xs = ys)) σ) : Cmp c .Eq (.lst (xs.map avL)) (.lst (ys.map avL)) σ K := fun s va vb ha hb Q E R hQ => by
  obtain ⟨_, _, _, rfl, p, q⟩ := ha.lst_inv
  obtain ⟨_, _, _, rfl, p', q'⟩ := hb.lst_inv
  exact rc_rows p.1 p'.1 q q' (by have := R.ok.rm.un; lia) _ _ _ _ (Run.same (tk := s.toks) R hQ k rfl)
end
end Mine
end
section
open PySem PySem.Calls PyProof.Rows
open PySem.SeqAt (EqAt RcAt RcNeAt)
open PySem.AutoSeq1 (wpAny_loadPart')
open PySem.MeetsSeq PySem.MeetsSeq2 PySem.MeetsSeq3 PySem.SeqRoads2
namespace Mine

/-- the order of lists of integers -/
def ltI : List Int → List Int → Bool
  | [], [] => false
  | [], _ :: _ => true
  | _ :: _, [] => false
  | x :: xs, y :: ys => if x = y then ltI xs ys else decide (x < y)

def IsInts (vs : List Value) (xs : List Int) : Prop := ∃ P, IsVs P vs (xs.map .int)
theorem IsInts.len {vs : List Value} {xs : List Int} (h : IsInts vs xs) : vs.length = xs.length := by obtain ⟨P, h⟩ := h; simpa using h.length
theorem IsInts.at {vs : List Value} {xs : List Int} (h : IsInts vs xs) {j : Nat} (hj : j < vs.length) : ∃ t, vs[j] = .int (xs[j]'(h.len ▸ hj)) t := by
  obtain ⟨P, h'⟩ := id h
  obtain ⟨x, t, hx, e⟩ := ints_at h' hj
  have hj' : j < xs.length := h.len ▸ hj
  rw [List.getElem?_eq_getElem hj'] at hx
  cases hx; exact ⟨t, e⟩

theorem lt_loop (l b : Addr) (vs ws : List Value) (xs ys : List Int) (n m : Nat) (hv : IsInts vs xs) (hw : IsInts ws ys) (k : Nat) :
    ∀ i : Nat, xs.length - i = k → i ≤ xs.length → i ≤ ys.length → Meets (Builtin.«list.__eq__.loop» ⟨[.ref l, .ref b, rawInt i, rawInt 0], []⟩)
      (fun A R s => s.heap.get? l = some (lobj vs n) ∧ s.heap.get? b = some (lobj ws m) ∧ R (.ok (.ret (.bool (ltI (xs.drop i) (ys.drop i))))) s) := by
  have l1 := hv.len
  have l2 := hw.len
  induction k with
  | zero =>
    intro i hk hi1 hi2 prog w A R s h
    obtain ⟨hp, g, d, tk, os⟩ := s; obtain ⟨hl, hb, h⟩ := h
    have hi : i = xs.length := by lia
    wp_walk using wpAny_loadPart' hl, wpAny_loadPart' hb
    have e1 : vs.toArray[((i : Nat) : Int).toNat]? = none := by simp [l1]; lia
    rw [e1]
    wp_walk using wpAny_loadPart' hl, wpAny_loadPart' hb
    show R (.ok (.ret (.bool (decide (vs.toArray.size < ws.toArray.size))))) _
    have e2 : ltI (xs.drop i) (ys.drop i) = decide (vs.toArray.size < ws.toArray.size) := by
      rw [hi, List.drop_length]
      simp only [List.size_toArray, l1, l2]
      cases hy : ys.drop xs.length with
      | nil =>
        have : ys.length ≤ xs.length := by simpa using hy
        simp [ltI]; lia
      | cons y r =>
        have : ¬ ys.length ≤ xs.length := fun q => by rw [List.drop_of_length_le q] at hy; cases hy
        simp [ltI]; lia
    rw [← e2]; exact h
  | succ k ih =>
    intro i hk hi1 hi2 prog w A R s h
    obtain ⟨hp, g, d, tk, os⟩ := s; obtain ⟨hl, hb, h⟩ := h
    have hlt : i < xs.length := by lia
    by_cases hlt2 : i < ys.length
    · have hlv : i < vs.length := by lia
      have hlw : i < ws.length := by lia
      obtain ⟨t, ex⟩ := hv.at hlv
      obtain ⟨u, ey⟩ := hw.at hlw
      have e1 : vs.toArray[((i : Nat) : Int).toNat]? = some (.int xs[i] t) := by
        rw [← ex]; simp [hlv]
      have e2 : ws.toArray[((i : Nat) : Int).toNat]? = some (.int ys[i] u) := by
        rw [← ey]; simp [hlw]
      have hd1 : xs.drop i = xs[i] :: xs.drop (i + 1) := List.drop_eq_getElem_cons hlt
      have hd2 : ys.drop i = ys[i] :: ys.drop (i + 1) := List.drop_eq_getElem_cons hlt2
      rw [hd1, hd2] at h
      have hc : ((i : Int) + 1) = ((i + 1 : Nat) : Int) := by push_cast; rfl
      wp_walk using wpAny_loadPart' hl, wpAny_loadPart' hb
      rw [e1, e2]
      refine wpAny_bind (SeqAt.EqAt.int_int (A := A.in1) xs[i] t ys[i] u prog w _ _ ?_)
      by_cases hxy : xs[i] = ys[i]
      · rw [show (xs[i] == ys[i]) = true by simp [hxy]]
        rw [ltI, if_pos hxy] at h
        wp_walk
        rw [hc]
        exact ⟨plainId_quiet plain_eq_loop _, codeAny_builtin entry_eq_loop (by
          rw [Around.under_plainId plain_eq_loop _]
          exact ih (i + 1) (by lia) (by lia) (by lia) prog w A R _ ⟨hl, hb, h⟩)⟩
      · rw [show (xs[i] == ys[i]) = false by simp [hxy]]
        rw [ltI, if_neg hxy] at h
        wp_walk using wpAny_loadPart' hl, wpAny_loadPart' hb
        rw [e1, e2]
        show wpAny (model prog w) A.in1 (richCompare .Lt (.int xs[i] t) (.int ys[i] u) >>= fun r => ret r) _ _ _
        exact wpAny_bind (show wpAny (model prog w) A.in1 (richCompare .Lt (.int xs[i] t) (.int ys[i] u)) _ _ _ from P.lt_int (wpAny_pure h))
    · have hi : i = ys.length := by lia
      have e2 : ws.toArray[((i : Nat) : Int).toNat]? = none := by simp [l2]; lia
      have hlv : i < vs.length := by lia
      have e1 : vs.toArray[((i : Nat) : Int).toNat]? = some vs[i] := by simp [hlv]
      wp_walk using wpAny_loadPart' hl, wpAny_loadPart' hb
      rw [e1, e2]
      wp_walk using wpAny_loadPart' hl, wpAny_loadPart' hb
      show R (.ok (.ret (.bool (decide (vs.toArray.size < ws.toArray.size))))) _
      have e3 : ltI (xs.drop i) (ys.drop i) = decide (vs.toArray.size < ws.toArray.size) := by
        rw [List.drop_eq_getElem_cons hlt, List.drop_of_length_le (by lia : ys.length ≤ i)]
        simp only [List.size_toArray, l1, l2, ltI]
        symm; rw [decide_eq_false_iff_not]; lia
      rw [← e3]; exact h

theorem list_lt (l b : Addr) (vs ws : List Value) (xs ys : List Int) (n m : Nat) (hv : IsInts vs xs) (hw : IsInts ws ys) :
    Meets (Builtin.«list.__lt__» ⟨[.ref l, .ref b], []⟩)
      (fun A R s => s.heap.get? l = some (lobj vs n) ∧ s.heap.get? b = some (lobj ws m) ∧ R (.ok (.ret (.bool (ltI xs ys)))) s) := by
  intro prog w A R s h
  obtain ⟨hp, g, d, tk, os⟩ := s; obtain ⟨hl, hb, h⟩ := h
  have f3 := AutoSeq1.sub_list_list
  wp_walk using wpAny_loadPart' hl, wpAny_loadPart' hb
  exact ⟨plainId_quiet plain_eq_loop _, codeAny_builtin entry_eq_loop (by
    rw [Around.under_plainId plain_eq_loop _]
    exact lt_loop l b vs ws xs ys n m hv hw _ 0 rfl (Nat.zero_le _) (Nat.zero_le _) prog w A R _ ⟨hl, hb, by simpa using h⟩)⟩

section
variable {prog : Program} {w : World} {A : Around} {E : Value → Shared → Prop} {s : Shared}
theorem key_lt {l b : Addr} {vs ws : List Value} {xs ys : List Int} {n m : Nat} {Q : Bool → Shared → Prop} (hl : s.heap.get? l = some (lobj vs n)) (hb : s.heap.get? b = some (lobj ws m)) (hv : IsInts vs xs) (hw : IsInts ws ys) (hu : A.units < cLine) (h : Q (ltI xs ys) s) :
    wpAny (model prog w) A (keyLt' oneType' (.ref l) (.ref b)) Q E s := by
  rw [keyLt'_oneType, oneLt'_eq]
  simp only [if_true]
  refine wpAny_bind (wpAny_cRoomFor hu ?_)
  refine wpAny_bind (wpAny_callSpecialIfBound?_slot ⟨_, hl, rfl⟩ F.slot_list_lt (call_meets F.slot_list_lt ⟨_, hl, rfl⟩ F.entry_list_lt (F.args_list_lt_2 _ _) (list_lt l b vs ws xs ys n m hv hw) ⟨hl, hb, ?_⟩))
  exact wpAny_truthy_bool h
end
end Mine
end
section
open PySem PySem.Calls PyProof.Rows PySem.W
set_option genSizeOf false
set_option genSizeOfSpec false
set_option genInjectivity false
namespace Mine

/-- the order of rows -/
theorem ltI_refl : ∀ a : List Int, ltI a a = false
  | [] => rfl
  | x :: xs => by simp [ltI, ltI_refl xs]
theorem ltI_trans : ∀ {a b c : List Int}, ltI b a = false → ltI c b = false → ltI c a = false
  | [], _, [], _, _ => rfl
  | [], _, _ :: _, _, _ => rfl
  | _ :: _, [], _, h, _ => by simp [ltI] at h
  | _ :: _, _ :: _, [], _, h => by simp [ltI] at h
  | x :: xs, y :: ys, z :: zs, h, k => by
    simp only [ltI] at h k ⊢
    by_cases h1 : y = x
    · subst h1
      rw [if_pos rfl] at h
      by_cases h2 : z = y
      · subst h2
        rw [if_pos rfl] at k ⊢
        exact ltI_trans h k
      · rw [if_neg h2] at k ⊢; exact k
    · rw [if_neg h1] at h
      by_cases h2 : z = y
      · subst h2
        rw [if_neg h1]; exact h
      · rw [if_neg h2] at k
        simp only [decide_eq_false_iff_not] at h k
        rw [if_neg (by lia)]
        simp only [decide_eq_false_iff_not]; lia
theorem ltI_asymm : ∀ {a b : List Int}, ltI a b = true → ltI b a = false
  | [], [], h => by simp [ltI] at h
  | [], _ :: _, _ => rfl
  | _ :: _, [], h => by simp [ltI] at h
  | x :: xs, y :: ys, h => by
    simp only [ltI] at h ⊢
    by_cases h1 : x = y
    · subst h1; rw [if_pos rfl] at h ⊢; exact ltI_asymm h
    · rw [if_neg h1] at h; rw [if_neg (fun e => h1 e.symm)]
      simp only [decide_eq_true_eq] at h
      simp only [decide_eq_false_iff_not]; lia
theorem ltI_anti : ∀ {a b : List Int}, ltI a b = false → ltI b a = false → a = b
  | [], [], _, _ => rfl
  | [], _ :: _, h, _ => by simp [ltI] at h
  | _ :: _, [], _, h => by simp [ltI] at h
  | x :: xs, y :: ys, h, k => by
    simp only [ltI] at h k
    by_cases h1 : x = y
    · subst h1; rw [if_pos rfl] at h k; rw [ltI_anti h k]
    · rw [if_neg h1] at h; rw [if_neg (fun e => h1 e.symm)] at k
      simp only [decide_eq_false_iff_not] at h k; lia
def leI (a b : List Int) : Prop := ltI b a = false

section
variable {n : Nat} {ks : Nat → List Int} {cmp : Nat → Nat → (Bool → Shared → Prop) → Shared → Prop}
abbrev at' (p : Array Nat) (i : Nat) : Nat := p.getD i 0
def SortedP (ks : Nat → List Int) (p : Array Nat) (k : Nat) : Prop := ∀ i j, i ≤ j → j < k → leI (ks (at' p i)) (ks (at' p j))
def NonIncP (ks : Nat → List Int) (p : Array Nat) (k : Nat) : Prop := ∀ i j, i ≤ j → j < k → leI (ks (at' p j)) (ks (at' p i))
/-- an arrangement of the n places -/
structure Arr (n : Nat) (p : Array Nat) : Prop where
  pm : p.toList.Perm (List.range n)
theorem Arr.size {p : Array Nat} (h : Arr n p) : p.size = n := by have := h.pm.length_eq; simpa using this
theorem Arr.lt {p : Array Nat} (h : Arr n p) (h0 : 0 < n) (i : Nat) : at' p i < n := by
  unfold at'
  by_cases hi : i < p.size
  · have e : p.getD i 0 = p[i] := by simp [Array.getD, hi]
    rw [e]
    have : p[i] ∈ p.toList := by simp
    have := (h.pm.mem_iff).mp this
    simpa using this
  · have e : p.getD i 0 = 0 := by simp [Array.getD, hi]
    rw [e]; exact h0
theorem Arr.rev {p : Array Nat} (h : Arr n p) (i j : Nat) : Arr n (kas_rev p i j) := ⟨(Array.perm_iff_toList_perm.mp (mirror_perm p i j ((j - i) / 2))).trans h.pm⟩
theorem Arr.bub {p : Array Nat} (h : Arr n p) (i j : Nat) : Arr n (bubble p i j) := ⟨(Array.perm_iff_toList_perm.mp (bubble_perm p i j)).trans h.pm⟩
theorem at_congr {p q : Array Nat} {i j : Nat} (h : p[i]? = q[j]?) : at' p i = at' q j := by
  have e : ∀ (r : Array Nat) (k : Nat), at' r k = (r[k]?).getD 0 := fun r k => by simp [at', Array.getD_eq_getD_getElem?]
  rw [e, e, h]
theorem at_rev {p : Array Nat} {i j : Nat} (hj : j ≤ p.size) (k : Nat) : at' (kas_rev p i j) k = if i ≤ k ∧ k < j then at' p (i + j - 1 - k) else at' p k := by
  have e := getElem?_mirror_all (xs := p) (i := i) hj k
  unfold kas_rev
  by_cases h1 : i ≤ k ∧ k < j
  · rw [if_pos h1] at e ⊢; exact at_congr e
  · rw [if_neg h1] at e ⊢; exact at_congr e
theorem at_bub {p : Array Nat} {src d : Nat} (hs : src < p.size) (hd : d ≤ src) (k : Nat) :
    at' (bubble p src d) k = if k = src - d then at' p src else if src - d < k ∧ k ≤ src then at' p (k - 1) else at' p k := by
  have e := getElem?_bubble hs d hd k
  by_cases h1 : k = src - d
  · rw [if_pos h1] at e ⊢; exact at_congr e
  · rw [if_neg h1] at e ⊢
    by_cases h2 : src - d < k ∧ k ≤ src
    · rw [if_pos h2] at e ⊢; exact at_congr e
    · rw [if_neg h2] at e ⊢; exact at_congr e

theorem SortedP.snoc {p : Array Nat} {m : Nat} (h : SortedP ks p m) (h1 : 1 ≤ m) (hn : ltI (ks (at' p m)) (ks (at' p (m - 1))) = false) : SortedP ks p (m + 1) := by
  intro i j hij hj
  by_cases hjm : j = m
  · subst hjm
    by_cases hi : i = j
    · subst hi; exact ltI_refl _
    · exact ltI_trans (h i (j - 1) (by lia) (by lia)) hn
  · exact h i j hij (by lia)
theorem NonIncP.snoc {p : Array Nat} {m : Nat} (h : NonIncP ks p m) (h1 : 1 ≤ m) (hn : leI (ks (at' p m)) (ks (at' p (m - 1)))) : NonIncP ks p (m + 1) := by
  intro i j hij hj
  by_cases hjm : j = m
  · subst hjm
    by_cases hi : i = j
    · subst hi; exact ltI_refl _
    · exact ltI_trans hn (h i (j - 1) (by lia) (by lia))
  · exact h i j hij (by lia)

/-- the comparison tells ltI of the keys -/
def CmpOk (n : Nat) (ks : Nat → List Int) (cmp : Nat → Nat → (Bool → Shared → Prop) → Shared → Prop) (S : Shared → Prop) : Prop := ∀ i j C s, i < n → j < n → S s → C (ltI (ks i) (ks j)) s → cmp i j C s
variable {S : Shared → Prop} {s : Shared}

theorem asc_ok (hc : CmpOk n ks cmp S) (hs : S s) (h0 : 0 < n) {p : Array Nat} (hp : Arr n p) {Q : Nat → Shared → Prop} : ∀ (f m : Nat), 1 ≤ m → SortedP ks p m →
    (∀ m', m ≤ m' → m' ≤ m + f → SortedP ks p m' → (m' < m + f → ltI (ks (at' p m')) (ks (at' p (m' - 1))) = true) → Q m' s) → (kas_asc p f m).kasWp cmp Q s
  | 0, m, h1, h, k => k m (Nat.le_refl _) (Nat.le_refl _) h (fun q => absurd q (Nat.lt_irrefl _))
  | f + 1, m, h1, h, k => by
    show cmp _ _ _ s
    refine hc _ _ _ s (hp.lt h0 _) (hp.lt h0 _) hs ?_
    cases e : ltI (ks (at' p m)) (ks (at' p (m - 1))) with
    | true => exact k m (Nat.le_refl _) (by lia) h (fun _ => e)
    | false => exact asc_ok hc hs h0 hp f (m + 1) (by lia) (h.snoc h1 e) fun m' a b c d => k m' (by lia) (by lia) c (fun q => d (by lia))

/-- the last q + 1 before m are alike -/
def Alike (ks : Nat → List Int) (p : Array Nat) (a m : Nat) : Prop := ∀ k, a ≤ k → k < m → ks (at' p k) = ks (at' p (m - 1))
theorem rev_alike {p : Array Nat} {a m : Nat} (h : Alike ks p a m) (hm : m ≤ p.size) (k : Nat) : ks (at' (kas_rev p a m) k) = ks (at' p k) := by
  rw [at_rev hm]
  split
  · rename_i hk
    rw [h _ (by lia) (by lia), h k (by lia) (by lia)]
  · rfl
theorem NonIncP.congr {p q : Array Nat} {m : Nat} (h : NonIncP ks p m) (e : ∀ k, ks (at' q k) = ks (at' p k)) : NonIncP ks q m := fun i j hij hj => by rw [e, e]; exact h i j hij hj

theorem desc_ok (hc : CmpOk n ks cmp S) (hs : S s) (h0 : 0 < n) {Q : Array Nat × Nat × Nat → Shared → Prop} : ∀ (f : Nat) (p : Array Nat) (m q : Nat), Arr n p → 1 ≤ m → m + f ≤ n → q < m → NonIncP ks p m → Alike ks p (m - (q + 1)) m →
    (∀ p' m' q', Arr n p' → m ≤ m' → m' ≤ m + f → q' < m' → NonIncP ks p' m' → Alike ks p' (m' - (q' + 1)) m' → Q (p', m', q') s) → (kas_desc f p m q).kasWp cmp Q s
  | 0, p, m, q, hp, h1, hz, hq, hn, ha, k => k p m q hp (Nat.le_refl _) (Nat.le_refl _) hq hn ha
  | f + 1, p, m, q, hp, h1, hz, hq, hn, ha, k => by
    have one : ∀ (r : Array Nat), Alike ks r (m + 1 - (0 + 1)) (m + 1) := fun r k h1 h2 => by rw [show k = m + 1 - 1 by lia]
    show cmp _ _ _ s
    refine hc _ _ _ s (hp.lt h0 _) (hp.lt h0 _) hs ?_
    cases e : ltI (ks (at' p m)) (ks (at' p (m - 1))) with
    | true =>
      dsimp only
      rw [if_pos rfl]
      by_cases hq0 : q > 0
      · rw [if_pos hq0]
        have er : ∀ k, ks (at' (kas_rev p (m - (q + 1)) m) k) = ks (at' p k) := rev_alike ha (by rw [hp.size]; lia)
        refine desc_ok hc hs h0 f _ (m + 1) 0 (hp.rev _ _) (by lia) (by lia) (by lia) ((hn.congr er).snoc h1 ?_) (one _) fun p' m' q' a b c => k p' m' q' a (by lia) (by lia)
        rw [er, er]; exact ltI_asymm e
      · rw [if_neg hq0]
        exact desc_ok hc hs h0 f _ (m + 1) 0 hp (by lia) (by lia) (by lia) (hn.snoc h1 (ltI_asymm e)) (one _) fun p' m' q' a b c => k p' m' q' a (by lia) (by lia)
    | false =>
      dsimp only
      rw [if_neg (by simp)]
      show cmp _ _ _ s
      refine hc _ _ _ s (hp.lt h0 _) (hp.lt h0 _) hs ?_
      cases e2 : ltI (ks (at' p (m - 1))) (ks (at' p m)) with
      | true => dsimp only; rw [if_pos rfl]; exact k p m q hp (Nat.le_refl _) (by lia) hq hn ha
      | false =>
        dsimp only
        rw [if_neg (by simp)]
        have eq : ks (at' p m) = ks (at' p (m - 1)) := ltI_anti e e2
        refine desc_ok hc hs h0 f _ (m + 1) (q + 1) hp (by lia) (by lia) (by lia) (hn.snoc h1 e2) ?_ fun p' m' q' a b c => k p' m' q' a (by lia) (by lia)
        intro k h1 h2
        rw [show m + 1 - 1 = m from rfl]
        by_cases hk : k = m
        · rw [hk]
        · rw [eq]; exact ha k (by lia) (by lia)

theorem tail3_ok (hc : CmpOk n ks cmp S) (hs : S s) {p : Array Nat} (hp : Arr n p) {m : Nat} {Q : Nat × Array Nat → Shared → Prop} (h1 : 1 ≤ m) (hm : m ≤ n) (hn : NonIncP ks p m)
    (k : ∀ m' p', Arr n p' → 1 ≤ m' → m' ≤ n → SortedP ks p' m' → Q (m', p') s) : (kas_tail3 m n p).kasWp cmp Q s := by
  unfold kas_tail3
  rw [KasT.kasWp_bind]
  refine asc_ok hc hs (by lia) (hp.rev _ _) _ m h1 ?_ fun m' a b c d => k m' _ (hp.rev _ _) (by lia) (by lia) c
  intro i j hij hj
  rw [at_rev (by rw [hp.size]; exact hm), at_rev (by rw [hp.size]; exact hm), if_pos (by lia), if_pos (by lia)]
  exact hn _ _ (by lia) (by lia)

theorem descPart_ok (hc : CmpOk n ks cmp S) (hs : S s) {p : Array Nat} (hp : Arr n p) {m : Nat} {Q : Nat × Array Nat → Shared → Prop} (h1 : 1 ≤ m) (hm : m + 1 ≤ n) (hn : NonIncP ks p (m + 1))
    (k : ∀ m' p', Arr n p' → 1 ≤ m' → m' ≤ n → SortedP ks p' m' → Q (m', p') s) : (kas_descPart m n p).kasWp cmp Q s := by
  unfold kas_descPart
  rw [KasT.kasWp_bind]
  refine desc_ok hc hs (by lia) _ p (m + 1) 0 hp (by lia) (by lia) (by lia) hn (fun k h1 h2 => by rw [show k = m + 1 - 1 by lia]) fun p' m' q' a b c d e f => ?_
  dsimp only
  by_cases hq : q' > 0
  · rw [if_pos hq]
    exact tail3_ok hc hs (a.rev _ _) (by lia) (by lia) (e.congr (rev_alike f (by rw [a.size]; lia))) k
  · rw [if_neg hq]
    exact tail3_ok hc hs a (by lia) (by lia) e k

theorem count_ok (hc : CmpOk n ks cmp S) (hs : S s) {p : Array Nat} (hp : Arr n p) (h0 : 0 < n) {Q : Nat × Array Nat → Shared → Prop}
    (k : ∀ m' p', Arr n p' → 1 ≤ m' → m' ≤ n → SortedP ks p' m' → Q (m', p') s) : (kas_count n p).kasWp cmp Q s := by
  unfold kas_count
  rw [KasT.kasWp_bind]
  refine asc_ok hc hs h0 hp (n - 1) 1 (Nat.le_refl _) (fun i j hij hj => by rw [show i = 0 by lia, show j = 0 by lia]; exact ltI_refl _) fun m a b c d => ?_
  by_cases e1 : (m == n) = true
  · rw [if_pos e1]
    exact k m p hp a (by lia) c
  · rw [if_neg e1]
    have hmn : m < n := by
      have : m ≠ n := fun q => e1 (by rw [q]; exact beq_self_eq_true _)
      lia
    have lst := d (by lia)
    have small : ∀ {r : Array Nat}, (∀ i j, i < m → j < m → ks (at' r i) = ks (at' r j)) → ltI (ks (at' r m)) (ks (at' r (m - 1))) = true → NonIncP ks r (m + 1) := fun {r} h h' => by
      refine NonIncP.snoc (fun i j hij hj => ?_) a (ltI_asymm h')
      rw [h i j (by lia) hj]; exact ltI_refl _
    by_cases e2 : m > 1
    · rw [if_pos e2]
      show cmp _ _ _ s
      refine hc _ _ _ s (hp.lt h0 _) (hp.lt h0 _) hs ?_
      cases e3 : ltI (ks (at' p 0)) (ks (at' p (m - 1))) with
      | true => dsimp only; rw [if_pos rfl]; exact k m p hp a (by lia) c
      | false =>
        dsimp only
        rw [if_neg (by simp)]
        have e4 : ks (at' p 0) = ks (at' p (m - 1)) := ltI_anti e3 (c 0 (m - 1) (by lia) (by lia))
        have al : ∀ i, i < m → ks (at' p i) = ks (at' p 0) := fun i hi => ltI_anti (c 0 i (by lia) hi) (by rw [e4]; exact c i (m - 1) (by lia) (by lia))
        have er : ∀ k, ks (at' (kas_rev p 0 m) k) = ks (at' p k) := rev_alike (fun k _ h2 => by rw [al k h2, al (m - 1) (by lia)]) (by rw [hp.size]; lia)
        refine descPart_ok hc hs (hp.rev _ _) a (by lia) (small (fun i j hi hj => ?_) ?_) k
        · rw [er, er, al i hi, al j hj]
        · rw [er, er]; exact lst
    · rw [if_neg e2]
      refine descPart_ok hc hs hp a (by lia) (small (fun i j hi hj => ?_) lst) k
      rw [show i = 0 by lia, show j = 0 by lia]

theorem place_ok (hc : CmpOk n ks cmp S) (hs : S s) (h0 : 0 < n) {p : Array Nat} (hp : Arr n p) {k : Nat} (hsrt : SortedP ks p k) {Q : Nat → Shared → Prop} : ∀ (f l r : Nat), r - l ≤ f → l ≤ r → r ≤ k →
    (∀ i, i < l → ltI (ks (at' p k)) (ks (at' p i)) = false) → (∀ i, r ≤ i → i < k → ltI (ks (at' p k)) (ks (at' p i)) = true) →
    (∀ l, l ≤ k → (∀ i, i < l → ltI (ks (at' p k)) (ks (at' p i)) = false) → (∀ i, l ≤ i → i < k → ltI (ks (at' p k)) (ks (at' p i)) = true) → Q l s) → (kas_place p k f l r).kasWp cmp Q s
  | 0, l, r, hf, hl, hr, h1, h2, q => q l (by lia) h1 (fun i a b => h2 i (by lia) b)
  | f + 1, l, r, hf, hl, hr, h1, h2, q => by
    unfold kas_place
    by_cases hlr : l ≥ r
    · rw [if_pos hlr]; exact q l (by lia) h1 (fun i a b => h2 i (by lia) b)
    · rw [if_neg hlr]
      show cmp _ _ _ s
      refine hc _ _ _ s (hp.lt h0 _) (hp.lt h0 _) hs ?_
      cases e : ltI (ks (at' p k)) (ks (at' p ((l + r) / 2))) with
      | true =>
        dsimp only
        rw [if_pos rfl]
        refine place_ok hc hs h0 hp hsrt f l ((l + r) / 2) (by lia) (by lia) (by lia) h1 (fun i a b => ?_) q
        cases e5 : ltI (ks (at' p k)) (ks (at' p i)) with
        | true => rfl
        | false =>
          have := ltI_trans (hsrt ((l + r) / 2) i a b) e5
          rw [e] at this; cases this
      | false =>
        dsimp only
        rw [if_neg (by simp)]
        refine place_ok hc hs h0 hp hsrt f ((l + r) / 2 + 1) r (by lia) (by lia) hr (fun i a => ?_) h2 q
        by_cases hi : i = (l + r) / 2
        · rw [hi]; exact e
        · exact ltI_trans (hsrt i ((l + r) / 2) (by lia) (by lia)) e

theorem bin_ok (hc : CmpOk n ks cmp S) (hs : S s) (h0 : 0 < n) {Q : Array Nat → Shared → Prop} : ∀ (f : Nat) (p : Array Nat) (k : Nat), Arr n p → k + f = n → SortedP ks p k → (∀ p', Arr n p' → SortedP ks p' n → Q p' s) → (kas_bin f p k).kasWp cmp Q s
  | 0, p, k, hp, hk, h, q => q p hp (by rw [← hk]; exact h)
  | f + 1, p, k, hp, hk, h, q => by
    rw [show kas_bin (f + 1) p k = (kas_place p k k 0 k).bind fun l => kas_bin f (bubble p k (k - l)) (k + 1) from rfl, KasT.kasWp_bind]
    refine place_ok hc hs h0 hp h k 0 k (by lia) (by lia) (by lia) (fun i hi => absurd hi (Nat.not_lt_zero _)) (fun i a b => by lia) fun l hl h1 h2 => ?_
    refine bin_ok hc hs h0 f _ (k + 1) (hp.bub _ _) (by lia) ?_ q
    have e := at_bub (p := p) (src := k) (d := k - l) (by rw [hp.size]; lia) (by lia)
    rw [show k - (k - l) = l by lia] at e
    intro i j hij hj
    rw [e i, e j]
    by_cases i1 : i = l
    · rw [if_pos i1]
      by_cases j1 : j = l
      · rw [if_pos j1]; exact ltI_refl _
      · rw [if_neg j1, if_pos (by lia)]
        exact ltI_asymm (h2 _ (by lia) (by lia))
    · rw [if_neg i1]
      by_cases i2 : l < i ∧ i ≤ k
      · rw [if_pos i2, if_neg (by lia), if_pos (by lia)]
        exact h _ _ (by lia) (by lia)
      · rw [if_neg i2]
        by_cases j1 : j = l
        · rw [if_pos j1]; exact h1 i (by lia)
        · rw [if_neg j1]
          by_cases j2 : l < j ∧ j ≤ k
          · rw [if_pos j2]; exact h _ _ (by lia) (by lia)
          · rw [if_neg j2]; exact h _ _ (by lia) (by lia)

theorem sort_ok (hc : CmpOk n ks cmp S) (hs : S s) (h0 : 0 < n) {Q : Array Nat → Shared → Prop} (k : ∀ p, Arr n p → SortedP ks p n → Q p s) : (kas_sort n).kasWp cmp Q s := by
  unfold kas_sort
  rw [KasT.kasWp_bind]
  refine count_ok hc hs ⟨by simp⟩ h0 fun m p hp h1 hm h => ?_
  dsimp only
  by_cases hl : m < n
  · rw [if_pos hl, show max m 1 = m by lia]
    exact bin_ok hc hs h0 _ p m hp (by lia) h k
  · rw [if_neg hl]
    exact k p hp (by rw [show n = m by lia]; exact h)
end
end Mine
end
section
open PySem PySem.Calls PyProof.Rows PySem.W
namespace Mine

/-- the item v is the row x, and not at a -/
def RowAt (h : Heap) (a : Addr) (v : Value) (x : List Int) : Prop := ∃ b ws m, v = .ref b ∧ b ≠ a ∧ h.get? b = some (lobj ws m) ∧ IsInts ws x

section
variable {prog : Program} {w : World} {A : Around} {E : Value → Shared → Prop} {s : Shared}

theorem sort_rows {a : Addr} {vs : List Value} {ks : Nat → List Int} {n : Nat} {P : PySem.Fin → Shared → Prop} (hu : A.units < cLine) (ho : s.heap.get? a = some (lobj vs n))
    (hr : ∀ i, i < vs.length → RowAt s.heap a (vs.getD i Value.none) (ks i)) (h64 : vs.length < 64)
    (h : ∀ p, Arr vs.length p → SortedP ks p vs.length → P (.done (.ret .none)) { s with heap := sortedHeap s.heap a vs (p.toList.map fun i => vs.getD i Value.none).toArray }) :
    wpAny (model prog w) A (Builtin.«list.sort» ⟨[.ref a], []⟩) P E s := by
  have ha : a < s.heap.objs.size := Heap.lt_size ho
  obtain ⟨e1, ho1⟩ : ∃ e1, (s.heap.update a (Obj.mapSeq fun _ => (#[] : Array Value))).get? a = some (seqObj "list" #[] e1) := ⟨_, get?_update_seq (xs := vs.toArray) (n := n) ho fun _ => #[]⟩
  have sb := Heap.SameBut.update s.heap a (Obj.mapSeq fun _ => (#[] : Array Value))
  rw [list_sort_plain]
  refine wpAny_bind (listItems_at ho rfl ?_)
  refine wpAny_bind (listUpdate_at ho rfl ?_ (by rw [List.size_toArray, sizeLine_eq]; lia) (Nat.zero_le _))
  refine wpAny_bind (seqEpoch_at ho1 rfl ?_)
  refine wpAny_bind (wpAny_newTuple ?_ (by show vs.length ≤ _; rw [sizeLine_eq]; lia))
  refine wpAny_bind (wpAny_newList ?_ (Nat.zero_le _))
  refine wpAny_holding ?_
  generalize hH : ((s.heap.update a (Obj.mapSeq fun _ => (#[] : Array Value))).push (seqObj "tuple" vs.toArray 0)).push (seqObj "list" #[] 0) = H
  have hH' : sortedHeap s.heap a vs = fun out => H.update a (Obj.mapSeq fun _ => out) := by funext out; rw [← hH]; rfl
  rw [hH'] at h
  have keep : ∀ b o, b ≠ a → s.heap.get? b = some o → H.get? b = some o := fun b o hb e => by
    rw [← hH]; exact Heap.get?_push_of_some _ (Heap.get?_push_of_some _ (sb.extBut b o hb e))
  have ho6 : H.get? a = some (seqObj "list" #[] e1) := by rw [← hH]; exact Heap.get?_push_of_some _ (Heap.get?_push_of_some _ ho1)
  show wpAny (model prog w) A _ P E { s with heap := H }
  dsimp only
  by_cases h2 : vs.toArray.size < 2
  · rw [if_pos h2, if_pos h2]
    refine wpAny_bind (wpAny_pure ?_)
    rw [StateT.run_pure]
    refine wpAny_bind (wpAny_pure ?_)
    dsimp only
    have hz : (vs.toArray.zip vs.toArray).size = vs.length := pairsOf_size vs
    refine wpAny_bind (seqEpoch_at ho6 rfl ?_)
    refine wpAny_bind (listUpdate_at ho6 rfl ?_ (Nat.zero_le _) (by rw [Array.size_map]; show (vs.toArray.zip vs.toArray).size ≤ _; rw [hz, sizeLine_eq]; lia))
    simp only [bne_self_eq_false, Bool.false_eq_true, if_false]
    refine wpAny_pure ?_
    have := h (List.toArray (List.range vs.length)) ⟨by simp⟩ (fun i j hij hj => by
      have : i = j := by simp at h2; lia
      subst this; exact ltI_refl _)
    have e : (arrOf (SortSt.mk' general' (vs.toArray.zip vs.toArray) #[] 7 none)).map (·.2) = ((List.toArray (List.range vs.length)).toList.map fun i => vs.getD i Value.none).toArray := by
      show (vs.toArray.zip vs.toArray).map (·.2) = _
      apply Array.toList_inj.mp
      refine List.ext_getElem (by simp) fun i h1 h2 => ?_
      have hi : i < vs.length := by simpa using h1
      simp [hi]
    rw [e]; exact this
  · rw [if_neg h2, if_neg h2]
    have h2' : 2 ≤ vs.length := by simp at h2; lia
    refine wpAny_bind (kas_kind h2' (T := .type "list") (fun v hv => ?_) (by rfl) (by rfl) ?_)
    · obtain ⟨i, hi, rfl⟩ := List.mem_iff_getElem.mp hv
      obtain ⟨b, ws, m, e, hne, hb, _⟩ := hr i hi
      rw [show vs.getD i Value.none = vs[i] by simp [hi]] at e
      rw [e]
      exact kitAt_ty _ _ ⟨_, keep b _ hne hb, rfl⟩
    have est : SortSt.mk' oneType' (vs.toArray.zip vs.toArray) #[] 7 none = kas_st oneType' (pairsOf vs) (List.toArray (List.range vs.length)) := by
      have e := kas_range (pairsOf vs)
      rw [pairsOf_size] at e
      show SortSt.mk' oneType' (pairsOf vs) #[] 7 none = SortSt.mk' oneType' ((List.toArray (List.range vs.length)).map (kas_item (pairsOf vs))) #[] 7 none
      rw [e]
    have hc : CmpOk vs.length ks (kas_cmp prog w A oneType' (pairsOf vs)) (fun s' => s' = { s with heap := H }) := by
      rintro i j C _ hi hj rfl hC
      rw [← kas_ask_eq]
      unfold kas_ask
      obtain ⟨b, ws, m, e, hne, hb, hi'⟩ := hr i hi
      obtain ⟨b2, ws2, m2, e2, hne2, hb2, hi2⟩ := hr j hj
      rw [e, e2]
      exact key_lt (keep _ _ hne hb) (keep _ _ hne2 hb2) hi' hi2 hu hC
    have run := kas_runs (prog := prog) (w := w) (A := A) (E := E) (s := { s with heap := H }) (κ := oneType') (it := pairsOf vs) (n := vs.length)
      (G := fun p' s' => Arr vs.length p' ∧ SortedP ks p' vs.length ∧ s' = { s with heap := H })
      (Q := fun _ st' s' => ∃ p : Array Nat, Arr vs.length p ∧ SortedP ks p vs.length ∧ arrOf st' = p.map (kas_item (pairsOf vs)) ∧ failedOf st' = none ∧ s' = { s with heap := H })
      h2' h64 (fun p' st' s' a1 a2 a3 a4 => ⟨p', a4.1, a4.2.1, a2, a3, a4.2.2⟩) (sort_ok hc rfl (by lia) fun p hp hs => ⟨hp, hs, rfl⟩)
    rw [← est] at run
    refine wpAny_bind (wpAny_mono run ?_ fun _ _ e => e)
    rintro ⟨⟨⟩, st'⟩ s' ⟨p, hp, hs, har, hf, rfl⟩
    dsimp only
    have hout : (arrOf st').map (·.2) = List.toArray (p.toList.map fun i => vs.getD i Value.none) := by
      apply Array.toList_inj.mp
      rw [har, Array.map_map, Array.toList_map]
      exact List.map_congr_left fun i _ => by show (kas_item (pairsOf vs) i).2 = _; rw [kas_item_eq]
    rw [hout]
    refine wpAny_bind (seqEpoch_at ho6 rfl ?_)
    refine wpAny_bind (listUpdate_at ho6 rfl ?_ (Nat.zero_le _) (by rw [List.size_toArray, List.length_map, Array.length_toList, hp.size, sizeLine_eq]; lia))
    rw [hf]
    simp only [bne_self_eq_false, Bool.false_eq_true, if_false]
    exact wpAny_pure (h p hp hs)

theorem call_sorted_rows {l : Addr} {vs : List Value} {ks : Nat → List Int} {Q : Value → Shared → Prop} (hu : A.in1.in1.units < cLine) (hl : s.heap.IsList l vs.toArray)
    (hr : ∀ i, i < vs.length → ∃ b ws m, vs.getD i Value.none = .ref b ∧ s.heap.get? b = some (lobj ws m) ∧ IsInts ws (ks i)) (h64 : vs.length < 64)
    (h : ∀ p h' n, Arr vs.length p → SortedP ks p vs.length → (∀ a o, s.heap.get? a = some o → h'.get? a = some o) → h'.get? (s.heap.objs.size + 1) = some (lobj (p.toList.map fun i => vs.getD i Value.none) n) → Q (.ref (s.heap.objs.size + 1)) { s with heap := h' }) :
    wpAny (model prog w) A (call (.builtin "sorted") [.ref l]) Q E s := by
  refine Calls.call_function_entry kind_sorted plain_sorted entry_sorted (args_sorted1 _) ?_
  unfold Builtin.«sorted»
  refine wpAny_bind (m := checkCount "sorted" 1 1 _) (wpAny_pure ?_)
  refine wpAny_bind (collect_list hl ?_ (by rw [sizeLine_eq]; lia))
  refine wpAny_bind (wpAny_newList ?_ (by rw [sizeLine_eq]; lia))
  have hsz : ((s.heap.push (seqObj "list" #[] 0)).update s.heap.objs.size (Obj.mapSeq (· ++ vs.toArray))).objs.size = s.heap.objs.size + 1 := by
    rw [Heap.size_update, size_push']
  show wpAny _ _ _ _ _ { s with heap := ((s.heap.push (seqObj "list" #[] 0)).update s.heap.objs.size (Obj.mapSeq (· ++ vs.toArray))).push (seqObj "list" vs.toArray 0) }
  rw [hsz]
  generalize hH : ((s.heap.push (seqObj "list" #[] 0)).update s.heap.objs.size (Obj.mapSeq (· ++ vs.toArray))).push (seqObj "list" vs.toArray 0) = H
  have hoL : H.get? (s.heap.objs.size + 1) = some (lobj vs 0) := by
    rw [← hH, ← hsz]; exact Heap.get?_push_size _ rfl
  have keep : ∀ b o, s.heap.get? b = some o → H.get? b = some o := fun b o q => by
    have hlt : b < s.heap.objs.size := Heap.lt_size q
    rw [← hH]
    refine Heap.get?_push_of_some _ ((Heap.SameBut.update _ _ _).extBut b o (Nat.ne_of_lt hlt) (Heap.get?_push_of_some _ q))
  refine wpAny_bind (wpAny_holding (wpAny_call_entry slot_list_sort ⟨_, hoL, rfl⟩ entry_list_sort (sort_rows (s := { s with heap := H }) (ks := ks) hu hoL (fun i hi => ?_) h64 fun p hp hs => ⟨_, rfl, ?_⟩) (args_list_sort _)))
  · obtain ⟨b, ws, m, e, hb, hi'⟩ := hr i hi
    have hlt : b < s.heap.objs.size := Heap.lt_size hb
    exact ⟨b, ws, m, e, Nat.ne_of_lt (Nat.lt_succ_of_lt hlt), keep _ _ hb, hi'⟩
  · have hne : ∀ {b o}, s.heap.get? b = some o → b ≠ s.heap.objs.size + 1 := fun q => Nat.ne_of_lt (Nat.lt_succ_of_lt (Heap.lt_size q))
    unfold sortedHeap
    generalize hG : ((H.update (s.heap.objs.size + 1) (Obj.mapSeq fun _ => #[])).push (seqObj "tuple" vs.toArray 0)).push (seqObj "list" #[] 0) = G
    have k1 : ∀ b o, s.heap.get? b = some o → G.get? b = some o := fun b o q => by
      rw [← hG]
      exact Heap.get?_push_of_some _ (Heap.get?_push_of_some _ ((Heap.SameBut.update _ _ _).extBut b o (hne q) (keep b o q)))
    obtain ⟨e1, g1⟩ : ∃ e1, (H.update (s.heap.objs.size + 1) (Obj.mapSeq fun _ => (#[] : Array Value))).get? (s.heap.objs.size + 1) = some (seqObj "list" #[] e1) := ⟨_, get?_update_seq (xs := vs.toArray) (n := 0) hoL fun _ => #[]⟩
    have g2 : G.get? (s.heap.objs.size + 1) = some (seqObj "list" #[] e1) := by rw [← hG]; exact Heap.get?_push_of_some _ (Heap.get?_push_of_some _ g1)
    have g3 := get?_update_seq g2 (fun _ => (p.toList.map fun i => vs.getD i Value.none).toArray)
    exact wpAny_pure ⟨_, rfl, h p _ _ hp hs (fun b o q => (Heap.SameBut.update _ _ _).extBut b o (hne q) (k1 b o q)) g3⟩
end

theorem rows_perm {xs : List (List Int)} {p : Array Nat} (hp : Arr xs.length p) : (p.toList.map fun i => xs.getD i []).Perm xs := by
  have h1 := hp.pm.map fun i => xs.getD i []
  have h2 : (List.range xs.length).map (fun i => xs.getD i []) = xs := by
    refine List.ext_getElem (by simp) fun i h1 h2 => ?_
    have hi : i < xs.length := by simpa using h1
    simp [hi]
  rw [h2] at h1; exact h1
theorem rows_sorted {xs : List (List Int)} {p : Array Nat} (hp : Arr xs.length p) (hs : SortedP (fun i => xs.getD i []) p xs.length) : (p.toList.map fun i => xs.getD i []).Pairwise leI := by
  rw [List.pairwise_iff_getElem]
  intro i j hi hj hij
  have hz := hp.size
  have hj' : j < p.size := by simpa using hj
  have hi' : i < p.size := by simpa using hi
  have := hs i j (Nat.le_of_lt hij) (by lia)
  simp only [at', Array.getD, hi', hj', dif_pos] at this
  simpa using this
theorem IsVs.arrange {P : Addr → Obj → Prop} {vs : List Value} {xs : List (List Int)} (h : IsVs P vs (xs.map avL)) : ∀ (l : List Nat), (∀ i ∈ l, i < xs.length) → IsVs P (l.map fun i => vs.getD i Value.none) ((l.map fun i => xs.getD i []).map avL)
  | [], _ => .nil
  | i :: l, hl => by
    have hi := hl i List.mem_cons_self
    obtain ⟨v, hv, iv⟩ := h.get (i := i) (x := avL (xs.getD i [])) (by simp [hi])
    refine .cons ?_ (IsVs.arrange h l fun j hj => hl j (List.mem_cons_of_mem _ hj))
    dsimp only
    rw [show vs.getD i Value.none = v by simp [List.getD, hv]]
    exact iv

section
variable {c : Cx} {σ : St} {K : AV → St → Prop}
theorem bc_sorted {o : AV} {xs : List (List Int)} (ho : Lst σ o (xs.map avL)) (h64 : xs.length < 64) (k : ∀ ys : List (List Int), ys.Perm xs → ys.Pairwise leI → New K σ (ys.map avL)) : BC c (.builtin "sorted") [o] σ K := fun s vs hv Q E R hQ => by
  obtain ⟨_, rfl, h1⟩ := hv.one_inv
  · obtain ⟨l, vs, n, rfl, el, hv⟩ := ho.read R h1
    have hlen : vs.length = xs.length := by simpa using hv.length
    refine call_sorted_rows (ks := fun i => xs.getD i []) (by show c.A.units + 2 < _; have := R.ok.rm.un; lia) (isList_of el) (fun i hi => ?_) (by lia) fun p h' n hp hs g e => ?_
    · obtain ⟨x, a, us, k, hx, ex, eu, iu⟩ := rows_at hv hi
      refine ⟨a, us, k, ?_, eu, ⟨Fz σ.own c.hid s.heap, ?_⟩⟩
      · rw [← ex]; simp [hi]
      · rw [show xs.getD i [] = x by simp [List.getD, hx]]; exact iu
    · rw [hlen] at hp hs
      have iv := IsVs.arrange hv p.toList fun i hi => by have := (hp.pm.mem_iff).mp hi; simpa using this
      exact Run.newList (tk := s.toks) R hQ g (new_addr1 _) e iv (k _ (rows_perm hp) (rows_sorted hp hs))

theorem sorted_uniq : ∀ {xs ys : List (List Int)}, xs.Perm ys → xs.Pairwise leI → ys.Pairwise leI → xs = ys
  | [], ys, h, _, _ => by simpa using h.symm.eq_nil
  | x :: xs, [], h, _, _ => by simpa using h.eq_nil
  | x :: xs, y :: ys, h, hx, hy => by
    have hx' := List.pairwise_cons.mp hx
    have hy' := List.pairwise_cons.mp hy
    have e : x = y := by
      have m1 : x ∈ y :: ys := h.mem_iff.mp List.mem_cons_self
      have m2 : y ∈ x :: xs := h.mem_iff.mpr List.mem_cons_self
      rcases List.mem_cons.mp m1 with e | m1
      · exact e
      · rcases List.mem_cons.mp m2 with e | m2
        · exact e.symm
        · exact ltI_anti (hy'.1 x m1) (hx'.1 y m2)
    subst e
    rw [sorted_uniq (List.Perm.cons_inv h) hx'.2 hy'.2]
end
end Mine
end
section
open PySem PySem.Calls PyProof.Rows PySem.W
set_option genSizeOf false
set_option genSizeOfSpec false
set_option genInjectivity false
namespace Mine

theorem Ste.shrink {S : List Addr} {o o1 o' : Led} {h h' : Heap} (x : Ste S o1 h o' h') (sub : ∀ a ∈ keys o1, a ∈ keys o) : Ste S o h o' h' :=
  ⟨fun a ob ha hs e => x.chg a ob (fun m => ha (sub a m)) hs e, fun a m => (x.fresh a m).imp (sub a) id, x.thr⟩
section
variable {c : Cx} {σ : St} {K : AV → St → Prop} {KF : Fl → St → Prop}
theorem Rel.freeze {s : Shared} {x : Str} {a : Addr} {xs : List AV} {l r : Led} (R : Rel c σ s) (ho : σ.own = l ++ (a, xs) :: r) (hx : σ.loc.lookup x = some (.own a)) : Rel c ⟨(x, .lst xs) :: σ.loc, l ++ r⟩ s := by
  obtain ⟨loc, own⟩ := σ
  have ho' : own = l ++ (a, xs) :: r := ho
  subst ho'
  obtain ⟨h1, ⟨vs, n, hf, hv⟩, up⟩ := R.hr.freeze
  refine ⟨R.ok, h1, R.lr.ns, R.lr.cl, fun y av e => ?_⟩
  by_cases hy : y = x
  · subst hy
    have : av = .lst xs := by simpa using e.symm
    subst this
    obtain ⟨v, iv, sv⟩ := R.lr.loc y _ hx
    cases iv with | own =>
    exact ⟨.ref a, .lst hf hv, sv⟩
  · have hb : (y == x) = false := beq_eq_false_iff_ne.mpr hy
    have e' : loc.lookup y = some av := by simpa [List.lookup_cons, hb] using e
    obtain ⟨v, iv, sv⟩ := R.lr.loc y av e'
    exact ⟨v, iv.mono up, sv⟩
theorem exs_freeze {sts : List Stmt} (x : Str) {a : Addr} {xs : List AV} (l r : Led) (ho : σ.own = l ++ (a, xs) :: r) (hx : σ.loc.lookup x = some (.own a)) (h : Exs c sts ⟨(x, .lst xs) :: σ.loc, l ++ r⟩ KF) : Exs c sts σ KF :=
  fun s Q E R hQ => h s Q E (R.freeze ho hx) fun f fl σ₁ h₁ t₁ k₁ R₁ S₁ v₁ => hQ f fl σ₁ h₁ t₁ k₁ R₁ (S₁.shrink (by
    intro b m; rw [ho]; simp only [keys_append, keys_cons, List.mem_append, List.mem_cons] at m ⊢; rcases m with m | m <;> simp [m])) v₁
theorem ex_freeze {st : Stmt} (x : Str) {a : Addr} {xs : List AV} (l r : Led) (ho : σ.own = l ++ (a, xs) :: r) (hx : σ.loc.lookup x = some (.own a)) (h : Ex c st ⟨(x, .lst xs) :: σ.loc, l ++ r⟩ KF) : Ex c st σ KF :=
  fun s Q E R hQ => h s Q E (R.freeze ho hx) fun f fl σ₁ h₁ t₁ k₁ R₁ S₁ v₁ => hQ f fl σ₁ h₁ t₁ k₁ R₁ (S₁.shrink (by
    intro b m; rw [ho]; simp only [keys_append, keys_cons, List.mem_append, List.mem_cons] at m ⊢; rcases m with m | m <;> simp [m])) v₁

/-- what holds behind the first statement, said -/
theorem exs_mid {st : Stmt} {rest : List Stmt} (M : St → Prop) (h : Ex c st σ fun fl σ₁ => fl = .next ∧ M σ₁) (k : ∀ σ₁, M σ₁ → Exs c rest σ₁ KF) : Exs c (st :: rest) σ KF :=
  exs_cons fun s Q E R hQ => h s Q E R fun f fl σ₁ h₁ t₁ k₁ R₁ S₁ v₁ => hQ f fl σ₁ h₁ t₁ (by obtain ⟨rfl, m⟩ := k₁; exact k _ m) R₁ S₁ v₁

theorem exs_midw {st : Stmt} {rest : List Stmt} (M : St → Prop) (h : Ex c st σ fun fl σ₁ => fl = .next ∧ ∃ σ₂, Wk σ₁ σ₂ ∧ M σ₂) (k : ∀ σ₁, M σ₁ → Exs c rest σ₁ KF) : Exs c (st :: rest) σ KF :=
  exs_cons fun s Q E R hQ => h s Q E R fun f fl σ₁ h₁ t₁ k₁ R₁ S₁ v₁ => hQ f fl σ₁ h₁ t₁ (by obtain ⟨rfl, σ₂, w, m⟩ := k₁; exact exs_wk σ₂ w (k _ m)) R₁ S₁ v₁

theorem exs_mid2 {st : Stmt} {rest : List Stmt} (M : St → Prop) (h : ∀ KM : Fl → St → Prop, (∀ fl σ₁, (fl = .next ∧ M σ₁) → KM fl σ₁) → Ex c st σ KM) (k : ∀ σ₁, M σ₁ → Exs c rest σ₁ KF) : Exs c (st :: rest) σ KF :=
  exs_mid M (h _ fun _ _ x => x) k
theorem exs_midw2 {st : Stmt} {rest : List Stmt} (M : St → Prop) (h : ∀ KM : Fl → St → Prop, (∀ fl σ₁, (fl = .next ∧ ∃ σ₂, Wk σ₁ σ₂ ∧ M σ₂) → KM fl σ₁) → Ex c st σ KM) (k : ∀ σ₁, M σ₁ → Exs c rest σ₁ KF) : Exs c (st :: rest) σ KF :=
  exs_midw M (h _ fun _ _ x => x) k
theorem ex_for2 {target iter : Expr} {body : List Stmt} {pos : Pos} (h : EvI c target iter σ fun hs n item σ₁ => hs = [] ∧ ∃ Inv : Nat → St → Prop, (∃ σ₂, Wk σ₁ σ₂ ∧ Inv 0 σ₂) ∧
      (∀ i σ, i < n → Inv i σ → ∀ KT : Fl → St → Prop, (∀ σ₃, (∃ σ₄, Wk σ₃ σ₄ ∧ Inv (i + 1) σ₄) → KT .next σ₃) → AsT c target (item i) σ fun σ₂ => Exs c body σ₂ KT) ∧ (∀ σ, Inv n σ → KF .next σ))
    (hs : ∀ x, foldedSetIterable iter c.env x = pure x := by intro _; rfl) : Ex c (.For target iter body [] pos) σ KF :=
  ex_for (fun s Q E R hQ => h s Q E R fun it n item σ' h' tk hs wr fp P₀ St k => hQ it n item σ' h' tk hs wr fp P₀ St (by
    obtain ⟨k1, Inv, k2, k3, k4⟩ := k
    exact ⟨k1, Inv, k2, fun i σ hi hI => k3 i σ hi hI _ fun _ x => x, k4⟩)) hs
theorem ex_while2 {test : Expr} {body : List Stmt} {pos : Pos} (Inv : Nat → St → Prop) (n : Nat) (w : ∃ σ₀, Wk σ σ₀ ∧ Inv n σ₀)
    (turn : ∀ n σ, Inv n σ → ∀ KT : Fl → St → Prop, (∀ σ₂, (∃ m σ₃, m < n ∧ Wk σ₂ σ₃ ∧ Inv m σ₃) → KT .next σ₂) → EvT c test σ fun b σ₁ => if b then Exs c body σ₁ KT else KF .next σ₁) : Ex c (.While test body [] pos) σ KF :=
  ex_while Inv n w fun n σ hI => turn n σ hI _ fun _ x => x

def Has (l : List (Str × AV)) : List (Str × AV) → Prop
  | [] => True
  | p :: r => l.lookup p.1 = some p.2 ∧ Has l r
theorem has_mem {l : List (Str × AV)} : ∀ {r : List (Str × AV)}, Has l r → ∀ p ∈ r, l.lookup p.1 = some p.2
  | _ :: _, h, p, hp => by
    rcases List.mem_cons.mp hp with rfl | hp
    · exact h.1
    · exact has_mem h.2 p hp
theorem wk_of {l l' : List (Str × AV)} {o : Led} (h : Has l l') : Wk ⟨l, o⟩ ⟨l', o⟩ := ⟨fun x av e => has_mem h (x, av) (mem_of_lookup e), rfl⟩
theorem wk_of' {l l' : List (Str × AV)} {o o' : Led} (h : Has l l') (ho : o = o') : Wk ⟨l, o⟩ ⟨l', o'⟩ := ho ▸ wk_of h

/-- a built-in's call, its name looked up -/
theorem ev_bc {x : Str} {pn pos : Pos} {v : Value} {e : Expr} {r : List Expr} {names : List (Str × NameKind)} (hx : bis.lookup x = some v) (hk : Kinds c.env names) (hn : names.lookup x = some .globalImplicit)
    (h : EvL c pos (e :: r) σ fun as σ₁ => BC c v as σ₁ K)
    (hv : (∃ id, v = .builtin id) ∨ ∃ T, v = .type T) (hd : (x == ("__debug__" : Str)) = false)
    (he : starEach (e :: r) c.env = (false, eval e c.env) :: starEach r c.env) (hp : (backTo pos (starEach r c.env)).any (·.1) = false) : Ev c (.Call (.Name x pn) (e :: r) [] pos) σ K :=
  ev_bcall (mem_of_lookup hx) (hk.gi hn) hv h hd he hp
/-- a call of a def, by its contract -/
theorem ev_fn {x : Str} {pn pos : Pos} {e : Expr} {r : List Expr} {names : List (Str × NameKind)} (d : FD) (n : Nat) (hd : d ∈ c.g.defs) (hk : Kinds c.env names) (hn : n + 1 ≤ c.n)
    (h : EvL c pos (e :: r) σ fun as σ₁ => ∃ l own t, σ₁.own = l ++ own ++ t ∧ Fn c.g d n as own fun v own' => K v ⟨σ₁.loc, l ++ own' ++ t⟩)
    (hxn : x = d.name := by rfl) (hg : names.lookup x = some .globalImplicit := by rfl) (hdb : (x == ("__debug__" : Str)) = false := by decide)
    (he : starEach (e :: r) c.env = (false, eval e c.env) :: starEach r c.env := by rfl) : Ev c (.Call (.Name x pn) (e :: r) [] pos) σ K :=
  ev_call hd (hk.gi hg) hn h hxn hdb he
theorem Fn.le {g : Gl} {d : FD} {n m : Nat} {args : List AV} {own : Led} {K : AV → Led → Prop} (h : Fn g d n args own K) (hm : n ≤ m) : Fn g d m args own K :=
  fun A fa vs hid s Q E ok rm => h A fa vs hid s Q E ok (rm.le (by omega))
end

section
variable {c : Cx} {σ : St} {KF : Fl → St → Prop}
theorem as_name2 {x : Str} {pos : Pos} {av : AV} {l : List (Str × AV)} {o : Led} {K : St → Prop} (hx : IsVar c.env x) (k : K ⟨(x, av) :: l, o⟩) : AsT c (.Name x pos) av ⟨l, o⟩ K := as_name hx k
theorem asl_nil {xs : List AV} {K : St → Prop} (k : K σ) : AsL c [] xs σ K := by cases xs <;> exact k
theorem asl_cons {t : Expr} {ts : List Expr} {x : AV} {xs : List AV} {K : St → Prop} (k : AsT c t x σ fun σ₁ => AsL c ts xs σ₁ K) : AsL c (t :: ts) (x :: xs) σ K := k
def Put (xs : List (Str × AV)) (σ : St) (K : St → Prop) : Prop := K ⟨xs ++ σ.loc, σ.own⟩
theorem put2 {x y : Str × AV} {l : List (Str × AV)} {o : Led} {K : St → Prop} (k : K ⟨x :: y :: l, o⟩) : Put [x, y] ⟨l, o⟩ K := k
theorem put3 {x y z : Str × AV} {l : List (Str × AV)} {o : Led} {K : St → Prop} (k : K ⟨x :: y :: z :: l, o⟩) : Put [x, y, z] ⟨l, o⟩ K := k
theorem ex_swap2 {x1 x2 : Str} {p1 p2 tp vp pos : Pos} {k k2 : Nat} {v1 v2 : Expr} {names : List (Str × NameKind)} (hk : Kinds c.env names)
    (h : Ev c v1 σ fun a σ₁ => Ev c v2 σ₁ fun b σ₂ => Put [(x1, a), (x2, b)] σ₂ (KF .next)) (h1 : names.lookup x1 = some .local := by rfl) (h2 : names.lookup x2 = some .local := by rfl)
    (hv : ([v1, v2].any starry) = false := by rfl) (hl : (p2.line == p1.line) = true := by rfl) (hn : (x1 == x2) = false := by decide) (hf : [v1, v2].all (foldedForSure 8) = false := by rfl) (hc : [v1, v2].all (constantsAlone 8) = false := by rfl)
    (he1 : starEach [v1, v2] c.env = (false, eval v1 c.env) :: starEach [v2] c.env := by rfl) (he2 : starEach [v2] c.env = (false, eval v2 c.env) :: starEach [] c.env := by rfl)
    (hs : swapsWithSole [.Tuple [.Name x1 p1, .Name x2 p2] k tp] (.Tuple [v1, v2] k2 vp) pos.line c.env = pure false := by rfl) : Ex c (.Assign [.Tuple [.Name x1 p1, .Name x2 p2] k tp] (.Tuple [v1, v2] k2 vp) pos) σ KF := fun s Q E R hQ =>
  ex_swap (swap2 R.ok.ek (hk.k _ _ h1) (hk.k _ _ h2) hv hl hn hf hc)
    (ev_tuple (evl_cons (fun s Q E R hQ => h s Q E R fun v b σ' h' tk kk => hQ v b σ' h' tk (evl_cons (fun s Q E R hQ => kk s Q E R fun v b σ' h' tk kk => hQ v b σ' h' tk (evl_nil ⟨by simp, _, rfl, rfl, hk.vl h2, hk.vl h1, kk⟩)) he2)) he1)) hs s Q E R hQ
theorem ex_swap3 {x1 x2 x3 : Str} {p1 p2 p3 tp vp pos : Pos} {k k2 : Nat} {v1 v2 v3 : Expr} {names : List (Str × NameKind)} (hk : Kinds c.env names)
    (h : Ev c v1 σ fun a σ₁ => Ev c v2 σ₁ fun b σ₂ => Ev c v3 σ₂ fun d σ₃ => Put [(x1, a), (x2, b), (x3, d)] σ₃ (KF .next)) (h1 : names.lookup x1 = some .local := by rfl) (h2 : names.lookup x2 = some .local := by rfl) (h3 : names.lookup x3 = some .local := by rfl)
    (hv : ([v1, v2, v3].any starry) = false := by rfl) (hl : (p2.line == p1.line) = true := by rfl) (hl3 : (p3.line == p1.line) = true := by rfl) (hn : (x2 == x1) = false := by decide) (hn2 : (x3 == x1) = false := by decide) (hn3 : (x3 == x2) = false := by decide) (hf : [v1, v2, v3].all (foldedForSure 8) = false := by rfl) (hc : [v1, v2, v3].all (constantsAlone 8) = false := by rfl)
    (he1 : starEach [v1, v2, v3] c.env = (false, eval v1 c.env) :: starEach [v2, v3] c.env := by rfl) (he2 : starEach [v2, v3] c.env = (false, eval v2 c.env) :: starEach [v3] c.env := by rfl) (he3 : starEach [v3] c.env = (false, eval v3 c.env) :: starEach [] c.env := by rfl)
    (hs : swapsWithSole [.Tuple [.Name x1 p1, .Name x2 p2, .Name x3 p3] k tp] (.Tuple [v1, v2, v3] k2 vp) pos.line c.env = pure false := by rfl) : Ex c (.Assign [.Tuple [.Name x1 p1, .Name x2 p2, .Name x3 p3] k tp] (.Tuple [v1, v2, v3] k2 vp) pos) σ KF := fun s Q E R hQ =>
  ex_swap (swap3 R.ok.ek (hk.k _ _ h1) (hk.k _ _ h2) (hk.k _ _ h3) hv hl hl3 hn hn2 hn3 hf hc)
    (ev_tuple (evl_cons (fun s Q E R hQ => h s Q E R fun v b σ' h' tk kk => hQ v b σ' h' tk (evl_cons (fun s Q E R hQ => kk s Q E R fun v b σ' h' tk kk => hQ v b σ' h' tk (evl_cons (fun s Q E R hQ => kk s Q E R fun v b σ' h' tk kk => hQ v b σ' h' tk (evl_nil ⟨by simp, _, rfl, rfl, hk.vl h3, hk.vl h2, hk.vl h1, kk⟩)) he3)) he2)) he1)) hs s Q E R hQ
theorem ex_cells2 {x1 x2 : Str} {p1 p2 tp vp pos : Pos} {k k2 : Nat} {v1 v2 : Expr} {names : List (Str × NameKind)} (hk : Kinds c.env names)
    (h : Ev c v1 σ fun a σ₁ => Ev c v2 σ₁ fun b σ₂ => Put [(x2, b), (x1, a)] σ₂ (KF .next)) (h0 : names.lookup x1 = some .cell ∨ names.lookup x2 = some .cell) (h1 : IsVar c.env x1) (h2 : IsVar c.env x2)
    (hv : ([v1, v2].any starry) = false := by rfl)
    (he1 : starEach [v1, v2] c.env = (false, eval v1 c.env) :: starEach [v2] c.env := by rfl) (he2 : starEach [v2] c.env = (false, eval v2 c.env) :: starEach [] c.env := by rfl)
    (hs : swapsWithSole [.Tuple [.Name x1 p1, .Name x2 p2] k tp] (.Tuple [v1, v2] k2 vp) pos.line c.env = pure false := by rfl) : Ex c (.Assign [.Tuple [.Name x1 p1, .Name x2 p2] k tp] (.Tuple [v1, v2] k2 vp) pos) σ KF := fun s Q E R hQ =>
  ex_assign (ev_tuple (evl_cons (fun s Q E R hQ => h s Q E R fun v b σ' h' tk kk => hQ v b σ' h' tk (evl_cons (fun s Q E R hQ => kk s Q E R fun v b σ' h' tk kk => hQ v b σ' h' tk (evl_nil ⟨by simp, as_tuple (by exact as_name (K := fun σ₁ => AsL c [.Name x2 p2] _ σ₁ _) h1 (by exact as_name (K := fun σ₁ => AsL c [] _ σ₁ _) h2 kk))⟩)) he2)) he1)) hs
    (swapCell2 R.ok.ek (h0.imp (hk.k _ _) (hk.k _ _)) hv) (by rfl) s Q E R hQ
end
theorem if_ff {A B : Prop} (h : B) : if false = true then A else B := by simpa using h
theorem if_tt {A B : Prop} (h : A) : if true = true then A else B := by simpa using h
theorem if_not {b : Bool} {A B : Prop} (h : if b = true then B else A) : if (!b) = true then A else B := by cases b <;> simpa using h
theorem if_dec {P : Prop} {inst : Decidable P} {A B : Prop} (h1 : P → A) (h2 : ¬ P → B) : if decide P = true then A else B := by
  by_cases h : P
  · simpa [h] using h1 h
  · simpa [h] using h2 h
theorem if_beq {i j : Int} {A B : Prop} (h1 : i = j → A) (h2 : i ≠ j → B) : if (i == j) = true then A else B := by
  by_cases h : i = j
  · simpa [h] using h1 h
  · simpa [h] using h2 h
theorem if_bne {i j : Int} {A B : Prop} (h1 : i ≠ j → A) (h2 : i = j → B) : if (i != j) = true then A else B := by
  by_cases h : i = j
  · simpa [h] using h2 h
  · simpa [h] using h1 h

def eqI (xs ys : List Int) : Bool := decide (xs = ys)
theorem if_eqI {xs ys : List Int} {A B : Prop} (h1 : xs = ys → A) (h2 : xs ≠ ys → B) : if eqI xs ys = true then A else B := by
  by_cases h : xs = ys
  · simpa [h, eqI] using h1 h
  · simpa [h, eqI] using h2 h
def eqR (xs ys : List (List Int)) : Bool := decide (xs = ys)
theorem if_eqR {xs ys : List (List Int)} {A B : Prop} (h1 : xs = ys → A) (h2 : xs ≠ ys → B) : if eqR xs ys = true then A else B := by
  by_cases h : xs = ys
  · simpa [h, eqR] using h1 h
  · simpa [h, eqR] using h2 h
section
variable {c : Cx} {σ : St} {K : Bool → St → Prop}
theorem cmp_eqLi {x y : AV} {xs ys : List Int} (hx : Lst σ x (xs.map .int)) (hy : Lst σ y (ys.map .int)) (k : K (eqI xs ys) σ) : Cmp c .Eq x y σ K := cmp_eqL hx hy k
theorem cmp_neLi {x y : AV} {xs ys : List Int} (hx : Lst σ x (xs.map .int)) (hy : Lst σ y (ys.map .int)) (k : K (!eqI xs ys) σ) : Cmp c .NotEq x y σ K := cmp_neL hx hy k
theorem cmp_eqRr {xs ys : List (List Int)} (k : K (eqR xs ys) σ) : Cmp c .Eq (.lst (xs.map avL)) (.lst (ys.map avL)) σ K := cmp_eqR k
end

theorem fn_intro2 {g : Gl} {d : FD} {n : Nat} {args : List AV} {own : Led} {K : AV → Led → Prop} (names : List Str) (hd : d ∈ g.defs)
    (hb : ∀ pm code doc (vs : List Value), vs.length = names.length → bindArgs (docDef d.name d.params d.body d.scope pm code doc) ⟨vs, []⟩ = pure (names.zip vs))
    (hkn : ∀ x ∈ names, d.scope.names.lookup x = some .local ∨ d.scope.names.lookup x = some .cell)
    (hlen : args.length = names.length) (hfree' : ∀ p ∈ d.scope.names, p.2 ≠ .free)
    (hk : d.scope.kind = .function) (hco : d.scope.isCoroutine = false) (hgen : d.scope.isGenerator = false)
    (body : ∀ c : Cx, c.g = g → c.n = n → Kinds c.env d.scope.names → ∀ KR : Fl → St → Prop, (∀ fl σ', K (retOf fl) σ'.own → KR fl σ') → Exs c d.body ⟨(names.zip args).reverse, own⟩ KR) : Fn g d n args own K :=
  fn_intro names hd hb hkn hlen hfree' hk hco hgen fun c h1 h2 h3 => body c h1 h2 h3 _ fun _ _ x => x

theorem n_le {a b m : Nat} (h : m = b) (k : a ≤ b := by decide) : a ≤ m := h ▸ k
theorem pos_p {p b : Int} (h : 2 ≤ p ∧ p ≤ b) : 0 < p := Int.lt_of_lt_of_le (by decide) h.1
theorem mid_p {p z : Int} (h : 2 ≤ p ∧ p ≤ 7) (k : 0 ≤ z ∧ z < p) : -(2 ^ 64) < z ∧ z < 2 ^ 64 := ⟨Int.lt_of_lt_of_le (by decide) k.1, Int.lt_trans k.2 (Int.lt_of_le_of_lt h.2 (by decide))⟩
theorem neg_le (n : Nat) : (-1000000 : Int) ≤ n := Int.le_trans (by decide) (Int.natCast_nonneg n)
theorem add_nn (n m : Nat) : (0 : Int) ≤ (n : Int) + m := Int.add_nonneg (Int.natCast_nonneg n) (Int.natCast_nonneg m)

def item (n : Nat) : Stmt := (PySem.Challenge.pw_nn0249_01.main.body[n]?).getD (.Pass default)
def fd (n : Nat) : FD := match item n with
  | .FunctionDef nm a b _ _ _ s _ _ _ => ⟨nm, a, b, s⟩
  | _ => ⟨default, ⟨[], [], none, [], [], none, []⟩, [], default⟩
def Dm (g : Gl) : Prop := ∀ n, n ∈ [1, 2, 4, 5, 6, 7, 8, 9, 11, 12, 13, 14, 16, 17, 18, 19, 20, 21, 22, 23, 24, 25, 26] → fd n ∈ g.defs
abbrev iL (xs : List Int) : AV := .lst (xs.map .int)

section
variable {c : Cx} {σ : St} {K : AV → St → Prop}
theorem sub_int {value slice : Expr} {o : AV} {xs : List Int} {i : Int} (ho : Lst σ o (xs.map .int)) (h0 : 0 ≤ i) (hl : i < xs.length) (hz : xs.length ≤ 1000000) (k : ∀ x, xs[i.toNat]? = some x → K (.int x) σ)
    (hs : PlainIx slice := by (intro _ _ _; with_unfolding_all rfl)) : Sub c value slice o (.int i) σ K := by
  have hi : i.toNat < xs.length := by omega
  exact sub_list ho h0 (by omega) (x := .int xs[i.toNat]) (by simp [hi]) (k _ (by simp [hi])) hs
theorem sub_row {value slice : Expr} {o : AV} {xs : List (List Int)} {i : Int} (ho : Lst σ o (xs.map iL)) (h0 : 0 ≤ i) (hl : i < xs.length) (hz : xs.length ≤ 1000000) (k : ∀ x, xs[i.toNat]? = some x → K (iL x) σ)
    (hs : PlainIx slice := by (intro _ _ _; with_unfolding_all rfl)) : Sub c value slice o (.int i) σ K := by
  have hi : i.toNat < xs.length := by omega
  exact sub_list ho h0 (by omega) (x := iL xs[i.toNat]) (by simp [hi]) (k _ (by simp [hi])) hs
theorem sub_last {value slice : Expr} {o : AV} {xs : List Int} (ho : Lst σ o (xs.map .int)) (h0 : xs ≠ []) (hz : xs.length ≤ 1000000) (k : ∀ x, xs.getLast? = some x → K (.int x) σ)
    (hs : PlainIx slice := by (intro _ _ _; with_unfolding_all rfl)) : Sub c value slice o (.int (-1)) σ K := by
  have hl : 0 < xs.length := List.length_pos_iff.mpr h0
  have e : xs.getLast? = some (xs[xs.length - 1]'(by omega)) := by rw [List.getLast?_eq_getElem?]; simp
  have e3 : (-1 + ((xs.map AV.int).length : Int)).toNat = xs.length - 1 := by simp only [List.length_map]; omega
  refine sub_list_neg ho (by decide) (by simp only [List.length_map]; omega) (by decide) (x := .int (xs[xs.length - 1]'(by omega))) ?_ (k _ e) hs
  rw [e3]; simp [hl]
theorem ev_neg {x : Expr} {pos : Pos} (h : Ev c x σ fun a σ₁ => ∃ i, a = .int i ∧ K (.int (-i)) σ₁) : Ev c (.UnaryOp .USub x pos) σ K :=
  fun s Q E R hQ => by
    refine wpAny_UnaryOp (h s _ E R fun va a σ₁ h₁ t₁ k₁ l₁ R₁ S₁ v₁ => ?_)
    obtain ⟨i, rfl, k⟩ := k₁
    obtain ⟨u, rfl⟩ := IsV.int_inv v₁
    exact PySem.P.neg_int (Run.same (s := { s with heap := h₁, toks := t₁ }) (V := VV) R₁ (fun v x σ' h' t' k' l' R' S' v' => hQ v x σ' h' t' k' (l'.trans l₁) R' (S₁.trans S') v') k (IsV.int _ _))
theorem ev_negc {pos : Pos} {i : Int} {k : Nat} {p : Pos} (h : K (.int (-i)) σ) : Ev c (.UnaryOp .USub (.Constant (.int i) k p) pos) σ K :=
  ev_neg (ev_int ⟨i, rfl, h⟩)

theorem bc_lenI {o : AV} {xs : List Int} (ho : Lst σ o (xs.map .int)) (hz : xs.length ≤ 1000000) (k : K (.int xs.length) σ) : BC c (.builtin "len") [o] σ K := bc_len ho (by simpa using hz) (by simpa using k)
theorem bc_lenR {o : AV} {xs : List (List Int)} (ho : Lst σ o (xs.map iL)) (hz : xs.length ≤ 1000000) (k : K (.int xs.length) σ) : BC c (.builtin "len") [o] σ K := bc_len ho (by simpa using hz) (by simpa using k)
theorem bin_catI {a b : AV} {xs ys : List Int} (ha : Lst σ a (xs.map .int)) (hb : Lst σ b (ys.map .int)) (hz : xs.length + ys.length ≤ 1000000) (k : New K σ ((xs ++ ys).map .int)) : Bin c .Add a b σ K := bin_cat ha hb (by simpa using hz) (by simpa using k)
theorem bin_repI {x i : Int} (hlo : -(2 ^ 63 : Int) ≤ i) (hz : i ≤ 1000000) (k : New K σ ((List.replicate i.toNat x).map .int)) : Bin c .Mult (.lst [.int x]) (.int i) σ K := bin_rep .fz hlo hz (by simpa using k)
theorem bin_modp {i j : Int} (hj : 0 < j) (h : K (.int (i % j)) σ) : Bin c .Mod (.int i) (.int j) σ K := bin_mod (by omega) (by rw [Int.fmod_eq_emod_of_nonneg _ (by omega)]; exact h)
theorem bin_fdivp {i j : Int} (hj : 0 < j) (hb : j < 2 ^ 64) (h : K (.int (i / j)) σ) : Bin c .FloorDiv (.int i) (.int j) σ K := bin_fdiv (by omega) (by omega) (by rw [Int.fdiv_eq_ediv_of_nonneg _ (by omega)]; exact h)

/-- a comprehension that lets the lists be -/
theorem compk_map {target elt : Expr} {scope : Scope} {n : Nat} {item : Nat → AV} (L : List (Str × AV)) (val : Nat → AV) (hL : inner scope σ.loc = L) (hn : n ≤ 1000000)
    (h : ∀ c' : Cx, c'.g = c.g → c'.n = c.n → Kinds c'.env scope.names → ∀ i, i < n → AsT c' target (item i) ⟨L, σ.own⟩ fun σ₂ => Ev c' elt σ₂ fun av σ₃ => av = val i ∧ Wk σ₃ ⟨L, σ.own⟩) (k : New K σ ((List.range n).map val)) :
    CompK c target scope (fun acc env => bw0 c.g.prog c.g.w c.A elt acc env) K n item σ := by
  refine ⟨L, fun i own ys => own = σ.own ∧ ys = (List.range i).map val, hL, ⟨rfl, rfl⟩, ?_, ?_⟩
  · rintro ⟨g', A', n', env', hid'⟩ D i own ys rfl rfl rfl hk' hD hi ⟨rfl, rfl⟩
    refine fun s v iv Q E R hQ => h ⟨c.g, c.A, c.n, env', hid'⟩ rfl rfl hk' i hi s v iv Q E R fun v b σ₂ h₂ t₂ k₂ => hQ v b σ₂ h₂ t₂ ?_
    refine spec0 hD ?_
    refine fun s Q E R hQ => k₂ s Q E R fun v b σ₃ h₃ t₃ k₃ => hQ v b σ₃ h₃ t₃ ?_
    obtain ⟨rfl, w⟩ := k₃
    refine ⟨by simp; omega, ⟨w.1, rfl⟩, w.2, ?_⟩
    rw [List.range_succ]; simp
  · rintro own ys ⟨rfl, rfl⟩
    exact k
theorem compk_st {target elt : Expr} {scope : Scope} {n : Nat} {item : Nat → AV} (L : List (Str × AV)) (I : Nat → Led → List AV → Prop) (hL : inner scope σ.loc = L) (i0 : I 0 σ.own [])
    (h : ∀ c' : Cx, c'.g = c.g → c'.n = c.n → Kinds c'.env scope.names → ∀ i own ys, i < n → I i own ys → AsT c' target (item i) ⟨L, own⟩ fun σ₂ => Ev c' elt σ₂ fun av σ₃ => ys.length ≤ 1000000 ∧ Wk σ₃ ⟨L, σ₃.own⟩ ∧ I (i + 1) σ₃.own (ys ++ [av])) (k : ∀ own ys, I n own ys → New K ⟨σ.loc, own⟩ ys) :
    CompK c target scope (fun acc env => bw0 c.g.prog c.g.w c.A elt acc env) K n item σ := by
  refine ⟨L, I, hL, i0, ?_, k⟩
  rintro ⟨g', A', n', env', hid'⟩ D i own ys rfl rfl rfl hk' hD hi hI
  refine fun s v iv Q E R hQ => h ⟨c.g, c.A, c.n, env', hid'⟩ rfl rfl hk' i own ys hi hI s v iv Q E R fun v b σ₂ h₂ t₂ k₂ => hQ v b σ₂ h₂ t₂ ?_
  exact spec0 hD k₂
theorem compk_if {target elt t : Expr} {scope : Scope} {n : Nat} {item : Nat → AV} (L : List (Str × AV)) (I : Nat → Led → List AV → Prop) (hL : inner scope σ.loc = L) (i0 : I 0 σ.own [])
    (h : ∀ c' : Cx, c'.g = c.g → c'.n = c.n → Kinds c'.env scope.names → ∀ i own ys, i < n → I i own ys → AsT c' target (item i) ⟨L, own⟩ fun σ₂ => EvT c' t σ₂ fun b σ₃ => if b = true then Ev c' elt σ₃ (fun av σ₄ => ys.length ≤ 1000000 ∧ Wk σ₄ ⟨L, σ₄.own⟩ ∧ I (i + 1) σ₄.own (ys ++ [av])) else Wk σ₃ ⟨L, σ₃.own⟩ ∧ I (i + 1) σ₃.own ys) (k : ∀ own ys, I n own ys → New K ⟨σ.loc, own⟩ ys) :
    CompK c target scope (fun acc env => bw1 c.g.prog c.g.w c.A t elt acc env) K n item σ := by
  refine ⟨L, I, hL, i0, ?_, k⟩
  rintro ⟨g', A', n', env', hid'⟩ D i own ys rfl rfl rfl hk' hD hi hI
  refine fun s v iv Q E R hQ => h ⟨c.g, c.A, c.n, env', hid'⟩ rfl rfl hk' i own ys hi hI s v iv Q E R fun v b σ₂ h₂ t₂ k₂ => hQ v b σ₂ h₂ t₂ ?_
  refine spec1 hD (fun s Q E R hQ => k₂ s Q E R fun v b σ₃ h₃ t₃ k₃ => hQ v b σ₃ h₃ t₃ ?_)
  cases b with
  | false => exact if_ff (by simpa using k₃)
  | true => exact if_tt (spec0 hD (by simpa using k₃))
theorem ev_compmap {elt target iter : Expr} {scope : Scope} {pos : Pos} {names : List (Str × NameKind)} (hkc : Kinds c.env names)
    (h : EvI c target iter σ fun _ n item σ₁ => CompK c target scope (fun acc env => bw0 c.g.prog c.g.w c.A elt acc env) K n item σ₁)
    (hfr : ∀ x ∈ frees scope, names.lookup x = some .cell ∨ names.lookup x = some .free := by decide) (hnd : (frees scope).Nodup := by decide) (hkind : scope.kind = .function := by rfl) (hnames : ∀ p ∈ scope.names, scope.names.lookup p.1 = some p.2 := by decide)
    (hs : ∀ x, foldedSetIterable iter c.env x = pure x := by intro _; rfl) : Ev c (.ListComp elt [⟨target, iter, [], 0⟩] scope pos) σ K :=
  ev_comp hkc (fun it acc env => ct0) h hfr hnd hkind hnames hs

/-- a call of a def that lets the lists be -/
theorem ev_fn0 {x : Str} {pn pos : Pos} {e : Expr} {r : List Expr} {names : List (Str × NameKind)} (d : FD) (n : Nat) (hd : d ∈ c.g.defs) (hk : Kinds c.env names) (hn : n + 1 ≤ c.n)
    (h : EvL c pos (e :: r) σ fun as σ₁ => Fn c.g d n as [] fun v own' => own' = [] ∧ K v σ₁)
    (hxn : x = d.name := by rfl) (hg : names.lookup x = some .globalImplicit := by rfl) (hdb : (x == ("__debug__" : Str)) = false := by decide)
    (he : starEach (e :: r) c.env = (false, eval e c.env) :: starEach r c.env := by rfl) : Ev c (.Call (.Name x pn) (e :: r) [] pos) σ K :=
  ev_fn d n hd hk hn (fun s Q E R hQ => h s Q E R fun v b σ' h' tk k l R' S' v' => hQ v b σ' h' tk ⟨σ'.own, [], [], by simp, k.mono fun v o ho => by obtain ⟨rfl, k⟩ := ho; simpa using k⟩ l R' S' v') hxn hg hdb he
end
end Mine
end
section
open PySem PySem.Calls PyProof.Rows PySem.W
namespace Mine
set_option compiler.extract_closed false
local macro_rules | `(tactic| walk_at "o") => `(tactic| first | (with_reducible first | assumption | exact Int.natCast_nonneg _ | exact Int.toNat_natCast _ | exact neg_le _ | exact pos_p (by assumption) | exact mid_p (by assumption) (by assumption) | exact add_nn _ _) | exact n_le (by assumption) | lia | omega)
local macro_rules | `(tactic| walk_at "ms") => `(tactic| first | assumption | walk_at "o" | decide)
local macro_rules | `(tactic| walk_at "mz") => `(tactic| first | exact Nat.le_trans (by assumption) (by decide) | walk_at "o" | (simp; walk_at "o") | (simp; done) | decide)
local macro_rules | `(tactic| walk_at "ml") => `(tactic| first | exact Lst.fz | exact Lst.hd | exact Lst.tl | exact .inr ⟨_, rfl, by simp⟩)
local macro_rules | `(tactic| walk_at "mv") => `(tactic| first | exact Kinds.vl (by assumption) | exact Kinds.vc (by assumption))
theorem trim_step {xs : List Int} {m : Nat} (h0 : 0 < m) (hm : m ≤ xs.length) (hz : xs = xs.take m ++ List.replicate (xs.length - m) 0) (he : xs[m - 1]? = some 0) : xs = xs.take (m - 1) ++ List.replicate (xs.length - (m - 1)) 0 := by
  have hm1 : m - 1 < xs.length := by walk_at "o"
  rw [show xs.length - (m - 1) = (xs.length - m) + 1 by walk_at "o", List.replicate_succ]
  have e2 : xs.take m = xs.take (m - 1) ++ [0] := by
    have := List.take_add_one (l := xs) (i := m - 1)
    rw [show m - 1 + 1 = m by walk_at "o", he] at this
    simpa using this
  rw [e2] at hz
  simpa using hz
theorem trim_end {xs : List Int} {m : Nat} (hm : m ≤ xs.length) (hz : xs = xs.take m ++ List.replicate (xs.length - m) 0) (he : m = 0 ∨ xs[m - 1]? ≠ some 0) : IsTrim xs (xs.take m) := by
  refine ⟨_, hz, ?_⟩
  rw [List.getLast?_take]
  rcases he with rfl | he
  · simp
  · by_cases h0 : m = 0
    · simp [h0]
    · have hx : m - 1 < xs.length := by walk_at "o"
      rw [if_neg h0]
      rw [List.getElem?_eq_getElem hx] at he ⊢
      simpa using he
theorem fn_mtrim (g : Gl) (hd : Dm g) (xs : List Int) (hz : xs.length ≤ 1000) : Fn g (fd 4) 0 [iL xs] [] fun v o => o = [] ∧ ∃ r, v = iL r ∧ IsTrim xs r := by
  refine fn_intro2 [Str.ofString "a"] (hd 4 (by decide)) (fun pm code doc vs h => ?_) (by decide) rfl (by decide) rfl rfl rfl fun c hg hn hk KR hKR => ?_
  · match vs, h with | [v], _ => rfl
  · refine exs_cons ?_; refine ex_assign ?_
    refine ev_bc (by rfl) (by assumption) (by rfl) ?_ (by first | exact .inl ⟨_, rfl⟩ | exact .inr ⟨_, rfl⟩) (by decide) (by rfl) (by rfl)
    refine evl_cons ?_; refine ev_name (by rfl) ?_; refine evl_nil ?_; refine bc_lenI (by walk_at "ml") (by walk_at "mz") ?_
    refine as_name2 (by walk_at "mv") ?_
    refine exs_mid2 (fun σ => ∃ m : Nat, m ≤ xs.length ∧ IsTrim xs (xs.take m) ∧ σ = ⟨[(Str.ofString "many", .int m), (Str.ofString "a", iL xs)], []⟩) (fun KM hKM => ?_) ?_
    · refine ex_while2 (fun k σ => ∃ m : Nat, k = m ∧ m ≤ xs.length ∧ xs = xs.take m ++ List.replicate (xs.length - m) 0 ∧ σ = ⟨[(Str.ofString "many", .int m), (Str.ofString "a", iL xs)], []⟩) xs.length
        ⟨⟨[(Str.ofString "many", .int xs.length), (Str.ofString "a", iL xs)], []⟩, wk_of ⟨rfl, rfl, trivial⟩, xs.length, rfl, Nat.le_refl _, by simp, rfl⟩ ?_
      rintro m _ ⟨_, rfl, hm, ht, rfl⟩ KT hKT
      refine evt_boolop ?_; refine all_cons_and ?_; refine evt_cmp ?_; refine ev_name (by rfl) ?_; refine ev_int ?_; refine cmp_gt ?_
      refine if_dec (fun _ => ?_) (fun _ => ?_); refine all_cons_and ?_; refine evt_cmp ?_; refine ev_sub ?_; refine ev_name (by rfl) ?_; refine ev_bin ?_
      refine ev_name (by rfl) ?_; refine ev_int ?_; refine bin_sub ?_
      refine sub_int (by walk_at "ml") (by walk_at "ms") (by walk_at "ms") (by walk_at "ms") (fun _ _ => ?_); refine ev_int ?_; refine cmp_eq ?_
      refine if_beq (fun _ => ?_) (fun _ => ?_); refine all_nil_and ?_; refine if_tt ?_; refine exs_cons ?_; refine ex_assign ?_; refine ev_bin ?_
      refine ev_name (by rfl) ?_; refine ev_int ?_; refine bin_sub ?_; refine as_name2 (by walk_at "mv") ?_; refine exs_nil ?_; rotate_left; refine if_ff ?_
      rotate_left; refine if_ff ?_; rotate_left
      · rename_i h0 x hx e
        subst e
        have hx' : xs[m - 1]? = some 0 := by rw [← hx]; congr 1; walk_at "o"
        refine hKT _ ?_
        have e1 : ((m : Int) - 1) = ((m - 1 : Nat) : Int) := by walk_at "o"
        rw [e1]
        refine ⟨m - 1, ⟨[(Str.ofString "many", .int (m - 1 : Nat)), (Str.ofString "a", iL xs)], []⟩, ?_, wk_of ⟨rfl, rfl, trivial⟩, m - 1, rfl, ?_, trim_step ?_ hm ht hx', rfl⟩ <;> walk_at "o"
      · rename_i h0 x hx e
        refine hKM _ _ ⟨rfl, m, hm, trim_end hm ht (.inr ?_), rfl⟩
        rw [show m - 1 = ((m : Int) - 1).toNat by walk_at "o", hx]; simpa using e
      · rename_i h0
        exact hKM _ _ ⟨rfl, m, hm, trim_end hm ht (.inl (by walk_at "o")), rfl⟩
    · rintro _ ⟨m, hm, ht, rfl⟩
      refine exs_cons ?_; refine ex_ret ?_
      refine ev_bc (by rfl) (by assumption) (by rfl) ?_ (by first | exact .inl ⟨_, rfl⟩ | exact .inr ⟨_, rfl⟩) (by decide) (by rfl) (by rfl)
      refine evl_cons ?_; refine ev_slice_to ?_; refine ev_name (by rfl) ?_; refine ev_name (by rfl) ?_
      refine ⟨_, _, (by walk_at "ml"), rfl, (by walk_at "mz"), (by walk_at "mz"), .inl ?_⟩; refine evl_nil ?_
      refine bc_list (by walk_at "ml") (by walk_at "mz") ?_
      refine Or.inl ?_
      exact hKR _ _ ⟨rfl, xs.take m, by simp [retOf, iL], ht⟩
theorem fn_mdegree (g : Gl) (hd : Dm g) (xs : List Int) (hz : xs.length ≤ 1000) : Fn g (fd 5) 0 [iL xs] [] fun v o => o = [] ∧ v = .int ((xs.length : Int) - 1) := by
  refine fn_intro2 [Str.ofString "a"] (hd 5 (by decide)) (fun pm code doc vs h => ?_) (by decide) rfl (by decide) rfl rfl rfl fun c hg hn hk KR hKR => ?_
  · match vs, h with | [v], _ => rfl
  · refine exs_cons ?_; refine ex_ret ?_; refine ev_bin ?_
    refine ev_bc (by rfl) (by assumption) (by rfl) ?_ (by first | exact .inl ⟨_, rfl⟩ | exact .inr ⟨_, rfl⟩) (by decide) (by rfl) (by rfl)
    refine evl_cons ?_; refine ev_name (by rfl) ?_; refine evl_nil ?_; refine bc_lenI (by walk_at "ml") (by walk_at "mz") ?_; refine ev_int ?_
    refine bin_sub ?_
    exact hKR _ _ ⟨rfl, by simp [retOf]⟩
theorem fn_take (g : Gl) (hd : Dm g) (D r : Addr) (is : List Int) (seed many : Int) (hz : is.length ≤ 1000) (hm : 0 < many) : Fn g (fd 17) 0 [.own D, .int many] [(D, [.own r, .int seed]), (r, is.map .int)] fun v o => ∃ (k : Int) (is' : List Int) (seed' : Int), v = .int k ∧ 0 ≤ k ∧ k < many ∧ is'.length ≤ is.length ∧ o = [(D, [.own r, .int seed']), (r, is'.map .int)] := by
  refine fn_intro2 [Str.ofString "draws", Str.ofString "many"] (hd 17 (by decide)) (fun pm code doc vs h => ?_) (by decide) rfl (by decide) rfl rfl rfl fun c hg hn hk KR hKR => ?_
  · match vs, h with | [v, w], _ => rfl
  · refine exs_cons ?_; refine ex_if ?_; refine evt_cmp ?_; refine ev_sub ?_; refine ev_name (by rfl) ?_; refine ev_int ?_
    refine sub_list (by walk_at "ml") (by decide) (by decide) (by rfl) ?_; refine ev_list ?_; refine evl_nil ?_; refine ⟨by walk_at "mz", ?_⟩
    refine Or.inl ?_
    refine cmp_neLi (ys := []) (by walk_at "ml") (by walk_at "ml") ?_
    refine if_not ?_; refine if_eqI (fun _ => ?_) (fun _ => ?_); refine exs_nil ?_; refine exs_cons ?_; refine ex_assign ?_; refine ev_bin ?_
    refine ev_bin ?_; refine ev_bin ?_; refine ev_sub ?_; refine ev_name (by rfl) ?_; refine ev_int ?_
    refine sub_list (by walk_at "ml") (by decide) (by decide) (by rfl) ?_; refine ev_int ?_; refine bin_mulR (by walk_at "ms") ?_; refine ev_int ?_
    refine bin_add ?_; refine ev_int ?_; refine bin_modp (by walk_at "ms") ?_; refine as_sub ?_; refine ev_name (by rfl) ?_; refine ev_int ?_; rotate_left
    refine exs_cons ?_; refine ex_ret ?_; refine ev_bin ?_; refine ev_pop0 ?_; refine ev_sub ?_; refine ev_name (by rfl) ?_; refine ev_int ?_
    refine sub_list (by walk_at "ml") (by decide) (by decide) (by rfl) ?_; rotate_left
    · refine ⟨D, _, 0, 1, rfl, rfl, rfl, by decide, by simp, by decide, ?_⟩
      refine exs_cons ?_; refine ex_ret ?_; refine ev_bin ?_; refine ev_bin ?_; refine ev_sub ?_; refine ev_name (by rfl) ?_; refine ev_int ?_
      refine sub_list (by walk_at "ml") (by decide) (by decide) (by rfl) ?_; refine ev_int ?_; refine bin_fdivp (by walk_at "ms") (by walk_at "ms") ?_
      refine ev_name (by rfl) ?_; refine bin_modp (by walk_at "ms") ?_
      refine hKR _ _ ⟨_, is, (seed * 48271 + 19) % 2147483647, rfl, ?_, ?_, Nat.le_refl _, rfl⟩
      · exact Int.emod_nonneg _ (by walk_at "o")
      · exact Int.emod_lt_of_pos _ hm
    · rename_i hne
      obtain ⟨i, is, rfl⟩ := List.exists_cons_of_ne_nil hne
      refine ⟨r, rfl, by simp, ?_⟩
      refine ev_int ?_
      refine ⟨rfl, .int i, is.map .int, 1, rfl, by simp at *; walk_at "o", ?_⟩
      refine ev_name (by rfl) ?_; refine bin_modp (by walk_at "ms") ?_
      refine hKR _ _ ⟨_, is, seed, rfl, ?_, ?_, by simp, rfl⟩
      · exact Int.emod_nonneg _ (by walk_at "o")
      · exact Int.emod_lt_of_pos _ hm
theorem trim_pop {xs r : List Int} {z : Nat} (h : xs = r ++ List.replicate z 0) (hr : r.getLast? = some 0) : xs = r.dropLast ++ List.replicate (z + 1) 0 := by
  obtain ⟨hne, e⟩ := List.getLast?_eq_some_iff.mp hr
  subst e
  rw [h, List.replicate_succ]; simp
theorem fn_cut (g : Gl) (hd : Dm g) (xs : List Int) (hz : xs.length ≤ 1000) : Fn g (fd 18) 0 [iL xs] [] fun v o => o = [] ∧ ∃ r, v = iL r ∧ IsTrim xs r := by
  refine fn_intro2 [Str.ofString "a"] (hd 18 (by decide)) (fun pm code doc vs h => ?_) (by decide) rfl (by decide) rfl rfl rfl fun c hg hn hk KR hKR => ?_
  · match vs, h with | [v], _ => rfl
  · refine exs_cons ?_; refine ex_assign ?_
    refine ev_bc (by rfl) (by assumption) (by rfl) ?_ (by first | exact .inl ⟨_, rfl⟩ | exact .inr ⟨_, rfl⟩) (by decide) (by rfl) (by rfl)
    refine evl_cons ?_; refine ev_name (by rfl) ?_; refine evl_nil ?_; refine bc_list (by walk_at "ml") (by walk_at "mz") ?_
    refine .inr fun D => ?_
    refine as_name2 (by walk_at "mv") ?_
    refine exs_mid2 (fun σ => ∃ r, IsTrim xs r ∧ σ = ⟨[(Str.ofString "found", .own D), (Str.ofString "a", iL xs)], [(D, r.map .int)]⟩) (fun KM hKM => ?_) ?_
    · refine ex_while2 (fun k σ => ∃ r : List Int, k = r.length ∧ r.length ≤ 1000 ∧ (∃ z, xs = r ++ List.replicate z 0) ∧ σ = ⟨[(Str.ofString "found", .own D), (Str.ofString "a", iL xs)], [(D, r.map .int)]⟩) xs.length
        ⟨⟨[(Str.ofString "found", .own D), (Str.ofString "a", iL xs)], [(D, xs.map .int)]⟩, wk_of ⟨rfl, rfl, trivial⟩, xs, rfl, hz, ⟨0, by simp⟩, rfl⟩ ?_
      rintro _ _ ⟨r, rfl, hm, ⟨z, ht⟩, rfl⟩ KT hKT
      refine evt_boolop ?_; refine all_cons_and ?_; refine evt_cmp ?_; refine ev_name (by rfl) ?_; refine ev_list ?_; refine evl_nil ?_
      refine ⟨by walk_at "mz", ?_⟩
      refine Or.inl ?_
      refine cmp_neLi (ys := []) (by walk_at "ml") (by walk_at "ml") ?_
      refine if_not ?_; refine if_eqI (fun _ => ?_) (fun _ => ?_); refine if_ff ?_; rotate_left; refine all_cons_and ?_; refine evt_cmp ?_; refine ev_sub ?_
      refine ev_name (by rfl) ?_; refine ev_negc ?_; refine sub_last (by walk_at "ml") (by walk_at "ms") (by walk_at "ms") (fun _ _ => ?_); refine ev_int ?_
      refine cmp_eq ?_; refine if_beq (fun _ => ?_) (fun _ => ?_); refine all_nil_and ?_; refine if_tt ?_; refine exs_cons ?_; refine ex_expr ?_
      refine ev_pop ?_; refine ev_name (by rfl) ?_; rotate_left; refine if_ff ?_; rotate_left
      · rename_i e
        subst e
        exact hKM _ _ ⟨rfl, [], ⟨z, ht, by simp⟩, rfl⟩
      · rename_i hne x hx e
        subst e
        have hl : 0 < r.length := List.length_pos_iff.mpr hne
        refine ⟨D, r.map .int, 0, .int 0, rfl, rfl, by simp; walk_at "o", ?_, ?_⟩
        · rw [List.getLast?_eq_getElem?] at hx; simp [hx]
        · refine exs_nil ?_
          refine hKT _ ?_
          refine ⟨r.dropLast.length, ⟨[(Str.ofString "found", .own D), (Str.ofString "a", iL xs)], [(D, r.dropLast.map .int)]⟩, by simp; walk_at "o", wk_of' ⟨rfl, rfl, trivial⟩ (by simp), r.dropLast, rfl, by simp; walk_at "o", ⟨z + 1, trim_pop ht hx⟩, rfl⟩
      · rename_i hne x hx e
        exact hKM _ _ ⟨rfl, r, ⟨z, ht, by rw [hx]; simpa using e⟩, rfl⟩
    · rintro _ ⟨r, ht, rfl⟩
      refine exs_freeze (Str.ofString "found") [] [] rfl rfl ?_
      refine exs_cons ?_; refine ex_ret ?_; refine ev_name (by rfl) ?_
      exact hKR _ _ ⟨rfl, r, rfl, ht⟩
def t3 (x y z : Int) : AV := .tup [.int x, .int y, .int z]
theorem ext_q {r q : Int} (h0 : 0 ≤ r) (h1 : 0 < q) : 0 ≤ r / q ∧ r / q ≤ r ∧ 0 ≤ r - r / q * q ∧ r - r / q * q < q := by
  have e2 := Int.emod_add_mul_ediv r q
  have e3 := Int.emod_nonneg r (show q ≠ 0 by walk_at "o")
  have e4 := Int.emod_lt_of_pos r h1
  have e5 : r - r / q * q = r % q := by grind
  rw [e5]
  exact ⟨Int.ediv_nonneg h0 (by walk_at "o"), Int.ediv_le_self _ h0, e3, e4⟩
theorem fn_extended (g : Gl) (hd : Dm g) (a b : Int) (ha : 0 ≤ a ∧ a ≤ 100) (hb : 0 < b ∧ b ≤ 100) (hc : ∀ d, d ∣ a → d ∣ b → d ∣ 1) : Fn g (fd 1) 0 [.int a, .int b] [] fun v o => o = [] ∧ ∃ s t, v = t3 1 s t ∧ Cg b (s * a) 1 := by
  refine fn_intro2 [Str.ofString "a", Str.ofString "b"] (hd 1 (by decide)) (fun pm code doc vs h => ?_) (by decide) rfl (by decide) rfl rfl rfl fun c hg hn hk KR hKR => ?_
  · match vs, h with | [v, w], _ => rfl
  · refine exs_cons ?_; refine ex_swap2 (by assumption) ?_; refine ev_tuple ?_; refine evl_cons ?_; refine ev_name (by rfl) ?_; refine evl_cons ?_
    refine ev_int ?_; refine evl_cons ?_; refine ev_int ?_; refine evl_nil ?_; refine ⟨by walk_at "mz", ?_⟩; refine ev_tuple ?_; refine evl_cons ?_
    refine ev_name (by rfl) ?_; refine evl_cons ?_; refine ev_int ?_; refine evl_cons ?_; refine ev_int ?_; refine evl_nil ?_; refine ⟨by walk_at "mz", ?_⟩
    refine put2 ?_
    refine exs_mid2 (fun σ => ∃ s t u v, Cg b (s * a) 1 ∧ σ = ⟨[(Str.ofString "one", t3 1 s t), (Str.ofString "other", t3 0 u v)], []⟩) (fun KM hKM => ?_) ?_
    · refine ex_while2 (fun k σ => ∃ r s t q u v, k = q.toNat ∧ 0 ≤ r ∧ r ≤ 100 ∧ 0 ≤ q ∧ q ≤ 100 ∧ Cg b (s * a) r ∧ Cg b (u * a) q ∧ (∀ d, d ∣ r → d ∣ q → d ∣ 1) ∧ σ = ⟨[(Str.ofString "one", t3 r s t), (Str.ofString "other", t3 q u v)], []⟩) b.toNat
        ⟨⟨[(Str.ofString "one", t3 a 1 0), (Str.ofString "other", t3 b 0 1)], []⟩, wk_of ⟨rfl, rfl, trivial⟩, a, 1, 0, b, 0, 1, rfl, ha.1, ha.2, by walk_at "o", hb.2, Cg.of_eq (by walk_at "o"), Cg.symm ⟨1, by walk_at "o"⟩, hc, rfl⟩ ?_
      rintro _ _ ⟨r, s, t, q, u, v, rfl, h1, h2, h3, h4, h5, h6, h7, rfl⟩ KT hKT
      unfold t3
      refine evt_cmp ?_; refine ev_sub ?_; refine ev_name (by rfl) ?_; refine ev_int ?_; refine sub_tup (by decide) (by decide) (by rfl) ?_; refine ev_int ?_
      refine cmp_ne ?_; refine if_bne (fun _ => ?_) (fun _ => ?_); refine exs_cons ?_; refine ex_assign ?_; refine ev_bin ?_; refine ev_sub ?_
      refine ev_name (by rfl) ?_; refine ev_int ?_; refine sub_tup (by decide) (by decide) (by rfl) ?_; refine ev_sub ?_; refine ev_name (by rfl) ?_
      refine ev_int ?_; refine sub_tup (by decide) (by decide) (by rfl) ?_; refine bin_fdivp (by walk_at "ms") (by walk_at "ms") ?_
      refine as_name2 (by walk_at "mv") ?_; refine exs_cons ?_; refine ex_assign ?_; refine ev_tuple ?_; refine evl_cons ?_; refine ev_bin ?_
      refine ev_sub ?_; refine ev_name (by rfl) ?_; refine ev_int ?_; refine sub_tup (by decide) (by decide) (by rfl) ?_; refine ev_bin ?_
      refine ev_name (by rfl) ?_; refine ev_sub ?_; refine ev_name (by rfl) ?_; refine ev_int ?_; refine sub_tup (by decide) (by decide) (by rfl) ?_
      refine bin_mulR (by walk_at "ms") ?_; refine bin_sub ?_; refine evl_cons ?_; refine ev_bin ?_; refine ev_sub ?_; refine ev_name (by rfl) ?_
      refine ev_int ?_; refine sub_tup (by decide) (by decide) (by rfl) ?_; refine ev_bin ?_; refine ev_name (by rfl) ?_; refine ev_sub ?_
      refine ev_name (by rfl) ?_; refine ev_int ?_; refine sub_tup (by decide) (by decide) (by rfl) ?_; rotate_left; rotate_left
      · rename_i hne
        have hq := ext_q h1 (show 0 < q by walk_at "o")
        refine bin_mulL (by walk_at "ms") ?_; refine bin_sub ?_; refine evl_cons ?_; refine ev_bin ?_; refine ev_sub ?_; refine ev_name (by rfl) ?_
        refine ev_int ?_; refine sub_tup (by decide) (by decide) (by rfl) ?_; refine ev_bin ?_; refine ev_name (by rfl) ?_; refine ev_sub ?_
        refine ev_name (by rfl) ?_; refine ev_int ?_; refine sub_tup (by decide) (by decide) (by rfl) ?_; refine bin_mulL (by walk_at "ms") ?_
        refine bin_sub ?_; refine evl_nil ?_; refine ⟨by walk_at "mz", ?_⟩; refine as_name2 (by walk_at "mv") ?_; refine exs_cons ?_
        refine ex_swap2 (by assumption) ?_; refine ev_name (by rfl) ?_; refine ev_name (by rfl) ?_; refine put2 ?_; refine exs_nil ?_
        refine hKT _ ?_
        refine ⟨(r - r / q * q).toNat, ⟨[(Str.ofString "one", t3 q u v), (Str.ofString "other", t3 (r - r / q * q) (s - r / q * u) (t - r / q * v))], []⟩, by walk_at "o", wk_of ⟨rfl, rfl, trivial⟩,
          q, u, v, r - r / q * q, _, _, rfl, h3, h4, hq.2.2.1, by walk_at "o", h6, ?_, fun d d1 d2 => h7 d ?_ d1, rfl⟩
        · exact (Cg.of_eq (by grind)).trans (h5.sub (Cg.mulL (r / q) h6))
        · have := Int.dvd_add d2 (Int.dvd_mul_of_dvd_right (b := r / q) d1)
          simpa using this
      · rename_i h0
        subst h0
        have hr : r ∣ 1 := h7 r ⟨1, by simp⟩ ⟨0, by simp⟩
        have hr1 : r = 1 := by
          have := Int.le_of_dvd (by decide) hr
          obtain ⟨w, hw⟩ := hr
          rcases (show r = 0 ∨ r = 1 by walk_at "o") with rfl | rfl
          · simp at hw
          · rfl
        subst hr1
        exact hKM _ _ ⟨rfl, s, t, u, v, h5, rfl⟩
    · rintro _ ⟨s, t, u, v, h, rfl⟩
      unfold t3
      refine exs_cons ?_; refine ex_ret ?_; refine ev_ifexp ?_; refine evt_cmp ?_; refine ev_sub ?_; refine ev_name (by rfl) ?_; refine ev_int ?_
      refine sub_tup (by decide) (by decide) (by rfl) ?_; refine ev_int ?_; refine cmp_ge ?_; refine if_dec (fun _ => ?_) (fun _ => ?_)
      refine ev_name (by rfl) ?_; rotate_left; refine ev_tuple ?_; refine evl_cons ?_; refine ev_bin ?_; refine ev_int ?_; refine ev_sub ?_
      refine ev_name (by rfl) ?_; refine ev_int ?_; refine sub_tup (by decide) (by decide) (by rfl) ?_; refine bin_sub ?_; refine evl_cons ?_
      refine ev_bin ?_; refine ev_int ?_; refine ev_sub ?_; refine ev_name (by rfl) ?_; refine ev_int ?_; refine sub_tup (by decide) (by decide) (by rfl) ?_
      refine bin_sub ?_; refine evl_cons ?_; refine ev_bin ?_; refine ev_int ?_; refine ev_sub ?_; refine ev_name (by rfl) ?_; refine ev_int ?_
      refine sub_tup (by decide) (by decide) (by rfl) ?_; refine bin_sub ?_; refine evl_nil ?_; refine ⟨by walk_at "mz", ?_⟩; rotate_left
      · exact hKR _ _ ⟨rfl, s, t, rfl, h⟩
      · rename_i hh; exact absurd (by decide) hh
theorem fn_inverse (g : Gl) (hd : Dm g) (a p : Int) (ha : 0 < a % p) (hp : Pp p) : Fn g (fd 2) 1 [.int a, .int p] [] fun v o => o = [] ∧ ∃ t, v = .int t ∧ 0 ≤ t ∧ t < p ∧ Cg p (t * a) 1 := by
  refine fn_intro2 [Str.ofString "a", Str.ofString "m"] (hd 2 (by decide)) (fun pm code doc vs h => ?_) (by decide) rfl (by decide) rfl rfl rfl fun c hg hn hk KR hKR => ?_
  · match vs, h with | [v, w], _ => rfl
  · have hpp := hp.le
    have hlt := Int.emod_lt_of_pos a hp.pos
    refine exs_cons ?_
    refine ex_assign ?_
    refine ev_fn0 (fd 1) 0 (hg ▸ hd 1 (by decide)) hk (by walk_at "o") ?_
    refine evl_cons ?_; refine ev_bin ?_; refine ev_name (by rfl) ?_; refine ev_name (by rfl) ?_; refine bin_modp (by walk_at "ms") ?_; refine evl_cons ?_
    refine ev_name (by rfl) ?_; refine evl_nil ?_
    refine (fn_extended _ (hg ▸ hd) _ _ ⟨by walk_at "o", by walk_at "o"⟩ ⟨by walk_at "o", by walk_at "o"⟩ (hp.coprime ha hlt)).mono ?_
    rintro _ _ ⟨rfl, s, t, rfl, h⟩
    refine ⟨rfl, ?_⟩
    unfold t3
    refine as_tuple ?_; refine asl_cons ?_; refine as_name2 (by walk_at "mv") ?_; refine asl_cons ?_; refine as_name2 (by walk_at "mv") ?_
    refine asl_cons ?_; refine as_name2 (by walk_at "mv") ?_; refine asl_nil ?_; refine exs_cons ?_; refine ex_ret ?_; refine ev_ifexp ?_; refine evt_cmp ?_
    refine ev_name (by rfl) ?_; refine ev_int ?_; refine cmp_eq ?_; refine if_beq (fun _ => ?_) (fun _ => ?_); refine ev_bin ?_; refine ev_name (by rfl) ?_
    refine ev_name (by rfl) ?_; refine bin_modp (by walk_at "ms") ?_; rotate_left; refine ev_none ?_; rotate_left
    · refine hKR _ _ ⟨rfl, s % p, rfl, Int.emod_nonneg _ (by walk_at "o"), Int.emod_lt_of_pos _ hp.pos, ?_⟩
      exact ((Cg.mul (Cg.mod s) (Cg.mod a).symm)).trans h
    · rename_i hh; exact absurd rfl hh
theorem getD_int {xs : List Int} {i : Nat} {x : Int} (h : xs[i]? = some x) : (xs.map AV.int).getD i .none = .int x := by simp [List.getD, h]
theorem dotp_zero_fun : ∀ a : List Int, dotp a (fun _ => 0) = 0
  | [] => rfl
  | x :: a => by simp [dotp, dotp_zero_fun a]
theorem upd_cg {p : Int} {F : List Int} {k : Nat} {v w y : Int} (hy : F[k]? = some y) (hv : Cg p v (y + w)) (g : Nat → Int) : Cg p (dotp (F.set k v) g) (dotp F g + w * g k) := by
  obtain ⟨hk, e⟩ := List.getElem?_eq_some_iff.mp hy
  rw [dotp_set _ _ _ _ hk]
  have : F.getD k 0 = y := by simp [List.getD, hy]
  rw [this]
  obtain ⟨u, hu⟩ := hv
  exact ⟨u * g k, by grind⟩
theorem own_set {D : Addr} {F : List Int} {k : Nat} {v : Int} : [(D, F.map AV.int)].set 0 (D, (F.map AV.int).set k (.int v)) = [(D, (F.set k v).map AV.int)] := by simp
theorem ex_at {xs : List Int} {i : Nat} (h : i < (xs.map AV.int).length) : ∃ x, xs[i]? = some x := ⟨xs[i]'(by simpa using h), by simp⟩

theorem fn_mmul (g : Gl) (hd : Dm g) (a b : List Int) (p : Int) (hp : Pp p) (ha : Ri p a) (hb : Ri p b) (za : a.length ≤ 100) (zb : b.length ≤ 100) : Fn g (fd 6) 1 [iL a, iL b, .int p] [] fun v o => o = [] ∧ ∃ r, v = iL r ∧ MulS p a b r := by
  refine fn_intro2 [Str.ofString "a", Str.ofString "b", Str.ofString "p"] (hd 6 (by decide)) (fun pm code doc vs h => ?_) (by decide) rfl (by decide) rfl rfl rfl fun c hg hn hk KR hKR => ?_
  · match vs, h with | [v, w, u], _ => rfl
  · have hpp := hp.le
    refine exs_cons ?_
    refine ex_if ?_; refine evt_boolop ?_; refine all_cons_or ?_; refine evt_cmp ?_
    refine ev_bc (by rfl) (by assumption) (by rfl) ?_ (by first | exact .inl ⟨_, rfl⟩ | exact .inr ⟨_, rfl⟩) (by decide) (by rfl) (by rfl)
    refine evl_cons ?_; refine ev_name (by rfl) ?_; refine evl_nil ?_; refine bc_lenI (by walk_at "ml") (by walk_at "mz") ?_; refine ev_int ?_
    refine cmp_eq ?_; refine if_beq (fun _ => ?_) (fun _ => ?_); refine if_tt ?_; refine exs_cons ?_; refine ex_ret ?_; refine ev_list ?_; refine evl_nil ?_
    refine ⟨by walk_at "mz", ?_⟩; rotate_left; refine all_cons_or ?_; refine evt_cmp ?_
    refine ev_bc (by rfl) (by assumption) (by rfl) ?_ (by first | exact .inl ⟨_, rfl⟩ | exact .inr ⟨_, rfl⟩) (by decide) (by rfl) (by rfl)
    refine evl_cons ?_; refine ev_name (by rfl) ?_; refine evl_nil ?_; refine bc_lenI (by walk_at "ml") (by walk_at "mz") ?_; refine ev_int ?_
    refine cmp_eq ?_; refine if_beq (fun _ => ?_) (fun _ => ?_); refine if_tt ?_; refine exs_cons ?_; refine ex_ret ?_; refine ev_list ?_; refine evl_nil ?_
    refine ⟨by walk_at "mz", ?_⟩; rotate_left; refine all_nil_or ?_; refine if_ff ?_; refine exs_nil ?_; refine exs_cons ?_; refine ex_assign ?_
    refine ev_bin ?_; refine ev_list ?_; refine evl_cons ?_; refine ev_int ?_; refine evl_nil ?_; refine ⟨by walk_at "mz", ?_⟩; rotate_left
    · refine Or.inl ?_
      rename_i h0
      have : a = [] := by simpa using h0
      subst this
      exact hKR _ _ ⟨rfl, [], rfl, Ri.nil, by simp, fun g => Cg.of_eq (by simp [dotp])⟩
    · refine Or.inl ?_
      rename_i h0
      have : b = [] := by simpa using h0
      subst this
      exact hKR _ _ ⟨rfl, [], rfl, Ri.nil, by simp, fun g => Cg.of_eq (by simp [dotp, dotp_zero_fun])⟩
    · rename_i na nb
      refine .inl ?_
      refine ev_bin ?_; refine ev_bin ?_
      refine ev_bc (by rfl) (by assumption) (by rfl) ?_ (by first | exact .inl ⟨_, rfl⟩ | exact .inr ⟨_, rfl⟩) (by decide) (by rfl) (by rfl)
      refine evl_cons ?_; refine ev_name (by rfl) ?_; refine evl_nil ?_; refine bc_lenI (by walk_at "ml") (by walk_at "mz") ?_
      refine ev_bc (by rfl) (by assumption) (by rfl) ?_ (by first | exact .inl ⟨_, rfl⟩ | exact .inr ⟨_, rfl⟩) (by decide) (by rfl) (by rfl)
      refine evl_cons ?_; refine ev_name (by rfl) ?_; refine evl_nil ?_; refine bc_lenI (by walk_at "ml") (by walk_at "mz") ?_; refine bin_add ?_
      refine ev_int ?_; refine bin_sub ?_; refine bin_repI (by walk_at "mz") (by walk_at "mz") ?_
      refine .inr fun D => ?_
      refine as_name2 (by walk_at "mv") ?_
      refine exs_mid2 (fun σ => ∃ F : List Int, F.length = a.length + b.length - 1 ∧ Ri p F ∧ (∀ g, Cg p (dotp F g) (dotp a fun i => dotp b fun j => g (i + j))) ∧ σ = ⟨[(Str.ofString "found", .own D), (Str.ofString "a", iL a), (Str.ofString "b", iL b), (Str.ofString "p", .int p)], [(D, F.map .int)]⟩) (fun KM hKM => ?_) ?_
      · refine ex_for2 (evi_enum hk.gi ?_)
        refine evl_cons ?_; refine ev_name (by rfl) ?_; refine evl_nil ?_
        refine ⟨_, rfl, rfl, fun i σ => ∃ F : List Int, F.length = a.length + b.length - 1 ∧ Ri p F ∧ (∀ g, Cg p (dotp F g) (dotp (a.take i) fun i => dotp b fun j => g (i + j))) ∧ σ = ⟨[(Str.ofString "found", .own D), (Str.ofString "a", iL a), (Str.ofString "b", iL b), (Str.ofString "p", .int p)], [(D, F.map .int)]⟩,
          ⟨⟨[(Str.ofString "found", .own D), (Str.ofString "a", iL a), (Str.ofString "b", iL b), (Str.ofString "p", .int p)], _⟩, wk_of' ⟨rfl, rfl, rfl, rfl, trivial⟩ rfl, List.replicate (a.length + b.length - 1) 0, by simp, Ri.zeros hp.pos _, fun g => Cg.of_eq (by simp [dotp, dotp_zeros]), ?_⟩, ?_, ?_⟩
        · have : ((a.length : Int) + b.length - 1).toNat = a.length + b.length - 1 := by walk_at "o"
          simp [this]
        · rintro i σ hi ⟨F, hF, hR, hg', rfl⟩ KT hKT
          obtain ⟨x, hx⟩ := ex_at hi
          have hxr := ha.at hx
          simp only [getD_int hx]
          have hi' : i < a.length := by simpa using hi
          have fin : ∀ F' : List Int, F'.length = a.length + b.length - 1 → Ri p F' → (∀ g, Cg p (dotp F' g) (dotp F g + x * dotp b fun j => g (i + j))) → ∀ g, Cg p (dotp F' g) (dotp (a.take (i + 1)) fun i => dotp b fun j => g (i + j)) := fun F' _ _ h g => by
            rw [dotp_take_succ hx]
            exact (h g).trans ((hg' g).add Cg.rfl')
          refine as_tuple ?_; refine asl_cons ?_; refine as_name2 (by walk_at "mv") ?_; refine asl_cons ?_; refine as_name2 (by walk_at "mv") ?_
          refine asl_nil ?_; refine exs_cons ?_; refine ex_if ?_; refine evt_cmp ?_; refine ev_name (by rfl) ?_; refine ev_int ?_; refine cmp_ne ?_
          refine if_bne (fun _ => ?_) (fun _ => ?_); rotate_left; refine exs_nil ?_; refine exs_nil ?_; rotate_left
          · rename_i hne
            refine exs_mid2 (fun σ => ∃ F' : List Int, F'.length = a.length + b.length - 1 ∧ Ri p F' ∧ (∀ g, Cg p (dotp F' g) (dotp F g + x * dotp b fun j => g (i + j))) ∧ σ = ⟨[(Str.ofString "one", .int x), (Str.ofString "at", .int i), (Str.ofString "found", .own D), (Str.ofString "a", iL a), (Str.ofString "b", iL b), (Str.ofString "p", .int p)], [(D, F'.map .int)]⟩) (fun KM hKM => ?_) ?_
            · refine ex_for2 (evi_enum hk.gi ?_)
              refine evl_cons ?_; refine ev_name (by rfl) ?_; refine evl_nil ?_
              refine ⟨_, rfl, rfl, fun j σ => ∃ F' : List Int, F'.length = a.length + b.length - 1 ∧ Ri p F' ∧ (∀ g, Cg p (dotp F' g) (dotp F g + x * dotp (b.take j) fun j => g (i + j))) ∧ σ = ⟨[(Str.ofString "one", .int x), (Str.ofString "at", .int i), (Str.ofString "found", .own D), (Str.ofString "a", iL a), (Str.ofString "b", iL b), (Str.ofString "p", .int p)], [(D, F'.map .int)]⟩,
                ⟨⟨[(Str.ofString "one", .int x), (Str.ofString "at", .int i), (Str.ofString "found", .own D), (Str.ofString "a", iL a), (Str.ofString "b", iL b), (Str.ofString "p", .int p)], [(D, F.map .int)]⟩, wk_of ⟨rfl, rfl, rfl, rfl, rfl, rfl, trivial⟩, F, hF, hR, fun g => Cg.of_eq (by simp [dotp]), rfl⟩, ?_, ?_⟩
              · rintro j σ hj ⟨F', hF', hR', hg'', rfl⟩ KT hKT
                obtain ⟨z, hz⟩ := ex_at hj
                have hzr := hb.at hz
                simp only [getD_int hz]
                have hj' : j < b.length := by simpa using hj
                refine as_tuple ?_; refine asl_cons ?_; refine as_name2 (by walk_at "mv") ?_; refine asl_cons ?_; refine as_name2 (by walk_at "mv") ?_
                refine asl_nil ?_; refine exs_cons ?_; refine ex_assign ?_; refine ev_bin ?_; refine ev_bin ?_; refine ev_sub ?_; refine ev_name (by rfl) ?_
                refine ev_bin ?_; refine ev_name (by rfl) ?_; refine ev_name (by rfl) ?_; refine bin_add ?_
                refine sub_int (by walk_at "ml") (by walk_at "ms") (by walk_at "ms") (by walk_at "ms") (fun _ _ => ?_); refine ev_bin ?_; refine ev_name (by rfl) ?_
                refine ev_name (by rfl) ?_; refine bin_mulR (by walk_at "ms") ?_; refine bin_add ?_; refine ev_name (by rfl) ?_; refine bin_modp (by walk_at "ms") ?_
                refine as_sub ?_; refine ev_name (by rfl) ?_; refine ev_bin ?_; refine ev_name (by rfl) ?_; refine ev_name (by rfl) ?_; refine bin_add ?_
                rename_i y hy
                refine ⟨D, F'.map .int, 0, (i : Int) + j, rfl, rfl, rfl, by walk_at "o", by simp; walk_at "o", by walk_at "o", ?_⟩
                have e : ((i : Int) + (j : Int)).toNat = i + j := by walk_at "o"
                rw [e] at hy
                refine exs_nil ?_
                refine hKT _ ?_
                refine ⟨⟨[(Str.ofString "one", .int x), (Str.ofString "at", .int i), (Str.ofString "found", .own D), (Str.ofString "a", iL a), (Str.ofString "b", iL b), (Str.ofString "p", .int p)], _⟩, wk_of' ⟨rfl, rfl, rfl, rfl, rfl, rfl, trivial⟩ rfl, F'.set (i + j) ((y + x * z) % p), by simpa using hF', hR'.set (mod_ri hp.pos) _, fun g => ?_, ?_⟩
                · rw [dotp_take_succ hz]
                  refine (upd_cg hy (Cg.mod _) g).trans (((hg'' g).add Cg.rfl').trans (Cg.of_eq (by grind)))
                · rw [e]; simp
              · rintro σ ⟨F', hF', hR', hg'', rfl⟩
                simp only [List.length_map, List.take_length] at hg''
                exact hKM _ _ ⟨rfl, F', hF', hR', hg'', rfl⟩
            · rintro _ ⟨F', hF', hR', hg'', rfl⟩
              refine exs_nil ?_; refine exs_nil ?_
              refine hKT _ ?_
              exact ⟨⟨[(Str.ofString "found", .own D), (Str.ofString "a", iL a), (Str.ofString "b", iL b), (Str.ofString "p", .int p)], [(D, F'.map .int)]⟩, wk_of ⟨rfl, rfl, rfl, rfl, trivial⟩, F', hF', hR', fin F' hF' hR' hg'', rfl⟩
          · rename_i h0
            refine hKT _ ?_
            exact ⟨⟨[(Str.ofString "found", .own D), (Str.ofString "a", iL a), (Str.ofString "b", iL b), (Str.ofString "p", .int p)], [(D, F.map .int)]⟩, wk_of ⟨rfl, rfl, rfl, rfl, trivial⟩, F, hF, hR, fin F hF hR (fun g => Cg.of_eq (by rw [h0]; simp)), rfl⟩
        · rintro σ ⟨F, hF, hR, hg', rfl⟩
          simp only [List.length_map, List.take_length] at hg'
          exact hKM _ _ ⟨rfl, F, hF, hR, hg', rfl⟩
      · rintro _ ⟨F, hF, hR, hg', rfl⟩
        refine exs_freeze (Str.ofString "found") [] [] rfl rfl ?_
        refine exs_cons ?_; refine ex_ret ?_
        refine ev_fn0 (fd 4) 0 (hg ▸ hd 4 (by decide)) hk (by walk_at "o") ?_
        refine evl_cons ?_; refine ev_name (by rfl) ?_; refine evl_nil ?_
        refine (fn_mtrim _ (hg ▸ hd) F (by walk_at "o")).mono ?_
        rintro _ _ ⟨rfl, r, rfl, ht⟩
        exact ⟨rfl, hKR _ _ ⟨rfl, r, rfl, ht.ri hR, by have := ht.len; walk_at "o", fun g => by rw [ht.dot]; exact hg' g⟩⟩
theorem getD_of {xs : List Int} {i : Nat} {x : Int} (h : xs[i]? = some x) : xs.getD i 0 = x := by simp [List.getD, h]
theorem dotp_take_zero {F : List Int} {n : Nat} (h : ∀ k, n ≤ k → F.getD k 0 = 0) (g : Nat → Int) : dotp (F.take n) g = dotp F g := by
  have e : F.drop n = List.replicate (F.drop n).length 0 := by
    refine List.eq_replicate_iff.mpr ⟨rfl, fun x hx => ?_⟩
    obtain ⟨i, hi, rfl⟩ := List.mem_iff_getElem.mp hx
    have hi' : n + i < F.length := by simp at hi; walk_at "o"
    have := h (n + i) (by walk_at "o")
    simpa [hi'] using this
  conv => rhs; rw [← List.take_append_drop n F, e, dotp_append, dotp_zeros]
  simp
theorem div_turn {p : Int} {F F' f : List Int} {m n : Nat} {num y : Int} (hp : 0 < p) (hF' : Ri p F') (hn : f.length = n + 1) (hl : f[n]? = some 1) (hall : ∀ g, Cg p (dotp F' g) (dotp F g - num * dotp f fun j => g (m + j)))
    (hy : F[m + n]? = some y) (hc : Cg p num y) (hz : ∀ k, m + n + 1 ≤ k → F.getD k 0 = 0) : ∀ k, m + n ≤ k → F'.getD k 0 = 0 := by
  intro k hk
  have h := hall fun j => if j = k then 1 else 0
  have e : (fun j => if m + j = k then (1 : Int) else 0) = fun j => if j = k - m then 1 else 0 := by
    funext j
    by_cases hj : j = k - m
    · rw [if_pos hj, if_pos (by walk_at "o")]
    · rw [if_neg hj, if_neg (by walk_at "o")]
  simp only [e] at h
  rw [dotp_delta, dotp_delta, dotp_delta] at h
  have r := hF'.getD hp k
  have : Cg p (F'.getD k 0) 0 := by
    by_cases hkn : k = m + n
    · subst hkn
      rw [show m + n - m = n by walk_at "o", getD_of hl, getD_of hy] at h
      exact h.trans ((Cg.rfl'.sub (hc.mulR 1)).trans (Cg.of_eq (by walk_at "o")))
    · rw [hz k (by walk_at "o"), show f.getD (k - m) 0 = 0 by rw [List.getD_eq_getElem?_getD, List.getElem?_eq_none (by walk_at "o")]; rfl] at h
      exact h.trans (Cg.of_eq (by walk_at "o"))
  exact this.eq_of r ⟨by walk_at "o", hp⟩

theorem fn_mdivmod (g : Gl) (hd : Dm g) (a f : List Int) (n : Nat) (p : Int) (hp : Pp p) (ha : Ri p a) (hf : Ri p f) (hn : f.length = n + 1) (hl : f[n]? = some 1) (za : a.length ≤ 100) (zn : n ≤ 100) :
    Fn g (fd 7) 2 [iL a, iL f, .int p] [] fun v o => o = [] ∧ ∃ q r, v = .tup [iL q, iL r] ∧ RemS p f n a r := by
  refine fn_intro2 [Str.ofString "a", Str.ofString "b", Str.ofString "p"] (hd 7 (by decide)) (fun pm code doc vs h => ?_) (by decide) rfl (by decide) rfl rfl rfl fun c hg hn' hk KR hKR => ?_
  · match vs, h with | [v, w, u], _ => rfl
  · have hpp := hp.le
    have hlast : f.getLast? = some 1 := by rw [List.getLast?_eq_getElem?, hn]; exact hl
    have hne : f ≠ [] := by rintro rfl; simp at hn
    refine exs_cons ?_
    refine ex_swap2 (by assumption) ?_
    refine ev_bc (by rfl) (by assumption) (by rfl) ?_ (by first | exact .inl ⟨_, rfl⟩ | exact .inr ⟨_, rfl⟩) (by decide) (by rfl) (by rfl)
    refine evl_cons ?_; refine ev_name (by rfl) ?_; refine evl_nil ?_; refine bc_list (by walk_at "ml") (by walk_at "mz") ?_
    refine .inr fun D => ?_
    refine ev_bin ?_; refine ev_list ?_; refine evl_cons ?_; refine ev_int ?_; refine evl_nil ?_; refine ⟨by walk_at "mz", ?_⟩
    refine .inl ?_
    refine ev_bc (by rfl) (by assumption) (by rfl) ?_ (by first | exact .inl ⟨_, rfl⟩ | exact .inr ⟨_, rfl⟩) (by decide) (by rfl) (by rfl)
    refine evl_cons ?_; refine ev_int ?_; refine evl_cons ?_; refine ev_bin ?_; refine ev_bin ?_
    refine ev_bc (by rfl) (by assumption) (by rfl) ?_ (by first | exact .inl ⟨_, rfl⟩ | exact .inr ⟨_, rfl⟩) (by decide) (by rfl) (by rfl)
    refine evl_cons ?_; refine ev_name (by rfl) ?_; refine evl_nil ?_; refine bc_lenI (by walk_at "ml") (by walk_at "mz") ?_
    refine ev_bc (by rfl) (by assumption) (by rfl) ?_ (by first | exact .inl ⟨_, rfl⟩ | exact .inr ⟨_, rfl⟩) (by decide) (by rfl) (by rfl)
    refine evl_cons ?_; refine ev_name (by rfl) ?_; refine evl_nil ?_; refine bc_lenI (by walk_at "ml") (by walk_at "mz") ?_; refine bin_sub ?_
    refine ev_int ?_; refine bin_add ?_; refine evl_nil ?_; refine bc_max ?_; refine bin_repI (by walk_at "mz") (by walk_at "mz") ?_
    refine .inr fun Q => ?_
    refine put2 ?_; refine exs_cons ?_; refine ex_assign ?_
    refine ev_fn0 (fd 2) 1 (hg ▸ hd 2 (by decide)) hk (by walk_at "o") ?_
    refine evl_cons ?_; refine ev_sub ?_; refine ev_name (by rfl) ?_; refine ev_negc ?_
    refine sub_last (by walk_at "ml") (by walk_at "ms") (by walk_at "ms") (fun _ _ => ?_); refine evl_cons ?_; refine ev_name (by rfl) ?_; refine evl_nil ?_
    rename_i x hx
    have : x = 1 := by rw [hlast] at hx; exact (Option.some.inj hx).symm
    subst this
    refine (fn_inverse _ (hg ▸ hd) 1 p (by rw [Int.emod_eq_of_lt (by decide) (by walk_at "o")]; decide) hp).mono ?_
    rintro _ _ ⟨rfl, t, rfl, t0, t1, ht⟩
    refine ⟨rfl, ?_⟩
    refine as_name2 (by walk_at "mv") ?_
    refine exs_mid2 (fun σ => ∃ F qs : List Int, F.length = a.length ∧ qs.length ≤ 101 ∧ Ri p F ∧ (∀ k, n ≤ k → F.getD k 0 = 0) ∧ (∀ g, Rec p f g → Cg p (dotp F g) (dotp a g)) ∧ σ = ⟨[(Str.ofString "turn", .int t), (Str.ofString "rest", .own D), (Str.ofString "quotient", .own Q), (Str.ofString "a", iL a), (Str.ofString "b", iL f), (Str.ofString "p", .int p)], [(Q, qs.map .int), (D, F.map .int)]⟩) (fun KM hKM => ?_) ?_
    · refine ex_for2 (evi_range3 hk.gi ?_)
      refine evl_cons ?_; refine ev_bin ?_
      refine ev_bc (by rfl) (by assumption) (by rfl) ?_ (by first | exact .inl ⟨_, rfl⟩ | exact .inr ⟨_, rfl⟩) (by decide) (by rfl) (by rfl)
      refine evl_cons ?_; refine ev_name (by rfl) ?_; refine evl_nil ?_; refine bc_lenI (by walk_at "ml") (by walk_at "mz") ?_
      refine ev_bc (by rfl) (by assumption) (by rfl) ?_ (by first | exact .inl ⟨_, rfl⟩ | exact .inr ⟨_, rfl⟩) (by decide) (by rfl) (by rfl)
      refine evl_cons ?_; refine ev_name (by rfl) ?_; refine evl_nil ?_; refine bc_lenI (by walk_at "ml") (by walk_at "mz") ?_; refine bin_sub ?_
      refine evl_cons ?_; refine ev_negc ?_; refine evl_cons ?_; refine ev_negc ?_; refine evl_nil ?_
      refine ⟨_, _, rfl, ⟨by walk_at "o", by walk_at "o"⟩, ⟨by walk_at "o", by walk_at "o"⟩, by walk_at "o", rfl, fun i σ => ∃ F qs : List Int, F.length = a.length ∧ qs.length = ((a.length : Int) - f.length + 1).toNat ∧ Ri p F ∧ (∀ k, a.length ≤ k + i → F.getD k 0 = 0) ∧ (∀ g, Rec p f g → Cg p (dotp F g) (dotp a g)) ∧ σ = ⟨[(Str.ofString "turn", .int t), (Str.ofString "rest", .own D), (Str.ofString "quotient", .own Q), (Str.ofString "a", iL a), (Str.ofString "b", iL f), (Str.ofString "p", .int p)], [(Q, qs.map .int), (D, F.map .int)]⟩,
        ⟨⟨[(Str.ofString "turn", .int t), (Str.ofString "rest", .own D), (Str.ofString "quotient", .own Q), (Str.ofString "a", iL a), (Str.ofString "b", iL f), (Str.ofString "p", .int p)], _⟩, wk_of' ⟨rfl, rfl, rfl, rfl, rfl, rfl, trivial⟩ rfl, a, List.replicate (if (a.length : Int) - f.length + 1 > 0 then (a.length : Int) - f.length + 1 else 0).toNat 0, rfl, ?_, ha, fun k hk => ?_, fun g _ => Cg.rfl', ?_⟩, ?_, ?_⟩
      · simp only [List.length_replicate]; split <;> walk_at "o"
      · rw [List.getD_eq_getElem?_getD, List.getElem?_eq_none (by walk_at "o")]; rfl
      · simp
      · rintro i σ hi ⟨F, qs, hF, hq, hR, hz, hg', rfl⟩ KT hKT
        obtain ⟨m, hm⟩ : ∃ m : Nat, (a.length : Int) - f.length - i = m := ⟨((a.length : Int) - f.length - i).toNat, by walk_at "o"⟩
        simp only [hm]
        have hmn : m + n < F.length := by walk_at "o"
        obtain ⟨y, hy⟩ : ∃ y, F[m + n]? = some y := ⟨F[m + n], by simp⟩
        have hyr := hR.at hy
        refine as_name2 (by walk_at "mv") ?_; refine exs_cons ?_; refine ex_assign ?_; refine ev_bin ?_; refine ev_bin ?_; refine ev_sub ?_
        refine ev_name (by rfl) ?_; refine ev_bin ?_; refine ev_bin ?_; refine ev_name (by rfl) ?_
        refine ev_bc (by rfl) (by assumption) (by rfl) ?_ (by first | exact .inl ⟨_, rfl⟩ | exact .inr ⟨_, rfl⟩) (by decide) (by rfl) (by rfl)
        refine evl_cons ?_; refine ev_name (by rfl) ?_; refine evl_nil ?_; refine bc_lenI (by walk_at "ml") (by walk_at "mz") ?_; refine bin_add ?_
        refine ev_int ?_; refine bin_sub ?_; refine sub_int (by walk_at "ml") (by walk_at "ms") (by walk_at "ms") (by walk_at "ms") (fun _ _ => ?_)
        refine ev_name (by rfl) ?_; refine bin_mulR (by walk_at "ms") ?_; refine ev_name (by rfl) ?_; refine bin_modp (by walk_at "ms") ?_
        refine as_name2 (by walk_at "mv") ?_; refine exs_cons ?_; refine ex_assign ?_; refine ev_name (by rfl) ?_; refine as_sub ?_; refine ev_name (by rfl) ?_
        refine ev_name (by rfl) ?_
        rename_i y' hy'
        have : ((m : Int) + f.length - 1).toNat = m + n := by walk_at "o"
        rw [this, hy] at hy'
        cases hy'
        obtain ⟨num, hnum⟩ : ∃ num, num = y * t % p := ⟨_, rfl⟩
        have hnr : 0 ≤ num ∧ num < p := hnum ▸ mod_ri hp.pos
        have hcg : Cg p num y := by
          rw [hnum]; exact (Cg.mod _).trans (Cg.trans (Cg.of_eq (by simp)) ((Cg.mulL y ht).trans' (by simp)))
        rw [← hnum]
        refine ⟨Q, qs.map .int, 0, m, rfl, rfl, rfl, by walk_at "o", by simp; walk_at "o", by walk_at "o", ?_⟩
        have fin : ∀ F' : List Int, Ri p F' → (∀ g, Cg p (dotp F' g) (dotp F g - num * dotp f fun j => g (m + j))) → (∀ k, a.length ≤ k + (i + 1) → F'.getD k 0 = 0) ∧ ∀ g, Rec p f g → Cg p (dotp F' g) (dotp a g) := fun F' hR' h' => by
          refine ⟨fun k hk => div_turn hp.pos hR' hn hl h' hy hcg (fun k hk => hz k (by walk_at "o")) k (by walk_at "o"), fun g hr => ?_⟩
          refine (h' g).trans (((hg' g hr).sub (Cg.mulL num (hr m))).trans' (by simp))
        refine exs_cons ?_; refine ex_if ?_; refine evt_cmp ?_; refine ev_name (by rfl) ?_; refine ev_int ?_; refine cmp_ne ?_
        refine if_bne (fun _ => ?_) (fun _ => ?_); rotate_left; refine exs_nil ?_; refine exs_nil ?_; rotate_left
        · rename_i hne0
          refine exs_mid2 (fun σ => ∃ F' : List Int, F'.length = a.length ∧ Ri p F' ∧ (∀ g, Cg p (dotp F' g) (dotp F g - num * dotp f fun j => g (m + j))) ∧ σ = ⟨[(Str.ofString "number", .int num), (Str.ofString "at", .int m), (Str.ofString "turn", .int t), (Str.ofString "rest", .own D), (Str.ofString "quotient", .own Q), (Str.ofString "a", iL a), (Str.ofString "b", iL f), (Str.ofString "p", .int p)], [(Q, (qs.set m num).map .int), (D, F'.map .int)]⟩) (fun KM hKM => ?_) ?_
          · refine ex_for2 (evi_enum hk.gi ?_)
            refine evl_cons ?_; refine ev_name (by rfl) ?_; refine evl_nil ?_
            refine ⟨_, rfl, rfl, fun j σ => ∃ F' : List Int, F'.length = a.length ∧ Ri p F' ∧ (∀ g, Cg p (dotp F' g) (dotp F g - num * dotp (f.take j) fun j => g (m + j))) ∧ σ = ⟨[(Str.ofString "number", .int num), (Str.ofString "at", .int m), (Str.ofString "turn", .int t), (Str.ofString "rest", .own D), (Str.ofString "quotient", .own Q), (Str.ofString "a", iL a), (Str.ofString "b", iL f), (Str.ofString "p", .int p)], [(Q, (qs.set m num).map .int), (D, F'.map .int)]⟩,
              ⟨⟨[(Str.ofString "number", .int num), (Str.ofString "at", .int m), (Str.ofString "turn", .int t), (Str.ofString "rest", .own D), (Str.ofString "quotient", .own Q), (Str.ofString "a", iL a), (Str.ofString "b", iL f), (Str.ofString "p", .int p)], _⟩, wk_of' ⟨rfl, rfl, rfl, rfl, rfl, rfl, rfl, rfl, trivial⟩ rfl, F, hF, hR, fun g => Cg.of_eq (by simp [dotp]), by simp⟩, ?_, ?_⟩
            · rintro j σ hj ⟨F', hF', hR', hg'', rfl⟩ KT hKT
              obtain ⟨z, hz'⟩ := ex_at hj
              have hzr := hf.at hz'
              simp only [getD_int hz']
              have hj' : j < f.length := by simpa using hj
              refine as_tuple ?_; refine asl_cons ?_; refine as_name2 (by walk_at "mv") ?_; refine asl_cons ?_; refine as_name2 (by walk_at "mv") ?_
              refine asl_nil ?_; refine exs_cons ?_; refine ex_assign ?_; refine ev_bin ?_; refine ev_bin ?_; refine ev_sub ?_; refine ev_name (by rfl) ?_
              refine ev_bin ?_; refine ev_name (by rfl) ?_; refine ev_name (by rfl) ?_; refine bin_add ?_
              refine sub_int (by walk_at "ml") (by walk_at "ms") (by walk_at "ms") (by walk_at "ms") (fun _ _ => ?_); refine ev_bin ?_; refine ev_name (by rfl) ?_
              refine ev_name (by rfl) ?_; refine bin_mulR (by walk_at "ms") ?_; refine bin_sub ?_; refine ev_name (by rfl) ?_; refine bin_modp (by walk_at "ms") ?_
              refine as_sub ?_; refine ev_name (by rfl) ?_; refine ev_bin ?_; refine ev_name (by rfl) ?_; refine ev_name (by rfl) ?_; refine bin_add ?_
              rename_i y' hy'
              refine ⟨D, F'.map .int, 1, (m : Int) + j, rfl, rfl, rfl, by walk_at "o", by simp; walk_at "o", by walk_at "o", ?_⟩
              have e : ((m : Int) + (j : Int)).toNat = m + j := by walk_at "o"
              rw [e] at hy'
              refine exs_nil ?_
              refine hKT _ ?_
              refine ⟨⟨[(Str.ofString "number", .int num), (Str.ofString "at", .int m), (Str.ofString "turn", .int t), (Str.ofString "rest", .own D), (Str.ofString "quotient", .own Q), (Str.ofString "a", iL a), (Str.ofString "b", iL f), (Str.ofString "p", .int p)], _⟩, wk_of' ⟨rfl, rfl, rfl, rfl, rfl, rfl, rfl, rfl, trivial⟩ rfl, F'.set (m + j) ((y' - num * z) % p), by simpa using hF', hR'.set (mod_ri hp.pos) _, fun g => ?_, ?_⟩
              · rw [dotp_take_succ hz']
                refine (upd_cg (w := -(num * z)) hy' ((Cg.mod _).trans (Cg.of_eq (by walk_at "o"))) g).trans (((hg'' g).add Cg.rfl').trans (Cg.of_eq (by grind)))
              · rw [e]; simp
            · rintro σ ⟨F', hF', hR', hg'', rfl⟩
              simp only [List.length_map, List.take_length] at hg''
              exact hKM _ _ ⟨rfl, F', hF', hR', hg'', rfl⟩
          · rintro _ ⟨F', hF', hR', hg'', rfl⟩
            refine exs_nil ?_; refine exs_nil ?_
            refine hKT _ ?_
            exact ⟨⟨[(Str.ofString "turn", .int t), (Str.ofString "rest", .own D), (Str.ofString "quotient", .own Q), (Str.ofString "a", iL a), (Str.ofString "b", iL f), (Str.ofString "p", .int p)], _⟩, wk_of' ⟨rfl, rfl, rfl, rfl, rfl, rfl, trivial⟩ rfl, F', qs.set m num, hF', by simpa using hq, hR', (fin F' hR' hg'').1, (fin F' hR' hg'').2, rfl⟩
        · rename_i h0
          refine hKT _ ?_
          have fz := fin F hR fun g => Cg.of_eq (by rw [h0]; simp)
          exact ⟨⟨[(Str.ofString "turn", .int t), (Str.ofString "rest", .own D), (Str.ofString "quotient", .own Q), (Str.ofString "a", iL a), (Str.ofString "b", iL f), (Str.ofString "p", .int p)], _⟩, wk_of' ⟨rfl, rfl, rfl, rfl, rfl, rfl, trivial⟩ rfl, F, qs.set m num, hF, by simpa using hq, hR, fz.1, fz.2, by simp⟩
      · rintro σ ⟨F, qs, hF, hq, hR, hz, hg', rfl⟩
        refine hKM _ _ ⟨rfl, F, qs, hF, by walk_at "o", hR, fun k hk => hz k (by walk_at "o"), hg', rfl⟩
    · rintro _ ⟨F, qs, hF, hq, hR, hz, hg', rfl⟩
      refine exs_freeze (Str.ofString "quotient") [] _ rfl rfl ?_
      refine exs_freeze (Str.ofString "rest") [] [] rfl rfl ?_
      refine exs_cons ?_; refine ex_ret ?_; refine ev_tuple ?_; refine evl_cons ?_
      refine ev_fn0 (fd 4) 0 (hg ▸ hd 4 (by decide)) hk (by walk_at "o") ?_
      refine evl_cons ?_; refine ev_name (by rfl) ?_; refine evl_nil ?_
      refine (fn_mtrim _ (hg ▸ hd) qs (by walk_at "o")).mono ?_
      rintro _ _ ⟨rfl, q, rfl, _⟩
      refine ⟨rfl, ?_⟩
      refine evl_cons ?_
      refine ev_fn0 (fd 4) 0 (hg ▸ hd 4 (by decide)) hk (by walk_at "o") ?_
      refine evl_cons ?_; refine ev_slice_to ?_; refine ev_name (by rfl) ?_; refine ev_bin ?_
      refine ev_bc (by rfl) (by assumption) (by rfl) ?_ (by first | exact .inl ⟨_, rfl⟩ | exact .inr ⟨_, rfl⟩) (by decide) (by rfl) (by rfl)
      refine evl_cons ?_; refine ev_name (by rfl) ?_; refine evl_nil ?_; refine bc_lenI (by walk_at "ml") (by walk_at "mz") ?_; refine ev_int ?_
      refine bin_sub ?_; refine ⟨_, _, (by walk_at "ml"), rfl, (by walk_at "mz"), (by walk_at "mz"), .inl ?_⟩; refine evl_nil ?_
      have e : ((f.length : Int) - 1).toNat = n := by walk_at "o"
      rw [e, ← List.map_take]
      refine (fn_mtrim _ (hg ▸ hd) (F.take n) (by simp; walk_at "o")).mono ?_
      rintro _ _ ⟨rfl, r, rfl, ht'⟩
      refine ⟨rfl, ?_⟩
      refine evl_nil ?_; refine ⟨by walk_at "mz", ?_⟩
      exact hKR _ _ ⟨rfl, q, r, rfl, ht'.ri (hR.take n), by have := ht'.len; simp at this; walk_at "o", fun g hr => by rw [ht'.dot, dotp_take_zero hz]; exact hg' g hr⟩
theorem fn_mrest (g : Gl) (hd : Dm g) (a f : List Int) (n : Nat) (p : Int) (hp : Pp p) (ha : Ri p a) (hf : Ri p f) (hn : f.length = n + 1) (hl : f[n]? = some 1) (za : a.length ≤ 100) (zn : n ≤ 100) :
    Fn g (fd 8) 3 [iL a, iL f, .int p] [] fun v o => o = [] ∧ ∃ r, v = iL r ∧ RemS p f n a r := by
  refine fn_intro2 [Str.ofString "a", Str.ofString "b", Str.ofString "p"] (hd 8 (by decide)) (fun pm code doc vs h => ?_) (by decide) rfl (by decide) rfl rfl rfl fun c hg hn' hk KR hKR => ?_
  · match vs, h with | [v, w, u], _ => rfl
  · refine exs_cons ?_
    refine ex_ret ?_; refine ev_sub ?_
    refine ev_fn0 (fd 7) 2 (hg ▸ hd 7 (by decide)) hk (by walk_at "o") ?_
    refine evl_cons ?_; refine ev_name (by rfl) ?_; refine evl_cons ?_; refine ev_name (by rfl) ?_; refine evl_cons ?_; refine ev_name (by rfl) ?_
    refine evl_nil ?_
    refine (fn_mdivmod _ (hg ▸ hd) a f n p hp ha hf hn hl za zn).mono ?_
    rintro _ _ ⟨rfl, q, r, rfl, h⟩
    refine ⟨rfl, ?_⟩
    refine ev_int ?_; refine sub_tup (by decide) (by decide) (by rfl) ?_
    exact hKR _ _ ⟨rfl, r, rfl, h⟩
set_option genSizeOf false
set_option genSizeOfSpec false
set_option genInjectivity false
structure Mon (p : Int) (f : List Int) (d : Nat) : Prop where
  ri : Ri p f
  len : f.length = d + 1
  lead : f[d]? = some 1
  sm : d ≤ 10
/-- the rest of a product -/
theorem fn_restmul {c : Cx} {σ : St} {K : AV → St → Prop} {names : List (Str × NameKind)} {g : Gl} (hg : c.g = g) (hd : Dm g) (hk : Kinds c.env names) (hn : 4 ≤ c.n) {x y f : List Int} {d e s : Nat} {p : Int} (hp : Pp p) (hf : Mon p f d) (hx : Rep p f d e x) (hy : Rep p f d s y)
    {ex ey ep ef ep2 : Expr} {p1 p2 pos pos2 : Pos} (k : ∀ r, Rep p f d (e + s) r → K (iL r) σ)
    (h1 : ∀ K, K (iL x) σ → Ev c ex σ K) (h2 : ∀ K, K (iL y) σ → Ev c ey σ K) (h3 : ∀ K, K (.int p) σ → Ev c ep σ K) (h4 : ∀ K, K (iL f) σ → Ev c ef σ K) (h5 : ∀ K, K (.int p) σ → Ev c ep2 σ K)
    (g1 : names.lookup (Str.ofString "mrest") = some .globalImplicit := by rfl) (g2 : names.lookup (Str.ofString "mmul") = some .globalImplicit := by rfl)
    (e1 : starEach [ex, ey, ep] c.env = (false, eval ex c.env) :: starEach [ey, ep] c.env := by rfl) (e2 : starEach [ey, ep] c.env = (false, eval ey c.env) :: starEach [ep] c.env := by rfl) (e3 : starEach [ep] c.env = (false, eval ep c.env) :: starEach [] c.env := by rfl)
    (e4 : starEach [ef, ep2] c.env = (false, eval ef c.env) :: starEach [ep2] c.env := by rfl) (e5 : starEach [ep2] c.env = (false, eval ep2 c.env) :: starEach [] c.env := by rfl) :
    Ev c (.Call (.Name (Str.ofString "mrest") p1) [.Call (.Name (Str.ofString "mmul") p2) [ex, ey, ep] [] pos2, ef, ep2] [] pos) σ K := by
  refine ev_fn0 (fd 8) 3 (hg ▸ hd 8 (by decide)) hk (by walk_at "o") ?_ (hg := g1)
  refine evl_cons ?_
  refine ev_fn0 (fd 6) 1 (hg ▸ hd 6 (by decide)) hk (by walk_at "o") ?_ (hg := g2) (he := e1)
  refine evl_cons (h1 _ (evl_cons (h2 _ (evl_cons (h3 _ (evl_nil ?_)) (he := e3))) (he := e2))) (he := e1)
  have := hf.sm
  refine (fn_mmul _ (hg ▸ hd) x y p hp hx.ri hy.ri (by have := hx.len; walk_at "o") (by have := hy.len; walk_at "o")).mono ?_
  rintro _ _ ⟨rfl, r, rfl, hr⟩
  refine ⟨rfl, ?_⟩
  refine evl_cons (h4 _ (evl_cons (h5 _ (evl_nil ?_)) (he := e5))) (he := e4)
  refine (fn_mrest _ (hg ▸ hd) r f d p hp hr.ri hf.ri hf.len hf.lead (by have := hr.len; have := hx.len; have := hy.len; walk_at "o") (by walk_at "o")).mono ?_
  rintro _ _ ⟨rfl, r', rfl, hr'⟩
  exact ⟨rfl, k r' (hx.mul hy hr hr')⟩

theorem fn_mpower (g : Gl) (hd : Dm g) (N : Nat) (f : List Int) (d : Nat) (p : Int) (hp : Pp p) (hf : Mon p f d) (hN : N ≤ 100) :
    Fn g (fd 9) 4 [iL [0, 1], .int N, iL f, .int p] [] fun v o => o = [] ∧ ∃ r, v = iL r ∧ Rep p f d N r := by
  refine fn_intro2 [Str.ofString "a", Str.ofString "n", Str.ofString "f", Str.ofString "p"] (hd 9 (by decide)) (fun pm code doc vs h => ?_) (by decide) rfl (by decide) rfl rfl rfl fun c hg hn' hk KR hKR => ?_
  · match vs, h with | [v, w, u, z], _ => rfl
  · have hpp := hp.le
    have hsm := hf.sm
    have r01 : Ri p [0, 1] := by intro x hx; simp at hx; walk_at "o"
    refine exs_cons ?_
    refine ex_swap2 (by assumption) ?_
    refine ev_fn0 (fd 8) 3 (hg ▸ hd 8 (by decide)) hk (by walk_at "o") ?_
    refine evl_cons ?_; refine ev_list ?_; refine evl_cons ?_; refine ev_int ?_; refine evl_nil ?_; refine ⟨by walk_at "mz", ?_⟩
    refine .inl ?_
    refine evl_cons ?_; refine ev_name (by rfl) ?_; refine evl_cons ?_; refine ev_name (by rfl) ?_; refine evl_nil ?_
    refine (fn_mrest _ (hg ▸ hd) [1] f d p hp (Ri.one ⟨by walk_at "o", by walk_at "o"⟩) hf.ri hf.len hf.lead (by simp) (by walk_at "o")).mono ?_
    rintro _ _ ⟨rfl, one, rfl, h1⟩
    refine ⟨rfl, ?_⟩
    refine ev_fn0 (fd 8) 3 (hg ▸ hd 8 (by decide)) hk (by walk_at "o") ?_
    refine evl_cons ?_; refine ev_name (by rfl) ?_; refine evl_cons ?_; refine ev_name (by rfl) ?_; refine evl_cons ?_; refine ev_name (by rfl) ?_
    refine evl_nil ?_
    refine (fn_mrest _ (hg ▸ hd) [0, 1] f d p hp r01 hf.ri hf.len hf.lead (by simp) (by walk_at "o")).mono ?_
    rintro _ _ ⟨rfl, two, rfl, h2⟩
    refine ⟨rfl, ?_⟩
    refine put2 ?_
    have q1 := Rep.one h1
    have q2 := Rep.x h2
    refine exs_mid2 (fun σ => ∃ (m : Nat) (F S : List Int), Rep p f d N F ∧ σ = ⟨[(Str.ofString "found", iL F), (Str.ofString "square", iL S), (Str.ofString "n", .int m), (Str.ofString "f", iL f), (Str.ofString "p", .int p)], []⟩) (fun KM hKM => ?_) ?_
    · refine ex_while2 (fun k σ => ∃ (m e s : Nat) (F S : List Int), k = m ∧ m ≤ 100 ∧ Rep p f d e F ∧ (0 < m → Rep p f d s S) ∧ e + s * m = N ∧ σ = ⟨[(Str.ofString "found", iL F), (Str.ofString "square", iL S), (Str.ofString "n", .int m), (Str.ofString "f", iL f), (Str.ofString "p", .int p)], []⟩) N
        ⟨⟨[(Str.ofString "found", iL one), (Str.ofString "square", iL two), (Str.ofString "n", .int N), (Str.ofString "f", iL f), (Str.ofString "p", .int p)], []⟩, wk_of ⟨rfl, rfl, rfl, rfl, rfl, trivial⟩, N, 0, 1, one, two, rfl, hN, q1, fun _ => q2, by walk_at "o", rfl⟩ ?_
      rintro m _ ⟨_, e, s, F, S, rfl, hm, hF, hS, hN', rfl⟩ KT hKT
      refine evt_cmp ?_; refine ev_name (by rfl) ?_; refine ev_int ?_; refine cmp_gt ?_; refine if_dec (fun _ => ?_) (fun _ => ?_); rotate_left; rotate_left
      · rename_i h0
        have hS' := hS (by walk_at "o")
        refine exs_midw2 (fun σ => ∃ (F' : List Int), Rep p f d (e + s * (m % 2)) F' ∧ σ = ⟨[(Str.ofString "found", iL F'), (Str.ofString "square", iL S), (Str.ofString "n", .int m), (Str.ofString "f", iL f), (Str.ofString "p", .int p)], []⟩) (fun KM hKM => ?_) ?_
        · refine ex_if ?_; refine evt_cmp ?_; refine ev_bin ?_; refine ev_name (by rfl) ?_; refine ev_int ?_; refine bin_modp (by walk_at "ms") ?_
          refine ev_int ?_; refine cmp_eq ?_; refine if_beq (fun _ => ?_) (fun _ => ?_); refine exs_cons ?_; refine ex_assign ?_; rotate_left; refine exs_nil ?_
          rotate_left
          · rename_i h1
            have : m % 2 = 1 := by walk_at "o"
            refine fn_restmul hg hd hk (by walk_at "o") hp hf hF hS' (fun r hr => ?_) (fun K h => ev_name (by rfl) h) (fun K h => ev_name (by rfl) h) (fun K h => ev_name (by rfl) h) (fun K h => ev_name (by rfl) h) (fun K h => ev_name (by rfl) h)
            refine as_name2 (by walk_at "mv") ?_; refine exs_nil ?_
            exact hKM _ _ ⟨rfl, ⟨[(Str.ofString "found", iL r), (Str.ofString "square", iL S), (Str.ofString "n", .int m), (Str.ofString "f", iL f), (Str.ofString "p", .int p)], []⟩, wk_of ⟨rfl, rfl, rfl, rfl, rfl, trivial⟩, r, by rw [this, Nat.mul_one]; exact hr, rfl⟩
          · rename_i h1
            have : m % 2 = 0 := by walk_at "o"
            exact hKM _ _ ⟨rfl, ⟨[(Str.ofString "found", iL F), (Str.ofString "square", iL S), (Str.ofString "n", .int m), (Str.ofString "f", iL f), (Str.ofString "p", .int p)], []⟩, wk_of ⟨rfl, rfl, rfl, rfl, rfl, trivial⟩, F, by rw [this]; exact hF, rfl⟩
        · rintro _ ⟨F', hF', rfl⟩
          refine exs_cons ?_; refine ex_assign ?_; refine ev_bin ?_; refine ev_name (by rfl) ?_; refine ev_int ?_
          refine bin_fdivp (by walk_at "ms") (by walk_at "ms") ?_; refine as_name2 (by walk_at "mv") ?_; refine exs_cons ?_; refine ex_if ?_; refine evt_cmp ?_
          refine ev_name (by rfl) ?_; refine ev_int ?_; refine cmp_gt ?_; refine if_dec (fun _ => ?_) (fun _ => ?_); refine exs_cons ?_; refine ex_assign ?_
          rotate_left; refine exs_nil ?_; refine exs_nil ?_; rotate_left
          · rename_i h2
            refine fn_restmul hg hd hk (by walk_at "o") hp hf hS' hS' (fun r hr => ?_) (fun K h => ev_name (by rfl) h) (fun K h => ev_name (by rfl) h) (fun K h => ev_name (by rfl) h) (fun K h => ev_name (by rfl) h) (fun K h => ev_name (by rfl) h)
            refine as_name2 (by walk_at "mv") ?_; refine exs_nil ?_; refine exs_nil ?_
            refine hKT _ ?_
            refine ⟨m / 2, ⟨[(Str.ofString "found", iL F'), (Str.ofString "square", iL r), (Str.ofString "n", .int (m / 2 : Nat)), (Str.ofString "f", iL f), (Str.ofString "p", .int p)], []⟩, by walk_at "o", wk_of ⟨rfl, rfl, rfl, rfl, rfl, trivial⟩, m / 2, _, s + s, F', r, rfl, by walk_at "o", hF', fun _ => hr, ?_, rfl⟩
            have := Nat.div_add_mod m 2
            grind
          · rename_i h2
            have : m / 2 = 0 := by walk_at "o"
            have h1 : m = 1 := by walk_at "o"
            subst h1
            refine hKT _ ?_
            exact ⟨0, ⟨[(Str.ofString "found", iL F'), (Str.ofString "square", iL S), (Str.ofString "n", .int (0 : Nat)), (Str.ofString "f", iL f), (Str.ofString "p", .int p)], []⟩, by walk_at "o", wk_of ⟨rfl, rfl, rfl, rfl, rfl, trivial⟩, 0, _, s, F', S, rfl, by walk_at "o", hF', fun h => absurd h (by walk_at "o"), by walk_at "o", rfl⟩
      · rename_i h0
        have : m = 0 := by walk_at "o"
        subst this
        exact hKM _ _ ⟨rfl, 0, F, S, by rw [← hN']; exact hF, rfl⟩
    · rintro _ ⟨m, F, S, hF, rfl⟩
      refine exs_cons ?_; refine ex_ret ?_; refine ev_name (by rfl) ?_
      exact hKR _ _ ⟨rfl, F, rfl, hF⟩
/-- the row of Berlekamp's matrix -/
def brow (p : Int) (d at' : Nat) (r : List Int) : List Int := (pad d r).set at' (((pad d r).getD at' 0 - 1) % p)
def BRows (p : Int) (f : List Int) (d P i : Nat) (rows : List (List Int)) : Prop := rows.length = i ∧ ∀ j, j < i → ∃ r, Rep p f d (j * P) r ∧ rows[j]? = some (brow p d j r)
theorem BRows.snoc {p : Int} {f : List Int} {d P i : Nat} {rows : List (List Int)} {r : List Int} (h : BRows p f d P i rows) (hr : Rep p f d (i * P) r) : BRows p f d P (i + 1) (rows ++ [brow p d i r]) := by
  refine ⟨by simp [h.1], fun j hj => ?_⟩
  by_cases hji : j < i
  · obtain ⟨r', h1, h2⟩ := h.2 j hji
    exact ⟨r', h1, by rw [List.getElem?_append_left (by rw [h.1]; exact hji)]; exact h2⟩
  · have : j = i := by walk_at "o"
    subst this
    exact ⟨r, hr, by rw [List.getElem?_append_right (by rw [h.1]; exact Nat.le_refl _), h.1]; simp⟩
theorem fn_berl (g : Gl) (hd : Dm g) (P : Nat) (f : List Int) (d : Nat) (hp : Pp P) (hf : Mon P f d) (hd1 : 1 ≤ d) :
    Fn g (fd 11) 5 [iL f, .int P] [] fun v o => o = [] ∧ ∃ rows, v = .lst (rows.map iL) ∧ BRows P f d P d rows := by
  refine fn_intro2 [Str.ofString "f", Str.ofString "p"] (hd 11 (by decide)) (fun pm code doc vs h => ?_) (by decide) rfl (by decide) rfl rfl rfl fun c hg hn' hk KR hKR => ?_
  · match vs, h with | [v, w], _ => rfl
  · have hpp := hp.le
    have hsm := hf.sm
    have hlen := hf.len
    refine exs_cons ?_
    refine ex_assign ?_
    refine ev_fn0 (fd 5) 0 (hg ▸ hd 5 (by decide)) hk (by walk_at "o") ?_
    refine evl_cons ?_; refine ev_name (by rfl) ?_; refine evl_nil ?_
    refine (fn_mdegree _ (hg ▸ hd) f (by walk_at "o")).mono ?_
    rintro _ _ ⟨rfl, rfl⟩
    rw [show ((f.length : Int) - 1) = (d : Int) by walk_at "o"]
    refine ⟨rfl, ?_⟩
    refine as_name2 (by walk_at "mv") ?_; refine exs_cons ?_; refine ex_swap3 (by assumption) ?_
    refine ev_fn0 (fd 9) 4 (hg ▸ hd 9 (by decide)) hk (by walk_at "o") ?_
    refine evl_cons ?_; refine ev_list ?_; refine evl_cons ?_; refine ev_int ?_; refine evl_cons ?_; refine ev_int ?_; refine evl_nil ?_
    refine ⟨by walk_at "mz", ?_⟩
    refine .inl ?_
    refine evl_cons ?_; refine ev_name (by rfl) ?_; refine evl_cons ?_; refine ev_name (by rfl) ?_; refine evl_cons ?_; refine ev_name (by rfl) ?_
    refine evl_nil ?_
    refine (fn_mpower _ (hg ▸ hd) P f d P hp hf (by walk_at "o")).mono ?_
    rintro _ _ ⟨rfl, st, rfl, hst⟩
    refine ⟨rfl, ?_⟩
    refine ev_fn0 (fd 8) 3 (hg ▸ hd 8 (by decide)) hk (by walk_at "o") ?_
    refine evl_cons ?_; refine ev_list ?_; refine evl_cons ?_; refine ev_int ?_; refine evl_nil ?_; refine ⟨by walk_at "mz", ?_⟩
    refine .inl ?_
    refine evl_cons ?_; refine ev_name (by rfl) ?_; refine evl_cons ?_; refine ev_name (by rfl) ?_; refine evl_nil ?_
    refine (fn_mrest _ (hg ▸ hd) [1] f d P hp (Ri.one ⟨by walk_at "o", by walk_at "o"⟩) hf.ri hf.len hf.lead (by simp) (by walk_at "o")).mono ?_
    rintro _ _ ⟨rfl, one, rfl, h1⟩
    refine ⟨rfl, ?_⟩
    refine ev_list ?_; refine evl_nil ?_; refine ⟨by walk_at "mz", ?_⟩
    refine .inr fun R => ?_
    refine put3 ?_
    refine exs_mid2 (fun σ => ∃ (pw : List Int) (rows : List (List Int)), BRows P f d P d rows ∧ σ = ⟨[(Str.ofString "many", .int d), (Str.ofString "step", iL st), (Str.ofString "power", iL pw), (Str.ofString "rows", .own R), (Str.ofString "f", iL f), (Str.ofString "p", .int P)], [(R, rows.map iL)]⟩) (fun KM hKM => ?_) ?_
    · refine ex_for2 (evi_range1 hk.gi ?_)
      refine evl_cons ?_; refine ev_name (by rfl) ?_; refine evl_nil ?_
      refine ⟨_, rfl, by walk_at "o", by walk_at "o", rfl, fun i σ => ∃ (pw : List Int) (rows : List (List Int)), Rep P f d (i * P) pw ∧ BRows P f d P i rows ∧ σ = ⟨[(Str.ofString "many", .int d), (Str.ofString "step", iL st), (Str.ofString "power", iL pw), (Str.ofString "rows", .own R), (Str.ofString "f", iL f), (Str.ofString "p", .int P)], [(R, rows.map iL)]⟩,
        ⟨⟨[(Str.ofString "many", .int d), (Str.ofString "step", iL st), (Str.ofString "power", iL one), (Str.ofString "rows", .own R), (Str.ofString "f", iL f), (Str.ofString "p", .int P)], _⟩, wk_of' ⟨rfl, rfl, rfl, rfl, rfl, rfl, trivial⟩ rfl, one, [], by rw [Nat.zero_mul]; exact Rep.one h1, ⟨rfl, fun j hj => absurd hj (by walk_at "o")⟩, rfl⟩, ?_, ?_⟩
      · rintro i σ hi ⟨pw, rows, hpw, hrows, rfl⟩ KT hKT
        have hpl := hpw.len
        refine as_name2 (by walk_at "mv") ?_
        refine exs_cons ?_
        refine ex_assign ?_; refine ev_bin ?_; refine ev_name (by rfl) ?_; refine ev_bin ?_; refine ev_list ?_; refine evl_cons ?_; refine ev_int ?_
        refine evl_nil ?_; refine ⟨by walk_at "mz", ?_⟩
        refine .inl ?_
        refine ev_bin ?_; refine ev_name (by rfl) ?_
        refine ev_bc (by rfl) (by assumption) (by rfl) ?_ (by first | exact .inl ⟨_, rfl⟩ | exact .inr ⟨_, rfl⟩) (by decide) (by rfl) (by rfl)
        refine evl_cons ?_; refine ev_name (by rfl) ?_; refine evl_nil ?_; refine bc_lenI (by walk_at "ml") (by walk_at "mz") ?_; refine bin_sub ?_
        refine bin_repI (by walk_at "mz") (by walk_at "mz") ?_
        refine .inl ?_
        refine bin_catI (by walk_at "ml") (by walk_at "ml") (by walk_at "mz") ?_
        refine .inr fun W => ?_
        refine as_name2 (by walk_at "mv") ?_
        have ep : pw ++ List.replicate ((d : Int) - pw.length).toNat 0 = pad d pw := by
          unfold pad; rw [show ((d : Int) - pw.length).toNat = d - pw.length by walk_at "o"]
        rw [ep]
        have hpl2 := pad_len hpl
        refine exs_cons ?_
        refine ex_assign ?_; refine ev_bin ?_; refine ev_bin ?_; refine ev_sub ?_; refine ev_name (by rfl) ?_; refine ev_name (by rfl) ?_
        refine sub_int (by walk_at "ml") (by walk_at "ms") (by walk_at "ms") (by walk_at "ms") (fun _ _ => ?_); refine ev_int ?_; refine bin_sub ?_
        refine ev_name (by rfl) ?_; refine bin_modp (by walk_at "ms") ?_; refine as_sub ?_; refine ev_name (by rfl) ?_; refine ev_name (by rfl) ?_
        rename_i y hy
        refine ⟨W, (pad d pw).map .int, 0, (i : Int), rfl, rfl, rfl, by walk_at "o", by simp; walk_at "o", by walk_at "o", ?_⟩
        rw [show ((i : Int)).toNat = i by walk_at "o"] at *
        have eb : (pad d pw).set i ((y - 1) % P) = brow P d i pw := by unfold brow; rw [getD_of hy]
        refine exs_freeze (Str.ofString "row") (xs := (brow P d i pw).map .int) [] [(R, rows.map iL)] (by rw [← eb]; simp) rfl ?_
        refine exs_cons ?_
        refine ex_expr ?_; refine ev_append ?_; refine ev_name (by rfl) ?_
        refine ⟨R, rfl, by simp, ?_⟩
        refine ev_name (by rfl) ?_
        refine ⟨rows.map iL, 0, rfl, by simp [hrows.1]; walk_at "o", ?_⟩
        refine exs_cons ?_
        refine ex_assign ?_
        refine fn_restmul hg hd hk (by walk_at "o") hp hf hpw hst (fun r hr => ?_) (fun K h => ev_name (by rfl) h) (fun K h => ev_name (by rfl) h) (fun K h => ev_name (by rfl) h) (fun K h => ev_name (by rfl) h) (fun K h => ev_name (by rfl) h)
        refine as_name2 (by walk_at "mv") ?_; refine exs_nil ?_
        refine hKT _ ?_
        exact ⟨⟨[(Str.ofString "many", .int d), (Str.ofString "step", iL st), (Str.ofString "power", iL r), (Str.ofString "rows", .own R), (Str.ofString "f", iL f), (Str.ofString "p", .int P)], _⟩, wk_of' ⟨rfl, rfl, rfl, rfl, rfl, rfl, trivial⟩ rfl, r, rows ++ [brow P d i pw], by rw [Nat.succ_mul]; exact hr, hrows.snoc hpw, by simp⟩
      · rintro σ ⟨pw, rows, hpw, hrows, rfl⟩
        exact hKM _ _ ⟨rfl, pw, rows, hrows, rfl⟩
    · rintro _ ⟨pw, rows, hrows, rfl⟩
      refine exs_freeze (Str.ofString "rows") [] [] rfl rfl ?_
      refine exs_cons ?_; refine ex_ret ?_; refine ev_name (by rfl) ?_
      exact hKR _ _ ⟨rfl, rows, rfl, hrows⟩
theorem fn_times (g : Gl) (hd : Dm g) (a b : List Int) (p : Int) (hp : Pp p) (ha : Ri p a) (hb : Ri p b) (za : a.length ≤ 100) (zb : b.length ≤ 100) : Fn g (fd 19) 1 [iL a, iL b, .int p] [] fun v o => o = [] ∧ ∃ r, v = iL r ∧ MulS p a b r := by
  refine fn_intro2 [Str.ofString "a", Str.ofString "b", Str.ofString "p"] (hd 19 (by decide)) (fun pm code doc vs h => ?_) (by decide) rfl (by decide) rfl rfl rfl fun c hg hn hk KR hKR => ?_
  · match vs, h with | [v, w, u], _ => rfl
  · have hpp := hp.le
    refine exs_cons ?_
    refine ex_assign ?_; refine ev_bin ?_; refine ev_list ?_; refine evl_cons ?_; refine ev_int ?_; refine evl_nil ?_; refine ⟨by walk_at "mz", ?_⟩
    refine .inl ?_
    refine ev_bin ?_; refine ev_bc (by rfl) (by assumption) (by rfl) ?_ (by first | exact .inl ⟨_, rfl⟩ | exact .inr ⟨_, rfl⟩) (by decide) (by rfl) (by rfl)
    refine evl_cons ?_; refine ev_name (by rfl) ?_; refine evl_nil ?_; refine bc_lenI (by walk_at "ml") (by walk_at "mz") ?_
    refine ev_bc (by rfl) (by assumption) (by rfl) ?_ (by first | exact .inl ⟨_, rfl⟩ | exact .inr ⟨_, rfl⟩) (by decide) (by rfl) (by rfl)
    refine evl_cons ?_; refine ev_name (by rfl) ?_; refine evl_nil ?_; refine bc_lenI (by walk_at "ml") (by walk_at "mz") ?_; refine bin_add ?_
    refine bin_repI (by walk_at "mz") (by walk_at "mz") ?_
    refine .inr fun D => ?_
    refine as_name2 (by walk_at "mv") ?_
    refine exs_mid2 (fun σ => ∃ F : List Int, F.length = a.length + b.length ∧ Ri p F ∧ (∀ g, Cg p (dotp F g) (dotp a fun i => dotp b fun j => g (i + j))) ∧ σ = ⟨[(Str.ofString "found", .own D), (Str.ofString "a", iL a), (Str.ofString "b", iL b), (Str.ofString "p", .int p)], [(D, F.map .int)]⟩) (fun KM hKM => ?_) ?_
    · refine ex_for2 (evi_range1 hk.gi ?_)
      refine evl_cons ?_
      refine ev_bc (by rfl) (by assumption) (by rfl) ?_ (by first | exact .inl ⟨_, rfl⟩ | exact .inr ⟨_, rfl⟩) (by decide) (by rfl) (by rfl)
      refine evl_cons ?_; refine ev_name (by rfl) ?_; refine evl_nil ?_; refine bc_lenI (by walk_at "ml") (by walk_at "mz") ?_; refine evl_nil ?_
      refine ⟨_, rfl, by walk_at "o", by walk_at "o", rfl, fun i σ => ∃ F : List Int, F.length = a.length + b.length ∧ Ri p F ∧ (∀ g, Cg p (dotp F g) (dotp (a.take i) fun i => dotp b fun j => g (i + j))) ∧ σ = ⟨[(Str.ofString "found", .own D), (Str.ofString "a", iL a), (Str.ofString "b", iL b), (Str.ofString "p", .int p)], [(D, F.map .int)]⟩,
        ⟨⟨[(Str.ofString "found", .own D), (Str.ofString "a", iL a), (Str.ofString "b", iL b), (Str.ofString "p", .int p)], _⟩, wk_of' ⟨rfl, rfl, rfl, rfl, trivial⟩ rfl, List.replicate (a.length + b.length) 0, by simp, Ri.zeros hp.pos _, fun g => Cg.of_eq (by simp [dotp, dotp_zeros]), ?_⟩, ?_, ?_⟩
      · have : ((a.length : Int) + b.length).toNat = a.length + b.length := by walk_at "o"
        rw [this]
      · rintro i σ hi ⟨F, hF, hR, hg', rfl⟩ KT hKT
        have hi' : i < a.length := by walk_at "o"
        obtain ⟨x, hx⟩ : ∃ x, a[i]? = some x := ⟨a[i], by simp⟩
        have hxr := ha.at hx
        refine as_name2 (by walk_at "mv") ?_
        refine exs_midw2 (fun σ => ∃ F' : List Int, F'.length = a.length + b.length ∧ Ri p F' ∧ (∀ g, Cg p (dotp F' g) (dotp F g + x * dotp b fun j => g (i + j))) ∧ σ = ⟨[(Str.ofString "found", .own D), (Str.ofString "a", iL a), (Str.ofString "b", iL b), (Str.ofString "p", .int p)], [(D, F'.map .int)]⟩) (fun KM hKM => ?_) ?_
        · refine ex_for2 (evi_range1 hk.gi ?_)
          refine evl_cons ?_
          refine ev_bc (by rfl) (by assumption) (by rfl) ?_ (by first | exact .inl ⟨_, rfl⟩ | exact .inr ⟨_, rfl⟩) (by decide) (by rfl) (by rfl)
          refine evl_cons ?_; refine ev_name (by rfl) ?_; refine evl_nil ?_; refine bc_lenI (by walk_at "ml") (by walk_at "mz") ?_; refine evl_nil ?_
          refine ⟨_, rfl, by walk_at "o", by walk_at "o", rfl, fun j σ => ∃ F' : List Int, F'.length = a.length + b.length ∧ Ri p F' ∧ (∀ g, Cg p (dotp F' g) (dotp F g + x * dotp (b.take j) fun j => g (i + j))) ∧ σ = ⟨[(Str.ofString "at", .int i), (Str.ofString "found", .own D), (Str.ofString "a", iL a), (Str.ofString "b", iL b), (Str.ofString "p", .int p)], [(D, F'.map .int)]⟩,
            ⟨⟨[(Str.ofString "at", .int i), (Str.ofString "found", .own D), (Str.ofString "a", iL a), (Str.ofString "b", iL b), (Str.ofString "p", .int p)], _⟩, wk_of' ⟨rfl, rfl, rfl, rfl, rfl, trivial⟩ rfl, F, hF, hR, fun g => Cg.of_eq (by simp [dotp]), rfl⟩, ?_, ?_⟩
          · rintro j σ hj ⟨F', hF', hR', hg'', rfl⟩ KT hKT
            have hj' : j < b.length := by walk_at "o"
            obtain ⟨z, hz⟩ : ∃ z, b[j]? = some z := ⟨b[j], by simp⟩
            have hzr := hb.at hz
            refine as_name2 (by walk_at "mv") ?_
            refine exs_cons ?_
            refine ex_assign ?_
            refine ev_bin ?_
            refine ev_bin ?_
            refine ev_sub ?_; refine ev_name (by rfl) ?_; refine ev_bin ?_; refine ev_name (by rfl) ?_; refine ev_name (by rfl) ?_; refine bin_add ?_
            refine sub_int (by walk_at "ml") (by walk_at "ms") (by walk_at "ms") (by walk_at "ms") (fun _ _ => ?_); refine ev_bin ?_; refine ev_sub ?_
            refine ev_name (by rfl) ?_; refine ev_name (by rfl) ?_
            refine sub_int (by walk_at "ml") (by walk_at "ms") (by walk_at "ms") (by walk_at "ms") (fun _ _ => ?_); refine ev_sub ?_; refine ev_name (by rfl) ?_
            refine ev_name (by rfl) ?_; refine sub_int (by walk_at "ml") (by walk_at "ms") (by walk_at "ms") (by walk_at "ms") (fun _ _ => ?_)
            rename_i y hy x' hx' z' hz'
            rw [show ((i : Int)).toNat = i by walk_at "o", hx] at hx'
            cases hx'
            rw [show ((j : Int)).toNat = j by walk_at "o", hz] at hz'
            cases hz'
            refine bin_mulR (by walk_at "o") ?_
            refine bin_add ?_; refine ev_name (by rfl) ?_; refine bin_modp (by walk_at "ms") ?_; refine as_sub ?_; refine ev_name (by rfl) ?_; refine ev_bin ?_
            refine ev_name (by rfl) ?_; refine ev_name (by rfl) ?_; refine bin_add ?_
            refine ⟨D, F'.map .int, 0, (i : Int) + j, rfl, rfl, rfl, by walk_at "o", by simp; walk_at "o", by walk_at "o", ?_⟩
            have e : ((i : Int) + (j : Int)).toNat = i + j := by walk_at "o"
            rw [e] at hy
            refine exs_nil ?_
            refine hKT _ ?_
            refine ⟨⟨[(Str.ofString "at", .int i), (Str.ofString "found", .own D), (Str.ofString "a", iL a), (Str.ofString "b", iL b), (Str.ofString "p", .int p)], _⟩, wk_of' ⟨rfl, rfl, rfl, rfl, rfl, trivial⟩ rfl, F'.set (i + j) ((y + x * z) % p), by simpa using hF', hR'.set (mod_ri hp.pos) _, fun g => ?_, ?_⟩
            · rw [dotp_take_succ hz]
              refine (upd_cg hy (Cg.mod _) g).trans (((hg'' g).add Cg.rfl').trans (Cg.of_eq (by grind)))
            · rw [e]; simp
          · rintro σ ⟨F', hF', hR', hg'', rfl⟩
            rw [show ((b.length : Int)).toNat = b.length by walk_at "o", List.take_length] at hg''
            exact hKM _ _ ⟨rfl, ⟨[(Str.ofString "found", .own D), (Str.ofString "a", iL a), (Str.ofString "b", iL b), (Str.ofString "p", .int p)], _⟩, wk_of' ⟨rfl, rfl, rfl, rfl, trivial⟩ rfl, F', hF', hR', hg'', rfl⟩
        · rintro _ ⟨F', hF', hR', hg'', rfl⟩
          refine exs_nil ?_
          refine hKT _ ?_
          refine ⟨⟨[(Str.ofString "found", .own D), (Str.ofString "a", iL a), (Str.ofString "b", iL b), (Str.ofString "p", .int p)], _⟩, wk_of' ⟨rfl, rfl, rfl, rfl, trivial⟩ rfl, F', hF', hR', fun g => ?_, rfl⟩
          rw [dotp_take_succ hx]
          exact (hg'' g).trans ((hg' g).add Cg.rfl')
      · rintro σ ⟨F, hF, hR, hg', rfl⟩
        rw [show ((a.length : Int)).toNat = a.length by walk_at "o", List.take_length] at hg'
        exact hKM _ _ ⟨rfl, F, hF, hR, hg', rfl⟩
    · rintro _ ⟨F, hF, hR, hg', rfl⟩
      refine exs_freeze (Str.ofString "found") [] [] rfl rfl ?_
      refine exs_cons ?_; refine ex_ret ?_
      refine ev_fn0 (fd 18) 0 (hg ▸ hd 18 (by decide)) hk (by walk_at "o") ?_
      refine evl_cons ?_; refine ev_name (by rfl) ?_; refine evl_nil ?_
      refine (fn_cut _ (hg ▸ hd) F (by walk_at "o")).mono ?_
      rintro _ _ ⟨rfl, r, rfl, ht⟩
      exact ⟨rfl, hKR _ _ ⟨rfl, r, rfl, ht.ri hR, by have := ht.len; walk_at "o", fun g => by rw [ht.dot]; exact hg' g⟩⟩

theorem left_step {p x : Int} {F b : List Int} {s : Nat} (hF : F.getLast? = some x) (hb : b.getLast? = some 1) (hs : F.length = s + b.length) (F' : List Int) (hF' : F' = (List.range F.length).map fun i => (F.getD i 0 - (if s ≤ i then x * b.getD (i - s) 0 else 0)) % p) :
    F'.getLast? = some 0 ∧ ∀ g, Rec p b g → Cg p (dotp F' g) (dotp F g) := by
  have hbl : 0 < b.length := List.length_pos_iff.mpr (by rintro rfl; simp at hb)
  have at' : ∀ k, k < F.length → F'.getD k 0 = (F.getD k 0 - (if s ≤ k then x * b.getD (k - s) 0 else 0)) % p := fun k hk => by
    rw [hF']; simp [hk]
  have hl : F'.length = F.length := by rw [hF']; simp
  refine ⟨?_, fun g hg => ?_⟩
  · rw [List.getLast?_eq_getElem?] at hF hb ⊢
    have h1 := at' (F.length - 1) (by walk_at "o")
    rw [getD_of hF, if_pos (by walk_at "o"), show F.length - 1 - s = b.length - 1 by walk_at "o", getD_of hb] at h1
    simp at h1
    have : F'.length - 1 < F'.length := by walk_at "o"
    rw [hl] at this ⊢
    simpa [this, hl] using h1
  · refine (dotp_lin (c := x) F' F (List.replicate s 0 ++ b) g hl (by simp; walk_at "o") fun k hk => ?_).trans ?_
    · rw [at' k hk]
      refine (Cg.mod _).trans (Cg.of_eq ?_)
      by_cases hks : s ≤ k
      · rw [if_pos hks]; simp [List.getD_eq_getElem?_getD, List.getElem?_append_right, hks]
      · rw [if_neg hks]
        have : k < s := by walk_at "o"
        simp [List.getD_eq_getElem?_getD, List.getElem?_append_left, this]
    · rw [dotp_append, dotp_zeros]
      have := hg s
      simp only [List.length_replicate]
      rw [show (fun k => g (k + s)) = fun j => g (s + j) by funext j; rw [Nat.add_comm]]
      exact ((Cg.rfl' (x := dotp F g)).sub (Cg.mulL x ((Cg.of_eq (by simp)).trans this))).trans (Cg.of_eq (by simp))

theorem fn_left (g : Gl) (hd : Dm g) (a b : List Int) (n : Nat) (p : Int) (hp : Pp p) (ha : Ri p a) (hb : Ri p b) (hn : b.length = n + 1) (hl : b[n]? = some 1) (za : a.length ≤ 100) (zn : n ≤ 100) : Fn g (fd 20) 1 [iL a, iL b, .int p] [] fun v o => o = [] ∧ ∃ r, v = iL r ∧ RemS p b n a r := by
  refine fn_intro2 [Str.ofString "a", Str.ofString "b", Str.ofString "p"] (hd 20 (by decide)) (fun pm code doc vs h => ?_) (by decide) rfl (by decide) rfl rfl rfl fun c hg hn' hk KR hKR => ?_
  · match vs, h with | [v, w, u], _ => rfl
  · have hpp := hp.le
    have hlast : b.getLast? = some 1 := by rw [List.getLast?_eq_getElem?, hn]; exact hl
    refine exs_cons ?_
    refine ex_assign ?_
    refine ev_fn0 (fd 18) 0 (hg ▸ hd 18 (by decide)) hk (by walk_at "o") ?_
    refine evl_cons ?_; refine ev_name (by rfl) ?_; refine evl_nil ?_
    refine (fn_cut _ (hg ▸ hd) a (by walk_at "o")).mono ?_
    rintro _ _ ⟨rfl, F0, rfl, ht0⟩
    refine ⟨rfl, ?_⟩
    refine as_name2 (by walk_at "mv") ?_
    refine exs_mid2 (fun σ => ∃ F, RemS p b n a F ∧ σ = ⟨[(Str.ofString "found", iL F), (Str.ofString "b", iL b), (Str.ofString "p", .int p)], []⟩) (fun KM hKM => ?_) ?_
    · refine ex_while2 (fun k σ => ∃ F : List Int, k = F.length ∧ F.length ≤ a.length ∧ Ri p F ∧ (∀ g, Rec p b g → Cg p (dotp F g) (dotp a g)) ∧ σ = ⟨[(Str.ofString "found", iL F), (Str.ofString "b", iL b), (Str.ofString "p", .int p)], []⟩) F0.length
        ⟨⟨[(Str.ofString "found", iL F0), (Str.ofString "b", iL b), (Str.ofString "p", .int p)], _⟩, wk_of' ⟨rfl, rfl, rfl, trivial⟩ rfl, F0, rfl, ht0.len, ht0.ri ha, fun g _ => by rw [ht0.dot]; exact Cg.rfl', rfl⟩ ?_
      rintro _ _ ⟨F, rfl, hF, hR, hg', rfl⟩ KT hKT
      refine evt_cmp ?_
      refine ev_bc (by rfl) (by assumption) (by rfl) ?_ (by first | exact .inl ⟨_, rfl⟩ | exact .inr ⟨_, rfl⟩) (by decide) (by rfl) (by rfl)
      refine evl_cons ?_; refine ev_name (by rfl) ?_; refine evl_nil ?_; refine bc_lenI (by walk_at "ml") (by walk_at "mz") ?_
      refine ev_bc (by rfl) (by assumption) (by rfl) ?_ (by first | exact .inl ⟨_, rfl⟩ | exact .inr ⟨_, rfl⟩) (by decide) (by rfl) (by rfl)
      refine evl_cons ?_; refine ev_name (by rfl) ?_; refine evl_nil ?_; refine bc_lenI (by walk_at "ml") (by walk_at "mz") ?_; refine cmp_ge ?_
      refine if_dec (fun _ => ?_) (fun _ => ?_); rotate_left; rotate_left
      · rename_i hge
        have hne : F ≠ [] := by rintro rfl; simp at hge; rw [hge] at hn; simp at hn
        refine exs_cons ?_
        refine ex_cells2 (by assumption) ?_ (by first | exact .inl (by rfl) | exact .inr (by rfl)) (by walk_at "mv") (by walk_at "mv"); refine ev_sub ?_
        refine ev_name (by rfl) ?_; refine ev_negc ?_; refine sub_last (by walk_at "ml") (by walk_at "ms") (by walk_at "ms") (fun _ _ => ?_); refine ev_bin ?_
        refine ev_bc (by rfl) (by assumption) (by rfl) ?_ (by first | exact .inl ⟨_, rfl⟩ | exact .inr ⟨_, rfl⟩) (by decide) (by rfl) (by rfl)
        refine evl_cons ?_; refine ev_name (by rfl) ?_; refine evl_nil ?_; refine bc_lenI (by walk_at "ml") (by walk_at "mz") ?_
        refine ev_bc (by rfl) (by assumption) (by rfl) ?_ (by first | exact .inl ⟨_, rfl⟩ | exact .inr ⟨_, rfl⟩) (by decide) (by rfl) (by rfl)
        refine evl_cons ?_; refine ev_name (by rfl) ?_; refine evl_nil ?_; refine bc_lenI (by walk_at "ml") (by walk_at "mz") ?_; refine bin_sub ?_
        refine put2 ?_
        rename_i x hx
        obtain ⟨s, hs⟩ : ∃ s : Nat, (F.length : Int) - b.length = s := ⟨F.length - b.length, by walk_at "o"⟩
        rw [hs]
        have hxr : 0 ≤ x ∧ x < p := hR x (List.mem_of_getLast? hx)
        obtain ⟨hstep1, hstep2⟩ := left_step hx hlast (s := s) (by walk_at "o") _ rfl
        obtain ⟨F', hF'⟩ : ∃ F', F' = (List.range F.length).map fun i => (F.getD i 0 - (if s ≤ i then x * b.getD (i - s) 0 else 0)) % p := ⟨_, rfl⟩
        rw [← hF'] at hstep1 hstep2
        have hl' : F'.length = F.length := by rw [hF']; simp
        have hR' : Ri p F' := fun z hz => by
          rw [hF'] at hz
          obtain ⟨i, _, rfl⟩ := List.mem_map.mp hz
          exact mod_ri hp.pos
        refine exs_cons ?_
        refine ex_assign ?_
        refine ev_fn0 (fd 18) 0 (hg ▸ hd 18 (by decide)) hk (by walk_at "o") ?_
        refine evl_cons ?_
        refine ev_compmap hk ?_
        refine evi_enum hk.gi ?_
        refine evl_cons ?_; refine ev_name (by rfl) ?_; refine evl_nil ?_
        refine ⟨_, rfl, ?_⟩
        refine compk_map [(Str.ofString "b", iL b), (Str.ofString "lead", .int x), (Str.ofString "p", .int p), (Str.ofString "shift", .int s)] (fun i => .int ((F.getD i 0 - (if s ≤ i then x * b.getD (i - s) 0 else 0)) % p)) rfl (by simp; walk_at "o") ?_ ?_
        · intro c' hc1 hc2 hk' i hi
          obtain ⟨y, hy⟩ := ex_at hi
          simp only [getD_int hy]
          have hi' : i < F.length := by simpa using hi
          refine as_tuple ?_; refine asl_cons ?_; refine as_name2 (by walk_at "mv") ?_; refine asl_cons ?_; refine as_name2 (by walk_at "mv") ?_
          refine asl_nil ?_; refine ev_bin ?_; refine ev_bin ?_; refine ev_name (by rfl) ?_; refine ev_ifexp ?_; refine evt_cmp ?_; refine ev_name (by rfl) ?_
          refine ev_name (by rfl) ?_; refine cmp_ge ?_; refine if_dec (fun _ => ?_) (fun _ => ?_); refine ev_bin ?_; refine ev_name (by rfl) ?_; refine ev_sub ?_
          refine ev_name (by rfl) ?_; refine ev_bin ?_; refine ev_name (by rfl) ?_; refine ev_name (by rfl) ?_; refine bin_sub ?_
          refine sub_int (by walk_at "ml") (by walk_at "ms") (by walk_at "ms") (by walk_at "ms") (fun _ _ => ?_); refine bin_mulL (by walk_at "ms") ?_
          refine bin_sub ?_; refine ev_name (by rfl) ?_; refine bin_modp (by walk_at "ms") ?_; rotate_left; refine ev_int ?_; refine bin_sub ?_
          refine ev_name (by rfl) ?_; refine bin_modp (by walk_at "ms") ?_; rotate_left
          · rename_i hge' z hz
            rw [show ((i : Int) - s).toNat = i - s by walk_at "o"] at hz
            rw [getD_of hy, if_pos (by walk_at "o"), getD_of hz]
            exact ⟨rfl, wk_of ⟨rfl, rfl, rfl, rfl, trivial⟩⟩
          · rename_i hlt'
            rw [getD_of hy, if_neg (by walk_at "o")]
            exact ⟨rfl, wk_of ⟨rfl, rfl, rfl, rfl, trivial⟩⟩
        · have e : (List.range (F.map AV.int).length).map (fun i => AV.int ((F.getD i 0 - (if s ≤ i then x * b.getD (i - s) 0 else 0)) % p)) = F'.map .int := by
            rw [hF', List.map_map, List.length_map]; rfl
          rw [e]
          refine .inl ?_
          refine evl_nil ?_
          refine (fn_cut _ (hg ▸ hd) F' (by walk_at "o")).mono ?_
          rintro _ _ ⟨rfl, r, rfl, ht⟩
          refine ⟨rfl, ?_⟩
          refine as_name2 (by walk_at "mv") ?_; refine exs_nil ?_
          refine hKT _ ?_
          have hlt := ht.lt hstep1
          exact ⟨r.length, ⟨[(Str.ofString "found", iL r), (Str.ofString "b", iL b), (Str.ofString "p", .int p)], []⟩, by walk_at "o", wk_of ⟨rfl, rfl, rfl, trivial⟩, r, rfl, by walk_at "o", ht.ri hR', fun g hr => by rw [ht.dot]; exact (hstep2 g hr).trans (hg' g hr), rfl⟩
      · rename_i hlt
        exact hKM _ _ ⟨rfl, F, ⟨hR, by walk_at "o", hg'⟩, rfl⟩
    · rintro _ ⟨F, hF, rfl⟩
      refine exs_cons ?_; refine ex_ret ?_; refine ev_name (by rfl) ?_
      exact hKR _ _ ⟨rfl, F, rfl, hF⟩
theorem fn_counted (g : Gl) (hd : Dm g) (number : Int) (size : Nat) (p : Int) (hp : Pp p) (hs : size ≤ 10) (h0 : 0 ≤ number) : Fn g (fd 21) 0 [.int number, .int size, .int p] [] fun v o => o = [] ∧ ∃ f, v = iL f ∧ Mon p f size := by
  refine fn_intro2 [Str.ofString "number", Str.ofString "size", Str.ofString "p"] (hd 21 (by decide)) (fun pm code doc vs h => ?_) (by decide) rfl (by decide) rfl rfl rfl fun c hg hn hk KR hKR => ?_
  · match vs, h with | [v, w, u], _ => rfl
  · have hpp := hp.le
    refine exs_cons ?_
    refine ex_assign ?_; refine ev_list ?_; refine evl_nil ?_; refine ⟨by walk_at "mz", ?_⟩
    refine .inr fun D => ?_
    refine as_name2 (by walk_at "mv") ?_
    refine exs_mid2 (fun σ => ∃ (F : List Int) (m : Int), F.length = size ∧ Ri p F ∧ σ = ⟨[(Str.ofString "found", .own D), (Str.ofString "number", .int m), (Str.ofString "p", .int p)], [(D, F.map .int)]⟩) (fun KM hKM => ?_) ?_
    · refine ex_for2 (evi_range1 hk.gi ?_)
      refine evl_cons ?_; refine ev_name (by rfl) ?_; refine evl_nil ?_
      refine ⟨_, rfl, by walk_at "o", by walk_at "o", rfl, fun i σ => ∃ (F : List Int) (m : Int), F.length = i ∧ Ri p F ∧ σ = ⟨[(Str.ofString "found", .own D), (Str.ofString "number", .int m), (Str.ofString "p", .int p)], [(D, F.map .int)]⟩,
        ⟨⟨[(Str.ofString "found", .own D), (Str.ofString "number", .int number), (Str.ofString "p", .int p)], _⟩, wk_of' ⟨rfl, rfl, rfl, trivial⟩ rfl, [], number, rfl, Ri.nil, rfl⟩, ?_, ?_⟩
      · rintro i σ hi ⟨F, m, hF, hR, rfl⟩ KT hKT
        refine as_name2 (by walk_at "mv") ?_; refine exs_cons ?_; refine ex_expr ?_; refine ev_append ?_; refine ev_name (by rfl) ?_
        refine ⟨D, rfl, by simp, ?_⟩
        refine ev_bin ?_; refine ev_name (by rfl) ?_; refine ev_name (by rfl) ?_; refine bin_modp (by walk_at "ms") ?_
        refine ⟨F.map .int, 0, rfl, by simp; walk_at "o", ?_⟩
        refine exs_cons ?_; refine ex_assign ?_; refine ev_bin ?_; refine ev_name (by rfl) ?_; refine ev_name (by rfl) ?_
        refine bin_fdivp (by walk_at "ms") (by walk_at "ms") ?_; refine as_name2 (by walk_at "mv") ?_; refine exs_nil ?_
        refine hKT _ ?_
        exact ⟨⟨[(Str.ofString "found", .own D), (Str.ofString "number", .int (m / p)), (Str.ofString "p", .int p)], _⟩, wk_of' ⟨rfl, rfl, rfl, trivial⟩ rfl, F ++ [m % p], m / p, by simp [hF], hR.append (Ri.one (mod_ri hp.pos)), by simp⟩
      · rintro σ ⟨F, m, hF, hR, rfl⟩
        exact hKM _ _ ⟨rfl, F, m, by walk_at "o", hR, rfl⟩
    · rintro _ ⟨F, m, hF, hR, rfl⟩
      refine exs_freeze (Str.ofString "found") [] [] rfl rfl ?_
      refine exs_cons ?_; refine ex_ret ?_; refine ev_bin ?_; refine ev_name (by rfl) ?_; refine ev_list ?_; refine evl_cons ?_; refine ev_int ?_
      refine evl_nil ?_; refine ⟨by walk_at "mz", ?_⟩
      refine .inl ?_
      skip
      refine bin_catI (xs := F) (ys := [1]) .fz .fz (by simp; walk_at "o") (.inl ?_)
      skip
      exact hKR _ _ ⟨rfl, F ++ [1], by simp [retOf], hR.append (Ri.one ⟨by walk_at "o", by walk_at "o"⟩), by simp [hF], by rw [List.getElem?_append_right (by walk_at "o"), hF]; simp, hs⟩
/-- a draw -/
theorem ev_take {c : Cx} {σ : St} {K : AV → St → Prop} {names : List (Str × NameKind)} {g : Gl} {pn pos : Pos} {e : Expr} {rs : List Expr} (hg : c.g = g) (hd : Dm g) (hk : Kinds c.env names) (hn : 1 ≤ c.n)
    (h : EvL c pos (e :: rs) σ fun as σ₁ => ∃ (D R : Addr) (is : List Int) (seed many : Int) (t : Led), as = [.own D, .int many] ∧ σ₁.own = (D, [.own R, .int seed]) :: (R, is.map .int) :: t ∧ is.length ≤ 1000 ∧ 0 < many ∧
      ∀ (k : Int) (is' : List Int) (seed' : Int), 0 ≤ k → k < many → is'.length ≤ 1000 → K (.int k) ⟨σ₁.loc, (D, [.own R, .int seed']) :: (R, is'.map .int) :: t⟩)
    (g1 : names.lookup (Str.ofString "_law_take") = some .globalImplicit := by rfl) (he : starEach (e :: rs) c.env = (false, eval e c.env) :: starEach rs c.env := by rfl) : Ev c (.Call (.Name (Str.ofString "_law_take") pn) (e :: rs) [] pos) σ K := by
  refine ev_fn (fd 17) 0 (hg ▸ hd 17 (by decide)) hk (by walk_at "o") ?_ (hg := g1) (he := he)
  refine fun s Q E R hQ => h s Q E R fun v as σ₁ h₁ t₁ k₁ => hQ v as σ₁ h₁ t₁ ?_
  obtain ⟨D, R, is, seed, many, t, rfl, ho, hz, hm, kk⟩ := k₁
  refine ⟨[], _, t, ho, (fn_take _ (hg ▸ hd) D R is seed many hz hm).mono ?_⟩
  rintro _ _ ⟨k, is', seed', rfl, k0, k1, hl, rfl⟩
  exact kk k is' seed' k0 k1 (by walk_at "o")
theorem Mon.split {p : Int} {f : List Int} {d : Nat} (h : Mon p f d) : f = f.take d ++ [1] ∧ (f.take d).length = d := by
  have hl := h.len
  refine ⟨?_, by simp; walk_at "o"⟩
  have := List.take_add_one (l := f) (i := d)
  rw [h.lead, List.take_of_length_le (by walk_at "o")] at this
  simpa using this

theorem fn_matrix (g : Gl) (hd : Dm g) (P : Nat) (hp : Pp P) (D r : Addr) (is : List Int) (seed : Int) (hz : is.length ≤ 1000) : Fn g (fd 25) 6 [.own D, .int P] [(D, [.own r, .int seed]), (r, is.map .int)] fun v o => v = .bool true ∧ ∃ (is' : List Int) (seed' : Int), is'.length ≤ 1000 ∧ o = [(D, [.own r, .int seed']), (r, is'.map .int)] := by
  refine fn_intro2 [Str.ofString "draws", Str.ofString "p"] (hd 25 (by decide)) (fun pm code doc vs h => ?_) (by decide) rfl (by decide) rfl rfl rfl fun c hg hn hk KR hKR => ?_
  · match vs, h with | [v, w], _ => rfl
  · have hpp := hp.le
    refine exs_cons ?_
    refine ex_assign ?_; refine ev_bin ?_; refine ev_int ?_
    refine ev_take hg hd hk (by walk_at "o") ?_
    refine evl_cons ?_; refine ev_name (by rfl) ?_; refine evl_cons ?_; refine ev_int ?_; refine evl_nil ?_
    refine ⟨D, r, is, seed, 4, [], rfl, rfl, hz, by decide, fun k is1 seed1 k0 k1 hz1 => ?_⟩
    obtain ⟨d, hd'⟩ : ∃ d : Nat, 1 + k = d := ⟨(1 + k).toNat, by walk_at "o"⟩
    refine bin_add ?_; refine as_name2 (by walk_at "mv") ?_
    rw [hd']
    refine exs_cons ?_
    refine ex_assign ?_
    refine ev_fn0 (fd 21) 0 (hg ▸ hd 21 (by decide)) hk (by walk_at "o") ?_
    refine evl_cons ?_
    refine ev_take hg hd hk (by walk_at "o") ?_
    refine evl_cons ?_; refine ev_name (by rfl) ?_; refine evl_cons ?_; refine ev_bin ?_; refine ev_name (by rfl) ?_; refine ev_name (by rfl) ?_
    refine bin_pow (by walk_at "o") (by walk_at "o") (by walk_at "o") ?_
    refine evl_nil ?_
    rw [show ((d : Int)).toNat = d by walk_at "o"]
    refine ⟨D, r, is1, seed1, _, [], rfl, rfl, hz1, Int.pow_pos (by walk_at "o"), fun k2 is2 seed2 k20 k21 hz2 => ?_⟩
    refine evl_cons ?_; refine ev_name (by rfl) ?_; refine evl_cons ?_; refine ev_name (by rfl) ?_; refine evl_nil ?_
    refine (fn_counted _ (hg ▸ hd) k2 d P hp (by walk_at "o") k20).mono ?_
    rintro _ _ ⟨rfl, f, rfl, hf⟩
    have hlen := hf.len
    refine ⟨rfl, ?_⟩
    refine as_name2 (by walk_at "mv") ?_
    refine exs_cons ?_
    refine ex_swap2 (by assumption) ?_
    refine ev_fn0 (fd 11) 5 (hg ▸ hd 11 (by decide)) hk (by walk_at "o") ?_
    refine evl_cons ?_; refine ev_name (by rfl) ?_; refine evl_cons ?_; refine ev_name (by rfl) ?_; refine evl_nil ?_
    refine (fn_berl _ (hg ▸ hd) P f d hp hf (by walk_at "o")).mono ?_
    rintro _ _ ⟨rfl, rows, rfl, hrows⟩
    refine ⟨rfl, ?_⟩
    refine ev_fn0 (fd 20) 1 (hg ▸ hd 20 (by decide)) hk (by walk_at "o") ?_
    refine evl_cons ?_; refine ev_list ?_; refine evl_cons ?_; refine ev_int ?_; refine evl_nil ?_; refine ⟨by walk_at "mz", ?_⟩
    refine .inl ?_
    refine evl_cons ?_; refine ev_name (by rfl) ?_; refine evl_cons ?_; refine ev_name (by rfl) ?_; refine evl_nil ?_
    refine (fn_left _ (hg ▸ hd) [1] f d P hp (Ri.one ⟨by walk_at "o", by walk_at "o"⟩) hf.ri hf.len hf.lead (by simp) (by walk_at "o")).mono ?_
    rintro _ _ ⟨rfl, one, rfl, h1⟩
    refine ⟨rfl, ?_⟩
    refine put2 ?_
    refine exs_mid2 (fun σ => ∃ here, σ = ⟨[(Str.ofString "told", .lst (rows.map iL)), (Str.ofString "here", iL here), (Str.ofString "row", iL f), (Str.ofString "size", .int d), (Str.ofString "p", .int P)], [(D, [.own r, .int seed2]), (r, is2.map .int)]⟩) (fun KM hKM => ?_) ?_
    · refine ex_for2 (evi_range1 hk.gi ?_)
      refine evl_cons ?_; refine ev_name (by rfl) ?_; refine evl_nil ?_
      refine ⟨_, rfl, by walk_at "o", by walk_at "o", rfl, fun i σ => ∃ here, Rep P f d (i * P) here ∧ σ = ⟨[(Str.ofString "told", .lst (rows.map iL)), (Str.ofString "here", iL here), (Str.ofString "row", iL f), (Str.ofString "size", .int d), (Str.ofString "p", .int P)], [(D, [.own r, .int seed2]), (r, is2.map .int)]⟩,
        ⟨⟨[(Str.ofString "told", .lst (rows.map iL)), (Str.ofString "here", iL one), (Str.ofString "row", iL f), (Str.ofString "size", .int d), (Str.ofString "p", .int P)], _⟩, wk_of' ⟨rfl, rfl, rfl, rfl, rfl, trivial⟩ rfl, one, by rw [Nat.zero_mul]; exact Rep.one h1, rfl⟩, ?_, ?_⟩
      · rintro i σ hi ⟨here, hh, rfl⟩ KT hKT
        have hpl := hh.len
        have hi' : i < d := by walk_at "o"
        obtain ⟨r', hr', hri⟩ := hrows.2 i hi'
        have hrl := hrows.1
        refine as_name2 (by walk_at "mv") ?_
        refine exs_cons ?_
        refine ex_assign ?_; refine ev_bin ?_; refine ev_name (by rfl) ?_; refine ev_bin ?_; refine ev_list ?_; refine evl_cons ?_; refine ev_int ?_
        refine evl_nil ?_; refine ⟨by walk_at "mz", ?_⟩
        refine .inl ?_
        refine ev_bin ?_; refine ev_name (by rfl) ?_
        refine ev_bc (by rfl) (by assumption) (by rfl) ?_ (by first | exact .inl ⟨_, rfl⟩ | exact .inr ⟨_, rfl⟩) (by decide) (by rfl) (by rfl)
        refine evl_cons ?_; refine ev_name (by rfl) ?_; refine evl_nil ?_; refine bc_lenI (by walk_at "ml") (by walk_at "mz") ?_; refine bin_sub ?_
        refine bin_repI (by walk_at "mz") (by walk_at "mz") ?_
        refine .inl ?_
        refine bin_catI (by walk_at "ml") (by walk_at "ml") (by walk_at "mz") ?_
        refine .inr fun W => ?_
        refine as_name2 (by walk_at "mv") ?_
        have ep : here ++ List.replicate ((d : Int) - here.length).toNat 0 = pad d here := by
          unfold pad; rw [show ((d : Int) - here.length).toNat = d - here.length by walk_at "o"]
        rw [ep]
        have hpl2 := pad_len hpl
        refine exs_cons ?_
        refine ex_assign ?_; refine ev_bin ?_; refine ev_bin ?_; refine ev_sub ?_; refine ev_name (by rfl) ?_; refine ev_name (by rfl) ?_
        refine sub_int (by walk_at "ml") (by walk_at "ms") (by walk_at "ms") (by walk_at "ms") (fun _ _ => ?_); refine ev_int ?_; refine bin_sub ?_
        refine ev_name (by rfl) ?_; refine bin_modp (by walk_at "ms") ?_; refine as_sub ?_; refine ev_name (by rfl) ?_; refine ev_name (by rfl) ?_
        rename_i y hy
        refine ⟨W, (pad d here).map .int, 0, (i : Int), rfl, rfl, rfl, by walk_at "o", by simp; walk_at "o", by walk_at "o", ?_⟩
        have hi2 : ((i : Int)).toNat = i := by walk_at "o"
        rw [hi2] at hy
        have eb : (pad d here).set i ((y - 1) % P) = brow P d i r' := by unfold brow; rw [Rep.pad_eq hf.split.1 hf.split.2 hp.pos hr' hh, getD_of hy]
        refine exs_freeze (Str.ofString "due") (xs := (brow P d i r').map .int) [] [(D, [.own r, .int seed2]), (r, is2.map .int)] (by rw [← eb]; simp) rfl ?_
        refine exs_cons ?_
        refine ex_if ?_; refine evt_cmp ?_; refine ev_sub ?_; refine ev_name (by rfl) ?_; refine ev_name (by rfl) ?_
        refine sub_row (by walk_at "ml") (by walk_at "ms") (by walk_at "ms") (by walk_at "ms") (fun _ _ => ?_); refine ev_name (by rfl) ?_
        rename_i x hx
        rw [hi2, hri] at hx
        cases hx
        refine cmp_neLi .fz .fz ?_
        refine if_not ?_; refine if_eqI (fun _ => ?_) (fun _ => ?_); rotate_left; rotate_left
        · refine exs_nil ?_
          refine exs_mid2 (fun σ => ∃ here2, Rep P f d (i * P + P) here2 ∧ σ = ⟨[(Str.ofString "at", .int i), (Str.ofString "told", .lst (rows.map iL)), (Str.ofString "here", iL here2), (Str.ofString "row", iL f), (Str.ofString "size", .int d), (Str.ofString "p", .int P)], [(D, [.own r, .int seed2]), (r, is2.map .int)]⟩) (fun KM hKM => ?_) ?_
          · refine ex_for2 (evi_range1 hk.gi ?_)
            refine evl_cons ?_; refine ev_name (by rfl) ?_; refine evl_nil ?_
            refine ⟨_, rfl, by walk_at "o", by walk_at "o", rfl, fun j σ => ∃ here2, Rep P f d (i * P + j) here2 ∧ σ = ⟨[(Str.ofString "at", .int i), (Str.ofString "told", .lst (rows.map iL)), (Str.ofString "here", iL here2), (Str.ofString "row", iL f), (Str.ofString "size", .int d), (Str.ofString "p", .int P)], [(D, [.own r, .int seed2]), (r, is2.map .int)]⟩,
              ⟨⟨[(Str.ofString "at", .int i), (Str.ofString "told", .lst (rows.map iL)), (Str.ofString "here", iL here), (Str.ofString "row", iL f), (Str.ofString "size", .int d), (Str.ofString "p", .int P)], _⟩, wk_of' ⟨rfl, rfl, rfl, rfl, rfl, rfl, trivial⟩ rfl, here, hh, rfl⟩, ?_, ?_⟩
            · rintro j σ hj ⟨here2, hh2, rfl⟩ KT hKT
              have hpl2' := hh2.len
              refine as_name2 (by walk_at "mv") ?_; refine exs_cons ?_; refine ex_assign ?_
              refine ev_fn0 (fd 20) 1 (hg ▸ hd 20 (by decide)) hk (by walk_at "o") ?_
              refine evl_cons ?_
              refine ev_fn0 (fd 19) 1 (hg ▸ hd 19 (by decide)) hk (by walk_at "o") ?_
              refine evl_cons ?_; refine ev_name (by rfl) ?_; refine evl_cons ?_; refine ev_list ?_; refine evl_cons ?_; refine ev_int ?_; refine evl_cons ?_
              refine ev_int ?_; refine evl_nil ?_; refine ⟨by walk_at "mz", ?_⟩
              refine .inl ?_
              refine evl_cons ?_; refine ev_name (by rfl) ?_; refine evl_nil ?_
              refine (fn_times _ (hg ▸ hd) here2 [0, 1] P hp hh2.ri (by intro x hx; simp at hx; walk_at "o") (by walk_at "o") (by simp)).mono ?_
              rintro _ _ ⟨rfl, tm, rfl, htm⟩
              refine ⟨rfl, ?_⟩
              refine evl_cons ?_; refine ev_name (by rfl) ?_; refine evl_cons ?_; refine ev_name (by rfl) ?_; refine evl_nil ?_
              refine (fn_left _ (hg ▸ hd) tm f d P hp htm.ri hf.ri hf.len hf.lead (by have := htm.len; simp at this; walk_at "o") (by walk_at "o")).mono ?_
              rintro _ _ ⟨rfl, lf, rfl, hlf⟩
              refine ⟨rfl, ?_⟩
              refine as_name2 (by walk_at "mv") ?_; refine exs_nil ?_
              refine hKT _ ?_
              exact ⟨⟨[(Str.ofString "at", .int i), (Str.ofString "told", .lst (rows.map iL)), (Str.ofString "here", iL lf), (Str.ofString "row", iL f), (Str.ofString "size", .int d), (Str.ofString "p", .int P)], _⟩, wk_of' ⟨rfl, rfl, rfl, rfl, rfl, rfl, trivial⟩ rfl, lf, hh2.step htm hlf, rfl⟩
            · rintro σ ⟨here2, hh2, rfl⟩
              rw [show ((P : Int)).toNat = P by walk_at "o"] at hh2
              exact hKM _ _ ⟨rfl, here2, hh2, rfl⟩
          · rintro _ ⟨here2, hh2, rfl⟩
            refine exs_nil ?_
            refine hKT _ ?_
            exact ⟨⟨[(Str.ofString "told", .lst (rows.map iL)), (Str.ofString "here", iL here2), (Str.ofString "row", iL f), (Str.ofString "size", .int d), (Str.ofString "p", .int P)], _⟩, wk_of' ⟨rfl, rfl, rfl, rfl, rfl, trivial⟩ rfl, here2, by rw [Nat.succ_mul]; exact hh2, rfl⟩
        · rename_i hh; exact absurd rfl hh
      · rintro σ ⟨here, hh, rfl⟩
        exact hKM _ _ ⟨rfl, here, rfl⟩
    · rintro _ ⟨here, rfl⟩
      have hrl := hrows.1
      refine exs_cons ?_; refine ex_ret ?_; refine ev_cmp ?_
      refine ev_bc (by rfl) (by assumption) (by rfl) ?_ (by first | exact .inl ⟨_, rfl⟩ | exact .inr ⟨_, rfl⟩) (by decide) (by rfl) (by rfl)
      refine evl_cons ?_; refine ev_name (by rfl) ?_; refine evl_nil ?_; refine bc_lenR (by walk_at "ml") (by walk_at "mz") ?_; refine ev_name (by rfl) ?_
      refine cmp_eq ?_
      exact hKR _ _ ⟨by simp [retOf, hrl], is2, seed2, hz2, rfl⟩
theorem fn_pivot (g : Gl) (hd : Dm g) (A : Addr) (W : List (List Int)) (done cl len : Nat) (hW : ∀ r ∈ W, r.length = len) (hcl : cl < len) (hz : W.length ≤ 100) (hlen : len ≤ 100) (hdn : done ≤ W.length) :
    Fn g (fd 13) 0 [.own A, .int done, .int cl] [(A, W.map iL)] fun v o => o = [(A, W.map iL)] ∧ ((v = .int (-1) ∧ ∀ i r, done ≤ i → W[i]? = some r → r.getD cl 0 = 0) ∨ ∃ (i : Nat) (r : List Int), v = .int i ∧ done ≤ i ∧ W[i]? = some r ∧ r.getD cl 0 ≠ 0) := by
  refine fn_intro2 [Str.ofString "work", Str.ofString "done", Str.ofString "column"] (hd 13 (by decide)) (fun pm code doc vs h => ?_) (by decide) rfl (by decide) rfl rfl rfl fun c hg hn hk KR hKR => ?_
  · match vs, h with | [v, w, u], _ => rfl
  · refine exs_cons ?_
    refine ex_for (evi_range2 hk.gi ?_)
    refine evl_cons ?_; refine ev_name (by rfl) ?_; refine evl_cons ?_
    refine ev_bc (by rfl) (by assumption) (by rfl) ?_ (by first | exact .inl ⟨_, rfl⟩ | exact .inr ⟨_, rfl⟩) (by decide) (by rfl) (by rfl)
    refine evl_cons ?_; refine ev_name (by rfl) ?_; refine evl_nil ?_; refine bc_lenR (by walk_at "ml") (by walk_at "mz") ?_; refine evl_nil ?_
    refine ⟨_, _, rfl, ⟨by walk_at "o", by walk_at "o"⟩, ⟨by walk_at "o", by walk_at "o"⟩, by walk_at "o", rfl, fun i σ => (∀ j r, done ≤ j → j < done + i → W[j]? = some r → r.getD cl 0 = 0) ∧ σ = ⟨[(Str.ofString "work", .own A), (Str.ofString "done", .int done), (Str.ofString "column", .int cl)], [(A, W.map iL)]⟩,
      ⟨⟨[(Str.ofString "work", .own A), (Str.ofString "done", .int done), (Str.ofString "column", .int cl)], _⟩, wk_of' ⟨rfl, rfl, rfl, trivial⟩ rfl, fun j r h1 h2 => absurd h2 (by walk_at "o"), rfl⟩, ?_, ?_⟩
    · rintro i σ hi ⟨hI, rfl⟩
      refine as_name2 (by walk_at "mv") ?_
      refine exs_cons ?_
      refine ex_if ?_; refine evt_cmp ?_; refine ev_sub ?_; refine ev_sub ?_; refine ev_name (by rfl) ?_; refine ev_name (by rfl) ?_
      refine sub_row (by walk_at "ml") (by walk_at "ms") (by walk_at "ms") (by walk_at "ms") (fun _ _ => ?_); refine ev_name (by rfl) ?_
      rename_i x hx
      have hx' : W[done + i]? = some x := by rw [← hx]; congr 1
      have hxl := hW x (List.mem_of_getElem? hx')
      refine sub_int .fz (by walk_at "o") (by walk_at "o") (by walk_at "o") (fun y hy => ?_)
      have hy' : x.getD cl 0 = y := getD_of (by rw [← hy]; congr 1)
      refine ev_int ?_; refine cmp_ne ?_; refine if_bne (fun _ => ?_) (fun _ => ?_); rotate_left; rotate_left
      · rename_i hne
        refine exs_cons ?_; refine ex_ret ?_; refine ev_name (by rfl) ?_
        exact hKR _ _ ⟨rfl, .inr ⟨done + i, x, by simp [retOf], by walk_at "o", hx', by rw [hy']; exact hne⟩⟩
      · rename_i h0
        refine exs_nil ?_; refine exs_nil ?_
        show ∃ _, _
        refine ⟨⟨[(Str.ofString "work", .own A), (Str.ofString "done", .int done), (Str.ofString "column", .int cl)], _⟩, wk_of' ⟨rfl, rfl, rfl, trivial⟩ rfl, fun j r h1 h2 h3 => ?_, rfl⟩
        by_cases hj : j = done + i
        · subst hj; rw [hx'] at h3; cases h3; rw [hy']; exact h0
        · exact hI j r h1 (by walk_at "o") h3
    · rintro σ ⟨hI, rfl⟩
      refine exs_cons ?_; refine ex_ret ?_; refine ev_negc ?_
      refine hKR _ _ ⟨rfl, .inl ⟨rfl, fun i r h1 h2 => hI i r h1 ?_ h2⟩⟩
      have := (List.getElem?_eq_some_iff.mp h2).1
      walk_at "o"

theorem fn_clear (g : Gl) (hd : Dm g) (A : Addr) (rows W : List (List Int)) (done cl size wide : Nat) (p : Int) (hp : Pp p) (G : Good p rows size wide W) (hcl : cl < wide) (hz : size ≤ 10) (hw : wide ≤ 10) {rd : List Int} (hrd : W[done]? = some rd) (hy : rd.getD cl 0 ≠ 0)
    (hzero : ∀ i r, done ≤ i → W[i]? = some r → ∀ k, k < cl → r.getD k 0 = 0) :
    Fn g (fd 14) 2 [.own A, .int done, .int cl, .int p] [(A, W.map iL)] fun v o => ∃ (V : List (List Int)) (t : Int), o = [(A, V.map iL)] ∧ Good p rows size wide V ∧ (∀ i, i ≤ done → V[i]? = W[i]?) ∧ Cg p (t * rd.getD cl 0) 1 ∧
      (∀ i r, done ≤ i → V[i]? = some r → ∀ k, k < cl → r.getD k 0 = 0) ∧ (∀ i r, done + 1 ≤ i → V[i]? = some r → r.getD cl 0 = 0) := by
  refine fn_intro2 [Str.ofString "work", Str.ofString "done", Str.ofString "column", Str.ofString "p"] (hd 14 (by decide)) (fun pm code doc vs h => ?_) (by decide) rfl (by decide) rfl rfl rfl fun c hg hn hk KR hKR => ?_
  · match vs, h with | [v, w, u, z], _ => rfl
  · have hpp := hp.le
    have hlen := G.len
    have hdl := (List.getElem?_eq_some_iff.mp hrd).1
    have hrow := G.row rd (List.mem_of_getElem? hrd)
    refine exs_cons ?_
    refine ex_assign ?_
    refine ev_fn0 (fd 2) 1 (hg ▸ hd 2 (by decide)) hk (by walk_at "o") ?_
    refine evl_cons ?_; refine ev_sub ?_; refine ev_sub ?_; refine ev_name (by rfl) ?_; refine ev_name (by rfl) ?_
    refine sub_row (by walk_at "ml") (by walk_at "ms") (by walk_at "ms") (by walk_at "ms") (fun _ _ => ?_); refine ev_name (by rfl) ?_
    rename_i x hx
    rw [show ((done : Int)).toNat = done by walk_at "o", hrd] at hx
    cases hx
    refine sub_int .fz (by walk_at "o") (by walk_at "o") (by walk_at "o") (fun y hy' => ?_)
    have hyd : rd.getD cl 0 = y := getD_of (by rw [← hy']; congr 1)
    rw [hyd] at hy
    have hyr := hrow.2.at hy'
    refine evl_cons ?_; refine ev_name (by rfl) ?_; refine evl_nil ?_
    refine (fn_inverse _ (hg ▸ hd) y p (by rw [Int.emod_eq_of_lt hyr.1 hyr.2]; walk_at "o") hp).mono ?_
    rintro _ _ ⟨rfl, t, rfl, t0, t1, ht⟩
    refine ⟨rfl, ?_⟩
    refine as_name2 (by walk_at "mv") ?_
    refine exs_mid2 (fun σ => ∃ V : List (List Int), Good p rows size wide V ∧ (∀ j, j ≤ done → V[j]? = W[j]?) ∧ (∀ j r, done ≤ j → V[j]? = some r → ∀ k, k < cl → r.getD k 0 = 0) ∧ (∀ j r, done + 1 ≤ j → V[j]? = some r → r.getD cl 0 = 0) ∧ σ = ⟨[(Str.ofString "turn", .int t), (Str.ofString "work", .own A), (Str.ofString "done", .int done), (Str.ofString "column", .int cl), (Str.ofString "p", .int p)], [(A, V.map iL)]⟩) (fun KM hKM => ?_) ?_
    · refine ex_for2 (evi_range2 hk.gi ?_)
      refine evl_cons ?_; refine ev_bin ?_; refine ev_name (by rfl) ?_; refine ev_int ?_; refine bin_add ?_; refine evl_cons ?_
      refine ev_bc (by rfl) (by assumption) (by rfl) ?_ (by first | exact .inl ⟨_, rfl⟩ | exact .inr ⟨_, rfl⟩) (by decide) (by rfl) (by rfl)
      refine evl_cons ?_; refine ev_name (by rfl) ?_; refine evl_nil ?_; refine bc_lenR (by walk_at "ml") (by walk_at "mz") ?_; refine evl_nil ?_
      refine ⟨_, _, rfl, ⟨by walk_at "o", by walk_at "o"⟩, ⟨by walk_at "o", by walk_at "o"⟩, by walk_at "o", rfl, fun i σ => ∃ V : List (List Int), Good p rows size wide V ∧ (∀ j, j ≤ done → V[j]? = W[j]?) ∧ (∀ j, done + 1 + i ≤ j → V[j]? = W[j]?) ∧ (∀ j r, done ≤ j → V[j]? = some r → ∀ k, k < cl → r.getD k 0 = 0) ∧ (∀ j r, done + 1 ≤ j → j < done + 1 + i → V[j]? = some r → r.getD cl 0 = 0) ∧ σ = ⟨[(Str.ofString "turn", .int t), (Str.ofString "work", .own A), (Str.ofString "done", .int done), (Str.ofString "column", .int cl), (Str.ofString "p", .int p)], [(A, V.map iL)]⟩,
        ⟨⟨[(Str.ofString "turn", .int t), (Str.ofString "work", .own A), (Str.ofString "done", .int done), (Str.ofString "column", .int cl), (Str.ofString "p", .int p)], _⟩, wk_of' ⟨rfl, rfl, rfl, rfl, rfl, trivial⟩ rfl, W, G, fun _ _ => rfl, fun _ _ => rfl, hzero, fun j r h1 h2 => absurd h2 (by walk_at "o"), rfl⟩, ?_, ?_⟩
      · rintro i σ hi ⟨V, GV, h1, h2, h3, h4, rfl⟩ KT hKT
        have hVl := GV.len
        obtain ⟨a, ha⟩ : ∃ a : Nat, (done : Int) + 1 + i = a := ⟨done + 1 + i, by walk_at "o"⟩
        have had : a = done + 1 + i := by walk_at "o"
        simp only [ha]
        have hal : a < V.length := by walk_at "o"
        obtain ⟨x, hx⟩ : ∃ x, V[a]? = some x := ⟨V[a], by simp⟩
        have hdV : V[done]? = some rd := by rw [h1 done (Nat.le_refl _)]; exact hrd
        have hxr := GV.row x (List.mem_of_getElem? hx)
        have fin : ∀ (V' : List (List Int)) (x' : List Int), V' = V.set a x' → Good p rows size wide V' → (∀ k, k < cl → x'.getD k 0 = 0) → x'.getD cl 0 = 0 → (∀ j, j ≤ done → V'[j]? = W[j]?) ∧ (∀ j, done + 1 + (i + 1) ≤ j → V'[j]? = W[j]?) ∧ (∀ j r, done ≤ j → V'[j]? = some r → ∀ k, k < cl → r.getD k 0 = 0) ∧ (∀ j r, done + 1 ≤ j → j < done + 1 + (i + 1) → V'[j]? = some r → r.getD cl 0 = 0) := fun V' x' e _ hz1 hz2 => by
          subst e
          refine ⟨fun j hj => ?_, fun j hj => ?_, fun j r hj hr => ?_, fun j r hj hj2 hr => ?_⟩
          · rw [List.getElem?_set_ne (by walk_at "o")]; exact h1 j hj
          · rw [List.getElem?_set_ne (by walk_at "o")]; exact h2 j (by walk_at "o")
          · by_cases hja : j = a
            · subst hja; rw [List.getElem?_set_self hal] at hr; cases hr; exact hz1
            · rw [List.getElem?_set_ne (fun e => hja e.symm)] at hr; exact h3 j r hj hr
          · by_cases hja : j = a
            · subst hja; rw [List.getElem?_set_self hal] at hr; cases hr; exact hz2
            · rw [List.getElem?_set_ne (fun e => hja e.symm)] at hr; exact h4 j r hj (by walk_at "o") hr
        refine as_name2 (by walk_at "mv") ?_
        refine exs_cons ?_
        refine ex_assign ?_; refine ev_bin ?_; refine ev_bin ?_; refine ev_sub ?_; refine ev_sub ?_; refine ev_name (by rfl) ?_; refine ev_name (by rfl) ?_
        refine sub_row (by walk_at "ml") (by walk_at "ms") (by walk_at "ms") (by walk_at "ms") (fun _ _ => ?_); refine ev_name (by rfl) ?_
        rename_i x' hx'
        rw [show ((a : Int)).toNat = a by walk_at "o", hx] at hx'
        cases hx'
        refine sub_int .fz (by walk_at "o") (by walk_at "o") (by walk_at "o") (fun z hz => ?_)
        have hzd : x.getD cl 0 = z := getD_of (by rw [← hz]; congr 1)
        have hzr := hxr.2.at hz
        obtain ⟨num, hnum⟩ : ∃ num, num = z * t % p := ⟨_, rfl⟩
        have hnr : 0 ≤ num ∧ num < p := hnum ▸ mod_ri hp.pos
        refine ev_name (by rfl) ?_; refine bin_mulR (by walk_at "ms") ?_; refine ev_name (by rfl) ?_; refine bin_modp (by walk_at "ms") ?_
        refine as_name2 (by walk_at "mv") ?_
        rw [← hnum]
        have hcz : Cg p (num * y) z := by
          rw [hnum]
          exact (Cg.mulR y (Cg.mod _)).trans ((Cg.of_eq (by grind)).trans ((Cg.mulL z ht).trans (Cg.of_eq (by walk_at "o"))))
        refine exs_cons ?_
        refine ex_if ?_; refine evt_cmp ?_; refine ev_name (by rfl) ?_; refine ev_int ?_; refine cmp_ne ?_; refine if_bne (fun _ => ?_) (fun _ => ?_)
        rotate_left; rotate_left
        · rename_i hne
          refine exs_cons ?_
          refine ex_assign ?_
          refine ev_compmap hk ?_
          refine evi_zip hk.gi ?_
          refine evl_cons ?_; refine ev_sub ?_; refine ev_name (by rfl) ?_; refine ev_name (by rfl) ?_
          refine sub_row (by walk_at "ml") (by walk_at "ms") (by walk_at "ms") (by walk_at "ms") (fun _ _ => ?_); refine evl_cons ?_; refine ev_sub ?_
          refine ev_name (by rfl) ?_; refine ev_name (by rfl) ?_
          refine sub_row (by walk_at "ml") (by walk_at "ms") (by walk_at "ms") (by walk_at "ms") (fun _ _ => ?_); refine evl_nil ?_
          rename_i x1 hx1 rd1 hrd1
          rw [show ((a : Int)).toNat = a by walk_at "o", hx] at hx1
          cases hx1
          rw [show ((done : Int)).toNat = done by walk_at "o", hdV] at hrd1
          cases hrd1
          refine ⟨_, _, rfl, fun hs => ?_⟩
          have hmin : min (x.map AV.int).length (rd.map AV.int).length = x.length := by simp [hxr.1, hrow.1]
          rw [hmin]
          refine compk_map [(Str.ofString "number", .int num), (Str.ofString "p", .int p)] (fun j => .int ((x.getD j 0 - num * rd.getD j 0) % p)) rfl (by walk_at "o") ?_ ?_
          · intro c' hc1 hc2 hk' j hj
            obtain ⟨u, hu⟩ : ∃ u, x[j]? = some u := ⟨x[j], by simp⟩
            obtain ⟨v, hv⟩ : ∃ v, rd[j]? = some v := ⟨rd[j]'(by walk_at "o"), by simp⟩
            simp only [getD_int hu, getD_int hv]
            refine as_tuple ?_; refine asl_cons ?_; refine as_name2 (by walk_at "mv") ?_; refine asl_cons ?_; refine as_name2 (by walk_at "mv") ?_
            refine asl_nil ?_; refine ev_bin ?_; refine ev_bin ?_; refine ev_name (by rfl) ?_; refine ev_bin ?_; refine ev_name (by rfl) ?_
            refine ev_name (by rfl) ?_; refine bin_mulL (by walk_at "ms") ?_; refine bin_sub ?_; refine ev_name (by rfl) ?_; refine bin_modp (by walk_at "ms") ?_
            rw [getD_of hu, getD_of hv]
            exact ⟨rfl, wk_of ⟨rfl, rfl, trivial⟩⟩
          · have e : (List.range x.length).map (fun j => AV.int ((x.getD j 0 - num * rd.getD j 0) % p)) = (rowop p num x rd).map .int := by
              unfold rowop; rw [List.map_map]; rfl
            rw [e]
            refine .inl ?_
            refine as_sub ?_; refine ev_name (by rfl) ?_; refine ev_name (by rfl) ?_
            refine ⟨A, V.map iL, 0, (a : Int), rfl, rfl, rfl, by walk_at "o", by simp; walk_at "o", by walk_at "o", ?_⟩
            rw [show ((a : Int)).toNat = a by walk_at "o"]
            refine exs_nil ?_; refine exs_nil ?_
            refine hKT _ ?_
            have hll : x.length = rd.length := by rw [hxr.1, hrow.1]
            have GV' := GV.op hp.pos num hx hdV (by walk_at "o")
            obtain ⟨f1, f2, f3, f4⟩ := fin _ _ rfl GV' (fun k hk => by
              rw [rowop_getD hll k hp.pos, h3 a x (by walk_at "o") hx k hk, h3 done rd (Nat.le_refl _) hdV k hk]; simp) (by
              rw [rowop_getD hll cl hp.pos, hzd, hyd]
              exact Cg.zero_mod (((Cg.rfl' (x := z)).sub hcz).trans (Cg.of_eq (by walk_at "o"))))
            exact ⟨⟨[(Str.ofString "turn", .int t), (Str.ofString "work", .own A), (Str.ofString "done", .int done), (Str.ofString "column", .int cl), (Str.ofString "p", .int p)], _⟩, wk_of' ⟨rfl, rfl, rfl, rfl, rfl, trivial⟩ rfl, V.set a (rowop p num x rd), GV', f1, f2, f3, f4, by simp⟩
        · rename_i h0
          refine exs_nil ?_; refine exs_nil ?_
          refine hKT _ ?_
          have hz0 : z = 0 := by
            rw [h0] at hcz
            exact (hcz.symm.trans (Cg.of_eq (by walk_at "o"))).eq_of hzr ⟨by walk_at "o", hp.pos⟩
          have e : V.set a x = V := by
            refine List.ext_getElem? fun j => ?_
            by_cases hja : j = a
            · subst hja; rw [List.getElem?_set_self hal, hx]
            · rw [List.getElem?_set_ne (fun e => hja e.symm)]
          obtain ⟨f1, f2, f3, f4⟩ := fin V x e.symm GV (fun k hk => h3 a x (by walk_at "o") hx k hk) (by rw [hzd, hz0])
          exact ⟨⟨[(Str.ofString "turn", .int t), (Str.ofString "work", .own A), (Str.ofString "done", .int done), (Str.ofString "column", .int cl), (Str.ofString "p", .int p)], _⟩, wk_of' ⟨rfl, rfl, rfl, rfl, rfl, trivial⟩ rfl, V, GV, f1, f2, f3, f4, rfl⟩
      · rintro σ ⟨V, GV, h1, h2, h3, h4, rfl⟩
        refine hKM _ _ ⟨rfl, V, GV, h1, h3, fun j r hj hr => h4 j r hj ?_ hr, rfl⟩
        have := (List.getElem?_eq_some_iff.mp hr).1
        have := GV.len
        walk_at "o"
    · rintro _ ⟨V, GV, h1, h3, h4, rfl⟩
      refine exs_nil ?_
      exact hKR _ _ ⟨V, t, rfl, GV, h1, by rw [hyd]; exact ht, h3, h4⟩
theorem getD_row {xs : List (List Int)} {i : Nat} {x : List Int} (h : xs[i]? = some x) : (xs.map iL).getD i .none = iL x := by simp [List.getD, h]
theorem swapSub2 {env : Env} {a1 a2 i1 i2 v1 v2 : Expr} {p1 p2 tp vp : Pos} {k k2 : Nat} : swappedStores [.Tuple [.Subscript a1 i1 p1, .Subscript a2 i2 p2] k tp] (.Tuple [v1, v2] k2 vp) env = pure none := by
  unfold swappedStores
  simp [List.filterMap]
theorem fn_null (g : Gl) (hd : Dm g) (rows : List (List Int)) (size wide : Nat) (p : Int) (hp : Pp p) (hl : rows.length = size) (hr : ∀ r ∈ rows, r.length = wide ∧ Ri p r) (hs : 1 ≤ size ∧ size ≤ 10) (hw : 1 ≤ wide ∧ wide ≤ 10) :
    Fn g (fd 12) 3 [.lst (rows.map iL), .int p] [] fun v o => o = [] ∧ ∃ base, v = .lst (base.map iL) ∧ NullS p rows size wide base := by
  refine fn_intro2 [Str.ofString "rows", Str.ofString "p"] (hd 12 (by decide)) (fun pm code doc vs h => ?_) (by decide) rfl (by decide) rfl rfl rfl fun c hg hn hk KR hKR => ?_
  · match vs, h with | [v, w], _ => rfl
  · have hpp := hp.le
    refine exs_cons ?_
    refine ex_assign ?_
    refine ev_bc (by rfl) (by assumption) (by rfl) ?_ (by first | exact .inl ⟨_, rfl⟩ | exact .inr ⟨_, rfl⟩) (by decide) (by rfl) (by rfl)
    refine evl_cons ?_; refine ev_name (by rfl) ?_; refine evl_nil ?_; refine bc_lenR (by walk_at "ml") (by walk_at "mz") ?_
    refine as_name2 (by walk_at "mv") ?_
    refine exs_cons ?_
    refine ex_assign_comp hk (fun it acc env => ct0) ?_
    refine evi_enum hk.gi ?_
    refine evl_cons ?_; refine ev_name (by rfl) ?_; refine evl_nil ?_
    refine ⟨_, rfl, ?_⟩
    refine compk_map [(Str.ofString "many", .int rows.length)] (fun i => iL (rows.getD i [] ++ unit rows.length i)) rfl (by simp; walk_at "o") ?_ ?_
    · intro c' hc1 hc2 hk' i hi
      have hi' : i < rows.length := by simpa using hi
      obtain ⟨x, hx⟩ : ∃ x, rows[i]? = some x := ⟨rows[i], by simp⟩
      have hxr := hr x (List.mem_of_getElem? hx)
      simp only [getD_row hx]
      refine as_tuple ?_; refine asl_cons ?_; refine as_name2 (by walk_at "mv") ?_; refine asl_cons ?_; refine as_name2 (by walk_at "mv") ?_
      refine asl_nil ?_; refine ev_bin ?_
      refine ev_bc (by rfl) (by assumption) (by rfl) ?_ (by first | exact .inl ⟨_, rfl⟩ | exact .inr ⟨_, rfl⟩) (by decide) (by rfl) (by rfl)
      refine evl_cons ?_; refine ev_name (by rfl) ?_; refine evl_nil ?_; refine bc_list (by walk_at "ml") (by walk_at "mz") ?_
      refine .inl ?_
      skip
      refine ev_compmap hk' ?_
      refine evi_range1 hk'.gi ?_
      refine evl_cons ?_; refine ev_name (by rfl) ?_; refine evl_nil ?_
      refine ⟨_, rfl, by walk_at "o", by walk_at "o", ?_⟩
      refine compk_map [(Str.ofString "at", .int i)] (fun s => .int (if s = i then 1 else 0)) rfl (by walk_at "o") ?_ ?_
      · intro c2 hc21 hc22 hk2 s hs2
        refine as_name2 (by walk_at "mv") ?_
        refine ev_bc (by rfl) (by assumption) (by rfl) ?_ (by first | exact .inl ⟨_, rfl⟩ | exact .inr ⟨_, rfl⟩) (by decide) (by rfl) (by rfl)
        refine evl_cons ?_; refine ev_cmp ?_; refine ev_name (by rfl) ?_; refine ev_name (by rfl) ?_; refine cmp_eq ?_; refine evl_nil ?_; refine bc_int_bool ?_
        refine ⟨?_, wk_of ⟨rfl, trivial⟩⟩
        by_cases h : s = i
        · simp [h]
        · have : ((s : Int) == (i : Int)) = false := by simp; walk_at "o"
          simp [h, this]
      · refine .inl ?_
        have e : (List.range ((rows.length : Int)).toNat).map (fun s => AV.int (if s = i then 1 else 0)) = (unit rows.length i).map .int := by
          unfold unit; rw [List.map_map, show ((rows.length : Int)).toNat = rows.length by walk_at "o"]; rfl
        rw [e]
        refine bin_catI .fz .fz (by simp [unit]; walk_at "o") (.inl ?_)
        refine ⟨?_, wk_of ⟨rfl, trivial⟩⟩
        rw [show rows.getD i [] = x by simp [List.getD, hx]]
    · refine .inr fun A => ?_
      have e : (List.range (rows.map iL).length).map (fun i => iL (rows.getD i [] ++ unit rows.length i)) = (work0 rows).map iL := by
        unfold work0; rw [List.map_map, List.length_map]; rfl
      rw [e]
      skip
      refine exs_cons ?_
      refine ex_cells2 (by assumption) ?_ (by first | exact .inl (by rfl) | exact .inr (by rfl)) (by walk_at "mv") (by walk_at "mv"); refine ev_ifexp ?_
      refine evt_cmp ?_; refine ev_name (by rfl) ?_; refine ev_int ?_; refine cmp_gt ?_; refine if_dec (fun _ => ?_) (fun _ => ?_)
      refine ev_bc (by rfl) (by assumption) (by rfl) ?_ (by first | exact .inl ⟨_, rfl⟩ | exact .inr ⟨_, rfl⟩) (by decide) (by rfl) (by rfl)
      refine evl_cons ?_; refine ev_sub ?_; refine ev_name (by rfl) ?_; refine ev_int ?_
      refine sub_row (by walk_at "ml") (by walk_at "ms") (by walk_at "ms") (by walk_at "ms") (fun _ _ => ?_); refine evl_nil ?_; rotate_left; refine ev_int ?_
      refine ev_int ?_; refine put2 ?_; rotate_left
      · rename_i hgt x hx
        have hx0 : rows[0]? = some x := hx
        have hxr := hr x (List.mem_of_getElem? hx0)
        refine bc_lenI (by walk_at "ml") (by walk_at "mz") ?_; refine ev_int ?_; refine put2 ?_
        rw [hxr.1]
        subst hl
        refine exs_mid2 (fun σ => ∃ (V : List (List Int)) (dn : Nat), Good p rows rows.length wide V ∧ Ech p V dn wide ∧ σ = ⟨[(Str.ofString "done", .int (dn : Nat)), (Str.ofString "wide", .int wide), (Str.ofString "work", .own A), (Str.ofString "p", .int p)], [(A, V.map iL)]⟩) (fun KM hKM => ?_) ?_
        · refine ex_for2 (evi_range1 hk.gi ?_)
          refine evl_cons ?_; refine ev_name (by rfl) ?_; refine evl_nil ?_
          refine ⟨_, rfl, by walk_at "o", by walk_at "o", rfl, fun i σ => ∃ (V : List (List Int)) (dn : Nat), Good p rows rows.length wide V ∧ Ech p V dn i ∧ σ = ⟨[(Str.ofString "done", .int (dn : Nat)), (Str.ofString "wide", .int wide), (Str.ofString "work", .own A), (Str.ofString "p", .int p)], [(A, V.map iL)]⟩,
            ⟨⟨[(Str.ofString "done", .int (0 : Nat)), (Str.ofString "wide", .int wide), (Str.ofString "work", .own A), (Str.ofString "p", .int p)], _⟩, wk_of' ⟨rfl, rfl, rfl, rfl, trivial⟩ rfl, work0 rows, 0, good0 (by walk_at "o") hr, ech0, rfl⟩, ?_, ?_⟩
          · rintro i σ hi ⟨V, dn, GV, EV, rfl⟩ KT hKT
            have hVl := GV.len
            have hdl := EV.le
            have hi' : i < wide := by walk_at "o"
            refine as_name2 (by walk_at "mv") ?_
            refine exs_cons ?_
            refine ex_assign ?_
            refine ev_fn (fd 13) 0 (hg ▸ hd 13 (by decide)) hk (by walk_at "o") ?_
            refine evl_cons ?_; refine ev_name (by rfl) ?_; refine evl_cons ?_; refine ev_name (by rfl) ?_; refine evl_cons ?_; refine ev_name (by rfl) ?_
            refine evl_nil ?_
            refine ⟨[], _, [], rfl, (fn_pivot _ (hg ▸ hd) A V dn i (wide + rows.length) (fun r hr => (GV.row r hr).1) (by walk_at "o") (by walk_at "o") (by walk_at "o") hdl).mono ?_⟩
            rintro _ _ ⟨rfl, ⟨rfl, hz⟩ | ⟨q, rq, rfl, hq1, hq2, hq3⟩⟩
            · refine as_name2 (by walk_at "mv") ?_
              refine exs_cons ?_
              refine ex_if ?_; refine evt_cmp ?_; refine ev_name (by rfl) ?_; refine ev_int ?_; refine cmp_ge ?_; refine if_dec (fun _ => ?_) (fun _ => ?_)
              rotate_left; rotate_left
              · rename_i hh; exact absurd hh (by decide)
              · refine exs_nil ?_; refine exs_nil ?_
                refine hKT _ ?_
                exact ⟨⟨[(Str.ofString "done", .int dn), (Str.ofString "wide", .int wide), (Str.ofString "work", .own A), (Str.ofString "p", .int p)], _⟩, wk_of' ⟨rfl, rfl, rfl, rfl, trivial⟩ rfl, V, dn, GV, EV.skip hz, rfl⟩
            · have hql := (List.getElem?_eq_some_iff.mp hq2).1
              refine as_name2 (by walk_at "mv") ?_
              refine exs_cons ?_
              refine ex_if ?_; refine evt_cmp ?_; refine ev_name (by rfl) ?_; refine ev_int ?_; refine cmp_ge ?_; refine if_dec (fun _ => ?_) (fun _ => ?_)
              rotate_left; rotate_left
              · refine exs_cons ?_
                skip
                obtain ⟨rd, hrd⟩ : ∃ rd, V[dn]? = some rd := ⟨V[dn]'(by walk_at "o"), by simp⟩
                refine ex_assign ?_ (hw := swapSub2)
                refine ev_tuple ?_; refine evl_cons ?_; refine ev_sub ?_; refine ev_name (by rfl) ?_; refine ev_name (by rfl) ?_
                refine sub_row (by walk_at "ml") (by walk_at "ms") (by walk_at "ms") (by walk_at "ms") (fun _ _ => ?_); refine evl_cons ?_; refine ev_sub ?_
                refine ev_name (by rfl) ?_; refine ev_name (by rfl) ?_
                refine sub_row (by walk_at "ml") (by walk_at "ms") (by walk_at "ms") (by walk_at "ms") (fun _ _ => ?_); refine evl_nil ?_; refine ⟨by walk_at "mz", ?_⟩
                refine as_tuple ?_; refine asl_cons ?_; refine as_sub ?_; refine ev_name (by rfl) ?_; refine ev_name (by rfl) ?_
                rename_i r1 hr1 r2 hr2
                rw [show ((q : Int)).toNat = q by walk_at "o", hq2] at hr1
                cases hr1
                rw [show ((dn : Int)).toNat = dn by walk_at "o", hrd] at hr2
                cases hr2
                refine ⟨A, V.map iL, 0, (dn : Int), rfl, rfl, rfl, by walk_at "o", by simp; walk_at "o", by walk_at "o", ?_⟩
                refine asl_cons ?_; refine as_sub ?_; refine ev_name (by rfl) ?_; refine ev_name (by rfl) ?_
                refine ⟨A, (V.map iL).set dn (iL rq), 0, (q : Int), rfl, rfl, rfl, by walk_at "o", by simp; walk_at "o", by walk_at "o", ?_⟩
                refine asl_nil ?_
                have GV1 := GV.swap hrd hq2
                have h1d : ((V.set dn rq).set q rd)[dn]? = some rq := by
                  by_cases hqd : q = dn
                  · subst hqd; rw [hrd] at hq2; cases hq2
                    rw [List.getElem?_set_self (by simp; walk_at "o")]
                  · rw [List.getElem?_set_ne hqd, List.getElem?_set_self (by walk_at "o")]
                have h1z : ∀ j r, dn ≤ j → ((V.set dn rq).set q rd)[j]? = some r → ∀ k, k < i → r.getD k 0 = 0 := fun j r hj hr' k hk' => by
                  by_cases hjq : j = q
                  · subst hjq; rw [List.getElem?_set_self (by simp; walk_at "o")] at hr'; cases hr'
                    exact EV.zero dn _ (Nat.le_refl _) hrd k hk'
                  · rw [List.getElem?_set_ne (fun e => hjq e.symm)] at hr'
                    by_cases hjd : j = dn
                    · subst hjd; rw [List.getElem?_set_self (by walk_at "o")] at hr'; cases hr'
                      exact EV.zero q _ hq1 hq2 k hk'
                    · rw [List.getElem?_set_ne (fun e => hjd e.symm)] at hr'
                      exact EV.zero j r hj hr' k hk'
                refine exs_cons ?_
                refine ex_expr ?_
                refine ev_fn (fd 14) 2 (hg ▸ hd 14 (by decide)) hk (by walk_at "o") ?_
                refine evl_cons ?_; refine ev_name (by rfl) ?_; refine evl_cons ?_; refine ev_name (by rfl) ?_; refine evl_cons ?_; refine ev_name (by rfl) ?_
                refine evl_cons ?_; refine ev_name (by rfl) ?_; refine evl_nil ?_
                refine ⟨[], [(A, ((V.set dn rq).set q rd).map iL)], [], ?_, (fn_clear _ (hg ▸ hd) A rows ((V.set dn rq).set q rd) dn i rows.length wide p hp GV1 hi' (by walk_at "o") (by walk_at "o") h1d hq3 h1z).mono ?_⟩
                · simp
                rintro _ _ ⟨V2, t, rfl, GV2, k1, k2, k3, k4⟩
                refine exs_cons ?_; refine ex_assign ?_; refine ev_bin ?_; refine ev_name (by rfl) ?_; refine ev_int ?_; refine bin_add ?_
                refine as_name2 (by walk_at "mv") ?_; refine exs_nil ?_; refine exs_nil ?_
                refine hKT _ ?_
                have EV2 : Ech p V2 (dn + 1) (i + 1) := EV.next (by rw [GV2.len, hVl]) (fun j hj => by
                  rw [k1 j (by walk_at "o"), List.getElem?_set_ne (by walk_at "o"), List.getElem?_set_ne (by walk_at "o")]) (by rw [k1 dn (Nat.le_refl _)]; exact h1d) rfl k2 k3 k4
                exact ⟨⟨[(Str.ofString "done", .int (dn + 1 : Nat)), (Str.ofString "wide", .int wide), (Str.ofString "work", .own A), (Str.ofString "p", .int p)], _⟩, wk_of' ⟨rfl, rfl, rfl, rfl, trivial⟩ rfl, V2, dn + 1, GV2, EV2, rfl⟩
              · rename_i hh; exact absurd (Int.natCast_nonneg q) hh
          · rintro σ ⟨V, dn, GV, EV, rfl⟩
            rw [show ((wide : Int)).toNat = wide by walk_at "o"] at EV
            exact hKM _ _ ⟨rfl, V, dn, GV, EV, rfl⟩
        · rintro _ ⟨V, dn, GV, EV, rfl⟩
          have hVl := GV.len
          have hdl := EV.le
          refine exs_freeze (Str.ofString "work") [] [] rfl rfl ?_
          refine exs_cons ?_
          refine ex_ret ?_
          refine ev_compmap hk ?_
          refine evi_list ?_
          refine ev_slice_from ?_; refine ev_name (by rfl) ?_; refine ev_name (by rfl) ?_
          refine ⟨_, _, (by walk_at "ml"), rfl, (by walk_at "mz"), (by walk_at "mz"), .inl ?_⟩
          refine ⟨_, rfl, ?_⟩
          refine compk_map [(Str.ofString "wide", .int wide)] (fun i => iL (((V.drop dn).map fun r => r.drop wide).getD i [])) rfl (by simp; walk_at "o") ?_ ?_
          · intro c' hc1 hc2 hk' i hi
            rw [← List.map_drop] at hi ⊢
            rw [show ((dn : Int)).toNat = dn by walk_at "o"] at hi ⊢
            have hi' : i < (V.drop dn).length := by simpa using hi
            obtain ⟨r, hr'⟩ : ∃ r, (V.drop dn)[i]? = some r := ⟨(V.drop dn)[i], by simp⟩
            have hrl := (GV.row r (List.mem_of_mem_drop (List.mem_of_getElem? hr'))).1
            simp only [getD_row hr']
            refine as_name2 (by walk_at "mv") ?_; refine ev_slice_from ?_; refine ev_name (by rfl) ?_; refine ev_name (by rfl) ?_
            refine ⟨_, _, (by walk_at "ml"), rfl, (by walk_at "mz"), (by walk_at "mz"), .inl ?_⟩
            refine ⟨?_, wk_of ⟨rfl, trivial⟩⟩
            rw [show ((V.drop dn).map fun r => r.drop wide).getD i [] = r.drop wide by simp only [List.getD, List.getElem?_map, hr']; rfl]
            simp
          · refine .inl ?_
            have e2 : (List.range ((V.map iL).drop ((dn : Int)).toNat).length).map (fun i => iL (((V.drop dn).map fun r => r.drop wide).getD i [])) = ((V.drop dn).map fun r => r.drop wide).map iL := by
              refine List.ext_getElem (by simp) fun i h1 h2 => ?_
              have : i < (V.drop dn).length := by simpa using h2
              have h3 : dn + i < V.length := by simp at this; walk_at "o"
              simp [h3]
            rw [e2]
            skip
            exact hKR _ _ ⟨rfl, _, rfl, null_of GV EV hp.pos (Nat.le_refl _) rfl⟩
      · exfalso; walk_at "o"
theorem dotp_range : ∀ (F : List Int) (g : Nat → Int), dotp F g = ((List.range F.length).map fun j => F.getD j 0 * g j).sum
  | [], _ => rfl
  | x :: F, g => by
    rw [dotp, dotp_range F, List.length_cons, List.range_succ_eq_map, List.map_cons, List.sum_cons, List.map_map]
    rfl
theorem fn_put (g : Gl) (hd : Dm g) (ws : List Int) (rows : List (List Int)) (wide : Nat) (p : Int) (hp : Pp p) (hl : ws.length = rows.length) (hws : Ri p ws) (hr : ∀ r ∈ rows, r.length = wide) (hz : rows.length ≤ 100) (hw : wide ≤ 100) :
    Fn g (fd 23) 0 [iL ws, .lst (rows.map iL), .int wide, .int p] [] fun v o => o = [] ∧ v = iL (putP p ws rows wide) := by
  refine fn_intro2 [Str.ofString "weights", Str.ofString "rows", Str.ofString "wide", Str.ofString "p"] (hd 23 (by decide)) (fun pm code doc vs h => ?_) (by decide) rfl (by decide) rfl rfl rfl fun c hg hn hk KR hKR => ?_
  · match vs, h with | [v, w, u, z], _ => rfl
  · have hpp := hp.le
    refine exs_cons ?_
    refine ex_ret ?_
    refine ev_compmap hk ?_
    refine evi_range1 hk.gi ?_
    refine evl_cons ?_; refine ev_name (by rfl) ?_; refine evl_nil ?_
    refine ⟨_, rfl, by walk_at "o", by walk_at "o", ?_⟩
    refine compk_map [(Str.ofString "p", .int p), (Str.ofString "rows", .lst (rows.map iL)), (Str.ofString "weights", iL ws)] (fun k => .int (dotp (col rows k) (fun i => ws.getD i 0) % p)) rfl (by walk_at "o") ?_ ?_
    · intro c' hc1 hc2 hk' i hi
      have hi' : i < wide := by walk_at "o"
      refine as_name2 (by walk_at "mv") ?_; refine ev_bin ?_
      refine ev_bc (by rfl) (by assumption) (by rfl) ?_ (by first | exact .inl ⟨_, rfl⟩ | exact .inr ⟨_, rfl⟩) (by decide) (by rfl) (by rfl)
      refine evl_cons ?_
      refine ev_compmap hk' ?_
      refine evi_zip hk'.gi ?_
      refine evl_cons ?_; refine ev_name (by rfl) ?_; refine evl_cons ?_; refine ev_name (by rfl) ?_; refine evl_nil ?_
      refine ⟨_, _, rfl, fun hs => ?_⟩
      have hmin : min (ws.map AV.int).length (rows.map iL).length = rows.length := by simp [hl]
      rw [hmin]
      refine compk_map [(Str.ofString "at", .int i)] (fun j => .int (ws.getD j 0 * (rows.getD j []).getD i 0)) rfl (by walk_at "o") ?_ ?_
      · intro c2 hc21 hc22 hk2 j hj
        obtain ⟨w, hw'⟩ : ∃ w, ws[j]? = some w := ⟨ws[j]'(by walk_at "o"), by simp⟩
        obtain ⟨r, hr'⟩ : ∃ r, rows[j]? = some r := ⟨rows[j], by simp⟩
        have hrl := hr r (List.mem_of_getElem? hr')
        have hwr := hws.at hw'
        simp only [getD_int hw', getD_row hr']
        refine as_tuple ?_; refine asl_cons ?_; refine as_name2 (by walk_at "mv") ?_; refine asl_cons ?_; refine as_name2 (by walk_at "mv") ?_
        refine asl_nil ?_; refine ev_bin ?_; refine ev_name (by rfl) ?_; refine ev_sub ?_; refine ev_name (by rfl) ?_; refine ev_name (by rfl) ?_
        refine sub_int (by walk_at "ml") (by walk_at "ms") (by walk_at "ms") (by walk_at "ms") (fun _ _ => ?_); refine bin_mulL (by walk_at "ms") ?_
        rename_i y hy
        refine ⟨?_, wk_of ⟨rfl, trivial⟩⟩
        rw [getD_of hw', show rows.getD j [] = r by simp [List.getD, hr'], getD_of (x := y) (by rw [← hy]; congr 1)]
      · have e : (List.range rows.length).map (fun j => AV.int (ws.getD j 0 * (rows.getD j []).getD i 0)) = ((List.range rows.length).map fun j => ws.getD j 0 * (rows.getD j []).getD i 0).map .int := by rw [List.map_map]; rfl
        rw [e]
        refine .inl ?_
        refine evl_nil ?_
        refine bc_sum .fz ?_
        refine ev_name (by rfl) ?_; refine bin_modp (by walk_at "ms") ?_
        refine ⟨?_, wk_of ⟨rfl, rfl, rfl, trivial⟩⟩
        rw [dotp_range, col_len]
        congr 3
        refine List.map_congr_left fun j hj => ?_
        have hj' : j < rows.length := by simpa using hj
        rw [col_getD (r := rows[j]) (by simp), Int.mul_comm]
        simp [hj']
    · have e : (List.range ((wide : Int)).toNat).map (fun k => AV.int (dotp (col rows k) (fun i => ws.getD i 0) % p)) = (putP p ws rows wide).map .int := by
        unfold putP; rw [List.map_map, show ((wide : Int)).toNat = wide by walk_at "o"]; rfl
      rw [e]
      refine .inl ?_
      skip
      exact hKR _ _ ⟨rfl, rfl⟩
theorem fn_all (g : Gl) (hd : Dm g) (P size : Nat) (hp : 0 < P) (hs : size ≤ 10) (hz : P ^ size ≤ 1000) (hP : P ≤ 100) :
    Fn g (fd 22) 0 [.int P, .int size] [] fun v o => o = [] ∧ v = .lst ((allP P size).map iL) := by
  refine fn_intro2 [Str.ofString "p", Str.ofString "size"] (hd 22 (by decide)) (fun pm code doc vs h => ?_) (by decide) rfl (by decide) rfl rfl rfl fun c hg hn hk KR hKR => ?_
  · match vs, h with | [v, w], _ => rfl
  · refine exs_cons ?_
    refine ex_assign ?_; refine ev_list ?_; refine evl_cons ?_; refine ev_list ?_; refine evl_nil ?_; refine ⟨by walk_at "mz", ?_⟩
    refine .inl ?_
    refine evl_nil ?_; refine ⟨by walk_at "mz", ?_⟩
    refine .inl ?_
    refine as_name2 (by walk_at "mv") ?_
    refine exs_mid2 (fun σ => σ = ⟨[(Str.ofString "found", .lst ((allP P size).map iL)), (Str.ofString "p", .int P)], []⟩) (fun KM hKM => ?_) ?_
    · refine ex_for2 (evi_range1 hk.gi ?_)
      refine evl_cons ?_; refine ev_name (by rfl) ?_; refine evl_nil ?_
      refine ⟨_, rfl, by walk_at "o", by walk_at "o", rfl, fun i σ => σ = ⟨[(Str.ofString "found", .lst ((allP P i).map iL)), (Str.ofString "p", .int P)], []⟩,
        ⟨⟨[(Str.ofString "found", .lst ((allP P 0).map iL)), (Str.ofString "p", .int P)], _⟩, wk_of' ⟨rfl, rfl, trivial⟩ rfl, rfl⟩, ?_, ?_⟩
      · rintro i σ hi rfl KT hKT
        have hi' : i < size := by walk_at "o"
        refine as_name2 (by walk_at "mv") ?_
        refine exs_cons ?_
        refine ex_assign_comp hk (fun it acc env => ct2 (by intro _; rfl)) ?_
        refine evi_list ?_
        refine ev_name (by rfl) ?_
        refine ⟨_, rfl, ?_⟩
        have hpi : P ^ i ≤ 1000 := Nat.le_trans (Nat.pow_le_pow_right hp (by walk_at "o")) hz
        have hla := len_allP P i
        have flen : ∀ l : List (List Int), (l.flatMap fun row => (List.range P).map fun (x : Nat) => iL (row ++ [(x : Int)])).length = l.length * P := fun l => by
          induction l with
          | nil => simp
          | cons a l ih => rw [List.flatMap_cons, List.length_append, ih, List.length_cons, Nat.succ_mul]; simp; walk_at "o"
        refine ⟨[(Str.ofString "p", .int P)], fun j own ys => own = [] ∧ ys = ((allP P i).take j).flatMap fun row => (List.range P).map fun (x : Nat) => iL (row ++ [(x : Int)]), rfl, ⟨rfl, by simp⟩, ?_, ?_⟩
        · rintro ⟨g', A', n', env', hid'⟩ D j own ys rfl rfl rfl hk' hD hj ⟨rfl, rfl⟩
          have hj' : j < (allP P i).length := by simpa using hj
          obtain ⟨row, hrow⟩ : ∃ row, (allP P i)[j]? = some row := ⟨(allP P i)[j], by simp⟩
          have hrl := ((mem_allP P i row).mp (List.mem_of_getElem? hrow)).1
          simp only [getD_row hrow]
          refine as_name2 (by walk_at "mv") ?_
          refine spec2 hD ?_
          refine evi_range1 hk'.gi ?_
          refine evl_cons ?_; refine ev_name (by rfl) ?_; refine evl_nil ?_
          have hlen : (((allP P i).take j).flatMap fun row => (List.range P).map fun (x : Nat) => iL (row ++ [(x : Int)])).length ≤ 100000 := by
            rw [flen, List.length_take]
            exact Nat.le_trans (Nat.mul_le_mul (show min j (allP P i).length ≤ 1000 by walk_at "o") hP) (by decide)
          refine ⟨_, rfl, by walk_at "o", by walk_at "o", rfl, fun s σ ys => σ = ⟨[(Str.ofString "row", iL row), (Str.ofString "p", .int P)], []⟩ ∧ ys = (((allP P i).take j).flatMap fun row => (List.range P).map fun (x : Nat) => iL (row ++ [(x : Int)])) ++ (List.range s).map fun (x : Nat) => iL (row ++ [(x : Int)]),
            ⟨⟨[(Str.ofString "row", iL row), (Str.ofString "p", .int P)], _⟩, wk_of' ⟨rfl, rfl, trivial⟩ rfl, rfl, by simp⟩, ?_, ?_⟩
          · rintro s σ ys hs' ⟨rfl, rfl⟩
            refine as_name2 (by walk_at "mv") ?_
            refine spec0 hD ?_
            refine ev_bin ?_; refine ev_name (by rfl) ?_; refine ev_list ?_; refine evl_cons ?_; refine ev_name (by rfl) ?_; refine evl_nil ?_
            refine ⟨by walk_at "mz", ?_⟩
            refine .inl ?_
            refine bin_catI (xs := row) (ys := [(s : Int)]) .fz .fz (by simp; walk_at "o") (.inl ?_)
            refine ⟨by rw [List.length_append, List.length_map, List.length_range]; walk_at "o", ⟨[(Str.ofString "row", iL row), (Str.ofString "p", .int P)], _⟩, wk_of' ⟨rfl, rfl, trivial⟩ rfl, rfl, ?_⟩
            rw [List.range_succ]; simp
          · rintro σ ys ⟨rfl, rfl⟩
            refine ⟨wk_of ⟨rfl, trivial⟩, rfl, ?_⟩
            rw [show ((P : Int)).toNat = P by walk_at "o", List.take_add_one, hrow]
            simp
        · rintro own ys ⟨rfl, rfl⟩
          refine .inl ?_
          have e : (((allP P i).take ((allP P i).map iL).length).flatMap fun row => (List.range P).map fun (x : Nat) => iL (row ++ [(x : Int)])) = (allP P (i + 1)).map iL := by
            rw [List.length_map, List.take_length]
            simp only [allP, List.map_flatMap, List.map_map]
            rfl
          rw [e]
          refine exs_nil ?_
          refine hKT _ ?_
          exact ⟨⟨[(Str.ofString "found", .lst ((allP P (i + 1)).map iL)), (Str.ofString "p", .int P)], _⟩, wk_of' ⟨rfl, rfl, trivial⟩ rfl, rfl⟩
      · rintro σ rfl
        rw [show ((size : Int)).toNat = size by walk_at "o"]
        exact hKM _ _ ⟨rfl, rfl⟩
    · rintro _ rfl
      refine exs_cons ?_; refine ex_ret ?_; refine ev_name (by rfl) ?_
      exact hKR _ _ ⟨rfl, rfl⟩
theorem Ev.mono {c : Cx} {σ : St} {e : Expr} {K K' : AV → St → Prop} (h : Ev c e σ K) (k : ∀ av σ', K av σ' → K' av σ') : Ev c e σ K' := fun s Q E R hQ => h s Q E R fun v b σ' h' tk kk => hQ v b σ' h' tk (k _ _ kk)
theorem fn_nullright (g : Gl) (hd : Dm g) (P : Nat) (hp : Pp P) (D r : Addr) (is : List Int) (seed : Int) (hz : is.length ≤ 1000) : Fn g (fd 24) 4 [.own D, .int P] [(D, [.own r, .int seed]), (r, is.map .int)] fun v o => v = .bool true ∧ ∃ (is' : List Int) (seed' : Int), is'.length ≤ 1000 ∧ o = [(D, [.own r, .int seed']), (r, is'.map .int)] := by
  refine fn_intro2 [Str.ofString "draws", Str.ofString "p"] (hd 24 (by decide)) (fun pm code doc vs h => ?_) (by decide) rfl (by decide) rfl rfl rfl fun c hg hn hk KR hKR => ?_
  · match vs, h with | [v, w], _ => rfl
  · have hpp := hp.le
    refine exs_cons ?_
    refine ex_cells2 (by assumption) ?_ (by first | exact .inl (by rfl) | exact .inr (by rfl)) (by walk_at "mv") (by walk_at "mv"); refine ev_bin ?_
    refine ev_int ?_
    refine ev_take hg hd hk (by walk_at "o") ?_
    refine evl_cons ?_
    refine ev_name (by rfl) ?_
    refine evl_cons ?_
    refine Ev.mono (K := fun av σ' => ∃ m : Nat, av = .int m ∧ 0 < m ∧ m ≤ 4 ∧ P ^ m ≤ 63 ∧ σ' = ⟨[(Str.ofString "p", .int P), (Str.ofString "draws", .own D)], [(D, [.own r, .int seed]), (r, is.map .int)]⟩) ?_ ?_
    · refine ev_ifexp ?_; refine evt_cmp ?_; refine ev_name (by rfl) ?_; refine ev_int ?_; refine cmp_eq ?_; refine if_beq (fun _ => ?_) (fun _ => ?_)
      refine ev_int ?_; rotate_left; refine ev_ifexp ?_; refine evt_cmp ?_; refine ev_name (by rfl) ?_; refine ev_int ?_; refine cmp_eq ?_
      refine if_beq (fun _ => ?_) (fun _ => ?_); refine ev_int ?_; rotate_left; refine ev_int ?_; rotate_left
      · rename_i h
        have : P = 2 := by walk_at "o"
        subst this
        exact ⟨4, rfl, by decide, by decide, by decide, rfl⟩
      · rename_i h1 h
        have : P = 3 := by walk_at "o"
        subst this
        exact ⟨3, rfl, by decide, by decide, by decide, rfl⟩
      · rename_i h1 h2
        refine ⟨2, rfl, by decide, by decide, ?_, rfl⟩
        rcases hp with h | h | h | h
        · walk_at "o"
        · walk_at "o"
        · have : P = 5 := by walk_at "o"
          subst this; decide
        · have : P = 7 := by walk_at "o"
          subst this; decide
    · rintro _ _ ⟨m, rfl, m0, m4, hm, rfl⟩
      refine evl_nil ?_
      refine ⟨D, r, is, seed, m, [], rfl, rfl, hz, by walk_at "o", fun k is1 seed1 k0 k1 hz1 => ?_⟩
      obtain ⟨sz, hsz⟩ : ∃ sz : Nat, 1 + k = sz := ⟨(1 + k).toNat, by walk_at "o"⟩
      have hPs : P ^ sz ≤ 63 := Nat.le_trans (Nat.pow_le_pow_right (by walk_at "o") (by walk_at "o")) hm
      refine bin_add ?_; refine ev_bin ?_; refine ev_int ?_
      rw [hsz]
      refine ev_take hg hd hk (by walk_at "o") ?_
      refine evl_cons ?_; refine ev_name (by rfl) ?_; refine evl_cons ?_; refine ev_int ?_; refine evl_nil ?_
      refine ⟨D, r, is1, seed1, 4, [], rfl, rfl, hz1, by decide, fun k' is2 seed2 k0' k1' hz2 => ?_⟩
      obtain ⟨wd, hwd⟩ : ∃ wd : Nat, 1 + k' = wd := ⟨(1 + k').toNat, by walk_at "o"⟩
      refine bin_add ?_; refine put2 ?_
      rw [hwd]
      refine exs_cons ?_
      refine ex_assign ?_ (hs := swaps_cell (hk.k _ .cell rfl))
      refine ev_compmap hk ?_
      refine evi_range1 hk.gi ?_
      refine evl_cons ?_; refine ev_name (by rfl) ?_; refine evl_nil ?_
      refine ⟨_, rfl, by walk_at "o", by walk_at "o", ?_⟩
      refine compk_st [(Str.ofString "draws", .own D), (Str.ofString "p", .int P), (Str.ofString "wide", .int wd)] (fun i own ys => ∃ (is' : List Int) (seed' : Int) (rows : List (List Int)), is'.length ≤ 1000 ∧ own = [(D, [.own r, .int seed']), (r, is'.map .int)] ∧ rows.length = i ∧ (∀ r ∈ rows, r.length = wd ∧ Ri P r) ∧ ys = rows.map iL) rfl ⟨is2, seed2, [], hz2, rfl, rfl, by simp, rfl⟩ ?_ ?_
      · rintro c' hc1 hc2 hk' i _ _ hi ⟨is', seed', rows, hz', rfl, hrl, hrr, rfl⟩
        have hi' : i < sz := by walk_at "o"
        refine as_name2 (by walk_at "mv") ?_
        refine ev_compmap hk' ?_
        refine evi_range1 hk'.gi ?_
        refine evl_cons ?_; refine ev_name (by rfl) ?_; refine evl_nil ?_
        refine ⟨_, rfl, by walk_at "o", by walk_at "o", ?_⟩
        refine compk_st [(Str.ofString "draws", .own D), (Str.ofString "p", .int P)] (fun j own ys => ∃ (is' : List Int) (seed' : Int) (row : List Int), is'.length ≤ 1000 ∧ own = [(D, [.own r, .int seed']), (r, is'.map .int)] ∧ row.length = j ∧ Ri P row ∧ ys = row.map .int) rfl ⟨is', seed', [], hz', rfl, rfl, Ri.nil, rfl⟩ ?_ ?_
        · rintro c2 hc21 hc22 hk2 j _ _ hj ⟨is', seed', row, hz', rfl, hl, hR, rfl⟩
          refine as_name2 (by walk_at "mv") ?_
          refine ev_take (hc21.trans (hc1.trans hg)) hd hk2 (by walk_at "o") ?_
          refine evl_cons ?_; refine ev_name (by rfl) ?_; refine evl_cons ?_; refine ev_name (by rfl) ?_; refine evl_nil ?_
          refine ⟨D, r, is', seed', P, [], rfl, rfl, hz', by walk_at "o", fun x is2 seed2 x0 x1 hz2 => ?_⟩
          exact ⟨by simp; walk_at "o", wk_of ⟨rfl, rfl, trivial⟩, is2, seed2, row ++ [x], hz2, rfl, by simp [hl], hR.append (Ri.one ⟨x0, x1⟩), by simp⟩
        · rintro _ _ ⟨is', seed', row, hz', rfl, hl, hR, rfl⟩
          refine .inl ?_
          refine ⟨by simp; walk_at "o", wk_of ⟨rfl, rfl, rfl, trivial⟩, is', seed', rows ++ [row], hz', rfl, by simp [hrl], fun x hx => ?_, by simp⟩
          rcases List.mem_append.mp hx with hx | hx
          · exact hrr x hx
          · rw [List.mem_singleton.mp hx]; exact ⟨by walk_at "o", hR⟩
      · rintro _ _ ⟨is', seed', rows, hz', rfl, hrl, hrr, rfl⟩
        have hrl' : rows.length = sz := by walk_at "o"
        refine .inl ?_
        refine as_name2 (by walk_at "mv") ?_
        refine exs_cons ?_
        refine ex_assign ?_
        refine ev_fn0 (fd 12) 3 (hg ▸ hd 12 (by decide)) hk (by walk_at "o") ?_
        refine evl_cons ?_; refine ev_name (by rfl) ?_; refine evl_cons ?_; refine ev_name (by rfl) ?_; refine evl_nil ?_
        refine (fn_null _ (hg ▸ hd) rows sz wd P hp hrl' hrr ⟨by walk_at "o", by walk_at "o"⟩ ⟨by walk_at "o", by walk_at "o"⟩).mono ?_
        rintro _ _ ⟨rfl, base, rfl, N⟩
        refine ⟨rfl, ?_⟩
        have hbl := N.len
        have hPb : P ^ base.length ≤ 63 := Nat.le_trans (Nat.pow_le_pow_right (by walk_at "o") hbl) hPs
        refine as_name2 (by walk_at "mv") ?_
        refine exs_cons ?_
        refine ex_assign_comp hk (fun it acc env => ct1) ?_
        refine evi_list ?_
        refine ev_fn0 (fd 22) 0 (hg ▸ hd 22 (by decide)) hk (by walk_at "o") ?_
        refine evl_cons ?_; refine ev_name (by rfl) ?_; refine evl_cons ?_; refine ev_name (by rfl) ?_; refine evl_nil ?_
        refine (fn_all _ (hg ▸ hd) P sz (by walk_at "o") (by walk_at "o") (by walk_at "o") (by walk_at "o")).mono ?_
        rintro _ _ ⟨rfl, rfl⟩
        refine ⟨rfl, _, rfl, ?_⟩
        have hla := len_allP P sz
        have hlb := len_allP P base.length
        obtain ⟨q, hq⟩ : ∃ q : List Int → Bool, q = fun w => eqI (putP P w rows wd) (List.replicate wd 0) := ⟨_, rfl⟩
        refine compk_if [(Str.ofString "p", .int P), (Str.ofString "rows", .lst (rows.map iL)), (Str.ofString "wide", .int wd)] (fun j own ys => own = [(D, [.own r, .int seed']), (r, is'.map .int)] ∧ ys = (((allP P sz).take j).filter q).map iL) rfl ⟨rfl, by simp⟩ ?_ ?_
        · rintro c' hc1 hc2 hk' j _ _ hj ⟨rfl, rfl⟩
          have hg' : c'.g = g := hc1.trans hg
          have hj' : j < (allP P sz).length := by simpa using hj
          obtain ⟨w, hw⟩ : ∃ w, (allP P sz)[j]? = some w := ⟨(allP P sz)[j], by simp⟩
          obtain ⟨hwl, hwr⟩ := (mem_allP P sz w).mp (List.mem_of_getElem? hw)
          have hyl : ((((allP P sz).take j).filter q).map iL).length ≤ 1000000 := by
            rw [List.length_map]
            refine Nat.le_trans (List.length_filter_le _ _) ?_
            rw [List.length_take]; walk_at "o"
          simp only [getD_row hw]
          refine as_name2 (by walk_at "mv") ?_; refine evt_cmp ?_
          refine ev_fn0 (fd 23) 0 (hg' ▸ hd 23 (by decide)) hk' (by walk_at "o") ?_
          refine evl_cons ?_; refine ev_name (by rfl) ?_; refine evl_cons ?_; refine ev_name (by rfl) ?_; refine evl_cons ?_; refine ev_name (by rfl) ?_
          refine evl_cons ?_; refine ev_name (by rfl) ?_; refine evl_nil ?_
          refine (fn_put _ (hg' ▸ hd) w rows wd P hp (by walk_at "o") hwr (fun r hr => (hrr r hr).1) (by walk_at "o") (by walk_at "o")).mono ?_
          rintro _ _ ⟨rfl, rfl⟩
          refine ⟨rfl, ?_⟩
          refine ev_bin ?_; refine ev_list ?_; refine evl_cons ?_; refine ev_int ?_; refine evl_nil ?_; refine ⟨by walk_at "mz", ?_⟩
          refine .inl ?_
          refine ev_name (by rfl) ?_; refine bin_repI (by walk_at "mz") (by walk_at "mz") ?_
          refine .inl ?_
          rw [show ((wd : Int)).toNat = wd by walk_at "o"]
          refine cmp_eqLi .fz .fz ?_
          refine if_eqI (fun _ => ?_) (fun _ => ?_); refine ev_name (by rfl) ?_; refine ⟨by walk_at "mz", ?_⟩; rotate_left; rotate_left
          · rename_i e
            refine ⟨wk_of ⟨rfl, rfl, rfl, trivial⟩, rfl, ?_⟩
            have : q w = true := by rw [hq]; simp [eqI, e]
            rw [List.take_add_one, hw]
            simp [this]
          · rename_i e
            refine ⟨wk_of ⟨rfl, rfl, rfl, trivial⟩, rfl, ?_⟩
            have : q w = false := by rw [hq]; simp [eqI, e]
            rw [List.take_add_one, hw]
            simp [this]
        · rintro _ _ ⟨rfl, rfl⟩
          rw [List.length_map, List.take_length]
          have hperm := null_perm (q := q) (show 0 < P by walk_at "o") hrl' N fun w => by rw [hq]; simp [eqI]
          have hdl : ((allP P sz).filter q).length < 64 := Nat.lt_of_le_of_lt (List.length_filter_le _ _) (by walk_at "o")
          refine .inl ?_
          skip
          refine exs_cons ?_
          refine ex_assign ?_
          refine ev_bc (by rfl) (by assumption) (by rfl) ?_ (by first | exact .inl ⟨_, rfl⟩ | exact .inr ⟨_, rfl⟩) (by decide) (by rfl) (by rfl)
          refine evl_cons ?_
          refine ev_compmap hk ?_
          refine evi_list ?_
          refine ev_fn0 (fd 22) 0 (hg ▸ hd 22 (by decide)) hk (by walk_at "o") ?_
          refine evl_cons ?_; refine ev_name (by rfl) ?_; refine evl_cons ?_
          refine ev_bc (by rfl) (by assumption) (by rfl) ?_ (by first | exact .inl ⟨_, rfl⟩ | exact .inr ⟨_, rfl⟩) (by decide) (by rfl) (by rfl)
          refine evl_cons ?_; refine ev_name (by rfl) ?_; refine evl_nil ?_; refine bc_lenR (by walk_at "ml") (by walk_at "mz") ?_; refine evl_nil ?_
          refine (fn_all _ (hg ▸ hd) P base.length (by walk_at "o") (by walk_at "o") (by walk_at "o") (by walk_at "o")).mono ?_
          rintro _ _ ⟨rfl, rfl⟩
          refine ⟨rfl, _, rfl, ?_⟩
          refine compk_map [(Str.ofString "base", .lst (base.map iL)), (Str.ofString "p", .int P), (Str.ofString "size", .int sz)] (fun j => iL (putP P ((allP P base.length).getD j []) base sz)) rfl (by rw [List.length_map]; walk_at "o") ?_ ?_
          · intro c' hc1 hc2 hk' j hj
            have hg' : c'.g = g := hc1.trans hg
            have hj' : j < (allP P base.length).length := by simpa using hj
            obtain ⟨w, hw⟩ : ∃ w, (allP P base.length)[j]? = some w := ⟨(allP P base.length)[j], by simp⟩
            obtain ⟨hwl, hwr⟩ := (mem_allP P base.length w).mp (List.mem_of_getElem? hw)
            simp only [getD_row hw]
            refine as_name2 (by walk_at "mv") ?_
            refine ev_fn0 (fd 23) 0 (hg' ▸ hd 23 (by decide)) hk' (by walk_at "o") ?_
            refine evl_cons ?_; refine ev_name (by rfl) ?_; refine evl_cons ?_; refine ev_name (by rfl) ?_; refine evl_cons ?_; refine ev_name (by rfl) ?_
            refine evl_cons ?_; refine ev_name (by rfl) ?_; refine evl_nil ?_
            refine (fn_put _ (hg' ▸ hd) w base sz P hp hwl hwr (fun r hr => (N.row r hr).1) (by walk_at "o") (by walk_at "o")).mono ?_
            rintro _ _ ⟨rfl, rfl⟩
            refine ⟨rfl, ?_, wk_of ⟨rfl, rfl, rfl, trivial⟩⟩
            rw [show (allP P base.length).getD j [] = w by simp [List.getD, hw]]
          · have e : (List.range ((allP P base.length).map iL).length).map (fun j => iL (putP P ((allP P base.length).getD j []) base sz)) = ((allP P base.length).map fun c => putP P c base sz).map iL := by
              refine List.ext_getElem (by simp) fun j h1 h2 => ?_
              have h3 : j < (allP P base.length).length := by simpa using h2
              simp [h3]
            rw [e]
            refine .inl ?_
            refine evl_nil ?_
            refine bc_sorted .fz (by rw [List.length_map]; walk_at "o") (fun ys1 p1 s1 => .inl ?_)
            refine as_name2 (by walk_at "mv") ?_
            refine exs_cons ?_
            refine ex_ret ?_; refine ev_cmp ?_; refine ev_name (by rfl) ?_
            refine ev_bc (by rfl) (by assumption) (by rfl) ?_ (by first | exact .inl ⟨_, rfl⟩ | exact .inr ⟨_, rfl⟩) (by decide) (by rfl) (by rfl)
            refine evl_cons ?_; refine ev_name (by rfl) ?_; refine evl_nil ?_
            refine bc_sorted .fz hdl (fun ys2 p2 s2 => .inl ?_)
            refine cmp_eqRr ?_
            have e12 : ys1 = ys2 := sorted_uniq (p1.trans (hperm.trans p2.symm)) s1 s2
            refine hKR _ _ ⟨?_, is', seed', hz', rfl⟩
            show AV.bool _ = _
            rw [e12]; simp [eqR]
theorem fn_draws (g : Gl) (hd : Dm g) (xs : List Int) (hz : xs.length ≤ 1000) : Fn g (fd 16) 0 [iL xs] [] fun v o => ∃ (D R : Addr) (is : List Int) (seed : Int), is.length ≤ 1000 ∧ v = .own D ∧ o = [(D, [.own R, .int seed]), (R, is.map .int)] := by
  refine fn_intro2 [Str.ofString "script"] (hd 16 (by decide)) (fun pm code doc vs h => ?_) (by decide) rfl (by decide) rfl rfl rfl fun c hg hn hk KR hKR => ?_
  · match vs, h with | [v], _ => rfl
  · refine exs_cons ?_
    refine ex_swap2 (by assumption) ?_
    refine ev_compmap hk ?_
    refine evi_list ?_
    refine ev_slice_to ?_; refine ev_name (by rfl) ?_; refine ev_int ?_
    refine ⟨_, _, (by walk_at "ml"), rfl, (by walk_at "mz"), (by walk_at "mz"), .inl ?_⟩
    rw [← List.map_take]
    obtain ⟨ys, hys⟩ : ∃ ys, ys = xs.take ((40 : Int)).toNat := ⟨_, rfl⟩
    rw [← hys]
    have hyl : ys.length ≤ 1000 := by rw [hys]; simp; walk_at "o"
    refine ⟨_, rfl, ?_⟩
    refine compk_map [] (fun i => .int (if ys.getD i 0 < 0 then -(ys.getD i 0) else ys.getD i 0)) rfl (by simp; walk_at "o") ?_ ?_
    · intro c' hc1 hc2 hk' i hi
      obtain ⟨x, hx⟩ := ex_at hi
      simp only [getD_int hx]
      refine as_name2 (by walk_at "mv") ?_
      refine ev_bc (by rfl) (by assumption) (by rfl) ?_ (by first | exact .inl ⟨_, rfl⟩ | exact .inr ⟨_, rfl⟩) (by decide) (by rfl) (by rfl)
      refine evl_cons ?_
      refine ev_bc (by rfl) (by assumption) (by rfl) ?_ (by first | exact .inl ⟨_, rfl⟩ | exact .inr ⟨_, rfl⟩) (by decide) (by rfl) (by rfl)
      refine evl_cons ?_; refine ev_name (by rfl) ?_; refine evl_nil ?_; refine bc_int_int ?_; refine evl_nil ?_; refine bc_abs ?_
      exact ⟨by rw [getD_of hx], wk_of trivial⟩
    · obtain ⟨is, his⟩ : ∃ is : List Int, is = (List.range ys.length).map fun i => if ys.getD i 0 < 0 then -(ys.getD i 0) else ys.getD i 0 := ⟨_, rfl⟩
      have hil : is.length ≤ 1000 := by rw [his]; simp; walk_at "o"
      have e : (List.range (ys.map AV.int).length).map (fun i => AV.int (if ys.getD i 0 < 0 then -(ys.getD i 0) else ys.getD i 0)) = is.map .int := by
        rw [his, List.map_map, List.length_map]; rfl
      rw [e]
      refine .inr fun R => ?_
      refine ev_int ?_; refine put2 ?_
      refine exs_wk ⟨[(Str.ofString "rows", .own R), (Str.ofString "seed", .int 8191)], [(R, is.map .int)]⟩ (wk_of' ⟨rfl, rfl, trivial⟩ rfl) ?_
      refine exs_mid2 (fun σ => ∃ sd, σ = ⟨[(Str.ofString "rows", .own R), (Str.ofString "seed", .int sd)], [(R, is.map .int)]⟩) (fun KM hKM => ?_) ?_
      · refine ex_for_own ?_
        refine ev_name (by rfl) ?_
        refine ⟨R, [], is.map .int, [], rfl, rfl, fun i σ => ∃ sd, σ = ⟨[(Str.ofString "rows", .own R), (Str.ofString "seed", .int sd)], []⟩, ⟨8191, rfl⟩, ?_, ?_⟩
        · rintro c' hc1 hc2 hc3 i _ hi ⟨sd, rfl⟩
          obtain ⟨x, hx⟩ := ex_at hi
          have hk' : Kinds c'.env (fd 16).scope.names := hc3 ▸ hk
          simp only [getD_int hx]
          refine as_name2 (by walk_at "mv") ?_; refine exs_cons ?_; refine ex_assign ?_; refine ev_bin ?_; refine ev_bin ?_; refine ev_bin ?_; refine ev_bin ?_
          refine ev_name (by rfl) ?_; refine ev_int ?_; refine bin_mulR (by walk_at "ms") ?_; refine ev_bin ?_; refine ev_name (by rfl) ?_; refine ev_int ?_
          refine bin_modp (by walk_at "ms") ?_; refine bin_add ?_; refine ev_int ?_; refine bin_add ?_; refine ev_int ?_; refine bin_modp (by walk_at "ms") ?_
          refine as_name2 (by walk_at "mv") ?_; refine exs_nil ?_
          show ∃ _, _
          exact ⟨⟨[(Str.ofString "rows", .own R), (Str.ofString "seed", .int ((sd * 31 + x % 1000003 + 9) % 2147483647))], _⟩, wk_of' ⟨rfl, rfl, trivial⟩ rfl, _, rfl⟩
        · rintro _ ⟨sd, rfl⟩
          exact hKM _ _ ⟨rfl, sd, rfl⟩
      · rintro _ ⟨sd, rfl⟩
        refine exs_cons ?_; refine ex_ret ?_; refine ev_list ?_; refine evl_cons ?_; refine ev_name (by rfl) ?_; refine evl_cons ?_; refine ev_name (by rfl) ?_
        refine evl_nil ?_; refine ⟨by walk_at "mz", ?_⟩
        refine .inr fun D => ?_
        skip
        exact hKR _ _ ⟨D, R, is, sd, hil, rfl, rfl⟩

theorem fn_law (g : Gl) (hd : Dm g) (xs : List Int) (hz : xs.length ≤ 1000) : Fn g (fd 26) 7 [iL xs] [] fun v o => v = .bool true := by
  refine fn_intro2 [Str.ofString "script"] (hd 26 (by decide)) (fun pm code doc vs h => ?_) (by decide) rfl (by decide) rfl rfl rfl fun c hg hn hk KR hKR => ?_
  · match vs, h with | [v], _ => rfl
  · refine exs_cons ?_
    refine ex_assign ?_
    refine ev_fn (fd 16) 0 (hg ▸ hd 16 (by decide)) hk (by walk_at "o") ?_
    refine evl_cons ?_; refine ev_name (by rfl) ?_; refine evl_nil ?_
    refine ⟨[], [], [], rfl, (fn_draws _ (hg ▸ hd) xs hz).mono ?_⟩
    rintro _ _ ⟨D, R, is, seed, hzi, rfl, rfl⟩
    refine as_name2 (by walk_at "mv") ?_
    refine exs_mid2 (fun σ => True) (fun KM hKM => ?_) ?_
    · refine ex_for2 (evi_range1 hk.gi ?_)
      refine evl_cons ?_; refine ev_int ?_; refine evl_nil ?_
      refine ⟨_, rfl, by walk_at "o", by walk_at "o", rfl, fun i σ => ∃ (is : List Int) (seed : Int), is.length ≤ 1000 ∧ σ = ⟨[(Str.ofString "draws", .own D)], [(D, [.own R, .int seed]), (R, is.map .int)]⟩,
        ⟨⟨[(Str.ofString "draws", .own D)], _⟩, wk_of' ⟨rfl, trivial⟩ rfl, is, seed, hzi, by simp⟩, ?_, ?_⟩
      · rintro i _ hi ⟨is, seed, hzi, rfl⟩ KT hKT
        refine as_name2 (by walk_at "mv") ?_
        refine exs_cons ?_
        refine ex_assign ?_; refine ev_sub ?_; refine ev_list ?_; refine evl_cons ?_; refine ev_int ?_; refine evl_cons ?_; refine ev_int ?_; refine evl_cons ?_
        refine ev_int ?_; refine evl_cons ?_; refine ev_int ?_; refine evl_nil ?_; refine ⟨by walk_at "mz", ?_⟩
        refine .inl ?_
        skip
        refine ev_take hg hd hk (by walk_at "o") ?_
        refine evl_cons ?_; refine ev_name (by rfl) ?_; refine evl_cons ?_; refine ev_int ?_; refine evl_nil ?_
        refine ⟨D, R, is, seed, 4, [], rfl, rfl, hzi, by decide, fun k is1 seed1 k0 k1 hz1 => ?_⟩
        refine sub_int (xs := [2, 3, 5, 7]) .fz k0 (by simpa using k1) (by decide) (fun x hx => ?_)
        have hp : Pp x := by
          have : k.toNat = 0 ∨ k.toNat = 1 ∨ k.toNat = 2 ∨ k.toNat = 3 := by walk_at "o"
          rcases this with e | e | e | e <;> rw [e] at hx <;> cases hx
          · exact .inl rfl
          · exact .inr (.inl rfl)
          · exact .inr (.inr (.inl rfl))
          · exact .inr (.inr (.inr rfl))
        have hpp := hp.le
        obtain ⟨P, rfl⟩ : ∃ P : Nat, x = P := ⟨x.toNat, by walk_at "o"⟩
        refine as_name2 (by walk_at "mv") ?_
        refine exs_cons ?_
        refine ex_if ?_; refine evt_boolop ?_; refine all_cons_or ?_; refine evt_not ?_
        refine evt_bool ?_
        refine ev_fn (fd 24) 4 (hg ▸ hd 24 (by decide)) hk (by walk_at "o") ?_
        refine evl_cons ?_; refine ev_name (by rfl) ?_; refine evl_cons ?_; refine ev_name (by rfl) ?_; refine evl_nil ?_
        refine ⟨[], _, [], (List.append_nil _).symm, (fn_nullright _ (hg ▸ hd) P hp D R is1 seed1 hz1).mono ?_⟩
        rintro _ _ ⟨rfl, is2, seed2, hz2, rfl⟩
        refine ⟨true, rfl, ?_⟩
        refine if_not ?_; refine if_tt ?_; refine all_cons_or ?_; refine evt_not ?_
        refine evt_bool ?_
        refine ev_fn (fd 25) 6 (hg ▸ hd 25 (by decide)) hk (by walk_at "o") ?_
        refine evl_cons ?_; refine ev_name (by rfl) ?_; refine evl_cons ?_; refine ev_name (by rfl) ?_; refine evl_nil ?_
        refine ⟨[], _, [], (List.append_nil _).symm, (fn_matrix _ (hg ▸ hd) P hp D R is2 seed2 hz2).mono ?_⟩
        rintro _ _ ⟨rfl, is3, seed3, hz3, rfl⟩
        refine ⟨true, rfl, ?_⟩
        refine if_not ?_; refine if_tt ?_; refine all_nil_or ?_; refine if_ff ?_; refine exs_nil ?_; refine exs_nil ?_
        refine hKT _ ?_
        exact ⟨⟨[(Str.ofString "draws", .own D)], _⟩, wk_of' ⟨rfl, trivial⟩ rfl, is3, seed3, hz3, by simp⟩
      · rintro σ ⟨is, seed, hzi, rfl⟩
        exact hKM _ _ ⟨rfl, trivial⟩
    · rintro σ _
      refine exs_cons ?_; refine ex_ret ?_; refine ev_bool ?_
      exact hKR _ _ rfl
def toFD (d : DefRec) : FD := ⟨d.name, d.params, d.body, d.scope⟩
theorem isVs_of {P : Addr → Obj → Prop} : ∀ {vs : List Value} {ns : List Int}, IntsAre vs ns → IsVs P vs (ns.map .int)
  | _, _, .nil => .nil
  | _, _, .cons n t h => .cons (.int n t) (isVs_of h)
theorem law_goes {view : Program} {loose : List Str} {mean : ExcName → Option Value} {mg mb : Str → Option Value} {prog : Program} {w : World} {s₁ : Shared} {fa a : Addr} {vs : List Value} {ns : List Int} {Q E : Value → Shared → Prop}
    (T : Top view loose mean mg mb s₁.heap) (hdefs : (recsOf view).map toFD = [1, 2, 4, 5, 6, 7, 8, 9, 11, 12, 13, 14, 16, 17, 18, 19, 20, 21, 22, 23, 24, 25, 26].map fd)
    (hfree : ∀ p ∈ bis, p.1 ∉ startupNames ∧ p.1 ∉ loose ∧ p.1 ∉ (recsOf view).map (·.name) ∧ p.1 ∉ (litsOf view).map (·.1) ∧ p.1 ∉ (clssOf view loose).map (·.name))
    (hm : mg (fd 26).name = some (.ref fa)) (hl : s₁.heap.get? a = some (lobj vs 0)) (hv : IntsAre vs ns) (hz : ns.length ≤ 1000)
    (hQ : ∀ h' tk, (∀ b o, s₁.heap.get? b = some o → h'.get? b = some o) → Q (.bool true) { s₁ with heap := h', toks := tk }) : wpAny (model prog w) callerA (call (.ref fa) [.ref a]) Q E s₁ := by
  let g : Gl := ⟨(recsOf view).map toFD, prog, w, s₁.heap, mg, mb⟩
  have hmb : ∀ p ∈ bis, p.1 ≠ Str.ofString "__name__" ∧ bootBuiltins p.1 = some p.2 := by
    have h1 : bis.all (fun p => decide (p.1 ≠ Str.ofString "__name__")) = true := by decide +kernel
    intro p hp
    refine ⟨by have := List.all_eq_true.mp h1 p hp; simpa using this, ?_⟩
    simp only [bis, List.mem_cons, List.not_mem_nil, or_false] at hp
    rcases hp with rfl | rfl | rfl | rfl | rfl | rfl | rfl | rfl | rfl | rfl <;> kernel_rfl
  have ok : g.Ok := by
    refine ⟨fun d hd => ?_, fun p hp => ⟨?_, ?_⟩, T.g, T.b, T.nolimit⟩
    · obtain ⟨r, hr, rfl⟩ := List.mem_map.mp hd
      exact T.fn r hr
    · obtain ⟨h1, h2, h3, h4, h5⟩ := hfree p hp
      exact T.free p.1 h1 h2 h3 h4 h5
    · obtain ⟨h1, h2⟩ := hmb p hp
      exact (T.builtins p.1 h1).trans h2
  have hr : HRel g [] [] s₁.heap := ⟨fun _ _ e => e, by simp, by simp, by simp, by simp, by simp⟩
  have fz : ∀ b o, SeqO o → s₁.heap.get? b = some o → Fz [] [] s₁.heap b o := fun b o _ e => ⟨e, by simp, by simp⟩
  refine fn_law g (fun n hn => by show fd n ∈ (recsOf view).map toFD; rw [hdefs]; exact List.mem_map_of_mem hn) ns hz callerA fa [.ref a] [] s₁ Q E ok ⟨rfl, ?_, ?_⟩ hm hr (.cons (.lst (n := 0) (fz a _ SeqO.l hl) (isVs_of hv)) .nil) fun v x own' h' tk kx hr' st iv => ?_
  · exact Nat.le_of_ble_eq_true rfl
  · exact Nat.le_of_ble_eq_true rfl
  · subst kx
    cases iv
    exact hQ h' tk fun b o e => st.chg b o (by simp) (by simp) e
theorem well_all {P : Params} {h : Heap} : ∀ {vs : List Value} {ns : List Int}, WellAll P h vs (ofPys (ns.map PyData.int)) → IntsAre vs ns
  | _, [], h => by cases h; exact .nil
  | _, n :: ns, h => by
    cases h with | cons h1 hr =>
    cases h1 with | int i t => exact .cons n t (well_all hr)
theorem well_list {P : Params} {h : Heap} {a : Addr} {ns : List Int} (hw : Well P h (.ref a) (ofPy (.list (ns.map PyData.int)))) : ∃ vs, h.get? a = some (lobj vs 0) ∧ IntsAre vs ns := by
  have e : ofPy (.list (ns.map PyData.int)) = .list (ofPys (ns.map PyData.int)) := rfl
  rw [e] at hw
  cases hw with | list h1 h2 => exact ⟨_, h1, well_all h2⟩
end Mine
end
open PySem PySem.W PyProof.Rows
set_option maxRecDepth 100000 in
set_option maxHeartbeats 8000000 in
theorem PySem.Challenge.cw_nn0249_01_holds : PySem.Challenge.rw_nn0249_01.Holds := by
  w_on
  o_law
  o_head Hook.none
  (case hw => w_witness2)
  w_strict (
    intro w s₀ s₁ mg mb G Y fa o pm cd doc dV kV ho hd hcd hD hmg hg args vals as hpre hlay hrd hwl hlo
    refine Ground.open G ?_
    intro T B D TE TW
    wrow_args hpre hlay hrd hwl hlo
    obtain ⟨vs, he, hv⟩ := Mine.well_list (by assumption)
    refine Mine.law_goes T ?_ ?_ hmg he hv ?_ ?_
    · kernel_rfl
    · decide +kernel
    · omega
    · intro h' tk keep
      refine GoodW.toG ⟨.inl ⟨.bool true, .bool true, [], rfl, raisesW_false ?_, .bool true, ?_, fun _ => ⟨List.nodup_nil, by simp⟩⟩, keep, rfl, hg⟩
      · wrow_none_raised
      · wrow_post)
