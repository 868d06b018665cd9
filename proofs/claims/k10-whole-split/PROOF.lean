import PyProof.Rows.All
import HandS.ForMost
import HandS.Evl
import HandS.Style
import HandS.Rev
import HandS.Zip
import HandS.IsInst
import HandS.TupAny
import HandS.TupLe
import HandS.TupSets
import HandS.Wide
import HandS.ForExc
import KE.GoesNew
import PySem.Challenge.RW_ringhouse_k10_whole_split
set_option Elab.async false
set_option linter.all false
set_option maxRecDepth 100000
namespace RH
/-! ### rows as polynomials -/
/-- the value of a row at x -/
def ev : List Int → Int → Int
  | [], _ => 0
  | c :: r, x => c + x * ev r x
theorem ev_nil (x : Int) : ev [] x = 0 := rfl
theorem ev_cons (c : Int) (r : List Int) (x : Int) : ev (c :: r) x = c + x * ev r x := rfl
def addL : List Int → List Int → List Int
  | [], g => g
  | a :: f, [] => a :: f
  | a :: f, b :: g => (a + b) :: addL f g
def smul (a : Int) (g : List Int) : List Int := g.map (a * ·)
def mulL : List Int → List Int → List Int
  | [], _ => []
  | a :: f, g => addL (smul a g) (0 :: mulL f g)
theorem ev_addL : ∀ (f g : List Int) (x : Int), ev (addL f g) x = ev f x + ev g x
  | [], g, x => by simp [addL, ev]
  | a :: f, [], x => by simp [addL, ev]
  | a :: f, b :: g, x => by
    simp only [addL, ev, ev_addL f g x]
    grind
theorem ev_smul (a : Int) : ∀ (g : List Int) (x : Int), ev (smul a g) x = a * ev g x
  | [], x => by simp [smul, ev]
  | b :: g, x => by
    have ih := ev_smul a g x
    unfold smul at ih ⊢
    simp only [List.map_cons, ev, ih]
    grind
theorem ev_mulL : ∀ (f g : List Int) (x : Int), ev (mulL f g) x = ev f x * ev g x
  | [], g, x => by simp [mulL, ev]
  | a :: f, g, x => by
    simp only [mulL, ev_addL, ev_smul, ev, ev_mulL f g x]
    grind
theorem ev_append : ∀ (f g : List Int) (x : Int), ev (f ++ g) x = ev f x + x ^ f.length * ev g x
  | [], g, x => by simp [ev]
  | a :: f, g, x => by
    simp only [List.cons_append, ev, ev_append f g x, List.length_cons]
    grind
theorem ev_set : ∀ (f : List Int) (n : Nat) (v : Int) (x : Int), n < f.length → ev (f.set n v) x = ev f x + (v - f.getD n 0) * x ^ n
  | [], n, v, x, h => by simp at h
  | a :: f, 0, v, x, h => by
    simp [ev]
    grind
  | a :: f, n + 1, v, x, h => by
    have ih := ev_set f n v x (by simpa using h)
    simp only [List.set_cons_succ, ev, ih, List.getD_cons_succ]
    grind
theorem ev_zeros (n : Nat) (x : Int) : ev (List.replicate n 0) x = 0 := by
  induction n with
  | zero => rfl
  | succ n ih => simp [List.replicate_succ, ev, ih]
theorem ev_neg : ∀ (f : List Int) (x : Int), ev (f.map (fun c => -c)) x = - ev f x
  | [], x => by simp [ev]
  | a :: f, x => by
    simp only [List.map_cons, ev, ev_neg f x]
    grind

/-- a polynomial function -/
def IsP (f : Int → Int) : Prop := ∃ k : List Int, ∀ x, f x = ev k x
theorem IsP.ev (k : List Int) : IsP (RH.ev k) := ⟨k, fun _ => rfl⟩
theorem IsP.const (c : Int) : IsP (fun _ => c) := ⟨[c], fun x => by simp [RH.ev]⟩
theorem IsP.id : IsP (fun x => x) := ⟨[0, 1], fun x => by simp [RH.ev]⟩
theorem IsP.add {f g : Int → Int} (hf : IsP f) (hg : IsP g) : IsP (fun x => f x + g x) := by
  obtain ⟨k, hk⟩ := hf
  obtain ⟨l, hl⟩ := hg
  exact ⟨addL k l, fun x => by simp only [ev_addL, hk, hl]⟩
theorem IsP.mul {f g : Int → Int} (hf : IsP f) (hg : IsP g) : IsP (fun x => f x * g x) := by
  obtain ⟨k, hk⟩ := hf
  obtain ⟨l, hl⟩ := hg
  exact ⟨mulL k l, fun x => by simp only [ev_mulL, hk, hl]⟩
theorem IsP.neg {f : Int → Int} (hf : IsP f) : IsP (fun x => - f x) := by
  obtain ⟨k, hk⟩ := hf
  exact ⟨k.map fun c => -c, fun x => by simp only [ev_neg, hk]⟩
theorem IsP.pow (n : Nat) : IsP (fun x => x ^ n) := by
  induction n with
  | zero => exact ⟨[1], fun x => by simp [RH.ev]⟩
  | succ n ih =>
    obtain ⟨k, hk⟩ := ih
    refine ⟨0 :: k, fun x => ?_⟩
    simp only [RH.ev, ← hk]
    grind
/-- equal modulo p -/
def Eqv (p : Int) (f g : Int → Int) : Prop := ∃ k : Int → Int, IsP k ∧ ∀ x, f x = g x + p * k x
theorem Eqv.refl (p : Int) (f : Int → Int) : Eqv p f f := ⟨fun _ => 0, IsP.const 0, fun x => by simp⟩
theorem Eqv.of_eq {p : Int} {f g : Int → Int} (h : ∀ x, f x = g x) : Eqv p f g := ⟨fun _ => 0, IsP.const 0, fun x => by simp [h]⟩
theorem Eqv.symm {p : Int} {f g : Int → Int} (h : Eqv p f g) : Eqv p g f := by
  obtain ⟨k, hk, e⟩ := h
  exact ⟨fun x => - k x, hk.neg, fun x => by rw [e]; grind⟩
theorem Eqv.trans {p : Int} {f g h : Int → Int} (a : Eqv p f g) (b : Eqv p g h) : Eqv p f h := by
  obtain ⟨k, hk, e⟩ := a
  obtain ⟨l, hl, e'⟩ := b
  exact ⟨fun x => l x + k x, hl.add hk, fun x => by rw [e, e']; grind⟩
theorem Eqv.mul {p : Int} {f g f' g' : Int → Int} (a : Eqv p f f') (b : Eqv p g g') (hf' : IsP f') (hg' : IsP g') : Eqv p (fun x => f x * g x) (fun x => f' x * g' x) := by
  obtain ⟨k, hk, e⟩ := a
  obtain ⟨l, hl, e'⟩ := b
  exact ⟨fun x => (f' x * l x + k x * g' x) + (fun _ => p) x * (k x * l x), ((hf'.mul hl).add (hk.mul hg')).add ((IsP.const p).mul (hk.mul hl)), fun x => by
    show f x * g x = f' x * g' x + p * ((f' x * l x + k x * g' x) + p * (k x * l x))
    rw [e, e']; grind⟩
theorem Eqv.val {p : Int} {f g : Int → Int} (h : Eqv p f g) (x : Int) : f x % p = g x % p := by
  obtain ⟨k, _, e⟩ := h
  rw [e, Int.add_mul_emod_self_left]

theorem big_div (a : Int) (h : ∀ x : Int, 1 ≤ x → x ∣ a) : a = 0 := by
  have h1 := h (a.natAbs + 1) (by omega)
  have h2 : (a.natAbs + 1 : Int) ∣ (a.natAbs : Int) := Int.dvd_natAbs.mpr h1
  have h3 : (a.natAbs + 1) ∣ a.natAbs := by exact_mod_cast h2
  cases h4 : a.natAbs with
  | zero => omega
  | succ n =>
    have := Nat.le_of_dvd (by omega) h3
    omega
theorem ev_ht (f : List Int) (x : Int) : ev f x = f.headD 0 + x * ev f.tail x := by
  cases f with
  | nil => simp [ev]
  | cons c r => rfl
theorem getD_ht (f : List Int) (n : Nat) : f.getD (n + 1) 0 = f.tail.getD n 0 := by
  cases f with
  | nil => simp
  | cons c r => simp
theorem getD_0 (f : List Int) : f.getD 0 0 = f.headD 0 := by
  cases f with
  | nil => rfl
  | cons c r => rfl
theorem coef_of (p : Int) : ∀ (n : Nat) (f g k : List Int), (∀ x : Int, 1 ≤ x → ev f x = ev g x + p * ev k x) → f.getD n 0 = g.getD n 0 + p * k.getD n 0
  | n, f, g, k, h => by
    have key : ∀ x : Int, 1 ≤ x → f.headD 0 - g.headD 0 - p * k.headD 0 = x * (- ev f.tail x + ev g.tail x + p * ev k.tail x) := fun x hx => by
      have h1 := h x hx
      rw [ev_ht f, ev_ht g, ev_ht k] at h1
      grind
    have h0 := big_div _ fun x hx => ⟨_, key x hx⟩
    cases n with
    | zero =>
      rw [getD_0, getD_0, getD_0]
      omega
    | succ n =>
      rw [getD_ht, getD_ht, getD_ht]
      refine coef_of p n _ _ _ fun x hx => ?_
      have h2 := key x hx
      rw [h0] at h2
      have h3 : - ev f.tail x + ev g.tail x + p * ev k.tail x = 0 := by
        rcases Int.mul_eq_zero.mp h2.symm with e | e
        · omega
        · exact e
      omega
/-- places from 0 to p - 1 -/
def Red (p : Int) (f : List Int) : Prop := ∀ c ∈ f, 0 ≤ c ∧ c < p
theorem Red.getD {p : Int} {f : List Int} (h : Red p f) (hp : 0 < p) (n : Nat) : 0 ≤ f.getD n 0 ∧ f.getD n 0 < p := by
  rw [List.getD_eq_getElem?_getD]
  cases e : f[n]? with
  | none => simpa using hp
  | some c => simpa using h c (List.mem_of_getElem? e)
theorem red_eq {p a b k : Int} (h : a = b + p * k) (ha : 0 ≤ a ∧ a < p) (hb : 0 ≤ b ∧ b < p) : a = b := by
  have h1 : a % p = b % p := by rw [h, Int.add_mul_emod_self_left]
  rw [Int.emod_eq_of_lt ha.1 ha.2, Int.emod_eq_of_lt hb.1 hb.2] at h1
  exact h1
/-- no nought at the end -/
def Cut (f : List Int) : Prop := ∀ c, f.getLast? = some c → c ≠ 0
theorem getD_last {f : List Int} (h : f ≠ []) (hc : Cut f) : f.getD (f.length - 1) 0 ≠ 0 := by
  have e : f.getLast? = some (f.getLast h) := List.getLast?_eq_some_getLast h
  have := hc _ e
  rw [List.getLast_eq_getElem] at this
  rw [List.getD_eq_getElem?_getD, List.getElem?_eq_getElem (by have := List.length_pos_iff.mpr h; omega)]
  exact this
theorem len_le_of {f g : List Int} (hf : Cut f) (h : ∀ n, f.getD n 0 = g.getD n 0) : f.length ≤ g.length := by
  by_cases e : f = []
  · simp [e]
  · have h1 := getD_last e hf
    rw [h] at h1
    have h2 : f.length - 1 < g.length := by
      apply Nat.lt_of_not_le
      intro hn
      apply h1
      rw [List.getD_eq_getElem?_getD, List.getElem?_eq_none hn]
      rfl
    omega
theorem eq_of_getD {f g : List Int} (hl : f.length = g.length) (h : ∀ n, f.getD n 0 = g.getD n 0) : f = g := by
  apply List.ext_getElem hl
  intro i h1 h2
  have := h i
  rw [List.getD_eq_getElem?_getD, List.getD_eq_getElem?_getD, List.getElem?_eq_getElem h1, List.getElem?_eq_getElem h2] at this
  exact this
theorem unique {p : Int} (hp : 0 < p) {f g : List Int} (hf : Red p f) (hg : Red p g) (cf : Cut f) (cg : Cut g) (h : Eqv p (ev f) (ev g)) : f = g := by
  obtain ⟨k, ⟨kl, hk⟩, e⟩ := h
  have h1 : ∀ n, f.getD n 0 = g.getD n 0 := fun n => by
    have := coef_of p n f g kl fun x _ => by rw [e, hk]
    exact red_eq this (hf.getD hp n) (hg.getD hp n)
  exact eq_of_getD (Nat.le_antisymm (len_le_of cf h1) (len_le_of cg fun n => (h1 n).symm)) h1
end RH
namespace RH
/-! ### cutting -/
def cutL : List Int → List Int
  | [] => []
  | c :: r => match cutL r with
    | [] => if c = 0 then [] else [c]
    | d :: t => c :: d :: t
theorem cutL_cons (c : Int) (r : List Int) : cutL (c :: r) = if cutL r = [] then (if c = 0 then [] else [c]) else c :: cutL r := by
  rw [cutL]
  cases h : cutL r with
  | nil => simp
  | cons d t => simp
theorem ev_cutL : ∀ (f : List Int) (x : Int), ev (cutL f) x = ev f x
  | [], _ => rfl
  | c :: r, x => by
    have ih := ev_cutL r x
    rw [cutL_cons]
    split
    · rename_i h
      rw [h] at ih
      split
      · rename_i h0
        simp [ev, ← ih, h0]
      · simp [ev, ← ih]
    · simp [ev, ih]
theorem cut_cutL : ∀ f : List Int, Cut (cutL f)
  | [] => fun c h => by simp [cutL] at h
  | c :: r => by
    have ih := cut_cutL r
    rw [cutL_cons]
    split
    · split
      · intro d h; simp at h
      · intro d h; simp at h; rw [← h]; assumption
    · rename_i h0
      intro d h
      rw [List.getLast?_cons_of_ne_nil h0] at h
      exact ih d h
theorem red_cutL {p : Int} : ∀ f : List Int, Red p f → Red p (cutL f)
  | [], h => h
  | c :: r, h => by
    have ih := red_cutL r fun d hd => h d (List.mem_cons_of_mem _ hd)
    rw [cutL_cons]
    split
    · split
      · intro d hd; simp at hd
      · intro d hd; simp at hd; rw [hd]; exact h c List.mem_cons_self
    · intro d hd
      rcases List.mem_cons.mp hd with e | e
      · rw [e]; exact h c List.mem_cons_self
      · exact ih d e
theorem cutL_zero : ∀ f : List Int, cutL (f ++ [0]) = cutL f
  | [] => by simp [cutL]
  | c :: r => by
    rw [List.cons_append, cutL_cons, cutL_cons, cutL_zero r]
theorem cutL_of_cut : ∀ f : List Int, Cut f → cutL f = f
  | [], _ => rfl
  | c :: r, h => by
    rw [cutL_cons]
    by_cases hr : r = []
    · subst hr
      have : c ≠ 0 := h c (by simp)
      simp [cutL, this]
    · have ih := cutL_of_cut r fun d hd => h d (by rw [List.getLast?_cons_of_ne_nil hr]; exact hd)
      rw [ih]
      simp [hr]
/-- monic -/
def Mon (f : List Int) : Prop := f.getLast? = some 1
theorem Mon.cut {f : List Int} (h : Mon f) : Cut f := fun c e => by
  rw [h] at e
  cases e
  decide
theorem Mon.ne {f : List Int} (h : Mon f) : f ≠ [] := fun e => by rw [e] at h; cases h
theorem Mon.len {f : List Int} (h : Mon f) : 1 ≤ f.length := List.length_pos_iff.mpr h.ne
theorem Mon.snoc (f : List Int) : Mon (f ++ [1]) := by simp [Mon]
theorem Mon.eq {f : List Int} (h : Mon f) : f.dropLast ++ [1] = f := by
  have e := List.getLast?_eq_some_getLast h.ne
  have h2 : f.getLast? = some 1 := h
  rw [h2] at e
  rw [Option.some.inj e]
  exact List.dropLast_concat_getLast h.ne
/-! ### modulo p -/
def modL (p : Int) (f : List Int) : List Int := f.map (· % p)
def modP (p : Int) (f : List Int) : List Int := cutL (modL p f)
theorem red_modL {p : Int} (hp : 0 < p) (f : List Int) : Red p (modL p f) := fun c hc => by
  obtain ⟨d, _, rfl⟩ := List.mem_map.mp hc
  exact ⟨Int.emod_nonneg _ (by omega), Int.emod_lt_of_pos _ hp⟩
theorem modL_red {p : Int} {f : List Int} (h : Red p f) : modL p f = f := by
  unfold modL
  conv => rhs; rw [← List.map_id f]
  exact List.map_congr_left fun c hc => Int.emod_eq_of_lt (h c hc).1 (h c hc).2
theorem eqv_modL (p : Int) : ∀ f : List Int, Eqv p (ev (modL p f)) (ev f)
  | [] => Eqv.refl _ _
  | c :: r => by
    obtain ⟨k, hk, e⟩ := eqv_modL p r
    refine ⟨fun x => - (c / p) + x * k x, (IsP.const _).add (IsP.id.mul hk), fun x => ?_⟩
    show c % p + x * ev (modL p r) x = c + x * ev r x + p * (-(c / p) + x * k x)
    rw [e]
    have := Int.emod_add_mul_ediv c p
    grind
theorem red_modP {p : Int} (hp : 0 < p) (f : List Int) : Red p (modP p f) := red_cutL _ (red_modL hp f)
theorem cut_modP (p : Int) (f : List Int) : Cut (modP p f) := cut_cutL _
theorem eqv_modP (p : Int) (f : List Int) : Eqv p (ev (modP p f)) (ev f) := (Eqv.of_eq (ev_cutL _)).trans (eqv_modL p f)
theorem modP_red {p : Int} {f : List Int} (h : Red p f) (c : Cut f) : modP p f = f := by
  unfold modP
  rw [modL_red h, cutL_of_cut f c]
/-- the product modulo p -/
def mulP (p : Int) (f g : List Int) : List Int := modP p (mulL f g)
theorem red_mulP {p : Int} (hp : 0 < p) (f g : List Int) : Red p (mulP p f g) := red_modP hp _
theorem cut_mulP (p : Int) (f g : List Int) : Cut (mulP p f g) := cut_modP p _
theorem eqv_mulP (p : Int) (f g : List Int) : Eqv p (ev (mulP p f g)) (fun x => ev f x * ev g x) := (eqv_modP p _).trans (Eqv.of_eq (ev_mulL f g))
/-- whatever has the three marks is the product -/
theorem mulP_of {p : Int} (hp : 0 < p) {f g r : List Int} (hr : Red p r) (e : Eqv p (ev r) fun x => ev f x * ev g x) : cutL r = mulP p f g :=
  unique hp (red_cutL _ hr) (red_mulP hp f g) (cut_cutL _) (cut_mulP p f g) ((Eqv.of_eq (ev_cutL r)).trans (e.trans (eqv_mulP p f g).symm))
theorem addL_len : ∀ f g : List Int, (addL f g).length = max f.length g.length
  | [], g => by simp [addL]
  | a :: f, [] => by simp [addL]
  | a :: f, b :: g => by
    simp only [addL, List.length_cons, addL_len f g]
    omega
theorem addL_snoc : ∀ (f g : List Int) (c : Int), f.length ≤ g.length → addL f (g ++ [c]) = addL f g ++ [c]
  | [], g, c, _ => by simp [addL]
  | a :: f, [], c, h => by simp at h
  | a :: f, b :: g, c, h => by
    simp only [List.cons_append, addL, addL_snoc f g c (by simpa using h)]
theorem mulL_one (g : List Int) : mulL [1] g = addL g [0] := by
  simp [mulL, smul]
theorem addL_zero : ∀ g : List Int, g ≠ [] → addL g [0] = g
  | [], h => absurd rfl h
  | a :: [], _ => by simp [addL]
  | a :: b :: g, _ => by simp [addL]
theorem mon_mulL (b : List Int) : ∀ (a : List Int), ∃ c : List Int, mulL (a ++ [1]) (b ++ [1]) = c ++ [1] ∧ c.length = a.length + b.length
  | [] => ⟨b, by rw [List.nil_append, mulL_one, addL_zero _ (by simp)], by simp⟩
  | x :: a => by
    obtain ⟨c, e, l⟩ := mon_mulL b a
    refine ⟨addL (smul x (b ++ [1])) (0 :: c), ?_, ?_⟩
    · rw [List.cons_append, mulL, e, ← List.cons_append, addL_snoc]
      simp [smul, l]
    · rw [addL_len]
      simp [smul, l]
      omega
theorem mon_mulP {p : Int} (hp : 1 < p) {f g : List Int} (hf : Mon f) (hg : Mon g) : Mon (mulP p f g) ∧ (mulP p f g).length + 1 = f.length + g.length := by
  obtain ⟨c, e, l⟩ := mon_mulL g.dropLast f.dropLast
  rw [hf.eq, hg.eq] at e
  have e2 : modL p (mulL f g) = modL p c ++ [1] := by
    rw [e]
    unfold modL
    rw [List.map_append, List.map_singleton, Int.emod_eq_of_lt (by omega) hp]
  have m : Mon (modL p c ++ [1]) := Mon.snoc _
  have e3 : mulP p f g = modL p c ++ [1] := by
    unfold mulP modP
    rw [e2, cutL_of_cut _ m.cut]
  rw [e3]
  refine ⟨m, ?_⟩
  have h1 := hf.len
  have h2 := hg.len
  simp only [modL, List.length_append, List.length_map, l, List.length_dropLast, List.length_singleton]
  omega
end RH
namespace RH
/-! ### Horner's values -/
def hs (x p : Int) : List Int → List Int
  | [] => []
  | c :: r => (((hs x p r).headD 0) * x + c) % p :: hs x p r
def modAt (x p : Int) (f : List Int) : Int := (hs x p f).headD 0
theorem hs_len (x p : Int) : ∀ f : List Int, (hs x p f).length = f.length
  | [] => rfl
  | c :: r => by simp [hs, hs_len x p r]
theorem modAt_nil (x p : Int) : modAt x p [] = 0 := rfl
theorem modAt_cons (x p c : Int) (r : List Int) : modAt x p (c :: r) = (modAt x p r * x + c) % p := rfl
theorem modAt_ev (x p : Int) : ∀ f : List Int, modAt x p f = ev f x % p
  | [] => by simp [modAt_nil, ev]
  | c :: r => by
    rw [modAt_cons, modAt_ev x p r, ev]
    rw [Int.add_emod, Int.mul_emod, Int.emod_emod_of_dvd _ (Int.dvd_refl p), ← Int.mul_emod, ← Int.add_emod]
    rw [Int.mul_comm x, Int.add_comm]
theorem red_hs {p : Int} (hp : 0 < p) (x : Int) : ∀ f : List Int, Red p (hs x p f)
  | [] => fun c h => by simp [hs] at h
  | c :: r => fun d h => by
    rcases List.mem_cons.mp h with e | e
    · rw [e]
      exact ⟨Int.emod_nonneg _ (by omega), Int.emod_lt_of_pos _ hp⟩
    · exact red_hs hp x r d e
theorem hs_tail (x p : Int) (f : List Int) : (hs x p f).tail = hs x p f.tail := by
  cases f <;> rfl
theorem hs_drop (x p : Int) : ∀ (n : Nat) (f : List Int), (hs x p f).drop n = hs x p (f.drop n)
  | 0, f => by simp
  | n + 1, [] => by simp [hs]
  | n + 1, c :: r => by simp [hs, hs_drop x p n r]
theorem mon_hs {p : Int} (hp : 1 < p) (x : Int) : ∀ f : List Int, Mon f → Mon (hs x p f)
  | [], h => absurd rfl h.ne
  | c :: [], h => by
    have e : c = 1 := by simpa [Mon] using h
    subst e
    simp [hs, Mon]
    exact Int.emod_eq_of_lt (by omega) hp
  | c :: d :: r, h => by
    have h2 : Mon (d :: r) := by simpa [Mon, List.getLast?_cons_cons] using h
    have ih := mon_hs hp x (d :: r) h2
    show (_ :: hs x p (d :: r)).getLast? = some 1
    rw [List.getLast?_cons_of_ne_nil ih.ne]
    exact ih
/-- a row by x - z: the Horner values at z, and what is left -/
theorem eqv_hs (z p : Int) : ∀ f : List Int, Eqv p (ev f) (fun x => (x + -z) * ev (hs z p f).tail x + ev f z)
  | [] => Eqv.of_eq fun x => by simp [hs, ev]
  | c :: r => by
    obtain ⟨k, hk, e⟩ := eqv_hs z p r
    -- q = hs r = head :: tail
    have hq : ∀ x, ev (hs z p r) x = modAt z p r + x * ev (hs z p r).tail x := fun x => ev_ht _ x
    have ha := modAt_ev z p r
    have hm := Int.emod_add_mul_ediv (ev r z) p
    refine ⟨fun x => x * k x + (x + -z) * (ev r z / p), (IsP.id.mul hk).add ((IsP.id.add (IsP.const _)).mul (IsP.const _)), fun x => ?_⟩
    show c + x * ev r x = (x + -z) * ev (hs z p r) x + (c + z * ev r z) + p * (x * k x + (x + -z) * (ev r z / p))
    rw [hq, e, ha]
    show c + x * ((x + -z) * ev (hs z p r).tail x + ev r z + p * k x) = _
    generalize ev r z / p = d at *
    generalize ev (hs z p r).tail x = t at *
    grind
theorem eqv_root {p low : Int} {f : List Int} (h : modAt (-low) p f = 0) : Eqv p (ev f) (fun x => ev [low, 1] x * ev (hs (-low) p f).tail x) := by
  obtain ⟨k, hk, e⟩ := eqv_hs (-low) p f
  rw [modAt_ev] at h
  obtain ⟨m, hm⟩ := Int.dvd_of_emod_eq_zero h
  refine ⟨fun x => k x + m, hk.add (IsP.const m), fun x => ?_⟩
  rw [e]
  show (x + - -low) * ev (hs (-low) p f).tail x + ev f (-low) + p * k x = _
  rw [hm]
  simp [ev]
  grind

/-! ### the number turned -/
def eu : Nat → Int → Int → Int → Int → Int
  | 0, _, _, first, _ => first
  | n + 1, one, two, first, second => if one > 1 then eu n (two - two / one * one) one (second - two / one * first) first else first
def inv (a p : Int) : Int := eu p.toNat (a % p) p 1 0 % p
/-- p is prime -/
def Pr (p : Int) : Prop := 1 < p ∧ ∀ d : Int, 0 < d → d ∣ p → d = 1 ∨ d = p
theorem eu_ok {a p : Int} : ∀ (n : Nat) (one two first second : Int), 0 < one → one < two → one ≤ n → p ∣ first * a - one → p ∣ second * a - two →
    (∀ d : Int, 0 < d → d ∣ one → d ∣ two → d = 1) → p ∣ eu n one two first second * a - 1
  | 0, one, two, first, second, h0, _, hn, _, _, _ => by simp at hn; omega
  | n + 1, one, two, first, second, h0, hlt, hn, h1, h2, hg => by
    rw [eu]
    split
    · rename_i h
      have hm : two - two / one * one = two % one := by
        have := Int.emod_add_mul_ediv two one
        grind
      have hr : 0 < two % one := by
        rcases Int.lt_or_eq_of_le (Int.emod_nonneg two (by omega : one ≠ 0)) with e | e
        · exact e
        · exfalso
          have := hg one h0 (Int.dvd_refl _) (Int.dvd_of_emod_eq_zero e.symm)
          omega
      have hl : two % one < one := Int.emod_lt_of_pos _ h0
      rw [hm]
      refine eu_ok n _ _ _ _ hr hl (by omega) ?_ h1 fun d hd ha hb => ?_
      · obtain ⟨u, hu⟩ := h1
        obtain ⟨v, hv⟩ := h2
        refine ⟨v - two / one * u, ?_⟩
        rw [← hm]
        grind
      · refine hg d hd hb ?_
        have e := Int.emod_add_mul_ediv two one
        rw [← e]
        exact Int.dvd_add ha (Int.dvd_mul_of_dvd_left hb)
    · rename_i h
      have : one = 1 := by omega
      rw [this] at h1
      exact h1
theorem inv_range {a p : Int} (hp : 0 < p) : 0 ≤ inv a p ∧ inv a p < p := ⟨Int.emod_nonneg _ (by omega), Int.emod_lt_of_pos _ hp⟩
theorem inv_ok {a p : Int} (P : Pr p) (h : a % p ≠ 0) : p ∣ inv a p * a - 1 := by
  obtain ⟨h1, hd⟩ := P
  have h0 : 0 < a % p := by
    have := Int.emod_nonneg a (by omega : p ≠ 0)
    omega
  have hl : a % p < p := Int.emod_lt_of_pos _ (by omega)
  have key := eu_ok (a := a % p) (p := p) p.toNat (a % p) p 1 0 h0 hl (by omega) (by simp) (by simp) fun d hdp ha hb => by
    rcases hd d hdp hb with e | e
    · exact e
    · exfalso
      rw [e] at ha
      have := Int.le_of_dvd h0 ha
      omega
  obtain ⟨u, hu⟩ := key
  unfold inv
  generalize eu p.toNat (a % p) p 1 0 = z at *
  have e1 := Int.emod_add_mul_ediv z p
  have e2 := Int.emod_add_mul_ediv a p
  refine ⟨u - (z / p) * (a % p) + (z % p) * (a / p), ?_⟩
  generalize z % p = zm at *
  generalize z / p = zd at *
  generalize a % p = am at *
  generalize a / p = ad at *
  grind
theorem inv_unique {a p x y : Int} (hx : 0 ≤ x ∧ x < p) (hy : 0 ≤ y ∧ y < p) (h1 : p ∣ x * a - 1) (h2 : p ∣ y * a - 1) : x = y := by
  obtain ⟨u, hu⟩ := h1
  obtain ⟨v, hv⟩ := h2
  refine red_eq (k := u * y - v * x) ?_ hx hy
  grind
theorem inv_mod (a p : Int) : inv (a % p) p = inv a p := by
  unfold inv
  rw [Int.emod_emod_of_dvd _ (Int.dvd_refl p)]
end RH
namespace RH
theorem Pr.dvd {p a b : Int} (P : Pr p) (h : p ∣ a * b) : p ∣ a ∨ p ∣ b := by
  by_cases h0 : a % p = 0
  · exact .inl (Int.dvd_of_emod_eq_zero h0)
  · obtain ⟨u, hu⟩ := inv_ok P h0
    obtain ⟨v, hv⟩ := h
    refine .inr ⟨inv a p * v - u * b, ?_⟩
    grind
/-! ### roots taken out -/
def strip (low p : Int) : Nat → List Int → Nat × List Int
  | 0, f => (0, f)
  | n + 1, f => if f.length > 1 ∧ modAt (-low) p f = 0 then ((strip low p n (hs (-low) p f).tail).1 + 1, (strip low p n (hs (-low) p f).tail).2) else (0, f)
def linStep (p : Int) (s : List Int × List (List Int × Int)) (low : Nat) : List Int × List (List Int × Int) :=
  let r := strip low p s.1.length s.1
  (r.2, if r.1 > 0 then s.2 ++ [([(low : Int), 1], (r.1 : Int))] else s.2)
def lin (p : Int) (f : List Int) (n : Nat) : List Int × List (List Int × Int) := (List.range n).foldl (linStep p) (f, [])
theorem lin_zero (p : Int) (f : List Int) : lin p f 0 = (f, []) := rfl
theorem lin_succ (p : Int) (f : List Int) (n : Nat) : lin p f (n + 1) = linStep p (lin p f n) n := by
  unfold lin
  rw [List.range_succ, List.foldl_append]
  rfl
/-! ### two of degree 2 -/
def findA (l2 l3 p b d : Int) : Option Nat := (List.range p.toNat).find? fun a : Nat => decide (((a : Int) * (l3 - (a : Int)) + b + d - l2) % p = 0)
def candA (l0 l1 l2 l3 p : Int) (b : Int) : Option (List Int × List Int) :=
  let d := l0 * inv b p % p
  if b ≠ d then
    let a := (l1 - b * l3) * inv (d - b) p % p
    if (a * (l3 - a) + b + d - l2) % p = 0 then some ([b, a, 1], [d, (l3 - a) % p, 1]) else none
  else if (l1 - b * l3) % p = 0 then
    match findA l2 l3 p b d with
    | some a => some ([b, (a : Int), 1], [d, (l3 - (a : Int)) % p, 1])
    | none => none
  else none
def pairL (l0 l1 l2 l3 p : Int) : Option (List Int × List Int) := (List.range (p.toNat - 1)).findSome? fun i : Nat => candA l0 l1 l2 l3 p (1 + (i : Int))
def pairF (p : Int) (f : List Int) : Option (List Int × List Int) := pairL (f.getD 0 0) (f.getD 1 0) (f.getD 2 0) (f.getD 3 0) p
def code (g : List Int) : Int := g.foldl (fun a n => a * 256 + n) 0
def rootlessF (p : Int) (f : List Int) : List (List Int × Int) :=
  match (if f.length = 5 then pairF p f else none) with
  | none => [(f, 1)]
  | some (g, h) => if g = h then [(g, 2)] else if code g ≤ code h then [(g, 1), (h, 1)] else [(h, 1), (g, 1)]
def splitF (p : Int) (f : List Int) : List (List Int × Int) :=
  let s := lin p f p.toNat
  if s.1.length > 1 then s.2 ++ rootlessF p s.1 else s.2
/-! ### what is asked -/
def lexLt : List Int → List Int → Prop
  | [], [] => False
  | [], _ :: _ => True
  | _ :: _, [] => False
  | a :: f, b :: g => a < b ∨ (a = b ∧ lexLt f g)
def partLt (a b : List Int) : Prop := a.length < b.length ∨ (a.length = b.length ∧ lexLt a b)
/-- no root -/
def NoRoot (p : Int) (f : List Int) : Prop := ∀ z : Int, 0 ≤ z → z < p → modAt z p f ≠ 0
/-- stays, as it is looked at -/
def Stay (p : Int) (g : List Int) : Prop := g.length = 2 ∨ (NoRoot p g ∧ (g.length < 5 ∨ ∀ b : Int, 1 ≤ b → b < p → candA (g.getD 0 0) (g.getD 1 0) (g.getD 2 0) (g.getD 3 0) p b = none))
def pw (g : List Int) (n : Nat) (x : Int) : Int := ev g x ^ n
def prodP : List (List Int × Int) → Int → Int
  | [], _ => 1
  | (g, o) :: r, x => ev g x ^ o.toNat * prodP r x
structure PartOk (p : Int) (a : List Int × Int) : Prop where
  red : Red p a.1
  mon : Mon a.1
  two : 2 ≤ a.1.length
  five : a.1.length ≤ 5
  one : 1 ≤ a.2
  four : a.2 ≤ 4
  stay : Stay p a.1
structure Good (p : Int) (f : List Int) (parts : List (List Int × Int)) : Prop where
  ok : ∀ a ∈ parts, PartOk p a
  sorted : parts.Pairwise fun a b => partLt a.1 b.1
  prod : Eqv p (prodP parts) (ev f)
  ne : parts ≠ []

theorem prodP_append : ∀ (a b : List (List Int × Int)) (x : Int), prodP (a ++ b) x = prodP a x * prodP b x
  | [], b, x => by simp [prodP]
  | (g, o) :: r, b, x => by
    simp only [List.cons_append, prodP, prodP_append r b x]
    grind
theorem isP_pow {f : Int → Int} (hf : IsP f) : ∀ n : Nat, IsP fun x => f x ^ n
  | 0 => ⟨[1], fun x => by simp [ev]⟩
  | n + 1 => by
    obtain ⟨k, hk⟩ := (isP_pow hf n).mul hf
    exact ⟨k, fun x => (Int.pow_succ _ _).trans (hk x)⟩
theorem isP_prod : ∀ a : List (List Int × Int), IsP (prodP a)
  | [] => IsP.const 1
  | (g, o) :: r => (isP_pow (IsP.ev g) _).mul (isP_prod r)

/-- what strip does -/
theorem strip_ok {p : Int} (hp : 1 < p) (low : Nat) (hl : (low : Int) < p) : ∀ (n : Nat) (f : List Int), Red p f → Mon f → f.length ≤ n →
    let r := strip low p n f
    Red p r.2 ∧ Mon r.2 ∧ r.1 + r.2.length = f.length ∧ Eqv p (ev f) (fun x => ev [(low : Int), 1] x ^ r.1 * ev r.2 x) ∧ (r.2.length ≤ 1 ∨ modAt (-(low : Int)) p r.2 ≠ 0)
  | 0, f, _, m, h => absurd m.len (by omega)
  | n + 1, f, hr, m, h => by
    unfold strip
    by_cases c : f.length > 1 ∧ modAt (-(low : Int)) p f = 0
    · rw [if_pos c]
      have m2 : Mon (hs (-(low : Int)) p f).tail := by
        have m1 := mon_hs hp (-(low : Int)) f m
        have hlen := hs_len (-(low : Int)) p f
        cases q : hs (-(low : Int)) p f with
        | nil => rw [q] at m1; exact absurd rfl m1.ne
        | cons a t =>
          rw [q] at m1 hlen
          have ht : t ≠ [] := by
            rintro rfl
            simp at hlen
            omega
          have m1' : (a :: t).getLast? = some 1 := m1
          rw [List.getLast?_cons_of_ne_nil ht] at m1'
          exact m1'
      have l2 : (hs (-(low : Int)) p f).tail.length + 1 = f.length := by
        rw [List.length_tail, hs_len]
        omega
      have r2 : Red p (hs (-(low : Int)) p f).tail := fun d hd => red_hs (by omega) _ f d (List.mem_of_mem_tail hd)
      obtain ⟨q1, q2, q3, q4, q5⟩ := strip_ok hp low hl n _ r2 m2 (by omega)
      refine ⟨q1, q2, by simp only; omega, ?_, q5⟩
      have e1 := eqv_root (p := p) (low := (low : Int)) (f := f) c.2
      refine e1.trans ?_
      refine ((Eqv.refl p (ev [(low : Int), 1])).mul q4 (IsP.ev _) ((isP_pow (IsP.ev _) _).mul (IsP.ev _))).trans (Eqv.of_eq fun x => ?_)
      simp only [Int.pow_succ]
      grind
    · rw [if_neg c]
      refine ⟨hr, m, by simp, Eqv.of_eq fun x => by simp, ?_⟩
      by_cases h1 : f.length ≤ 1
      · exact .inl h1
      · exact .inr fun e => c ⟨by omega, e⟩
end RH
namespace RH
theorem lexLt_len2 {a b : Int} (h : a < b) : lexLt [a, 1] [b, 1] := .inl h
theorem modAt_zero_of {p x : Int} {f : List Int} {g : Int → Int} (e : Eqv p (ev f) g) : modAt x p f = g x % p := by
  rw [modAt_ev, e.val]
theorem modAt_mod {p : Int} (x : Int) : ∀ f : List Int, modAt (x % p) p f = modAt x p f
  | [] => rfl
  | c :: r => by
    rw [modAt_cons, modAt_cons, modAt_mod x r]
    rw [Int.add_emod, Int.mul_emod, Int.emod_emod_of_dvd _ (Int.dvd_refl p), ← Int.mul_emod, ← Int.add_emod]
/-- the state of the loop over the numbers low -/
structure LinOk (p : Int) (f : List Int) (n : Nat) (s : List Int × List (List Int × Int)) : Prop where
  red : Red p s.1
  mon : Mon s.1
  parts : ∀ a ∈ s.2, ∃ l : Nat, l < n ∧ a.1 = [(l : Int), 1] ∧ 1 ≤ a.2
  sorted : s.2.Pairwise fun a b => partLt a.1 b.1
  prod : Eqv p (fun x => prodP s.2 x * ev s.1 x) (ev f)
  deg : (s.2.map (·.2)).sum + s.1.length = f.length
  noroot : ∀ l : Nat, l < n → s.1.length ≤ 1 ∨ modAt (-(l : Int)) p s.1 ≠ 0
theorem lin_ok {p : Int} (hp : 1 < p) {f : List Int} (hr : Red p f) (hm : Mon f) : ∀ n : Nat, (n : Int) ≤ p → LinOk p f n (lin p f n)
  | 0, _ => ⟨hr, hm, fun a h => absurd h List.not_mem_nil, List.Pairwise.nil, Eqv.of_eq fun x => by simp [prodP, lin_zero], by simp [lin_zero], fun l h => by omega⟩
  | n + 1, hn => by
    have ih := lin_ok hp hr hm n (by omega)
    rw [lin_succ]
    generalize lin p f n = s at ih
    obtain ⟨i1, i2, i3, i4, i5, i6, i7⟩ := ih
    obtain ⟨q1, q2, q3, q4, q5⟩ := strip_ok hp n (by omega) s.1.length s.1 i1 i2 (Nat.le_refl _)
    unfold linStep
    generalize strip (n : Int) p s.1.length s.1 = r at q1 q2 q3 q4 q5
    have nr : ∀ l : Nat, l < n + 1 → r.2.length ≤ 1 ∨ modAt (-(l : Int)) p r.2 ≠ 0 := fun l hl => by
      by_cases e : l = n
      · rw [e]; exact q5
      · rcases i7 l (by omega) with h | h
        · left; omega
        · right
          intro h0
          apply h
          rw [modAt_zero_of q4]
          rw [modAt_ev] at h0
          rw [Int.mul_emod, h0]
          simp
    by_cases h0 : r.1 > 0
    · simp only [h0, if_true]
      refine ⟨q1, q2, fun a ha => ?_, ?_, ?_, ?_, nr⟩
      · rcases List.mem_append.mp ha with ha | ha
        · obtain ⟨l, h1, h2⟩ := i3 a ha
          exact ⟨l, by omega, h2⟩
        · have e := List.mem_singleton.mp ha
          rw [e]
          exact ⟨n, by omega, rfl, by show (1 : Int) ≤ (r.1 : Int); omega⟩
      · rw [List.pairwise_append]
        refine ⟨i4, List.pairwise_singleton _ _, fun a ha b hb => ?_⟩
        have e := List.mem_singleton.mp hb
        rw [e]
        obtain ⟨l, h1, h2, _⟩ := i3 a ha
        rw [h2]
        exact .inr ⟨rfl, lexLt_len2 (by omega)⟩
      · have e : ∀ x, prodP (s.2 ++ [([(n : Int), 1], (r.1 : Int))]) x * ev r.2 x = prodP s.2 x * (ev [(n : Int), 1] x ^ r.1 * ev r.2 x) := fun x => by
          rw [prodP_append]
          simp only [prodP, Int.toNat_natCast]
          grind
        refine (Eqv.of_eq e).trans (Eqv.trans ?_ i5)
        exact (Eqv.refl p (prodP s.2)).mul q4.symm (isP_prod _) (IsP.ev _)
      · simp only [List.map_append, List.sum_append, List.map_cons, List.map_nil, List.sum_cons, List.sum_nil]
        omega
    · have h00 : r.1 = 0 := by omega
      simp only [h0, if_false]
      refine ⟨q1, q2, fun a ha => ?_, i4, ?_, by show (s.2.map (·.2)).sum + (r.2.length : Int) = f.length; omega, nr⟩
      · obtain ⟨l, h1, h2⟩ := i3 a ha
        exact ⟨l, by omega, h2⟩
      · refine Eqv.trans ?_ i5
        refine (Eqv.refl p (prodP s.2)).mul (q4.symm.trans (Eqv.refl _ _)) (isP_prod _) (IsP.ev _) |> fun z => (Eqv.of_eq fun x => ?_).trans z
        rw [h00]
        simp
/-- behind the loop there is no root -/
theorem lin_noroot {p : Int} (hp : 1 < p) {f : List Int} {s : List Int × List (List Int × Int)} (L : LinOk p f p.toNat s) (h : s.1.length > 1) : NoRoot p s.1 := fun z h0 h1 => by
  -- z = -l for l = (p - z) % p
  have hl : ((-z) % p).toNat < p.toNat := by
    have := Int.emod_lt_of_pos (-z) (by omega : 0 < p)
    have := Int.emod_nonneg (-z) (by omega : p ≠ 0)
    omega
  rcases L.noroot _ hl with q | q
  · omega
  · have e : (((-z) % p).toNat : Int) = (-z) % p := Int.toNat_of_nonneg (Int.emod_nonneg _ (by omega))
    rw [e] at q
    have e2 : (-((-z) % p)) % p = z := by
      have := Int.emod_add_mul_ediv (-z) p
      have e3 : -((-z) % p) = z + p * ((-z) / p) := by omega
      rw [e3, Int.add_mul_emod_self_left, Int.emod_eq_of_lt h0 h1]
    rw [← modAt_mod, e2] at q
    exact q
/-- the pair -/
theorem pair_range {p : Int} (hp : 1 < p) {l0 l1 l2 l3 b : Int} (hb : 1 ≤ b ∧ b < p) {g h : List Int} (e : candA l0 l1 l2 l3 p b = some (g, h)) :
    ∃ a d a', g = [b, a, 1] ∧ h = [d, a', 1] ∧ Red p g ∧ Red p h := by
  have one : 0 ≤ (1 : Int) ∧ (1 : Int) < p := ⟨by omega, hp⟩
  have md : ∀ z : Int, 0 ≤ z % p ∧ z % p < p := fun z => ⟨Int.emod_nonneg _ (by omega), Int.emod_lt_of_pos _ (by omega)⟩
  have red3 : ∀ {x y : Int}, (0 ≤ x ∧ x < p) → (0 ≤ y ∧ y < p) → Red p [x, y, 1] := fun {x y} hx hy c hc => by
    simp only [List.mem_cons, List.not_mem_nil, or_false] at hc
    rcases hc with e | e | e <;> rw [e] <;> assumption
  unfold candA at e
  dsimp only at e
  split at e
  · split at e
    · cases e
      exact ⟨_, _, _, rfl, rfl, red3 ⟨by omega, hb.2⟩ (md _), red3 (md _) (md _)⟩
    · cases e
  · split at e
    · split at e
      · rename_i a ha
        cases e
        have hr := List.mem_range.mp (List.mem_of_find?_eq_some ha)
        exact ⟨_, _, _, rfl, rfl, red3 ⟨by omega, hb.2⟩ ⟨by omega, by omega⟩, red3 (md _) (md _)⟩
      · cases e
    · cases e
theorem pp1 {p l1 l3 b d a a' ak ak' idb v : Int} (hv : idb * (d - b) - 1 = p * v) (ha : a + p * ak = (l1 - b * l3) * idb) (ha' : a' + p * ak' = l3 - a) :
    a * d + b * a' = l1 + p * ((l1 - b * l3) * v - ak * (d - b) - b * ak') := by
  have e1 : a' = l3 - a - p * ak' := by omega
  have e2 : a = (l1 - b * l3) * idb - p * ak := by omega
  have e3 : a * d + b * a' = (l1 - b * l3) * (idb * (d - b)) - p * ak * (d - b) + b * l3 - p * b * ak' := by
    rw [e1]
    have e4 : a * d - a * b = (l1 - b * l3) * (idb * (d - b)) - p * ak * (d - b) := by
      rw [e2]; clear e1 e2 ha ha' hv; grind
    clear e1 e2 ha ha' hv; grind
  rw [e3, show idb * (d - b) = 1 + p * v by omega]
  clear e1 e2 e3 ha ha' hv; grind
theorem pp2 {p l2 l3 b d a a' ak' w : Int} (ha' : a' + p * ak' = l3 - a) (hw : a * (l3 - a) + b + d - l2 = p * w) : a * a' + b + d = l2 + p * (w - a * ak') := by
  have e1 : l3 - a = a' + p * ak' := by omega
  rw [e1] at hw
  have : a * (a' + p * ak') = a * a' + p * (a * ak') := by clear hw e1 ha'; grind
  have : p * (w - a * ak') = p * w - p * (a * ak') := by clear hw e1 ha'; grind
  omega
theorem pp3 {p l1 l3 b d a a' ak' w1 : Int} (hbd : b = d) (hw1 : l1 - b * l3 = p * w1) (ha' : a' + p * ak' = l3 - a) : a * d + b * a' = l1 + p * (- w1 - b * ak') := by
  have e1 : a' = l3 - a - p * ak' := by omega
  have e2 : l1 = b * l3 + p * w1 := by omega
  rw [← hbd, e1, e2]
  clear e1 e2 hw1 ha' hbd; grind
theorem pp4 {p l3 a a' ak' : Int} (ha' : a' + p * ak' = l3 - a) : a + a' = l3 + p * - ak' := by
  rw [Int.mul_neg]
  omega
theorem pair_prod {p : Int} (P : Pr p) {l0 l1 l2 l3 b : Int} (hb : 1 ≤ b ∧ b < p) {g h : List Int} (e : candA l0 l1 l2 l3 p b = some (g, h)) :
    Eqv p (ev [l0, l1, l2, l3, 1]) (fun x => ev g x * ev h x) := by
  have hp := P.1
  have hbm : b % p ≠ 0 := by rw [Int.emod_eq_of_lt (by omega) hb.2]; omega
  obtain ⟨u, hu⟩ := inv_ok P hbm
  have hd := Int.emod_add_mul_ediv (l0 * inv b p) p
  have hdr : 0 ≤ l0 * inv b p % p ∧ l0 * inv b p % p < p := ⟨Int.emod_nonneg _ (by omega), Int.emod_lt_of_pos _ (by omega)⟩
  unfold candA at e
  dsimp only at e
  generalize l0 * inv b p % p = d at *
  generalize l0 * inv b p / p = dk at *
  generalize inv b p = ib at *
  have fin : ∀ a a' : Int, (∃ k1, a * d + b * a' = l1 + p * k1) → (∃ k2, a * a' + b + d = l2 + p * k2) → (∃ k3, a + a' = l3 + p * k3) → Eqv p (ev [l0, l1, l2, l3, 1]) (fun x => ev [b, a, 1] x * ev [d, a', 1] x) := by
    rintro a a' ⟨k1, h1⟩ ⟨k2, h2⟩ ⟨k3, h3⟩
    refine Eqv.symm ⟨ev [l0 * u - dk * b, k1, k2, k3], IsP.ev _, fun x => ?_⟩
    simp only [ev]
    grind
  split at e
  · rename_i hne
    split at e
    · rename_i h2
      cases e
      have hdb : (d - b) % p ≠ 0 := fun z => by
        have hz := Int.dvd_of_emod_eq_zero z
        obtain ⟨k, hk⟩ := hz
        exact hne (red_eq (k := -k) (by grind) ⟨by omega, hb.2⟩ hdr)
      obtain ⟨v, hv⟩ := inv_ok P hdb
      have ha := Int.emod_add_mul_ediv ((l1 - b * l3) * inv (d - b) p) p
      generalize (l1 - b * l3) * inv (d - b) p % p = a at *
      generalize (l1 - b * l3) * inv (d - b) p / p = ak at *
      generalize inv (d - b) p = idb at *
      have ha' := Int.emod_add_mul_ediv (l3 - a) p
      generalize (l3 - a) % p = a' at *
      generalize (l3 - a) / p = ak' at *
      obtain ⟨w, hw⟩ := Int.dvd_of_emod_eq_zero h2
      refine fin a a' ⟨(l1 - b * l3) * v - ak * (d - b) - b * ak', ?_⟩ ⟨w - a * ak', ?_⟩ ⟨- ak', ?_⟩
      · exact pp1 hv ha ha'
      · exact pp2 ha' hw
      · exact pp4 ha'
    · cases e
  · rename_i hne
    have hbd : b = d := by
      by_cases q : b = d
      · exact q
      · exact absurd q hne
    split at e
    · rename_i h1
      split at e
      · rename_i a ha
        cases e
        have h2 := List.find?_some ha
        have h2' : ((a : Int) * (l3 - a) + b + d - l2) % p = 0 := by simpa using h2
        obtain ⟨w, hw⟩ := Int.dvd_of_emod_eq_zero h2'
        obtain ⟨w1, hw1⟩ := Int.dvd_of_emod_eq_zero h1
        have ha' := Int.emod_add_mul_ediv (l3 - (a : Int)) p
        generalize (l3 - (a : Int)) % p = a' at *
        generalize (l3 - (a : Int)) / p = ak' at *
        refine fin a a' ⟨- w1 - b * ak', ?_⟩ ⟨w - a * ak', ?_⟩ ⟨- ak', ?_⟩
        · exact pp3 hbd hw1 ha'
        · exact pp2 ha' hw
        · exact pp4 ha'
      · cases e
    · cases e
end RH
namespace RH
theorem five_eq {f : List Int} (h : f.length = 5) (m : Mon f) : f = [f.getD 0 0, f.getD 1 0, f.getD 2 0, f.getD 3 0, 1] := by
  match f, h with
  | [a, b, c, d, e], _ =>
    have : e = 1 := by simpa [Mon] using m
    subst this
    rfl
theorem noRoot_left {p : Int} {f g : List Int} {h : Int → Int} (n : NoRoot p f) (e : Eqv p (ev f) (fun x => ev g x * h x)) : NoRoot p g := fun z h0 h1 q => by
  apply n z h0 h1
  rw [modAt_zero_of e]
  rw [modAt_ev] at q
  rw [Int.mul_emod, q]
  simp
theorem noRoot_right {p : Int} {f g : List Int} {h : Int → Int} (n : NoRoot p f) (e : Eqv p (ev f) (fun x => h x * ev g x)) : NoRoot p g :=
  noRoot_left n (e.trans (Eqv.of_eq fun x => Int.mul_comm _ _))
theorem mon3 (a b : Int) : Mon [a, b, 1] := rfl
theorem code3 (a b c : Int) : code [a, b, c] = (a * 256 + b) * 256 + c := by simp [code]
theorem lex3 {p a b d e : Int} (hp : p ≤ 256) (r1 : Red p [a, b, 1]) (r2 : Red p [d, e, 1]) (ne : ([a, b, 1] : List Int) ≠ [d, e, 1]) (h : code [a, b, 1] ≤ code [d, e, 1]) : lexLt [a, b, 1] [d, e, 1] := by
  rw [code3, code3] at h
  have h1 := r1 b (by simp)
  have h2 := r2 e (by simp)
  have h3 := r1 a (by simp)
  have h4 := r2 d (by simp)
  by_cases q : a = d
  · subst q
    by_cases q2 : b = e
    · subst q2; exact absurd rfl ne
    · exact .inr ⟨rfl, .inl (by omega)⟩
  · exact .inl (by omega)
/-- the last parts -/
structure TailOk (p : Int) (f : List Int) (t : List (List Int × Int)) : Prop where
  ok : ∀ a ∈ t, PartOk p a
  three : ∀ a ∈ t, 3 ≤ a.1.length
  sorted : t.Pairwise fun a b => partLt a.1 b.1
  prod : Eqv p (prodP t) (ev f)
  ne : t ≠ []
theorem one_pow_ev (g : List Int) (x : Int) : ev g x ^ (1 : Int).toNat = ev g x := by
  show ev g x ^ 1 = ev g x
  grind
theorem rootless_ok {p : Int} (P : Pr p) (hp2 : p ≤ 256) {f : List Int} (hr : Red p f) (m : Mon f) (h3 : 3 ≤ f.length) (h5 : f.length ≤ 5) (n : NoRoot p f) : TailOk p f (rootlessF p f) := by
  have hp := P.1
  have self : (f.length < 5 ∨ ∀ b : Int, 1 ≤ b → b < p → candA (f.getD 0 0) (f.getD 1 0) (f.getD 2 0) (f.getD 3 0) p b = none) → TailOk p f [(f, 1)] := fun h => by
    refine ⟨fun a ha => ?_, fun a ha => ?_, List.pairwise_singleton _ _, Eqv.of_eq fun x => by rw [prodP, prodP, one_pow_ev, Int.mul_one], by simp⟩
    · have e := List.mem_singleton.mp ha
      subst e
      exact ⟨hr, m, by show 2 ≤ f.length; omega, h5, by show (1 : Int) ≤ 1; decide, by show (1 : Int) ≤ 4; decide, .inr ⟨n, h⟩⟩
    · have e := List.mem_singleton.mp ha
      subst e
      exact h3
  unfold rootlessF
  by_cases h : f.length = 5
  · rw [if_pos h]
    cases q : pairF p f with
    | none =>
      refine self (.inr fun b hb1 hb2 => ?_)
      have q' := List.findSome?_eq_none_iff.mp q (b - 1).toNat (List.mem_range.mpr (by omega))
      have e : 1 + (((b - 1).toNat : Nat) : Int) = b := by omega
      rw [e] at q'
      exact q'
    | some gh =>
      obtain ⟨g, k⟩ := gh
      obtain ⟨i, hi, e⟩ := List.exists_of_findSome?_eq_some q
      have hi' := List.mem_range.mp hi
      have hb : 1 ≤ 1 + (i : Int) ∧ 1 + (i : Int) < p := by omega
      obtain ⟨a, d, a', rfl, rfl, r1, r2⟩ := pair_range hp hb e
      have pr := pair_prod P hb e
      rw [← five_eq h m] at pr
      generalize 1 + (i : Int) = b at *
      have n1 := noRoot_left n pr
      have n2 := noRoot_right n pr
      have ok : ∀ (x y o : Int), Red p [x, y, 1] → NoRoot p [x, y, 1] → 1 ≤ o → o ≤ 4 → PartOk p ([x, y, 1], o) := fun x y o r nr o1 o4 =>
        ⟨r, rfl, by show 2 ≤ 3; decide, by show 3 ≤ 5; decide, o1, o4, .inr ⟨nr, .inl (by show 3 < 5; decide)⟩⟩
      dsimp only
      split
      · rename_i eq
        refine ⟨fun c hc => ?_, fun c hc => ?_, List.pairwise_singleton _ _, ?_, by simp⟩
        · have e := List.mem_singleton.mp hc
          subst e
          exact ok _ _ _ r1 n1 (by decide) (by decide)
        · have e := List.mem_singleton.mp hc
          subst e
          show 3 ≤ 3; decide
        · refine Eqv.trans (Eqv.of_eq fun x => ?_) pr.symm
          rw [← eq]
          show ev [b, a, 1] x ^ 2 * 1 = _
          grind
      · rename_i ne
        split
        · rename_i le
          refine ⟨fun c hc => ?_, fun c hc => ?_, ?_, ?_, by simp⟩
          · simp only [List.mem_cons, List.not_mem_nil, or_false] at hc
            rcases hc with e | e <;> subst e
            · exact ok _ _ _ r1 n1 (by decide) (by decide)
            · exact ok _ _ _ r2 n2 (by decide) (by decide)
          · simp only [List.mem_cons, List.not_mem_nil, or_false] at hc
            rcases hc with e | e <;> subst e <;> (show 3 ≤ 3; decide)
          · exact List.pairwise_pair.mpr (.inr ⟨rfl, lex3 hp2 r1 r2 ne le⟩)
          · refine Eqv.trans (Eqv.of_eq fun x => ?_) pr.symm
            simp only [prodP, one_pow_ev]
            grind
        · rename_i le
          refine ⟨fun c hc => ?_, fun c hc => ?_, ?_, ?_, by simp⟩
          · simp only [List.mem_cons, List.not_mem_nil, or_false] at hc
            rcases hc with e | e <;> subst e
            · exact ok _ _ _ r2 n2 (by decide) (by decide)
            · exact ok _ _ _ r1 n1 (by decide) (by decide)
          · simp only [List.mem_cons, List.not_mem_nil, or_false] at hc
            rcases hc with e | e <;> subst e <;> (show 3 ≤ 3; decide)
          · exact List.pairwise_pair.mpr (.inr ⟨rfl, lex3 hp2 r2 r1 (fun e => ne e.symm) (by omega)⟩)
          · refine Eqv.trans (Eqv.of_eq fun x => ?_) pr.symm
            simp only [prodP, one_pow_ev]
            grind
  · rw [if_neg h]
    exact self (.inl (by omega))
theorem sum_ge : ∀ {l : List Int}, (∀ a ∈ l, 1 ≤ a) → (0 ≤ l.sum) ∧ ∀ a ∈ l, a ≤ l.sum
  | [], _ => ⟨by simp, fun a h => absurd h List.not_mem_nil⟩
  | x :: r, h => by
    have ih := sum_ge (l := r) fun a ha => h a (List.mem_cons_of_mem _ ha)
    have hx := h x List.mem_cons_self
    rw [List.sum_cons]
    refine ⟨by omega, fun a ha => ?_⟩
    rcases List.mem_cons.mp ha with e | e
    · omega
    · have := ih.2 a e
      omega
/-- THE PLAIN LAW: the split is good -/
theorem split_good {p : Int} (P : Pr p) (hp2 : p ≤ 256) {f : List Int} (hr : Red p f) (m : Mon f) (h2 : 2 ≤ f.length) (h5 : f.length ≤ 5) : Good p f (splitF p f) := by
  have hp := P.1
  have L := lin_ok hp hr m p.toNat (by omega)
  unfold splitF
  generalize lin p f p.toNat = s at L
  have pm : ∀ a ∈ s.2, 1 ≤ a.2 := fun a ha => by
    obtain ⟨l, _, _, h⟩ := L.parts a ha
    exact h
  have sg := sum_ge (l := s.2.map (·.2)) fun a ha => by
    obtain ⟨b, hb, rfl⟩ := List.mem_map.mp ha
    exact pm b hb
  have hd := L.deg
  have hm1 := L.mon.len
  have lp : ∀ a ∈ s.2, PartOk p a := fun a ha => by
    obtain ⟨l, h1, h2', h3⟩ := L.parts a ha
    have ho := sg.2 a.2 (List.mem_map.mpr ⟨a, ha, rfl⟩)
    refine ⟨?_, ?_, by rw [h2']; exact Nat.le_refl 2, by rw [h2']; show 2 ≤ 5; decide, h3, by omega, .inl (by rw [h2']; rfl)⟩
    · rw [h2']
      intro c hc
      simp only [List.mem_cons, List.not_mem_nil, or_false] at hc
      rcases hc with e | e <;> rw [e] <;> omega
    · rw [h2']; rfl
  dsimp only
  by_cases h1 : s.1.length > 1
  · rw [if_pos h1]
    have n := lin_noroot hp L h1
    have h3 : 3 ≤ s.1.length := by
      by_cases q : s.1.length = 2
      · exfalso
        match hs : s.1, q with
        | [a, b], _ =>
          have hb : b = 1 := by
            have := L.mon
            rw [hs] at this
            simpa [Mon] using this
          subst hb
          rw [hs] at n
          have hz : 0 ≤ (-a) % p ∧ (-a) % p < p := ⟨Int.emod_nonneg _ (by omega), Int.emod_lt_of_pos _ (by omega)⟩
          apply n _ hz.1 hz.2
          rw [modAt_mod, modAt_ev]
          have e0 : ev [a, 1] (-a) = 0 := by
            simp only [ev]
            omega
          rw [e0]
          simp
      · omega
    have T := rootless_ok P hp2 L.red L.mon h3 (by omega) n
    refine ⟨fun a ha => ?_, ?_, ?_, ?_⟩
    · rcases List.mem_append.mp ha with q | q
      · exact lp a q
      · exact T.ok a q
    · rw [List.pairwise_append]
      refine ⟨L.sorted, T.sorted, fun a ha b hb => .inl ?_⟩
      obtain ⟨l, _, e, _⟩ := L.parts a ha
      have := T.three b hb
      rw [e]
      show 2 < _
      omega
    · refine Eqv.trans (Eqv.of_eq fun x => prodP_append _ _ x) (Eqv.trans ?_ L.prod)
      exact (Eqv.refl p _).mul T.prod (isP_prod _) (IsP.ev _)
    · intro e
      exact T.ne (List.append_eq_nil_iff.mp e).2
  · rw [if_neg h1]
    have e1 : s.1 = [1] := by
      have hl : s.1.length = 1 := by omega
      match hs : s.1, hl with
      | [a], _ =>
        have := L.mon
        rw [hs] at this
        have : a = 1 := by simpa [Mon] using this
        rw [this]
    refine ⟨lp, L.sorted, ?_, ?_⟩
    · refine Eqv.trans (Eqv.of_eq fun x => ?_) L.prod
      rw [e1]
      simp [ev]
    · intro e
      rw [e, e1] at hd
      simp at hd
      omega
end RH
namespace RH
def primes : List Int := [2, 3, 5, 7, 11, 13, 17, 19, 23, 29, 31, 37, 41, 43, 47, 53, 59, 61, 67, 71, 73, 79, 83, 89, 97, 101, 103, 107, 109, 113, 127, 131, 137, 139, 149, 151, 157, 163, 167, 173, 179, 181, 191, 193, 197, 199]
def prB (p : Int) : Bool := decide (1 < p) && decide (p ≤ 199) && (List.range p.toNat).all fun d => decide (d ≤ 1) || decide (p % (d : Int) ≠ 0)
theorem primes_B : primes.all prB = true := by decide +kernel
theorem primes_ok {p : Int} (h : p ∈ primes) : Pr p ∧ p ≤ 199 := by
  have hb := List.all_eq_true.mp primes_B p h
  unfold prB at hb
  simp only [Bool.and_eq_true, decide_eq_true_eq, List.all_eq_true, Bool.or_eq_true] at hb
  obtain ⟨⟨h1, h2⟩, h3⟩ := hb
  refine ⟨⟨h1, fun d hd hdv => ?_⟩, h2⟩
  have hle := Int.le_of_dvd (by omega) hdv
  by_cases e : d = p
  · exact .inr e
  · left
    have := h3 d.toNat (List.mem_range.mpr (by omega))
    rcases this with q | q
    · omega
    · exfalso
      apply q
      rw [Int.toNat_of_nonneg (by omega)]
      exact Int.emod_eq_zero_of_dvd hdv
theorem len_le_sum : ∀ {l : List (List Int × Int)}, (∀ a ∈ l, 1 ≤ a.2) → (l.length : Int) ≤ (l.map (·.2)).sum
  | [], _ => by simp
  | x :: r, h => by
    have ih := len_le_sum (l := r) fun a ha => h a (List.mem_cons_of_mem _ ha)
    have hx := h x List.mem_cons_self
    rw [List.map_cons, List.sum_cons, List.length_cons]
    omega
theorem lin_len {p : Int} {f : List Int} {n : Nat} {s : List Int × List (List Int × Int)} (L : LinOk p f n s) : s.2.length + s.1.length ≤ f.length := by
  have h := len_le_sum (l := s.2) fun a ha => by
    obtain ⟨l, _, _, h⟩ := L.parts a ha
    exact h
  have := L.deg
  omega
theorem rootless_len (p : Int) (f : List Int) : (rootlessF p f).length ≤ 2 := by
  unfold rootlessF
  split
  · show 1 ≤ 2; decide
  · split
    · show 1 ≤ 2; decide
    · split <;> (show 2 ≤ 2; decide)
def staysF (parts : List (List Int × Int)) : Bool := match parts with
  | [a] => decide (a.2 = 1)
  | _ => false
end RH
namespace RH
open PySem PySem.Spec PyProof.Rows L2
def topS (i : Nat) : Stmt := PySem.Challenge.pw_ringhouse_k10_whole_split.main.body.getD i (.Pass ⟨0, 0, 0, 0⟩)
abbrev sCut : Stmt := topS 4
abbrev sTurned : Stmt := topS 7
abbrev sModPoly : Stmt := topS 9
abbrev sModParted : Stmt := topS 10
abbrev sModAt : Stmt := topS 11
abbrev sPairOf : Stmt := topS 13
abbrev sRootless : Stmt := topS 14
abbrev sSplitBy : Stmt := topS 15
abbrev sStays : Stmt := topS 16
abbrev sLawMixed : Stmt := topS 18
abbrev sLawDraws : Stmt := topS 19
abbrev sLawCell : Stmt := topS 20
abbrev sLawModPlaces : Stmt := topS 21
abbrev sLawCut : Stmt := topS 22
abbrev sLawModTimes : Stmt := topS 23
abbrev sLawWhole : Stmt := topS 24
abbrev sLawIsPoly : Stmt := topS 25
abbrev sLawIsMod : Stmt := topS 26
abbrev sLawModValue : Stmt := topS 27
abbrev sLawModStays : Stmt := topS 28
abbrev sLawPrimes : Stmt := topS 29
abbrev sLawPrime : Stmt := topS 30
abbrev sLawWritten : Stmt := topS 31
abbrev sLawPlacesOf : Stmt := topS 32
abbrev sLawRight : Stmt := topS 33
abbrev sLaw : Stmt := topS 34
abbrev NCut : List Str := ["row", "many"]
theorem scCut : FnScope NCut ["row"] (defScope sCut) := ⟨rfl, rfl, rfl, by decide +kernel, rfl, by decide +kernel, by decide +kernel⟩
abbrev NTurned : List Str := ["a", "p", "one", "two", "first", "second", "part"]
theorem scTurned : FnScope NTurned ["a", "p"] (defScope sTurned) := ⟨rfl, rfl, rfl, by decide +kernel, rfl, by decide +kernel, by decide +kernel⟩
abbrev NModPoly : List Str := ["row", "p", "place"]
theorem scModPoly : FnScope NModPoly ["row", "p"] (defScope sModPoly) := ⟨rfl, rfl, rfl, by decide +kernel, rfl, by decide +kernel, by decide +kernel⟩
abbrev NModParted : List Str := ["a", "b", "p", "left", "by", "degree", "back", "quotient", "at", "part", "j"]
theorem scModParted : FnScope NModParted ["a", "b", "p"] (defScope sModParted) := ⟨rfl, rfl, rfl, by decide +kernel, rfl, by decide +kernel, by decide +kernel⟩
abbrev NModAt : List Str := ["f", "x", "p", "value", "place"]
theorem scModAt : FnScope NModAt ["f", "x", "p"] (defScope sModAt) := ⟨rfl, rfl, rfl, by decide +kernel, rfl, by decide +kernel, by decide +kernel⟩
abbrev NPairOf : List Str := ["left", "p", "low", "one", "two", "three", "b", "d", "a"]
theorem scPairOf : FnScope NPairOf ["left", "p"] (defScope sPairOf) := ⟨rfl, rfl, rfl, by decide +kernel, rfl, by decide +kernel, by decide +kernel⟩
abbrev NRootless : List Str := ["left", "p", "pair", "g"]
theorem scRootless : FnScope NRootless ["left", "p"] (defScope sRootless) := ⟨rfl, rfl, rfl, by decide +kernel, rfl, by decide +kernel, by decide +kernel⟩
abbrev NSplitBy : List Str := ["poly", "p", "left", "parts", "low", "often"]
theorem scSplitBy : FnScope NSplitBy ["poly", "p"] (defScope sSplitBy) := ⟨rfl, rfl, rfl, by decide +kernel, rfl, by decide +kernel, by decide +kernel⟩
abbrev NStays : List Str := ["poly", "p", "parts"]
theorem scStays : FnScope NStays ["poly", "p"] (defScope sStays) := ⟨rfl, rfl, rfl, by decide +kernel, rfl, by decide +kernel, by decide +kernel⟩
abbrev NLawMixed : List Str := ["_law_cell_here", "_law_k", "_law_prime_here", "_law_far"]
theorem scLawMixed : FnScope NLawMixed ["_law_cell_here", "_law_k", "_law_prime_here"] (defScope sLawMixed) := ⟨rfl, rfl, rfl, by decide +kernel, rfl, by decide +kernel, by decide +kernel⟩
abbrev NLawDraws : List Str := ["_law_cell_here", "_law_widths", "_law_prime_here", "_law_left", "_law_found", "_law_k"]
theorem scLawDraws : FnScope NLawDraws ["_law_cell_here", "_law_widths", "_law_prime_here"] (defScope sLawDraws) := ⟨rfl, rfl, rfl, by decide +kernel, rfl, by decide +kernel, by decide +kernel⟩
abbrev NLawCell : List Str := ["_law_script", "_law_k"]
theorem scLawCell : FnScope NLawCell ["_law_script", "_law_k"] (defScope sLawCell) := ⟨rfl, rfl, rfl, by decide +kernel, rfl, by decide +kernel, by decide +kernel⟩
abbrev NLawModPlaces : List Str := ["_law_cell_here", "_law_many", "_law_p", "_law_prime_here"]
theorem scLawModPlaces : FnScope NLawModPlaces ["_law_cell_here", "_law_many", "_law_p", "_law_prime_here"] (defScope sLawModPlaces) := ⟨rfl, rfl, rfl, by decide +kernel, rfl, by decide +kernel, by decide +kernel⟩
abbrev NLawCut : List Str := ["_law_row", "_law_many"]
theorem scLawCut : FnScope NLawCut ["_law_row"] (defScope sLawCut) := ⟨rfl, rfl, rfl, by decide +kernel, rfl, by decide +kernel, by decide +kernel⟩
abbrev NLawModTimes : List Str := ["_law_f", "_law_g", "_law_p", "_law_raw", "_law_i", "_law_j"]
theorem scLawModTimes : FnScope NLawModTimes ["_law_f", "_law_g", "_law_p"] (defScope sLawModTimes) := ⟨rfl, rfl, rfl, by decide +kernel, rfl, by decide +kernel, by decide +kernel⟩
abbrev NLawWhole : List Str := ["_law_found"]
theorem scLawWhole : FnScope NLawWhole ["_law_found"] (defScope sLawWhole) := ⟨rfl, rfl, rfl, by decide +kernel, rfl, by decide +kernel, by decide +kernel⟩
abbrev NLawIsPoly : List Str := ["_law_found", "_law_place"]
theorem scLawIsPoly : FnScope NLawIsPoly ["_law_found"] (defScope sLawIsPoly) := ⟨rfl, rfl, rfl, by decide +kernel, rfl, by decide +kernel, by decide +kernel⟩
abbrev NLawIsMod : List Str := ["_law_found", "_law_p", "_law_place"]
theorem scLawIsMod : FnScope NLawIsMod ["_law_found", "_law_p"] (defScope sLawIsMod) := ⟨rfl, rfl, rfl, by decide +kernel, rfl, by decide +kernel, by decide +kernel⟩
abbrev NLawModValue : List Str := ["_law_f", "_law_z", "_law_p", "_law_total", "_law_place"]
theorem scLawModValue : FnScope NLawModValue ["_law_f", "_law_z", "_law_p"] (defScope sLawModValue) := ⟨rfl, rfl, rfl, by decide +kernel, rfl, by decide +kernel, by decide +kernel⟩
abbrev NLawModStays : List Str := ["_law_g", "_law_p", "_law_back", "_law_k", "_law_b", "_law_d", "_law_turn", "_law_z", "_law_a"]
theorem scLawModStays : FnScope NLawModStays ["_law_g", "_law_p"] (defScope sLawModStays) := ⟨rfl, rfl, rfl, by decide +kernel, rfl, by decide +kernel, by decide +kernel⟩
abbrev NLawPrimes : List Str := ["_law_n", "_law_d"]
theorem scLawPrimes : FnScope NLawPrimes [] (defScope sLawPrimes) := ⟨rfl, rfl, rfl, by decide +kernel, rfl, by decide +kernel, by decide +kernel⟩
abbrev NLawPrime : List Str := ["_law_cell_here", "_law_prime_here", "_law_found"]
theorem scLawPrime : FnScope NLawPrime ["_law_cell_here", "_law_prime_here"] (defScope sLawPrime) := ⟨rfl, rfl, rfl, by decide +kernel, rfl, by decide +kernel, by decide +kernel⟩
abbrev NLawWritten : List Str := ["_law_places", "_law_p", "_law_cell_here", "_law_prime_here", "_law_found", "_law_far", "_law_place", "_law_more"]
theorem scLawWritten : FnScope NLawWritten ["_law_places", "_law_p", "_law_cell_here", "_law_prime_here"] (defScope sLawWritten) := ⟨rfl, rfl, rfl, by decide +kernel, rfl, by decide +kernel, by decide +kernel⟩
abbrev NLawPlacesOf : List Str := ["_law_script", "_law_degree", "_law_p", "_law_way", "_law_first", "_law_g", "_law_goes", "_law_left", "_law_raw", "_law_again"]
theorem scLawPlacesOf : FnScope NLawPlacesOf ["_law_script", "_law_degree", "_law_p"] (defScope sLawPlacesOf) := ⟨rfl, rfl, rfl, by decide +kernel, rfl, by decide +kernel, by decide +kernel⟩
abbrev NLawRight : List Str := ["_law_found", "_law_raw", "_law_p", "_law_far", "_law_last", "_law_row", "_law_again"]
theorem scLawRight : FnScope NLawRight ["_law_found", "_law_raw", "_law_p"] (defScope sLawRight) := ⟨rfl, rfl, rfl, by decide +kernel, rfl, by decide +kernel, by decide +kernel⟩
abbrev NLaw : List Str := ["_law_script", "_law_p", "_law_degree", "_law_raw", "_law_poly", "_law_found", "_law_told"]
theorem scLaw : FnScope NLaw ["_law_script"] (defScope sLaw) := ⟨rfl, rfl, rfl, by decide +kernel, rfl, by decide +kernel, by decide +kernel⟩
/-! ### judgements -/
open Evl (Ev EvL EvU EvT EvA EvO Ex ev_c ev_var ev_op ev_un ea_nil ea_cons)
def EvP (te : TE) (σ : L2.St) (H : Hp) (P : V → Hp → Prop) : Prop := ∀ H1, Ex H H1 → ∀ Q : VK, (∀ v H2, Ex H1 H2 → P v H2 → Q v H2) → te σ H1 Q
section
variable {K : PySem.W.Frag} {σ : L2.St} {H H' : Hp} {ta tb te tx : TE} {x y z v : V} {r : R2} {D : Ends} {tu tw tz : TS}
theorem EvP.mono {P : V → Hp → Prop} (e : Ex H H') (h : EvP te σ H P) : EvP te σ H' P := fun H1 a Q q => h H1 (e.trans a) Q q
theorem ep_ev (h : Ev te σ H v) : EvP te σ H (fun x _ => x = v) := fun H1 e Q q => h H1 e Q fun H2 e2 => q v H2 e2 rfl
theorem ev_ep (h : EvP te σ H (fun x _ => x = v)) : Ev te σ H v := fun H1 e Q q => h H1 e Q fun x H2 e2 hx => by
  subst hx
  exact q H2 e2
theorem q_asgP {i : Nat} {P : V → Hp → Prop} (h : EvP te σ H P) (k : ∀ v H1, Ex H H1 → P v H1 → tz D (σ.set i (some v)) H1) : tSeq (tAsg te (gName i)) tz D σ H := h H (Ex.refl H) _ fun v H1 e p => k v H1 e p
theorem s_asgP {i : Nat} {P : V → Hp → Prop} (h : EvP te σ H P) (k : ∀ v H1, Ex H H1 → P v H1 → D.nx (σ.set i (some v)) H1) : tAsg te (gName i) D σ H := h H (Ex.refl H) _ fun v H1 e p => k v H1 e p
theorem s_retP {P : V → Hp → Prop} (h : EvP te σ H P) (k : ∀ v H1, Ex H H1 → P v H1 → D.rt v H1) : tRet te D σ H := h H (Ex.refl H) _ fun v H1 e p => k v H1 e p
/-- a tuple, new; a promise that hands back a new tuple -/
def RetU (xs : List V) (H : Hp) (Q : VK) : Prop := ∀ p H2, H p = none → Ex H H2 → H2 p = some (.tup xs) → Q (.ref p) H2
theorem RetU.go {xs : List V} {Q : VK} (k : RetU xs H Q) (e : Ex H H') {p : Addr} {H2 : Hp} (hp : H' p = none) (e2 : Ex H' H2) (h : H2 p = some (.tup xs)) : Q (.ref p) H2 := k p H2 (Evl.fresh_back e hp) (e.trans e2) h
/-- tuple(a new list) -/
theorem eu_tupL {xs : List V} (h : EvL te σ H xs) : EvU (tCB (fun xs H Q => ∃ p ys, xs = [V.ref p] ∧ ((SqL K H p ys ∧ ∀ l, H l = none → Q (.ref l) (upd H l (.tup ys))) ∨ (SqT K H p ys ∧ Q (.ref p) H))) (tCons te tNil)) σ H xs := fun H1 e Q q =>
  h H1 e _ fun p H2 hp e2 h2 => ⟨p, xs, rfl, .inl ⟨Evl.sq_of h2, fun l hl => q l _ (Evl.fresh_back e2 hl) (e2.trans (Ex.new hl)) upd_same⟩⟩
/-- list(a tuple) -/
theorem el_listT {a : Addr} {xs : List V} (h : Ev te σ H (.ref a)) (hs : SqT K H a xs) : EvL (tCB (fun xs H Q => ∃ p ys, xs = [V.ref p] ∧ (SqL K H p ys ∨ SqT K H p ys) ∧ ∀ l, H l = none → Q (.ref l) (upd H l (.lst ys))) (tCons te tNil)) σ H xs := fun H1 e Q q =>
  h H1 e _ fun H2 e2 => ⟨a, xs, rfl, .inr (Evl.ex_t (e.trans e2) hs), fun l hl => q l _ (Evl.fresh_back e2 hl) (e2.trans (Ex.new hl)) upd_same⟩
theorem el_listU {xs : List V} (h : EvU te σ H xs) : EvL (tCB (fun xs H Q => ∃ p ys, xs = [V.ref p] ∧ (SqL K H p ys ∨ SqT K H p ys) ∧ ∀ l, H l = none → Q (.ref l) (upd H l (.lst ys))) (tCons te tNil)) σ H xs := fun H1 e Q q =>
  h H1 e _ fun p H2 hp e2 h2 => ⟨p, xs, rfl, .inr (Evl.st_of h2), fun l hl => q l _ (Evl.fresh_back e2 hl) (e2.trans (Ex.new hl)) upd_same⟩
/-- len -/
def rLen (K : PySem.W.Frag) : List V → Hp → VK → Prop := fun xs H Q => ∃ p ys, xs = [.ref p] ∧ (SqL K H p ys ∨ SqT K H p ys) ∧ Q (.int ys.length) H
theorem call_len' {X : Cx} : CallR X (.builtin "len") (rLen X.K) := call_len_seq
theorem ev_lenL {p : Addr} {xs : List V} (ha : Ev ta σ H (.ref p)) (h : SqL K H p xs) : Ev (tCB (rLen K) (tCons ta tNil)) σ H (.int (xs.length : Int)) := fun H1 e Q q =>
  ha H1 e _ fun H2 e2 => ⟨p, xs, rfl, Or.inl (Evl.ex_l (e.trans e2) h), q H2 e2⟩
theorem ev_lenT {p : Addr} {xs : List V} (ha : Ev ta σ H (.ref p)) (h : SqT K H p xs) : Ev (tCB (rLen K) (tCons ta tNil)) σ H (.int (xs.length : Int)) := fun H1 e Q q =>
  ha H1 e _ fun H2 e2 => ⟨p, xs, rfl, Or.inr (Evl.ex_t (e.trans e2) h), q H2 e2⟩
theorem int_eq (i j : Int) : decide (V.int i = V.int j) = decide (i = j) := by
  by_cases h : i = j
  · rw [h, decide_eq_true rfl, decide_eq_true rfl]
  · rw [decide_eq_false h, decide_eq_false fun e => h (V.int.inj e)]
theorem rv_eqI {i j : Int} : Evl.RV rEq (.int i) (.int j) H (.bl (decide (i = j))) := by
  rw [← int_eq]
  exact Evl.rv_eq rfl
theorem rv_neI {i j : Int} : Evl.RV rNe (.int i) (.int j) H (.bl (!decide (i = j))) := by
  rw [← int_eq]
  exact Evl.rv_ne rfl
theorem atI_ints {ns : List Int} {j : Nat} (h : j < ns.length) : atI (ns.map V.int) (j : Int) = some (.int (ns.getD j 0)) := by
  apply atI_nat
  rw [List.getElem?_map, List.getD_eq_getElem?_getD, List.getElem?_eq_getElem h]
  rfl
/-- the value where the goal's own differs only by an equation -/
theorem ev_to {w : V} (e : v = w) (h : Ev te σ H v) : Ev te σ H w := e ▸ h
theorem et_to {t : TT} {a b : Bool} (e : a = b) (h : EvT t σ H a) : EvT t σ H b := e ▸ h
end
section
variable {K : PySem.W.Frag} {σ : L2.St} {H H' : Hp} {ta tb te tx : TE} {x y z v : V} {r : R2} {D : Ends} {tu tw tz : TS}
theorem q_par {i j : Nat} {ta : TA} {a b : V} (h : EvA ta σ H [a, b]) (k : ∀ H1, Ex H H1 → tz D ((σ.set i (some a)).set j (some b)) H1) : tSeq (tPar i j ta) tz D σ H :=
  h H (Ex.refl H) _ fun H1 e => ⟨a, b, rfl, k H1 e⟩
theorem s_par {i j : Nat} {ta : TA} {a b : V} (h : EvA ta σ H [a, b]) (k : ∀ H1, Ex H H1 → D.nx ((σ.set i (some a)).set j (some b)) H1) : tPar i j ta D σ H :=
  h H (Ex.refl H) _ fun H1 e => ⟨a, b, rfl, k H1 e⟩
/-- calls that hand back a new tuple -/
def SpU (sp : Sp) (vs : List V) (H : Hp) (xs : List V) : Prop := ∀ H1, Ex H H1 → ∀ Q : VK, RetU xs H1 Q → ∀ E : XK, sp vs H1 Q E
theorem eu_call {sp : Sp} {dvs vs xs : List V} {E : XK} {ta : TA} (h : EvA ta σ H vs) (hs : SpU sp (vs ++ dvs) H xs) : EvU (tCall sp dvs E ta) σ H xs := fun H1 e Q q =>
  h H1 e _ fun H2 e2 => hs H2 (e.trans e2) Q (fun p H3 hp e3 h3 => q p H3 (Evl.fresh_back e2 hp) (e2.trans e3) h3) E
/-- .. the one argument a new list -/
theorem eu_callL {sp : Sp} {xs ys : List V} {E : XK} (h : EvL te σ H xs) (hs : ∀ p H1, H1 p = some (.lst xs) → Ex H H1 → SpU sp [.ref p] H1 ys) : EvU (tCall sp [] E (tCons te tNil)) σ H ys := fun H1 e Q q =>
  h H1 e _ fun p H2 _ e2 h2 => hs p H2 h2 (e.trans e2) H2 (Ex.refl H2) Q (fun p' H3 hp e3 h3 => q p' H3 (Evl.fresh_back e2 hp) (e2.trans e3) h3) E
/-- what a call promises, any word of the value -/
def SpP (sp : Sp) (vs : List V) (H : Hp) (P : V → Hp → Prop) : Prop := ∀ H1, Ex H H1 → ∀ Q : VK, (∀ v H2, Ex H1 H2 → P v H2 → Q v H2) → ∀ E : XK, sp vs H1 Q E
theorem ep_call {sp : Sp} {dvs vs : List V} {E : XK} {ta : TA} {P : V → Hp → Prop} (h : EvA ta σ H vs) (hs : SpP sp (vs ++ dvs) H P) : EvP (tCall sp dvs E ta) σ H P := fun H1 e Q q =>
  h H1 e _ fun H2 e2 => hs H2 (e.trans e2) Q (fun v H3 e3 h3 => q v H3 (e2.trans e3) h3) E
/-! ### comprehensions that keep every turn -/
def Lw (H : Hp) (ys : List V) (Dl : Addr) (i : Nat) (H' : Hp) : Prop := H Dl = none ∧ Ex H H' ∧ H' Dl = some (.lst (ys.take i))
theorem lw_turn {H H' : Hp} {ys : List V} {Dl : Addr} {i : Nat} {σ2 : L2.St} {y : V} (p : Lw H ys Dl i H') (hi : ys[i]? = some y) (hz : ys.length ≤ 40000) (he : Ev te σ2 H y) :
    tYes σ2 H' fun b H3 => if b = true then te σ2 H3 fun y H4 => ∃ acc, H4 Dl = some (.lst acc) ∧ acc.length < sizeLine ∧ Lw H ys Dl (i + 1) (upd H4 Dl (.lst (acc ++ [y]))) else Lw H ys Dl (i + 1) H3 := by
  obtain ⟨p1, p2, p3⟩ := p
  show te σ2 H' fun y H4 => ∃ acc, H4 Dl = some (.lst acc) ∧ acc.length < sizeLine ∧ Lw H ys Dl (i + 1) (upd H4 Dl (.lst (acc ++ [y])))
  have hl := (List.getElem?_eq_some_iff.mp hi).1
  refine he H' p2 _ fun H4 e4 => ⟨ys.take i, e4 Dl _ p3, Evl.sz_lt (by rw [List.length_take]; omega), p1, Ex.mut (p2.trans e4) p1, ?_⟩
  rw [upd_same, List.take_add_one, hi]
  rfl
theorem el_lcT {a : Addr} {xs ys : List V} {tl : TE} {j : Nat} {vs : List Nat} (h : Ev tl σ H (.ref a)) (hx : SqT K H a xs) (hl : ys.length = xs.length) (hz : xs.length ≤ 40000) (hw : ∀ x, wipe ((wipe σ vs).set j (some x)) vs = wipe σ vs)
    (he : ∀ (i : Nat) (x : V) H1, Ex H H1 → xs[i]? = some x → ∃ y, ys[i]? = some y ∧ Ev te ((wipe σ vs).set j (some x)) H1 y) :
    EvL (tLc (iTup K tl) (gName j) tYes te vs) σ H ys := fun H0 e Q q => h H0 e _ fun H1 e1 => ⟨a, rfl, ⟨xs, Evl.ex_t (e.trans e1) hx⟩, fun Dl hD =>
  lc_tup (xs := xs) (Lw H1 ys Dl) ⟨hD, Ex.new hD, by rw [upd_same]; rfl⟩ (fun i H' _ p => Evl.ex_t ((e.trans e1).trans p.2.1) hx) (fun i x H' hi p => ⟨hw x, by
      obtain ⟨y, hy, hev⟩ := he i x H1 (e.trans e1) hi
      exact lw_turn p hy (by omega) hev⟩)
    (fun H' p => q Dl H' (Evl.fresh_back e1 p.1) (e1.trans p.2.1) (by rw [← hl, Lw, List.take_length] at p; exact p.2.2))⟩
theorem el_lcR {ta : TA} {j : Nat} {ys : List V} {vs : List Nat} {n : Int} (h : EvA ta σ H [.int n]) (hn : 0 ≤ n ∧ n ≤ 40000) (hl : ys.length = n.toNat) (hw : ∀ x, wipe ((wipe σ vs).set j (some x)) vs = wipe σ vs)
    (he : ∀ (i : Nat) H1, Ex H H1 → (i : Int) < n → ∃ y, ys[i]? = some y ∧ Ev te ((wipe σ vs).set j (some (.int (i : Int)))) H1 y) :
    EvL (tLc (iRng1 ta) (gName j) tYes te vs) σ H ys := fun H0 e Q q => h H0 e _ fun H1 e1 => ⟨n, rfl, by omega, by omega, fun Dl hD =>
  lc_range (lo := 0) (n := n.toNat) (Lw H1 ys Dl) ⟨hD, Ex.new hD, by rw [upd_same]; rfl⟩ (fun i H' hi p => by
    have e0 : (0 : Int) + (i : Int) = (i : Int) := Int.zero_add _
    rw [e0]
    refine ⟨hw _, ?_⟩
    obtain ⟨y, hy, hev⟩ := he i H1 (e.trans e1) (by omega)
    exact lw_turn p hy (by omega) hev) (fun H' p => q Dl H' (Evl.fresh_back e1 p.1) (e1.trans p.2.1) (by rw [← hl, Lw, List.take_length] at p; exact p.2.2))⟩
/-! ### loops over reversed(a tuple) -/
theorem q_forRevT {a : Addr} {xs : List V} {tl : TE} {j : Nat} (h : Ev tl σ H (.ref a)) (hx : SqT K H a xs) (Pv : Nat → L2.St → Hp → Prop) (h0 : ∀ H1, Ex H H1 → Pv 0 σ H1) (hl : ∀ i σ' H', Pv i σ' H' → SqT K H' a xs)
    (hs : ∀ i x σ' H', i < xs.length → xs[xs.length - 1 - i]? = some x → Pv i σ' H' → tu { D with nx := Pv (i + 1), ct := Pv (i + 1), bk := tz D } (σ'.set j (some x)) H') (hd : ∀ σ' H', Pv xs.length σ' H' → tz D σ' H') : tSeq (tFor (RT.iRevA K tl) (gName j) tu) tz D σ H :=
  h H (Ex.refl H) _ fun H1 e => ⟨a, xs, rfl, .inr ⟨Evl.ex_t e hx, RT.for_ItvT (D := { D with nx := tz D }) Pv (h0 H1 e) hl hs hd⟩⟩
/-- a loop over range(a, b) of whole numbers with any target and any end of the turn -/
theorem q_forT {a : Addr} {xs : List V} {tl : TE} {g : TG} (h : Ev tl σ H (.ref a)) (hx : SqT K H a xs) (Pv : Nat → L2.St → Hp → Prop) (h0 : ∀ H1, Ex H H1 → Pv 0 σ H1) (hl : ∀ i σ' H', i ≤ xs.length → Pv i σ' H' → SqT K H' a xs)
    (hs : ∀ i x σ' H', xs[i]? = some x → Pv i σ' H' → g x σ' H' fun σ2 H2 => tu { D with nx := Pv (i + 1), ct := Pv (i + 1), bk := tz D } σ2 H2) (hd : ∀ σ' H', Pv xs.length σ' H' → tz D σ' H') : tSeq (tFor (iTup K tl) g tu) tz D σ H :=
  Evl.q_forT h hx Pv h0 hl hs hd
end
theorem map_take_int (ns : List Int) (n : Nat) : (ns.map V.int).take n = (ns.take n).map V.int := (List.map_take ..).symm
theorem ints_get {ns : List Int} {i : Nat} {x : V} (h : (ns.map V.int)[i]? = some x) : i < ns.length ∧ x = .int (ns.getD i 0) := by
  rw [List.getElem?_map] at h
  cases e : ns[i]? with
  | none => rw [e] at h; cases h
  | some y =>
    rw [e] at h
    cases h
    refine ⟨(List.getElem?_eq_some_iff.mp e).1, ?_⟩
    rw [List.getD_eq_getElem?_getD, e]
    rfl
theorem rv_to {r : R2} {x y z z' : V} {H : Hp} (e : z = z') (h : Evl.RV r x y H z) : Evl.RV r x y H z' := e ▸ h
theorem el_to {te : TE} {σ : L2.St} {H : Hp} {xs ys : List V} (e : xs = ys) (h : EvL te σ H xs) : EvL te σ H ys := e ▸ h
end RH
namespace RH
open PySem PySem.Spec PyProof.Rows L2
open Evl (Ev EvL EvU EvT EvA EvO Ex ev_c ev_var ev_op ev_un ea_nil ea_cons)
theorem cutL_take_succ (ns : List Int) (m : Nat) (h : m < ns.length) (z : ns.getD m 0 = 0) : cutL (ns.take (m + 1)) = cutL (ns.take m) := by
  rw [List.getD_eq_getElem?_getD, List.getElem?_eq_getElem h] at z
  rw [List.take_add_one, List.getElem?_eq_getElem h]
  show cutL (ns.take m ++ [ns[m]]) = _
  have z' : ns[m] = 0 := z
  rw [z', cutL_zero]
theorem cutL_take_stop (ns : List Int) (m : Nat) (h : m < ns.length) (z : ns.getD m 0 ≠ 0) : cutL (ns.take (m + 1)) = ns.take (m + 1) := by
  rw [List.getD_eq_getElem?_getD, List.getElem?_eq_getElem h] at z
  rw [List.take_add_one, List.getElem?_eq_getElem h]
  show cutL (ns.take m ++ [ns[m]]) = ns.take m ++ [ns[m]]
  apply cutL_of_cut
  intro c hc
  rw [List.getLast?_concat] at hc
  cases hc
  exact z
theorem cutV_take (xs : List V) (m : Nat) (h : m ≤ xs.length) : cutV xs none (some (m : Int)) = xs.take m := by
  unfold cutV
  rw [HT.sIx_none, HT.sIx_nat, Nat.min_eq_left h]
  simp
section
variable {P : Program} {w : World} {K : PySem.W.Frag} {mg : Str → Option Value} {base : Heap}
/-! ### cut -/
def spCut (K : PySem.W.Frag) : Sp := fun vs H Q _ => ∃ (a : Addr) (ns : List Int), vs = [.ref a] ∧ SqL K H a (ns.map V.int) ∧ ns.length ≤ 1000 ∧ RetU ((cutL ns).map V.int) H Q
theorem ok_cut {f : Addr} {fd : FuncData} {k : Nat} (F : Fun K "cut" "cut" sCut f fd) (ml : mg "len" = none) (mt : mg "tuple" = none) : FnOk P w K mg base CX0 (k + 1) f fd ["row"] (spCut K) := by
  refine F.ok scCut (fun vs H Q E h => ?_) (fun cdv A outer s H vs Q E hr h => ?_)
  · obtain ⟨a, ns, rfl, _⟩ := h
    rfl
  · obtain ⟨a, ns, rfl, hS, hlen, q⟩ := h
    refine ⟨_, pss_cons (ps_set (i := 1) scCut.nd rfl (.inl rfl) (pe_callB call_len' (by rfl) ml PySem.boot_len (pa_cons (pv 0) pa_nil)))
      (pss_cons (ps_while PassesOwn.never (PW.pt (pw_and (pt_cmpR op_gt (pv 1) pe_int (nomark _)) (pw_and1 (pt_cmpR op_eq (pe_ix ix_list (pv 0) (pe_op op_sub (pv 1) pe_int) (fun _ _ => rfl)) pe_int (nomark _)))))
          (pss_one (ps_set (i := 1) scCut.nd rfl (.inl rfl) (pe_op op_sub (pv 1) pe_int))))
      (pss_one (ps_ret (pe_callTy call_tuple_of (by rfl) mt boot_tuple (pa_cons (pe_slice sl_list (pv 0) po_none (po_some (pv 1))) pa_nil))))), ?_⟩
    refine Evl.q_asg (ev_lenL (ev_var rfl) hS) fun H1 e1 => ?_
    refine Evl.q_while (fun m σ' H' => ∃ n : Nat, m = n ∧ σ' = [some (.ref a), some (.int (n : Int))] ∧ n ≤ ns.length ∧ cutL (ns.take n) = cutL ns ∧ Ex H H') ns.length ⟨ns.length, rfl, by rw [List.length_map]; rfl, Nat.le_refl _, by rw [List.take_length], e1⟩ fun m σ' H' hW => ?_
    obtain ⟨n, rfl, rfl, hn, hc, e⟩ := hW
    have hS' := Evl.ex_l e hS
    refine ⟨decide (0 < m) && decide (ns.getD (m - 1) 0 = 0), Evl.et_and ?_ (fun h0 => ?_), fun hb H2 e2 => ?_, fun hb H2 e2 => ?_⟩
    · refine et_to ?_ (Evl.et_test (ev_op (ev_var rfl) ev_c Evl.rv_I0))
      exact decide_eq_decide.mpr (by omega)
    · have h1 : 0 < m := of_decide_eq_true h0
      have ei : ((m : Int) - 1) = ((m - 1 : Nat) : Int) := by omega
      refine Evl.et_test (ev_op (ev_op (ev_var rfl) (ev_op (ev_var rfl) ev_c Evl.rv_I0) (Evl.rv_ixL hS' (by rw [ei]; exact atI_ints (by omega)))) ev_c rv_eqI)
    · rw [Bool.and_eq_true, decide_eq_true_eq, decide_eq_true_eq] at hb
      refine ⟨_, fun σ2 H2' hN => hN, ?_⟩
      refine Evl.s_asg (ev_op (ev_var rfl) ev_c Evl.rv_I0) fun H3 e3 => ?_
      refine ⟨m - 1, by omega, m - 1, rfl, ?_, by omega, ?_, (e.trans e2).trans e3⟩
      · show [some (V.ref a), some (V.int ((m : Int) - 1))] = _
        rw [show ((m : Int) - 1) = ((m - 1 : Nat) : Int) by omega]
      · rw [← hc]
        have := cutL_take_succ ns (m - 1) (by omega) hb.2
        rw [show m - 1 + 1 = m by omega] at this
        exact this.symm
    · have hfin : cutL ns = ns.take m := by
        rw [← hc]
        by_cases h0 : m = 0
        · subst h0; rfl
        · have h1 : ns.getD (m - 1) 0 ≠ 0 := fun z => by
            rw [z] at hb
            simp at hb
            omega
          have := cutL_take_stop ns (m - 1) (by omega) h1
          rw [show m - 1 + 1 = m by omega] at this
          exact this
      refine Evl.s_retU (eu_tupL (Evl.el_sl (ev_var rfl) Evl.eo_none (Evl.eo_some (ev_var rfl)) (Evl.ex_l e2 hS'))) fun p H3 hp e3 h3 => ?_
      rw [cutV_take _ _ (by rw [List.length_map]; omega), ← List.map_take, ← hfin] at h3
      exact RetU.go q (e.trans e2) hp e3 h3
end
end RH
namespace RH
open PySem PySem.Spec PyProof.Rows L2
open Evl (Ev EvL EvU EvT EvA EvO Ex ev_c ev_var ev_op ev_un ea_nil ea_cons)
theorem modAt_range {p : Int} (hp : 0 < p) (x : Int) (f : List Int) : 0 ≤ modAt x p f ∧ modAt x p f < p := by
  rw [modAt_ev]
  exact ⟨Int.emod_nonneg _ (by omega), Int.emod_lt_of_pos _ hp⟩
theorem drop_rev {ns : List Int} {i : Nat} (h : i < ns.length) : ns.drop (ns.length - (i + 1)) = ns.getD (ns.length - 1 - i) 0 :: ns.drop (ns.length - i) := by
  have h1 : ns.length - (i + 1) < ns.length := by omega
  rw [List.drop_eq_getElem_cons h1, List.getD_eq_getElem?_getD, List.getElem?_eq_getElem (by omega)]
  have a1 : ns.length - (i + 1) = ns.length - 1 - i := by omega
  have a2 : ns.length - (i + 1) + 1 = ns.length - i := by omega
  rw [a2]
  simp only [a1]
  rfl
section
variable {P : Program} {w : World} {K : PySem.W.Frag} {mg : Str → Option Value} {base : Heap}
/-! ### turned -/
def spTurned : Sp := fun vs H Q _ => ∃ (a p : Int), vs = [.int a, .int p] ∧ 1 < p ∧ p ≤ 1000 ∧ Evl.RetV (.int (inv a p)) H Q
theorem ok_turned {f : Addr} {fd : FuncData} {k : Nat} (F : Fun K "turned" "turned" sTurned f fd) : FnOk P w K mg base CX0 (k + 1) f fd ["a", "p"] spTurned := by
  refine F.ok scTurned (fun vs H Q E h => ?_) (fun cdv A outer s H vs Q E hr h => ?_)
  · obtain ⟨a, p, rfl, _⟩ := h
    rfl
  · obtain ⟨a, p, rfl, hp, hp2, q⟩ := h
    refine ⟨_, pss_cons (ps_set (i := 2) scTurned.nd rfl (.inl rfl) (pe_op op_mod (pv 0) (pv 1)))
      (pss_cons (ps_set (i := 3) scTurned.nd rfl (.inl rfl) (pv 1))
      (pss_cons (ps_set (i := 4) scTurned.nd rfl (.inl rfl) pe_int)
      (pss_cons (ps_set (i := 5) scTurned.nd rfl (.inl rfl) pe_int)
      (pss_cons (ps_while PassesOwn.never (pt_cmpR op_gt (pv 2) pe_int (nomark _))
        (pss_cons (ps_set (i := 6) scTurned.nd rfl (.inl rfl) (pe_op op_fdiv (pv 3) (pv 2)))
        (pss_cons (ps_par (i := 2) (j := 3) (by rfl) scTurned.nd rfl rfl (by decide) rfl rfl (pa_cons (pe_op op_sub (pv 3) (pe_op op_mul (pv 6) (pv 2))) (pa_cons (pv 2) pa_nil)) (by rfl))
        (pss_one (ps_par (i := 4) (j := 5) (by rfl) scTurned.nd rfl rfl (by decide) rfl rfl (pa_cons (pe_op op_sub (pv 5) (pe_op op_mul (pv 6) (pv 4))) (pa_cons (pv 4) pa_nil)) (by rfl))))))
      (pss_one (ps_ret (pe_op op_mod (pv 4) (pv 1)))))))), ?_⟩
    refine Evl.q_asg (v := .int (a % p)) (ev_op (ev_var rfl) (ev_var rfl) (Evl.rv_I (by show (0 : Int) < p; omega))) fun H1 e1 => ?_
    refine Evl.q_asg (ev_var rfl) fun H2 e2 => ?_
    refine Evl.q_asg ev_c fun H3 e3 => ?_
    refine Evl.q_asg ev_c fun H4 e4 => ?_
    have hm0 := Int.emod_nonneg a (by omega : p ≠ 0)
    have hm1 := Int.emod_lt_of_pos a (by omega : 0 < p)
    refine Evl.q_while (fun m σ' H' => ∃ (one two first second : Int) (y6 : Option V), σ' = [some (.int a), some (.int p), some (.int one), some (.int two), some (.int first), some (.int second), y6] ∧
      eu m one two first second = eu p.toNat (a % p) p 1 0 ∧ 0 ≤ one ∧ one ≤ m ∧ one ≤ p ∧ 0 ≤ two ∧ two ≤ p ∧ Ex H H') p.toNat ⟨a % p, p, 1, 0, none, rfl, rfl, by omega, by omega, by omega, by omega, by omega, ((e1.trans e2).trans e3).trans e4⟩ fun m σ' H' hW => ?_
    obtain ⟨one, two, first, second, y6, rfl, he, h0, hm, h1000, ht0, htp, e⟩ := hW
    refine ⟨decide (1 < one), Evl.et_test (ev_op (ev_var rfl) ev_c Evl.rv_I0), fun hb H5 e5 => ?_, fun hb H5 e5 => ?_⟩
    · have h1 : 1 < one := of_decide_eq_true hb
      refine ⟨_, fun σ2 H2' hN => hN, ?_⟩
      have hq0 : 0 ≤ two / one := Int.ediv_nonneg ht0 (by omega)
      have hq1 : two / one ≤ two := Int.ediv_le_self _ ht0
      have hmul : CMul (two / one) one := .inr ⟨by omega, by omega⟩
      have hmul2 : CMul (two / one) first := .inl ⟨by omega, by omega⟩
      refine Evl.q_asg (v := .int (two / one)) (ev_op (ev_var rfl) (ev_var rfl) (Evl.rv_I ⟨by omega, by omega⟩)) fun H6 e6 => ?_
      refine q_par (a := .int (two - two / one * one)) (b := .int one) (Evl.ea_cons (ev_op (ev_var rfl) (ev_op (ev_var rfl) (ev_var rfl) (Evl.rv_I hmul)) Evl.rv_I0) (Evl.ea_cons (ev_var rfl) Evl.ea_nil)) fun H7 e7 => ?_
      refine s_par (a := .int (second - two / one * first)) (b := .int first) (Evl.ea_cons (ev_op (ev_var rfl) (ev_op (ev_var rfl) (ev_var rfl) (Evl.rv_I hmul2)) Evl.rv_I0) (Evl.ea_cons (ev_var rfl) Evl.ea_nil)) fun H8 e8 => ?_
      cases m with
      | zero => exfalso; omega
      | succ m =>
        have hr0 := Int.emod_nonneg two (by omega : one ≠ 0)
        have hr1 := Int.emod_lt_of_pos two (by omega : 0 < one)
        have hr2 : two - two / one * one = two % one := by
          have := Int.emod_add_mul_ediv two one
          rw [Int.mul_comm]
          omega
        refine ⟨m, Nat.lt_succ_self m, two - two / one * one, one, second - two / one * first, first, some (.int (two / one)), rfl, ?_, by omega, by omega, by omega, by omega, by omega, (((e.trans e5).trans e6).trans e7).trans e8⟩
        · rw [← he, eu, if_pos h1]
    · have h1 : ¬ 1 < one := of_decide_eq_false hb
      have hf : first = eu p.toNat (a % p) p 1 0 := by
        rw [← he]
        cases m with
        | zero => rfl
        | succ m => rw [eu, if_neg h1]
      refine Evl.s_ret (v := .int (inv a p)) (ev_to ?_ (ev_op (ev_var rfl) (ev_var rfl) (Evl.rv_I (by show (0 : Int) < p; omega)))) fun H6 e6 => q _ ((e.trans e5).trans e6)
      show V.int (first % p) = V.int (inv a p)
      rw [hf]
      rfl
end
end RH
namespace RH
open PySem PySem.Spec PyProof.Rows L2
open Evl (Ev EvL EvU EvT EvA EvO Ex ev_c ev_var ev_op ev_un ea_nil ea_cons)
section
variable {P : Program} {w : World} {K : PySem.W.Frag} {mg : Str → Option Value} {base : Heap}
/-! ### the value of a row, modulo p -/
def spModAt (K : PySem.W.Frag) : Sp := fun vs H Q _ => ∃ (a : Addr) (ns : List Int) (x p : Int), vs = [.ref a, .int x, .int p] ∧ SqT K H a (ns.map V.int) ∧ ns.length ≤ 1000 ∧ 1 < p ∧ p ≤ 1000 ∧ Evl.RetV (.int (modAt x p ns)) H Q
theorem read_modAt {a : Addr} {ns : List Int} {x p : Int} {H : Hp} {Q : VK} (hS : SqT K H a (ns.map V.int)) (hlen : ns.length ≤ 1000) (hp : 1 < p) (hp2 : p ≤ 1000) (q : Evl.RetV (.int (modAt x p ns)) H Q) :
    tSeq (tAsg (tC (.int 0)) (gName 3)) (tSeq (tFor (RT.iRevA K (tVar 0)) (gName 4) (tAsg (tOp (rI (fun _ j => 0 < j) fun i j => .int (i % j)) (tOp (rI0 fun i j => .int (i + j)) (tOp (rI CMul fun i j => .int (i * j)) (tVar 3) (tVar 1)) (tVar 4)) (tVar 2)) (gName 3))) (tRet (tVar 3)))
      { nx := fun _ H' => Q .non H', rt := Q } [some (.ref a), some (.int x), some (.int p), none, none] H := by
  refine Evl.q_asg ev_c fun H1 e1 => ?_
  refine q_forRevT (ev_var rfl) (Evl.ex_t e1 hS) (fun i σ' H' => Ex H H' ∧ ∃ y4, σ' = [some (.ref a), some (.int x), some (.int p), some (.int (modAt x p (ns.drop (ns.length - i)))), y4])
    (fun H2 e2 => ⟨e1.trans e2, none, by rw [Nat.sub_zero, List.drop_length]; rfl⟩) (fun i σ' H' hP => Evl.ex_t hP.1 hS) (fun i y σ' H' hi hx hP => ?_) (fun σ' H' hP => ?_)
  · obtain ⟨e, y4, rfl⟩ := hP
    rw [List.length_map] at hi hx
    obtain ⟨hi2, rfl⟩ := ints_get hx
    have hr := modAt_range (p := p) (by omega) x (ns.drop (ns.length - i))
    refine Evl.s_asg (v := .int (modAt x p (ns.drop (ns.length - (i + 1))))) (ev_to ?_ (ev_op (ev_op (ev_op (ev_var rfl) (ev_var rfl) (Evl.rv_I (.inl ⟨by omega, by omega⟩))) (ev_var rfl) Evl.rv_I0) (ev_var rfl) (Evl.rv_I (by show (0 : Int) < p; omega)))) fun H2 e2 => ?_
    · rw [drop_rev hi, modAt_cons]
    · exact ⟨e.trans e2, _, rfl⟩
  · obtain ⟨e, y4, rfl⟩ := hP
    refine Evl.s_ret (ev_var rfl) fun H2 e2 => ?_
    rw [List.length_map, Nat.sub_self, List.drop_zero]
    exact q _ (e.trans e2)
theorem ok_modAt {f : Addr} {fd : FuncData} {k : Nat} (F : Fun K "mod_at" "mod_at" sModAt f fd) (mr : mg "reversed" = none) : FnOk P w K mg base CX0 (k + 1) f fd ["f", "x", "p"] (spModAt K) := by
  refine F.ok scModAt (fun vs H Q E h => ?_) (fun cdv A outer s H vs Q E hr h => ?_)
  · obtain ⟨a, ns, x, p, rfl, _⟩ := h
    rfl
  · obtain ⟨a, ns, x, p, rfl, hS, hlen, hp, hp2, q⟩ := h
    exact ⟨_, pss_cons (ps_set (i := 3) scModAt.nd rfl (.inl rfl) pe_int) (pss_cons (ps_for PassesOwn.never rfl (RT.pi_revA (by rfl) mr (pv 0)) (pg_name (i := 4) scModAt.nd rfl (.inl rfl))
      (pss_one (ps_set (i := 3) scModAt.nd rfl (.inl rfl) (pe_op op_mod (pe_op op_add (pe_op op_mul (pv 3) (pv 1)) (pv 4)) (pv 2))))) (pss_one (ps_ret (pv 3)))), read_modAt hS hlen hp hp2 q⟩
theorem ok_lawModValue {f : Addr} {fd : FuncData} {k : Nat} (F : Fun K "_law_mod_value" "_law_mod_value" sLawModValue f fd) (mr : mg "reversed" = none) : FnOk P w K mg base CX0 (k + 1) f fd ["_law_f", "_law_z", "_law_p"] (spModAt K) := by
  refine F.ok scLawModValue (fun vs H Q E h => ?_) (fun cdv A outer s H vs Q E hr h => ?_)
  · obtain ⟨a, ns, x, p, rfl, _⟩ := h
    rfl
  · obtain ⟨a, ns, x, p, rfl, hS, hlen, hp, hp2, q⟩ := h
    exact ⟨_, pss_cons (ps_set (i := 3) scLawModValue.nd rfl (.inl rfl) pe_int) (pss_cons (ps_for PassesOwn.never rfl (RT.pi_revA (by rfl) mr (pv 0)) (pg_name (i := 4) scLawModValue.nd rfl (.inl rfl))
      (pss_one (ps_set (i := 3) scLawModValue.nd rfl (.inl rfl) (pe_op op_mod (pe_op op_add (pe_op op_mul (pv 3) (pv 1)) (pv 4)) (pv 2))))) (pss_one (ps_ret (pv 3)))), read_modAt hS hlen hp hp2 q⟩
/-! ### mod_poly -/
def spModPoly (K : PySem.W.Frag) : Sp := fun vs H Q _ => ∃ (a : Addr) (ns : List Int) (p : Int), vs = [.ref a, .int p] ∧ SqT K H a (ns.map V.int) ∧ ns.length ≤ 1000 ∧ 1 < p ∧ RetU ((modP p ns).map V.int) H Q
theorem ok_modPoly {f f1 : Addr} {fd fd1 : FuncData} {k : Nat} (F : Fun K "mod_poly" "mod_poly" sModPoly f fd) (F1 : Fun K "cut" "cut" sCut f1 fd1) (b1 : Binds K fd1 ["row"] []) (g1 : mg "cut" = some (.ref f1)) (G1 : FnOk P w K mg base CX0 (k + 1) f1 fd1 ["row"] (spCut K)) :
    FnOk P w K mg base CX0 (k + 2) f fd ["row", "p"] (spModPoly K) := by
  refine F.ok scModPoly (fun vs H Q E h => ?_) (fun cdv A outer s H vs Q E hr h => ?_)
  · obtain ⟨a, ns, p, rfl, _⟩ := h
    rfl
  · obtain ⟨a, ns, p, rfl, hS, hlen, hp, q⟩ := h
    refine ⟨_, pss_one (ps_ret (pe_call G1 hr (by rfl) g1 F1.kp b1 .nil pass0 (pa_cons (pe_lc (own := [("place", 2)]) (g := gName 2) (tt := tYes) (by rfl) scModPoly.nd (pi_tup (pv 0)) (blkOk_by (N := NModPoly) (sc := defScope sModPoly) (by decide +kernel))
      (fun _ _ _ _ _ => pg_name (i := 2) scModPoly.nd rfl (.inl rfl)) (fun _ _ _ _ _ => pts_nil) (fun _ _ _ _ _ => pe_op op_mod (pv 2) (pv 1))) pa_nil))), ?_⟩
    refine Evl.s_retU (eu_callL (xs := (modL p ns).map V.int) (ys := (modP p ns).map V.int) (el_lcT (xs := ns.map V.int) (ev_var rfl) hS (by simp [modL]) (by rw [List.length_map]; omega) (fun x => rfl) fun i x H1 e hx => ?_) fun l H1 hl e H2 e2 Q2 q2 E2 => ?_) fun p H1 hp e h1 => q p H1 hp e h1
    · obtain ⟨hi, rfl⟩ := ints_get hx
      refine ⟨.int (ns.getD i 0 % p), ?_, ev_op (ev_var rfl) (ev_var rfl) (Evl.rv_I (by show (0 : Int) < p; omega))⟩
      unfold modL
      rw [List.getElem?_map, List.getElem?_map, List.getD_eq_getElem?_getD, List.getElem?_eq_getElem hi]
      rfl
    · exact ⟨l, modL p ns, rfl, Evl.sq_of (e2 _ _ hl), by simp [modL, hlen], q2⟩
end
end RH
namespace RH
open PySem PySem.Spec PyProof.Rows L2
open Evl (Ev EvL EvU EvT EvA EvO Ex ev_c ev_var ev_op ev_un ea_nil ea_cons)
theorem hs_getD (x p : Int) (f : List Int) (k : Nat) : (hs x p f).getD k 0 = modAt x p (f.drop k) := by
  have h := hs_drop x p k f
  unfold modAt
  rw [← h]
  cases e : (hs x p f).drop k with
  | nil =>
    rw [List.getD_eq_getElem?_getD, List.getElem?_eq_none (List.drop_eq_nil_iff.mp e)]
    rfl
  | cons a t =>
    have h2 : ((hs x p f).drop k)[0]? = some a := by rw [e]; rfl
    rw [List.getElem?_drop, Nat.add_zero] at h2
    rw [List.getD_eq_getElem?_getD, h2]
    rfl
theorem modAt_step {x p : Int} {f : List Int} {k : Nat} (h : k < f.length) : modAt x p (f.drop k) = (modAt x p (f.drop (k + 1)) * x + f.getD k 0) % p := by
  rw [List.drop_eq_getElem_cons h, modAt_cons, List.getD_eq_getElem?_getD, List.getElem?_eq_getElem h]
  rfl
/-- the row in the middle of the parting -/
def midL (x p : Int) (f : List Int) (i : Nat) : List Int := f.take (f.length - 1 - i) ++ modAt x p (f.drop (f.length - 1 - i)) :: List.replicate i 0
theorem midL_len {x p : Int} {f : List Int} {i : Nat} (h : i < f.length) : (midL x p f i).length = f.length := by
  unfold midL
  rw [List.length_append, List.length_take, List.length_cons, List.length_replicate]
  omega
theorem midL_zero {x p : Int} (hp : 0 < p) {f : List Int} (hr : Red p f) (h : 0 < f.length) : midL x p f 0 = f := by
  unfold midL
  have h1 : f.length - 1 < f.length := by omega
  have e : f.drop (f.length - 1) = [f[f.length - 1]] := by
    rw [List.drop_eq_getElem_cons h1, show f.length - 1 + 1 = f.length by omega, List.drop_length]
  have hm := hr _ (List.getElem_mem h1)
  rw [Nat.sub_zero, e]
  show _ ++ [(0 * x + f[f.length - 1]) % p] = f
  rw [Int.zero_mul, Int.zero_add, Int.emod_eq_of_lt hm.1 hm.2, ← e, List.take_append_drop]
theorem midL_at {x p : Int} {f : List Int} {i k : Nat} (hk : k + 1 + i + 1 = f.length) : (midL x p f i).getD (k + 1) 0 = modAt x p (f.drop (k + 1)) := by
  unfold midL
  have e : f.length - 1 - i = k + 1 := by omega
  rw [e, List.getD_eq_getElem?_getD, List.getElem?_append_right (by rw [List.length_take]; omega), List.length_take]
  rw [show k + 1 - min (k + 1) f.length = 0 by omega]
  rfl
theorem midL_below {x p : Int} {f : List Int} {i k : Nat} (hk : k + 1 + i + 1 = f.length) : (midL x p f i).getD k 0 = f.getD k 0 := by
  unfold midL
  have e : f.length - 1 - i = k + 1 := by omega
  rw [e, List.getD_eq_getElem?_getD, List.getElem?_append_left (by rw [List.length_take]; omega), List.getElem?_take_of_lt (by omega), List.getD_eq_getElem?_getD]
theorem midL_next {x p : Int} {f : List Int} {i k : Nat} (hk : k + 1 + i + 1 = f.length) : ((midL x p f i).set k (modAt x p (f.drop k))).set (k + 1) 0 = midL x p f (i + 1) := by
  unfold midL
  rw [show f.length - 1 - i = k + 1 by omega, show f.length - 1 - (i + 1) = k by omega]
  have ht : f.take (k + 1) = f.take k ++ [f[k]] := by rw [List.take_add_one, List.getElem?_eq_getElem (by omega)]; rfl
  have hl : (f.take k).length = k := by rw [List.length_take]; omega
  rw [ht, List.append_assoc, List.set_append_right _ _ (by omega), hl, Nat.sub_self, List.set_append_right _ _ (by omega), hl]
  rw [show k + 1 - k = 1 by omega]
  rfl
/-- what is set down of the quotient -/
def quoL (x p : Int) (f : List Int) (i : Nat) : List Int := ((hs x p f).drop (f.length - i)).reverse
theorem quoL_zero {x p : Int} {f : List Int} : quoL x p f 0 = [] := by
  unfold quoL
  rw [Nat.sub_zero, ← hs_len x p f, List.drop_length]
  rfl
theorem quoL_next {x p : Int} {f : List Int} {i k : Nat} (hk : k + 1 + i + 1 = f.length) : quoL x p f (i + 1) = quoL x p f i ++ [modAt x p (f.drop (k + 1))] := by
  unfold quoL
  have hl := hs_len x p f
  rw [show f.length - (i + 1) = k + 1 by omega, List.drop_eq_getElem_cons (by omega), List.reverse_cons, show f.length - i = k + 1 + 1 by omega, ← hs_getD, List.getD_eq_getElem?_getD, List.getElem?_eq_getElem (by omega)]
  rfl
theorem quoL_len {x p : Int} {f : List Int} {i : Nat} : (quoL x p f i).length ≤ f.length := by
  unfold quoL
  rw [List.length_reverse, List.length_drop, hs_len]
  omega
theorem quoL_end {x p : Int} {f : List Int} (h : 0 < f.length) : (quoL x p f (f.length - 1)).reverse = (hs x p f).tail := by
  unfold quoL
  rw [List.reverse_reverse, show f.length - (f.length - 1) = 1 by omega, List.drop_one]
theorem mon_tail {p : Int} (hp : 1 < p) (x : Int) {f : List Int} (m : Mon f) (h : 2 ≤ f.length) : Mon (hs x p f).tail := by
  rw [hs_tail]
  apply mon_hs hp
  match f, h with
  | a :: b :: r, _ =>
    have m' : (a :: b :: r).getLast? = some 1 := m
    rw [List.getLast?_cons_cons] at m'
    exact m'
theorem inv_one {p : Int} (P : Pr p) : inv 1 p = 1 := by
  have hp := P.1
  have h := inv_ok P (a := 1) (by rw [Int.emod_eq_of_lt (by omega) hp]; decide)
  exact inv_unique (a := 1) (inv_range (by omega)) ⟨by omega, hp⟩ h (by simp)
section
variable {K : PySem.W.Frag} {σ : L2.St} {H H' : Hp} {ta tb te tx : TE} {x y z v : V} {r : R2} {D : Ends} {tu tw tz : TS}
theorem ep_tup2 {xs ys : List V} (ha : EvU ta σ H xs) (hb : ∀ H1, Ex H H1 → EvU tb σ H1 ys) : EvP (tTup (tCons ta (tCons tb tNil))) σ H (fun v H2 => ∃ p a b, v = .ref p ∧ H2 p = some (.tup [.ref a, .ref b]) ∧ H2 a = some (.tup xs) ∧ H2 b = some (.tup ys)) := fun H1 e Q q =>
  ha H1 e _ fun a H2 _ e2 h2 => hb H2 (e.trans e2) H2 (Ex.refl H2) _ fun b H3 _ e3 h3 => ⟨Evl.sz_of (by show 2 ≤ 100000; decide), fun p hp =>
    q _ _ ((e2.trans e3).trans (Ex.new hp)) ⟨p, a, b, rfl, upd_same, Ex.new hp _ _ (e3 _ _ h2), Ex.new hp _ _ h3⟩⟩
theorem el_rev {xs : List V} {a : Addr} (h : Ev te σ H (.ref a)) (hs : SqL K H a xs) : EvL (tRevL K te) σ H xs.reverse := fun H1 e Q q =>
  h H1 e _ fun H2 e2 => ⟨a, xs, rfl, Evl.ex_l (e.trans e2) hs, fun p hp => q p _ (Evl.fresh_back e2 hp) (e2.trans (Ex.new hp)) upd_same⟩
theorem q_forR3 {ta : TA} {j : Nat} {lo hi c : Int} {n : Nat} (h : EvA ta σ H [.int lo, .int hi, .int c]) (hn : RgC lo hi c n) (Pv : Nat → L2.St → Hp → Prop) (h0 : ∀ H1, Ex H H1 → Pv 0 σ H1)
    (hs : ∀ (i : Nat) σ' H', i < n → Pv i σ' H' → tu { D with nx := Pv (i + 1), ct := Pv (i + 1), bk := tz D } (σ'.set j (some (.int (lo + (i : Nat) * c)))) H') (hd : ∀ σ' H', Pv n σ' H' → tz D σ' H') : tSeq (tFor (iRng3 ta) (gName j) tu) tz D σ H :=
  h H (Ex.refl H) _ fun H1 e => ⟨lo, hi, c, n, rfl, hn, for_rangeC (D := { D with nx := tz D }) Pv (h0 H1 e) hs hd⟩
end
section
variable {P : Program} {w : World} {K : PySem.W.Frag} {mg : Str → Option Value} {base : Heap}
/-! ### mod_parted, by x + low -/
def spModParted (K : PySem.W.Frag) : Sp := fun vs H Q _ => ∃ (a b : Addr) (f : List Int) (low p : Int), vs = [.ref a, .ref b, .int p] ∧ SqT K H a (f.map V.int) ∧ SqT K H b (([low, 1] : List Int).map V.int) ∧ f.length ≤ 900 ∧ 2 ≤ f.length ∧ Mon f ∧ Red p f ∧
  0 ≤ low ∧ low < p ∧ Pr p ∧ p ≤ 1000 ∧ ∀ v H2, Ex H H2 → (∃ c d e, v = .ref c ∧ H2 c = some (.tup [.ref d, .ref e]) ∧ H2 d = some (.tup ((hs (-low) p f).tail.map V.int))) → Q v H2
theorem ok_modParted {f f1 f2 f3 : Addr} {fd fd1 fd2 fd3 : FuncData} {k : Nat} (F : Fun K "mod_parted" "mod_parted" sModParted f fd) (F1 : Fun K "cut" "cut" sCut f1 fd1) (b1 : Binds K fd1 ["row"] []) (g1 : mg "cut" = some (.ref f1)) (G1 : FnOk P w K mg base CX0 (k + 2) f1 fd1 ["row"] (spCut K))
    (F2 : Fun K "turned" "turned" sTurned f2 fd2) (b2 : Binds K fd2 ["a", "p"] []) (g2 : mg "turned" = some (.ref f2)) (G2 : FnOk P w K mg base CX0 (k + 2) f2 fd2 ["a", "p"] spTurned)
    (F3 : Fun K "mod_poly" "mod_poly" sModPoly f3 fd3) (b3 : Binds K fd3 ["row", "p"] []) (g3 : mg "mod_poly" = some (.ref f3)) (G3 : FnOk P w K mg base CX0 (k + 2) f3 fd3 ["row", "p"] (spModPoly K))
    (ml : mg "len" = none) (mli : mg "list" = none) (mra : mg "range" = none) :
    FnOk P w K mg base CX0 (k + 3) f fd ["a", "b", "p"] (spModParted K) := by
  refine F.ok scModParted (fun vs H Q E h => ?_) (fun cdv A outer s H vs Q E hr h => ?_)
  · obtain ⟨a, b, f, low, p, rfl, _⟩ := h
    rfl
  · obtain ⟨a, b, g, low, p, rfl, hA, hB, hl9, hl2, hm, hred, hl0, hlp, hP, hp2, q⟩ := h
    have hp := hP.1
    refine ⟨_, pss_cons (ps_set (i := 3) scModParted.nd rfl (.inl rfl) (pe_callTy call_list_of (by rfl) mli boot_list (pa_cons (pe_call G3 hr (by rfl) g3 F3.kp b3 .nil pass0 (pa_cons (pv 0) (pa_cons (pv 2) pa_nil))) pa_nil)))
      (pss_cons (ps_set (i := 4) scModParted.nd rfl (.inl rfl) (pe_call G3 hr (by rfl) g3 F3.kp b3 .nil pass0 (pa_cons (pv 1) (pa_cons (pv 2) pa_nil))))
      (pss_cons (ps_set (i := 5) scModParted.nd rfl (.inl rfl) (pe_op op_sub (pe_callB call_len' (by rfl) ml PySem.boot_len (pa_cons (pv 4) pa_nil)) pe_int))
      (pss_cons (ps_set (i := 6) scModParted.nd rfl (.inl rfl) (pe_call G2 hr (by rfl) g2 F2.kp b2 .nil pass0 (pa_cons (pe_ix ix_tup (pv 4) (pv 5) (fun _ _ => rfl)) (pa_cons (pv 2) pa_nil))))
      (pss_cons (ps_set (i := 7) scModParted.nd rfl (.inl rfl) (pe_lst pa_nil))
      (pss_cons (ps_for PassesOwn.never rfl (pi_range3 (by rfl) mra (pa_cons (pe_op op_sub (pe_op op_sub (pe_callB call_len' (by rfl) ml PySem.boot_len (pa_cons (pv 3) pa_nil)) pe_int) (pv 5)) (pa_cons (pe_un un_neg pe_int) (pa_cons (pe_un un_neg pe_int) pa_nil))))
          (pg_name (i := 8) scModParted.nd rfl (.inl rfl))
          (pss_cons (ps_set (i := 9) scModParted.nd rfl (.inl rfl) (pe_op op_mod (pe_op op_mul (pe_ix ix_list (pv 3) (pe_op op_add (pv 8) (pv 5)) (fun _ _ => rfl)) (pv 6)) (pv 2)))
          (pss_cons (ps_expr (pe_bm PySem.F.plainAttrs_list PySem.F.slot_list_append PySem.F.type_list_append mt_append (pv 7) (pa_cons (pv 9) pa_nil)))
          (pss_one (ps_for PassesOwn.never rfl (pi_range1 (by rfl) mra (pa_cons (pe_op op_add (pv 5) pe_int) pa_nil)) (pg_name (i := 10) scModParted.nd rfl (.inl rfl))
            (pss_one (ps_asg (pe_op op_mod (pe_op op_sub (pe_ix ix_list (pv 3) (pe_op op_add (pv 8) (pv 10)) (fun _ _ => rfl)) (pe_op op_mul (pv 9) (pe_ix ix_tup (pv 4) (pv 10) (fun _ _ => rfl)))) (pv 2)) (pg_sub (pv 3) (pe_op op_add (pv 8) (pv 10)) set_list))))))))
      (pss_one (ps_ret (pe_tup (pa_cons (pe_call G1 hr (by rfl) g1 F1.kp b1 .nil pass0 (pa_cons (pe_revL (pv 7)) pa_nil)) (pa_cons (pe_call G1 hr (by rfl) g1 F1.kp b1 .nil pass0 (pa_cons (pe_slice sl_list (pv 3) po_none (po_some (pv 5))) pa_nil)) pa_nil))))))))))
      , ?_⟩
    have hx : ∀ z : Int, z = -low → modAt z p g = modAt (-low) p g := fun z e => by rw [e]
    generalize hz : -low = z at *
    have eg : modP p g = g := modP_red hred hm.cut
    have eb : modP p [low, 1] = [low, 1] := modP_red (fun c hc => by
      simp only [List.mem_cons, List.not_mem_nil, or_false] at hc
      rcases hc with e | e <;> rw [e] <;> omega) (Mon.cut (f := [low, 1]) rfl)
    have n1 : g.length ≤ 1000 := by omega
    -- left = list(mod_poly(a, p))
    refine Evl.q_asgL (xs := g.map V.int) (el_listU (eu_call (vs := [.ref a, .int p]) (Evl.ea_cons (ev_var rfl) (Evl.ea_cons (ev_var rfl) Evl.ea_nil)) fun H1 e1 Q1 q1 E1 => ⟨a, g, p, rfl, Evl.ex_t e1 hA, n1, hp, by rw [eg]; exact q1⟩)) fun l H1 nl e1 hl => ?_
    -- by = mod_poly(b, p)
    refine Evl.q_asgU (xs := ([low, 1] : List Int).map V.int) (eu_call (vs := [.ref b, .int p]) (Evl.ea_cons (ev_var rfl) (Evl.ea_cons (ev_var rfl) Evl.ea_nil)) fun H2 e2 Q2 q2 E2 => ⟨b, [low, 1], p, rfl, Evl.ex_t (e1.trans e2) hB, by show 2 ≤ 1000; decide, hp, by rw [eb]; exact q2⟩) fun y H2 ny e2 hy => ?_
    -- degree
    refine Evl.q_asg (v := .int 1) (ev_to (by rfl) (ev_op (ev_lenT (ev_var rfl) (Evl.st_of hy)) ev_c Evl.rv_I0)) fun H3 e3 => ?_
    -- back
    refine Evl.q_asg (v := .int 1) (Evl.ev_call (vs := [.int 1, .int p]) (Evl.ea_cons (ev_op (ev_var rfl) (ev_var rfl) (Evl.rv_ixT (Evl.st_of (e3 _ _ hy)) (by exact rfl))) (Evl.ea_cons (ev_var rfl) Evl.ea_nil)) fun H4 e4 Q4 q4 E4 => ⟨1, p, rfl, hp, hp2, by rw [inv_one hP]; exact q4⟩) fun H4 e4 => ?_
    -- quotient = []
    refine Evl.q_asgL (xs := []) (Evl.el_lst Evl.ea_nil (by decide)) fun u H5 nu e5 hu => ?_
    have hl5 : H5 l = some (.lst (g.map V.int)) := e5 _ _ (e4 _ _ (e3 _ _ (e2 _ _ hl)))
    have hy5 : H5 y = some (.tup (([low, 1] : List Int).map V.int)) := e5 _ _ (e4 _ _ (e3 _ _ hy))
    have eH : Ex H H5 := (((e1.trans e2).trans e3).trans e4).trans e5
    have nlu : l ≠ u := fun e => by
      have := e4 _ _ (e3 _ _ (e2 _ _ hl))
      rw [e, nu] at this
      cases this
    have nly : l ≠ y := ne_of hl5 hy5 (by intro z; cases z)
    have nuy : u ≠ y := ne_of hu hy5 (by intro z; cases z)
    have nuH : H u = none := Evl.fresh_back (((e1.trans e2).trans e3).trans e4) nu
    refine q_forR3 (lo := (g.length : Int) - 1 - 1) (hi := -1) (c := -1) (n := g.length - 1) (Evl.ea_cons (ev_op (ev_op (ev_to (by rw [List.length_map]) (ev_lenL (ev_var rfl) (Evl.sq_of hl5))) ev_c Evl.rv_I0) (ev_var rfl) Evl.rv_I0) (Evl.ea_cons (ev_un ev_c Evl.ru_neg) (Evl.ea_cons (ev_un ev_c Evl.ru_neg) Evl.ea_nil)))
      (by
        have := RgC.neg (i := (g.length : Int) - 1 - 1) (j := -1) (by omega) (by omega) (by omega) (by omega)
        rw [show ((g.length : Int) - 1 - 1 - -1).toNat = g.length - 1 by omega] at this
        exact this)
      (fun i σ' H' => Ex H H' ∧ H' l = some (.lst ((midL z p g i).map V.int)) ∧ H' u = some (.lst ((quoL z p g i).map V.int)) ∧ H' y = some (.tup (([low, 1] : List Int).map V.int)) ∧
        ∃ y8 y9 y10, σ' = [some (.ref a), some (.ref b), some (.int p), some (.ref l), some (.ref y), some (.int 1), some (.int 1), some (.ref u), y8, y9, y10])
      (fun H6 e6 => ⟨eH.trans e6, by rw [midL_zero (by omega) hred (by omega)]; exact e6 _ _ hl5, by rw [quoL_zero]; exact e6 _ _ hu, e6 _ _ hy5, none, none, none, rfl⟩)
      (fun i σ' H' hi hPv => ?_) (fun σ' H' hPv => ?_)
    · obtain ⟨e, hl', hu', hy', y8, y9, y10, rfl⟩ := hPv
      obtain ⟨kk, hk⟩ : ∃ kk : Nat, kk + 1 + i + 1 = g.length := ⟨g.length - 2 - i, by omega⟩
      have eat : (g.length : Int) - 1 - 1 + (i : Nat) * (-1) = (kk : Int) := by omega
      rw [eat]
      have hv := modAt_range (p := p) (by omega) z (g.drop (kk + 1))
      have hmid := midL_len (x := z) (p := p) (f := g) (i := i) (by omega)
      -- part
      refine Evl.q_asg (v := .int (modAt z p (g.drop (kk + 1)))) (ev_to ?_ (ev_op (ev_op (ev_op (ev_var rfl) (ev_op (ev_var rfl) (ev_var rfl) Evl.rv_I0) (Evl.rv_ixL (Evl.sq_of hl') (atI_ints (j := kk + 1) (by omega)))) (ev_var rfl) (Evl.rv_I (.inr ⟨by decide, by decide⟩))) (ev_var rfl) (Evl.rv_I (by show (0 : Int) < p; omega)))) fun H6 e6 => ?_
      · rw [midL_at hk, Int.mul_one, Int.emod_eq_of_lt hv.1 hv.2]
      -- append
      refine Evl.q_app (e6 _ _ hu') (ev_var rfl) (ev_var rfl) (by rw [List.length_map]; have := quoL_len (x := z) (p := p) (f := g) (i := i); omega) fun H7 e7 => ?_
      have hl7 : upd H7 u (.lst ((quoL z p g i).map V.int ++ [.int (modAt z p (g.drop (kk + 1)))])) l = some (.lst ((midL z p g i).map V.int)) := by
        rw [upd_ne nlu]
        exact e7 _ _ (e6 _ _ hl')
      have hy7 : upd H7 u (.lst ((quoL z p g i).map V.int ++ [.int (modAt z p (g.drop (kk + 1)))])) y = some (.tup (([low, 1] : List Int).map V.int)) := by
        rw [upd_ne nuy.symm]
        exact e7 _ _ (e6 _ _ hy')
      have hu7 : upd H7 u (.lst ((quoL z p g i).map V.int ++ [.int (modAt z p (g.drop (kk + 1)))])) u = some (.lst ((quoL z p g (i + 1)).map V.int)) := by
        rw [upd_same, quoL_next hk, List.map_append]
        rfl
      have eH7 : Ex H (upd H7 u (.lst ((quoL z p g i).map V.int ++ [.int (modAt z p (g.drop (kk + 1)))]))) := Ex.mut ((e.trans e6).trans e7) nuH
      generalize upd H7 u (.lst ((quoL z p g i).map V.int ++ [.int (modAt z p (g.drop (kk + 1)))])) = H8 at *
      refine Evl.s_forR1 (n := 2) (Evl.ea_cons (ev_op (ev_var rfl) ev_c Evl.rv_I0) Evl.ea_nil) (by decide)
        (fun j σ' H' => Ex H H' ∧ H' l = some (.lst ((if j = 0 then midL z p g i else if j = 1 then (midL z p g i).set kk (modAt z p (g.drop kk)) else midL z p g (i + 1)).map V.int)) ∧ H' u = some (.lst ((quoL z p g (i + 1)).map V.int)) ∧ H' y = some (.tup (([low, 1] : List Int).map V.int)) ∧
          ∃ y10, σ' = [some (.ref a), some (.ref b), some (.int p), some (.ref l), some (.ref y), some (.int 1), some (.int 1), some (.ref u), some (.int (kk : Int)), some (.int (modAt z p (g.drop (kk + 1)))), y10])
        (fun H9 e9 => ⟨eH7.trans e9, e9 _ _ hl7, e9 _ _ hu7, e9 _ _ hy7, y10, rfl⟩) (fun j σ' H' hj hPv => ?_) (fun σ' H' hPv => ?_)
      · obtain ⟨e8, hl8, hu8, hy8, y10', rfl⟩ := hPv
        have hj2 : j = 0 ∨ j = 1 := by omega
        rcases hj2 with rfl | rfl
        · rw [if_pos rfl] at hl8
          refine Evl.s_setL (j := kk) (v := .int (modAt z p (g.drop kk))) hl8 (ev_to ?_ (ev_op (ev_op (ev_op (ev_var rfl) (ev_op (ev_var rfl) (ev_var rfl) Evl.rv_I0) (Evl.rv_ixL (Evl.sq_of hl8) (by rw [Int.natCast_zero, Int.add_zero]; exact atI_ints (j := kk) (by omega)))) (ev_op (ev_var rfl) (ev_op (ev_var rfl) (ev_var rfl) (Evl.rv_ixT (v := .int low) (Evl.st_of hy8) (by exact rfl))) (Evl.rv_I (.inl ⟨by omega, by omega⟩))) Evl.rv_I0) (ev_var rfl) (Evl.rv_I (by show (0 : Int) < p; omega)))) (ev_var rfl) (ev_to (by rw [Int.natCast_zero, Int.add_zero]) (ev_op (ev_var rfl) (ev_var rfl) Evl.rv_I0)) (by rw [List.length_map]; omega) fun H9 e9 => ?_
          · rw [midL_below hk, modAt_step (f := g) (k := kk) (by omega), ← hz, Int.mul_neg]
            congr 2
            omega
          · refine ⟨Ex.mut (e8.trans e9) nl, ?_, ?_, ?_, _, rfl⟩
            · rw [upd_same, ← List.map_set]
              rfl
            · rw [upd_ne nlu.symm]
              exact e9 _ _ hu8
            · rw [upd_ne nly.symm]
              exact e9 _ _ hy8
        · rw [if_neg (by decide), if_pos rfl] at hl8
          refine Evl.s_setL (j := kk + 1) (v := .int 0) hl8 (ev_to ?_ (ev_op (ev_op (ev_op (ev_var rfl) (ev_op (ev_var rfl) (ev_var rfl) Evl.rv_I0) (Evl.rv_ixL (Evl.sq_of hl8) (atI_ints (j := kk + 1) (by rw [List.length_set]; omega)))) (ev_op (ev_var rfl) (ev_op (ev_var rfl) (ev_var rfl) (Evl.rv_ixT (v := .int 1) (Evl.st_of hy8) (by exact rfl))) (Evl.rv_I (.inl ⟨by omega, by omega⟩))) Evl.rv_I0) (ev_var rfl) (Evl.rv_I (by show (0 : Int) < p; omega)))) (ev_var rfl) (ev_op (ev_var rfl) (ev_var rfl) Evl.rv_I0) (by rw [List.length_map, List.length_set]; omega) fun H9 e9 => ?_
          · rw [List.getD_eq_getElem?_getD, List.getElem?_set_ne (by omega), ← List.getD_eq_getElem?_getD, midL_at hk, Int.mul_one, Int.sub_self]
            rfl
          · refine ⟨Ex.mut (e8.trans e9) nl, ?_, ?_, ?_, _, rfl⟩
            · rw [upd_same, ← List.map_set, midL_next hk]
              rfl
            · rw [upd_ne nlu.symm]
              exact e9 _ _ hu8
            · rw [upd_ne nly.symm]
              exact e9 _ _ hy8
      · obtain ⟨e8, hl8, hu8, hy8, y10', rfl⟩ := hPv
        exact ⟨e8, hl8, hu8, hy8, _, _, _, rfl⟩
    · obtain ⟨e, hl', hu', hy', y8, y9, y10, rfl⟩ := hPv
      have hmid := midL_len (x := z) (p := p) (f := g) (i := g.length - 1) (by omega)
      have hql := quoL_len (x := z) (p := p) (f := g) (i := g.length - 1)
      have hmt := mon_tail hp z hm hl2
      refine s_retP (ep_tup2 (xs := (hs z p g).tail.map V.int) (eu_callL (el_rev (ev_var rfl) (Evl.sq_of hu')) fun c H6 hc e6 H7 e7 Q7 q7 E7 => ⟨c, (quoL z p g (g.length - 1)).reverse, rfl, ?_, by rw [List.length_reverse]; omega, ?_⟩)
        (fun H6 e6 => eu_callL (Evl.el_sl (ev_var rfl) Evl.eo_none (Evl.eo_some (ev_var rfl)) (Evl.sq_of (e6 _ _ hl'))) fun c H7 hc e7 H8 e8 Q8 q8 E8 => ⟨c, (midL z p g (g.length - 1)).take 1, rfl, ?_, by rw [List.length_take]; omega, q8⟩)) fun v H6 e6 h6 => ?_
      · rw [← List.map_reverse] at hc
        exact Evl.sq_of (e7 _ _ hc)
      · rw [quoL_end (by omega), cutL_of_cut _ hmt.cut]
        exact q7
      · have := cutV_take ((midL z p g (g.length - 1)).map V.int) 1 (by rw [List.length_map]; omega)
        rw [show ((1 : Nat) : Int) = 1 by rfl] at this
        rw [this, map_take_int] at hc
        exact Evl.sq_of (e8 _ _ hc)
      · obtain ⟨c, d, e', rfl, h1, h2, h3⟩ := h6
        exact q _ H6 (e.trans e6) ⟨c, d, e', rfl, h1, h2⟩
end
end RH
namespace RH
open PySem PySem.Spec PyProof.Rows L2
open Evl (Ev EvL EvU EvT EvA EvO Ex ev_c ev_var ev_op ev_un ea_nil ea_cons)
/-! ### == of tuples of whole numbers -/
theorem eqv_ints : ∀ ns ms : List Int, PyData.eqvAll (ns.map PyData.int) (ms.map PyData.int) = decide (ns = ms)
  | [], [] => by simp [PyData.eqvAll]
  | [], m :: ms => by simp [PyData.eqvAll]
  | n :: ns, [] => by simp [PyData.eqvAll]
  | n :: ns, m :: ms => by
    rw [List.map_cons, List.map_cons, PyData.eqvAll, eqv_ints ns ms, PyData.eqv]
    by_cases h : n = m
    · subst h; simp
    · simp [h]
theorem lay_ints : ∀ ns : List Int, PyData.canLayAll0 (ns.map PyData.int) = true ∧ PyData.depthAll (ns.map PyData.int) = 0
  | [] => ⟨by simp [PyData.canLayAll0], by simp [PyData.depthAll]⟩
  | n :: ns => by
    obtain ⟨h1, h2⟩ := lay_ints ns
    refine ⟨?_, ?_⟩
    · rw [List.map_cons, PyData.canLayAll0, h1]
      simp [PyData.canLay0]
    · rw [List.map_cons, PyData.depthAll, h2]
      simp [PyData.depth]
theorem shaped_ints (ns : List Int) : SeqAt.shaped (.tuple (ns.map PyData.int)) = true := by
  obtain ⟨h1, h2⟩ := lay_ints ns
  unfold SeqAt.shaped
  rw [PyData.canLay0, h1, PyData.depth, h2]
  rfl
theorem dp_ints {K : PySem.W.Frag} {H : Hp} : ∀ ns : List Int, DpAll K H (ns.map V.int) (ns.map PyData.int)
  | [] => .nil
  | n :: ns => .cons (.int n) (dp_ints ns)
theorem rv_eqT {K : PySem.W.Frag} {H : Hp} {a b : Addr} {ns ms : List Int} (ha : SqT K H a (ns.map V.int)) (hb : SqT K H b (ms.map V.int)) : Evl.RV (rEqD K) (.ref a) (.ref b) H (.bl (decide (ns = ms))) := fun H1 e Q q => by
  refine ⟨.tuple (ns.map PyData.int), .tuple (ms.map PyData.int), .tup (Evl.ex_t e ha) (dp_ints ns), .tup (Evl.ex_t e hb) (dp_ints ms), shaped_ints ns, shaped_ints ms, ?_⟩
  rw [PyData.eqv, eqv_ints]
  exact q H1 (Ex.refl H1)
section
variable {K : PySem.W.Frag} {σ : L2.St} {H H' : Hp} {ta tb te tx : TE} {x y z v : V} {r : R2} {D : Ends} {tu tw tz : TS}
def TwoT (xs ys : List V) (v : V) (H : Hp) : Prop := ∃ l a b, v = .ref l ∧ H l = some (.lst [.ref a, .ref b]) ∧ H a = some (.tup xs) ∧ H b = some (.tup ys)
theorem ep_lst2 {xs ys : List V} (ha : EvU ta σ H xs) (hb : ∀ H1, Ex H H1 → EvU tb σ H1 ys) : EvP (tLst (tCons ta (tCons tb tNil))) σ H (TwoT xs ys) := fun H1 e Q q =>
  ha H1 e _ fun a H2 _ e2 h2 => hb H2 (e.trans e2) H2 (Ex.refl H2) _ fun b H3 _ e3 h3 => ⟨Evl.sz_of (by show 2 ≤ 100000; decide), fun p hp =>
    q _ _ ((e2.trans e3).trans (Ex.new hp)) ⟨p, a, b, rfl, upd_same, Ex.new hp _ _ (e3 _ _ h2), Ex.new hp _ _ h3⟩⟩
end
theorem findA_some {l2 l3 p b d : Int} {i : Nat} (hi : i < p.toNat) (h : ∀ j : Nat, j < i → ((j : Int) * (l3 - (j : Int)) + b + d - l2) % p ≠ 0) (h2 : ((i : Int) * (l3 - (i : Int)) + b + d - l2) % p = 0) : findA l2 l3 p b d = some i := by
  unfold findA
  rw [List.find?_eq_some_iff_append]
  refine ⟨by simpa using h2, List.range i, (List.range (p.toNat - i - 1)).map (i + 1 + ·), ?_, fun j hj => ?_⟩
  · apply List.ext_getElem
    · simp only [List.length_range, List.length_append, List.length_cons, List.length_map]
      omega
    · intro k h1 h2
      rw [List.getElem_range]
      rcases Nat.lt_trichotomy k i with hk | hk | hk
      · rw [List.getElem_append_left (by simpa using hk), List.getElem_range]
      · subst hk
        rw [List.getElem_append_right (by simp)]
        simp
      · rw [List.getElem_append_right (by simp; omega)]
        simp only [List.length_range]
        rw [List.getElem_cons, dif_neg (by omega)]
        simp only [List.getElem_map, List.getElem_range]
        omega
  · have := h j (List.mem_range.mp hj)
    simpa using this
theorem findA_none {l2 l3 p b d : Int} (h : ∀ j : Nat, j < p.toNat → ((j : Int) * (l3 - (j : Int)) + b + d - l2) % p ≠ 0) : findA l2 l3 p b d = none := by
  unfold findA
  rw [List.find?_eq_none]
  intro j hj
  have := h j (List.mem_range.mp hj)
  simpa using this
theorem pairL_some {l0 l1 l2 l3 p : Int} {i : Nat} {r : List Int × List Int} (hi : i < p.toNat - 1) (h : ∀ j : Nat, j < i → candA l0 l1 l2 l3 p (1 + (j : Int)) = none) (h2 : candA l0 l1 l2 l3 p (1 + (i : Int)) = some r) : pairL l0 l1 l2 l3 p = some r := by
  unfold pairL
  have e : List.range (p.toNat - 1) = List.range i ++ (List.range (p.toNat - 1 - i)).map (i + ·) := by
    conv => lhs; rw [show p.toNat - 1 = i + (p.toNat - 1 - i) by omega]
    rw [List.range_add]
  rw [e, List.findSome?_append]
  have h0 : (List.range i).findSome? (fun j : Nat => candA l0 l1 l2 l3 p (1 + (j : Int))) = none := List.findSome?_eq_none_iff.mpr fun j hj => h j (List.mem_range.mp hj)
  rw [h0, Option.none_or]
  obtain ⟨m, hm⟩ : ∃ m, p.toNat - 1 - i = m + 1 := ⟨p.toNat - 1 - i - 1, by omega⟩
  rw [hm, List.range_succ_eq_map, List.map_cons, List.findSome?_cons, Nat.add_zero, h2]
theorem pairL_none {l0 l1 l2 l3 p : Int} (h : ∀ j : Nat, j < p.toNat - 1 → candA l0 l1 l2 l3 p (1 + (j : Int)) = none) : pairL l0 l1 l2 l3 p = none :=
  List.findSome?_eq_none_iff.mpr fun j hj => h j (List.mem_range.mp hj)
section
variable {P : Program} {w : World} {K : PySem.W.Frag} {mg : Str → Option Value} {base : Heap}
/-! ### pair_of -/
def PairTold (p : Int) (f : List Int) (v : V) (H : Hp) : Prop := match pairF p f with
  | none => v = .non
  | some (g, h) => TwoT (g.map V.int) (h.map V.int) v H
def spPairOf (K : PySem.W.Frag) : Sp := fun vs H Q _ => ∃ (a : Addr) (f : List Int) (p : Int), vs = [.ref a, .int p] ∧ SqT K H a (f.map V.int) ∧ f.length = 5 ∧ Red p f ∧ 1 < p ∧ p ≤ 1000 ∧ ∀ v H2, Ex H H2 → PairTold p f v H2 → Q v H2
theorem ok_pairOf {f f2 : Addr} {fd fd2 : FuncData} {k : Nat} (F : Fun K "pair_of" "pair_of" sPairOf f fd)
    (F2 : Fun K "turned" "turned" sTurned f2 fd2) (b2 : Binds K fd2 ["a", "p"] []) (g2 : mg "turned" = some (.ref f2)) (G2 : FnOk P w K mg base CX0 (k + 1) f2 fd2 ["a", "p"] spTurned) (mra : mg "range" = none) :
    FnOk P w K mg base CX0 (k + 2) f fd ["left", "p"] (spPairOf K) := by
  refine F.ok scPairOf (fun vs H Q E h => ?_) (fun cdv A outer s H vs Q E hr h => ?_)
  · obtain ⟨a, f, p, rfl, _⟩ := h
    rfl
  · obtain ⟨a, g, p, rfl, hA, hl5, hred, hp, hp2, q⟩ := h
    refine ⟨_, pss_cons (ps_asg (pe_slice sl_tupA (pv 0) po_none (po_some pe_int)) (pg_tup (by rfl) (pgs_cons (pg_name (i := 2) scPairOf.nd rfl (.inl rfl)) (pgs_cons (pg_name (i := 3) scPairOf.nd rfl (.inl rfl)) (pgs_cons (pg_name (i := 4) scPairOf.nd rfl (.inl rfl)) (pgs_cons (pg_name (i := 5) scPairOf.nd rfl (.inl rfl)) pgs_nil))))))
      (pss_cons (ps_for PassesOwn.never rfl (pi_range2 (by rfl) mra (pa_cons pe_int (pa_cons (pv 1) pa_nil))) (pg_name (i := 6) scPairOf.nd rfl (.inl rfl))
        (pss_cons (ps_set (i := 7) scPairOf.nd rfl (.inl rfl) (pe_op op_mod (pe_op op_mul (pv 2) (pe_call G2 hr (by rfl) g2 F2.kp b2 .nil pass0 (pa_cons (pv 6) (pa_cons (pv 1) pa_nil)))) (pv 1)))
        (pss_one (ps_if (pt_cmpR op_ne (pv 6) (pv 7) (nomark _))
          (pss_cons (ps_set (i := 8) scPairOf.nd rfl (.inl rfl) (pe_op op_mod (pe_op op_mul (pe_op op_sub (pv 3) (pe_op op_mul (pv 6) (pv 5))) (pe_call G2 hr (by rfl) g2 F2.kp b2 .nil pass0 (pa_cons (pe_op op_sub (pv 7) (pv 6)) (pa_cons (pv 1) pa_nil)))) (pv 1)))
          (pss_one (ps_if (pt_cmpR op_eq (pe_op op_mod (pe_op op_sub (pe_op op_add (pe_op op_add (pe_op op_mul (pv 8) (pe_op op_sub (pv 5) (pv 8))) (pv 6)) (pv 7)) (pv 4)) (pv 1)) pe_int (nomark _))
            (pss_one (ps_ret (pe_lst (pa_cons (pe_tup (pa_cons (pv 6) (pa_cons (pv 8) (pa_cons pe_int pa_nil)))) (pa_cons (pe_tup (pa_cons (pv 7) (pa_cons (pe_op op_mod (pe_op op_sub (pv 5) (pv 8)) (pv 1)) (pa_cons pe_int pa_nil)))) pa_nil))))) pss_nil)))
          (pss_one (ps_if (pt_cmpR op_eq (pe_op op_mod (pe_op op_sub (pv 3) (pe_op op_mul (pv 6) (pv 5))) (pv 1)) pe_int (nomark _))
            (pss_one (ps_for PassesOwn.never rfl (pi_range1 (by rfl) mra (pa_cons (pv 1) pa_nil)) (pg_name (i := 8) scPairOf.nd rfl (.inl rfl))
              (pss_one (ps_if (pt_cmpR op_eq (pe_op op_mod (pe_op op_sub (pe_op op_add (pe_op op_add (pe_op op_mul (pv 8) (pe_op op_sub (pv 5) (pv 8))) (pv 6)) (pv 7)) (pv 4)) (pv 1)) pe_int (nomark _))
                (pss_one (ps_ret (pe_lst (pa_cons (pe_tup (pa_cons (pv 6) (pa_cons (pv 8) (pa_cons pe_int pa_nil)))) (pa_cons (pe_tup (pa_cons (pv 7) (pa_cons (pe_op op_mod (pe_op op_sub (pv 5) (pv 8)) (pv 1)) (pa_cons pe_int pa_nil)))) pa_nil))))) pss_nil))))
            pss_nil))))))
      (pss_one (ps_ret pe_non))), ?_⟩
    match g, hl5 with
    | [l0, l1, l2, l3, l4], _ =>
    have m0 := hred l0 (by simp)
    have m1 := hred l1 (by simp)
    have m2 := hred l2 (by simp)
    have m3 := hred l3 (by simp)
    have eF : pairF p [l0, l1, l2, l3, l4] = pairL l0 l1 l2 l3 p := rfl
    have md : ∀ z : Int, 0 ≤ z % p ∧ z % p < p := fun z => ⟨Int.emod_nonneg _ (by omega), Int.emod_lt_of_pos _ (by omega)⟩
    -- low, one, two, three = left[:4]
    refine ⟨.ref a, rfl, 4, rfl, a, _, rfl, hA, fun hw => absurd (show HT.sIx 5 5 (some 4) = 5 from hw.2) (by decide), fun _ c nc => ?_⟩
    refine ⟨c, _, rfl, Evl.st_of upd_same, rfl, .int l0, _, rfl, .int l1, _, rfl, .int l2, _, rfl, .int l3, [], rfl, rfl, ?_⟩
    have e1 : Ex H (upd H c (.tup (cutV (([l0, l1, l2, l3, l4] : List Int).map V.int) none (some 4)))) := Ex.new nc
    refine Evl.q_forR2 (lo := 1) (n := p) (Evl.ea_cons ev_c (Evl.ea_cons (ev_var rfl) Evl.ea_nil)) (by omega)
      (fun i σ' H' => Ex H H' ∧ (∀ j : Nat, j < i → candA l0 l1 l2 l3 p (1 + (j : Int)) = none) ∧ ∃ y6 y7 y8, σ' = [some (.ref a), some (.int p), some (.int l0), some (.int l1), some (.int l2), some (.int l3), y6, y7, y8])
      (fun H1 e => ⟨e1.trans e, fun j hj => absurd hj (Nat.not_lt_zero j), none, none, none, rfl⟩) (fun i σ' H' hi hPv => ?_) (fun σ' H' hPv => ?_)
    · obtain ⟨e, hnone, y6, y7, y8, rfl⟩ := hPv
      have hi2 : i < p.toNat - 1 := by omega
      have hfin : ∀ v H2, Ex H H2 → ∀ g' h', candA l0 l1 l2 l3 p (1 + (i : Int)) = some (g', h') → TwoT (g'.map V.int) (h'.map V.int) v H2 → Q v H2 := fun v H2 e2 g' h' hc ht => by
        refine q v H2 e2 ?_
        unfold PairTold
        rw [eF, pairL_some hi2 hnone hc]
        exact ht
      have hnext : candA l0 l1 l2 l3 p (1 + (i : Int)) = none → ∀ j : Nat, j < i + 1 → candA l0 l1 l2 l3 p (1 + (j : Int)) = none := fun hc j hj => by
        by_cases hji : j = i
        · rw [hji]; exact hc
        · exact hnone j (by omega)
      have hb : 1 ≤ 1 + (i : Int) ∧ 1 + (i : Int) < p := by omega
      unfold candA at hfin hnext
      dsimp only at hfin hnext
      generalize 1 + (i : Int) = b at *
      have hib := inv_range (a := b) (p := p) (by omega)
      have hd := md (l0 * inv b p)
      -- d
      refine Evl.q_asg (v := .int (l0 * inv b p % p)) (ev_op (ev_op (ev_var rfl) (Evl.ev_call (vs := [.int b, .int p]) (Evl.ea_cons (ev_var rfl) (Evl.ea_cons (ev_var rfl) Evl.ea_nil)) fun H4 e4 Q4 q4 E4 => ⟨b, p, rfl, hp, hp2, q4⟩) (Evl.rv_I (.inl ⟨by omega, by omega⟩))) (ev_var rfl) (Evl.rv_I (by show (0 : Int) < p; omega))) fun H1 e1' => ?_
      generalize l0 * inv b p % p = d at *
      refine Evl.s_if (b := !decide (b = d)) (Evl.et_test (ev_op (ev_var rfl) (ev_var rfl) rv_neI)) (fun hne H2 e2 => ?_) (fun hne H2 e2 => ?_)
      · have hne' : b ≠ d := by simpa using hne
        have hidb := inv_range (a := d - b) (p := p) (by omega)
        have ha := md ((l1 - b * l3) * inv (d - b) p)
        rw [if_pos hne'] at hfin hnext
        refine Evl.q_asg (v := .int ((l1 - b * l3) * inv (d - b) p % p)) (ev_op (ev_op (ev_op (ev_var rfl) (ev_op (ev_var rfl) (ev_var rfl) (Evl.rv_I (.inl ⟨by omega, by omega⟩))) Evl.rv_I0) (Evl.ev_call (vs := [.int (d - b), .int p]) (Evl.ea_cons (ev_op (ev_var rfl) (ev_var rfl) Evl.rv_I0) (Evl.ea_cons (ev_var rfl) Evl.ea_nil)) fun H4 e4 Q4 q4 E4 => ⟨d - b, p, rfl, hp, hp2, q4⟩) (Evl.rv_I (.inr ⟨by omega, by omega⟩))) (ev_var rfl) (Evl.rv_I (by show (0 : Int) < p; omega))) fun H3 e3 => ?_
        generalize (l1 - b * l3) * inv (d - b) p % p = aa at *
        refine Evl.s_when (b := decide ((aa * (l3 - aa) + b + d - l2) % p = 0)) (Evl.et_test (ev_op (ev_op (ev_op (ev_op (ev_op (ev_op (ev_var rfl) (ev_op (ev_var rfl) (ev_var rfl) Evl.rv_I0) (Evl.rv_I (.inl ⟨by omega, by omega⟩))) (ev_var rfl) Evl.rv_I0) (ev_var rfl) Evl.rv_I0) (ev_var rfl) Evl.rv_I0) (ev_var rfl) (Evl.rv_I (by show (0 : Int) < p; omega))) ev_c rv_eqI)) (fun hc H4 e4 => ?_) (fun hc H4 e4 => ?_)
        · rw [if_pos (of_decide_eq_true hc)] at hfin
          refine s_retP (ep_lst2 (xs := [.int b, .int aa, .int 1]) (ys := [.int d, .int ((l3 - aa) % p), .int 1]) (Evl.eu_tup (Evl.ea_cons (ev_var rfl) (Evl.ea_cons (ev_var rfl) (Evl.ea_cons ev_c Evl.ea_nil))) (by show 3 ≤ 100000; decide))
            (fun H5 e5 => Evl.eu_tup (Evl.ea_cons (ev_var rfl) (Evl.ea_cons (ev_op (ev_op (ev_var rfl) (ev_var rfl) Evl.rv_I0) (ev_var rfl) (Evl.rv_I (by show (0 : Int) < p; omega))) (Evl.ea_cons ev_c Evl.ea_nil))) (by show 3 ≤ 100000; decide))) fun v H5 e5 h5 => ?_
          exact hfin v H5 (((((e.trans e1').trans e2).trans e3).trans e4).trans e5) _ _ rfl h5
        · rw [if_neg (of_decide_eq_false hc)] at hnext
          exact ⟨(((e.trans e1').trans e2).trans e3).trans e4, hnext rfl, _, _, _, rfl⟩
      · have hbd : b = d := by simpa using hne
        rw [if_neg (fun z : b ≠ d => z hbd)] at hfin hnext
        refine Evl.s_when (b := decide ((l1 - b * l3) % p = 0)) (Evl.et_test (ev_op (ev_op (ev_op (ev_var rfl) (ev_op (ev_var rfl) (ev_var rfl) (Evl.rv_I (.inl ⟨by omega, by omega⟩))) Evl.rv_I0) (ev_var rfl) (Evl.rv_I (by show (0 : Int) < p; omega))) ev_c rv_eqI)) (fun hc H3 e3 => ?_) (fun hc H3 e3 => ?_)
        · rw [if_pos (of_decide_eq_true hc)] at hfin hnext
          refine Evl.s_forR1 (n := p) (Evl.ea_cons (ev_var rfl) Evl.ea_nil) (by omega)
            (fun i' σ' H' => Ex H H' ∧ (∀ j : Nat, j < i' → ((j : Int) * (l3 - (j : Int)) + b + d - l2) % p ≠ 0) ∧ ∃ y8, σ' = [some (.ref a), some (.int p), some (.int l0), some (.int l1), some (.int l2), some (.int l3), some (.int b), some (.int d), y8])
            (fun H4 e4 => ⟨(((e.trans e1').trans e2).trans e3).trans e4, fun j hj => absurd hj (Nat.not_lt_zero j), _, rfl⟩) (fun i' σ' H' hi' hPv => ?_) (fun σ' H' hPv => ?_)
          · obtain ⟨e4, hno, y8', rfl⟩ := hPv
            refine Evl.s_when (b := decide (((i' : Int) * (l3 - (i' : Int)) + b + d - l2) % p = 0)) (Evl.et_test (ev_op (ev_op (ev_op (ev_op (ev_op (ev_op (ev_var rfl) (ev_op (ev_var rfl) (ev_var rfl) Evl.rv_I0) (Evl.rv_I (.inl ⟨by omega, by omega⟩))) (ev_var rfl) Evl.rv_I0) (ev_var rfl) Evl.rv_I0) (ev_var rfl) Evl.rv_I0) (ev_var rfl) (Evl.rv_I (by show (0 : Int) < p; omega))) ev_c rv_eqI)) (fun hc2 H4 e5 => ?_) (fun hc2 H4 e5 => ?_)
            · have hfa := findA_some (i := i') (by omega) hno (of_decide_eq_true hc2)
              rw [hfa] at hfin
              refine s_retP (ep_lst2 (xs := [.int b, .int (i' : Int), .int 1]) (ys := [.int d, .int ((l3 - (i' : Int)) % p), .int 1]) (Evl.eu_tup (Evl.ea_cons (ev_var rfl) (Evl.ea_cons (ev_var rfl) (Evl.ea_cons ev_c Evl.ea_nil))) (by show 3 ≤ 100000; decide))
                (fun H5 e6 => Evl.eu_tup (Evl.ea_cons (ev_var rfl) (Evl.ea_cons (ev_op (ev_op (ev_var rfl) (ev_var rfl) Evl.rv_I0) (ev_var rfl) (Evl.rv_I (by show (0 : Int) < p; omega))) (Evl.ea_cons ev_c Evl.ea_nil))) (by show 3 ≤ 100000; decide))) fun v H5 e6 h5 => ?_
              exact hfin v H5 ((e4.trans e5).trans e6) _ _ rfl h5
            · refine ⟨e4.trans e5, fun j hj => ?_, _, rfl⟩
              by_cases hji : j = i'
              · rw [hji]; exact of_decide_eq_false hc2
              · exact hno j (by omega)
          · obtain ⟨e4, hno, y8', rfl⟩ := hPv
            have hfa := findA_none hno
            rw [hfa] at hnext
            exact ⟨e4, hnext rfl, _, _, _, rfl⟩
        · rw [if_neg (of_decide_eq_false hc)] at hnext
          exact ⟨((e.trans e1').trans e2).trans e3, hnext rfl, _, _, _, rfl⟩
    · obtain ⟨e, hnone, y6, y7, y8, rfl⟩ := hPv
      refine Evl.s_ret ev_c fun H2 e2 => q _ H2 (e.trans e2) ?_
      unfold PairTold
      rw [eF, pairL_none fun j hj => hnone j (by omega)]
end
end RH
namespace RH
open PySem PySem.Spec PyProof.Rows L2
open Evl (Ev EvL EvU EvT EvA EvO Ex ev_c ev_var ev_op ev_un ea_nil ea_cons)
/-! ### parts in the heap -/
def PartAt (K : PySem.W.Frag) (H : Hp) (x : V) (a : List Int × Int) : Prop := ∃ q ga, x = .ref q ∧ SqT K H q [.ref ga, .int a.2] ∧ SqT K H ga (a.1.map V.int)
def PartsAt (K : PySem.W.Frag) (H : Hp) (xs : List V) (parts : List (List Int × Int)) : Prop := Paired (PartAt K H) xs parts
section
variable {K : PySem.W.Frag} {σ : L2.St} {H H' : Hp} {ta tb tc te tx : TE} {x y z v : V} {r : R2} {D : Ends} {tu tw tz : TS} {parts parts' : List (List Int × Int)} {xs ys : List V}
theorem sqt_upd {a l : Addr} {zs : List V} {o : HO} (hl : H l = some (.lst zs)) (h : SqT K H a xs) : SqT K (upd H l o) a xs := by
  rcases h with (h | ⟨u, h⟩) | h
  · exact .inl (.inl (by rw [upd_ne (ne_of h hl (by intro z; cases z))]; exact h))
  · exact .inl (.inr ⟨u, by rw [upd_ne (ne_of h hl (by intro z; cases z))]; exact h⟩)
  · exact .inr h
theorem PartAt.ex {a : List Int × Int} (e : Ex H H') (h : PartAt K H x a) : PartAt K H' x a := by
  obtain ⟨q, ga, rfl, h1, h2⟩ := h
  exact ⟨q, ga, rfl, Evl.ex_t e h1, Evl.ex_t e h2⟩
theorem PartsAt.ex (e : Ex H H') (h : PartsAt K H xs parts) : PartsAt K H' xs parts := Paired.mapP h fun _ _ h => h.ex e
theorem PartsAt.upd {l : Addr} {zs : List V} {o : HO} (hl : H l = some (.lst zs)) (h : PartsAt K H xs parts) : PartsAt K (upd H l o) xs parts := Paired.mapP h fun _ _ h => by
  obtain ⟨q, ga, rfl, h1, h2⟩ := h
  exact ⟨q, ga, rfl, sqt_upd hl h1, sqt_upd hl h2⟩
theorem PartsAt.append : ∀ {xs : List V} {parts : List (List Int × Int)} {ys : List V} {parts' : List (List Int × Int)}, PartsAt K H xs parts → PartsAt K H ys parts' → PartsAt K H (xs ++ ys) (parts ++ parts')
  | _, _, _, _, .nil, s => s
  | _, _, _, _, .cons r t, s => .cons r (PartsAt.append t s)
theorem PartsAt.len (h : PartsAt K H xs parts) : xs.length = parts.length := Paired.length h
theorem code_inj3 {p a b d e : Int} (hp : p ≤ 256) (r1 : Red p [a, b, 1]) (r2 : Red p [d, e, 1]) (h : TS.code 256 [a, b, 1] = TS.code 256 [d, e, 1]) : ([a, b, 1] : List Int) = [d, e, 1] := by
  have h1 := r1 b (by simp)
  have h2 := r2 e (by simp)
  have h3 := r1 a (by simp)
  have h4 := r2 d (by simp)
  have h' : a * 65536 + (b * 256 + (1 * 1 + 0)) = d * 65536 + (e * 256 + (1 * 1 + 0)) := h
  have ea : a = d := by omega
  have eb : b = e := by omega
  rw [ea, eb]
theorem code_ts3 (a b : Int) : TS.code 256 [a, b, 1] = code [a, b, 1] := by
  rw [code3]
  show a * 65536 + (b * 256 + (1 * 1 + 0)) = _
  omega
/-- a new list of parts -/
def EvPt (K : PySem.W.Frag) (te : TE) (σ : L2.St) (H : Hp) (parts : List (List Int × Int)) : Prop := ∀ H1, Ex H H1 → ∀ Q : VK, (∀ l H2 xs, H1 l = none → Ex H1 H2 → H2 l = some (.lst xs) → PartsAt K H2 xs parts → Q (.ref l) H2) → te σ H1 Q
def RetPt (K : PySem.W.Frag) (parts : List (List Int × Int)) (H : Hp) (Q : VK) : Prop := ∀ l H2 xs, H l = none → Ex H H2 → H2 l = some (.lst xs) → PartsAt K H2 xs parts → Q (.ref l) H2
theorem RetPt.go {Q : VK} (k : RetPt K parts H Q) (e : Ex H H') : RetPt K parts H' Q := fun l H2 xs hl e2 h1 h2 => k l H2 xs (Evl.fresh_back e hl) (e.trans e2) h1 h2
theorem s_retPt (h : EvPt K te σ H parts) (k : RetPt K parts H D.rt) : tRet te D σ H := h H (Ex.refl H) _ k
theorem q_asgPt {i : Nat} (h : EvPt K te σ H parts) (k : ∀ l H1 xs, H l = none → Ex H H1 → H1 l = some (.lst xs) → PartsAt K H1 xs parts → tz D (σ.set i (some (.ref l))) H1) : tSeq (tAsg te (gName i)) tz D σ H := h H (Ex.refl H) _ fun l H1 xs hl e h1 h2 => k l H1 xs hl e h1 h2
theorem s_asgPt {i : Nat} (h : EvPt K te σ H parts) (k : ∀ l H1 xs, H l = none → Ex H H1 → H1 l = some (.lst xs) → PartsAt K H1 xs parts → D.nx (σ.set i (some (.ref l))) H1) : tAsg te (gName i) D σ H := h H (Ex.refl H) _ fun l H1 xs hl e h1 h2 => k l H1 xs hl e h1 h2
def SpPt (K : PySem.W.Frag) (sp : Sp) (vs : List V) (H : Hp) (parts : List (List Int × Int)) : Prop := ∀ H1, Ex H H1 → ∀ Q : VK, RetPt K parts H1 Q → ∀ E : XK, sp vs H1 Q E
theorem ept_call {sp : Sp} {dvs vs : List V} {E : XK} {ta : TA} (h : EvA ta σ H vs) (hs : SpPt K sp (vs ++ dvs) H parts) : EvPt K (tCall sp dvs E ta) σ H parts := fun H1 e Q q =>
  h H1 e _ fun H2 e2 => hs H2 (e.trans e2) Q (fun l H3 xs hl e3 h3 h4 => q l H3 xs (Evl.fresh_back e2 hl) (e2.trans e3) h3 h4) E
/-- [(g, n)] -/
theorem ept_one {g : List Int} {n : Int} {ga : Addr} (h1 : Ev ta σ H (.ref ga)) (hg : SqT K H ga (g.map V.int)) (h2 : Ev tb σ H (.int n)) : EvPt K (tLst (tCons (tTup (tCons ta (tCons tb tNil))) tNil)) σ H [(g, n)] := fun H1 e Q q => by
  show tTup (tCons ta (tCons tb tNil)) σ H1 (fun x H2 => [x].length ≤ sizeLine ∧ ∀ p, H2 p = none → Q (.ref p) (upd H2 p (.lst [x])))
  exact Evl.eu_tup (Evl.ea_cons h1 (Evl.ea_cons h2 Evl.ea_nil)) (by show 2 ≤ 100000; decide) H1 e _ fun a H2 na e2 ha => ⟨Evl.sz_of (by show 1 ≤ 100000; decide), fun l hl =>
    q l _ [.ref a] (Evl.fresh_back e2 hl) (e2.trans (Ex.new hl)) upd_same (.cons ⟨a, ga, rfl, Evl.st_of (Ex.new hl _ _ ha), Evl.ex_t ((e.trans e2).trans (Ex.new hl)) hg⟩ .nil)⟩
/-- [(g, n) for g in xs] -/
theorem ept_lc {tl : TE} {j : Nat} {vs : List Nat} (h : EvP tl σ H (fun v H2 => ∃ a, v = .ref a ∧ H2 a = some (.lst xs))) (hl : parts.length = xs.length) (hz : xs.length ≤ 40000) (hw : ∀ x, wipe ((wipe σ vs).set j (some x)) vs = wipe σ vs)
    (he : ∀ (i : Nat) (x : V) H1, Ex H H1 → xs[i]? = some x → ∃ b, parts[i]? = some b ∧ EvP te ((wipe σ vs).set j (some x)) H1 (fun y H2 => PartAt K H2 y b)) :
    EvPt K (tLc (iList K tl) (gName j) tYes te vs) σ H parts := fun H0 e Q q => h H0 e _ fun v H1 e1 hv => by
  obtain ⟨a, rfl, ha⟩ := hv
  refine ⟨a, rfl, ⟨xs, Evl.sq_of ha⟩, fun Dl hD => lc_list (xs := xs) (fun i H' => Ex H1 H' ∧ ∃ acc, H' Dl = some (.lst acc) ∧ acc.length = i ∧ PartsAt K H' acc (parts.take i)) ⟨Ex.new hD, [], upd_same, rfl, .nil⟩
    (fun i H' _ p => Evl.sq_of (p.1 a _ ha)) (fun i x H' hi p => ⟨hw x, ?_⟩) (fun H' p => ?_)⟩
  · obtain ⟨eH, acc, hA, hAl, hP⟩ := p
    obtain ⟨b, hb, hev⟩ := he i x H1 (e.trans e1) hi
    have hl2 := (List.getElem?_eq_some_iff.mp hi).1
    show te _ H' fun y H4 => _
    refine hev H' eH _ fun y H4 e4 hy => ⟨acc, e4 _ _ hA, Evl.sz_lt (by omega), Ex.mut (eH.trans e4) hD, _, upd_same, by rw [List.length_append, hAl]; rfl, ?_⟩
    rw [List.take_add_one, hb]
    exact PartsAt.append (PartsAt.upd (e4 _ _ hA) (hP.ex e4)) (PartsAt.upd (e4 _ _ hA) (.cons hy .nil))
  · obtain ⟨eH, acc, hA, hAl, hP⟩ := p
    rw [← hl, List.take_length] at hP
    exact q Dl H' acc (Evl.fresh_back e1 hD) (e1.trans eH) hA hP
theorem ep_part {g : List Int} {n : Int} {ga : Addr} (h1 : Ev ta σ H (.ref ga)) (hg : SqT K H ga (g.map V.int)) (h2 : Ev tb σ H (.int n)) : EvP (tTup (tCons ta (tCons tb tNil))) σ H (fun y H2 => PartAt K H2 y (g, n)) := fun H1 e Q q =>
  Evl.eu_tup (Evl.ea_cons h1 (Evl.ea_cons h2 Evl.ea_nil)) (by show 2 ≤ 100000; decide) H1 e _ fun a H2 na e2 ha => q _ H2 e2 ⟨a, ga, rfl, Evl.st_of ha, Evl.ex_t (e.trans e2) hg⟩
/-- ((a, b), n) -/
theorem ep_part2 {g : List Int} {n : Int} (h1 : EvU ta σ H (g.map V.int)) (h2 : Ev tb σ H (.int n)) : EvP (tTup (tCons ta (tCons tb tNil))) σ H (fun y H2 => PartAt K H2 y (g, n)) := fun H1 e Q q =>
  h1 H1 e _ fun ga H2 _ e2 hg => h2 H2 (e.trans e2) _ fun H3 e3 => ⟨Evl.sz_of (by show 2 ≤ 100000; decide), fun a ha =>
    q _ _ ((e2.trans e3).trans (Ex.new ha)) ⟨a, ga, rfl, Evl.st_of upd_same, Evl.st_of (Ex.new ha _ _ (e3 _ _ hg))⟩⟩
theorem s_appP {l : Addr} {P : V → Hp → Prop} (hl : H l = some (.lst xs)) (ha : Ev ta σ H (.ref l)) (h : EvP te σ H P) (hz : xs.length < 100000) (k : ∀ y H1, Ex H H1 → P y H1 → D.nx σ (upd H1 l (.lst (xs ++ [y])))) :
    tDrop (tBM K "list" rAppend ta (tCons te tNil)) D σ H := ha H (Ex.refl H) _ fun H1 e1 =>
  ⟨Or.inl ⟨rfl, xs, Evl.sq_of (e1 l _ hl)⟩, h H1 e1 _ fun y H2 e2 hy => ⟨l, xs, y, rfl, rfl, e2 l _ (e1 l _ hl), Evl.sz_lt hz, k y H2 (e1.trans e2) hy⟩⟩
theorem q_appP {l : Addr} {P : V → Hp → Prop} (hl : H l = some (.lst xs)) (ha : Ev ta σ H (.ref l)) (h : EvP te σ H P) (hz : xs.length < 100000) (k : ∀ y H1, Ex H H1 → P y H1 → tz D σ (upd H1 l (.lst (xs ++ [y])))) :
    tSeq (tDrop (tBM K "list" rAppend ta (tCons te tNil))) tz D σ H := s_appP (D := { D with nx := tz D }) hl ha h hz k
/-- a + b, a known list and a new list of parts -/
theorem ept_cat {l : Addr} (ha : Ev ta σ H (.ref l)) (hl : H l = some (.lst xs)) (hp : PartsAt K H xs parts) (hb : EvPt K tb σ H parts') (hz : parts.length + parts'.length ≤ 1000) : EvPt K (tOp rCat ta tb) σ H (parts ++ parts') := fun H1 e Q q =>
  ha H1 e _ fun H2 e2 => hb H2 (e.trans e2) _ fun b H3 ys nb e3 hB hp' => by
    have hl3 := e3 _ _ (e2 _ _ (e _ _ hl))
    have h1 := hp.len
    have h2 := hp'.len
    refine ⟨l, b, xs, ys, rfl, rfl, hl3, hB, Evl.sz_of (by omega), fun p hp3 => q p _ (xs ++ ys) (Evl.fresh_back (e2.trans e3) hp3) ((e2.trans e3).trans (Ex.new hp3)) upd_same ?_⟩
    exact PartsAt.append (hp.ex (((e.trans e2).trans e3).trans (Ex.new hp3))) (hp'.ex (Ex.new hp3))
theorem ep_call3 {sp : Sp} {E : XK} {P : V → Hp → Prop} (ha : Ev ta σ H x) (hb : EvU tb σ H ys) (hc : Ev tc σ H z) (hs : ∀ b H1, Ex H H1 → H1 b = some (.tup ys) → SpP sp [x, .ref b, z] H1 P) : EvP (tCall sp [] E (tCons ta (tCons tb (tCons tc tNil)))) σ H P := fun H1 e Q q =>
  ha H1 e _ fun H2 e2 => hb H2 (e.trans e2) _ fun b H3 _ e3 h3 => hc H3 ((e.trans e2).trans e3) _ fun H4 e4 =>
    hs b H4 (((e.trans e2).trans e3).trans e4) (e4 _ _ h3) H4 (Ex.refl H4) Q (fun v H5 e5 hv => q v H5 (((e2.trans e3).trans e4).trans e5) hv) E
theorem ep_ix0 {P : V → Hp → Prop} (h : EvP ta σ H (fun v H2 => ∃ c d e, v = .ref c ∧ H2 c = some (.tup [.ref d, .ref e]) ∧ P (.ref d) H2)) : EvP (tOp (rIxT K) ta (tC (.int 0))) σ H P := fun H1 e Q q =>
  h H1 e _ fun v H2 e2 hv => by
    obtain ⟨c, d, e', rfl, hc, hP⟩ := hv
    exact ⟨c, _, 0, .ref d, rfl, rfl, Evl.st_of hc, rfl, q _ H2 e2 hP⟩
theorem ep_sorted {a : Addr} {g h : List Int} {x y : Addr} (ha : Ev ta σ H (.ref a)) (hl : H a = some (.lst [.ref x, .ref y])) (hx : SqT K H x (g.map V.int)) (hy : SqT K H y (h.map V.int)) (hg : g.length = 3) (hh : h.length = 3) (bg : TS.Bd 256 g) (bh : TS.Bd 256 h) :
    EvP (tCB (rSortU K 3 256) (tCons ta tNil)) σ H (fun v H2 => ∃ l, v = .ref l ∧ H2 l = some (.lst (if TS.code 256 g ≤ TS.code 256 h then [.ref x, .ref y] else [.ref y, .ref x])) ∨ (TS.code 256 g = TS.code 256 h ∧ v = .ref l ∧ H2 l = some (.lst [.ref y, .ref x]))) := fun H1 e Q q =>
  ha H1 e _ fun H2 e2 => by
    have e12 := e.trans e2
    refine ⟨a, [.ref x, .ref y], rfl, Evl.sq_of (e12 _ _ hl), by show 2 < 64; decide, fun z hz => ?_, fun ys p perm pw np => ?_⟩
    · rcases List.mem_cons.mp hz with e1 | hz
      · rw [e1]
        exact ⟨g, ⟨x, rfl, Evl.ex_t e12 hx⟩, hg, bg⟩
      · rw [List.mem_singleton.mp hz]
        exact ⟨h, ⟨y, rfl, Evl.ex_t e12 hy⟩, hh, bh⟩
    · have ng : TupI K H2 (.ref x) g := ⟨x, rfl, Evl.ex_t e12 hx⟩
      have nh : TupI K H2 (.ref y) h := ⟨y, rfl, Evl.ex_t e12 hy⟩
      have hlen := perm.length_eq
      refine q _ _ (e2.trans (Ex.new np)) ⟨p, ?_⟩
      match ys, hlen with
      | [u, v], _ =>
        have hu : u = .ref x ∨ u = .ref y := by
          have := perm.mem_iff.mp (List.mem_cons_self (a := u) (l := [v]))
          simpa using this
        have pw1 := (List.pairwise_cons.mp pw).1 v (by simp)
        rcases hu with rfl | rfl
        · have hv : v = .ref y := by
            have := (List.perm_cons (a := V.ref x)).mp perm
            simpa using this
          subst hv
          have hle := pw1 g h ng nh
          rw [if_pos hle]
          exact .inl ⟨rfl, upd_same⟩
        · have hv : v = .ref x := by
            have p2 : [V.ref y, v].Perm [V.ref y, V.ref x] := perm.trans (List.Perm.swap _ _ _)
            have := (List.perm_cons (a := V.ref y)).mp p2
            simpa using this
          subst hv
          have hle := pw1 h g nh ng
          by_cases c : TS.code 256 g ≤ TS.code 256 h
          · exact .inr ⟨Int.le_antisymm c hle, rfl, upd_same⟩
          · rw [if_neg c]
            exact .inl ⟨rfl, upd_same⟩
end
end RH
namespace RH
open PySem PySem.Spec PyProof.Rows L2
open Evl (Ev EvL EvU EvT EvA EvO Ex ev_c ev_var ev_op ev_un ea_nil ea_cons)
section
variable {P : Program} {w : World} {K : PySem.W.Frag} {mg : Str → Option Value} {base : Heap}
/-! ### rootless -/
def spRootless (K : PySem.W.Frag) : Sp := fun vs H Q _ => ∃ (a : Addr) (f : List Int) (p : Int), vs = [.ref a, .int p] ∧ SqT K H a (f.map V.int) ∧ f.length ≤ 5 ∧ Red p f ∧ Pr p ∧ p ≤ 256 ∧ RetPt K (rootlessF p f) H Q
theorem bd_of {p : Int} (hp : p ≤ 256) {g : List Int} (r : Red p g) : TS.Bd 256 g := fun m hm => by
  have := r m hm
  omega
theorem ok_rootless {f f1 : Addr} {fd fd1 : FuncData} {k : Nat} (F : Fun K "rootless" "rootless" sRootless f fd)
    (F1 : Fun K "pair_of" "pair_of" sPairOf f1 fd1) (b1 : Binds K fd1 ["left", "p"] []) (g1 : mg "pair_of" = some (.ref f1)) (G1 : FnOk P w K mg base CX0 (k + 2) f1 fd1 ["left", "p"] (spPairOf K)) (ml : mg "len" = none) (ms : mg "sorted" = none) :
    FnOk P w K mg base CX0 (k + 3) f fd ["left", "p"] (spRootless K) := by
  refine F.ok scRootless (fun vs H Q E h => ?_) (fun cdv A outer s H vs Q E hr h => ?_)
  · obtain ⟨a, f, p, rfl, _⟩ := h
    rfl
  · obtain ⟨a, g, p, rfl, hA, hl5, hred, hP, hp2, q⟩ := h
    have hp := hP.1
    refine ⟨_, pss_cons (ps_set (i := 2) scRootless.nd rfl (.inl rfl) pe_non)
      (Evl.pss_cut (ps_if (pt_cmpR op_eq (pe_callB call_len' (by rfl) ml PySem.boot_len (pa_cons (pv 0) pa_nil)) pe_int (nomark _)) (pss_one (ps_set (i := 2) scRootless.nd rfl (.inl rfl) (pe_call G1 hr (by rfl) g1 F1.kp b1 .nil pass0 (pa_cons (pv 0) (pa_cons (pv 1) pa_nil))))) pss_nil)
      (pss_cons (ps_if (pt_cmpR op_isN (pv 2) pe_non (nomark _)) (pss_one (ps_ret (pe_lst (pa_cons (pe_tup (pa_cons (pv 0) (pa_cons pe_int pa_nil))) pa_nil)))) pss_nil)
      (pss_cons (ps_if (pt_cmpR (op_eqD hr.units) (pe_ix ix_list (pv 2) pe_int (fun _ _ => rfl)) (pe_ix ix_list (pv 2) pe_int (fun _ _ => rfl)) (nomark _)) (pss_one (ps_ret (pe_lst (pa_cons (pe_tup (pa_cons (pe_ix ix_list (pv 2) pe_int (fun _ _ => rfl)) (pa_cons pe_int pa_nil))) pa_nil)))) pss_nil)
      (pss_one (ps_ret (pe_lc (own := [("g", 3)]) (g := gName 3) (tt := tYes) (by rfl) scRootless.nd (pi_list (pe_callB (cr_sortT (d := 3) (B := 256) (by decide)) (by rfl) ms boot_sorted (pa_cons (pv 2) pa_nil))) (blkOk_by (N := NRootless) (sc := defScope sRootless) (by decide +kernel))
        (fun _ _ _ _ _ => pg_name (i := 3) scRootless.nd rfl (.inl rfl)) (fun _ _ _ _ _ => pts_nil) (fun _ _ _ _ _ => pe_tup (pa_cons (pv 3) (pa_cons pe_int pa_nil))))))))), ?_⟩
    refine Evl.q_asg ev_c fun H1 e1 => ?_
    refine Evl.q_cut (M := fun σ' H' => ∃ v, σ' = [some (.ref a), some (.int p), some v, none] ∧ Ex H H' ∧ (match (if g.length = 5 then pairF p g else none) with
      | none => v = .non
      | some (g', h') => TwoT (g'.map V.int) (h'.map V.int) v H')) ?_ fun σ' H' hM => ?_
    · refine Evl.s_when (b := decide (g.length = 5)) (et_to ?_ (Evl.et_test (ev_op (ev_to (by rw [List.length_map]) (ev_lenT (ev_var rfl) (Evl.ex_t e1 hA))) ev_c rv_eqI))) (fun hb H2 e2 => ?_) (fun hb H2 e2 => ?_)
      · exact decide_eq_decide.mpr (by omega)
      · have h5 : g.length = 5 := of_decide_eq_true hb
        refine s_asgP (P := fun v H' => PairTold p g v H') (ep_call (vs := [.ref a, .int p]) (Evl.ea_cons (ev_var rfl) (Evl.ea_cons (ev_var rfl) Evl.ea_nil)) fun H3 e3 Q3 q3 E3 => ⟨a, g, p, rfl, Evl.ex_t ((e1.trans e2).trans e3) hA, h5, hred, hp, by omega, fun v H4 e4 h4 => q3 v H4 e4 h4⟩) fun v H3 e3 h3 => ?_
        refine ⟨v, rfl, (e1.trans e2).trans e3, ?_⟩
        rw [if_pos h5]
        exact h3
      · have h5 : ¬ g.length = 5 := of_decide_eq_false hb
        refine ⟨.non, rfl, e1.trans e2, ?_⟩
        rw [if_neg h5]
    · obtain ⟨v, rfl, e, hM⟩ := hM
      unfold rootlessF at q
      have pair5 : ∀ g' h', pairF p g = some (g', h') → ∃ b a d a', g' = [b, a, 1] ∧ h' = [d, a', 1] ∧ Red p g' ∧ Red p h' := fun g' h' hh => by
        obtain ⟨i, hi, ec⟩ := List.exists_of_findSome?_eq_some hh
        have hi' := List.mem_range.mp hi
        obtain ⟨a, d, a', h1, h2, h3, h4⟩ := pair_range hp (by omega) ec
        exact ⟨_, a, d, a', h1, h2, h3, h4⟩
      generalize hR : (if g.length = 5 then pairF p g else none) = R at hM q
      cases R with
      | none =>
        have hv : v = .non := hM
        subst hv
        refine Evl.q_when (b := true) (Evl.et_test (ev_op (ev_var rfl) ev_c fun H2 e2 Q2 q2 => ⟨rfl, q2 H2 (Ex.refl H2)⟩)) (fun _ H2 e2 => ?_) (fun hb => absurd hb (by decide))
        exact s_retPt (ept_one (ev_var rfl) (Evl.ex_t (e.trans e2) hA) ev_c) (q.go (e.trans e2))
      | some gh =>
        obtain ⟨g', h'⟩ := gh
        have hM' : TwoT (g'.map V.int) (h'.map V.int) v H' := hM
        obtain ⟨l, x, y, rfl, hl, hx, hy⟩ := hM'
        have h5 : g.length = 5 := by
          by_cases h5 : g.length = 5
          · exact h5
          · rw [if_neg h5] at hR; cases hR
        rw [if_pos h5] at hR
        obtain ⟨b, a1, d, a2, rfl, rfl, r1, r2⟩ := pair5 _ _ hR
        refine Evl.q_when (b := false) (Evl.et_test (ev_op (ev_var rfl) ev_c fun H2 e2 Q2 q2 => ⟨rfl, q2 H2 (Ex.refl H2)⟩)) (fun hb => absurd hb (by decide)) (fun _ H2 e2 => ?_)
        have hl2 := e2 _ _ hl
        have hx2 := e2 _ _ hx
        have hy2 := e2 _ _ hy
        dsimp only at q
        refine Evl.q_when (b := decide (([b, a1, 1] : List Int) = [d, a2, 1])) (Evl.et_test (ev_op (ev_op (ev_var rfl) ev_c (Evl.rv_ixL (Evl.sq_of hl2) rfl)) (ev_op (ev_var rfl) ev_c (Evl.rv_ixL (Evl.sq_of hl2) rfl)) (rv_eqT (Evl.st_of hx2) (Evl.st_of hy2)))) (fun hb H3 e3 => ?_) (fun hb H3 e3 => ?_)
        · have hb' : ([b, a1, 1] : List Int) = [d, a2, 1] := of_decide_eq_true hb
          rw [if_pos hb'] at q
          exact s_retPt (ept_one (ev_op (ev_var rfl) ev_c (Evl.rv_ixL (Evl.sq_of (e3 _ _ hl2)) rfl)) (Evl.st_of (e3 _ _ hx2)) ev_c) (q.go ((e.trans e2).trans e3))
        · have hb' : ([b, a1, 1] : List Int) ≠ [d, a2, 1] := of_decide_eq_false hb
          rw [if_neg hb'] at q
          have hx3 := Evl.st_of (K := K) (e3 _ _ hx2)
          have hy3 := Evl.st_of (K := K) (e3 _ _ hy2)
          refine s_retPt (ept_lc (xs := if code [b, a1, 1] ≤ code [d, a2, 1] then [.ref x, .ref y] else [.ref y, .ref x]) (fun H4 e4 Q4 q4 => ep_sorted (ev_var rfl) (e3 _ _ hl2) hx3 hy3 rfl rfl (bd_of hp2 r1) (bd_of hp2 r2) H4 e4 Q4 fun v H5 e5 h5 => q4 v H5 e5 ?_) ?_ ?_ (fun x => rfl) (fun i z H4 e4 hz => ?_)) (q.go ((e.trans e2).trans e3))
          · rw [code_ts3, code_ts3] at h5
            obtain ⟨l', h5⟩ := h5
            rcases h5 with h5 | h5
            · exact ⟨l', h5⟩
            · exact absurd (code_inj3 hp2 r1 r2 (by rw [code_ts3, code_ts3]; exact h5.1)) hb'
          · split <;> rfl
          · split <;> (show 2 ≤ 40000; decide)
          · split at hz
            · rename_i c
              match i, hz with
              | 0, hz =>
                cases hz
                exact ⟨([b, a1, 1], 1), by rw [if_pos c]; rfl, ep_part (ev_var rfl) (Evl.ex_t e4 hx3) ev_c⟩
              | 1, hz =>
                cases hz
                exact ⟨([d, a2, 1], 1), by rw [if_pos c]; rfl, ep_part (ev_var rfl) (Evl.ex_t e4 hy3) ev_c⟩
              | i + 2, hz => simp at hz
            · rename_i c
              match i, hz with
              | 0, hz =>
                cases hz
                exact ⟨([d, a2, 1], 1), by rw [if_neg c]; rfl, ep_part (ev_var rfl) (Evl.ex_t e4 hy3) ev_c⟩
              | 1, hz =>
                cases hz
                exact ⟨([b, a1, 1], 1), by rw [if_neg c]; rfl, ep_part (ev_var rfl) (Evl.ex_t e4 hx3) ev_c⟩
              | i + 2, hz => simp at hz
end
end RH
namespace RH
open PySem PySem.Spec PyProof.Rows L2
open Evl (Ev EvL EvU EvT EvA EvO Ex ev_c ev_var ev_op ev_un ea_nil ea_cons)
theorem inV_ints {n : Int} {ns : List Int} (h : n ∈ ns) : inV (.int n) (ns.map V.int) = true := by
  unfold inV
  rw [List.any_map, List.any_eq_true]
  exact ⟨n, h, by show (n == n) = true; exact beq_self_eq_true n⟩
theorem flat_ints (ns : List Int) : (ns.map V.int).all flatV = true := by
  rw [List.all_map, List.all_eq_true]
  intro n _
  rfl
section
variable {P : Program} {w : World} {K : PySem.W.Frag} {mg : Str → Option Value} {base : Heap}
/-! ### split_by -/
def spSplitBy (K : PySem.W.Frag) : Sp := fun vs H Q _ => ∃ (a : Addr) (poly f : List Int) (p : Int), vs = [.ref a, .int p] ∧ SqT K H a (poly.map V.int) ∧ poly.length ≤ 900 ∧ modP p poly = f ∧ Mon f ∧ Red p f ∧ 2 ≤ f.length ∧ f.length ≤ 5 ∧ p ∈ primes ∧ RetPt K (splitF p f) H Q
theorem ok_splitBy {f f1 f2 f3 f4 aP : Addr} {fd fd1 fd2 fd3 fd4 : FuncData} {k : Nat} (F : Fun K "split_by" "split_by" sSplitBy f fd)
    (F1 : Fun K "mod_poly" "mod_poly" sModPoly f1 fd1) (b1 : Binds K fd1 ["row", "p"] []) (g1 : mg "mod_poly" = some (.ref f1)) (G1 : FnOk P w K mg base CX0 (k + 3) f1 fd1 ["row", "p"] (spModPoly K))
    (F2 : Fun K "mod_at" "mod_at" sModAt f2 fd2) (b2 : Binds K fd2 ["f", "x", "p"] []) (g2 : mg "mod_at" = some (.ref f2)) (G2 : FnOk P w K mg base CX0 (k + 3) f2 fd2 ["f", "x", "p"] (spModAt K))
    (F3 : Fun K "mod_parted" "mod_parted" sModParted f3 fd3) (b3 : Binds K fd3 ["a", "b", "p"] []) (g3 : mg "mod_parted" = some (.ref f3)) (G3 : FnOk P w K mg base CX0 (k + 3) f3 fd3 ["a", "b", "p"] (spModParted K))
    (F4 : Fun K "rootless" "rootless" sRootless f4 fd4) (b4 : Binds K fd4 ["left", "p"] []) (g4 : mg "rootless" = some (.ref f4)) (G4 : FnOk P w K mg base CX0 (k + 3) f4 fd4 ["left", "p"] (spRootless K))
    (gP : mg "PRIMES" = some (.ref aP)) (hPr : ∀ H, SqT K H aP (primes.map V.int)) (ml : mg "len" = none) (mra : mg "range" = none) :
    FnOk P w K mg base CX0 (k + 4) f fd ["poly", "p"] (spSplitBy K) := by
  refine F.ok scSplitBy (fun vs H Q E h => ?_) (fun cdv A outer s H vs Q E hr h => ?_)
  · obtain ⟨a, poly, f, p, rfl, _⟩ := h
    rfl
  · obtain ⟨a, poly, g, p, rfl, hA, hl9, hmod, hm, hred, hl2, hl5, hpp, q⟩ := h
    obtain ⟨hP, hp2⟩ := primes_ok hpp
    have hp := hP.1
    refine ⟨_, pss_cons (ps_if (pt_cmpR op_notIn_seq (pv 1) (pe_glob (v := .ref aP) (by rfl) gP rfl) (by rfl)) (pss_one ps_never) pss_nil)
      (pss_cons (ps_set (i := 2) scSplitBy.nd rfl (.inl rfl) (pe_call G1 hr (by rfl) g1 F1.kp b1 .nil pass0 (pa_cons (pv 0) (pa_cons (pv 1) pa_nil))))
      (pss_cons (ps_set (i := 3) scSplitBy.nd rfl (.inl rfl) (pe_lst pa_nil))
      (pss_cons (ps_for PassesOwn.never rfl (pi_range1 (by rfl) mra (pa_cons (pv 1) pa_nil)) (pg_name (i := 4) scSplitBy.nd rfl (.inl rfl))
        (pss_cons (ps_set (i := 5) scSplitBy.nd rfl (.inl rfl) pe_int)
        (pss_cons (ps_while PassesOwn.never (PW.pt (pw_and (pt_cmpR op_gt (pe_callB call_len' (by rfl) ml PySem.boot_len (pa_cons (pv 2) pa_nil)) pe_int (nomark _)) (pw_and1 (pt_cmpR op_eq (pe_call G2 hr (by rfl) g2 F2.kp b2 .nil pass0 (pa_cons (pv 2) (pa_cons (pe_un un_neg (pv 4)) (pa_cons (pv 1) pa_nil)))) pe_int (nomark _)))))
          (pss_cons (ps_set (i := 2) scSplitBy.nd rfl (.inl rfl) (pe_ix ix_tup (pe_call G3 hr (by rfl) g3 F3.kp b3 .nil pass0 (pa_cons (pv 2) (pa_cons (pe_tup (pa_cons (pv 4) (pa_cons pe_int pa_nil))) (pa_cons (pv 1) pa_nil)))) pe_int (fun _ _ => rfl)))
          (pss_one (ps_aug (i := 5) scSplitBy.nd rfl (.inl rfl) pe_int ip_add))))
        (pss_one (ps_if (pt_cmpR op_gt (pv 5) pe_int (nomark _)) (pss_one (ps_expr (pe_bm PySem.F.plainAttrs_list PySem.F.slot_list_append PySem.F.type_list_append mt_append (pv 3) (pa_cons (pe_tup (pa_cons (pe_tup (pa_cons (pv 4) (pa_cons pe_int pa_nil))) (pa_cons (pv 5) pa_nil))) pa_nil)))) pss_nil)))))
      (pss_cons (ps_if (pt_cmpR op_gt (pe_callB call_len' (by rfl) ml PySem.boot_len (pa_cons (pv 2) pa_nil)) pe_int (nomark _)) (pss_one (ps_set (i := 3) scSplitBy.nd rfl (.inl rfl) (pe_op op_cat (pv 3) (pe_call G4 hr (by rfl) g4 F4.kp b4 .nil pass0 (pa_cons (pv 2) (pa_cons (pv 1) pa_nil)))))) pss_nil)
      (pss_one (ps_ret (pv 3))))))), ?_⟩
    -- p in PRIMES
    refine Evl.q_when (b := false) (Evl.et_test (ev_op (ev_var rfl) ev_c (rv_to (by rw [inV_ints hpp]; rfl) (Evl.rv_niT (hPr _) rfl (flat_ints _))))) (fun hb => absurd hb (by decide)) (fun _ H1 e1 => ?_)
    -- left = mod_poly(poly, p)
    refine Evl.q_asgU (xs := g.map V.int) (eu_call (vs := [.ref a, .int p]) (Evl.ea_cons (ev_var rfl) (Evl.ea_cons (ev_var rfl) Evl.ea_nil)) fun H2 e2 Q2 q2 E2 => ⟨a, poly, p, rfl, Evl.ex_t (e1.trans e2) hA, by omega, hp, by rw [hmod]; exact q2⟩) fun c H2 nc e2 hc => ?_
    -- parts = []
    refine Evl.q_asgL (xs := []) (Evl.el_lst Evl.ea_nil (by decide)) fun l H3 nl e3 hl => ?_
    have nlH : H l = none := Evl.fresh_back (e1.trans e2) nl
    refine Evl.q_forR1 (n := p) (Evl.ea_cons (ev_var rfl) Evl.ea_nil) (by omega)
      (fun n σ' H' => Ex H H' ∧ (∃ xs, H' l = some (.lst xs) ∧ PartsAt K H' xs (lin p g n).2) ∧ ∃ c y4 y5, σ' = [some (.ref a), some (.int p), some (.ref c), some (.ref l), y4, y5] ∧ SqT K H' c ((lin p g n).1.map V.int))
      (fun H4 e4 => ⟨((e1.trans e2).trans e3).trans e4, ⟨[], e4 _ _ hl, .nil⟩, c, none, none, rfl, Evl.st_of (e4 _ _ (e3 _ _ hc))⟩) (fun n σ' H' hn hPv => ?_) (fun σ' H' hPv => ?_)
    · obtain ⟨e, ⟨xs, hxl, hxs⟩, c, y4, y5, rfl, hC⟩ := hPv
      have L := lin_ok hp hred hm n (by omega)
      rw [lin_succ]
      generalize lin p g n = s at *
      unfold linStep
      have hll := lin_len L
      have hxn := hxs.len
      refine Evl.q_asg ev_c fun H4 e4 => ?_
      refine Evl.q_while (fun m σ' H5 => ∃ (c : Addr) (f : List Int) (o : Nat), σ' = [some (.ref a), some (.int p), some (.ref c), some (.ref l), some (.int (n : Int)), some (.int (o : Int))] ∧ Ex H' H5 ∧ SqT K H5 c (f.map V.int) ∧ Red p f ∧ Mon f ∧ f.length ≤ m ∧ f.length ≤ 5 ∧
          o + (strip (n : Int) p m f).1 = (strip (n : Int) p s.1.length s.1).1 ∧ (strip (n : Int) p m f).2 = (strip (n : Int) p s.1.length s.1).2) s.1.length ⟨c, s.1, 0, rfl, e4, Evl.ex_t e4 hC, L.red, L.mon, Nat.le_refl _, by omega, by rw [Nat.zero_add], rfl⟩ fun m σ' H5 hW => ?_
      obtain ⟨c, f, o, rfl, e5, hC5, hrf, hmf, hfm, hf5, hs1, hs2⟩ := hW
      have mlen := hmf.len
      cases m with
      | zero => exfalso; omega
      | succ m =>
        refine ⟨decide (1 < f.length) && decide (modAt (-(n : Int)) p f = 0), Evl.et_and (et_to ?_ (Evl.et_test (ev_op (ev_to (by rw [List.length_map]) (ev_lenT (ev_var rfl) hC5)) ev_c Evl.rv_I0))) (fun h1 => ?_), fun hb H6 e6 => ?_, fun hb H6 e6 => ?_⟩
        · exact decide_eq_decide.mpr (by omega)
        · refine Evl.et_test (ev_op (Evl.ev_call (vs := [.ref c, .int (-(n : Int)), .int p]) (Evl.ea_cons (ev_var rfl) (Evl.ea_cons (ev_un (ev_var rfl) Evl.ru_neg) (Evl.ea_cons (ev_var rfl) Evl.ea_nil))) fun H6 e6 Q6 q6 E6 => ⟨c, f, _, p, rfl, Evl.ex_t e6 hC5, by omega, hp, by omega, q6⟩) ev_c rv_eqI)
        · rw [Bool.and_eq_true, decide_eq_true_eq, decide_eq_true_eq] at hb
          have hcond : f.length > 1 ∧ modAt (-(n : Int)) p f = 0 := hb
          rw [strip, if_pos hcond] at hs1 hs2
          refine ⟨_, fun σ2 H2' hN => hN, ?_⟩
          have hmt := mon_tail hp (-(n : Int)) hmf (by omega)
          have hlt : (hs (-(n : Int)) p f).tail.length + 1 = f.length := by
            rw [List.length_tail, hs_len]
            omega
          refine q_asgP (P := fun v H7 => ∃ d, v = .ref d ∧ SqT K H7 d ((hs (-(n : Int)) p f).tail.map V.int)) (ep_ix0 (ep_call3 (x := .ref c) (ys := ([(n : Int), 1] : List Int).map V.int) (z := .int p) (ev_var rfl) (Evl.eu_tup (Evl.ea_cons (ev_var rfl) (Evl.ea_cons ev_c Evl.ea_nil)) (by show 2 ≤ 100000; decide)) (ev_var rfl) fun b H7 e7 hb7 H8 e8 Q8 q8 E8 =>
            ⟨c, b, f, (n : Int), p, rfl, Evl.ex_t (((e6.trans e7)).trans e8) hC5, Evl.st_of (e8 _ _ hb7), by omega, by omega, hmf, hrf, by omega, by omega, hP, by omega, fun v H9 e9 h9 => q8 v H9 e9 ?_⟩)) fun v H7 e7 hv => ?_
          · obtain ⟨c1, d1, e1', rfl, h1, h2⟩ := h9
            exact ⟨c1, d1, e1', rfl, h1, d1, rfl, Evl.st_of h2⟩
          · obtain ⟨d, rfl, hd⟩ := hv
            refine Evl.s_aug (a := (o : Int)) (b := 1) rfl ev_c fun H8 e8 => ?_
            exact ⟨m, Nat.lt_succ_self m, d, _, o + 1, rfl, ((e5.trans e6).trans e7).trans e8, Evl.ex_t e8 hd, fun z hz => red_hs (by omega) _ f z (List.mem_of_mem_tail hz), hmt, by omega, by omega, by omega, hs2⟩
        · have hcond : ¬ (f.length > 1 ∧ modAt (-(n : Int)) p f = 0) := fun hc => by
            rw [decide_eq_true hc.1, decide_eq_true hc.2] at hb
            cases hb
          rw [strip, if_neg hcond] at hs1 hs2
          generalize strip (n : Int) p s.1.length s.1 = r at *
          have ho : o = r.1 := by omega
          have hf : f = r.2 := hs2
          subst hf
          subst ho
          have hxl6 := e6 _ _ (e5 _ _ hxl)
          have hxs6 := hxs.ex (e5.trans e6)
          refine Evl.s_when (b := decide (0 < r.1)) (et_to ?_ (Evl.et_test (ev_op (ev_var rfl) ev_c Evl.rv_I0))) (fun hb2 H7 e7 => ?_) (fun hb2 H7 e7 => ?_)
          · exact decide_eq_decide.mpr (by omega)
          · have hpos : r.1 > 0 := of_decide_eq_true hb2
            have hxl7 := e7 _ _ hxl6
            refine s_appP (P := fun y H8 => PartAt K H8 y ([(n : Int), 1], (r.1 : Int))) hxl7 (ev_var rfl) (ep_part2 (Evl.eu_tup (Evl.ea_cons (ev_var rfl) (Evl.ea_cons ev_c Evl.ea_nil)) (by show 2 ≤ 100000; decide)) (ev_var rfl)) (by omega) fun y H8 e8 hy => ?_
            have hxl8 := e8 _ _ hxl7
            refine ⟨Ex.mut ((((e.trans e5).trans e6).trans e7).trans e8) nlH, ⟨_, upd_same, ?_⟩, c, _, _, rfl, sqt_upd hxl8 (Evl.ex_t ((e6.trans e7).trans e8) hC5)⟩
            dsimp only
            rw [if_pos hpos]
            exact PartsAt.append (PartsAt.upd hxl8 (hxs6.ex (e7.trans e8))) (PartsAt.upd hxl8 (.cons hy .nil))
          · have hpos : ¬ r.1 > 0 := of_decide_eq_false hb2
            refine ⟨((e.trans e5).trans e6).trans e7, ⟨xs, e7 _ _ hxl6, ?_⟩, c, _, _, rfl, Evl.ex_t (e6.trans e7) hC5⟩
            dsimp only
            rw [if_neg hpos]
            exact hxs6.ex e7
    · obtain ⟨e, ⟨xs, hxl, hxs⟩, c, y4, y5, rfl, hC⟩ := hPv
      have L := lin_ok hp hred hm p.toNat (by omega)
      have hll := lin_len L
      unfold splitF at q
      generalize lin p g p.toNat = s at *
      dsimp only at q
      refine Evl.q_when (b := decide (1 < s.1.length)) (et_to ?_ (Evl.et_test (ev_op (ev_to (by rw [List.length_map]) (ev_lenT (ev_var rfl) hC)) ev_c Evl.rv_I0))) (fun hb H4 e4 => ?_) (fun hb H4 e4 => ?_)
      · exact decide_eq_decide.mpr (by omega)
      · have h1 : s.1.length > 1 := of_decide_eq_true hb
        rw [if_pos h1] at q
        have hrl := rootless_len p s.1
        refine s_asgPt (ept_cat (ev_var rfl) (e4 _ _ hxl) (hxs.ex e4) (ept_call (vs := [.ref c, .int p]) (Evl.ea_cons (ev_var rfl) (Evl.ea_cons (ev_var rfl) Evl.ea_nil)) fun H5 e5 Q5 q5 E5 => ⟨c, s.1, p, rfl, Evl.ex_t (e4.trans e5) hC, by omega, L.red, hP, by omega, q5⟩) (by omega)) fun l2 H5 ys n2 e5 h5 hp5 => ?_
        exact ⟨.ref l2, rfl, q l2 H5 ys (Evl.fresh_back (e.trans e4) n2) ((e.trans e4).trans e5) h5 hp5⟩
      · have h1 : ¬ s.1.length > 1 := of_decide_eq_false hb
        rw [if_neg h1] at q
        exact ⟨.ref l, rfl, q l H4 xs nlH (e.trans e4) (e4 _ _ hxl) (hxs.ex e4)⟩
/-! ### stays -/
def spStays (K : PySem.W.Frag) : Sp := fun vs H Q _ => ∃ (a : Addr) (poly f : List Int) (p : Int), vs = [.ref a, .int p] ∧ SqT K H a (poly.map V.int) ∧ poly.length ≤ 900 ∧ modP p poly = f ∧ Mon f ∧ Red p f ∧ 2 ≤ f.length ∧ f.length ≤ 5 ∧ p ∈ primes ∧ Evl.RetV (.bl (staysF (splitF p f))) H Q
/-- len(parts) == 1 and parts[0][1] == 1 -/
theorem ev_stays {σ : L2.St} {H : Hp} {l : Addr} {i : Nat} {xs : List V} {parts : List (List Int × Int)} (hv : σ[i]? = some (some (.ref l))) (hl : H l = some (.lst xs)) (hp : PartsAt K H xs parts) :
    Ev (tAndV (tOp rEq (tCB (rLen K) (tCons (tVar i) tNil)) (tC (.int 1))) (tOp rEq (tOp (rIxT K) (tOp (rIxL K) (tVar i) (tC (.int 0))) (tC (.int 1))) (tC (.int 1)))) σ H (.bl (staysF parts)) := by
  have hlen := hp.len
  have e0 : staysF parts = (decide ((xs.length : Int) = 1) && staysF parts) := by
    unfold staysF
    split
    · rw [hlen]
      simp
    · rw [Bool.and_false]
  rw [e0]
  refine Evl.ev_andV (ev_op (ev_lenL (ev_var hv) (Evl.sq_of hl)) ev_c rv_eqI) fun h => ?_
  have h1 : xs.length = 1 := by
    have := of_decide_eq_true h
    omega
  obtain ⟨x, rfl⟩ : ∃ x, xs = [x] := by
    cases xs with
    | nil => cases h1
    | cons x t =>
      cases t with
      | nil => exact ⟨x, rfl⟩
      | cons y t => simp at h1
  cases hp with
  | cons r t =>
    cases t
    obtain ⟨qa, ga, rfl, h1, h2⟩ := r
    exact ev_op (ev_op (ev_op (ev_var hv) ev_c (Evl.rv_ixL (Evl.sq_of hl) rfl)) ev_c (Evl.rv_ixT h1 rfl)) ev_c rv_eqI
theorem ok_stays {f f1 : Addr} {fd fd1 : FuncData} {k : Nat} (F : Fun K "stays" "stays" sStays f fd)
    (F1 : Fun K "split_by" "split_by" sSplitBy f1 fd1) (b1 : Binds K fd1 ["poly", "p"] []) (g1 : mg "split_by" = some (.ref f1)) (G1 : FnOk P w K mg base CX0 (k + 4) f1 fd1 ["poly", "p"] (spSplitBy K)) (ml : mg "len" = none) :
    FnOk P w K mg base CX0 (k + 5) f fd ["poly", "p"] (spStays K) := by
  refine F.ok scStays (fun vs H Q E h => ?_) (fun cdv A outer s H vs Q E hr h => ?_)
  · obtain ⟨a, poly, f, p, rfl, _⟩ := h
    rfl
  · obtain ⟨a, poly, g, p, rfl, hA, hl9, hmod, hm, hred, hl2, hl5, hpp, q⟩ := h
    refine ⟨_, pss_cons (ps_set (i := 2) scStays.nd rfl (.inl rfl) (pe_call G1 hr (by rfl) g1 F1.kp b1 .nil pass0 (pa_cons (pv 0) (pa_cons (pv 1) pa_nil))))
      (pss_one (ps_ret (pe_and (pe_cmpR op_eq (pe_callB call_len' (by rfl) ml PySem.boot_len (pa_cons (pv 2) pa_nil)) pe_int (nomark _)) (pe_one (pe_cmpR op_eq (pe_ix ix_tup (pe_ix ix_list (pv 2) pe_int (fun _ _ => rfl)) pe_int (fun _ _ => rfl)) pe_int (nomark _)))))), ?_⟩
    refine q_asgPt (parts := splitF p g) (ept_call (vs := [.ref a, .int p]) (Evl.ea_cons (ev_var rfl) (Evl.ea_cons (ev_var rfl) Evl.ea_nil)) fun H5 e5 Q5 q5 E5 => ⟨a, poly, g, p, rfl, Evl.ex_t e5 hA, hl9, hmod, hm, hred, hl2, hl5, hpp, q5⟩) fun l H1 xs nl e1 hl hp => ?_
    exact Evl.s_ret (ev_stays rfl hl hp) fun H2 e2 => q H2 (e1.trans e2)
end
end RH
namespace RH
open PySem PySem.Spec PyProof.Rows L2
open Evl (Ev EvL EvU EvT EvA EvO Ex ev_c ev_var ev_op ev_un ea_nil ea_cons)
section
variable {K : PySem.W.Frag} {σ : L2.St} {H H' : Hp} {ta tb tc te tx : TE} {x y z v : V} {r r' : R2} {D : Ends} {tu tw tz : TS} {xs ys : List V}
/-- an operation whose left side is known by a word -/
theorem ep_opI {P R : V → Hp → Prop} (ha : EvP ta σ H P) (hk : ∀ x H1, Ex H H1 → P x H1 → ∃ y z, Ev tb σ H1 y ∧ Evl.RV r x y H1 z ∧ ∀ H2, Ex H1 H2 → R z H2) : EvP (tOp r ta tb) σ H R := fun H1 e Q q =>
  ha H1 e _ fun x H2 e2 hx => by
    obtain ⟨y, z, hy, hz, hR⟩ := hk x H2 (e.trans e2) hx
    exact hy H2 (Ex.refl H2) _ fun H3 e3 => hz H3 e3 Q fun H4 e4 => q z H4 ((e2.trans e3).trans e4) (hR H4 (e3.trans e4))
/-- .. the right side -/
theorem ep_opR {P R : V → Hp → Prop} (ha : Ev ta σ H x) (hb : EvP tb σ H P) (hk : ∀ y H1, Ex H H1 → P y H1 → ∃ z, Evl.RV r x y H1 z ∧ ∀ H2, Ex H1 H2 → R z H2) : EvP (tOp r ta tb) σ H R := fun H1 e Q q =>
  ha H1 e _ fun H2 e2 => hb H2 (e.trans e2) _ fun y H3 e3 hy => by
    obtain ⟨z, hz, hR⟩ := hk y H3 ((e.trans e2).trans e3) hy
    exact hz H3 (Ex.refl H3) Q fun H4 e4 => q z H4 ((e2.trans e3).trans e4) (hR H4 e4)
def EvAP (ta : TA) (σ : L2.St) (H : Hp) (P : List V → Hp → Prop) : Prop := ∀ H1, Ex H H1 → ∀ Q : List V → Hp → Prop, (∀ vs H2, Ex H1 H2 → P vs H2 → Q vs H2) → ta σ H1 Q
theorem eap_ea {ta : TA} {vs : List V} {R : List V → Hp → Prop} (h : EvA ta σ H vs) (hR : ∀ H1, Ex H H1 → R vs H1) : EvAP ta σ H R := fun H1 e Q q => h H1 e _ fun H2 e2 => q vs H2 e2 (hR H2 (e.trans e2))
theorem eap_cons {tr : TA} {P : V → Hp → Prop} {R : List V → Hp → Prop} (h : EvP te σ H P) (hr : ∀ v H1, Ex H H1 → P v H1 → EvAP tr σ H1 (fun vs H2 => R (v :: vs) H2)) : EvAP (tCons te tr) σ H R := fun H1 e Q q =>
  h H1 e _ fun v H2 e2 hv => hr v H2 (e.trans e2) hv H2 (Ex.refl H2) _ fun vs H3 e3 hR => q _ H3 (e2.trans e3) hR
theorem epp_call {sp : Sp} {E : XK} {ta : TA} {A : List V → Hp → Prop} {P : V → Hp → Prop} (h : EvAP ta σ H A) (hs : ∀ vs H1, Ex H H1 → A vs H1 → SpP sp vs H1 P) : EvP (tCall sp [] E ta) σ H P := fun H1 e Q q =>
  h H1 e _ fun vs H2 e2 hA => by
    have := hs vs H2 (e.trans e2) hA H2 (Ex.refl H2) Q (fun v H3 e3 h3 => q v H3 (e2.trans e3) h3) E
    rw [List.append_nil]
    exact this
theorem ep_evL (h : EvL te σ H xs) : EvP te σ H (fun v H2 => ∃ l, v = .ref l ∧ H l = none ∧ H2 l = some (.lst xs)) := fun H1 e Q q => h H1 e Q fun p H2 hp e2 h2 => q _ H2 e2 ⟨p, rfl, Evl.fresh_back e hp, h2⟩
theorem ep_evU (h : EvU te σ H xs) : EvP te σ H (fun v H2 => ∃ l, v = .ref l ∧ H2 l = some (.tup xs)) := fun H1 e Q q => h H1 e Q fun p H2 hp e2 h2 => q _ H2 e2 ⟨p, rfl, h2⟩
theorem ep_imp {P R : V → Hp → Prop} (h : EvP te σ H P) (i : ∀ v H1, Ex H H1 → P v H1 → R v H1) : EvP te σ H R := fun H1 e Q q => h H1 e Q fun v H2 e2 hv => q v H2 e2 (i v H2 (e.trans e2) hv)
/-- [x, ..] * n -/
theorem el_rep {n : Int} (ha : EvL ta σ H xs) (hb : ∀ H1, Ex H H1 → Ev tb σ H1 (.int n)) (hn : 0 ≤ n ∧ n ≤ 1000) (hx : xs.length ≤ 10) : EvL (tOp rRep ta tb) σ H (List.replicate n.toNat xs).flatten := fun H1 e Q q =>
  ha H1 e _ fun p H2 np e2 h2 => hb H2 (e.trans e2) H2 (Ex.refl H2) _ fun H3 e3 => ⟨p, n, xs, rfl, rfl, e3 _ _ h2, by omega, by omega, Evl.sz_of (Nat.le_trans (Nat.mul_le_mul hx (show n.toNat ≤ 1000 by omega)) (by decide)), fun l hl =>
    q l _ (Evl.fresh_back (e2.trans e3) hl) ((e2.trans e3).trans (Ex.new hl)) upd_same⟩
/-- a + b of two new lists -/
theorem el_cat (ha : EvL ta σ H xs) (hb : ∀ H1, Ex H H1 → EvL tb σ H1 ys) (hz : xs.length + ys.length ≤ 100000) : EvL (tOp rCat ta tb) σ H (xs ++ ys) := fun H1 e Q q =>
  ha H1 e _ fun p H2 np e2 h2 => hb H2 (e.trans e2) H2 (Ex.refl H2) _ fun p2 H3 np2 e3 h3 => ⟨p, p2, xs, ys, rfl, rfl, e3 _ _ h2, h3, Evl.sz_of hz, fun l hl =>
    q l _ (Evl.fresh_back (e2.trans e3) hl) ((e2.trans e3).trans (Ex.new hl)) upd_same⟩
theorem flat_one {α : Type} (x : α) : ∀ n : Nat, (List.replicate n [x]).flatten = List.replicate n x
  | 0 => rfl
  | n + 1 => by rw [List.replicate_succ, List.flatten_cons, flat_one x n, List.replicate_succ]; rfl
theorem ev_chain {a b : Bool} (h1 : Ev ta σ H x) (h2 : Ev tb σ H y) (r1 : Evl.RV r x y H (.bl a)) (h3 : a = true → Ev tc σ H z) (r2 : a = true → Evl.RV r' y z H (.bl b)) : Ev (tChain r r' ta tb tc) σ H (.bl (a && b)) := fun H1 e Q q =>
  h1 H1 e _ fun H2 e2 => h2 H2 (e.trans e2) _ fun H3 e3 => r1 H3 ((e.trans e2).trans e3) _ fun H4 e4 => ⟨a, rfl, by
    cases a with
    | true =>
      show tc σ H4 _
      exact h3 rfl H4 (((e.trans e2).trans e3).trans e4) _ fun H5 e5 => r2 rfl H5 ((((e.trans e2).trans e3).trans e4).trans e5) Q fun H6 e6 => q H6 ((((e2.trans e3).trans e4).trans e5).trans e6)
    | false =>
      show Q (.bl false) H4
      exact q H4 ((e2.trans e3).trans e4)⟩
/-- isinstance(x, T), T a built-in class -/
theorem ev_isi {n t : String} {b : Bool} (ha : Ev ta σ H x) (ht : TyX K H x (.type t)) (hm : ∀ H1, Ex H H1 → TyX K H1 x (.type t)) (hk : kitB t n = some b) : Ev (tCB (rIsi K) (tCons ta (tCons (tC (.ty n)) tNil))) σ H (.bl b) := fun H1 e Q q =>
  ha H1 e _ fun H2 e2 => ⟨x, .ty n, .type t, .type n, b, rfl, .ty n, hm H2 (e.trans e2), kit_ty hk, q H2 e2⟩
theorem tyx_tup {a : Addr} (h : SqT K H a xs) : TyX K H (.ref a) (.type "tuple") := by
  rcases h with (h | ⟨o, h⟩) | ⟨o, its, n, hk, hc, _⟩
  · exact .base (.tup h)
  · exact .fTuple h
  · exact .kTuple hk hc
theorem ev_isiT {n : String} {b : Bool} {a : Addr} (ha : Ev ta σ H (.ref a)) (h : SqT K H a xs) (hk : kitB "tuple" n = some b) : Ev (tCB (rIsi K) (tCons ta (tCons (tC (.ty n)) tNil))) σ H (.bl b) := ev_isi ha (tyx_tup h) (fun H1 e => tyx_tup (Evl.ex_t e h)) hk
theorem ev_isiL {n : String} {b : Bool} {a : Addr} (ha : Ev ta σ H (.ref a)) (h : H a = some (.lst xs)) (hk : kitB "list" n = some b) : Ev (tCB (rIsi K) (tCons ta (tCons (tC (.ty n)) tNil))) σ H (.bl b) := ev_isi ha (.base (.lst h)) (fun H1 e => .base (.lst (e _ _ h))) hk
theorem ev_isiI {n : String} {b : Bool} {i : Int} (ha : Ev ta σ H (.int i)) (hk : kitB "int" n = some b) : Ev (tCB (rIsi K) (tCons ta (tCons (tC (.ty n)) tNil))) σ H (.bl b) := ev_isi ha (.base (.int i)) (fun H1 e => .base (.int i)) hk
theorem ev_isiB {n : String} {b k : Bool} (ha : Ev ta σ H (.bl k)) (hk : kitB "bool" n = some b) : Ev (tCB (rIsi K) (tCons ta (tCons (tC (.ty n)) tNil))) σ H (.bl b) := ev_isi ha (.base (.bl k)) (fun H1 e => .base (.bl k)) hk
theorem bls_map (n : Nat) (f : Nat → Bool) : ((List.range n).map f).map V.bl = (List.range n).map fun i => V.bl (f i) := by rw [List.map_map]; rfl
theorem ev_all {bs : List Bool} {b : Bool} (h : EvL te σ H (bs.map V.bl)) (e : bs.all id = b) : Ev (tCB (rAll K) (tCons te tNil)) σ H (.bl b) := fun H1 e1 Q q =>
  h H1 e1 _ fun p H2 _ e2 h2 => ⟨p, bs, rfl, Evl.sq_of h2, by rw [e]; exact q H2 e2⟩
theorem ev_any {bs : List Bool} {b : Bool} (h : EvL te σ H (bs.map V.bl)) (e : bs.any id = b) : Ev (tCB (rAny K) (tCons te tNil)) σ H (.bl b) := fun H1 e1 Q q =>
  h H1 e1 _ fun p H2 _ e2 h2 => ⟨p, bs, rfl, Evl.sq_of h2, by rw [e]; exact q H2 e2⟩
end
theorem all_rep (n : Nat) : (List.replicate n true).all id = true := by rw [List.all_eq_true]; intro b hb; rw [(List.mem_replicate.mp hb).2]; rfl
theorem any_rep (n : Nat) : (List.replicate n false).any id = false := by
  rw [List.any_eq_false]
  intro b hb
  rw [(List.mem_replicate.mp hb).2]
  decide
theorem rep_get {α : Type} {n i : Nat} (x : α) (h : i < n) : (List.replicate n x)[i]? = some x := by rw [List.getElem?_replicate, if_pos h]
section
variable {P : Program} {w : World} {K : PySem.W.Frag} {mg : Str → Option Value} {base : Heap}
/-! ### the law's own cut -/
theorem ok_lawCut {f : Addr} {fd : FuncData} {k : Nat} (F : Fun K "_law_cut" "_law_cut" sLawCut f fd) (ml : mg "len" = none) (mt : mg "tuple" = none) : FnOk P w K mg base CX0 (k + 1) f fd ["_law_row"] (spCut K) := by
  refine F.ok scLawCut (fun vs H Q E h => ?_) (fun cdv A outer s H vs Q E hr h => ?_)
  · obtain ⟨a, ns, rfl, _⟩ := h
    rfl
  · obtain ⟨a, ns, rfl, hS, hlen, q⟩ := h
    refine ⟨_, pss_cons (ps_set (i := 1) scLawCut.nd rfl (.inl rfl) (pe_callB call_len' (by rfl) ml PySem.boot_len (pa_cons (pv 0) pa_nil)))
      (pss_cons (ps_while PassesOwn.never (PW.pt (pw_and (pt_cmpR op_gt (pv 1) pe_int (nomark _)) (pw_and1 (pt_cmpR op_eq (pe_ix ix_list (pv 0) (pe_op op_sub (pv 1) pe_int) (fun _ _ => rfl)) pe_int (nomark _)))))
          (pss_one (ps_set (i := 1) scLawCut.nd rfl (.inl rfl) (pe_op op_sub (pv 1) pe_int))))
      (pss_one (ps_ret (pe_callTy call_tuple_of (by rfl) mt boot_tuple (pa_cons (pe_slice sl_list (pv 0) po_none (po_some (pv 1))) pa_nil))))), ?_⟩
    refine Evl.q_asg (ev_lenL (ev_var rfl) hS) fun H1 e1 => ?_
    refine Evl.q_while (fun m σ' H' => ∃ n : Nat, m = n ∧ σ' = [some (.ref a), some (.int (n : Int))] ∧ n ≤ ns.length ∧ cutL (ns.take n) = cutL ns ∧ Ex H H') ns.length ⟨ns.length, rfl, by rw [List.length_map]; rfl, Nat.le_refl _, by rw [List.take_length], e1⟩ fun m σ' H' hW => ?_
    obtain ⟨n, rfl, rfl, hn, hc, e⟩ := hW
    have hS' := Evl.ex_l e hS
    refine ⟨decide (0 < m) && decide (ns.getD (m - 1) 0 = 0), Evl.et_and ?_ (fun h0 => ?_), fun hb H2 e2 => ?_, fun hb H2 e2 => ?_⟩
    · refine et_to ?_ (Evl.et_test (ev_op (ev_var rfl) ev_c Evl.rv_I0))
      exact decide_eq_decide.mpr (by omega)
    · have h1 : 0 < m := of_decide_eq_true h0
      have ei : ((m : Int) - 1) = ((m - 1 : Nat) : Int) := by omega
      refine Evl.et_test (ev_op (ev_op (ev_var rfl) (ev_op (ev_var rfl) ev_c Evl.rv_I0) (Evl.rv_ixL hS' (by rw [ei]; exact atI_ints (by omega)))) ev_c rv_eqI)
    · rw [Bool.and_eq_true, decide_eq_true_eq, decide_eq_true_eq] at hb
      refine ⟨_, fun σ2 H2' hN => hN, ?_⟩
      refine Evl.s_asg (ev_op (ev_var rfl) ev_c Evl.rv_I0) fun H3 e3 => ?_
      refine ⟨m - 1, by omega, m - 1, rfl, ?_, by omega, ?_, (e.trans e2).trans e3⟩
      · show [some (V.ref a), some (V.int ((m : Int) - 1))] = _
        rw [show ((m : Int) - 1) = ((m - 1 : Nat) : Int) by omega]
      · rw [← hc]
        have := cutL_take_succ ns (m - 1) (by omega) hb.2
        rw [show m - 1 + 1 = m by omega] at this
        exact this.symm
    · have hfin : cutL ns = ns.take m := by
        rw [← hc]
        by_cases h0 : m = 0
        · subst h0; rfl
        · have h1 : ns.getD (m - 1) 0 ≠ 0 := fun z => by
            rw [z] at hb
            simp at hb
            omega
          have := cutL_take_stop ns (m - 1) (by omega) h1
          rw [show m - 1 + 1 = m by omega] at this
          exact this
      refine Evl.s_retU (eu_tupL (Evl.el_sl (ev_var rfl) Evl.eo_none (Evl.eo_some (ev_var rfl)) (Evl.ex_l e2 hS'))) fun p H3 hp e3 h3 => ?_
      rw [cutV_take _ _ (by rw [List.length_map]; omega), ← List.map_take, ← hfin] at h3
      exact RetU.go q (e.trans e2) hp e3 h3

/-! ### _law_mixed -/
def spMixed : Sp := fun vs H Q _ => ∃ c k pr : Int, vs = [.int c, .int k, .int pr] ∧ 0 ≤ k ∧ k ≤ 100 ∧ 0 < pr ∧ ∀ v H2, Ex H H2 → (∃ n : Int, v = .int n) → Q v H2
theorem ok_mixed {f : Addr} {fd : FuncData} {k : Nat} (F : Fun K "_law_mixed" "_law_mixed" sLawMixed f fd) : FnOk P w K mg base CX0 (k + 1) f fd ["_law_cell_here", "_law_k", "_law_prime_here"] spMixed := by
  refine F.ok scLawMixed (fun vs H Q E h => ?_) (fun cdv A outer s H vs Q E hr h => ?_)
  · obtain ⟨c, k, pr, rfl, _⟩ := h
    rfl
  · obtain ⟨c, k, pr, rfl, hk0, hk1, hpr, q⟩ := h
    refine ⟨_, pss_cons (ps_set (i := 3) scLawMixed.nd rfl (.inl rfl) (pe_op op_mod (pe_op op_mul (pe_op op_add (pe_op op_add (pe_op op_add (pv 0) (pe_op op_mul (pe_op op_mul pe_int (pv 1)) (pv 1))) (pe_op op_mul pe_int (pv 1))) pe_int) pe_int) pe_int))
      (pss_cons (ps_set (i := 3) scLawMixed.nd rfl (.inl rfl) (pe_op op_mod (pe_op op_mul (pv 3) (pv 3)) pe_int))
      (pss_one (ps_ret (pe_op op_mod (pe_op op_mul (pv 3) pe_int) (pv 2))))), ?_⟩
    refine Evl.q_asg (ev_op (ev_op (ev_op (ev_op (ev_op (ev_var rfl) (ev_op (ev_op ev_c (ev_var rfl) (Evl.rv_I (.inl ⟨by decide, by decide⟩))) (ev_var rfl) (Evl.rv_I (.inr ⟨by omega, by omega⟩))) Evl.rv_I0) (ev_op ev_c (ev_var rfl) (Evl.rv_I (.inl ⟨by decide, by decide⟩))) Evl.rv_I0) ev_c Evl.rv_I0) ev_c (Evl.rv_I (.inr ⟨by decide, by decide⟩))) ev_c (Evl.rv_I (by show (0 : Int) < 2147483647; decide))) fun H1 e1 => ?_
    have h1 := Int.emod_lt_of_pos ((c + 7 * k * k + 13 * k + 5) * 48271) (show (0 : Int) < 2147483647 by decide)
    have h0 := Int.emod_nonneg ((c + 7 * k * k + 13 * k + 5) * 48271) (show (2147483647 : Int) ≠ 0 by decide)
    generalize (c + 7 * k * k + 13 * k + 5) * 48271 % 2147483647 = z at *
    refine Evl.q_asg (ev_op (ev_op (ev_var rfl) (ev_var rfl) (Evl.rv_I (.inl ⟨by omega, by omega⟩))) ev_c (Evl.rv_I (by show (0 : Int) < 2147483629; decide))) fun H2 e2 => ?_
    exact Evl.s_ret (ev_op (ev_op (ev_var rfl) ev_c (Evl.rv_I (.inr ⟨by decide, by decide⟩))) (ev_var rfl) (Evl.rv_I hpr)) fun H3 e3 => q _ H3 ((e1.trans e2).trans e3) ⟨_, rfl⟩
end
end RH
namespace RH
open PySem PySem.Spec PyProof.Rows L2
open Evl (Ev EvL EvU EvT EvA EvO Ex ev_c ev_var ev_op ev_un ea_nil ea_cons)
section
variable {P : Program} {w : World} {K : PySem.W.Frag} {mg : Str → Option Value} {base : Heap}
/-! ### _law_draws -/
/-- draws under widths -/
def Drawn (ws ds : List Int) : Prop := ds.length = ws.length ∧ ∀ i, i < ws.length → 0 ≤ ds.getD i 0 ∧ ds.getD i 0 < ws.getD i 0
def spDraws (K : PySem.W.Frag) : Sp := fun vs H Q _ => ∃ (c pr : Int) (a : Addr) (ws : List Int), vs = [.int c, .ref a, .int pr] ∧ SqL K H a (ws.map V.int) ∧ ws.length ≤ 50 ∧ (∀ x ∈ ws, 0 < x ∧ x < 1073741824) ∧ 0 < pr ∧
  ∀ l H2 ds, H l = none → Ex H H2 → H2 l = some (.lst (ds.map V.int)) → Drawn ws ds → Q (.ref l) H2
theorem getD_snoc {ds : List Int} {d : Int} {i : Nat} (h : i ≤ ds.length) : (ds ++ [d]).getD i 0 = if i < ds.length then ds.getD i 0 else d := by
  rw [List.getD_eq_getElem?_getD]
  split
  · rw [List.getElem?_append_left (by assumption), List.getD_eq_getElem?_getD]
  · rw [List.getElem?_append_right (by omega), show i - ds.length = 0 by omega]
    rfl
theorem ok_draws {f f1 : Addr} {fd fd1 : FuncData} {k : Nat} (F : Fun K "_law_draws" "_law_draws" sLawDraws f fd)
    (F1 : Fun K "_law_mixed" "_law_mixed" sLawMixed f1 fd1) (b1 : Binds K fd1 ["_law_cell_here", "_law_k", "_law_prime_here"] []) (g1 : mg "_law_mixed" = some (.ref f1)) (G1 : FnOk P w K mg base CX0 (k + 1) f1 fd1 ["_law_cell_here", "_law_k", "_law_prime_here"] spMixed)
    (ml : mg "len" = none) (mra : mg "range" = none) : FnOk P w K mg base CX0 (k + 2) f fd ["_law_cell_here", "_law_widths", "_law_prime_here"] (spDraws K) := by
  refine F.ok scLawDraws (fun vs H Q E h => ?_) (fun cdv A outer s H vs Q E hr h => ?_)
  · obtain ⟨c, pr, a, ws, rfl, _⟩ := h
    rfl
  · obtain ⟨c, pr, a, ws, rfl, hA, hl, hw, hpr, q⟩ := h
    refine ⟨_, pss_cons (ps_set (i := 3) scLawDraws.nd rfl (.inl rfl) pe_int)
      (Evl.pss_cut (ps_if (pt_cmpR op_ge (pv 0) (pe_op op_pow pe_int pe_int) (nomark _)) (pss_one (ps_set (i := 3) scLawDraws.nd rfl (.inl rfl) (pe_op op_sub (pv 0) (pe_op op_pow pe_int pe_int)))) pss_nil)
      (pss_cons (ps_set (i := 4) scLawDraws.nd rfl (.inl rfl) (pe_lst pa_nil))
      (pss_cons (ps_for PassesOwn.never rfl (pi_range1 (by rfl) mra (pa_cons (pe_callB call_len' (by rfl) ml PySem.boot_len (pa_cons (pv 1) pa_nil)) pa_nil)) (pg_name (i := 5) scLawDraws.nd rfl (.inl rfl))
        (pss_one (ps_if (pt_cmpR op_gt (pv 3) pe_int (nomark _))
          (pss_cons (ps_expr (pe_bm PySem.F.plainAttrs_list PySem.F.slot_list_append PySem.F.type_list_append mt_append (pv 4) (pa_cons (pe_op op_mod (pv 3) (pe_ix ix_list (pv 1) (pv 5) (fun _ _ => rfl))) pa_nil)))
          (pss_one (ps_set (i := 3) scLawDraws.nd rfl (.inl rfl) (pe_op op_fdiv (pv 3) (pe_ix ix_list (pv 1) (pv 5) (fun _ _ => rfl))))))
          (pss_one (ps_expr (pe_bm PySem.F.plainAttrs_list PySem.F.slot_list_append PySem.F.type_list_append mt_append (pv 4) (pa_cons (pe_op op_mod (pe_call G1 hr (by rfl) g1 F1.kp b1 .nil pass0 (pa_cons (pv 0) (pa_cons (pv 5) (pa_cons (pv 2) pa_nil)))) (pe_ix ix_list (pv 1) (pv 5) (fun _ _ => rfl))) pa_nil)))))))
      (pss_one (ps_ret (pv 4)))))), ?_⟩
    refine Evl.q_asg ev_c fun H1 e1 => ?_
    have cp : CPow 10 18 := ⟨by decide, by decide, by decide⟩
    refine Evl.q_cut (M := fun σ' H' => ∃ lf : Int, σ' = [some (.int c), some (.ref a), some (.int pr), some (.int lf), none, none] ∧ Ex H H') ?_ fun σ' H' hM => ?_
    · refine Evl.s_when (Evl.et_test (ev_op (ev_var rfl) (ev_op ev_c ev_c (Evl.rv_I cp)) Evl.rv_I0)) (fun _ H2 e2 => ?_) (fun _ H2 e2 => ?_)
      · exact Evl.s_asg (ev_op (ev_var rfl) (ev_op ev_c ev_c (Evl.rv_I cp)) Evl.rv_I0) fun H3 e3 => ⟨_, rfl, (e1.trans e2).trans e3⟩
      · exact ⟨_, rfl, e1.trans e2⟩
    obtain ⟨lf, rfl, e⟩ := hM
    refine Evl.q_asgL (xs := []) (Evl.el_lst Evl.ea_nil (by decide)) fun l H3 nl e3 hl3 => ?_
    have nlH : H l = none := Evl.fresh_back e nl
    refine Evl.q_forR1 (n := (ws.length : Int)) (Evl.ea_cons (ev_to (by rw [List.length_map]) (ev_lenL (ev_var rfl) (Evl.ex_l (e.trans e3) hA))) Evl.ea_nil) (by omega)
      (fun i σ' H' => Ex H H' ∧ ∃ (lf : Int) (ds : List Int) (y5 : Option V), σ' = [some (.int c), some (.ref a), some (.int pr), some (.int lf), some (.ref l), y5] ∧ H' l = some (.lst (ds.map V.int)) ∧ ds.length = i ∧ ∀ j, j < i → 0 ≤ ds.getD j 0 ∧ ds.getD j 0 < ws.getD j 0)
      (fun H4 e4 => ⟨(e.trans e3).trans e4, lf, [], none, rfl, e4 _ _ hl3, rfl, fun j hj => absurd hj (Nat.not_lt_zero j)⟩) (fun i σ' H' hi hPv => ?_) (fun σ' H' hPv => ?_)
    · obtain ⟨e4, lf, ds, y5, rfl, hds, hdl, hdr⟩ := hPv
      have hi' : i < ws.length := by omega
      have hwi : 0 < ws.getD i 0 ∧ ws.getD i 0 < 1073741824 := hw _ (by
        rw [List.getD_eq_getElem?_getD, List.getElem?_eq_getElem hi']
        exact List.getElem_mem hi')
      have hA4 := Evl.ex_l e4 hA
      have step : ∀ (z : Int) j, j < i + 1 → 0 ≤ (ds ++ [z % ws.getD i 0]).getD j 0 ∧ (ds ++ [z % ws.getD i 0]).getD j 0 < ws.getD j 0 := fun z j hj => by
        rw [getD_snoc (by omega)]
        split
        · exact hdr j (by omega)
        · rw [show j = i by omega]
          exact ⟨Int.emod_nonneg _ (by omega), Int.emod_lt_of_pos _ hwi.1⟩
      refine Evl.s_if (Evl.et_test (ev_op (ev_var rfl) ev_c Evl.rv_I0)) (fun _ H5 e5 => ?_) (fun _ H5 e5 => ?_)
      · refine Evl.q_app (v := .int (lf % ws.getD i 0)) (e5 _ _ hds) (ev_var rfl) (ev_op (ev_var rfl) (ev_op (ev_var rfl) (ev_var rfl) (Evl.rv_ixL (Evl.ex_l e5 hA4) (atI_ints hi'))) (Evl.rv_I hwi.1)) (by rw [List.length_map]; omega) fun H6 e6 => ?_
        have e7 : Ex H (upd H6 l (.lst (ds.map V.int ++ [.int (lf % ws.getD i 0)]))) := Ex.mut ((e4.trans e5).trans e6) nlH
        refine Evl.s_asg (ev_op (ev_var rfl) (ev_op (ev_var rfl) (ev_var rfl) (Evl.rv_ixL (Evl.ex_l e7 hA) (atI_ints hi'))) (Evl.rv_I ⟨hwi.1, hwi.2⟩)) fun H8 e8 => ?_
        refine ⟨e7.trans e8, _, ds ++ [lf % ws.getD i 0], _, rfl, ?_, by rw [List.length_append, hdl]; rfl, step lf⟩
        rw [e8 _ _ upd_same, List.map_append]
        rfl
      · refine s_appP (P := fun v H6 => ∃ z : Int, v = .int (z % ws.getD i 0)) (e5 _ _ hds) (ev_var rfl) (ep_opI (P := fun v _ => ∃ z : Int, v = .int z) (ep_call (vs := [.int c, .int (i : Int), .int pr]) (Evl.ea_cons (ev_var rfl) (Evl.ea_cons (ev_var rfl) (Evl.ea_cons (ev_var rfl) Evl.ea_nil))) fun H6 e6 Q6 q6 E6 => ⟨c, i, pr, rfl, by omega, by omega, hpr, fun v H7 e7 hv => q6 v H7 e7 hv⟩)
          fun x H6 e6 hx => ?_) (by rw [List.length_map]; omega) fun y H6 e6 hy => ?_
        · obtain ⟨z, rfl⟩ := hx
          exact ⟨_, _, ev_op (ev_var rfl) (ev_var rfl) (Evl.rv_ixL (Evl.ex_l (e5.trans e6) hA4) (atI_ints hi')), Evl.rv_I hwi.1, fun _ _ => ⟨z, rfl⟩⟩
        · obtain ⟨z, rfl⟩ := hy
          refine ⟨Ex.mut ((e4.trans e5).trans e6) nlH, lf, ds ++ [z % ws.getD i 0], _, rfl, ?_, by rw [List.length_append, hdl]; rfl, step z⟩
          rw [upd_same, List.map_append]
          rfl
    · obtain ⟨e4, lf, ds, y5, rfl, hds, hdl, hdr⟩ := hPv
      have hn : (ws.length : Int).toNat = ws.length := by omega
      rw [hn] at hdl hdr
      exact ⟨.ref l, rfl, q l H' ds nlH e4 hds ⟨hdl, hdr⟩⟩
/-! ### _law_cell -/
def spCell (K : PySem.W.Frag) : Sp := fun vs H Q _ => ∃ (a : Addr) (ns : List Int) (k : Int), vs = [.ref a, .int k] ∧ SqL K H a (ns.map V.int) ∧ 0 ≤ k ∧ k ≤ 100 ∧ ∀ v H2, Ex H H2 → (∃ n : Int, v = .int n) → Q v H2
theorem ok_cell {f : Addr} {fd : FuncData} {k : Nat} (F : Fun K "_law_cell" "_law_cell" sLawCell f fd) (ml : mg "len" = none) : FnOk P w K mg base CX0 (k + 1) f fd ["_law_script", "_law_k"] (spCell K) := by
  refine F.ok scLawCell (fun vs H Q E h => ?_) (fun cdv A outer s H vs Q E hr h => ?_)
  · obtain ⟨a, ns, k, rfl, _⟩ := h
    rfl
  · obtain ⟨a, ns, k, rfl, hA, hk0, hk1, q⟩ := h
    refine ⟨_, pss_cons (ps_if (pt_cmpR op_eq (pe_callB call_len' (by rfl) ml PySem.boot_len (pa_cons (pv 0) pa_nil)) pe_int (nomark _)) (pss_one (ps_ret (pe_op op_mul pe_int (pe_op op_add (pv 1) pe_int)))) pss_nil)
      (pss_cons (ps_if (pt_cmpR op_lt (pv 1) (pe_callB call_len' (by rfl) ml PySem.boot_len (pa_cons (pv 0) pa_nil)) (nomark _)) (pss_one (ps_ret (pe_ix ix_list (pv 0) (pv 1) (fun _ _ => rfl)))) pss_nil)
      (pss_one (ps_ret (pe_op op_add (pe_ix ix_list (pv 0) (pe_op op_mod (pv 1) (pe_callB call_len' (by rfl) ml PySem.boot_len (pa_cons (pv 0) pa_nil))) (fun _ _ => rfl)) (pe_op op_mul pe_int (pv 1)))))), ?_⟩
    refine Evl.q_when (b := decide ((ns.length : Int) = 0)) (Evl.et_test (ev_op (ev_to (by rw [List.length_map]) (ev_lenL (ev_var rfl) hA)) ev_c rv_eqI)) (fun hb H2 e2 => ?_) (fun hb H2 e2 => ?_)
    · exact Evl.s_ret (ev_op ev_c (ev_op (ev_var rfl) ev_c Evl.rv_I0) (Evl.rv_I (.inl ⟨by decide, by decide⟩))) fun H3 e3 => q _ H3 (e2.trans e3) ⟨_, rfl⟩
    · have h0 : ¬ (ns.length : Int) = 0 := of_decide_eq_false hb
      refine Evl.q_when (b := decide (k < (ns.length : Int))) (Evl.et_test (ev_op (ev_var rfl) (ev_to (by rw [List.length_map]) (ev_lenL (ev_var rfl) (Evl.ex_l e2 hA))) Evl.rv_I0)) (fun hb2 H3 e3 => ?_) (fun hb2 H3 e3 => ?_)
      · have h1 : k < (ns.length : Int) := of_decide_eq_true hb2
        have ek : k = ((k.toNat : Nat) : Int) := by omega
        exact Evl.s_ret (ev_op (ev_var rfl) (ev_var rfl) (Evl.rv_ixL (Evl.ex_l (e2.trans e3) hA) (by rw [ek]; exact atI_ints (by omega)))) fun H4 e4 => q _ H4 ((e2.trans e3).trans e4) ⟨_, rfl⟩
      · have hl := Evl.ex_l (e2.trans e3) hA
        have m0 := Int.emod_nonneg k h0
        have m1 := Int.emod_lt_of_pos k (show (0 : Int) < ns.length by omega)
        have ek : k % (ns.length : Int) = (((k % (ns.length : Int)).toNat : Nat) : Int) := by omega
        exact Evl.s_ret (ev_op (ev_op (ev_var rfl) (ev_op (ev_var rfl) (ev_to (by rw [List.length_map]) (ev_lenL (ev_var rfl) hl)) (Evl.rv_I (by show (0 : Int) < ns.length; omega))) (Evl.rv_ixL hl (by rw [ek]; exact atI_ints (by omega)))) (ev_op ev_c (ev_var rfl) (Evl.rv_I (.inl ⟨by decide, by decide⟩))) Evl.rv_I0) fun H4 e4 => q _ H4 ((e2.trans e3).trans e4) ⟨_, rfl⟩
/-! ### _law_mod_places -/
def spModPlaces : Sp := fun vs H Q _ => ∃ (c many p pr : Int), vs = [.int c, .int many, .int p, .int pr] ∧ 0 ≤ many ∧ many ≤ 40 ∧ 0 < p ∧ p ≤ 1000 ∧ 0 < pr ∧
  ∀ l H2 ds, H l = none → Ex H H2 → H2 l = some (.lst (ds.map V.int)) → ds.length = many.toNat → Red p ds → Q (.ref l) H2
theorem ok_modPlaces {f f1 : Addr} {fd fd1 : FuncData} {k : Nat} (F : Fun K "_law_mod_places" "_law_mod_places" sLawModPlaces f fd)
    (F1 : Fun K "_law_draws" "_law_draws" sLawDraws f1 fd1) (b1 : Binds K fd1 ["_law_cell_here", "_law_widths", "_law_prime_here"] []) (g1 : mg "_law_draws" = some (.ref f1)) (G1 : FnOk P w K mg base CX0 (k + 2) f1 fd1 ["_law_cell_here", "_law_widths", "_law_prime_here"] (spDraws K)) :
    FnOk P w K mg base CX0 (k + 3) f fd ["_law_cell_here", "_law_many", "_law_p", "_law_prime_here"] spModPlaces := by
  refine F.ok scLawModPlaces (fun vs H Q E h => ?_) (fun cdv A outer s H vs Q E hr h => ?_)
  · obtain ⟨c, many, p, pr, rfl, _⟩ := h
    rfl
  · obtain ⟨c, many, p, pr, rfl, hm0, hm1, hp0, hp1, hpr, q⟩ := h
    refine ⟨_, pss_one (ps_ret (pe_call G1 hr (by rfl) g1 F1.kp b1 .nil pass0 (pa_cons (pv 0) (pa_cons (pe_op op_rep (pe_lst (pa_cons (pv 2) pa_nil)) (pv 1)) (pa_cons (pv 3) pa_nil))))), ?_⟩
    have hws : ∀ x ∈ List.replicate many.toNat p, 0 < x ∧ x < 1073741824 := fun x hx => by
      rw [(List.mem_replicate.mp hx).2]
      omega
    refine s_retP (epp_call (A := fun vs H2 => ∃ b, vs = [.int c, .ref b, .int pr] ∧ H2 b = some (.lst ((List.replicate many.toNat p).map V.int)))
      (eap_cons (ep_ev (ev_var rfl)) fun v H1 e1 hv => eap_cons (ep_evL (el_rep (n := many) (Evl.el_lst (vs := [.int p]) (Evl.ea_cons (ev_var rfl) Evl.ea_nil) (by show 1 ≤ 100000; decide)) (fun H2 e2 => ev_var rfl) (by omega) (by show 1 ≤ 10; decide))) fun v2 H2 e2 hv2 => ?_)
      (P := fun v H2 => ∃ l ds, v = .ref l ∧ H l = none ∧ H2 l = some (.lst (ds.map V.int)) ∧ ds.length = many.toNat ∧ Red p ds) fun vs H1 e1 hvs H2 e2 Q2 q2 E2 => ?_) fun v H1 e1 hv => ?_
    · subst hv
      obtain ⟨b, rfl, _, hb⟩ := hv2
      refine eap_ea (vs := [.int pr]) (Evl.ea_cons (ev_var rfl) Evl.ea_nil) fun H3 e3 => ⟨b, rfl, ?_⟩
      rw [e3 _ _ hb, flat_one, List.map_replicate]
    · obtain ⟨b, rfl, hb⟩ := hvs
      refine ⟨c, pr, b, List.replicate many.toNat p, rfl, Evl.sq_of (e2 _ _ hb), by rw [List.length_replicate]; omega, hws, hpr, fun l H3 ds nl e3 hl hd => q2 _ H3 e3 ⟨l, ds, rfl, Evl.fresh_back (e1.trans e2) nl, hl, by rw [hd.1, List.length_replicate], fun x hx => ?_⟩⟩
      obtain ⟨i, hi, rfl⟩ := List.mem_iff_getElem.mp hx
      have h2 := hd.1
      rw [List.length_replicate] at h2
      have h := hd.2 i (by rw [List.length_replicate]; omega)
      rw [List.getD_eq_getElem?_getD, List.getElem?_eq_getElem hi, List.getD_eq_getElem?_getD, List.getElem?_replicate, if_pos (by omega)] at h
      exact h
    · obtain ⟨l, ds, rfl, h1, h2, h3, h4⟩ := hv
      exact q l H1 ds h1 e1 h2 h3 h4
/-! ### _law_whole, _law_is_poly, _law_is_mod -/
def spWhole : Sp := fun vs H Q _ => ∃ n : Int, vs = [.int n] ∧ Evl.RetV (.bl true) H Q
theorem ok_whole {f : Addr} {fd : FuncData} {k : Nat} (F : Fun K "_law_whole" "_law_whole" sLawWhole f fd) (mi : mg "isinstance" = none) (mn : mg "int" = none) (mb : mg "bool" = none) : FnOk P w K mg base CX0 (k + 1) f fd ["_law_found"] spWhole := by
  refine F.ok scLawWhole (fun vs H Q E h => ?_) (fun cdv A outer s H vs Q E hr h => ?_)
  · obtain ⟨n, rfl, _⟩ := h
    rfl
  · obtain ⟨n, rfl, q⟩ := h
    refine ⟨_, pss_one (ps_ret (pe_and (pe_callB call_isi (by rfl) mi boot_isinstance (pa_cons (pv 0) (pa_cons (pe_bltn (v := .ty "int") (by rfl) mn PyProof.Rows.boot_int rfl) pa_nil))) (pe_one (pe_not (pe_callB call_isi (by rfl) mi boot_isinstance (pa_cons (pv 0) (pa_cons (pe_bltn (v := .ty "bool") (by rfl) mb PyProof.Rows.boot_bool rfl) pa_nil))))))), ?_⟩
    refine Evl.s_ret (v := .bl true) (Evl.ev_andV (a := true) (b := true) (ev_isiI (ev_var rfl) (by decide +kernel)) fun _ => Evl.ev_notV (a := false) (ev_isiI (ev_var rfl) (by decide +kernel))) fun H1 e1 => q H1 e1
def spIsPoly (K : PySem.W.Frag) : Sp := fun vs H Q _ => ∃ (a : Addr) (ns : List Int), vs = [.ref a] ∧ SqT K H a (ns.map V.int) ∧ ns.length ≤ 1000 ∧ Mon ns ∧ Evl.RetV (.bl true) H Q
theorem mon_last {ns : List Int} (m : Mon ns) : atI (ns.map V.int) (-1) = some (.int 1) := by
  rw [← m.eq, List.map_append]
  exact atI_last _ _
theorem ok_isPoly {f f1 : Addr} {fd fd1 : FuncData} {k : Nat} (F : Fun K "_law_is_poly" "_law_is_poly" sLawIsPoly f fd)
    (F1 : Fun K "_law_whole" "_law_whole" sLawWhole f1 fd1) (b1 : Binds K fd1 ["_law_found"] []) (g1 : mg "_law_whole" = some (.ref f1)) (G1 : FnOk P w K mg base CX0 (k + 1) f1 fd1 ["_law_found"] spWhole)
    (mi : mg "isinstance" = none) (mt : mg "tuple" = none) (ma : mg "all" = none) (ml : mg "len" = none) : FnOk P w K mg base CX0 (k + 2) f fd ["_law_found"] (spIsPoly K) := by
  refine F.ok scLawIsPoly (fun vs H Q E h => ?_) (fun cdv A outer s H vs Q E hr h => ?_)
  · obtain ⟨a, ns, rfl, _⟩ := h
    rfl
  · obtain ⟨a, ns, rfl, hA, hl, hm, q⟩ := h
    refine ⟨_, pss_cons (ps_if (pt_not (pt_val (pe_callB call_isi (by rfl) mi boot_isinstance (pa_cons (pv 0) (pa_cons (pe_bltn (v := .ty "tuple") (by rfl) mt PyProof.Rows.boot_tuple rfl) pa_nil))))) (pss_one (ps_ret pe_bl)) pss_nil)
      (pss_cons (ps_if (pt_not (pt_val (pe_callB (cr_all rfl) (by rfl) ma boot_all (pa_cons (pe_lc (own := [("_law_place", 1)]) (g := gName 1) (tt := tYes) (by rfl) scLawIsPoly.nd (pi_tup (pv 0)) (blkOk_by (N := NLawIsPoly) (sc := defScope sLawIsPoly) (by decide +kernel))
        (fun _ _ _ _ _ => pg_name (i := 1) scLawIsPoly.nd rfl (.inl rfl)) (fun _ _ _ _ _ => pts_nil) (fun _ _ _ _ _ => pe_call G1 hr (by rfl) g1 F1.kp b1 .nil pass0 (pa_cons (pv 1) pa_nil))) pa_nil)))) (pss_one (ps_ret pe_bl)) pss_nil)
      (pss_one (ps_ret (pe_or (pe_cmpR op_eq (pe_callB call_len' (by rfl) ml PySem.boot_len (pa_cons (pv 0) pa_nil)) pe_int (nomark _)) (pe_one (pe_cmpR op_ne (pe_ix ix_tup (pv 0) (pe_un un_neg pe_int) (fun _ _ => rfl)) pe_int (nomark _))))))), ?_⟩
    refine Evl.q_when (b := false) (Evl.et_not (a := true) (Evl.et_B (ev_isiT (ev_var rfl) hA (by decide +kernel)))) (fun hb => absurd hb (by decide)) fun _ H1 e1 => ?_
    refine Evl.q_when (b := false) (Evl.et_not (a := true) (Evl.et_B (ev_all (bs := List.replicate ns.length true) (el_lcT (xs := ns.map V.int) (ev_var rfl) (Evl.ex_t e1 hA) (by simp) (by rw [List.length_map]; omega) (fun x => rfl) fun i x H2 e2 hx => ?_) (all_rep _)))) (fun hb => absurd hb (by decide)) fun _ H2 e2 => ?_
    · obtain ⟨hi, rfl⟩ := ints_get hx
      exact ⟨.bl true, by rw [List.map_replicate, rep_get _ hi], Evl.ev_call (vs := [.int (ns.getD i 0)]) (Evl.ea_cons (ev_var rfl) Evl.ea_nil) fun H3 e3 Q3 q3 E3 => ⟨_, rfl, q3⟩⟩
    · have hA2 := Evl.ex_t (e1.trans e2) hA
      have h1 := hm.len
      refine Evl.s_ret (v := .bl true) (ev_to ?_ (Evl.ev_orV (a := decide ((ns.length : Int) = 0)) (b := true) (ev_op (ev_to (by rw [List.length_map]) (ev_lenT (ev_var rfl) hA2)) ev_c rv_eqI) fun _ => ev_op (ev_op (ev_var rfl) (ev_un ev_c Evl.ru_neg) (Evl.rv_ixT hA2 (mon_last hm))) ev_c rv_neI)) fun H3 e3 => q H3 ((e1.trans e2).trans e3)
      rw [Bool.or_true]
def spIsMod (K : PySem.W.Frag) : Sp := fun vs H Q _ => ∃ (a : Addr) (ns : List Int) (p : Int), vs = [.ref a, .int p] ∧ SqT K H a (ns.map V.int) ∧ ns.length ≤ 1000 ∧ Mon ns ∧ Red p ns ∧ Evl.RetV (.bl true) H Q
theorem ok_isMod {f f1 : Addr} {fd fd1 : FuncData} {k : Nat} (F : Fun K "_law_is_mod" "_law_is_mod" sLawIsMod f fd)
    (F1 : Fun K "_law_is_poly" "_law_is_poly" sLawIsPoly f1 fd1) (b1 : Binds K fd1 ["_law_found"] []) (g1 : mg "_law_is_poly" = some (.ref f1)) (G1 : FnOk P w K mg base CX0 (k + 2) f1 fd1 ["_law_found"] (spIsPoly K))
    (ma : mg "all" = none) : FnOk P w K mg base CX0 (k + 3) f fd ["_law_found", "_law_p"] (spIsMod K) := by
  refine F.ok scLawIsMod (fun vs H Q E h => ?_) (fun cdv A outer s H vs Q E hr h => ?_)
  · obtain ⟨a, ns, p, rfl, _⟩ := h
    rfl
  · obtain ⟨a, ns, p, rfl, hA, hl, hm, hred, q⟩ := h
    refine ⟨_, pss_one (ps_ret (pe_and (pe_call G1 hr (by rfl) g1 F1.kp b1 .nil pass0 (pa_cons (pv 0) pa_nil)) (pe_one (pe_callB (cr_all rfl) (by rfl) ma boot_all (pa_cons (pe_lc (own := [("_law_place", 2)]) (g := gName 2) (tt := tYes) (by rfl) scLawIsMod.nd (pi_tup (pv 0)) (blkOk_by (N := NLawIsMod) (sc := defScope sLawIsMod) (by decide +kernel))
        (fun _ _ _ _ _ => pg_name (i := 2) scLawIsMod.nd rfl (.inl rfl)) (fun _ _ _ _ _ => pts_nil) (fun _ _ _ _ _ => pe_chain op_le op_lt pe_int (pv 2) (pv 1))) pa_nil))))), ?_⟩
    refine Evl.s_ret (v := .bl true) (Evl.ev_andV (a := true) (b := true) (Evl.ev_call (vs := [.ref a]) (Evl.ea_cons (ev_var rfl) Evl.ea_nil) fun H3 e3 Q3 q3 E3 => ⟨a, ns, rfl, Evl.ex_t e3 hA, hl, hm, q3⟩) fun _ =>
      ev_all (bs := List.replicate ns.length true) (el_lcT (xs := ns.map V.int) (ev_var rfl) hA (by simp) (by rw [List.length_map]; omega) (fun x => rfl) fun i x H2 e2 hx => ?_) (all_rep _)) fun H1 e1 => q H1 e1
    obtain ⟨hi, rfl⟩ := ints_get hx
    have hb := hred (ns.getD i 0) (by rw [List.getD_eq_getElem?_getD, List.getElem?_eq_getElem hi]; exact List.getElem_mem hi)
    refine ⟨.bl true, by rw [List.map_replicate, rep_get _ hi], ev_to ?_ (ev_chain (a := decide (0 ≤ ns.getD i 0)) (b := decide (ns.getD i 0 < p)) ev_c (ev_var rfl) Evl.rv_I0 (fun _ => ev_var rfl) (fun _ => Evl.rv_I0))⟩
    rw [decide_eq_true hb.1, decide_eq_true hb.2]
    rfl
end
end RH
namespace RH
open PySem PySem.Spec PyProof.Rows L2
open Evl (Ev EvL EvU EvT EvA EvO Ex ev_c ev_var ev_op ev_un ea_nil ea_cons)
/-! ### the product, place by place -/
theorem ev_take_succ {g : List Int} {j : Nat} (h : j < g.length) (x : Int) : ev (g.take (j + 1)) x = ev (g.take j) x + x ^ j * g.getD j 0 := by
  have e : g.take (j + 1) = g.take j ++ [g.getD j 0] := by
    rw [List.take_add_one, List.getD_eq_getElem?_getD, List.getElem?_eq_getElem h]
    rfl
  rw [e, ev_append, List.length_take, Nat.min_eq_left (by omega)]
  simp [ev]
def TimesOk (p : Int) (f g : List Int) (i j : Nat) (R : List Int) : Prop := R.length = f.length + g.length ∧ Red p R ∧ Eqv p (ev R) (fun x => ev (f.take i) x * ev g x + x ^ i * f.getD i 0 * ev (g.take j) x)
theorem times_start {p : Int} (hp : 0 < p) (f g : List Int) : TimesOk p f g 0 0 (List.replicate (f.length + g.length) 0) :=
  ⟨by simp, fun c hc => by rw [(List.mem_replicate.mp hc).2]; omega, Eqv.of_eq fun x => by simp [ev_zeros, ev]⟩
theorem times_step {p : Int} (hp : 0 < p) {f g R : List Int} {i j : Nat} (hi : i < f.length) (hj : j < g.length) (h : TimesOk p f g i j R) : TimesOk p f g i (j + 1) (R.set (i + j) ((R.getD (i + j) 0 + f.getD i 0 * g.getD j 0) % p)) := by
  obtain ⟨h1, h2, k, hk, h3⟩ := h
  refine ⟨by rw [List.length_set]; exact h1, fun c hc => ?_, ?_⟩
  · rcases List.mem_or_eq_of_mem_set hc with e | e
    · exact h2 c e
    · rw [e]
      exact ⟨Int.emod_nonneg _ (by omega), Int.emod_lt_of_pos _ hp⟩
  · have e := Int.emod_add_mul_ediv (R.getD (i + j) 0 + f.getD i 0 * g.getD j 0) p
    generalize (R.getD (i + j) 0 + f.getD i 0 * g.getD j 0) % p = v at *
    generalize (R.getD (i + j) 0 + f.getD i 0 * g.getD j 0) / p = q at *
    refine ⟨fun x => k x + (-q) * x ^ (i + j), hk.add ((IsP.const (-q)).mul (IsP.pow (i + j))), fun x => ?_⟩
    rw [ev_set R (i + j) v x (by omega), h3]
    dsimp only
    rw [ev_take_succ hj, Int.pow_add]
    generalize x ^ i = xi at *
    generalize x ^ j = xj at *
    have ev' : v = R.getD (i + j) 0 + f.getD i 0 * g.getD j 0 - p * q := by omega
    rw [ev']
    grind
theorem times_row {p : Int} {f g R : List Int} {i : Nat} (hi : i < f.length) (h : TimesOk p f g i g.length R) : TimesOk p f g (i + 1) 0 R := by
  obtain ⟨h1, h2, h3⟩ := h
  refine ⟨h1, h2, h3.trans (Eqv.of_eq fun x => ?_)⟩
  rw [List.take_length, ev_take_succ hi]
  simp only [List.take_zero, ev]
  grind
theorem times_end {p : Int} (hp : 0 < p) {f g R : List Int} (h : TimesOk p f g f.length 0 R) : cutL R = mulP p f g := by
  refine mulP_of hp h.2.1 (h.2.2.trans (Eqv.of_eq fun x => ?_))
  rw [List.take_length]
  simp [ev]
section
variable {P : Program} {w : World} {K : PySem.W.Frag} {mg : Str → Option Value} {base : Heap}
def spTimes (K : PySem.W.Frag) : Sp := fun vs H Q _ => ∃ (a b : Addr) (f g : List Int) (p : Int), vs = [.ref a, .ref b, .int p] ∧ SqT K H a (f.map V.int) ∧ SqT K H b (g.map V.int) ∧ f.length ≤ 100 ∧ g.length ≤ 100 ∧ Red p f ∧ 0 < p ∧ p ≤ 1000 ∧ RetU ((mulP p f g).map V.int) H Q
theorem ok_times {f f1 : Addr} {fd fd1 : FuncData} {k : Nat} (F : Fun K "_law_mod_times" "_law_mod_times" sLawModTimes f fd)
    (F1 : Fun K "_law_cut" "_law_cut" sLawCut f1 fd1) (b1 : Binds K fd1 ["_law_row"] []) (g1 : mg "_law_cut" = some (.ref f1)) (G1 : FnOk P w K mg base CX0 (k + 1) f1 fd1 ["_law_row"] (spCut K))
    (ml : mg "len" = none) (mra : mg "range" = none) : FnOk P w K mg base CX0 (k + 2) f fd ["_law_f", "_law_g", "_law_p"] (spTimes K) := by
  refine F.ok scLawModTimes (fun vs H Q E h => ?_) (fun cdv A outer s H vs Q E hr h => ?_)
  · obtain ⟨a, b, f, g, p, rfl, _⟩ := h
    rfl
  · obtain ⟨a, b, ff, g, p, rfl, hA, hB, hlf, hlg, hred, hp, hp2, q⟩ := h
    refine ⟨_, pss_cons (ps_set (i := 3) scLawModTimes.nd rfl (.inl rfl) (pe_op op_rep (pe_lst (pa_cons pe_int pa_nil)) (pe_op op_add (pe_callB call_len' (by rfl) ml PySem.boot_len (pa_cons (pv 0) pa_nil)) (pe_callB call_len' (by rfl) ml PySem.boot_len (pa_cons (pv 1) pa_nil)))))
      (pss_cons (ps_for PassesOwn.never rfl (pi_range1 (by rfl) mra (pa_cons (pe_callB call_len' (by rfl) ml PySem.boot_len (pa_cons (pv 0) pa_nil)) pa_nil)) (pg_name (i := 4) scLawModTimes.nd rfl (.inl rfl))
        (pss_one (ps_for PassesOwn.never rfl (pi_range1 (by rfl) mra (pa_cons (pe_callB call_len' (by rfl) ml PySem.boot_len (pa_cons (pv 1) pa_nil)) pa_nil)) (pg_name (i := 5) scLawModTimes.nd rfl (.inl rfl))
          (pss_one (ps_asg (pe_op op_mod (pe_op op_add (pe_ix ix_list (pv 3) (pe_op op_add (pv 4) (pv 5)) (fun _ _ => rfl)) (pe_op op_mul (pe_ix ix_tup (pv 0) (pv 4) (fun _ _ => rfl)) (pe_ix ix_tup (pv 1) (pv 5) (fun _ _ => rfl)))) (pv 2)) (pg_sub (pv 3) (pe_op op_add (pv 4) (pv 5)) set_list))))))
      (pss_one (ps_ret (pe_call G1 hr (by rfl) g1 F1.kp b1 .nil pass0 (pa_cons (pv 3) pa_nil))))), ?_⟩
    refine Evl.q_asgL (xs := (List.replicate (ff.length + g.length) (0 : Int)).map V.int) (el_to ?_ (el_rep (xs := [.int 0]) (n := (ff.length : Int) + g.length) (Evl.el_lst (Evl.ea_cons ev_c Evl.ea_nil) (by show 1 ≤ 100000; decide))
      (fun H1 e1 => ev_op (ev_to (by rw [List.length_map]) (ev_lenT (ev_var rfl) (Evl.ex_t e1 hA))) (ev_to (by rw [List.length_map]) (ev_lenT (ev_var rfl) (Evl.ex_t e1 hB))) Evl.rv_I0) (by omega) (by show 1 ≤ 10; decide))) fun l H1 nl e1 hl => ?_
    · rw [flat_one, List.map_replicate, show ((ff.length : Int) + (g.length : Int)).toNat = ff.length + g.length by omega]
    refine Evl.q_forR1 (n := (ff.length : Int)) (Evl.ea_cons (ev_to (by rw [List.length_map]) (ev_lenT (ev_var rfl) (Evl.ex_t e1 hA))) Evl.ea_nil) (by omega)
      (fun i σ' H' => Ex H H' ∧ ∃ (R : List Int) (y4 y5 : Option V), σ' = [some (.ref a), some (.ref b), some (.int p), some (.ref l), y4, y5] ∧ H' l = some (.lst (R.map V.int)) ∧ TimesOk p ff g i 0 R)
      (fun H2 e2 => ⟨e1.trans e2, _, none, none, rfl, e2 _ _ hl, times_start hp ff g⟩) (fun i σ' H' hi hPv => ?_) (fun σ' H' hPv => ?_)
    · obtain ⟨e, R, y4, y5, rfl, hR, hT⟩ := hPv
      have hi' : i < ff.length := by omega
      refine Evl.s_forR1 (n := (g.length : Int)) (Evl.ea_cons (ev_to (by rw [List.length_map]) (ev_lenT (ev_var rfl) (Evl.ex_t e hB))) Evl.ea_nil) (by omega)
        (fun j σ' H' => Ex H H' ∧ ∃ (R : List Int) (y5 : Option V), σ' = [some (.ref a), some (.ref b), some (.int p), some (.ref l), some (.int (i : Int)), y5] ∧ H' l = some (.lst (R.map V.int)) ∧ TimesOk p ff g i j R)
        (fun H2 e2 => ⟨e.trans e2, R, y5, rfl, e2 _ _ hR, hT⟩) (fun j σ' H2 hj hPv => ?_) (fun σ' H2 hPv => ?_)
      · obtain ⟨e2, R, y5, rfl, hR, hT⟩ := hPv
        have hj' : j < g.length := by omega
        have hlen := hT.1
        have hfi := hred (ff.getD i 0) (by rw [List.getD_eq_getElem?_getD, List.getElem?_eq_getElem hi']; exact List.getElem_mem hi')
        have eij : (i : Int) + (j : Int) = ((i + j : Nat) : Int) := by omega
        refine Evl.s_setL (j := i + j) (v := .int ((R.getD (i + j) 0 + ff.getD i 0 * g.getD j 0) % p)) hR (ev_op (ev_op (ev_op (ev_var rfl) (ev_op (ev_var rfl) (ev_var rfl) Evl.rv_I0) (Evl.rv_ixL (Evl.sq_of hR) (by rw [eij]; exact atI_ints (by omega))))
          (ev_op (ev_op (ev_var rfl) (ev_var rfl) (Evl.rv_ixT (Evl.ex_t e2 hA) (atI_ints hi'))) (ev_op (ev_var rfl) (ev_var rfl) (Evl.rv_ixT (Evl.ex_t e2 hB) (atI_ints hj'))) (Evl.rv_I (.inl ⟨by omega, by omega⟩))) Evl.rv_I0) (ev_var rfl) (Evl.rv_I hp))
          (ev_var rfl) (ev_to (by rw [eij]) (ev_op (ev_var rfl) (ev_var rfl) Evl.rv_I0)) (by rw [List.length_map]; omega) fun H3 e3 => ?_
        exact ⟨Ex.mut (e2.trans e3) nl, _, _, rfl, by rw [upd_same, ← List.map_set], times_step hp hi' hj' hT⟩
      · obtain ⟨e2, R, y5, rfl, hR, hT⟩ := hPv
        rw [show (g.length : Int).toNat = g.length by omega] at hT
        exact ⟨e2, R, _, _, rfl, hR, times_row hi' hT⟩
    · obtain ⟨e, R, y4, y5, rfl, hR, hT⟩ := hPv
      rw [show (ff.length : Int).toNat = ff.length by omega] at hT
      have hlen := hT.1
      refine Evl.s_retU (eu_call (vs := [.ref l]) (xs := (mulP p ff g).map V.int) (Evl.ea_cons (ev_var rfl) Evl.ea_nil) fun H2 e2 Q2 q2 E2 => ⟨l, R, rfl, Evl.sq_of (e2 _ _ hR), by omega, by rw [times_end hp hT]; exact q2⟩) fun c H2 nc e2 hc => RetU.go q e nc e2 hc
/-! ### _law_mod_stays -/
def backL (p : Int) (n : Nat) : List Int := (List.range n).map fun k : Nat => if k = 0 then (0 : Int) else inv (k : Int) p
theorem backL_getD {p : Int} {n k : Nat} (h : k < n) (h0 : k ≠ 0) : (backL p n).getD k 0 = inv (k : Int) p := by
  unfold backL
  rw [List.getD_eq_getElem?_getD, List.getElem?_map, List.getElem?_range h]
  show (if k = 0 then (0 : Int) else inv (k : Int) p) = _
  rw [if_neg h0]
theorem backL_len (p : Int) (n : Nat) : (backL p n).length = n := by simp [backL]
theorem backL_two {p : Int} (P : Pr p) : backL p 2 = [0, 1] := by
  show [(0 : Int), inv ((1 : Nat) : Int) p] = _
  rw [show ((1 : Nat) : Int) = 1 by rfl, inv_one P]
theorem back_next {p : Int} (P : Pr p) {k : Nat} (h2 : 2 ≤ k) (hk : (k : Int) < p) : (p - p / (k : Int)) * inv (p % (k : Int)) p % p = inv (k : Int) p ∧ 1 ≤ p % (k : Int) ∧ p % (k : Int) < k := by
  have hp := P.1
  have m0 := Int.emod_nonneg p (by omega : (k : Int) ≠ 0)
  have m1 := Int.emod_lt_of_pos p (by omega : 0 < (k : Int))
  have hne : p % (k : Int) ≠ 0 := fun z => by
    rcases P.2 k (by omega) (Int.dvd_of_emod_eq_zero z) with e | e <;> omega
  refine ⟨?_, by omega, m1⟩
  have hk0 : (k : Int) % p ≠ 0 := by rw [Int.emod_eq_of_lt (by omega) hk]; omega
  have hr0 : (p % (k : Int)) % p ≠ 0 := by rw [Int.emod_eq_of_lt m0 (by omega)]; exact hne
  obtain ⟨u, hu⟩ := inv_ok P hr0
  have e := Int.emod_add_mul_ediv p (k : Int)
  refine inv_unique (a := (k : Int)) ⟨Int.emod_nonneg _ (by omega), Int.emod_lt_of_pos _ (by omega)⟩ (inv_range (by omega)) ?_ (inv_ok P hk0)
  have e2 := Int.emod_add_mul_ediv ((p - p / (k : Int)) * inv (p % (k : Int)) p) p
  generalize (p - p / (k : Int)) * inv (p % (k : Int)) p % p = v at *
  generalize (p - p / (k : Int)) * inv (p % (k : Int)) p / p = vq at *
  generalize inv (p % (k : Int)) p = y at *
  generalize p / (k : Int) = d at *
  generalize p % (k : Int) = r at *
  generalize (k : Int) = kk at *
  clear hk0 hr0 hne m0 m1 h2 hk hp P
  refine ⟨u + kk * y - y - vq * kk, ?_⟩
  have e3 : v = (p - d) * y - p * vq := by omega
  rw [e3]
  have e4 : kk * d = p - r := by omega
  have e5 : ((p - d) * y - p * vq) * kk - 1 = p * kk * y - (kk * d) * y - p * vq * kk - 1 := by clear e e2 e3 e4 hu; grind
  rw [e5, e4]
  have e6 : y * r = p * u + 1 := by omega
  have e7 : p * kk * y - (p - r) * y - p * vq * kk - 1 = p * kk * y - p * y + y * r - p * vq * kk - 1 := by clear e e2 e3 e4 e5 hu e6; grind
  rw [e7, e6]
  clear e e2 e3 e4 e5 hu e6 e7
  grind
theorem backL_succ {p : Int} {n : Nat} (h : n ≠ 0) : backL p (n + 1) = backL p n ++ [inv (n : Int) p] := by
  unfold backL
  rw [List.range_succ, List.map_append]
  show _ ++ [if n = 0 then (0 : Int) else inv (n : Int) p] = _
  rw [if_neg h]
end
end RH
namespace RH
open PySem PySem.Spec PyProof.Rows L2
open Evl (Ev EvL EvU EvT EvA EvO Ex ev_c ev_var ev_op ev_un ea_nil ea_cons)
section
variable {P : Program} {w : World} {K : PySem.W.Frag} {mg : Str → Option Value} {base : Heap}
def spModStays (K : PySem.W.Frag) : Sp := fun vs H Q _ => ∃ (a : Addr) (g : List Int) (p : Int), vs = [.ref a, .int p] ∧ SqT K H a (g.map V.int) ∧ Red p g ∧ g.length ≤ 5 ∧ Stay p g ∧ Pr p ∧ p ≤ 1000 ∧ Evl.RetV (.bl true) H Q
theorem ok_modStays {f f1 : Addr} {fd fd1 : FuncData} {k : Nat} (F : Fun K "_law_mod_stays" "_law_mod_stays" sLawModStays f fd)
    (F1 : Fun K "_law_mod_value" "_law_mod_value" sLawModValue f1 fd1) (b1 : Binds K fd1 ["_law_f", "_law_z", "_law_p"] []) (g1 : mg "_law_mod_value" = some (.ref f1)) (G1 : FnOk P w K mg base CX0 (k + 1) f1 fd1 ["_law_f", "_law_z", "_law_p"] (spModAt K))
    (ml : mg "len" = none) (mra : mg "range" = none) (man : mg "any" = none) : FnOk P w K mg base CX0 (k + 2) f fd ["_law_g", "_law_p"] (spModStays K) := by
  refine F.ok scLawModStays (fun vs H Q E h => ?_) (fun cdv A outer s H vs Q E hr h => ?_)
  · obtain ⟨a, g, p, rfl, _⟩ := h
    rfl
  · obtain ⟨a, g, p, rfl, hA, hred, hl5, hst, hP, hp2, q⟩ := h
    have hp := hP.1
    refine ⟨_, pss_cons (ps_if (pt_cmpR op_eq (pe_callB call_len' (by rfl) ml PySem.boot_len (pa_cons (pv 0) pa_nil)) pe_int (nomark _)) (pss_one (ps_ret pe_bl)) pss_nil)
      (pss_cons (ps_if (pt_val (pe_callB (cr_any rfl) (by rfl) man boot_any (pa_cons (pe_lc (own := [("_law_z", 7)]) (g := gName 7) (tt := tYes) (by rfl) scLawModStays.nd (pi_range1 (by rfl) mra (pa_cons (pv 1) pa_nil)) (blkOk_by (N := NLawModStays) (sc := defScope sLawModStays) (by decide +kernel))
        (fun _ _ _ _ _ => pg_name (i := 7) scLawModStays.nd rfl (.inl rfl)) (fun _ _ _ _ _ => pts_nil) (fun _ _ _ _ _ => pe_cmpR op_eq (pe_call G1 hr (by rfl) g1 F1.kp b1 .nil pass0 (pa_cons (pv 0) (pa_cons (pv 7) (pa_cons (pv 1) pa_nil)))) pe_int (nomark _))) pa_nil))) (pss_one (ps_ret pe_bl)) pss_nil)
      (pss_cons (ps_if (pt_cmpR op_lt (pe_callB call_len' (by rfl) ml PySem.boot_len (pa_cons (pv 0) pa_nil)) pe_int (nomark _)) (pss_one (ps_ret pe_bl)) pss_nil)
      (pss_cons (ps_set (i := 2) scLawModStays.nd rfl (.inl rfl) (pe_lst (pa_cons pe_int (pa_cons pe_int pa_nil))))
      (pss_cons (ps_for PassesOwn.never rfl (pi_range2 (by rfl) mra (pa_cons pe_int (pa_cons (pv 1) pa_nil))) (pg_name (i := 3) scLawModStays.nd rfl (.inl rfl))
        (pss_one (ps_expr (pe_bm PySem.F.plainAttrs_list PySem.F.slot_list_append PySem.F.type_list_append mt_append (pv 2) (pa_cons (pe_op op_mod (pe_op op_mul (pe_op op_sub (pv 1) (pe_op op_fdiv (pv 1) (pv 3))) (pe_ix ix_list (pv 2) (pe_op op_mod (pv 1) (pv 3)) (fun _ _ => rfl))) (pv 1)) pa_nil)))))
      (pss_cons (ps_for PassesOwn.never rfl (pi_range2 (by rfl) mra (pa_cons pe_int (pa_cons (pv 1) pa_nil))) (pg_name (i := 4) scLawModStays.nd rfl (.inr rfl))
        (pss_cons (ps_set (i := 5) scLawModStays.nd rfl (.inr rfl) (pe_op op_mod (pe_op op_mul (pe_ix ix_tup (pv 0) pe_int (fun _ _ => rfl)) (pe_ix ix_list (pv 2) (pv 4) (fun _ _ => rfl))) (pv 1)))
        (pss_one (ps_if (pt_cmpR op_ne (pv 4) (pv 5) (nomark _))
          (pss_cons (ps_set (i := 6) scLawModStays.nd rfl (.inl rfl) (pe_op op_mod (pe_op op_mul (pe_op op_sub (pe_ix ix_tup (pv 0) pe_int (fun _ _ => rfl)) (pe_op op_mul (pv 4) (pe_ix ix_tup (pv 0) pe_int (fun _ _ => rfl)))) (pe_ix ix_list (pv 2) (pe_op op_mod (pe_op op_sub (pv 5) (pv 4)) (pv 1)) (fun _ _ => rfl))) (pv 1)))
          (pss_one (ps_if (pt_cmpR op_eq (pe_op op_mod (pe_op op_sub (pe_op op_add (pe_op op_add (pe_op op_mul (pv 6) (pe_op op_sub (pe_ix ix_tup (pv 0) pe_int (fun _ _ => rfl)) (pv 6))) (pv 4)) (pv 5)) (pe_ix ix_tup (pv 0) pe_int (fun _ _ => rfl))) (pv 1)) pe_int (nomark _)) (pss_one (ps_ret pe_bl)) pss_nil)))
          (pss_one (ps_if (pt_cmpR op_eq (pe_op op_mod (pe_op op_sub (pe_ix ix_tup (pv 0) pe_int (fun _ _ => rfl)) (pe_op op_mul (pv 4) (pe_ix ix_tup (pv 0) pe_int (fun _ _ => rfl)))) (pv 1)) pe_int (nomark _))
            (pss_one (ps_if (pt_val (pe_callB (cr_any rfl) (by rfl) man boot_any (pa_cons (pe_lc (own := [("_law_a", 8)]) (g := gName 8) (tt := tYes) (by rfl) scLawModStays.nd (pi_range1 (by rfl) mra (pa_cons (pv 1) pa_nil)) (blkOk_by (N := NLawModStays) (sc := defScope sLawModStays) (by decide +kernel))
              (fun _ _ _ _ _ => pg_name (i := 8) scLawModStays.nd rfl (.inl rfl)) (fun _ _ _ _ _ => pts_nil) (fun _ _ _ _ _ => pe_cmpR op_eq (pe_op op_mod (pe_op op_sub (pe_op op_add (pe_op op_add (pe_op op_mul (pv 8) (pe_op op_sub (pe_ix (r := rIxT K) ix_tup (pv 0) pe_int (fun _ _ => rfl)) (pv 8))) (pv 4)) (pv 5)) (pe_ix (r := rIxT K) ix_tup (pv 0) pe_int (fun _ _ => rfl))) (pv 1)) pe_int (nomark _))) pa_nil)))
              (pss_one (ps_ret pe_bl)) pss_nil)) pss_nil))))))
      (pss_one (ps_ret pe_bl))))))), ?_⟩
    have hpm : (0 : Int) < p := by omega
    refine Evl.q_when (b := decide ((g.length : Int) = 2)) (Evl.et_test (ev_op (ev_to (by rw [List.length_map]) (ev_lenT (ev_var rfl) hA)) ev_c rv_eqI)) (fun hb H1 e1 => Evl.s_ret ev_c fun H2 e2 => q H2 (e1.trans e2)) (fun hb H1 e1 => ?_)
    have hl2 : ¬ g.length = 2 := fun z => (of_decide_eq_false hb) (by omega)
    rcases hst with hst | ⟨hnr, hst⟩
    · exact absurd hst hl2
    refine Evl.q_when (b := false) (Evl.et_B (ev_any (bs := List.replicate p.toNat false) (el_lcR (n := p) (Evl.ea_cons (ev_var rfl) Evl.ea_nil) (by omega) (by simp) (fun x => rfl) fun i H2 e2 hi => ?_) (any_rep _))) (fun hb => absurd hb (by decide)) (fun _ H2 e2 => ?_)
    · refine ⟨.bl false, by rw [List.map_replicate, rep_get _ (by omega)], ev_to ?_ (ev_op (Evl.ev_call (vs := [.ref a, .int (i : Int), .int p]) (Evl.ea_cons (ev_var rfl) (Evl.ea_cons (ev_var rfl) (Evl.ea_cons (ev_var rfl) Evl.ea_nil))) fun H3 e3 Q3 q3 E3 => ⟨a, g, _, p, rfl, Evl.ex_t ((e1.trans e2).trans e3) hA, by omega, hp, hp2, q3⟩) ev_c rv_eqI)⟩
      rw [decide_eq_false (hnr (i : Int) (by omega) hi)]
    have e12 := e1.trans e2
    refine Evl.q_when (b := decide ((g.length : Int) < 5)) (Evl.et_test (ev_op (ev_to (by rw [List.length_map]) (ev_lenT (ev_var rfl) (Evl.ex_t e12 hA))) ev_c Evl.rv_I0)) (fun hb H3 e3 => Evl.s_ret ev_c fun H4 e4 => q H4 ((e12.trans e3).trans e4)) (fun hb H3 e3 => ?_)
    have hl5' : g.length = 5 := by
      have := of_decide_eq_false hb
      omega
    have hnone : ∀ b : Int, 1 ≤ b → b < p → candA (g.getD 0 0) (g.getD 1 0) (g.getD 2 0) (g.getD 3 0) p b = none := by
      rcases hst with h | h
      · omega
      · exact h
    have gat : ∀ i : Nat, i < 5 → atI (g.map V.int) (i : Int) = some (.int (g.getD i 0)) := fun i hi => atI_ints (by omega)
    have gr : ∀ i : Nat, i < 5 → 0 ≤ g.getD i 0 ∧ g.getD i 0 < p := fun i hi => hred _ (by rw [List.getD_eq_getElem?_getD, List.getElem?_eq_getElem (by omega)]; exact List.getElem_mem (by omega))
    have g0 := gat 0 (by decide)
    have g1' := gat 1 (by decide)
    have g2 := gat 2 (by decide)
    have g3 := gat 3 (by decide)
    have r0 := gr 0 (by decide)
    have r1 := gr 1 (by decide)
    have r2 := gr 2 (by decide)
    have r3 := gr 3 (by decide)
    generalize g.getD 0 0 = l0 at *
    generalize g.getD 1 0 = l1 at *
    generalize g.getD 2 0 = l2 at *
    generalize g.getD 3 0 = l3 at *
    have e13 := e12.trans e3
    refine Evl.q_asgL (xs := (backL p 2).map V.int) (el_to (by rw [backL_two hP]; rfl) (Evl.el_lst (vs := [.int 0, .int 1]) (Evl.ea_cons ev_c (Evl.ea_cons ev_c Evl.ea_nil)) (by show 2 ≤ 100000; decide))) fun l H4 nl e4 hl => ?_
    have nlH : H l = none := Evl.fresh_back e13 nl
    refine Evl.q_forR2 (lo := 2) (n := p) (Evl.ea_cons ev_c (Evl.ea_cons (ev_var rfl) Evl.ea_nil)) (by omega)
      (fun i σ' H' => Ex H H' ∧ H' l = some (.lst ((backL p (2 + i)).map V.int)) ∧ ∃ y3, σ' = [some (.ref a), some (.int p), some (.ref l), y3, none, none, none, none, none])
      (fun H5 e5 => ⟨(e13.trans e4).trans e5, e5 _ _ hl, none, rfl⟩) (fun i σ' H' hi hPv => ?_) (fun σ' H' hPv => ?_)
    · obtain ⟨e, hb', y3, rfl⟩ := hPv
      have hk : ((2 + i : Nat) : Int) < p := by omega
      obtain ⟨bn, bm0, bm1⟩ := back_next hP (k := 2 + i) (by omega) hk
      have ek : (2 : Int) + (i : Int) = ((2 + i : Nat) : Int) := by omega
      rw [ek]
      have hkk : (0 : Int) < ((2 + i : Nat) : Int) := by omega
      have hd1 := Int.ediv_le_self ((2 + i : Nat) : Int) (show 0 ≤ p by omega)
      have hd0 := Int.ediv_nonneg (show 0 ≤ p by omega) (show (0 : Int) ≤ ((2 + i : Nat) : Int) by omega)
      have eix : p % ((2 + i : Nat) : Int) = (((p % ((2 + i : Nat) : Int)).toNat : Nat) : Int) := by omega
      refine Evl.s_app (v := .int (inv ((2 + i : Nat) : Int) p)) hb' (ev_var rfl) (ev_to (by rw [← bn]) (ev_op (ev_op (ev_op (ev_var rfl) (ev_op (ev_var rfl) (ev_var rfl) (Evl.rv_I ⟨hkk, by omega⟩)) Evl.rv_I0) (ev_op (ev_var rfl) (ev_op (ev_var rfl) (ev_var rfl) (Evl.rv_I hkk)) (Evl.rv_ixL (v := .int (inv (p % ((2 + i : Nat) : Int)) p)) (Evl.sq_of hb') ?_)) (Evl.rv_I ?_)) (ev_var rfl) (Evl.rv_I hpm))) (by rw [List.length_map, backL_len]; omega) fun H5 e5 => ?_
      · rw [eix, atI_ints (by rw [backL_len]; omega), backL_getD (by omega) (by omega)]
      · have hdd : p / ((2 + i : Nat) : Int) ≤ p := Int.ediv_le_self _ (by omega)
        exact .inl ⟨by omega, by omega⟩
      · refine ⟨Ex.mut (e.trans e5) nlH, ?_, _, rfl⟩
        rw [upd_same, show 2 + (i + 1) = (2 + i) + 1 by omega, backL_succ (by omega), List.map_append]
        rfl
    · obtain ⟨e, hbk, y3, rfl⟩ := hPv
      rw [show 2 + (p - 2).toNat = p.toNat by omega] at hbk
      refine Evl.q_forR2 (lo := 1) (n := p) (Evl.ea_cons ev_c (Evl.ea_cons (ev_var rfl) Evl.ea_nil)) (by omega)
        (fun i σ' H'' => Ex H' H'' ∧ ∃ y4 y5 y6, σ' = [some (.ref a), some (.int p), some (.ref l), y3, y4, y5, y6, none, none])
        (fun H5 e5 => ⟨e5, none, none, none, rfl⟩) (fun i σ' H5 hi hPv => ?_) (fun σ' H5 hPv => ?_)
      · obtain ⟨e5, y4, y5, y6, rfl⟩ := hPv
        have hb : 1 ≤ 1 + (i : Int) ∧ 1 + (i : Int) < p := by omega
        have hc := hnone _ hb.1 hb.2
        have eb : 1 + (i : Int) = ((1 + i : Nat) : Int) := by omega
        have hbat : atI ((backL p p.toNat).map V.int) (1 + (i : Int)) = some (.int (inv (1 + (i : Int)) p)) := by
          rw [eb, atI_ints (by rw [backL_len]; omega), backL_getD (by omega) (by omega)]
        unfold candA at hc
        dsimp only at hc
        generalize 1 + (i : Int) = b at *
        have hib := inv_range (a := b) (p := p) (by omega)
        have md : ∀ z : Int, 0 ≤ z % p ∧ z % p < p := fun z => ⟨Int.emod_nonneg _ (by omega), Int.emod_lt_of_pos _ (by omega)⟩
        have hd := md (l0 * inv b p)
        have hA5 := Evl.ex_t (e.trans e5) hA
        have hbk5 := e5 _ _ hbk
        refine Evl.q_asg (v := .int (l0 * inv b p % p)) (ev_op (ev_op (ev_op (ev_var rfl) ev_c (Evl.rv_ixT hA5 g0)) (ev_op (ev_var rfl) (ev_var rfl) (Evl.rv_ixL (Evl.sq_of hbk5) hbat)) (Evl.rv_I (.inl ⟨by omega, by omega⟩))) (ev_var rfl) (Evl.rv_I hpm)) fun H6 e6 => ?_
        generalize l0 * inv b p % p = d at *
        have hA6 := Evl.ex_t e6 hA5
        have hbk6 := e6 _ _ hbk5
        refine Evl.s_if (b := !decide (b = d)) (Evl.et_test (ev_op (ev_var rfl) (ev_var rfl) rv_neI)) (fun hne H7 e7 => ?_) (fun hne H7 e7 => ?_)
        · have hne' : b ≠ d := by simpa using hne
          rw [if_pos hne'] at hc
          have hdb := md (d - b)
          have hdb0 : (d - b) % p ≠ 0 := fun z => by
            obtain ⟨kk, hkk⟩ := Int.dvd_of_emod_eq_zero z
            exact hne' (red_eq (k := -kk) (by rw [Int.mul_neg]; omega) ⟨by omega, hb.2⟩ hd)
          have edb : (d - b) % p = ((((d - b) % p).toNat : Nat) : Int) := by omega
          have hdat : atI ((backL p p.toNat).map V.int) ((d - b) % p) = some (.int (inv (d - b) p)) := by
            rw [← inv_mod (d - b) p, edb, atI_ints (by rw [backL_len]; omega), backL_getD (by omega) (by omega)]
          have hidb := inv_range (a := d - b) (p := p) (by omega)
          have ha := md ((l1 - b * l3) * inv (d - b) p)
          have hA7 := Evl.ex_t e7 hA6
          refine Evl.q_asg (v := .int ((l1 - b * l3) * inv (d - b) p % p)) (ev_op (ev_op (ev_op (ev_op (ev_var rfl) ev_c (Evl.rv_ixT hA7 g1')) (ev_op (ev_var rfl) (ev_op (ev_var rfl) ev_c (Evl.rv_ixT hA7 g3)) (Evl.rv_I (.inl ⟨by omega, by omega⟩))) Evl.rv_I0) (ev_op (ev_var rfl) (ev_op (ev_op (ev_var rfl) (ev_var rfl) Evl.rv_I0) (ev_var rfl) (Evl.rv_I hpm)) (Evl.rv_ixL (Evl.sq_of (e7 _ _ hbk6)) hdat)) (Evl.rv_I (.inr ⟨by omega, by omega⟩))) (ev_var rfl) (Evl.rv_I hpm)) fun H8 e8 => ?_
          generalize (l1 - b * l3) * inv (d - b) p % p = aa at *
          have hcond : ¬ (aa * (l3 - aa) + b + d - l2) % p = 0 := fun z => by
            rw [if_pos z] at hc
            cases hc
          have hA8 := Evl.ex_t e8 hA7
          refine Evl.s_when (b := decide ((aa * (l3 - aa) + b + d - l2) % p = 0)) (Evl.et_test (ev_op (ev_op (ev_op (ev_op (ev_op (ev_op (ev_var rfl) (ev_op (ev_op (ev_var rfl) ev_c (Evl.rv_ixT hA8 g3)) (ev_var rfl) Evl.rv_I0) (Evl.rv_I (.inl ⟨by omega, by omega⟩))) (ev_var rfl) Evl.rv_I0) (ev_var rfl) Evl.rv_I0) (ev_op (ev_var rfl) ev_c (Evl.rv_ixT hA8 g2)) Evl.rv_I0) (ev_var rfl) (Evl.rv_I hpm)) ev_c rv_eqI)) (fun hz H9 e9 => absurd (of_decide_eq_true hz) hcond) (fun hz H9 e9 => ?_)
          exact ⟨(((e5.trans e6).trans e7).trans e8).trans e9, _, _, _, rfl⟩
        · have hbd : b = d := by simpa using hne
          rw [if_neg (fun z : b ≠ d => z hbd)] at hc
          have hA7 := Evl.ex_t e7 hA6
          refine Evl.s_when (b := decide ((l1 - b * l3) % p = 0)) (Evl.et_test (ev_op (ev_op (ev_op (ev_op (ev_var rfl) ev_c (Evl.rv_ixT hA7 g1')) (ev_op (ev_var rfl) (ev_op (ev_var rfl) ev_c (Evl.rv_ixT hA7 g3)) (Evl.rv_I (.inl ⟨by omega, by omega⟩))) Evl.rv_I0) (ev_var rfl) (Evl.rv_I hpm)) ev_c rv_eqI)) (fun hz H8 e8 => ?_) (fun hz H8 e8 => ?_)
          · rw [if_pos (of_decide_eq_true hz)] at hc
            have hfn : findA l2 l3 p b d = none := by
              cases hf : findA l2 l3 p b d with
              | none => rfl
              | some z => rw [hf] at hc; cases hc
            have hno : ∀ j : Nat, (j : Int) < p → ¬ ((j : Int) * (l3 - (j : Int)) + b + d - l2) % p = 0 := fun j hj z => by
              have := List.find?_eq_none.mp hfn j (List.mem_range.mpr (by omega))
              exact this (by simpa using z)
            have hA8 := Evl.ex_t e8 hA7
            refine Evl.s_when (b := false) (Evl.et_B (ev_any (bs := List.replicate p.toNat false) (el_lcR (n := p) (Evl.ea_cons (ev_var rfl) Evl.ea_nil) (by omega) (by simp) (fun x => rfl) fun j H9 e9 hj => ?_) (any_rep _))) (fun hb => absurd hb (by decide)) (fun _ H9 e9 => ?_)
            · have hA9 := Evl.ex_t e9 hA8
              refine ⟨.bl false, by rw [List.map_replicate, rep_get _ (by omega)], ev_to ?_ (ev_op (ev_op (ev_op (ev_op (ev_op (ev_op (ev_var rfl) (ev_op (ev_op (ev_var rfl) ev_c (Evl.rv_ixT hA9 g3)) (ev_var rfl) Evl.rv_I0) (Evl.rv_I (.inl ⟨by omega, by omega⟩))) (ev_var rfl) Evl.rv_I0) (ev_var rfl) Evl.rv_I0) (ev_op (ev_var rfl) ev_c (Evl.rv_ixT hA9 g2)) Evl.rv_I0) (ev_var rfl) (Evl.rv_I hpm)) ev_c rv_eqI)⟩
              rw [decide_eq_false (hno j hj)]
            · exact ⟨(((e5.trans e6).trans e7).trans e8).trans e9, _, _, _, rfl⟩
          · exact ⟨((e5.trans e6).trans e7).trans e8, _, _, _, rfl⟩
      · obtain ⟨e5, y4, y5, y6, rfl⟩ := hPv
        exact Evl.s_ret ev_c fun H6 e6 => q H6 ((e.trans e5).trans e6)
end
end RH
namespace RH
open PySem PySem.Spec PyProof.Rows L2
open Evl (Ev EvL EvU EvT EvA EvO Ex ev_c ev_var ev_op ev_un ea_nil ea_cons)
section
variable {K : PySem.W.Frag} {σ : L2.St} {H H' : Hp} {ta tb tc te tx : TE} {x y z v : V} {r r' : R2} {D : Ends} {tu tw tz : TS} {xs ys : List V} {t : TT}
theorem el_lcR2 {ta : TA} {j : Nat} {ys : List V} {vs : List Nat} {lo n : Int} (h : EvA ta σ H [.int lo, .int n]) (hn : 0 ≤ lo ∧ lo ≤ n ∧ n ≤ 40000) (hl : ys.length = (n - lo).toNat) (hw : ∀ x, wipe ((wipe σ vs).set j (some x)) vs = wipe σ vs)
    (he : ∀ (i : Nat) H1, Ex H H1 → lo + (i : Int) < n → ∃ y, ys[i]? = some y ∧ Ev te ((wipe σ vs).set j (some (.int (lo + (i : Int))))) H1 y) :
    EvL (tLc (iRng2 ta) (gName j) tYes te vs) σ H ys := fun H0 e Q q => h H0 e _ fun H1 e1 => ⟨lo, n, rfl, ⟨by omega, by omega, by omega, by omega⟩, fun Dl hD =>
  lc_range (lo := lo) (n := (n - lo).toNat) (Lw H1 ys Dl) ⟨hD, Ex.new hD, by rw [upd_same]; rfl⟩ (fun i H' hi p => by
    refine ⟨hw _, ?_⟩
    obtain ⟨y, hy, hev⟩ := he i H1 (e.trans e1) (by omega)
    exact lw_turn p hy (by omega) hev) (fun H' p => q Dl H' (Evl.fresh_back e1 p.1) (e1.trans p.2.1) (by rw [← hl, Lw, List.take_length] at p; exact p.2.2))⟩
theorem el_lcR2F {ta : TA} {j : Nat} {vs : List Nat} {lo n : Int} (f : Nat → Bool) (v : Nat → V) (h : EvA ta σ H [.int lo, .int n]) (hn : 0 ≤ lo ∧ lo ≤ n ∧ n ≤ 40000) (hw : ∀ x, wipe ((wipe σ vs).set j (some x)) vs = wipe σ vs)
    (ht : ∀ (i : Nat) H1, Ex H H1 → lo + (i : Int) < n → EvT t ((wipe σ vs).set j (some (.int (lo + (i : Int))))) H1 (f i)) (he : ∀ (i : Nat) H1, Ex H H1 → lo + (i : Int) < n → f i = true → Ev te ((wipe σ vs).set j (some (.int (lo + (i : Int))))) H1 (v i)) :
    EvL (tLc (iRng2 ta) (gName j) t te vs) σ H (Evl.given (n - lo).toNat f v) := fun H0 e Q q => h H0 e _ fun H1 e1 => ⟨lo, n, rfl, ⟨by omega, by omega, by omega, by omega⟩, fun Dl hD =>
  lc_range (lo := lo) (n := (n - lo).toNat) (Evl.Cw H1 f v Dl) ⟨hD, Ex.new hD, upd_same⟩ (fun i H' hi p => by
    exact ⟨hw _, Evl.cw_turn p (by omega) (ht i H1 (e.trans e1) (by omega)) (fun hf => he i H1 (e.trans e1) (by omega) hf)⟩) (fun H' p => q Dl H' (Evl.fresh_back e1 p.1) (e1.trans p.2.1) p.2.2)⟩
end
def lcScope (s : Stmt) : Scope := match defBody s with
  | [.Return (some (.ListComp _ _ sc _)) _] => sc
  | _ => { kind := .function, names := [], isGenerator := false, isCoroutine := false }
/-- no divisor from 2 to 14 -/
def sieve (n : Int) : List Bool := (List.range 13).map fun i : Nat => decide (n = 2 + (i : Int)) || !decide (n % (2 + (i : Int)) = 0)
theorem sieve_primes : Evl.given 198 (fun i : Nat => (sieve (2 + (i : Int))).all id) (fun i : Nat => V.int (2 + (i : Int))) = primes.map V.int := by decide +kernel
section
variable {P : Program} {w : World} {K : PySem.W.Frag} {mg : Str → Option Value} {base : Heap}
/-! ### _law_primes, _law_prime -/
def spPrimes : Sp := fun vs H Q _ => vs = [] ∧ Evl.RetL (primes.map V.int) H Q
theorem ok_primes {f : Addr} {fd : FuncData} {k : Nat} (F : Fun K "_law_primes" "_law_primes" sLawPrimes f fd) (mra : mg "range" = none) (mal : mg "all" = none) : FnOk P w K mg base CX0 (k + 1) f fd [] spPrimes := by
  refine F.ok scLawPrimes (fun vs H Q E h => ?_) (fun cdv A outer s H vs Q E hr h => ?_)
  · obtain ⟨rfl, _⟩ := h
    rfl
  · obtain ⟨rfl, q⟩ := h
    refine ⟨_, pss_one (ps_ret (pe_lc (own := [("_law_n", 0)]) (g := gName 0) (by rfl) scLawPrimes.nd (pi_range2 (by rfl) mra (pa_cons pe_int (pa_cons pe_int pa_nil))) (blkOk_by (N := NLawPrimes) (sc := defScope sLawPrimes) (by decide +kernel))
      (fun _ _ _ _ _ => pg_name (i := 0) scLawPrimes.nd rfl (.inr rfl)) (fun _ _ _ _ _ => pts_one (pt_val (pe_callB (r := rAll K) (cr_all rfl) (by rfl) mal boot_all (pa_cons
        (pe_lc (own := [("_law_d", 1)]) (g := gName 1) (tt := tYes) (by rfl) scLawPrimes.nd (pi_range2 (by rfl) mra (pa_cons pe_int (pa_cons pe_int pa_nil))) (blkOk_by (N := NLawPrimes) (sc := relS (lcScope sLawPrimes) (defScope sLawPrimes)) (by decide +kernel))
          (fun _ _ _ _ _ => pg_name (i := 1) scLawPrimes.nd rfl (.inl rfl)) (fun _ _ _ _ _ => pts_nil) (fun _ _ _ _ _ => pe_or (pe_cmpR op_eq (pv 0) (pv 1) (nomark _)) (pe_one (pe_cmpR op_ne (pe_op op_mod (pv 0) (pv 1)) pe_int (nomark _)))))
        pa_nil)))) (fun _ _ _ _ _ => pv 0))), ?_⟩
    refine Evl.s_retL (xs := primes.map V.int) (el_to sieve_primes (el_lcR2F (lo := 2) (n := 200) _ _ (Evl.ea_cons ev_c (Evl.ea_cons ev_c Evl.ea_nil)) (by decide) (fun x => rfl) (fun i H1 e1 hi => Evl.et_B (ev_all (bs := sieve (2 + (i : Int))) (el_lcR2 (lo := 2) (n := 15) (Evl.ea_cons ev_c (Evl.ea_cons ev_c Evl.ea_nil)) (by decide) (by simp [sieve]) (fun x => rfl) fun j H2 e2 hj => ?_) rfl))
      (fun i H1 e1 hi hf => ev_var rfl))) fun p H1 hp e1 h1 => q p H1 hp e1 h1
    refine ⟨.bl (decide (2 + (i : Int) = 2 + (j : Int)) || !decide ((2 + (i : Int)) % (2 + (j : Int)) = 0)), ?_, Evl.ev_orV (ev_op (ev_var rfl) (ev_var rfl) rv_eqI) fun _ => ev_op (ev_op (ev_var rfl) (ev_var rfl) (Evl.rv_I (by show (0 : Int) < 2 + (j : Int); omega))) ev_c rv_neI⟩
    unfold sieve
    rw [List.getElem?_map, List.getElem?_map, List.getElem?_range (by omega)]
    rfl
end
end RH
namespace RH
open PySem PySem.Spec PyProof.Rows L2
open Evl (Ev EvL EvU EvT EvA EvO Ex ev_c ev_var ev_op ev_un ea_nil ea_cons)
/-! ### zip of a tuple and a list -/
def ItzM (K : PySem.W.Frag) (a b : Addr) : It where
  go i H := ∃ xs ys : List V, SqT K H a xs ∧ SqL K H b ys ∧ i < xs.length ∧ i < ys.length
  yld i H v H' := ∃ T x y, v = .ref T ∧ H T = none ∧ H' = upd H T (.tup [x, y]) ∧ (∀ xs, SqT K H a xs → xs[i]? = some x) ∧ (∀ ys, SqL K H b ys → ys[i]? = some y)
  stop i H := ∃ xs ys : List V, SqT K H a xs ∧ SqL K H b ys ∧ i = min xs.length ys.length
def StM (z TI TO i1 i2 a b : Addr) (i : Nat) (h : Heap) : Prop := IsZip h z TI TO .none ∧ IsTupOf2 h TI (.ref i1) (.ref i2) ∧ (∃ a1 a2, IsTupOf2 h TO a1 a2) ∧ h.IsTupleIter i1 a i ∧ h.IsListIter i2 b i
theorem StM.lives {z TI TO i1 i2 a b : Addr} {i : Nat} {h : Heap} (st : StM z TI TO i1 i2 a b i h) : ∀ c ∈ [z, TI, TO, i1, i2], ∃ o, h.get? c = some o ∧ ∀ v, o.data ≠ .cell v := by
  obtain ⟨s1, s2, ⟨a1, a2, s3⟩, ⟨o4, s4, _, d4⟩, ⟨o5, s5, _, d5⟩⟩ := st
  intro c hc
  simp only [List.mem_cons, List.not_mem_nil, or_false] at hc
  rcases hc with e | e | e | e | e <;> subst e
  · exact ⟨_, s1, fun v q => nomatch q⟩
  · exact ⟨_, s2, fun v q => nomatch q⟩
  · exact ⟨_, s3, fun v q => nomatch q⟩
  · exact ⟨o4, s4, fun v q => by rw [d4] at q; cases q⟩
  · exact ⟨o5, s5, fun v q => by rw [d5] at q; cases q⟩
theorem turn_zipM {P : Program} {w : World} {K : PySem.W.Frag} {elts : List Expr} {kk : Nat} {tpos : Pos} {a b z TI TO i1 i2 : Addr} (D : ZipSep2 z TI TO i1 i2 [i1, a] [i2, b]) (ha : a ≠ i1) (hb : b ≠ i2) :
    Turn P w K (.Tuple elts kk tpos) (ItzM K a b) [z, TI, TO, i1, i2] z (StM z TI TO i1 i2 a b) where
  mem := List.mem_cons_self
  obj := fun i h st => st.lives
  keep := fun i h h' st k => by
    obtain ⟨s1, s2, ⟨a1, a2, s3⟩, s4, s5⟩ := st
    exact ⟨k _ (by simp) _ s1, k _ (by simp) _ s2, ⟨a1, a2, k _ (by simp) _ s3⟩, s4.at fun o e => k _ (by simp) o e, s5.at fun o e => k _ (by simp) o e⟩
  item := by
    intro X hP hw hK hc i pins s σ H E I hf st hg
    subst hP hw hK
    obtain ⟨xs, ys, hqx, hqy, hx, hy⟩ := hg
    obtain ⟨its, rv, p, _⟩ := I.tuple hqx
    obtain ⟨its2, rv2, p2, _⟩ := I.list hqy
    have l1 := rv.length
    have l2 := rv2.length
    have hh : X.A.in1.handled = none := I.ok.hd hc
    have G := GoesN.zip2 (prog := X.prog) (w := X.w) (A := X.A) (elts := elts) (x1 := kk) (pos := tpos) D (Draws.tuple hh i1 a ha its.toArray) (Draws.list hh i2 b hb its2.toArray)
    have hT : s.heap.IsTuple a its.toArray := p
    refine G.goes i s (fun v s2 => ∃ x H', Inv X pins σ H' s2 ∧ RelV x v ∧ (ItzM X.K a b).yld i H x H' ∧ StM z TI TO i1 i2 a b (i + 1) s2.heap ∧ ∀ c ∈ [z, TI, TO, i1, i2], H' c = none) E (by simp; omega)
      ⟨st.1, st.2.1, st.2.2.1, ⟨st.2.2.2.1, hT⟩, ⟨st.2.2.2.2, p2.isList⟩⟩ fun v h' tk hY st' hk htk => ?_
    obtain ⟨T, u, u2, rfl, hTn, hu, hu2, hnew⟩ := hY
    obtain ⟨x, hx'⟩ : ∃ x, xs[i]? = some x := ⟨_, List.getElem?_eq_getElem hx⟩
    obtain ⟨y, hy'⟩ : ∃ y, ys[i]? = some y := ⟨_, List.getElem?_eq_getElem hy⟩
    obtain ⟨q1, e1, ru⟩ := rv.get hx'
    obtain ⟨q2, e2, ru2⟩ := rv2.get hy'
    have hu' : its[i]? = some u := by simpa using hu
    have hu2' : its2[i]? = some u2 := by simpa using hu2
    rw [e1] at hu'
    cases hu'
    rw [e2] at hu2'
    cases hu2'
    have new : ObjOk X.prog X.w (upd H T (.tup [x, y])) h' T (.tup [x, y]) := ⟨by show 2 ≤ sizeLine; decide, [u, u2], .cons ru (.cons ru2 .nil), hnew⟩
    have I1 : Inv X pins σ (upd H T (.tup [x, y])) { s with heap := h', toks := tk } := I.turnedNew (t' := tk) (ch := [z, TO, i1, i2]) (fun c o hc e => hk c o hc e)
      (fun c hc => hf c (by simp only [List.mem_cons, List.not_mem_nil, or_false] at hc ⊢; rcases hc with e | e | e | e <;> simp [e])) hTn new
    refine ⟨.ref T, _, I1, rfl, ⟨T, x, y, rfl, I.hok.fresh hTn, rfl, fun l hl => by rw [I.tuple_inj hl hqx]; exact hx', fun l hl => by rw [I.list_inj hl hqy]; exact hy'⟩, ⟨st'.1, st'.2.1, st'.2.2.1, st'.2.2.2.1.1, st'.2.2.2.2.1⟩, fun c hc => ?_⟩
    obtain ⟨o, ho, _⟩ := st.lives c hc
    rw [upd_ne (Nat.ne_of_lt (Nat.lt_of_lt_of_le (Heap.lt_size ho) hTn))]
    exact (hf c hc).1
  done := by
    intro X hP hw hK hc i pins s σ H E I hf st hg
    subst hP hw hK
    obtain ⟨xs, ys, hqx, hqy, hi⟩ := hg
    obtain ⟨its, rv, p, _⟩ := I.tuple hqx
    obtain ⟨its2, rv2, p2, _⟩ := I.list hqy
    have l1 := rv.length
    have l2 := rv2.length
    have hh : X.A.in1.handled = none := I.ok.hd hc
    have G := GoesN.zip2 (prog := X.prog) (w := X.w) (A := X.A) (elts := elts) (x1 := kk) (pos := tpos) D (Draws.tuple hh i1 a ha its.toArray) (Draws.list hh i2 b hb its2.toArray)
    have hT : s.heap.IsTuple a its.toArray := p
    have en : i = min its.toArray.size its2.toArray.size := by simp; omega
    refine G.stops s (fun s1 => Inv X pins σ H s1) E (by rw [← en]; exact ⟨st.1, st.2.1, st.2.2.1, ⟨st.2.2.2.1, hT⟩, ⟨st.2.2.2.2, p2.isList⟩⟩) fun h' tk hk htk => ?_
    exact I.turnedL (t' := tk) (ch := [z, TO, i1, i2]) (fun c o hc e => hk c o hc e) (fun c hc => hf c (by simp only [List.mem_cons, List.not_mem_nil, or_false] at hc ⊢; rcases hc with e | e | e | e <;> simp [e]))
  self := fun A i s Q E st h => wpAny_pyIter_zip st.1 h
def iZipM (K : PySem.W.Frag) (ta : TA) : TI := fun σ H R => ta σ H fun vs H1 => ∃ a b xs ys, vs = [.ref a, .ref b] ∧ SqT K H1 a xs ∧ SqL K H1 b ys ∧ R (ItzM K a b) H1
theorem pi_zipM {X : Cx} {e e2 : Expr} {ta : TA} {p pos tpos : Pos} {elts : List Expr} {kk : Nat} (hg : Gl X "zip") (hm : X.mg "zip" = none) (ha : PA X [e, e2] ta)
    (hs : starEach [e, e2] X.env = (false, eval e X.env) :: starEach [e2] X.env := by rfl) (hpl : (backTo pos (starEach [e2] X.env)).any (·.1) = false := by rfl) :
    PI X (.Tuple elts kk tpos) (.Call (.Name "zip" p) [e, e2] [] pos) (iZipM X.K ta) := ⟨fun pins s σ H R I h => by
  refine Call_ (ld_blt I hg hm PyProof.Rows.boot_zip (PyProof.Rows.callWith_type1 (thn (ha.run pos pins s σ H _ I h) fun us s1 hus => ?_) hs hpl))
  obtain ⟨vs, H1, I1, r1, a, b, xs, ys, rfl, hqx, hqy, q⟩ := hus
  cases r1 with
  | cons ra rr =>
    cases rr with
    | cons rb rr =>
      cases rr
      cases ra
      cases rb
      obtain ⟨its, rv, p1, _⟩ := I1.tuple hqx
      obtain ⟨its2, rv2, p2, _⟩ := I1.list hqy
      have hT : s1.heap.IsTuple a its.toArray := p1
      have la : a < s1.heap.objs.size := by
        obtain ⟨o, ho, _⟩ := id hT
        exact Heap.lt_size ho
      have lb : b < s1.heap.objs.size := p2.lt
      refine zip_begins2 (begins_tuple a its.toArray) (begins_list b its2.toArray) hT p2.isList fun h' hz hTI hTO h1 h2 hsz hk => wpAny_pyIter_zip hz ?_
      have D := zip_sep2 (N := s1.heap.objs.size) (fp1 := [a]) (fp2 := [b]) (fun c hc => by rw [List.mem_singleton.mp hc]; exact la) (fun c hc => by rw [List.mem_singleton.mp hc]; exact lb)
      refine ⟨_, _, _, _, H1, rfl, I1.kept (t' := s1.toks) hk, turn_zipM D (Nat.ne_of_lt la) (Nat.ne_of_lt (Nat.lt_succ_of_lt lb)), ⟨hz, hTI, ⟨_, _, hTO⟩, ⟨_, h1, rfl, rfl⟩, ⟨_, h2, rfl, rfl⟩⟩, fun c hc => ?_, q⟩
      have hle : s1.heap.objs.size ≤ c := by
        simp only [List.mem_cons, List.not_mem_nil, or_false] at hc
        rcases hc with e | e | e | e | e <;> rw [e] <;> first | exact Nat.le_refl _ | exact Nat.le_add_right _ _
      exact I1.fpOk hle (I1.hok.fresh hle)⟩
end RH
namespace RH
open PySem PySem.Spec PyProof.Rows L2
open Evl (Ev EvL EvU EvT EvA EvO Ex ev_c ev_var ev_op ev_un ea_nil ea_cons)
section
variable {K : PySem.W.Frag} {σ : L2.St} {H H' : Hp} {ta tb tc te tx : TE} {x y z v : V} {r r' : R2} {D : Ends} {tu tw tz : TS} {xs ys zs : List V} {t : TT}
theorem lc_zipM {a b : Addr} {g : TG} {tt : TT} {te : TE} {vs : List Nat} {σ : L2.St} {H1 : Hp} {D : Addr} {Qd : Hp → Prop} (hlen : ys.length = xs.length) (Pv : Nat → Hp → Prop) (h0 : Pv 0 (upd H1 D (.lst []))) (hl : ∀ i H, Pv i H → SqT K H a xs ∧ SqL K H b ys)
    (hs : ∀ i x y T H, xs[i]? = some x → ys[i]? = some y → H T = none → Pv i H → g (.ref T) (wipe σ vs) (upd H T (.tup [x, y])) fun σ2 H2 => wipe σ2 vs = wipe σ vs ∧ tt σ2 H2 fun b H3 =>
      if b = true then te σ2 H3 fun y H4 => ∃ acc, H4 D = some (.lst acc) ∧ acc.length < sizeLine ∧ Pv (i + 1) (upd H4 D (.lst (acc ++ [y]))) else Pv (i + 1) H3) (hd : ∀ H, Pv xs.length H → Qd H) :
    ∃ W : Nat → Nat → Hp → Prop, (∃ m, W 0 m (upd H1 D (.lst []))) ∧ ∀ i m H, W i m H →
      ((ItzM K a b).stop i H ∧ Qd H) ∨ ((ItzM K a b).go i H ∧ ∃ Nx : Hp → Prop, (∀ H', Nx H' → ∃ m', m' < m ∧ W (i + 1) m' H') ∧ ∀ x H', (ItzM K a b).yld i H x H' → g x (wipe σ vs) H' fun σ2 H2 => wipe σ2 vs = wipe σ vs ∧ tt σ2 H2 fun b H3 =>
        if b = true then te σ2 H3 fun y H4 => ∃ acc, H4 D = some (.lst acc) ∧ acc.length < sizeLine ∧ Nx (upd H4 D (.lst (acc ++ [y]))) else Nx H3) := by
  refine ⟨fun i m H => m + i = xs.length ∧ Pv i H, ⟨xs.length, rfl, h0⟩, fun i m H hW => ?_⟩
  obtain ⟨em, p⟩ := hW
  have q := hl i H p
  cases m with
  | zero =>
    have ei : i = xs.length := by omega
    subst ei
    exact .inl ⟨⟨xs, ys, q.1, q.2, by omega⟩, hd H p⟩
  | succ m =>
    refine .inr ⟨⟨xs, ys, q.1, q.2, by omega, by omega⟩, Pv (i + 1), fun H' p' => ⟨m, Nat.lt_succ_self m, by omega, p'⟩, fun v H' hy => ?_⟩
    obtain ⟨T, x, y, rfl, nT, rfl, f1, f2⟩ := hy
    exact hs i x y T H (f1 _ q.1) (f2 _ q.2) nT p
theorem el_lcZ {ta : TA} {j1 j2 : Nat} {vs : List Nat} (h : ∀ H1, Ex H H1 → ∀ Q : List V → Hp → Prop, (∀ a b H2, Ex H1 H2 → SqT K H2 a xs → SqL K H2 b ys → Q [.ref a, .ref b] H2) → ta σ H1 Q) (hl : ys.length = xs.length) (hz : zs.length = xs.length) (h4 : xs.length ≤ 40000)
    (hw : ∀ x y, wipe (((wipe σ vs).set j1 (some x)).set j2 (some y)) vs = wipe σ vs) (he : ∀ (i : Nat) (x y : V) H1, Ex H H1 → xs[i]? = some x → ys[i]? = some y → ∃ z, zs[i]? = some z ∧ Ev te (((wipe σ vs).set j1 (some x)).set j2 (some y)) H1 z) :
    EvL (tLc (iZipM K ta) (gTup K 2 (gCons (gName j1) (gCons (gName j2) gNil))) tYes te vs) σ H zs := fun H0 e Q q => h H0 e _ fun a b H1 e1 ha hb => ⟨a, b, xs, ys, rfl, ha, hb, fun Dl hD =>
  lc_zipM (xs := xs) (ys := ys) hl (Lw H1 zs Dl) ⟨hD, Ex.new hD, by rw [upd_same]; rfl⟩ (fun i H' p => ⟨Evl.ex_t p.2.1 ha, Evl.ex_l p.2.1 hb⟩) (fun i x y T H' hx hy nT p => by
      obtain ⟨z, hzi, hev⟩ := he i x y H1 (e.trans e1) hx hy
      refine ⟨T, [x, y], rfl, Evl.st_of upd_same, rfl, x, [y], rfl, y, [], rfl, rfl, hw x y, ?_⟩
      have p' : Lw H1 zs Dl i (upd H' T (.tup [x, y])) := ⟨p.1, p.2.1.trans (Ex.new nT), Ex.new nT _ _ p.2.2⟩
      exact lw_turn p' hzi (by omega) hev)
    (fun H' p => q Dl H' (Evl.fresh_back e1 p.1) (e1.trans p.2.1) (by rw [← hz, Lw, List.take_length] at p; exact p.2.2))⟩
/-- tuple(a list + [1]) -/
theorem ep_tcat {R : List Int → Prop} (h : EvP te σ H (fun v H2 => ∃ l ds, v = .ref l ∧ H2 l = some (.lst (ds.map V.int)) ∧ R ds)) (hR : ∀ ds, R ds → ds.length ≤ 1000) :
    EvP (tCB (fun xs H Q => ∃ p ys, xs = [V.ref p] ∧ ((SqL K H p ys ∧ ∀ l, H l = none → Q (.ref l) (upd H l (.tup ys))) ∨ (SqT K H p ys ∧ Q (.ref p) H))) (tCons (tOp rCat te (tLst (tCons (tC (.int 1)) tNil))) tNil)) σ H (fun v H2 => ∃ c ds, v = .ref c ∧ SqT K H2 c ((ds ++ [1]).map V.int) ∧ R ds) := fun H1 e Q q =>
  h H1 e _ fun v H2 e2 hv => by
    obtain ⟨l, ds, rfl, hl, hr⟩ := hv
    have hn := hR ds hr
    refine ⟨Evl.sz_of (by show 1 ≤ 100000; decide), fun l2 n2 => ⟨l, l2, ds.map V.int, [.int 1], rfl, rfl, Ex.new n2 _ _ hl, upd_same, Evl.sz_of (by rw [List.length_map]; show ds.length + 1 ≤ 100000; omega), fun l3 n3 => ?_⟩⟩
    refine ⟨l3, (ds ++ [1]).map V.int, rfl, .inl ⟨Evl.sq_of (by rw [upd_same, List.map_append]; rfl), fun c nc => q _ _ (((e2.trans (Ex.new n2)).trans (Ex.new n3)).trans (Ex.new nc)) ⟨c, ds, rfl, Evl.st_of upd_same, hr⟩⟩⟩
end
theorem drop_one_ints (ds : List Int) : cutV (ds.map V.int) (some 1) none = (ds.drop 1).map V.int := by
  unfold cutV
  rw [HT.sIx_none, show HT.sIx (ds.map V.int).length 0 (some 1) = min 1 (ds.map V.int).length from HT.sIx_nat _ 0 1, ← List.map_drop, ← List.map_take, List.length_map]
  congr 1
  cases ds with
  | nil => rfl
  | cons d r =>
    rw [show min 1 (d :: r).length = 1 by rw [List.length_cons]; omega]
    exact List.take_of_length_le (by rw [List.length_drop]; omega)
section
variable {P : Program} {w : World} {K : PySem.W.Frag} {mg : Str → Option Value} {base : Heap}
/-! ### _law_prime -/
def spPrime : Sp := fun vs H Q _ => ∃ c pr : Int, vs = [.int c, .int pr] ∧ 0 < pr ∧ ∀ n ∈ primes, Evl.RetV (.int n) H Q
theorem ok_prime {f f1 f2 : Addr} {fd fd1 fd2 : FuncData} {k : Nat} (F : Fun K "_law_prime" "_law_prime" sLawPrime f fd)
    (F1 : Fun K "_law_draws" "_law_draws" sLawDraws f1 fd1) (b1 : Binds K fd1 ["_law_cell_here", "_law_widths", "_law_prime_here"] []) (g1 : mg "_law_draws" = some (.ref f1)) (G1 : FnOk P w K mg base CX0 (k + 2) f1 fd1 ["_law_cell_here", "_law_widths", "_law_prime_here"] (spDraws K))
    (F2 : Fun K "_law_primes" "_law_primes" sLawPrimes f2 fd2) (b2 : Binds K fd2 [] []) (g2 : mg "_law_primes" = some (.ref f2)) (G2 : FnOk P w K mg base CX0 (k + 2) f2 fd2 [] spPrimes) :
    FnOk P w K mg base CX0 (k + 3) f fd ["_law_cell_here", "_law_prime_here"] spPrime := by
  refine F.ok scLawPrime (fun vs H Q E h => ?_) (fun cdv A outer s H vs Q E hr h => ?_)
  · obtain ⟨c, pr, rfl, _⟩ := h
    rfl
  · obtain ⟨c, pr, rfl, hpr, q⟩ := h
    refine ⟨_, pss_cons (ps_set (i := 2) scLawPrime.nd rfl (.inl rfl) (pe_call G1 hr (by rfl) g1 F1.kp b1 .nil pass0 (pa_cons (pv 0) (pa_cons (pe_lst (pa_cons pe_int (pa_cons pe_int pa_nil))) (pa_cons (pv 1) pa_nil)))))
      (pss_cons (ps_if (pt_cmpR op_eq (pe_ix ix_list (pv 2) pe_int (fun _ _ => rfl)) pe_int (nomark _)) (pss_one (ps_ret (pe_ix ix_list (pe_call0 G2 hr (by rfl) g2 F2.kp b2 .nil pass0) (pe_op op_mod (pe_ix ix_list (pv 2) pe_int (fun _ _ => rfl)) pe_int) (fun _ _ => rfl)))) pss_nil)
      (pss_one (ps_ret (pe_ix ix_list (pe_call0 G2 hr (by rfl) g2 F2.kp b2 .nil pass0) (pe_ix ix_list (pv 2) pe_int (fun _ _ => rfl)) (fun _ _ => rfl))))), ?_⟩
    refine q_asgP (P := fun v H2 => ∃ l d0 d1, v = .ref l ∧ H2 l = some (.lst [.int d0, .int d1]) ∧ 0 ≤ d1 ∧ d1 < 46) (epp_call (A := fun vs H2 => ∃ b, vs = [.int c, .ref b, .int pr] ∧ H2 b = some (.lst (([2, 46] : List Int).map V.int)))
      (eap_cons (ep_ev (ev_var rfl)) fun v H1 e1 hv => eap_cons (ep_evL (Evl.el_lst (vs := [.int 2, .int 46]) (Evl.ea_cons ev_c (Evl.ea_cons ev_c Evl.ea_nil)) (by show 2 ≤ 100000; decide))) fun v2 H2 e2 hv2 => ?_) fun vs H1 e1 hvs H2 e2 Q2 q2 E2 => ?_) fun v H1 e1 hv => ?_
    · subst hv
      obtain ⟨b, rfl, _, hb⟩ := hv2
      exact eap_ea (vs := [.int pr]) (Evl.ea_cons (ev_var rfl) Evl.ea_nil) fun H3 e3 => ⟨b, rfl, e3 _ _ hb⟩
    · obtain ⟨b, rfl, hb⟩ := hvs
      refine ⟨c, pr, b, [2, 46], rfl, Evl.sq_of (e2 _ _ hb), by show 2 ≤ 50; decide, by decide, hpr, fun l H3 ds nl e3 hl hd => q2 _ H3 e3 ?_⟩
      obtain ⟨hd1, hd2⟩ := hd
      match ds, hd1 with
      | [d0, d1], _ => exact ⟨l, d0, d1, rfl, hl, (hd2 1 (by decide)).1, (hd2 1 (by decide)).2⟩
    · obtain ⟨l, d0, d1, rfl, hl, h0, h1⟩ := hv
      have ixl : ∀ (H2 : Hp) (j : Int) (tj : TE), Ex H1 H2 → (∀ H3, Ex H2 H3 → Ev tj [some (.int c), some (.int pr), some (.ref l)] H3 (.int j)) → 0 ≤ j → j < 46 →
          ∃ n, n ∈ primes ∧ Ev (tOp (rIxL K) (tCall spPrimes [] E0 tNil) tj) [some (.int c), some (.int pr), some (.ref l)] H2 (.int n) := fun H2 j tj e2 hj hj0 hj1 => by
        have hlen : primes.length = 46 := by decide
        refine ⟨primes.getD j.toNat 0, ?_, Evl.ev_opL1 (xs := primes.map V.int) (Evl.el_call (vs := []) Evl.ea_nil fun H3 e3 Q3 q3 E3 => ⟨rfl, q3⟩) hj fun p H3 hp e3 => Evl.rv_ixL (Evl.sq_of hp) ?_⟩
        · rw [List.getD_eq_getElem?_getD, List.getElem?_eq_getElem (by omega)]
          exact List.getElem_mem _
        · have ej : j = ((j.toNat : Nat) : Int) := by omega
          conv => lhs; rw [ej]
          exact atI_ints (by omega)
      refine Evl.q_when (b := decide (d0 = 0)) (Evl.et_test (ev_op (ev_op (ev_var rfl) ev_c (Evl.rv_ixL (Evl.sq_of hl) rfl)) ev_c rv_eqI)) (fun hb H2 e2 => ?_) (fun hb H2 e2 => ?_)
      · obtain ⟨n, hn, hev⟩ := ixl H2 (d1 % 6) (tOp (rI (fun _ j => 0 < j) fun i j => .int (i % j)) (tOp (rIxL K) (tVar 2) (tC (.int 1))) (tC (.int 6))) e2 (fun H3 e3 => ev_op (ev_op (ev_var rfl) ev_c (Evl.rv_ixL (Evl.sq_of (e3 _ _ (e2 _ _ hl))) rfl)) ev_c (Evl.rv_I (by show (0 : Int) < 6; decide))) (by omega) (by omega)
        exact Evl.s_ret hev fun H3 e3 => q n hn H3 ((e1.trans e2).trans e3)
      · obtain ⟨n, hn, hev⟩ := ixl H2 d1 (tOp (rIxL K) (tVar 2) (tC (.int 1))) e2 (fun H3 e3 => ev_op (ev_var rfl) ev_c (Evl.rv_ixL (Evl.sq_of (e3 _ _ (e2 _ _ hl))) rfl)) h0 h1
        exact Evl.s_ret hev fun H3 e3 => q n hn H3 ((e1.trans e2).trans e3)
/-! ### _law_written -/
def spWritten (K : PySem.W.Frag) : Sp := fun vs H Q _ => ∃ (a : Addr) (ns : List Int) (p c pr : Int), vs = [.ref a, .int p, .int c, .int pr] ∧ SqT K H a (ns.map V.int) ∧ ns.length ≤ 40 ∧ 0 < p ∧ p ≤ 1000 ∧ 0 < pr ∧
  ∀ l H2 zs, H l = none → Ex H H2 → H2 l = some (.lst (zs.map V.int)) → modL p zs = modL p ns → Q (.ref l) H2
theorem ok_written {f f1 : Addr} {fd fd1 : FuncData} {k : Nat} (F : Fun K "_law_written" "_law_written" sLawWritten f fd)
    (F1 : Fun K "_law_draws" "_law_draws" sLawDraws f1 fd1) (b1 : Binds K fd1 ["_law_cell_here", "_law_widths", "_law_prime_here"] []) (g1 : mg "_law_draws" = some (.ref f1)) (G1 : FnOk P w K mg base CX0 (k + 2) f1 fd1 ["_law_cell_here", "_law_widths", "_law_prime_here"] (spDraws K))
    (ml : mg "len" = none) (mz : mg "zip" = none) : FnOk P w K mg base CX0 (k + 3) f fd ["_law_places", "_law_p", "_law_cell_here", "_law_prime_here"] (spWritten K) := by
  refine F.ok scLawWritten (fun vs H Q E h => ?_) (fun cdv A outer s H vs Q E hr h => ?_)
  · obtain ⟨a, ns, p, c, pr, rfl, _⟩ := h
    rfl
  · obtain ⟨a, ns, p, c, pr, rfl, hA, hn, hp, hp2, hpr, q⟩ := h
    refine ⟨_, pss_cons (ps_set (i := 4) scLawWritten.nd rfl (.inl rfl) (pe_call G1 hr (by rfl) g1 F1.kp b1 .nil pass0 (pa_cons (pv 2) (pa_cons (pe_op op_cat (pe_lst (pa_cons pe_int pa_nil)) (pe_op op_rep (pe_lst (pa_cons (pe_op op_pow pe_int pe_int) pa_nil)) (pe_callB call_len' (by rfl) ml PySem.boot_len (pa_cons (pv 0) pa_nil)))) (pa_cons (pv 3) pa_nil)))))
      (pss_cons (ps_set (i := 5) scLawWritten.nd rfl (.inr rfl) (pe_ix ix_list (pe_lst (pa_cons pe_int (pa_cons pe_int (pa_cons (pe_op op_pow pe_int pe_int) (pa_cons (pe_op op_mulW (pe_op op_pow pe_int pe_int) (pe_op op_pow pe_int pe_int)) pa_nil))))) (pe_ix ix_list (pv 4) pe_int (fun _ _ => rfl)) (fun _ _ => rfl)))
      (pss_one (ps_ret (pe_lc (own := [("_law_place", 6), ("_law_more", 7)]) (g := gTup K 2 (gCons (gName 6) (gCons (gName 7) gNil))) (tt := tYes) (by rfl) scLawWritten.nd (pi_zipM (by rfl) mz (pa_cons (pv 0) (pa_cons (pe_slice sl_list (pv 4) (po_some pe_int) po_none) pa_nil))) (blkOk_by (N := NLawWritten) (sc := defScope sLawWritten) (by decide +kernel))
        (fun _ _ _ _ _ => pg_tup (by rfl) (pgs_cons (pg_name (i := 6) scLawWritten.nd rfl (.inl rfl)) (pgs_cons (pg_name (i := 7) scLawWritten.nd rfl (.inl rfl)) pgs_nil))) (fun _ _ _ _ _ => pts_nil)
        (fun _ _ _ _ _ => pe_op op_add (pv 6) (pe_op op_mul (pe_op op_mul (pv 1) (pv 5)) (pe_op op_sub (pv 7) (pe_op op_mul pe_int (pe_op op_pow pe_int pe_int))))))))), ?_⟩
    have e8 : (10 : Int) ^ (8 : Int).toNat = 100000000 := by decide
    have e7 : (10 : Int) ^ (7 : Int).toNat = 10000000 := by decide
    have cp : ∀ j : Int, 0 ≤ j → j ≤ 1000000 → CPow 10 j := fun j h0 h1 => ⟨h0, h1, by decide⟩
    have hws : ∀ x ∈ (4 : Int) :: List.replicate ns.length 100000000, 0 < x ∧ x < 1073741824 := fun x hx => by
      rcases List.mem_cons.mp hx with e | hx
      · rw [e]; decide
      · rw [(List.mem_replicate.mp hx).2]; decide
    -- found
    refine q_asgP (P := fun v H2 => ∃ l ds, v = .ref l ∧ H2 l = some (.lst (ds.map V.int)) ∧ Drawn ((4 : Int) :: List.replicate ns.length 100000000) ds) (epp_call (A := fun vs H2 => ∃ b, vs = [.int c, .ref b, .int pr] ∧ H2 b = some (.lst (((4 : Int) :: List.replicate ns.length 100000000).map V.int)))
      (eap_cons (ep_ev (ev_var rfl)) fun v H1 e1 hv => eap_cons (ep_evL (el_cat (xs := [.int 4]) (ys := (List.replicate ns.length (100000000 : Int)).map V.int) (Evl.el_lst (Evl.ea_cons ev_c Evl.ea_nil) (by show 1 ≤ 100000; decide))
        (fun H2 e2 => el_to ?_ (el_rep (xs := [.int 100000000]) (n := (ns.length : Int)) (Evl.el_lst (Evl.ea_cons (ev_to (by rw [e8]) (ev_op ev_c ev_c (Evl.rv_I (cp 8 (by decide) (by decide))))) Evl.ea_nil) (by show 1 ≤ 100000; decide)) (fun H3 e3 => ev_to (by rw [List.length_map]) (ev_lenT (ev_var rfl) (Evl.ex_t ((e1.trans e2).trans e3) hA))) (by omega) (by show 1 ≤ 10; decide))) (by rw [List.length_map, List.length_replicate]; show 1 + ns.length ≤ 100000; omega))) fun v2 H2 e2 hv2 => ?_) fun vs H1 e1 hvs H2 e2 Q2 q2 E2 => ?_) fun v H1 e1 hv => ?_
    · rw [flat_one, List.map_replicate, Int.toNat_natCast]
    · subst hv
      obtain ⟨b, rfl, _, hb⟩ := hv2
      exact eap_ea (vs := [.int pr]) (Evl.ea_cons (ev_var rfl) Evl.ea_nil) fun H3 e3 => ⟨b, rfl, e3 _ _ hb⟩
    · obtain ⟨b, rfl, hb⟩ := hvs
      exact ⟨c, pr, b, _, rfl, Evl.sq_of (e2 _ _ hb), by rw [List.length_cons, List.length_replicate]; omega, hws, hpr, fun l H3 ds nl e3 hl hd => q2 _ H3 e3 ⟨l, ds, rfl, hl, hd⟩⟩
    obtain ⟨l, ds, rfl, hl, hdl, hdr⟩ := hv
    rw [List.length_cons, List.length_replicate] at hdl hdr
    have hd0 := hdr 0 (by omega)
    have hd0' : 0 ≤ ds.getD 0 0 ∧ ds.getD 0 0 < 4 := hd0
    -- far
    refine q_asgP (P := fun v _ => ∃ z : Int, v = .int z) (fun H2 e2 Q2 q2 => Evl.el_lst (vs := [.int 0, .int 1, .int (10 ^ (20 : Int).toNat), .int (10 ^ (44 : Int).toNat * 10 ^ (44 : Int).toNat)]) (Evl.ea_cons ev_c (Evl.ea_cons ev_c (Evl.ea_cons (ev_op ev_c ev_c (Evl.rv_I (cp 20 (by decide) (by decide)))) (Evl.ea_cons (ev_op (ev_op ev_c ev_c (Evl.rv_I (cp 44 (by decide) (by decide)))) (ev_op ev_c ev_c (Evl.rv_I (cp 44 (by decide) (by decide)))) (Evl.rv_I (by unfold CMulW; decide +kernel))) Evl.ea_nil)))) (by show 4 ≤ 100000; decide) H2 e2 _ fun l4 H3 n4 e3 h4 => ?_) fun v H2 e2 hv => ?_
    · have hl3 := e3 _ _ (e2 _ _ hl)
      have key : ∀ d : Int, 0 ≤ d ∧ d < 4 → ∃ z : Int, atI [V.int 0, .int 1, .int (10 ^ (20 : Int).toNat), .int (10 ^ (44 : Int).toNat * 10 ^ (44 : Int).toNat)] d = some (.int z) := fun d hd => by
        have : d = 0 ∨ d = 1 ∨ d = 2 ∨ d = 3 := by omega
        rcases this with e | e | e | e <;> subst e <;> exact ⟨_, rfl⟩
      obtain ⟨z, hz⟩ := key _ hd0'
      refine ev_op (ev_var rfl) ev_c (Evl.rv_ixL (v := .int (ds.getD 0 0)) (Evl.sq_of hl3) (atI_ints (j := 0) (by omega))) H3 (Ex.refl H3) _ fun H4 e4 => ?_
      exact Evl.rv_ixL (Evl.sq_of (e4 _ _ h4)) hz H4 (Ex.refl H4) _ fun H5 e5 => q2 _ H5 ((e3.trans e4).trans e5) ⟨z, rfl⟩
    · obtain ⟨far, rfl⟩ := hv
      have hl2 := e2 _ _ hl
      refine Evl.s_retL (xs := ((List.range ns.length).map fun i : Nat => ns.getD i 0 + p * far * (ds.getD (i + 1) 0 - 5 * 10000000)).map V.int) (el_lcZ (xs := ns.map V.int) (ys := (ds.drop 1).map V.int) (fun H3 e3 Q3 q3 => ?_) (by rw [List.length_map, List.length_map, List.length_drop]; omega) (by simp) (by rw [List.length_map]; omega) (fun x y => rfl) (fun i x y H3 e3 hx hy => ?_)) fun o H3 no e3 ho => ?_
      · refine ⟨_, rfl, Evl.el_sl (ev_var rfl) (Evl.eo_some ev_c) Evl.eo_none (Evl.sq_of hl2) H3 e3 _ fun o H4 no e4 ho => ?_⟩
        rw [drop_one_ints] at ho
        exact q3 a o H4 e4 (Evl.ex_t (((e1.trans e2).trans e3).trans e4) hA) (Evl.sq_of ho)
      · obtain ⟨hi, rfl⟩ := ints_get hx
        obtain ⟨hi2, rfl⟩ := ints_get hy
        have e9 : (ds.drop 1).getD i 0 = ds.getD (i + 1) 0 := by
          rw [List.getD_eq_getElem?_getD, List.getElem?_drop, List.getD_eq_getElem?_getD, Nat.add_comm 1 i]
        have hb := hdr (i + 1) (by omega)
        have hb' : 0 ≤ ds.getD (i + 1) 0 ∧ ds.getD (i + 1) 0 < 100000000 := by
          rw [List.getD_cons_succ, List.getD_eq_getElem?_getD (l := List.replicate _ _), List.getElem?_replicate, if_pos hi] at hb
          exact hb
        rw [e9]
        refine ⟨_, by rw [List.getElem?_map, List.getElem?_map, List.getElem?_range hi]; rfl, ev_op (ev_var rfl) (ev_op (ev_op (ev_var rfl) (ev_var rfl) (Evl.rv_I (.inl ⟨by omega, by omega⟩))) (ev_op (ev_var rfl) (ev_op ev_c (ev_to (by rw [e7]) (ev_op ev_c ev_c (Evl.rv_I (cp 7 (by decide) (by decide))))) (Evl.rv_I (.inl ⟨by decide, by decide⟩))) Evl.rv_I0) (Evl.rv_I (.inr ⟨by omega, by omega⟩))) Evl.rv_I0⟩
      · refine q o H3 _ (Evl.fresh_back (e1.trans e2) no) ((e1.trans e2).trans e3) ho ?_
        unfold modL
        apply List.ext_getElem
        · simp
        · intro i h1 h2
          simp only [List.getElem_map, List.getElem_range]
          rw [List.length_map] at h2
          rw [List.getD_eq_getElem?_getD, List.getElem?_eq_getElem h2, Int.mul_assoc, Int.add_mul_emod_self_left]
          rfl
end
end RH
namespace RH
open PySem PySem.Spec PyProof.Rows L2
open Evl (Ev EvL EvU EvT EvA EvO Ex ev_c ev_var ev_op ev_un ea_nil ea_cons)
section
variable {P : Program} {w : World} {K : PySem.W.Frag} {mg : Str → Option Value} {base : Heap}
theorem ev_min2 {σ : L2.St} {H : Hp} {ta tb : TE} {i j : Int} (ha : Ev ta σ H (.int i)) (hb : Ev tb σ H (.int j)) : Ev (tCB (fun xs H Q => ∃ i j, xs = [V.int i, V.int j] ∧ Q (.int (if j < i then j else i)) H) (tCons ta (tCons tb tNil))) σ H (.int (if j < i then j else i)) := fun H1 e Q q =>
  ha H1 e _ fun H2 e2 => hb H2 (e.trans e2) _ fun H3 e3 => ⟨i, j, rfl, q H3 (e2.trans e3)⟩
/-! ### _law_places_of -/
def spPlacesOf (K : PySem.W.Frag) : Sp := fun vs H Q _ => ∃ (a : Addr) (ss : List Int) (n p : Int), vs = [.ref a, .int n, .int p] ∧ SqL K H a (ss.map V.int) ∧ 1 ≤ n ∧ n ≤ 4 ∧ 1 < p ∧ p ≤ 1000 ∧
  ∀ c H2 raw, Ex H H2 → SqT K H2 c (raw.map V.int) → Red p raw → Mon raw → (raw.length : Int) = n + 1 → Q (.ref c) H2
theorem ok_placesOf {f f1 f2 f3 f4 : Addr} {fd fd1 fd2 fd3 fd4 : FuncData} {k : Nat} (F : Fun K "_law_places_of" "_law_places_of" sLawPlacesOf f fd)
    (F1 : Fun K "_law_draws" "_law_draws" sLawDraws f1 fd1) (b1 : Binds K fd1 ["_law_cell_here", "_law_widths", "_law_prime_here"] []) (g1 : mg "_law_draws" = some (.ref f1)) (G1 : FnOk P w K mg base CX0 (k + 3) f1 fd1 ["_law_cell_here", "_law_widths", "_law_prime_here"] (spDraws K))
    (F2 : Fun K "_law_cell" "_law_cell" sLawCell f2 fd2) (b2 : Binds K fd2 ["_law_script", "_law_k"] []) (g2 : mg "_law_cell" = some (.ref f2)) (G2 : FnOk P w K mg base CX0 (k + 3) f2 fd2 ["_law_script", "_law_k"] (spCell K))
    (F3 : Fun K "_law_mod_places" "_law_mod_places" sLawModPlaces f3 fd3) (b3 : Binds K fd3 ["_law_cell_here", "_law_many", "_law_p", "_law_prime_here"] []) (g3 : mg "_law_mod_places" = some (.ref f3)) (G3 : FnOk P w K mg base CX0 (k + 3) f3 fd3 ["_law_cell_here", "_law_many", "_law_p", "_law_prime_here"] spModPlaces)
    (F4 : Fun K "_law_mod_times" "_law_mod_times" sLawModTimes f4 fd4) (b4 : Binds K fd4 ["_law_f", "_law_g", "_law_p"] []) (g4 : mg "_law_mod_times" = some (.ref f4)) (G4 : FnOk P w K mg base CX0 (k + 3) f4 fd4 ["_law_f", "_law_g", "_law_p"] (spTimes K))
    (mt : mg "tuple" = none) (mmi : mg "min" = none) (mra : mg "range" = none) : FnOk P w K mg base CX0 (k + 4) f fd ["_law_script", "_law_degree", "_law_p"] (spPlacesOf K) := by
  refine F.ok scLawPlacesOf (fun vs H Q E h => ?_) (fun cdv A outer s H vs Q E hr h => ?_)
  · obtain ⟨a, ss, n, p, rfl, _⟩ := h
    rfl
  · obtain ⟨a, ss, n, p, rfl, hA, hn1, hn4, hp, hp2, q⟩ := h
    refine ⟨_, pss_cons (ps_set (i := 3) scLawPlacesOf.nd rfl (.inl rfl) (pe_call G1 hr (by rfl) g1 F1.kp b1 .nil pass0 (pa_cons (pe_call G2 hr (by rfl) g2 F2.kp b2 .nil pass0 (pa_cons (pv 0) (pa_cons pe_int pa_nil))) (pa_cons (pe_lst (pa_cons pe_int (pa_cons pe_int (pa_cons pe_int pa_nil)))) (pa_cons pe_int pa_nil)))))
      (pss_cons (ps_if (pt_cmpR op_eq (pe_ix ix_list (pv 3) pe_int (fun _ _ => rfl)) pe_int (nomark _))
        (pss_one (ps_ret (pe_callTy call_tuple_of (by rfl) mt boot_tuple (pa_cons (pe_op op_cat (pe_call G3 hr (by rfl) g3 F3.kp b3 .nil pass0 (pa_cons (pe_call G2 hr (by rfl) g2 F2.kp b2 .nil pass0 (pa_cons (pv 0) (pa_cons pe_int pa_nil))) (pa_cons (pv 1) (pa_cons (pv 2) (pa_cons pe_int pa_nil))))) (pe_lst (pa_cons pe_int pa_nil))) pa_nil)))) pss_nil)
      (pss_cons (ps_set (i := 4) scLawPlacesOf.nd rfl (.inl rfl) (pe_callB (call_min2 rfl) (by rfl) mmi boot_min (pa_cons (pv 1) (pa_cons (pe_op op_add pe_int (pe_ix ix_list (pv 3) pe_int (fun _ _ => rfl))) pa_nil))))
      (pss_cons (ps_set (i := 5) scLawPlacesOf.nd rfl (.inl rfl) (pe_callTy call_tuple_of (by rfl) mt boot_tuple (pa_cons (pe_op op_cat (pe_call G3 hr (by rfl) g3 F3.kp b3 .nil pass0 (pa_cons (pe_call G2 hr (by rfl) g2 F2.kp b2 .nil pass0 (pa_cons (pv 0) (pa_cons pe_int pa_nil))) (pa_cons (pv 4) (pa_cons (pv 2) (pa_cons pe_int pa_nil))))) (pe_lst (pa_cons pe_int pa_nil))) pa_nil)))
      (pss_cons (ps_set (i := 6) scLawPlacesOf.nd rfl (.inl rfl) (pe_callB (call_min2 rfl) (by rfl) mmi boot_min (pa_cons (pe_op op_add pe_int (pe_ix ix_list (pv 3) pe_int (fun _ _ => rfl))) (pa_cons (pe_op op_fdiv (pv 1) (pv 4)) pa_nil))))
      (pss_cons (ps_set (i := 7) scLawPlacesOf.nd rfl (.inl rfl) (pe_op op_sub (pv 1) (pe_op op_mul (pv 4) (pv 6))))
      (pss_cons (ps_set (i := 8) scLawPlacesOf.nd rfl (.inl rfl) (pe_callTy call_tuple_of (by rfl) mt boot_tuple (pa_cons (pe_op op_cat (pe_call G3 hr (by rfl) g3 F3.kp b3 .nil pass0 (pa_cons (pe_call G2 hr (by rfl) g2 F2.kp b2 .nil pass0 (pa_cons (pv 0) (pa_cons pe_int pa_nil))) (pa_cons (pv 7) (pa_cons (pv 2) (pa_cons pe_int pa_nil))))) (pe_lst (pa_cons pe_int pa_nil))) pa_nil)))
      (pss_cons (ps_for PassesOwn.never rfl (pi_range1 (by rfl) mra (pa_cons (pv 6) pa_nil)) (pg_name (i := 9) scLawPlacesOf.nd rfl (.inl rfl))
        (pss_one (ps_set (i := 8) scLawPlacesOf.nd rfl (.inl rfl) (pe_call G4 hr (by rfl) g4 F4.kp b4 .nil pass0 (pa_cons (pv 8) (pa_cons (pv 5) (pa_cons (pv 2) pa_nil)))))))
      (pss_one (ps_ret (pv 8)))))))))), ?_⟩
    have hpm : (0 : Int) < p := by omega
    -- a drawn monic polynomial
    have mono : ∀ ds : List Int, Red p ds → Red p (ds ++ [1]) := fun ds h c hc => by
      rcases List.mem_append.mp hc with e | e
      · exact h c e
      · rw [List.mem_singleton.mp e]
        omega
    have cell : ∀ (σ : L2.St) (H1 : Hp) (i : Int), σ[0]? = some (some (.ref a)) → Ex H H1 → 0 ≤ i → i ≤ 100 → EvP (tCall (spCell K) [] E0 (tCons (tVar 0) (tCons (tC (.int i)) tNil))) σ H1 (fun v _ => ∃ c : Int, v = .int c) := fun σ H1 i h0 e1 hi0 hi1 =>
      ep_call (vs := [.ref a, .int i]) (Evl.ea_cons (ev_var h0) (Evl.ea_cons ev_c Evl.ea_nil)) fun H2 e2 Q2 q2 E2 => ⟨a, ss, i, rfl, Evl.ex_l (e1.trans e2) hA, hi0, hi1, fun v H3 e3 hv => q2 v H3 e3 hv⟩
    have drawn : ∀ (σ : L2.St) (H1 : Hp) (i many pr : Int) (jm : Nat), σ[0]? = some (some (.ref a)) → σ[2]? = some (some (.int p)) → σ[jm]? = some (some (.int many)) → Ex H H1 → 0 ≤ i → i ≤ 100 → 0 ≤ many → many ≤ 40 → 0 < pr →
        EvP (tCB (fun xs H Q => ∃ p ys, xs = [V.ref p] ∧ ((SqL K H p ys ∧ ∀ l, H l = none → Q (.ref l) (upd H l (.tup ys))) ∨ (SqT K H p ys ∧ Q (.ref p) H))) (tCons (tOp rCat (tCall spModPlaces [] E0 (tCons (tCall (spCell K) [] E0 (tCons (tVar 0) (tCons (tC (.int i)) tNil))) (tCons (tVar jm) (tCons (tVar 2) (tCons (tC (.int pr)) tNil))))) (tLst (tCons (tC (.int 1)) tNil))) tNil)) σ H1
          (fun v H2 => ∃ c raw, v = .ref c ∧ SqT K H2 c (raw.map V.int) ∧ Red p raw ∧ Mon raw ∧ raw.length = many.toNat + 1) := fun σ H1 i many pr jm h0 h2 hj e1 hi0 hi1 hm0 hm1 hpr =>
      ep_imp (ep_tcat (R := fun ds => ds.length = many.toNat ∧ Red p ds) (epp_call (A := fun vs _ => ∃ c : Int, vs = [.int c, .int many, .int p, .int pr])
        (eap_cons (cell σ H1 i h0 e1 hi0 hi1) fun v H2 e2 hv => eap_ea (vs := [.int many, .int p, .int pr]) (Evl.ea_cons (ev_var hj) (Evl.ea_cons (ev_var h2) (Evl.ea_cons ev_c Evl.ea_nil))) fun H3 e3 => by
          obtain ⟨c, rfl⟩ := hv
          exact ⟨c, rfl⟩) fun vs H2 e2 hvs H3 e3 Q3 q3 E3 => by
          obtain ⟨c, rfl⟩ := hvs
          exact ⟨c, many, p, pr, rfl, hm0, hm1, hpm, hp2, hpr, fun l H4 ds nl e4 hl hdl hdr => q3 _ H4 e4 ⟨l, ds, rfl, hl, hdl, hdr⟩⟩) (fun ds hd => by have := hd.1; omega)) fun v H2 e2 hv => by
        obtain ⟨c, ds, rfl, hc, hdl, hdr⟩ := hv
        exact ⟨c, ds ++ [1], rfl, hc, mono ds hdr, Mon.snoc ds, by rw [List.length_append, hdl]; rfl⟩
    -- way
    refine q_asgP (P := fun v H2 => ∃ l d0 d1 d2, v = .ref l ∧ H2 l = some (.lst [.int d0, .int d1, .int d2]) ∧ 0 ≤ d1 ∧ d1 < 2 ∧ 0 ≤ d2 ∧ d2 < 4) (epp_call (A := fun vs H2 => ∃ (c : Int) (b : Addr), vs = [.int c, .ref b, .int 999999893] ∧ H2 b = some (.lst (([2, 2, 4] : List Int).map V.int)))
      (eap_cons (cell _ H 2 rfl (Ex.refl H) (by decide) (by decide)) fun v H1 e1 hv => eap_cons (ep_evL (Evl.el_lst (vs := [.int 2, .int 2, .int 4]) (Evl.ea_cons ev_c (Evl.ea_cons ev_c (Evl.ea_cons ev_c Evl.ea_nil))) (by show 3 ≤ 100000; decide))) fun v2 H2 e2 hv2 => ?_) fun vs H1 e1 hvs H2 e2 Q2 q2 E2 => ?_) fun v H1 e1 hv => ?_
    · obtain ⟨c, rfl⟩ := hv
      obtain ⟨b, rfl, _, hb⟩ := hv2
      exact eap_ea (vs := [.int 999999893]) (Evl.ea_cons ev_c Evl.ea_nil) fun H3 e3 => ⟨c, b, rfl, e3 _ _ hb⟩
    · obtain ⟨c, b, rfl, hb⟩ := hvs
      refine ⟨c, 999999893, b, [2, 2, 4], rfl, Evl.sq_of (e2 _ _ hb), by show 3 ≤ 50; decide, by decide, by decide, fun l H3 ds nl e3 hl hd => q2 _ H3 e3 ?_⟩
      obtain ⟨hd1, hd2⟩ := hd
      match ds, hd1 with
      | [d0, d1, d2], _ => exact ⟨l, d0, d1, d2, rfl, hl, (hd2 1 (by decide)).1, (hd2 1 (by decide)).2, (hd2 2 (by decide)).1, (hd2 2 (by decide)).2⟩
    obtain ⟨l, d0, d1, d2, rfl, hl, h10, h11, h20, h21⟩ := hv
    refine Evl.q_when (b := decide (d0 = 0)) (Evl.et_test (ev_op (ev_op (ev_var rfl) ev_c (Evl.rv_ixL (Evl.sq_of hl) rfl)) ev_c rv_eqI)) (fun hb H2 e2 => ?_) (fun hb H2 e2 => ?_)
    · refine s_retP (drawn _ H2 3 n 999999883 1 rfl rfl rfl (e1.trans e2) (by decide) (by decide) (by omega) (by omega) (by decide)) fun v H3 e3 hv => ?_
      obtain ⟨c, raw, rfl, hc, hred, hmon, hlen⟩ := hv
      exact q c H3 raw ((e1.trans e2).trans e3) hc hred hmon (by omega)
    · have hl2 := e2 _ _ hl
      -- first
      refine Evl.q_asg (ev_min2 (ev_var rfl) (ev_op ev_c (ev_op (ev_var rfl) ev_c (Evl.rv_ixL (v := .int d1) (Evl.sq_of hl2) rfl)) Evl.rv_I0)) fun H3 e3 => ?_
      have hf : 1 ≤ (if 1 + d1 < n then 1 + d1 else n) ∧ (if 1 + d1 < n then 1 + d1 else n) ≤ 2 ∧ (if 1 + d1 < n then 1 + d1 else n) ≤ n := by split <;> omega
      generalize (if 1 + d1 < n then 1 + d1 else n) = first at hf ⊢
      have e13 := (e1.trans e2).trans e3
      -- g
      refine q_asgP (drawn _ H3 4 first 999999797 4 rfl rfl rfl e13 (by decide) (by decide) (by omega) (by omega) (by decide)) fun v H4 e4 hv => ?_
      obtain ⟨cg, g, rfl, hcg, hgr, hgm, hgl⟩ := hv
      -- goes
      refine Evl.q_asg (ev_min2 (ev_op ev_c (ev_op (ev_var rfl) ev_c (Evl.rv_ixL (v := .int d2) (Evl.sq_of (e4 _ _ (e3 _ _ hl2))) rfl)) Evl.rv_I0) (ev_op (ev_var rfl) (ev_var rfl) (Evl.rv_I ⟨by omega, by omega⟩))) fun H5 e5 => ?_
      have hg : 1 ≤ (if n / first < 1 + d2 then n / first else 1 + d2) ∧ (if n / first < 1 + d2 then n / first else 1 + d2) ≤ 4 ∧ first * (if n / first < 1 + d2 then n / first else 1 + d2) ≤ n := by
        have hff : first = 1 ∨ first = 2 := by omega
        rcases hff with e | e <;> subst e <;> split <;> omega
      generalize (if n / first < 1 + d2 then n / first else 1 + d2) = goes at hg ⊢
      -- left
      refine Evl.q_asg (v := .int (n - first * goes)) (ev_op (ev_var rfl) (ev_op (ev_var rfl) (ev_var rfl) (Evl.rv_I (.inl ⟨by omega, by omega⟩))) Evl.rv_I0) fun H6 e6 => ?_
      have e16 := ((e13.trans e4).trans e5).trans e6
      -- raw
      refine q_asgP (drawn _ H6 5 (n - first * goes) 999999761 7 rfl rfl rfl e16 (by decide) (by decide) (by omega) (by have hff : first = 1 ∨ first = 2 := by omega
                                                                                                                        rcases hff with e | e <;> subst e <;> omega) (by decide)) fun v H7 e7 hv => ?_
      obtain ⟨cr, raw, rfl, hcr, hrr, hrm, hrl⟩ := hv
      have hcg7 := Evl.ex_t ((e5.trans e6).trans e7) hcg
      refine Evl.q_forR1 (n := goes) (Evl.ea_cons (ev_var rfl) Evl.ea_nil) (by omega)
        (fun i σ' H' => Ex H7 H' ∧ ∃ (c : Addr) (rw : List Int) (y9 : Option V), σ' = [some (.ref a), some (.int n), some (.int p), some (.ref l), some (.int first), some (.ref cg), some (.int goes), some (.int (n - first * goes)), some (.ref c), y9] ∧ SqT K H' c (rw.map V.int) ∧ Red p rw ∧ Mon rw ∧ (rw.length : Int) = n - first * goes + 1 + first * (i : Int))
        (fun H8 e8 => ⟨e8, cr, raw, none, rfl, Evl.ex_t e8 hcr, hrr, hrm, by omega⟩) (fun i σ' H8 hi hPv => ?_) (fun σ' H8 hPv => ?_)
      · obtain ⟨e8, c, rw', y9, rfl, hc, hred, hmon, hlen⟩ := hPv
        have hml := mon_mulP hp hmon hgm
        have hsmall : (rw'.length : Int) ≤ 100 := by
          have hff : first = 1 ∨ first = 2 := by omega
          rcases hff with e | e <;> subst e <;> omega
        refine Evl.s_asgU (xs := (mulP p rw' g).map V.int) (eu_call (vs := [.ref c, .ref cg, .int p]) (Evl.ea_cons (ev_var rfl) (Evl.ea_cons (ev_var rfl) (Evl.ea_cons (ev_var rfl) Evl.ea_nil))) fun H9 e9 Q9 q9 E9 => ⟨c, cg, rw', g, p, rfl, Evl.ex_t e9 hc, Evl.ex_t (e8.trans e9) hcg7, by omega, by omega, hred, hpm, hp2, q9⟩) fun d H9 nd e9 hd => ?_
        refine ⟨e8.trans e9, d, _, _, rfl, Evl.st_of hd, red_mulP hpm _ _, hml.1, ?_⟩
        have h2 := hml.2
        have hff : first = 1 ∨ first = 2 := by omega
        rcases hff with e | e <;> subst e <;> omega
      · obtain ⟨e8, c, rw', y9, rfl, hc, hred, hmon, hlen⟩ := hPv
        refine Evl.s_ret (ev_var rfl) fun H9 e9 => q c H9 rw' (((e16.trans e7).trans e8).trans e9) (Evl.ex_t e9 hc) hred hmon ?_
        rw [hlen, Int.toNat_of_nonneg (by omega)]
        omega
end
end RH
namespace RH
open PySem PySem.Spec PyProof.Rows L2
open Evl (Ev EvL EvU EvT EvA EvO Ex ev_c ev_var ev_op ev_un ea_nil ea_cons)
/-! ### the order of (length, row) -/
theorem lexAt_shift (e r : Nat → Bool) (z : Bool) : ∀ (k i : Nat), Ob.lexAt e r z (i + 1) k = Ob.lexAt (fun j => e (j + 1)) (fun j => r (j + 1)) z i k
  | 0, i => rfl
  | k + 1, i => by rw [Ob.lexAt_succ, Ob.lexAt_succ, lexAt_shift e r z k (i + 1)]
theorem lexAt_greater (z : Bool) : ∀ (ms ns : List Int), lexLt ms ns → ms.length = ns.length → Ob.lexAt (fun j => decide (ns.getD j 0 = ms.getD j 0)) (fun j => decide (ns.getD j 0 ≤ ms.getD j 0)) z 0 ns.length = false
  | [], [], h, _ => h.elim
  | [], n :: ns, _, hl => by simp at hl
  | m :: ms, [], _, hl => by simp at hl
  | m :: ms, n :: ns, h, hl => by
    rw [List.length_cons, Ob.lexAt_succ]
    have h' : m < n ∨ (m = n ∧ lexLt ms ns) := h
    show (if decide (n = m) = true then _ else decide (n ≤ m)) = false
    rcases h' with h1 | ⟨h1, h2⟩
    · rw [if_neg (by rw [decide_eq_false (by omega)]; decide), decide_eq_false (by omega)]
    · rw [if_pos (by rw [decide_eq_true h1.symm]), lexAt_shift]
      exact lexAt_greater z ms ns h2 (by simpa using hl)
theorem lexLt_irr : ∀ ms : List Int, ¬ lexLt ms ms
  | [], h => h
  | m :: ms, h => by
    rcases h with h | ⟨_, h⟩
    · exact absurd h (Int.lt_irrefl m)
    · exact lexLt_irr ms h
/-- (n, ns) <= (m, ms) -/
def leN (n m : Int) (ns ms : List Int) : Bool := Ob.lexAt (fun j => if j = 0 then decide (n = m) else decide (ns = ms)) (fun j => if j = 0 then decide (n ≤ m) else Ob.lexAt (fun j => decide (ns.getD j 0 = ms.getD j 0)) (fun j => decide (ns.getD j 0 ≤ ms.getD j 0)) (decide (ns.length ≤ ms.length)) 0 (min ns.length ms.length)) true 0 2
theorem leN_false {n m : Int} {ns ms : List Int} (hn : n = ns.length) (hm : m = ms.length) (h : partLt ms ns) : leN n m ns ms = false := by
  unfold leN
  rw [Ob.lexAt_succ, Ob.lexAt_succ, Ob.lexAt_zero]
  rcases h with h | ⟨h1, h2⟩
  · have e : decide (n = m) = false := decide_eq_false (by omega)
    have e2 : decide (n ≤ m) = false := decide_eq_false (by omega)
    simp [e, e2]
  · have e : decide (n = m) = true := decide_eq_true (by omega)
    have e2 : decide (ns = ms) = false := decide_eq_false fun q => lexLt_irr ms (q ▸ h2)
    have hmin : min ns.length ms.length = ns.length := by omega
    have e3 := lexAt_greater (decide (ns.length ≤ ms.length)) ms ns h2 h1
    rw [hmin, e3]
    simp [e, e2]
def rLeN (K : PySem.W.Frag) : R2 := fun x y H Q => ∃ (a b ga gb : Addr) (n m : Int) (ns ms : List Int), x = .ref a ∧ y = .ref b ∧ SqT K H a [.int n, .ref ga] ∧ SqT K H b [.int m, .ref gb] ∧ SqT K H ga (ns.map V.int) ∧ SqT K H gb (ms.map V.int) ∧ Q (.bl (leN n m ns ms)) H
theorem int_beq (a b : Int) : (a == b) = decide (a = b) := by
  by_cases q : a = b
  · rw [decide_eq_true q]; exact beq_iff_eq.mpr q
  · rw [decide_eq_false q]; exact beq_eq_false_iff_ne.mpr q
theorem vals_two {x y : V} {us : List Value} (r : Vals [x, y] us) : ∃ u v, us = [u, v] ∧ RelV x u ∧ RelV y v := by
  cases r with
  | cons a t =>
    cases t with
    | cons b t =>
      cases t
      exact ⟨_, _, rfl, a, b⟩
theorem ints_inj : ∀ {ns ms : List Int}, ns.map V.int = ms.map V.int → ns = ms
  | [], [], _ => rfl
  | [], m :: ms, h => by cases h
  | n :: ns, [], h => by cases h
  | n :: ns, m :: ms, h => by
    rw [List.map_cons, List.map_cons] at h
    injection h with h1 h2
    rw [V.int.inj h1, ints_inj h2]
theorem op_leN {X : Cx} (hu : X.A.units + 66 < cLine) : OpR X (compareOp .LtE) (rLeN X.K) := fun pins s σ H x y v u Q I rx ry h => by
  obtain ⟨a, b, ga, gb, n, m, ns, ms, rfl, rfl, ha, hb, hga, hgb, q⟩ := h
  cases rx
  cases ry
  obtain ⟨its, r1, p1, _⟩ := I.tuple ha
  obtain ⟨its2, r2, p2, _⟩ := I.tuple hb
  obtain ⟨gs, r3, p3, _⟩ := I.tuple hga
  obtain ⟨gs2, r4, p4, _⟩ := I.tuple hgb
  obtain ⟨u1, u2, rfl, ⟨t1, rfl⟩, ru2⟩ := vals_two r1
  obtain ⟨v1, v2, rfl, ⟨t2, rfl⟩, rv2⟩ := vals_two r2
  cases ru2
  cases rv2
  have i1 : IntsAre gs ns := Vals.ints r3
  have i2 : IntsAre gs2 ms := Vals.ints r4
  have z1 : gs.toArray.size = ns.length := by rw [List.size_toArray]; exact i1.length
  have z2 : gs2.toArray.size = ms.length := by rw [List.size_toArray]; exact i2.length
  have w1 : ∀ j (h1 : j < gs.toArray.size), ∃ t, gs.toArray[j] = .int (ns.getD j 0) t := fun j h1 => PyProof.Rows.IntsAre.int_at i1 _ _ (by simp at h1; simp [h1])
  have w2 : ∀ j (h1 : j < gs2.toArray.size), ∃ t, gs2.toArray[j] = .int (ms.getD j 0) t := fun j h1 => PyProof.Rows.IntsAre.int_at i2 _ _ (by simp at h1; simp [h1])
  have inner : Ob.RcOp .LtE X.A.in1 s (.ref ga) (.ref gb) (Ob.lexAt (fun j => decide (ns.getD j 0 = ms.getD j 0)) (fun j => decide (ns.getD j 0 ≤ ms.getD j 0)) (decide (ns.length ≤ ms.length)) 0 (min ns.length ms.length)) := by
    have R := Ob.RcOp.tuples_le (A := X.A.in1) (s := s) (e := fun j => decide (ns.getD j 0 = ms.getD j 0)) (r := fun j => decide (ns.getD j 0 ≤ ms.getD j 0)) p3 p4 (show X.A.units + 1 < cLine by omega)
      (fun j h1 h2 => by
        obtain ⟨t, et⟩ := w1 j h1
        obtain ⟨t', et'⟩ := w2 j h2
        rw [et, et', ← int_beq]
        exact SeqAt.EqAt.int_int _ _ _ _)
      (fun j h1 h2 _ => by
        obtain ⟨t, et⟩ := w1 j h1
        obtain ⟨t', et'⟩ := w2 j h2
        rw [et, et']
        exact Ob.RcOp.le_int _ _ _ _)
    rw [z1, z2] at R
    exact R
  have same : SeqAt.EqAt X.A.in1 s (.ref ga) (.ref gb) (decide (ns = ms)) := by
    by_cases hg : ga = gb
    · subst hg
      have e : ns.map V.int = ms.map V.int := I.tuple_inj hga hgb
      have e2 : ns = ms := ints_inj e
      rw [decide_eq_true e2]
      exact SeqAt.EqAt.same _
    · refine SeqAt.EqAt.of_refs hg fun prog w E Q h => ?_
      obtain ⟨as, q1⟩ := Dp.reads I (.tuple (ns.map PyData.int)) (.ref ga) (.ref ga) (.tup hga (dp_ints ns)) rfl
      obtain ⟨bs, q2⟩ := Dp.reads I (.tuple (ms.map PyData.int)) (.ref gb) (.ref gb) (.tup hgb (dp_ints ms)) rfl
      have h' : Q (.bool (PyData.eqv (.tuple (ns.map PyData.int)) (.tuple (ms.map PyData.int)))) s := by
        rw [PyData.eqv, eqv_ints]
        exact h
      exact SeqAt.compareEq_shaped (prog := prog) (w := w) (A := X.A.in1) (E := E) q1 q2 (shaped_ints ns) (shaped_ints ms) (show X.A.units + 1 + 64 < cLine by omega) h'
  have R := Ob.RcOp.tuples_le (A := X.A) (s := s) (e := fun j => if j = 0 then decide (n = m) else decide (ns = ms)) (r := fun j => if j = 0 then decide (n ≤ m) else Ob.lexAt (fun j => decide (ns.getD j 0 = ms.getD j 0)) (fun j => decide (ns.getD j 0 ≤ ms.getD j 0)) (decide (ns.length ≤ ms.length)) 0 (min ns.length ms.length)) p1 p2 (by omega)
    (fun j h1 h2 => by
      have hj : j = 0 ∨ j = 1 := by
        have : j < 2 := h1
        omega
      rcases hj with rfl | rfl
      · rw [if_pos rfl, ← int_beq]
        exact SeqAt.EqAt.int_int _ _ _ _
      · rw [if_neg (by decide)]
        exact same)
    (fun j h1 h2 _ => by
      have hj : j = 0 ∨ j = 1 := by
        have : j < 2 := h1
        omega
      rcases hj with rfl | rfl
      · rw [if_pos rfl]
        exact Ob.RcOp.le_int _ _ _ _
      · rw [if_neg (by decide)]
        exact inner)
  exact R X.prog X.w X.xe (EP X pins σ Q) ⟨.bl _, H, I, rfl, q⟩
theorem split_len {p : Int} (P : Pr p) {f : List Int} (hr : Red p f) (m : Mon f) (h5 : f.length ≤ 5) : (splitF p f).length ≤ 6 := by
  have L := lin_ok P.1 hr m p.toNat (by have := P.1; omega)
  have h1 := lin_len L
  have h2 := rootless_len p (lin p f p.toNat).1
  unfold splitF
  dsimp only
  split
  · rw [List.length_append]
    omega
  · omega
theorem pair_next {α : Type} {R : α → α → Prop} : ∀ {l : List α} {i : Nat} {a b : α}, l.Pairwise R → l[i]? = some a → l[i + 1]? = some b → R a b
  | [], i, a, b, _, h, _ => by simp at h
  | x :: r, 0, a, b, h, ha, hb => by
    cases ha
    exact (List.pairwise_cons.mp h).1 b (List.mem_of_getElem? (by simpa using hb))
  | x :: r, i + 1, a, b, h, ha, hb => pair_next (List.pairwise_cons.mp h).2 (by simpa using ha) (by simpa using hb)
theorem prodP_take {parts : List (List Int × Int)} {i : Nat} {a : List Int × Int} (h : parts[i]? = some a) (x : Int) : prodP (parts.take (i + 1)) x = prodP (parts.take i) x * ev a.1 x ^ a.2.toNat := by
  rw [List.take_add_one, h, prodP_append]
  obtain ⟨g, o⟩ := a
  simp [prodP]
theorem paired_get {α β : Type} {F : α → β → Prop} : ∀ {xs : List α} {ys : List β} {i : Nat} {x : α}, Paired F xs ys → xs[i]? = some x → ∃ y, ys[i]? = some y ∧ F x y
  | _, _, i, x, .nil, h => by simp at h
  | _, _, 0, x, .cons r t, h => by
    cases h
    exact ⟨_, rfl, r⟩
  | _, _, i + 1, x, .cons r t, h => by
    obtain ⟨y, h1, h2⟩ := paired_get t (by simpa using h)
    exact ⟨y, by simpa using h1, h2⟩
end RH
namespace RH
open PySem PySem.Spec PyProof.Rows L2
open Evl (Ev EvL EvU EvT EvA EvO Ex ev_c ev_var ev_op ev_un ea_nil ea_cons)
theorem hu66 {A : Around} {k : Nat} (hr : Room k A) : A.units + 66 < cLine := by
  have := hr.un
  omega
section
variable {K : PySem.W.Frag} {σ : L2.St} {H H' : Hp} {ta tb tc te tx : TE} {x y z v : V} {r r' : R2} {D : Ends} {tu tw tz : TS} {xs ys zs : List V} {t : TT}
theorem ev_opUL {xs : List V} (ha : EvU ta σ H xs) (hb : Ev tb σ H y) (hr : ∀ p H1, H1 p = some (.tup xs) → Ex H H1 → Evl.RV r (.ref p) y H1 z) : Ev (tOp r ta tb) σ H z := fun H1 e Q q =>
  ha H1 e _ fun p H2 _ e2 hp => hb H2 (e.trans e2) _ fun H3 e3 => hr p H3 (e3 p _ hp) ((e.trans e2).trans e3) H3 (Ex.refl H3) Q fun H4 e4 => q H4 ((e2.trans e3).trans e4)
theorem ep_tupIT (ha : Ev ta σ H x) (hb : EvU tb σ H ys) : EvP (tTup (tCons ta (tCons tb tNil))) σ H (fun v H2 => ∃ p b, v = .ref p ∧ H2 p = some (.tup [x, .ref b]) ∧ H2 b = some (.tup ys)) := fun H1 e Q q =>
  ha H1 e _ fun H2 e2 => hb H2 (e.trans e2) _ fun b H3 _ e3 h3 => ⟨Evl.sz_of (by show 2 ≤ 100000; decide), fun p hp => q _ _ ((e2.trans e3).trans (Ex.new hp)) ⟨p, b, rfl, upd_same, Ex.new hp _ _ h3⟩⟩
end
section
variable {P : Program} {w : World} {K : PySem.W.Frag} {mg : Str → Option Value} {base : Heap}
/-! ### _law_right -/
def spRight (K : PySem.W.Frag) : Sp := fun vs H Q _ => ∃ (l r : Addr) (xs : List V) (parts : List (List Int × Int)) (raw : List Int) (p : Int), vs = [.ref l, .ref r, .int p] ∧ H l = some (.lst xs) ∧ PartsAt K H xs parts ∧ parts.length ≤ 6 ∧ SqT K H r (raw.map V.int) ∧ Red p raw ∧ Mon raw ∧ Good p raw parts ∧ Pr p ∧ p ≤ 256 ∧
  Evl.RetV (.bl true) H Q
theorem ok_right {f f1 f2 f3 f4 : Addr} {fd fd1 fd2 fd3 fd4 : FuncData} {k : Nat} (F : Fun K "_law_right" "_law_right" sLawRight f fd)
    (F1 : Fun K "_law_is_mod" "_law_is_mod" sLawIsMod f1 fd1) (b1 : Binds K fd1 ["_law_found", "_law_p"] []) (g1 : mg "_law_is_mod" = some (.ref f1)) (G1 : FnOk P w K mg base CX0 (k + 3) f1 fd1 ["_law_found", "_law_p"] (spIsMod K))
    (F2 : Fun K "_law_whole" "_law_whole" sLawWhole f2 fd2) (b2 : Binds K fd2 ["_law_found"] []) (g2 : mg "_law_whole" = some (.ref f2)) (G2 : FnOk P w K mg base CX0 (k + 3) f2 fd2 ["_law_found"] spWhole)
    (F3 : Fun K "_law_mod_stays" "_law_mod_stays" sLawModStays f3 fd3) (b3 : Binds K fd3 ["_law_g", "_law_p"] []) (g3 : mg "_law_mod_stays" = some (.ref f3)) (G3 : FnOk P w K mg base CX0 (k + 3) f3 fd3 ["_law_g", "_law_p"] (spModStays K))
    (F4 : Fun K "_law_mod_times" "_law_mod_times" sLawModTimes f4 fd4) (b4 : Binds K fd4 ["_law_f", "_law_g", "_law_p"] []) (g4 : mg "_law_mod_times" = some (.ref f4)) (G4 : FnOk P w K mg base CX0 (k + 3) f4 fd4 ["_law_f", "_law_g", "_law_p"] (spTimes K))
    (mi : mg "isinstance" = none) (mli : mg "list" = none) (mt : mg "tuple" = none) (ml : mg "len" = none) (mra : mg "range" = none) : FnOk P w K mg base CX0 (k + 4) f fd ["_law_found", "_law_raw", "_law_p"] (spRight K) := by
  refine F.ok scLawRight (fun vs H Q E h => ?_) (fun cdv A outer s H vs Q E hr h => ?_)
  · obtain ⟨l, r, xs, parts, raw, p, rfl, _⟩ := h
    rfl
  · obtain ⟨l, r, xs, parts, raw, p, rfl, hl, hps, hp6, hR, hred, hmon, hG, hP, hp2, q⟩ := h
    have hp := hP.1
    have hpm : (0 : Int) < p := by omega
    refine ⟨_, pss_cons (ps_if (pt_not (pt_val (pe_callB call_isi (by rfl) mi boot_isinstance (pa_cons (pv 0) (pa_cons (pe_bltn (v := .ty "list") (by rfl) mli PyProof.Rows.boot_list rfl) pa_nil))))) (pss_one (ps_ret pe_bl)) pss_nil)
      (pss_cons (ps_set (i := 3) scLawRight.nd rfl (.inl rfl) (pe_tup (pa_cons pe_int pa_nil)))
      (pss_cons (ps_set (i := 4) scLawRight.nd rfl (.inl rfl) (pe_tup (pa_cons pe_int (pa_cons (pe_tup pa_nil) pa_nil))))
      (pss_cons (ps_for PassesOwn.never rfl (pi_list (pv 0)) (pg_name (i := 5) scLawRight.nd rfl (.inl rfl))
        (pss_cons (ps_if (PW.pt (pw_or (pt_not (pt_val (pe_callB call_isi (by rfl) mi boot_isinstance (pa_cons (pv 5) (pa_cons (pe_bltn (v := .ty "tuple") (by rfl) mt PyProof.Rows.boot_tuple rfl) pa_nil)))))
            (pw_or (pt_cmpR op_ne (pe_callB call_len' (by rfl) ml PySem.boot_len (pa_cons (pv 5) pa_nil)) pe_int (nomark _))
            (pw_or (pt_not (pt_val (pe_call G1 hr (by rfl) g1 F1.kp b1 .nil pass0 (pa_cons (pe_ix ix_tup (pv 5) pe_int (fun _ _ => rfl)) (pa_cons (pv 2) pa_nil)))))
            (pw_or1 (pt_not (pt_val (pe_call G2 hr (by rfl) g2 F2.kp b2 .nil pass0 (pa_cons (pe_ix ix_tup (pv 5) pe_int (fun _ _ => rfl)) pa_nil)))))))))
          (pss_one (ps_ret pe_bl)) pss_nil)
        (pss_cons (ps_if (PW.pt (pw_or (pt_cmpR op_lt (pe_callB call_len' (by rfl) ml PySem.boot_len (pa_cons (pe_ix ix_tup (pv 5) pe_int (fun _ _ => rfl)) pa_nil)) pe_int (nomark _))
            (pw_or (pt_cmpR op_gt (pe_callB call_len' (by rfl) ml PySem.boot_len (pa_cons (pe_ix ix_tup (pv 5) pe_int (fun _ _ => rfl)) pa_nil)) pe_int (nomark _))
            (pw_or (pt_cmpR op_ne (pe_ix ix_tup (pe_ix ix_tup (pv 5) pe_int (fun _ _ => rfl)) (pe_un un_neg pe_int) (fun _ _ => rfl)) pe_int (nomark _))
            (pw_or (pt_cmpR op_lt (pe_ix ix_tup (pv 5) pe_int (fun _ _ => rfl)) pe_int (nomark _))
            (pw_or1 (pt_cmpR op_gt (pe_ix ix_tup (pv 5) pe_int (fun _ _ => rfl)) pe_int (nomark _))))))))
          (pss_one (ps_ret pe_bl)) pss_nil)
        (pss_cons (ps_if (PW.pt (pw_or (pt_cmpR (op_leN (hu66 hr)) (pe_tup (pa_cons (pe_callB call_len' (by rfl) ml PySem.boot_len (pa_cons (pe_ix ix_tup (pv 5) pe_int (fun _ _ => rfl)) pa_nil)) (pa_cons (pe_ix ix_tup (pv 5) pe_int (fun _ _ => rfl)) pa_nil))) (pv 4) (nomark _))
            (pw_or1 (pt_not (pt_val (pe_call G3 hr (by rfl) g3 F3.kp b3 .nil pass0 (pa_cons (pe_ix ix_tup (pv 5) pe_int (fun _ _ => rfl)) (pa_cons (pv 2) pa_nil))))))))
          (pss_one (ps_ret pe_bl)) pss_nil)
        (pss_cons (ps_set (i := 4) scLawRight.nd rfl (.inl rfl) (pe_tup (pa_cons (pe_callB call_len' (by rfl) ml PySem.boot_len (pa_cons (pe_ix ix_tup (pv 5) pe_int (fun _ _ => rfl)) pa_nil)) (pa_cons (pe_ix ix_tup (pv 5) pe_int (fun _ _ => rfl)) pa_nil))))
        (pss_one (ps_for PassesOwn.never rfl (pi_range1 (by rfl) mra (pa_cons (pe_ix ix_tup (pv 5) pe_int (fun _ _ => rfl)) pa_nil)) (pg_name (i := 6) scLawRight.nd rfl (.inl rfl))
          (pss_one (ps_set (i := 3) scLawRight.nd rfl (.inl rfl) (pe_call G4 hr (by rfl) g4 F4.kp b4 .nil pass0 (pa_cons (pv 3) (pa_cons (pe_ix ix_tup (pv 5) pe_int (fun _ _ => rfl)) (pa_cons (pv 2) pa_nil)))))))))))))
      (pss_one (ps_ret (pe_cmpR (op_eqD hr.units) (pv 3) (pv 1) (nomark _))))))), ?_⟩
    refine Evl.q_when (b := false) (Evl.et_not (a := true) (Evl.et_B (ev_isiL (ev_var rfl) hl (by decide +kernel)))) (fun hb => absurd hb (by decide)) (fun _ H1 e1 => ?_)
    -- far = (1,)
    refine Evl.q_asgU (xs := ([1] : List Int).map V.int) (Evl.eu_tup (Evl.ea_cons ev_c Evl.ea_nil) (by show 1 ≤ 100000; decide)) fun far H2 nf e2 hf => ?_
    -- last = (0, ())
    refine q_asgP (P := fun v H3 => ∃ la le, v = .ref la ∧ SqT K H3 la [.int 0, .ref le] ∧ SqT K H3 le (([] : List Int).map V.int)) (ep_imp (ep_tupIT (x := .int 0) (ys := []) ev_c (Evl.eu_tup Evl.ea_nil (by show 0 ≤ 100000; decide))) fun v H3 e3 hv => by
      obtain ⟨la, le, rfl, h1, h2⟩ := hv
      exact ⟨la, le, rfl, Evl.st_of h1, Evl.st_of h2⟩) fun v H3 e3 hv => ?_
    obtain ⟨la, le, rfl, hla, hle⟩ := hv
    have e13 := (e1.trans e2).trans e3
    refine Evl.q_forLn (a := l) (xs := xs) (ev_var rfl) (Evl.sq_of (e13 _ _ hl))
      (fun i σ' H' => Ex H H' ∧ ∃ (fa la ga : Addr) (fs ms : List Int) (y5 y6 : Option V), σ' = [some (.ref l), some (.ref r), some (.int p), some (.ref fa), some (.ref la), y5, y6] ∧ SqT K H' fa (fs.map V.int) ∧ Red p fs ∧ Mon fs ∧ fs.length ≤ 1 + 16 * i ∧ Eqv p (ev fs) (prodP (parts.take i)) ∧
        SqT K H' la [.int (ms.length : Int), .ref ga] ∧ SqT K H' ga (ms.map V.int) ∧ ∀ a, parts[i]? = some a → partLt ms a.1)
      (fun H4 e4 => ⟨e13.trans e4, far, la, le, [1], [], none, none, rfl, Evl.st_of (e4 _ _ (e3 _ _ hf)), fun c hc => by rw [List.mem_singleton.mp hc]; omega, rfl, by show 1 ≤ _; omega, Eqv.of_eq fun x => by simp [ev, prodP], Evl.ex_t e4 hla, Evl.ex_t e4 hle, fun a ha => .inl (by
        have := (hG.ok a (List.mem_of_getElem? ha)).two
        show 0 < _
        omega)⟩) (fun i σ' H' hi hPv => Evl.sq_of (hPv.1 _ _ hl)) (fun i x σ' H' hx hPv => ?_) (fun σ' H' hPv => ?_)
    · obtain ⟨e, fa, la, ga, fs, ms, y5, y6, rfl, hfa, hfr, hfm, hfl, hfe, hla, hga, hord⟩ := hPv
      obtain ⟨a, ha, hpa⟩ := paired_get hps hx
      have hok := hG.ok a (List.mem_of_getElem? ha)
      have hlt := hord a ha
      have hi6 : i < parts.length := (List.getElem?_eq_some_iff.mp ha).1
      obtain ⟨g, o⟩ := a
      obtain ⟨okr, okm, ok2, ok5, ok1, ok4, oks⟩ := hok
      dsimp only at okr okm ok2 ok5 ok1 ok4 oks hlt
      obtain ⟨qa, gg, rfl, hqa, hgg⟩ := hpa
      dsimp only at hqa hgg
      have hq1 := Evl.ex_t e hqa
      have hg1 := Evl.ex_t e hgg
      -- the first test
      have row0 : ∀ (H5 : Hp) (σ5 : L2.St), Ex H' H5 → σ5[5]? = some (some (.ref qa)) → Ev (tOp (rIxT K) (tVar 5) (tC (.int 0))) σ5 H5 (.ref gg) := fun H5 σ5 e5 h5 => ev_op (ev_var h5) ev_c (Evl.rv_ixT (Evl.ex_t e5 hq1) rfl)
      have row1 : ∀ (H5 : Hp) (σ5 : L2.St), Ex H' H5 → σ5[5]? = some (some (.ref qa)) → Ev (tOp (rIxT K) (tVar 5) (tC (.int 1))) σ5 H5 (.int o) := fun H5 σ5 e5 h5 => ev_op (ev_var h5) ev_c (Evl.rv_ixT (Evl.ex_t e5 hq1) rfl)
      have lenr : ∀ (H5 : Hp) (σ5 : L2.St), Ex H' H5 → σ5[5]? = some (some (.ref qa)) → Ev (tCB (rLen K) (tCons (tOp (rIxT K) (tVar 5) (tC (.int 0))) tNil)) σ5 H5 (.int (g.length : Int)) := fun H5 σ5 e5 h5 => ev_to (by rw [List.length_map]) (ev_lenT (row0 H5 σ5 e5 h5) (Evl.ex_t e5 hg1))
      refine Evl.q_when (b := false) (Evl.et_or (a := false) (b := false) (Evl.et_not (a := true) (Evl.et_B (ev_isiT (ev_var rfl) hq1 (by decide +kernel)))) fun _ =>
        Evl.et_or (a := false) (b := false) (Evl.et_test (ev_op (ev_lenT (ev_var rfl) hq1) ev_c rv_neI)) fun _ =>
        Evl.et_or (a := false) (b := false) (Evl.et_not (a := true) (Evl.et_B (Evl.ev_call (vs := [.ref gg, .int p]) (Evl.ea_cons (row0 _ _ (Ex.refl H') rfl) (Evl.ea_cons (ev_var rfl) Evl.ea_nil)) fun H5 e5 Q5 q5 E5 => ⟨gg, g, p, rfl, Evl.ex_t e5 hg1, by omega, okm, okr, q5⟩))) fun _ =>
        Evl.et_not (a := true) (Evl.et_B (Evl.ev_call (vs := [.int o]) (Evl.ea_cons (row1 _ _ (Ex.refl H') rfl) Evl.ea_nil) fun H5 e5 Q5 q5 E5 => ⟨o, rfl, q5⟩))) (fun hb => absurd hb (by decide)) (fun _ H5 e5 => ?_)
      -- the second
      refine Evl.q_when (b := false) (Evl.et_or (a := false) (b := false) (et_to (decide_eq_false (by omega)) (Evl.et_test (ev_op (lenr _ _ e5 rfl) ev_c Evl.rv_I0))) fun _ =>
        Evl.et_or (a := false) (b := false) (et_to (decide_eq_false (by omega)) (Evl.et_test (ev_op (lenr _ _ e5 rfl) ev_c Evl.rv_I0))) fun _ =>
        Evl.et_or (a := false) (b := false) (Evl.et_test (ev_op (ev_op (row0 _ _ e5 rfl) (ev_un ev_c Evl.ru_neg) (Evl.rv_ixT (Evl.ex_t e5 hg1) (mon_last okm))) ev_c rv_neI)) fun _ =>
        Evl.et_or (a := false) (b := false) (et_to (decide_eq_false (by omega)) (Evl.et_test (ev_op (row1 _ _ e5 rfl) ev_c Evl.rv_I0))) fun _ =>
        et_to (decide_eq_false (by omega)) (Evl.et_test (ev_op (row1 _ _ e5 rfl) ev_c Evl.rv_I0))) (fun hb => absurd hb (by decide)) (fun _ H6 e6 => ?_)
      have e56 := e5.trans e6
      -- the third
      refine Evl.q_when (b := false) (Evl.et_or (a := false) (b := false) (et_to (leN_false (n := (g.length : Int)) (m := (ms.length : Int)) (ns := g) (ms := ms) rfl rfl hlt) (Evl.et_test (ev_opUL (xs := [.int (g.length : Int), .ref gg]) (Evl.eu_tup (Evl.ea_cons (lenr _ _ e56 rfl) (Evl.ea_cons (row0 _ _ e56 rfl) Evl.ea_nil)) (by show 2 ≤ 100000; decide)) (ev_var rfl) fun c H7 hc e7 H8 e8 Q8 q8 =>
          ⟨c, la, gg, ga, _, _, g, ms, rfl, rfl, Evl.st_of (e8 _ _ hc), Evl.ex_t ((e56.trans e7).trans e8) hla, Evl.ex_t ((e56.trans e7).trans e8) hg1, Evl.ex_t ((e56.trans e7).trans e8) hga, q8 H8 (Ex.refl H8)⟩))) fun _ =>
        Evl.et_not (a := true) (Evl.et_B (Evl.ev_call (vs := [.ref gg, .int p]) (Evl.ea_cons (row0 _ _ e56 rfl) (Evl.ea_cons (ev_var rfl) Evl.ea_nil)) fun H7 e7 Q7 q7 E7 => ⟨gg, g, p, rfl, Evl.ex_t (e56.trans e7) hg1, okr, ok5, oks, hP, by omega, q7⟩))) (fun hb => absurd hb (by decide)) (fun _ H7 e7 => ?_)
      have e57 := e56.trans e7
      -- last
      refine Evl.q_asgU (xs := [.int (g.length : Int), .ref gg]) (Evl.eu_tup (Evl.ea_cons (lenr _ _ e57 rfl) (Evl.ea_cons (row0 _ _ e57 rfl) Evl.ea_nil)) (by show 2 ≤ 100000; decide)) fun la2 H8 nl2 e8 hl2 => ?_
      have e58 := e57.trans e8
      refine Evl.s_forR1 (n := o) (Evl.ea_cons (row1 _ _ e58 rfl) Evl.ea_nil) (by omega)
        (fun j σ' H'' => Ex H8 H'' ∧ ∃ (fa : Addr) (fs : List Int) (y6 : Option V), σ' = [some (.ref l), some (.ref r), some (.int p), some (.ref fa), some (.ref la2), some (.ref qa), y6] ∧ SqT K H'' fa (fs.map V.int) ∧ Red p fs ∧ Mon fs ∧ fs.length ≤ 1 + 16 * i + 4 * j ∧ Eqv p (ev fs) (fun x => prodP (parts.take i) x * ev g x ^ j))
        (fun H9 e9 => ⟨e9, fa, fs, y6, rfl, Evl.ex_t (e58.trans e9) hfa, hfr, hfm, by omega, hfe.trans (Eqv.of_eq fun x => by rw [Int.pow_zero, Int.mul_one])⟩) (fun j σ' H9 hj hPv => ?_) (fun σ' H9 hPv => ?_)
      · obtain ⟨e9, fa, fs, y6, rfl, hfa, hfr, hfm, hfl, hfe⟩ := hPv
        have hml := mon_mulP hp hfm okm
        have h2 := hml.2
        have h3 := hfm.len
        refine Evl.s_asgU (xs := (mulP p fs g).map V.int) (eu_call (vs := [.ref fa, .ref gg, .int p]) (Evl.ea_cons (ev_var rfl) (Evl.ea_cons (row0 _ _ (e58.trans e9) rfl) (Evl.ea_cons (ev_var rfl) Evl.ea_nil))) fun H10 e10 Q10 q10 E10 => ⟨fa, gg, fs, g, p, rfl, Evl.ex_t e10 hfa, Evl.ex_t ((e58.trans e9).trans e10) hg1, by omega, by omega, hfr, hpm, by omega, q10⟩) fun d H10 nd e10 hd => ?_
        refine ⟨e9.trans e10, d, _, _, rfl, Evl.st_of hd, red_mulP hpm _ _, hml.1, by omega, (eqv_mulP p fs g).trans ((hfe.mul (Eqv.refl p (ev g)) ((isP_prod _).mul (isP_pow (IsP.ev _) _)) (IsP.ev _)).trans (Eqv.of_eq fun x => ?_))⟩
        rw [Int.pow_succ, Int.mul_assoc]
      · obtain ⟨e9, fa, fs, y6, rfl, hfa, hfr, hfm, hfl, hfe⟩ := hPv
        refine ⟨(e.trans e58).trans e9, fa, la2, gg, fs, g, _, _, rfl, hfa, hfr, hfm, by omega, hfe.trans (Eqv.of_eq fun x => ?_), Evl.st_of (e9 _ _ hl2), Evl.ex_t (e58.trans e9) hg1, fun b hb => pair_next (R := fun a b : List Int × Int => partLt a.1 b.1) hG.sorted ha hb⟩
        rw [prodP_take ha]
    · obtain ⟨e, fa, la, ga, fs, ms, y5, y6, rfl, hfa, hfr, hfm, hfl, hfe, hla, hga, hord⟩ := hPv
      rw [hps.len, List.take_length] at hfe
      have heq : fs = raw := unique hpm hfr hred hfm.cut hmon.cut (hfe.trans hG.prod)
      refine Evl.s_ret (v := .bl true) (ev_to ?_ (ev_op (ev_var rfl) (ev_var rfl) (rv_eqT hfa (Evl.ex_t e hR)))) fun H5 e5 => q H5 (e.trans e5)
      rw [decide_eq_true heq]
end
end RH
namespace RH
open PySem PySem.Spec PyProof.Rows L2
open Evl (Ev EvL EvU EvT EvA EvO Ex ev_c ev_var ev_op ev_un ea_nil ea_cons)
theorem sIx_last (n d : Nat) : HT.sIx n d (some (-1)) = n - 1 := by
  show (if (-1 : Int) < 0 then ((-1 : Int) + (n : Int)).toNat else min (-1 : Int).toNat n) = n - 1
  rw [if_pos (by decide)]
  omega
theorem cutV_last (xs : List V) : cutV xs none (some (-1)) = xs.dropLast := by
  unfold cutV
  rw [HT.sIx_none, sIx_last, List.drop_zero, Nat.sub_zero, List.dropLast_eq_take]
theorem modP_written {p : Int} (hp : 1 < p) {raw zs : List Int} (hr : Red p raw) (hm : Mon raw) (h : modL p zs = modL p raw.dropLast) : modP p (zs ++ [1]) = raw := by
  have e : modL p (zs ++ [1]) = raw := by
    unfold modL at h ⊢
    rw [List.map_append, h, List.map_singleton, Int.emod_eq_of_lt (by omega) hp]
    have hd : Red p raw.dropLast := fun c hc => hr c (List.dropLast_subset raw hc)
    rw [show raw.dropLast.map (· % p) = raw.dropLast from modL_red hd, hm.eq]
  unfold modP
  rw [e, cutL_of_cut _ hm.cut]
section
variable {K : PySem.W.Frag} {σ : L2.St} {H H' : Hp} {ta tb tc te tx : TE} {x y z v : V} {r r' : R2} {D : Ends} {tu tw tz : TS} {xs ys zs : List V} {t : TT}
theorem q_setLP {l : Addr} {j : Nat} {P : V → Hp → Prop} (hl : H l = some (.lst xs)) (h : EvP te σ H P) (ho : Ev ta σ H (.ref l)) (hi : Ev tb σ H (.int (j : Int))) (hj : j < xs.length) (k : ∀ v H1, Ex H H1 → tz D σ (upd H1 l (.lst (xs.set j v)))) :
    tSeq (tAsg te (gSub ta tb rSetL)) tz D σ H := h H (Ex.refl H) _ fun v H1 e1 hv => ho H1 e1 _ fun H2 e2 => hi H2 (e1.trans e2) _ fun H3 e3 =>
  ⟨l, xs, (j : Int), j, rfl, rfl, ((e1.trans e2).trans e3) l _ hl, Evl.ixN_nat hj, k v H3 ((e1.trans e2).trans e3)⟩
theorem rv_neB {a b : Bool} : Evl.RV rNe (.bl a) (.bl b) H (.bl (!decide (a = b))) := by
  have e : decide (V.bl a = V.bl b) = decide (a = b) := by
    by_cases h : a = b
    · rw [h, decide_eq_true rfl, decide_eq_true rfl]
    · rw [decide_eq_false h, decide_eq_false fun q => h (V.bl.inj q)]
  rw [← e]
  exact Evl.rv_ne rfl
end
section
variable {P : Program} {w : World} {K : PySem.W.Frag} {mg : Str → Option Value} {base : Heap}
/-! ### the law -/
def spLaw (K : PySem.W.Frag) : Sp := fun vs H Q _ => ∃ (a : Addr) (ns : List Int), vs = [.ref a] ∧ SqL K H a (ns.map V.int) ∧ ns.length ≤ 63 ∧ ∀ H', Q (.bl true) H'
theorem ok_law {f f1 f2 f3 f4 f5 f6 f7 f8 : Addr} {fd fd1 fd2 fd3 fd4 fd5 fd6 fd7 fd8 : FuncData} {k : Nat} (F : Fun K "law" "law" sLaw f fd)
    (F1 : Fun K "_law_prime" "_law_prime" sLawPrime f1 fd1) (b1 : Binds K fd1 ["_law_cell_here", "_law_prime_here"] []) (g1 : mg "_law_prime" = some (.ref f1)) (G1 : FnOk P w K mg base CX0 (k + 5) f1 fd1 ["_law_cell_here", "_law_prime_here"] spPrime)
    (F2 : Fun K "_law_cell" "_law_cell" sLawCell f2 fd2) (b2 : Binds K fd2 ["_law_script", "_law_k"] []) (g2 : mg "_law_cell" = some (.ref f2)) (G2 : FnOk P w K mg base CX0 (k + 5) f2 fd2 ["_law_script", "_law_k"] (spCell K))
    (F3 : Fun K "_law_draws" "_law_draws" sLawDraws f3 fd3) (b3 : Binds K fd3 ["_law_cell_here", "_law_widths", "_law_prime_here"] []) (g3 : mg "_law_draws" = some (.ref f3)) (G3 : FnOk P w K mg base CX0 (k + 5) f3 fd3 ["_law_cell_here", "_law_widths", "_law_prime_here"] (spDraws K))
    (F4 : Fun K "_law_places_of" "_law_places_of" sLawPlacesOf f4 fd4) (b4 : Binds K fd4 ["_law_script", "_law_degree", "_law_p"] []) (g4 : mg "_law_places_of" = some (.ref f4)) (G4 : FnOk P w K mg base CX0 (k + 5) f4 fd4 ["_law_script", "_law_degree", "_law_p"] (spPlacesOf K))
    (F5 : Fun K "_law_written" "_law_written" sLawWritten f5 fd5) (b5 : Binds K fd5 ["_law_places", "_law_p", "_law_cell_here", "_law_prime_here"] []) (g5 : mg "_law_written" = some (.ref f5)) (G5 : FnOk P w K mg base CX0 (k + 5) f5 fd5 ["_law_places", "_law_p", "_law_cell_here", "_law_prime_here"] (spWritten K))
    (F6 : Fun K "split_by" "split_by" sSplitBy f6 fd6) (b6 : Binds K fd6 ["poly", "p"] []) (g6 : mg "split_by" = some (.ref f6)) (G6 : FnOk P w K mg base CX0 (k + 5) f6 fd6 ["poly", "p"] (spSplitBy K))
    (F7 : Fun K "_law_right" "_law_right" sLawRight f7 fd7) (b7 : Binds K fd7 ["_law_found", "_law_raw", "_law_p"] []) (g7 : mg "_law_right" = some (.ref f7)) (G7 : FnOk P w K mg base CX0 (k + 5) f7 fd7 ["_law_found", "_law_raw", "_law_p"] (spRight K))
    (F8 : Fun K "stays" "stays" sStays f8 fd8) (b8 : Binds K fd8 ["poly", "p"] []) (g8 : mg "stays" = some (.ref f8)) (G8 : FnOk P w K mg base CX0 (k + 5) f8 fd8 ["poly", "p"] (spStays K))
    (mt : mg "tuple" = none) (mi : mg "isinstance" = none) (mb : mg "bool" = none) (ml : mg "len" = none) : FnOk P w K mg base CX0 (k + 6) f fd ["_law_script"] (spLaw K) := by
  refine F.ok scLaw (fun vs H Q E h => ?_) (fun cdv A outer s H vs Q E hr h => ?_)
  · obtain ⟨a, ns, rfl, _⟩ := h
    rfl
  · obtain ⟨a, ss, rfl, hA, hss, q⟩ := h
    refine ⟨_, pss_cons (ps_set (i := 1) scLaw.nd rfl (.inl rfl) (pe_call G1 hr (by rfl) g1 F1.kp b1 .nil pass0 (pa_cons (pe_call G2 hr (by rfl) g2 F2.kp b2 .nil pass0 (pa_cons (pv 0) (pa_cons pe_int pa_nil))) (pa_cons pe_int pa_nil))))
      (pss_cons (ps_set (i := 2) scLaw.nd rfl (.inl rfl) (pe_op op_add pe_int (pe_ix ix_list (pe_call G3 hr (by rfl) g3 F3.kp b3 .nil pass0 (pa_cons (pe_call G2 hr (by rfl) g2 F2.kp b2 .nil pass0 (pa_cons (pv 0) (pa_cons pe_int pa_nil))) (pa_cons (pe_lst (pa_cons pe_int pa_nil)) (pa_cons pe_int pa_nil)))) pe_int (fun _ _ => rfl))))
      (pss_cons (ps_set (i := 3) scLaw.nd rfl (.inl rfl) (pe_call G4 hr (by rfl) g4 F4.kp b4 .nil pass0 (pa_cons (pv 0) (pa_cons (pv 2) (pa_cons (pv 1) pa_nil)))))
      (pss_cons (ps_set (i := 4) scLaw.nd rfl (.inl rfl) (pe_callTy call_tuple_of (by rfl) mt boot_tuple (pa_cons (pe_op op_cat (pe_call G5 hr (by rfl) g5 F5.kp b5 .nil pass0 (pa_cons (pe_slice sl_tupA (pv 3) po_none (po_some (pe_un un_neg pe_int))) (pa_cons (pv 1) (pa_cons (pe_call G2 hr (by rfl) g2 F2.kp b2 .nil pass0 (pa_cons (pv 0) (pa_cons pe_int pa_nil))) (pa_cons pe_int pa_nil))))) (pe_lst (pa_cons pe_int pa_nil))) pa_nil)))
      (pss_cons (ps_set (i := 5) scLaw.nd rfl (.inl rfl) (pe_call G6 hr (by rfl) g6 F6.kp b6 .nil pass0 (pa_cons (pv 4) (pa_cons (pv 1) pa_nil))))
      (pss_cons (ps_if (pt_not (pt_val (pe_call G7 hr (by rfl) g7 F7.kp b7 .nil pass0 (pa_cons (pv 5) (pa_cons (pv 3) (pa_cons (pv 1) pa_nil)))))) (pss_one (ps_ret pe_bl)) pss_nil)
      (pss_cons (ps_set (i := 6) scLaw.nd rfl (.inl rfl) (pe_call G8 hr (by rfl) g8 F8.kp b8 .nil pass0 (pa_cons (pv 4) (pa_cons (pv 1) pa_nil))))
      (pss_cons (ps_if (PW.pt (pw_or (pt_not (pt_val (pe_callB call_isi (by rfl) mi boot_isinstance (pa_cons (pv 6) (pa_cons (pe_bltn (v := .ty "bool") (by rfl) mb PyProof.Rows.boot_bool rfl) pa_nil)))))
          (pw_or1 (pt_cmpR op_ne (pv 6) (pe_and (pe_cmpR op_eq (pe_callB call_len' (by rfl) ml PySem.boot_len (pa_cons (pv 5) pa_nil)) pe_int (nomark _)) (pe_one (pe_cmpR op_eq (pe_ix ix_tup (pe_ix ix_list (pv 5) pe_int (fun _ _ => rfl)) pe_int (fun _ _ => rfl)) pe_int (nomark _)))) (nomark _))))) (pss_one (ps_ret pe_bl)) pss_nil)
      (pss_cons (ps_expr (pe_bm PySem.F.plainAttrs_list PySem.F.slot_list_append PySem.F.type_list_append mt_append (pv 5) (pa_cons (pe_tup (pa_cons (pe_tup (pa_cons pe_int (pa_cons pe_int pa_nil))) (pa_cons pe_int pa_nil))) pa_nil)))
      (pss_cons (ps_asg (pe_tup (pa_cons (pe_tup (pa_cons pe_int (pa_cons pe_int pa_nil))) (pa_cons pe_int pa_nil))) (pg_sub (pv 5) pe_int set_list))
      (pss_one (ps_ret (pe_call G7 hr (by rfl) g7 F7.kp b7 .nil pass0 (pa_cons (pe_call G6 hr (by rfl) g6 F6.kp b6 .nil pass0 (pa_cons (pv 4) (pa_cons (pv 1) pa_nil))) (pa_cons (pv 3) (pa_cons (pv 1) pa_nil))))))))))))))), ?_⟩
    have cell : ∀ (σ : L2.St) (H1 : Hp) (i : Int), σ[0]? = some (some (.ref a)) → Ex H H1 → 0 ≤ i → i ≤ 100 → EvP (tCall (spCell K) [] E0 (tCons (tVar 0) (tCons (tC (.int i)) tNil))) σ H1 (fun v _ => ∃ c : Int, v = .int c) := fun σ H1 i h0 e1 hi0 hi1 =>
      ep_call (vs := [.ref a, .int i]) (Evl.ea_cons (ev_var h0) (Evl.ea_cons ev_c Evl.ea_nil)) fun H2 e2 Q2 q2 E2 => ⟨a, ss, i, rfl, Evl.ex_l (e1.trans e2) hA, hi0, hi1, fun v H3 e3 hv => q2 v H3 e3 hv⟩
    -- p
    refine q_asgP (P := fun v _ => ∃ p, p ∈ primes ∧ v = .int p) (epp_call (A := fun vs _ => ∃ c : Int, vs = [.int c, .int 999999937]) (eap_cons (cell _ H 0 rfl (Ex.refl H) (by decide) (by decide)) fun v H1 e1 hv => eap_ea (vs := [.int 999999937]) (Evl.ea_cons ev_c Evl.ea_nil) fun H2 e2 => ?_) fun vs H1 e1 hvs H2 e2 Q2 q2 E2 => ?_) fun v H1 e1 hv => ?_
    · obtain ⟨c, rfl⟩ := hv
      exact ⟨c, rfl⟩
    · obtain ⟨c, rfl⟩ := hvs
      exact ⟨c, 999999937, rfl, by decide, fun n hn H3 e3 => q2 _ H3 e3 ⟨n, hn, rfl⟩⟩
    obtain ⟨p, hpp, rfl⟩ := hv
    obtain ⟨hP, hp199⟩ := primes_ok hpp
    have hp := hP.1
    -- degree
    refine q_asgP (P := fun v _ => ∃ n : Int, 1 ≤ n ∧ n ≤ 4 ∧ v = .int n) (ep_opR (x := .int 1) (P := fun v _ => ∃ d : Int, 0 ≤ d ∧ d < 4 ∧ v = .int d) ev_c (ep_opI (P := fun v H2 => ∃ l d0, v = .ref l ∧ H2 l = some (.lst [.int d0]) ∧ 0 ≤ d0 ∧ d0 < 4)
      (epp_call (A := fun vs H2 => ∃ (c : Int) (b : Addr), vs = [.int c, .ref b, .int 999999929] ∧ H2 b = some (.lst (([4] : List Int).map V.int)))
        (eap_cons (cell _ H1 1 rfl e1 (by decide) (by decide)) fun v H2 e2 hv => eap_cons (ep_evL (Evl.el_lst (vs := [.int 4]) (Evl.ea_cons ev_c Evl.ea_nil) (by show 1 ≤ 100000; decide))) fun v2 H3 e3 hv2 => eap_ea (vs := [.int 999999929]) (Evl.ea_cons ev_c Evl.ea_nil) fun H4 e4 => ?_) fun vs H2 e2 hvs H3 e3 Q3 q3 E3 => ?_)
      fun v H2 e2 hv => ?_) fun v H2 e2 hv => ?_) fun v H2 e2 hv => ?_
    · obtain ⟨c, rfl⟩ := hv
      obtain ⟨b, rfl, _, hb⟩ := hv2
      exact ⟨c, b, rfl, e4 _ _ hb⟩
    · obtain ⟨c, b, rfl, hb⟩ := hvs
      refine ⟨c, 999999929, b, [4], rfl, Evl.sq_of (e3 _ _ hb), by show 1 ≤ 50; decide, by decide, by decide, fun l H4 ds nl e4 hl hd => q3 _ H4 e4 ?_⟩
      obtain ⟨hd1, hd2⟩ := hd
      match ds, hd1 with
      | [d0], _ => exact ⟨l, d0, rfl, hl, (hd2 0 (by decide)).1, (hd2 0 (by decide)).2⟩
    · obtain ⟨l, d0, rfl, hl, h0, h1⟩ := hv
      exact ⟨.int 0, .int d0, ev_c, Evl.rv_ixL (Evl.sq_of hl) rfl, fun _ _ => ⟨d0, h0, h1, rfl⟩⟩
    · obtain ⟨d, h0, h1, rfl⟩ := hv
      exact ⟨_, Evl.rv_I0, fun _ _ => ⟨1 + d, by omega, by omega, rfl⟩⟩
    obtain ⟨n, hn1, hn4, rfl⟩ := hv
    have e12 := e1.trans e2
    -- raw
    refine q_asgP (P := fun v H3 => ∃ c raw, v = .ref c ∧ SqT K H3 c (raw.map V.int) ∧ Red p raw ∧ Mon raw ∧ (raw.length : Int) = n + 1) (ep_call (vs := [.ref a, .int n, .int p]) (Evl.ea_cons (ev_var rfl) (Evl.ea_cons (ev_var rfl) (Evl.ea_cons (ev_var rfl) Evl.ea_nil))) fun H3 e3 Q3 q3 E3 =>
      ⟨a, ss, n, p, rfl, Evl.ex_l (e12.trans e3) hA, hn1, hn4, hp, by omega, fun c H4 raw e4 h1 h2 h3 h4 => q3 _ H4 e4 ⟨c, raw, rfl, h1, h2, h3, h4⟩⟩) fun v H3 e3 hv => ?_
    obtain ⟨cr, raw, rfl, hcr, hred, hmon, hlen⟩ := hv
    have e13 := e12.trans e3
    -- poly
    refine q_asgP (ep_tcat (R := fun zs => modL p zs = modL p raw.dropLast) (epp_call (A := fun vs H2 => ∃ (c : Int) (b : Addr), vs = [.ref b, .int p, .int c, .int 999999757] ∧ SqT K H2 b (raw.dropLast.map V.int))
      (eap_cons (P := fun v H4 => ∃ b, v = .ref b ∧ SqT K H4 b (raw.dropLast.map V.int)) (fun H4 e4 Q4 q4 => ⟨.ref cr, rfl, 1, rfl, -1, rfl, cr, _, rfl, Evl.ex_t e4 hcr, fun hw => ?_, fun _ b nb => ?_⟩) fun v H4 e4 hv => eap_cons (ep_ev (ev_var rfl)) fun v2 H5 e5 hv2 =>
        eap_cons (cell _ H5 6 rfl ((e13.trans e4).trans e5) (by decide) (by decide)) fun v3 H6 e6 hv3 => eap_ea (vs := [.int 999999757]) (Evl.ea_cons ev_c Evl.ea_nil) fun H7 e7 => ?_) fun vs H4 e4 hvs H5 e5 Q5 q5 E5 => ?_) fun zs hz => ?_) fun v H4 e4 hv => ?_
    · have := hw.2
      rw [sIx_last, List.length_map] at this
      omega
    · refine q4 _ _ (Ex.new nb) ⟨b, rfl, Evl.st_of ?_⟩
      rw [upd_same, cutV_last, ← List.map_dropLast]
    · obtain ⟨b, rfl, hb⟩ := hv
      subst hv2
      obtain ⟨c, rfl⟩ := hv3
      exact ⟨c, b, rfl, Evl.ex_t ((e5.trans e6).trans e7) hb⟩
    · obtain ⟨c, b, rfl, hb⟩ := hvs
      exact ⟨b, raw.dropLast, p, c, 999999757, rfl, Evl.ex_t e5 hb, by rw [List.length_dropLast]; omega, by omega, by omega, by decide, fun l H6 zs nl e6 hl hz => q5 _ H6 e6 ⟨l, zs, rfl, hl, hz⟩⟩
    · have := congrArg List.length hz
      simp only [modL, List.length_map, List.length_dropLast] at this
      omega
    obtain ⟨cp, zs, rfl, hcp, hz⟩ := hv
    have hzl : zs.length + 1 = raw.length := by
      have := congrArg List.length hz
      simp only [modL, List.length_map, List.length_dropLast] at this
      have := hmon.len
      omega
    have hpoly := modP_written hp hred hmon hz
    have hG := split_good hP (by omega) hred hmon (by omega) (by omega)
    have hsl := split_len hP hred hmon (by omega)
    have e14 := e13.trans e4
    have split : ∀ (H5 : Hp), SqT K H5 cp ((zs ++ [1]).map V.int) → SpPt K (spSplitBy K) [.ref cp, .int p] H5 (splitF p raw) := fun H5 h5 H6 e6 Q6 q6 E6 =>
      ⟨cp, zs ++ [1], raw, p, rfl, Evl.ex_t e6 h5, by rw [List.length_append]; show zs.length + 1 ≤ 900; omega, hpoly, hmon, hred, by omega, by omega, hpp, q6⟩
    -- found
    refine q_asgPt (parts := splitF p raw) (ept_call (vs := [.ref cp, .int p]) (Evl.ea_cons (ev_var rfl) (Evl.ea_cons (ev_var rfl) Evl.ea_nil)) (split H4 hcp)) fun l H5 xs nl e5 hl hps => ?_
    have hcr5 := Evl.ex_t (e4.trans e5) hcr
    have hcp5 := Evl.ex_t e5 hcp
    -- right
    refine Evl.q_when (b := false) (Evl.et_not (a := true) (Evl.et_B (Evl.ev_call (vs := [.ref l, .ref cr, .int p]) (Evl.ea_cons (ev_var rfl) (Evl.ea_cons (ev_var rfl) (Evl.ea_cons (ev_var rfl) Evl.ea_nil))) fun H6 e6 Q6 q6 E6 =>
      ⟨l, cr, xs, splitF p raw, raw, p, rfl, e6 _ _ hl, hps.ex e6, hsl, Evl.ex_t e6 hcr5, hred, hmon, hG, hP, by omega, q6⟩))) (fun hb => absurd hb (by decide)) (fun _ H6 e6 => ?_)
    -- told
    refine Evl.q_asg (v := .bl (staysF (splitF p raw))) (Evl.ev_call (vs := [.ref cp, .int p]) (Evl.ea_cons (ev_var rfl) (Evl.ea_cons (ev_var rfl) Evl.ea_nil)) fun H7 e7 Q7 q7 E7 =>
      ⟨cp, zs ++ [1], raw, p, rfl, Evl.ex_t (e6.trans e7) hcp5, by rw [List.length_append]; show zs.length + 1 ≤ 900; omega, hpoly, hmon, hred, by omega, by omega, hpp, q7⟩) fun H7 e7 => ?_
    have hl7 := e7 _ _ (e6 _ _ hl)
    refine Evl.q_when (b := false) (Evl.et_or (a := false) (b := false) (Evl.et_not (a := true) (Evl.et_B (ev_isiB (ev_var rfl) (by decide +kernel)))) fun _ => et_to ?_ (Evl.et_test (ev_op (ev_var rfl) (ev_stays (i := 5) rfl hl7 (hps.ex (e6.trans e7))) rv_neB))) (fun hb => absurd hb (by decide)) (fun _ H8 e8 => ?_)
    · rw [decide_eq_true rfl]
      rfl
    -- the list is changed
    have hl8 := e8 _ _ hl7
    have hlen8 := hps.len
    refine q_appP (P := fun _ _ => True) hl8 (ev_var rfl) (ep_imp (ep_part2 (K := K) (g := [1, 1]) (n := 1) (Evl.eu_tup (Evl.ea_cons ev_c (Evl.ea_cons ev_c Evl.ea_nil)) (by show 2 ≤ 100000; decide)) ev_c) fun _ _ _ _ => trivial) (by omega) fun y H9 e9 _ => ?_
    have hcr9 := sqt_upd (o := .lst (xs ++ [y])) (e9 _ _ hl8) (Evl.ex_t (((e6.trans e7).trans e8).trans e9) hcr5)
    have hcp9 := sqt_upd (o := .lst (xs ++ [y])) (e9 _ _ hl8) (Evl.ex_t (((e6.trans e7).trans e8).trans e9) hcp5)
    have hl9 : upd H9 l (.lst (xs ++ [y])) l = some (.lst (xs ++ [y])) := upd_same
    generalize upd H9 l (.lst (xs ++ [y])) = H10 at *
    refine q_setLP (j := 0) hl9 (ep_part2 (K := K) (g := [0, 1]) (n := 1) (Evl.eu_tup (Evl.ea_cons ev_c (Evl.ea_cons ev_c Evl.ea_nil)) (by show 2 ≤ 100000; decide)) ev_c) (ev_var rfl) ev_c (by rw [List.length_append]; show 0 < xs.length + 1; omega) fun z H11 e11 => ?_
    have hcr11 := sqt_upd (o := .lst ((xs ++ [y]).set 0 z)) (e11 _ _ hl9) (Evl.ex_t e11 hcr9)
    have hcp11 := sqt_upd (o := .lst ((xs ++ [y]).set 0 z)) (e11 _ _ hl9) (Evl.ex_t e11 hcp9)
    generalize upd H11 l (.lst ((xs ++ [y]).set 0 z)) = H12 at *
    -- asked again
    have again : EvPt K (tCall (spSplitBy K) [] E0 (tCons (tVar 4) (tCons (tVar 1) tNil))) [some (.ref a), some (.int p), some (.int n), some (.ref cr), some (.ref cp), some (.ref l), some (.bl (staysF (splitF p raw)))] H12 (splitF p raw) :=
      ept_call (vs := [.ref cp, .int p]) (Evl.ea_cons (ev_var rfl) (Evl.ea_cons (ev_var rfl) Evl.ea_nil)) (split H12 hcp11)
    refine s_retP (P := fun v _ => v = .bl true) (epp_call (A := fun vs H2 => ∃ l2 xs2, vs = [.ref l2, .ref cr, .int p] ∧ H2 l2 = some (.lst xs2) ∧ PartsAt K H2 xs2 (splitF p raw))
      (eap_cons (P := fun v H2 => ∃ l2 xs2, v = .ref l2 ∧ H2 l2 = some (.lst xs2) ∧ PartsAt K H2 xs2 (splitF p raw)) (fun H13 e13 Q13 q13 => again H13 e13 Q13 fun l2 H14 xs2 n2 e14 h1 h2 => q13 _ H14 e14 ⟨l2, xs2, rfl, h1, h2⟩) fun v H13 e13 hv => eap_ea (vs := [.ref cr, .int p]) (Evl.ea_cons (ev_var rfl) (Evl.ea_cons (ev_var rfl) Evl.ea_nil)) fun H14 e14 => ?_) fun vs H13 e13 hvs H14 e14 Q14 q14 E14 => ?_) fun v H13 e13 hv => ?_
    · obtain ⟨l2, xs2, rfl, h1, h2⟩ := hv
      exact ⟨l2, xs2, rfl, e14 _ _ h1, h2.ex e14⟩
    · obtain ⟨l2, xs2, rfl, h1, h2⟩ := hvs
      exact ⟨l2, cr, xs2, splitF p raw, raw, p, rfl, e14 _ _ h1, h2.ex e14, hsl, Evl.ex_t (e13.trans e14) hcr11, hred, hmon, hG, hP, by omega, fun H15 e15 => q14 _ H15 e15 rfl⟩
    · subst hv
      exact q _
end
end RH
namespace RH
open PySem PySem.Spec PyProof.Rows L2
theorem all_mk {l : PySem.W.OpenLaw} {w : World} {K : PySem.W.Frag} {h : Heap} {mg : Str → Option Value} {fa f1 f2 f3 f4 f5 f6 f7 f8 f9 f10 f11 f12 f13 f14 f15 f16 f17 f18 f19 f20 f21 f22 f23 f24 f25 f26 : Addr} (X : K.In h) (G : h.Ns mainGlobals mg) (hfa : mg "law" = some (.ref fa))
    {od1 an1 : Option Addr} {sl1 : Array (Option Value)} {oc1 kV1 dc1 pm1 cd1 ct1 : Value}
    {od2 an2 : Option Addr} {sl2 : Array (Option Value)} {oc2 kV2 dc2 pm2 cd2 ct2 : Value}
    {od3 an3 : Option Addr} {sl3 : Array (Option Value)} {oc3 kV3 dc3 pm3 cd3 ct3 : Value}
    {od4 an4 : Option Addr} {sl4 : Array (Option Value)} {oc4 kV4 dc4 pm4 cd4 ct4 : Value}
    {od5 an5 : Option Addr} {sl5 : Array (Option Value)} {oc5 kV5 dc5 pm5 cd5 ct5 : Value}
    {od6 an6 : Option Addr} {sl6 : Array (Option Value)} {oc6 kV6 dc6 pm6 cd6 ct6 : Value}
    {od7 an7 : Option Addr} {sl7 : Array (Option Value)} {oc7 kV7 dc7 pm7 cd7 ct7 : Value}
    {od8 an8 : Option Addr} {sl8 : Array (Option Value)} {oc8 kV8 dc8 pm8 cd8 ct8 : Value}
    {od9 an9 : Option Addr} {sl9 : Array (Option Value)} {oc9 kV9 dc9 pm9 cd9 ct9 : Value}
    {od10 an10 : Option Addr} {sl10 : Array (Option Value)} {oc10 kV10 dc10 pm10 cd10 ct10 : Value}
    {od11 an11 : Option Addr} {sl11 : Array (Option Value)} {oc11 kV11 dc11 pm11 cd11 ct11 : Value}
    {od12 an12 : Option Addr} {sl12 : Array (Option Value)} {oc12 kV12 dc12 pm12 cd12 ct12 : Value}
    {od13 an13 : Option Addr} {sl13 : Array (Option Value)} {oc13 kV13 dc13 pm13 cd13 ct13 : Value}
    {od14 an14 : Option Addr} {sl14 : Array (Option Value)} {oc14 kV14 dc14 pm14 cd14 ct14 : Value}
    {od15 an15 : Option Addr} {sl15 : Array (Option Value)} {oc15 kV15 dc15 pm15 cd15 ct15 : Value}
    {od16 an16 : Option Addr} {sl16 : Array (Option Value)} {oc16 kV16 dc16 pm16 cd16 ct16 : Value}
    {od17 an17 : Option Addr} {sl17 : Array (Option Value)} {oc17 kV17 dc17 pm17 cd17 ct17 : Value}
    {od18 an18 : Option Addr} {sl18 : Array (Option Value)} {oc18 kV18 dc18 pm18 cd18 ct18 : Value}
    {od19 an19 : Option Addr} {sl19 : Array (Option Value)} {oc19 kV19 dc19 pm19 cd19 ct19 : Value}
    {od20 an20 : Option Addr} {sl20 : Array (Option Value)} {oc20 kV20 dc20 pm20 cd20 ct20 : Value}
    {od21 an21 : Option Addr} {sl21 : Array (Option Value)} {oc21 kV21 dc21 pm21 cd21 ct21 : Value}
    {od22 an22 : Option Addr} {sl22 : Array (Option Value)} {oc22 kV22 dc22 pm22 cd22 ct22 : Value}
    {od23 an23 : Option Addr} {sl23 : Array (Option Value)} {oc23 kV23 dc23 pm23 cd23 ct23 : Value}
    {od24 an24 : Option Addr} {sl24 : Array (Option Value)} {oc24 kV24 dc24 pm24 cd24 ct24 : Value}
    {od25 an25 : Option Addr} {sl25 : Array (Option Value)} {oc25 kV25 dc25 pm25 cd25 ct25 : Value}
    {od26 an26 : Option Addr} {sl26 : Array (Option Value)} {oc26 kV26 dc26 pm26 cd26 ct26 : Value}
    (a1 : PySem.W.nsIn K mainGlobals "cut" = some (some (.ref f1))) (l1 : K.lookup f1 = some ⟨oc1, od1, .func (PySem.W.fnOf "cut" "cut" (defArgs sCut) (defBody sCut) (defScope sCut) .none kV1 dc1 pm1 an1 cd1 ct1), sl1⟩) (c1 : PySem.W.codeIn K cd1 "cut" = true) (k1 : PySem.W.keepIn K (.ref f1) = true)
    (a2 : PySem.W.nsIn K mainGlobals "turned" = some (some (.ref f2))) (l2 : K.lookup f2 = some ⟨oc2, od2, .func (PySem.W.fnOf "turned" "turned" (defArgs sTurned) (defBody sTurned) (defScope sTurned) .none kV2 dc2 pm2 an2 cd2 ct2), sl2⟩) (c2 : PySem.W.codeIn K cd2 "turned" = true) (k2 : PySem.W.keepIn K (.ref f2) = true)
    (a3 : PySem.W.nsIn K mainGlobals "mod_poly" = some (some (.ref f3))) (l3 : K.lookup f3 = some ⟨oc3, od3, .func (PySem.W.fnOf "mod_poly" "mod_poly" (defArgs sModPoly) (defBody sModPoly) (defScope sModPoly) .none kV3 dc3 pm3 an3 cd3 ct3), sl3⟩) (c3 : PySem.W.codeIn K cd3 "mod_poly" = true) (k3 : PySem.W.keepIn K (.ref f3) = true)
    (a4 : PySem.W.nsIn K mainGlobals "mod_parted" = some (some (.ref f4))) (l4 : K.lookup f4 = some ⟨oc4, od4, .func (PySem.W.fnOf "mod_parted" "mod_parted" (defArgs sModParted) (defBody sModParted) (defScope sModParted) .none kV4 dc4 pm4 an4 cd4 ct4), sl4⟩) (c4 : PySem.W.codeIn K cd4 "mod_parted" = true) (k4 : PySem.W.keepIn K (.ref f4) = true)
    (a5 : PySem.W.nsIn K mainGlobals "mod_at" = some (some (.ref f5))) (l5 : K.lookup f5 = some ⟨oc5, od5, .func (PySem.W.fnOf "mod_at" "mod_at" (defArgs sModAt) (defBody sModAt) (defScope sModAt) .none kV5 dc5 pm5 an5 cd5 ct5), sl5⟩) (c5 : PySem.W.codeIn K cd5 "mod_at" = true) (k5 : PySem.W.keepIn K (.ref f5) = true)
    (a6 : PySem.W.nsIn K mainGlobals "pair_of" = some (some (.ref f6))) (l6 : K.lookup f6 = some ⟨oc6, od6, .func (PySem.W.fnOf "pair_of" "pair_of" (defArgs sPairOf) (defBody sPairOf) (defScope sPairOf) .none kV6 dc6 pm6 an6 cd6 ct6), sl6⟩) (c6 : PySem.W.codeIn K cd6 "pair_of" = true) (k6 : PySem.W.keepIn K (.ref f6) = true)
    (a7 : PySem.W.nsIn K mainGlobals "rootless" = some (some (.ref f7))) (l7 : K.lookup f7 = some ⟨oc7, od7, .func (PySem.W.fnOf "rootless" "rootless" (defArgs sRootless) (defBody sRootless) (defScope sRootless) .none kV7 dc7 pm7 an7 cd7 ct7), sl7⟩) (c7 : PySem.W.codeIn K cd7 "rootless" = true) (k7 : PySem.W.keepIn K (.ref f7) = true)
    (a8 : PySem.W.nsIn K mainGlobals "split_by" = some (some (.ref f8))) (l8 : K.lookup f8 = some ⟨oc8, od8, .func (PySem.W.fnOf "split_by" "split_by" (defArgs sSplitBy) (defBody sSplitBy) (defScope sSplitBy) .none kV8 dc8 pm8 an8 cd8 ct8), sl8⟩) (c8 : PySem.W.codeIn K cd8 "split_by" = true) (k8 : PySem.W.keepIn K (.ref f8) = true)
    (a9 : PySem.W.nsIn K mainGlobals "stays" = some (some (.ref f9))) (l9 : K.lookup f9 = some ⟨oc9, od9, .func (PySem.W.fnOf "stays" "stays" (defArgs sStays) (defBody sStays) (defScope sStays) .none kV9 dc9 pm9 an9 cd9 ct9), sl9⟩) (c9 : PySem.W.codeIn K cd9 "stays" = true) (k9 : PySem.W.keepIn K (.ref f9) = true)
    (a10 : PySem.W.nsIn K mainGlobals "_law_mixed" = some (some (.ref f10))) (l10 : K.lookup f10 = some ⟨oc10, od10, .func (PySem.W.fnOf "_law_mixed" "_law_mixed" (defArgs sLawMixed) (defBody sLawMixed) (defScope sLawMixed) .none kV10 dc10 pm10 an10 cd10 ct10), sl10⟩) (c10 : PySem.W.codeIn K cd10 "_law_mixed" = true) (k10 : PySem.W.keepIn K (.ref f10) = true)
    (a11 : PySem.W.nsIn K mainGlobals "_law_draws" = some (some (.ref f11))) (l11 : K.lookup f11 = some ⟨oc11, od11, .func (PySem.W.fnOf "_law_draws" "_law_draws" (defArgs sLawDraws) (defBody sLawDraws) (defScope sLawDraws) .none kV11 dc11 pm11 an11 cd11 ct11), sl11⟩) (c11 : PySem.W.codeIn K cd11 "_law_draws" = true) (k11 : PySem.W.keepIn K (.ref f11) = true)
    (a12 : PySem.W.nsIn K mainGlobals "_law_cell" = some (some (.ref f12))) (l12 : K.lookup f12 = some ⟨oc12, od12, .func (PySem.W.fnOf "_law_cell" "_law_cell" (defArgs sLawCell) (defBody sLawCell) (defScope sLawCell) .none kV12 dc12 pm12 an12 cd12 ct12), sl12⟩) (c12 : PySem.W.codeIn K cd12 "_law_cell" = true) (k12 : PySem.W.keepIn K (.ref f12) = true)
    (a13 : PySem.W.nsIn K mainGlobals "_law_mod_places" = some (some (.ref f13))) (l13 : K.lookup f13 = some ⟨oc13, od13, .func (PySem.W.fnOf "_law_mod_places" "_law_mod_places" (defArgs sLawModPlaces) (defBody sLawModPlaces) (defScope sLawModPlaces) .none kV13 dc13 pm13 an13 cd13 ct13), sl13⟩) (c13 : PySem.W.codeIn K cd13 "_law_mod_places" = true) (k13 : PySem.W.keepIn K (.ref f13) = true)
    (a14 : PySem.W.nsIn K mainGlobals "_law_cut" = some (some (.ref f14))) (l14 : K.lookup f14 = some ⟨oc14, od14, .func (PySem.W.fnOf "_law_cut" "_law_cut" (defArgs sLawCut) (defBody sLawCut) (defScope sLawCut) .none kV14 dc14 pm14 an14 cd14 ct14), sl14⟩) (c14 : PySem.W.codeIn K cd14 "_law_cut" = true) (k14 : PySem.W.keepIn K (.ref f14) = true)
    (a15 : PySem.W.nsIn K mainGlobals "_law_mod_times" = some (some (.ref f15))) (l15 : K.lookup f15 = some ⟨oc15, od15, .func (PySem.W.fnOf "_law_mod_times" "_law_mod_times" (defArgs sLawModTimes) (defBody sLawModTimes) (defScope sLawModTimes) .none kV15 dc15 pm15 an15 cd15 ct15), sl15⟩) (c15 : PySem.W.codeIn K cd15 "_law_mod_times" = true) (k15 : PySem.W.keepIn K (.ref f15) = true)
    (a16 : PySem.W.nsIn K mainGlobals "_law_whole" = some (some (.ref f16))) (l16 : K.lookup f16 = some ⟨oc16, od16, .func (PySem.W.fnOf "_law_whole" "_law_whole" (defArgs sLawWhole) (defBody sLawWhole) (defScope sLawWhole) .none kV16 dc16 pm16 an16 cd16 ct16), sl16⟩) (c16 : PySem.W.codeIn K cd16 "_law_whole" = true) (k16 : PySem.W.keepIn K (.ref f16) = true)
    (a17 : PySem.W.nsIn K mainGlobals "_law_is_poly" = some (some (.ref f17))) (l17 : K.lookup f17 = some ⟨oc17, od17, .func (PySem.W.fnOf "_law_is_poly" "_law_is_poly" (defArgs sLawIsPoly) (defBody sLawIsPoly) (defScope sLawIsPoly) .none kV17 dc17 pm17 an17 cd17 ct17), sl17⟩) (c17 : PySem.W.codeIn K cd17 "_law_is_poly" = true) (k17 : PySem.W.keepIn K (.ref f17) = true)
    (a18 : PySem.W.nsIn K mainGlobals "_law_is_mod" = some (some (.ref f18))) (l18 : K.lookup f18 = some ⟨oc18, od18, .func (PySem.W.fnOf "_law_is_mod" "_law_is_mod" (defArgs sLawIsMod) (defBody sLawIsMod) (defScope sLawIsMod) .none kV18 dc18 pm18 an18 cd18 ct18), sl18⟩) (c18 : PySem.W.codeIn K cd18 "_law_is_mod" = true) (k18 : PySem.W.keepIn K (.ref f18) = true)
    (a19 : PySem.W.nsIn K mainGlobals "_law_mod_value" = some (some (.ref f19))) (l19 : K.lookup f19 = some ⟨oc19, od19, .func (PySem.W.fnOf "_law_mod_value" "_law_mod_value" (defArgs sLawModValue) (defBody sLawModValue) (defScope sLawModValue) .none kV19 dc19 pm19 an19 cd19 ct19), sl19⟩) (c19 : PySem.W.codeIn K cd19 "_law_mod_value" = true) (k19 : PySem.W.keepIn K (.ref f19) = true)
    (a20 : PySem.W.nsIn K mainGlobals "_law_mod_stays" = some (some (.ref f20))) (l20 : K.lookup f20 = some ⟨oc20, od20, .func (PySem.W.fnOf "_law_mod_stays" "_law_mod_stays" (defArgs sLawModStays) (defBody sLawModStays) (defScope sLawModStays) .none kV20 dc20 pm20 an20 cd20 ct20), sl20⟩) (c20 : PySem.W.codeIn K cd20 "_law_mod_stays" = true) (k20 : PySem.W.keepIn K (.ref f20) = true)
    (a21 : PySem.W.nsIn K mainGlobals "_law_primes" = some (some (.ref f21))) (l21 : K.lookup f21 = some ⟨oc21, od21, .func (PySem.W.fnOf "_law_primes" "_law_primes" (defArgs sLawPrimes) (defBody sLawPrimes) (defScope sLawPrimes) .none kV21 dc21 pm21 an21 cd21 ct21), sl21⟩) (c21 : PySem.W.codeIn K cd21 "_law_primes" = true) (k21 : PySem.W.keepIn K (.ref f21) = true)
    (a22 : PySem.W.nsIn K mainGlobals "_law_prime" = some (some (.ref f22))) (l22 : K.lookup f22 = some ⟨oc22, od22, .func (PySem.W.fnOf "_law_prime" "_law_prime" (defArgs sLawPrime) (defBody sLawPrime) (defScope sLawPrime) .none kV22 dc22 pm22 an22 cd22 ct22), sl22⟩) (c22 : PySem.W.codeIn K cd22 "_law_prime" = true) (k22 : PySem.W.keepIn K (.ref f22) = true)
    (a23 : PySem.W.nsIn K mainGlobals "_law_written" = some (some (.ref f23))) (l23 : K.lookup f23 = some ⟨oc23, od23, .func (PySem.W.fnOf "_law_written" "_law_written" (defArgs sLawWritten) (defBody sLawWritten) (defScope sLawWritten) .none kV23 dc23 pm23 an23 cd23 ct23), sl23⟩) (c23 : PySem.W.codeIn K cd23 "_law_written" = true) (k23 : PySem.W.keepIn K (.ref f23) = true)
    (a24 : PySem.W.nsIn K mainGlobals "_law_places_of" = some (some (.ref f24))) (l24 : K.lookup f24 = some ⟨oc24, od24, .func (PySem.W.fnOf "_law_places_of" "_law_places_of" (defArgs sLawPlacesOf) (defBody sLawPlacesOf) (defScope sLawPlacesOf) .none kV24 dc24 pm24 an24 cd24 ct24), sl24⟩) (c24 : PySem.W.codeIn K cd24 "_law_places_of" = true) (k24 : PySem.W.keepIn K (.ref f24) = true)
    (a25 : PySem.W.nsIn K mainGlobals "_law_right" = some (some (.ref f25))) (l25 : K.lookup f25 = some ⟨oc25, od25, .func (PySem.W.fnOf "_law_right" "_law_right" (defArgs sLawRight) (defBody sLawRight) (defScope sLawRight) .none kV25 dc25 pm25 an25 cd25 ct25), sl25⟩) (c25 : PySem.W.codeIn K cd25 "_law_right" = true) (k25 : PySem.W.keepIn K (.ref f25) = true)
    (a26 : PySem.W.nsIn K mainGlobals "law" = some (some (.ref f26))) (l26 : K.lookup f26 = some ⟨oc26, od26, .func (PySem.W.fnOf "law" "law" (defArgs sLaw) (defBody sLaw) (defScope sLaw) .none kV26 dc26 pm26 an26 cd26 ct26), sl26⟩) (c26 : PySem.W.codeIn K cd26 "law" = true) (k26 : PySem.W.keepIn K (.ref f26) = true)
    {aP : Addr} {oP : Obj} {iP : Array Value} {nP : Nat} (gP : PySem.W.nsIn K mainGlobals "PRIMES" = some (some (.ref aP))) (lP : K.lookup aP = some oP) (cP : oP.cls = .type "tuple") (dP : oP.data = .seq iP nP) (sP : iP.size ≤ sizeLine) (vP : Vals (primes.map V.int) iP.toList)
    (z1 : PySem.W.nsIn K mainGlobals "len" = some none)
    (z2 : PySem.W.nsIn K mainGlobals "tuple" = some none)
    (z3 : PySem.W.nsIn K mainGlobals "range" = some none)
    (z4 : PySem.W.nsIn K mainGlobals "reversed" = some none)
    (z5 : PySem.W.nsIn K mainGlobals "list" = some none)
    (z6 : PySem.W.nsIn K mainGlobals "sorted" = some none)
    (z7 : PySem.W.nsIn K mainGlobals "isinstance" = some none)
    (z8 : PySem.W.nsIn K mainGlobals "int" = some none)
    (z9 : PySem.W.nsIn K mainGlobals "bool" = some none)
    (z10 : PySem.W.nsIn K mainGlobals "all" = some none)
    (z11 : PySem.W.nsIn K mainGlobals "any" = some none)
    (z12 : PySem.W.nsIn K mainGlobals "zip" = some none)
    (z13 : PySem.W.nsIn K mainGlobals "min" = some none) :
    ∃ fd : FuncData, (∀ (s : Shared) (v : Value), BindsTo s fd ⟨[v], []⟩ [("_law_script", v)]) ∧ ∀ base : Heap, K.In base → base.Ns mainGlobals mg → FnOk l.prog w K mg base CX0 6 fa fd ["_law_script"] (spLaw K) := by
  have e := hfa.symm.trans (PySem.W.mg_of X G a26)
  cases e
  have F1 := fun_mk (st := sCut) l1 c1 k1
  have b1 := F1.binds (ps := ["row"]) fun _ _ _ _ _ _ us hl => match us, hl with | [_], _ => rfl
  have g1 := PySem.W.mg_of X G a1
  have F2 := fun_mk (st := sTurned) l2 c2 k2
  have b2 := F2.binds (ps := ["a", "p"]) fun _ _ _ _ _ _ us hl => match us, hl with | [_, _], _ => rfl
  have g2 := PySem.W.mg_of X G a2
  have F3 := fun_mk (st := sModPoly) l3 c3 k3
  have b3 := F3.binds (ps := ["row", "p"]) fun _ _ _ _ _ _ us hl => match us, hl with | [_, _], _ => rfl
  have g3 := PySem.W.mg_of X G a3
  have F4 := fun_mk (st := sModParted) l4 c4 k4
  have b4 := F4.binds (ps := ["a", "b", "p"]) fun _ _ _ _ _ _ us hl => match us, hl with | [_, _, _], _ => rfl
  have g4 := PySem.W.mg_of X G a4
  have F5 := fun_mk (st := sModAt) l5 c5 k5
  have b5 := F5.binds (ps := ["f", "x", "p"]) fun _ _ _ _ _ _ us hl => match us, hl with | [_, _, _], _ => rfl
  have g5 := PySem.W.mg_of X G a5
  have F6 := fun_mk (st := sPairOf) l6 c6 k6
  have b6 := F6.binds (ps := ["left", "p"]) fun _ _ _ _ _ _ us hl => match us, hl with | [_, _], _ => rfl
  have g6 := PySem.W.mg_of X G a6
  have F7 := fun_mk (st := sRootless) l7 c7 k7
  have b7 := F7.binds (ps := ["left", "p"]) fun _ _ _ _ _ _ us hl => match us, hl with | [_, _], _ => rfl
  have g7 := PySem.W.mg_of X G a7
  have F8 := fun_mk (st := sSplitBy) l8 c8 k8
  have b8 := F8.binds (ps := ["poly", "p"]) fun _ _ _ _ _ _ us hl => match us, hl with | [_, _], _ => rfl
  have g8 := PySem.W.mg_of X G a8
  have F9 := fun_mk (st := sStays) l9 c9 k9
  have b9 := F9.binds (ps := ["poly", "p"]) fun _ _ _ _ _ _ us hl => match us, hl with | [_, _], _ => rfl
  have g9 := PySem.W.mg_of X G a9
  have F10 := fun_mk (st := sLawMixed) l10 c10 k10
  have b10 := F10.binds (ps := ["_law_cell_here", "_law_k", "_law_prime_here"]) fun _ _ _ _ _ _ us hl => match us, hl with | [_, _, _], _ => rfl
  have g10 := PySem.W.mg_of X G a10
  have F11 := fun_mk (st := sLawDraws) l11 c11 k11
  have b11 := F11.binds (ps := ["_law_cell_here", "_law_widths", "_law_prime_here"]) fun _ _ _ _ _ _ us hl => match us, hl with | [_, _, _], _ => rfl
  have g11 := PySem.W.mg_of X G a11
  have F12 := fun_mk (st := sLawCell) l12 c12 k12
  have b12 := F12.binds (ps := ["_law_script", "_law_k"]) fun _ _ _ _ _ _ us hl => match us, hl with | [_, _], _ => rfl
  have g12 := PySem.W.mg_of X G a12
  have F13 := fun_mk (st := sLawModPlaces) l13 c13 k13
  have b13 := F13.binds (ps := ["_law_cell_here", "_law_many", "_law_p", "_law_prime_here"]) fun _ _ _ _ _ _ us hl => match us, hl with | [_, _, _, _], _ => rfl
  have g13 := PySem.W.mg_of X G a13
  have F14 := fun_mk (st := sLawCut) l14 c14 k14
  have b14 := F14.binds (ps := ["_law_row"]) fun _ _ _ _ _ _ us hl => match us, hl with | [_], _ => rfl
  have g14 := PySem.W.mg_of X G a14
  have F15 := fun_mk (st := sLawModTimes) l15 c15 k15
  have b15 := F15.binds (ps := ["_law_f", "_law_g", "_law_p"]) fun _ _ _ _ _ _ us hl => match us, hl with | [_, _, _], _ => rfl
  have g15 := PySem.W.mg_of X G a15
  have F16 := fun_mk (st := sLawWhole) l16 c16 k16
  have b16 := F16.binds (ps := ["_law_found"]) fun _ _ _ _ _ _ us hl => match us, hl with | [_], _ => rfl
  have g16 := PySem.W.mg_of X G a16
  have F17 := fun_mk (st := sLawIsPoly) l17 c17 k17
  have b17 := F17.binds (ps := ["_law_found"]) fun _ _ _ _ _ _ us hl => match us, hl with | [_], _ => rfl
  have g17 := PySem.W.mg_of X G a17
  have F18 := fun_mk (st := sLawIsMod) l18 c18 k18
  have b18 := F18.binds (ps := ["_law_found", "_law_p"]) fun _ _ _ _ _ _ us hl => match us, hl with | [_, _], _ => rfl
  have g18 := PySem.W.mg_of X G a18
  have F19 := fun_mk (st := sLawModValue) l19 c19 k19
  have b19 := F19.binds (ps := ["_law_f", "_law_z", "_law_p"]) fun _ _ _ _ _ _ us hl => match us, hl with | [_, _, _], _ => rfl
  have g19 := PySem.W.mg_of X G a19
  have F20 := fun_mk (st := sLawModStays) l20 c20 k20
  have b20 := F20.binds (ps := ["_law_g", "_law_p"]) fun _ _ _ _ _ _ us hl => match us, hl with | [_, _], _ => rfl
  have g20 := PySem.W.mg_of X G a20
  have F21 := fun_mk (st := sLawPrimes) l21 c21 k21
  have b21 := F21.binds (ps := []) fun _ _ _ _ _ _ us hl => match us, hl with | [], _ => rfl
  have g21 := PySem.W.mg_of X G a21
  have F22 := fun_mk (st := sLawPrime) l22 c22 k22
  have b22 := F22.binds (ps := ["_law_cell_here", "_law_prime_here"]) fun _ _ _ _ _ _ us hl => match us, hl with | [_, _], _ => rfl
  have g22 := PySem.W.mg_of X G a22
  have F23 := fun_mk (st := sLawWritten) l23 c23 k23
  have b23 := F23.binds (ps := ["_law_places", "_law_p", "_law_cell_here", "_law_prime_here"]) fun _ _ _ _ _ _ us hl => match us, hl with | [_, _, _, _], _ => rfl
  have g23 := PySem.W.mg_of X G a23
  have F24 := fun_mk (st := sLawPlacesOf) l24 c24 k24
  have b24 := F24.binds (ps := ["_law_script", "_law_degree", "_law_p"]) fun _ _ _ _ _ _ us hl => match us, hl with | [_, _, _], _ => rfl
  have g24 := PySem.W.mg_of X G a24
  have F25 := fun_mk (st := sLawRight) l25 c25 k25
  have b25 := F25.binds (ps := ["_law_found", "_law_raw", "_law_p"]) fun _ _ _ _ _ _ us hl => match us, hl with | [_, _, _], _ => rfl
  have g25 := PySem.W.mg_of X G a25
  have F26 := fun_mk (st := sLaw) l26 c26 k26
  have b26 := F26.binds (ps := ["_law_script"]) fun _ _ _ _ _ _ us hl => match us, hl with | [_], _ => rfl
  have g26 := PySem.W.mg_of X G a26
  have m_len := PySem.W.mg_none_of X G z1
  have m_tuple := PySem.W.mg_none_of X G z2
  have m_range := PySem.W.mg_none_of X G z3
  have m_reversed := PySem.W.mg_none_of X G z4
  have m_list := PySem.W.mg_none_of X G z5
  have m_sorted := PySem.W.mg_none_of X G z6
  have m_isinstance := PySem.W.mg_none_of X G z7
  have m_int := PySem.W.mg_none_of X G z8
  have m_bool := PySem.W.mg_none_of X G z9
  have m_all := PySem.W.mg_none_of X G z10
  have m_any := PySem.W.mg_none_of X G z11
  have m_zip := PySem.W.mg_none_of X G z12
  have m_min := PySem.W.mg_none_of X G z13
  have gPr := PySem.W.mg_of X G gP
  have hPr : ∀ H : Hp, SqT K H aP (primes.map V.int) := fun H => .inr ⟨oP, iP, nP, lP, cP, dP, sP, vP⟩
  refine ⟨PySem.W.fnOf "law" "law" (defArgs sLaw) (defBody sLaw) (defScope sLaw) .none kV26 dc26 pm26 an26 cd26 ct26, fun s v => .of_eq rfl, fun base _ _ => ?_⟩
  have G1 := ok_cut (P := l.prog) (w := w) (mg := mg) (base := base) (k := 0) F1 m_len m_tuple
  have G2 := ok_turned (P := l.prog) (w := w) (mg := mg) (base := base) (k := 0) F2
  have G3 := ok_modPoly (P := l.prog) (w := w) (mg := mg) (base := base) (k := 0) F3 F1 b1 g1 G1
  have G5 := ok_modAt (P := l.prog) (w := w) (mg := mg) (base := base) (k := 0) F5 m_reversed
  have G4 := ok_modParted (P := l.prog) (w := w) (mg := mg) (base := base) (k := 0) F4 F1 b1 g1 (G1.mono (by decide)) F2 b2 g2 (G2.mono (by decide)) F3 b3 g3 G3 m_len m_list m_range
  have G6 := ok_pairOf (P := l.prog) (w := w) (mg := mg) (base := base) (k := 0) F6 F2 b2 g2 G2 m_range
  have G7 := ok_rootless (P := l.prog) (w := w) (mg := mg) (base := base) (k := 0) F7 F6 b6 g6 G6 m_len m_sorted
  have G8 := ok_splitBy (P := l.prog) (w := w) (mg := mg) (base := base) (k := 0) F8 F3 b3 g3 (G3.mono (by decide)) F5 b5 g5 (G5.mono (by decide)) F4 b4 g4 G4 F7 b7 g7 G7 gPr hPr m_len m_range
  have G9 := ok_stays (P := l.prog) (w := w) (mg := mg) (base := base) (k := 0) F9 F8 b8 g8 G8 m_len
  have G10 := ok_mixed (P := l.prog) (w := w) (mg := mg) (base := base) (k := 0) F10
  have G11 := ok_draws (P := l.prog) (w := w) (mg := mg) (base := base) (k := 0) F11 F10 b10 g10 G10 m_len m_range
  have G12 := ok_cell (P := l.prog) (w := w) (mg := mg) (base := base) (k := 0) F12 m_len
  have G13 := ok_modPlaces (P := l.prog) (w := w) (mg := mg) (base := base) (k := 0) F13 F11 b11 g11 G11
  have G14 := ok_lawCut (P := l.prog) (w := w) (mg := mg) (base := base) (k := 0) F14 m_len m_tuple
  have G15 := ok_times (P := l.prog) (w := w) (mg := mg) (base := base) (k := 0) F15 F14 b14 g14 G14 m_len m_range
  have G16 := ok_whole (P := l.prog) (w := w) (mg := mg) (base := base) (k := 0) F16 m_isinstance m_int m_bool
  have G17 := ok_isPoly (P := l.prog) (w := w) (mg := mg) (base := base) (k := 0) F17 F16 b16 g16 G16 m_isinstance m_tuple m_all m_len
  have G18 := ok_isMod (P := l.prog) (w := w) (mg := mg) (base := base) (k := 0) F18 F17 b17 g17 G17 m_all
  have G19 := ok_lawModValue (P := l.prog) (w := w) (mg := mg) (base := base) (k := 0) F19 m_reversed
  have G20 := ok_modStays (P := l.prog) (w := w) (mg := mg) (base := base) (k := 0) F20 F19 b19 g19 G19 m_len m_range m_any
  have G21 := ok_primes (P := l.prog) (w := w) (mg := mg) (base := base) (k := 0) F21 m_range m_all
  have G22 := ok_prime (P := l.prog) (w := w) (mg := mg) (base := base) (k := 0) F22 F11 b11 g11 G11 F21 b21 g21 (G21.mono (by decide))
  have G23 := ok_written (P := l.prog) (w := w) (mg := mg) (base := base) (k := 0) F23 F11 b11 g11 G11 m_len m_zip
  have G24 := ok_placesOf (P := l.prog) (w := w) (mg := mg) (base := base) (k := 0) F24 F11 b11 g11 (G11.mono (by decide)) F12 b12 g12 (G12.mono (by decide)) F13 b13 g13 G13 F15 b15 g15 (G15.mono (by decide)) m_tuple m_min m_range
  have G25 := ok_right (P := l.prog) (w := w) (mg := mg) (base := base) (k := 0) F25 F18 b18 g18 G18 F16 b16 g16 (G16.mono (by decide)) F20 b20 g20 (G20.mono (by decide)) F15 b15 g15 (G15.mono (by decide)) m_isinstance m_list m_tuple m_len m_range
  exact ok_law (P := l.prog) (w := w) (mg := mg) (base := base) (k := 0) F26 F22 b22 g22 (G22.mono (by decide)) F12 b12 g12 (G12.mono (by decide)) F11 b11 g11 (G11.mono (by decide)) F24 b24 g24 (G24.mono (by decide)) F23 b23 g23 (G23.mono (by decide)) F8 b8 g8 (G8.mono (by decide)) F25 b25 g25 (G25.mono (by decide)) F9 b9 g9 G9 m_tuple m_isinstance m_bool m_len
end RH
open PySem PySem.W PyProof.Rows
set_option maxHeartbeats 0 in
theorem PySem.Challenge.cw_ringhouse_k10_whole_split_holds : PySem.Challenge.rw_ringhouse_k10_whole_split.Holds := by
  w_on; o_law; k_head; (case hw => w_witness2)
  k_fill
  refine L2.walk_of (l := PySem.Challenge.rw_ringhouse_k10_whole_split) (n := 63) (k := 6) (x := "_law_script") (CX := fun _ => L2.CX0) (sp := fun w => RH.spLaw _) rfl (by decide) rfl ⟨rfl, by decide, by decide⟩ (fun w h Y => PySem.W.kIn_of Y) ?F (fun _ _ a ns hl _ hS => ⟨a, ns, rfl, hS, hl, fun _ => rfl⟩) (fun _ _ _ _ _ h => h)
  case F =>
    intro w mg fa h KX G hmg
    refine' RH.all_mk KX G hmg ?a1 ?l1 ?c1 ?k1 ?a2 ?l2 ?c2 ?k2 ?a3 ?l3 ?c3 ?k3 ?a4 ?l4 ?c4 ?k4 ?a5 ?l5 ?c5 ?k5 ?a6 ?l6 ?c6 ?k6 ?a7 ?l7 ?c7 ?k7 ?a8 ?l8 ?c8 ?k8 ?a9 ?l9 ?c9 ?k9 ?a10 ?l10 ?c10 ?k10 ?a11 ?l11 ?c11 ?k11 ?a12 ?l12 ?c12 ?k12 ?a13 ?l13 ?c13 ?k13 ?a14 ?l14 ?c14 ?k14 ?a15 ?l15 ?c15 ?k15 ?a16 ?l16 ?c16 ?k16 ?a17 ?l17 ?c17 ?k17 ?a18 ?l18 ?c18 ?k18 ?a19 ?l19 ?c19 ?k19 ?a20 ?l20 ?c20 ?k20 ?a21 ?l21 ?c21 ?k21 ?a22 ?l22 ?c22 ?k22 ?a23 ?l23 ?c23 ?k23 ?a24 ?l24 ?c24 ?k24 ?a25 ?l25 ?c25 ?k25 ?a26 ?l26 ?c26 ?k26 ?gP ?lP ?cP ?dP ?sP ?vP ?z1 ?z2 ?z3 ?z4 ?z5 ?z6 ?z7 ?z8 ?z9 ?z10 ?z11 ?z12 ?z13
    (case a1 => k_is); (case l1 => k_is); (case c1 => k_is); (case k1 => k_is); (case a2 => k_is); (case l2 => k_is); (case c2 => k_is); (case k2 => k_is); (case a3 => k_is); (case l3 => k_is); (case c3 => k_is); (case k3 => k_is); (case a4 => k_is); (case l4 => k_is); (case c4 => k_is); (case k4 => k_is); (case a5 => k_is); (case l5 => k_is); (case c5 => k_is); (case k5 => k_is); (case a6 => k_is); (case l6 => k_is); (case c6 => k_is); (case k6 => k_is); (case a7 => k_is); (case l7 => k_is); (case c7 => k_is); (case k7 => k_is); (case a8 => k_is); (case l8 => k_is); (case c8 => k_is); (case k8 => k_is); (case a9 => k_is); (case l9 => k_is); (case c9 => k_is); (case k9 => k_is); (case a10 => k_is); (case l10 => k_is); (case c10 => k_is); (case k10 => k_is); (case a11 => k_is); (case l11 => k_is); (case c11 => k_is); (case k11 => k_is); (case a12 => k_is); (case l12 => k_is); (case c12 => k_is); (case k12 => k_is); (case a13 => k_is); (case l13 => k_is); (case c13 => k_is); (case k13 => k_is); (case a14 => k_is); (case l14 => k_is); (case c14 => k_is); (case k14 => k_is); (case a15 => k_is); (case l15 => k_is); (case c15 => k_is); (case k15 => k_is); (case a16 => k_is); (case l16 => k_is); (case c16 => k_is); (case k16 => k_is); (case a17 => k_is); (case l17 => k_is); (case c17 => k_is); (case k17 => k_is); (case a18 => k_is); (case l18 => k_is); (case c18 => k_is); (case k18 => k_is); (case a19 => k_is); (case l19 => k_is); (case c19 => k_is); (case k19 => k_is); (case a20 => k_is); (case l20 => k_is); (case c20 => k_is); (case k20 => k_is); (case a21 => k_is); (case l21 => k_is); (case c21 => k_is); (case k21 => k_is); (case a22 => k_is); (case l22 => k_is); (case c22 => k_is); (case k22 => k_is); (case a23 => k_is); (case l23 => k_is); (case c23 => k_is); (case k23 => k_is); (case a24 => k_is); (case l24 => k_is); (case c24 => k_is); (case k24 => k_is); (case a25 => k_is); (case l25 => k_is); (case c25 => k_is); (case k25 => k_is); (case a26 => k_is); (case l26 => k_is); (case c26 => k_is); (case k26 => k_is); (case gP => k_is); (case lP => k_is); (case z1 => k_is); (case z2 => k_is); (case z3 => k_is); (case z4 => k_is); (case z5 => k_is); (case z6 => k_is); (case z7 => k_is); (case z8 => k_is); (case z9 => k_is); (case z10 => k_is); (case z11 => k_is); (case z12 => k_is); (case z13 => k_is)
    (case cP => rfl); (case dP => rfl); (case sP => decide)
    (case vP => repeat' first | exact Paired.nil | refine Paired.cons ⟨_, rfl⟩ ?_)
