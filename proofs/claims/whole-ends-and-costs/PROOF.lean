import PyProof.Rows.All
import Wide.All
import OpenK.AllK
import Wide.FinOn
import HandS.ForMost
import HandS.WideBits
import HandS.More
import HandS.Strs
import HandS.TupAny
import HandS.Conv
import HandS.Exc
import HandS.IsInst
import HandS.Codes
import HandS.TryMany
import HandS.TryOnly
import HandS.Finally
import HandS.ClsMeth
import HandS.Defaults
import KE.KStateDown
import HandS.Ends
import HandS.Words
import HandS.WordsExc
import HandS.Head0
import HandS.Head1
import HandS.Head2
import HandS.HeadEnd
import HandS.HeadHook1
import HandS.HeadHook2
import PySem.Challenge.RW_gainstream_k38_whole_ends_and_costs
set_option Elab.async false
set_option linter.all false
section
/-! Plain mathematics, part A: helpers over Rat, sizes. -/
namespace GM
theorem rpos_ne {a : Rat} (h : 0 < a) : a ≠ 0 := fun e => by rw [e] at h; exact absurd h Rat.lt_irrefl
theorem inv_pos' {a : Rat} (h : 0 < a) : 0 < a⁻¹ := Rat.inv_pos.mpr h
theorem div_pos' {a b : Rat} (h : 0 < a) (h' : 0 < b) : 0 < a / b := by rw [Rat.div_def]; exact Rat.mul_pos h (inv_pos' h')
theorem mul_div_self {a b : Rat} (h : b ≠ 0) : a / b * b = a := Rat.div_mul_cancel h
theorem div_le_iff' {a b c : Rat} (h : 0 < b) : a / b ≤ c ↔ a ≤ c * b := by
  have e : a / b * b = a := Rat.div_mul_cancel (rpos_ne h)
  constructor
  · intro k
    have := Rat.mul_le_mul_of_nonneg_right k (Rat.le_of_lt h)
    rw [e] at this; exact this
  · intro k
    rw [← e] at k
    exact Rat.le_of_mul_le_mul_right k h
theorem le_div_iff' {a b c : Rat} (h : 0 < b) : c ≤ a / b ↔ c * b ≤ a := by
  have e : a / b * b = a := Rat.div_mul_cancel (rpos_ne h)
  constructor
  · intro k
    have := Rat.mul_le_mul_of_nonneg_right k (Rat.le_of_lt h)
    rw [e] at this; exact this
  · intro k
    rw [← e] at k
    exact Rat.le_of_mul_le_mul_right k h

/-- D times x is whole -/
def Dv (D : Nat) (x : Rat) : Prop := ∃ k : Int, x * (D : Rat) = (k : Rat)
theorem num_eq (x : Rat) : x * (x.den : Rat) = (x.num : Rat) := by
  have h := Rat.num_divInt_den x
  rw [Rat.divInt_eq_div] at h
  have hd : ((x.den : Int) : Rat) ≠ 0 := by
    have := x.den_nz
    intro e
    have e' : ((x.den : Int) : Rat) = ((0 : Int) : Rat) := e
    have := Rat.intCast_inj.mp e'
    omega
  have e2 := Rat.div_mul_cancel (a := (x.num : Rat)) hd
  rw [h] at e2
  exact e2
theorem dv_den (x : Rat) : Dv x.den x := ⟨x.num, num_eq x⟩
theorem Dv.den_le {D : Nat} {x : Rat} (h : Dv D x) (hD : 0 < D) : x.den ≤ D := by
  obtain ⟨k, hk⟩ := h
  have hD' : ((D : Int) : Rat) ≠ 0 := by
    intro e
    have e' : ((D : Int) : Rat) = ((0 : Int) : Rat) := e
    have := Rat.intCast_inj.mp e'
    omega
  have e : x = Rat.divInt k (D : Int) := by
    rw [Rat.divInt_eq_div]
    have hk' : x * ((D : Int) : Rat) = (k : Rat) := hk
    rw [← hk']
    exact (Rat.mul_div_cancel hD').symm
  rw [e, Rat.den_divInt, if_neg (by omega)]
  simp only [Int.natAbs_natCast]
  exact Nat.div_le_self _ _
theorem Dv.add {D : Nat} {x y : Rat} (h : Dv D x) (h' : Dv D y) : Dv D (x + y) := by
  obtain ⟨k, hk⟩ := h
  obtain ⟨l, hl⟩ := h'
  exact ⟨k + l, by rw [Rat.add_mul, hk, hl, Rat.intCast_add]⟩
theorem Dv.neg {D : Nat} {x : Rat} (h : Dv D x) : Dv D (-x) := by
  obtain ⟨k, hk⟩ := h
  exact ⟨-k, by rw [Rat.neg_mul, hk, Rat.intCast_neg]⟩
theorem Dv.sub {D : Nat} {x y : Rat} (h : Dv D x) (h' : Dv D y) : Dv D (x - y) := by
  rw [Rat.sub_eq_add_neg]; exact h.add h'.neg
theorem Dv.mul {D E : Nat} {x y : Rat} (h : Dv D x) (h' : Dv E y) : Dv (D * E) (x * y) := by
  obtain ⟨k, hk⟩ := h
  obtain ⟨l, hl⟩ := h'
  refine ⟨k * l, ?_⟩
  rw [Rat.intCast_mul, ← hk, ← hl, Rat.natCast_mul]
  grind
theorem Dv.zero {D : Nat} : Dv D 0 := ⟨0, by rw [Rat.zero_mul]; rfl⟩
theorem Dv.int {D : Nat} (k : Int) : Dv D (k : Rat) := ⟨k * D, by rw [Rat.intCast_mul]; rfl⟩
theorem Dv.one {D : Nat} : Dv D 1 := Dv.int 1
theorem Dv.mono {D E : Nat} {x : Rat} (h : Dv D x) : Dv (D * E) x := by
  have := h.mul (Dv.one (D := E))
  rwa [Rat.mul_one] at this
theorem Dv.mono' {D E : Nat} {x : Rat} (h : Dv D x) : Dv (E * D) x := by
  rw [Nat.mul_comm]; exact h.mono
theorem Dv.of_dvd {D E : Nat} {x : Rat} (h : Dv D x) (k : D ∣ E) : Dv E x := by
  obtain ⟨c, rfl⟩ := k; exact h.mono
/-- at most V, at least -V -/
def Ab (V : Nat) (x : Rat) : Prop := -(V : Rat) ≤ x ∧ x ≤ (V : Rat)
theorem Ab.mono {V W : Nat} {x : Rat} (h : Ab V x) (k : V ≤ W) : Ab W x := by
  have : (V : Rat) ≤ (W : Rat) := Rat.natCast_le_natCast.mpr k
  obtain ⟨a, b⟩ := h
  exact ⟨by grind, by grind⟩
theorem Ab.add {V W : Nat} {x y : Rat} (h : Ab V x) (k : Ab W y) : Ab (V + W) (x + y) := by
  obtain ⟨a, b⟩ := h
  obtain ⟨c, d⟩ := k
  unfold Ab
  rw [Rat.natCast_add]
  exact ⟨by grind, by grind⟩
theorem Ab.neg {V : Nat} {x : Rat} (h : Ab V x) : Ab V (-x) := by
  obtain ⟨a, b⟩ := h
  exact ⟨by grind, by grind⟩
theorem Ab.sub {V W : Nat} {x y : Rat} (h : Ab V x) (k : Ab W y) : Ab (V + W) (x - y) := by
  rw [Rat.sub_eq_add_neg]; exact h.add k.neg
theorem Ab.zero {V : Nat} : Ab V 0 := by
  have : (0 : Rat) ≤ (V : Rat) := Rat.natCast_nonneg
  exact ⟨by grind, by grind⟩
theorem Ab.of_nonneg {V : Nat} {x : Rat} (h0 : 0 ≤ x) (h : x ≤ (V : Rat)) : Ab V x := by
  have : (0 : Rat) ≤ (V : Rat) := Rat.natCast_nonneg
  exact ⟨by grind, h⟩
theorem ab_mul_aux {v w x y : Rat} (h1 : -v ≤ x) (h2 : x ≤ v) (h3 : -w ≤ y) (h4 : y ≤ w) : -(v * w) ≤ x * y ∧ x * y ≤ v * w := by
  have a := Rat.mul_nonneg (a := v - x) (b := w + y) (by grind) (by grind)
  have b := Rat.mul_nonneg (a := v + x) (b := w - y) (by grind) (by grind)
  have c := Rat.mul_nonneg (a := v - x) (b := w - y) (by grind) (by grind)
  have d := Rat.mul_nonneg (a := v + x) (b := w + y) (by grind) (by grind)
  exact ⟨by grind, by grind⟩
theorem Ab.mul {V W : Nat} {x y : Rat} (h : Ab V x) (k : Ab W y) : Ab (V * W) (x * y) := by
  unfold Ab
  rw [Rat.natCast_mul]
  exact ab_mul_aux h.1 h.2 k.1 k.2
theorem Ab.num {V D : Nat} {x : Rat} (h : Ab V x) (hd : x.den ≤ D) : x.num.natAbs ≤ V * D := by
  have e := num_eq x
  have hden : Ab x.den (x.den : Rat) := Ab.of_nonneg Rat.natCast_nonneg Rat.le_refl
  have k := h.mul hden
  rw [e] at k
  obtain ⟨a, b⟩ := k
  have b' : ((x.num : Int) : Rat) ≤ (((V * x.den : Nat) : Int) : Rat) := b
  have a' : ((-(V * x.den : Nat) : Int) : Rat) ≤ ((x.num : Int) : Rat) := by rw [Rat.intCast_neg]; exact a
  have b2 := Rat.intCast_le_intCast.mp b'
  have a2 := Rat.intCast_le_intCast.mp a'
  have : V * x.den ≤ V * D := Nat.mul_le_mul_left V hd
  omega
/-- a small number: what the program's Fractions may be -/
structure Bd (x : Rat) : Prop where
  den : x.den < 2 ^ 4490
  num : x.num.natAbs < 2 ^ 100000
theorem Bd.of {D V a b : Nat} {x : Rat} (h : Dv D x) (k : Ab V x) (h0 : 0 < D) (hD : D ≤ 2 ^ a) (hV : V ≤ 2 ^ b) (ha : a < 4490) (hb : b ≤ 90000) : Bd x := by
  have e := h.den_le h0
  refine ⟨Nat.lt_of_le_of_lt (Nat.le_trans e hD) (Nat.pow_lt_pow_right (by decide) ha), ?_⟩
  have e2 := k.num e
  have e3 : V * D ≤ 2 ^ b * 2 ^ a := Nat.mul_le_mul hV hD
  rw [← Nat.pow_add] at e3
  exact Nat.lt_of_le_of_lt (Nat.le_trans e2 e3) (Nat.pow_lt_pow_right (by decide) (by omega))
end GM
end
section
/-! Plain mathematics, part B: ways, walks, sums at places. -/
namespace GM
/-- a way -/
structure Wy (S : Type) where
  name : S
  start : S
  goal : S
  gain : Rat
  cost : Rat
variable {S : Type} [DecidableEq S]
/-- from a to b along the ways -/
def Walk (a : S) : List (Wy S) → S → Prop
  | [], b => a = b
  | w :: r, b => w.start = a ∧ Walk w.goal r b
def gainW : List (Wy S) → Rat
  | [] => 1
  | w :: r => w.gain * gainW r
/-- the places behind the first -/
abbrev goals (ws : List (Wy S)) : List S := ws.map (·.goal)
abbrev starts (ws : List (Wy S)) : List S := ws.map (·.start)
def names (ws : List (Wy S)) : List S := ws.map (·.name)
theorem walk_append {a c : S} : ∀ {us vs : List (Wy S)} , Walk a (us ++ vs) c ↔ ∃ b, Walk a us b ∧ Walk b vs c := by
  intro us
  induction us generalizing a with
  | nil => intro vs; simp [Walk]
  | cons u us ih =>
    intro vs
    simp only [List.cons_append, Walk, ih]
    constructor
    · rintro ⟨h, b, h1, h2⟩; exact ⟨b, ⟨h, h1⟩, h2⟩
    · rintro ⟨b, ⟨h, h1⟩, h2⟩; exact ⟨h, b, h1, h2⟩
theorem walk_snoc {a b : S} {us : List (Wy S)} {w : Wy S} (h : Walk a us b) (e : w.start = b) : Walk a (us ++ [w]) w.goal :=
  walk_append.mpr ⟨b, h, e, rfl⟩
theorem walk_end {a b c : S} : ∀ {us : List (Wy S)}, Walk a us b → Walk a us c → b = c := by
  intro us
  induction us generalizing a with
  | nil => intro h k; exact h.symm.trans k
  | cons u us ih => intro h k; exact ih h.2 k.2
theorem gainW_append (us vs : List (Wy S)) : gainW (us ++ vs) = gainW us * gainW vs := by
  induction us with
  | nil => simp only [List.nil_append, gainW]; grind
  | cons u us ih => simp only [List.cons_append, gainW, ih]; grind
theorem gainW_pos {us : List (Wy S)} (h : ∀ w ∈ us, 0 < w.gain) : 0 < gainW us := by
  induction us with
  | nil => show (0 : Rat) < 1; decide
  | cons u us ih =>
    exact Rat.mul_pos (h u List.mem_cons_self) (ih fun w hw => h w (List.mem_cons_of_mem _ hw))
theorem walk_last {a b : S} {us : List (Wy S)} (h : Walk a us b) : (a :: goals us).getLast? = some b := by
  induction us generalizing a with
  | nil => simp [goals, show a = b from h]
  | cons u us ih =>
    have := ih h.2
    simp only [goals, List.map_cons] at this ⊢
    rw [List.getLast?_cons_cons]; exact this

/-! ### plans as functions of the names -/
/-- what is brought to p by the plan f, less what is taken -/
def osum (ws : List (Wy S)) (f : S → Rat) (p : S) : Rat :=
  match ws with
  | [] => 0
  | w :: r => f w.name * ((if w.goal = p then w.gain else 0) - (if w.start = p then 1 else 0)) + osum r f p
def worthF (ws : List (Wy S)) (f : S → Rat) : Rat :=
  match ws with
  | [] => 0
  | w :: r => f w.name * w.cost + worthF r f
theorem osum_add (ws : List (Wy S)) (f g : S → Rat) (p : S) : osum ws (fun n => f n + g n) p = osum ws f p + osum ws g p := by
  induction ws with
  | nil => simp only [osum]; grind
  | cons w r ih => simp only [osum, ih]; grind
theorem osum_mul (ws : List (Wy S)) (f : S → Rat) (c : Rat) (p : S) : osum ws (fun n => c * f n) p = c * osum ws f p := by
  induction ws with
  | nil => simp only [osum]; grind
  | cons w r ih => simp only [osum, ih]; grind
theorem osum_zero (ws : List (Wy S)) (p : S) : osum ws (fun _ => 0) p = 0 := by
  induction ws with
  | nil => rfl
  | cons w r ih => simp only [osum, ih]; grind
theorem osum_congr {ws : List (Wy S)} {f g : S → Rat} {p : S} (h : ∀ w ∈ ws, f w.name = g w.name) : osum ws f p = osum ws g p := by
  induction ws with
  | nil => rfl
  | cons w r ih =>
    simp only [osum]
    rw [h w List.mem_cons_self, ih fun w hw => h w (List.mem_cons_of_mem _ hw)]
theorem osum_append (us vs : List (Wy S)) (f : S → Rat) (p : S) : osum (us ++ vs) f p = osum us f p + osum vs f p := by
  induction us with
  | nil => simp only [List.nil_append, osum]; grind
  | cons w r ih => simp only [List.cons_append, osum, ih]; grind
theorem worth_add (ws : List (Wy S)) (f g : S → Rat) : worthF ws (fun n => f n + g n) = worthF ws f + worthF ws g := by
  induction ws with
  | nil => simp only [worthF]; grind
  | cons w r ih => simp only [worthF, ih]; grind
theorem worth_zero (ws : List (Wy S)) : worthF ws (fun _ => 0) = 0 := by
  induction ws with
  | nil => rfl
  | cons w r ih => simp only [worthF, ih]; grind
theorem worth_congr {ws : List (Wy S)} {f g : S → Rat} (h : ∀ w ∈ ws, f w.name = g w.name) : worthF ws f = worthF ws g := by
  induction ws with
  | nil => rfl
  | cons w r ih =>
    simp only [worthF]
    rw [h w List.mem_cons_self, ih fun w hw => h w (List.mem_cons_of_mem _ hw)]
/-- one amount on one way -/
def one (n : S) (x : Rat) : S → Rat := fun m => if n = m then x else 0
theorem osum_one_out {ws : List (Wy S)} {n : S} {x : Rat} {p : S} (h : n ∉ names ws) : osum ws (one n x) p = 0 := by
  induction ws with
  | nil => rfl
  | cons w r ih =>
    have h1 : n ≠ w.name := fun e => h (by rw [e]; exact List.mem_cons_self)
    have h2 : n ∉ names r := fun k => h (List.mem_cons_of_mem _ k)
    simp only [osum, ih h2]
    simp only [one, if_neg h1]; grind
theorem osum_one {ws : List (Wy S)} {w : Wy S} {x : Rat} {p : S} (nd : (names ws).Nodup) (h : w ∈ ws) :
    osum ws (one w.name x) p = x * ((if w.goal = p then w.gain else 0) - (if w.start = p then 1 else 0)) := by
  induction ws with
  | nil => exact absurd h List.not_mem_nil
  | cons v r ih =>
    obtain ⟨n1, n2⟩ := List.nodup_cons.mp (show (v.name :: names r).Nodup from nd)
    rcases List.mem_cons.mp h with e | hr
    · subst e
      simp only [osum, osum_one_out (x := x) (p := p) n1]
      simp only [one, if_pos rfl]; grind
    · have hne : w.name ≠ v.name := fun e => n1 (by rw [← e]; exact List.mem_map.mpr ⟨w, hr, rfl⟩)
      simp only [osum, ih n2 hr]
      simp only [one, if_neg hne]; grind
/-- an amount sent along a walk -/
def sentF : List (Wy S) → Rat → S → Rat
  | [], _, _ => 0
  | w :: r, x, n => one w.name x n + sentF r (x * w.gain) n
theorem osum_sent {ws : List (Wy S)} (nd : (names ws).Nodup) {p : S} : ∀ {us : List (Wy S)} {a b : S} {x : Rat}, Walk a us b → (∀ w ∈ us, w ∈ ws) →
    osum ws (sentF us x) p = x * ((if b = p then gainW us else 0) - (if a = p then 1 else 0)) := by
  intro us
  induction us with
  | nil =>
    intro a b x h _
    have h : a = b := h
    subst h
    show osum ws (fun _ => 0) p = _
    rw [osum_zero]
    simp only [gainW]; grind
  | cons u us ih =>
    intro a b x h k
    obtain ⟨e, h⟩ := h
    show osum ws (fun n => one u.name x n + sentF us (x * u.gain) n) p = _
    rw [osum_add, osum_one nd (k u List.mem_cons_self), ih h fun w hw => k w (List.mem_cons_of_mem _ hw)]
    subst e
    simp only [gainW]
    split <;> split <;> split <;> grind
theorem sent_lin (us : List (Wy S)) (c x : Rat) (n : S) : sentF us (c * x) n = c * sentF us x n := by
  induction us generalizing x with
  | nil => simp only [sentF]; grind
  | cons u us ih =>
    simp only [sentF, one]
    rw [show c * x * u.gain = c * (x * u.gain) by grind, ih]
    split <;> grind
theorem sent_nonneg {us : List (Wy S)} {x : Rat} (h : 0 ≤ x) (hg : ∀ w ∈ us, 0 < w.gain) (n : S) : 0 ≤ sentF us x n := by
  induction us generalizing x with
  | nil => exact Rat.le_refl
  | cons u us ih =>
    simp only [sentF, one]
    have g := hg u List.mem_cons_self
    have := ih (x := x * u.gain) (Rat.mul_nonneg h (Rat.le_of_lt g)) fun w hw => hg w (List.mem_cons_of_mem _ hw)
    split <;> grind
theorem sent_pos {us : List (Wy S)} {x : Rat} (h : 0 < x) (hg : ∀ w ∈ us, 0 < w.gain) {n : S} (hn : n ∈ names us) : 0 < sentF us x n := by
  induction us generalizing x with
  | nil => exact absurd hn List.not_mem_nil
  | cons u us ih =>
    have g := hg u List.mem_cons_self
    have hx := Rat.mul_pos h g
    have k := sent_nonneg (us := us) (Rat.le_of_lt hx) (fun w hw => hg w (List.mem_cons_of_mem _ hw)) n
    simp only [sentF, one]
    rcases List.mem_cons.mp (show n ∈ u.name :: names us from hn) with e | hr
    · rw [if_pos e.symm]; grind
    · have := ih hx (fun w hw => hg w (List.mem_cons_of_mem _ hw)) hr
      split <;> grind
theorem sent_out {us : List (Wy S)} {x : Rat} {n : S} (hn : n ∉ names us) : sentF us x n = 0 := by
  induction us generalizing x with
  | nil => rfl
  | cons u us ih =>
    have h1 : u.name ≠ n := fun e => hn (by rw [← e]; exact List.mem_cons_self)
    simp only [sentF, one, if_neg h1]
    rw [ih fun k => hn (List.mem_cons_of_mem _ k)]; grind
/-! ### simple walks -/
/-- no place comes twice -/
def Simple (a : S) (us : List (Wy S)) : Prop := (a :: goals us).Nodup
/-- a ring at a -/
structure Ring (a : S) (us : List (Wy S)) : Prop where
  walk : Walk a us a
  ne : us ≠ []
  nd : (goals us).Nodup
theorem walk_starts {a b : S} {us : List (Wy S)} (h : Walk a us b) : starts us = (a :: goals us).take us.length := by
  induction us generalizing a with
  | nil => rfl
  | cons u us ih =>
    simp only [starts, goals, List.map_cons, List.length_cons, List.take_succ_cons]
    rw [h.1]
    have := ih h.2
    simp only [starts, goals] at this
    rw [this]
theorem walk_mem {a b p : S} {us : List (Wy S)} (h : Walk a us b) (hp : p ∈ a :: goals us) : p = b ∨ ∃ w ∈ us, w.start = p := by
  induction us generalizing a with
  | nil =>
    have h : a = b := h
    simp [goals] at hp
    exact .inl (hp.trans h)
  | cons u us ih =>
    rcases List.mem_cons.mp hp with e | hp
    · exact .inr ⟨u, List.mem_cons_self, h.1.trans e.symm⟩
    · rcases ih h.2 hp with k | ⟨w, hw, e⟩
      · exact .inl k
      · exact .inr ⟨w, List.mem_cons_of_mem _ hw, e⟩
end GM
end
section
/-! Plain mathematics, part C: the best walks round by round, rings, weights. -/
namespace GM
variable {S : Type} [DecidableEq S]
/-- x is better than y: greater where m, else less -/
def bt (m : Bool) (x y : Rat) : Prop := if m = true then y < x else x < y
instance (m : Bool) (x y : Rat) : Decidable (bt m x y) := by unfold bt; infer_instance
theorem bt_mul {m : Bool} {c x y : Rat} (h : 0 < c) : bt m (c * x) (c * y) ↔ bt m x y := by
  unfold bt
  cases m with
  | true => simp only [if_true]; exact Rat.mul_lt_mul_left h
  | false => simp only [Bool.false_eq_true, if_false]; exact Rat.mul_lt_mul_left h
theorem bt_irrefl {m : Bool} {x : Rat} : ¬ bt m x x := by
  unfold bt; cases m <;> simp <;> exact Rat.lt_irrefl
theorem bt_trans {m : Bool} {x y z : Rat} (h : bt m x y) (k : bt m y z) : bt m x z := by
  unfold bt at *; cases m <;> simp at * <;> grind
theorem bt_of_not {m : Bool} {x y z : Rat} (h : bt m x y) (k : ¬ bt m z y) : bt m x z := by
  unfold bt at *; cases m <;> simp at * <;> grind
theorem bt_of_not' {m : Bool} {x y z : Rat} (h : ¬ bt m y x) (k : bt m y z) : bt m x z := by
  unfold bt at *; cases m <;> simp at * <;> grind
theorem nbt_trans {m : Bool} {x y z : Rat} (h : ¬ bt m x y) (k : ¬ bt m y z) : ¬ bt m x z := by
  unfold bt at *; cases m <;> simp at * <;> grind
theorem bt_asymm {m : Bool} {x y : Rat} (h : bt m x y) : ¬ bt m y x := fun k => bt_irrefl (bt_trans h k)

abbrev Fd (S : Type) := S → Rat × List (Wy S)
def updF (F : Fd S) (p : S) (x : Rat × List (Wy S)) : Fd S := fun q => if q = p then x else F q
/-- one way looked at -/
def rstep (m : Bool) (F : Fd S) (acc : Fd S × Option S) (w : Wy S) : Fd S × Option S :=
  if bt m (w.gain * (F w.goal).1) (acc.1 w.start).1 then (updF acc.1 w.start (w.gain * (F w.goal).1, w :: (F w.goal).2), some w.start) else acc
def round (m : Bool) (F : Fd S) (ws : List (Wy S)) : Fd S × Option S := ws.foldl (rstep m F) (F, none)

/-- where the rounds stand: each place's walk is one of at most k ways, and none such is better -/
structure Best (m : Bool) (ws : List (Wy S)) (F : Fd S) (k : Nat) : Prop where
  walk : ∀ p, ∃ q, Walk p (F p).2 q
  sub : ∀ p, ∀ w ∈ (F p).2, w ∈ ws
  len : ∀ p, (F p).2.length ≤ k
  val : ∀ p, (F p).1 = gainW (F p).2
  opt : ∀ p us q, Walk p us q → (∀ w ∈ us, w ∈ ws) → us.length ≤ k → ¬ bt m (gainW us) (F p).1

theorem best_zero (m : Bool) (ws : List (Wy S)) : Best m ws (fun _ => (1, [])) 0 := by
  refine ⟨fun p => ⟨p, rfl⟩, (fun p w h => nomatch h), fun p => Nat.le_refl _, fun p => rfl, fun p us q h k l => ?_⟩
  cases us with
  | nil => exact bt_irrefl
  | cons u us => exact absurd l (by simp)

/-- what holds after some of the ways of a round -/
structure Mid (m : Bool) (F : Fd S) (L : Fd S) (b : Option S) (done : List (Wy S)) : Prop where
  form : ∀ p, L p = F p ∨ ∃ w ∈ done, w.start = p ∧ L p = (w.gain * (F w.goal).1, w :: (F w.goal).2)
  ge : ∀ p, ¬ bt m (F p).1 (L p).1
  opt : ∀ w ∈ done, ¬ bt m (w.gain * (F w.goal).1) (L w.start).1
  none : b = none → L = F
  some : ∀ p, b = some p → bt m (L p).1 (F p).1 ∧ p ∈ starts done
theorem mid_zero (m : Bool) (F : Fd S) : Mid m F F none [] :=
  ⟨fun _ => .inl rfl, fun _ => bt_irrefl, (fun _ h => nomatch h), fun _ => rfl, (fun _ h => nomatch h)⟩
theorem mid_step {m : Bool} {F : Fd S} {acc : Fd S × Option S} {done : List (Wy S)} (w : Wy S) (h : Mid m F acc.1 acc.2 done) : Mid m F (rstep m F acc w).1 (rstep m F acc w).2 (done ++ [w]) := by
  unfold rstep
  by_cases hb : bt m (w.gain * (F w.goal).1) (acc.1 w.start).1
  · rw [if_pos hb]
    refine ⟨fun p => ?_, fun p => ?_, fun v hv => ?_, (fun e => nomatch e), fun p e => ?_⟩
    · show updF acc.1 w.start (w.gain * (F w.goal).1, w :: (F w.goal).2) p = F p ∨ ∃ v ∈ done ++ [w], v.start = p ∧ updF acc.1 w.start (w.gain * (F w.goal).1, w :: (F w.goal).2) p = (v.gain * (F v.goal).1, v :: (F v.goal).2)
      unfold updF
      by_cases e : p = w.start
      · rw [if_pos e]; exact .inr ⟨w, by simp, e.symm, rfl⟩
      · rw [if_neg e]
        rcases h.form p with k | ⟨v, hv, k1, k2⟩
        · exact .inl k
        · exact .inr ⟨v, List.mem_append_left _ hv, k1, k2⟩
    · show ¬ bt m (F p).1 (updF acc.1 w.start _ p).1
      unfold updF
      by_cases e : p = w.start
      · rw [if_pos e, e]
        exact fun k => h.ge w.start (bt_trans k hb)
      · rw [if_neg e]; exact h.ge p
    · show ¬ bt m _ (updF acc.1 w.start _ v.start).1
      unfold updF
      rcases List.mem_append.mp hv with hv | hv
      · by_cases e : v.start = w.start
        · rw [if_pos e]
          have := h.opt v hv
          rw [e] at this
          exact fun k => this (bt_trans k hb)
        · rw [if_neg e]; exact h.opt v hv
      · have e : v = w := by simpa using hv
        subst e
        rw [if_pos rfl]; exact bt_irrefl
    · have e' : w.start = p := Option.some.inj e
      subst e'
      refine ⟨?_, by simp [starts]⟩
      show bt m (updF acc.1 w.start _ w.start).1 _
      unfold updF
      rw [if_pos rfl]
      exact bt_of_not hb (h.ge w.start)
  · rw [if_neg hb]
    refine ⟨fun p => ?_, h.ge, fun v hv => ?_, h.none, fun p e => ⟨(h.some p e).1, ?_⟩⟩
    · rcases h.form p with k | ⟨v, hv, k1, k2⟩
      · exact .inl k
      · exact .inr ⟨v, List.mem_append_left _ hv, k1, k2⟩
    · rcases List.mem_append.mp hv with hv | hv
      · exact h.opt v hv
      · have e : v = w := by simpa using hv
        subst e; exact hb
    · have := (h.some p e).2
      simp only [starts, List.map_append] at this ⊢
      exact List.mem_append_left _ this
theorem mid_fold {m : Bool} {F : Fd S} : ∀ (ws : List (Wy S)) {acc : Fd S × Option S} {done : List (Wy S)}, Mid m F acc.1 acc.2 done →
    Mid m F (ws.foldl (rstep m F) acc).1 (ws.foldl (rstep m F) acc).2 (done ++ ws) := by
  intro ws
  induction ws with
  | nil => intro acc done h; simpa using h
  | cons w ws ih =>
    intro acc done h
    have := ih (mid_step w h)
    simpa using this
theorem round_mid (m : Bool) (F : Fd S) (ws : List (Wy S)) : Mid m F (round m F ws).1 (round m F ws).2 ws := by
  have := mid_fold ws (acc := (F, none)) (mid_zero m F)
  rw [List.nil_append] at this
  exact this
theorem best_round {m : Bool} {F L : Fd S} {b : Option S} {ws : List (Wy S)} {k : Nat} (hg : ∀ w ∈ ws, 0 < w.gain) (B : Best m ws F k) (M : Mid m F L b ws) : Best m ws L (k + 1) := by
  refine ⟨fun p => ?_, fun p w hw => ?_, fun p => ?_, fun p => ?_, fun p us q h hs hl => ?_⟩
  · rcases M.form p with e | ⟨w, _, e1, e2⟩
    · rw [e]; exact B.walk p
    · rw [e2]
      obtain ⟨q, hq⟩ := B.walk w.goal
      exact ⟨q, e1, hq⟩
  · rcases M.form p with e | ⟨v, hv, _, e2⟩
    · rw [e] at hw; exact B.sub p w hw
    · rw [e2] at hw
      rcases List.mem_cons.mp hw with k | k
      · rw [k]; exact hv
      · exact B.sub _ w k
  · rcases M.form p with e | ⟨v, _, _, e2⟩
    · rw [e]; exact Nat.le_succ_of_le (B.len p)
    · rw [e2]; exact Nat.succ_le_succ (B.len v.goal)
  · rcases M.form p with e | ⟨v, _, _, e2⟩
    · rw [e]; exact B.val p
    · rw [e2]
      show v.gain * (F v.goal).1 = v.gain * gainW (F v.goal).2
      rw [B.val]
  · cases us with
    | nil =>
      have := B.opt p [] p rfl (fun w h => (nomatch h)) (Nat.zero_le _)
      exact fun h => this (bt_of_not h (M.ge p))
    | cons u us =>
      obtain ⟨e, h⟩ := h
      have hu := hs u List.mem_cons_self
      have a := B.opt u.goal us q h (fun w hw => hs w (List.mem_cons_of_mem _ hw)) (by simpa using hl)
      have c := M.opt u hu
      rw [e] at c
      have d : ¬ bt m (u.gain * gainW us) (u.gain * (F u.goal).1) := fun k => a ((bt_mul (hg u hu)).mp k)
      exact nbt_trans d c
/-- nothing bettered: the values are weights -/
theorem none_weights {m : Bool} {F L : Fd S} {ws : List (Wy S)} (M : Mid m F L none ws) : ∀ w ∈ ws, ¬ bt m (w.gain * (L w.goal).1) (L w.start).1 := fun w hw => by
  have := M.opt w hw
  rwa [← M.none rfl] at this

/-! ### a walk that comes to a place again -/
/-- the first place that comes again -/
theorem first_again' {α : Type} [DecidableEq α] : ∀ (n : Nat) {l : List α}, l.length = n → ¬ l.Nodup → ∃ i j, i < j ∧ j < l.length ∧ l[i]? = l[j]? ∧ (l.take j).Nodup := by
  intro n
  induction n with
  | zero =>
    intro l e h
    rw [List.length_eq_zero_iff.mp e] at h
    exact absurd List.nodup_nil h
  | succ n ih =>
    intro l0 e0 h
    have hne : l0 ≠ [] := fun e => by rw [e] at e0; exact absurd e0 (by simp)
    have hl0 := (List.dropLast_concat_getLast hne).symm
    generalize l0.getLast hne = x at hl0
    have e1 : l0.dropLast.length = n := by rw [List.length_dropLast, e0]; rfl
    generalize l0.dropLast = l at hl0 e1
    subst hl0
    have ih := ih e1
    by_cases hl : l.Nodup
    · have hx : x ∈ l := by
        apply Classical.byContradiction
        intro hx
        apply h
        rw [List.nodup_append]
        exact ⟨hl, by simp, fun a ha b hb => by simp at hb; rw [hb]; exact fun e => hx (e ▸ ha)⟩
      obtain ⟨i, hi, e⟩ := List.mem_iff_getElem.mp hx
      refine ⟨i, l.length, hi, by simp, ?_, by simpa using hl⟩
      rw [List.getElem?_append_left hi]
      simp [e, hi]
    · obtain ⟨i, j, h1, h2, h3, h4⟩ := ih hl
      refine ⟨i, j, h1, by simp; omega, ?_, ?_⟩
      · rw [List.getElem?_append_left (by omega), List.getElem?_append_left (by omega)]; exact h3
      · rw [List.take_append_of_le_length (by omega)]; exact h4
theorem first_again {α : Type} [DecidableEq α] {l : List α} (h : ¬ l.Nodup) : ∃ i j, i < j ∧ j < l.length ∧ l[i]? = l[j]? ∧ (l.take j).Nodup := first_again' _ rfl h
theorem pigeon {α : Type} [DecidableEq α] : ∀ {ps l : List α}, l.Nodup → (∀ x ∈ l, x ∈ ps) → l.length ≤ ps.length := by
  intro ps
  induction ps with
  | nil =>
    intro l _ h
    cases l with
    | nil => exact Nat.le_refl _
    | cons a l => exact absurd (h a List.mem_cons_self) List.not_mem_nil
  | cons p ps ih =>
    intro l nd h
    have h1 := ih (l := l.erase p) (nd.erase p) fun x hx => by
      have hx' := (nd.mem_erase_iff).mp hx
      rcases List.mem_cons.mp (h x hx'.2) with e | k
      · exact absurd e hx'.1
      · exact k
    by_cases hp : p ∈ l
    · rw [List.length_erase_of_mem hp] at h1
      simp; omega
    · rw [List.erase_of_not_mem hp] at h1
      simp; omega
theorem getLast_take {α : Type} (l : List α) (x : α) (j : Nat) (hj : j ≤ l.length) : ((x :: l).take (j + 1)).getLast? = (x :: l)[j]? := by
  rw [List.getLast?_take]
  simp only [Nat.add_one_sub_one, Nat.add_eq_zero_iff, Nat.succ_ne_self, and_false, if_false, List.length_cons]
  have : j < (x :: l).length := by simp; omega
  rw [List.getElem?_eq_getElem this]
  rfl
/-- the part of a walk between two places -/
theorem walk_at {a b : S} : ∀ {us : List (Wy S)} (j : Nat), Walk a us b → j ≤ us.length → ∃ c, (a :: goals us)[j]? = some c ∧ Walk a (us.take j) c ∧ Walk c (us.drop j) b := by
  intro us
  induction us generalizing a with
  | nil =>
    intro j h hj
    have : j = 0 := by simpa using hj
    subst this
    exact ⟨a, rfl, rfl, h⟩
  | cons u us ih =>
    intro j h hj
    cases j with
    | zero => exact ⟨a, rfl, rfl, h⟩
    | succ j =>
      obtain ⟨c, h1, h2, h3⟩ := ih (a := u.goal) j h.2 (by simpa using hj)
      exact ⟨c, h1, ⟨h.1, h2⟩, h3⟩
theorem goals_drop (us : List (Wy S)) (i : Nat) : goals (us.drop i) = (goals us).drop i := by simp [goals, List.map_drop]
theorem goals_take (us : List (Wy S)) (i : Nat) : goals (us.take i) = (goals us).take i := by simp [goals, List.map_take]
/-- the ring within a walk whose places come again: told by the two places' numbers -/
theorem ring_within {a b : S} {us : List (Wy S)} {i j : Nat} (h : Walk a us b) (hij : i < j) (hj : j < (a :: goals us).length) (he : (a :: goals us)[i]? = (a :: goals us)[j]?)
    (nd : ((a :: goals us).take j).Nodup) : ∃ c, Ring c ((us.take j).drop i) ∧ (a :: goals us)[i]? = some c ∧ Walk a (us.take i) c ∧ Walk c (us.drop j) b := by
  have hj' : j ≤ us.length := by simp [goals] at hj; omega
  obtain ⟨c, c1, c2, c3⟩ := walk_at j h hj'
  obtain ⟨d, d1, d2, d3⟩ := walk_at i c2 (by rw [List.length_take]; omega)
  have e1 : (a :: goals (us.take j))[i]? = (a :: goals us)[i]? := by
    cases i with
    | zero => rfl
    | succ i =>
      simp only [goals, List.map_take, List.getElem?_cons_succ]
      rw [List.getElem?_take_of_lt (by omega)]
  have dc : d = c := by
    rw [e1, he, c1] at d1
    exact (Option.some.inj d1).symm
  subst dc
  have lenr : ((us.take j).drop i).length = j - i := by rw [List.length_drop, List.length_take]; omega
  refine ⟨d, ⟨d3, fun e => ?_, ?_⟩, by rw [he]; exact c1, ?_, c3⟩
  · rw [e] at lenr; simp at lenr; omega
  · -- the goals of the ring are the places i + 1 .. j
    rw [goals_drop, goals_take]
    -- places i .. j - 1 are without a twin; the last place is the first
    have w := walk_starts (us := (us.take j).drop i) d3
    have key : ∀ (l : List S), l.length = j - i → l ≠ [] → (d :: l).take (j - i) = ((a :: goals us).take j).drop i → l.getLast? = some d → l.Nodup := by
      intro l hl hne ht hlast
      have hp : (d :: l).take (j - i) = d :: l.dropLast := by
        have : j - i = (l.length - 1) + 1 := by omega
        rw [this, List.take_succ_cons, ← List.dropLast_eq_take]
      rw [hp] at ht
      have nd2 : (d :: l.dropLast).Nodup := by
        rw [ht]; exact nd.sublist (List.drop_sublist _ _)
      obtain ⟨n1, n2⟩ := List.nodup_cons.mp nd2
      have hl2 : l = l.dropLast ++ [d] := by
        have h1 := (List.dropLast_concat_getLast hne).symm
        have h2 : l.getLast hne = d := by
          rw [List.getLast?_eq_some_getLast hne] at hlast
          exact Option.some.inj hlast
        rw [h2] at h1
        exact h1
      rw [hl2, List.nodup_append]
      exact ⟨n2, by simp, fun x hx y hy => by simp at hy; rw [hy]; exact fun e => n1 (e ▸ hx)⟩
    refine key _ ?_ ?_ ?_ ?_
    · rw [List.length_drop, List.length_take, List.length_map]; omega
    · intro e
      have : ((List.take j (goals us)).drop i).length = j - i := by rw [List.length_drop, List.length_take, List.length_map]; omega
      rw [e] at this; simp at this; omega
    · have g1 : (goals us).take j = goals (us.take j) := (goals_take us j).symm
      have g2 := w
      rw [lenr, goals_drop, goals_take] at g2
      rw [← g2]
      have g3 := walk_starts (us := us.take j) (a := a) c2
      have g4 : starts ((us.take j).drop i) = (starts (us.take j)).drop i := by simp [starts, List.map_drop]
      rw [g4, g3]
      congr 1
      rw [List.length_take, Nat.min_eq_left hj', goals_take]
      cases j with
      | zero => rfl
      | succ j =>
        rw [List.take_succ_cons, List.take_succ_cons, List.take_take]
        congr 2; omega
    · have := walk_last d3
      rw [goals_drop, goals_take] at this
      rw [← this]
      cases q : (List.drop i (List.take j (goals us))) with
      | nil =>
        have : ((List.take j (goals us)).drop i).length = j - i := by rw [List.length_drop, List.length_take, List.length_map]; omega
        rw [q] at this; simp at this; omega
      | cons x l => rw [List.getLast?_cons_cons]
  · have : (us.take j).take i = us.take i := by rw [List.take_take]; congr 1; omega
    rw [← this]; exact d2
/-- the n-th round still betters: the walk holds a ring that is better than 1 -/
theorem ring_better {m : Bool} {F L : Fd S} {ws : List (Wy S)} {n : Nat} {p : S} {i j : Nat} (hg : ∀ w ∈ ws, 0 < w.gain) (B : Best m ws F n) (B' : Best m ws L (n + 1)) (hb : bt m (L p).1 (F p).1)
    (hij : i < j) (hj : j < (p :: goals (L p).2).length) (he : (p :: goals (L p).2)[i]? = (p :: goals (L p).2)[j]?) (nd : ((p :: goals (L p).2).take j).Nodup) :
    ∃ c, Ring c (((L p).2.take j).drop i) ∧ bt m (gainW (((L p).2.take j).drop i)) 1 := by
  obtain ⟨q, hq⟩ := B'.walk p
  obtain ⟨c, R, _, w1, w2⟩ := ring_within hq hij hj he nd
  refine ⟨c, R, ?_⟩
  have hj' : j ≤ (L p).2.length := by simp [goals] at hj; omega
  have w3 : Walk p ((L p).2.take i ++ (L p).2.drop j) q := walk_append.mpr ⟨c, w1, w2⟩
  have sub : ∀ w ∈ (L p).2.take i ++ (L p).2.drop j, w ∈ ws := fun w hw => by
    rcases List.mem_append.mp hw with k | k
    · exact B'.sub p w (List.mem_of_mem_take k)
    · exact B'.sub p w (List.mem_of_mem_drop k)
  have hlen := B'.len p
  have o := B.opt p _ q w3 sub (by rw [List.length_append, List.length_take, List.length_drop]; omega)
  have split : (L p).2 = (L p).2.take i ++ (((L p).2.take j).drop i ++ (L p).2.drop j) := by
    have h1 : (L p).2.take i = ((L p).2.take j).take i := by rw [List.take_take]; congr 1; omega
    rw [h1, ← List.append_assoc, List.take_append_drop, List.take_append_drop]
  have gp : gainW (L p).2 = gainW (((L p).2.take j).drop i) * gainW ((L p).2.take i ++ (L p).2.drop j) := by
    conv => lhs; rw [split]
    rw [gainW_append, gainW_append, gainW_append]; grind
  have pos : 0 < gainW ((L p).2.take i ++ (L p).2.drop j) := gainW_pos fun w hw => hg w (sub w hw)
  rw [B'.val, gp] at hb
  have h2 := bt_of_not hb o
  rw [show gainW ((L p).2.take i ++ (L p).2.drop j) = gainW ((L p).2.take i ++ (L p).2.drop j) * 1 by grind] at h2
  rw [show gainW (((L p).2.take j).drop i) * (gainW ((L p).2.take i ++ (L p).2.drop j) * 1) = gainW ((L p).2.take i ++ (L p).2.drop j) * gainW (((L p).2.take j).drop i) by grind] at h2
  exact (bt_mul pos).mp h2
/-- there is such a pair of places -/
theorem again_of_long {m : Bool} {F L : Fd S} {ws : List (Wy S)} {n : Nat} {p : S} {ps : List S} (B : Best m ws F n) (B' : Best m ws L (n + 1)) (hb : bt m (L p).1 (F p).1) (hps : ps.length ≤ n + 1)
    (hp : p ∈ ps) (hw : ∀ w ∈ ws, w.goal ∈ ps) : ¬ (p :: goals (L p).2).Nodup := by
  intro nd
  have hsub : ∀ x ∈ p :: goals (L p).2, x ∈ ps := fun x hx => by
    rcases List.mem_cons.mp hx with e | k
    · rw [e]; exact hp
    · obtain ⟨w, hw', e⟩ := List.mem_map.mp k
      rw [← e]; exact hw w (B'.sub p w hw')
  have h1 := pigeon nd hsub
  simp [goals] at h1
  obtain ⟨q, hq⟩ := B'.walk p
  have o := B.opt p (L p).2 q hq (B'.sub p) (by omega)
  rw [B'.val] at hb
  exact o hb
end GM
end
section
set_option maxRecDepth 100000
set_option maxHeartbeats 2000000
/-! Rules that the hand layer lacked. -/
namespace GH
open PySem PySem.Spec PyProof.Rows L2
section
variable {X : Cx}
/-- // by any divisor of less than 9000 bits -/
def CDivZ (_ j : Int) : Prop := j ≠ 0 ∧ j.natAbs.log2 < 9000
theorem op_fdivZ : OpR X (binaryOp .FloorDiv) (rI CDivZ fun i j => .int (i.fdiv j)) := opI fun _ _ _ _ _ _ _ hc q => floordiv_int hc.1 q (.inl (PyProof.noPylong_of_log2 hc.2))
/-- text * int -/
theorem op_rep_str : OpR X (binaryOp .Mult) (fun x y H Q => ∃ z n, x = .str z ∧ y = .int n ∧ MulOk z n ∧ Q (.str (Txt.mul z n)) H) := by
  intro pins s σ H x y v u Q I rx ry h
  obtain ⟨z, n, ex, ey, ok, q⟩ := h
  subst ex ey
  obtain ⟨t, rfl⟩ := rx
  obtain ⟨t2, rfl⟩ := ry
  exact SB.mul ok fun t3 k => ⟨.str _, H, I.tok _, ⟨_, rfl⟩, q⟩
/-- o.m(..) where the class is told by the object itself -/
def tMethP (X : Cx) (m : Str) (ta : TE) (t : TA) : TE := fun σ H Q => ta σ H fun x H1 => ∃ (C f : Addr) (fd : FuncData) (k : Nat) (ps : List Str) (sp : Sp) (ds : List Value) (dvs : List V) (a dx : Addr) (fs : List (Str × V)),
  Cls X.K C ∧ Meth X.K C m f ∧ FnOk X.prog X.w X.K X.mg X.base CX0 k f fd ps sp ∧ Room k X.A ∧ Binds X.K fd ps ds ∧ Vals dvs ds ∧ x = .ref a ∧ H1 a = some (.ins C dx fs) ∧ fs.lookup m = none ∧
  t σ H1 fun vs H2 => sp (x :: (vs ++ dvs)) H2 Q E0
variable {m : Str} {p pos apos : Pos} {e o : Expr} {es : List Expr} {ta : TE} {t : TA}
theorem pe_methP {pl : Sem Bool} (he : PE X o ta) (ha : PA X (e :: es) t)
    (hst : starEach (e :: es) X.env = (false, eval e X.env) :: starEach es X.env := by rfl) (hpl : (backTo pos (starEach es X.env)).any (·.1) = false := by rfl)
    (ht : eval (.Call (.Attribute o m apos) (e :: es) [] pos) X.env = (do
      let ov ← eval o X.env
      standAt apos.atName
      let (g, fi) ← holding [ov] (getMethod ov m pl)
      callWith pos g fi (backTo pos (starEach (e :: es) X.env)) (backToKw pos (keywordEach [] X.env))) := by rfl) :
    PE X (.Call (.Attribute o m apos) (e :: es) [] pos) (tMethP X m ta t) := by
  refine ⟨fun pins s σ H Q I hq => ?_⟩
  refine PySem.W.methodCall_KW (pl := pl) (thn (he.run pins s σ H _ I hq) fun u s1 z => ?_) ht
  obtain ⟨x, H1, I1, rx, C, f, fd, k, ps, sp, ds, dvs, a, dx, fs, c, hm, F, hr, hb, hd, ex, ea, l, q⟩ := z
  subst ex
  obtain rfl : u = Value.ref a := rx
  refine getmeth_ok I1 ea c hm l (PySem.W.callWith_K (first := [.ref a]) (h₀ := X.base) I.ok.mod.kin hm.kp ?_ hst hpl)
  refine thn (ha.run pos pins s1 σ H1 _ I1 q) fun us s2 z => ?_
  obtain ⟨vs, H2, I2, r, q2⟩ := z
  exact ⟨I2.kIn, run_fn (us := .ref a :: us) (vs := .ref a :: vs) F hr hb hd pass0 I2 (.cons rfl r) q2⟩
theorem pe_methP0 {pl : Sem Bool} (he : PE X o ta)
    (ht : eval (.Call (.Attribute o m apos) [] [] pos) X.env = (do
      let ov ← eval o X.env
      standAt apos.atName
      let (g, fi) ← holding [ov] (getMethod ov m pl)
      callWith pos g fi (backTo pos (starEach [] X.env)) (backToKw pos (keywordEach [] X.env))) := by rfl) :
    PE X (.Call (.Attribute o m apos) [] [] pos) (tMethP X m ta tNil) := by
  refine ⟨fun pins s σ H Q I hq => ?_⟩
  refine PySem.W.methodCall_KW (pl := pl) (thn (he.run pins s σ H _ I hq) fun u s1 z => ?_) ht
  obtain ⟨x, H1, I1, rx, C, f, fd, k, ps, sp, ds, dvs, a, dx, fs, c, hm, F, hr, hb, hd, ex, ea, l, q⟩ := z
  subst ex
  obtain rfl : u = Value.ref a := rx
  exact getmeth_ok I1 ea c hm l (PySem.W.callWith_K0 (first := [.ref a]) I1.kIn hm.kp (run_fn (us := [.ref a]) (vs := [.ref a]) F hr hb hd pass0 I1 (.cons rfl .nil) q))
/-- C.m(..), m a def of the class at C, its first argument written too -/
def tClsF (C : Addr) (sp : Sp) (dvs : List V) (ta : TE) (t : TA) : TE := fun σ H Q => ta σ H fun x H1 => x = .ref C ∧ t σ H1 fun vs H2 => sp (vs ++ dvs) H2 Q E0
theorem pe_clsF {C f : Addr} {mc : Value} {k : Nat} {fd : FuncData} {ps : List Str} {sp : Sp} {ds : List Value} {dvs : List V} {pl : Sem Bool} (he : PE X o ta) (r : ClX.CRead X.K C mc) (c : ClX.CVal X.K C mc m (.ref f) (.ref f)) (hk : PySem.W.keepIn X.K (.ref f) = true)
    (F : FnOk X.prog X.w X.K X.mg X.base CX0 k f fd ps sp) (hr : Room k X.A) (hb : Binds X.K fd ps ds) (hd : Vals dvs ds) (ha : PA X (e :: es) t)
    (hst : starEach (e :: es) X.env = (false, eval e X.env) :: starEach es X.env := by rfl) (hpl : (backTo pos (starEach es X.env)).any (·.1) = false := by rfl)
    (ht : eval (.Call (.Attribute o m apos) (e :: es) [] pos) X.env = (do
      let ov ← eval o X.env
      standAt apos.atName
      let (g, fi) ← holding [ov] (getMethod ov m pl)
      callWith pos g fi (backTo pos (starEach (e :: es) X.env)) (backToKw pos (keywordEach [] X.env))) := by rfl) :
    PE X (.Call (.Attribute o m apos) (e :: es) [] pos) (tClsF C sp dvs ta t) := by
  refine ⟨fun pins s σ H Q I hq => ?_⟩
  refine PySem.W.methodCall_KW (pl := pl) (thn (he.run pins s σ H _ I hq) fun u s1 z => ?_) ht
  obtain ⟨x, H1, I1, rx, ex, q⟩ := z
  subst ex
  obtain rfl : u = Value.ref C := rx
  refine PySem.W.method_cls I1.kIn r.ga (ClX.getcval_ok I1 r c fun s2 I2 => PySem.W.callWith_K (first := []) (h₀ := X.base) I.ok.mod.kin hk ?_ hst hpl)
  refine thn (ha.run pos pins s2 σ H1 _ I2 q) fun us s3 z => ?_
  obtain ⟨vs, H2, I3, rv, q2⟩ := z
  exact ⟨I3.kIn, run_fn F hr hb hd pass0 I3 rv q2⟩
/-- list(d.values()) -/
def tListVals (td : TE) : TE := fun σ H Q => td σ H fun x H1 => ∃ (d : Addr) (kvs : List (Key × V)), x = .ref d ∧ Rd H1 d (.dK kvs) ∧ ∀ p, H1 p = none → Q (.ref p) (upd H1 p (.lst (kvs.map (·.2))))
theorem vals_at : ∀ {kvs : List (Key × V)} {vs : List (Key × Value)} {us : List Value}, KV kvs vs → us.length = vs.length → (∀ (j : Nat) (v : Value), us[j]? = some v → ∃ k, vs[j]? = some (k, v)) → Vals (kvs.map (·.2)) us
  | _, _, us, .nil, hl, _ => by
    cases us with
    | nil => exact .nil
    | cons u us => exact absurd hl (by simp)
  | _, _, us, .cons (l₁ := r1) (l₂ := r2) h t, hl, hv => by
    cases us with
    | nil => exact absurd hl (by simp)
    | cons u us =>
      obtain ⟨k, e⟩ := hv 0 u rfl
      have e2 := Option.some.inj e
      refine .cons ?_ (vals_at t (by simpa using hl) fun j v e => ?_)
      · have := h.2
        rw [e2] at this
        exact this
      · exact hv (j + 1) v e
theorem pe_listVals {od : Expr} {td : TE} {p p2 ap : Pos} (hc : X.calm = true) (hg : Gl X "list") (hm : X.mg "list" = none) (hd : PE X od td) (hbase : attributeBase od "values" X.env (eval od X.env) = eval od X.env := by rfl) (hline : (ap.endLine == p2.line) = true := by rfl)
    (na : starEach [.Call (.Attribute od "values" ap) [] [] p2] X.env = (false, eval (.Call (.Attribute od "values" ap) [] [] p2) X.env) :: starEach [] X.env := by rfl) :
    PE X (.Call (.Name "list" p) [.Call (.Attribute od "values" ap) [] [] p2] [] pos) (tListVals td) := by
  refine ⟨fun pins s σ H Q I hq => ?_⟩
  refine wpAny_Call_Name_kw (ld_blt I hg hm (by decide +kernel : bootBuiltins "list" = some (.type "list")) ?_)
  refine PyProof.Rows.callWith_type1 (PyProof.Rows.args_cons (wpAny_Call_method (T := "dict") (id := "dict.values") hbase rfl hline F.plainAttrs_dict F.slot_dict_values F.type_dict_values (thn (hd.run pins s σ H _ I hq) fun u s1 z => ?_)) na) na rfl
  obtain ⟨x, H1, I1, rx, d, kvs, ex, hdk, q⟩ := z
  subst ex
  obtain rfl : u = Value.ref d := rx
  obtain ⟨z, lo, vs, rel, dd⟩ := dk_rd I1.hok hdk
  obtain ⟨ep, hat⟩ := dd.dictAt
  refine ⟨dd.typeIs, dd.mapOf.noDict, ?_⟩
  have I2 : Inv X pins σ H1 { s1 with heap := s1.heap.push { cls := .type "dict_values", data := .fields #[.ref d] } } := I1.kept (t' := s1.toks) fun b ob q => Heap.get?_push_of_some _ q
  show wpAny _ _ (callWith p2 (.builtin "dict.values") [.ref d] [] []) _ X.xe s1
  refine method_meetsIn F.slot_dict_values F.entry_dict_values rfl (PySem.evalArgs_none ⟨rfl, dd.typeIs, F.args_dict_values_1 _, _, meets_dict_values (mixKind X.prog X.w) d lo, ⟨vs, dd⟩, ?_⟩)
  refine PyProof.Rows.args_nil ?_
  refine PySem.W.kdl_call (PySem.W.kdl_values (knd := mixKind X.prog X.w) (r := s1.heap.objs.size) (d := d) (kvs := vs) (ep := ep)) (I.ok.hd hc) ⟨⟨_, Heap.get?_push_size _ rfl, rfl, rfl⟩, hat.push _⟩ (by rw [← rel.length]; exact z) fun h3 tk acc c' hk hD hacc => ?_
  have hv : Vals (kvs.map (·.2)) acc.toList := vals_at rel (by rw [Array.length_toList]; exact hacc.1) fun j v e => hacc.2 j v (by rw [← Array.getElem?_toList]; exact e)
  exact ⟨.ref _, upd H1 _ (.lst (kvs.map (·.2))), I2.laid (t' := tk) hk (Nat.le_refl _) (show ObjOk X.prog X.w _ _ _ (.lst (kvs.map (·.2))) from ⟨by rw [List.length_map]; exact z, acc.toList, c', hv, by rw [Array.toArray_toList]; exact hD⟩), rfl, q _ (I2.hok.fresh (Nat.le_refl _))⟩
end
end GH
end
section
set_option maxRecDepth 100000
set_option maxHeartbeats 4000000
/-! len(set(texts)) -/
namespace GH
open PySem PySem.Spec PyProof.Rows L2
/-- each text once -/
def dstep (acc : List Str) (x : Str) : List Str := if acc.any (· == x) = true then acc else acc ++ [x]
def dl (l : List Str) : List Str := l.foldl dstep []
theorem dl_snoc (l : List Str) (x : Str) : dl (l ++ [x]) = dstep (dl l) x := by unfold dl; rw [List.foldl_append]; rfl
theorem any_iff {l : List Str} {x : Str} : l.any (· == x) = true ↔ x ∈ l := by
  rw [List.any_eq_true]
  constructor
  · intro z
    obtain ⟨y, hy, e⟩ := z
    rw [← eq_of_beq e]; exact hy
  · intro hx; exact ⟨x, hx, beq_self_eq_true x⟩
theorem dl_mem : ∀ (n : Nat) (l : List Str), l.length = n → ((dl l).Nodup ∧ ∀ x, x ∈ dl l ↔ x ∈ l) ∧ (dl l).length ≤ n := by
  intro n
  induction n with
  | zero =>
    intro l e
    rw [List.length_eq_zero_iff.mp e]
    exact ⟨⟨List.nodup_nil, fun x => Iff.rfl⟩, Nat.le_refl _⟩
  | succ n ih =>
    intro l0 e0
    have hne : l0 ≠ [] := fun e => by rw [e] at e0; exact absurd e0 (by simp)
    have hl0 := (List.dropLast_concat_getLast hne).symm
    generalize l0.getLast hne = x at hl0
    have e1 : l0.dropLast.length = n := by rw [List.length_dropLast, e0]; rfl
    generalize l0.dropLast = l at hl0 e1
    subst hl0
    obtain ⟨⟨h1, h2⟩, h3⟩ := ih l e1
    rw [dl_snoc]
    unfold dstep
    by_cases hx : (dl l).any (· == x) = true
    · rw [if_pos hx]
      have hx' := (h2 x).mp (any_iff.mp hx)
      refine ⟨⟨h1, fun y => ?_⟩, by omega⟩
      rw [h2, List.mem_append]
      constructor
      · exact fun k => .inl k
      · intro k
        rcases k with k | k
        · exact k
        · rw [List.mem_singleton.mp k]; exact hx'
    · rw [if_neg hx]
      have hx' : x ∉ dl l := fun k => hx (any_iff.mpr k)
      refine ⟨⟨?_, fun y => ?_⟩, by rw [List.length_append, List.length_singleton]; omega⟩
      · rw [List.nodup_append]
        exact ⟨h1, by simp, fun a ha b hb => by rw [List.mem_singleton.mp hb]; exact fun e => hx' (e ▸ ha)⟩
      · rw [List.mem_append, List.mem_append, h2]
theorem nodup_len {α : Type} [DecidableEq α] : ∀ {l k : List α}, l.Nodup → (∀ x ∈ l, x ∈ k) → l.length ≤ k.length := by
  intro l k
  induction k generalizing l with
  | nil =>
    intro _ h
    cases l with
    | nil => exact Nat.le_refl _
    | cons a l => exact absurd (h a List.mem_cons_self) List.not_mem_nil
  | cons p k ih =>
    intro nd h
    have h1 := ih (l := l.erase p) (nd.erase p) fun x hx => by
      have hx' := (nd.mem_erase_iff).mp hx
      rcases List.mem_cons.mp (h x hx'.2) with e | q
      · exact absurd e hx'.1
      · exact q
    by_cases hp : p ∈ l
    · rw [List.length_erase_of_mem hp] at h1
      simp; omega
    · rw [List.erase_of_not_mem hp] at h1
      simp; omega
theorem dl_len {l k : List Str} (hk : k.Nodup) (h : ∀ x, x ∈ l ↔ x ∈ k) : (dl l).length = k.length := by
  obtain ⟨⟨h1, h2⟩, _⟩ := dl_mem _ l rfl
  exact Nat.le_antisymm (nodup_len h1 fun x hx => (h x).mp ((h2 x).mp hx)) (nodup_len hk fun x hx => (h2 x).mpr ((h x).mpr hx))
theorem str_get : ∀ {us : List Value} {ns : List Str}, StrsAre us ns → ∀ (i : Nat) (v : Value), us[i]? = some v → ∃ t, v = .str (ns.getD i Str.empty) t
  | _, _, .nil, i, v, h => by simp at h
  | _, _, .cons n t r, 0, v, h => by simp at h; exact ⟨t, h ▸ rfl⟩
  | _, _, .cons n t r, i + 1, v, h => by
    simp only [List.getElem?_cons_succ] at h
    obtain ⟨k, e⟩ := str_get r i v h
    exact ⟨k, e ▸ rfl⟩
theorem take_one (xs : List Str) (i : Nat) (h : i < xs.length) : xs.take (i + 1) = xs.take i ++ [xs.getD i Str.empty] := by
  rw [List.take_add_one]
  congr 1
  rw [List.getElem?_eq_getElem h]
  simp [h]
theorem dl_any (xs : List Str) (i : Nat) (h : i < xs.length) (k : Str) : ((dl (xs.take i)).any (· == k) || decide (k = xs.getD i Str.empty)) = (dl (xs.take (i + 1))).any (· == k) := by
  rw [take_one xs i h, dl_snoc]
  unfold dstep
  split
  · rename_i q
    by_cases e : k = xs.getD i Str.empty
    · rw [e, q]; rfl
    · rw [decide_eq_false e, Bool.or_false]
  · rw [List.any_append]
    by_cases e : k = xs.getD i Str.empty
    · rw [e]; simp
    · have : (xs.getD i Str.empty == k) = false := beq_eq_false_iff_ne.mpr fun z => e z.symm
      simp only [List.any_cons, List.any_nil, this, Bool.or_false, decide_eq_false e]
theorem dl_size (xs : List Str) (i : Nat) (h : i < xs.length) : (if (dl (xs.take i)).any (· == xs.getD i Str.empty) = true then (dl (xs.take i)).length else (dl (xs.take i)).length + 1) = (dl (xs.take (i + 1))).length := by
  rw [take_one xs i h, dl_snoc]
  unfold dstep
  split
  · rfl
  · rw [List.length_append, List.length_singleton]
section
variable {prog : Program} {w : World} {A : Around} {R : Result → Shared → Prop} {J : Addr} {fp wr : List Addr} {G : Array GenState → Array GenState → Prop} {n : Nat} {Pv : Nat → Value → Prop} {St : Nat → Shared → Prop}
theorem set_loop (W : WalksS prog w A.in1 J fp wr G n Pv St) (S : Addr) (hSf : S ∉ fp) (xs : List Str) (hsz : xs.length = n) (hb : n + 1 < scanBound)
    (hval : ∀ i v, Pv i v → ∃ t, v = .str (xs.getD i Str.empty) t) : ∀ (k i : Nat) (z : Shared), n - i = k → i ≤ n → St i z →
      z.heap.SetOf (PySem.strKind prog w) S (fun q => (dl (xs.take i)).any (· == q)) (dl (xs.take i)).length →
      (∀ y, Moved (S :: wr) G z y → y.heap.SetOf (PySem.strKind prog w) S (fun q => (dl (xs.take n)).any (· == q)) (dl (xs.take n)).length → R (.ok (.ret .none)) y) →
      codeAny (model prog w) A (.builtin "set.update.loop" ⟨[.ref S, .ref J], []⟩) R z := by
  have nW : S ∉ wr := fun h => hSf (W.sub _ h)
  have sub2 : ∀ b ∈ wr, b ∈ S :: wr := fun b hb => List.mem_cons_of_mem _ hb
  have carry : ∀ {z y : Shared} {i : Nat}, Moved wr G z y → z.heap.SetOf (PySem.strKind prog w) S (fun q => (dl (xs.take i)).any (· == q)) (dl (xs.take i)).length →
      y.heap.SetOf (PySem.strKind prog w) S (fun q => (dl (xs.take i)).any (· == q)) (dl (xs.take i)).length := fun {z y i} hm hS => by
    obtain ⟨o, es, ep, t, ho, rest⟩ := hS
    exact ⟨o, es, ep, t, hm.heap S _ nW ho, rest⟩
  intro k
  induction k with
  | zero =>
    intro i z hk hi hst hS hR
    obtain rfl : i = n := by omega
    refine codeAny_builtin PyProof.Rows.F.entry_set_update_loop ?_
    rw [Around.under_plainId PyProof.Rows.F.plain_set_update_loop _]
    show wpAny _ A.in1 (pyNext (.ref J) >>= _) _ _ z
    refine wpAny_bind (W.done z _ _ hst fun y hm => ?_)
    show wpAny _ A.in1 (ret Value.none) _ _ y
    exact wpAny_pure (hR y (hm.mono sub2) (carry hm hS))
  | succ k ih =>
    intro i z hk hi hst hS hR
    have hlt : i < n := by omega
    have hlx : i < xs.length := by omega
    refine codeAny_builtin PyProof.Rows.F.entry_set_update_loop ?_
    rw [Around.under_plainId PyProof.Rows.F.plain_set_update_loop _]
    show wpAny _ A.in1 (pyNext (.ref J) >>= _) _ _ z
    refine wpAny_bind (W.item i z _ _ hlt hst fun v y hP hst2 hm => ?_)
    obtain ⟨t, rfl⟩ := hval i v hP
    have hS2 := carry hm hS
    show wpAny _ A.in1 (holding [Value.str (xs.getD i Str.empty) t] (setAdd S (.str (xs.getD i Str.empty) t)) >>= _) _ _ y
    refine wpAny_bind (wpAny_holding ?_)
    unfold setAdd
    refine wpAny_holding (wpAny_bind ((PySem.strKind prog w).pyHash (k := xs.getD i Str.empty) (strKind_is _ _ _ _) ?_))
    have room : (dl (xs.take i)).length + 1 < scanBound := by
      have := (dl_mem _ (xs.take i) rfl).2
      have := List.length_take_le i xs
      omega
    refine wpAny_setAddHashed_of (knd := PySem.strKind prog w) (s := { y with toks := y.toks + 1 }) (strKind_is _ _ _ _) rfl hS2 room fun g same hS3 => ?_
    have hS4 : g.SetOf (PySem.strKind prog w) S (fun q => (dl (xs.take (i + 1))).any (· == q)) (dl (xs.take (i + 1))).length := SetOf_congr hS3 (fun q => dl_any xs i hlx q) (dl_size xs i hlx)
    have oth : ∀ b o, b ≠ S → y.heap.get? b = some o → g.get? b = some o := fun b o hb e => (same.2 b hb).trans e
    refine wpAny_pure ⟨plainId_quiet PyProof.Rows.F.plain_set_update_loop _, ih (i + 1) _ (by omega) hlt (W.frame _ y _ _ hst2 (Nat.le_succ _) fun b hb o e => oth b o (fun q => hSf (q ▸ hb)) e) hS4 fun x2 hm2 hS5 => ?_⟩
    exact hR x2 (Moved.trans W.gtrans ((hm.mono sub2).then_heap (Nat.le_succ _) fun b o hb e => oth b o (fun q => hb (q ▸ List.mem_cons_self)) e) hm2) hS5
end
section
variable {prog : Program} {w : World} {A : Around} {E : Value → Shared → Prop} {s : Shared}
theorem set_of_texts {l : Addr} {items : Array Value} {xs : List Str} {Q : Value → Shared → Prop} (hh : A.handled = none) (hl : s.heap.IsList l items) (hi : PyProof.Rows.StrsAre items.toList xs) (hb : xs.length + 1 < scanBound)
    (h : ∀ (g : Heap) (tk : Nat), g.SetOf (PySem.strKind prog w) s.heap.objs.size (fun q => (dl xs).any (· == q)) (dl xs).length → (∀ b o, b < s.heap.objs.size → s.heap.get? b = some o → g.get? b = some o) → Q (.ref s.heap.objs.size) { s with heap := g, toks := tk }) :
    wpAny (model prog w) A (call (.type "set") [.ref l]) Q E s := by
  have hsz : xs.length = items.size := by rw [← StrsAre.len_eq hi, Array.length_toList]
  have etake : xs.take items.size = xs := by rw [← hsz, List.take_length]
  obtain ⟨c, tl, hmro⟩ := PySem.F.called_set.mro
  have a1 := PySem.F.called_set.made
  have a2 := PySem.F.called_set.sub
  refine wpAny_call (codeAny_of_tree ?_)
  show wpAny _ _ (callAny (.type "set") _) _ _ _
  refine wpAny_pure ⟨Code.quiet_builtin _ (by decide +kernel), codeAny_builtin PySem.F.entry_type_call ?_⟩
  rw [Around.under_plain (weight_type_call_type "set" [.ref l] []) rfl]
  have a3 := PySem.F.called_set.notType
  have a4 := PySem.F.called_set.canCreate
  have a5 := PySem.F.typeCall_set_1 (.ref l)
  repeat (any_goals (first | assumption | wp_step))
  let sob : Bool → Obj := fun led => { cls := .type "set", dict := none, data := .set #[] 0 (.fresh 0 0 led) }
  refine codeAny_mono (code_set_new_1 (.ref l) (E := E) (Q₁ := fun obj s₁ => ∃ led : Bool, obj = .ref s.heap.objs.size ∧ s₁ = { s with heap := s.heap.push (sob led) }) fun led => ⟨led, rfl, rfl⟩) fun r z hr => ?_
  cases r with
  | error e => exact hr
  | ok fl =>
    cases fl with
    | ret obj =>
      obtain ⟨led, rfl, rfl⟩ := hr
      have g0 : (s.heap.push (sob led)).get? s.heap.objs.size = some (sob led) := Heap.get?_push_size _ rfl
      have hT : Shared.TypeIs { s with heap := s.heap.push (sob led) } (.ref s.heap.objs.size) "set" := ⟨_, g0, rfl⟩
      have b1 := PySem.F.called_set.init.lookup
      have b2 := PySem.F.called_set.init.bind (.ref s.heap.objs.size)
      repeat (any_goals (first | assumption | wp_step))
      refine codeAny_mono (codeAny_call_builtin (R := wants (fun r y => r = .none ∧ ∃ g tk, y = { s with heap := g, toks := tk } ∧ g.SetOf (PySem.strKind prog w) s.heap.objs.size (fun q => (dl xs).any (· == q)) (dl xs).length ∧
          (∀ b o, b < s.heap.objs.size → s.heap.get? b = some o → g.get? b = some o)) E) PySem.F.called_set.init.plain PySem.F.entry_set_init (check_set_init_1 hT ?_)) fun r2 y hr2 => ?_
      · obtain ⟨ol, hol, hcl, nl, hdl⟩ := hl
        obtain ⟨c1, d1, t1, l1⟩ := ol
        simp only at hcl hdl
        subst hcl hdl
        have hol2 : (s.heap.push (sob led)).get? l = some { cls := .type "list", dict := d1, data := .seq items nl, slots := l1 } := Heap.get?_push_of_some _ hol
        have c2 := PySem.F.sub_list_set
        have c3 := PySem.F.sub_list_frozenset
        have c4 : (Value.type "list" == Value.type "dict") = false := by decide
        have hl1 : (s.heap.push (sob led)).IsList l items := ⟨_, hol2, rfl, nl, rfl⟩
        unfold Builtin.«set.__init__» noKeywords Builtin.Frozenset.updateFrom
        generalize hPI : pyIter = PI
        wp_walk
        subst hPI
        refine wpAny_pyIter_list hl1 (wpAny_bind (wpAny_runValue ?_))
        have lt1 : l < s.heap.objs.size := Heap.lt_size hol
        have hh3 : A.in1.in1.in1.handled = none := by simp [hh]
        have ne1 : l ≠ (s.heap.push (sob led)).objs.size := by rw [Heap.size_push]; exact Nat.ne_of_lt (Nat.lt_succ_of_lt lt1)
        have nf : s.heap.objs.size ∉ [(s.heap.push (sob led)).objs.size, l] := by
          rw [Heap.size_push]
          intro q
          rcases List.mem_cons.mp q with q | q
          · exact absurd q (Nat.ne_of_lt (Nat.lt_succ_self _))
          · exact absurd (List.mem_singleton.mp q) (Nat.ne_of_gt lt1)
        refine set_loop ((Walks.list hh3 _ l ne1 items).toS) s.heap.objs.size nf xs hsz (by rw [← hsz]; exact hb) (fun i v hv => str_get hi i v (by rw [Array.getElem?_toList]; exact hv)) (items.size - 0) 0 _ (by omega) (Nat.zero_le _)
          ⟨⟨_, Heap.get?_push_size _ rfl, rfl, rfl⟩, (hl1.push _)⟩ ?S0 ?RR
        case S0 => exact SetOf_congr ((setObjOf_fresh (knd := PySem.strKind prog w) led).setOf (Heap.get?_push_of_some _ g0) (by unfold scanBound; omega)) (fun _ => rfl) rfl
        case RR =>
          intro y hm hS
          obtain ⟨g, gs, dr, tk, os⟩ := y
          obtain rfl : gs = s.gens := hm.gens
          obtain rfl : dr = s.drawn := hm.drawn
          obtain rfl : os = s.os := hm.os
          rw [etake] at hS
          show wpAny _ _ _ _ _ _
          refine wpAny_pure ?_
          show wpAny _ _ (ret Value.none) _ _ _
          refine wpAny_pure ⟨rfl, g, tk, rfl, hS, fun b o hb e => ?_⟩
          refine hm.heap b o (fun q => ?_) (Heap.get?_push_of_some _ (Heap.get?_push_of_some _ e))
          rw [Heap.size_push] at q
          rcases List.mem_cons.mp q with q | q
          · exact absurd q (Nat.ne_of_lt hb)
          · exact absurd (List.mem_singleton.mp q) (Nat.ne_of_lt (Nat.lt_succ_of_lt hb))
      · cases r2 with
        | error e => exact hr2
        | ok f2 =>
          cases f2 with
          | ret r =>
            obtain ⟨rfl, g, tk, rfl, hS, hk⟩ := hr2
            repeat (any_goals (first | assumption | wp_step))
            exact h _ _ hS hk
          | _ => exact hr2.elim
    | _ => exact hr.elim
end
section
variable {X : Cx}
/-- len(set(xs)), xs a list of texts -/
def tLenS (K : PySem.W.Frag) (ta : TE) : TE := fun σ H Q => ta σ H fun x H1 => ∃ (l : Addr) (xs : List Str), x = .ref l ∧ SqL K H1 l (xs.map V.str) ∧ xs.length < 1000 ∧ Q (.int ((dl xs).length : Nat)) H1
theorem pe_lenS {a : Expr} {ta : TE} {p p2 q pos : Pos} (hc : X.calm = true) (hg : Gl X "len") (hm : X.mg "len" = none) (hg2 : Gl X "set") (hm2 : X.mg "set" = none) (ha : PE X a ta)
    (na : starEach [a] X.env = (false, eval a X.env) :: starEach [] X.env := by rfl) : PE X (.Call (.Name "len" p) [.Call (.Name "set" p2) [a] [] q] [] pos) (tLenS X.K ta) := by
  refine ⟨fun pins s σ H Q I hq => ?_⟩
  refine Call_ (ld_blt I hg hm boot_len (PyProof.Rows.callWith_builtin1 (PyProof.Rows.args_cons ?_ rfl) rfl rfl))
  refine Call_ (ld_blt I hg2 hm2 boot_set ?_)
  refine PyProof.Rows.callWith_type1 (PyProof.Rows.args_cons (thn (ha.run pins s σ H _ I hq) fun v s1 z => PyProof.Rows.args_nil ?_) na) na rfl
  obtain ⟨x, H1, I1, r1, l, xs, rfl, hl, hlen, q1⟩ := z
  cases r1
  obtain ⟨its, r, pl, hz⟩ := I1.list hl
  have hsb : scanBound = 4096 := by decide +kernel
  refine set_of_texts (I1.ok.hd hc) pl.isList (by simpa using strsAre_of r) (by rw [hsb]; omega) fun g tk hS hk => ?_
  refine PyProof.Rows.args_nil ?_
  obtain ⟨o, es, ep, t, ho, hex, hd, _, _, _, hf, hn⟩ := hS
  have I2 : Inv X pins σ H1 { s1 with heap := g, toks := tk } := I1.kept fun b o e => hk b o (Heap.lt_size e) e
  have hle := (dl_mem _ xs rfl).2
  refine call_len_set ho hex hd hf (by rw [hn] <;> omega) ⟨.int ((dl xs).length : Nat), H1, I2.tok _, ⟨_, by rw [hn]⟩, q1⟩
end
end GH
end
section
set_option maxRecDepth 100000
/-! The ghost heap: what is there for good. -/
namespace GH
open PySem PySem.Spec PyProof.Rows L2 GM
/-! ### the ghost heap grows -/
structure Ext (G H G' H' : Hp) : Prop where
  g : Same G G'
  h : Same H H'
  gh : Same G' H'
  new : ∀ b, G b = none → H b ≠ none → G' b = none
theorem Ext.refl {G H : Hp} (s : Same G H) : Ext G H G H := ⟨Same.refl G, Same.refl H, s, fun _ z _ => z⟩
theorem some_ne {H : Hp} {b : Addr} {o : HO} (h : H b = some o) : H b ≠ none := fun e => by rw [h] at e; cases e
theorem same_nn {H H' : Hp} (s : Same H H') {b : Addr} (h : H b ≠ none) : H' b ≠ none := by
  cases e : H b with
  | none => exact absurd e h
  | some o => exact some_ne (s b o e)
theorem Ext.trans {G H G1 H1 G2 H2 : Hp} (a : Ext G H G1 H1) (b : Ext G1 H1 G2 H2) : Ext G H G2 H2 :=
  ⟨a.g.trans b.g, a.h.trans b.h, b.gh, fun x z n => b.new x (a.new x z n) (same_nn a.h n)⟩
theorem upd_none {H : Hp} {a b : Addr} {o : HO} (h : b ≠ a) (z : H b = none) : upd H a o b = none := by rw [upd_ne h]; exact z
theorem same_new {H : Hp} {p : Addr} {o : HO} (h : H p = none) : Same H (upd H p o) := fun b u e => by
  rw [upd_ne (ne_of_none e h)]; exact e
theorem same_upd {G H : Hp} {p : Addr} {o : HO} (s : Same G H) : Same (upd G p o) (upd H p o) := fun b u e => by
  by_cases q : b = p
  · subst q; rw [upd_same] at e ⊢; exact e
  · rw [upd_ne q] at e ⊢; exact s b u e
/-- a new thing that stays as it is -/
theorem Ext.imm {G H : Hp} {p : Addr} {o : HO} (s : Same G H) (h : H p = none) : Ext G H (upd G p o) (upd H p o) :=
  ⟨same_new (Same.free s h), same_new h, same_upd s, fun b z n => upd_none (fun e => n (e ▸ h)) z⟩
/-- a new thing that will be changed -/
theorem Ext.tmp {G H : Hp} {p : Addr} {o : HO} (s : Same G H) (h : H p = none) : Ext G H G (upd H p o) :=
  ⟨Same.refl G, same_new h, s.trans (same_new h), fun _ z _ => z⟩
/-- it is changed -/
theorem Ext.wr {G H G' H' : Hp} {d : Addr} {o : HO} (e : Ext G H G' H') (hd : H d = none) (gd : G' d = none) : Ext G H G' (upd H' d o) :=
  ⟨e.g, fun b u q => by rw [upd_ne (ne_of_none q hd)]; exact e.h b u q, fun b u q => by rw [upd_ne (ne_of_none q gd)]; exact e.gh b u q, e.new⟩
/-- it is left as it is from now on -/
theorem Ext.frz {G H G' H' : Hp} {d : Addr} {o : HO} (e : Ext G H G' H') (s : Same G H) (hd : H d = none) (h : H' d = some o) : Ext G H (upd G' d o) H' := by
  refine ⟨fun b u q => ?_, e.h, fun b u q => ?_, fun b z n => upd_none (fun q => n (q ▸ hd)) (e.new b z n)⟩
  · have : b ≠ d := ne_of_none (s b u q) hd
    rw [upd_ne this]; exact e.g b u q
  · by_cases z : b = d
    · subst z; rw [upd_same] at q; rw [← q]; exact h
    · rw [upd_ne z] at q; exact e.gh b u q
/-- what the caller knows of a thing of its own -/
theorem Ext.keep {G H G' H' : Hp} {d : Addr} {o : HO} (e : Ext G H G' H') (gd : G d = none) (h : H d = some o) : G' d = none ∧ H' d = some o :=
  ⟨e.new d gd (some_ne h), e.h d o h⟩
theorem Ext.free {G H G' H' : Hp} {p : Addr} (e : Ext G H G' H') (h : H' p = none) : H p = none := Same.free e.h h

/-- .. but for the thing at d, which the callee has changed -/
structure ExtX (d : Addr) (G H G' H' : Hp) : Prop where
  g : Same G G'
  h : ∀ b o, b ≠ d → H b = some o → H' b = some o
  gh : Same G' H'
  new : ∀ b, G b = none → H b ≠ none → G' b = none
theorem Ext.x {d : Addr} {G H G' H' : Hp} (e : Ext G H G' H') : ExtX d G H G' H' := ⟨e.g, fun b o _ z => e.h b o z, e.gh, e.new⟩
theorem ExtX.up {d : Addr} {G0 H0 G H G' H' : Hp} (x : ExtX d G H G' H') (e : Ext G0 H0 G H) (hd : H0 d = none) : Ext G0 H0 G' H' :=
  ⟨e.g.trans x.g, fun b o z => x.h b o (ne_of_none z hd) (e.h b o z), x.gh, fun b z n => x.new b (e.new b z n) (same_nn e.h n)⟩
theorem ExtX.trans {d : Addr} {G H G1 H1 G2 H2 : Hp} (a : ExtX d G H G1 H1) (n : H d ≠ none → H1 d ≠ none) (b : Ext G1 H1 G2 H2) : ExtX d G H G2 H2 :=
  ⟨a.g.trans b.g, fun x o ne z => b.h x o (a.h x o ne z), b.gh, fun x z q => b.new x (a.new x z q) (by
    by_cases e : x = d
    · rw [e] at q ⊢; exact n q
    · cases k : H x with
      | none => exact absurd k q
      | some o => exact some_ne (a.h x o e k))⟩
theorem ExtX.wr {d : Addr} {G H G' H' : Hp} {o : HO} (e : ExtX d G H G' H') (gd : G' d = none) : ExtX d G H G' (upd H' d o) :=
  ⟨e.g, fun b u ne q => by rw [upd_ne ne]; exact e.h b u ne q, fun b u q => by rw [upd_ne (ne_of_none q gd)]; exact e.gh b u q, e.new⟩
theorem ExtX.keep {d : Addr} {G H G' H' : Hp} {b : Addr} {o : HO} (e : ExtX d G H G' H') (ne : b ≠ d) (gd : G b = none) (h : H b = some o) : G' b = none ∧ H' b = some o :=
  ⟨e.new b gd (some_ne h), e.h b o ne h⟩
theorem ExtX.free {d : Addr} {G H G' H' : Hp} {p : Addr} (e : ExtX d G H G' H') (ne : p ≠ d) (h : H' p = none) : H p = none := by
  cases k : H p with
  | none => rfl
  | some o => rw [e.h p o ne k] at h; cases h

/-! ### a dict that a loop has locked is still that dict -/
def core : HO → HO
  | .frz _ (.dK kvs) => .dK kvs
  | o => o
def Sm (G G' : Hp) : Prop := ∀ a o, G a = some o → ∃ o', G' a = some o' ∧ core o' = core o
theorem same_sm {G G' : Hp} (s : Same G G') : Sm G G' := fun a o e => ⟨o, s a o e, rfl⟩
theorem core_ins {o : HO} {C dx : Addr} {fs : List (Str × V)} (h : core o = .ins C dx fs) : o = .ins C dx fs := by
  unfold core at h; split at h <;> first | exact h | cases h
theorem core_lst {o : HO} {xs : List V} (h : core o = .lst xs) : o = .lst xs := by
  unfold core at h; split at h <;> first | exact h | cases h
theorem core_tup {o : HO} {xs : List V} (h : core o = .tup xs) : o = .tup xs := by
  unfold core at h; split at h <;> first | exact h | cases h
def DK (G : Hp) (a : Addr) (kvs : List (Key × V)) : Prop := ∃ o, G a = some o ∧ core o = .dK kvs
theorem DK.of {G : Hp} {a : Addr} {kvs : List (Key × V)} (h : G a = some (.dK kvs)) : DK G a kvs := ⟨_, h, rfl⟩
theorem DK.rd {G : Hp} {a : Addr} {kvs : List (Key × V)} (h : DK G a kvs) : Rd G a (.dK kvs) := by
  obtain ⟨o, h, e⟩ := h
  unfold core at e
  split at e
  · cases e; exact .inr ⟨_, h⟩
  · subst e; exact .inl h
theorem DK.sm {G G' : Hp} {a : Addr} {kvs : List (Key × V)} (s : Sm G G') (h : DK G a kvs) : DK G' a kvs := by
  obtain ⟨o, h, e⟩ := h
  obtain ⟨o', h', e'⟩ := s a o h
  exact ⟨o', h', e'.trans e⟩
theorem Sm.ins {G G' : Hp} {a C dx : Addr} {fs : List (Str × V)} (s : Sm G G') (h : G a = some (.ins C dx fs)) : G' a = some (.ins C dx fs) := by
  obtain ⟨o, h', e⟩ := s a _ h
  rw [core_ins e] at h'; exact h'
theorem Sm.lst {G G' : Hp} {a : Addr} {xs : List V} (s : Sm G G') (h : G a = some (.lst xs)) : G' a = some (.lst xs) := by
  obtain ⟨o, h', e⟩ := s a _ h
  rw [core_lst e] at h'; exact h'
theorem Sm.tup {G G' : Hp} {a : Addr} {xs : List V} (s : Sm G G') (h : G a = some (.tup xs)) : G' a = some (.tup xs) := by
  obtain ⟨o, h', e⟩ := s a _ h
  rw [core_tup e] at h'; exact h'
/-- a dict is locked, let go -/
theorem sm_lock {G : Hp} {d : Addr} {od : Obj} {kvs : List (Key × V)} (h : DK G d kvs ∨ G d = none) : Sm G (upd G d (.frz od (.dK kvs))) := fun a o e => by
  by_cases q : a = d
  · subst q
    rcases h with ⟨o', h, c⟩ | h
    · rw [h] at e; cases e
      exact ⟨_, upd_same, c.symm⟩
    · rw [h] at e; cases e
  · exact ⟨o, by rw [upd_ne q]; exact e, rfl⟩
theorem sm_open {G : Hp} {d : Addr} {kvs : List (Key × V)} (h : DK G d kvs ∨ G d = none) : Sm G (upd G d (.dK kvs)) := fun a o e => by
  by_cases q : a = d
  · subst q
    rcases h with ⟨o', h, c⟩ | h
    · rw [h] at e; cases e
      exact ⟨_, upd_same, c.symm⟩
    · rw [h] at e; cases e
  · exact ⟨o, by rw [upd_ne q]; exact e, rfl⟩

/-! ### things by their content -/
abbrev Rl (α : Type) := Hp → V → α → Prop
/-- R stays true -/
def Mono {α : Type} (R : Rl α) : Prop := ∀ {G G' : Hp} {v : V} {x : α}, Sm G G' → R G v x → R G' v x
def All2 {α : Type} (R : V → α → Prop) : List V → List α → Prop := Paired R
/-- a list of such -/
def LstAt {α : Type} (R : Rl α) : Rl (List α) := fun G v xs => ∃ a vs, v = .ref a ∧ G a = some (.lst vs) ∧ Paired (R G) vs xs
/-- a dict with text keys of such -/
def DctAt {α : Type} (R : Rl α) : Rl (List (Str × α)) := fun G v l => ∃ a kvs, v = .ref a ∧ DK G a kvs ∧ Paired (fun (kv : Key × V) p => kv.1 = .inr p.1 ∧ R G kv.2 p.2) kvs l
theorem Paired.imp {α β : Type} {F F' : α → β → Prop} (h : ∀ a b, F a b → F' a b) {l : List α} {r : List β} (p : Paired F l r) : Paired F' l r := Paired.mapP p h
theorem LstAt.mono {α : Type} {R : Rl α} (m : Mono R) : Mono (LstAt R) := fun {G G' v x} s h => by
  obtain ⟨a, vs, e, h1, h2⟩ := h
  exact ⟨a, vs, e, s.lst h1, Paired.imp (fun _ _ q => m s q) h2⟩
theorem DctAt.mono {α : Type} {R : Rl α} (m : Mono R) : Mono (DctAt R) := fun {G G' v x} s h => by
  obtain ⟨a, vs, e, h1, h2⟩ := h
  exact ⟨a, vs, e, h1.sm s, Paired.imp (fun _ _ q => ⟨q.1, m s q.2⟩) h2⟩
theorem LstAt.up {α : Type} {R : Rl α} {G G' : Hp} {v : V} {x : List α} (h : LstAt R G v x) (m : Mono R) (s : Sm G G') : LstAt R G' v x := LstAt.mono (R := R) m s h
theorem DctAt.up {α : Type} {R : Rl α} {G G' : Hp} {v : V} {x : List (Str × α)} (h : DctAt R G v x) (m : Mono R) (s : Sm G G') : DctAt R G' v x := DctAt.mono (R := R) m s h
/-- texts, ints as they are -/
def StrAt : Rl Str := fun _ v x => v = .str x
def IntAt : Rl Int := fun _ v x => v = .int x
theorem StrAt.mono : Mono StrAt := fun _ h => h
theorem IntAt.mono : Mono IntAt := fun _ h => h

/-! ### lists with keys -/
section
variable {α β : Type}
def lk (l : List (Str × α)) (k : Str) : Option α := (l.find? fun p => decide (p.1 = k)).map (·.2)
def put (l : List (Str × α)) (k : Str) (x : α) : List (Str × α) :=
  if (l.any fun p => decide (p.1 = k)) = true then l.map (fun p => if p.1 = k then (p.1, x) else p) else l ++ [(k, x)]
abbrev keys (l : List (Str × α)) : List Str := l.map (·.1)
theorem lk_nil {k : Str} : lk ([] : List (Str × α)) k = none := rfl
theorem lk_pos {p : Str × α} {r : List (Str × α)} {k : Str} (e : p.1 = k) : lk (p :: r) k = some p.2 := by simp [lk, List.find?_cons, e]
theorem lk_neg {p : Str × α} {r : List (Str × α)} {k : Str} (e : ¬ p.1 = k) : lk (p :: r) k = lk r k := by simp [lk, List.find?_cons, e]
theorem lk_mem {l : List (Str × α)} {k : Str} {x : α} (h : lk l k = some x) : (k, x) ∈ l := by
  induction l with
  | nil => cases h
  | cons p r ih =>
    by_cases e : p.1 = k
    · rw [lk_pos e] at h
      cases h
      rw [← e]; exact List.mem_cons_self
    · rw [lk_neg e] at h
      exact List.mem_cons_of_mem _ (ih h)
theorem lk_none {l : List (Str × α)} {k : Str} : lk l k = none ↔ k ∉ keys l := by
  induction l with
  | nil => simp [lk_nil]
  | cons p r ih =>
    by_cases e : p.1 = k
    · rw [lk_pos e]; simp [e]
    · rw [lk_neg e, ih]
      have e' : ¬ k = p.1 := fun z => e z.symm
      simp [e']
theorem lk_of_mem {l : List (Str × α)} {k : Str} {x : α} (nd : (keys l).Nodup) (h : (k, x) ∈ l) : lk l k = some x := by
  induction l with
  | nil => cases h
  | cons p r ih =>
    obtain ⟨n1, n2⟩ := List.nodup_cons.mp (show (p.1 :: keys r).Nodup from nd)
    rcases List.mem_cons.mp h with e | h
    · subst e; exact lk_pos rfl
    · have : ¬ p.1 = k := fun e => n1 (by rw [e]; exact List.mem_map.mpr ⟨(k, x), h, rfl⟩)
      rw [lk_neg this]; exact ih n2 h
theorem lk_some {l : List (Str × α)} {k : Str} (h : k ∈ keys l) : ∃ x, lk l k = some x := by
  cases e : lk l k with
  | none => exact absurd h (lk_none.mp e)
  | some x => exact ⟨x, rfl⟩
theorem any_lk (l : List (Str × α)) (k : Str) : (l.any fun p => decide (p.1 = k)) = (lk l k).isSome := by
  induction l with
  | nil => rfl
  | cons p r ih =>
    rw [List.any_cons]
    by_cases e : p.1 = k
    · rw [lk_pos e, decide_eq_true e]; rfl
    · rw [lk_neg e, decide_eq_false e, Bool.false_or, ih]
theorem put_old {l : List (Str × α)} {k : Str} {x : α} (h : k ∈ keys l) : put l k x = l.map (fun p => if p.1 = k then (p.1, x) else p) := by
  unfold put
  rw [any_lk]
  obtain ⟨y, e⟩ := lk_some h
  rw [e]; rfl
theorem put_new {l : List (Str × α)} {k : Str} {x : α} (h : k ∉ keys l) : put l k x = l ++ [(k, x)] := by
  unfold put
  rw [any_lk, lk_none.mpr h]; rfl
theorem lk_map {l : List (Str × α)} {k j : Str} {x : α} : lk (l.map (fun p => if p.1 = k then (p.1, x) else p)) j = if j = k then (lk l j).map (fun _ => x) else lk l j := by
  induction l with
  | nil => simp [lk_nil]
  | cons p r ih =>
    rw [List.map_cons]
    by_cases e : p.1 = k
    · rw [if_pos e]
      by_cases ej : p.1 = j
      · rw [lk_pos (by exact ej), lk_pos ej, if_pos (ej.symm.trans e)]; rfl
      · rw [lk_neg (by exact ej), lk_neg ej, ih]
    · rw [if_neg e]
      by_cases ej : p.1 = j
      · rw [lk_pos ej, if_neg (fun z => e (ej.trans z)), lk_pos ej]
      · rw [lk_neg ej, lk_neg ej, ih]
theorem lk_append {l r : List (Str × α)} {k : Str} : lk (l ++ r) k = (lk l k).or (lk r k) := by
  induction l with
  | nil => simp [lk_nil]
  | cons p l ih =>
    rw [List.cons_append]
    by_cases e : p.1 = k
    · rw [lk_pos e, lk_pos e]; rfl
    · rw [lk_neg e, lk_neg e, ih]
theorem lk_put {l : List (Str × α)} {k j : Str} {x : α} : lk (put l k x) j = if j = k then some x else lk l j := by
  by_cases h : k ∈ keys l
  · rw [put_old h, lk_map]
    by_cases e : j = k
    · rw [if_pos e, if_pos e]
      obtain ⟨y, q⟩ := lk_some h
      rw [e, q]; rfl
    · rw [if_neg e, if_neg e]
  · rw [put_new h, lk_append]
    by_cases e : j = k
    · rw [if_pos e, e, lk_none.mpr h, lk_pos rfl]; rfl
    · rw [if_neg e, lk_neg (fun z => e z.symm), lk_nil, Option.or_none]
theorem keys_put {l : List (Str × α)} {k : Str} {x : α} : keys (put l k x) = if k ∈ keys l then keys l else keys l ++ [k] := by
  by_cases h : k ∈ keys l
  · rw [if_pos h, put_old h]
    unfold keys
    rw [List.map_map]
    congr 1
    funext p
    show (if p.1 = k then (p.1, x) else p).1 = p.1
    split <;> rfl
  · rw [if_neg h, put_new h]
    unfold keys
    rw [List.map_append]; rfl
theorem nodup_put {l : List (Str × α)} {k : Str} {x : α} (nd : (keys l).Nodup) : (keys (put l k x)).Nodup := by
  rw [keys_put]
  split
  · exact nd
  · rename_i h
    rw [List.nodup_append]
    exact ⟨nd, by simp, fun a ha b hb => by rw [List.mem_singleton.mp hb]; exact fun e => h (e ▸ ha)⟩
theorem mem_put {l : List (Str × α)} {k : Str} {x : α} {p : Str × α} (h : p ∈ put l k x) : p = (k, x) ∨ (p ∈ l ∧ p.1 ≠ k) := by
  by_cases hk : k ∈ keys l
  · rw [put_old hk] at h
    obtain ⟨q, hq, e⟩ := List.mem_map.mp h
    by_cases z : q.1 = k
    · rw [if_pos z] at e; rw [← e, z]; exact .inl rfl
    · rw [if_neg z] at e; rw [← e]; exact .inr ⟨hq, z⟩
  · rw [put_new hk] at h
    rcases List.mem_append.mp h with h | h
    · exact .inr ⟨h, fun e => hk (e ▸ List.mem_map.mpr ⟨p, h, rfl⟩)⟩
    · exact .inl (List.mem_singleton.mp h)
theorem put_len {l : List (Str × α)} {k : Str} {x : α} : (put l k x).length ≤ l.length + 1 := by
  unfold put
  split <;> simp
/-- the pairs of a dict and what they stand for -/
abbrev KvR (R : V → α → Prop) : Key × V → Str × α → Prop := fun kv p => kv.1 = .inr p.1 ∧ R kv.2 p.2
theorem kv_look {R : V → α → Prop} {kvs : List (Key × V)} {l : List (Str × α)} (h : Paired (KvR R) kvs l) (k : Str) :
    (∀ x, lk l k = some x → ∃ v, valV kvs (.inr k) = some v ∧ R v x) ∧ (lk l k = none → valV kvs (.inr k) = none) := by
  induction h with
  | nil => exact ⟨fun x e => by simp [lk] at e, fun _ => rfl⟩
  | @cons p q r s hh t ih =>
    by_cases e : q.1 = k
    · have e' : p.1 = Sum.inr k := by rw [hh.1, e]
      refine ⟨fun x z => ?_, fun z => ?_⟩
      · rw [lk_pos e] at z; cases z
        exact ⟨p.2, valV_pos e', hh.2⟩
      · rw [lk_pos e] at z; cases z
    · have e' : ¬ p.1 = Sum.inr k := by rw [hh.1]; exact fun z => e (Sum.inr.inj z)
      rw [lk_neg e, valV_neg e']; exact ih
theorem kv_any {R : V → α → Prop} {kvs : List (Key × V)} {l : List (Str × α)} (h : Paired (KvR R) kvs l) (k : Str) : (valV kvs (.inr k)).isSome = (lk l k).isSome := by
  obtain ⟨h1, h2⟩ := kv_look h k
  cases e : lk l k with
  | none => rw [h2 e]; rfl
  | some x => obtain ⟨v, e', _⟩ := h1 x e; rw [e']; rfl
theorem paired_map {γ δ : Type} {F : α → β → Prop} {F' : γ → δ → Prop} {f : α → γ} {g : β → δ} (hh : ∀ a b, F a b → F' (f a) (g b)) {l : List α} {r : List β} (h : Paired F l r) : Paired F' (l.map f) (r.map g) := by
  induction h with
  | nil => exact .nil
  | cons a t ih => exact .cons (hh _ _ a) ih
theorem paired_append {F : α → β → Prop} {l l' : List α} {r r' : List β} (h : Paired F l r) (h' : Paired F l' r') : Paired F (l ++ l') (r ++ r') := by
  induction h with
  | nil => exact h'
  | cons a t ih => exact .cons a ih
theorem paired_len {F : α → β → Prop} {l : List α} {r : List β} (h : Paired F l r) : l.length = r.length := Paired.length h
theorem paired_get {F : α → β → Prop} {l : List α} {r : List β} (h : Paired F l r) : ∀ (i : Nat) (a : α), l[i]? = some a → ∃ b, r[i]? = some b ∧ F a b := by
  induction h with
  | nil => intro i a e; simp at e
  | cons a t ih =>
    intro i x e
    cases i with
    | zero => simp at e; subst e; exact ⟨_, rfl, a⟩
    | succ i => exact ih i x (by simpa using e)
theorem paired_get' {F : α → β → Prop} {l : List α} {r : List β} (h : Paired F l r) : ∀ (i : Nat) (b : β), r[i]? = some b → ∃ a, l[i]? = some a ∧ F a b := by
  induction h with
  | nil => intro i a e; simp at e
  | cons a t ih =>
    intro i x e
    cases i with
    | zero => simp at e; subst e; exact ⟨_, rfl, a⟩
    | succ i => exact ih i x (by simpa using e)
theorem kv_put {R : V → α → Prop} {kvs : List (Key × V)} {l : List (Str × α)} (h : Paired (KvR R) kvs l) {k : Str} {v : V} {x : α} (hv : R v x) : Paired (KvR R) (putK kvs (.inr k) v) (put l k x) := by
  unfold putK put
  rw [valV_any, any_lk, kv_any h k]
  by_cases e : (lk l k).isSome = true
  · rw [if_pos e, if_pos e]
    refine paired_map (fun a b q => ?_) h
    by_cases z : b.1 = k
    · rw [if_pos z, if_pos (by rw [q.1, z])]; exact ⟨q.1, hv⟩
    · rw [if_neg z, if_neg (by rw [q.1]; exact fun w => z (Sum.inr.inj w))]; exact q
  · rw [if_neg e, if_neg e]
    exact paired_append h (.cons ⟨rfl, hv⟩ .nil)
theorem kv_keys {R : V → α → Prop} {kvs : List (Key × V)} {l : List (Str × α)} (h : Paired (KvR R) kvs l) : (kvs.map fun kv => kV kv.1) = (keys l).map V.str := by
  induction h with
  | nil => rfl
  | cons a t ih =>
    rw [List.map_cons, ih, a.1]; rfl
theorem kv_vals {R : V → α → Prop} {kvs : List (Key × V)} {l : List (Str × α)} (h : Paired (KvR R) kvs l) : Paired R (kvs.map (·.2)) (l.map (·.2)) := paired_map (fun _ _ q => q.2) h
end
end GH
end
section
set_option maxRecDepth 100000
/-! Fractions. -/
namespace GH
open PySem PySem.Spec PyProof.Rows L2 GM
/-! ### the text by places -/
def topS (i : Nat) : Stmt := PySem.Challenge.pw_gainstream_k38_whole_ends_and_costs.main.body.getD i (.Pass ⟨0, 0, 0, 0⟩)
abbrev FnP (K : PySem.W.Frag) (x qual : Str) (st : Stmt) (f : Addr) (fd : FuncData) : Prop := FunD K x qual (defArgs st) (defBody st) (defScope st) [] [] f fd
abbrev FnD (K : PySem.W.Frag) (x qual : Str) (st : Stmt) (dvs : List V) (f : Addr) (fd : FuncData) : Prop := FunD K x qual (defArgs st) (defBody st) (defScope st) dvs [] f fd
/-! ### what may be called -/
section
variable (P : Program) (w : World) (K : PySem.W.Frag) (mg : Str → Option Value) (base : Heap)
/-- the module's def x keeps sp -/
def Fn (x : Str) (k : Nat) (ps : List Str) (dvs : List V) (sp : Sp) : Prop := ∃ f fd ds, FnOk P w K mg base CX0 k f fd ps sp ∧ mg x = some (.ref f) ∧ PySem.W.keepIn K (.ref f) = true ∧ Binds K fd ps ds ∧ Vals dvs ds
/-- the method m of the class at C -/
def Md (C : Addr) (m : Str) (k : Nat) (ps : List Str) (sp : Sp) : Prop := ∃ f fd, FnOk P w K mg base CX0 k f fd ps sp ∧ Meth K C m f ∧ Binds K fd ps []
/-- the class x at C is made by an __init__ that keeps sp -/
def Mkr (x : Str) (C : Addr) (k : Nat) (ps : List Str) (dvs : List V) (sp : Sp) : Prop := ∃ f fd ds, FnOk P w K mg base CX0 k f fd ps sp ∧ Mk K C f ∧ mg x = some (.ref C) ∧ Binds K fd ps ds ∧ Vals dvs ds
end
section
variable {X : Cx} {k : Nat} {C : Addr} {ps : List Str} {sp : Sp} {dvs : List V} {x m : Str} {p pos apos : Pos} {e o : Expr} {es : List Expr} {ta : TE} {t : TA}
theorem pe_fn (F : Fn X.prog X.w X.K X.mg X.base x k ps dvs sp) (hr : Room k X.A) (hg : Gl X x) (ha : PA X (e :: es) t) (hdb : (x == ("__debug__" : Str)) = false := by decide)
    (he : starEach (e :: es) X.env = (false, eval e X.env) :: starEach es X.env := by rfl) (hpl : (backTo pos (starEach es X.env)).any (·.1) = false := by rfl) : PE X (.Call (.Name x p) (e :: es) [] pos) (tCall sp dvs E0 t) := by
  obtain ⟨f, fd, ds, F, hm, hk, hb, hd⟩ := F
  exact pe_call F hr hg hm hk hb hd pass0 ha hdb he hpl
theorem pe_mk (F : Mkr X.prog X.w X.K X.mg X.base x C k ps dvs sp) (hr : Room (k + 1) X.A) (hg : Gl X x) (ha : PA X (e :: es) t) (hdb : (x == ("__debug__" : Str)) = false := by decide)
    (he : starEach (e :: es) X.env = (false, eval e X.env) :: starEach es X.env := by rfl) (hpl : (backTo pos (starEach es X.env)).any (·.1) = false := by rfl) : PE X (.Call (.Name x p) (e :: es) [] pos) (tMake C sp dvs E0 t) := by
  obtain ⟨f, fd, ds, F, M, hm, hb, hd⟩ := F
  exact pe_make M F hr hg hm hb hd pass0 ha hdb he hpl
theorem pe_md {pl : Sem Bool} (c : Cls X.K C) (F : Md X.prog X.w X.K X.mg X.base C m k ps sp) (hr : Room k X.A) (he : PE X o ta) (ha : PA X (e :: es) t)
    (hst : starEach (e :: es) X.env = (false, eval e X.env) :: starEach es X.env := by rfl) (hpl : (backTo pos (starEach es X.env)).any (·.1) = false := by rfl)
    (ht : eval (.Call (.Attribute o m apos) (e :: es) [] pos) X.env = (do
      let ov ← eval o X.env
      standAt apos.atName
      let (g, fi) ← holding [ov] (getMethod ov m pl)
      callWith pos g fi (backTo pos (starEach (e :: es) X.env)) (backToKw pos (keywordEach [] X.env))) := by rfl) : PE X (.Call (.Attribute o m apos) (e :: es) [] pos) (tMeth C m sp [] E0 ta t) := by
  obtain ⟨f, fd, F, M, hb⟩ := F
  exact pe_meth (pl := pl) he c M F hr hb .nil pass0 ha hst hpl ht
theorem pe_md0 {pl : Sem Bool} (c : Cls X.K C) (F : Md X.prog X.w X.K X.mg X.base C m k ps sp) (hr : Room k X.A) (he : PE X o ta)
    (ht : eval (.Call (.Attribute o m apos) [] [] pos) X.env = (do
      let ov ← eval o X.env
      standAt apos.atName
      let (g, fi) ← holding [ov] (getMethod ov m pl)
      callWith pos g fi (backTo pos (starEach [] X.env)) (backToKw pos (keywordEach [] X.env))) := by rfl) : PE X (.Call (.Attribute o m apos) [] [] pos) (tMeth C m sp [] E0 ta tNil) := by
  obtain ⟨f, fd, F, M, hb⟩ := F
  exact pe_meth0 (pl := pl) he c M F hr hb .nil pass0 ht
end
/-! ### fields and methods, told by facts -/
def FldOk (K : PySem.W.Frag) (H : Hp) (x : V) (f : Str) (u : V) : Prop := ∃ a C dx fs, x = .ref a ∧ H a = some (.ins C dx fs) ∧ Cls K C ∧ NoAttr K C f ∧ fs.lookup f = some u
def InsOk (H : Hp) (x : V) (C : Addr) (m : Str) : Prop := ∃ a dx fs, x = .ref a ∧ H a = some (.ins C dx fs) ∧ fs.lookup m = none
def tF (K : PySem.W.Frag) (ta : TE) (f : Str) : TE := fun σ H Q => ta σ H fun x H1 => ∃ u, FldOk K H1 x f u ∧ Q u H1
def tM (C : Addr) (m : Str) (sp : Sp) (ta : TE) (t : TA) : TE := fun σ H Q => ta σ H fun x H1 => InsOk H1 x C m ∧ t σ H1 fun vs H2 => sp (x :: vs) H2 Q E0
section
variable {X : Cx} {k : Nat} {C : Addr} {ps : List Str} {sp : Sp} {m f : Str} {p pos apos : Pos} {e o : Expr} {es : List Expr} {ta : TE} {t : TA}
theorem pe_f (he : PE X e ta) (hb : attributeBase e f X.env (eval e X.env) = eval e X.env := by rfl) : PE X (.Attribute e f pos) (tF X.K ta f) := by
  refine ⟨fun pins s σ H Q I h => ?_⟩
  refine attr_of hb (thn (he.run pins s σ H _ I h) fun u s1 z => ?_)
  obtain ⟨x, H1, I1, rx, v, ⟨a, C, dx, fs, ex, ea, c, n, l⟩, q⟩ := z
  subst ex
  obtain rfl : u = Value.ref a := rx
  exact getattr_ok I1 ea c n l fun u2 s2 I2 ru => ⟨v, H1, I2, ru, q⟩
theorem pe_m {pl : Sem Bool} (c : Cls X.K C) (F : Md X.prog X.w X.K X.mg X.base C m k ps sp) (hr : Room k X.A) (he : PE X o ta) (ha : PA X (e :: es) t)
    (hst : starEach (e :: es) X.env = (false, eval e X.env) :: starEach es X.env := by rfl) (hpl : (backTo pos (starEach es X.env)).any (·.1) = false := by rfl)
    (ht : eval (.Call (.Attribute o m apos) (e :: es) [] pos) X.env = (do
      let ov ← eval o X.env
      standAt apos.atName
      let (g, fi) ← holding [ov] (getMethod ov m pl)
      callWith pos g fi (backTo pos (starEach (e :: es) X.env)) (backToKw pos (keywordEach [] X.env))) := by rfl) : PE X (.Call (.Attribute o m apos) (e :: es) [] pos) (tM C m sp ta t) := by
  obtain ⟨f, fd, F, M, hb⟩ := F
  refine ⟨fun pins s σ H Q I hq => ?_⟩
  refine PySem.W.methodCall_KW (pl := pl) (thn (he.run pins s σ H _ I hq) fun u s1 z => ?_) ht
  obtain ⟨x, H1, I1, rx, ⟨a, dx, fs, ex, ea, l⟩, q⟩ := z
  subst ex
  obtain rfl : u = Value.ref a := rx
  refine getmeth_ok I1 ea c M l (PySem.W.callWith_K (first := [.ref a]) (h₀ := X.base) I.ok.mod.kin M.kp ?_ hst hpl)
  refine thn (ha.run pos pins s1 σ H1 _ I1 q) fun us s2 z => ?_
  obtain ⟨vs, H2, I2, r, q2⟩ := z
  exact ⟨I2.kIn, run_fn (us := .ref a :: us) (vs := .ref a :: vs) (dvs := []) F hr hb .nil pass0 I2 (.cons rfl r) (by rw [List.append_nil]; exact q2)⟩
theorem pe_m0 {pl : Sem Bool} (c : Cls X.K C) (F : Md X.prog X.w X.K X.mg X.base C m k ps sp) (hr : Room k X.A) (he : PE X o ta)
    (ht : eval (.Call (.Attribute o m apos) [] [] pos) X.env = (do
      let ov ← eval o X.env
      standAt apos.atName
      let (g, fi) ← holding [ov] (getMethod ov m pl)
      callWith pos g fi (backTo pos (starEach [] X.env)) (backToKw pos (keywordEach [] X.env))) := by rfl) : PE X (.Call (.Attribute o m apos) [] [] pos) (tM C m sp ta tNil) := by
  obtain ⟨f, fd, F, M, hb⟩ := F
  refine ⟨fun pins s σ H Q I hq => ?_⟩
  refine PySem.W.methodCall_KW (pl := pl) (thn (he.run pins s σ H _ I hq) fun u s1 z => ?_) ht
  obtain ⟨x, H1, I1, rx, ⟨a, dx, fs, ex, ea, l⟩, q⟩ := z
  subst ex
  obtain rfl : u = Value.ref a := rx
  exact getmeth_ok I1 ea c M l (PySem.W.callWith_K0 (first := [.ref a]) I1.kIn M.kp (run_fn (us := [.ref a]) (vs := [.ref a]) (dvs := []) F hr hb .nil pass0 I1 (.cons rfl .nil) q))
end
/-! ### the classes -/
structure Cl where
  F : Addr
  W : Addr
  G : Addr
  L : Addr
  S : Addr
  N : Addr
/-- a class of ways -/
structure WCls (K : PySem.W.Frag) (C : Addr) : Prop where
  cl : Cls K C
  nName : NoAttr K C "name"
  nStart : NoAttr K C "start"
  nGoal : NoAttr K C "goal"
  nHigh : NoAttr K C "high"
  nCost : NoAttr K C "cost"
/-- what of the text the walk asks of the classes and names -/
structure Txt (K : PySem.W.Frag) (mg : Str → Option Value) (c : Cl) : Prop where
  clF : Cls K c.F
  nTop : NoAttr K c.F "top"
  nBot : NoAttr K c.F "bottom"
  cW : WCls K c.W
  cG : WCls K c.G
  cL : WCls K c.L
  nRate : NoAttr K c.G "rate"
  nLoss : NoAttr K c.L "loss"
  gW : mg "Way" = some (.ref c.W)
  /-- Way.__init__, read off the class -/
  rW : ∃ mc fW, ClX.CRead K c.W mc ∧ ClX.CVal K c.W mc "__init__" (.ref fW) (.ref fW) ∧ PySem.W.keepIn K (.ref fW) = true ∧ PySem.W.findIn K (.ref c.W) "__init__" = some (some (.ref fW))
  clN : Cls K c.N
  nKW : NoAttr K c.N "kept_wants"
  nKY : NoAttr K c.N "kept_ways"
  gS : mg "Store" = some (.ref c.S)
  gF : mg "Fraction" = some (.ref c.F)
  abs : mg "abs" = none
  len : mg "len" = none
  list : mg "list" = none
  dict : mg "dict" = none
  set : mg "set" = none
  range : mg "range" = none
  isi : mg "isinstance" = none
  int : mg "int" = none
  bool : mg "bool" = none
  mPl : ∃ t, mg "MOST_PLACES" = some (.int 12 t)
  mWy : ∃ t, mg "MOST_WAYS" = some (.int 24 t)
  /-- the kinds of instances that isinstance asks for -/
  tyW : ∀ {H : Hp} {a dx : Addr} {fs : List (Str × V)}, H a = some (.ins c.W dx fs) → TyOf K H (.ref a) (.ref c.W)
  tyG : ∀ {H : Hp} {a dx : Addr} {fs : List (Str × V)}, H a = some (.ins c.G dx fs) → TyOf K H (.ref a) (.ref c.G)
  tyL : ∀ {H : Hp} {a dx : Addr} {fs : List (Str × V)}, H a = some (.ins c.L dx fs) → TyOf K H (.ref a) (.ref c.L)
  tyF : ∀ {H : Hp} {a dx : Addr} {fs : List (Str × V)}, H a = some (.ins c.F dx fs) → TyOf K H (.ref a) (.ref c.F)
  kWS : PySem.W.kitOne K (.ref c.W) (.ref c.S) = some false
  kGS : PySem.W.kitOne K (.ref c.G) (.ref c.S) = some false
  kLS : PySem.W.kitOne K (.ref c.L) (.ref c.S) = some false
  kFF : PySem.W.kitOne K (.ref c.F) (.ref c.F) = some true
  kII : PySem.W.kitOne K (.type "int") (.type "int") = some true
  kIB : PySem.W.kitOne K (.type "int") (.type "bool") = some false
/-! ### a Fraction -/
def ff (n d : Int) : List (Str × V) := putF "bottom" (.int d) (putF "top" (.int n) [])
theorem ne_tb : ¬ (("top" : Str) = "bottom") := by decide +kernel
theorem ff_top (n d : Int) : (ff n d).lookup ("top" : Str) = some (.int n) := by
  unfold ff
  rw [lookup_putF, if_neg ne_tb, lookup_putF, if_pos rfl]
theorem ff_bot (n d : Int) : (ff n d).lookup ("bottom" : Str) = some (.int d) := by
  unfold ff
  rw [lookup_putF, if_pos rfl]
theorem ff_no (n d : Int) {m : Str} (h1 : ¬ m = "bottom") (h2 : ¬ m = "top") : (ff n d).lookup m = none := by
  unfold ff
  rw [lookup_putF, if_neg h1, lookup_putF, if_neg h2]
  all_goals rfl
def Fr (c : Cl) : Rl Rat := fun G v q => ∃ a dx, v = .ref a ∧ G a = some (.ins c.F dx (ff q.num q.den))
theorem Fr.mono {c : Cl} : Mono (Fr c) := fun {G G' v q} s h => by
  obtain ⟨a, dx, e, h⟩ := h
  exact ⟨a, dx, e, s.ins h⟩
theorem Fr.eq {c : Cl} {G : Hp} {v : V} {a b : Rat} (h : Fr c G v a) (e : a = b) : Fr c G v b := e ▸ h
theorem Fr.same {c : Cl} {G H : Hp} {v : V} {q : Rat} (s : Same G H) (h : Fr c G v q) : Fr c H v q := Fr.mono (same_sm s) h
section
variable {K : PySem.W.Frag} {mg : Str → Option Value} {c : Cl} {G H : Hp} {v : V} {q : Rat} {Q : VK}
theorem Fr.top (h : Fr c G v q) (T : Txt K mg c) (s : Same G H) : FldOk K H v "top" (.int q.num) := by
  obtain ⟨a, dx, e, h⟩ := h
  exact ⟨a, c.F, dx, _, e, s _ _ h, T.clF, T.nTop, ff_top _ _⟩
theorem Fr.bot (h : Fr c G v q) (T : Txt K mg c) (s : Same G H) : FldOk K H v "bottom" (.int q.den) := by
  obtain ⟨a, dx, e, h⟩ := h
  exact ⟨a, c.F, dx, _, e, s _ _ h, T.clF, T.nBot, ff_bot _ _⟩
theorem Fr.ins (h : Fr c G v q) (s : Same G H) {m : Str} (h1 : ¬ m = "bottom" := by decide +kernel) (h2 : ¬ m = "top" := by decide +kernel) : InsOk H v c.F m := by
  obtain ⟨a, dx, e, h⟩ := h
  exact ⟨a, dx, _, e, s _ _ h, ff_no _ _ h1 h2⟩
end
/-! ### the greatest divisor -/
abbrev sDiv : Stmt := topS 12
def spDiv : Sp := fun vs H Q _ => ∃ a b : Int, vs = [.int a, .int b] ∧ Q (.int (Int.gcd a b : Nat)) H
section
variable {P : Program} {w : World} {K : PySem.W.Frag} {mg : Str → Option Value} {base : Heap} {c : Cl} {f : Addr} {fd : FuncData}
theorem abs_nn (i : Int) : (if i < 0 then -i else i) = (i.natAbs : Int) := by split <;> omega
theorem scDiv : FnScope ["one", "other", "rest"] ["one", "other"] (defScope sDiv) := ⟨rfl, rfl, rfl, by decide +kernel, rfl, by decide +kernel, by decide +kernel⟩
theorem ok_div (F : FnP K "divisor" "divisor" sDiv f fd) (T : Txt K mg c) : FnOk P w K mg base CX0 1 f fd ["one", "other"] spDiv := by
  refine F.ok scDiv (fun vs H Q E h => ?_) (fun cdv A outer s H vs Q E hr h => ?_)
  · obtain ⟨a, b, rfl, _⟩ := h
    rfl
  · obtain ⟨a, b, rfl, q⟩ := h
    refine ⟨_, PSs.nox (pss_cons (ps_set (i := 0) scDiv.nd rfl (Or.inl rfl) (pe_callB call_abs (by rfl) T.abs (by decide +kernel) (pa_cons (pv 0) pa_nil)))
      (pss_cons (ps_set (i := 1) scDiv.nd rfl (Or.inl rfl) (pe_callB call_abs (by rfl) T.abs (by decide +kernel) (pa_cons (pv 1) pa_nil)))
      (pss_cons (ps_while PassesOwn.never (pt_cmpR op_ne (pv 1) pe_int (nomark _))
        (pss_cons (ps_set (i := 2) scDiv.nd rfl (Or.inl rfl) (pe_op op_modN (pv 0) (pv 1)))
        (pss_cons (ps_set (i := 0) scDiv.nd rfl (Or.inl rfl) (pv 1)) (pss_one (ps_set (i := 1) scDiv.nd rfl (Or.inl rfl) (pv 2))))))
      (pss_one (ps_ret (pv 0)))))), ?_⟩
    refine ⟨_, rfl, _, rfl, _, rfl, _, rfl, ?_⟩
    refine while_by (fun σ H' => H' = H ∧ ∃ (x y : Nat) (r : Option V), σ = [some (.int x), some (.int y), r] ∧ Nat.gcd x y = Int.gcd a b) (fun σ H' => match σ with | [_, some (.int y), _] => y.toNat | _ => 0)
      ⟨rfl, a.natAbs, b.natAbs, none, by simp only [abs_nn]; rfl, rfl⟩ ?_ ?_
    · rintro σ H' ⟨rfl, x, y, r, rfl, hg⟩
      refine ⟨_, rfl, rfl, _, rfl, ?_⟩
      by_cases hy : y = 0
      · subst hy
        have e : (!decide (V.int ((0 : Nat) : Int) = V.int 0)) = false := by decide
        rw [e]
        refine iteF ⟨_, rfl, ?_⟩
        rw [← hg, Nat.gcd_zero_right] at q
        exact q
      · have e : (!decide (V.int ((y : Nat) : Int) = V.int 0)) = true := by
          have : ¬ V.int ((y : Nat) : Int) = V.int 0 := fun z => by injection z with z; omega
          rw [decide_eq_false this]; rfl
        rw [e]
        refine iteT ⟨_, rfl, _, rfl, _, _, rfl, rfl, (by omega), _, rfl, _, rfl, ?_⟩
        have em : Int.fmod (x : Int) (y : Int) = ((x % y : Nat) : Int) := by rw [Int.fmod_eq_emod_of_nonneg _ (by omega)]; rfl
        refine ⟨⟨rfl, y, x % y, some (.int (Int.fmod x y)), ?_, ?_⟩, ?_⟩
        · simp only [List.set, em]
        · rw [Nat.gcd_comm y, ← Nat.gcd_rec, Nat.gcd_comm, hg]
        · show (Int.fmod x y).toNat < ((y : Nat) : Int).toNat
          rw [em]
          have := Nat.mod_lt x (Nat.pos_of_ne_zero hy)
          omega
    · intro σ H' Q1 Q2 himp h
      obtain ⟨v, h1, h2, k, h3, h4⟩ := h
      exact ⟨v, h1, h2, k, h3, himp _ _ h4⟩
end
end GH
end
section
set_option maxRecDepth 100000
set_option maxHeartbeats 0
/-! The head: each def, the facts, the Hook. -/
namespace GH
open PySem PySem.Spec PyProof.Rows L2
def looseN0 : List Str := ["_wall", "GainError", "NoNumber", "TooMany", "NoStrand", "NoWay", "Broken", "Twice", "NoPlace", "OverBound", "divisor", "Fraction", "total", "amount", "strangers", "own_sums", "refuse_strangers", "sums", "worth", "together", "scaled", "walk_ways", "places_of", "gain_of", "is_path", "is_ring", "sent", "better_gain", "one_round", "first_ring"]
def looseN1 : List Str := ["looked_for", "making", "eating", "even_ways", "going_on", "even_ring", "is_walk", "ring_by_side", "joined_up", "is_road", "is_strand", "strand_plan", "in_use", "paths_from", "out_of", "one_strand", "least_limit", "taken_apart", "Way", "Growing", "Leaking", "Store", "MOST_PLACES", "MOST_WAYS", "wants_of", "ways_of", "Net", "_law_cell_at", "_law_names", "_law_gain"]
def looseN2 : List Str := ["_law_factor", "_law_way", "_law_cost", "_law_net", "_law_plus", "_law_times", "_law_ways", "_law_free_ways", "_law_ring", "_law_strand", "_law_strands", "_law_product", "_law_send", "_law_planned", "_law_due", "_law_brought", "_law_whole", "_law_told", "_law_as_plan", "_law_same", "_law_above", "_law_ends_right", "_law_costs_right"]
def looseN : List Str := looseN0 ++ looseN1 ++ looseN2
def g_divisor : He.DefD := ⟨("divisor", none), "divisor", "divisor", defArgs (topS 12), defBody (topS 12), defScope (topS 12), [], []⟩
def g_total : He.DefD := ⟨("total", none), "total", "total", defArgs (topS 14), defBody (topS 14), defScope (topS 14), [], []⟩
def g_amount : He.DefD := ⟨("amount", none), "amount", "amount", defArgs (topS 16), defBody (topS 16), defScope (topS 16), [], []⟩
def g_strangers : He.DefD := ⟨("strangers", none), "strangers", "strangers", defArgs (topS 17), defBody (topS 17), defScope (topS 17), [], []⟩
def g_own_sums : He.DefD := ⟨("own_sums", none), "own_sums", "own_sums", defArgs (topS 18), defBody (topS 18), defScope (topS 18), [], []⟩
def g_refuse_strangers : He.DefD := ⟨("refuse_strangers", none), "refuse_strangers", "refuse_strangers", defArgs (topS 19), defBody (topS 19), defScope (topS 19), [], []⟩
def g_sums : He.DefD := ⟨("sums", none), "sums", "sums", defArgs (topS 20), defBody (topS 20), defScope (topS 20), [], []⟩
def g_worth : He.DefD := ⟨("worth", none), "worth", "worth", defArgs (topS 21), defBody (topS 21), defScope (topS 21), [], []⟩
def g_together : He.DefD := ⟨("together", none), "together", "together", defArgs (topS 22), defBody (topS 22), defScope (topS 22), [], []⟩
def g_scaled : He.DefD := ⟨("scaled", none), "scaled", "scaled", defArgs (topS 23), defBody (topS 23), defScope (topS 23), [], []⟩
def g_walk_ways : He.DefD := ⟨("walk_ways", none), "walk_ways", "walk_ways", defArgs (topS 25), defBody (topS 25), defScope (topS 25), [], []⟩
def g_places_of : He.DefD := ⟨("places_of", none), "places_of", "places_of", defArgs (topS 26), defBody (topS 26), defScope (topS 26), [], []⟩
def g_gain_of : He.DefD := ⟨("gain_of", none), "gain_of", "gain_of", defArgs (topS 27), defBody (topS 27), defScope (topS 27), [], []⟩
def g_is_path : He.DefD := ⟨("is_path", none), "is_path", "is_path", defArgs (topS 28), defBody (topS 28), defScope (topS 28), [], []⟩
def g_is_ring : He.DefD := ⟨("is_ring", none), "is_ring", "is_ring", defArgs (topS 29), defBody (topS 29), defScope (topS 29), [], []⟩
def g_sent : He.DefD := ⟨("sent", none), "sent", "sent", defArgs (topS 30), defBody (topS 30), defScope (topS 30), [], []⟩
def g_better_gain : He.DefD := ⟨("better_gain", none), "better_gain", "better_gain", defArgs (topS 32), defBody (topS 32), defScope (topS 32), [], []⟩
def g_one_round : He.DefD := ⟨("one_round", none), "one_round", "one_round", defArgs (topS 33), defBody (topS 33), defScope (topS 33), [], []⟩
def g_first_ring : He.DefD := ⟨("first_ring", none), "first_ring", "first_ring", defArgs (topS 34), defBody (topS 34), defScope (topS 34), [], []⟩
def g_looked_for : He.DefD := ⟨("looked_for", none), "looked_for", "looked_for", defArgs (topS 35), defBody (topS 35), defScope (topS 35), [], []⟩
def g_making : He.DefD := ⟨("making", none), "making", "making", defArgs (topS 36), defBody (topS 36), defScope (topS 36), [], []⟩
def g_eating : He.DefD := ⟨("eating", none), "eating", "eating", defArgs (topS 37), defBody (topS 37), defScope (topS 37), [], []⟩
def g_even_ways : He.DefD := ⟨("even_ways", none), "even_ways", "even_ways", defArgs (topS 38), defBody (topS 38), defScope (topS 38), [], []⟩
def g_going_on : He.DefD := ⟨("going_on", none), "going_on", "going_on", defArgs (topS 39), defBody (topS 39), defScope (topS 39), [], []⟩
def g_even_ring : He.DefD := ⟨("even_ring", none), "even_ring", "even_ring", defArgs (topS 40), defBody (topS 40), defScope (topS 40), [], []⟩
def g_is_walk : He.DefD := ⟨("is_walk", none), "is_walk", "is_walk", defArgs (topS 42), defBody (topS 42), defScope (topS 42), [], []⟩
def g_ring_by_side : He.DefD := ⟨("ring_by_side", none), "ring_by_side", "ring_by_side", defArgs (topS 43), defBody (topS 43), defScope (topS 43), [], []⟩
def g_joined_up : He.DefD := ⟨("joined_up", none), "joined_up", "joined_up", defArgs (topS 44), defBody (topS 44), defScope (topS 44), [], []⟩
def g_is_road : He.DefD := ⟨("is_road", none), "is_road", "is_road", defArgs (topS 45), defBody (topS 45), defScope (topS 45), [], []⟩
def g_is_strand : He.DefD := ⟨("is_strand", none), "is_strand", "is_strand", defArgs (topS 46), defBody (topS 46), defScope (topS 46), [], []⟩
def g_strand_plan : He.DefD := ⟨("strand_plan", none), "strand_plan", "strand_plan", defArgs (topS 47), defBody (topS 47), defScope (topS 47), [], []⟩
def g_in_use : He.DefD := ⟨("in_use", none), "in_use", "in_use", defArgs (topS 49), defBody (topS 49), defScope (topS 49), [], []⟩
def g_paths_from : He.DefD := ⟨("paths_from", none), "paths_from", "paths_from", defArgs (topS 50), defBody (topS 50), defScope (topS 50), [], []⟩
def g_out_of : He.DefD := ⟨("out_of", none), "out_of", "out_of", defArgs (topS 51), defBody (topS 51), defScope (topS 51), [], []⟩
def g_one_strand : He.DefD := ⟨("one_strand", none), "one_strand", "one_strand", defArgs (topS 52), defBody (topS 52), defScope (topS 52), [], []⟩
def g_least_limit : He.DefD := ⟨("least_limit", none), "least_limit", "least_limit", defArgs (topS 53), defBody (topS 53), defScope (topS 53), [], []⟩
def g_taken_apart : He.DefD := ⟨("taken_apart", none), "taken_apart", "taken_apart", defArgs (topS 54), defBody (topS 54), defScope (topS 54), [], []⟩
def g_wants_of : He.DefD := ⟨("wants_of", none), "wants_of", "wants_of", defArgs (topS 63), defBody (topS 63), defScope (topS 63), [], []⟩
def g_ways_of : He.DefD := ⟨("ways_of", none), "ways_of", "ways_of", defArgs (topS 64), defBody (topS 64), defScope (topS 64), [], []⟩
def g__law_cell_at : He.DefD := ⟨("_law_cell_at", none), "_law_cell_at", "_law_cell_at", defArgs (topS 67), defBody (topS 67), defScope (topS 67), [], []⟩
def g__law_names : He.DefD := ⟨("_law_names", none), "_law_names", "_law_names", defArgs (topS 68), defBody (topS 68), defScope (topS 68), [], []⟩
def g__law_gain : He.DefD := ⟨("_law_gain", none), "_law_gain", "_law_gain", defArgs (topS 69), defBody (topS 69), defScope (topS 69), [], []⟩
def g__law_factor : He.DefD := ⟨("_law_factor", none), "_law_factor", "_law_factor", defArgs (topS 70), defBody (topS 70), defScope (topS 70), [], []⟩
def g__law_way : He.DefD := ⟨("_law_way", none), "_law_way", "_law_way", defArgs (topS 71), defBody (topS 71), defScope (topS 71), [], []⟩
def g__law_cost : He.DefD := ⟨("_law_cost", none), "_law_cost", "_law_cost", defArgs (topS 72), defBody (topS 72), defScope (topS 72), [], []⟩
def g__law_net : He.DefD := ⟨("_law_net", none), "_law_net", "_law_net", defArgs (topS 73), defBody (topS 73), defScope (topS 73), [], []⟩
def g__law_plus : He.DefD := ⟨("_law_plus", none), "_law_plus", "_law_plus", defArgs (topS 74), defBody (topS 74), defScope (topS 74), [], []⟩
def g__law_times : He.DefD := ⟨("_law_times", none), "_law_times", "_law_times", defArgs (topS 75), defBody (topS 75), defScope (topS 75), [], []⟩
def g__law_ways : He.DefD := ⟨("_law_ways", none), "_law_ways", "_law_ways", defArgs (topS 76), defBody (topS 76), defScope (topS 76), [], []⟩
def g__law_free_ways : He.DefD := ⟨("_law_free_ways", none), "_law_free_ways", "_law_free_ways", defArgs (topS 77), defBody (topS 77), defScope (topS 77), [], []⟩
def g__law_ring : He.DefD := ⟨("_law_ring", none), "_law_ring", "_law_ring", defArgs (topS 78), defBody (topS 78), defScope (topS 78), [], []⟩
def g__law_strand : He.DefD := ⟨("_law_strand", none), "_law_strand", "_law_strand", defArgs (topS 79), defBody (topS 79), defScope (topS 79), [], []⟩
def g__law_strands : He.DefD := ⟨("_law_strands", none), "_law_strands", "_law_strands", defArgs (topS 80), defBody (topS 80), defScope (topS 80), [], []⟩
def g__law_product : He.DefD := ⟨("_law_product", none), "_law_product", "_law_product", defArgs (topS 81), defBody (topS 81), defScope (topS 81), [], []⟩
def g__law_send : He.DefD := ⟨("_law_send", none), "_law_send", "_law_send", defArgs (topS 82), defBody (topS 82), defScope (topS 82), [], []⟩
def g__law_planned : He.DefD := ⟨("_law_planned", none), "_law_planned", "_law_planned", defArgs (topS 83), defBody (topS 83), defScope (topS 83), [], []⟩
def g__law_due : He.DefD := ⟨("_law_due", none), "_law_due", "_law_due", defArgs (topS 84), defBody (topS 84), defScope (topS 84), [], []⟩
def g__law_brought : He.DefD := ⟨("_law_brought", none), "_law_brought", "_law_brought", defArgs (topS 85), defBody (topS 85), defScope (topS 85), [], []⟩
def g__law_whole : He.DefD := ⟨("_law_whole", none), "_law_whole", "_law_whole", defArgs (topS 86), defBody (topS 86), defScope (topS 86), [], []⟩
def g__law_told : He.DefD := ⟨("_law_told", none), "_law_told", "_law_told", defArgs (topS 87), defBody (topS 87), defScope (topS 87), [], []⟩
def g__law_as_plan : He.DefD := ⟨("_law_as_plan", none), "_law_as_plan", "_law_as_plan", defArgs (topS 88), defBody (topS 88), defScope (topS 88), [], []⟩
def g__law_same : He.DefD := ⟨("_law_same", none), "_law_same", "_law_same", defArgs (topS 89), defBody (topS 89), defScope (topS 89), [], []⟩
def g__law_above : He.DefD := ⟨("_law_above", none), "_law_above", "_law_above", defArgs (topS 90), defBody (topS 90), defScope (topS 90), [], []⟩
def g__law_ends_right : He.DefD := ⟨("_law_ends_right", none), "_law_ends_right", "_law_ends_right", defArgs (topS 91), defBody (topS 91), defScope (topS 91), [], []⟩
def g__law_costs_right : He.DefD := ⟨("_law_costs_right", none), "_law_costs_right", "_law_costs_right", defArgs (topS 92), defBody (topS 92), defScope (topS 92), [], []⟩
def g_law : He.DefD := ⟨("law", none), "law", "law", defArgs (topS 93), defBody (topS 93), defScope (topS 93), [], []⟩
def m_Fraction_init : He.DefD := ⟨("Fraction", some "__init__"), "__init__", "Fraction.__init__", defArgs (inClass (topS 13) 0), defBody (inClass (topS 13) 0), defScope (inClass (topS 13) 0), [.int 1], []⟩
def m_Fraction_plus : He.DefD := ⟨("Fraction", some "plus"), "plus", "Fraction.plus", defArgs (inClass (topS 13) 1), defBody (inClass (topS 13) 1), defScope (inClass (topS 13) 1), [], []⟩
def m_Fraction_minus : He.DefD := ⟨("Fraction", some "minus"), "minus", "Fraction.minus", defArgs (inClass (topS 13) 2), defBody (inClass (topS 13) 2), defScope (inClass (topS 13) 2), [], []⟩
def m_Fraction_times : He.DefD := ⟨("Fraction", some "times"), "times", "Fraction.times", defArgs (inClass (topS 13) 3), defBody (inClass (topS 13) 3), defScope (inClass (topS 13) 3), [], []⟩
def m_Fraction_over : He.DefD := ⟨("Fraction", some "over"), "over", "Fraction.over", defArgs (inClass (topS 13) 4), defBody (inClass (topS 13) 4), defScope (inClass (topS 13) 4), [], []⟩
def m_Fraction_under : He.DefD := ⟨("Fraction", some "under"), "under", "Fraction.under", defArgs (inClass (topS 13) 5), defBody (inClass (topS 13) 5), defScope (inClass (topS 13) 5), [], []⟩
def m_Fraction_same : He.DefD := ⟨("Fraction", some "same"), "same", "Fraction.same", defArgs (inClass (topS 13) 6), defBody (inClass (topS 13) 6), defScope (inClass (topS 13) 6), [], []⟩
def m_Fraction_sign : He.DefD := ⟨("Fraction", some "sign"), "sign", "Fraction.sign", defArgs (inClass (topS 13) 7), defBody (inClass (topS 13) 7), defScope (inClass (topS 13) 7), [], []⟩
def m_Way_init : He.DefD := ⟨("Way", some "__init__"), "__init__", "Way.__init__", defArgs (inClass (topS 56) 0), defBody (inClass (topS 56) 0), defScope (inClass (topS 56) 0), [.non, .non], []⟩
def m_Way_gain : He.DefD := ⟨("Way", some "gain"), "gain", "Way.gain", defArgs (inClass (topS 56) 2), defBody (inClass (topS 56) 2), defScope (inClass (topS 56) 2), [], []⟩
def m_Way_out : He.DefD := ⟨("Way", some "out"), "out", "Way.out", defArgs (inClass (topS 56) 3), defBody (inClass (topS 56) 3), defScope (inClass (topS 56) 3), [], []⟩
def m_Growing_init : He.DefD := ⟨("Growing", some "__init__"), "__init__", "Growing.__init__", defArgs (inClass (topS 57) 0), defBody (inClass (topS 57) 0), defScope (inClass (topS 57) 0), [.non, .non], []⟩
def m_Growing_gain : He.DefD := ⟨("Growing", some "gain"), "gain", "Growing.gain", defArgs (inClass (topS 57) 1), defBody (inClass (topS 57) 1), defScope (inClass (topS 57) 1), [], []⟩
def m_Growing_out : He.DefD := ⟨("Growing", some "out"), "out", "Way.out", defArgs (inClass (topS 56) 3), defBody (inClass (topS 56) 3), defScope (inClass (topS 56) 3), [], []⟩
def m_Leaking_init : He.DefD := ⟨("Leaking", some "__init__"), "__init__", "Leaking.__init__", defArgs (inClass (topS 58) 0), defBody (inClass (topS 58) 0), defScope (inClass (topS 58) 0), [.non, .non], []⟩
def m_Leaking_gain : He.DefD := ⟨("Leaking", some "gain"), "gain", "Leaking.gain", defArgs (inClass (topS 58) 1), defBody (inClass (topS 58) 1), defScope (inClass (topS 58) 1), [], []⟩
def m_Leaking_out : He.DefD := ⟨("Leaking", some "out"), "out", "Leaking.out", defArgs (inClass (topS 58) 2), defBody (inClass (topS 58) 2), defScope (inClass (topS 58) 2), [], []⟩
def m_Net_init : He.DefD := ⟨("Net", some "__init__"), "__init__", "Net.__init__", defArgs (inClass (topS 65) 0), defBody (inClass (topS 65) 0), defScope (inClass (topS 65) 0), [], []⟩
def m_Net_names : He.DefD := ⟨("Net", some "names"), "names", "Net.names", defArgs (inClass (topS 65) 1), defBody (inClass (topS 65) 1), defScope (inClass (topS 65) 1), [], []⟩
def m_Net_way : He.DefD := ⟨("Net", some "way"), "way", "Net.way", defArgs (inClass (topS 65) 3), defBody (inClass (topS 65) 3), defScope (inClass (topS 65) 3), [], []⟩
def m_Net_all_ways : He.DefD := ⟨("Net", some "all_ways"), "all_ways", "Net.all_ways", defArgs (inClass (topS 65) 4), defBody (inClass (topS 65) 4), defScope (inClass (topS 65) 4), [], []⟩
def fnA0 : List He.DefD := [g_divisor, g_total, g_amount, g_strangers, g_own_sums, g_refuse_strangers, g_sums, g_worth, g_together, g_scaled, g_walk_ways, g_places_of, g_gain_of, g_is_path, g_is_ring, g_sent, g_better_gain, g_one_round, g_first_ring, g_looked_for, g_making, g_eating, g_even_ways, g_going_on, g_even_ring, g_is_walk, g_ring_by_side, g_joined_up, g_is_road, g_is_strand]
def fnA1 : List He.DefD := [g_strand_plan, g_in_use, g_paths_from, g_out_of, g_one_strand, g_least_limit, g_taken_apart, g_wants_of, g_ways_of, g__law_cell_at, g__law_names, g__law_gain, g__law_factor, g__law_way, g__law_cost, g__law_net, g__law_plus, g__law_times, g__law_ways, g__law_free_ways, g__law_ring, g__law_strand, g__law_strands, g__law_product, g__law_send, g__law_planned, g__law_due, g__law_brought, g__law_whole, g__law_told]
def fnA2 : List He.DefD := [g__law_as_plan, g__law_same, g__law_above, g__law_ends_right, g__law_costs_right, g_law, m_Fraction_init, m_Fraction_plus, m_Fraction_minus, m_Fraction_times, m_Fraction_over, m_Fraction_under, m_Fraction_same, m_Fraction_sign, m_Way_init, m_Way_gain, m_Way_out, m_Growing_init, m_Growing_gain, m_Growing_out, m_Leaking_init, m_Leaking_gain, m_Leaking_out, m_Net_init, m_Net_names, m_Net_way, m_Net_all_ways]
def fnA : List He.DefD := fnA0 ++ fnA1 ++ fnA2
def faA0 : List He.Fa := [.glo "divisor", .glo "total", .glo "amount", .glo "strangers", .glo "own_sums", .glo "refuse_strangers", .glo "sums", .glo "worth", .glo "together", .glo "scaled", .glo "walk_ways", .glo "places_of", .glo "gain_of", .glo "is_path", .glo "is_ring", .glo "sent", .glo "better_gain", .glo "one_round", .glo "first_ring", .glo "looked_for", .glo "making", .glo "eating", .glo "even_ways", .glo "going_on", .glo "even_ring", .glo "is_walk", .glo "ring_by_side", .glo "joined_up", .glo "is_road", .glo "is_strand"]
def faA1 : List He.Fa := [.glo "strand_plan", .glo "in_use", .glo "paths_from", .glo "out_of", .glo "one_strand", .glo "least_limit", .glo "taken_apart", .glo "wants_of", .glo "ways_of", .glo "_law_cell_at", .glo "_law_names", .glo "_law_gain", .glo "_law_factor", .glo "_law_way", .glo "_law_cost", .glo "_law_net", .glo "_law_plus", .glo "_law_times", .glo "_law_ways", .glo "_law_free_ways", .glo "_law_ring", .glo "_law_strand", .glo "_law_strands", .glo "_law_product", .glo "_law_send", .glo "_law_planned", .glo "_law_due", .glo "_law_brought", .glo "_law_whole", .glo "_law_told"]
def faA2 : List He.Fa := [.glo "_law_as_plan", .glo "_law_same", .glo "_law_above", .glo "_law_ends_right", .glo "_law_costs_right", .glo "law", .glo "Fraction", .glo "Way", .glo "Growing", .glo "Leaking", .glo "Store", .glo "Net", .free "abs", .free "len", .free "list", .free "dict", .free "set", .free "range", .free "isinstance", .free "int", .free "bool", .int "MOST_PLACES" 12, .int "MOST_WAYS" 24, .cls "Fraction", .cls "Way", .cls "Growing", .cls "Leaking", .cls "Net", .noat "Fraction" "top", .noat "Fraction" "bottom"]
def faA3 : List He.Fa := [.noat "Way" "name", .noat "Way" "start", .noat "Way" "goal", .noat "Way" "high", .noat "Way" "cost", .noat "Growing" "name", .noat "Growing" "start", .noat "Growing" "goal", .noat "Growing" "high", .noat "Growing" "cost", .noat "Growing" "rate", .noat "Leaking" "name", .noat "Leaking" "start", .noat "Leaking" "goal", .noat "Leaking" "high", .noat "Leaking" "cost", .noat "Leaking" "loss", .noat "Net" "kept_wants", .noat "Net" "kept_ways", .meth "Fraction" "plus", .meth "Fraction" "minus", .meth "Fraction" "times", .meth "Fraction" "over", .meth "Fraction" "under", .meth "Fraction" "same", .meth "Fraction" "sign", .meth "Way" "gain", .meth "Way" "out", .meth "Growing" "gain", .meth "Growing" "out"]
def faA4 : List He.Fa := [.meth "Leaking" "gain", .meth "Leaking" "out", .meth "Net" "names", .meth "Net" "way", .meth "Net" "all_ways", .mkr "Fraction", .mkr "Way", .mkr "Growing", .mkr "Leaking", .mkr "Net"]
def faA : List He.Fa := faA0 ++ faA1 ++ faA2 ++ faA3 ++ faA4
/-! more facts -/
def tcB (K : PySem.W.Frag) (x : Str) : Bool := He.eqO (PySem.W.findIn K (.ref (He.ga K x)) "__class__") (some (some (.builtin "object.__class__"))) && decide (PySem.W.mroIn K (He.ga K x) (.type "object") = some true)
def crB (K : PySem.W.Frag) : Bool := PySem.W.readsIn K (He.ga K "Way") (.type "type") && He.eqO (PySem.W.specialIn K (.ref (He.ga K "Way")) "__getattribute__") (some (some (.builtin "type.__getattribute__")))
def cvB (K : PySem.W.Frag) : Bool := match PySem.W.findCls K (.ref (He.ga K "Way")) (.type "type") "__init__" with
  | some (.val u) => decide (u = .ref (He.ma K (He.ga K "Way") "__init__"))
  | _ => false
def ocB (K : PySem.W.Frag) : Bool := He.eqO (PySem.W.specialIn K (.builtin "object.__class__") "__get__") (some (some (.builtin "getset_descriptor.__get__"))) && decide (PySem.W.takesIn K (.builtin "object.__class__") = some true)
def koB (K : PySem.W.Frag) (t c : Value) (b : Bool) : Bool := decide (PySem.W.kitOne K t c = some b)
def neB (K : PySem.W.Frag) (x y : Str) : Bool := decide (He.ga K x ≠ He.ga K y)
def exL (K : PySem.W.Frag) : List Bool := [crB K, cvB K, ocB K, tcB K "Way", tcB K "Growing", tcB K "Leaking", tcB K "Fraction",
  koB K (.ref (He.ga K "Way")) (.ref (He.ga K "Store")) false, koB K (.ref (He.ga K "Growing")) (.ref (He.ga K "Store")) false, koB K (.ref (He.ga K "Leaking")) (.ref (He.ga K "Store")) false,
  koB K (.ref (He.ga K "Fraction")) (.ref (He.ga K "Fraction")) true, koB K (.type "int") (.type "int") true, koB K (.type "int") (.type "bool") false,
  neB K "Way" "Growing", neB K "Way" "Leaking", neB K "Growing" "Leaking"]
def exA (K : PySem.W.Frag) : Bool := (exL K).all fun b => b
/-! the Hook -/
abbrev AlM : Type := He.AlD × Bool
def ofFn (g : Addr → Option Obj) (a : Addr) : List Addr := match g a with
  | some ⟨_, _, .func fd, _⟩ => a :: (He.refV fd.code ++ He.refV fd.defaults)
  | _ => []
def nsRefs (g : Addr → Option Obj) (ns : Addr) : List Addr := match g ns with
  | some ⟨_, _, .dict es _, _⟩ => es.toList.flatMap fun e => He.refV e.val
  | _ => []
def ofCl (g : Addr → Option Obj) (a : Addr) : List Addr := match g a with
  | some ⟨_, _, .func fd, _⟩ => a :: (He.refV fd.code ++ He.refV fd.defaults)
  | some ⟨_, _, .cls cd, _⟩ => a :: cd.ns :: (nsRefs g cd.ns).flatMap (ofFn g)
  | _ => []
def addrs (g : Addr → Option Obj) : List Addr := mainGlobals :: PySem.cStatics :: (nsRefs g mainGlobals).flatMap (ofCl g)
def fragM (g : Addr → Option Obj) : PySem.W.Frag := He.frG g (addrs g)
def obsK (K : PySem.W.Frag) : AlM := (He.obsD faA fnA K, exA K)
def obsM (g : Addr → Option Obj) : AlM := obsK (fragM g)
def valM : AlM := (He.valD fnA, true)
def hookM : PySem.W.Hook where
  α := AlM
  obs := fun s => obsM s.heap.get?
  val := fun _ => valM
  says := fun _ h => ∃ K : PySem.W.Frag, K.In h ∧ obsK K = valM
  of := fun _ _ e => ⟨_, He.frG_in, e⟩
  keeps := fun _ _ _ ⟨K, hK, c⟩ k => ⟨K, PySem.W.Frag.In.keeps hK k, c⟩
theorem obsM_eq {g : Addr → Option Obj} {s : Shared} (h : ∀ a, g a = s.heap.get? a) : obsM g = hookM.obs s := by
  have e : g = s.heap.get? := funext h
  rw [e]; rfl
theorem says_d {K : PySem.W.Frag} (c : obsK K = valM) : He.SaysD faA fnA K := congrArg (fun z : AlM => z.1) c
theorem says_x {K : PySem.W.Frag} (c : obsK K = valM) : exA K = true := congrArg (fun z : AlM => z.2) c
theorem says_b {K : PySem.W.Frag} (c : obsK K = valM) (i : Nat) {b : Bool} (h : (exL K)[i]? = some b := by rfl) : b = true := List.all_eq_true.mp (says_x c) b (List.mem_of_getElem? h)
end GH
end
section
set_option maxRecDepth 100000
set_option maxHeartbeats 0
/-! The head: the top's run. -/
noncomputable section
namespace GH
open PySem PySem.W PySem.Calls PyProof.Rows HandSHeadRun
abbrev Rw : PySem.W.OpenRow := PySem.W.OpenLaw.row PySem.Challenge.rw_gainstream_k38_whole_ends_and_costs
abbrev qv : Program := view Rw.prog [93]
def endN (w : World) (os : OsState) : Option SharedT := endF (stepQ (denQ tabQ) Rw.prog w) 20000 Rw.prog w os
theorem tObs (w : World) (os : OsState) : (endN w os).map (fun s => obsM (getT s)) = some valM := by kernel_rfl
theorem tLooks (w : World) (os : OsState) : (endN w os).map (fun s => looksF Rw.prog (boot_heap w.params) s.abs) = some true := by kernel_rfl
theorem tSeen (w : World) (os : OsState) : (endN w os).map (fun s => seenQ qv looseN (importedModules Rw.prog.main.body) (fun s => xlAt qv [] s && recOk Rw.toRowW.records s) s.abs) = some (openGood qv looseN) := by kernel_rfl
def obN (s : SharedT) : AlM := obsM (getT s)
theorem obN_eq (s : SharedT) : obN s = hookM.obs s.abs := obsM_eq (getT_eq s)
theorem three {α β γ δ : Type} {o : Option α} {f : α → β} {g : α → γ} {h : α → δ} {x : β} {y : γ} {z : δ} (a : o.map f = some x) (b : o.map g = some y) (c : o.map h = some z) : o.map (fun s => (f s, g s, h s)) = some (x, y, z) := by
  cases o with
  | none => cases a
  | some s =>
    have a : f s = x := Option.some.inj a
    have b : g s = y := Option.some.inj b
    have c : h s = z := Option.some.inj c
    subst a b c
    rfl
theorem headRun (w : World) : RunEq Rw qv hookM obN 20000 looseN w := fun os => three (tLooks w os) (tSeen w os) (tObs w os)
end GH
end
end
section
set_option maxRecDepth 100000
/-! Fractions made, reckoned with. -/
namespace GH
open PySem PySem.Spec PyProof.Rows L2 GM
/-- what comes back: a value, in a heap that has grown -/
def Ret (G H : Hp) (Q : VK) (Pp : V → Hp → Prop) : Prop := ∀ v G' H', Ext G H G' H' → Pp v G' → Q v H'
/-! ### arithmetic of Rat by tops and bottoms -/
theorem r_add (a b : Rat) : a + b = Rat.divInt (a.num * b.den + b.num * a.den) ((a.den : Int) * b.den) := by
  rw [Rat.add_def', ← Rat.divInt_ofNat]; rfl
theorem r_sub (a b : Rat) : a - b = Rat.divInt (a.num * b.den - b.num * a.den) ((a.den : Int) * b.den) := by
  rw [Rat.sub_def', ← Rat.divInt_ofNat]; rfl
theorem r_mul (a b : Rat) : a * b = Rat.divInt (a.num * b.num) ((a.den : Int) * b.den) := by
  rw [Rat.mul_def', ← Rat.divInt_ofNat]; rfl
theorem r_div (a b : Rat) : a / b = Rat.divInt (a.num * b.den) ((a.den : Int) * b.num) := by
  rw [Rat.div_def, Rat.inv_def]
  conv => lhs; lhs; rw [← Rat.num_divInt_den a]
  rw [Rat.divInt_mul_divInt]
theorem r_same {a b : Rat} : (a.num = b.num ∧ (a.den : Int) = b.den) ↔ a = b := by
  constructor
  · intro h; exact Rat.ext h.1 (by have := h.2; omega)
  · intro h; rw [h]; exact ⟨rfl, rfl⟩
theorem r_pos {a : Rat} : 0 < a.num ↔ 0 < a := by
  have := Rat.num_nonneg (q := -a)
  rw [Rat.neg_num] at this
  constructor
  · intro h
    apply Classical.byContradiction
    intro k
    have k' : 0 ≤ -a := by have := Rat.not_lt.mp k; grind
    have := this.mpr k'
    omega
  · intro h
    apply Classical.byContradiction
    intro k
    have : 0 ≤ -a.num := by omega
    have := (Rat.num_nonneg (q := -a)).mp (by rw [Rat.neg_num]; exact this)
    grind
theorem r_neg {a : Rat} : a.num < 0 ↔ a < 0 := by
  have h1 := r_pos (a := -a)
  rw [Rat.neg_num] at h1
  constructor
  · intro h; have := h1.mp (by omega); grind
  · intro h; have := h1.mpr (by grind); omega
theorem den_pos (a : Rat) : 0 < (a.den : Int) := by have := a.den_nz; omega
/-! ### sizes -/
theorem bd_mulx {a b : Rat} (ha : Bd a) (hb : Bd b) : CMulX a.num b.num ∧ CMulX a.num b.den ∧ CMulX b.num a.den ∧ CMulX a.den b.den ∧ CMulX (a.den : Int) b.num := by
  have h1 := ha.num
  have h2 := hb.num
  have d1 : ((a.den : Nat) : Int).natAbs < 2 ^ 4490 := ha.den
  have d2 : ((b.den : Nat) : Int).natAbs < 2 ^ 4490 := hb.den
  exact ⟨mulx_ok h1 h2 (by decide), mulx_ok h1 d2 (by decide), mulx_ok h2 d1 (by decide), mulx_ok d1 d2 (by decide), mulx_ok d1 h2 (by decide)⟩
theorem log_lt {n k : Nat} (h : n < 2 ^ k) (hk : 0 < k) : n.log2 < k := PySem.Flt.log2_lt_of hk h
theorem den_lt {a b : Rat} (ha : Bd a) (hb : Bd b) : ((a.den : Int) * b.den).natAbs < 2 ^ 8980 := by
  rw [Int.natAbs_mul]
  exact Nat.lt_of_lt_of_eq (Nat.mul_lt_mul'' (show ((a.den : Nat) : Int).natAbs < 2 ^ 4490 from ha.den) (show ((b.den : Nat) : Int).natAbs < 2 ^ 4490 from hb.den)) (by rw [← Nat.pow_add])
theorem den_nz {a b : Rat} : (a.den : Int) * b.den ≠ 0 := Int.mul_ne_zero (by have := a.den_nz; omega) (by have := b.den_nz; omega)
/-! ### Fraction(t, b) -/
def CF (b : Int) : Prop := b ≠ 0 ∧ b.natAbs < 2 ^ 9000
abbrev sFI : Stmt := inClass (topS 13) 0
def spFI (c : Cl) : Sp := fun vs H Q _ => ∃ (p dx : Addr) (t b : Int), vs = [.ref p, .int t, .int b] ∧ H p = some (.ins c.F dx []) ∧ CF b ∧ Q .non (upd H p (.ins c.F dx (ff (Rat.divInt t b).num (Rat.divInt t b).den)))
section
variable {P : Program} {w : World} {K : PySem.W.Frag} {mg : Str → Option Value} {base : Heap} {c : Cl} {f : Addr} {fd : FuncData}
theorem fdiv_of {t b : Int} (hb : b ≠ 0) : t.fdiv (if b < 0 then -(Int.gcd t b : Int) else (Int.gcd t b : Int)) = (Rat.divInt t b).num ∧ b.fdiv (if b < 0 then -(Int.gcd t b : Int) else (Int.gcd t b : Int)) = (Rat.divInt t b).den := by
  have g0 : (Int.gcd t b : Int) ≠ 0 := by
    intro e
    have : Int.gcd t b = 0 := by omega
    exact hb (Int.gcd_eq_zero_iff.mp this).2
  have d1 : (Int.gcd t b : Int) ∣ t := Int.gcd_dvd_left ..
  have d2 : (Int.gcd t b : Int) ∣ b := Int.gcd_dvd_right ..
  have e0 : b.gcd t = t.gcd b := Int.gcd_comm ..
  rw [Rat.num_divInt, Rat.den_divInt, if_neg hb, e0]
  generalize Int.gcd t b = g at *
  obtain ⟨u, hu⟩ := d1
  obtain ⟨v, hv⟩ := d2
  have gp : (0 : Int) < g := by omega
  have v0 : v ≠ 0 := fun e => hb (by rw [hv, e, Int.mul_zero])
  have ediv : ∀ (x : Int), ((g : Int) * x) / (g : Int) = x := fun x => Int.mul_ediv_cancel_left x g0
  have nabs : b.natAbs / g = v.natAbs := by
    rw [hv, Int.natAbs_mul, Int.natAbs_natCast]
    exact Nat.mul_div_cancel_left _ (by omega)
  rw [nabs]
  by_cases hn : b < 0
  · rw [if_pos hn]
    have vn : v < 0 := by
      apply Classical.byContradiction
      intro k
      have : 0 ≤ (g : Int) * v := Int.mul_nonneg (by omega) (by omega)
      omega
    rw [Int.sign_eq_neg_one_of_neg hn]
    refine ⟨?_, ?_⟩
    · rw [show (-1 * t) / (g : Int) = -u by rw [hu, show -1 * ((g : Int) * u) = (g : Int) * (-u) by rw [Int.mul_neg]; omega]; exact ediv _]
      exact Int.fdiv_eq_of_eq_mul_right (by omega) (by rw [hu, Int.neg_mul_neg])
    · rw [show ((v.natAbs : Nat) : Int) = -v by omega]
      exact Int.fdiv_eq_of_eq_mul_right (by omega) (by rw [hv, Int.neg_mul_neg])
  · rw [if_neg hn]
    have vp : 0 < v := by
      apply Classical.byContradiction
      intro k
      have : 0 ≤ (g : Int) * (-v) := Int.mul_nonneg (by omega) (by omega)
      rw [Int.mul_neg] at this
      omega
    rw [Int.sign_eq_one_of_pos (by omega)]
    refine ⟨?_, ?_⟩
    · rw [Int.one_mul, hu, ediv]
      exact Int.fdiv_eq_of_eq_mul_right g0 rfl
    · rw [show ((v.natAbs : Nat) : Int) = v by omega]
      exact Int.fdiv_eq_of_eq_mul_right g0 hv
theorem scFI : FnScope ["self", "top", "bottom", "by"] ["self", "top", "bottom"] (defScope sFI) := ⟨rfl, rfl, rfl, by decide +kernel, rfl, by decide +kernel, by decide +kernel⟩
theorem ok_FI (F : FnD K "__init__" "Fraction.__init__" sFI [.int 1] f fd) (T : Txt K mg c) (D : Fn P w K mg base "divisor" 1 ["one", "other"] [] spDiv) : FnOk P w K mg base CX0 2 f fd ["self", "top", "bottom"] (spFI c) := by
  refine F.ok scFI (fun vs H Q E h => ?_) (fun cdv A outer s H vs Q E hr h => ?_)
  · obtain ⟨p, dx, t, b, rfl, _⟩ := h
    rfl
  · obtain ⟨p, dx, t, b, rfl, hp, hb, q⟩ := h
    refine ⟨_, PSs.nox (pss_cons (ps_if (pt_cmpR op_eq (pv 2) pe_int (nomark _)) pss_never pss_nil)
      (pss_cons (ps_set (i := 3) scFI.nd rfl (Or.inl rfl) (pe_fn D hr (by rfl) (pa_cons (pv 1) (pa_cons (pv 2) pa_nil))))
      (pss_cons (ps_if (pt_cmpR op_lt (pv 2) pe_int (nomark _)) (pss_one (ps_set (i := 3) scFI.nd rfl (Or.inl rfl) (pe_op op_sub pe_int (pv 3)))) pss_nil)
      (pss_cons (ps_fld (pv 0) (pe_op op_fdivZ (pv 1) (pv 3)) rfl)
      (pss_one (ps_fld (pv 0) (pe_op op_fdivZ (pv 2) (pv 3)) rfl)))))), ?_⟩
    have e0 : decide (V.int b = V.int 0) = false := decide_eq_false fun z => by injection z with z; exact hb.1 z
    refine ⟨_, rfl, rfl, _, rfl, ?_⟩
    rw [e0]
    refine iteF ?_
    obtain ⟨f1, f2⟩ := fdiv_of (t := t) hb.1
    have g0 : Int.gcd t b ≠ 0 := fun e => hb.1 (Int.gcd_eq_zero_iff.mp e).2
    have gle : (Int.gcd t b : Int).natAbs < 2 ^ 9000 := by
      have : Int.gcd t b ≤ b.natAbs := Nat.gcd_le_right _ (by have := hb.1; omega)
      exact Nat.lt_of_le_of_lt this hb.2
    generalize hg : (if b < 0 then -(Int.gcd t b : Int) else (Int.gcd t b : Int)) = by_ at f1 f2
    have cd : by_ ≠ 0 ∧ by_.natAbs.log2 < 9000 := by
      rw [← hg]
      refine ⟨by split <;> omega, log_lt ?_ (by decide)⟩
      have : (if b < 0 then -(Int.gcd t b : Int) else (Int.gcd t b : Int)).natAbs = (Int.gcd t b : Int).natAbs := by split <;> omega
      rw [this]; exact gle
    have fin : ∀ (σ : L2.St), σ = [some (.ref p), some (.int t), some (.int b), some (.int by_)] →
        tSeq (sFld K (tVar 0) (tOp (rI CDivZ fun i j => .int (i.fdiv j)) (tVar 1) (tVar 3)) "top") (sFld K (tVar 0) (tOp (rI CDivZ fun i j => .int (i.fdiv j)) (tVar 2) (tVar 3)) "bottom") { nx := fun _ H' => Q .non H', rt := Q } σ H := by
      rintro σ rfl
      refine ⟨_, rfl, _, rfl, _, _, rfl, rfl, cd, _, rfl, p, c.F, dx, [], rfl, hp, T.clF, T.nTop, (by show 0 < 1000; decide), ?_⟩
      refine ⟨_, rfl, _, rfl, _, _, rfl, rfl, cd, _, rfl, p, c.F, dx, _, rfl, upd_same, T.clF, T.nBot, (by show 1 < 1000; decide), ?_⟩
      rw [upd_upd]
      show Q .non (upd H p (.ins c.F dx (ff (t.fdiv by_) (b.fdiv by_))))
      rw [f1, f2]
      exact q
    refine ⟨_, rfl, _, rfl, t, b, rfl, ?_⟩
    refine ⟨_, rfl, _, _, rfl, rfl, _, rfl, ?_⟩
    by_cases hn : b < 0
    · rw [decide_eq_true hn]
      refine iteT ⟨_, rfl, _, _, rfl, rfl, ?_⟩
      rw [if_pos hn] at hg
      exact fin _ (congrArg (fun z => [some (V.ref p), some (V.int t), some (V.int b), some (V.int z)]) (show (0 : Int) - (Int.gcd t b : Int) = by_ by omega))
    · rw [decide_eq_false hn]
      rw [if_neg hn] at hg
      exact iteF (fin _ (congrArg (fun z => [some (V.ref p), some (V.int t), some (V.int b), some (V.int z)]) hg))
end
end GH
end
section
set_option maxRecDepth 100000
/-! The Fractions' methods. -/
namespace GH
open PySem PySem.Spec PyProof.Rows L2 GM
section
variable {c : Cl} {G H : Hp} {Q : VK}
/-- the reading of Fraction(t, b) -/
theorem mk_fr (s : Same G H) {vs : List V} {t b : Int} (e : vs = [.int t, .int b]) (hb : CF b) (k : ∀ v G' H', Ext G H G' H' → Fr c G' v (Rat.divInt t b) → Q v H') :
    ∀ x dx, H x = none → H dx = none → dx ≠ x → spFI c (.ref x :: vs) (upd (upd H dx (.own x)) x (.ins c.F dx [])) (fun v H2 => v = .non ∧ Q (.ref x) H2) E0 := by
  intro x dx nx nd ne
  subst e
  refine ⟨x, dx, t, b, rfl, upd_same, hb, rfl, ?_⟩
  rw [upd_upd]
  have nd' : upd H dx (.own x) x = none := by rw [upd_ne (Ne.symm ne)]; exact nx
  have e1 := (Ext.tmp (o := .own x) s nd).trans (Ext.imm (p := x) (o := .ins c.F dx (ff (Rat.divInt t b).num (Rat.divInt t b).den)) (Ext.tmp (o := .own x) s nd).gh nd')
  exact k _ _ _ e1 ⟨x, dx, rfl, upd_same⟩
end
abbrev MkF (P : Program) (w : World) (K : PySem.W.Frag) (mg : Str → Option Value) (base : Heap) (c : Cl) : Prop := Mkr P w K mg base "Fraction" c.F 2 ["self", "top", "bottom"] [.int 1] (spFI c)
abbrev MkF2 (P : Program) (w : World) (K : PySem.W.Frag) (mg : Str → Option Value) (base : Heap) (c : Cl) : Prop := Mkr P w K mg base "Fraction" c.F 2 ["self", "top", "bottom"] [] (spFI c)
/-- Fraction(n, d), Fraction(n): what their readings ask -/
def rFr (c : Cl) (vs : List V) (H : Hp) (Q : VK) : Prop := ∃ G n d, vs = [.int n, .int d] ∧ Same G H ∧ CF d ∧ Ret G H Q (fun v G' => Fr c G' v (Rat.divInt n d))
def rFr1 (c : Cl) (vs : List V) (H : Hp) (Q : VK) : Prop := ∃ G n, vs = [.int n] ∧ Same G H ∧ Ret G H Q (fun v G' => Fr c G' v ((n : Int) : Rat))
def tMk (r : List V → Hp → VK → Prop) (t : TA) : TE := fun σ H Q => t σ H fun vs H1 => r vs H1 Q
section
variable {X : Cx} {k : Nat} {C : Addr} {ps : List Str} {sp : Sp} {dvs : List V} {x : Str} {p pos : Pos} {e : Expr} {es : List Expr} {t : TA} {r : List V → Hp → VK → Prop} {c : Cl}
theorem pe_mkR (F : Mkr X.prog X.w X.K X.mg X.base x C k ps dvs sp) (imp : ∀ vs H Q, r vs H Q → ∀ x dx, H x = none → H dx = none → dx ≠ x → sp (.ref x :: (vs ++ dvs)) (upd (upd H dx (.own x)) x (.ins C dx [])) (fun v H2 => v = .non ∧ Q (.ref x) H2) E0)
    (hr : Room (k + 1) X.A) (hg : Gl X x) (ha : PA X (e :: es) t) (hdb : (x == ("__debug__" : Str)) = false := by decide)
    (he : starEach (e :: es) X.env = (false, eval e X.env) :: starEach es X.env := by rfl) (hpl : (backTo pos (starEach es X.env)).any (·.1) = false := by rfl) : PE X (.Call (.Name x p) (e :: es) [] pos) (tMk r t) := by
  obtain ⟨f, fd, ds, F, M, hm, hb, hd⟩ := F
  refine ⟨fun pins s σ H Q I h => ?_⟩
  refine wpAny_Call_Name_kw (ld_glob I hg hm (PySem.W.callWith_K (h₀ := X.base) I.ok.mod.kin M.kp ?_ he hpl) hdb)
  refine thn (ha.run pos pins s σ H _ I h) fun us s1 z => ?_
  obtain ⟨vs, H1, I1, r1, q⟩ := z
  exact ⟨I1.kIn, run_make M F hr hb hd pass0 I1 r1 (imp vs H1 Q q)⟩
theorem pe_fr (F : MkF2 X.prog X.w X.K X.mg X.base c) (hr : Room 3 X.A) (hg : Gl X "Fraction") (ha : PA X (e :: es) t) 
    (he : starEach (e :: es) X.env = (false, eval e X.env) :: starEach es X.env := by rfl) (hpl : (backTo pos (starEach es X.env)).any (·.1) = false := by rfl) : PE X (.Call (.Name "Fraction" p) (e :: es) [] pos) (tMk (rFr c) t) := by
  refine pe_mkR F (fun vs H Q z => ?_) hr hg ha (by decide) he hpl
  obtain ⟨G, n, d, ev, s, hd, k⟩ := z
  exact mk_fr s (by rw [ev]; rfl) hd k
theorem pe_fr1 (F : MkF X.prog X.w X.K X.mg X.base c) (hr : Room 3 X.A) (hg : Gl X "Fraction") (ha : PA X (e :: es) t) 
    (he : starEach (e :: es) X.env = (false, eval e X.env) :: starEach es X.env := by rfl) (hpl : (backTo pos (starEach es X.env)).any (·.1) = false := by rfl) : PE X (.Call (.Name "Fraction" p) (e :: es) [] pos) (tMk (rFr1 c) t) := by
  refine pe_mkR F (fun vs H Q z => ?_) hr hg ha (by decide) he hpl
  obtain ⟨G, n, ev, s, k⟩ := z
  refine mk_fr (t := n) (b := 1) s (by rw [ev]; rfl) ⟨by decide, by decide⟩ fun v G' H' e h => k v G' H' e ?_
  have : Rat.divInt n 1 = (n : Rat) := by rw [Rat.divInt_eq_div]; show (n : Rat) / ((1 : Int) : Rat) = _; rw [show (((1 : Int) : Rat)) = 1 from rfl]; grind
  rwa [this] at h
end
def spOp (c : Cl) (ok : Rat → Rat → Prop) (g : Rat → Rat → Rat) : Sp := fun vs H Q _ => ∃ G x y a b, vs = [x, y] ∧ Same G H ∧ Fr c G x a ∧ Fr c G y b ∧ Bd a ∧ Bd b ∧ ok a b ∧ Ret G H Q (fun v G' => Fr c G' v (g a b))
abbrev okT : Rat → Rat → Prop := fun _ _ => True
/-- what may be divided by -/
structure Bs (b : Rat) : Prop where
  nz : b ≠ 0
  num : b.num.natAbs < 2 ^ 4490
abbrev spPlus (c : Cl) : Sp := spOp c okT (· + ·)
abbrev spMinus (c : Cl) : Sp := spOp c okT (· - ·)
abbrev spTimes (c : Cl) : Sp := spOp c okT (· * ·)
abbrev spOver (c : Cl) : Sp := spOp c (fun _ b => Bs b) (· / ·)
def spUnder (c : Cl) : Sp := fun vs H Q _ => ∃ G x y a b, vs = [x, y] ∧ Same G H ∧ Fr c G x a ∧ Fr c G y b ∧ Bd a ∧ Bd b ∧ Q (.bl (decide (a < b))) H
def spSame (c : Cl) : Sp := fun vs H Q _ => ∃ G x y a b, vs = [x, y] ∧ Same G H ∧ Fr c G x a ∧ Fr c G y b ∧ Q (.bl (decide (a = b))) H
def sgn (a : Rat) : Int := if 0 < a then 1 else if a < 0 then -1 else 0
def spSign (c : Cl) : Sp := fun vs H Q _ => ∃ G x a, vs = [x] ∧ Same G H ∧ Fr c G x a ∧ Q (.int (sgn a)) H
abbrev sFM (i : Nat) : Stmt := inClass (topS 13) i
section
variable {P : Program} {w : World} {K : PySem.W.Frag} {mg : Str → Option Value} {base : Heap} {c : Cl} {f : Addr} {fd : FuncData}
theorem sc_so {i : Nat} {N ps : List Str} (h : FnScope N ps (defScope (sFM i))) : FnScope N ps (defScope (sFM i)) := h
theorem scPlus : FnScope ["self", "other"] ["self", "other"] (defScope (sFM 1)) := ⟨rfl, rfl, rfl, by decide +kernel, rfl, by decide +kernel, by decide +kernel⟩
theorem scMinus : FnScope ["self", "other"] ["self", "other"] (defScope (sFM 2)) := ⟨rfl, rfl, rfl, by decide +kernel, rfl, by decide +kernel, by decide +kernel⟩
theorem scTimes : FnScope ["self", "other"] ["self", "other"] (defScope (sFM 3)) := ⟨rfl, rfl, rfl, by decide +kernel, rfl, by decide +kernel, by decide +kernel⟩
theorem scOver : FnScope ["self", "other"] ["self", "other"] (defScope (sFM 4)) := ⟨rfl, rfl, rfl, by decide +kernel, rfl, by decide +kernel, by decide +kernel⟩
theorem scUnder : FnScope ["self", "other"] ["self", "other"] (defScope (sFM 5)) := ⟨rfl, rfl, rfl, by decide +kernel, rfl, by decide +kernel, by decide +kernel⟩
theorem scSame : FnScope ["self", "other"] ["self", "other"] (defScope (sFM 6)) := ⟨rfl, rfl, rfl, by decide +kernel, rfl, by decide +kernel, by decide +kernel⟩
theorem scSign : FnScope ["self"] ["self"] (defScope (sFM 7)) := ⟨rfl, rfl, rfl, by decide +kernel, rfl, by decide +kernel, by decide +kernel⟩
theorem ok_plus (F : FnP K "plus" "Fraction.plus" (sFM 1) f fd) (T : Txt K mg c) (M : MkF2 P w K mg base c) : FnOk P w K mg base CX0 4 f fd ["self", "other"] (spPlus c) := by
  refine F.ok scPlus (fun vs H Q E h => ?_) (fun cdv A outer s H vs Q E hr h => ?_)
  · obtain ⟨G, x, y, a, b, rfl, _⟩ := h
    rfl
  · obtain ⟨G, x, y, a, b, rfl, s, hx, hy, ba, bb, _, k⟩ := h
    obtain ⟨m1, m2, m3, m4, m5⟩ := bd_mulx ba bb
    refine ⟨_, PSs.nox (pss_one (ps_ret (pe_fr M hr (by rfl) (pa_cons (pe_op op_add (pe_op op_mulX (pe_f (pv 0)) (pe_f (pv 1))) (pe_op op_mulX (pe_f (pv 1)) (pe_f (pv 0))))
      (pa_cons (pe_op op_mulX (pe_f (pv 0)) (pe_f (pv 1))) pa_nil))))), ?_⟩
    refine ⟨_, rfl, _, hx.top T s, _, rfl, _, hy.bot T s, _, _, rfl, rfl, m2, _, rfl, _, hy.top T s, _, rfl, _, hx.bot T s, _, _, rfl, rfl, m3, _, _, rfl, rfl, _, rfl, _, hx.bot T s, _, rfl, _, hy.bot T s, _, _, rfl, rfl, m4, ?_⟩
    refine ⟨G, _, _, rfl, s, ⟨den_nz, Nat.lt_trans (den_lt ba bb) (Nat.pow_lt_pow_right (by decide) (by decide))⟩, fun v G' H' e h => ?_⟩
    rw [← r_add] at h
    exact k _ _ _ e h
theorem ok_minus (F : FnP K "minus" "Fraction.minus" (sFM 2) f fd) (T : Txt K mg c) (M : MkF2 P w K mg base c) : FnOk P w K mg base CX0 4 f fd ["self", "other"] (spMinus c) := by
  refine F.ok scMinus (fun vs H Q E h => ?_) (fun cdv A outer s H vs Q E hr h => ?_)
  · obtain ⟨G, x, y, a, b, rfl, _⟩ := h
    rfl
  · obtain ⟨G, x, y, a, b, rfl, s, hx, hy, ba, bb, _, k⟩ := h
    obtain ⟨m1, m2, m3, m4, m5⟩ := bd_mulx ba bb
    refine ⟨_, PSs.nox (pss_one (ps_ret (pe_fr M hr (by rfl) (pa_cons (pe_op op_sub (pe_op op_mulX (pe_f (pv 0)) (pe_f (pv 1))) (pe_op op_mulX (pe_f (pv 1)) (pe_f (pv 0))))
      (pa_cons (pe_op op_mulX (pe_f (pv 0)) (pe_f (pv 1))) pa_nil))))), ?_⟩
    refine ⟨_, rfl, _, hx.top T s, _, rfl, _, hy.bot T s, _, _, rfl, rfl, m2, _, rfl, _, hy.top T s, _, rfl, _, hx.bot T s, _, _, rfl, rfl, m3, _, _, rfl, rfl, _, rfl, _, hx.bot T s, _, rfl, _, hy.bot T s, _, _, rfl, rfl, m4, ?_⟩
    refine ⟨G, _, _, rfl, s, ⟨den_nz, Nat.lt_trans (den_lt ba bb) (Nat.pow_lt_pow_right (by decide) (by decide))⟩, fun v G' H' e h => ?_⟩
    rw [← r_sub] at h
    exact k _ _ _ e h
theorem ok_times (F : FnP K "times" "Fraction.times" (sFM 3) f fd) (T : Txt K mg c) (M : MkF2 P w K mg base c) : FnOk P w K mg base CX0 4 f fd ["self", "other"] (spTimes c) := by
  refine F.ok scTimes (fun vs H Q E h => ?_) (fun cdv A outer s H vs Q E hr h => ?_)
  · obtain ⟨G, x, y, a, b, rfl, _⟩ := h
    rfl
  · obtain ⟨G, x, y, a, b, rfl, s, hx, hy, ba, bb, _, k⟩ := h
    obtain ⟨m1, m2, m3, m4, m5⟩ := bd_mulx ba bb
    refine ⟨_, PSs.nox (pss_one (ps_ret (pe_fr M hr (by rfl) (pa_cons (pe_op op_mulX (pe_f (pv 0)) (pe_f (pv 1))) (pa_cons (pe_op op_mulX (pe_f (pv 0)) (pe_f (pv 1))) pa_nil))))), ?_⟩
    refine ⟨_, rfl, _, hx.top T s, _, rfl, _, hy.top T s, _, _, rfl, rfl, m1, _, rfl, _, hx.bot T s, _, rfl, _, hy.bot T s, _, _, rfl, rfl, m4, ?_⟩
    refine ⟨G, _, _, rfl, s, ⟨den_nz, Nat.lt_trans (den_lt ba bb) (Nat.pow_lt_pow_right (by decide) (by decide))⟩, fun v G' H' e h => ?_⟩
    rw [← r_mul] at h
    exact k _ _ _ e h
theorem ok_over (F : FnP K "over" "Fraction.over" (sFM 4) f fd) (T : Txt K mg c) (M : MkF2 P w K mg base c) : FnOk P w K mg base CX0 4 f fd ["self", "other"] (spOver c) := by
  refine F.ok scOver (fun vs H Q E h => ?_) (fun cdv A outer s H vs Q E hr h => ?_)
  · obtain ⟨G, x, y, a, b, rfl, _⟩ := h
    rfl
  · obtain ⟨G, x, y, a, b, rfl, s, hx, hy, ba, bb, ob, k⟩ := h
    obtain ⟨m1, m2, m3, m4, m5⟩ := bd_mulx ba bb
    refine ⟨_, PSs.nox (pss_one (ps_ret (pe_fr M hr (by rfl) (pa_cons (pe_op op_mulX (pe_f (pv 0)) (pe_f (pv 1))) (pa_cons (pe_op op_mulX (pe_f (pv 0)) (pe_f (pv 1))) pa_nil))))), ?_⟩
    refine ⟨_, rfl, _, hx.top T s, _, rfl, _, hy.bot T s, _, _, rfl, rfl, m2, _, rfl, _, hx.bot T s, _, rfl, _, hy.top T s, _, _, rfl, rfl, m5, ?_⟩
    have n0 : b.num ≠ 0 := fun e => ob.nz (Rat.num_eq_zero.mp e)
    refine ⟨G, _, _, rfl, s, ⟨Int.mul_ne_zero (by have := a.den_nz; omega) n0, ?_⟩, fun v G' H' e h => ?_⟩
    · rw [Int.natAbs_mul]
      exact Nat.lt_trans (Nat.lt_of_lt_of_eq (Nat.mul_lt_mul'' (show ((a.den : Nat) : Int).natAbs < 2 ^ 4490 from ba.den) ob.num) (by rw [← Nat.pow_add])) (Nat.pow_lt_pow_right (by decide) (by decide : 4490 + 4490 < 9000))
    · rw [← r_div] at h
      exact k _ _ _ e h
theorem ok_under (F : FnP K "under" "Fraction.under" (sFM 5) f fd) (T : Txt K mg c) : FnOk P w K mg base CX0 1 f fd ["self", "other"] (spUnder c) := by
  refine F.ok scUnder (fun vs H Q E h => ?_) (fun cdv A outer s H vs Q E hr h => ?_)
  · obtain ⟨G, x, y, a, b, rfl, _⟩ := h
    rfl
  · obtain ⟨G, x, y, a, b, rfl, s, hx, hy, ba, bb, k⟩ := h
    obtain ⟨m1, m2, m3, m4, m5⟩ := bd_mulx ba bb
    refine ⟨_, PSs.nox (pss_one (ps_ret (pe_cmpR op_lt (pe_op op_mulX (pe_f (pv 0)) (pe_f (pv 1))) (pe_op op_mulX (pe_f (pv 1)) (pe_f (pv 0))) (nomark _)))), ?_⟩
    refine ⟨_, rfl, _, hx.top T s, _, rfl, _, hy.bot T s, _, _, rfl, rfl, m2, _, rfl, _, hy.top T s, _, rfl, _, hx.bot T s, _, _, rfl, rfl, m3, _, _, rfl, rfl, ?_⟩
    have e : decide (a.num * b.den < b.num * a.den) = decide (a < b) := decide_eq_decide.mpr (Rat.lt_iff a b).symm
    show Q (.bl (decide (a.num * b.den < b.num * a.den))) H
    rw [e]; exact k
theorem ok_same (F : FnP K "same" "Fraction.same" (sFM 6) f fd) (T : Txt K mg c) : FnOk P w K mg base CX0 1 f fd ["self", "other"] (spSame c) := by
  refine F.ok scSame (fun vs H Q E h => ?_) (fun cdv A outer s H vs Q E hr h => ?_)
  · obtain ⟨G, x, y, a, b, rfl, _⟩ := h
    rfl
  · obtain ⟨G, x, y, a, b, rfl, s, hx, hy, k⟩ := h
    refine ⟨_, PSs.nox (pss_one (ps_ret (pe_and (pe_cmpR op_eq (pe_f (pv 0)) (pe_f (pv 1)) (nomark _)) (pe_one (pe_cmpR op_eq (pe_f (pv 0)) (pe_f (pv 1)) (nomark _)))))), ?_⟩
    refine ⟨_, rfl, _, hx.top T s, _, rfl, _, hy.top T s, rfl, _, rfl, ?_⟩
    by_cases h1 : a.num = b.num
    · rw [decide_eq_true (by rw [h1] : V.int a.num = V.int b.num)]
      refine iteT ⟨_, rfl, _, hx.bot T s, _, rfl, _, hy.bot T s, rfl, ?_⟩
      have e : decide (V.int (a.den : Int) = V.int (b.den : Int)) = decide (a = b) := decide_eq_decide.mpr ⟨fun z => r_same.mp ⟨h1, V.int.inj z⟩, fun z => by rw [z]⟩
      show Q (.bl (decide (V.int (a.den : Int) = V.int (b.den : Int)))) H
      rw [e]; exact k
    · rw [decide_eq_false (fun z => h1 (V.int.inj z) : ¬ V.int a.num = V.int b.num)]
      refine iteF ?_
      rw [decide_eq_false (fun z => h1 (by rw [z]) : ¬ a = b)] at k
      exact k
theorem ok_sign (F : FnP K "sign" "Fraction.sign" (sFM 7) f fd) (T : Txt K mg c) : FnOk P w K mg base CX0 1 f fd ["self"] (spSign c) := by
  refine F.ok scSign (fun vs H Q E h => ?_) (fun cdv A outer s H vs Q E hr h => ?_)
  · obtain ⟨G, x, a, rfl, _⟩ := h
    rfl
  · obtain ⟨G, x, a, rfl, s, hx, k⟩ := h
    refine ⟨_, PSs.nox (pss_cons (ps_if (pt_cmpR op_gt (pe_f (pv 0)) pe_int (nomark _)) (pss_one (ps_ret pe_int)) pss_nil)
      (pss_cons (ps_if (pt_cmpR op_lt (pe_f (pv 0)) pe_int (nomark _)) (pss_one (ps_ret (pe_un un_neg pe_int))) pss_nil) (pss_one (ps_ret pe_int)))), ?_⟩
    refine ⟨_, rfl, _, hx.top T s, _, _, rfl, rfl, _, rfl, ?_⟩
    unfold sgn at k
    by_cases h1 : 0 < a
    · rw [decide_eq_true (r_pos.mpr h1)]
      rw [if_pos h1] at k
      exact iteT k
    · rw [decide_eq_false (fun z => h1 (r_pos.mp z))]
      rw [if_neg h1] at k
      refine iteF ⟨_, rfl, _, hx.top T s, _, _, rfl, rfl, _, rfl, ?_⟩
      by_cases h2 : a < 0
      · rw [decide_eq_true (r_neg.mpr h2)]
        rw [if_pos h2] at k
        exact iteT ⟨_, rfl, k⟩
      · rw [decide_eq_false (fun z => h2 (r_neg.mp z))]
        rw [if_neg h2] at k
        exact iteF k
end
end GH
end
section
set_option maxRecDepth 100000
/-! Ways. -/
namespace GH
open PySem PySem.Spec PyProof.Rows L2 GM
/-! ### sizes of products -/
theorem den_mul_le (a b : Rat) : (a * b).den ≤ a.den * b.den := by
  rw [Rat.den_mul]; exact Nat.div_le_self _ _
theorem num_mul_le (a b : Rat) : (a * b).num.natAbs ≤ a.num.natAbs * b.num.natAbs := by
  rw [Rat.num_mul, ← Int.natAbs_mul]
  exact Int.natAbs_ediv_le_natAbs _ _
/-- small enough to be multiplied by a gain -/
structure Be (a : Rat) : Prop where
  den : a.den < 2 ^ 4470
  num : a.num.natAbs < 2 ^ 90000
theorem Be.bd {a : Rat} (h : Be a) : Bd a := ⟨Nat.lt_trans h.den (Nat.pow_lt_pow_right (by decide) (by decide)), Nat.lt_trans h.num (Nat.pow_lt_pow_right (by decide) (by decide))⟩
/-- at most 2 ^ 10 -/
structure Sm10 (g : Rat) : Prop where
  den : g.den ≤ 2 ^ 10
  num : g.num.natAbs ≤ 2 ^ 10
theorem Sm10.be {g : Rat} (h : Sm10 g) : Be g := ⟨Nat.lt_of_le_of_lt h.den (Nat.pow_lt_pow_right (by decide) (by decide)), Nat.lt_of_le_of_lt h.num (Nat.pow_lt_pow_right (by decide) (by decide))⟩
theorem Be.mul {a g : Rat} (h : Be a) (k : Sm10 g) : Bd (a * g) := by
  refine ⟨Nat.lt_of_le_of_lt (den_mul_le a g) ?_, Nat.lt_of_le_of_lt (num_mul_le a g) ?_⟩
  · have : a.den * g.den < 2 ^ 4470 * (2 ^ 10 + 1) := Nat.mul_lt_mul'' h.den (Nat.lt_succ_of_le k.den)
    refine Nat.lt_trans this ?_
    have : (2 : Nat) ^ 10 + 1 < 2 ^ 20 := by decide
    calc 2 ^ 4470 * (2 ^ 10 + 1) < 2 ^ 4470 * 2 ^ 20 := Nat.mul_lt_mul_of_pos_left this (Nat.pow_pos (by decide))
      _ = 2 ^ 4490 := by rw [← Nat.pow_add]
  · have : a.num.natAbs * g.num.natAbs < 2 ^ 90000 * (2 ^ 10 + 1) := Nat.mul_lt_mul'' h.num (Nat.lt_succ_of_le k.num)
    refine Nat.lt_trans this ?_
    have : (2 : Nat) ^ 10 + 1 < 2 ^ 20 := by decide
    calc 2 ^ 90000 * (2 ^ 10 + 1) < 2 ^ 90000 * 2 ^ 20 := Nat.mul_lt_mul_of_pos_left this (Nat.pow_pos (by decide))
      _ = 2 ^ 90020 := by rw [← Nat.pow_add]
      _ < 2 ^ 100000 := Nat.pow_lt_pow_right (by decide) (by decide)
/-! ### a way's fields -/
def wf (n s g : Str) (vh vc : V) : List (Str × V) := putF "cost" vc (putF "high" vh (putF "goal" (.str g) (putF "start" (.str s) (putF "name" (.str n) []))))
section
variable {n s g : Str} {vh vc : V}
theorem wf_name : (wf n s g vh vc).lookup ("name" : Str) = some (.str n) := by
  unfold wf
  repeat (first | rw [lookup_putF, if_pos rfl] | rw [lookup_putF, if_neg (by decide +kernel)])
theorem wf_start : (wf n s g vh vc).lookup ("start" : Str) = some (.str s) := by
  unfold wf
  repeat (first | rw [lookup_putF, if_pos rfl] | rw [lookup_putF, if_neg (by decide +kernel)])
theorem wf_goal : (wf n s g vh vc).lookup ("goal" : Str) = some (.str g) := by
  unfold wf
  repeat (first | rw [lookup_putF, if_pos rfl] | rw [lookup_putF, if_neg (by decide +kernel)])
theorem wf_cost : (wf n s g vh vc).lookup ("cost" : Str) = some vc := by
  unfold wf
  repeat (first | rw [lookup_putF, if_pos rfl] | rw [lookup_putF, if_neg (by decide +kernel)])
theorem wf_no {m : Str} (h1 : ¬ m = "cost") (h2 : ¬ m = "high") (h3 : ¬ m = "goal") (h4 : ¬ m = "start") (h5 : ¬ m = "name") : (wf n s g vh vc).lookup m = none := by
  unfold wf
  rw [lookup_putF, if_neg h1, lookup_putF, if_neg h2, lookup_putF, if_neg h3, lookup_putF, if_neg h4, lookup_putF, if_neg h5]
  rfl
end
/-- what is asked of a way's numbers -/
structure WyOk (w : Wy Str) : Prop where
  pos : 0 < w.gain
  gain : Sm10 w.gain
  loss : Sm10 (1 - w.gain)
  cost : Sm10 w.cost
/-- a way of the class at C -/
def WayAs (c : Cl) (C : Addr) : Rl (Wy Str) := fun G v w => WyOk w ∧ ∃ a dx vh vc, v = .ref a ∧ Fr c G vc w.cost ∧
  ((C = c.W ∧ G a = some (.ins C dx (wf w.name w.start w.goal vh vc)) ∧ w.gain = 1) ∨
   (C = c.G ∧ ∃ vr, G a = some (.ins C dx (putF "rate" vr (wf w.name w.start w.goal vh vc))) ∧ Fr c G vr w.gain) ∨
   (C = c.L ∧ ∃ vl, G a = some (.ins C dx (putF "loss" vl (wf w.name w.start w.goal vh vc))) ∧ Fr c G vl (1 - w.gain)))
def WayAt (c : Cl) : Rl (Wy Str) := fun G v w => WayAs c c.W G v w ∨ WayAs c c.G G v w ∨ WayAs c c.L G v w
theorem WayAs.mono {c : Cl} {C : Addr} : Mono (WayAs c C) := fun {G G' v w} s h => by
  obtain ⟨ok, a, dx, vh, vc, e, hc, h⟩ := h
  refine ⟨ok, a, dx, vh, vc, e, Fr.mono s hc, ?_⟩
  rcases h with ⟨h1, h2, h3⟩ | ⟨h1, vr, h2, h3⟩ | ⟨h1, vr, h2, h3⟩
  · exact .inl ⟨h1, s.ins h2, h3⟩
  · exact .inr (.inl ⟨h1, vr, s.ins h2, Fr.mono s h3⟩)
  · exact .inr (.inr ⟨h1, vr, s.ins h2, Fr.mono s h3⟩)
theorem WayAt.mono {c : Cl} : Mono (WayAt c) := fun {G G' v w} s h => by
  rcases h with h | h | h
  · exact .inl (WayAs.mono s h)
  · exact .inr (.inl (WayAs.mono s h))
  · exact .inr (.inr (WayAs.mono s h))
theorem WayAt.ok {c : Cl} {G : Hp} {v : V} {w : Wy Str} (h : WayAt c G v w) : WyOk w := by
  rcases h with h | h | h <;> exact h.1
section
variable {K : PySem.W.Frag} {mg : Str → Option Value} {c : Cl} {G H : Hp} {v : V} {w : Wy Str} {C : Addr}
/-- the object of a way: its class, its fields -/
theorem WayAs.obj (h : WayAs c C G v w) : ∃ a dx fs vc, v = .ref a ∧ G a = some (.ins C dx fs) ∧ Fr c G vc w.cost ∧ fs.lookup ("name" : Str) = some (.str w.name) ∧ fs.lookup ("start" : Str) = some (.str w.start) ∧ fs.lookup ("goal" : Str) = some (.str w.goal) ∧
    fs.lookup ("cost" : Str) = some vc ∧ fs.lookup ("gain" : Str) = none ∧ fs.lookup ("out" : Str) = none := by
  obtain ⟨ok, a, dx, vh, vc, e, hc, h⟩ := h
  rcases h with ⟨h1, h2, h3⟩ | ⟨h1, vr, h2, h3⟩ | ⟨h1, vr, h2, h3⟩
  · exact ⟨a, dx, _, vc, e, h2, hc, wf_name, wf_start, wf_goal, wf_cost, wf_no (by decide +kernel) (by decide +kernel) (by decide +kernel) (by decide +kernel) (by decide +kernel), wf_no (by decide +kernel) (by decide +kernel) (by decide +kernel) (by decide +kernel) (by decide +kernel)⟩
  · have q : ∀ {m : Str}, ¬ m = "rate" → (putF "rate" vr (wf w.name w.start w.goal vh vc)).lookup m = (wf w.name w.start w.goal vh vc).lookup m := fun {m} hm => by rw [lookup_putF, if_neg hm]
    exact ⟨a, dx, _, vc, e, h2, hc, (q (by decide +kernel)).trans wf_name, (q (by decide +kernel)).trans wf_start, (q (by decide +kernel)).trans wf_goal, (q (by decide +kernel)).trans wf_cost,
      (q (by decide +kernel)).trans (wf_no (by decide +kernel) (by decide +kernel) (by decide +kernel) (by decide +kernel) (by decide +kernel)), (q (by decide +kernel)).trans (wf_no (by decide +kernel) (by decide +kernel) (by decide +kernel) (by decide +kernel) (by decide +kernel))⟩
  · have q : ∀ {m : Str}, ¬ m = "loss" → (putF "loss" vr (wf w.name w.start w.goal vh vc)).lookup m = (wf w.name w.start w.goal vh vc).lookup m := fun {m} hm => by rw [lookup_putF, if_neg hm]
    exact ⟨a, dx, _, vc, e, h2, hc, (q (by decide +kernel)).trans wf_name, (q (by decide +kernel)).trans wf_start, (q (by decide +kernel)).trans wf_goal, (q (by decide +kernel)).trans wf_cost,
      (q (by decide +kernel)).trans (wf_no (by decide +kernel) (by decide +kernel) (by decide +kernel) (by decide +kernel) (by decide +kernel)), (q (by decide +kernel)).trans (wf_no (by decide +kernel) (by decide +kernel) (by decide +kernel) (by decide +kernel) (by decide +kernel))⟩
theorem WayAt.fld (h : WayAt c G v w) (T : Txt K mg c) (s : Same G H) : FldOk K H v "name" (.str w.name) ∧ FldOk K H v "start" (.str w.start) ∧ FldOk K H v "goal" (.str w.goal) ∧ ∃ vc, FldOk K H v "cost" vc ∧ Fr c G vc w.cost := by
  have go : ∀ {C : Addr}, WCls K C → WayAs c C G v w → FldOk K H v "name" (.str w.name) ∧ FldOk K H v "start" (.str w.start) ∧ FldOk K H v "goal" (.str w.goal) ∧ ∃ vc, FldOk K H v "cost" vc ∧ Fr c G vc w.cost := fun {C} wc h => by
    obtain ⟨a, dx, fs, vc, e, ho, hc, l1, l2, l3, l4, _⟩ := h.obj
    have ho := s _ _ ho
    exact ⟨⟨a, C, dx, fs, e, ho, wc.cl, wc.nName, l1⟩, ⟨a, C, dx, fs, e, ho, wc.cl, wc.nStart, l2⟩, ⟨a, C, dx, fs, e, ho, wc.cl, wc.nGoal, l3⟩, vc, ⟨a, C, dx, fs, e, ho, wc.cl, wc.nCost, l4⟩, hc⟩
  rcases h with h | h | h
  · exact go T.cW h
  · exact go T.cG h
  · exact go T.cL h
theorem WayAt.name (h : WayAt c G v w) (T : Txt K mg c) (s : Same G H) : FldOk K H v "name" (.str w.name) := (h.fld T s).1
theorem WayAt.start (h : WayAt c G v w) (T : Txt K mg c) (s : Same G H) : FldOk K H v "start" (.str w.start) := (h.fld T s).2.1
theorem WayAt.goal (h : WayAt c G v w) (T : Txt K mg c) (s : Same G H) : FldOk K H v "goal" (.str w.goal) := (h.fld T s).2.2.1
theorem WayAt.cost (h : WayAt c G v w) (T : Txt K mg c) (s : Same G H) : ∃ vc, FldOk K H v "cost" vc ∧ Fr c G vc w.cost := (h.fld T s).2.2.2
end
/-! ### gain, out -/
def spGain (c : Cl) (C : Addr) : Sp := fun vs H Q _ => ∃ G x w, vs = [x] ∧ Same G H ∧ WayAs c C G x w ∧ Ret G H Q (fun v G' => Fr c G' v w.gain)
def spOut (c : Cl) (C : Addr) : Sp := fun vs H Q _ => ∃ G x y w a, vs = [x, y] ∧ Same G H ∧ WayAs c C G x w ∧ Fr c G y a ∧ Be a ∧ Ret G H Q (fun v G' => Fr c G' v (a * w.gain))
abbrev sWM (i : Nat) : Stmt := inClass (topS 56) i
abbrev sGM (i : Nat) : Stmt := inClass (topS 57) i
abbrev sLM (i : Nat) : Stmt := inClass (topS 58) i
/-- the methods of a Fraction, as they may be called -/
structure FrM (P : Program) (w : World) (K : PySem.W.Frag) (mg : Str → Option Value) (base : Heap) (c : Cl) : Prop where
  mkf : MkF P w K mg base c
  mkf2 : MkF2 P w K mg base c
  plus : Md P w K mg base c.F "plus" 4 ["self", "other"] (spPlus c)
  minus : Md P w K mg base c.F "minus" 4 ["self", "other"] (spMinus c)
  times : Md P w K mg base c.F "times" 4 ["self", "other"] (spTimes c)
  over : Md P w K mg base c.F "over" 4 ["self", "other"] (spOver c)
  under : Md P w K mg base c.F "under" 1 ["self", "other"] (spUnder c)
  same : Md P w K mg base c.F "same" 1 ["self", "other"] (spSame c)
  sign : Md P w K mg base c.F "sign" 1 ["self"] (spSign c)
section
variable {P : Program} {w : World} {K : PySem.W.Frag} {mg : Str → Option Value} {base : Heap} {c : Cl} {f : Addr} {fd : FuncData}
theorem scWG : FnScope ["self"] ["self"] (defScope (sWM 2)) := ⟨rfl, rfl, rfl, by decide +kernel, rfl, by decide +kernel, by decide +kernel⟩
theorem ok_gainW (F : FnP K "gain" "Way.gain" (sWM 2) f fd) (T : Txt K mg c) (D : FrM P w K mg base c) (hne : c.W ≠ c.G ∧ c.W ≠ c.L ∧ c.G ≠ c.L) : FnOk P w K mg base CX0 4 f fd ["self"] (spGain c c.W) := by
  refine F.ok scWG (fun vs H Q E h => ?_) (fun cdv A outer s H vs Q E hr h => ?_)
  · obtain ⟨G, x, w, rfl, _⟩ := h
    rfl
  · obtain ⟨G, x, w, rfl, s, hx, k⟩ := h
    have g1 : w.gain = 1 := by
      obtain ⟨ok, a, dx, vh, vc, e, hc, h⟩ := hx
      rcases h with ⟨_, _, h⟩ | ⟨h, _⟩ | ⟨h, _⟩
      · exact h
      · exact absurd h hne.1
      · exact absurd h hne.2.1
    refine ⟨_, PSs.nox (pss_one (ps_ret (pe_fr1 D.mkf hr (by rfl) (pa_cons pe_int pa_nil)))), ?_⟩
    refine ⟨G, 1, rfl, s, fun v G' H' e h => k v G' H' e ?_⟩
    rw [g1]; exact h
theorem scGG : FnScope ["self"] ["self"] (defScope (sGM 1)) := ⟨rfl, rfl, rfl, by decide +kernel, rfl, by decide +kernel, by decide +kernel⟩
theorem ok_gainG (F : FnP K "gain" "Growing.gain" (sGM 1) f fd) (T : Txt K mg c) (hne : c.W ≠ c.G ∧ c.W ≠ c.L ∧ c.G ≠ c.L) : FnOk P w K mg base CX0 1 f fd ["self"] (spGain c c.G) := by
  refine F.ok scGG (fun vs H Q E h => ?_) (fun cdv A outer s H vs Q E hr h => ?_)
  · obtain ⟨G, x, w, rfl, _⟩ := h
    rfl
  · obtain ⟨G, x, w, rfl, s, hx, k⟩ := h
    obtain ⟨ok, a, dx, vh, vc, e, hc, h⟩ := hx
    rcases h with ⟨h, _⟩ | ⟨_, vr, h1, h2⟩ | ⟨h, _⟩
    · exact absurd h.symm hne.1
    · refine ⟨_, PSs.nox (pss_one (ps_ret (pe_f (pv 0)))), ?_⟩
      refine ⟨_, rfl, vr, ⟨a, c.G, dx, _, e, s _ _ h1, T.cG.cl, T.nRate, by rw [lookup_putF, if_pos rfl]⟩, ?_⟩
      exact k _ _ _ (Ext.refl s) h2
    · exact absurd h hne.2.2
theorem scLG : FnScope ["self"] ["self"] (defScope (sLM 1)) := ⟨rfl, rfl, rfl, by decide +kernel, rfl, by decide +kernel, by decide +kernel⟩
theorem ok_gainL (F : FnP K "gain" "Leaking.gain" (sLM 1) f fd) (T : Txt K mg c) (D : FrM P w K mg base c) (hne : c.W ≠ c.G ∧ c.W ≠ c.L ∧ c.G ≠ c.L) : FnOk P w K mg base CX0 5 f fd ["self"] (spGain c c.L) := by
  refine F.ok scLG (fun vs H Q E h => ?_) (fun cdv A outer s H vs Q E hr h => ?_)
  · obtain ⟨G, x, w, rfl, _⟩ := h
    rfl
  · obtain ⟨G, x, w, rfl, s, hx, k⟩ := h
    obtain ⟨ok, a, dx, vh, vc, e, hc, h⟩ := hx
    rcases h with ⟨h, _⟩ | ⟨h, _⟩ | ⟨_, vl, h1, h2⟩
    · exact absurd h.symm hne.2.1
    · exact absurd h.symm hne.2.2
    · refine ⟨_, PSs.nox (pss_one (ps_ret (pe_m T.clF D.minus hr (pe_fr1 D.mkf (hr.mono (by decide)) (by rfl) (pa_cons pe_int pa_nil)) (pa_cons (pe_f (pv 0)) pa_nil)))), ?_⟩
      refine ⟨G, 1, rfl, s, fun v G' H' e1 hv => ⟨hv.ins e1.gh, _, rfl, vl, ⟨a, c.L, dx, _, e, e1.h _ _ (s _ _ h1), T.cL.cl, T.nLoss, by rw [lookup_putF, if_pos rfl]⟩, ?_⟩⟩
      have b1 : Bd ((1 : Int) : Rat) := ⟨Nat.pow_lt_pow_right (a := 2) (m := 0) (by decide) (by decide), Nat.pow_lt_pow_right (a := 2) (m := 0) (by decide) (by decide)⟩
      refine ⟨G', v, vl, _, _, rfl, e1.gh, hv, Fr.mono (same_sm e1.g) h2, b1, ok.loss.be.bd, trivial, fun v2 G2 H2 e2 h => k v2 G2 H2 (e1.trans e2) ?_⟩
      exact Fr.eq h (show (1 : Rat) - (1 - w.gain) = w.gain by grind)
theorem scWO : FnScope ["self", "amount"] ["self", "amount"] (defScope (sWM 3)) := ⟨rfl, rfl, rfl, by decide +kernel, rfl, by decide +kernel, by decide +kernel⟩
/-- Way.out at the class C: W itself, or G -/
theorem ok_outW {C : Addr} (F : FnP K "out" "Way.out" (sWM 3) f fd) (T : Txt K mg c) (D : FrM P w K mg base c) (hC : Cls K C) (Gn : Md P w K mg base C "gain" 5 ["self"] (spGain c C)) : FnOk P w K mg base CX0 6 f fd ["self", "amount"] (spOut c C) := by
  refine F.ok scWO (fun vs H Q E h => ?_) (fun cdv A outer s H vs Q E hr h => ?_)
  · obtain ⟨G, x, y, w, a, rfl, _⟩ := h
    rfl
  · obtain ⟨G, x, y, w, a, rfl, s, hx, hy, ba, k⟩ := h
    refine ⟨_, PSs.nox (pss_one (ps_ret (pe_m T.clF D.times (hr.mono (by decide)) (pv 1) (pa_cons (pe_m0 hC Gn hr (pv 0)) pa_nil)))), ?_⟩
    obtain ⟨ax, dx, fs, vc, e, ho, hc, l1, l2, l3, l4, l5, l6⟩ := hx.obj
    refine ⟨_, rfl, hy.ins s, _, rfl, ⟨ax, dx, fs, e, s _ _ ho, l5⟩, G, x, w, rfl, s, hx, fun v G' H' e1 hv => ?_⟩
    exact ⟨G', y, v, a, w.gain, rfl, e1.gh, Fr.mono (same_sm e1.g) hy, hv, ba.bd, hx.1.gain.be.bd, trivial, fun v2 G2 H2 e2 h => k v2 G2 H2 (e1.trans e2) h⟩
theorem scLO : FnScope ["self", "amount"] ["self", "amount"] (defScope (sLM 2)) := ⟨rfl, rfl, rfl, by decide +kernel, rfl, by decide +kernel, by decide +kernel⟩
theorem ok_outL (F : FnP K "out" "Leaking.out" (sLM 2) f fd) (T : Txt K mg c) (D : FrM P w K mg base c) (hne : c.W ≠ c.G ∧ c.W ≠ c.L ∧ c.G ≠ c.L) : FnOk P w K mg base CX0 5 f fd ["self", "amount"] (spOut c c.L) := by
  refine F.ok scLO (fun vs H Q E h => ?_) (fun cdv A outer s H vs Q E hr h => ?_)
  · obtain ⟨G, x, y, w, a, rfl, _⟩ := h
    rfl
  · obtain ⟨G, x, y, w, a, rfl, s, hx, hy, ba, k⟩ := h
    obtain ⟨ok, ax, dx, vh, vc, e, hc, h⟩ := hx
    rcases h with ⟨h, _⟩ | ⟨h, _⟩ | ⟨_, vl, h1, h2⟩
    · exact absurd h.symm hne.2.1
    · exact absurd h.symm hne.2.2
    · refine ⟨_, PSs.nox (pss_one (ps_ret (pe_m T.clF D.minus hr (pv 1) (pa_cons (pe_m T.clF D.times hr (pv 1) (pa_cons (pe_f (pv 0)) pa_nil)) pa_nil)))), ?_⟩
      refine ⟨_, rfl, hy.ins s, _, rfl, hy.ins s, _, rfl, vl, ⟨ax, c.L, dx, _, e, s _ _ h1, T.cL.cl, T.nLoss, by rw [lookup_putF, if_pos rfl]⟩, ?_⟩
      refine ⟨G, y, vl, a, _, rfl, s, hy, h2, ba.bd, ok.loss.be.bd, trivial, fun v G' H' e1 hv => ?_⟩
      refine ⟨G', y, v, a, _, rfl, e1.gh, Fr.mono (same_sm e1.g) hy, hv, ba.bd, ba.mul ok.loss, trivial, fun v2 G2 H2 e2 h => k v2 G2 H2 (e1.trans e2) ?_⟩
      exact Fr.eq h (show a - a * (1 - w.gain) = a * w.gain by grind)
end
/-! ### the same, whatever the class -/
structure WyM (P : Program) (w : World) (K : PySem.W.Frag) (mg : Str → Option Value) (base : Heap) (c : Cl) : Prop where
  gW : Md P w K mg base c.W "gain" 5 ["self"] (spGain c c.W)
  gG : Md P w K mg base c.G "gain" 5 ["self"] (spGain c c.G)
  gL : Md P w K mg base c.L "gain" 5 ["self"] (spGain c c.L)
  oW : Md P w K mg base c.W "out" 6 ["self", "amount"] (spOut c c.W)
  oG : Md P w K mg base c.G "out" 6 ["self", "amount"] (spOut c c.G)
  oL : Md P w K mg base c.L "out" 6 ["self", "amount"] (spOut c c.L)
/-- o.gain(), o.out(a) of a way -/
def tGain (c : Cl) (ta : TE) : TE := fun σ H Q => ta σ H fun x H1 => ∃ G w, Same G H1 ∧ WayAt c G x w ∧ Ret G H1 Q (fun v G' => Fr c G' v w.gain)
def tOut (c : Cl) (ta : TE) (t : TA) : TE := fun σ H Q => ta σ H fun x H1 => ∃ G0 w, Same G0 H1 ∧ WayAt c G0 x w ∧ t σ H1 fun vs H2 => ∃ G y a, vs = [y] ∧ Same G H2 ∧ Same G0 G ∧ Fr c G y a ∧ Be a ∧ Ret G H2 Q (fun v G' => Fr c G' v (a * w.gain))
section
variable {X : Cx} {p pos apos : Pos} {o e : Expr} {es : List Expr} {ta : TE} {t : TA} {c : Cl}
theorem pe_gain {pl : Sem Bool} (T : Txt X.K X.mg c) (D : WyM X.prog X.w X.K X.mg X.base c) (hr : Room 6 X.A) (he : PE X o ta)
    (ht : eval (.Call (.Attribute o "gain" apos) [] [] pos) X.env = (do
      let ov ← eval o X.env
      standAt apos.atName
      let (g, fi) ← holding [ov] (getMethod ov "gain" pl)
      callWith pos g fi (backTo pos (starEach [] X.env)) (backToKw pos (keywordEach [] X.env))) := by rfl) : PE X (.Call (.Attribute o "gain" apos) [] [] pos) (tGain c ta) := by
  refine ⟨fun pins s σ H Q I hq => ?_⟩
  refine PySem.W.methodCall_KW (pl := pl) (thn (he.run pins s σ H _ I hq) fun u s1 z => ?_) ht
  obtain ⟨x, H1, I1, rx, G, w, sg, hx, q⟩ := z
  have go : ∀ {C : Addr}, Cls X.K C → Md X.prog X.w X.K X.mg X.base C "gain" 5 ["self"] (spGain c C) → WayAs c C G x w →
      wpAny (model X.prog X.w) X.A (getMethod u "gain" pl) (fun fx s2 => wpAny (model X.prog X.w) X.A (callWith pos fx.1 fx.2 (backTo pos (starEach [] X.env)) (backToKw pos (keywordEach [] X.env))) (EP X pins σ Q) X.xe s2) X.xe s1 := fun {C} hC F h => by
    obtain ⟨f, fd, F, M, hb⟩ := F
    obtain ⟨a, dx, fs, vc, ex, ho, hc, l1, l2, l3, l4, l5, l6⟩ := h.obj
    subst ex
    obtain rfl : u = Value.ref a := rx
    exact getmeth_ok I1 (sg _ _ ho) hC M l5 (PySem.W.callWith_K0 (first := [.ref a]) I1.kIn M.kp (run_fn (us := [.ref a]) (vs := [.ref a]) (dvs := []) F (hr.mono (by decide)) hb .nil pass0 I1 (.cons rfl .nil) ⟨G, _, w, rfl, sg, h, q⟩))
  rcases hx with h | h | h
  · exact go T.cW.cl D.gW h
  · exact go T.cG.cl D.gG h
  · exact go T.cL.cl D.gL h
theorem pe_out {pl : Sem Bool} (T : Txt X.K X.mg c) (D : WyM X.prog X.w X.K X.mg X.base c) (hr : Room 6 X.A) (he : PE X o ta) (ha : PA X (e :: es) t)
    (hst : starEach (e :: es) X.env = (false, eval e X.env) :: starEach es X.env := by rfl) (hpl : (backTo pos (starEach es X.env)).any (·.1) = false := by rfl)
    (ht : eval (.Call (.Attribute o "out" apos) (e :: es) [] pos) X.env = (do
      let ov ← eval o X.env
      standAt apos.atName
      let (g, fi) ← holding [ov] (getMethod ov "out" pl)
      callWith pos g fi (backTo pos (starEach (e :: es) X.env)) (backToKw pos (keywordEach [] X.env))) := by rfl) : PE X (.Call (.Attribute o "out" apos) (e :: es) [] pos) (tOut c ta t) := by
  refine ⟨fun pins s σ H Q I hq => ?_⟩
  refine PySem.W.methodCall_KW (pl := pl) (thn (he.run pins s σ H _ I hq) fun u s1 z => ?_) ht
  obtain ⟨x, H1, I1, rx, G0, w, sg0, hx, q⟩ := z
  have go : ∀ {C : Addr}, Cls X.K C → Md X.prog X.w X.K X.mg X.base C "out" 6 ["self", "amount"] (spOut c C) → WayAs c C G0 x w →
      wpAny (model X.prog X.w) X.A (getMethod u "out" pl) (fun fx s2 => wpAny (model X.prog X.w) X.A (callWith pos fx.1 fx.2 (backTo pos (starEach (e :: es) X.env)) (backToKw pos (keywordEach [] X.env))) (EP X pins σ Q) X.xe s2) X.xe s1 := fun {C} hC F h => by
    obtain ⟨f, fd, F, M, hb⟩ := F
    obtain ⟨a, dx, fs, vc, ex, ho, hc, l1, l2, l3, l4, l5, l6⟩ := h.obj
    subst ex
    obtain rfl : u = Value.ref a := rx
    refine getmeth_ok I1 (sg0 _ _ ho) hC M l6 (PySem.W.callWith_K (first := [.ref a]) (h₀ := X.base) I.ok.mod.kin M.kp ?_ hst hpl)
    refine thn (ha.run pos pins s1 σ H1 _ I1 q) fun us s2 z => ?_
    obtain ⟨vs, H2, I2, r, G, y, am, ev, sg, s0, hy, ba, k⟩ := z
    refine ⟨I2.kIn, run_fn (us := .ref a :: us) (vs := .ref a :: vs) (dvs := []) F (hr.mono (by decide)) hb .nil pass0 I2 (.cons rfl r) ?_⟩
    subst ev
    exact ⟨G, _, y, w, am, rfl, sg, WayAs.mono (same_sm s0) h, hy, ba, k⟩
  rcases hx with h | h | h
  · exact go T.cW.cl D.oW h
  · exact go T.cG.cl D.oG h
  · exact go T.cL.cl D.oL h
end
/-! ### what is never asked -/
section
variable {X : Cx} {e : Expr}
theorem pt_never : PT X e (fun _ _ _ => False) := ⟨fun _ _ _ _ _ _ h => h.elim⟩
theorem pe_never : PE X e (fun _ _ _ => False) := ⟨fun _ _ _ _ _ _ h => h.elim⟩
end
/-! ### ways made -/
def okHigh (c : Cl) (G : Hp) (v : V) : Prop := v = .non ∨ ∃ h, Fr c G v h ∧ 0 ≤ h
/-- Way.__init__ of an instance of the class at C -/
def spWI (c : Cl) (K : PySem.W.Frag) : Sp := fun vs H Q _ => ∃ (C p dx : Addr) (G : Hp) (n s g : Str) (vh vc : V) (x : Rat), vs = [.ref p, .str n, .str s, .str g, vh, vc] ∧ WCls K C ∧ Same G H ∧ H p = some (.ins C dx []) ∧ s ≠ g ∧ okHigh c G vh ∧ Fr c G vc x ∧
  Q .non (upd H p (.ins C dx (wf n s g vh vc)))
abbrev sWI : Stmt := sWM 0
section
variable {P : Program} {w : World} {K : PySem.W.Frag} {mg : Str → Option Value} {base : Heap} {c : Cl} {f : Addr} {fd : FuncData}
theorem scWI : FnScope ["self", "name", "start", "goal", "high", "cost"] ["self", "name", "start", "goal", "high", "cost"] (defScope sWI) := ⟨rfl, rfl, rfl, by decide +kernel, rfl, by decide +kernel, by decide +kernel⟩
theorem ok_WI (F : FnD K "__init__" "Way.__init__" sWI [.non, .non] f fd) (T : Txt K mg c) (D : FrM P w K mg base c) : FnOk P w K mg base CX0 2 f fd ["self", "name", "start", "goal", "high", "cost"] (spWI c K) := by
  refine F.ok scWI (fun vs H Q E h => ?_) (fun cdv A outer s H vs Q E hr h => ?_)
  · obtain ⟨C, p, dx, G, n, s, g, vh, vc, x, rfl, _⟩ := h
    rfl
  · obtain ⟨C, p, dx, G, n, st, g, vh, vc, x, rfl, wc, s, hp, ne, hh, hc, q⟩ := h
    refine ⟨_, PSs.nox (pss_cons (ps_if (pw_and (pt_cmpR op_eq (pv 2) (pv 3) (nomark _)) (pw_and1 (pt_never (e := _)))).pt pss_never pss_nil)
      (pss_cons (ps_if (pw_and (pt_cmpR op_notN (pv 4) pe_non (nomark _)) (pw_and1 (pt_cmpR op_lt (pe_m0 T.clF D.sign (hr.mono (by decide)) (pv 4)) pe_int (nomark _)))).pt pss_never pss_nil)
      (pss_cons (ps_fld (pv 0) (pv 1) rfl) (pss_cons (ps_fld (pv 0) (pv 2) rfl) (pss_cons (ps_fld (pv 0) (pv 3) rfl) (pss_cons (ps_fld (pv 0) (pv 4) rfl) (pss_cons (ps_fld (pv 0) (pv 5) rfl)
      (pss_one (ps_if (pt_cmpR op_isN (pv 5) pe_non (nomark _)) pss_never pss_nil))))))))), ?_⟩
    have e1 : decide (V.str st = V.str g) = false := decide_eq_false fun z => ne (V.str.inj z)
    refine ⟨_, rfl, _, rfl, rfl, _, rfl, ?_⟩
    rw [e1]
    have fin : ∀ σ : L2.St, σ = [some (.ref p), some (.str n), some (.str st), some (.str g), some vh, some vc] →
        tSeq (sFld K (tVar 0) (tVar 1) "name") (tSeq (sFld K (tVar 0) (tVar 2) "start") (tSeq (sFld K (tVar 0) (tVar 3) "goal") (tSeq (sFld K (tVar 0) (tVar 4) "high") (tSeq (sFld K (tVar 0) (tVar 5) "cost")
          (tIfS (tTest (tOp (fun x y H Q => y = .non ∧ Q (.bl (decide (x = .non))) H) (tVar 5) (tC .non))) tNever tNext))))) { nx := fun _ H' => Q .non H', rt := Q } σ H := by
      rintro σ rfl
      refine ⟨_, rfl, _, rfl, p, C, dx, [], rfl, hp, wc.cl, wc.nName, (by show 0 < 1000; decide), ?_⟩
      refine ⟨_, rfl, _, rfl, p, C, dx, _, rfl, upd_same, wc.cl, wc.nStart, (by show 1 < 1000; decide), ?_⟩
      refine ⟨_, rfl, _, rfl, p, C, dx, _, rfl, upd_same, wc.cl, wc.nGoal, (by show 2 < 1000; decide), ?_⟩
      refine ⟨_, rfl, _, rfl, p, C, dx, _, rfl, upd_same, wc.cl, wc.nHigh, (by show 3 < 1000; decide), ?_⟩
      refine ⟨_, rfl, _, rfl, p, C, dx, _, rfl, upd_same, wc.cl, wc.nCost, (by show 4 < 1000; decide), ?_⟩
      refine ⟨_, rfl, rfl, _, rfl, ?_⟩
      have e3 : decide (vc = V.non) = false := decide_eq_false fun z => by
        obtain ⟨a, dx, e, _⟩ := hc
        rw [z] at e; cases e
      rw [e3]
      refine iteF ?_
      rw [upd_upd, upd_upd, upd_upd, upd_upd]
      exact q
    refine iteF (iteF ⟨_, rfl, rfl, _, rfl, ?_⟩)
    rcases hh with e | ⟨h, hv, h0⟩
    · subst e
      rw [show (!decide (V.non = V.non)) = false by decide]
      exact iteF (iteF (fin _ rfl))
    · have e2 : (!decide (vh = V.non)) = true := by
        obtain ⟨a, dx, e, _⟩ := hv
        rw [e, decide_eq_false (fun z => by cases z)]; rfl
      rw [e2]
      refine iteT ⟨_, rfl, hv.ins s, G, vh, h, rfl, s, hv, _, _, rfl, rfl, _, rfl, ?_⟩
      have e4 : decide (sgn h < 0) = false := decide_eq_false fun z => by
        unfold sgn at z
        split at z
        · omega
        · split at z
          · rename_i _ k
            exact absurd k (Rat.not_lt.mpr h0)
          · omega
      rw [e4]
      exact iteF (fin _ rfl)
theorem ext_ins {G H G' H' : Hp} {p : Addr} {o : HO} (e : Ext G H G' H') (s : Same G H) (gp : G p = none) (hp : H p = some o) : G' p = none ∧ H' p = some o := e.keep gp hp
/-- Growing.__init__, Leaking.__init__ -/
def spGI (c : Cl) : Sp := fun vs H Q _ => ∃ (p dx : Addr) (G : Hp) (n s g : Str) (vr vh vc : V) (r x : Rat), vs = [.ref p, .str n, .str s, .str g, vr, vh, vc] ∧ Same G H ∧ G p = none ∧ H p = some (.ins c.G dx []) ∧ s ≠ g ∧ okHigh c G vh ∧ Fr c G vc x ∧ Fr c G vr r ∧ 0 < r ∧
  Q .non (upd H p (.ins c.G dx (putF "rate" vr (wf n s g vh vc))))
def spLI (c : Cl) : Sp := fun vs H Q _ => ∃ (p dx : Addr) (G : Hp) (n s g : Str) (vl vh vc : V) (l x : Rat), vs = [.ref p, .str n, .str s, .str g, vl, vh, vc] ∧ Same G H ∧ G p = none ∧ H p = some (.ins c.L dx []) ∧ s ≠ g ∧ okHigh c G vh ∧ Fr c G vc x ∧ Fr c G vl l ∧ 0 ≤ l ∧ l < 1 ∧ Bd l ∧
  ∀ G' H', ExtX p G H G' H' → G' p = none → H' p = some (.ins c.L dx (putF "loss" vl (wf n s g vh vc))) → Q .non H'
abbrev sGI : Stmt := sGM 0
abbrev sLI : Stmt := sLM 0
theorem scGI : FnScope ["self", "name", "start", "goal", "rate", "high", "cost"] ["self", "name", "start", "goal", "rate", "high", "cost"] (defScope sGI) := ⟨rfl, rfl, rfl, by decide +kernel, rfl, by decide +kernel, by decide +kernel⟩
theorem scLI : FnScope ["self", "name", "start", "goal", "loss", "high", "cost"] ["self", "name", "start", "goal", "loss", "high", "cost"] (defScope sLI) := ⟨rfl, rfl, rfl, by decide +kernel, rfl, by decide +kernel, by decide +kernel⟩
/-- Way.__init__ as the other classes call it -/
def WIok (P : Program) (w : World) (K : PySem.W.Frag) (mg : Str → Option Value) (base : Heap) (c : Cl) : Prop := ∃ mc f fd, ClX.CRead K c.W mc ∧ ClX.CVal K c.W mc "__init__" (.ref f) (.ref f) ∧ PySem.W.keepIn K (.ref f) = true ∧
  FnOk P w K mg base CX0 2 f fd ["self", "name", "start", "goal", "high", "cost"] (spWI c K) ∧ Binds K fd ["self", "name", "start", "goal", "high", "cost"] []
theorem ok_GI (F : FnD K "__init__" "Growing.__init__" sGI [.non, .non] f fd) (T : Txt K mg c) (D : FrM P w K mg base c) (B : WIok P w K mg base c) : FnOk P w K mg base CX0 3 f fd ["self", "name", "start", "goal", "rate", "high", "cost"] (spGI c) := by
  obtain ⟨mc, fW, fdW, cr, cv, kp, FW, bW⟩ := B
  refine F.ok scGI (fun vs H Q E h => ?_) (fun cdv A outer s H vs Q E hr h => ?_)
  · obtain ⟨p, dx, G, n, s, g, vr, vh, vc, r, x, rfl, _⟩ := h
    rfl
  · obtain ⟨p, dx, G, n, st, g, vr, vh, vc, r, x, rfl, s, gp, hp, ne, hh, hc, hvr, rp, q⟩ := h
    refine ⟨_, PSs.nox (pss_cons (ps_expr (pe_clsF (pe_glob (v := .ref c.W) (by rfl) T.gW rfl) cr cv kp FW hr bW .nil (pa_cons (pv 0) (pa_cons (pv 1) (pa_cons (pv 2) (pa_cons (pv 3) (pa_cons (pv 5) (pa_cons (pv 6) pa_nil))))))))
      (pss_cons (ps_if (pt_cmpR op_le (pe_m0 T.clF D.sign (hr.mono (by decide)) (pv 4)) pe_int (nomark _)) pss_never pss_nil)
      (pss_one (ps_fld (pv 0) (pv 4) rfl)))), ?_⟩
    refine ⟨rfl, _, rfl, _, rfl, _, rfl, _, rfl, _, rfl, _, rfl, ?_⟩
    refine ⟨c.G, p, dx, G, n, st, g, vh, vc, x, rfl, T.cG, s, hp, ne, hh, hc, ?_⟩
    have s2 : Same G (upd H p (.ins c.G dx (wf n st g vh vc))) := fun b o e => by rw [upd_ne (fun z => by rw [z, gp] at e; cases e)]; exact s b o e
    refine ⟨_, rfl, hvr.ins s2, G, vr, r, rfl, s2, hvr, _, _, rfl, rfl, _, rfl, ?_⟩
    have e4 : decide (sgn r ≤ 0) = false := decide_eq_false fun z => by
      unfold sgn at z
      rw [if_pos rp] at z
      omega
    rw [e4]
    refine iteF ⟨_, rfl, _, rfl, p, c.G, dx, _, rfl, upd_same, T.cG.cl, T.nRate, (by show 5 < 1000; decide), ?_⟩
    rw [upd_upd]
    exact q
theorem ok_LI (F : FnD K "__init__" "Leaking.__init__" sLI [.non, .non] f fd) (T : Txt K mg c) (D : FrM P w K mg base c) (B : WIok P w K mg base c) : FnOk P w K mg base CX0 5 f fd ["self", "name", "start", "goal", "loss", "high", "cost"] (spLI c) := by
  obtain ⟨mc, fW, fdW, cr, cv, kp, FW, bW⟩ := B
  refine F.ok scLI (fun vs H Q E h => ?_) (fun cdv A outer s H vs Q E hr h => ?_)
  · obtain ⟨p, dx, G, n, s, g, vl, vh, vc, l, x, rfl, _⟩ := h
    rfl
  · obtain ⟨p, dx, G, n, st, g, vl, vh, vc, l, x, rfl, s, gp, hp, ne, hh, hc, hvl, l0, l1, bl, q⟩ := h
    refine ⟨_, PSs.nox (pss_cons (ps_expr (pe_clsF (pe_glob (v := .ref c.W) (by rfl) T.gW rfl) cr cv kp FW (hr.mono (by decide)) bW .nil (pa_cons (pv 0) (pa_cons (pv 1) (pa_cons (pv 2) (pa_cons (pv 3) (pa_cons (pv 5) (pa_cons (pv 6) pa_nil))))))))
      (pss_cons (ps_if (pw_or (pt_cmpR op_lt (pe_m0 T.clF D.sign (hr.mono (by decide)) (pv 4)) pe_int (nomark _)) (pw_or1 (pt_not (pt_val (pe_m T.clF D.under (hr.mono (by decide)) (pv 4) (pa_cons (pe_fr1 D.mkf (hr.mono (by decide)) (by rfl) (pa_cons pe_int pa_nil)) pa_nil)))))).pt pss_never pss_nil)
      (pss_one (ps_fld (pv 0) (pv 4) rfl)))), ?_⟩
    refine ⟨rfl, _, rfl, _, rfl, _, rfl, _, rfl, _, rfl, _, rfl, ?_⟩
    refine ⟨c.L, p, dx, G, n, st, g, vh, vc, x, rfl, T.cL, s, hp, ne, hh, hc, ?_⟩
    have s2 : Same G (upd H p (.ins c.L dx (wf n st g vh vc))) := fun b o e => by rw [upd_ne (fun z => by rw [z, gp] at e; cases e)]; exact s b o e
    refine ⟨_, rfl, hvl.ins s2, G, vl, l, rfl, s2, hvl, _, _, rfl, rfl, _, rfl, ?_⟩
    have e4 : decide (sgn l < 0) = false := decide_eq_false fun z => by
      unfold sgn at z
      split at z
      · omega
      · split at z
        · rename_i _ k
          exact absurd k (Rat.not_lt.mpr l0)
        · omega
    rw [e4]
    refine iteF ⟨_, rfl, hvl.ins s2, G, 1, rfl, s2, fun v G' H' e hv => ?_⟩
    have b1 : Bd ((1 : Int) : Rat) := ⟨Nat.pow_lt_pow_right (a := 2) (m := 0) (by decide) (by decide), Nat.pow_lt_pow_right (a := 2) (m := 0) (by decide) (by decide)⟩
    refine ⟨G', vl, v, l, _, rfl, e.gh, Fr.mono (same_sm e.g) hvl, hv, bl, b1, _, rfl, ?_⟩
    rw [decide_eq_true (show l < ((1 : Int) : Rat) from l1)]
    refine iteF ?_
    obtain ⟨gp2, hp2⟩ := e.keep gp upd_same
    refine ⟨_, rfl, _, rfl, p, c.L, dx, _, rfl, hp2, T.cL.cl, T.nLoss, (by show 5 < 1000; decide), ?_⟩
    have e0 : ExtX p G H G (upd H p (.ins c.L dx (wf n st g vh vc))) := (Ext.refl s).x.wr gp
    exact q _ _ ((e0.trans (fun _ => some_ne upd_same) e).wr gp2) gp2 upd_same
/-! ### Way(..), Growing(..), Leaking(..): what their readings ask -/
/-- the two new things of an instance -/
theorem made2 {G H : Hp} {x dx C : Addr} (s : Same G H) (nx : H x = none) (nd : H dx = none) (ne : dx ≠ x) : Ext G H G (upd (upd H dx (.own x)) x (.ins C dx [])) ∧ G x = none := by
  have nd' : upd H dx (.own x) x = none := by rw [upd_ne (Ne.symm ne)]; exact nx
  exact ⟨(Ext.tmp (o := .own x) s nd).trans (Ext.tmp (Ext.tmp (o := .own x) s nd).gh nd'), Same.free s nx⟩
def rWay (c : Cl) (vs : List V) (H : Hp) (Q : VK) : Prop := ∃ G n s g vh vc x, vs = [.str n, .str s, .str g, vh, vc] ∧ Same G H ∧ s ≠ g ∧ okHigh c G vh ∧ Fr c G vc x ∧ WyOk ⟨n, s, g, 1, x⟩ ∧ Ret G H Q (fun v G' => WayAt c G' v ⟨n, s, g, 1, x⟩)
def rGrow (c : Cl) (vs : List V) (H : Hp) (Q : VK) : Prop := ∃ G n s g vr vh vc r x, vs = [.str n, .str s, .str g, vr, vh, vc] ∧ Same G H ∧ s ≠ g ∧ okHigh c G vh ∧ Fr c G vc x ∧ Fr c G vr r ∧ WyOk ⟨n, s, g, r, x⟩ ∧ Ret G H Q (fun v G' => WayAt c G' v ⟨n, s, g, r, x⟩)
def rLeak (c : Cl) (vs : List V) (H : Hp) (Q : VK) : Prop := ∃ G n s g vl vh vc r x, vs = [.str n, .str s, .str g, vl, vh, vc] ∧ Same G H ∧ s ≠ g ∧ okHigh c G vh ∧ Fr c G vc x ∧ Fr c G vl (1 - r) ∧ r ≤ 1 ∧ WyOk ⟨n, s, g, r, x⟩ ∧ Ret G H Q (fun v G' => WayAt c G' v ⟨n, s, g, r, x⟩)
theorem imp_way (T : Txt K mg c) {vs : List V} {H : Hp} {Q : VK} (z : rWay c vs H Q) : ∀ x dx, H x = none → H dx = none → dx ≠ x → spWI c K (.ref x :: (vs ++ [])) (upd (upd H dx (.own x)) x (.ins c.W dx [])) (fun v H2 => v = .non ∧ Q (.ref x) H2) E0 := by
  intro p dx nx nd ne
  obtain ⟨G, n, st, g, vh, vc, x, rfl, s, hne, hh, hc, ok, k⟩ := z
  obtain ⟨e, gp⟩ := made2 (C := c.W) s nx nd ne
  refine ⟨c.W, p, dx, G, n, st, g, vh, vc, x, rfl, T.cW, e.gh, upd_same, hne, hh, hc, rfl, ?_⟩
  have e2 := ((e.x (d := p)).wr (o := .ins c.W dx (wf n st g vh vc)) gp).up (Ext.refl s) nx
  have e3 := e2.frz s nx upd_same
  exact k _ _ _ e3 (.inl ⟨ok, p, dx, vh, vc, rfl, Fr.mono (same_sm e3.g) hc, .inl ⟨rfl, upd_same, rfl⟩⟩)
theorem imp_grow (T : Txt K mg c) {vs : List V} {H : Hp} {Q : VK} (z : rGrow c vs H Q) : ∀ x dx, H x = none → H dx = none → dx ≠ x → spGI c (.ref x :: (vs ++ [])) (upd (upd H dx (.own x)) x (.ins c.G dx [])) (fun v H2 => v = .non ∧ Q (.ref x) H2) E0 := by
  intro p dx nx nd ne
  obtain ⟨G, n, st, g, vr, vh, vc, r, x, rfl, s, hne, hh, hc, hvr, ok, k⟩ := z
  obtain ⟨e, gp⟩ := made2 (C := c.G) s nx nd ne
  refine ⟨p, dx, G, n, st, g, vr, vh, vc, r, x, rfl, e.gh, gp, upd_same, hne, hh, hc, hvr, ok.pos, rfl, ?_⟩
  have e2 := ((e.x (d := p)).wr (o := .ins c.G dx (putF "rate" vr (wf n st g vh vc))) gp).up (Ext.refl s) nx
  have e3 := e2.frz s nx upd_same
  exact k _ _ _ e3 (.inr (.inl ⟨ok, p, dx, vh, vc, rfl, Fr.mono (same_sm e3.g) hc, .inr (.inl ⟨rfl, vr, upd_same, Fr.mono (same_sm e3.g) hvr⟩)⟩))
theorem imp_leak (T : Txt K mg c) {vs : List V} {H : Hp} {Q : VK} (z : rLeak c vs H Q) : ∀ x dx, H x = none → H dx = none → dx ≠ x → spLI c (.ref x :: (vs ++ [])) (upd (upd H dx (.own x)) x (.ins c.L dx [])) (fun v H2 => v = .non ∧ Q (.ref x) H2) E0 := by
  intro p dx nx nd ne
  obtain ⟨G, n, st, g, vl, vh, vc, r, x, rfl, s, hne, hh, hc, hvl, r1, ok, k⟩ := z
  obtain ⟨e, gp⟩ := made2 (C := c.L) s nx nd ne
  have rp := ok.pos
  refine ⟨p, dx, G, n, st, g, vl, vh, vc, 1 - r, x, rfl, e.gh, gp, upd_same, hne, hh, hc, hvl, by grind, by grind, ok.loss.be.bd, fun G' H' x1 g1 h1 => ⟨rfl, ?_⟩⟩
  have e3 := (x1.up e nx).frz s nx h1
  exact k _ _ _ e3 (.inr (.inr ⟨ok, p, dx, vh, vc, rfl, Fr.mono (same_sm e3.g) hc, .inr (.inr ⟨rfl, vl, upd_same, Fr.mono (same_sm e3.g) hvl⟩)⟩))
end
end GH
end
section
set_option maxRecDepth 100000
/-! Nets. -/
namespace GH
open PySem PySem.Spec PyProof.Rows L2 GM
/-- a pair -/
def PrAt {α β : Type} (R : Rl α) (S : Rl β) : Rl (α × β) := fun G v x => ∃ a v1 v2, v = .ref a ∧ G a = some (.tup [v1, v2]) ∧ R G v1 x.1 ∧ S G v2 x.2
theorem PrAt.mono {α β : Type} {R : Rl α} {S : Rl β} (m : Mono R) (n : Mono S) : Mono (PrAt R S) := fun {G G' v x} s h => by
  obtain ⟨a, v1, v2, e, h1, h2, h3⟩ := h
  exact ⟨a, v1, v2, e, s.tup h1, m s h2, n s h3⟩
theorem LstAt.sq {α : Type} {R : Rl α} {K : PySem.W.Frag} {G H : Hp} {v : V} {xs : List α} (h : LstAt R G v xs) (s : Same G H) : ∃ a vs, v = .ref a ∧ SqL K H a vs ∧ Paired (R G) vs xs := by
  obtain ⟨a, vs, e, h1, h2⟩ := h
  exact ⟨a, vs, e, SqL.of (s _ _ h1), h2⟩
theorem take_succ_of {α : Type} {l : List α} {i : Nat} {x : α} (h : l[i]? = some x) : l.take (i + 1) = l.take i ++ [x] := by
  rw [List.take_add_one, h]; rfl
theorem take_all {α β : Type} {F : α → β → Prop} {l : List α} {r : List β} (h : Paired F l r) : r.take l.length = r := by rw [paired_len h, List.take_length]
theorem not_mem_take {α : Type} {l : List α} (nd : l.Nodup) {i : Nat} {x : α} (h : l[i]? = some x) : x ∉ l.take i := by
  intro hm
  obtain ⟨j, hj, e⟩ := List.mem_iff_getElem.mp hm
  rw [List.length_take] at hj
  rw [List.getElem_take] at e
  have : i = j := by
    have h1 := (List.getElem?_eq_some_iff.mp h)
    obtain ⟨h1, h2⟩ := h1
    exact (List.getElem_inj nd).mp (h2.trans e.symm)
  omega
/-! ### dicts read -/
theorem DctAt.get {α : Type} {R : Rl α} {G H : Hp} {v : V} {l : List (Str × α)} {k : Str} {x : α} (h : DctAt R G v l) (s : Same G H) (e : lk l k = some x) : ∃ a u, v = .ref a ∧ DGet H a (.str k) (some u) ∧ R G u x := by
  obtain ⟨a, kvs, ev, hd, hp⟩ := h
  obtain ⟨u, hu, hr⟩ := (kv_look hp k).1 x e
  exact ⟨a, u, ev, .inl ⟨kvs, .inr k, (hd.sm (same_sm s)).rd, rfl, hu.symm⟩, hr⟩
theorem DctAt.isIn {α : Type} {R : Rl α} {G H : Hp} {v : V} {l : List (Str × α)} (h : DctAt R G v l) (s : Same G H) (k : Str) : ∃ a o, v = .ref a ∧ DGet H a (.str k) o ∧ o.isSome = (lk l k).isSome := by
  obtain ⟨a, kvs, ev, hd, hp⟩ := h
  exact ⟨a, _, ev, .inl ⟨kvs, .inr k, (hd.sm (same_sm s)).rd, rfl, rfl⟩, kv_any hp k⟩
theorem DctAt.isD {α : Type} {R : Rl α} {G H : Hp} {v : V} {l : List (Str × α)} (h : DctAt R G v l) (s : Same G H) : ∃ a, v = .ref a ∧ IsD H a := by
  obtain ⟨a, kvs, ev, hd, hp⟩ := h
  exact ⟨a, ev, .inl ⟨kvs, (hd.sm (same_sm s)).rd⟩⟩
/-- a dict of one's own: at d stand the pairs l -/
def Own {α : Type} (R : Rl α) (G H : Hp) (d : Addr) (l : List (Str × α)) : Prop := ∃ kvs, G d = none ∧ H d = some (.dK kvs) ∧ Paired (KvR (R G)) kvs l
theorem Own.nil {α : Type} {R : Rl α} {G H : Hp} {d : Addr} (s : Same G H) (h : H d = none) : Own R G (upd H d (.dK [])) d [] := ⟨[], Same.free s h, upd_same, .nil⟩
theorem Own.ext {α : Type} {R : Rl α} {G H G' H' : Hp} {d : Addr} {l : List (Str × α)} (o : Own R G H d l) (m : Mono R) (e : Ext G H G' H') : Own R G' H' d l := by
  obtain ⟨kvs, g, h, p⟩ := o
  obtain ⟨g', h'⟩ := e.keep g h
  exact ⟨kvs, g', h', Paired.imp (fun _ _ q => ⟨q.1, m (same_sm e.g) q.2⟩) p⟩
theorem Own.put {α : Type} {R : Rl α} {G H : Hp} {d : Addr} {l : List (Str × α)} (o : Own R G H d l) {k : Str} {v : V} {x : α} (hv : R G v x) (hl : l.length < sizeLine) : ∃ H', DPut H d (.str k) v H' ∧ Own R G H' d (GH.put l k x) ∧ ∃ u, H' = upd H d u := by
  obtain ⟨kvs, g, h, p⟩ := o
  exact ⟨_, .inl ⟨kvs, .inr k, h, rfl, by rw [paired_len p]; exact hl, rfl⟩, ⟨_, g, upd_same, kv_put p hv⟩, _, rfl⟩
theorem Own.get {α : Type} {R : Rl α} {G H : Hp} {d : Addr} {l : List (Str × α)} (o : Own R G H d l) {k : Str} {x : α} (e : lk l k = some x) : ∃ u, DGet H d (.str k) (some u) ∧ R G u x := by
  obtain ⟨kvs, g, h, p⟩ := o
  obtain ⟨u, hu, hr⟩ := (kv_look p k).1 x e
  exact ⟨u, .inl ⟨kvs, .inr k, .inl h, rfl, hu.symm⟩, hr⟩
theorem Own.isIn {α : Type} {R : Rl α} {G H : Hp} {d : Addr} {l : List (Str × α)} (o : Own R G H d l) (k : Str) : ∃ r, DGet H d (.str k) r ∧ r.isSome = (lk l k).isSome := by
  obtain ⟨kvs, g, h, p⟩ := o
  exact ⟨_, .inl ⟨kvs, .inr k, .inl h, rfl, rfl⟩, kv_any p k⟩
theorem Own.isD {α : Type} {R : Rl α} {G H : Hp} {d : Addr} {l : List (Str × α)} (o : Own R G H d l) : IsD H d := by
  obtain ⟨kvs, g, h, p⟩ := o
  exact .inl ⟨kvs, .inl h⟩
/-- done with it: from now on it is as it is -/
theorem Own.done {α : Type} {R : Rl α} {G0 H0 G H : Hp} {d : Addr} {l : List (Str × α)} (o : Own R G H d l) (m : Mono R) (s : Same G0 H0) (e : Ext G0 H0 G H) (hd : H0 d = none) : ∃ G', Ext G0 H0 G' H ∧ DctAt R G' (.ref d) l ∧ Same G G' := by
  obtain ⟨kvs, g, h, p⟩ := o
  have sg : Same G (upd G d (.dK kvs)) := same_new g
  exact ⟨_, e.frz s hd h, ⟨d, kvs, rfl, DK.of upd_same, Paired.imp (fun _ _ q => ⟨q.1, m (same_sm sg) q.2⟩) p⟩, sg⟩
/-- a list of one's own -/
def OwnL {α : Type} (R : Rl α) (G H : Hp) (d : Addr) (l : List α) : Prop := ∃ vs, G d = none ∧ H d = some (.lst vs) ∧ Paired (R G) vs l
theorem OwnL.nil {α : Type} {R : Rl α} {G H : Hp} {d : Addr} (s : Same G H) (h : H d = none) : OwnL R G (upd H d (.lst [])) d [] := ⟨[], Same.free s h, upd_same, .nil⟩
theorem OwnL.ext {α : Type} {R : Rl α} {G H G' H' : Hp} {d : Addr} {l : List α} (o : OwnL R G H d l) (m : Mono R) (e : Ext G H G' H') : OwnL R G' H' d l := by
  obtain ⟨kvs, g, h, p⟩ := o
  obtain ⟨g', h'⟩ := e.keep g h
  exact ⟨kvs, g', h', Paired.imp (fun _ _ q => m (same_sm e.g) q) p⟩
theorem OwnL.done {α : Type} {R : Rl α} {G0 H0 G H : Hp} {d : Addr} {l : List α} (o : OwnL R G H d l) (m : Mono R) (s : Same G0 H0) (e : Ext G0 H0 G H) (hd : H0 d = none) : ∃ G', Ext G0 H0 G' H ∧ LstAt R G' (.ref d) l ∧ Same G G' := by
  obtain ⟨kvs, g, h, p⟩ := o
  have sg : Same G (upd G d (.lst kvs)) := same_new g
  exact ⟨_, e.frz s hd h, ⟨d, kvs, rfl, upd_same, Paired.imp (fun _ _ q => m (same_sm sg) q) p⟩, sg⟩
theorem OwnL.snoc {α : Type} {R : Rl α} {G H : Hp} {d : Addr} {l : List α} {vs : List V} {v : V} {x : α} (g : G d = none) (p : Paired (R G) vs l) (hv : R G v x) : OwnL R G (upd H d (.lst (vs ++ [v]))) d (l ++ [x]) :=
  ⟨_, g, upd_same, paired_append p (.cons hv .nil)⟩
/-! ### the net -/
structure Nt where
  ps : List Str
  ws : List (Wy Str)
/-- what makes it a net, and one of the law's -/
structure NtOk (n : Nt) : Prop where
  ndP : n.ps.Nodup
  ndW : (names n.ws).Nodup
  st : ∀ w ∈ n.ws, w.start ∈ n.ps
  go : ∀ w ∈ n.ws, w.goal ∈ n.ps
  ne : ∀ w ∈ n.ws, w.start ≠ w.goal
  p4 : n.ps.length ≤ 4
  p1 : 1 ≤ n.ps.length
  w12 : n.ws.length ≤ 12
abbrev byName (ws : List (Wy Str)) : List (Str × Wy Str) := ws.map fun w => (w.name, w)
def nf (d1 d2 : Addr) : List (Str × V) := putF "kept_ways" (.ref d2) (putF "kept_wants" (.ref d1) [])
def NetAt (c : Cl) : Rl Nt := fun G v n => ∃ a dx d1 d2 kv1, v = .ref a ∧ G a = some (.ins c.N dx (nf d1 d2)) ∧ DK G d1 kv1 ∧ kv1.map (·.1) = n.ps.map Sum.inr ∧ DctAt (WayAt c) G (.ref d2) (byName n.ws)
theorem NetAt.mono {c : Cl} : Mono (NetAt c) := fun {G G' v n} s h => by
  obtain ⟨a, dx, d1, d2, kv1, e, h1, h2, h3, h4⟩ := h
  exact ⟨a, dx, d1, d2, kv1, e, s.ins h1, h2.sm s, h3, DctAt.mono (R := WayAt c) WayAt.mono s h4⟩
theorem NetAt.up' {c : Cl} {G G' : Hp} {v : V} {n : Nt} (h : NetAt c G v n) (s : Same G G') : NetAt c G' v n := NetAt.mono (same_sm s) h
theorem nf_no (d1 d2 : Addr) {m : Str} (h1 : ¬ m = "kept_ways" := by decide +kernel) (h2 : ¬ m = "kept_wants" := by decide +kernel) : (nf d1 d2).lookup m = none := by
  unfold nf
  rw [lookup_putF, if_neg h1, lookup_putF, if_neg h2]; rfl
theorem NetAt.ins {c : Cl} {G H : Hp} {v : V} {n : Nt} (h : NetAt c G v n) (s : Same G H) {m : Str} (h1 : ¬ m = "kept_ways" := by decide +kernel) (h2 : ¬ m = "kept_wants" := by decide +kernel) : InsOk H v c.N m := by
  obtain ⟨a, dx, d1, d2, kv1, e, h, _⟩ := h
  exact ⟨a, dx, _, e, s _ _ h, nf_no _ _ h1 h2⟩
theorem byName_lk {ws : List (Wy Str)} (nd : (names ws).Nodup) {w : Wy Str} (h : w ∈ ws) : lk (byName ws) w.name = some w := by
  refine lk_of_mem ?_ (List.mem_map.mpr ⟨w, h, rfl⟩)
  have : keys (byName ws) = names ws := by unfold keys byName names; rw [List.map_map]; rfl
  rw [this]; exact nd
def spWay (c : Cl) : Sp := fun vs H Q _ => ∃ G x n w, vs = [x, .str w.name] ∧ Same G H ∧ NetAt c G x n ∧ NtOk n ∧ w ∈ n.ws ∧ Ret G H Q (fun v G' => WayAt c G' v w)
def spAll (c : Cl) : Sp := fun vs H Q _ => ∃ G x n, vs = [x] ∧ Same G H ∧ NetAt c G x n ∧ Ret G H Q (fun v G' => LstAt (WayAt c) G' v n.ws)
def spNames (c : Cl) : Sp := fun vs H Q _ => ∃ G x n, vs = [x] ∧ Same G H ∧ NetAt c G x n ∧ Ret G H Q (fun v G' => LstAt StrAt G' v n.ps)
abbrev sNM (i : Nat) : Stmt := inClass (topS 65) i
section
variable {P : Program} {w : World} {K : PySem.W.Frag} {mg : Str → Option Value} {base : Heap} {c : Cl} {f : Addr} {fd : FuncData}
theorem NetAt.fw {G H : Hp} {v : V} {n : Nt} (h : NetAt c G v n) (T : Txt K mg c) (s : Same G H) : ∃ d1 d2 kv1, FldOk K H v "kept_wants" (.ref d1) ∧ FldOk K H v "kept_ways" (.ref d2) ∧ DK G d1 kv1 ∧ kv1.map (·.1) = n.ps.map Sum.inr ∧ DctAt (WayAt c) G (.ref d2) (byName n.ws) := by
  obtain ⟨a, dx, d1, d2, kv1, e, h1, h2, h3, h4⟩ := h
  refine ⟨d1, d2, kv1, ⟨a, c.N, dx, _, e, s _ _ h1, T.clN, T.nKW, ?_⟩, ⟨a, c.N, dx, _, e, s _ _ h1, T.clN, T.nKY, ?_⟩, h2, h3, h4⟩
  · unfold nf; rw [lookup_putF, if_neg (by decide +kernel), lookup_putF, if_pos rfl]
  · unfold nf; rw [lookup_putF, if_pos rfl]
theorem scNW : FnScope ["self", "name"] ["self", "name"] (defScope (sNM 3)) := ⟨rfl, rfl, rfl, by decide +kernel, rfl, by decide +kernel, by decide +kernel⟩
theorem ok_way (F : FnP K "way" "Net.way" (sNM 3) f fd) (T : Txt K mg c) : FnOk P w K mg base CX0 1 f fd ["self", "name"] (spWay c) := by
  refine F.ok scNW (fun vs H Q E h => ?_) (fun cdv A outer s H vs Q E hr h => ?_)
  · obtain ⟨G, x, n, w, rfl, _⟩ := h
    rfl
  · obtain ⟨G, x, n, w, rfl, s, hn, ok, hw, k⟩ := h
    refine ⟨_, PSs.nox (pss_cons (ps_if (pt_cmp (pc_dnotin (hu_of hr) (pv 1) (pe_f (pv 0))) (by rfl)) pss_never pss_nil) (pss_one (ps_ret (pe_dget (hu_of hr) (pe_f (pv 0)) (pv 1) (fun _ _ => rfl))))), ?_⟩
    obtain ⟨d1, d2, kv1, f1, f2, k1, k2, k3⟩ := hn.fw T s
    have el := byName_lk ok.ndW hw
    obtain ⟨a, o, e1, g1, so⟩ := k3.isIn s w.name
    obtain ⟨a2, u, e2, g2, hu⟩ := k3.get s el
    refine ⟨_, rfl, _, rfl, _, f2, a, o, e1, g1, _, rfl, ?_⟩
    rw [so, el]
    refine iteF ⟨_, rfl, _, f2, _, rfl, a2, u, e2, g2, ?_⟩
    exact k _ _ _ (Ext.refl s) hu
theorem scNN : FnScope ["self"] ["self"] (defScope (sNM 1)) := ⟨rfl, rfl, rfl, by decide +kernel, rfl, by decide +kernel, by decide +kernel⟩
theorem ok_names (F : FnP K "names" "Net.names" (sNM 1) f fd) (T : Txt K mg c) : FnOk P w K mg base CX0 1 f fd ["self"] (spNames c) := by
  refine F.ok scNN (fun vs H Q E h => ?_) (fun cdv A outer s H vs Q E hr h => ?_)
  · obtain ⟨G, x, n, rfl, _⟩ := h
    rfl
  · obtain ⟨G, x, n, rfl, s, hn, k⟩ := h
    refine ⟨_, PSs.nox (pss_one (ps_ret (pe_callTy (call_listD rfl) (by rfl) T.list (by decide +kernel) (pa_cons (pe_f (pv 0)) pa_nil)))), ?_⟩
    obtain ⟨d1, d2, kv1, f1, f2, k1, k2, k3⟩ := hn.fw T s
    refine ⟨_, rfl, _, f1, d1, kv1, rfl, (k1.sm (same_sm s)).rd, fun p hp => ?_⟩
    have e := Ext.imm (p := p) (o := .lst (kv1.map fun kv => kV kv.1)) s hp
    refine k _ _ _ e ⟨p, _, rfl, upd_same, ?_⟩
    have el : (kv1.map fun kv => kV kv.1) = n.ps.map V.str := by
      have := congrArg (List.map kV) k2
      rw [List.map_map, List.map_map] at this
      exact this
    rw [el]
    have : ∀ l : List Str, Paired (StrAt (upd G p (.lst (n.ps.map V.str)))) (l.map V.str) l := fun l => by
      induction l with
      | nil => exact .nil
      | cons a l ih => exact .cons rfl ih
    exact this n.ps
theorem scNA : FnScope ["self"] ["self"] (defScope (sNM 4)) := ⟨rfl, rfl, rfl, by decide +kernel, rfl, by decide +kernel, by decide +kernel⟩
theorem ok_all (F : FnP K "all_ways" "Net.all_ways" (sNM 4) f fd) (T : Txt K mg c) : FnOk P w K mg base CX0 1 f fd ["self"] (spAll c) := by
  refine F.ok scNA (fun vs H Q E h => ?_) (fun cdv A outer s H vs Q E hr h => ?_)
  · obtain ⟨G, x, n, rfl, _⟩ := h
    rfl
  · obtain ⟨G, x, n, rfl, s, hn, k⟩ := h
    refine ⟨_, PSs.nox (pss_one (ps_ret (pe_listVals rfl (by rfl) T.list (pe_f (pv 0))))), ?_⟩
    obtain ⟨d1, d2, kv1, f1, f2, k1, k2, ⟨d, kvs, e3, k4, k5⟩⟩ := hn.fw T s
    cases e3
    refine ⟨_, rfl, _, f2, d2, kvs, rfl, (k4.sm (same_sm s)).rd, fun p hp => ?_⟩
    have e := Ext.imm (p := p) (o := .lst (kvs.map (·.2))) s hp
    refine k _ _ _ e ⟨p, _, rfl, upd_same, ?_⟩
    have := kv_vals k5
    rw [show (byName n.ws).map (·.2) = n.ws by unfold byName; rw [List.map_map]; exact List.map_id _] at this
    exact Paired.imp (fun _ _ q => WayAt.mono (same_sm e.g) q) this
end
end GH
end
section
set_option maxRecDepth 100000
/-! Nets made. -/
namespace GH
open PySem PySem.Spec PyProof.Rows L2 GM
abbrev DPl : List (Str × Rat) → List (Str × Rat) := id
def spWants (c : Cl) : Sp := fun vs H Q _ => ∃ (G : Hp) (x : V) (l : List (Str × Rat)), vs = [x] ∧ Same G H ∧ LstAt (PrAt StrAt (Fr c)) G x l ∧ (keys l).Nodup ∧ l.length ≤ 100 ∧ Ret G H Q (fun v G' => DctAt (Fr c) G' v l)
def spWays (c : Cl) : Sp := fun vs H Q _ => ∃ (G : Hp) (x y : V) (l : List (Str × Rat)) (ws : List (Wy Str)), vs = [x, y] ∧ Same G H ∧ DctAt (Fr c) G x l ∧ LstAt (WayAt c) G y ws ∧ (names ws).Nodup ∧ ws.length ≤ 100 ∧ (∀ w ∈ ws, w.start ∈ keys l ∧ w.goal ∈ keys l) ∧
  Ret G H Q (fun v G' => DctAt (WayAt c) G' v (byName ws))
section
variable {P : Program} {w : World} {K : PySem.W.Frag} {mg : Str → Option Value} {base : Heap} {c : Cl} {f : Addr} {fd : FuncData}
abbrev sWO : Stmt := topS 63
abbrev sYO : Stmt := topS 64
theorem scWanO : FnScope ["places", "wants", "name", "want"] ["places"] (defScope sWO) := ⟨rfl, rfl, rfl, by decide +kernel, rfl, by decide +kernel, by decide +kernel⟩
theorem put_snoc {α : Type} {l : List (Str × α)} (nd : (keys l).Nodup) {i : Nat} {p : Str × α} (h : l[i]? = some p) : put (l.take i) p.1 p.2 = l.take (i + 1) := by
  have : p.1 ∉ keys (l.take i) := by
    have e : keys (l.take i) = (keys l).take i := by unfold keys; rw [List.map_take]
    rw [e]
    exact not_mem_take nd (by unfold keys; rw [List.getElem?_map, h]; rfl)
  rw [put_new this, take_succ_of h]
theorem lk_take {α : Type} {l : List (Str × α)} (nd : (keys l).Nodup) {i : Nat} {p : Str × α} (h : l[i]? = some p) : lk (l.take i) p.1 = none := by
  refine lk_none.mpr ?_
  have e : keys (l.take i) = (keys l).take i := by unfold keys; rw [List.map_take]
  rw [e]
  exact not_mem_take nd (by unfold keys; rw [List.getElem?_map, h]; rfl)
theorem line100 {n : Nat} (h : n ≤ 1000) : n < sizeLine := small1000 h
theorem ok_wants (F : FnP K "wants_of" "wants_of" sWO f fd) (T : Txt K mg c) : FnOk P w K mg base CX0 1 f fd ["places"] (spWants c) := by
  refine F.ok scWanO (fun vs H Q E h => ?_) (fun cdv A outer s H vs Q E hr h => ?_)
  · obtain ⟨G, x, l, rfl, _⟩ := h
    rfl
  · obtain ⟨G, x, l, rfl, s, hl, nd, len, k⟩ := h
    refine ⟨_, PSs.nox (pss_cons (ps_set (i := 1) scWanO.nd rfl (Or.inl rfl) pe_dnewK)
      (pss_cons (ps_for PassesOwn.never rfl (pi_list (pv 0)) (pg_tup rfl (pgs_cons (pg_name (i := 2) scWanO.nd rfl (Or.inl rfl)) (pgs_cons (pg_name (i := 3) scWanO.nd rfl (Or.inl rfl)) pgs_nil)))
        (pss_cons (ps_if (pt_cmp (pc_din (hu_of hr) (pv 2) (pv 1)) (by rfl)) pss_never pss_nil) (pss_one (ps_dput (hu_of hr) (pv 1) (pv 2) (pv 3) rfl))))
      (pss_one (ps_ret (pv 1))))), ?_⟩
    obtain ⟨a, vs, rfl, hvs, hp⟩ := hl
    intro d hd
    have e0 := Ext.tmp (o := .dK []) s hd
    refine ⟨_, rfl, a, rfl, ⟨vs, SqL.of (same_new hd _ _ (s _ _ hvs))⟩, for_list (K := K) (a := a) (xs := vs) (fun i σ H' => ∃ G' v2 v3, σ = [some (.ref a), some (.ref d), v2, v3] ∧ Ext G H G' H' ∧ Own (Fr c) G' H' d (l.take i))
      ⟨G, none, none, rfl, e0, Own.nil s hd⟩ (fun i σ H' _ z => ?_) (fun i y σ H' hi z => ?_) (fun σ H' z => ?_)⟩
    · obtain ⟨G', v2, v3, _, e, _⟩ := z
      exact SqL.of (e.gh _ _ (e.g _ _ hvs))
    · obtain ⟨G', v2, v3, rfl, e, o⟩ := z
      obtain ⟨p, hpi, a2, n1, n2, rfl, ht, hn, hw⟩ := paired_get hp i y hi
      have hn : n1 = .str p.1 := hn
      subst hn
      refine ⟨a2, _, rfl, SqT.of (e.gh _ _ (e.g _ _ ht)), rfl, _, _, rfl, _, _, rfl, rfl, ?_⟩
      obtain ⟨r, g1, so⟩ := o.isIn p.1
      refine ⟨_, rfl, _, rfl, d, r, rfl, g1, _, rfl, ?_⟩
      rw [so, lk_take nd hpi]
      have hlen : (l.take i).length < sizeLine := line100 (Nat.le_trans (List.length_take_le' i l) (by omega))
      obtain ⟨H2, dp, o2, u, eu⟩ := o.put (Fr.mono (same_sm e.g) hw) hlen
      refine iteF ⟨_, rfl, _, rfl, _, rfl, d, H2, rfl, dp, G', _, _, rfl, ?_, ?_⟩
      · rw [eu]; exact e.wr hd o.choose_spec.1
      · rw [put_snoc nd hpi] at o2; exact o2
    · obtain ⟨G', v2, v3, rfl, e, o⟩ := z
      rw [take_all hp] at o
      obtain ⟨G2, e2, hD, _⟩ := o.done Fr.mono s e hd
      exact ⟨_, rfl, k _ _ _ e2 hD⟩
/-- isinstance(way, Store): never -/
theorem WayAt.isi {G H : Hp} {v : V} {x : Wy Str} (h : WayAt c G v x) (T : Txt K mg c) (s : Same G H) : ∃ t, TyX K H v t ∧ PySem.W.kitOne K t (.ref c.S) = some false := by
  rcases h with h | h | h
  · obtain ⟨a, dx, fs, vc, e, ho, _⟩ := h.obj
    subst e
    exact ⟨_, .base (T.tyW (s _ _ ho)), T.kWS⟩
  · obtain ⟨a, dx, fs, vc, e, ho, _⟩ := h.obj
    subst e
    exact ⟨_, .base (T.tyG (s _ _ ho)), T.kGS⟩
  · obtain ⟨a, dx, fs, vc, e, ho, _⟩ := h.obj
    subst e
    exact ⟨_, .base (T.tyL (s _ _ ho)), T.kLS⟩
theorem keys_byName (ws : List (Wy Str)) : keys (byName ws) = names ws := by unfold keys byName names; rw [List.map_map]; rfl
theorem byName_take (ws : List (Wy Str)) (i : Nat) : byName (ws.take i) = (byName ws).take i := by unfold byName; rw [List.map_take]
theorem scYO : FnScope ["wants", "ways", "by_name", "way"] ["wants", "ways"] (defScope sYO) := ⟨rfl, rfl, rfl, by decide +kernel, rfl, by decide +kernel, by decide +kernel⟩
theorem ok_ways (F : FnP K "ways_of" "ways_of" sYO f fd) (T : Txt K mg c) : FnOk P w K mg base CX0 1 f fd ["wants", "ways"] (spWays c) := by
  refine F.ok scYO (fun vs H Q E h => ?_) (fun cdv A outer s H vs Q E hr h => ?_)
  · obtain ⟨G, x, y, l, ws, rfl, _⟩ := h
    rfl
  · obtain ⟨G, x, y, l, ws, rfl, s, hl, hy, nd, len, hst, k⟩ := h
    refine ⟨_, PSs.nox (pss_cons (ps_set (i := 2) scYO.nd rfl (Or.inl rfl) pe_dnewK)
      (pss_cons (ps_for PassesOwn.never rfl (pi_list (pv 1)) (pg_name (i := 3) scYO.nd rfl (Or.inl rfl))
        (pss_cons (ps_if (pt_val (pe_callB call_isi (by rfl) T.isi (by decide +kernel) (pa_cons (pv 3) (pa_cons (pe_glob (v := .ref c.S) (by rfl) T.gS rfl) pa_nil)))) pss_never pss_nil)
        (pss_cons (ps_if (pt_cmp (pc_din (hu_of hr) (pe_f (pv 3)) (pv 2)) (by rfl)) pss_never pss_nil)
        (pss_cons (ps_if (pt_cmp (pc_dnotin (hu_of hr) (pe_f (pv 3)) (pv 0)) (by rfl)) pss_never pss_nil)
        (pss_cons (ps_if (pt_cmp (pc_dnotin (hu_of hr) (pe_f (pv 3)) (pv 0)) (by rfl)) pss_never pss_nil)
        (pss_one (ps_dput (hu_of hr) (pv 2) (pe_f (pv 3)) (pv 3) rfl)))))))
      (pss_one (ps_ret (pv 2))))), ?_⟩
    obtain ⟨a, vs, rfl, hvs, hp⟩ := hy
    have ndk : (keys (byName ws)).Nodup := by rw [keys_byName]; exact nd
    intro d hd
    have e0 := Ext.tmp (o := .dK []) s hd
    refine ⟨_, rfl, a, rfl, ⟨vs, SqL.of (same_new hd _ _ (s _ _ hvs))⟩, for_list (K := K) (a := a) (xs := vs) (fun i σ H' => ∃ G' v3, σ = [some x, some (.ref a), some (.ref d), v3] ∧ Ext G H G' H' ∧ Own (WayAt c) G' H' d ((byName ws).take i))
      ⟨G, none, rfl, e0, Own.nil s hd⟩ (fun i σ H' _ z => ?_) (fun i y σ H' hi z => ?_) (fun σ H' z => ?_)⟩
    · obtain ⟨G', v3, _, e, _⟩ := z
      exact SqL.of (e.gh _ _ (e.g _ _ hvs))
    · obtain ⟨G', v3, rfl, e, o⟩ := z
      obtain ⟨x1, hxi, hx1⟩ := paired_get hp i y hi
      have hx1 := WayAt.mono (same_sm e.g) hx1
      have hpi : (byName ws)[i]? = some (x1.name, x1) := by unfold byName; rw [List.getElem?_map, hxi]; rfl
      have hl' := hl.up Fr.mono (same_sm e.g)
      obtain ⟨ms, mg⟩ := hst x1 (List.mem_of_getElem? hxi)
      obtain ⟨t, ty, kit⟩ := hx1.isi T e.gh
      refine ⟨_, rfl, y, _, t, _, false, rfl, .own _, ty, kit, _, rfl, iteF ?_⟩
      obtain ⟨r, g1, so⟩ := o.isIn x1.name
      refine ⟨_, rfl, _, hx1.name T e.gh, _, rfl, d, r, rfl, g1, _, rfl, ?_⟩
      rw [so, lk_take ndk hpi]
      refine iteF ?_
      obtain ⟨a1, o1, ea1, g2, so1⟩ := hl'.isIn e.gh x1.start
      obtain ⟨y1, ey1⟩ := lk_some ms
      refine ⟨_, rfl, _, hx1.start T e.gh, _, rfl, a1, o1, ea1, g2, _, rfl, ?_⟩
      rw [so1, ey1]
      refine iteF ?_
      obtain ⟨a2, o2, ea2, g3, so2⟩ := hl'.isIn e.gh x1.goal
      obtain ⟨y2, ey2⟩ := lk_some mg
      refine ⟨_, rfl, _, hx1.goal T e.gh, _, rfl, a2, o2, ea2, g3, _, rfl, ?_⟩
      rw [so2, ey2]
      refine iteF ?_
      have hlen : ((byName ws).take i).length < sizeLine := line100 (Nat.le_trans (List.length_take_le' i _) (by unfold byName; rw [List.length_map]; omega))
      obtain ⟨H2, dp, o2, u, eu⟩ := o.put hx1 hlen (k := x1.name)
      refine ⟨_, rfl, _, rfl, _, rfl, _, hx1.name T e.gh, d, H2, rfl, dp, G', _, rfl, ?_, ?_⟩
      · rw [eu]; exact e.wr hd o.choose_spec.1
      · have := put_snoc ndk hpi
        rw [← this]; exact o2
    · obtain ⟨G', v3, rfl, e, o⟩ := z
      have hpl : vs.length = (byName ws).length := by rw [paired_len hp]; unfold byName; rw [List.length_map]
      rw [hpl, List.take_length] at o
      obtain ⟨G2, e2, hD, _⟩ := o.done WayAt.mono s e hd
      exact ⟨_, rfl, k _ _ _ e2 hD⟩
/-! ### Net(..) -/
def spNI (c : Cl) : Sp := fun vs H Q _ => ∃ (p dx : Addr) (G : Hp) (x y : V) (l : List (Str × Rat)) (ws : List (Wy Str)), vs = [.ref p, x, y] ∧ Same G H ∧ G p = none ∧ H p = some (.ins c.N dx []) ∧ LstAt (PrAt StrAt (Fr c)) G x l ∧ (keys l).Nodup ∧ l.length ≤ 12 ∧
  LstAt (WayAt c) G y ws ∧ (names ws).Nodup ∧ ws.length ≤ 24 ∧ (∀ w ∈ ws, w.start ∈ keys l ∧ w.goal ∈ keys l) ∧
  ∀ G' H' d1 d2, ExtX p G H G' H' → G' p = none → H' p = some (.ins c.N dx (nf d1 d2)) → DctAt (Fr c) G' (.ref d1) l → DctAt (WayAt c) G' (.ref d2) (byName ws) → Q .non H'
abbrev sNI : Stmt := sNM 0
theorem scNI : FnScope ["self", "places", "ways"] ["self", "places", "ways"] (defScope sNI) := ⟨rfl, rfl, rfl, by decide +kernel, rfl, by decide +kernel, by decide +kernel⟩
theorem ok_NI (F : FnP K "__init__" "Net.__init__" sNI f fd) (T : Txt K mg c) (Wa : Fn P w K mg base "wants_of" 1 ["places"] [] (spWants c)) (Wy : Fn P w K mg base "ways_of" 1 ["wants", "ways"] [] (spWays c)) :
    FnOk P w K mg base CX0 2 f fd ["self", "places", "ways"] (spNI c) := by
  refine F.ok scNI (fun vs H Q E h => ?_) (fun cdv A outer s H vs Q E hr h => ?_)
  · obtain ⟨p, dx, G, x, y, l, ws, rfl, _⟩ := h
    rfl
  · obtain ⟨p, dx, G, x, y, l, ws, rfl, s, gp, hp, hl, nd, len, hy, ndw, lenw, hst, k⟩ := h
    obtain ⟨t1, m1⟩ := T.mPl
    obtain ⟨t2, m2⟩ := T.mWy
    refine ⟨_, PSs.nox (pss_cons (ps_if (pw_or (pt_cmpR op_gt (pe_callB call_len_seq (by rfl) T.len PySem.boot_len (pa_cons (pv 1) pa_nil)) (pe_glob (v := .int 12) (by rfl) m1 ⟨_, rfl⟩) (nomark _)) (pw_or1 (pt_cmpR op_gt (pe_callB call_len_seq (by rfl) T.len PySem.boot_len (pa_cons (pv 2) pa_nil)) (pe_glob (v := .int 24) (by rfl) m2 ⟨_, rfl⟩) (nomark _)))).pt pss_never pss_nil)
      (pss_cons (ps_fld (pv 0) (pe_fn Wa hr (by rfl) (pa_cons (pv 1) pa_nil)) rfl)
      (pss_one (ps_fld (pv 0) (pe_fn Wy hr (by rfl) (pa_cons (pe_f (pv 0)) (pa_cons (pv 2) pa_nil))) rfl)))), ?_⟩
    obtain ⟨a, vs, rfl, hvs, hpv⟩ := id hl
    obtain ⟨a2, vs2, rfl, hvs2, hpv2⟩ := id hy
    refine ⟨_, rfl, a, vs, rfl, .inl (SqL.of (s _ _ hvs)), _, _, rfl, rfl, _, rfl, ?_⟩
    have l1 : decide ((12 : Int) < (vs.length : Int)) = false := decide_eq_false (by rw [paired_len hpv]; omega)
    have l2 : decide ((24 : Int) < (vs2.length : Int)) = false := decide_eq_false (by rw [paired_len hpv2]; omega)
    rw [l1]
    refine iteF ⟨_, rfl, a2, vs2, rfl, .inl (SqL.of (s _ _ hvs2)), _, _, rfl, rfl, _, rfl, ?_⟩
    rw [l2]
    refine iteF ⟨_, rfl, G, _, l, rfl, s, hl, nd, by omega, fun v G1 H1 e1 hv => ?_⟩
    obtain ⟨d1, kv1, e4, hd1, hk1⟩ := id hv
    subst e4
    obtain ⟨gp1, hp1⟩ := e1.keep gp hp
    refine ⟨_, rfl, p, c.N, dx, [], rfl, hp1, T.clN, T.nKW, (by show 0 < 1000; decide), ?_⟩
    have x1 : ExtX p G H G1 (upd H1 p (.ins c.N dx (putF "kept_wants" (.ref d1) []))) := e1.x.wr gp1
    refine ⟨_, rfl, _, ⟨p, c.N, dx, _, rfl, upd_same, T.clN, T.nKW, by rw [lookup_putF, if_pos rfl]⟩, _, rfl, ?_⟩
    refine ⟨G1, _, _, l, ws, rfl, x1.gh, hv, hy.up WayAt.mono (same_sm e1.g), ndw, by omega, hst, fun v2 G2 H2 e2 hv2 => ?_⟩
    obtain ⟨d2, kv2, e5, hd2, hk2⟩ := id hv2
    subst e5
    obtain ⟨gp2, hp2⟩ := e2.keep gp1 upd_same
    refine ⟨_, rfl, p, c.N, dx, _, rfl, hp2, T.clN, T.nKY, (by show 1 < 1000; decide), ?_⟩
    exact k G2 _ d1 d2 ((x1.trans (fun _ => some_ne upd_same) e2).wr gp2) gp2 upd_same (hv.up Fr.mono (same_sm e2.g)) hv2
/-- Net(places, ways): what its reading asks -/
def rNet (c : Cl) (vs : List V) (H : Hp) (Q : VK) : Prop := ∃ (G : Hp) (x y : V) (l : List (Str × Rat)) (ws : List (Wy Str)), vs = [x, y] ∧ Same G H ∧ LstAt (PrAt StrAt (Fr c)) G x l ∧ (keys l).Nodup ∧ l.length ≤ 12 ∧ LstAt (WayAt c) G y ws ∧ (names ws).Nodup ∧ ws.length ≤ 24 ∧
  (∀ w ∈ ws, w.start ∈ keys l ∧ w.goal ∈ keys l) ∧ Ret G H Q (fun v G' => NetAt c G' v ⟨keys l, ws⟩)
theorem imp_net {vs : List V} {H : Hp} {Q : VK} (z : rNet c vs H Q) : ∀ x dx, H x = none → H dx = none → dx ≠ x → spNI c (.ref x :: (vs ++ [])) (upd (upd H dx (.own x)) x (.ins c.N dx [])) (fun v H2 => v = .non ∧ Q (.ref x) H2) E0 := by
  intro p dx nx nd ne
  obtain ⟨G, x, y, l, ws, rfl, s, hl, ndl, len, hy, ndw, lenw, hst, k⟩ := z
  obtain ⟨e, gp⟩ := made2 (C := c.N) s nx nd ne
  refine ⟨p, dx, G, x, y, l, ws, rfl, e.gh, gp, upd_same, hl, ndl, len, hy, ndw, lenw, hst, fun G' H' d1 d2 x1 g1 h1 w1 w2 => ⟨rfl, ?_⟩⟩
  have e3 := (x1.up e nx).frz s nx h1
  have sg : Same G' (upd G' p (.ins c.N dx (nf d1 d2))) := same_new g1
  obtain ⟨d1', kv1, q1, q2, q3⟩ := w1
  cases q1
  refine k _ _ _ e3 ⟨p, dx, d1, d2, kv1, rfl, upd_same, q2.sm (same_sm sg), ?_, w2.up WayAt.mono (same_sm sg)⟩
  have : ∀ {kv : List (Key × V)} {l : List (Str × Rat)}, Paired (fun (a : Key × V) p => a.1 = .inr p.1 ∧ Fr c G' a.2 p.2) kv l → kv.map (·.1) = (keys l).map Sum.inr := fun {kv l} h => by
    induction h with
    | nil => rfl
    | cons a t ih => rw [List.map_cons, ih, a.1]; rfl
  exact this q3
end
end GH
end
section
set_option maxRecDepth 100000
/-! Loops, over the ghost heap. -/
namespace GH
open PySem PySem.Spec PyProof.Rows L2 GM
/-! ### over a list -/
section
variable {α β : Type} {R : Rl α} {S : Rl β} {K : PySem.W.Frag} {Ge He Gl G1 H1 : Hp} {v : V} {xs : List α} {g : TG} {tb : TS} {D : Ends} {σ : L2.St}
/-- what holds between two turns -/
def LN (Ge He Gl : Hp) (Iv : Nat → L2.St → Hp → Hp → Prop) (i : Nat) : L2.St → Hp → Prop := fun σ H => ∃ G, Same Gl G ∧ Ext Ge He G H ∧ Iv i σ G H
theorem for_lst (m : Mono R) (h : LstAt R Gl v xs) (sl : Same Gl G1) (e1 : Ext Ge He G1 H1) (Iv : Nat → L2.St → Hp → Hp → Prop) (h0 : Iv 0 σ G1 H1)
    (hs : ∀ i x u σ G H, xs[i]? = some x → R G u x → Same Gl G → Ext Ge He G H → Iv i σ G H → g u σ H fun σ2 H2 => tb { D with nx := LN Ge He Gl Iv (i + 1), ct := LN Ge He Gl Iv (i + 1), bk := D.nx } σ2 H2)
    (hd : ∀ σ G H, Same Gl G → Ext Ge He G H → Iv xs.length σ G H → D.nx σ H) :
    ∃ a, v = .ref a ∧ (∃ ys, SqL K H1 a ys) ∧ ∃ W : Nat → Nat → L2.St → Hp → Prop, (∃ m, W 0 m σ H1) ∧ ∀ i m σ H, W i m σ H →
      ((Itl K a).stop i H ∧ D.nx σ H) ∨ ((Itl K a).go i H ∧ ∃ N : L2.St → Hp → Prop, (∀ σ' H', N σ' H' → ∃ m', m' < m ∧ W (i + 1) m' σ' H') ∧ ∀ x H', (Itl K a).yld i H x H' → g x σ H' fun σ2 H2 => tb { D with nx := N, ct := N, bk := D.nx } σ2 H2) := by
  obtain ⟨a, vs, rfl, hv, hp⟩ := h
  refine ⟨a, rfl, ⟨vs, SqL.of (e1.gh _ _ (sl _ _ hv))⟩, for_list (K := K) (a := a) (xs := vs) (LN Ge He Gl Iv) ⟨G1, sl, e1, h0⟩ (fun i σ H _ z => ?_) (fun i y σ H hi z => ?_) (fun σ H z => ?_)⟩
  · obtain ⟨G, s, e, _⟩ := z
    exact SqL.of (e.gh _ _ (s _ _ hv))
  · obtain ⟨G, s, e, q⟩ := z
    obtain ⟨x, hx, hr⟩ := paired_get hp i y hi
    exact hs i x y σ G H hx (m (same_sm s) hr) s e q
  · obtain ⟨G, s, e, q⟩ := z
    rw [paired_len hp] at q
    exact hd σ G H s e q
/-- one turn of a comprehension: what its element may be -/
def Turn (S : Rl β) (ys : Nat → List β) (i : Nat) (ws : List Nat) (st : L2.St) (G H : Hp) (t : (V → Hp → Prop) → (Hp → Prop) → Prop) : Prop := ∀ (Yes : V → Hp → Prop) (No : Hp → Prop), (∀ y G4 H4 z, Ext G H G4 H4 → S G4 y z → ys (i + 1) = ys i ++ [z] → Yes y H4) → (∀ G3 H3, Ext G H G3 H3 → ys (i + 1) = ys i → No H3) → t Yes No
/-- what holds of the list that a comprehension makes -/
def LC (Ge He Gl : Hp) (S : Rl β) (ys : Nat → List β) (d : Addr) (i : Nat) (H : Hp) : Prop := ∃ G, Same Gl G ∧ Ext Ge He G H ∧ OwnL S G H d (ys i) ∧ (ys i).length ≤ i
theorem lc_turn {ys : Nat → List β} {d : Addr} {i : Nat} (mS : Mono S) (hd0 : He d = none) (hi : i ≤ 1000) {G H : Hp} (sl : Same Gl G) (e : Ext Ge He G H) (o : OwnL S G H d (ys i)) (len : (ys i).length ≤ i) {t : (V → Hp → Prop) → (Hp → Prop) → Prop} {ws : List Nat} {st : L2.St}
    (h : Turn S ys i ws st G H t) : t (fun y H4 => ∃ acc, H4 d = some (.lst acc) ∧ acc.length < sizeLine ∧ LC Ge He Gl S ys d (i + 1) (upd H4 d (.lst (acc ++ [y])))) (fun H3 => LC Ge He Gl S ys d (i + 1) H3) := by
  refine h _ _ (fun y G4 H4 z e2 hy hz => ?_) (fun G3 H3 e2 hz => ?_)
  · obtain ⟨vs, g, hh, p⟩ := o
    obtain ⟨g', hh'⟩ := e2.keep g hh
    refine ⟨vs, hh', by rw [paired_len p]; exact line100 (by omega), G4, sl.trans e2.g, (e.trans e2).wr hd0 g', ?_, ?_⟩
    · rw [hz]
      exact OwnL.snoc g' (Paired.imp (fun _ _ q => mS (same_sm e2.g) q) p) hy
    · rw [hz, List.length_append, List.length_singleton]; omega
  · have o2 := o.ext mS e2
    refine ⟨G3, sl.trans e2.g, e.trans e2, ?_, ?_⟩
    · rw [hz]; exact o2
    · rw [hz]; omega
/-- what is asked once the iterator J stands -/
def LcK (J : It) (g : TG) (tt : TT) (te : TE) (ws : List Nat) (σ : L2.St) (Q : VK) (H1 : Hp) : Prop := ∀ D, H1 D = none → ∃ W : Nat → Nat → Hp → Prop, (∃ m, W 0 m (upd H1 D (.lst []))) ∧ ∀ i m H, W i m H →
  (J.stop i H ∧ Q (.ref D) H) ∨ (J.go i H ∧ ∃ Nx : Hp → Prop, (∀ H', Nx H' → ∃ m', m' < m ∧ W (i + 1) m' H') ∧ ∀ x H', J.yld i H x H' → g x (wipe σ ws) H' fun σ2 H2 => wipe σ2 ws = wipe σ ws ∧ tt σ2 H2 fun b H3 =>
    if b = true then te σ2 H3 fun y H4 => ∃ acc, H4 D = some (.lst acc) ∧ acc.length < sizeLine ∧ Nx (upd H4 D (.lst (acc ++ [y]))) else Nx H3)
def tLK (wi : TI) (g : TG) (tt : TT) (te : TE) (ws : List Nat) : TE := fun σ H Q => wi σ H fun J H1 => LcK J g tt te ws σ Q H1
theorem pe_k {X : Cx} {e : Expr} {wi : TI} {g : TG} {tt : TT} {te : TE} {ws : List Nat} (h : PE X e (tLc wi g tt te ws)) : PE X e (tLK wi g tt te ws) := h
theorem lc_yes {te : TE} {Yes : VK} {No : Hp → Prop} {σ : L2.St} {H : Hp} (h : te σ H Yes) : tYes σ H (fun b H3 => if b = true then te σ H3 Yes else No H3) := by
  show if true = true then te σ H Yes else No H
  rw [if_pos rfl]; exact h
/-- a comprehension over a list -/
theorem lc_lst {tt : TT} {te : TE} {ws : List Nat} {Q : VK} (m : Mono R) (mS : Mono S) (h : LstAt R Gl v xs) (sl : Same Gl G1) (se : Same Ge He) (e1 : Ext Ge He G1 H1) (hlen : xs.length ≤ 1000) (ys : Nat → List β) (y0 : ys 0 = [])
    (hs : ∀ i x u G H, xs[i]? = some x → R G u x → Same Gl G → Ext Ge He G H → Turn S ys i ws (wipe σ ws) G H (fun Yes No => g u (wipe σ ws) H fun σ2 H2 => wipe σ2 ws = wipe σ ws ∧ tt σ2 H2 fun b H3 => if b = true then te σ2 H3 Yes else No H3))
    (hd : ∀ w G H, Same Gl G → Ext Ge He G H → LstAt S G w (ys xs.length) → Q w H) :
    ∃ a, v = .ref a ∧ (∃ zs, SqL K H1 a zs) ∧ LcK (Itl K a) g tt te ws σ Q H1 := by
  obtain ⟨a, vs, rfl, hv, hp⟩ := h
  refine ⟨a, rfl, ⟨vs, SqL.of (e1.gh _ _ (sl _ _ hv))⟩, fun d nd => ?_⟩
  have hd0 : He d = none := e1.free nd
  have o0 : OwnL S G1 (upd H1 d (.lst [])) d (ys 0) := by rw [y0]; exact OwnL.nil e1.gh nd
  refine lc_list (K := K) (a := a) (xs := vs) (LC Ge He Gl S ys d) ⟨G1, sl, e1.trans (Ext.tmp e1.gh nd), o0, by rw [y0]; exact Nat.le_refl _⟩ (fun i H _ z => ?_) (fun i y H hi z => ?_) (fun H z => ?_)
  · obtain ⟨G, s, e, _⟩ := z
    exact SqL.of (e.gh _ _ (s _ _ hv))
  · obtain ⟨G, s, e, o, len⟩ := z
    obtain ⟨x, hx, hr⟩ := paired_get hp i y hi
    have hi' : i < xs.length := (List.getElem?_eq_some_iff.mp hx).1
    exact lc_turn (S := S) mS hd0 (by omega) s e o len (hs i x y G H hx (m (same_sm s) hr) s e)
  · obtain ⟨G, s, e, o, len⟩ := z
    rw [paired_len hp] at o
    obtain ⟨G', e', hl, sg⟩ := o.done mS se e hd0
    exact hd _ _ _ (s.trans sg) e' hl
/-- over a range -/
theorem lc_rng {tt : TT} {te : TE} {ws : List Nat} {Q : VK} {lo : Int} {n : Nat} (mS : Mono S) (sl : Same Gl G1) (se : Same Ge He) (e1 : Ext Ge He G1 H1) (hlen : n ≤ 1000) (ys : Nat → List β) (y0 : ys 0 = [])
    (hs : ∀ i G H, i < n → Same Gl G → Ext Ge He G H → Turn S ys i ws (wipe σ ws) G H (fun Yes No => g (.int (lo + (i : Int))) (wipe σ ws) H fun σ2 H2 => wipe σ2 ws = wipe σ ws ∧ tt σ2 H2 fun b H3 => if b = true then te σ2 H3 Yes else No H3))
    (hd : ∀ w G H, Same Gl G → Ext Ge He G H → LstAt S G w (ys n) → Q w H) :
    LcK (Itr lo n) g tt te ws σ Q H1 := by
  intro d nd
  have hd0 : He d = none := e1.free nd
  have o0 : OwnL S G1 (upd H1 d (.lst [])) d (ys 0) := by rw [y0]; exact OwnL.nil e1.gh nd
  refine lc_range (lo := lo) (n := n) (LC Ge He Gl S ys d) ⟨G1, sl, e1.trans (Ext.tmp e1.gh nd), o0, by rw [y0]; exact Nat.le_refl _⟩ (fun i H hi z => ?_) (fun H z => ?_)
  · obtain ⟨G, s, e, o, len⟩ := z
    exact lc_turn (S := S) mS hd0 (by omega) s e o len (hs i G H hi s e)
  · obtain ⟨G, s, e, o, len⟩ := z
    obtain ⟨G', e', hl, sg⟩ := o.done mS se e hd0
    exact hd _ _ _ (s.trans sg) e' hl
end
/-! ### over a locked dict -/
abbrev lck (od : Obj) (kvs : List (Key × V)) : HO := .frz od (.dK kvs)
/-- the lock opens: all as before, and what has come since -/
theorem unl {G H G' H' : Hp} {d : Addr} {od : Obj} {kvs : List (Key × V)} (s : Same G H) (hG : G d = some (.dK kvs)) (e : Ext (upd G d (lck od kvs)) (upd H d (lck od kvs)) G' H') :
    H' d = some (lck od kvs) ∧ Ext G H (upd G' d (.dK kvs)) (upd H' d (.dK kvs)) ∧ Sm G' (upd G' d (.dK kvs)) := by
  have g1 : G' d = some (lck od kvs) := e.g d _ upd_same
  refine ⟨e.gh _ _ g1, ⟨fun b o q => ?_, fun b o q => ?_, same_upd e.gh, fun b z n => ?_⟩, sm_open (.inl ⟨_, g1, rfl⟩)⟩
  · by_cases z : b = d
    · subst z; rw [hG] at q; rw [upd_same]; exact q
    · rw [upd_ne z]; exact e.g b o (by rw [upd_ne z]; exact q)
  · by_cases z : b = d
    · subst z; rw [s _ _ hG] at q; rw [upd_same]; exact q
    · rw [upd_ne z]; exact e.h b o (by rw [upd_ne z]; exact q)
  · have nd : b ≠ d := fun q => by rw [q, hG] at z; cases z
    rw [upd_ne nd]
    exact e.new b (by rw [upd_ne nd]; exact z) (by rw [upd_ne nd]; exact n)
theorem lock_sm {G : Hp} {d : Addr} {od : Obj} {kvs : List (Key × V)} (hG : G d = some (.dK kvs)) : Sm G (upd G d (lck od kvs)) := sm_lock (.inl (DK.of hG))
section
variable {α β : Type} {R : V → α → Prop} {S : Rl β} {d : Addr} {od : Obj} {kvs : List (Key × V)} {l : List (Str × α)} {g : TG} {tb : TS} {D : Ends} {σ : L2.St} {H Ge He Gl G1 H1 : Hp}
theorem for_keys (hp : Paired (KvR R) kvs l) (Pv : Nat → L2.St → Hp → Prop) (h0 : Pv 0 σ H) (hl : ∀ i σ H, i ≤ l.length → Pv i σ H → H d = some (lck od kvs))
    (hs : ∀ i p σ H, l[i]? = some p → Pv i σ H → g (.str p.1) σ H fun σ2 H2 => tb { D with nx := Pv (i + 1), ct := Pv (i + 1), bk := D.nx } σ2 H2) (hd : ∀ σ H, Pv l.length σ H → D.nx σ H) :
    ∃ W : Nat → Nat → L2.St → Hp → Prop, (∃ m, W 0 m σ H) ∧ ∀ i m σ H, W i m σ H →
      ((Itk d od kvs).stop i H ∧ D.nx σ H) ∨ ((Itk d od kvs).go i H ∧ ∃ N : L2.St → Hp → Prop, (∀ σ' H', N σ' H' → ∃ m', m' < m ∧ W (i + 1) m' σ' H') ∧ ∀ x H', (Itk d od kvs).yld i H x H' → g x σ H' fun σ2 H2 => tb { D with nx := N, ct := N, bk := D.nx } σ2 H2) := by
  refine ⟨fun i m σ H => m = kvs.length - i ∧ i ≤ kvs.length ∧ Pv i σ H, ⟨kvs.length, by simp, Nat.zero_le _, h0⟩, ?_⟩
  rintro i m σ H ⟨rfl, hi, p⟩
  have q := hl i σ H (by rw [← paired_len hp]; exact hi) p
  by_cases hlt : i < kvs.length
  · refine .inr ⟨⟨q, hlt⟩, Pv (i + 1), fun σ' H' p' => ⟨kvs.length - (i + 1), by omega, rfl, hlt, p'⟩, fun x H' y => ?_⟩
    obtain ⟨e, k, v, hk, ex⟩ := y
    subst e ex
    obtain ⟨b, hb, hr⟩ := paired_get hp i _ hk
    have : kV k = .str b.1 := by rw [show k = Sum.inr b.1 from hr.1]; rfl
    rw [this]
    exact hs i b σ _ hb p
  · have e : i = kvs.length := by omega
    subst e
    rw [paired_len hp] at p
    exact .inl ⟨⟨q, Nat.le_refl _⟩, hd σ H p⟩
/-- d.items() -/
theorem for_items (hp : Paired (KvR R) kvs l) (Pv : Nat → L2.St → Hp → Prop) (h0 : Pv 0 σ H) (hl : ∀ i σ H, i ≤ l.length → Pv i σ H → H d = some (lck od kvs))
    (hs : ∀ i p u T σ H, l[i]? = some p → R u p.2 → H T = none → Pv i σ H → g (.ref T) σ (upd H T (.tup [.str p.1, u])) fun σ2 H2 => tb { D with nx := Pv (i + 1), ct := Pv (i + 1), bk := D.nx } σ2 H2) (hd : ∀ σ H, Pv l.length σ H → D.nx σ H) :
    ∃ W : Nat → Nat → L2.St → Hp → Prop, (∃ m, W 0 m σ H) ∧ ∀ i m σ H, W i m σ H →
      ((Iti d od kvs).stop i H ∧ D.nx σ H) ∨ ((Iti d od kvs).go i H ∧ ∃ N : L2.St → Hp → Prop, (∀ σ' H', N σ' H' → ∃ m', m' < m ∧ W (i + 1) m' σ' H') ∧ ∀ x H', (Iti d od kvs).yld i H x H' → g x σ H' fun σ2 H2 => tb { D with nx := N, ct := N, bk := D.nx } σ2 H2) := by
  refine ⟨fun i m σ H => m = kvs.length - i ∧ i ≤ kvs.length ∧ Pv i σ H, ⟨kvs.length, by simp, Nat.zero_le _, h0⟩, ?_⟩
  rintro i m σ H ⟨rfl, hi, p⟩
  have q := hl i σ H (by rw [← paired_len hp]; exact hi) p
  by_cases hlt : i < kvs.length
  · refine .inr ⟨⟨q, hlt⟩, Pv (i + 1), fun σ' H' p' => ⟨kvs.length - (i + 1), by omega, rfl, hlt, p'⟩, fun x H' y => ?_⟩
    obtain ⟨T, k, v, hk, ex, nT, e⟩ := y
    subst e ex
    obtain ⟨b, hb, hr⟩ := paired_get hp i _ hk
    have : kV k = .str b.1 := by rw [show k = Sum.inr b.1 from hr.1]; rfl
    rw [this]
    exact hs i b v T σ _ hb hr.2 nT p
  · have e : i = kvs.length := by omega
    subst e
    rw [paired_len hp] at p
    exact .inl ⟨⟨q, Nat.le_refl _⟩, hd σ H p⟩
/-- a comprehension over the keys -/
theorem lc_keys {tt : TT} {te : TE} {ws : List Nat} {Q : VK} (mS : Mono S) (hp : Paired (KvR R) kvs l) (hG : Gl d = some (lck od kvs)) (sl : Same Gl G1) (se : Same Ge He) (e1 : Ext Ge He G1 H1) (hlen : l.length ≤ 1000) (ys : Nat → List β) (y0 : ys 0 = [])
    (hs : ∀ i p G H, l[i]? = some p → Same Gl G → Ext Ge He G H → Turn S ys i ws (wipe σ ws) G H (fun Yes No => g (.str p.1) (wipe σ ws) H fun σ2 H2 => wipe σ2 ws = wipe σ ws ∧ tt σ2 H2 fun b H3 => if b = true then te σ2 H3 Yes else No H3))
    (hd : ∀ w G H, Same Gl G → Ext Ge He G H → LstAt S G w (ys l.length) → Q w H) :
    LcK (Itk d od kvs) g tt te ws σ Q H1 := by
  intro d' nd
  have hd0 : He d' = none := e1.free nd
  have o0 : OwnL S G1 (upd H1 d' (.lst [])) d' (ys 0) := by rw [y0]; exact OwnL.nil e1.gh nd
  refine ⟨fun i m H => m = kvs.length - i ∧ i ≤ kvs.length ∧ LC Ge He Gl S ys d' i H, ⟨kvs.length, by simp, Nat.zero_le _, G1, sl, e1.trans (Ext.tmp e1.gh nd), o0, by rw [y0]; exact Nat.le_refl _⟩, ?_⟩
  rintro i m H ⟨rfl, hi, G, s, e, o, len⟩
  have q : H d = some (lck od kvs) := e.gh _ _ (s _ _ hG)
  by_cases hlt : i < kvs.length
  · refine .inr ⟨⟨q, hlt⟩, LC Ge He Gl S ys d' (i + 1), fun H' p' => ⟨kvs.length - (i + 1), by omega, rfl, hlt, p'⟩, fun x H' y => ?_⟩
    obtain ⟨ee, k, v, hk, ex⟩ := y
    subst ee ex
    obtain ⟨b, hb, hr⟩ := paired_get hp i _ hk
    have : kV k = .str b.1 := by rw [show k = Sum.inr b.1 from hr.1]; rfl
    rw [this]
    have hi' : i < l.length := (List.getElem?_eq_some_iff.mp hb).1
    exact lc_turn (S := S) mS hd0 (by omega) s e o len (hs i b G _ hb s e)
  · have ee : i = kvs.length := by omega
    subst ee
    rw [paired_len hp] at o
    obtain ⟨G', e', hl, sg⟩ := o.done mS se e hd0
    exact .inl ⟨⟨q, Nat.le_refl _⟩, hd _ _ _ (s.trans sg) e' hl⟩
end
theorem upd_two {H : Hp} {a b : Addr} {o o' : HO} (h : a ≠ b) : upd (upd H b o') a o = upd (upd H a o) b o' := by
  funext x
  by_cases h1 : x = a
  · subst h1; rw [upd_same, upd_ne h, upd_same]
  · rw [upd_ne h1]
    by_cases h2 : x = b
    · subst h2; rw [upd_same, upd_same]
    · rw [upd_ne h2, upd_ne h2, upd_ne h1]
/-- another thing is locked, opened -/
theorem Own.turn {α : Type} {R : Rl α} {G H : Hp} {d a : Addr} {l : List (Str × α)} {o o' : HO} (h : Own R G H d l) (ha : G a = some o) (m : Sm G (upd G a o')) (mR : Mono R := by first | exact Fr.mono | exact WayAt.mono) : Own R (upd G a o') (upd H a o') d l := by
  obtain ⟨kvs, g, hh, p⟩ := h
  have ne : d ≠ a := fun z => by rw [z, ha] at g; cases g
  exact ⟨kvs, by rw [upd_ne ne]; exact g, by rw [upd_ne ne]; exact hh, Paired.imp (fun _ _ q => ⟨q.1, mR m q.2⟩) p⟩
/-- a dict that stands unlocked -/
def DctE {α : Type} (R : Rl α) : Rl (List (Str × α)) := fun G v l => ∃ a kvs, v = .ref a ∧ G a = some (.dK kvs) ∧ Paired (KvR (R G)) kvs l
theorem DctE.at {α : Type} {R : Rl α} {G : Hp} {v : V} {l : List (Str × α)} (h : DctE R G v l) : DctAt R G v l := by
  obtain ⟨a, kvs, e, h, p⟩ := h
  exact ⟨a, kvs, e, DK.of h, p⟩
theorem DctE.up {α : Type} {R : Rl α} {G G' : Hp} {v : V} {l : List (Str × α)} (h : DctE R G v l) (m : Mono R) (s : Same G G') : DctE R G' v l := by
  obtain ⟨a, kvs, e, h, p⟩ := h
  exact ⟨a, kvs, e, s _ _ h, Paired.imp (fun _ _ q => ⟨q.1, m (same_sm s) q.2⟩) p⟩
theorem Own.doneE {α : Type} {R : Rl α} {G0 H0 G H : Hp} {d : Addr} {l : List (Str × α)} (o : Own R G H d l) (m : Mono R) (s : Same G0 H0) (e : Ext G0 H0 G H) (hd : H0 d = none) : ∃ G', Ext G0 H0 G' H ∧ DctE R G' (.ref d) l ∧ Same G G' := by
  obtain ⟨kvs, g, h, p⟩ := o
  have sg : Same G (upd G d (.dK kvs)) := same_new g
  exact ⟨_, e.frz s hd h, ⟨d, kvs, rfl, upd_same, Paired.imp (fun _ _ q => ⟨q.1, m (same_sm sg) q.2⟩) p⟩, sg⟩
end GH
end
section
set_option maxRecDepth 100000
/-! Plans: amounts, sums, worth. -/
namespace GH
open PySem PySem.Spec PyProof.Rows L2 GM
abbrev Pl := List (Str × Rat)
def amt (l : Pl) (n : Str) : Rat := (lk l n).getD 0
/-- D makes all amounts whole, V is above them -/
structure PB (D V : Nat) (l : Pl) : Prop where
  pos : 0 < D
  dv : ∀ p ∈ l, Dv D p.2
  ab : ∀ p ∈ l, Ab V p.2
theorem PB.amt {D V : Nat} {l : Pl} (h : PB D V l) (n : Str) : Dv D (amt l n) ∧ Ab V (amt l n) := by
  unfold GH.amt
  cases e : lk l n with
  | none => exact ⟨Dv.zero, Ab.zero⟩
  | some x =>
    have := lk_mem e
    exact ⟨h.dv _ this, h.ab _ this⟩
theorem bd_of {D V a b : Nat} {x : Rat} (h : Dv D x) (k : Ab V x) (h0 : 0 < D) (hD : D ≤ 2 ^ a) (hV : V ≤ 2 ^ b) (ha : a < 4490 := by decide) (hb : b ≤ 90000 := by decide) : Bd x := Bd.of h k h0 hD hV ha hb
theorem be_of {D V a b : Nat} {x : Rat} (h : Dv D x) (k : Ab V x) (h0 : 0 < D) (hD : D ≤ 2 ^ a) (hV : V ≤ 2 ^ b) (ha : a < 4470 := by decide) (hb : a + b < 90000 := by decide) : Be x := by
  have e := h.den_le h0
  refine ⟨Nat.lt_of_le_of_lt (Nat.le_trans e hD) (Nat.pow_lt_pow_right (by decide) ha), ?_⟩
  have e2 := k.num e
  have e3 : V * D ≤ 2 ^ b * 2 ^ a := Nat.mul_le_mul hV hD
  rw [← Nat.pow_add] at e3
  exact Nat.lt_of_le_of_lt (Nat.le_trans e2 e3) (Nat.pow_lt_pow_right (by decide) (by omega))
/-- the product of the gains' bottoms -/
def gd : List (Wy Str) → Nat
  | [] => 1
  | w :: r => w.gain.den * gd r
theorem gd_pos (ws : List (Wy Str)) : 0 < gd ws := by
  induction ws with
  | nil => decide
  | cons w r ih => exact Nat.mul_pos (Nat.pos_of_ne_zero w.gain.den_nz) ih
theorem gd_dv {ws : List (Wy Str)} {w : Wy Str} (h : w ∈ ws) : Dv (gd ws) w.gain := by
  induction ws with
  | nil => cases h
  | cons v r ih =>
    rcases List.mem_cons.mp h with e | h
    · subst e; exact (dv_den w.gain).mono
    · exact (ih h).mono'
theorem gd_le {ws : List (Wy Str)} (h : ∀ w ∈ ws, WyOk w) : gd ws ≤ 2 ^ (10 * ws.length) := by
  induction ws with
  | nil => decide
  | cons w r ih =>
    have h1 := (h w List.mem_cons_self).gain.den
    have h2 := ih fun v hv => h v (List.mem_cons_of_mem _ hv)
    show w.gain.den * gd r ≤ 2 ^ (10 * (r.length + 1))
    rw [show 10 * (r.length + 1) = 10 + 10 * r.length by omega, Nat.pow_add]
    exact Nat.mul_le_mul h1 h2
theorem gd120 {ws : List (Wy Str)} (h : ∀ w ∈ ws, WyOk w) (l : ws.length ≤ 12) : gd ws ≤ 2 ^ 120 := Nat.le_trans (gd_le h) (Nat.pow_le_pow_right (by decide) (by omega))
theorem Sm10.ab {g : Rat} (h : Sm10 g) : Ab (2 ^ 10) g := by
  have e := num_eq g
  have hd : (1 : Rat) ≤ (g.den : Rat) := by
    have : 1 ≤ g.den := Nat.pos_of_ne_zero g.den_nz
    exact (Rat.natCast_le_natCast (a := 1) (b := g.den)).mpr this
  have hn := h.num
  have n1 : ((g.num : Int) : Rat) ≤ ((2 ^ 10 : Nat) : Rat) := by
    have : g.num ≤ ((2 ^ 10 : Nat) : Int) := by omega
    exact Rat.intCast_le_intCast.mpr this
  have n2 : -((2 ^ 10 : Nat) : Rat) ≤ ((g.num : Int) : Rat) := by
    have : -((2 ^ 10 : Nat) : Int) ≤ g.num := by omega
    have := Rat.intCast_le_intCast.mpr this
    rw [Rat.intCast_neg] at this
    exact this
  have v0 : (0 : Rat) ≤ ((2 ^ 10 : Nat) : Rat) := Rat.natCast_nonneg
  rw [← e] at n1 n2
  show -((2 ^ 10 : Nat) : Rat) ≤ g ∧ g ≤ ((2 ^ 10 : Nat) : Rat)
  generalize ((2 ^ 10 : Nat) : Rat) = V at *
  generalize (g.den : Rat) = d at *
  refine ⟨?_, ?_⟩
  · apply Classical.byContradiction
    intro k
    have k : g < -V := Rat.not_le.mp k
    have a : g * d ≤ g * 1 := by
      have := Rat.mul_le_mul_of_nonneg_right (c := -g) hd (by grind)
      grind
    grind
  · apply Classical.byContradiction
    intro k
    have k : V < g := Rat.not_le.mp k
    have a : g * 1 ≤ g * d := Rat.mul_le_mul_of_nonneg_left hd (by grind)
    grind
/-- the net's ways all in order -/
structure NtW (n : Nt) : Prop where
  ok : NtOk n
  wy : ∀ w ∈ n.ws, WyOk w
  cd : ∀ w ∈ n.ws, w.cost.den = 1
/-! ### total, amount -/
def sumL (qs : List Rat) : Rat := qs.foldl (· + ·) 0
theorem sumL_take {qs : List Rat} {i : Nat} {q : Rat} (h : qs[i]? = some q) : sumL (qs.take (i + 1)) = sumL (qs.take i) + q := by
  rw [take_succ_of h]; unfold sumL; rw [List.foldl_append]; rfl
theorem sumL_sz {D V : Nat} {qs : List Rat} (h : ∀ q ∈ qs, Dv D q ∧ Ab V q) (i : Nat) : Dv D (sumL (qs.take i)) ∧ Ab (i * V) (sumL (qs.take i)) := by
  induction i with
  | zero => exact ⟨Dv.zero, Ab.zero⟩
  | succ i ih =>
    cases e : qs[i]? with
    | none =>
      have hl : qs.length ≤ i := List.getElem?_eq_none_iff.mp e
      have : qs.take (i + 1) = qs.take i := by rw [List.take_of_length_le hl, List.take_of_length_le (by omega)]
      rw [this]
      exact ⟨ih.1, ih.2.mono (Nat.mul_le_mul_right V (Nat.le_succ i))⟩
    | some q =>
      rw [sumL_take e]
      obtain ⟨h1, h2⟩ := h q (List.mem_of_getElem? e)
      refine ⟨ih.1.add h1, ?_⟩
      rw [Nat.succ_mul]
      exact ih.2.add h2
def spTotal (c : Cl) : Sp := fun vs H Q _ => ∃ (G : Hp) (x : V) (qs : List Rat) (D Vb : Nat), vs = [x] ∧ Same G H ∧ LstAt (Fr c) G x qs ∧ 0 < D ∧ D ≤ 2 ^ 4480 ∧ Vb ≤ 2 ^ 80000 ∧ qs.length ≤ 100 ∧ (∀ q ∈ qs, Dv D q ∧ Ab Vb q) ∧ Ret G H Q (fun v G' => Fr c G' v (sumL qs))
def spAmount (c : Cl) : Sp := fun vs H Q _ => ∃ (G : Hp) (x : V) (l : Pl) (n : Str), vs = [x, .str n] ∧ Same G H ∧ DctAt (Fr c) G x l ∧ Ret G H Q (fun v G' => Fr c G' v (amt l n))
abbrev sTotal : Stmt := topS 14
abbrev sAmount : Stmt := topS 16
section
variable {P : Program} {w : World} {K : PySem.W.Frag} {mg : Str → Option Value} {base : Heap} {c : Cl} {f : Addr} {fd : FuncData}
theorem scTotal : FnScope ["some", "whole", "one"] ["some"] (defScope sTotal) := ⟨rfl, rfl, rfl, by decide +kernel, rfl, by decide +kernel, by decide +kernel⟩
theorem ok_total (F : FnP K "total" "total" sTotal f fd) (T : Txt K mg c) (D : FrM P w K mg base c) : FnOk P w K mg base CX0 5 f fd ["some"] (spTotal c) := by
  refine F.ok scTotal (fun vs H Q E h => ?_) (fun cdv A outer s H vs Q E hr h => ?_)
  · obtain ⟨G, x, qs, _, _, rfl, _⟩ := h
    rfl
  · obtain ⟨G, x, qs, Dn, Vb, rfl, s, hq, d0, dD, dV, len, sz, k⟩ := h
    refine ⟨_, PSs.nox (pss_cons (ps_set (i := 1) scTotal.nd rfl (Or.inl rfl) (pe_fr1 D.mkf (hr.mono (by decide)) (by rfl) (pa_cons pe_int pa_nil)))
      (pss_cons (ps_for PassesOwn.never rfl (pi_list (pv 0)) (pg_name (i := 2) scTotal.nd rfl (Or.inl rfl))
        (pss_one (ps_set (i := 1) scTotal.nd rfl (Or.inl rfl) (pe_m T.clF D.plus hr (pv 1) (pa_cons (pv 2) pa_nil)))))
      (pss_one (ps_ret (pv 1))))), ?_⟩
    have b0 : ∀ i, i ≤ qs.length → Bd (sumL (qs.take i)) := fun i hi => by
      obtain ⟨h1, h2⟩ := sumL_sz sz i
      refine bd_of (a := 4480) (b := 80010) h1 (h2.mono (Nat.le_trans (Nat.mul_le_mul (show i ≤ 2 ^ 10 by omega) dV) ?_)) d0 dD (Nat.le_refl _)
      rw [← Nat.pow_add]
      exact Nat.pow_le_pow_right (by decide) (by decide)
    refine ⟨G, 0, rfl, s, fun v0 G1 H1 e1 hv => ⟨_, rfl, ?_⟩⟩
    refine for_lst (R := Fr c) Fr.mono hq e1.g e1 (fun i σ G' H' => ∃ v1 v2, σ = [some x, some v1, v2] ∧ Fr c G' v1 (sumL (qs.take i))) ⟨v0, none, rfl, hv⟩ (fun i q u σ G' H' hi hu _ e z => ?_) (fun σ G' H' _ e z => ?_)
    · obtain ⟨v1, v2, rfl, h1⟩ := z
      have hil : i < qs.length := (List.getElem?_eq_some_iff.mp hi).1
      obtain ⟨q1, q2⟩ := sz q (List.mem_of_getElem? hi)
      refine ⟨_, rfl, h1.ins e.gh, _, rfl, G', v1, u, _, q, rfl, e.gh, h1, hu, b0 i (by omega), bd_of (a := 4480) (b := 80010) q1 (q2.mono (Nat.le_trans dV (Nat.pow_le_pow_right (by decide) (by decide)))) d0 dD (Nat.le_refl _), trivial, fun v G2 H2 e2 h2 => ?_⟩
      refine ⟨G2, (e.trans e2).g, e.trans e2, v, _, rfl, ?_⟩
      rw [sumL_take hi]; exact h2
    · obtain ⟨v1, v2, rfl, h1⟩ := z
      rw [List.take_length] at h1
      exact ⟨_, rfl, k _ _ _ e h1⟩
theorem scAmount : FnScope ["plan", "name"] ["plan", "name"] (defScope sAmount) := ⟨rfl, rfl, rfl, by decide +kernel, rfl, by decide +kernel, by decide +kernel⟩
theorem ok_amount (F : FnP K "amount" "amount" sAmount f fd) (T : Txt K mg c) (D : FrM P w K mg base c) : FnOk P w K mg base CX0 5 f fd ["plan", "name"] (spAmount c) := by
  refine F.ok scAmount (fun vs H Q E h => ?_) (fun cdv A outer s H vs Q E hr h => ?_)
  · obtain ⟨G, x, l, n, rfl, _⟩ := h
    rfl
  · obtain ⟨G, x, l, n, rfl, s, hl, k⟩ := h
    refine ⟨_, PSs.nox (pss_one (ps_ret (pe_dget2 (hu_of hr) (pv 0) (pv 1) (pe_fr1 D.mkf (hr.mono (by decide)) (by rfl) (pa_cons pe_int pa_nil)) ⟨rfl, rfl, rfl, rfl⟩))), ?_⟩
    obtain ⟨a, ea, hd⟩ := hl.isD s
    refine ⟨_, rfl, a, ea, hd, _, rfl, G, 0, rfl, s, fun v0 G1 H1 e1 hv => ?_⟩
    have hl1 := hl.up Fr.mono (same_sm e1.g)
    cases e : lk l n with
    | none =>
      obtain ⟨a2, o, ea2, g2, so⟩ := hl1.isIn e1.gh n
      rw [e] at so
      have : o = none := by cases o with
        | none => rfl
        | some _ => cases so
      subst this
      rw [ea] at ea2; cases ea2
      refine ⟨none, g2, k _ _ _ e1 ?_⟩
      show Fr c G1 v0 ((lk l n).getD 0)
      rw [e]; exact hv
    | some q =>
      obtain ⟨a2, u, ea2, g2, hu⟩ := hl1.get e1.gh e
      rw [ea] at ea2; cases ea2
      refine ⟨some u, g2, k _ _ _ e1 ?_⟩
      show Fr c G1 u ((lk l n).getD 0)
      rw [e]; exact hu
end
end GH
end
section
set_option maxRecDepth 100000
/-! Plans: strangers, sums, worth, together, scaled. -/
namespace GH
open PySem PySem.Spec PyProof.Rows L2 GM
theorem strs_eq {G : Hp} : ∀ {vs : List V} {l : List Str}, Paired (StrAt G) vs l → vs = l.map V.str
  | _, _, .nil => rfl
  | _, _, .cons h t => by rw [List.map_cons, ← strs_eq t, ← (show _ = V.str _ from h)]
theorem flat_strs' (l : List Str) : (l.map V.str).all flatV = true := by
  rw [List.all_eq_true]
  intro x hx
  obtain ⟨y, _, e⟩ := List.mem_map.mp hx
  rw [← e]; rfl
theorem inV_str (n : Str) (l : List Str) : inV (.str n) (l.map V.str) = decide (n ∈ l) := by
  unfold inV
  rw [Bool.eq_iff_iff, decide_eq_true_iff, List.any_eq_true]
  constructor
  · intro h
    obtain ⟨x, hx, e⟩ := h
    obtain ⟨y, hy, ex⟩ := List.mem_map.mp hx
    subst ex
    have : (y == n) = true := e
    rw [← eq_of_beq this]; exact hy
  · intro h
    exact ⟨.str n, List.mem_map.mpr ⟨n, h, rfl⟩, (show (n == n) = true from beq_self_eq_true n)⟩
/-- n in a list of texts -/
theorem in_strs {K : PySem.W.Frag} {G H : Hp} {v : V} {l : List Str} (h : LstAt StrAt G v l) (s : Same G H) (neg : Bool) (n : Str) {Q : VK} (q : Q (.bl (if neg then !decide (n ∈ l) else decide (n ∈ l))) H) : rIn K neg (.str n) v H Q := by
  obtain ⟨a, vs, e, hv, hp⟩ := h
  have := strs_eq hp
  subst this
  refine ⟨a, _, e, .inl (SqL.of (s _ _ hv)), rfl, flat_strs' l, ?_⟩
  rw [inV_str]; exact q
abbrev sStr : Stmt := topS 17
abbrev sOwn : Stmt := topS 18
abbrev sRef : Stmt := topS 19
abbrev sSums : Stmt := topS 20
abbrev sWorth : Stmt := topS 21
abbrev sTog : Stmt := topS 22
abbrev sScal : Stmt := topS 23
/-- the methods of a net -/
structure NtM (P : Program) (w : World) (K : PySem.W.Frag) (mg : Str → Option Value) (base : Heap) (c : Cl) : Prop where
  way : Md P w K mg base c.N "way" 1 ["self", "name"] (spWay c)
  names : Md P w K mg base c.N "names" 1 ["self"] (spNames c)
  all : Md P w K mg base c.N "all_ways" 1 ["self"] (spAll c)
/-- a plan of the net: an unlocked dict, its names ways of the net -/
def spStr (c : Cl) : Sp := fun vs H Q _ => ∃ (G : Hp) (x y : V) (n : Nt) (l : Pl), vs = [x, y] ∧ Same G H ∧ NetAt c G x n ∧ NtOk n ∧ DctE (Fr c) G y l ∧ l.length ≤ 1000 ∧ (∀ k ∈ keys l, k ∈ names n.ws) ∧ Ret G H Q (fun v G' => LstAt StrAt G' v [])
section
variable {P : Program} {w : World} {K : PySem.W.Frag} {mg : Str → Option Value} {base : Heap} {c : Cl} {f : Addr} {fd : FuncData}
theorem scStr : FnScope ["net", "plan", "known", "way", "name"] ["net", "plan"] (defScope sStr) := ⟨rfl, rfl, rfl, by decide +kernel, rfl, by decide +kernel, by decide +kernel⟩
theorem ok_str (F : FnP K "strangers" "strangers" sStr f fd) (T : Txt K mg c) (N : NtM P w K mg base c) : FnOk P w K mg base CX0 2 f fd ["net", "plan"] (spStr c) := by
  refine F.ok scStr (fun vs H Q E h => ?_) (fun cdv A outer s H vs Q E hr h => ?_)
  · obtain ⟨G, x, y, n, l, rfl, _⟩ := h
    rfl
  · obtain ⟨G, x, y, n, l, rfl, s, hn, nok, hl, len, kn, k⟩ := h
    refine ⟨_, PSs.nox (pss_cons (ps_set (i := 2) scStr.nd rfl (Or.inr rfl) (pe_k (pe_lc (own := [("way", 3)]) (g := gName 3) (tt := tYes) (te := tF K (tVar 3) "name") rfl scStr.nd (pi_list (pe_m0 T.clN N.all hr (pv 0))) (blkOk_by (N := ["net", "plan", "known", "way", "name"]) (sc := defScope sStr) (by decide +kernel))
          (fun _ _ _ _ _ => pg_name (i := 3) scStr.nd rfl (Or.inl rfl)) (fun _ _ _ _ _ => pts_nil) (fun _ _ _ _ _ => pe_f (pv 3)))))
      (pss_one (ps_ret (pe_lock (pe_k (pe_lc (own := [("name", 4)]) (g := gName 4) (tt := tTest (tOp (rIn K true) (tVar 4) (tVar 2))) (te := tVar 4) rfl scStr.nd (pi_keys (pv 1)) (blkOk_by (N := ["net", "plan", "known", "way", "name"]) (sc := defScope sStr) (by decide +kernel))
          (fun _ _ _ _ _ => pg_name (i := 4) scStr.nd rfl (Or.inl rfl)) (fun _ _ _ _ _ => pts_one (pt_cmpR op_notIn_seq (pv 4) (pv 2) (by rfl))) (fun _ _ _ _ _ => pv 4))))))), ?_⟩
    refine ⟨_, rfl, hn.ins s, G, x, n, rfl, s, hn, fun v1 G1 H1 e1 h1 => ?_⟩
    refine lc_lst (R := WayAt c) (S := StrAt) WayAt.mono StrAt.mono h1 (Same.refl G1) s e1 (by have := nok.w12; omega) (fun i => (names n.ws).take i) rfl (fun i wy u G2 H2 hi hu sl e Yes No hy _ => ?_) (fun v2 G2 H2 sl e h2 => ?_)
    · refine ⟨rfl, lc_yes ⟨_, rfl, _, hu.name T e.gh, hy _ _ _ wy.name (Ext.refl e.gh) rfl ?_⟩⟩
      exact take_succ_of (by unfold names; rw [List.getElem?_map, hi]; rfl)
    · have el : (names n.ws).take n.ws.length = names n.ws := List.take_of_length_le (by unfold names; rw [List.length_map]; exact Nat.le_refl _)
      rw [el] at h2
      obtain ⟨a, kvs, rfl, hd, hp⟩ := hl.up Fr.mono e.g
      refine ⟨a, _, e.gh _ _ hd, trivial, fun od => ?_⟩
      have sL := same_upd (p := a) (o := lck od kvs) e.gh
      refine ⟨_, rfl, a, od, rfl, .inl ⟨kvs, upd_same, ?_⟩⟩
      refine lc_keys (R := Fr c G2) (S := StrAt) StrAt.mono hp upd_same (Same.refl _) sL (Ext.refl sL) len (fun _ => []) rfl (fun i p G3 H3 hi sl3 e3 Yes No _ hno => ?_) (fun v3 G3 H3 sl3 e3 h3 => ?_)
      · refine ⟨rfl, ?_⟩
        have m : p.1 ∈ names n.ws := kn _ (List.mem_map.mpr ⟨p, List.mem_of_getElem? hi, rfl⟩)
        have h2' := (h2.up StrAt.mono (lock_sm (od := od) hd)).up StrAt.mono (same_sm sl3)
        refine ⟨_, rfl, _, rfl, in_strs h2' e3.gh true p.1 ⟨_, rfl, ?_⟩⟩
        rw [if_pos rfl, decide_eq_true m]
        exact iteF (hno _ _ (Ext.refl e3.gh) rfl)
      · obtain ⟨q1, q2, q3⟩ := unl e.gh hd e3
        exact ⟨q1, k _ _ _ (e.trans q2) (h3.up StrAt.mono q3)⟩
end
end GH
end
section
set_option maxRecDepth 100000
/-! Sums of a plan. -/
namespace GH
open PySem PySem.Spec PyProof.Rows L2 GM
/-- the places and what f tells of them -/
def tab {α : Type} (ps : List Str) (f : Str → α) : List (Str × α) := ps.map fun p => (p, f p)
def fupd {α : Type} (f : Str → α) (p : Str) (x : α) : Str → α := fun q => if q = p then x else f q
theorem keys_tab {α : Type} (ps : List Str) (f : Str → α) : keys (tab ps f) = ps := by
  unfold keys tab; rw [List.map_map]; exact List.map_id _
theorem tab_put {α : Type} {ps : List Str} {f : Str → α} {p : Str} {x : α} (h : p ∈ ps) : put (tab ps f) p x = tab ps (fupd f p x) := by
  rw [put_old (by rw [keys_tab]; exact h)]
  unfold tab
  rw [List.map_map]
  congr 1
  funext q
  show (if q = p then (q, x) else (q, f q)) = (q, fupd f p x q)
  unfold fupd
  split <;> rfl
theorem tab_lk {α : Type} {ps : List Str} {f : Str → α} {p : Str} (h : p ∈ ps) : lk (tab ps f) p = some (f p) := by
  induction ps with
  | nil => cases h
  | cons q r ih =>
    by_cases e : q = p
    · subst e; exact lk_pos (p := (q, f q)) rfl
    · have : lk (tab (q :: r) f) p = lk (tab r f) p := lk_neg (p := (q, f q)) e
      rw [this]
      rcases List.mem_cons.mp h with h | h
      · exact absurd h.symm e
      · exact ih h
theorem tab_snoc {α : Type} {ps : List Str} {f : Str → α} (nd : ps.Nodup) {i : Nat} {p : Str} (h : ps[i]? = some p) : put (tab (ps.take i) f) p (f p) = tab (ps.take (i + 1)) f := by
  rw [put_new (by rw [keys_tab]; exact not_mem_take nd h), take_succ_of h]
  unfold tab
  rw [List.map_append]; rfl
theorem tab_len {α : Type} (ps : List Str) (f : Str → α) : (tab ps f).length = ps.length := by unfold tab; rw [List.length_map]
theorem tab_congr {α : Type} {ps : List Str} {f g : Str → α} (h : ∀ p ∈ ps, f p = g p) : tab ps f = tab ps g := by
  unfold tab
  exact List.map_congr_left fun p hp => by rw [h p hp]
/-- one way's part of the sums -/
theorem osum_take {ws : List (Wy Str)} {i : Nat} {w : Wy Str} (h : ws[i]? = some w) (f : Str → Rat) (p : Str) :
    osum (ws.take (i + 1)) f p = osum (ws.take i) f p + f w.name * ((if w.goal = p then w.gain else 0) - (if w.start = p then 1 else 0)) := by
  rw [take_succ_of h, osum_append]
  simp only [osum]; grind
theorem osum_two {ws : List (Wy Str)} {i : Nat} {w : Wy Str} (h : ws[i]? = some w) (f : Str → Rat) (ne : w.start ≠ w.goal) :
    fupd (fupd (osum (ws.take i) f) w.start (osum (ws.take i) f w.start - f w.name)) w.goal (osum (ws.take i) f w.goal + f w.name * w.gain) = osum (ws.take (i + 1)) f := by
  funext p
  rw [osum_take h]
  unfold fupd
  by_cases h1 : p = w.goal
  · subst h1
    rw [if_pos rfl, if_pos rfl, if_neg ne]; grind
  · have h1' : ¬ w.goal = p := fun e => h1 e.symm
    rw [if_neg h1, if_neg h1']
    by_cases h2 : p = w.start
    · subst h2
      rw [if_pos rfl, if_pos rfl]; grind
    · have h2' : ¬ w.start = p := fun e => h2 e.symm
      rw [if_neg h2, if_neg h2']; grind
theorem osum_sz {D V : Nat} {ws ws' : List (Wy Str)} {f : Str → Rat} (h : ∀ w ∈ ws, WyOk w) (hs : ∀ w ∈ ws', w ∈ ws) (hf : ∀ n, Dv D (f n) ∧ Ab V (f n)) (p : Str) :
    Dv (D * gd ws) (osum ws' f p) ∧ Ab (ws'.length * (V * (2 ^ 10 + 1))) (osum ws' f p) := by
  induction ws' with
  | nil => exact ⟨Dv.zero, Ab.zero⟩
  | cons w r ih =>
    obtain ⟨i1, i2⟩ := ih fun v hv => hs v (List.mem_cons_of_mem _ hv)
    have hw := hs w List.mem_cons_self
    have g1 : Dv (gd ws) ((if w.goal = p then w.gain else 0) - (if w.start = p then (1 : Rat) else 0)) := by
      refine Dv.sub ?_ ?_
      · split
        · exact gd_dv hw
        · exact Dv.zero
      · split
        · exact Dv.one
        · exact Dv.zero
    have one : Ab 1 (1 : Rat) := ⟨by decide, by decide⟩
    have g2 : Ab (2 ^ 10 + 1) ((if w.goal = p then w.gain else 0) - (if w.start = p then (1 : Rat) else 0)) := by
      refine Ab.sub ?_ ?_
      · split
        · exact (h w hw).gain.ab
        · exact Ab.zero
      · split
        · exact one
        · exact Ab.zero
    obtain ⟨f1, f2⟩ := hf w.name
    refine ⟨(f1.mul g1).add i1, ?_⟩
    show Ab ((r.length + 1) * _) _
    rw [Nat.add_mul, Nat.one_mul, Nat.add_comm]
    exact (f2.mul g2).add i2
/-- what a Fraction's reckoning may be of, when D, V are not too great -/
structure Sz (D V : Nat) : Prop where
  pos : 0 < D
  d : D ≤ 2 ^ 4340
  v : V ≤ 2 ^ 70000
theorem Sz.gd {D V : Nat} (z : Sz D V) {ws : List (Wy Str)} (h : ∀ w ∈ ws, WyOk w) (l : ws.length ≤ 12) : 0 < D * gd ws ∧ D * gd ws ≤ 2 ^ 4460 := by
  refine ⟨Nat.mul_pos z.pos (gd_pos ws), ?_⟩
  rw [show (4460 : Nat) = 4340 + 120 from rfl, Nat.pow_add]
  exact Nat.mul_le_mul z.d (gd120 h l)
theorem Sz.osum {D V : Nat} (z : Sz D V) {ws ws' : List (Wy Str)} {f : Str → Rat} (h : ∀ w ∈ ws, WyOk w) (l : ws.length ≤ 12) (hs : ∀ w ∈ ws', w ∈ ws) (l' : ws'.length ≤ 12) (hf : ∀ n, Dv D (f n) ∧ Ab V (f n)) (p : Str) : Be (osum ws' f p) := by
  obtain ⟨h1, h2⟩ := osum_sz h hs hf p
  obtain ⟨p1, p2⟩ := z.gd h l
  refine be_of (a := 4460) (b := 70020) h1 (h2.mono ?_) p1 p2 (Nat.le_refl _)
  calc ws'.length * (V * (2 ^ 10 + 1)) ≤ 2 ^ 4 * (2 ^ 70000 * 2 ^ 16) := Nat.mul_le_mul (by omega) (Nat.mul_le_mul z.v (by decide))
    _ = 2 ^ 70020 := by rw [← Nat.pow_add, ← Nat.pow_add]
theorem Sz.be {D V : Nat} (z : Sz D V) {x : Rat} (h : Dv D x) (k : Ab V x) : Be x := be_of (a := 4460) (b := 70000) h k z.pos (Nat.le_trans z.d (Nat.pow_le_pow_right (by decide) (by decide))) z.v
def spOwn (c : Cl) : Sp := fun vs H Q _ => ∃ (G : Hp) (x y : V) (n : Nt) (l : Pl) (D Vb : Nat), vs = [x, y] ∧ Same G H ∧ NetAt c G x n ∧ NtW n ∧ DctAt (Fr c) G y l ∧ Sz D Vb ∧ PB D Vb l ∧ Ret G H Q (fun v G' => DctE (Fr c) G' v (tab n.ps (osum n.ws (amt l))))
abbrev AmtF (P : Program) (w : World) (K : PySem.W.Frag) (mg : Str → Option Value) (base : Heap) (c : Cl) : Prop := Fn P w K mg base "amount" 5 ["plan", "name"] [] (spAmount c)
section
variable {P : Program} {w : World} {K : PySem.W.Frag} {mg : Str → Option Value} {base : Heap} {c : Cl} {f : Addr} {fd : FuncData}
theorem scOwn : FnScope ["net", "plan", "told", "place", "way", "put"] ["net", "plan"] (defScope sOwn) := ⟨rfl, rfl, rfl, by decide +kernel, rfl, by decide +kernel, by decide +kernel⟩
theorem ok_own (F : FnP K "own_sums" "own_sums" sOwn f fd) (T : Txt K mg c) (M : FrM P w K mg base c) (W : WyM P w K mg base c) (N : NtM P w K mg base c) (A1 : AmtF P w K mg base c) : FnOk P w K mg base CX0 7 f fd ["net", "plan"] (spOwn c) := by
  refine F.ok scOwn (fun vs H Q E h => ?_) (fun cdv A outer s H vs Q E hr h => ?_)
  · obtain ⟨G, x, y, n, l, D, Vb, rfl, _⟩ := h
    rfl
  · obtain ⟨G, x, y, n, l, D, Vb, rfl, s, hn, nw, hl, sz, pb, k⟩ := h
    refine ⟨_, PSs.nox (pss_cons (ps_set (i := 2) scOwn.nd rfl (Or.inl rfl) pe_dnewK)
      (pss_cons (ps_for PassesOwn.never rfl (pi_list (pe_m0 T.clN N.names (hr.mono (by decide)) (pv 0))) (pg_name (i := 3) scOwn.nd rfl (Or.inl rfl))
        (pss_one (ps_dput (hu_of hr) (pv 2) (pv 3) (pe_fr1 M.mkf (hr.mono (by decide)) (by rfl) (pa_cons pe_int pa_nil)) rfl)))
      (pss_cons (ps_for PassesOwn.never rfl (pi_list (pe_m0 T.clN N.all (hr.mono (by decide)) (pv 0))) (pg_name (i := 4) scOwn.nd rfl (Or.inl rfl))
        (pss_cons (ps_set (i := 5) scOwn.nd rfl (Or.inl rfl) (pe_fn A1 (hr.mono (by decide)) (by rfl) (pa_cons (pv 1) (pa_cons (pe_f (pv 4)) pa_nil))))
        (pss_cons (ps_dput (hu_of hr) (pv 2) (pe_f (pv 4)) (pe_m T.clF M.minus (hr.mono (by decide)) (pe_dget (hu_of hr) (pv 2) (pe_f (pv 4)) (fun _ _ => rfl)) (pa_cons (pv 5) pa_nil)) rfl)
        (pss_one (ps_dput (hu_of hr) (pv 2) (pe_f (pv 4)) (pe_m T.clF M.plus (hr.mono (by decide)) (pe_dget (hu_of hr) (pv 2) (pe_f (pv 4)) (fun _ _ => rfl)) (pa_cons (pe_out T W hr (pv 4) (pa_cons (pv 5) pa_nil)) pa_nil)) rfl)))))
      (pss_one (ps_ret (pv 2)))))), ?_⟩
    intro d hd
    have e0 := Ext.tmp (o := .dK []) s hd
    refine ⟨_, rfl, hn.ins e0.gh, G, x, n, rfl, e0.gh, hn, fun v1 G1 H1 e1 h1 => ?_⟩
    have o1 : Own (Fr c) G1 H1 d [] := (Own.nil (R := Fr c) s hd).ext Fr.mono e1
    refine for_lst (R := StrAt) StrAt.mono h1 (Same.refl _) (e0.trans e1) (fun i σ G' H' => ∃ v3, σ = [some x, some y, some (.ref d), v3, none, none] ∧ Own (Fr c) G' H' d (tab (n.ps.take i) fun _ => 0)) ⟨none, rfl, o1⟩ (fun i p u σ G2 H2 hi hu sl e z => ?_) (fun σ G2 H2 sl e z => ?_)
    · obtain ⟨v3, rfl, o⟩ := z
      have hu : u = .str p := hu
      subst hu
      have hlen : (tab (n.ps.take i) fun _ => (0 : Rat)).length < sizeLine := by rw [tab_len]; exact line100 (Nat.le_trans (List.length_take_le' i _) (by have := nw.ok.p4; omega))
      refine ⟨G2, 0, rfl, e.gh, fun v3 G3 H3 e3 h3 => ?_⟩
      obtain ⟨H4, dp, o4, o5, eo⟩ := (o.ext Fr.mono e3).put (k := p) h3 hlen
      refine ⟨_, rfl, _, rfl, d, H4, rfl, dp, G3, sl.trans e3.g, ?_, _, rfl, ?_⟩
      · rw [eo]; exact (e.trans e3).wr hd (o.ext Fr.mono e3).choose_spec.1
      · rw [← tab_snoc nw.ok.ndP hi]; exact o4
    · obtain ⟨v3, rfl, o⟩ := z
      rw [List.take_length] at o
      have hn2 := hn.up' e.g
      refine ⟨_, rfl, hn2.ins e.gh, G2, x, n, rfl, e.gh, hn2, fun v4 G4 H4 e4 h4 => ?_⟩
      have hz : (fun _ => (0 : Rat)) = osum (n.ws.take 0) (amt l) := by funext p; rfl
      rw [hz] at o
      refine for_lst (R := WayAt c) WayAt.mono h4 (Same.refl _) (e.trans e4) (fun i σ G' H' => ∃ v4 v5, σ = [some x, some y, some (.ref d), v3, v4, v5] ∧ Own (Fr c) G' H' d (tab n.ps (osum (n.ws.take i) (amt l)))) ⟨none, none, rfl, o.ext Fr.mono e4⟩ (fun i wy u σ G2 H2 hi hu sl e z => ?_) (fun σ G2 H2 sl e z => ?_)
      · obtain ⟨v4, v5, rfl, o⟩ := z
        have mw := List.mem_of_getElem? hi
        have tl : ∀ w ∈ n.ws.take i, w ∈ n.ws := fun w hw => List.mem_of_mem_take hw
        have ti : (n.ws.take i).length ≤ 12 := Nat.le_trans (List.length_take_le' i _) nw.ok.w12
        have bo := fun p => sz.osum (f := amt l) nw.wy nw.ok.w12 tl ti pb.amt p
        have ba := sz.be (pb.amt wy.name).1 (pb.amt wy.name).2
        refine ⟨_, rfl, _, rfl, _, hu.name T e.gh, G2, y, l, wy.name, rfl, e.gh, hl.up Fr.mono (same_sm e.g), fun v5 G3 H3 e3 h3 => ?_⟩
        have o3 := o.ext Fr.mono e3
        have hu3 := WayAt.mono (same_sm e3.g) hu
        obtain ⟨u1, g1, r1⟩ := o3.get (tab_lk (nw.ok.st _ mw))
        refine ⟨_, rfl, _, rfl, _, hu3.start T e3.gh, d, u1, rfl, g1, r1.ins e3.gh, _, rfl, G3, u1, v5, _, _, rfl, e3.gh, r1, h3, (bo wy.start).bd, ba.bd, trivial, fun v6 G4 H4 e4 h4 => ?_⟩
        have o4 := o3.ext Fr.mono e4
        have hlen : (tab n.ps (osum (n.ws.take i) (amt l))).length < sizeLine := by rw [tab_len]; exact line100 (by have := nw.ok.p4; omega)
        obtain ⟨H5, dp, o5, _, eo⟩ := o4.put (k := wy.start) h4 hlen
        have s45 : Ext G H G4 H5 := by rw [eo]; exact ((e.trans e3).trans e4).wr hd o4.choose_spec.1
        have hu4 := WayAt.mono (same_sm e4.g) hu3
        refine ⟨_, rfl, _, rfl, _, hu4.start T e4.gh, d, H5, rfl, dp, ?_⟩
        rw [tab_put (nw.ok.st _ mw)] at o5
        obtain ⟨u2, g2, r2⟩ := o5.get (tab_lk (nw.ok.go _ mw))
        have f2 : fupd (osum (n.ws.take i) (amt l)) wy.start (osum (n.ws.take i) (amt l) wy.start - amt l wy.name) wy.goal = osum (n.ws.take i) (amt l) wy.goal := if_neg (fun z => nw.ok.ne _ mw z.symm)
        rw [f2] at r2
        have h5 := Fr.mono (same_sm e4.g) h3
        refine ⟨_, rfl, _, rfl, _, hu4.goal T s45.gh, d, u2, rfl, g2, r2.ins s45.gh, _, rfl, G4, wy, s45.gh, hu4, _, rfl, G4, v5, _, rfl, s45.gh, Same.refl _, h5, ba, fun v7 G6 H6 e6 h6 => ?_⟩
        have o6 := o5.ext Fr.mono e6
        have r6 := Fr.mono (same_sm e6.g) r2
        refine ⟨G6, u2, v7, _, _, rfl, e6.gh, r6, h6, (bo wy.goal).bd, ba.mul (hu.ok.gain), trivial, fun v8 G7 H7 e7 h7 => ?_⟩
        have o7 := o6.ext Fr.mono e7
        have hlen7 : (tab n.ps (fupd (osum (n.ws.take i) (amt l)) wy.start (osum (n.ws.take i) (amt l) wy.start - amt l wy.name))).length < sizeLine := by rw [tab_len]; exact line100 (by have := nw.ok.p4; omega)
        obtain ⟨H8, dp8, o8, _, eo8⟩ := o7.put (k := wy.goal) h7 hlen7
        have hu7 := WayAt.mono (same_sm (e6.trans e7).g) hu4
        rw [tab_put (nw.ok.go _ mw), osum_two hi _ (nw.ok.ne _ mw)] at o8
        refine ⟨_, rfl, _, rfl, _, hu7.goal T e7.gh, d, H8, rfl, dp8, G7, ((sl.trans e3.g).trans e4.g).trans (e6.trans e7).g, ?_, _, _, rfl, o8⟩
        rw [eo8]; exact ((s45.trans e6).trans e7).wr hd o7.choose_spec.1
      · obtain ⟨v4, v5, rfl, o⟩ := z
        rw [List.take_length] at o
        obtain ⟨G', e', hD, _⟩ := o.doneE Fr.mono s e hd
        exact ⟨_, rfl, k _ _ _ e' hD⟩
end
end GH
end
section
set_option maxRecDepth 100000
/-! Strangers refused, sums, worth, together, scaled. -/
namespace GH
open PySem PySem.Spec PyProof.Rows L2 GM
/-- a plan: names of the net, once each, no amount nil -/
structure PlOk (n : Nt) (l : Pl) : Prop where
  nd : (keys l).Nodup
  sub : ∀ k ∈ keys l, k ∈ names n.ws
  nz : ∀ p ∈ l, p.2 ≠ 0
theorem names_len (ws : List (Wy Str)) : (names ws).length = ws.length := by unfold names; rw [List.length_map]
theorem PlOk.len {n : Nt} {l : Pl} (h : PlOk n l) (k : n.ws.length ≤ 12) : l.length ≤ 12 := by
  have := pigeon h.nd h.sub
  rw [names_len] at this
  have e : (keys l).length = l.length := by unfold keys; rw [List.length_map]
  omega
theorem amt_none {l : Pl} {k : Str} (h : k ∉ keys l) : amt l k = 0 := by unfold amt; rw [lk_none.mpr h]; rfl
theorem amt_mem {l : Pl} (nd : (keys l).Nodup) {p : Str × Rat} (h : p ∈ l) : amt l p.1 = p.2 := by unfold amt; rw [lk_of_mem nd (show (p.1, p.2) ∈ l from h)]; rfl
theorem amt_put {l : Pl} {k j : Str} {x : Rat} : amt (put l k x) j = if j = k then x else amt l j := by
  unfold amt; rw [lk_put]; split <;> rfl
theorem amt_in {l : Pl} {k : Str} (h : amt l k ≠ 0) : k ∈ keys l := by
  apply Classical.byContradiction
  intro z; exact h (amt_none z)
/-! ### refuse_strangers, sums -/
def spRef (c : Cl) : Sp := fun vs H Q _ => ∃ (G : Hp) (x y : V) (n : Nt) (l : Pl), vs = [x, y] ∧ Same G H ∧ NetAt c G x n ∧ NtOk n ∧ DctE (Fr c) G y l ∧ l.length ≤ 1000 ∧ (∀ k ∈ keys l, k ∈ names n.ws) ∧ ∀ G' H', Ext G H G' H' → Q .non H'
def spSums (c : Cl) : Sp := fun vs H Q _ => ∃ (G : Hp) (x y : V) (n : Nt) (l : Pl) (D Vb : Nat), vs = [x, y] ∧ Same G H ∧ NetAt c G x n ∧ NtW n ∧ DctE (Fr c) G y l ∧ PlOk n l ∧ Sz D Vb ∧ PB D Vb l ∧ Ret G H Q (fun v G' => DctE (Fr c) G' v (tab n.ps (osum n.ws (amt l))))
def spWorth (c : Cl) : Sp := fun vs H Q _ => ∃ (G : Hp) (x y : V) (n : Nt) (l : Pl) (D Vb : Nat), vs = [x, y] ∧ Same G H ∧ NetAt c G x n ∧ NtW n ∧ DctE (Fr c) G y l ∧ PlOk n l ∧ Sz D Vb ∧ PB D Vb l ∧ Ret G H Q (fun v G' => Fr c G' v (worthF n.ws (amt l)))
theorem sum_worth (ws : List (Wy Str)) (f : Str → Rat) : sumL (ws.map fun w => f w.name * w.cost) = worthF ws f := by
  have : ∀ (ws : List (Wy Str)) (a : Rat), (ws.map fun w => f w.name * w.cost).foldl (· + ·) a = a + worthF ws f := by
    intro ws
    induction ws with
    | nil => intro a; show a = a + 0; grind
    | cons w r ih =>
      intro a
      show List.foldl (· + ·) (a + f w.name * w.cost) (r.map fun w => f w.name * w.cost) = a + (f w.name * w.cost + worthF r f)
      rw [ih]; grind
  show List.foldl (· + ·) 0 _ = _
  rw [this]; grind
section
variable {P : Program} {w : World} {K : PySem.W.Frag} {mg : Str → Option Value} {base : Heap} {c : Cl} {f : Addr} {fd : FuncData}
theorem scRef : FnScope ["net", "plan", "name"] ["net", "plan"] (defScope sRef) := ⟨rfl, rfl, rfl, by decide +kernel, rfl, by decide +kernel, by decide +kernel⟩
theorem ok_ref (F : FnP K "refuse_strangers" "refuse_strangers" sRef f fd) (T : Txt K mg c) (S1 : Fn P w K mg base "strangers" 2 ["net", "plan"] [] (spStr c)) : FnOk P w K mg base CX0 3 f fd ["net", "plan"] (spRef c) := by
  refine F.ok scRef (fun vs H Q E h => ?_) (fun cdv A outer s H vs Q E hr h => ?_)
  · obtain ⟨G, x, y, n, l, rfl, _⟩ := h
    rfl
  · obtain ⟨G, x, y, n, l, rfl, s, hn, nok, hl, len, kn, k⟩ := h
    refine ⟨_, PSs.nox (pss_one (ps_for PassesOwn.never rfl (pi_list (pe_fn S1 hr (by rfl) (pa_cons (pv 0) (pa_cons (pv 1) pa_nil)))) (pg_name (i := 2) scRef.nd rfl (Or.inl rfl)) pss_never)), ?_⟩
    refine ⟨_, rfl, _, rfl, G, x, y, n, l, rfl, s, hn, nok, hl, len, kn, fun v G1 H1 e1 h1 => ?_⟩
    exact for_lst (R := StrAt) StrAt.mono h1 (Same.refl _) e1 (fun i σ G' H' => True) trivial (fun i p u σ G2 H2 hi hu sl e z => by simp at hi) (fun σ G2 H2 sl e z => k _ _ e)
theorem scSums : FnScope ["net", "plan"] ["net", "plan"] (defScope sSums) := ⟨rfl, rfl, rfl, by decide +kernel, rfl, by decide +kernel, by decide +kernel⟩
theorem ok_sums (F : FnP K "sums" "sums" sSums f fd) (T : Txt K mg c) (S1 : Fn P w K mg base "refuse_strangers" 3 ["net", "plan"] [] (spRef c)) (S2 : Fn P w K mg base "own_sums" 7 ["net", "plan"] [] (spOwn c)) : FnOk P w K mg base CX0 8 f fd ["net", "plan"] (spSums c) := by
  refine F.ok scSums (fun vs H Q E h => ?_) (fun cdv A outer s H vs Q E hr h => ?_)
  · obtain ⟨G, x, y, n, l, D, Vb, rfl, _⟩ := h
    rfl
  · obtain ⟨G, x, y, n, l, D, Vb, rfl, s, hn, nw, hl, po, sz, pb, k⟩ := h
    refine ⟨_, PSs.nox (pss_cons (ps_expr (pe_fn S1 (hr.mono (by decide)) (by rfl) (pa_cons (pv 0) (pa_cons (pv 1) pa_nil)))) (pss_one (ps_ret (pe_fn S2 hr (by rfl) (pa_cons (pv 0) (pa_cons (pv 1) pa_nil)))))), ?_⟩
    refine ⟨_, rfl, _, rfl, G, x, y, n, l, rfl, s, hn, nw.ok, hl, by have := po.len nw.ok.w12; omega, po.sub, fun G1 H1 e1 => ?_⟩
    refine ⟨_, rfl, _, rfl, G1, x, y, n, l, D, Vb, rfl, e1.gh, hn.up' e1.g, nw, (hl.up Fr.mono e1.g).at, sz, pb, fun v G2 H2 e2 h2 => k _ _ _ (e1.trans e2) h2⟩
theorem scWorth : FnScope ["net", "plan", "way"] ["net", "plan"] (defScope sWorth) := ⟨rfl, rfl, rfl, by decide +kernel, rfl, by decide +kernel, by decide +kernel⟩
theorem ok_worth (F : FnP K "worth" "worth" sWorth f fd) (T : Txt K mg c) (M : FrM P w K mg base c) (N : NtM P w K mg base c) (A1 : AmtF P w K mg base c) (S1 : Fn P w K mg base "refuse_strangers" 3 ["net", "plan"] [] (spRef c)) (S2 : Fn P w K mg base "total" 5 ["some"] [] (spTotal c)) : FnOk P w K mg base CX0 6 f fd ["net", "plan"] (spWorth c) := by
  refine F.ok scWorth (fun vs H Q E h => ?_) (fun cdv A outer s H vs Q E hr h => ?_)
  · obtain ⟨G, x, y, n, l, D, Vb, rfl, _⟩ := h
    rfl
  · obtain ⟨G, x, y, n, l, D, Vb, rfl, s, hn, nw, hl, po, sz, pb, k⟩ := h
    refine ⟨_, PSs.nox (pss_cons (ps_expr (pe_fn S1 (hr.mono (by decide)) (by rfl) (pa_cons (pv 0) (pa_cons (pv 1) pa_nil))))
      (pss_one (ps_ret (pe_fn S2 hr (by rfl) (pa_cons (pe_k (pe_lc (own := [("way", 2)]) (g := gName 2) (tt := tYes) (te := tM c.F "times" (spTimes c) (tCall (spAmount c) [] E0 (tCons (tVar 1) (tCons (tF K (tVar 2) "name") tNil))) (tCons (tF K (tVar 2) "cost") tNil)) rfl scWorth.nd (pi_list (pe_m0 T.clN N.all (hr.mono (by decide)) (pv 0))) (blkOk_by (N := ["net", "plan", "way"]) (sc := defScope sWorth) (by decide +kernel))
          (fun _ _ _ _ _ => pg_name (i := 2) scWorth.nd rfl (Or.inl rfl)) (fun _ _ _ _ _ => pts_nil) (fun _ _ _ _ _ => pe_m T.clF M.times (hr.mono (by decide)) (pe_fn A1 hr (by rfl) (pa_cons (pv 1) (pa_cons (pe_f (pv 2)) pa_nil))) (pa_cons (pe_f (pv 2)) pa_nil)))) pa_nil))))), ?_⟩
    refine ⟨_, rfl, _, rfl, G, x, y, n, l, rfl, s, hn, nw.ok, hl, by have := po.len nw.ok.w12; omega, po.sub, fun G1 H1 e1 => ?_⟩
    have hn1 := hn.up' e1.g
    refine ⟨_, rfl, hn1.ins e1.gh, G1, x, n, rfl, e1.gh, hn1, fun v1 G2 H2 e2 h2 => ?_⟩
    have hl2 := (hl.at.up Fr.mono (same_sm (e1.trans e2).g))
    refine lc_lst (R := WayAt c) (S := Fr c) WayAt.mono Fr.mono h2 (Same.refl _) s (e1.trans e2) (by have := nw.ok.w12; omega) (fun i => (n.ws.take i).map fun w => amt l w.name * w.cost) rfl (fun i wy u G3 H3 hi hu sl e Yes No hy _ => ?_) (fun v2 G3 H3 sl e h3 => ?_)
    · have mw := List.mem_of_getElem? hi
      have cI : Dv 1 wy.cost := by have := dv_den wy.cost; rwa [nw.cd _ mw] at this
      have ba := sz.be (pb.amt wy.name).1 (pb.amt wy.name).2
      refine ⟨rfl, lc_yes ⟨_, rfl, _, rfl, _, hu.name T e.gh, G3, y, l, wy.name, rfl, e.gh, hl2.up Fr.mono (same_sm sl), fun v4 G4 H4 e4 h4 => ?_⟩⟩
      have hu4 := WayAt.mono (same_sm e4.g) hu
      obtain ⟨vc, fc, rc⟩ := hu4.cost T e4.gh
      refine ⟨h4.ins e4.gh, _, rfl, _, fc, G4, v4, vc, _, _, rfl, e4.gh, h4, rc, ba.bd, hu.ok.cost.be.bd, trivial, fun v5 G5 H5 e5 h5 => hy _ _ _ _ (e4.trans e5) h5 ?_⟩
      show List.map _ (n.ws.take (i + 1)) = List.map _ (n.ws.take i) ++ _
      rw [take_succ_of hi, List.map_append]; rfl
    · rw [List.take_length] at h3
      refine ⟨G3, v2, _, D, Vb * 2 ^ 10, rfl, e.gh, h3, sz.pos, Nat.le_trans sz.d (Nat.pow_le_pow_right (by decide) (by decide)), ?_, by rw [List.length_map]; have := nw.ok.w12; omega, fun q hq => ?_, fun v4 G4 H4 e4 h4 => k _ _ _ (e.trans e4) (by rw [← sum_worth]; exact h4)⟩
      · calc Vb * 2 ^ 10 ≤ 2 ^ 70000 * 2 ^ 10 := Nat.mul_le_mul_right _ sz.v
          _ = 2 ^ 70010 := by rw [← Nat.pow_add]
          _ ≤ 2 ^ 80000 := Nat.pow_le_pow_right (by decide) (by decide)
      · obtain ⟨wy, mw, rfl⟩ := List.mem_map.mp hq
        have cI : Dv 1 wy.cost := by have := dv_den wy.cost; rwa [nw.cd _ mw] at this
        have d1 := (pb.amt wy.name).1.mul cI
        rw [Nat.mul_one] at d1
        exact ⟨d1, (pb.amt wy.name).2.mul (nw.wy _ mw).cost.ab⟩
end
end GH
end
section
set_option maxRecDepth 100000
/-! Plans together, scaled. -/
namespace GH
open PySem PySem.Spec PyProof.Rows L2 GM
/-- v tells the plan of f, over the names xs -/
structure Told (l : Pl) (xs : List Str) (f : Str → Rat) : Prop where
  nd : (keys l).Nodup
  sub : ∀ k ∈ keys l, k ∈ xs
  nz : ∀ p ∈ l, p.2 ≠ 0
  amt : ∀ m, amt l m = if m ∈ xs then f m else 0
theorem Told.nil (f : Str → Rat) : Told [] [] f := ⟨List.nodup_nil, (fun k h => nomatch h), (fun p h => nomatch h), fun m => by rw [if_neg List.not_mem_nil]; rfl⟩
theorem Told.skip {l : Pl} {xs : List Str} {f : Str → Rat} (h : Told l xs f) {k : Str} (e : f k = 0) : Told l (xs ++ [k]) f :=
  ⟨h.nd, fun j hj => List.mem_append_left _ (h.sub j hj), h.nz, fun m => by
    rw [h.amt]
    by_cases h1 : m ∈ xs
    · rw [if_pos h1, if_pos (List.mem_append_left _ h1)]
    · rw [if_neg h1]
      by_cases h2 : m = k
      · subst h2; rw [if_pos (List.mem_append_right _ (List.mem_singleton.mpr rfl)), e]
      · rw [if_neg (fun z => by rcases List.mem_append.mp z with z | z; exact h1 z; exact h2 (List.mem_singleton.mp z))]⟩
theorem Told.add {l : Pl} {xs : List Str} {f : Str → Rat} (h : Told l xs f) {k : Str} (e : f k ≠ 0) : Told (put l k (f k)) (xs ++ [k]) f :=
  ⟨nodup_put h.nd, fun j hj => by
    rw [keys_put] at hj
    split at hj
    · exact List.mem_append_left _ (h.sub j hj)
    · rcases List.mem_append.mp hj with hj | hj
      · exact List.mem_append_left _ (h.sub j hj)
      · exact List.mem_append_right _ hj, fun p hp => by
    rcases mem_put hp with rfl | ⟨hp, _⟩
    · exact e
    · exact h.nz p hp, fun m => by
    rw [amt_put]
    by_cases h2 : m = k
    · subst h2; rw [if_pos rfl, if_pos (List.mem_append_right _ (List.mem_singleton.mpr rfl))]
    · rw [if_neg h2, h.amt]
      by_cases h1 : m ∈ xs
      · rw [if_pos h1, if_pos (List.mem_append_left _ h1)]
      · rw [if_neg h1, if_neg (fun z => by rcases List.mem_append.mp z with z | z; exact h1 z; exact h2 (List.mem_singleton.mp z))]⟩
theorem sgn_zero {a : Rat} : sgn a = 0 ↔ a = 0 := by
  unfold sgn
  constructor
  · intro h
    split at h
    · cases h
    · split at h
      · cases h
      · grind
  · intro h
    subst h
    rw [if_neg Rat.lt_irrefl, if_neg Rat.lt_irrefl]
theorem sgn_ne {a : Rat} : (!decide (V.int (sgn a) = V.int 0)) = decide (a ≠ 0) := by
  by_cases h : a = 0
  · rw [decide_eq_true (by rw [sgn_zero.mpr h] : V.int (sgn a) = V.int 0), decide_eq_false (fun z => z h)]; rfl
  · rw [decide_eq_false (fun z => h (sgn_zero.mp (V.int.inj z)) : ¬ V.int (sgn a) = V.int 0), decide_eq_true h]; rfl
/-- one and other are those plans; the plan that comes back -/
def spTog (c : Cl) : Sp := fun vs H Q _ => ∃ (G : Hp) (x y : V) (l r : Pl), vs = [x, y] ∧ Same G H ∧ DctAt (Fr c) G x l ∧ DctAt (Fr c) G y r ∧ l.length ≤ 100 ∧ r.length ≤ 100 ∧ (∀ n, Bd (amt l n) ∧ Bd (amt r n)) ∧
  Ret G H Q (fun v G' => ∃ m, DctE (Fr c) G' v m ∧ Told m (keys l ++ keys r) fun n => amt l n + amt r n)
def spScal (c : Cl) : Sp := fun vs H Q _ => ∃ (G : Hp) (x y : V) (l : Pl) (q : Rat), vs = [x, y] ∧ Same G H ∧ DctE (Fr c) G x l ∧ (keys l).Nodup ∧ Fr c G y q ∧ l.length ≤ 100 ∧ Bd q ∧ (∀ n, Bd (amt l n)) ∧
  Ret G H Q (fun v G' => ∃ m, DctE (Fr c) G' v m ∧ Told m (keys l) fun n => amt l n * q)
section
variable {P : Program} {w : World} {K : PySem.W.Frag} {mg : Str → Option Value} {base : Heap} {c : Cl} {f : Addr} {fd : FuncData}
theorem flat_pair {G : Hp} : ∀ l : List Str, Paired (StrAt G) (l.map V.str) l
  | [] => .nil
  | _ :: l => .cons rfl (flat_pair l)
/-- list(d) of a plan -/
theorem keys_len {α : Type} (l : List (Str × α)) : (keys l).length = l.length := by unfold keys; rw [List.length_map]
theorem Told.lenle {l : Pl} {xs : List Str} {f : Str → Rat} (h : Told l xs f) : l.length ≤ xs.length := by
  have := pigeon h.nd h.sub
  rwa [keys_len] at this
theorem scTog : FnScope ["one", "other", "added", "name", "put"] ["one", "other"] (defScope sTog) := ⟨rfl, rfl, rfl, by decide +kernel, rfl, by decide +kernel, by decide +kernel⟩
theorem ok_tog (F : FnP K "together" "together" sTog f fd) (T : Txt K mg c) (M : FrM P w K mg base c) (A1 : AmtF P w K mg base c) : FnOk P w K mg base CX0 6 f fd ["one", "other"] (spTog c) := by
  refine F.ok scTog (fun vs H Q E h => ?_) (fun cdv A outer s H vs Q E hr h => ?_)
  · obtain ⟨G, x, y, l, r, rfl, _⟩ := h
    rfl
  · obtain ⟨G, x, y, l, r, rfl, s, hl, hrr, len, len', bd, k⟩ := h
    refine ⟨_, PSs.nox (pss_cons (ps_set (i := 2) scTog.nd rfl (Or.inl rfl) pe_dnewK)
      (pss_cons (ps_for PassesOwn.never rfl (pi_list (pe_op op_cat (pe_callTy (call_listD rfl) (by rfl) T.list (by decide +kernel) (pa_cons (pv 0) pa_nil)) (pe_callTy (call_listD rfl) (by rfl) T.list (by decide +kernel) (pa_cons (pv 1) pa_nil)))) (pg_name (i := 3) scTog.nd rfl (Or.inl rfl))
        (pss_cons (ps_set (i := 4) scTog.nd rfl (Or.inl rfl) (pe_m T.clF M.plus (hr.mono (by decide)) (pe_fn A1 hr (by rfl) (pa_cons (pv 0) (pa_cons (pv 3) pa_nil))) (pa_cons (pe_fn A1 hr (by rfl) (pa_cons (pv 1) (pa_cons (pv 3) pa_nil))) pa_nil)))
        (pss_one (ps_if (pt_cmpR op_ne (pe_m0 T.clF M.sign (hr.mono (by decide)) (pv 4)) pe_int (nomark _)) (pss_one (ps_dput (hu_of hr) (pv 2) (pv 3) (pv 4) rfl)) pss_nil))))
      (pss_one (ps_ret (pv 2))))), ?_⟩
    intro d hd
    have e0 := Ext.tmp (o := .dK []) s hd
    have o0 := Own.nil (R := Fr c) s hd
    obtain ⟨a, kvs, rfl, hk, hp⟩ := id hl
    obtain ⟨b, kvs', rfl, hk', hp'⟩ := id hrr
    refine ⟨_, rfl, a, kvs, rfl, (hk.sm (same_sm e0.gh)).rd, fun p np => ?_⟩
    have e1 := Ext.imm (p := p) (o := .lst (kvs.map fun kv => kV kv.1)) e0.gh np
    have e01 := e0.trans e1
    refine ⟨_, rfl, b, kvs', rfl, (hk'.sm (same_sm (e01.g.trans e01.gh))).rd, fun p' np' => ?_⟩
    have e2 := Ext.imm (p := p') (o := .lst (kvs'.map fun kv => kV kv.1)) e01.gh np'
    refine ⟨p, p', _, _, rfl, rfl, e2.h _ _ upd_same, upd_same, ?_, fun q nq => ?_⟩
    · rw [List.length_map, List.length_map, paired_len hp, paired_len hp']
      exact Nat.le_of_lt (line100 (by omega))
    have e012 := e01.trans e2
    have e3 := Ext.imm (p := q) (o := .lst ((kvs.map fun kv => kV kv.1) ++ (kvs'.map fun kv => kV kv.1))) e012.gh nq
    have hL : LstAt StrAt (upd (upd (upd G p (.lst (kvs.map fun kv => kV kv.1))) p' (.lst (kvs'.map fun kv => kV kv.1))) q (.lst ((kvs.map fun kv => kV kv.1) ++ (kvs'.map fun kv => kV kv.1)))) (.ref q) (keys l ++ keys r) := by
      refine ⟨q, _, rfl, upd_same, ?_⟩
      rw [kv_keys hp, kv_keys hp', ← List.map_append]
      exact flat_pair _
    have e := e012.trans e3
    refine for_lst (R := StrAt) StrAt.mono hL (Same.refl _) e (fun i σ G' H' => ∃ v3 v4 m, σ = [some (.ref a), some (.ref b), some (.ref d), v3, v4] ∧ Own (Fr c) G' H' d m ∧ Told m ((keys l ++ keys r).take i) fun n => amt l n + amt r n)
      ⟨none, none, [], rfl, o0.ext Fr.mono ((e1.trans e2).trans e3), Told.nil _⟩ (fun i nm u σ G2 H2 hi hu sl e z => ?_) (fun σ G2 H2 sl e z => ?_)
    · obtain ⟨v3, v4, m, rfl, o, t⟩ := z
      have hu : u = .str nm := hu
      subst hu
      have hl2 := hl.up Fr.mono (same_sm e.g)
      have hr2 := hrr.up Fr.mono (same_sm e.g)
      refine ⟨_, rfl, _, rfl, G2, _, l, nm, rfl, e.gh, hl2, fun v5 G3 H3 e3 h3 => ?_⟩
      refine ⟨h3.ins e3.gh, _, rfl, _, rfl, G3, _, r, nm, rfl, e3.gh, hr2.up Fr.mono (same_sm e3.g), fun v6 G4 H4 e4 h4 => ?_⟩
      refine ⟨G4, v5, v6, _, _, rfl, e4.gh, Fr.mono (same_sm e4.g) h3, h4, (bd nm).1, (bd nm).2, trivial, fun v7 G5 H5 e5 h5 => ?_⟩
      have e6 := (e3.trans e4).trans e5
      have o6 := o.ext Fr.mono e6
      refine ⟨_, rfl, h5.ins e5.gh, G5, v7, _, rfl, e5.gh, h5, rfl, _, rfl, ?_⟩
      have tk := take_succ_of hi
      rw [sgn_ne]
      by_cases nz : amt l nm + amt r nm ≠ 0
      · rw [decide_eq_true nz]
        have hlen : m.length < sizeLine := line100 (by
          have := t.lenle
          have h2 := List.length_take_le' i (keys l ++ keys r)
          rw [List.length_append, keys_len, keys_len] at h2
          omega)
        obtain ⟨H7, dp, o7, _, eo⟩ := o6.put (k := nm) h5 hlen
        refine iteT ⟨_, rfl, _, rfl, _, rfl, d, H7, rfl, dp, G5, sl.trans e6.g, ?_, _, _, _, rfl, o7, by rw [tk]; exact t.add nz⟩
        rw [eo]; exact (e.trans e6).wr hd o6.choose_spec.1
      · rw [decide_eq_false nz]
        exact iteF ⟨G5, sl.trans e6.g, e.trans e6, _, _, _, rfl, o6, by rw [tk]; exact t.skip (Decidable.not_not.mp nz)⟩
    · obtain ⟨v3, v4, m, rfl, o, t⟩ := z
      rw [List.take_length] at t
      obtain ⟨G', e', hD, _⟩ := o.doneE Fr.mono s e hd
      exact ⟨_, rfl, k _ _ _ e' ⟨m, hD, t⟩⟩
theorem scScal : FnScope ["plan", "number", "made", "name", "put"] ["plan", "number"] (defScope sScal) := ⟨rfl, rfl, rfl, by decide +kernel, rfl, by decide +kernel, by decide +kernel⟩
theorem ok_scal (F : FnP K "scaled" "scaled" sScal f fd) (T : Txt K mg c) (M : FrM P w K mg base c) : FnOk P w K mg base CX0 5 f fd ["plan", "number"] (spScal c) := by
  refine F.ok scScal (fun vs H Q E h => ?_) (fun cdv A outer s H vs Q E hr h => ?_)
  · obtain ⟨G, x, y, l, q, rfl, _⟩ := h
    rfl
  · obtain ⟨G, x, y, l, q, rfl, s, hl, nd, hy, len, bq, bd, k⟩ := h
    refine ⟨_, PSs.nox (pss_cons (ps_set (i := 2) scScal.nd rfl (Or.inl rfl) pe_dnewK)
      (pss_cons (ps_lock (ps_for PassesOwn.never rfl (pi_items (pv 0)) (pg_tup rfl (pgs_cons (pg_name (i := 3) scScal.nd rfl (Or.inl rfl)) (pgs_cons (pg_name (i := 4) scScal.nd rfl (Or.inl rfl)) pgs_nil)))
        (pss_one (ps_if (pt_cmpR op_ne (pe_m0 T.clF M.sign (hr.mono (by decide)) (pe_m T.clF M.times hr (pv 4) (pa_cons (pv 1) pa_nil))) pe_int (nomark _)) (pss_one (ps_dput (hu_of hr) (pv 2) (pv 3) (pe_m T.clF M.times hr (pv 4) (pa_cons (pv 1) pa_nil)) rfl)) pss_nil))))
      (pss_one (ps_ret (pv 2))))), ?_⟩
    intro d hd
    have e0 := Ext.tmp (o := .dK []) s hd
    have o0 := Own.nil (R := Fr c) s hd
    obtain ⟨a, kvs, rfl, hk, hp⟩ := id hl
    refine ⟨a, _, e0.gh _ _ hk, trivial, fun od => ?_⟩
    have sL := same_upd (p := a) (o := lck od kvs) e0.gh
    refine ⟨_, rfl, a, od, kvs, rfl, upd_same, ?_⟩
    have ad : d ≠ a := fun z => by have := Same.free s hd; rw [z, hk] at this; cases this
    have hdL : upd H a (lck od kvs) d = none := by rw [upd_ne ad]; exact hd
    have eL : Ext (upd G a (lck od kvs)) (upd H a (lck od kvs)) (upd G a (lck od kvs)) (upd (upd H d (.dK [])) a (lck od kvs)) := by
      rw [upd_two (Ne.symm ad)]
      exact Ext.tmp (same_upd s) hdL
    have ol := o0.turn (a := a) (o' := lck od kvs) hk (lock_sm hk)
    refine for_items (l := l) hp (fun i σ H' => ∃ G' v3 v4 m, σ = [some (.ref a), some y, some (.ref d), v3, v4] ∧ Ext (upd G a (lck od kvs)) (upd H a (lck od kvs)) G' H' ∧ Own (Fr c) G' H' d m ∧ Told m ((keys l).take i) fun n => amt l n * q)
      ⟨_, none, none, [], rfl, eL, ol, Told.nil _⟩ (fun i σ H' _ z => ?_) (fun i pr u Tt σ H' hi hu nT z => ?_) (fun σ H' z => ?_)
    · obtain ⟨G', v3, v4, m, _, e, _⟩ := z
      exact (unl s hk e).1
    · obtain ⟨G', v3, v4, m, rfl, e, o, t⟩ := z
      have e1 := Ext.imm (p := Tt) (o := .tup [.str pr.1, u]) e.gh nT
      have smG : Sm G (upd G' Tt (.tup [.str pr.1, u])) := fun b o' z => by
        obtain ⟨o1, z1, c1⟩ := lock_sm (od := od) hk b o' z
        exact ⟨o1, (e.g.trans e1.g) _ _ z1, c1⟩
      have hu1 := Fr.mono smG hu
      have hy1 := Fr.mono smG hy
      have mem := List.mem_of_getElem? hi
      have av : amt l pr.1 = pr.2 := amt_mem nd mem
      have bp : Bd pr.2 := by have := bd pr.1; rwa [av] at this
      refine ⟨Tt, _, rfl, SqT.of upd_same, rfl, _, _, rfl, _, _, rfl, rfl, ?_⟩
      refine ⟨_, rfl, hu1.ins e1.gh, _, rfl, _, u, y, _, _, rfl, e1.gh, hu1, hy1, bp, bq, trivial, fun v5 G5 H5 e5 h5 => ?_⟩
      refine ⟨h5.ins e5.gh, G5, v5, _, rfl, e5.gh, h5, rfl, _, rfl, ?_⟩
      have tk : (keys l).take (i + 1) = (keys l).take i ++ [pr.1] := take_succ_of (by unfold keys; rw [List.getElem?_map, hi]; rfl)
      rw [sgn_ne]
      by_cases nz : pr.2 * q ≠ 0
      · rw [decide_eq_true nz]
        have hu5 := Fr.mono (same_sm e5.g) hu1
        have hy5 := Fr.mono (same_sm e5.g) hy1
        refine iteT ⟨_, rfl, hu5.ins e5.gh, _, rfl, G5, u, y, _, _, rfl, e5.gh, hu5, hy5, bp, bq, trivial, fun v6 G6 H6 e6 h6 => ?_⟩
        have o6 := o.ext Fr.mono ((e1.trans e5).trans e6)
        have hlen : m.length < sizeLine := line100 (by
          have := t.lenle
          have h2 := List.length_take_le' i (keys l)
          rw [keys_len] at h2
          omega)
        obtain ⟨H7, dp, o7, _, eo⟩ := o6.put (k := pr.1) h6 hlen
        have ad : d ≠ a := fun z => by have := Same.free s hd; rw [z, hk] at this; cases this
        refine ⟨_, rfl, _, rfl, d, H7, rfl, dp, G6, _, _, _, rfl, ?_, o7, ?_⟩
        · rw [eo]; exact (e.trans ((e1.trans e5).trans e6)).wr hdL o6.choose_spec.1
        · rw [tk, ← av]; exact t.add (by rw [av]; exact nz)
      · rw [decide_eq_false nz]
        exact iteF ⟨G5, _, _, _, rfl, e.trans (e1.trans e5), o.ext Fr.mono (e1.trans e5), by rw [tk]; exact t.skip (by show amt l pr.1 * q = 0; rw [av]; exact Decidable.not_not.mp nz)⟩
    · obtain ⟨G', v3, v4, m, rfl, e, o, t⟩ := z
      obtain ⟨q1, q2, q3⟩ := unl s hk e
      rw [← keys_len, List.take_length] at t
      have g1 : G' a = some (lck od kvs) := e.g a _ upd_same
      have o2 := o.turn (a := a) (o' := .dK kvs) g1 q3
      obtain ⟨G2, e2, hD, _⟩ := o2.doneE Fr.mono s q2 hd
      exact ⟨q1, _, rfl, k _ _ _ e2 ⟨m, hD, t⟩⟩
end
end GH
end
section
set_option maxRecDepth 100000
/-! Walks. -/
namespace GH
open PySem PySem.Spec PyProof.Rows L2 GM
/-- some ways of the net that join on, one behind the other -/
structure Wlk (n : Nt) (us : List (Wy Str)) : Prop where
  walk : ∃ a b, Walk a us b
  sub : ∀ w ∈ us, w ∈ n.ws
  len : us.length ≤ 20
/-- the places that a walk comes by -/
def plc : List (Wy Str) → List Str
  | [] => []
  | w :: r => w.start :: goals (w :: r)
theorem walk_adj {a b : Str} : ∀ {us : List (Wy Str)} {i : Nat} {v w : Wy Str}, Walk a us b → us[i]? = some v → us[i + 1]? = some w → w.start = v.goal := by
  intro us
  induction us generalizing a with
  | nil => intro i v w _ h; simp at h
  | cons u r ih =>
    intro i v w hw h1 h2
    cases i with
    | zero =>
      simp at h1; subst h1
      cases r with
      | nil => simp at h2
      | cons z r => simp at h2; subst h2; exact hw.2.1
    | succ i => exact ih hw.2 (by simpa using h1) (by simpa using h2)
theorem names_get {us : List (Wy Str)} {i : Nat} {m : Str} (h : (names us)[i]? = some m) : ∃ w, us[i]? = some w ∧ w.name = m := by
  unfold names at h
  rw [List.getElem?_map] at h
  cases e : us[i]? with
  | none => rw [e] at h; cases h
  | some w => rw [e] at h; exact ⟨w, rfl, Option.some.inj h⟩
theorem paired_last {R : V → Wy Str → Prop} {vs : List V} {us : List (Wy Str)} (h : Paired R vs us) {i : Nat} {w : Wy Str} (hi : us[i]? = some w) (hl : us.length = i + 1) : ∃ v, atI vs (-1) = some v ∧ R v w := by
  obtain ⟨v, hv, hr⟩ := paired_get' h i w hi
  refine ⟨v, ?_, hr⟩
  have e : vs.length = i + 1 := (paired_len h).trans hl
  unfold atI ixN
  rw [if_neg (by decide), if_pos (by omega)]
  show vs[(-1 + (vs.length : Int)).toNat]? = some v
  rw [e, show (-1 + ((i + 1 : Nat) : Int)).toNat = i by omega, hv]
theorem paired_first {R : V → Wy Str → Prop} {vs : List V} {us : List (Wy Str)} (h : Paired R vs us) {w : Wy Str} (hi : us[0]? = some w) : ∃ v, atI vs 0 = some v ∧ R v w := by
  obtain ⟨v, hv, hr⟩ := paired_get' h 0 w hi
  refine ⟨v, ?_, hr⟩
  have e : 0 < vs.length := by have := (List.getElem?_eq_some_iff.mp hv).1; omega
  unfold atI ixN
  rw [if_pos (by decide), if_pos (by omega)]
  exact hv
def spWW (c : Cl) : Sp := fun vs H Q _ => ∃ (G : Hp) (x y : V) (n : Nt) (us : List (Wy Str)), vs = [x, y] ∧ Same G H ∧ NetAt c G x n ∧ NtOk n ∧ LstAt StrAt G y (names us) ∧ Wlk n us ∧ Ret G H Q (fun v G' => LstAt (WayAt c) G' v us)
def spPO (c : Cl) : Sp := fun vs H Q _ => ∃ (G : Hp) (x y : V) (n : Nt) (us : List (Wy Str)), vs = [x, y] ∧ Same G H ∧ NetAt c G x n ∧ NtOk n ∧ LstAt StrAt G y (names us) ∧ Wlk n us ∧ Ret G H Q (fun v G' => LstAt StrAt G' v (plc us))
def spGO (c : Cl) : Sp := fun vs H Q _ => ∃ (G : Hp) (x y : V) (n : Nt) (us : List (Wy Str)), vs = [x, y] ∧ Same G H ∧ NetAt c G x n ∧ NtW n ∧ LstAt StrAt G y (names us) ∧ Wlk n us ∧ Ret G H Q (fun v G' => Fr c G' v (gainW us))
theorem gainW_sz {us : List (Wy Str)} (h : ∀ w ∈ us, WyOk w) : (gainW us).den ≤ 2 ^ (10 * us.length) ∧ (gainW us).num.natAbs ≤ 2 ^ (10 * us.length) := by
  induction us with
  | nil => exact ⟨by decide, by decide⟩
  | cons w r ih =>
    obtain ⟨i1, i2⟩ := ih fun v hv => h v (List.mem_cons_of_mem _ hv)
    have hw := (h w List.mem_cons_self).gain
    have e : (2 : Nat) ^ (10 * (w :: r).length) = 2 ^ 10 * 2 ^ (10 * r.length) := by rw [← Nat.pow_add, List.length_cons]; congr 1; omega
    rw [e]
    exact ⟨Nat.le_trans (den_mul_le _ _) (Nat.mul_le_mul hw.den i1), Nat.le_trans (num_mul_le _ _) (Nat.mul_le_mul hw.num i2)⟩
theorem gainW_bd {us : List (Wy Str)} (h : ∀ w ∈ us, WyOk w) (l : us.length ≤ 20) : Bd (gainW us) := by
  obtain ⟨h1, h2⟩ := gainW_sz h
  exact ⟨Nat.lt_of_le_of_lt h1 (Nat.pow_lt_pow_right (by decide) (by omega)), Nat.lt_of_le_of_lt h2 (Nat.pow_lt_pow_right (by decide) (by omega))⟩
abbrev sWW : Stmt := topS 25
abbrev sPO : Stmt := topS 26
abbrev sGO : Stmt := topS 27
abbrev sIP : Stmt := topS 28
abbrev sIR : Stmt := topS 29
abbrev sSent : Stmt := topS 30
section
variable {P : Program} {w : World} {K : PySem.W.Frag} {mg : Str → Option Value} {base : Heap} {c : Cl} {f : Addr} {fd : FuncData}
theorem scWW : FnScope ["net", "walk", "ways", "name", "way"] ["net", "walk"] (defScope sWW) := ⟨rfl, rfl, rfl, by decide +kernel, rfl, by decide +kernel, by decide +kernel⟩
theorem len_gt (n : Nat) : decide ((0 : Int) < (n : Int)) = decide (0 < n) := decide_eq_decide.mpr (by omega)
theorem ok_ww (F : FnP K "walk_ways" "walk_ways" sWW f fd) (T : Txt K mg c) (N : NtM P w K mg base c) : FnOk P w K mg base CX0 2 f fd ["net", "walk"] (spWW c) := by
  refine F.ok scWW (fun vs H Q E h => ?_) (fun cdv A outer s H vs Q E hr h => ?_)
  · obtain ⟨G, x, y, n, us, rfl, _⟩ := h
    rfl
  · obtain ⟨G, x, y, n, us, rfl, s, hn, nok, hy, wk, k⟩ := h
    refine ⟨_, PSs.nox (pss_cons (ps_set (i := 2) scWW.nd rfl (Or.inl rfl) (pe_lst pa_nil))
      (pss_cons (ps_for PassesOwn.never rfl (pi_list (pv 1)) (pg_name (i := 3) scWW.nd rfl (Or.inl rfl))
        (pss_cons (ps_set (i := 4) scWW.nd rfl (Or.inl rfl) (pe_m T.clN N.way hr (pv 0) (pa_cons (pv 3) pa_nil)))
        (pss_cons (ps_if (pw_and (pt_cmpR op_gt (pe_callB call_len_seq (by rfl) T.len PySem.boot_len (pa_cons (pv 2) pa_nil)) pe_int (nomark _)) (pw_and1 (pt_cmpR op_ne (pe_f (pv 4)) (pe_f (pe_ix ix_list (pv 2) (pe_un un_neg pe_int) (fun _ _ => rfl))) (nomark _)))).pt pss_never pss_nil)
        (pss_one (ps_expr (pe_bm PySem.F.plainAttrs_list PySem.F.slot_list_append PySem.F.type_list_append mt_append (pv 2) (pa_cons (pv 4) pa_nil)))))))
      (pss_one (ps_ret (pv 2))))), ?_⟩
    refine ⟨Nat.zero_le _, fun d hd => ?_⟩
    have e0 := Ext.tmp (o := .lst []) s hd
    have o0 := OwnL.nil (R := WayAt c) s hd
    refine ⟨_, rfl, ?_⟩
    refine for_lst (R := StrAt) StrAt.mono hy (Same.refl _) e0 (fun i σ G' H' => ∃ v3 v4, σ = [some x, some y, some (.ref d), v3, v4] ∧ OwnL (WayAt c) G' H' d (us.take i)) ⟨none, none, rfl, o0⟩ (fun i m u σ G2 H2 hi hu sl e z => ?_) (fun σ G2 H2 sl e z => ?_)
    · obtain ⟨v3, v4, rfl, o⟩ := z
      obtain ⟨wy, hw, rfl⟩ := names_get hi
      have hu : u = .str wy.name := hu
      subst hu
      have mw := wk.sub _ (List.mem_of_getElem? hw)
      have hn2 := hn.up' e.g
      refine ⟨_, rfl, hn2.ins e.gh, _, rfl, G2, x, n, wy, rfl, e.gh, hn2, nok, mw, fun v5 G3 H3 e3 h3 => ?_⟩
      have o3 := o.ext WayAt.mono e3
      obtain ⟨vs, gd3, hd3, hp3⟩ := o3
      have il : i < us.length := (List.getElem?_eq_some_iff.mp hw).1
      have ll : (us.take i).length = i := by rw [List.length_take]; omega
      have lv : vs.length = i := (paired_len hp3).trans ll
      have hlen : vs.length < sizeLine := line100 (by have := wk.len; omega)
      have o4 : OwnL (WayAt c) G3 (upd H3 d (.lst (vs ++ [v5]))) d (us.take (i + 1)) := by rw [take_succ_of hw]; exact OwnL.snoc gd3 hp3 h3
      have e4 : Ext G H G3 (upd H3 d (.lst (vs ++ [v5]))) := (e.trans e3).wr hd gd3
      have ty : tyV K "list" (.ref d) H3 := .inl ⟨rfl, vs, SqL.of hd3⟩
      refine ⟨_, rfl, d, vs, rfl, .inl (SqL.of hd3), _, _, rfl, rfl, _, rfl, ?_⟩
      rw [len_gt, lv]
      by_cases i0 : 0 < i
      · rw [decide_eq_true i0]
        obtain ⟨j, rfl⟩ : ∃ j, i = j + 1 := ⟨i - 1, by omega⟩
        obtain ⟨pv, hpv⟩ : ∃ v, us[j]? = some v := ⟨us[j], List.getElem?_eq_getElem (by omega)⟩
        obtain ⟨a, b, hwk⟩ := wk.walk
        have adj := walk_adj hwk hpv hw
        obtain ⟨v6, hv6, r6⟩ := paired_last hp3 (i := j) (w := pv) (by rw [List.getElem?_take, if_pos (by omega)]; exact hpv) ll
        refine iteT ⟨_, rfl, _, h3.start T e3.gh, _, rfl, _, rfl, d, vs, -1, v6, rfl, rfl, SqL.of hd3, hv6, _, r6.goal T e3.gh, rfl, _, rfl, ?_⟩
        rw [adj, decide_eq_true rfl]
        exact iteF ⟨_, rfl, ty, _, rfl, d, vs, v5, rfl, rfl, hd3, hlen, G3, sl.trans e3.g, e4, _, _, rfl, o4⟩
      · rw [decide_eq_false i0]
        exact iteF (iteF ⟨_, rfl, ty, _, rfl, d, vs, v5, rfl, rfl, hd3, hlen, G3, sl.trans e3.g, e4, _, _, rfl, o4⟩)
    · obtain ⟨v3, v4, rfl, o⟩ := z
      have : us.take (names us).length = us := by rw [names_len, List.take_length]
      rw [this] at o
      obtain ⟨G', e', hL, _⟩ := o.done WayAt.mono s e hd
      exact ⟨_, rfl, k _ _ _ e' hL⟩
end
end GH
end
section
set_option maxRecDepth 100000
/-! Places of walks, gains, rings. -/
namespace GH
open PySem PySem.Spec PyProof.Rows L2 GM
section
variable {P : Program} {w : World} {K : PySem.W.Frag} {mg : Str → Option Value} {base : Heap} {c : Cl} {f : Addr} {fd : FuncData}
theorem iteDT {p A B : Prop} [Decidable p] (h : p) (a : A) : if decide p = true then A else B := by rw [decide_eq_true h]; exact iteT a
theorem iteDF {p A B : Prop} [Decidable p] (h : ¬ p) (b : B) : if decide p = true then A else B := by rw [decide_eq_false h]; exact iteF b
theorem LstAt.len {α : Type} {R : Rl α} {G H : Hp} {v : V} {xs : List α} (h : LstAt R G v xs) (s : Same G H) {K : PySem.W.Frag} : ∃ p ys, v = .ref p ∧ SqL K H p ys ∧ ys.length = xs.length := by
  obtain ⟨a, vs, e, h1, h2⟩ := h
  exact ⟨a, vs, e, SqL.of (s _ _ h1), paired_len h2⟩
theorem scPO : FnScope ["net", "walk", "ways", "way"] ["net", "walk"] (defScope sPO) := ⟨rfl, rfl, rfl, by decide +kernel, rfl, by decide +kernel, by decide +kernel⟩
theorem ok_po (F : FnP K "places_of" "places_of" sPO f fd) (T : Txt K mg c) (S1 : Fn P w K mg base "walk_ways" 2 ["net", "walk"] [] (spWW c)) : FnOk P w K mg base CX0 3 f fd ["net", "walk"] (spPO c) := by
  refine F.ok scPO (fun vs H Q E h => ?_) (fun cdv A outer s H vs Q E hr h => ?_)
  · obtain ⟨G, x, y, n, us, rfl, _⟩ := h
    rfl
  · obtain ⟨G, x, y, n, us, rfl, s, hn, nok, hy, wk, k⟩ := h
    refine ⟨_, PSs.nox (pss_cons (ps_set (i := 2) scPO.nd rfl (Or.inl rfl) (pe_fn S1 hr (by rfl) (pa_cons (pv 0) (pa_cons (pv 1) pa_nil))))
      (pss_cons (ps_if (pt_cmpR op_eq (pe_callB call_len_seq (by rfl) T.len PySem.boot_len (pa_cons (pv 2) pa_nil)) pe_int (nomark _)) (pss_one (ps_ret (pe_lst pa_nil))) pss_nil)
      (pss_one (ps_ret (pe_op op_cat (pe_lst (pa_cons (pe_f (pe_ix ix_list (pv 2) pe_int (fun _ _ => rfl))) pa_nil))
        (pe_k (pe_lc (own := [("way", 3)]) (g := gName 3) (tt := tYes) (te := tF K (tVar 3) "goal") rfl scPO.nd (pi_list (pv 2)) (blkOk_by (N := ["net", "walk", "ways", "way"]) (sc := defScope sPO) (by decide +kernel))
          (fun _ _ _ _ _ => pg_name (i := 3) scPO.nd rfl (Or.inl rfl)) (fun _ _ _ _ _ => pts_nil) (fun _ _ _ _ _ => pe_f (pv 3))))))))), ?_⟩
    refine ⟨_, rfl, _, rfl, G, x, y, n, us, rfl, s, hn, nok, hy, wk, fun v2 G2 H2 e2 h2 => ?_⟩
    obtain ⟨a, vs, rfl, hv, hp⟩ := id h2
    refine ⟨_, rfl, a, vs, rfl, .inl (SqL.of (e2.gh _ _ hv)), rfl, _, rfl, ?_⟩
    cases us with
    | nil =>
      have : vs.length = 0 := paired_len hp
      rw [this]
      refine iteDT rfl ⟨Nat.zero_le _, fun p np => ?_⟩
      exact k _ _ _ (e2.trans (Ext.imm e2.gh np)) ⟨p, _, rfl, upd_same, .nil⟩
    | cons u r =>
      have : vs.length = r.length + 1 := paired_len hp
      rw [decide_eq_false (by rw [this]; intro z; injection z with z; omega : ¬ V.int (vs.length : Int) = V.int 0)]
      obtain ⟨v6, hv6, r6⟩ := paired_first hp (w := u) rfl
      refine iteF ⟨_, rfl, a, vs, 0, v6, rfl, rfl, SqL.of (e2.gh _ _ hv), hv6, _, r6.start T e2.gh, (by show 1 ≤ sizeLine; decide), fun p np => ?_⟩
      have e3 := e2.trans (Ext.imm (p := p) (o := .lst [.str u.start]) e2.gh np)
      refine ⟨_, rfl, ?_⟩
      refine lc_lst (R := WayAt c) (S := StrAt) WayAt.mono StrAt.mono (Gl := upd G2 p (.lst [.str u.start])) (h2.up WayAt.mono (same_sm (same_new (Same.free e2.gh np)))) (Same.refl _) s e3 (by have := wk.len; omega) (fun i => goals ((u :: r).take i)) rfl (fun i wy v G3 H3 hi hu sl e Yes No hy _ => ?_) (fun v2 G3 H3 sl e h3 => ?_)
      · refine ⟨rfl, lc_yes ⟨_, rfl, _, hu.goal T e.gh, hy _ _ _ wy.goal (Ext.refl e.gh) rfl ?_⟩⟩
        show goals ((u :: r).take (i + 1)) = goals ((u :: r).take i) ++ _
        rw [take_succ_of hi]
        unfold goals
        rw [List.map_append]; rfl
      · rw [List.take_length] at h3
        obtain ⟨b, zs, rfl, hz, hpz⟩ := h3
        refine ⟨p, b, [.str u.start], zs, rfl, rfl, e.gh _ _ (sl _ _ upd_same), e.gh _ _ hz, ?_, fun q nq => ?_⟩
        · rw [paired_len hpz]
          unfold goals
          rw [List.length_map]
          exact Nat.le_of_lt (line100 (by have := wk.len; show 1 + (u :: r).length ≤ 1000; omega))
        · refine k _ _ _ (e.trans (Ext.imm e.gh nq)) ⟨q, _, rfl, upd_same, ?_⟩
          exact .cons rfl (Paired.imp (fun _ _ z => z) hpz)
theorem scGO : FnScope ["net", "walk", "product", "way"] ["net", "walk"] (defScope sGO) := ⟨rfl, rfl, rfl, by decide +kernel, rfl, by decide +kernel, by decide +kernel⟩
theorem Wlk.wy {n : Nt} {us : List (Wy Str)} (h : Wlk n us) (nw : NtW n) : ∀ w ∈ us, WyOk w := fun w hw => nw.wy w (h.sub w hw)
theorem gainW_take {us : List (Wy Str)} {i : Nat} {w : Wy Str} (h : us[i]? = some w) : gainW (us.take (i + 1)) = gainW (us.take i) * w.gain := by
  rw [take_succ_of h, gainW_append]
  show gainW (us.take i) * (w.gain * 1) = _
  grind
theorem ok_go (F : FnP K "gain_of" "gain_of" sGO f fd) (T : Txt K mg c) (M : FrM P w K mg base c) (W : WyM P w K mg base c) (S1 : Fn P w K mg base "walk_ways" 2 ["net", "walk"] [] (spWW c)) : FnOk P w K mg base CX0 7 f fd ["net", "walk"] (spGO c) := by
  refine F.ok scGO (fun vs H Q E h => ?_) (fun cdv A outer s H vs Q E hr h => ?_)
  · obtain ⟨G, x, y, n, us, rfl, _⟩ := h
    rfl
  · obtain ⟨G, x, y, n, us, rfl, s, hn, nw, hy, wk, k⟩ := h
    refine ⟨_, PSs.nox (pss_cons (ps_set (i := 2) scGO.nd rfl (Or.inl rfl) (pe_fr1 M.mkf (hr.mono (by decide)) (by rfl) (pa_cons pe_int pa_nil)))
      (pss_cons (ps_for PassesOwn.never rfl (pi_list (pe_fn S1 (hr.mono (by decide)) (by rfl) (pa_cons (pv 0) (pa_cons (pv 1) pa_nil)))) (pg_name (i := 3) scGO.nd rfl (Or.inl rfl))
        (pss_one (ps_set (i := 2) scGO.nd rfl (Or.inl rfl) (pe_m T.clF M.times (hr.mono (by decide)) (pv 2) (pa_cons (pe_gain T W hr (pv 3)) pa_nil)))))
      (pss_one (ps_ret (pv 2))))), ?_⟩
    refine ⟨G, 1, rfl, s, fun v1 G1 H1 e1 h1 => ?_⟩
    refine ⟨_, rfl, _, rfl, G1, x, y, n, us, rfl, e1.gh, hn.up' e1.g, nw.ok, hy.up StrAt.mono (same_sm e1.g), wk, fun v2 G2 H2 e2 h2 => ?_⟩
    refine for_lst (R := WayAt c) WayAt.mono h2 (Same.refl _) (e1.trans e2) (fun i σ G' H' => ∃ v1 v3, σ = [some x, some y, some v1, v3] ∧ Fr c G' v1 (gainW (us.take i))) ⟨v1, none, rfl, Fr.mono (same_sm e2.g) h1⟩ (fun i wy u σ G3 H3 hi hu sl e z => ?_) (fun σ G3 H3 sl e z => ?_)
    · obtain ⟨v1, v3, rfl, q1⟩ := z
      have bt : Bd (gainW (us.take i)) := gainW_bd (fun w hw => wk.wy nw w (List.mem_of_mem_take hw)) (Nat.le_trans (List.length_take_le' i us) wk.len)
      refine ⟨_, rfl, q1.ins e.gh, _, rfl, G3, wy, e.gh, hu, fun v4 G4 H4 e4 h4 => ?_⟩
      refine ⟨G4, v1, v4, _, _, rfl, e4.gh, Fr.mono (same_sm e4.g) q1, h4, bt, hu.ok.gain.be.bd, trivial, fun v5 G5 H5 e5 h5 => ?_⟩
      refine ⟨G5, sl.trans (e4.trans e5).g, e.trans (e4.trans e5), v5, _, rfl, ?_⟩
      rw [gainW_take hi]; exact h5
    · obtain ⟨v1, v3, rfl, q1⟩ := z
      rw [List.take_length] at q1
      exact ⟨_, rfl, k _ _ _ e q1⟩
/-! ### is it a path, a ring -/
def spIP (c : Cl) : Sp := fun vs H Q _ => ∃ (G : Hp) (x y : V) (n : Nt) (us : List (Wy Str)), vs = [x, y] ∧ Same G H ∧ NetAt c G x n ∧ NtOk n ∧ LstAt StrAt G y (names us) ∧ Wlk n us ∧ (plc us).Nodup ∧ ∀ G' H', Ext G H G' H' → Q (.bl true) H'
def spIR (c : Cl) : Sp := fun vs H Q _ => ∃ (G : Hp) (x y : V) (n : Nt) (us : List (Wy Str)), vs = [x, y] ∧ Same G H ∧ NetAt c G x n ∧ NtOk n ∧ LstAt StrAt G y (names us) ∧ Wlk n us ∧ (us = [] ∨ ∃ a, Ring a us) ∧ ∀ G' H', Ext G H G' H' → Q (.bl (decide (us ≠ []))) H'
theorem plc_len (us : List (Wy Str)) : (plc us).length ≤ us.length + 1 := by
  cases us with
  | nil => exact Nat.zero_le _
  | cons u r => simp [plc, goals]
theorem scIP : FnScope ["net", "walk", "places"] ["net", "walk"] (defScope sIP) := ⟨rfl, rfl, rfl, by decide +kernel, rfl, by decide +kernel, by decide +kernel⟩
theorem scIR : FnScope ["net", "walk", "places"] ["net", "walk"] (defScope sIR) := ⟨rfl, rfl, rfl, by decide +kernel, rfl, by decide +kernel, by decide +kernel⟩
theorem ok_ip (F : FnP K "is_path" "is_path" sIP f fd) (T : Txt K mg c) (S1 : Fn P w K mg base "places_of" 3 ["net", "walk"] [] (spPO c)) : FnOk P w K mg base CX0 4 f fd ["net", "walk"] (spIP c) := by
  refine F.ok scIP (fun vs H Q E h => ?_) (fun cdv A outer s H vs Q E hr h => ?_)
  · obtain ⟨G, x, y, n, us, rfl, _⟩ := h
    rfl
  · obtain ⟨G, x, y, n, us, rfl, s, hn, nok, hy, wk, nd, k⟩ := h
    refine ⟨_, PSs.nox (pss_cons (ps_set (i := 2) scIP.nd rfl (Or.inl rfl) (pe_fn S1 hr (by rfl) (pa_cons (pv 0) (pa_cons (pv 1) pa_nil))))
      (pss_one (ps_ret (pe_cmpR op_eq (pe_lenS rfl (by rfl) T.len (by rfl) T.set (pv 2)) (pe_callB call_len_seq (by rfl) T.len PySem.boot_len (pa_cons (pv 2) pa_nil)) (nomark _))))), ?_⟩
    refine ⟨_, rfl, _, rfl, G, x, y, n, us, rfl, s, hn, nok, hy, wk, fun v2 G2 H2 e2 h2 => ?_⟩
    obtain ⟨a, vs, rfl, hv, hp⟩ := h2
    have hs := strs_eq hp
    have hl := paired_len hp
    subst hs
    refine ⟨_, rfl, a, plc us, rfl, SqL.of (e2.gh _ _ hv), (by have := plc_len us; have := wk.len; omega), _, rfl, a, _, rfl, .inl (SqL.of (e2.gh _ _ hv)), rfl, ?_⟩
    rw [dl_len nd (fun _ => Iff.rfl), hl, decide_eq_true rfl]
    exact k _ _ e2
theorem ring_plc {a : Str} {us : List (Wy Str)} (h : Ring a us) : plc us = a :: goals us ∧ a ∈ goals us := by
  obtain ⟨hw, ne, nd⟩ := h
  cases us with
  | nil => exact absurd rfl ne
  | cons u r =>
    refine ⟨?_, ?_⟩
    · show u.start :: goals (u :: r) = _
      rw [hw.1]
    · have := walk_last hw
      have e : (goals (u :: r)).getLast? = some a := by rw [← this]; rfl
      exact List.mem_of_getLast? e
theorem ok_ir (F : FnP K "is_ring" "is_ring" sIR f fd) (T : Txt K mg c) (S1 : Fn P w K mg base "places_of" 3 ["net", "walk"] [] (spPO c)) : FnOk P w K mg base CX0 4 f fd ["net", "walk"] (spIR c) := by
  refine F.ok scIR (fun vs H Q E h => ?_) (fun cdv A outer s H vs Q E hr h => ?_)
  · obtain ⟨G, x, y, n, us, rfl, _⟩ := h
    rfl
  · obtain ⟨G, x, y, n, us, rfl, s, hn, nok, hy, wk, rg, k⟩ := h
    refine ⟨_, PSs.nox (pss_cons (ps_set (i := 2) scIR.nd rfl (Or.inl rfl) (pe_fn S1 hr (by rfl) (pa_cons (pv 0) (pa_cons (pv 1) pa_nil))))
      (pss_cons (ps_if (pt_cmpR op_eq (pe_callB call_len_seq (by rfl) T.len PySem.boot_len (pa_cons (pv 2) pa_nil)) pe_int (nomark _)) (pss_one (ps_ret pe_bl)) pss_nil)
      (pss_one (ps_ret (pe_and (pe_cmpR op_eq (pe_ix ix_list (pv 2) pe_int (fun _ _ => rfl)) (pe_ix ix_list (pv 2) (pe_un un_neg pe_int) (fun _ _ => rfl)) (nomark _)) (pe_one (pe_cmpR op_eq (pe_lenS rfl (by rfl) T.len (by rfl) T.set (pv 2)) (pe_op op_sub (pe_callB call_len_seq (by rfl) T.len PySem.boot_len (pa_cons (pv 2) pa_nil)) pe_int) (nomark _)))))))), ?_⟩
    refine ⟨_, rfl, _, rfl, G, x, y, n, us, rfl, s, hn, nok, hy, wk, fun v2 G2 H2 e2 h2 => ?_⟩
    obtain ⟨a, vs, rfl, hv, hp⟩ := h2
    have hs := strs_eq hp
    have hl := paired_len hp
    subst hs
    have hv := e2.gh _ _ hv
    refine ⟨_, rfl, a, _, rfl, .inl (SqL.of hv), rfl, _, rfl, ?_⟩
    rcases rg with rfl | ⟨r, rg⟩
    · exact iteDT rfl (k _ _ e2)
    · obtain ⟨pe, pm⟩ := ring_plc rg
      have ne : us ≠ [] := rg.ne
      have l1 : (plc us).length = us.length + 1 := by rw [pe]; simp [goals]
      have up : 0 < us.length := by cases us with
        | nil => exact absurd rfl ne
        | cons _ _ => simp
      have f0 : atI ((plc us).map V.str) 0 = some (.str r) := by
        unfold atI ixN
        rw [if_pos (by decide), if_pos (by rw [List.length_map]; omega), pe]; rfl
      have fl : atI ((plc us).map V.str) (-1) = some (.str r) := by
        unfold atI ixN
        rw [if_neg (by decide), if_pos (by rw [List.length_map]; omega)]
        show ((plc us).map V.str)[_]? = _
        rw [List.length_map, l1, show (-1 + ((us.length + 1 : Nat) : Int)).toNat = us.length by omega, List.getElem?_map]
        have := walk_last rg.walk
        rw [← pe, List.getLast?_eq_getElem?, l1, Nat.add_sub_cancel] at this
        rw [this]; rfl
      rw [decide_eq_false (by rw [hl, l1]; intro z; injection z with z; omega : ¬ V.int (((plc us).map V.str).length : Int) = V.int 0)]
      refine iteF ⟨_, rfl, a, _, 0, _, rfl, rfl, SqL.of hv, f0, _, rfl, _, rfl, a, _, -1, _, rfl, rfl, SqL.of hv, fl, rfl, _, rfl, ?_⟩
      rw [decide_eq_true (rfl : V.str r = V.str r)]
      refine iteT ⟨_, rfl, a, plc us, rfl, SqL.of hv, (by have := wk.len; omega), _, rfl, a, _, rfl, .inl (SqL.of hv), _, _, rfl, rfl, rfl, ?_⟩
      have dn : (dl (plc us)).length = us.length := by
        have hm : ∀ x, x ∈ plc us ↔ x ∈ goals us := fun x => by
          rw [pe]
          constructor
          · intro h
            rcases List.mem_cons.mp h with h | h
            · rw [h]; exact pm
            · exact h
          · intro h; exact List.mem_cons_of_mem _ h
        rw [dl_len rg.nd hm]
        simp [goals]
      rw [dn, hl, l1, decide_eq_true (by congr 1; omega : V.int (us.length : Int) = V.int (((us.length + 1 : Nat) : Int) - 1))]
      have := k _ _ e2
      rwa [decide_eq_true ne] at this
end
end GH
end
section
set_option maxRecDepth 100000
/-! An amount sent along a walk. -/
namespace GH
open PySem PySem.Spec PyProof.Rows L2 GM
/-- l tells the plan f -/
structure PlF (l : Pl) (f : Str → Rat) : Prop where
  nd : (keys l).Nodup
  nz : ∀ p ∈ l, p.2 ≠ 0
  amt : ∀ m, amt l m = f m
theorem PlF.key {l : Pl} {f : Str → Rat} (h : PlF l f) {k : Str} : k ∈ keys l ↔ f k ≠ 0 := by
  constructor
  · intro hk
    obtain ⟨p, hp, e⟩ := List.mem_map.mp hk
    have := amt_mem h.nd hp
    rw [e, h.amt] at this
    rw [this]
    exact h.nz p hp
  · intro hk
    rw [← h.amt] at hk
    exact amt_in hk
theorem PlF.eq {l : Pl} {f g : Str → Rat} (h : PlF l f) (e : ∀ m, f m = g m) : PlF l g := ⟨h.nd, h.nz, fun m => (h.amt m).trans (e m)⟩
theorem PlF.nil : PlF [] (fun _ => 0) := ⟨List.nodup_nil, (fun p h => nomatch h), fun _ => rfl⟩
theorem PlF.mem {l : Pl} {f : Str → Rat} (h : PlF l f) {p : Str × Rat} (hp : p ∈ l) : p.2 = f p.1 := by rw [← h.amt, amt_mem h.nd hp]
theorem PlF.pb {l : Pl} {f : Str → Rat} (h : PlF l f) {D V : Nat} (h0 : 0 < D) (hf : ∀ m, Dv D (f m) ∧ Ab V (f m)) : PB D V l :=
  ⟨h0, fun p hp => by rw [h.mem hp]; exact (hf _).1, fun p hp => by rw [h.mem hp]; exact (hf _).2⟩
theorem PlF.ok {l : Pl} {f : Str → Rat} {n : Nt} (h : PlF l f) (hs : ∀ m, f m ≠ 0 → m ∈ names n.ws) : PlOk n l := ⟨h.nd, fun k hk => hs k (h.key.mp hk), h.nz⟩
theorem PlF.put {l : Pl} {f : Str → Rat} (h : PlF l f) {k : Str} {y : Rat} (hf : f k + y ≠ 0) : PlF (put l k (f k + y)) (fun n => f n + one k y n) :=
  ⟨nodup_put h.nd, fun p hp => by
    rcases mem_put hp with rfl | ⟨hp, _⟩
    · exact hf
    · exact h.nz p hp, fun m => by
    rw [amt_put]
    unfold one
    by_cases e : m = k
    · subst e; rw [if_pos rfl, if_pos rfl]
    · have e' : ¬ k = m := fun z => e z.symm
      rw [if_neg e, if_neg e', h.amt]; grind⟩
theorem Told.plf {l : Pl} {xs : List Str} {f : Str → Rat} (h : Told l xs f) (hx : ∀ m, m ∉ xs → f m = 0) : PlF l f :=
  ⟨h.nd, h.nz, fun m => by
    rw [h.amt]
    split
    · rfl
    · rename_i hm; rw [hx m hm]⟩
theorem sentF_snoc (us : List (Wy Str)) (w : Wy Str) (x : Rat) (n : Str) : sentF (us ++ [w]) x n = sentF us x n + one w.name (x * gainW us) n := by
  induction us generalizing x with
  | nil =>
    show one w.name x n + 0 = 0 + one w.name (x * 1) n
    rw [Rat.mul_one]; grind
  | cons u r ih =>
    show one u.name x n + sentF (r ++ [w]) (x * u.gain) n = one u.name x n + sentF r (x * u.gain) n + one w.name (x * (u.gain * gainW r)) n
    rw [ih, Rat.mul_assoc]; grind
theorem one_sz {D V : Nat} {k m : Str} {x : Rat} (h : Dv D x) (h' : Ab V x) : Dv D (one k x m) ∧ Ab V (one k x m) := by
  unfold one
  split
  · exact ⟨h, h'⟩
  · exact ⟨Dv.zero, Ab.zero⟩
theorem sent_sz {us : List (Wy Str)} (h : ∀ w ∈ us, WyOk w) : ∀ {D V : Nat} {x : Rat}, Dv D x → Ab V x → (∀ m, Dv (D * gd us) (sentF us x m) ∧ Ab (us.length * (V * 2 ^ (10 * us.length))) (sentF us x m)) ∧ Dv (D * gd us) (x * gainW us) ∧ Ab (V * 2 ^ (10 * us.length)) (x * gainW us) := by
  induction us with
  | nil =>
    intro D V x d a
    refine ⟨fun m => ⟨Dv.zero, Ab.zero⟩, ?_, ?_⟩
    · show Dv (D * 1) (x * 1)
      rw [Rat.mul_one, Nat.mul_one]; exact d
    · show Ab (V * 2 ^ 0) (x * 1)
      rw [Rat.mul_one, Nat.pow_zero, Nat.mul_one]; exact a
  | cons w r ih =>
    intro D V x d a
    have hw := h w List.mem_cons_self
    have d1 : Dv (D * w.gain.den) (x * w.gain) := d.mul (dv_den w.gain)
    have a1 : Ab (V * 2 ^ 10) (x * w.gain) := a.mul hw.gain.ab
    obtain ⟨i1, i2, i3⟩ := ih (fun v hv => h v (List.mem_cons_of_mem _ hv)) d1 a1
    have e1 : D * gd (w :: r) = D * w.gain.den * gd r := by show D * (w.gain.den * gd r) = _; rw [Nat.mul_assoc]
    have e2 : V * 2 ^ (10 * (w :: r).length) = V * 2 ^ 10 * 2 ^ (10 * r.length) := by rw [Nat.mul_assoc, ← Nat.pow_add]; congr 2; simp; omega
    have e3 : x * gainW (w :: r) = x * w.gain * gainW r := by show x * (w.gain * gainW r) = _; rw [Rat.mul_assoc]
    rw [e1, e2, e3]
    refine ⟨fun m => ?_, i2, i3⟩
    obtain ⟨o1, o2⟩ := one_sz (k := w.name) (m := m) d a
    obtain ⟨j1, j2⟩ := i1 m
    refine ⟨?_, ?_⟩
    · show Dv _ (one w.name x m + sentF r (x * w.gain) m)
      refine Dv.add ?_ j1
      rw [Nat.mul_assoc]; exact o1.mono
    · show Ab ((r.length + 1) * (V * 2 ^ 10 * 2 ^ (10 * r.length))) (one w.name x m + sentF r (x * w.gain) m)
      rw [Nat.add_mul, Nat.one_mul, Nat.add_comm]
      refine Ab.add (o2.mono ?_) j2
      rw [Nat.mul_assoc, ← Nat.pow_add]
      exact Nat.le_mul_of_pos_right _ (Nat.pow_pos (by decide))
theorem gd_take (us : List (Wy Str)) (i : Nat) : gd (us.take i) ∣ gd us := by
  induction us generalizing i with
  | nil => simp
  | cons w r ih =>
    cases i with
    | zero => exact ⟨gd (w :: r), by rw [List.take_zero]; show _ = 1 * _; rw [Nat.one_mul]⟩
    | succ i => exact Nat.mul_dvd_mul (Nat.dvd_refl _) (ih i)
/-- what may be sent along us -/
structure SZ (us : List (Wy Str)) (D V : Nat) (x : Rat) : Prop where
  pos : 0 < D
  d : D * gd us ≤ 2 ^ 4460
  v : V ≤ 2 ^ 70000
  dv : Dv D x
  ab : Ab V x
  len : us.length ≤ 20
theorem SZ.take {us : List (Wy Str)} {D V : Nat} {x : Rat} (z : SZ us D V x) (h : ∀ w ∈ us, WyOk w) (i : Nat) : (∀ m, Be (sentF (us.take i) x m)) ∧ Be (x * gainW (us.take i)) := by
  have hl : (us.take i).length ≤ 20 := Nat.le_trans (List.length_take_le' i us) z.len
  obtain ⟨h1, h2, h3⟩ := sent_sz (us := us.take i) (fun w hw => h w (List.mem_of_mem_take hw)) z.dv z.ab
  have dd : D * gd (us.take i) ∣ D * gd us := Nat.mul_dvd_mul (Nat.dvd_refl _) (gd_take us i)
  have p0 : 0 < D * gd us := Nat.mul_pos z.pos (gd_pos us)
  have v1 : V * 2 ^ (10 * (us.take i).length) ≤ 2 ^ 70200 := by
    calc V * 2 ^ (10 * (us.take i).length) ≤ 2 ^ 70000 * 2 ^ 200 := Nat.mul_le_mul z.v (Nat.pow_le_pow_right (by decide) (by omega))
      _ = 2 ^ 70200 := by rw [← Nat.pow_add]
  refine ⟨fun m => be_of (a := 4460) (b := 70300) ((h1 m).1.of_dvd dd) ((h1 m).2.mono ?_) p0 z.d (Nat.le_refl _), be_of (a := 4460) (b := 70200) (h2.of_dvd dd) (h3.mono v1) p0 z.d (Nat.le_refl _)⟩
  calc (us.take i).length * (V * 2 ^ (10 * (us.take i).length)) ≤ 2 ^ 100 * 2 ^ 70200 := Nat.mul_le_mul (Nat.le_trans hl (by decide)) v1
    _ = 2 ^ 70300 := by rw [← Nat.pow_add]
def spSent (c : Cl) : Sp := fun vs H Q _ => ∃ (G : Hp) (x y z : V) (n : Nt) (us : List (Wy Str)) (a : Rat) (D Vb : Nat), vs = [x, y, z] ∧ Same G H ∧ NetAt c G x n ∧ NtW n ∧ LstAt StrAt G y (names us) ∧ Wlk n us ∧ Fr c G z a ∧ 0 < a ∧ SZ us D Vb a ∧
  Ret G H Q (fun v G' => ∃ l, DctE (Fr c) G' v l ∧ PlF l (sentF us a))
section
variable {P : Program} {w : World} {K : PySem.W.Frag} {mg : Str → Option Value} {base : Heap} {c : Cl} {f : Addr} {fd : FuncData}
theorem scSent : FnScope ["net", "walk", "amount", "plan", "way"] ["net", "walk", "amount"] (defScope sSent) := ⟨rfl, rfl, rfl, by decide +kernel, rfl, by decide +kernel, by decide +kernel⟩
theorem sent_keys {us : List (Wy Str)} {x : Rat} {l : Pl} (h : PlF l (sentF us x)) : l.length ≤ us.length := by
  have := pigeon h.nd (ps := names us) fun k hk => by
    apply Classical.byContradiction
    intro z
    exact (h.key.mp hk) (sent_out z)
  rwa [keys_len, names_len] at this
theorem ok_sent (F : FnP K "sent" "sent" sSent f fd) (T : Txt K mg c) (M : FrM P w K mg base c) (W : WyM P w K mg base c) (S1 : Fn P w K mg base "walk_ways" 2 ["net", "walk"] [] (spWW c)) : FnOk P w K mg base CX0 7 f fd ["net", "walk", "amount"] (spSent c) := by
  refine F.ok scSent (fun vs H Q E h => ?_) (fun cdv A outer s H vs Q E hr h => ?_)
  · obtain ⟨G, x, y, z, n, us, a, D, Vb, rfl, _⟩ := h
    rfl
  · obtain ⟨G, x, y, z, n, us, a, D, Vb, rfl, s, hn, nw, hy, wk, hz, apos, sz, k⟩ := h
    refine ⟨_, PSs.nox (pss_cons (ps_set (i := 3) scSent.nd rfl (Or.inl rfl) pe_dnewK)
      (pss_cons (ps_for PassesOwn.never rfl (pi_list (pe_fn S1 (hr.mono (by decide)) (by rfl) (pa_cons (pv 0) (pa_cons (pv 1) pa_nil)))) (pg_name (i := 4) scSent.nd rfl (Or.inl rfl))
        (pss_cons (ps_if (pt_cmpR op_ne (pe_m0 T.clF M.sign (hr.mono (by decide)) (pv 2)) pe_int (nomark _))
          (pss_one (ps_dput (hu_of hr) (pv 3) (pe_f (pv 4)) (pe_m T.clF M.plus (hr.mono (by decide)) (pe_dget2 (hu_of hr) (pv 3) (pe_f (pv 4)) (pe_fr1 M.mkf (hr.mono (by decide)) (by rfl) (pa_cons pe_int pa_nil)) ⟨rfl, rfl, rfl, rfl⟩) (pa_cons (pv 2) pa_nil)) rfl)) pss_nil)
        (pss_one (ps_set (i := 2) scSent.nd rfl (Or.inl rfl) (pe_out T W hr (pv 4) (pa_cons (pv 2) pa_nil))))))
      (pss_one (ps_ret (pv 3))))), ?_⟩
    intro d hd
    have e0 := Ext.tmp (o := .dK []) s hd
    have o0 := Own.nil (R := Fr c) s hd
    have wg : ∀ w ∈ us, 0 < w.gain := fun w hw => (wk.wy nw w hw).pos
    refine ⟨_, rfl, _, rfl, G, x, y, n, us, rfl, e0.gh, hn, nw.ok, hy, wk, fun v2 G2 H2 e2 h2 => ?_⟩
    refine for_lst (R := WayAt c) WayAt.mono h2 (Same.refl _) (e0.trans e2) (fun i σ G' H' => ∃ v2 v4 m, σ = [some x, some y, some v2, some (.ref d), v4] ∧ Fr c G' v2 (a * gainW (us.take i)) ∧ Own (Fr c) G' H' d m ∧ PlF m (sentF (us.take i) a))
      ⟨z, none, [], rfl, (Fr.mono (same_sm e2.g) hz).eq (by show a = a * 1; rw [Rat.mul_one]), o0.ext Fr.mono e2, PlF.nil⟩ (fun i wy u σ G3 H3 hi hu sl e iv => ?_) (fun σ G3 H3 sl e iv => ?_)
    · obtain ⟨v2, v4, m, rfl, q2, o, t⟩ := iv
      obtain ⟨b1, b2⟩ := sz.take (wk.wy nw) i
      have il : i < us.length := (List.getElem?_eq_some_iff.mp hi).1
      have gp : 0 < gainW (us.take i) := gainW_pos fun w hw => wg w (List.mem_of_mem_take hw)
      have xp : 0 < a * gainW (us.take i) := Rat.mul_pos apos gp
      refine ⟨_, rfl, q2.ins e.gh, G3, v2, _, rfl, e.gh, q2, rfl, _, rfl, ?_⟩
      rw [sgn_ne]
      refine iteDT (rpos_ne xp) ⟨_, rfl, d, rfl, o.isD, _, rfl, _, hu.name T e.gh, G3, 0, rfl, e.gh, fun v5 G5 H5 e5 h5 => ?_⟩
      have o5 := o.ext Fr.mono e5
      have q5 := Fr.mono (same_sm e5.g) q2
      have hu5 := WayAt.mono (same_sm e5.g) hu
      -- what stands there, or nil
      obtain ⟨r, dg, u6, eu6, hu6⟩ : ∃ r, DGet H5 d (.str wy.name) r ∧ ∃ u6, u6 = r.getD v5 ∧ Fr c G5 u6 (amt m wy.name) := by
        cases el : lk m wy.name with
        | none =>
          obtain ⟨r, dg, so⟩ := o5.isIn wy.name
          rw [el] at so
          cases r with
          | some _ => cases so
          | none => exact ⟨none, dg, v5, rfl, by unfold amt; rw [el]; exact h5⟩
        | some q =>
          obtain ⟨u6, dg, hr6⟩ := o5.get el
          exact ⟨some u6, dg, u6, rfl, by unfold amt; rw [el]; exact hr6⟩
      subst eu6
      refine ⟨r, dg, hu6.ins e5.gh, _, rfl, G5, _, v2, _, _, rfl, e5.gh, hu6, q5, ?_, b2.bd, trivial, fun v7 G7 H7 e7 h7 => ?_⟩
      · rw [t.amt]; exact (b1 wy.name).bd
      have o7 := o5.ext Fr.mono e7
      rw [t.amt] at h7
      have hlen : m.length < sizeLine := line100 (by have := sent_keys t; have := wk.len; have := List.length_take_le' i us; omega)
      obtain ⟨H8, dp, o8, _, eo⟩ := o7.put (k := wy.name) h7 hlen
      have hu7 := WayAt.mono (same_sm e7.g) hu5
      have q7 := Fr.mono (same_sm e7.g) q5
      have e8 : Ext G H G7 H8 := by rw [eo]; exact (e.trans (e5.trans e7)).wr hd o7.choose_spec.1
      have nn : 0 ≤ sentF (us.take i) a wy.name := sent_nonneg (Rat.le_of_lt apos) (fun w hw => wg w (List.mem_of_mem_take hw)) _
      have t8 := t.put (k := wy.name) (y := a * gainW (us.take i)) (by grind)
      refine ⟨_, rfl, _, rfl, _, hu7.name T e7.gh, d, H8, rfl, dp, ?_⟩
      refine ⟨_, rfl, G7, wy, e8.gh, hu7, _, rfl, G7, v2, _, rfl, e8.gh, Same.refl _, q7, b2, fun v9 G9 H9 e9 h9 => ?_⟩
      refine ⟨G9, (sl.trans (e5.trans e7).g).trans e9.g, e8.trans e9, v9, _, _, rfl, ?_, o8.ext Fr.mono e9, ?_⟩
      · rw [gainW_take hi, ← Rat.mul_assoc]; exact h9
      · exact t8.eq fun k => by rw [take_succ_of hi, sentF_snoc]
    · obtain ⟨v2, v4, m, rfl, q2, o, t⟩ := iv
      rw [List.take_length] at t
      obtain ⟨G', e', hD, _⟩ := o.doneE Fr.mono s e hd
      exact ⟨_, rfl, k _ _ _ e' ⟨m, hD, t⟩⟩
end
end GH
end
section
set_option maxRecDepth 100000
/-! Rounds. -/
namespace GH
open PySem PySem.Spec PyProof.Rows L2 GM
abbrev sBG : Stmt := topS 32
abbrev sOR : Stmt := topS 33
abbrev sFR : Stmt := topS 34
abbrev sLF : Stmt := topS 35
def spBG (c : Cl) : Sp := fun vs H Q _ => ∃ (G : Hp) (x y : V) (a b : Rat) (m : Bool), vs = [x, y, .bl m] ∧ Same G H ∧ Fr c G x a ∧ Fr c G y b ∧ Bd a ∧ Bd b ∧ Q (.bl (decide (bt m a b))) H
/-- what is found of a place: a number, the names of a walk -/
abbrev Fw (c : Cl) : Rl (Rat × List Str) := PrAt (Fr c) (LstAt StrAt)
theorem Fw.mono {c : Cl} : Mono (Fw c) := fun s h => PrAt.mono (R := Fr c) (S := LstAt StrAt) Fr.mono (fun s' h' => LstAt.mono (R := StrAt) StrAt.mono s' h') s h
def fw (F : Fd Str) : Str → Rat × List Str := fun p => ((F p).1, names (F p).2)
def OptAt : Rl (Option Str) := fun _ v o => v = match o with | none => .non | some p => .str p
theorem OptAt.mono : Mono OptAt := fun _ h => h
theorem fw_upd (F : Fd Str) (p : Str) (x : Rat × List (Wy Str)) : fw (updF F p x) = fupd (fw F) p (x.1, names x.2) := by
  funext q
  show ((updF F p x q).1, names (updF F p x q).2) = if q = p then _ else _
  unfold updF
  split <;> rfl
/-- the numbers found are gains of short walks -/
structure FdOk (F : Fd Str) (k : Nat) : Prop where
  val : ∀ p, (F p).1 = gainW (F p).2
  wy : ∀ p, ∀ w ∈ (F p).2, WyOk w
  len : ∀ p, (F p).2.length ≤ k
theorem FdOk.bd {F : Fd Str} {k : Nat} (h : FdOk F k) (hk : k ≤ 20) (p : Str) : Bd (F p).1 := by
  rw [h.val]; exact gainW_bd (h.wy p) (Nat.le_trans (h.len p) hk)
theorem FdOk.be {F : Fd Str} {k : Nat} (h : FdOk F k) (hk : k ≤ 20) (p : Str) : Be (F p).1 := by
  rw [h.val]
  obtain ⟨h1, h2⟩ := gainW_sz (h.wy p)
  have := h.len p
  exact ⟨Nat.lt_of_le_of_lt h1 (Nat.pow_lt_pow_right (by decide) (by omega)), Nat.lt_of_le_of_lt h2 (Nat.pow_lt_pow_right (by decide) (by omega))⟩
theorem mul_bd {a g : Rat} (h : Be a) (k : Sm10 g) : Bd (g * a) := by rw [Rat.mul_comm]; exact h.mul k
theorem FdOk.mid {m : Bool} {F L : Fd Str} {b : Option Str} {ws : List (Wy Str)} {k : Nat} (h : FdOk F k) (M : Mid m F L b ws) (hw : ∀ w ∈ ws, WyOk w) : FdOk L (k + 1) := by
  refine ⟨fun p => ?_, fun p w hw' => ?_, fun p => ?_⟩
  · rcases M.form p with e | ⟨w, _, _, e⟩
    · rw [e]; exact h.val p
    · rw [e]; show w.gain * (F w.goal).1 = w.gain * gainW (F w.goal).2; rw [h.val]
  · rcases M.form p with e | ⟨v, mv, _, e⟩
    · rw [e] at hw'; exact h.wy p w hw'
    · rw [e] at hw'
      rcases List.mem_cons.mp hw' with e' | h'
      · rw [e']; exact hw v mv
      · exact h.wy _ w h'
  · rcases M.form p with e | ⟨w, _, _, e⟩
    · rw [e]; exact Nat.le_succ_of_le (h.len p)
    · rw [e]; exact Nat.succ_le_succ (h.len _)
def spOR (c : Cl) : Sp := fun vs H Q _ => ∃ (G : Hp) (x y : V) (m : Bool) (ps : List Str) (us : List (Wy Str)) (F : Fd Str), vs = [x, y, .bl m] ∧ Same G H ∧ DctAt (Fw c) G x (tab ps (fw F)) ∧ LstAt (WayAt c) G y us ∧ (∀ w ∈ us, w.start ∈ ps ∧ w.goal ∈ ps) ∧ ps.length ≤ 100 ∧ us.length ≤ 100 ∧ FdOk F 15 ∧
  Ret G H Q (fun v G' => PrAt (DctAt (Fw c)) OptAt G' v (tab ps (fw (GM.round m F us).1), (GM.round m F us).2))
section
variable {P : Program} {w : World} {K : PySem.W.Frag} {mg : Str → Option Value} {base : Heap} {c : Cl} {f : Addr} {fd : FuncData}
theorem scBG : FnScope ["one", "other", "makes"] ["one", "other", "makes"] (defScope sBG) := ⟨rfl, rfl, rfl, by decide +kernel, rfl, by decide +kernel, by decide +kernel⟩
theorem ok_bg (F : FnP K "better_gain" "better_gain" sBG f fd) (T : Txt K mg c) (M : FrM P w K mg base c) : FnOk P w K mg base CX0 2 f fd ["one", "other", "makes"] (spBG c) := by
  refine F.ok scBG (fun vs H Q E h => ?_) (fun cdv A outer s H vs Q E hr h => ?_)
  · obtain ⟨G, x, y, a, b, m, rfl, _⟩ := h
    rfl
  · obtain ⟨G, x, y, a, b, m, rfl, s, hx, hy, ba, bb, k⟩ := h
    refine ⟨_, PSs.nox (pss_cons (ps_if (pt_val (pv 2)) (pss_one (ps_ret (pe_m T.clF M.under hr (pv 1) (pa_cons (pv 0) pa_nil)))) pss_nil)
      (pss_one (ps_ret (pe_m T.clF M.under hr (pv 0) (pa_cons (pv 1) pa_nil))))), ?_⟩
    refine ⟨_, rfl, m, rfl, ?_⟩
    unfold bt at k
    cases m with
    | true =>
      refine iteT ⟨_, rfl, hy.ins s, _, rfl, G, y, x, b, a, rfl, s, hy, hx, bb, ba, ?_⟩
      exact k
    | false =>
      refine iteF ⟨_, rfl, hx.ins s, _, rfl, G, x, y, a, b, rfl, s, hx, hy, ba, bb, ?_⟩
      exact k
theorem scOR : FnScope ["found", "ways", "makes", "longer", "bettered", "way", "behind", "value"] ["found", "ways", "makes"] (defScope sOR) := ⟨rfl, rfl, rfl, by decide +kernel, rfl, by decide +kernel, by decide +kernel⟩
theorem ok_or (F : FnP K "one_round" "one_round" sOR f fd) (T : Txt K mg c) (M : FrM P w K mg base c) (W : WyM P w K mg base c) (S1 : Fn P w K mg base "better_gain" 2 ["one", "other", "makes"] [] (spBG c)) : FnOk P w K mg base CX0 7 f fd ["found", "ways", "makes"] (spOR c) := by
  refine F.ok scOR (fun vs H Q E h => ?_) (fun cdv A outer s H vs Q E hr h => ?_)
  · obtain ⟨G, x, y, m, ps, us, F, rfl, _⟩ := h
    rfl
  · obtain ⟨G, x, y, m, ps, us, F, rfl, s, hx, hy, hse, lp, lu, fo, k⟩ := h
    refine ⟨_, PSs.nox (pss_cons (ps_set (i := 3) scOR.nd rfl (Or.inl rfl) (pe_callTy call_dictD (by rfl) T.dict (by decide +kernel) (pa_cons (pv 0) pa_nil)))
      (pss_cons (ps_set (i := 4) scOR.nd rfl (Or.inl rfl) pe_non)
      (pss_cons (ps_for PassesOwn.never rfl (pi_list (pv 1)) (pg_name (i := 5) scOR.nd rfl (Or.inl rfl))
        (pss_cons (ps_set (i := 6) scOR.nd rfl (Or.inl rfl) (pe_dget (hu_of hr) (pv 0) (pe_f (pv 5)) (fun _ _ => rfl)))
        (pss_cons (ps_set (i := 7) scOR.nd rfl (Or.inl rfl) (pe_m T.clF M.times (hr.mono (by decide)) (pe_gain T W hr (pv 5)) (pa_cons (pe_ix ix_tup (pv 6) pe_int (fun _ _ => rfl)) pa_nil)))
        (pss_one (ps_if (pt_val (pe_fn S1 (hr.mono (by decide)) (by rfl) (pa_cons (pv 7) (pa_cons (pe_ix ix_tup (pe_dget (hu_of hr) (pv 3) (pe_f (pv 5)) (fun _ _ => rfl)) pe_int (fun _ _ => rfl)) (pa_cons (pv 2) pa_nil)))))
          (pss_cons (ps_dput (hu_of hr) (pv 3) (pe_f (pv 5)) (pe_tup (pa_cons (pv 7) (pa_cons (pe_op op_cat (pe_lst (pa_cons (pe_f (pv 5)) pa_nil)) (pe_ix ix_tup (pv 6) pe_int (fun _ _ => rfl))) pa_nil))) rfl)
          (pss_one (ps_set (i := 4) scOR.nd rfl (Or.inl rfl) (pe_f (pv 5))))) pss_nil)))))
      (pss_one (ps_ret (pe_tup (pa_cons (pv 3) (pa_cons (pv 4) pa_nil)))))))), ?_⟩
    obtain ⟨a, kvs, rfl, hk, hp⟩ := id hx
    refine ⟨_, rfl, a, kvs, rfl, (hk.sm (same_sm s)).rd, fun d hd => ?_⟩
    have e0 := Ext.tmp (o := .dK kvs) s hd
    have o0 : Own (Fw c) G (upd H d (.dK kvs)) d (tab ps (fw F)) := ⟨kvs, Same.free s hd, upd_same, hp⟩
    refine ⟨_, rfl, ?_⟩
    refine for_lst (R := WayAt c) WayAt.mono hy (Same.refl _) e0 (fun i σ G' H' => ∃ v4 v5 v6 v7 L b, σ = [some (.ref a), some y, some (.bl m), some (.ref d), some v4, v5, v6, v7] ∧ (L, b) = (us.take i).foldl (rstep m F) (F, none) ∧ OptAt G' v4 b ∧ Own (Fw c) G' H' d (tab ps (fw L)))
      ⟨.non, none, none, none, F, none, rfl, rfl, rfl, o0⟩ (fun i wy u σ G2 H2 hi hu sl e z => ?_) (fun σ G2 H2 sl e z => ?_)
    · obtain ⟨v4, v5, v6, v7, L, b, rfl, eL, hb, o⟩ := z
      have mw := List.mem_of_getElem? hi
      obtain ⟨ms, mg'⟩ := hse wy mw
      have hx2 := hx.up Fw.mono (same_sm e.g)
      have M0 : Mid m F L b (us.take i) := by
        have := mid_fold (us.take i) (acc := (F, none)) (mid_zero m F)
        rw [List.nil_append, ← eL] at this
        exact this
      have uw : ∀ w ∈ us, WyOk w := fun w hw => by
        obtain ⟨a', vs', _, _, hpp⟩ := id hy
        obtain ⟨j, hj, ej⟩ := List.mem_iff_getElem.mp hw
        obtain ⟨v', _, r'⟩ := paired_get' hpp j w (by rw [← ej]; exact List.getElem?_eq_getElem hj)
        exact r'.ok
      have lo := fo.mid M0 fun w hw => uw w (List.mem_of_mem_take hw)
      obtain ⟨a1, u1, ea1, g1, r1⟩ := hx2.get e.gh (tab_lk mg')
      refine ⟨_, rfl, _, rfl, _, hu.goal T e.gh, a1, u1, ea1, g1, ?_⟩
      obtain ⟨t1, w1, w2, rfl, ht, hw1, hw2⟩ := r1
      refine ⟨_, rfl, G2, wy, e.gh, hu, fun v8 G3 H3 e3 h3 => ?_⟩
      have ht3 := e3.gh _ _ (e3.g _ _ ht)
      have hw13 := Fr.mono (same_sm e3.g) hw1
      refine ⟨h3.ins e3.gh, _, rfl, t1, _, 0, w1, rfl, rfl, SqT.of ht3, rfl, G3, v8, w1, _, _, rfl, e3.gh, h3, hw13, hu.ok.gain.be.bd, fo.bd (by decide) wy.goal, trivial, fun v9 G4 H4 e4 h4 => ?_⟩
      have e34 := e3.trans e4
      have hu4 := WayAt.mono (same_sm e34.g) hu
      have o4 := o.ext Fw.mono e34
      obtain ⟨u2, g2, r2⟩ := o4.get (tab_lk ms)
      obtain ⟨t2, x1, x2, rfl, ht2, hx1, hx2'⟩ := r2
      refine ⟨_, rfl, _, rfl, _, rfl, _, hu4.start T e4.gh, d, _, rfl, g2, t2, _, 0, x1, rfl, rfl, SqT.of (e4.gh _ _ ht2), rfl, _, rfl, G4, v9, x1, _, _, m, rfl, e4.gh, h4, hx1, mul_bd (fo.be (by decide) wy.goal) hu.ok.gain, lo.bd (by decide) wy.start, ?_⟩
      have estep : ∀ L' b', rstep m F (L, b) wy = (L', b') → (L', b') = (us.take (i + 1)).foldl (rstep m F) (F, none) := fun L' b' q => by
        rw [take_succ_of hi, List.foldl_append, ← eL, List.foldl_cons, q]; rfl
      refine ⟨_, rfl, ?_⟩
      by_cases hbt : bt m (wy.gain * (F wy.goal).1) (L wy.start).1
      · refine iteDT hbt ⟨_, rfl, _, rfl, _, hu4.name T e4.gh, (by show 1 ≤ sizeLine; decide), fun p np => ?_⟩
        have e5 := Ext.imm (p := p) (o := .lst [.str wy.name]) e4.gh np
        have hw24 := (hw2.up StrAt.mono (same_sm e34.g)).up StrAt.mono (same_sm e5.g)
        obtain ⟨b2, zs, rfl, hz, hpz⟩ := id hw24
        have ht5 := e5.gh _ _ (e5.g _ _ (e34.g _ _ ht))
        refine ⟨_, rfl, t1, _, 1, _, rfl, rfl, SqT.of ht5, rfl, p, b2, _, zs, rfl, rfl, upd_same, e5.gh _ _ hz, ?_, fun q nq => ?_⟩
        · rw [paired_len hpz]
          have := fo.len wy.goal
          show 1 + (names (F wy.goal).2).length ≤ sizeLine
          rw [names_len]
          exact Nat.le_of_lt (line100 (by omega))
        have e6 := Ext.imm (p := q) (o := .lst ([.str wy.name] ++ zs)) e5.gh nq
        refine ⟨by show 2 ≤ sizeLine; decide, fun t nt => ?_⟩
        have e7 := Ext.imm (p := t) (o := .tup [v9, .ref q]) e6.gh nt
        have e567 := (e5.trans e6).trans e7
        have o7 := o4.ext Fw.mono e567
        have hlen : (tab ps (fw L)).length < sizeLine := by rw [tab_len]; exact line100 (by omega)
        have r7 : Fw c (upd (upd (upd G4 p (.lst [.str wy.name])) q (.lst ([.str wy.name] ++ zs))) t (.tup [v9, .ref q])) (.ref t) (wy.gain * (F wy.goal).1, names (wy :: (F wy.goal).2)) := by
          refine ⟨t, v9, .ref q, rfl, upd_same, Fr.mono (same_sm e567.g) h4, q, [.str wy.name] ++ zs, rfl, e7.g _ _ upd_same, ?_⟩
          exact .cons rfl (Paired.imp (fun _ _ z => z) hpz)
        obtain ⟨H8, dp, o8, u8, eo⟩ := o7.put (k := wy.start) r7 hlen
        have hu7 := WayAt.mono (same_sm e567.g) hu4
        have e8 := ((e.trans e34).trans e567).wr (o := u8) hd o7.choose_spec.1
        rw [← eo] at e8
        rw [tab_put ms] at o8
        refine ⟨_, rfl, _, rfl, _, hu7.start T e7.gh, d, H8, rfl, dp, _, rfl, _, hu7.start T e8.gh, _, (sl.trans e34.g).trans e567.g, e8, _, _, _, _, updF L wy.start (wy.gain * (F wy.goal).1, wy :: (F wy.goal).2), some wy.start, rfl, estep _ _ ?_, rfl, ?_⟩
        · unfold rstep
          rw [if_pos hbt]
        · rw [fw_upd]; exact o8
      · refine iteDF hbt ⟨G4, sl.trans e34.g, e.trans e34, _, _, _, _, L, b, rfl, estep _ _ ?_, hb, o4⟩
        unfold rstep
        rw [if_neg hbt]
    · obtain ⟨v4, v5, v6, v7, L, b, rfl, eL, hb, o⟩ := z
      rw [List.take_length] at eL
      obtain ⟨G', e', hD, sg⟩ := o.done Fw.mono s e hd
      refine ⟨_, rfl, _, rfl, (by show 2 ≤ sizeLine; decide), fun t nt => ?_⟩
      have e7 := Ext.imm (p := t) (o := .tup [.ref d, v4]) e'.gh nt
      refine k _ _ _ (e'.trans e7) ?_
      have eR : GM.round m F us = (L, b) := eL.symm
      rw [eR]
      exact ⟨t, .ref d, v4, rfl, upd_same, hD.up Fw.mono (same_sm e7.g), hb⟩
end
end GH
end
section
set_option maxRecDepth 100000
/-! The first ring within a walk. -/
namespace GH
open PySem PySem.Spec PyProof.Rows L2 GM
theorem for_rng {lo : Int} {n : Nat} {g : TG} {tb : TS} {D : Ends} {σ : L2.St} {Ge He Gl G1 H1 : Hp} (sl : Same Gl G1) (e1 : Ext Ge He G1 H1) (Iv : Nat → L2.St → Hp → Hp → Prop) (h0 : Iv 0 σ G1 H1)
    (hs : ∀ i σ G H, i < n → Same Gl G → Ext Ge He G H → Iv i σ G H → g (.int (lo + (i : Int))) σ H fun σ2 H2 => tb { D with nx := LN Ge He Gl Iv (i + 1), ct := LN Ge He Gl Iv (i + 1), bk := D.nx } σ2 H2)
    (hd : ∀ σ G H, Same Gl G → Ext Ge He G H → Iv n σ G H → D.nx σ H) :
    ∃ W : Nat → Nat → L2.St → Hp → Prop, (∃ m, W 0 m σ H1) ∧ ∀ i m σ H, W i m σ H →
      ((Itr lo n).stop i H ∧ D.nx σ H) ∨ ((Itr lo n).go i H ∧ ∃ N : L2.St → Hp → Prop, (∀ σ' H', N σ' H' → ∃ m', m' < m ∧ W (i + 1) m' σ' H') ∧ ∀ x H', (Itr lo n).yld i H x H' → g x σ H' fun σ2 H2 => tb { D with nx := N, ct := N, bk := D.nx } σ2 H2) :=
  for_range (LN Ge He Gl Iv) ⟨G1, sl, e1, h0⟩ (fun i σ H hi ⟨G, s, e, q⟩ => hs i σ G H hi s e q) fun σ H ⟨G, s, e, q⟩ => hd σ G H s e q
theorem atI_str {l : List Str} {i : Nat} {x : Str} (h : l[i]? = some x) : atI (l.map V.str) ((i : Nat) : Int) = some (.str x) := by
  have hl := (List.getElem?_eq_some_iff.mp h).1
  unfold atI ixN
  rw [if_pos (by omega), if_pos (by rw [List.length_map]; omega)]
  show (l.map V.str)[((i : Nat) : Int).toNat]? = _
  rw [Int.toNat_natCast, List.getElem?_map, h]; rfl
theorem cut_take {xs : List V} {i : Nat} (h : i ≤ xs.length) : cutV xs none (some (i : Int)) = xs.take i := by
  unfold cutV
  rw [HT.sIx_none, HT.sIx_nat, List.drop_zero, Nat.sub_zero, Nat.min_eq_left h]
theorem cut_both {xs : List V} {i j : Nat} (h : i ≤ j) (h' : j ≤ xs.length) : cutV xs (some (i : Int)) (some (j : Int)) = (xs.take j).drop i := by
  unfold cutV
  rw [HT.sIx_nat, HT.sIx_nat, Nat.min_eq_left h', Nat.min_eq_left (by omega), List.drop_take]
theorem small62 {n : Nat} (h : n ≤ 1000) : -(2 ^ 62) ≤ (n : Int) ∧ (n : Int) < 2 ^ 62 := by
  have : (1000 : Int) < 2 ^ 62 := by decide
  have : -(2 ^ 62 : Int) ≤ 0 := by decide
  omega
/-- the ring that us first closes -/
def spFR (c : Cl) : Sp := fun vs H Q _ => ∃ (G : Hp) (x y : V) (n : Nt) (us : List (Wy Str)), vs = [x, y] ∧ Same G H ∧ NetAt c G x n ∧ NtOk n ∧ LstAt StrAt G y (names us) ∧ Wlk n us ∧ ¬ (plc us).Nodup ∧
  Ret G H Q (fun v G' => ∃ i j, i < j ∧ j < (plc us).length ∧ (plc us)[i]? = (plc us)[j]? ∧ ((plc us).take j).Nodup ∧ LstAt StrAt G' v (names ((us.take j).drop i)))
theorem names_cut (us : List (Wy Str)) (i j : Nat) : names ((us.take j).drop i) = ((names us).take j).drop i := by unfold names; rw [List.map_drop, List.map_take]
section
variable {P : Program} {w : World} {K : PySem.W.Frag} {mg : Str → Option Value} {base : Heap} {c : Cl} {f : Addr} {fd : FuncData}
theorem scFR : FnScope ["net", "walk", "places", "end"] ["net", "walk"] (defScope sFR) := ⟨rfl, rfl, rfl, by decide +kernel, rfl, by decide +kernel, by decide +kernel⟩
theorem ok_fr (F : FnP K "first_ring" "first_ring" sFR f fd) (T : Txt K mg c) (S1 : Fn P w K mg base "places_of" 3 ["net", "walk"] [] (spPO c)) : FnOk P w K mg base CX0 4 f fd ["net", "walk"] (spFR c) := by
  refine F.ok scFR (fun vs H Q E h => ?_) (fun cdv A outer s H vs Q E hr h => ?_)
  · obtain ⟨G, x, y, n, us, rfl, _⟩ := h
    rfl
  · obtain ⟨G, x, y, n, us, rfl, s, hn, nok, hy, wk, nnd, k⟩ := h
    refine ⟨_, PSs.nox (pss_cons (ps_set (i := 2) scFR.nd rfl (Or.inl rfl) (pe_fn S1 hr (by rfl) (pa_cons (pv 0) (pa_cons (pv 1) pa_nil))))
      (pss_cons (ps_for PassesOwn.never rfl (pi_range1 (by rfl) T.range (pa_cons (pe_callB call_len_seq (by rfl) T.len PySem.boot_len (pa_cons (pv 2) pa_nil)) pa_nil)) (pg_name (i := 3) scFR.nd rfl (Or.inl rfl))
        (pss_one (ps_if (pt_cmpR op_in_seq (pe_ix ix_list (pv 2) (pv 3) (fun _ _ => rfl)) (pe_slice sl_list (pv 2) po_none (po_some (pv 3))) (by rfl))
          (pss_one (ps_ret (pe_slice sl_list (pv 1) (po_some (pe_bm PySem.F.plainAttrs_list PySem.F.slot_list_index PySem.F.type_list_index mt_index (pv 2) (pa_cons (pe_ix ix_list (pv 2) (pv 3) (fun _ _ => rfl)) pa_nil))) (po_some (pv 3))))) pss_nil)))
      (pss_one (ps_ret (pe_lst pa_nil))))), ?_⟩
    refine ⟨_, rfl, _, rfl, G, x, y, n, us, rfl, s, hn, nok, hy, wk, fun v2 G2 H2 e2 h2 => ?_⟩
    obtain ⟨a, vs, rfl, hv, hp⟩ := id h2
    have hs := strs_eq hp
    have hl := paired_len hp
    subst hs
    have pl : (plc us).length ≤ 1000 := by have := plc_len us; have := wk.len; omega
    have lm : ((plc us).map V.str).length = (plc us).length := List.length_map ..
    obtain ⟨q1, q2⟩ := small62 pl
    refine ⟨_, rfl, a, _, rfl, .inl (SqL.of (e2.gh _ _ hv)), _, rfl, by rw [lm]; exact q1, by rw [lm]; exact q2, ?_⟩
    rw [lm, Int.toNat_natCast]
    obtain ⟨b, ws, rfl, hw, hwp⟩ := id hy
    have hws := strs_eq hwp
    subst hws
    refine for_rng (Same.refl G2) e2 (fun i σ G' H' => ∃ v3, σ = [some x, some (.ref b), some (.ref a), v3] ∧ ((plc us).take i).Nodup) ⟨none, rfl, by simp⟩ (fun i σ G' H' hi sl e z => ?_) (fun σ G' H' sl e z => ?_)
    · obtain ⟨v3, rfl, nd⟩ := z
      rw [Int.zero_add]
      obtain ⟨p, hpi⟩ : ∃ p, (plc us)[i]? = some p := ⟨(plc us)[i], List.getElem?_eq_getElem hi⟩
      have hA : SqL K H' a ((plc us).map V.str) := SqL.of (e.gh _ _ (sl _ _ hv))
      refine ⟨_, rfl, _, rfl, a, _, _, _, rfl, rfl, hA, atI_str hpi, _, rfl, _, rfl, _, rfl, a, _, rfl, hA, fun q nq => ?_⟩
      have e3 := Ext.imm (p := q) (o := .lst (cutV ((plc us).map V.str) none (some (i : Int)))) e.gh nq
      have ct : cutV ((plc us).map V.str) none (some (i : Int)) = ((plc us).take i).map V.str := by rw [cut_take (by rw [lm]; omega), List.map_take]
      refine ⟨q, _, rfl, .inl (SqL.of upd_same), rfl, by rw [ct]; exact flat_strs' _, _, rfl, ?_⟩
      rw [ct, inV_str]
      by_cases hin : p ∈ (plc us).take i
      · refine iteDT hin ?_
        obtain ⟨j, hj, ej⟩ := List.mem_iff_getElem.mp hin
        have hj' := hj
        rw [List.length_take] at hj
        have hji : j < i := by omega
        have ejg : (plc us)[j]? = some p := by rw [List.getElem?_eq_getElem (by omega), ← ej, List.getElem_take]
        have hA3 : SqL K (upd H' q (.lst (((plc us).take i).map V.str))) a ((plc us).map V.str) := by rw [← ct]; exact SqL.of (e3.h _ _ (e.gh _ _ (sl _ _ hv)))
        have hW3 : SqL K (upd H' q (.lst (((plc us).take i).map V.str))) b ((names us).map V.str) := by rw [← ct]; exact SqL.of (e3.h _ _ (e.h _ _ (s _ _ hw)))
        rw [ct] at e3
        refine ⟨_, rfl, _, rfl, .inl ⟨rfl, _, hA3⟩, _, rfl, _, rfl, a, _, _, _, rfl, rfl, hA3, atI_str hpi, a, _, _, j, .str p, rfl, rfl, hA3, rfl, flat_strs' _, by rw [List.getElem?_map, ejg]; rfl, (show (p == p) = true from beq_self_eq_true p), fun m z hm hz => ?_,
          _, rfl, _, rfl, _, rfl, b, _, rfl, hW3, fun t nt => ?_⟩
        · rw [List.getElem?_map] at hz
          obtain ⟨y, hy1, hy2⟩ := Option.map_eq_some_iff.mp hz
          subst hy2
          show (y == p) = false
          refine beq_eq_false_iff_ne.mpr fun ey => ?_
          subst ey
          have h1 : ((plc us).take i)[m]? = some y := by rw [List.getElem?_take, if_pos (by omega)]; exact hy1
          have h2 : ((plc us).take i)[j]? = some y := by rw [List.getElem?_take, if_pos hji]; exact ejg
          have l1 := (List.getElem?_eq_some_iff.mp h1)
          have l2 := (List.getElem?_eq_some_iff.mp h2)
          obtain ⟨l1, l1'⟩ := l1
          obtain ⟨l2, l2'⟩ := l2
          have := (List.getElem_inj nd).mp (l1'.trans l2'.symm)
          omega
        · have ul : i ≤ us.length := by have := plc_len us; omega
          have cw : cutV ((names us).map V.str) (some (j : Int)) (some (i : Int)) = (names ((us.take i).drop j)).map V.str := by
            rw [cut_both (Nat.le_of_lt hji) (by rw [List.length_map, names_len]; exact ul), names_cut, List.map_drop, List.map_take]
          rw [cw]
          have e4 := Ext.imm (p := t) (o := .lst ((names ((us.take i).drop j)).map V.str)) e3.gh nt
          exact k _ _ _ ((e.trans e3).trans e4) ⟨j, i, hji, hi, ejg.trans hpi.symm, nd, t, _, rfl, upd_same, flat_pair _⟩
      · rw [ct] at e3
        refine iteDF hin ⟨_, sl.trans e3.g, e.trans e3, _, rfl, ?_⟩
        rw [take_succ_of hpi, List.nodup_append]
        exact ⟨nd, by simp, fun a' ha' b' hb' => by rw [List.mem_singleton.mp hb']; exact fun ez => hin (ez ▸ ha')⟩
    · obtain ⟨v3, rfl, nd⟩ := z
      rw [List.take_length] at nd
      exact absurd nd nnd
end
end GH
end
section
set_option maxRecDepth 100000
/-! Rings or weights. -/
namespace GH
open PySem PySem.Spec PyProof.Rows L2 GM
/-- what is found: a ring, or weights -/
def Fnd (c : Cl) (m : Bool) (n : Nt) (us : List (Wy Str)) : V → Hp → Prop := fun v G =>
  (∃ rg c0, PrAt StrAt (LstAt StrAt) G v ("ring", names rg) ∧ Ring c0 rg ∧ (∀ w ∈ rg, w ∈ us) ∧ rg.length ≤ 10 ∧ bt m (gainW rg) 1) ∨
  (∃ F : Fd Str, PrAt StrAt (DctAt (Fr c)) G v ("weights", tab n.ps (fun p => (F p).1)) ∧ FdOk F 10 ∧ ∀ w ∈ us, ¬ bt m (w.gain * (F w.goal).1) (F w.start).1)
def spLF (c : Cl) : Sp := fun vs H Q _ => ∃ (G : Hp) (x y : V) (m : Bool) (n : Nt) (us : List (Wy Str)), vs = [x, y, .bl m] ∧ Same G H ∧ NetAt c G x n ∧ NtW n ∧ LstAt StrAt G y (names us) ∧ (∀ w ∈ us, w ∈ n.ws) ∧ us.length ≤ 20 ∧
  Ret G H Q (fun v G' => Fnd c m n us v G')
def spMkE (c : Cl) (m : Bool) : Sp := fun vs H Q _ => ∃ (G : Hp) (x y : V) (n : Nt) (us : List (Wy Str)), vs = [x, y] ∧ Same G H ∧ NetAt c G x n ∧ NtW n ∧ LstAt StrAt G y (names us) ∧ (∀ w ∈ us, w ∈ n.ws) ∧ us.length ≤ 20 ∧
  Ret G H Q (fun v G' => Fnd c m n us v G')
theorem walk_plc {p q : Str} {us : List (Wy Str)} (h : Walk p us q) (ne : us ≠ []) : plc us = p :: goals us := by
  cases us with
  | nil => exact absurd rfl ne
  | cons u r => show u.start :: _ = _; rw [h.1]
theorem best_fd {m : Bool} {us : List (Wy Str)} {F : Fd Str} {k : Nat} (B : Best m us F k) (hw : ∀ w ∈ us, WyOk w) {j : Nat} (hk : k ≤ j) : FdOk F j :=
  ⟨B.val, fun p w h => hw w (B.sub p w h), fun p => Nat.le_trans (B.len p) hk⟩
theorem ps_k {X : Cx} {st : Stmt} {wi : TI} {g g' : TG} {tt : TT} {te : TE} {ws : List Nat} (h : PS X st (tAsg (tLc wi g tt te ws) g')) : PS X st (tAsg (tLK wi g tt te ws) g') := h
section
variable {P : Program} {w : World} {K : PySem.W.Frag} {mg : Str → Option Value} {base : Heap} {c : Cl} {f : Addr} {fd : FuncData}
theorem scLF : FnScope ["net", "names", "makes", "ways", "places", "found", "place", "k", "turn", "values", "name"] ["net", "names", "makes"] (defScope sLF) := ⟨rfl, rfl, rfl, by decide +kernel, rfl, by decide +kernel, by decide +kernel⟩
theorem ok_lf (F : FnP K "looked_for" "looked_for" sLF f fd) (T : Txt K mg c) (M : FrM P w K mg base c) (N : NtM P w K mg base c) (S1 : Fn P w K mg base "one_round" 7 ["found", "ways", "makes"] [] (spOR c)) (S2 : Fn P w K mg base "first_ring" 4 ["net", "walk"] [] (spFR c)) : FnOk P w K mg base CX0 8 f fd ["net", "names", "makes"] (spLF c) := by
  refine F.ok scLF (fun vs H Q E h => ?_) (fun cdv A outer s H vs Q E hr h => ?_)
  · obtain ⟨G, x, y, m, n, us, rfl, _⟩ := h
    rfl
  · obtain ⟨G, x, y, m, n, us, rfl, s, hn, nw, hy, us0, ul, k⟩ := h
    refine ⟨_, PSs.nox (pss_cons (ps_k (ps_setLc (i := 3) (own := [("name", 10)]) (g := gName 10) (tt := tYes) (te := tM c.N "way" (spWay c) (tVar 0) (tCons (tVar 10) tNil)) rfl scLF.nd rfl rfl (sw_true rfl rfl rfl (by decide +kernel)) (pi_list (pv 1)) (blkOk_by (N := ["net", "names", "makes", "ways", "places", "found", "place", "k", "turn", "values", "name"]) (sc := defScope sLF) (by decide +kernel))
          (fun _ _ _ _ _ => pg_name (i := 10) scLF.nd rfl (Or.inl rfl)) (fun _ _ _ _ _ => pts_nil) (fun _ _ _ _ _ => pe_m T.clN N.way (hr.mono (by decide)) (pv 0) (pa_cons (pv 10) pa_nil))))
      (pss_cons (ps_set (i := 4) scLF.nd rfl (Or.inl rfl) (pe_m0 T.clN N.names (hr.mono (by decide)) (pv 0)))
      (pss_cons (ps_set (i := 5) scLF.nd rfl (Or.inl rfl) pe_dnewK)
      (pss_cons (ps_for PassesOwn.never rfl (pi_list (pv 4)) (pg_name (i := 6) scLF.nd rfl (Or.inl rfl))
        (pss_one (ps_dput (hu_of hr) (pv 5) (pv 6) (pe_tup (pa_cons (pe_fr1 M.mkf (hr.mono (by decide)) (by rfl) (pa_cons pe_int pa_nil)) (pa_cons (pe_lst pa_nil) pa_nil))) rfl)))
      (pss_cons (ps_for PassesOwn.never rfl (pi_range1 (by rfl) T.range (pa_cons (pe_callB call_len_seq (by rfl) T.len PySem.boot_len (pa_cons (pv 4) pa_nil)) pa_nil)) (pg_name (i := 7) scLF.nd rfl (Or.inl rfl))
        (pss_cons (ps_set (i := 8) scLF.nd rfl (Or.inl rfl) (pe_fn S1 hr (by rfl) (pa_cons (pv 5) (pa_cons (pv 3) (pa_cons (pv 2) pa_nil)))))
        (pss_cons (ps_set (i := 5) scLF.nd rfl (Or.inl rfl) (pe_ix ix_tup (pv 8) pe_int (fun _ _ => rfl)))
        (pss_cons (ps_if (pt_cmpR op_isN (pe_ix ix_tup (pv 8) pe_int (fun _ _ => rfl)) pe_non (nomark _)) (pss_one ps_break) pss_nil)
        (pss_one (ps_if (pt_cmpR op_eq (pv 7) (pe_op op_sub (pe_callB call_len_seq (by rfl) T.len PySem.boot_len (pa_cons (pv 4) pa_nil)) pe_int) (nomark _))
          (pss_one (ps_ret (pe_tup (pa_cons pe_str (pa_cons (pe_fn S2 (hr.mono (by decide)) (by rfl) (pa_cons (pv 0) (pa_cons (pe_ix ix_tup (pe_dget (hu_of hr) (pv 5) (pe_ix ix_tup (pv 8) pe_int (fun _ _ => rfl)) (fun _ _ => rfl)) pe_int (fun _ _ => rfl)) pa_nil))) pa_nil))))) pss_nil))))))
      (pss_cons (ps_set (i := 9) scLF.nd rfl (Or.inl rfl) pe_dnewK)
      (pss_cons (ps_for PassesOwn.never rfl (pi_list (pv 4)) (pg_name (i := 6) scLF.nd rfl (Or.inl rfl))
        (pss_one (ps_dput (hu_of hr) (pv 9) (pv 6) (pe_ix ix_tup (pe_dget (hu_of hr) (pv 5) (pv 6) (fun _ _ => rfl)) pe_int (fun _ _ => rfl)) rfl)))
      (pss_one (ps_ret (pe_tup (pa_cons pe_str (pa_cons (pv 9) pa_nil)))))))))))), ?_⟩
    have uw : ∀ w ∈ us, WyOk w := fun w hw => nw.wy w (us0 w hw)
    have ug : ∀ w ∈ us, 0 < w.gain := fun w hw => (uw w hw).pos
    have p4 := nw.ok.p4
    have p1 := nw.ok.p1
    refine ⟨_, rfl, ?_⟩
    refine lc_lst (R := StrAt) (S := WayAt c) StrAt.mono WayAt.mono hy (Same.refl _) s (Ext.refl s) (by rw [names_len]; omega) (fun i => us.take i) rfl (fun i nm u G2 H2 hi hu sl e Yes No hy _ => ?_) (fun v3 G3 H3 sl e h3 => ?_)
    · obtain ⟨wy, hw, rfl⟩ := names_get hi
      have hu : u = .str wy.name := hu
      subst hu
      have hn2 := hn.up' e.g
      refine ⟨rfl, lc_yes ⟨_, rfl, hn2.ins e.gh, _, rfl, G2, x, n, wy, rfl, e.gh, hn2, nw.ok, us0 _ (List.mem_of_getElem? hw), fun v3 G3 H3 e3 h3 => hy _ _ _ wy e3 h3 (take_succ_of hw)⟩⟩
    rw [names_len, List.take_length] at h3
    have hn3 := hn.up' e.g
    refine ⟨_, rfl, hn3.ins e.gh, G3, x, n, rfl, e.gh, hn3, fun v4 G4 H4 e4 h4 => ?_⟩
    intro d hd
    have e4a := e.trans e4
    have e5 := e4a.trans (Ext.tmp (o := .dK []) e4.gh hd)
    have hdH : H d = none := e4a.free hd
    refine ⟨_, rfl, ?_⟩
    refine for_lst (R := StrAt) StrAt.mono h4 (Same.refl _) e5 (fun i σ G' H' => ∃ v6, σ = [some x, some y, some (.bl m), some v3, some v4, some (.ref d), v6, none, none, none, none] ∧ Own (Fw c) G' H' d (tab (n.ps.take i) (fw fun _ => (1, [])))) ⟨none, rfl, Own.nil e4.gh hd⟩ (fun i p u σ G2 H2 hi hu sl e z => ?_) (fun σ G5 H5 sl5 e5 z => ?_)
    · obtain ⟨v6, rfl, o⟩ := z
      have hu : u = .str p := hu
      subst hu
      refine ⟨G2, 1, rfl, e.gh, fun v7 G7 H7 e7 h7 => ⟨Nat.zero_le _, fun q nq => ⟨by show 2 ≤ sizeLine; decide, fun t nt => ?_⟩⟩⟩
      have e8 := Ext.imm (p := q) (o := .lst []) e7.gh nq
      have e9 := Ext.imm (p := t) (o := .tup [v7, .ref q]) e8.gh nt
      have e789 := (e7.trans e8).trans e9
      have r9 : Fw c (upd (upd G7 q (.lst [])) t (.tup [v7, .ref q])) (.ref t) (1, []) := ⟨t, v7, .ref q, rfl, upd_same, Fr.mono (same_sm (e8.trans e9).g) h7, q, [], rfl, e9.g _ _ upd_same, .nil⟩
      have o9 := o.ext Fw.mono e789
      have hlen : (tab (n.ps.take i) (fw fun _ => (1, []))).length < sizeLine := by rw [tab_len]; exact line100 (Nat.le_trans (List.length_take_le' i _) (by omega))
      obtain ⟨H10, dp, o10, u10, eo⟩ := o9.put (k := p) r9 hlen
      have e10 := (e.trans e789).wr (o := u10) hdH o9.choose_spec.1
      rw [← eo] at e10
      refine ⟨_, rfl, _, rfl, d, H10, rfl, dp, _, sl.trans e789.g, e10, _, rfl, ?_⟩
      rw [← tab_snoc nw.ok.ndP hi]; exact o10
    obtain ⟨v6, rfl, o5⟩ := z
    rw [List.take_length] at o5
    obtain ⟨G6, e6, hF6, sg6⟩ := o5.done Fw.mono s e5 hdH
    have h46 := h4.up StrAt.mono (same_sm (sl5.trans sg6))
    have h36 := h3.up WayAt.mono (same_sm ((e4.g.trans sl5).trans sg6))
    have hn6 := hn.up' e6.g
    obtain ⟨a4, vs4, rfl, hv4, hp4⟩ := id h46
    have l4 : vs4.length = n.ps.length := paired_len hp4
    obtain ⟨q1, q2⟩ := small62 (show n.ps.length ≤ 1000 by omega)
    refine ⟨_, rfl, a4, vs4, rfl, .inl (SqL.of (e6.gh _ _ hv4)), _, rfl, by rw [l4]; exact q1, by rw [l4]; exact q2, ?_⟩
    rw [l4, Int.toNat_natCast]
    refine for_rng (Same.refl G6) e6 (fun i σ G' H' => ∃ (Fn : Fd Str) (v5 : V) (v7 v8 : Option V), σ = [some x, some y, some (.bl m), some v3, some (.ref a4), some v5, v6, v7, v8, none, none] ∧ DctAt (Fw c) G' v5 (tab n.ps (fw Fn)) ∧ Best m us Fn i ∧ i < n.ps.length)
      ⟨_, _, none, none, rfl, hF6, best_zero m us, p1⟩ (fun i σ G7 H7 hi sl7 e7 z => ?_) (fun σ G7 H7 sl7 e7 z => ?_)
    · obtain ⟨Fn, v5, v7, v8, rfl, hF, B, il⟩ := z
      have h37 := h36.up WayAt.mono (same_sm sl7)
      have hn7 := hn6.up' sl7
      refine ⟨_, rfl, _, rfl, _, rfl, G7, v5, v3, m, n.ps, us, Fn, rfl, e7.gh, hF, h37, fun w hw => ⟨nw.ok.st w (us0 w hw), nw.ok.go w (us0 w hw)⟩, by omega, by omega, best_fd B uw (by omega), fun v8 G8 H8 e8 h8 => ?_⟩
      obtain ⟨t8, w1, w2, rfl, ht8, hL, hb⟩ := h8
      have Mi := round_mid m Fn us
      have B' := best_round ug B Mi
      generalize (GM.round m Fn us).1 = L at *
      generalize (GM.round m Fn us).2 = b at *
      have hT8 : SqT K H8 t8 [w1, w2] := SqT.of (e8.gh _ _ ht8)
      refine ⟨_, rfl, t8, _, 0, w1, rfl, rfl, hT8, rfl, ?_⟩
      refine ⟨_, rfl, t8, _, 1, w2, rfl, rfl, hT8, rfl, rfl, _, rfl, ?_⟩
      cases b with
      | none =>
        have hb : w2 = .non := hb
        subst hb
        refine iteDT rfl ?_
        -- no better way: weights
        have nb := none_weights Mi
        intro d9 hd9
        have e78 := e7.trans e8
        have hdH9 : H d9 = none := e78.free hd9
        have e9 := e78.trans (Ext.tmp (o := .dK []) e8.gh hd9)
        have h48 := h46.up StrAt.mono (same_sm (sl7.trans e8.g))
        refine ⟨_, rfl, ?_⟩
        refine for_lst (R := StrAt) StrAt.mono h48 (Same.refl _) e9 (fun i σ G' H' => ∃ v6 v7 v8, σ = [some x, some y, some (.bl m), some v3, some (.ref a4), some w1, v6, v7, v8, some (.ref d9), none] ∧ Own (Fr c) G' H' d9 (tab (n.ps.take i) fun p => (L p).1)) ⟨_, _, _, rfl, Own.nil e8.gh hd9⟩ (fun i p u σ G2 H2 hi hu sl e z => ?_) (fun σ G5 H5 sl5 e5 z => ?_)
        · obtain ⟨v6, v7, v8, rfl, o⟩ := z
          have hu : u = .str p := hu
          subst hu
          have mp := List.mem_of_getElem? hi
          obtain ⟨a1, u1, ea1, g1, r1⟩ := (hL.up Fw.mono (same_sm sl)).get e.gh (tab_lk mp)
          obtain ⟨t1, x1, x2, rfl, ht1, hx1, hx2⟩ := r1
          have hlen : (tab (n.ps.take i) fun p => (L p).1).length < sizeLine := by rw [tab_len]; exact line100 (Nat.le_trans (List.length_take_le' i _) (by omega))
          obtain ⟨H10, dp, o10, u10, eo⟩ := o.put (k := p) hx1 hlen
          have e10 := e.wr (o := u10) hdH9 o.choose_spec.1
          rw [← eo] at e10
          refine ⟨_, rfl, _, rfl, a1, _, ea1, g1, t1, _, 0, x1, rfl, rfl, SqT.of (e.gh _ _ ht1), rfl, _, rfl, _, rfl, d9, H10, rfl, dp, G2, sl, e10, _, _, _, rfl, ?_⟩
          rw [← tab_snoc nw.ok.ndP hi]; exact o10
        · obtain ⟨v6, v7, v8, rfl, o⟩ := z
          rw [List.take_length] at o
          obtain ⟨G', e', hD, sg⟩ := o.done Fr.mono s e5 hdH9
          refine ⟨_, rfl, by show 2 ≤ sizeLine; decide, fun t nt => ?_⟩
          have e11 := Ext.imm (p := t) (o := .tup [.str "weights", .ref d9]) e'.gh nt
          refine k _ _ _ (e'.trans e11) (.inr ⟨L, ⟨t, _, _, rfl, upd_same, rfl, hD.up Fr.mono (same_sm e11.g)⟩, best_fd B' uw (by omega), nb⟩)
      | some p =>
        have hb : w2 = .str p := hb
        subst hb
        refine iteDF (fun z => by cases z) ?_
        have hA4 : SqL K H8 a4 vs4 := SqL.of (e8.gh _ _ (e8.g _ _ (sl7 _ _ hv4)))
        refine ⟨_, rfl, _, rfl, a4, vs4, rfl, .inl hA4, _, _, rfl, rfl, rfl, _, rfl, ?_⟩
        rw [l4, Int.zero_add]
        obtain ⟨hbt, hst⟩ := Mi.some p rfl
        by_cases last : i = n.ps.length - 1
        · refine iteDT (by rw [last]; congr 1; omega) ?_
          have mp : p ∈ n.ps := by
            obtain ⟨w, hw, ew⟩ := List.mem_map.mp hst
            rw [← ew]; exact nw.ok.st w (us0 w hw)
          have nd := again_of_long B B' hbt (ps := n.ps) (by omega) mp (fun w hw => nw.ok.go w (us0 w hw))
          obtain ⟨q, hq⟩ := B'.walk p
          have ne : (L p).2 ≠ [] := fun z => by rw [z] at nd; exact nd (by simp [goals])
          have ep := walk_plc hq ne
          rw [← ep] at nd
          have wk : Wlk n (L p).2 := ⟨⟨p, q, hq⟩, fun w hw => us0 w (B'.sub p w hw), Nat.le_trans (B'.len p) (by omega)⟩
          obtain ⟨a1, u1, ea1, g1, r1⟩ := hL.get e8.gh (tab_lk mp)
          obtain ⟨t1, x1, x2, rfl, ht1, hx1, hx2⟩ := r1
          refine ⟨_, rfl, _, rfl, _, rfl, t8, _, 1, _, rfl, rfl, hT8, rfl, a1, _, ea1, g1, t1, _, 1, x2, rfl, rfl, SqT.of (e8.gh _ _ ht1), rfl, G8, x, x2, n, (L p).2, rfl, e8.gh, hn7.up' e8.g, nw.ok, hx2, wk, nd, fun v9 G9 H9 e9 h9 => ?_⟩
          obtain ⟨ii, jj, hij, hj, he, nd9, h9⟩ := h9
          refine ⟨by show 2 ≤ sizeLine; decide, fun t nt => ?_⟩
          have e11 := Ext.imm (p := t) (o := .tup [.str "ring", v9]) e9.gh nt
          rw [ep] at hj he nd9
          obtain ⟨c0, rg, rb⟩ := ring_better ug B B' hbt hij hj he nd9
          refine k _ _ _ ((e7.trans e8).trans (e9.trans e11)) (.inl ⟨_, c0, ⟨t, _, _, rfl, upd_same, rfl, h9.up StrAt.mono (same_sm e11.g)⟩, rg, fun w hw => ?_, ?_, rb⟩)
          · exact B'.sub p w (List.mem_of_mem_take (List.mem_of_mem_drop hw))
          · rw [List.length_drop, List.length_take]
            have := B'.len p
            omega
        · refine iteDF (fun z => by injection z with z; omega) ?_
          exact ⟨G8, sl7.trans e8.g, e7.trans e8, L, w1, _, _, rfl, hL, B', by omega⟩
    · obtain ⟨Fn, v5, v7, v8, rfl, hF, B, il⟩ := z
      exact absurd il (Nat.lt_irrefl _)
end
end GH
end
section
set_option maxRecDepth 100000
/-! Even ways and their ring. -/
namespace GH
open PySem PySem.Spec PyProof.Rows L2 GM
abbrev sMk : Stmt := topS 36
abbrev sEa : Stmt := topS 37
abbrev sEW : Stmt := topS 38
abbrev sGn : Stmt := topS 39
abbrev sER : Stmt := topS 40
theorem walk_even {S : Type} [DecidableEq S] {v : S → Rat} {a b : S} {us : List (Wy S)} (h : Walk a us b) (e : ∀ w ∈ us, w.gain * v w.goal = v w.start) : gainW us * v b = v a := by
  induction us generalizing a with
  | nil => have h : a = b := h; rw [h]; show (1 : Rat) * v b = v b; grind
  | cons u r ih =>
    obtain ⟨h1, h2⟩ := h
    have i := ih h2 fun w hw => e w (List.mem_cons_of_mem _ hw)
    have eu := e u List.mem_cons_self
    show u.gain * gainW r * v b = v a
    rw [← h1, ← eu, ← i]; grind
theorem goals_tail {S : Type} [DecidableEq S] {a b : S} {us : List (Wy S)} (h : Walk a us b) (ne : us ≠ []) : goals us = (starts us).tail ++ [b] := by
  induction us generalizing a with
  | nil => exact absurd rfl ne
  | cons u r ih =>
    cases r with
    | nil => have : u.goal = b := h.2; show [u.goal] = [] ++ [b]; rw [this]; rfl
    | cons v t =>
      have := ih h.2 (by simp)
      show u.goal :: goals (v :: t) = (v.start :: starts t) ++ [b]
      rw [this, h.2.1]; rfl
theorem ring_of_starts {S : Type} [DecidableEq S] {a : S} {us : List (Wy S)} (h : Walk a us a) (ne : us ≠ []) (nd : (starts us).Nodup) : Ring a us := by
  refine ⟨h, ne, ?_⟩
  rw [goals_tail h ne]
  cases us with
  | nil => exact absurd rfl ne
  | cons u r =>
    have e : starts (u :: r) = a :: starts r := by show u.start :: _ = _; rw [h.1]
    rw [e] at nd ⊢
    obtain ⟨n1, n2⟩ := List.nodup_cons.mp nd
    show (starts r ++ [a]).Nodup
    rw [List.nodup_append]
    exact ⟨n2, by simp, fun x hx y hy => by rw [List.mem_singleton.mp hy]; exact fun ez => n1 (ez ▸ hx)⟩
/-- every way is even by v, goes on -/
structure EvOk (n : Nt) (us : List (Wy Str)) (v : Str → Rat) : Prop where
  sub : ∀ w ∈ us, w ∈ n.ws
  len : us.length ≤ 20
  even : ∀ w ∈ us, w.gain * v w.goal = v w.start
  on : ∀ w ∈ us, w.goal ∈ starts us
  ne : us ≠ []
  pos : ∀ p, 0 < v p
  be : ∀ p, Be (v p)
def spEW (c : Cl) : Sp := fun vs H Q _ => ∃ (G : Hp) (x y z : V) (n : Nt) (us : List (Wy Str)) (v : Str → Rat), vs = [x, y, z] ∧ Same G H ∧ NetAt c G x n ∧ NtW n ∧ LstAt StrAt G y (names us) ∧ DctAt (Fr c) G z (tab n.ps v) ∧ EvOk n us v ∧ Ret G H Q (fun v G' => LstAt (WayAt c) G' v us)
def spGn (c : Cl) : Sp := fun vs H Q _ => ∃ (G : Hp) (x : V) (us : List (Wy Str)), vs = [x] ∧ Same G H ∧ LstAt (WayAt c) G x us ∧ us.length ≤ 20 ∧ (∀ w ∈ us, w.goal ∈ starts us) ∧ Ret G H Q (fun v G' => LstAt (WayAt c) G' v us)
def spER (c : Cl) : Sp := fun vs H Q _ => ∃ (G : Hp) (x y z : V) (n : Nt) (us : List (Wy Str)) (v : Str → Rat), vs = [x, y, z] ∧ Same G H ∧ NetAt c G x n ∧ NtW n ∧ LstAt StrAt G y (names us) ∧ DctAt (Fr c) G z (tab n.ps v) ∧ EvOk n us v ∧
  Ret G H Q (fun v G' => ∃ rg c0, LstAt StrAt G' v (names rg) ∧ Ring c0 rg ∧ (∀ w ∈ rg, w ∈ us) ∧ rg.length ≤ 10 ∧ gainW rg = 1)
section
variable {P : Program} {w : World} {K : PySem.W.Frag} {mg : Str → Option Value} {base : Heap} {c : Cl} {f : Addr} {fd : FuncData}
theorem scMk : FnScope ["net", "names"] ["net", "names"] (defScope sMk) := ⟨rfl, rfl, rfl, by decide +kernel, rfl, by decide +kernel, by decide +kernel⟩
theorem scEa : FnScope ["net", "names"] ["net", "names"] (defScope sEa) := ⟨rfl, rfl, rfl, by decide +kernel, rfl, by decide +kernel, by decide +kernel⟩
theorem ok_mk (F : FnP K "making" "making" sMk f fd) (T : Txt K mg c) (S1 : Fn P w K mg base "looked_for" 8 ["net", "names", "makes"] [] (spLF c)) : FnOk P w K mg base CX0 9 f fd ["net", "names"] (spMkE c true) := by
  refine F.ok scMk (fun vs H Q E h => ?_) (fun cdv A outer s H vs Q E hr h => ?_)
  · obtain ⟨G, x, y, n, us, rfl, _⟩ := h
    rfl
  · obtain ⟨G, x, y, n, us, rfl, s, hn, nw, hy, us0, ul, k⟩ := h
    refine ⟨_, PSs.nox (pss_one (ps_ret (pe_fn S1 hr (by rfl) (pa_cons (pv 0) (pa_cons (pv 1) (pa_cons pe_bl pa_nil)))))), ?_⟩
    exact ⟨_, rfl, _, rfl, G, x, y, true, n, us, rfl, s, hn, nw, hy, us0, ul, k⟩
theorem ok_ea (F : FnP K "eating" "eating" sEa f fd) (T : Txt K mg c) (S1 : Fn P w K mg base "looked_for" 8 ["net", "names", "makes"] [] (spLF c)) : FnOk P w K mg base CX0 9 f fd ["net", "names"] (spMkE c false) := by
  refine F.ok scEa (fun vs H Q E h => ?_) (fun cdv A outer s H vs Q E hr h => ?_)
  · obtain ⟨G, x, y, n, us, rfl, _⟩ := h
    rfl
  · obtain ⟨G, x, y, n, us, rfl, s, hn, nw, hy, us0, ul, k⟩ := h
    refine ⟨_, PSs.nox (pss_one (ps_ret (pe_fn S1 hr (by rfl) (pa_cons (pv 0) (pa_cons (pv 1) (pa_cons pe_bl pa_nil)))))), ?_⟩
    exact ⟨_, rfl, _, rfl, G, x, y, false, n, us, rfl, s, hn, nw, hy, us0, ul, k⟩
theorem scEW : FnScope ["net", "names", "values", "some", "name", "way"] ["net", "names", "values"] (defScope sEW) := ⟨rfl, rfl, rfl, by decide +kernel, rfl, by decide +kernel, by decide +kernel⟩
theorem ok_ew (F : FnP K "even_ways" "even_ways" sEW f fd) (T : Txt K mg c) (M : FrM P w K mg base c) (W : WyM P w K mg base c) (N : NtM P w K mg base c) : FnOk P w K mg base CX0 7 f fd ["net", "names", "values"] (spEW c) := by
  refine F.ok scEW (fun vs H Q E h => ?_) (fun cdv A outer s H vs Q E hr h => ?_)
  · obtain ⟨G, x, y, z, n, us, v, rfl, _⟩ := h
    rfl
  · obtain ⟨G, x, y, z, n, us, v, rfl, s, hn, nw, hy, hz, ev, k⟩ := h
    refine ⟨_, PSs.nox (pss_cons (ps_set (i := 3) scEW.nd rfl (Or.inl rfl) (pe_lst pa_nil))
      (pss_cons (ps_for PassesOwn.never rfl (pi_list (pv 1)) (pg_name (i := 4) scEW.nd rfl (Or.inl rfl))
        (pss_cons (ps_set (i := 5) scEW.nd rfl (Or.inl rfl) (pe_m T.clN N.way (hr.mono (by decide)) (pv 0) (pa_cons (pv 4) pa_nil)))
        (pss_one (ps_if (pt_val (pe_m T.clF M.same (hr.mono (by decide)) (pe_m T.clF M.times (hr.mono (by decide)) (pe_gain T W hr (pv 5)) (pa_cons (pe_dget (hu_of hr) (pv 2) (pe_f (pv 5)) (fun _ _ => rfl)) pa_nil)) (pa_cons (pe_dget (hu_of hr) (pv 2) (pe_f (pv 5)) (fun _ _ => rfl)) pa_nil)))
          (pss_one (ps_expr (pe_bm PySem.F.plainAttrs_list PySem.F.slot_list_append PySem.F.type_list_append mt_append (pv 3) (pa_cons (pv 5) pa_nil)))) pss_nil))))
      (pss_one (ps_ret (pv 3))))), ?_⟩
    refine ⟨Nat.zero_le _, fun d hd => ?_⟩
    have e0 := Ext.tmp (o := .lst []) s hd
    have o0 := OwnL.nil (R := WayAt c) s hd
    refine ⟨_, rfl, ?_⟩
    refine for_lst (R := StrAt) StrAt.mono hy (Same.refl _) e0 (fun i σ G' H' => ∃ v3 v4, σ = [some x, some y, some z, some (.ref d), v3, v4] ∧ OwnL (WayAt c) G' H' d (us.take i)) ⟨none, none, rfl, o0⟩ (fun i m u σ G2 H2 hi hu sl e iv => ?_) (fun σ G2 H2 sl e iv => ?_)
    · obtain ⟨v3, v4, rfl, o⟩ := iv
      obtain ⟨wy, hw, rfl⟩ := names_get hi
      have hu : u = .str wy.name := hu
      subst hu
      have mu := List.mem_of_getElem? hw
      have mw := ev.sub _ mu
      have hn2 := hn.up' e.g
      refine ⟨_, rfl, hn2.ins e.gh, _, rfl, G2, x, n, wy, rfl, e.gh, hn2, nw.ok, mw, fun v5 G3 H3 e3 h3 => ?_⟩
      have hz3 := hz.up Fr.mono (same_sm (e.trans e3).g)
      refine ⟨_, rfl, G3, wy, e3.gh, h3, fun v6 G4 H4 e4 h4 => ?_⟩
      have hz4 := hz3.up Fr.mono (same_sm e4.g)
      have h34 := WayAt.mono (same_sm e4.g) h3
      obtain ⟨a1, u1, ea1, g1, r1⟩ := hz4.get e4.gh (tab_lk (nw.ok.go _ mw))
      refine ⟨h4.ins e4.gh, _, rfl, _, rfl, _, h34.goal T e4.gh, a1, u1, ea1, g1, G4, v6, u1, _, _, rfl, e4.gh, h4, r1, h3.ok.gain.be.bd, (ev.be _).bd, trivial, fun v7 G5 H5 e5 h5 => ?_⟩
      have hz5 := hz4.up Fr.mono (same_sm e5.g)
      have h35 := WayAt.mono (same_sm e5.g) h34
      obtain ⟨a2, u2, ea2, g2, r2⟩ := hz5.get e5.gh (tab_lk (nw.ok.st _ mw))
      have e345 := (e3.trans e4).trans e5
      have o5 := o.ext WayAt.mono e345
      obtain ⟨vs, gd5, hd5, hp5⟩ := o5
      have lv : vs.length ≤ 20 := by rw [paired_len hp5]; exact Nat.le_trans (List.length_take_le' i _) ev.len
      refine ⟨h5.ins e5.gh, _, rfl, _, rfl, _, h35.start T e5.gh, a2, u2, ea2, g2, G5, v7, u2, _, _, rfl, e5.gh, h5, r2, _, rfl, ?_⟩
      refine iteDT (ev.even wy mu) ⟨_, rfl, .inl ⟨rfl, vs, SqL.of hd5⟩, _, rfl, d, vs, v5, rfl, rfl, hd5, line100 (by omega), G5, sl.trans e345.g, (e.trans e345).wr hd gd5, _, _, rfl, ?_⟩
      rw [take_succ_of hw]
      exact OwnL.snoc gd5 hp5 h35
    · obtain ⟨v3, v4, rfl, o⟩ := iv
      rw [names_len, List.take_length] at o
      obtain ⟨G', e', hL, _⟩ := o.done WayAt.mono s e hd
      exact ⟨_, rfl, k _ _ _ e' hL⟩
theorem scGn : FnScope ["ways", "kept", "starts", "way"] ["ways"] (defScope sGn) := ⟨rfl, rfl, rfl, by decide +kernel, rfl, by decide +kernel, by decide +kernel⟩
theorem ok_gn (F : FnP K "going_on" "going_on" sGn f fd) (T : Txt K mg c) : FnOk P w K mg base CX0 1 f fd ["ways"] (spGn c) := by
  refine F.ok scGn (fun vs H Q E h => ?_) (fun cdv A outer s H vs Q E hr h => ?_)
  · obtain ⟨G, x, us, rfl, _⟩ := h
    rfl
  · obtain ⟨G, x, us, rfl, s, hx, ul, on, k⟩ := h
    refine ⟨_, PSs.nox (pss_cons (ps_set (i := 1) scGn.nd rfl (Or.inl rfl) (pe_lst pa_nil))
      (pss_cons (ps_while PassesOwn.never (pt_cmpR op_ne (pe_callB call_len_seq (by rfl) T.len PySem.boot_len (pa_cons (pv 1) pa_nil)) (pe_callB call_len_seq (by rfl) T.len PySem.boot_len (pa_cons (pv 0) pa_nil)) (nomark _))
        (pss_cons (ps_set (i := 1) scGn.nd rfl (Or.inl rfl) (pv 0))
        (pss_cons (ps_set (i := 2) scGn.nd rfl (Or.inr rfl) (pe_k (pe_lc (own := [("way", 3)]) (g := gName 3) (tt := tYes) (te := tF K (tVar 3) "start") rfl scGn.nd (pi_list (pv 1)) (blkOk_by (N := ["ways", "kept", "starts", "way"]) (sc := defScope sGn) (by decide +kernel))
          (fun _ _ _ _ _ => pg_name (i := 3) scGn.nd rfl (Or.inl rfl)) (fun _ _ _ _ _ => pts_nil) (fun _ _ _ _ _ => pe_f (pv 3)))))
        (pss_one (ps_k (ps_setLc (i := 0) (own := [("way", 3)]) (g := gName 3) (tt := tTest (tOp (rIn K false) (tF K (tVar 3) "goal") (tVar 2))) (te := tVar 3) rfl scGn.nd rfl rfl (sw_true rfl rfl rfl (by decide +kernel)) (pi_list (pv 1)) (blkOk_by (N := ["ways", "kept", "starts", "way"]) (sc := defScope sGn) (by decide +kernel))
          (fun _ _ _ _ _ => pg_name (i := 3) scGn.nd rfl (Or.inl rfl)) (fun _ _ _ _ _ => pts_one (pt_cmpR op_in_seq (pe_f (pv 3)) (pv 2) (by rfl))) (fun _ _ _ _ _ => pv 3)))))))
      (pss_one (ps_ret (pv 0))))), ?_⟩
    refine ⟨Nat.zero_le _, fun d hd => ?_⟩
    have e0 := Ext.imm (p := d) (o := .lst []) s hd
    refine ⟨fun m σ H' => ∃ G' v0 v1 v2, σ = [some v0, some v1, v2, none] ∧ Ext G H G' H' ∧ LstAt (WayAt c) G' v0 us ∧ ((m = 1 ∧ LstAt (WayAt c) G' v1 []) ∨ (m = 0 ∧ LstAt (WayAt c) G' v1 us)), ⟨1, _, x, .ref d, none, rfl, e0, hx.up WayAt.mono (same_sm e0.g), .inl ⟨rfl, d, [], rfl, upd_same, .nil⟩⟩, fun m σ H' iv => ?_⟩
    obtain ⟨G', v0, v1, v2, rfl, e, h0, h1⟩ := iv
    obtain ⟨p0, ys0, ev0, sq0, l0⟩ := h0.len e.gh (K := K)
    have fin : Q v0 H' := k _ _ _ e h0
    rcases h1 with ⟨rfl, h1⟩ | ⟨rfl, h1⟩
    · obtain ⟨p1, ys1, ev1, sq1, l1⟩ := h1.len e.gh (K := K)
      refine ⟨_, rfl, p1, ys1, by rw [ev1], .inl sq1, _, rfl, p0, ys0, by rw [ev0], .inl sq0, rfl, _, rfl, ?_⟩
      rw [l1, l0]
      by_cases u0 : us.length = 0
      · rw [u0]
        have : (!decide (V.int ((([] : List (Wy Str)).length : Nat) : Int) = V.int ((0 : Nat) : Int))) = false := by decide
        rw [this]
        exact iteF ⟨_, rfl, fin⟩
      · have : (!decide (V.int ((([] : List (Wy Str)).length : Nat) : Int) = V.int ((us.length : Nat) : Int))) = true := by
          rw [decide_eq_false (fun z => by injection z with z; simp at z; exact u0 (by omega))]; rfl
        rw [this]
        refine iteT ⟨fun σ' H2 => ∃ G2 w0 w1 w2, σ' = [some w0, some w1, w2, none] ∧ Ext G H G2 H2 ∧ LstAt (WayAt c) G2 w0 us ∧ LstAt (WayAt c) G2 w1 us, fun σ' H2 ⟨G2, w0, w1, w2, a1, a2, a3, a4⟩ => ⟨0, by decide, G2, w0, w1, w2, a1, a2, a3, .inr ⟨rfl, a4⟩⟩, ?_⟩
        refine ⟨_, rfl, _, rfl, ?_⟩
        refine lc_lst (R := WayAt c) (S := StrAt) WayAt.mono StrAt.mono h0 (Same.refl _) s e (by omega) (fun i => starts (us.take i)) rfl (fun i wy u G2 H2 hi hu sl e Yes No hy _ => ?_) (fun v3 G3 H3 sl e3 h3 => ?_)
        · refine ⟨rfl, lc_yes ⟨_, rfl, _, hu.start T e.gh, hy _ _ _ wy.start (Ext.refl e.gh) rfl ?_⟩⟩
          show starts (us.take (i + 1)) = starts (us.take i) ++ _
          rw [take_succ_of hi]
          unfold starts
          rw [List.map_append]; rfl
        rw [List.take_length] at h3
        have h03 := h0.up WayAt.mono (same_sm sl)
        refine ⟨_, rfl, ?_⟩
        refine lc_lst (R := WayAt c) (S := WayAt c) WayAt.mono WayAt.mono h03 (Same.refl _) s e3 (by omega) (fun i => us.take i) rfl (fun i wy u G2 H2 hi hu sl e Yes No hy _ => ?_) (fun v4 G4 H4 sl4 e4 h4 => ?_)
        · refine ⟨rfl, _, rfl, _, hu.goal T e.gh, _, rfl, in_strs (h3.up StrAt.mono (same_sm sl)) e.gh false wy.goal ⟨_, rfl, ?_⟩⟩
          rw [if_neg Bool.false_ne_true, decide_eq_true (on wy (List.mem_of_getElem? hi))]
          exact iteT ⟨_, rfl, hy _ _ _ wy (Ext.refl e.gh) hu (take_succ_of hi)⟩
        · rw [List.take_length] at h4
          exact ⟨G4, _, _, _, rfl, e4, h4, h03.up WayAt.mono (same_sm sl4)⟩
    · obtain ⟨p1, ys1, ev1, sq1, l1⟩ := h1.len e.gh (K := K)
      refine ⟨_, rfl, p1, ys1, by rw [ev1], .inl sq1, _, rfl, p0, ys0, by rw [ev0], .inl sq0, rfl, _, rfl, ?_⟩
      rw [l1, l0, decide_eq_true (rfl : V.int (us.length : Int) = V.int (us.length : Int))]
      exact iteF ⟨_, rfl, fin⟩
end
end GH
end
section
set_option maxRecDepth 100000
/-! The even ring. -/
namespace GH
open PySem PySem.Spec PyProof.Rows L2 GM
theorem cut_from {xs : List V} {i : Nat} (h : i ≤ xs.length) : cutV xs (some (i : Int)) none = xs.drop i := by
  unfold cutV
  rw [HT.sIx_none, HT.sIx_nat, Nat.min_eq_left h, List.take_of_length_le (by rw [List.length_drop]; omega)]
theorem walk_drop {a b : Str} {us : List (Wy Str)} {j : Nat} (h : Walk a us b) (hj : (starts us)[j]? = some b) : Walk b (us.drop j) b := by
  have jl : j < us.length := by have := (List.getElem?_eq_some_iff.mp hj).1; simpa [starts] using this
  obtain ⟨c, c1, c2, c3⟩ := walk_at j h (Nat.le_of_lt jl)
  have e := walk_starts h
  rw [e, List.getElem?_take, if_pos jl, c1] at hj
  rw [Option.some.inj hj] at c3
  exact c3
theorem names_drop (us : List (Wy Str)) (j : Nat) : names (us.drop j) = (names us).drop j := by unfold names; rw [List.map_drop]
theorem starts_len {S : Type} (us : List (Wy S)) : (starts us).length = us.length := by unfold starts; rw [List.length_map]
theorem Own.lkEx {α : Type} {l : List (Str × α)} {k : Str} (h : (lk l k).isSome) : ∃ x, lk l k = some x := Option.isSome_iff_exists.mp h
section
variable {P : Program} {w : World} {K : PySem.W.Frag} {mg : Str → Option Value} {base : Heap} {c : Cl} {f : Addr} {fd : FuncData}
theorem scER : FnScope ["net", "names", "values", "onward", "way", "been", "walk", "place", "at"] ["net", "names", "values"] (defScope sER) := ⟨rfl, rfl, rfl, by decide +kernel, rfl, by decide +kernel, by decide +kernel⟩
theorem ok_er (F : FnP K "even_ring" "even_ring" sER f fd) (T : Txt K mg c) (S1 : Fn P w K mg base "even_ways" 7 ["net", "names", "values"] [] (spEW c)) (S2 : Fn P w K mg base "going_on" 1 ["ways"] [] (spGn c)) : FnOk P w K mg base CX0 8 f fd ["net", "names", "values"] (spER c) := by
  refine F.ok scER (fun vs H Q E h => ?_) (fun cdv A outer s H vs Q E hr h => ?_)
  · obtain ⟨G, x, y, z, n, us, v, rfl, _⟩ := h
    rfl
  · obtain ⟨G, x, y, z, n, us, v, rfl, s, hn, nw, hy, hz, ev, k⟩ := h
    refine ⟨_, PSs.nox (pss_cons (ps_set (i := 3) scER.nd rfl (Or.inl rfl) pe_dnewK)
      (pss_cons (ps_for PassesOwn.never rfl (pi_list (pe_fn S2 (hr.mono (by decide)) (by rfl) (pa_cons (pe_fn S1 hr (by rfl) (pa_cons (pv 0) (pa_cons (pv 1) (pa_cons (pv 2) pa_nil)))) pa_nil))) (pg_name (i := 4) scER.nd rfl (Or.inl rfl))
        (pss_one (ps_dput (hu_of hr) (pv 3) (pe_f (pv 4)) (pv 4) rfl)))
      (pss_cons (ps_set (i := 5) scER.nd rfl (Or.inl rfl) (pe_lst pa_nil))
      (pss_cons (ps_set (i := 6) scER.nd rfl (Or.inl rfl) (pe_lst pa_nil))
      (pss_cons (ps_for PassesOwn.never rfl (pi_list (pe_slice sl_list (pe_callTy (call_listD rfl) (by rfl) T.list (by decide +kernel) (pa_cons (pv 3) pa_nil)) po_none (po_some pe_int))) (pg_name (i := 7) scER.nd rfl (Or.inl rfl))
        (pss_cons (ps_set (i := 8) scER.nd rfl (Or.inl rfl) (pv 7))
        (pss_cons (ps_while PassesOwn.never (pt_cmpR op_notIn_seq (pv 8) (pv 5) (by rfl))
          (pss_cons (ps_expr (pe_bm PySem.F.plainAttrs_list PySem.F.slot_list_append PySem.F.type_list_append mt_append (pv 5) (pa_cons (pv 8) pa_nil)))
          (pss_cons (ps_expr (pe_bm PySem.F.plainAttrs_list PySem.F.slot_list_append PySem.F.type_list_append mt_append (pv 6) (pa_cons (pe_f (pe_dget (hu_of hr) (pv 3) (pv 8) (fun _ _ => rfl))) pa_nil)))
          (pss_one (ps_set (i := 8) scER.nd rfl (Or.inl rfl) (pe_f (pe_dget (hu_of hr) (pv 3) (pv 8) (fun _ _ => rfl))))))))
        (pss_one (ps_set (i := 6) scER.nd rfl (Or.inl rfl) (pe_slice sl_list (pv 6) (po_some (pe_bm PySem.F.plainAttrs_list PySem.F.slot_list_index PySem.F.type_list_index mt_index (pv 5) (pa_cons (pv 8) pa_nil))) po_none))))))
      (pss_one (ps_ret (pv 6)))))))), ?_⟩
    intro d hd
    have e0 := Ext.tmp (o := .dK []) s hd
    refine ⟨_, rfl, _, rfl, _, rfl, G, x, y, z, n, us, v, rfl, e0.gh, hn, nw, hy, hz, ev, fun v1 G1 H1 e1 h1 => ?_⟩
    refine ⟨G1, v1, us, rfl, e1.gh, h1, ev.len, ev.on, fun v2 G2 H2 e2 h2 => ?_⟩
    have e012 := e0.trans (e1.trans e2)
    refine for_lst (R := WayAt c) WayAt.mono h2 (Same.refl _) e012 (fun i σ G' H' => ∃ v4 m, σ = [some x, some y, some z, some (.ref d), v4, none, none, none, none] ∧ Own (WayAt c) G' H' d m ∧ (∀ p w, lk m p = some w → w ∈ us ∧ w.start = p) ∧ (∀ p ∈ starts (us.take i), (lk m p).isSome) ∧ m.length ≤ i)
      ⟨none, [], rfl, (Own.nil s hd).ext WayAt.mono (e1.trans e2), (fun p w h => by cases h), (fun p h => by simp [starts] at h), Nat.le_refl _⟩ (fun i wy u σ G3 H3 hi hu sl e iv => ?_) (fun σ G3 H3 sl e iv => ?_)
    · obtain ⟨v4, m, rfl, o, i1, i2, i3⟩ := iv
      have mu := List.mem_of_getElem? hi
      have il := (List.getElem?_eq_some_iff.mp hi).1
      have := ev.len
      obtain ⟨H4, dp, o4, u4, eo⟩ := o.put (k := wy.start) hu (line100 (by omega))
      refine ⟨_, rfl, _, rfl, _, rfl, _, hu.start T e.gh, d, H4, rfl, dp, G3, sl, ?_, _, _, rfl, o4, fun p w h => ?_, fun p h => ?_, Nat.le_trans put_len (by omega)⟩
      · rw [eo]; exact e.wr hd o.choose_spec.1
      · rw [lk_put] at h
        split at h
        · rename_i ep; cases h; exact ⟨mu, ep.symm⟩
        · exact i1 p w h
      · rw [lk_put]
        split
        · rfl
        · rename_i ep
          refine i2 p ?_
          rw [take_succ_of hi] at h
          unfold starts at h
          rw [List.map_append] at h
          rcases List.mem_append.mp h with h | h
          · exact h
          · exact absurd (List.mem_singleton.mp h) ep
    obtain ⟨v4, m, rfl, o, i1, i2, i3⟩ := iv
    rw [List.take_length] at i2
    obtain ⟨G4, e4, hM, sg4⟩ := o.done WayAt.mono s e hd
    -- been, walk
    refine ⟨Nat.zero_le _, fun db hdb => ⟨Nat.zero_le _, fun dw hdw => ?_⟩⟩
    have hdbH : H db = none := e4.free hdb
    have x5 := Ext.tmp (o := .lst []) e4.gh hdb
    have e5 := e4.trans x5
    have hdwH : H dw = none := e5.free hdw
    have x6 := x5.trans (Ext.tmp (o := .lst []) e5.gh hdw)
    have e6 := e4.trans x6
    have ndw : dw ≠ db := fun ez => by rw [ez, upd_same] at hdw; cases hdw
    have gdb : G4 db = none := Same.free e4.gh hdb
    have gdw : G4 dw = none := Same.free e5.gh hdw
    obtain ⟨am, kvs, eam, hk, hp⟩ := id hM
    cases eam
    refine ⟨_, rfl, d, kvs, rfl, (hk.sm (same_sm e6.gh)).rd, fun p np => ?_⟩
    have x7 := x6.trans (Ext.imm (p := p) (o := .lst (kvs.map fun kv => kV kv.1)) e6.gh np)
    have e7 := e4.trans x7
    -- the first key
    obtain ⟨k0, m1, em⟩ : ∃ k0 m1, keys m = k0 :: m1 := by
      obtain ⟨u0, r0, eu⟩ : ∃ u0 r0, us = u0 :: r0 := by
        cases us with
        | nil => exact absurd rfl ev.ne
        | cons a b => exact ⟨a, b, rfl⟩
      have := i2 u0.start (by rw [eu]; simp [starts])
      obtain ⟨w0, ew0⟩ := Own.lkEx this
      cases em : keys m with
      | nil => exact absurd (List.mem_map.mpr ⟨_, lk_mem ew0, rfl⟩ : u0.start ∈ keys m) (by show u0.start ∉ keys m; rw [em]; exact List.not_mem_nil)
      | cons a b => exact ⟨a, b, rfl⟩
    have km : ∀ q ∈ keys m, q ∈ starts us := fun q hq => by
      obtain ⟨w', ew⟩ := lk_some hq
      obtain ⟨h1, h2⟩ := i1 _ _ ew
      exact List.mem_map.mpr ⟨w', h1, h2⟩
    have k0s : k0 ∈ starts us := km _ (by rw [em]; exact List.mem_cons_self)
    refine ⟨_, rfl, p, _, rfl, SqL.of upd_same, fun q nq => ?_⟩
    have x8 := x7.trans (Ext.imm (p := q) (o := .lst (cutV (kvs.map fun kv => kV kv.1) none (some 1))) e7.gh nq)
    have ct : cutV (kvs.map fun kv => kV kv.1) none (some 1) = [V.str k0] := by
      rw [kv_keys hp, em]
      rw [show (some (1 : Int)) = some (((1 : Nat) : Int)) from rfl, cut_take (by simp)]
      rfl
    rw [ct] at x8
    rw [ct]
    have e8 := e4.trans x8
    have hL : LstAt StrAt (upd (upd G4 p (.lst (kvs.map fun kv => kV kv.1))) q (.lst [V.str k0])) (.ref q) [k0] := ⟨q, _, rfl, upd_same, .cons rfl .nil⟩
    have pdb : p ≠ db := fun ez => by rw [ez, upd_ne (Ne.symm ndw), upd_same] at np; cases np
    have pdw : p ≠ dw := fun ez => by rw [ez, upd_same] at np; cases np
    have qdb : q ≠ db := fun ez => by rw [ez, upd_ne (Ne.symm pdb), upd_ne (Ne.symm ndw), upd_same] at nq; cases nq
    have qdw : q ≠ dw := fun ez => by rw [ez, upd_ne (Ne.symm pdw), upd_same] at nq; cases nq
    have g8b : (upd (upd G4 p (.lst (kvs.map fun kv => kV kv.1))) q (.lst [V.str k0])) db = none := by rw [upd_ne (Ne.symm qdb), upd_ne (Ne.symm pdb)]; exact gdb
    have g8w : (upd (upd G4 p (.lst (kvs.map fun kv => kV kv.1))) q (.lst [V.str k0])) dw = none := by rw [upd_ne (Ne.symm qdw), upd_ne (Ne.symm pdw)]; exact gdw
    have h8b : (upd (upd (upd (upd H3 db (.lst [])) dw (.lst [])) p (.lst (kvs.map fun kv => kV kv.1))) q (.lst [V.str k0])) db = some (.lst []) := by rw [upd_ne (Ne.symm qdb), upd_ne (Ne.symm pdb), upd_ne (Ne.symm ndw), upd_same]
    have h8w : (upd (upd (upd (upd H3 db (.lst [])) dw (.lst [])) p (.lst (kvs.map fun kv => kV kv.1))) q (.lst [V.str k0])) dw = some (.lst []) := by rw [upd_ne (Ne.symm qdw), upd_ne (Ne.symm pdw), upd_same]
    generalize upd (upd G4 p (.lst (kvs.map fun kv => kV kv.1))) q (.lst [V.str k0]) = G8 at *
    refine for_lst (R := StrAt) StrAt.mono hL (Same.refl G8) e8 (fun i σ G' H' => (i = 0 ∧ σ = [some x, some y, some z, some (.ref d), v4, some (.ref db), some (.ref dw), none, none] ∧ OwnL StrAt G' H' db [] ∧ OwnL StrAt G' H' dw []) ∨
        (i = 1 ∧ ∃ v5 v6 v7 v8 rg c0, σ = [some x, some y, some z, some (.ref d), v4, v5, some v6, v7, v8] ∧ LstAt StrAt G' v6 (names rg) ∧ Ring c0 rg ∧ (∀ w ∈ rg, w ∈ us) ∧ rg.length ≤ 10))
      (.inl ⟨rfl, rfl, ⟨[], g8b, h8b, .nil⟩, ⟨[], g8w, h8w, .nil⟩⟩) (fun i pl u σ G9 H9 hi hu sl e iv => ?_) (fun σ G9 H9 sl e iv => ?_)
    · have i0 : i = 0 := by have := (List.getElem?_eq_some_iff.mp hi).1; simpa using this
      subst i0
      have hpl : pl = k0 := by simpa using hi.symm
      subst hpl
      have hu : u = .str pl := hu
      subst hu
      rcases iv with ⟨_, rfl, ob, ow⟩ | ⟨h, _⟩
      case inr => cases h
      refine ⟨_, rfl, ?_⟩
      refine ⟨fun mm σ H' => ∃ (G' : Hp) (rs : List (Wy Str)) (at' : Str), σ = [some x, some y, some z, some (.ref d), v4, some (.ref db), some (.ref dw), some (.str pl), some (.str at')] ∧ Same G8 G' ∧ Ext G H G' H' ∧ OwnL StrAt G' H' db (starts rs) ∧ OwnL StrAt G' H' dw (names rs) ∧ Walk pl rs at' ∧ (starts rs).Nodup ∧ (∀ w ∈ rs, w ∈ us) ∧ at' ∈ starts us ∧ mm = 100 - rs.length,
        ⟨100, G9, [], pl, rfl, sl, e, ob, ow, rfl, List.nodup_nil, (fun w h => nomatch h), k0s, rfl⟩, fun mm σ H' iv => ?_⟩
      obtain ⟨G', rs, at', rfl, sl', e', ob, ow, wk, nds, rsub, ats, rfl⟩ := iv
      obtain ⟨vb, gb, hb, pb⟩ := id ob
      obtain ⟨vw, gw, hw, pw⟩ := id ow
      have evb := strs_eq pb
      have evw := strs_eq pw
      subst evb evw
      have rl : rs.length ≤ n.ps.length := by
        have := pigeon nds (ps := n.ps) fun q hq => by
          obtain ⟨w', h1, h2⟩ := List.mem_map.mp hq
          rw [← h2]; exact nw.ok.st w' (ev.sub _ (rsub _ h1))
        rwa [starts_len] at this
      have p4 := nw.ok.p4
      refine ⟨_, rfl, _, rfl, db, _, rfl, .inl (SqL.of hb), rfl, flat_strs' _, _, rfl, ?_⟩
      rw [if_pos rfl, inV_str]
      by_cases hin : at' ∈ starts rs
      · rw [decide_eq_true hin]
        refine iteF ?_
        obtain ⟨j, hj, ej⟩ := List.mem_iff_getElem.mp hin
        have ejg : (starts rs)[j]? = some at' := by rw [List.getElem?_eq_getElem hj, ej]
        have jl : j < rs.length := by rwa [starts_len] at hj
        refine ⟨_, rfl, _, rfl, .inl ⟨rfl, _, SqL.of hb⟩, _, rfl, db, _, _, j, .str at', rfl, rfl, SqL.of hb, rfl, flat_strs' _, by rw [List.getElem?_map, ejg]; rfl, (show (at' == at') = true from beq_self_eq_true at'), fun m z hm hz => ?_,
          _, rfl, dw, _, rfl, SqL.of hw, fun t nt => ?_⟩
        · rw [List.getElem?_map] at hz
          obtain ⟨y, hy1, hy2⟩ := Option.map_eq_some_iff.mp hz
          subst hy2
          show (y == at') = false
          refine beq_eq_false_iff_ne.mpr fun ey => ?_
          subst ey
          obtain ⟨l1, l1'⟩ := List.getElem?_eq_some_iff.mp hy1
          obtain ⟨l2, l2'⟩ := List.getElem?_eq_some_iff.mp ejg
          have := (List.getElem_inj nds).mp (l1'.trans l2'.symm)
          omega
        · rw [cut_from (by rw [List.length_map, names_len]; omega), ← List.map_drop, ← names_drop]
          have e9 := Ext.imm (p := t) (o := .lst ((names (rs.drop j)).map V.str)) e'.gh nt
          refine ⟨_, sl'.trans e9.g, e'.trans e9, .inr ⟨rfl, _, _, _, _, rs.drop j, at', rfl, ⟨t, _, rfl, upd_same, flat_pair _⟩, ?_, fun w h => rsub w (List.mem_of_mem_drop h), by rw [List.length_drop]; omega⟩⟩
          refine ring_of_starts (walk_drop wk ejg) (fun ez => ?_) ?_
          · have := congrArg List.length ez
            rw [List.length_drop] at this
            simp at this
            omega
          · have : starts (rs.drop j) = (starts rs).drop j := by unfold starts; rw [List.map_drop]
            rw [this]
            exact (List.drop_sublist j _).nodup nds
      · rw [decide_eq_false hin]
        obtain ⟨wa, ewa⟩ := Own.lkEx (i2 at' ats)
        obtain ⟨wus, wst⟩ := i1 _ _ ewa
        refine iteT ⟨fun σ' H'' => ∃ (G' : Hp) (rs' : List (Wy Str)) (at' : Str), σ' = [some x, some y, some z, some (.ref d), v4, some (.ref db), some (.ref dw), some (.str pl), some (.str at')] ∧ Same G8 G' ∧ Ext G H G' H'' ∧ OwnL StrAt G' H'' db (starts rs') ∧ OwnL StrAt G' H'' dw (names rs') ∧ Walk pl rs' at' ∧ (starts rs').Nodup ∧ (∀ w ∈ rs', w ∈ us) ∧ at' ∈ starts us ∧ rs'.length = rs.length + 1,
          fun σ' H'' ⟨G', rs', a', q1, q2, q3, q4, q5, q6, q7, q8, q9, q10⟩ => ⟨100 - rs'.length, by omega, G', rs', a', q1, q2, q3, q4, q5, q6, q7, q8, q9, rfl⟩, ?_⟩
        have b1 : Ext G H G' (upd H' db (.lst ((starts rs).map V.str ++ [.str at']))) := e'.wr hdbH gb
        have hw1 : (upd H' db (.lst ((starts rs).map V.str ++ [.str at']))) dw = some (.lst ((names rs).map V.str)) := by rw [upd_ne ndw]; exact hw
        have b2 : Ext G H G' (upd (upd H' db (.lst ((starts rs).map V.str ++ [.str at']))) dw (.lst ((names rs).map V.str ++ [.str wa.name]))) := b1.wr hdwH gw
        have hM' := hM.up WayAt.mono (same_sm (x8.g.trans sl'))
        obtain ⟨a1, u1, ea1, g1, r1⟩ := hM'.get b1.gh ewa
        obtain ⟨a2, u2, ea2, g2, r2⟩ := hM'.get b2.gh ewa
        refine ⟨_, rfl, .inl ⟨rfl, _, SqL.of hb⟩, _, rfl, db, _, _, rfl, rfl, hb, line100 (by rw [List.length_map, starts_len]; omega), ?_⟩
        refine ⟨_, rfl, .inl ⟨rfl, _, SqL.of hw1⟩, _, rfl, _, rfl, a1, u1, ea1, g1, _, r1.name T b1.gh, dw, _, _, rfl, rfl, hw1, line100 (by rw [List.length_map, names_len]; omega), ?_⟩
        refine ⟨_, rfl, _, rfl, a2, u2, ea2, g2, _, r2.goal T b2.gh, ?_⟩
        refine ⟨G', rs ++ [wa], wa.goal, rfl, sl', b2, ⟨(starts rs).map V.str ++ [.str at'], gb, by rw [upd_ne (Ne.symm ndw), upd_same], ?_⟩, ⟨(names rs).map V.str ++ [.str wa.name], gw, upd_same, ?_⟩, walk_snoc wk wst, ?_, fun w h => ?_, ev.on _ wus, by simp⟩
        · have : starts (rs ++ [wa]) = starts rs ++ [at'] := by unfold starts; rw [List.map_append, ← wst]; rfl
          rw [this]
          exact paired_append pb (.cons rfl .nil)
        · have : names (rs ++ [wa]) = names rs ++ [wa.name] := by unfold names; rw [List.map_append]; rfl
          rw [this]
          exact paired_append pw (.cons rfl .nil)
        · have : starts (rs ++ [wa]) = starts rs ++ [at'] := by unfold starts; rw [List.map_append, ← wst]; rfl
          rw [this, List.nodup_append]
          exact ⟨nds, by simp, fun x hx y hy => by rw [List.mem_singleton.mp hy]; exact fun ez => hin (ez ▸ hx)⟩
        · rcases List.mem_append.mp h with h | h
          · exact rsub w h
          · rw [List.mem_singleton.mp h]; exact wus
    · rcases iv with ⟨h, _⟩ | ⟨_, v5, v6, v7, v8, rg, c0, rfl, hv, hr', hs', hl'⟩
      · cases h
      · refine ⟨_, rfl, k _ _ _ e ⟨rg, c0, hv, hr', hs', hl', ?_⟩⟩
        have := walk_even hr'.walk (v := v) fun w h => ev.even w (hs' w h)
        have vp := ev.pos c0
        have : (gainW rg - 1) * v c0 = 0 := by grind
        rcases Rat.mul_eq_zero.mp this with h | h
        · grind
        · rw [h] at vp; exact absurd vp Rat.lt_irrefl
end
end GH
end
section
set_option maxRecDepth 100000
/-! Strands. -/
namespace GH
open PySem PySem.Spec PyProof.Rows L2 GM
/-- a list, and an empty one -/
def rE0 (K : PySem.W.Frag) (neg : Bool) : R2 := fun x y H Q => ∃ a b xs, x = .ref a ∧ y = .ref b ∧ SqL K H a xs ∧ H b = some (.lst []) ∧ Q (.bl (if neg then !decide (xs = []) else decide (xs = []))) H
section
variable {X : Cx}
theorem op_eq0 (hu : X.A.units < cLine) : OpR X (compareOp .Eq) (rE0 X.K false) := by
  intro pins s σ H x y v u Q I rx ry h
  obtain ⟨a, b, xs, rfl, rfl, hx, hb, q⟩ := h
  cases rx
  cases ry
  obtain ⟨us, r1, p1, _⟩ := I.list hx
  obtain ⟨ws, r2, p2, _⟩ := I.list (SqL.of hb)
  cases r2
  cases r1 with
  | nil => exact SeqAt.RcAt.lists (e := fun _ => true) p1.isList p2.isList rfl hu (fun j h1 h2 => by simp at h1) _ _ _ _ ⟨.bl true, H, I, rfl, q⟩
  | cons r rr => exact SeqAt.RcAt.lists_lengths p1.isList p2.isList (by simp) hu _ _ _ _ ⟨.bl false, H, I, rfl, q⟩
theorem op_ne0 (hu : X.A.units < cLine) : OpR X (compareOp .NotEq) (rE0 X.K true) := by
  intro pins s σ H x y v u Q I rx ry h
  obtain ⟨a, b, xs, rfl, rfl, hx, hb, q⟩ := h
  cases rx
  cases ry
  obtain ⟨us, r1, p1, _⟩ := I.list hx
  obtain ⟨ws, r2, p2, _⟩ := I.list (SqL.of hb)
  cases r2
  cases r1 with
  | nil => exact SeqAt.RcNeAt.lists (e := fun _ => true) p1.isList p2.isList rfl hu (fun j h1 h2 => by simp at h1) _ _ _ _ ⟨.bl false, H, I, rfl, q⟩
  | cons r rr => exact SeqAt.RcNeAt.lists_lengths p1.isList p2.isList (by simp) hu _ _ _ _ ⟨.bl true, H, I, rfl, q⟩
end
theorem hu0 {A : Around} {k : Nat} (hr : Room k A) : A.units < cLine := by have := hr.units; omega
end GH
end
section
set_option maxRecDepth 100000
/-! Is it a strand? -/
namespace GH
open PySem PySem.Spec PyProof.Rows L2 GM
structure Sd where
  head : List (Wy Str)
  path : List (Wy Str)
  tail : List (Wy Str)
structure Road (s : Sd) (a b : Str) : Prop where
  h : s.head = [] ∨ (Ring a s.head ∧ 1 < gainW s.head)
  w : Walk a s.path b
  nd : (plc s.path).Nodup
  t : s.tail = [] ∨ (Ring b s.tail ∧ gainW s.tail < 1)
  ne : ¬ (s.head = [] ∧ s.path = [] ∧ s.tail = [])
structure Rond (s : Sd) (a : Str) : Prop where
  r : Ring a s.head
  g : gainW s.head = 1
  p : s.path = []
  t : s.tail = []
structure SV (n : Nt) (s : Sd) : Prop where
  sh : ∀ w ∈ s.head, w ∈ n.ws
  sp : ∀ w ∈ s.path, w ∈ n.ws
  st : ∀ w ∈ s.tail, w ∈ n.ws
  lh : s.head.length ≤ 10
  lp : s.path.length ≤ 10
  lt : s.tail.length ≤ 10
  kind : (∃ a, Rond s a) ∨ ∃ a b, Road s a b
theorem wlk_nil (n : Nt) : Wlk n [] := ⟨⟨Str.empty, Str.empty, rfl⟩, (fun w h => nomatch h), Nat.zero_le _⟩
theorem Ring.wlk {n : Nt} {a : Str} {us : List (Wy Str)} (h : Ring a us) (hs : ∀ w ∈ us, w ∈ n.ws) (hl : us.length ≤ 10) : Wlk n us := ⟨⟨a, a, h.walk⟩, hs, by omega⟩
theorem SV.wh {n : Nt} {s : Sd} (h : SV n s) : Wlk n s.head := by
  rcases h.kind with ⟨a, r⟩ | ⟨a, b, r⟩
  · exact ⟨⟨a, a, r.r.walk⟩, h.sh, by have := h.lh; omega⟩
  · rcases r.h with e | ⟨q, _⟩
    · rw [e]; exact wlk_nil n
    · exact ⟨⟨a, a, q.walk⟩, h.sh, by have := h.lh; omega⟩
theorem SV.wp {n : Nt} {s : Sd} (h : SV n s) : Wlk n s.path := by
  rcases h.kind with ⟨a, r⟩ | ⟨a, b, r⟩
  · rw [r.p]; exact wlk_nil n
  · exact ⟨⟨a, b, r.w⟩, h.sp, by have := h.lp; omega⟩
theorem SV.wt {n : Nt} {s : Sd} (h : SV n s) : Wlk n s.tail := by
  rcases h.kind with ⟨a, r⟩ | ⟨a, b, r⟩
  · rw [r.t]; exact wlk_nil n
  · rcases r.t with e | ⟨q, _⟩
    · rw [e]; exact wlk_nil n
    · exact ⟨⟨b, b, q.walk⟩, h.st, by have := h.lt; omega⟩
theorem SV.rh {n : Nt} {s : Sd} (h : SV n s) : s.head = [] ∨ ∃ a, Ring a s.head := by
  rcases h.kind with ⟨a, r⟩ | ⟨a, b, r⟩
  · exact .inr ⟨a, r.r⟩
  · rcases r.h with e | ⟨q, _⟩
    · exact .inl e
    · exact .inr ⟨a, q⟩
theorem SV.rt {n : Nt} {s : Sd} (h : SV n s) : s.tail = [] ∨ ∃ a, Ring a s.tail := by
  rcases h.kind with ⟨a, r⟩ | ⟨a, b, r⟩
  · exact .inl r.t
  · rcases r.t with e | ⟨q, _⟩
    · exact .inl e
    · exact .inr ⟨b, q⟩
theorem SV.hn {n : Nt} {s : Sd} (h : SV n s) : ¬ (s.head = [] ∧ s.path = [] ∧ s.tail = []) := by
  rcases h.kind with ⟨a, r⟩ | ⟨a, b, r⟩
  · exact fun z => r.r.ne z.1
  · exact r.ne
/-- the strand's lists, and its amount -/
def SdAt (c : Cl) : Rl (Sd × Rat) := fun G v s => ∃ a v0 v1 v2 v3, v = .ref a ∧ G a = some (.tup [v0, v1, v2, v3]) ∧ LstAt StrAt G v0 (names s.1.head) ∧ LstAt StrAt G v1 (names s.1.path) ∧ LstAt StrAt G v2 (names s.1.tail) ∧ Fr c G v3 s.2
theorem SdAt.mono {c : Cl} : Mono (SdAt c) := fun {G G' v x} s h => by
  obtain ⟨a, v0, v1, v2, v3, e, h1, h2, h3, h4, h5⟩ := h
  exact ⟨a, v0, v1, v2, v3, e, s.tup h1, h2.up StrAt.mono s, h3.up StrAt.mono s, h4.up StrAt.mono s, Fr.mono s h5⟩
abbrev sIW : Stmt := topS 42
abbrev sRS : Stmt := topS 43
abbrev sJU : Stmt := topS 44
abbrev sRo : Stmt := topS 45
abbrev sIS : Stmt := topS 46
abbrev sSP : Stmt := topS 47
def spIW (c : Cl) : Sp := fun vs H Q _ => ∃ (G : Hp) (x y : V) (n : Nt) (us : List (Wy Str)), vs = [x, y] ∧ Same G H ∧ NetAt c G x n ∧ NtOk n ∧ LstAt StrAt G y (names us) ∧ Wlk n us ∧ ∀ G' H', Ext G H G' H' → Q (.bl true) H'
def spRS (c : Cl) : Sp := fun vs H Q _ => ∃ (G : Hp) (x y : V) (n : Nt) (us : List (Wy Str)) (k : Int), vs = [x, y, .int k] ∧ Same G H ∧ NetAt c G x n ∧ NtW n ∧ LstAt StrAt G y (names us) ∧ Wlk n us ∧ (us = [] ∨ ∃ a, Ring a us) ∧
  ∀ G' H', Ext G H G' H' → Q (.bl (decide (us ≠ [] ∧ sgn (gainW us - 1) = k))) H'
def spJU (c : Cl) : Sp := fun vs H Q _ => ∃ (G : Hp) (x y : V) (n : Nt) (s : Sd) (a b : Str), vs = [x, y] ∧ Same G H ∧ NetAt c G x n ∧ NtOk n ∧ LstAt (LstAt StrAt) G y [names s.head, names s.path, names s.tail] ∧ SV n s ∧ Road s a b ∧ ∀ G' H', Ext G H G' H' → Q (.bl true) H'
def spRo (c : Cl) : Sp := fun vs H Q _ => ∃ (G : Hp) (x v0 v1 v2 : V) (n : Nt) (s : Sd), vs = [x, v0, v1, v2] ∧ Same G H ∧ NetAt c G x n ∧ NtW n ∧ LstAt StrAt G v0 (names s.head) ∧ LstAt StrAt G v1 (names s.path) ∧ LstAt StrAt G v2 (names s.tail) ∧ SV n s ∧ (∃ a b, Road s a b) ∧ ∀ G' H', Ext G H G' H' → Q (.bl true) H'
def spIS (c : Cl) : Sp := fun vs H Q _ => ∃ (G : Hp) (x y : V) (n : Nt) (s : Sd) (q : Rat), vs = [x, y] ∧ Same G H ∧ NetAt c G x n ∧ NtW n ∧ SdAt c G y (s, q) ∧ SV n s ∧ 0 < q ∧ ∀ G' H', Ext G H G' H' → Q (.bl true) H'
theorem one_bd : Bd 1 := (⟨by decide, by decide⟩ : Sm10 1).be.bd
theorem sgn_pos {a : Rat} (h : 0 < a) : sgn a = 1 := if_pos h
theorem sgn_neg {a : Rat} (h : a < 0) : sgn a = -1 := by
  unfold sgn
  have : ¬ 0 < a := by grind
  rw [if_neg this, if_pos h]
section
variable {P : Program} {w : World} {K : PySem.W.Frag} {mg : Str → Option Value} {base : Heap} {c : Cl} {f : Addr} {fd : FuncData}
theorem scIW : FnScope ["net", "walk"] ["net", "walk"] (defScope sIW) := ⟨rfl, rfl, rfl, by decide +kernel, rfl, by decide +kernel, by decide +kernel⟩
theorem ok_iw (F : FnP K "is_walk" "is_walk" sIW f fd) (T : Txt K mg c) (S1 : Fn P w K mg base "places_of" 3 ["net", "walk"] [] (spPO c)) : FnOk P w K mg base CX0 4 f fd ["net", "walk"] (spIW c) := by
  refine F.ok scIW (fun vs H Q E h => ?_) (fun cdv A outer s H vs Q E hr h => ?_)
  · obtain ⟨G, x, y, n, us, rfl, _⟩ := h
    rfl
  · obtain ⟨G, x, y, n, us, rfl, s, hn, nok, hy, wk, k⟩ := h
    refine ⟨_, PSs.nox (pss_cons (ps_try_thru0 (pss_one (ps_expr (pe_fn S1 hr (by rfl) (pa_cons (pv 0) (pa_cons (pv 1) pa_nil)))))) (pss_one (ps_ret pe_bl))), ?_⟩
    exact ⟨_, rfl, _, rfl, G, x, y, n, us, rfl, s, hn, nok, hy, wk, fun v2 G2 H2 e2 h2 => k _ _ e2⟩
theorem scRS : FnScope ["net", "walk", "side"] ["net", "walk", "side"] (defScope sRS) := ⟨rfl, rfl, rfl, by decide +kernel, rfl, by decide +kernel, by decide +kernel⟩
theorem ok_rs (F : FnP K "ring_by_side" "ring_by_side" sRS f fd) (T : Txt K mg c) (M : FrM P w K mg base c) (S1 : Fn P w K mg base "is_ring" 4 ["net", "walk"] [] (spIR c)) (S2 : Fn P w K mg base "gain_of" 7 ["net", "walk"] [] (spGO c)) : FnOk P w K mg base CX0 8 f fd ["net", "walk", "side"] (spRS c) := by
  refine F.ok scRS (fun vs H Q E h => ?_) (fun cdv A outer s H vs Q E hr h => ?_)
  · obtain ⟨G, x, y, n, us, k, rfl, _⟩ := h
    rfl
  · obtain ⟨G, x, y, n, us, k, rfl, s, hn, nw, hy, wk, rg, kk⟩ := h
    refine ⟨_, PSs.nox (pss_one (ps_ret (pe_and (pe_fn S1 (hr.mono (by decide)) (by rfl) (pa_cons (pv 0) (pa_cons (pv 1) pa_nil))) (pe_one (pe_cmpR op_eq (pe_m0 T.clF M.sign (hr.mono (by decide)) (pe_m T.clF M.minus (hr.mono (by decide)) (pe_fn S2 hr (by rfl) (pa_cons (pv 0) (pa_cons (pv 1) pa_nil))) (pa_cons (pe_fr1 M.mkf (hr.mono (by decide)) (by rfl) (pa_cons pe_int pa_nil)) pa_nil))) (pv 2) (nomark _)))))), ?_⟩
    refine ⟨_, rfl, _, rfl, G, x, y, n, us, rfl, s, hn, nw.ok, hy, wk, rg, fun G1 H1 e1 => ⟨_, rfl, ?_⟩⟩
    by_cases ne : us = []
    · have h0 := kk _ _ e1
      rw [decide_eq_false (fun z => z.1 ne)] at h0
      exact iteDF (fun z => z ne) h0
    · refine iteDT ne ⟨_, rfl, _, rfl, G1, x, y, n, us, rfl, e1.gh, hn.up' e1.g, nw, hy.up StrAt.mono (same_sm e1.g), wk, fun v2 G2 H2 e2 h2 => ?_⟩
      refine ⟨h2.ins e2.gh, G2, 1, rfl, e2.gh, fun v3 G3 H3 e3 h3 => ?_⟩
      have h23 := Fr.mono (same_sm e3.g) h2
      refine ⟨G3, v2, v3, _, _, rfl, e3.gh, h23, h3, gainW_bd (wk.wy nw) wk.len, one_bd, trivial, fun v4 G4 H4 e4 h4 => ?_⟩
      refine ⟨h4.ins e4.gh, G4, v4, _, rfl, e4.gh, h4, _, rfl, rfl, ?_⟩
      have h0 := kk _ _ (((e1.trans e2).trans e3).trans e4)
      have : decide (V.int (sgn (gainW us - 1)) = V.int k) = decide (us ≠ [] ∧ sgn (gainW us - 1) = k) := decide_eq_decide.mpr ⟨fun z => ⟨ne, V.int.inj z⟩, fun z => by rw [z.2]⟩
      show Q (.bl (decide (V.int (sgn (gainW us - 1)) = V.int k))) H4
      rw [this]; exact h0
/-- one part of three behind another -/
theorem plc_ends {a b : Str} {us : List (Wy Str)} (h : Walk a us b) (ne : us ≠ []) : (plc us)[0]? = some a ∧ (plc us)[(plc us).length - 1]? = some b ∧ 0 < (plc us).length := by
  rw [walk_plc h ne]
  refine ⟨rfl, ?_, by simp⟩
  rw [← List.getLast?_eq_getElem?]
  exact walk_last h
theorem atI_last {l : List Str} {x : Str} (h : l[l.length - 1]? = some x) : atI (l.map V.str) (-1) = some (.str x) := by
  have hl := (List.getElem?_eq_some_iff.mp h).1
  unfold atI ixN
  rw [if_neg (by decide), if_pos (by rw [List.length_map]; omega)]
  show (l.map V.str)[_]? = _
  rw [List.length_map, show (-1 + (l.length : Int)).toNat = l.length - 1 by omega, List.getElem?_map, h]; rfl
theorem scJU : FnScope ["net", "parts", "last", "part", "places"] ["net", "parts"] (defScope sJU) := ⟨rfl, rfl, rfl, by decide +kernel, rfl, by decide +kernel, by decide +kernel⟩
/-- where the i-th part begins -/
def cutAt (a b : Str) (i : Nat) : Str := if i ≤ 1 then a else b
theorem ok_ju (F : FnP K "joined_up" "joined_up" sJU f fd) (T : Txt K mg c) (S1 : Fn P w K mg base "places_of" 3 ["net", "walk"] [] (spPO c)) : FnOk P w K mg base CX0 4 f fd ["net", "parts"] (spJU c) := by
  refine F.ok scJU (fun vs H Q E h => ?_) (fun cdv A outer s H vs Q E hr h => ?_)
  · obtain ⟨G, x, y, n, sd, a, b, rfl, _⟩ := h
    rfl
  · obtain ⟨G, x, y, n, sd, a, b, rfl, s, hn, nok, hy, sv, rd, k⟩ := h
    refine ⟨_, PSs.nox (pss_cons (ps_set (i := 2) scJU.nd rfl (Or.inl rfl) pe_non)
      (pss_cons (ps_for PassesOwn.never rfl (pi_list (pv 1)) (pg_name (i := 3) scJU.nd rfl (Or.inl rfl))
        (pss_cons (ps_set (i := 4) scJU.nd rfl (Or.inl rfl) (pe_fn S1 hr (by rfl) (pa_cons (pv 0) (pa_cons (pv 3) pa_nil))))
        (pss_one (ps_if (pt_cmpR op_gt (pe_callB call_len_seq (by rfl) T.len PySem.boot_len (pa_cons (pv 4) pa_nil)) pe_int (nomark _))
          (pss_cons (ps_if (pw_and (pt_cmpR op_notN (pv 2) pe_non (nomark _)) (pw_and1 (pt_cmpR op_ne (pe_ix ix_list (pv 4) pe_int (fun _ _ => rfl)) (pv 2) (nomark _)))).pt pss_never pss_nil)
          (pss_one (ps_set (i := 2) scJU.nd rfl (Or.inl rfl) (pe_ix ix_list (pv 4) (pe_un un_neg pe_int) (fun _ _ => rfl))))) pss_nil))))
      (pss_one (ps_ret pe_bl)))), ?_⟩
    refine ⟨_, rfl, ?_⟩
    refine for_lst (R := LstAt StrAt) (LstAt.mono (R := StrAt) StrAt.mono) hy (Same.refl _) (Ext.refl s) (fun i σ G' H' => ∃ v2 v3 v4, σ = [some x, some y, some v2, v3, v4] ∧ (v2 = .non ∨ v2 = .str (cutAt a b i))) ⟨.non, none, none, rfl, .inl rfl⟩ (fun i us' u σ G2 H2 hi hu sl e z => ?_) (fun σ G2 H2 sl e z => ?_)
    · obtain ⟨v2, v3, v4, rfl, hv2⟩ := z
      obtain ⟨us, rfl, wk, hw⟩ : ∃ us, us' = names us ∧ Wlk n us ∧ Walk (cutAt a b i) us (cutAt a b (i + 1)) := by
        match i, hi with
        | 0, hi =>
          have := Option.some.inj hi
          refine ⟨sd.head, this.symm, sv.wh, ?_⟩
          rcases rd.h with e | ⟨r, _⟩
          · rw [e]; rfl
          · exact r.walk
        | 1, hi =>
          have := Option.some.inj hi
          exact ⟨sd.path, this.symm, sv.wp, rd.w⟩
        | 2, hi =>
          have := Option.some.inj hi
          refine ⟨sd.tail, this.symm, sv.wt, ?_⟩
          rcases rd.t with e | ⟨r, _⟩
          · rw [e]; rfl
          · exact r.walk
        | j + 3, hi => simp at hi
      refine ⟨_, rfl, _, rfl, G2, x, u, n, us, rfl, e.gh, hn.up' e.g, nok, hu, wk, fun v5 G3 H3 e3 h3 => ?_⟩
      obtain ⟨a5, vs5, rfl, hv5, hp5⟩ := h3
      have hs5 := strs_eq hp5
      subst hs5
      have hA : SqL K H3 a5 ((plc us).map V.str) := SqL.of (e3.gh _ _ hv5)
      refine ⟨_, rfl, a5, _, rfl, .inl hA, _, _, rfl, rfl, _, rfl, ?_⟩
      by_cases ne : us = []
      · subst ne
        refine iteDF (by simp [plc]) ⟨G3, sl.trans e3.g, e.trans e3, _, _, _, rfl, ?_⟩
        have hw : cutAt a b i = cutAt a b (i + 1) := hw
        rw [← hw]; exact hv2
      · obtain ⟨p1, p2, p3⟩ := plc_ends hw ne
        refine iteDT (by rw [List.length_map]; omega) ?_
        refine ⟨_, rfl, rfl, _, rfl, ?_⟩
        have go : ∀ D : Prop, D → D := fun _ d => d
        have fin : LN G H G (fun i σ G' H' => ∃ v2 v3 v4, σ = [some x, some y, some v2, v3, v4] ∧ (v2 = .non ∨ v2 = .str (cutAt a b i))) (i + 1) [some x, some y, some (.str (cutAt a b (i + 1))), some u, some (.ref a5)] H3 :=
          ⟨G3, sl.trans e3.g, e.trans e3, _, _, _, rfl, .inr rfl⟩
        have a0 := atI_str p1
        have al := atI_last p2
        rcases hv2 with rfl | rfl
        · have : (!decide (V.non = V.non)) = false := by decide
          rw [this]
          exact iteF (iteF ⟨_, rfl, _, rfl, a5, _, -1, _, rfl, rfl, hA, al, fin⟩)
        · have : (!decide (V.str (cutAt a b i) = V.non)) = true := by rw [decide_eq_false (fun z => nomatch z)]; rfl
          rw [this]
          refine iteT ⟨_, rfl, a5, _, 0, _, rfl, rfl, hA, a0, _, rfl, rfl, _, rfl, ?_⟩
          rw [decide_eq_true (rfl : V.str (cutAt a b i) = V.str (cutAt a b i))]
          exact iteF ⟨_, rfl, _, rfl, a5, _, -1, _, rfl, rfl, hA, al, fin⟩
    · exact k _ _ e
end
end GH
end
section
set_option maxRecDepth 100000
/-! Roads, strands. -/
namespace GH
open PySem PySem.Spec PyProof.Rows L2 GM
theorem e0_of {K : PySem.W.Frag} {G H : Hp} {v : V} {us : List (Wy Str)} {neg : Bool} {p : Addr} {Q : VK} (h : LstAt StrAt G v (names us)) (s : Same G H) (np : H p = none) (q : Q (.bl (if neg = true then !decide (us = []) else decide (us = []))) (upd H p (.lst []))) : rE0 K neg v (.ref p) (upd H p (.lst [])) Q := by
  obtain ⟨a, vs, rfl, hv, hp⟩ := h
  refine ⟨a, p, vs, rfl, rfl, SqL.of (same_new np _ _ (s _ _ hv)), upd_same, ?_⟩
  have : decide (vs = []) = decide (us = []) := decide_eq_decide.mpr (by
    have hl := paired_len hp
    rw [names_len] at hl
    constructor
    · intro z; rw [z] at hl; exact List.length_eq_zero_iff.mp hl.symm
    · intro z; rw [z] at hl; exact List.length_eq_zero_iff.mp hl)
  rw [this]; exact q
section
variable {P : Program} {w : World} {K : PySem.W.Frag} {mg : Str → Option Value} {base : Heap} {c : Cl} {f : Addr} {fd : FuncData}
theorem scRo : FnScope ["net", "head", "path", "tail"] ["net", "head", "path", "tail"] (defScope sRo) := ⟨rfl, rfl, rfl, by decide +kernel, rfl, by decide +kernel, by decide +kernel⟩
theorem ok_ro (F : FnP K "is_road" "is_road" sRo f fd) (T : Txt K mg c) (S1 : Fn P w K mg base "ring_by_side" 8 ["net", "walk", "side"] [] (spRS c)) (S2 : Fn P w K mg base "is_path" 4 ["net", "walk"] [] (spIP c)) (S3 : Fn P w K mg base "joined_up" 4 ["net", "parts"] [] (spJU c)) :
    FnOk P w K mg base CX0 9 f fd ["net", "head", "path", "tail"] (spRo c) := by
  refine F.ok scRo (fun vs H Q E h => ?_) (fun cdv A outer s H vs Q E hr h => ?_)
  · obtain ⟨G, x, v0, v1, v2, n, sd, rfl, _⟩ := h
    rfl
  · obtain ⟨G, x, v0, v1, v2, n, sd, rfl, s, hn, nw, hh, hp, ht, sv, ⟨a, b, rd⟩, k⟩ := h
    refine ⟨_, PSs.nox (C8.pss_cut (ps_if (pw_and (pt_cmpR (op_eq0 (hu0 hr)) (pv 1) (pe_lst pa_nil) (nomark _)) (pw_and (pt_cmpR (op_eq0 (hu0 hr)) (pv 2) (pe_lst pa_nil) (nomark _)) (pw_and1 (pt_cmpR (op_eq0 (hu0 hr)) (pv 3) (pe_lst pa_nil) (nomark _))))).pt pss_never pss_nil)
      (C8.pss_cut (ps_if (pw_and (pt_cmpR (op_ne0 (hu0 hr)) (pv 1) (pe_lst pa_nil) (nomark _)) (pw_and1 (pt_not (pt_val (pe_fn S1 hr (by rfl) (pa_cons (pv 0) (pa_cons (pv 1) (pa_cons pe_int pa_nil)))))))).pt pss_never pss_nil)
      (C8.pss_cut (ps_if (pw_and (pt_cmpR (op_ne0 (hu0 hr)) (pv 3) (pe_lst pa_nil) (nomark _)) (pw_and1 (pt_not (pt_val (pe_fn S1 hr (by rfl) (pa_cons (pv 0) (pa_cons (pv 3) (pa_cons (pe_un un_neg pe_int) pa_nil)))))))).pt pss_never pss_nil)
      (pss_one (ps_ret (pe_and (pe_fn S2 (hr.mono (by decide)) (by rfl) (pa_cons (pv 0) (pa_cons (pv 2) pa_nil))) (pe_one (pe_fn S3 (hr.mono (by decide)) (by rfl) (pa_cons (pv 0) (pa_cons (pe_lst (pa_cons (pv 1) (pa_cons (pv 2) (pa_cons (pv 3) pa_nil)))) pa_nil)))))))))), ?_⟩
    have M : ∃ M : L2.St → Hp → Prop, M = fun σ' H' => σ' = L2.start ["net", "head", "path", "tail"] [x, v0, v1, v2] ∧ ∃ G', Ext G H G' H' := ⟨_, rfl⟩
    obtain ⟨M, eM⟩ := M
    refine ⟨M, ?_, fun σ' H' m => ⟨M, ?_, fun σ' H' m => ⟨M, ?_, fun σ' H' m => ?_⟩⟩⟩
    · rw [eM]
      refine ⟨_, rfl, Nat.zero_le _, fun p1 n1 => e0_of hh s n1 ⟨_, rfl, ?_⟩⟩
      have e1 := Ext.imm (p := p1) (o := .lst []) s n1
      rw [if_neg Bool.false_ne_true]
      by_cases h0 : sd.head = []
      · refine iteDT h0 ⟨_, rfl, Nat.zero_le _, fun p2 n2 => e0_of (hp.up StrAt.mono (same_sm e1.g)) e1.gh n2 ⟨_, rfl, ?_⟩⟩
        have e2 := e1.trans (Ext.imm (p := p2) (o := .lst []) e1.gh n2)
        rw [if_neg Bool.false_ne_true]
        by_cases h1 : sd.path = []
        · refine iteDT h1 ⟨_, rfl, Nat.zero_le _, fun p3 n3 => e0_of (ht.up StrAt.mono (same_sm e2.g)) e2.gh n3 ⟨_, rfl, ?_⟩⟩
          have e3 := e2.trans (Ext.imm (p := p3) (o := .lst []) e2.gh n3)
          rw [if_neg Bool.false_ne_true, decide_eq_false (fun z => rd.ne ⟨h0, h1, z⟩)]
          exact iteF ⟨rfl, _, e3⟩
        · exact iteDF h1 (iteF ⟨rfl, _, e2⟩)
      · exact iteDF h0 (iteF ⟨rfl, _, e1⟩)
    · rw [eM] at m
      obtain ⟨rfl, G', e⟩ := m
      rw [eM]
      refine ⟨_, rfl, Nat.zero_le _, fun p1 n1 => e0_of (hh.up StrAt.mono (same_sm e.g)) e.gh n1 ⟨_, rfl, ?_⟩⟩
      have e1 := e.trans (Ext.imm (p := p1) (o := .lst []) e.gh n1)
      rw [if_pos rfl]
      by_cases h0 : sd.head = []
      · rw [decide_eq_true h0]
        exact iteF (iteF ⟨rfl, _, e1⟩)
      · rw [decide_eq_false h0]
        have rr : sd.head ≠ [] ∧ sgn (gainW sd.head - 1) = 1 := by
          refine ⟨h0, ?_⟩
          rcases rd.h with z | ⟨_, z⟩
          · exact absurd z h0
          · exact sgn_pos (by grind)
        refine iteT ⟨_, rfl, _, rfl, _, x, v0, n, sd.head, 1, rfl, e1.gh, hn.up' e1.g, nw, hh.up StrAt.mono (same_sm e1.g), sv.wh, sv.rh, fun G2 H2 e2 => ⟨_, rfl, ?_⟩⟩
        rw [decide_eq_true rr]
        exact iteF ⟨rfl, _, e1.trans e2⟩
    · rw [eM] at m
      obtain ⟨rfl, G', e⟩ := m
      rw [eM]
      refine ⟨_, rfl, Nat.zero_le _, fun p1 n1 => e0_of (ht.up StrAt.mono (same_sm e.g)) e.gh n1 ⟨_, rfl, ?_⟩⟩
      have e1 := e.trans (Ext.imm (p := p1) (o := .lst []) e.gh n1)
      rw [if_pos rfl]
      by_cases h0 : sd.tail = []
      · rw [decide_eq_true h0]
        exact iteF (iteF ⟨rfl, _, e1⟩)
      · rw [decide_eq_false h0]
        have rr : sd.tail ≠ [] ∧ sgn (gainW sd.tail - 1) = -1 := by
          refine ⟨h0, ?_⟩
          rcases rd.t with z | ⟨_, z⟩
          · exact absurd z h0
          · exact sgn_neg (by grind)
        refine iteT ⟨_, rfl, _, rfl, _, rfl, _, x, v2, n, sd.tail, -1, rfl, e1.gh, hn.up' e1.g, nw, ht.up StrAt.mono (same_sm e1.g), sv.wt, sv.rt, fun G2 H2 e2 => ⟨_, rfl, ?_⟩⟩
        rw [decide_eq_true rr]
        exact iteF ⟨rfl, _, e1.trans e2⟩
    · rw [eM] at m
      obtain ⟨rfl, G', e⟩ := m
      refine ⟨_, rfl, _, rfl, G', x, v1, n, sd.path, rfl, e.gh, hn.up' e.g, nw.ok, hp.up StrAt.mono (same_sm e.g), sv.wp, rd.nd, fun G1 H1 e1 => ⟨_, rfl, iteT ?_⟩⟩
      have ee := e.trans e1
      refine ⟨_, rfl, _, rfl, _, rfl, _, rfl, by show 3 ≤ sizeLine; decide, fun p np => ?_⟩
      have e2 := ee.trans (Ext.imm (p := p) (o := .lst [v0, v1, v2]) ee.gh np)
      exact ⟨_, x, .ref p, n, sd, a, b, rfl, e2.gh, hn.up' e2.g, nw.ok, ⟨p, _, rfl, upd_same, .cons (hh.up StrAt.mono (same_sm e2.g)) (.cons (hp.up StrAt.mono (same_sm e2.g)) (.cons (ht.up StrAt.mono (same_sm e2.g)) .nil))⟩, sv, rd, fun G3 H3 e3 => k _ _ (e2.trans e3)⟩
end
end GH
end
section
set_option maxRecDepth 100000
/-! Strands: is_strand. -/
namespace GH
open PySem PySem.Spec PyProof.Rows L2 GM
section
variable {P : Program} {w : World} {K : PySem.W.Frag} {mg : Str → Option Value} {base : Heap} {c : Cl} {f : Addr} {fd : FuncData}
theorem scIS : FnScope ["net", "strand", "k"] ["net", "strand"] (defScope sIS) := ⟨rfl, rfl, rfl, by decide +kernel, rfl, by decide +kernel, by decide +kernel⟩
theorem ok_is (F : FnP K "is_strand" "is_strand" sIS f fd) (T : Txt K mg c) (M : FrM P w K mg base c) (S1 : Fn P w K mg base "is_walk" 4 ["net", "walk"] [] (spIW c)) (S2 : Fn P w K mg base "ring_by_side" 8 ["net", "walk", "side"] [] (spRS c)) (S3 : Fn P w K mg base "is_road" 9 ["net", "head", "path", "tail"] [] (spRo c)) :
    FnOk P w K mg base CX0 10 f fd ["net", "strand"] (spIS c) := by
  refine F.ok scIS (fun vs H Q E h => ?_) (fun cdv A outer s H vs Q E hr h => ?_)
  · obtain ⟨G, x, y, n, sd, q, rfl, _⟩ := h
    rfl
  · obtain ⟨G, x, y, n, sd, q, rfl, s, hn, nw, hs, sv, qp, k⟩ := h
    refine ⟨_, PSs.nox (pss_cons (ps_if (pt_cmpR op_le (pe_m0 T.clF M.sign (hr.mono (by decide)) (pe_ix ix_tup (pv 1) pe_int (fun _ _ => rfl))) pe_int (nomark _)) (pss_one (ps_ret pe_bl)) pss_nil)
      (pss_cons (ps_for PassesOwn.never rfl (pi_range1 (by rfl) T.range (pa_cons pe_int pa_nil)) (pg_name (i := 2) scIS.nd rfl (Or.inl rfl))
        (pss_one (ps_if (pt_not (pt_val (pe_fn S1 (hr.mono (by decide)) (by rfl) (pa_cons (pv 0) (pa_cons (pe_ix ix_tup (pv 1) (pv 2) (fun _ _ => rfl)) pa_nil))))) (pss_one (ps_ret pe_bl)) pss_nil)))
      (C8.pss_cut (ps_if (pw_and (pt_cmpR (op_eq0 (hu0 hr)) (pe_ix ix_tup (pv 1) pe_int (fun _ _ => rfl)) (pe_lst pa_nil) (nomark _)) (pw_and (pt_cmpR (op_eq0 (hu0 hr)) (pe_ix ix_tup (pv 1) pe_int (fun _ _ => rfl)) (pe_lst pa_nil) (nomark _)) (pw_and1 (pt_val (pe_fn S2 (hr.mono (by decide)) (by rfl) (pa_cons (pv 0) (pa_cons (pe_ix ix_tup (pv 1) pe_int (fun _ _ => rfl)) (pa_cons pe_int pa_nil)))))))).pt (pss_one (ps_ret pe_bl)) pss_nil)
      (pss_one (ps_ret (pe_fn S3 hr (by rfl) (pa_cons (pv 0) (pa_cons (pe_ix ix_tup (pv 1) pe_int (fun _ _ => rfl)) (pa_cons (pe_ix ix_tup (pv 1) pe_int (fun _ _ => rfl)) (pa_cons (pe_ix ix_tup (pv 1) pe_int (fun _ _ => rfl)) pa_nil)))))))))), ?_⟩
    obtain ⟨t, v0, v1, v2, v3, rfl, ht, h0, h1, h2, h3⟩ := hs
    have hT : ∀ {G' H'}, Ext G H G' H' → SqT K H' t [v0, v1, v2, v3] := fun e => SqT.of (e.gh _ _ (e.g _ _ ht))
    have r0 := Ext.refl s
    refine ⟨_, rfl, t, _, 3, _, rfl, rfl, hT r0, rfl, h3.ins s, G, v3, q, rfl, s, h3, _, _, rfl, rfl, _, rfl, ?_⟩
    rw [sgn_pos qp]
    refine iteDF (by decide) ?_
    refine ⟨3, rfl, by decide, by decide, ?_⟩
    show ∃ W : Nat → Nat → L2.St → Hp → Prop, _
    refine for_rng (n := 3) (Same.refl G) r0 (fun i σ G' H' => ∃ v, σ = [some x, some (.ref t), v]) ⟨none, rfl⟩ (fun i σ G' H' hi sl e z => ?_) (fun σ G' H' sl e z => ?_)
    · obtain ⟨v, rfl⟩ := z
      have go : ∀ (us : List (Wy Str)) (u : V), LstAt StrAt G u (names us) → Wlk n us → atI [v0, v1, v2, v3] (0 + (i : Int)) = some u → ∃ u', atI [v0, v1, v2, v3] (0 + (i : Int)) = some u' ∧ ∃ us', LstAt StrAt G u' (names us') ∧ Wlk n us' := fun us u a b c => ⟨u, c, us, a, b⟩
      obtain ⟨u, eu, us, hu, wk⟩ : ∃ u', atI [v0, v1, v2, v3] (0 + (i : Int)) = some u' ∧ ∃ us', LstAt StrAt G u' (names us') ∧ Wlk n us' := by
        match i, hi with
        | 0, _ => exact go _ _ h0 sv.wh rfl
        | 1, _ => exact go _ _ h1 sv.wp rfl
        | 2, _ => exact go _ _ h2 sv.wt rfl
      refine ⟨_, rfl, _, rfl, _, rfl, t, _, _, u, rfl, rfl, hT e, eu, G', x, u, n, us, rfl, e.gh, hn.up' e.g, nw.ok, hu.up StrAt.mono (same_sm e.g), wk, fun G2 H2 e2 => ⟨_, rfl, ?_⟩⟩
      exact iteF ⟨G2, sl.trans e2.g, e.trans e2, _, rfl⟩
    · obtain ⟨v, rfl⟩ := z
      have M : ∃ M : L2.St → Hp → Prop, M = fun σ' H' => σ' = [some x, some (.ref t), v] ∧ (∃ a b, Road sd a b) ∧ ∃ G', Ext G H G' H' := ⟨_, rfl⟩
      obtain ⟨M, eM⟩ := M
      refine ⟨M, ?_, fun σ' H' m => ?_⟩
      · refine ⟨_, rfl, t, _, 1, _, rfl, rfl, hT e, rfl, Nat.zero_le _, fun p1 n1 => e0_of (h1.up StrAt.mono (same_sm e.g)) e.gh n1 ⟨_, rfl, ?_⟩⟩
        have e1 := e.trans (Ext.imm (p := p1) (o := .lst []) e.gh n1)
        rw [if_neg Bool.false_ne_true, eM]
        by_cases z1 : sd.path = []
        · refine iteDT z1 ⟨_, rfl, t, _, 2, _, rfl, rfl, hT e1, rfl, Nat.zero_le _, fun p2 n2 => e0_of (h2.up StrAt.mono (same_sm e1.g)) e1.gh n2 ⟨_, rfl, ?_⟩⟩
          have e2 := e1.trans (Ext.imm (p := p2) (o := .lst []) e1.gh n2)
          rw [if_neg Bool.false_ne_true]
          by_cases z2 : sd.tail = []
          · refine iteDT z2 ⟨_, rfl, _, rfl, t, _, 0, _, rfl, rfl, hT e2, rfl, _, x, v0, n, sd.head, 0, rfl, e2.gh, hn.up' e2.g, nw, h0.up StrAt.mono (same_sm e2.g), sv.wh, sv.rh, fun G3 H3 e3 => ⟨_, rfl, ?_⟩⟩
            rcases sv.kind with ⟨a, r⟩ | ⟨a, b, r⟩
            · have : sd.head ≠ [] ∧ sgn (gainW sd.head - 1) = 0 := ⟨r.r.ne, by rw [r.g]; exact sgn_zero.mpr (by grind)⟩
              exact iteDT this (k _ _ (e2.trans e3))
            · have : ¬ (sd.head ≠ [] ∧ sgn (gainW sd.head - 1) = 0) := fun z => by
                rcases r.h with q | ⟨_, q⟩
                · exact z.1 q
                · rw [sgn_pos (by grind)] at z
                  exact absurd z.2 (by decide)
              exact iteDF this ⟨rfl, ⟨a, b, r⟩, _, e2.trans e3⟩
          · refine iteDF z2 (iteF ⟨rfl, ?_, _, e2⟩)
            rcases sv.kind with ⟨a, r⟩ | r
            · exact absurd r.t z2
            · exact r
        · refine iteDF z1 (iteF ⟨rfl, ?_, _, e1⟩)
          rcases sv.kind with ⟨a, r⟩ | r
          · exact absurd r.p z1
          · exact r
      · rw [eM] at m
        obtain ⟨rfl, rd, G', e'⟩ := m
        exact ⟨_, rfl, _, rfl, t, _, 0, _, rfl, rfl, hT e', rfl, _, rfl, t, _, 1, _, rfl, rfl, hT e', rfl, _, rfl, t, _, 2, _, rfl, rfl, hT e', rfl, G', x, v0, v1, v2, n, sd, rfl, e'.gh, hn.up' e'.g, nw, h0.up StrAt.mono (same_sm e'.g), h1.up StrAt.mono (same_sm e'.g), h2.up StrAt.mono (same_sm e'.g), sv, rd, fun G2 H2 e2 => k _ _ (e'.trans e2)⟩
end
end GH
end
section
set_option maxRecDepth 100000
/-! A strand's plan. -/
namespace GH
open PySem PySem.Spec PyProof.Rows L2 GM
def strandF (s : Sd) (x : Rat) : Str → Rat := if s.head ≠ [] ∧ gainW s.head = 1 then sentF s.head x else
  fun m => (sentF s.head (x / (gainW s.head - 1)) m + sentF s.path x m) + sentF s.tail (x * gainW s.path / (1 - gainW s.tail)) m
theorem Ab.one {V : Nat} (h : 1 ≤ V) : Ab V (1 : Rat) := Ab.of_nonneg (by decide) (Rat.natCast_le_natCast (a := 1) (b := V) |>.mpr h)
theorem gainW_ab {us : List (Wy Str)} (h : ∀ w ∈ us, WyOk w) : Ab (2 ^ (10 * us.length)) (gainW us) := by
  induction us with
  | nil => exact Ab.one (by decide)
  | cons w r ih =>
    have i := ih fun v hv => h v (List.mem_cons_of_mem _ hv)
    have e : (2 : Nat) ^ (10 * (w :: r).length) = 2 ^ 10 * 2 ^ (10 * r.length) := by rw [← Nat.pow_add, List.length_cons]; congr 1; omega
    rw [e]
    exact (h w List.mem_cons_self).gain.ab.mul i
/-- a gain less one, or one less a gain -/
structure Gm (y : Rat) : Prop where
  den : y.den ≤ 2 ^ 100
  num : y.num.natAbs ≤ 2 ^ 201
theorem gm_of {us : List (Wy Str)} (h : ∀ w ∈ us, WyOk w) (l : us.length ≤ 10) : Gm (gainW us - 1) ∧ Gm (1 - gainW us) := by
  obtain ⟨h1, _⟩ := gainW_sz h
  have dp : 0 < (gainW us).den := Nat.pos_of_ne_zero (gainW us).den_nz
  have p100 : (2 : Nat) ^ (10 * us.length) ≤ 2 ^ 100 := Nat.pow_le_pow_right (by decide) (by omega)
  have hd : (gainW us).den ≤ 2 ^ 100 := Nat.le_trans h1 p100
  have hab : Ab (2 ^ 100) (gainW us) := (gainW_ab h).mono p100
  have pw : (2 ^ 100 + 1) * 2 ^ 100 ≤ 2 ^ 201 := by decide
  have go : ∀ y : Rat, Dv (gainW us).den y → Ab (2 ^ 100 + 1) y → Gm y := fun y d a => by
    have hd' := Nat.le_trans (d.den_le dp) hd
    exact ⟨hd', Nat.le_trans (a.num hd') pw⟩
  refine ⟨go _ ((dv_den _).sub Dv.one) (hab.sub (Ab.one (Nat.le_refl 1))), go _ (Dv.one.sub (dv_den _)) ?_⟩
  rw [Nat.add_comm]
  exact (Ab.one (Nat.le_refl 1)).sub hab
theorem Gm.bd {y : Rat} (h : Gm y) : Bd y := ⟨Nat.lt_of_le_of_lt h.den (Nat.pow_lt_pow_right (by decide) (by decide)), Nat.lt_of_le_of_lt h.num (Nat.pow_lt_pow_right (by decide) (by decide))⟩
theorem Gm.bs {y : Rat} (h : Gm y) (nz : y ≠ 0) : Bs y := ⟨nz, Nat.lt_of_le_of_lt h.num (Nat.pow_lt_pow_right (by decide) (by decide))⟩
theorem inv_sz {y : Rat} (h : 0 < y) : Dv y.num.natAbs y⁻¹ ∧ Ab y.den y⁻¹ := by
  have e := num_eq y
  have np : 0 < y.num := r_pos.mpr h
  have en : ((y.num.natAbs : Nat) : Rat) = ((y.num : Int) : Rat) := by
    have : ((y.num.natAbs : Nat) : Int) = y.num := by omega
    show (((y.num.natAbs : Nat) : Int) : Rat) = _
    rw [this]
  have ym : y⁻¹ * y = 1 := Rat.inv_mul_cancel _ (rpos_ne h)
  have e2 : y⁻¹ * ((y.num.natAbs : Nat) : Rat) = ((y.den : Nat) : Rat) := by
    rw [en, ← e, ← Rat.mul_assoc, ym, Rat.one_mul]
  have yp := inv_pos' h
  refine ⟨⟨y.den, e2⟩, Ab.of_nonneg (Rat.le_of_lt yp) ?_⟩
  rw [← e2]
  have : (1 : Rat) ≤ ((y.num.natAbs : Nat) : Rat) := Rat.natCast_le_natCast (a := 1) (b := y.num.natAbs) |>.mpr (by omega)
  have := Rat.mul_le_mul_of_nonneg_left this (Rat.le_of_lt yp)
  rw [Rat.mul_one] at this
  exact this
theorem div_sz {D V : Nat} {x y : Rat} (h : Dv D x) (a : Ab V x) (hy : 0 < y) : Dv (D * y.num.natAbs) (x / y) ∧ Ab (V * y.den) (x / y) := by
  obtain ⟨h1, h2⟩ := inv_sz hy
  rw [Rat.div_def]
  exact ⟨h.mul h1, a.mul h2⟩
theorem bd_add2 {D1 D2 V1 V2 : Nat} {x y : Rat} (h1 : Dv D1 x) (h2 : Dv D2 y) (a1 : Ab V1 x) (a2 : Ab V2 y) (p1 : 0 < D1) (p2 : 0 < D2) (hd : D1 * D2 ≤ 2 ^ 4460) (hv : V1 ≤ 2 ^ 80000) (hv2 : V2 ≤ 2 ^ 80000) : Bd (x + y) := by
  refine bd_of (a := 4460) (b := 80001) (h1.mono.add h2.mono') (a1.add a2) (Nat.mul_pos p1 p2) hd ?_
  have : (2 : Nat) ^ 80001 = 2 ^ 80000 + 2 ^ 80000 := by rw [Nat.pow_succ, Nat.mul_two]
  rw [this]
  exact Nat.add_le_add hv hv2
end GH
end
section
set_option maxRecDepth 100000
/-! strand_plan. -/
namespace GH
open PySem PySem.Spec PyProof.Rows L2 GM
theorem gd100 {us : List (Wy Str)} (h : ∀ w ∈ us, WyOk w) (l : us.length ≤ 10) : gd us ≤ 2 ^ 100 := Nat.le_trans (gd_le h) (Nat.pow_le_pow_right (by decide) (by omega))
/-- sizes a strand's amount may have -/
structure SX (D V : Nat) (x : Rat) : Prop where
  pos : 0 < D
  d : D ≤ 2 ^ 4000
  v : V ≤ 2 ^ 60000
  dv : Dv D x
  ab : Ab V x
theorem pw_mul {a b c : Nat} {x y : Nat} (h : x ≤ 2 ^ a) (k : y ≤ 2 ^ b) (e : a + b ≤ c) : x * y ≤ 2 ^ c := by
  refine Nat.le_trans (Nat.mul_le_mul h k) ?_
  rw [← Nat.pow_add]
  exact Nat.pow_le_pow_right (by decide) e
theorem pw_le {a b x : Nat} (h : x ≤ 2 ^ a) (e : a ≤ b) : x ≤ 2 ^ b := Nat.le_trans h (Nat.pow_le_pow_right (by decide) e)
section
variable {us ps : List (Wy Str)} {D V : Nat} {x : Rat}
theorem SX.path (z : SX D V x) (h : ∀ w ∈ ps, WyOk w) (l : ps.length ≤ 10) : SZ ps D V x := ⟨z.pos, pw_mul z.d (gd100 h l) (by decide), pw_le z.v (by decide), z.dv, z.ab, by omega⟩
theorem SX.head (z : SX D V x) (h : ∀ w ∈ us, WyOk w) (l : us.length ≤ 10) (g : 0 < gainW us - 1) : SZ us (D * (gainW us - 1).num.natAbs) (V * (gainW us - 1).den) (x / (gainW us - 1)) := by
  have gm := (gm_of h l).1
  obtain ⟨h1, h2⟩ := div_sz z.dv z.ab g
  have np : 0 < (gainW us - 1).num := r_pos.mpr g
  exact ⟨Nat.mul_pos z.pos (by omega), pw_mul (pw_mul z.d gm.num (Nat.le_refl _)) (gd100 h l) (by decide), pw_mul z.v gm.den (by decide), h1, h2, by omega⟩
theorem SX.out (z : SX D V x) (hp : ∀ w ∈ ps, WyOk w) (lp : ps.length ≤ 10) : Dv (D * gd ps) (x * gainW ps) ∧ Ab (V * 2 ^ 100) (x * gainW ps) := by
  obtain ⟨_, h1, h2⟩ := sent_sz hp z.dv z.ab
  exact ⟨h1, h2.mono (Nat.mul_le_mul_left V (Nat.pow_le_pow_right (by decide) (by omega)))⟩
theorem SX.tail (z : SX D V x) (hp : ∀ w ∈ ps, WyOk w) (lp : ps.length ≤ 10) (h : ∀ w ∈ us, WyOk w) (l : us.length ≤ 10) (g : 0 < 1 - gainW us) : SZ us (D * gd ps * (1 - gainW us).num.natAbs) (V * 2 ^ 100 * (1 - gainW us).den) (x * gainW ps / (1 - gainW us)) := by
  have gm := (gm_of h l).2
  obtain ⟨o1, o2⟩ := z.out hp lp
  obtain ⟨h1, h2⟩ := div_sz o1 o2 g
  have np : 0 < (1 - gainW us).num := r_pos.mpr g
  exact ⟨Nat.mul_pos (Nat.mul_pos z.pos (gd_pos ps)) (by omega), pw_mul (pw_mul (pw_mul z.d (gd100 hp lp) (Nat.le_refl _)) gm.num (Nat.le_refl _)) (gd100 h l) (by decide), pw_mul (pw_mul z.v (Nat.le_refl _) (Nat.le_refl _)) gm.den (by decide), h1, h2, by omega⟩
/-- each amount sent -/
theorem SZ.amt (z : SZ us D V x) (h : ∀ w ∈ us, WyOk w) (m : Str) : Dv (D * gd us) (sentF us x m) ∧ Ab (20 * (V * 2 ^ 200)) (sentF us x m) := by
  obtain ⟨h1, _⟩ := sent_sz h z.dv z.ab
  exact ⟨(h1 m).1, (h1 m).2.mono (Nat.mul_le_mul z.len (Nat.mul_le_mul_left V (Nat.pow_le_pow_right (by decide) (by have := z.len; omega))))⟩
end
/-- head and path -/
theorem SX.two {hs ps : List (Wy Str)} {D V : Nat} {x : Rat} (z : SX D V x) (hh : ∀ w ∈ hs, WyOk w) (hp : ∀ w ∈ ps, WyOk w) (lh : hs.length ≤ 10) (lp : ps.length ≤ 10) (g : 0 < gainW hs - 1) (m : Str) :
    Dv (D * (gainW hs - 1).num.natAbs * gd hs * gd ps) (sentF hs (x / (gainW hs - 1)) m + sentF ps x m) ∧ Ab (2 ^ 61000) (sentF hs (x / (gainW hs - 1)) m + sentF ps x m) := by
  have zh := z.head hh lh g
  obtain ⟨a1, a2⟩ := zh.amt hh m
  obtain ⟨b1, b2⟩ := (z.path hp lp).amt hp m
  refine ⟨a1.mono.add (b1.of_dvd ?_), (a2.add b2).mono ?_⟩
  · exact ⟨(gainW hs - 1).num.natAbs * gd hs, by ac_rfl⟩
  · have gm := (gm_of hh lh).1
    have e : (2 : Nat) ^ 61000 = 2 ^ 60999 + 2 ^ 60999 := by rw [show 61000 = 60999 + 1 from rfl, Nat.pow_succ, Nat.mul_two]
    rw [e]
    exact Nat.add_le_add (pw_mul (a := 5) (by decide) (pw_mul (pw_mul z.v gm.den (Nat.le_refl _)) (Nat.le_refl _) (Nat.le_refl _)) (by decide)) (pw_mul (a := 5) (by decide) (pw_mul z.v (Nat.le_refl _) (Nat.le_refl _)) (by decide))
def spSP (c : Cl) : Sp := fun vs H Q _ => ∃ (G : Hp) (x y : V) (n : Nt) (s : Sd) (q : Rat) (D Vb : Nat), vs = [x, y] ∧ Same G H ∧ NetAt c G x n ∧ NtW n ∧ SdAt c G y (s, q) ∧ SV n s ∧ 0 < q ∧ SX D Vb q ∧
  Ret G H Q (fun v G' => ∃ l, DctE (Fr c) G' v l ∧ PlF l (strandF s q))
section
variable {P : Program} {w : World} {K : PySem.W.Frag} {mg : Str → Option Value} {base : Heap} {c : Cl} {f : Addr} {fd : FuncData}
theorem scSP : FnScope ["net", "strand", "one", "head", "put", "plan", "more", "less", "out"] ["net", "strand"] (defScope sSP) := ⟨rfl, rfl, rfl, by decide +kernel, rfl, by decide +kernel, by decide +kernel⟩
theorem ok_sp (F : FnP K "strand_plan" "strand_plan" sSP f fd) (T : Txt K mg c) (M : FrM P w K mg base c) (S1 : Fn P w K mg base "is_strand" 10 ["net", "strand"] [] (spIS c)) (S2 : Fn P w K mg base "ring_by_side" 8 ["net", "walk", "side"] [] (spRS c)) (S3 : Fn P w K mg base "sent" 7 ["net", "walk", "amount"] [] (spSent c))
    (S4 : Fn P w K mg base "gain_of" 7 ["net", "walk"] [] (spGO c)) (S5 : Fn P w K mg base "together" 6 ["one", "other"] [] (spTog c)) :
    FnOk P w K mg base CX0 11 f fd ["net", "strand"] (spSP c) := by
  refine F.ok scSP (fun vs H Q E h => ?_) (fun cdv A outer s H vs Q E hr h => ?_)
  · obtain ⟨G, x, y, n, sd, q, D, Vb, rfl, _⟩ := h
    rfl
  · obtain ⟨G, x, y, n, sd, q, D, Vb, rfl, s, hn, nw, hs, sv, qp, sx, k⟩ := h
    refine ⟨_, PSs.nox (pss_cons (ps_if (pt_not (pt_val (pe_fn S1 hr (by rfl) (pa_cons (pv 0) (pa_cons (pv 1) pa_nil))))) pss_never pss_nil)
      (pss_cons (ps_set (i := 2) scSP.nd rfl (Or.inl rfl) (pe_fr1 M.mkf (hr.mono (by decide)) (by rfl) (pa_cons pe_int pa_nil)))
      (pss_cons (ps_set (i := 3) scSP.nd rfl (Or.inl rfl) (pe_ix ix_tup (pv 1) pe_int (fun _ _ => rfl)))
      (pss_cons (ps_set (i := 4) scSP.nd rfl (Or.inl rfl) (pe_ix ix_tup (pv 1) pe_int (fun _ _ => rfl)))
      (pss_cons (ps_if (pt_val (pe_fn S2 (hr.mono (by decide)) (by rfl) (pa_cons (pv 0) (pa_cons (pv 3) (pa_cons pe_int pa_nil))))) (pss_one (ps_ret (pe_fn S3 (hr.mono (by decide)) (by rfl) (pa_cons (pv 0) (pa_cons (pv 3) (pa_cons (pv 4) pa_nil)))))) pss_nil)
      (pss_cons (ps_set (i := 5) scSP.nd rfl (Or.inl rfl) (pe_fn S3 (hr.mono (by decide)) (by rfl) (pa_cons (pv 0) (pa_cons (pe_ix ix_tup (pv 1) pe_int (fun _ _ => rfl)) (pa_cons (pv 4) pa_nil)))))
      (C8.pss_cut (ps_if (pt_cmpR (op_ne0 (hu0 hr)) (pv 3) (pe_lst pa_nil) (nomark _))
        (pss_cons (ps_set (i := 6) scSP.nd rfl (Or.inl rfl) (pe_m T.clF M.minus (hr.mono (by decide)) (pe_fn S4 (hr.mono (by decide)) (by rfl) (pa_cons (pv 0) (pa_cons (pv 3) pa_nil))) (pa_cons (pv 2) pa_nil)))
        (pss_one (ps_set (i := 5) scSP.nd rfl (Or.inl rfl) (pe_fn S5 (hr.mono (by decide)) (by rfl) (pa_cons (pe_fn S3 (hr.mono (by decide)) (by rfl) (pa_cons (pv 0) (pa_cons (pv 3) (pa_cons (pe_m T.clF M.over (hr.mono (by decide)) (pv 4) (pa_cons (pv 6) pa_nil)) pa_nil)))) (pa_cons (pv 5) pa_nil)))))) pss_nil)
      (pss_cons (ps_if (pt_cmpR (op_ne0 (hu0 hr)) (pe_ix ix_tup (pv 1) pe_int (fun _ _ => rfl)) (pe_lst pa_nil) (nomark _))
        (pss_cons (ps_set (i := 7) scSP.nd rfl (Or.inl rfl) (pe_m T.clF M.minus (hr.mono (by decide)) (pv 2) (pa_cons (pe_fn S4 (hr.mono (by decide)) (by rfl) (pa_cons (pv 0) (pa_cons (pe_ix ix_tup (pv 1) pe_int (fun _ _ => rfl)) pa_nil))) pa_nil)))
        (pss_cons (ps_set (i := 8) scSP.nd rfl (Or.inl rfl) (pe_m T.clF M.times (hr.mono (by decide)) (pv 4) (pa_cons (pe_fn S4 (hr.mono (by decide)) (by rfl) (pa_cons (pv 0) (pa_cons (pe_ix ix_tup (pv 1) pe_int (fun _ _ => rfl)) pa_nil))) pa_nil)))
        (pss_one (ps_set (i := 5) scSP.nd rfl (Or.inl rfl) (pe_fn S5 (hr.mono (by decide)) (by rfl) (pa_cons (pv 5) (pa_cons (pe_fn S3 (hr.mono (by decide)) (by rfl) (pa_cons (pv 0) (pa_cons (pe_ix ix_tup (pv 1) pe_int (fun _ _ => rfl)) (pa_cons (pe_m T.clF M.over (hr.mono (by decide)) (pv 8) (pa_cons (pv 7) pa_nil)) pa_nil)))) pa_nil))))))) pss_nil)
      (pss_one (ps_ret (pv 5))))))))))), ?_⟩
    obtain ⟨t, v0, v1, v2, v3, rfl, ht, h0, h1, h2, h3⟩ := id hs
    have hT : ∀ {G' H'}, Ext G H G' H' → SqT K H' t [v0, v1, v2, v3] := fun e => SqT.of (e.gh _ _ (e.g _ _ ht))
    have wh := sv.wh.wy nw
    have wp := sv.wp.wy nw
    have wt := sv.wt.wy nw
    have hq : Bd q := (SX.path (ps := []) sx (fun w h => nomatch h) (by simp)).take (fun w h => nomatch h) 0 |>.2 |>.bd |> fun b => by
      have : q * gainW ([] : List (Wy Str)) = q := Rat.mul_one q
      rw [List.take_nil, this] at b; exact b
    refine ⟨_, rfl, _, rfl, G, x, .ref t, n, sd, q, rfl, s, hn, nw, hs, sv, qp, fun G1 H1 e1 => ⟨_, rfl, iteF ?_⟩⟩
    refine ⟨G1, 1, rfl, e1.gh, fun vo G2 H2 e2 ho => ?_⟩
    have e12 := e1.trans e2
    refine ⟨_, rfl, t, _, 0, _, rfl, rfl, hT e12, rfl, _, rfl, t, _, 3, _, rfl, rfl, hT e12, rfl, ?_⟩
    refine ⟨_, rfl, _, rfl, G2, x, v0, n, sd.head, 0, rfl, e12.gh, hn.up' e12.g, nw, h0.up StrAt.mono (same_sm e12.g), sv.wh, sv.rh, fun G3 H3 e3 => ⟨_, rfl, ?_⟩⟩
    have e13 := e12.trans e3
    have f3 := Fr.mono (same_sm e13.g) h3
    by_cases rnd : sd.head ≠ [] ∧ gainW sd.head = 1
    · have : sd.head ≠ [] ∧ sgn (gainW sd.head - 1) = 0 := ⟨rnd.1, by rw [rnd.2]; exact sgn_zero.mpr (by grind)⟩
      refine iteDT this ⟨_, rfl, _, rfl, _, rfl, G3, x, v0, v3, n, sd.head, q, _, _, rfl, e13.gh, hn.up' e13.g, nw, h0.up StrAt.mono (same_sm e13.g), sv.wh, f3, qp, sx.path wh sv.lh, fun v4 G4 H4 e4 ⟨l, hl, pl⟩ => k _ _ _ (e13.trans e4) ⟨l, hl, ?_⟩⟩
      unfold strandF
      rw [if_pos rnd]; exact pl
    · have nr : ¬ (sd.head ≠ [] ∧ sgn (gainW sd.head - 1) = 0) := fun z => rnd ⟨z.1, by have := sgn_zero.mp z.2; grind⟩
      obtain ⟨a, b, rd⟩ : ∃ a b, Road sd a b := by
        rcases sv.kind with ⟨a, r⟩ | r
        · exact absurd ⟨r.r.ne, r.g⟩ rnd
        · exact r
      refine iteDF nr ⟨_, rfl, _, rfl, t, _, 1, _, rfl, rfl, hT e13, rfl, _, rfl, G3, x, v1, v3, n, sd.path, q, _, _, rfl, e13.gh, hn.up' e13.g, nw, h1.up StrAt.mono (same_sm e13.g), sv.wp, f3, qp, sx.path wp sv.lp, fun v5 G5 H5 e5 ⟨l5, hl5, pl5⟩ => ?_⟩
      have e15 := e13.trans e5
      have M : ∃ M : L2.St → Hp → Prop, M = fun σ' H' => ∃ G' v5 v6 l, σ' = [some x, some (.ref t), some vo, some v0, some v3, some v5, v6, none, none] ∧ Ext G H G' H' ∧ Fr c G' vo 1 ∧ DctE (Fr c) G' v5 l ∧ PlF l (fun m => sentF sd.head (q / (gainW sd.head - 1)) m + sentF sd.path q m) ∧ l.length ≤ 60 := ⟨_, rfl⟩
      obtain ⟨M, eM⟩ := M
      have ho5 := (Fr.mono (same_sm (e3.trans e5).g) ho).eq (show (((1 : Int) : Rat)) = 1 from rfl)
      have f5 := Fr.mono (same_sm e5.g) f3
      refine ⟨M, ?_, fun σ' H' m => ?_⟩
      · refine ⟨_, rfl, Nat.zero_le _, fun p1 n1 => e0_of (h0.up StrAt.mono (same_sm e15.g)) e15.gh n1 ⟨_, rfl, ?_⟩⟩
        have e6 := e15.trans (Ext.imm (p := p1) (o := .lst []) e15.gh n1)
        have i6 := Ext.imm (p := p1) (o := .lst []) e15.gh n1
        rw [if_pos rfl, eM]
        by_cases z0 : sd.head = []
        · rw [decide_eq_true z0]
          refine iteF ⟨_, v5, _, l5, rfl, e6, Fr.mono (same_sm i6.g) ho5, hl5.up Fr.mono i6.g, pl5.eq fun m => ?_, by have := sent_keys pl5; have := sv.lp; omega⟩
          rw [z0]; show _ = 0 + _; grind
        · rw [decide_eq_false z0]
          have g1 : 0 < gainW sd.head - 1 := by
            rcases rd.h with z | ⟨_, z⟩
            · exact absurd z z0
            · grind
          have gm := (gm_of wh sv.lh).1
          refine iteT ⟨_, rfl, _, rfl, _, x, v0, n, sd.head, rfl, e6.gh, hn.up' e6.g, nw, h0.up StrAt.mono (same_sm e6.g), sv.wh, fun v7 G7 H7 e7 h7 => ?_⟩
          refine ⟨h7.ins e7.gh, _, rfl, G7, v7, vo, _, _, rfl, e7.gh, h7, Fr.mono (same_sm (i6.trans e7).g) ho5, gainW_bd wh sv.wh.len, one_bd, trivial, fun v8 G8 H8 e8 h8 => ?_⟩
          have e58 := (i6.trans e7).trans e8
          have e18 := e15.trans e58
          have f8 := Fr.mono (same_sm e58.g) f5
          refine ⟨_, rfl, _, rfl, _, rfl, f8.ins e18.gh, _, rfl, G8, v3, v8, _, _, rfl, e18.gh, f8, h8, hq, gm.bd, gm.bs (rpos_ne g1), fun v9 G9 H9 e9 h9 => ?_⟩
          have e19 := e18.trans e9
          refine ⟨G9, x, v0, v9, n, sd.head, _, _, _, rfl, e19.gh, hn.up' e19.g, nw, h0.up StrAt.mono (same_sm e19.g), sv.wh, h9, div_pos' qp g1, sx.head wh sv.lh g1, fun v10 G10 H10 e10 ⟨l10, hl10, pl10⟩ => ?_⟩
          have e510 := (e58.trans e9).trans e10
          have hl510 := hl5.up Fr.mono e510.g
          have k10 := sent_keys pl10
          have k5 := sent_keys pl5
          have lh := sv.lh
          have lp := sv.lp
          refine ⟨_, rfl, G10, v10, v5, l10, l5, rfl, e10.gh, hl10.at, hl510.at, by omega, by omega, fun m => ⟨?_, ?_⟩, fun v11 G11 H11 e11 ⟨l11, hl11, tl11⟩ => ?_⟩
          · rw [pl10.amt]
            have := ((sx.head wh sv.lh g1).take wh sd.head.length).1 m
            rw [List.take_length] at this; exact this.bd
          · rw [pl5.amt]
            have := ((sx.path wp sv.lp).take wp sd.path.length).1 m
            rw [List.take_length] at this; exact this.bd
          · have l11l := tl11.lenle
            rw [List.length_append, keys_len, keys_len] at l11l
            refine ⟨G11, v11, _, l11, rfl, (e15.trans e510).trans e11, Fr.mono (same_sm (e510.trans e11).g) ho5, hl11, ?_, by omega⟩
            refine (tl11.plf fun m hm => ?_).eq fun m => by rw [pl10.amt, pl5.amt]
            rw [amt_none fun z => hm (List.mem_append_left _ z), amt_none fun z => hm (List.mem_append_right _ z)]; grind
      · rw [eM] at m
        obtain ⟨G', v5, v6, l, rfl, e, ho, hl, pl, ll⟩ := m
        have f3 := Fr.mono (same_sm e.g) h3
        refine ⟨_, rfl, t, _, 2, _, rfl, rfl, hT e, rfl, Nat.zero_le _, fun p1 n1 => e0_of (h2.up StrAt.mono (same_sm e.g)) e.gh n1 ⟨_, rfl, ?_⟩⟩
        have i6 := Ext.imm (p := p1) (o := .lst []) e.gh n1
        have e6 := e.trans i6
        rw [if_pos rfl]
        have sF : strandF sd q = fun m => (sentF sd.head (q / (gainW sd.head - 1)) m + sentF sd.path q m) + sentF sd.tail (q * gainW sd.path / (1 - gainW sd.tail)) m := by
          unfold strandF; rw [if_neg rnd]
        by_cases z0 : sd.tail = []
        · rw [decide_eq_true z0]
          refine iteF ⟨_, rfl, k _ _ _ e6 ⟨l, hl.up Fr.mono i6.g, pl.eq fun m => ?_⟩⟩
          rw [sF, z0]; show _ = _ + 0; grind
        · rw [decide_eq_false z0]
          have g1 : 0 < 1 - gainW sd.tail := by
            rcases rd.t with z | ⟨_, z⟩
            · exact absurd z z0
            · grind
          have gm := (gm_of wt sv.lt).2
          refine iteT ⟨_, rfl, Fr.ins (Fr.mono (same_sm i6.g) ho) e6.gh, _, rfl, _, rfl, t, _, 2, _, rfl, rfl, hT e6, rfl, _, x, v2, n, sd.tail, rfl, e6.gh, hn.up' e6.g, nw, h2.up StrAt.mono (same_sm e6.g), sv.wt, fun v7 G7 H7 e7 h7 => ?_⟩
          have h37 := Fr.mono (same_sm (i6.trans e7).g) ho
          refine ⟨G7, vo, v7, _, _, rfl, e7.gh, h37, h7, one_bd, gainW_bd wt sv.wt.len, trivial, fun v8 G8 H8 e8 h8 => ?_⟩
          have e68 := (i6.trans e7).trans e8
          have e18 := e.trans e68
          have f8 := Fr.mono (same_sm e68.g) f3
          refine ⟨_, rfl, f8.ins e18.gh, _, rfl, _, rfl, t, _, 1, _, rfl, rfl, hT e18, rfl, G8, x, v1, n, sd.path, rfl, e18.gh, hn.up' e18.g, nw, h1.up StrAt.mono (same_sm e18.g), sv.wp, fun v9 G9 H9 e9 h9 => ?_⟩
          have f9 := Fr.mono (same_sm e9.g) f8
          refine ⟨G9, v3, v9, _, _, rfl, e9.gh, f9, h9, hq, gainW_bd wp sv.wp.len, trivial, fun v10 G10 H10 e10 h10 => ?_⟩
          have e610 := (e68.trans e9).trans e10
          have e110 := e.trans e610
          have h810 := Fr.mono (same_sm (e9.trans e10).g) h8
          obtain ⟨o1, o2⟩ := sx.out wp sv.lp
          have bo : Bd (q * gainW sd.path) := bd_of (a := 4200) (b := 70000) o1 o2 (Nat.mul_pos sx.pos (gd_pos _)) (pw_mul sx.d (gd100 wp sv.lp) (by decide)) (pw_mul sx.v (Nat.le_refl _) (by decide))
          refine ⟨_, rfl, _, rfl, _, rfl, t, _, 2, _, rfl, rfl, hT e110, rfl, _, rfl, h10.ins e110.gh, _, rfl, G10, v10, v8, _, _, rfl, e110.gh, h10, h810, bo, gm.bd, gm.bs (rpos_ne g1), fun v11 G11 H11 e11 h11 => ?_⟩
          have e111 := e110.trans e11
          have gpp : 0 < gainW sd.path := gainW_pos fun w hw => (wp w hw).pos
          have stl := sx.tail wp sv.lp wt sv.lt g1
          refine ⟨G11, x, v2, v11, n, sd.tail, _, _, _, rfl, e111.gh, hn.up' e111.g, nw, h2.up StrAt.mono (same_sm e111.g), sv.wt, h11, div_pos' (Rat.mul_pos qp gpp) g1, stl, fun v12 G12 H12 e12 ⟨l12, hl12, pl12⟩ => ?_⟩
          have e612 := (e610.trans e11).trans e12
          have k12 := sent_keys pl12
          have lt := sv.lt
          refine ⟨G12, v5, v12, l, l12, rfl, e12.gh, (hl.up Fr.mono e612.g).at, hl12.at, by omega, by omega, fun m => ⟨?_, ?_⟩, fun v13 G13 H13 e13 ⟨l13, hl13, tl13⟩ => ?_⟩
          · rw [pl.amt]
            rcases rd.h with z | ⟨_, z⟩
            · rw [z]
              have := ((sx.path wp sv.lp).take wp sd.path.length).1 m
              rw [List.take_length] at this
              have e0 : sentF ([] : List (Wy Str)) (q / (gainW ([] : List (Wy Str)) - 1)) m + sentF sd.path q m = sentF sd.path q m := by show 0 + _ = _; grind
              rw [e0]; exact this.bd
            · have gh1 : 0 < gainW sd.head - 1 := by grind
              obtain ⟨t1, t2⟩ := sx.two wh wp sv.lh sv.lp gh1 m
              have np : 0 < (gainW sd.head - 1).num := r_pos.mpr gh1
              exact bd_of (a := 4460) (b := 61000) t1 t2 (Nat.mul_pos (Nat.mul_pos (Nat.mul_pos sx.pos (by omega)) (gd_pos _)) (gd_pos _)) (pw_mul (pw_mul (pw_mul sx.d (gm_of wh sv.lh).1.num (Nat.le_refl _)) (gd100 wh sv.lh) (Nat.le_refl _)) (gd100 wp sv.lp) (by decide)) (Nat.le_refl _)
          · rw [pl12.amt]
            have := (stl.take wt sd.tail.length).1 m
            rw [List.take_length] at this; exact this.bd
          · refine ⟨_, rfl, k _ _ _ ((e.trans e612).trans e13) ⟨l13, hl13, ?_⟩⟩
            refine (tl13.plf fun m hm => ?_).eq fun m => by rw [pl.amt, pl12.amt, sF]
            rw [amt_none fun z => hm (List.mem_append_left _ z), amt_none fun z => hm (List.mem_append_right _ z)]; grind
end
end GH
end
section
set_option maxRecDepth 100000
/-! Plain mathematics of strands. -/
namespace GH
open PySem PySem.Spec PyProof.Rows L2 GM
/-! ### sums over places -/
def sumP (ps : List Str) (g : Str → Rat) : Rat := match ps with
  | [] => 0
  | p :: r => g p + sumP r g
theorem sumP_add (ps : List Str) (g h : Str → Rat) : sumP ps (fun p => g p + h p) = sumP ps g + sumP ps h := by
  induction ps with
  | nil => simp only [sumP]; grind
  | cons p r ih => simp only [sumP, ih]; grind
theorem sumP_zero (ps : List Str) : sumP ps (fun _ => 0) = 0 := by
  induction ps with
  | nil => rfl
  | cons p r ih => simp only [sumP, ih]; grind
theorem sumP_congr {ps : List Str} {g h : Str → Rat} (e : ∀ p ∈ ps, g p = h p) : sumP ps g = sumP ps h := by
  induction ps with
  | nil => rfl
  | cons p r ih => simp only [sumP, e p List.mem_cons_self, ih fun q hq => e q (List.mem_cons_of_mem _ hq)]
theorem sumP_out {ps : List Str} {a : Str} {x : Rat} (h : a ∉ ps) : sumP ps (fun p => if a = p then x else 0) = 0 := by
  exact (sumP_congr (h := fun _ => 0) fun p hp => if_neg (fun (e : a = p) => h (by rw [e]; exact hp))).trans (sumP_zero ps)
theorem sumP_one {ps : List Str} {a : Str} {x : Rat} (nd : ps.Nodup) (h : a ∈ ps) : sumP ps (fun p => if a = p then x else 0) = x := by
  induction ps with
  | nil => cases h
  | cons p r ih =>
    obtain ⟨n1, n2⟩ := List.nodup_cons.mp nd
    by_cases e : a = p
    · subst e
      simp only [sumP]
      rw [sumP_out n1]; simp only [if_true]; grind
    · simp only [sumP]
      rw [if_neg e, ih n2 (by rcases List.mem_cons.mp h with h | h; exact absurd h e; exact h)]; grind
/-- what a way brings, by the weights v -/
def tw (v : Str → Rat) (w : Wy Str) : Rat := w.gain * v w.goal - v w.start
def wsum (us : List (Wy Str)) (f v : Str → Rat) : Rat := match us with
  | [] => 0
  | w :: r => f w.name * tw v w + wsum r f v
theorem sum_osum {ps : List Str} {us : List (Wy Str)} {f v : Str → Rat} (nd : ps.Nodup) (h : ∀ w ∈ us, w.start ∈ ps ∧ w.goal ∈ ps) : sumP ps (fun p => osum us f p * v p) = wsum us f v := by
  induction us with
  | nil =>
    exact (sumP_congr (h := fun _ => 0) fun p _ => Rat.zero_mul _).trans (sumP_zero ps)
  | cons w r ih =>
    obtain ⟨h1, h2⟩ := h w List.mem_cons_self
    have i := ih fun u hu => h u (List.mem_cons_of_mem _ hu)
    have e : ∀ p ∈ ps, osum (w :: r) f p * v p = ((if w.goal = p then f w.name * (w.gain * v w.goal) else 0) + (if w.start = p then -(f w.name * v w.start) else 0)) + osum r f p * v p := fun p _ => by
      show (f w.name * ((if w.goal = p then w.gain else 0) - (if w.start = p then 1 else 0)) + osum r f p) * v p = _
      by_cases a : w.goal = p
      · by_cases b : w.start = p
        · rw [if_pos a, if_pos b, if_pos a, if_pos b, a, b]; grind
        · rw [if_pos a, if_neg b, if_pos a, if_neg b, a]; grind
      · by_cases b : w.start = p
        · rw [if_neg a, if_pos b, if_neg a, if_pos b, b]; grind
        · rw [if_neg a, if_neg b, if_neg a, if_neg b]; grind
    rw [sumP_congr e, sumP_add, sumP_add, i, sumP_one nd h2, sumP_one nd h1]
    show _ = f w.name * tw v w + wsum r f v
    unfold tw
    grind
theorem sumP_nonpos {ps : List Str} {g : Str → Rat} (h : ∀ p ∈ ps, g p ≤ 0) : sumP ps g ≤ 0 ∧ (0 ≤ sumP ps g → ∀ p ∈ ps, g p = 0) := by
  induction ps with
  | nil => exact ⟨Rat.le_refl, fun _ p hp => nomatch hp⟩
  | cons p r ih =>
    obtain ⟨i1, i2⟩ := ih fun q hq => h q (List.mem_cons_of_mem _ hq)
    have hp := h p List.mem_cons_self
    refine ⟨by show g p + sumP r g ≤ 0; grind, fun z q hq => ?_⟩
    have z : 0 ≤ g p + sumP r g := z
    rcases List.mem_cons.mp hq with e | hq
    · rw [e]; grind
    · exact i2 (by grind) q hq
theorem wsum_nonneg {us : List (Wy Str)} {f v : Str → Rat} (hf : ∀ w ∈ us, 0 < f w.name) (h : ∀ w ∈ us, 0 ≤ tw v w) : 0 ≤ wsum us f v ∧ (wsum us f v ≤ 0 → ∀ w ∈ us, tw v w = 0) := by
  induction us with
  | nil => exact ⟨Rat.le_refl, fun _ p hp => nomatch hp⟩
  | cons w r ih =>
    obtain ⟨i1, i2⟩ := ih (fun q hq => hf q (List.mem_cons_of_mem _ hq)) fun q hq => h q (List.mem_cons_of_mem _ hq)
    have hp := h w List.mem_cons_self
    have fp := hf w List.mem_cons_self
    have m := Rat.mul_nonneg (Rat.le_of_lt fp) hp
    refine ⟨by show 0 ≤ f w.name * tw v w + wsum r f v; grind, fun z q hq => ?_⟩
    have z : f w.name * tw v w + wsum r f v ≤ 0 := z
    rcases List.mem_cons.mp hq with e | hq
    · rw [e]
      have z0 : f w.name * tw v w = 0 := by grind
      rcases Rat.mul_eq_zero.mp z0 with k | k
      · exact absurd k (rpos_ne fp)
      · exact k
    · exact i2 (by grind) q hq
/-- weights that no way lessens, and no place has over: all is even -/
theorem all_even {ps : List Str} {us : List (Wy Str)} {f v : Str → Rat} (nd : ps.Nodup) (h : ∀ w ∈ us, w.start ∈ ps ∧ w.goal ∈ ps) (hf : ∀ w ∈ us, 0 < f w.name) (ht : ∀ w ∈ us, 0 ≤ tw v w) (ho : ∀ p ∈ ps, osum us f p * v p ≤ 0) :
    (∀ w ∈ us, tw v w = 0) ∧ ∀ p ∈ ps, osum us f p * v p = 0 := by
  have e := sum_osum (f := f) (v := v) nd h
  obtain ⟨a1, a2⟩ := sumP_nonpos ho
  obtain ⟨b1, b2⟩ := wsum_nonneg hf ht
  exact ⟨b2 (by rw [← e]; exact a1), a2 (by rw [e]; exact b1)⟩
/-- the ways that f uses -/
def used (ws : List (Wy Str)) (f : Str → Rat) : List (Wy Str) := ws.filter fun w => decide (f w.name ≠ 0)
theorem used_mem {ws : List (Wy Str)} {f : Str → Rat} {w : Wy Str} : w ∈ used ws f ↔ w ∈ ws ∧ f w.name ≠ 0 := by
  unfold used
  rw [List.mem_filter, decide_eq_true_iff]
theorem osum_used (ws : List (Wy Str)) (f : Str → Rat) (p : Str) : osum (used ws f) f p = osum ws f p := by
  induction ws with
  | nil => rfl
  | cons w r ih =>
    by_cases h : f w.name ≠ 0
    · have : used (w :: r) f = w :: used r f := by unfold used; rw [List.filter_cons, if_pos (decide_eq_true h)]
      rw [this]
      show _ + osum (used r f) f p = _ + osum r f p
      rw [ih]
    · have : used (w :: r) f = used r f := by unfold used; rw [List.filter_cons, if_neg (fun z => h (of_decide_eq_true z))]
      rw [this, ih]
      show _ = f w.name * _ + osum r f p
      rw [Decidable.not_not.mp h]; grind
/-- no place has too much of what the places reached send on: that can't be -/
theorem no_weights {n : Nt} (ok : NtOk n) {f v : Str → Rat} {R : Str → Prop} [DecidablePred R] (f0 : ∀ m, 0 ≤ f m) (vp : ∀ p, 0 < v p) (cl : ∀ w ∈ used n.ws f, R w.start → R w.goal)
    (ht : ∀ w ∈ used n.ws f, R w.start → v w.start ≤ w.gain * v w.goal) (gp : ∀ w ∈ n.ws, 0 < w.gain) (ho : ∀ p ∈ n.ps, R p → osum n.ws f p ≤ 0) :
    (∀ w ∈ used n.ws f, R w.start → w.gain * v w.goal = v w.start) ∧ ∀ p ∈ n.ps, R p → osum n.ws f p = 0 := by
  have hst : ∀ w ∈ used n.ws f, w.start ∈ n.ps ∧ w.goal ∈ n.ps := fun w hw => ⟨ok.st w (used_mem.mp hw).1, ok.go w (used_mem.mp hw).1⟩
  have pos : ∀ w ∈ used n.ws f, 0 < f w.name := fun w hw => by
    have h1 := (used_mem.mp hw).2
    have h2 := f0 w.name
    grind
  obtain ⟨a1, a2⟩ := all_even (v := fun p => if R p then v p else 0) ok.ndP hst pos (fun w hw => by
      show 0 ≤ w.gain * (if R w.goal then v w.goal else 0) - (if R w.start then v w.start else 0)
      have g := gp w (used_mem.mp hw).1
      by_cases rs : R w.start
      · rw [if_pos rs, if_pos (cl w hw rs)]
        have := ht w hw rs
        grind
      · rw [if_neg rs]
        have : 0 ≤ (if R w.goal then v w.goal else 0) := by
          split
          · exact Rat.le_of_lt (vp _)
          · exact Rat.le_refl
        have := Rat.mul_nonneg (Rat.le_of_lt g) this
        grind) (fun p hp => by
      show osum (used n.ws f) f p * (if R p then v p else 0) ≤ 0
      rw [osum_used]
      by_cases rp : R p
      · rw [if_pos rp]
        have h1 := ho p hp rp
        have h2 := Rat.mul_nonneg (a := -osum n.ws f p) (b := v p) (by grind) (Rat.le_of_lt (vp p))
        grind
      · rw [if_neg rp]; grind)
  refine ⟨fun w hw rs => ?_, fun p hp rp => ?_⟩
  · have : w.gain * (if R w.goal then v w.goal else 0) - (if R w.start then v w.start else 0) = 0 := a1 w hw
    rw [if_pos rs, if_pos (cl w hw rs)] at this
    grind
  · have : osum (used n.ws f) f p * (if R p then v p else 0) = 0 := a2 p hp
    rw [if_pos rp, osum_used] at this
    rcases Rat.mul_eq_zero.mp this with k | k
    · exact k
    · exact absurd k (rpos_ne (vp p))
/-- no place lacks anything, no ring makes: every way is even, every place is -/
theorem even_all {n : Nt} (ok : NtOk n) {f v : Str → Rat} (f0 : ∀ m, 0 ≤ f m) (vp : ∀ p, 0 < v p) (ht : ∀ w ∈ used n.ws f, w.gain * v w.goal ≤ v w.start) (ho : ∀ p ∈ n.ps, 0 ≤ osum n.ws f p) :
    (∀ w ∈ used n.ws f, w.gain * v w.goal = v w.start) ∧ ∀ p ∈ n.ps, osum n.ws f p = 0 := by
  have hst : ∀ w ∈ used n.ws f, w.start ∈ n.ps ∧ w.goal ∈ n.ps := fun w hw => ⟨ok.st w (used_mem.mp hw).1, ok.go w (used_mem.mp hw).1⟩
  have pos : ∀ w ∈ used n.ws f, 0 < f w.name := fun w hw => by
    have h1 := (used_mem.mp hw).2
    have h2 := f0 w.name
    grind
  obtain ⟨a1, a2⟩ := all_even (v := fun p => -v p) ok.ndP hst pos (fun w hw => by
      show 0 ≤ w.gain * -v w.goal - -v w.start
      have := ht w hw
      grind) (fun p hp => by
      show osum (used n.ws f) f p * -v p ≤ 0
      rw [osum_used]
      have h2 := Rat.mul_nonneg (ho p hp) (Rat.le_of_lt (vp p))
      grind)
  refine ⟨fun w hw => ?_, fun p hp => ?_⟩
  · have : w.gain * -v w.goal - -v w.start = 0 := a1 w hw
    grind
  · have : osum (used n.ws f) f p * -v p = 0 := a2 p hp
    rw [osum_used] at this
    rcases Rat.mul_eq_zero.mp this with k | k
    · exact k
    · have := vp p; grind
/-- a place that is even and has a way to it has a way from it -/
theorem goes_on {ws : List (Wy Str)} {f : Str → Rat} {p : Str} (pos : ∀ w ∈ ws, 0 < f w.name) (gp : ∀ w ∈ ws, 0 < w.gain) (hs : p ∉ starts ws) : 0 ≤ osum ws f p ∧ (p ∈ goals ws → 0 < osum ws f p) := by
  induction ws with
  | nil => exact ⟨Rat.le_refl, fun h => nomatch h⟩
  | cons w r ih =>
    have s1 : ¬ w.start = p := fun e => hs (by rw [← e]; exact List.mem_cons_self)
    obtain ⟨i1, i2⟩ := ih (fun q hq => pos q (List.mem_cons_of_mem _ hq)) (fun q hq => gp q (List.mem_cons_of_mem _ hq)) fun h => hs (List.mem_cons_of_mem _ h)
    have m := Rat.mul_pos (pos w List.mem_cons_self) (gp w List.mem_cons_self)
    have fp := pos w List.mem_cons_self
    have e : osum (w :: r) f p = f w.name * ((if w.goal = p then w.gain else 0) - 0) + osum r f p := by
      show f w.name * ((if w.goal = p then w.gain else 0) - (if w.start = p then 1 else 0)) + _ = _
      rw [if_neg s1]
    rw [e]
    by_cases g : w.goal = p
    · rw [if_pos g]
      exact ⟨by grind, fun _ => by grind⟩
    · rw [if_neg g]
      refine ⟨by grind, fun h => ?_⟩
      rcases List.mem_cons.mp h with h | h
      · exact absurd h.symm g
      · have := i2 h
        grind
end GH
end
section
set_option maxRecDepth 100000
/-! A strand's plan, in numbers. -/
namespace GH
open PySem PySem.Spec PyProof.Rows L2 GM
/-! ### linear, positive -/
theorem strand_lin (s : Sd) (x : Rat) (m : Str) : strandF s x m = x * strandF s 1 m := by
  unfold strandF
  split
  · have := sent_lin s.head x 1 m
    rwa [Rat.mul_one] at this
  · have h1 := sent_lin s.head x (1 / (gainW s.head - 1)) m
    have h2 := sent_lin s.path x 1 m
    have h3 := sent_lin s.tail x (1 * gainW s.path / (1 - gainW s.tail)) m
    rw [Rat.mul_one] at h2
    have e1 : x * (1 / (gainW s.head - 1)) = x / (gainW s.head - 1) := by rw [Rat.div_def, Rat.div_def, Rat.one_mul]
    have e3 : x * (1 * gainW s.path / (1 - gainW s.tail)) = x * gainW s.path / (1 - gainW s.tail) := by rw [Rat.div_def, Rat.div_def, Rat.one_mul, Rat.mul_assoc]
    rw [e1] at h1
    rw [e3] at h3
    show (_ + _) + _ = x * ((_ + _) + _)
    rw [h1, h2, h3]; grind
abbrev Sd.names (s : Sd) : List Str := GM.names s.head ++ GM.names s.path ++ GM.names s.tail
/-- head's and tail's numbers are positive -/
theorem Road.hx {s : Sd} {a b : Str} (r : Road s a b) : s.head = [] ∨ 0 < gainW s.head - 1 := by
  rcases r.h with h | ⟨_, h⟩
  · exact .inl h
  · exact .inr (by grind)
theorem Road.tx {s : Sd} {a b : Str} (r : Road s a b) : s.tail = [] ∨ 0 < 1 - gainW s.tail := by
  rcases r.t with h | ⟨_, h⟩
  · exact .inl h
  · exact .inr (by grind)
theorem Road.nr {s : Sd} {a b : Str} (r : Road s a b) : ¬ (s.head ≠ [] ∧ gainW s.head = 1) := fun z => by
  rcases r.h with h | ⟨_, h⟩
  · exact z.1 h
  · rw [z.2] at h; exact absurd h Rat.lt_irrefl
theorem Road.eq {s : Sd} {a b : Str} (r : Road s a b) (x : Rat) (m : Str) : strandF s x m = (sentF s.head (x / (gainW s.head - 1)) m + sentF s.path x m) + sentF s.tail (x * gainW s.path / (1 - gainW s.tail)) m := by
  unfold strandF; rw [if_neg r.nr]
theorem Rond.eq {s : Sd} {a : Str} (r : Rond s a) (x : Rat) (m : Str) : strandF s x m = sentF s.head x m := by
  unfold strandF; rw [if_pos ⟨r.r.ne, r.g⟩]
theorem SV.wy {n : Nt} {s : Sd} (h : SV n s) (nw : NtW n) : (∀ w ∈ s.head, WyOk w) ∧ (∀ w ∈ s.path, WyOk w) ∧ ∀ w ∈ s.tail, WyOk w := ⟨fun w k => nw.wy w (h.sh w k), fun w k => nw.wy w (h.sp w k), fun w k => nw.wy w (h.st w k)⟩
theorem strand_pos {n : Nt} {s : Sd} (sv : SV n s) (nw : NtW n) {x : Rat} (hx : 0 < x) (m : Str) : 0 ≤ strandF s x m ∧ (m ∈ s.names → 0 < strandF s x m) ∧ (m ∉ s.names → strandF s x m = 0) := by
  obtain ⟨wh, wp, wt⟩ := sv.wy nw
  have gh : ∀ w ∈ s.head, 0 < w.gain := fun w h => (wh w h).pos
  have gp : ∀ w ∈ s.path, 0 < w.gain := fun w h => (wp w h).pos
  have gt : ∀ w ∈ s.tail, 0 < w.gain := fun w h => (wt w h).pos
  rcases sv.kind with ⟨a, r⟩ | ⟨a, b, r⟩
  · rw [r.eq]
    have en : s.names = GM.names s.head := by unfold Sd.names; rw [r.p, r.t]; simp [GM.names]
    rw [en]
    exact ⟨sent_nonneg (Rat.le_of_lt hx) gh m, fun h => sent_pos hx gh h, fun h => sent_out h⟩
  · rw [r.eq]
    have h1 : 0 ≤ sentF s.head (x / (gainW s.head - 1)) m ∧ (m ∈ GM.names s.head → 0 < sentF s.head (x / (gainW s.head - 1)) m) := by
      rcases r.hx with h | h
      · rw [h]; exact ⟨Rat.le_refl, fun z => by simp [GM.names] at z⟩
      · exact ⟨sent_nonneg (Rat.le_of_lt (div_pos' hx h)) gh m, fun z => sent_pos (div_pos' hx h) gh z⟩
    have h2 : 0 ≤ sentF s.path x m ∧ (m ∈ GM.names s.path → 0 < sentF s.path x m) := ⟨sent_nonneg (Rat.le_of_lt hx) gp m, fun h => sent_pos hx gp h⟩
    have gpp : 0 < gainW s.path := gainW_pos gp
    have h3 : 0 ≤ sentF s.tail (x * gainW s.path / (1 - gainW s.tail)) m ∧ (m ∈ GM.names s.tail → 0 < sentF s.tail (x * gainW s.path / (1 - gainW s.tail)) m) := by
      rcases r.tx with h | h
      · rw [h]; exact ⟨Rat.le_refl, fun z => by simp [GM.names] at z⟩
      · have q := div_pos' (Rat.mul_pos hx gpp) h
        exact ⟨sent_nonneg (Rat.le_of_lt q) gt m, fun z => sent_pos q gt z⟩
    refine ⟨by have := h1.1; have := h2.1; have := h3.1; grind, fun h => ?_, fun h => ?_⟩
    · have a1 := h1.1
      have a2 := h2.1
      have a3 := h3.1
      rcases List.mem_append.mp h with h | h
      · rcases List.mem_append.mp h with h | h
        · have := h1.2 h; grind
        · have := h2.2 h; grind
      · have := h3.2 h; grind
    · have n1 : m ∉ GM.names s.head := fun z => h (List.mem_append_left _ (List.mem_append_left _ z))
      have n2 : m ∉ GM.names s.path := fun z => h (List.mem_append_left _ (List.mem_append_right _ z))
      have n3 : m ∉ GM.names s.tail := fun z => h (List.mem_append_right _ z)
      rw [sent_out n1, sent_out n2, sent_out n3]; grind
/-! ### where it begins, ends -/
def bgn (s : Sd) : Option Str := if s.head = [] then (s.path ++ s.tail).head?.map (·.start) else none
def fin (s : Sd) : Option Str := if s.tail = [] ∧ (s.head = [] ∨ gainW s.head ≠ 1) then (s.head ++ s.path).getLast?.map (·.goal) else none
theorem Rond.bgn {s : Sd} {a : Str} (r : Rond s a) : bgn s = none := if_neg r.r.ne
theorem Rond.fin {s : Sd} {a : Str} (r : Rond s a) : fin s = none := if_neg fun z => by
  rcases z.2 with h | h
  · exact r.r.ne h
  · exact h r.g
theorem walk_first {a b : Str} {us : List (Wy Str)} (h : Walk a us b) (ne : us ≠ []) : us.head?.map (·.start) = some a := by
  cases us with
  | nil => exact absurd rfl ne
  | cons u r => show some u.start = some a; rw [h.1]
theorem walk_goal {a b : Str} {us : List (Wy Str)} (h : Walk a us b) (ne : us ≠ []) : us.getLast?.map (·.goal) = some b := by
  have := walk_last h
  cases us with
  | nil => exact absurd rfl ne
  | cons u r =>
    have e : (a :: goals (u :: r)).getLast? = (goals (u :: r)).getLast? := by
      show (a :: u.goal :: goals r).getLast? = _
      rw [List.getLast?_cons_cons]; rfl
    rw [e] at this
    rw [← List.getLast?_map]; exact this
theorem Road.bgn {s : Sd} {a b : Str} (r : Road s a b) : bgn s = if s.head = [] then some a else none := by
  unfold GH.bgn
  by_cases h : s.head = []
  · rw [if_pos h, if_pos h]
    by_cases p : s.path = []
    · have t : s.tail ≠ [] := fun z => r.ne ⟨h, p, z⟩
      have w := r.w
      rw [p] at w
      have w : a = b := w
      rw [p, List.nil_append]
      rcases r.t with z | ⟨z, _⟩
      · exact absurd z t
      · rw [walk_first z.walk t, w]
    · rw [List.head?_append, walk_head p]
      exact walk_first r.w p
  · rw [if_neg h, if_neg h]
where
  walk_head {l m : List (Wy Str)} (h : l ≠ []) : l.head?.or m.head? = l.head? := by
    cases l with
    | nil => exact absurd rfl h
    | cons a b => rfl
theorem Road.fin {s : Sd} {a b : Str} (r : Road s a b) : fin s = if s.tail = [] then some b else none := by
  unfold GH.fin
  by_cases t : s.tail = []
  · have hh : s.head = [] ∨ gainW s.head ≠ 1 := by
      rcases r.h with z | ⟨_, z⟩
      · exact .inl z
      · exact .inr fun e => by rw [e] at z; exact absurd z Rat.lt_irrefl
    rw [if_pos ⟨t, hh⟩, if_pos t]
    by_cases p : s.path = []
    · have h : s.head ≠ [] := fun z => r.ne ⟨z, p, t⟩
      have w := r.w
      rw [p] at w
      have w : a = b := w
      rw [p, List.append_nil]
      rcases r.h with z | ⟨z, _⟩
      · exact absurd z h
      · rw [walk_goal z.walk h, w]
    · rw [List.getLast?_append]
      have := walk_goal r.w p
      cases e : s.path.getLast? with
      | none => rw [e] at this; cases this
      | some u => rw [e] at this; exact this
  · rw [if_neg (fun z => t z.1), if_neg t]
/-- what one sent along it brings to p -/
def chg (s : Sd) (p : Str) : Rat := (if fin s = some p then gainW s.path else 0) - (if bgn s = some p then 1 else 0)
theorem strand_over {n : Nt} {s : Sd} (sv : SV n s) (ok : NtOk n) (x : Rat) (p : Str) : osum n.ws (strandF s x) p = x * chg s p := by
  rcases sv.kind with ⟨a, r⟩ | ⟨a, b, r⟩
  · have e : osum n.ws (strandF s x) p = osum n.ws (sentF s.head x) p := osum_congr fun w _ => r.eq x w.name
    rw [e, osum_sent ok.ndW r.r.walk sv.sh, r.g]
    unfold chg
    have hn : ¬ ((none : Option Str) = some p) := by simp
    rw [r.bgn, r.fin, if_neg hn, if_neg hn]
    grind
  · have e : osum n.ws (strandF s x) p = (osum n.ws (sentF s.head (x / (gainW s.head - 1))) p + osum n.ws (sentF s.path x) p) + osum n.ws (sentF s.tail (x * gainW s.path / (1 - gainW s.tail))) p := by
      rw [← osum_add, ← osum_add]
      exact osum_congr fun w _ => r.eq x w.name
    rw [e, osum_sent ok.ndW r.w sv.sp]
    have e1 : osum n.ws (sentF s.head (x / (gainW s.head - 1))) p = if s.head = [] then 0 else (if a = p then x else 0) := by
      rcases r.h with h | ⟨h, g⟩
      · rw [h, if_pos rfl]; exact osum_zero n.ws p
      · rw [osum_sent ok.ndW h.walk sv.sh, if_neg h.ne]
        have gne : gainW s.head - 1 ≠ 0 := fun z => by grind
        by_cases ap : a = p
        · rw [if_pos ap, if_pos ap, if_pos ap]; exact mul_div_self gne
        · rw [if_neg ap, if_neg ap, if_neg ap]; grind
    have e3 : osum n.ws (sentF s.tail (x * gainW s.path / (1 - gainW s.tail))) p = if s.tail = [] then 0 else (if b = p then -(x * gainW s.path) else 0) := by
      rcases r.t with h | ⟨h, g⟩
      · rw [h, if_pos rfl]; exact osum_zero n.ws p
      · rw [osum_sent ok.ndW h.walk sv.st, if_neg h.ne]
        have gne : 1 - gainW s.tail ≠ 0 := fun z => by grind
        by_cases bp : b = p
        · rw [if_pos bp, if_pos bp, if_pos bp]
          have := mul_div_self (a := x * gainW s.path) gne
          grind
        · rw [if_neg bp, if_neg bp, if_neg bp]; grind
    rw [e1, e3]
    unfold chg
    rw [r.bgn, r.fin]
    have ob : ∀ q : Str, ((if s.head = [] then some a else none) = some q) = (s.head = [] ∧ a = q) := fun q => by
      by_cases h : s.head = []
      · rw [if_pos h]; simp [h]
      · rw [if_neg h]; simp [h]
    have oe : ∀ q : Str, ((if s.tail = [] then some b else none) = some q) = (s.tail = [] ∧ b = q) := fun q => by
      by_cases h : s.tail = []
      · rw [if_pos h]; simp [h]
      · rw [if_neg h]; simp [h]
    simp only [ob, oe]
    by_cases h : s.head = [] <;> by_cases t : s.tail = [] <;> by_cases ap : a = p <;> by_cases bp : b = p <;> simp [h, t, ap, bp] <;> grind
end GH
end
section
set_option maxRecDepth 100000
/-! Sizes of a strand's plan. -/
namespace GH
open PySem PySem.Spec PyProof.Rows L2 GM
def nn : List (Wy Str) → Nat
  | [] => 1
  | w :: r => w.gain.num.natAbs * nn r
theorem nat_int {a : Int} (h : 0 < a) : ((a.natAbs : Nat) : Rat) = ((a : Int) : Rat) := by
  have : ((a.natAbs : Nat) : Int) = a := by omega
  show (((a.natAbs : Nat) : Int) : Rat) = _
  rw [this]
theorem gain_nn {us : List (Wy Str)} (h : ∀ w ∈ us, 0 < w.gain) : gainW us * (gd us : Rat) = (nn us : Rat) := by
  induction us with
  | nil => show (1 : Rat) * ((1 : Nat) : Rat) = ((1 : Nat) : Rat); exact Rat.one_mul _
  | cons w r ih =>
    have i := ih fun v hv => h v (List.mem_cons_of_mem _ hv)
    have e := num_eq w.gain
    have np := nat_int (r_pos.mpr (h w List.mem_cons_self))
    show w.gain * gainW r * ((w.gain.den * gd r : Nat) : Rat) = ((w.gain.num.natAbs * nn r : Nat) : Rat)
    rw [Rat.natCast_mul, Rat.natCast_mul, np, ← e, ← i]; grind
theorem nn_pos {us : List (Wy Str)} (h : ∀ w ∈ us, 0 < w.gain) : 0 < nn us := by
  induction us with
  | nil => decide
  | cons w r ih =>
    have := r_pos.mpr (h w List.mem_cons_self)
    exact Nat.mul_pos (by omega) (ih fun v hv => h v (List.mem_cons_of_mem _ hv))
theorem nn_le {us : List (Wy Str)} (h : ∀ w ∈ us, WyOk w) : nn us ≤ 2 ^ (10 * us.length) := by
  induction us with
  | nil => decide
  | cons w r ih =>
    have e : (2 : Nat) ^ (10 * (w :: r).length) = 2 ^ 10 * 2 ^ (10 * r.length) := by rw [← Nat.pow_add, List.length_cons]; congr 1; omega
    rw [e]
    exact Nat.mul_le_mul (h w List.mem_cons_self).gain.num (ih fun v hv => h v (List.mem_cons_of_mem _ hv))
theorem sent_tight {us : List (Wy Str)} (h : ∀ w ∈ us, WyOk w) : ∀ {D K : Nat} {x : Rat} {k : Int}, x * (D : Rat) = (k : Rat) * (gd us : Rat) → k.natAbs ≤ K → ∀ m, ∃ j : Int, sentF us x m * (D : Rat) = (j : Rat) ∧ j.natAbs ≤ us.length * (K * 2 ^ (10 * us.length)) := by
  induction us with
  | nil => intro D K x k _ _ m; exact ⟨0, Rat.zero_mul _, Nat.zero_le _⟩
  | cons w r ih =>
    intro D K x k e hk m
    have hw := h w List.mem_cons_self
    have hr := fun v hv => h v (List.mem_cons_of_mem _ hv)
    have eg : ((gd (w :: r) : Nat) : Rat) = (w.gain.den : Rat) * (gd r : Rat) := by show ((w.gain.den * gd r : Nat) : Rat) = _; rw [Rat.natCast_mul]
    have ne := num_eq w.gain
    obtain ⟨j, ej, hj⟩ := ih hr (D := D) (K := K * 2 ^ 10) (x := x * w.gain) (k := k * w.gain.num) (by
      rw [Rat.intCast_mul, ← ne]
      rw [eg] at e
      grind) (by rw [Int.natAbs_mul]; exact Nat.mul_le_mul hk hw.gain.num) m
    have p10 : (2 : Nat) ^ (10 * (w :: r).length) = 2 ^ 10 * 2 ^ (10 * r.length) := by rw [← Nat.pow_add, List.length_cons]; congr 1; omega
    have o : ∃ i : Int, one w.name x m * (D : Rat) = (i : Rat) ∧ i.natAbs ≤ K * 2 ^ (10 * (w :: r).length) := by
      unfold one
      by_cases em : w.name = m
      · rw [if_pos em]
        refine ⟨k * ((gd (w :: r) : Nat) : Int), ?_, ?_⟩
        · rw [Rat.intCast_mul]; exact e
        · rw [Int.natAbs_mul]
          exact Nat.mul_le_mul hk (by rw [Int.natAbs_natCast]; exact gd_le h)
      · rw [if_neg em]
        exact ⟨0, Rat.zero_mul _, Nat.zero_le _⟩
    obtain ⟨i, ei, hi⟩ := o
    refine ⟨i + j, ?_, ?_⟩
    · show (one w.name x m + sentF r (x * w.gain) m) * (D : Rat) = _
      rw [Rat.intCast_add, ← ei, ← ej]; grind
    · have e2 : (w :: r).length * (K * 2 ^ (10 * (w :: r).length)) = K * 2 ^ (10 * (w :: r).length) + r.length * (K * 2 ^ 10 * 2 ^ (10 * r.length)) := by
        rw [List.length_cons, Nat.add_mul, Nat.one_mul, Nat.add_comm, ← List.length_cons (a := w), p10, ← Nat.mul_assoc K]
      rw [e2]
      have := Int.natAbs_add_le i j
      omega
/-! ### short walks -/
theorem ring_len {n : Nt} (ok : NtOk n) {a : Str} {us : List (Wy Str)} (r : Ring a us) (hs : ∀ w ∈ us, w ∈ n.ws) : us.length ≤ 4 := by
  have := pigeon r.nd (ps := n.ps) fun q hq => by
    obtain ⟨w, hw, e⟩ := List.mem_map.mp hq
    rw [← e]; exact ok.go w (hs w hw)
  have e : (goals us).length = us.length := by unfold goals; rw [List.length_map]
  have := ok.p4
  omega
theorem SV.len {n : Nt} {s : Sd} (sv : SV n s) (ok : NtOk n) : s.head.length ≤ 4 ∧ s.path.length ≤ 3 ∧ s.tail.length ≤ 4 := by
  rcases sv.kind with ⟨a, r⟩ | ⟨a, b, r⟩
  · rw [r.p, r.t]
    exact ⟨ring_len ok r.r sv.sh, Nat.zero_le _, Nat.zero_le _⟩
  · refine ⟨?_, ?_, ?_⟩
    · rcases r.h with h | ⟨h, _⟩
      · rw [h]; exact Nat.zero_le _
      · exact ring_len ok h sv.sh
    · cases e : s.path with
      | nil => exact Nat.zero_le _
      | cons u t =>
        have nd := r.nd
        have sp := sv.sp
        rw [e] at nd sp
        have := pigeon nd (ps := n.ps) fun q hq => by
          rcases List.mem_cons.mp hq with z | hq
          · rw [z]; exact ok.st u (sp u List.mem_cons_self)
          · obtain ⟨w, hw, z⟩ := List.mem_map.mp hq
            rw [← z]; exact ok.go w (sp w hw)
        have e2 : (plc (u :: t)).length = (u :: t).length + 1 := by simp [plc, goals]
        have := ok.p4
        omega
    · rcases r.t with h | ⟨h, _⟩
      · rw [h]; exact Nat.zero_le _
      · exact ring_len ok h sv.st
/-- M makes the plan of one whole -/
structure Tight (s : Sd) (M : Nat) : Prop where
  pos : 0 < M
  le : M ≤ 2 ^ 110
  num : ∀ m, ∃ j : Int, strandF s 1 m * (M : Rat) = (j : Rat) ∧ j.natAbs ≤ 2 ^ 114
theorem nat_sub {a b : Nat} (h : b ≤ a) : ((a - b : Nat) : Rat) = (a : Rat) - (b : Rat) := by
  have : (a : Rat) = ((a - b : Nat) : Rat) + (b : Rat) := by rw [← Rat.natCast_add]; congr 1; omega
  grind
theorem unit_tight {n : Nt} {s : Sd} (sv : SV n s) (nw : NtW n) : ∃ M, Tight s M := by
  obtain ⟨wh, wp, wt⟩ := sv.wy nw
  obtain ⟨lh, lp, lt⟩ := sv.len nw.ok
  have gh : ∀ w ∈ s.head, 0 < w.gain := fun w h => (wh w h).pos
  have gp : ∀ w ∈ s.path, 0 < w.gain := fun w h => (wp w h).pos
  have gt : ∀ w ∈ s.tail, 0 < w.gain := fun w h => (wt w h).pos
  have b1 : gd s.head ≤ 2 ^ 40 := pw_le (gd_le wh) (by omega)
  have b2 : gd s.path ≤ 2 ^ 30 := pw_le (gd_le wp) (by omega)
  have b3 : gd s.tail ≤ 2 ^ 40 := pw_le (gd_le wt) (by omega)
  have n1 : nn s.head ≤ 2 ^ 40 := pw_le (nn_le wh) (by omega)
  have n2 : nn s.path ≤ 2 ^ 30 := pw_le (nn_le wp) (by omega)
  have ng1 := gain_nn gh
  have ng2 := gain_nn gp
  have ng3 := gain_nn gt
  have gd1 : (0 : Rat) < (gd s.head : Rat) := Rat.natCast_lt_natCast (a := 0) |>.mpr (gd_pos _)
  have gd2 : (0 : Rat) < (gd s.path : Rat) := Rat.natCast_lt_natCast (a := 0) |>.mpr (gd_pos _)
  have gd3 : (0 : Rat) < (gd s.tail : Rat) := Rat.natCast_lt_natCast (a := 0) |>.mpr (gd_pos _)
  rcases sv.kind with ⟨a, r⟩ | ⟨a, b, r⟩
  · refine ⟨gd s.head, gd_pos _, Nat.le_trans b1 (by decide), fun m => ?_⟩
    rw [r.eq]
    obtain ⟨j, e, hj⟩ := sent_tight wh (D := gd s.head) (K := 1) (x := 1) (k := 1) rfl (by decide) m
    refine ⟨j, e, Nat.le_trans hj ?_⟩
    rw [Nat.one_mul]
    exact pw_mul (a := 3) (by omega) (Nat.pow_le_pow_right (by decide) (show 10 * s.head.length ≤ 40 by omega)) (by decide)
  · -- the head's, the tail's share of M
    obtain ⟨m1, p1, l1, c1⟩ : ∃ m1 : Nat, 0 < m1 ∧ m1 ≤ 2 ^ 40 ∧ (s.head = [] ∨ 1 / (gainW s.head - 1) * (m1 : Rat) = (gd s.head : Rat)) := by
      rcases r.h with h | ⟨_, g⟩
      · exact ⟨1, by decide, by decide, .inl h⟩
      · have lt : gd s.head < nn s.head := by
          have : (gd s.head : Rat) < (nn s.head : Rat) := by
            rw [← ng1]
            have := Rat.mul_lt_mul_of_pos_right g gd1
            rwa [Rat.one_mul] at this
          exact Rat.natCast_lt_natCast.mp this
        refine ⟨nn s.head - gd s.head, by omega, by omega, .inr ?_⟩
        rw [nat_sub (Nat.le_of_lt lt), ← ng1]
        have ne : gainW s.head - 1 ≠ 0 := fun z => by grind
        have := mul_div_self (a := 1) ne
        grind
    obtain ⟨m3, p3, l3, c3⟩ : ∃ m3 : Nat, 0 < m3 ∧ m3 ≤ 2 ^ 40 ∧ (s.tail = [] ∨ 1 / (1 - gainW s.tail) * (m3 : Rat) = (gd s.tail : Rat)) := by
      rcases r.t with h | ⟨_, g⟩
      · exact ⟨1, by decide, by decide, .inl h⟩
      · have lt : nn s.tail < gd s.tail := by
          have : (nn s.tail : Rat) < (gd s.tail : Rat) := by
            rw [← ng3]
            have := Rat.mul_lt_mul_of_pos_right g gd3
            rwa [Rat.one_mul] at this
          exact Rat.natCast_lt_natCast.mp this
        refine ⟨gd s.tail - nn s.tail, by omega, by omega, .inr ?_⟩
        rw [nat_sub (Nat.le_of_lt lt), ← ng3]
        have ne : 1 - gainW s.tail ≠ 0 := fun z => by grind
        have := mul_div_self (a := 1) ne
        grind
    refine ⟨m1 * (gd s.path * m3), Nat.mul_pos p1 (Nat.mul_pos (gd_pos _) p3), pw_mul l1 (pw_mul b2 l3 (Nat.le_refl _)) (by decide), fun m => ?_⟩
    have cM : ((m1 * (gd s.path * m3) : Nat) : Rat) = (m1 : Rat) * ((gd s.path : Rat) * (m3 : Rat)) := by rw [Rat.natCast_mul, Rat.natCast_mul]
    have j1 : ∃ j : Int, sentF s.head (1 / (gainW s.head - 1)) m * ((m1 * (gd s.path * m3) : Nat) : Rat) = (j : Rat) ∧ j.natAbs ≤ 2 ^ 112 := by
      rcases c1 with h | c
      · rw [h]; exact ⟨0, Rat.zero_mul _, Nat.zero_le _⟩
      · obtain ⟨j, e, hj⟩ := sent_tight wh (D := m1 * (gd s.path * m3)) (K := 2 ^ 70) (x := 1 / (gainW s.head - 1)) (k := ((gd s.path * m3 : Nat) : Int)) (by
          rw [cM]
          show _ = ((gd s.path * m3 : Nat) : Rat) * _
          rw [Rat.natCast_mul, ← c]; grind) (by rw [Int.natAbs_natCast]; exact pw_mul b2 l3 (Nat.le_refl _)) m
        exact ⟨j, e, Nat.le_trans hj (pw_mul (a := 2) (b := 110) (by omega) (pw_mul (Nat.le_refl _) (Nat.pow_le_pow_right (by decide) (show 10 * s.head.length ≤ 40 by omega)) (by decide)) (by decide))⟩
    have j2 : ∃ j : Int, sentF s.path 1 m * ((m1 * (gd s.path * m3) : Nat) : Rat) = (j : Rat) ∧ j.natAbs ≤ 2 ^ 112 := by
      obtain ⟨j, e, hj⟩ := sent_tight wp (D := m1 * (gd s.path * m3)) (K := 2 ^ 80) (x := 1) (k := ((m1 * m3 : Nat) : Int)) (by
          rw [cM]
          show _ = ((m1 * m3 : Nat) : Rat) * _
          rw [Rat.natCast_mul]; grind) (by rw [Int.natAbs_natCast]; exact pw_mul l1 l3 (Nat.le_refl _)) m
      exact ⟨j, e, Nat.le_trans hj (pw_mul (a := 2) (b := 110) (by omega) (pw_mul (Nat.le_refl _) (Nat.pow_le_pow_right (by decide) (show 10 * s.path.length ≤ 30 by omega)) (by decide)) (by decide))⟩
    have j3 : ∃ j : Int, sentF s.tail (1 * gainW s.path / (1 - gainW s.tail)) m * ((m1 * (gd s.path * m3) : Nat) : Rat) = (j : Rat) ∧ j.natAbs ≤ 2 ^ 112 := by
      rcases c3 with h | c
      · rw [h]; exact ⟨0, Rat.zero_mul _, Nat.zero_le _⟩
      · obtain ⟨j, e, hj⟩ := sent_tight wt (D := m1 * (gd s.path * m3)) (K := 2 ^ 70) (x := 1 * gainW s.path / (1 - gainW s.tail)) (k := ((nn s.path * m1 : Nat) : Int)) (by
          rw [cM]
          show _ = ((nn s.path * m1 : Nat) : Rat) * _
          rw [Rat.natCast_mul, ← ng2, ← c, Rat.div_def, Rat.div_def]; grind) (by rw [Int.natAbs_natCast]; exact pw_mul n2 l1 (Nat.le_refl _)) m
        exact ⟨j, e, Nat.le_trans hj (pw_mul (a := 2) (b := 110) (by omega) (pw_mul (Nat.le_refl _) (Nat.pow_le_pow_right (by decide) (show 10 * s.tail.length ≤ 40 by omega)) (by decide)) (by decide))⟩
    obtain ⟨i1, e1, h1⟩ := j1
    obtain ⟨i2, e2, h2⟩ := j2
    obtain ⟨i3, e3, h3⟩ := j3
    refine ⟨i1 + i2 + i3, ?_, ?_⟩
    · rw [r.eq, Rat.intCast_add, Rat.intCast_add, ← e1, ← e2, ← e3]; grind
    · have := Int.natAbs_add_le (i1 + i2) i3
      have := Int.natAbs_add_le i1 i2
      have : (2 : Nat) ^ 114 = 2 ^ 112 + 2 ^ 112 + 2 ^ 112 + 2 ^ 112 := by decide
      omega
end GH
end
section
set_option maxRecDepth 100000
/-! One strand taken off. -/
namespace GH
open PySem PySem.Spec PyProof.Rows L2 GM
theorem inv_m1 : ((-1 : Rat))⁻¹ = -1 := by
  have h : ((-1 : Rat))⁻¹ * (-1) = 1 := Rat.inv_mul_cancel _ (by decide)
  grind
/-! ### counts -/
theorem filter_le {α : Type} {P Q : α → Bool} {l : List α} (h : ∀ x ∈ l, Q x = true → P x = true) : (l.filter Q).length ≤ (l.filter P).length := by
  induction l with
  | nil => exact Nat.le_refl _
  | cons a r ih =>
    have i := ih fun x hx => h x (List.mem_cons_of_mem _ hx)
    rw [List.filter_cons, List.filter_cons]
    cases q : Q a with
    | true => rw [h a List.mem_cons_self q]; simpa using i
    | false =>
      cases P a with
      | true => simp; omega
      | false => simpa using i
theorem filter_lt {α : Type} {P Q : α → Bool} {l : List α} (h : ∀ x ∈ l, Q x = true → P x = true) {a : α} (ha : a ∈ l) (hp : P a = true) (hq : Q a = false) : (l.filter Q).length < (l.filter P).length := by
  induction l with
  | nil => cases ha
  | cons b r ih =>
    have hr := fun x hx => h x (List.mem_cons_of_mem b hx)
    have i := filter_le hr
    rw [List.filter_cons, List.filter_cons]
    rcases List.mem_cons.mp ha with e | ha
    · subst e
      rw [hp, hq]
      simp; omega
    · have j := ih hr ha
      cases q : Q b with
      | true => rw [h b List.mem_cons_self q]; simpa using j
      | false =>
        cases P b with
        | true => simp; omega
        | false => simpa using j
def mu (n : Nt) (f : Str → Rat) : Nat := (used n.ws f).length
def mp (n : Nt) (f : Str → Rat) : Nat := (n.ps.filter fun p => decide (osum n.ws f p ≠ 0)).length
theorem mu_le (n : Nt) (f : Str → Rat) : mu n f ≤ n.ws.length := List.length_filter_le _ _
theorem mp_le (n : Nt) (f : Str → Rat) : mp n f ≤ n.ps.length := List.length_filter_le _ _
/-- where the amounts stand -/
structure St (n : Nt) (f : Str → Rat) (D : Nat) : Prop where
  nn : ∀ m, 0 ≤ f m
  sup : ∀ m, f m ≠ 0 → m ∈ names n.ws
  pos : 0 < D
  le : D ≤ 2 ^ (600 + 116 * (12 - mu n f) + 262 * (4 - mp n f))
  dv : ∀ m, Dv D (f m)
  ab : ∀ m, f m ≤ ((2 ^ 10000 : Nat) : Rat)
theorem St.D {n : Nt} {f : Str → Rat} {D : Nat} (h : St n f D) : D ≤ 2 ^ 3040 := pw_le h.le (by omega)
/-- the strand fits the amounts -/
structure Fits (n : Nt) (f : Str → Rat) (s : Sd) : Prop where
  sv : SV n s
  pos : ∀ m ∈ s.names, 0 < f m
  ne : s.names ≠ []
  bg : ∀ p, bgn s = some p → osum n.ws f p < 0 ∧ p ∈ n.ps
  en : ∀ p, fin s = some p → 0 < osum n.ws f p ∧ p ∈ n.ps
/-- q is the least of the limits -/
structure Least (n : Nt) (f : Str → Rat) (s : Sd) (q : Rat) : Prop where
  l1 : ∀ m ∈ s.names, q ≤ f m / strandF s 1 m
  l2 : ∀ p ∈ n.ps, chg s p ≠ 0 → q ≤ osum n.ws f p / chg s p
  eq : (∃ m ∈ s.names, q = f m / strandF s 1 m) ∨ ∃ p ∈ n.ps, chg s p ≠ 0 ∧ q = osum n.ws f p / chg s p
theorem chg_cases {n : Nt} {f : Str → Rat} {s : Sd} (F : Fits n f s) (nw : NtW n) (p : Str) : chg s p = 0 ∨ (bgn s = some p ∧ ¬ fin s = some p ∧ chg s p = -1 ∧ osum n.ws f p < 0) ∨ (fin s = some p ∧ ¬ bgn s = some p ∧ chg s p = gainW s.path ∧ 0 < osum n.ws f p) := by
  unfold chg
  by_cases h1 : bgn s = some p
  · have a := (F.bg p h1).1
    have h2 : ¬ fin s = some p := fun z => by have := (F.en p z).1; grind
    rw [if_pos h1, if_neg h2]
    exact .inr (.inl ⟨h1, h2, by grind, a⟩)
  · by_cases h2 : fin s = some p
    · have a := (F.en p h2).1
      rw [if_neg h1, if_pos h2]
      exact .inr (.inr ⟨h2, h1, by grind, a⟩)
    · rw [if_neg h1, if_neg h2]
      exact .inl (by grind)
theorem path_pos {n : Nt} {s : Sd} (sv : SV n s) (nw : NtW n) : 0 < gainW s.path := gainW_pos fun w h => (sv.wy nw).2.1 w h |>.pos
section
variable {n : Nt} {f : Str → Rat} {s : Sd} {q : Rat} {D : Nat}
/-- each limit is positive -/
theorem lim_pos (F : Fits n f s) (nw : NtW n) : (∀ m ∈ s.names, 0 < f m / strandF s 1 m) ∧ ∀ p, chg s p ≠ 0 → 0 < osum n.ws f p / chg s p := by
  refine ⟨fun m hm => div_pos' (F.pos m hm) ((strand_pos F.sv nw (by decide) m).2.1 hm), fun p hp => ?_⟩
  rcases chg_cases F nw p with h | ⟨_, _, h, k⟩ | ⟨_, _, h, k⟩
  · exact absurd h hp
  · rw [h, Rat.div_def, inv_m1]; grind
  · rw [h]; exact div_pos' k (path_pos F.sv nw)
theorem least_pos (F : Fits n f s) (L : Least n f s q) (nw : NtW n) : 0 < q := by
  obtain ⟨h1, h2⟩ := lim_pos F nw
  rcases L.eq with ⟨m, hm, e⟩ | ⟨p, _, hp, e⟩
  · rw [e]; exact h1 m hm
  · rw [e]; exact h2 p hp
/-- what is left -/
abbrev left (f : Str → Rat) (s : Sd) (q : Rat) : Str → Rat := fun m => f m - q * strandF s 1 m
theorem left_over (F : Fits n f s) (ok : NtOk n) (p : Str) : osum n.ws (left f s q) p = osum n.ws f p - q * chg s p := by
  have e : osum n.ws (left f s q) p = osum n.ws f p + osum n.ws (fun m => (-q) * strandF s 1 m) p := by
    rw [← osum_add]
    exact osum_congr fun w _ => by show _ - _ = _ + _ * _; grind
  rw [e, osum_mul, strand_over F.sv ok]; grind
theorem left_nn (S : St n f D) (F : Fits n f s) (L : Least n f s q) (nw : NtW n) (m : Str) : 0 ≤ left f s q m ∧ (left f s q m ≠ 0 → f m ≠ 0) ∧ left f s q m ≤ f m := by
  obtain ⟨u1, u2, u3⟩ := strand_pos F.sv nw (x := 1) (by decide) m
  have qp := least_pos F L nw
  have f0 := S.nn m
  by_cases hm : m ∈ s.names
  · have up := u2 hm
    have l := (le_div_iff' up).mp (L.l1 m hm)
    have fp := F.pos m hm
    have qu := Rat.mul_pos qp up
    exact ⟨by show 0 ≤ f m - _; grind, fun _ => rpos_ne fp, by show f m - _ ≤ _; grind⟩
  · have : left f s q m = f m := by show f m - q * strandF s 1 m = f m; rw [u3 hm]; grind
    rw [this]
    exact ⟨f0, id, Rat.le_refl⟩
theorem left_sign (F : Fits n f s) (L : Least n f s q) (nw : NtW n) {p : Str} (hp : p ∈ n.ps) :
    (chg s p = 0 ∧ osum n.ws (left f s q) p = osum n.ws f p) ∨ (bgn s = some p ∧ ¬ fin s = some p ∧ osum n.ws f p < 0 ∧ osum n.ws (left f s q) p = osum n.ws f p + q ∧ osum n.ws (left f s q) p ≤ 0) ∨
    (fin s = some p ∧ ¬ bgn s = some p ∧ 0 < osum n.ws f p ∧ osum n.ws (left f s q) p = osum n.ws f p - q * gainW s.path ∧ 0 ≤ osum n.ws (left f s q) p) := by
  have e := left_over (q := q) F nw.ok p
  rcases chg_cases F nw p with h | ⟨a, a', h, k⟩ | ⟨a, a', h, k⟩
  · rw [h] at e
    exact .inl ⟨h, by grind⟩
  · have l := L.l2 p hp (by rw [h]; decide)
    rw [h] at e l
    rw [Rat.div_def, inv_m1] at l
    exact .inr (.inl ⟨a, a', k, by grind, by grind⟩)
  · have gp := path_pos F.sv nw
    have l := L.l2 p hp (by rw [h]; exact rpos_ne gp)
    rw [h] at e l
    have l := (le_div_iff' gp).mp l
    exact .inr (.inr ⟨a, a', k, by grind, by grind⟩)
end
end GH
end
section
set_option maxRecDepth 100000
/-! What is left, in sizes. -/
namespace GH
open PySem PySem.Spec PyProof.Rows L2 GM
theorem cast_abs {j : Int} (h : 0 < j) : ((j.natAbs : Nat) : Rat) = (j : Rat) := nat_int h
theorem int_pos {j : Int} (h : (0 : Rat) < (j : Rat)) : 0 < j := Rat.intCast_lt_intCast (a := 0) |>.mp h
section
variable {n : Nt} {f : Str → Rat} {s : Sd} {q : Rat} {D : Nat}
theorem left_mono (S : St n f D) (F : Fits n f s) (L : Least n f s q) (nw : NtW n) : mu n (left f s q) ≤ mu n f ∧ mp n (left f s q) ≤ mp n f := by
  refine ⟨filter_le fun w _ h => ?_, filter_le fun p hp h => ?_⟩
  · exact decide_eq_true ((left_nn S F L nw w.name).2.1 (of_decide_eq_true h))
  · refine decide_eq_true ?_
    have h := of_decide_eq_true h
    rcases left_sign F L nw hp with ⟨_, e⟩ | ⟨_, _, k, _⟩ | ⟨_, _, k, _⟩
    · rw [← e]; exact h
    · exact fun z => by rw [z] at k; exact absurd k Rat.lt_irrefl
    · exact fun z => by rw [z] at k; exact absurd k Rat.lt_irrefl
theorem dv_nat {D : Nat} {x : Rat} {k : Int} (h : x * (D : Rat) = (k : Rat)) : Dv D x := ⟨k, h⟩
/-- q is not too great -/
theorem least_ab (S : St n f D) (F : Fits n f s) (L : Least n f s q) (nw : NtW n) {M : Nat} (T : Tight s M) : Ab (2 ^ 10000 * 2 ^ 110) q := by
  obtain ⟨m, hm⟩ := List.exists_mem_of_ne_nil _ F.ne
  have up := (strand_pos F.sv nw (x := 1) (by decide) m).2.1 hm
  have qp := least_pos F L nw
  obtain ⟨j, ej, hj⟩ := T.num m
  have Mp : (0 : Rat) < (M : Rat) := Rat.natCast_lt_natCast (a := 0) |>.mpr T.pos
  have jp : 0 < j := int_pos (by rw [← ej]; exact Rat.mul_pos up Mp)
  have j1 : (1 : Rat) ≤ (j : Rat) := Rat.intCast_le_intCast (a := 1) |>.mpr (by omega)
  have l := (le_div_iff' up).mp (L.l1 m hm)
  have a1 := Rat.mul_le_mul_of_nonneg_left j1 (Rat.le_of_lt qp)
  have a2 := Rat.mul_le_mul_of_nonneg_right l (Rat.le_of_lt Mp)
  have a3 := Rat.mul_le_mul_of_nonneg_right (S.ab m) (Rat.le_of_lt Mp)
  have Ml : (M : Rat) ≤ ((2 ^ 110 : Nat) : Rat) := Rat.natCast_le_natCast.mpr T.le
  have V0 : (0 : Rat) ≤ ((2 ^ 10000 : Nat) : Rat) := Rat.natCast_nonneg
  have a4 := Rat.mul_le_mul_of_nonneg_left Ml V0
  refine Ab.of_nonneg (Rat.le_of_lt qp) ?_
  rw [Rat.natCast_mul]
  generalize ((2 ^ 10000 : Nat) : Rat) = A at *
  generalize ((2 ^ 110 : Nat) : Rat) = B at *
  rw [← ej] at a1
  grind
theorem chg_int (F : Fits n f s) (nw : NtW n) {p : Str} (h : chg s p ≠ 0) : ∃ c : Int, c ≠ 0 ∧ c.natAbs ≤ 2 ^ 30 ∧ chg s p * (gd s.path : Rat) = (c : Rat) := by
  obtain ⟨wh, wp, wt⟩ := F.sv.wy nw
  obtain ⟨lh, lp, lt⟩ := F.sv.len nw.ok
  have gp : ∀ w ∈ s.path, 0 < w.gain := fun w h => (wp w h).pos
  have b2 : gd s.path ≤ 2 ^ 30 := pw_le (gd_le wp) (by omega)
  have n2 : nn s.path ≤ 2 ^ 30 := pw_le (nn_le wp) (by omega)
  have d0 := gd_pos s.path
  have n0 := nn_pos gp
  rcases chg_cases F nw p with e | ⟨_, _, e, _⟩ | ⟨_, _, e, _⟩
  · exact absurd e h
  · refine ⟨-((gd s.path : Nat) : Int), by omega, by omega, ?_⟩
    rw [e, Rat.intCast_neg]
    show (-1 : Rat) * _ = -((gd s.path : Nat) : Rat)
    grind
  · exact ⟨((nn s.path : Nat) : Int), by omega, by omega, by rw [e]; exact gain_nn gp⟩
theorem left_St (S : St n f D) (F : Fits n f s) (L : Least n f s q) (nw : NtW n) : ∃ D', St n (left f s q) D' ∧ SX D' (2 ^ 10000 * 2 ^ 110) q ∧ mu n (left f s q) + mp n (left f s q) < mu n f + mp n f := by
  obtain ⟨M, T⟩ := unit_tight F.sv nw
  obtain ⟨m1, m2⟩ := left_mono S F L nw
  have qab := least_ab S F L nw T
  have Mp : (0 : Rat) < (M : Rat) := Rat.natCast_lt_natCast (a := 0) |>.mpr T.pos
  have mu12 : mu n f ≤ 12 := Nat.le_trans (mu_le n f) nw.ok.w12
  have mp4 : mp n f ≤ 4 := Nat.le_trans (mp_le n f) nw.ok.p4
  have lnn := left_nn S F L nw
  have mk : ∀ D', 0 < D' → D' ≤ 2 ^ (600 + 116 * (12 - mu n (left f s q)) + 262 * (4 - mp n (left f s q))) → Dv D' q → (∀ m, Dv D' (left f s q m)) → St n (left f s q) D' ∧ SX D' (2 ^ 10000 * 2 ^ 110) q := fun D' p l dq df => by
    have st : St n (left f s q) D' := ⟨fun m => (lnn m).1, fun m h => S.sup m ((lnn m).2.1 h), p, l, df, fun m => by
      have a := (lnn m).2.2
      have b := S.ab m
      generalize ((2 ^ 10000 : Nat) : Rat) = A at *
      grind⟩
    exact ⟨st, p, pw_le st.D (by decide), Nat.le_trans (Nat.le_of_eq (by rw [← Nat.pow_add])) (Nat.pow_le_pow_right (by decide) (by decide)), dq, qab⟩
  rcases L.eq with ⟨m0, hm, eq⟩ | ⟨p, hp, hc, eq⟩
  · have up := (strand_pos F.sv nw (x := 1) (by decide) m0).2.1 hm
    obtain ⟨j, ej, hj⟩ := T.num m0
    have jp : 0 < j := int_pos (by rw [← ej]; exact Rat.mul_pos up Mp)
    have qu : q * strandF s 1 m0 = f m0 := by rw [eq]; exact mul_div_self (rpos_ne up)
    have z0 : left f s q m0 = 0 := by show f m0 - q * strandF s 1 m0 = 0; rw [qu]; grind
    have lt : mu n (left f s q) < mu n f := by
      obtain ⟨w, hw, ew⟩ := List.mem_map.mp (S.sup m0 (rpos_ne (F.pos m0 hm)))
      refine filter_lt (fun w _ h => decide_eq_true ((lnn w.name).2.1 (of_decide_eq_true h))) hw ?_ ?_
      · rw [ew]; exact decide_eq_true (rpos_ne (F.pos m0 hm))
      · rw [ew]; exact decide_eq_false fun z => z z0
    have cj := cast_abs jp
    obtain ⟨k, ek⟩ := S.dv m0
    have eqj : q * (j : Rat) = f m0 * (M : Rat) := by rw [← ej, ← qu]; grind
    obtain ⟨st, sx⟩ := mk (D * j.natAbs) (Nat.mul_pos S.pos (by omega)) (pw_mul S.le hj (by omega)) (by
        refine dv_nat (k := k * M) ?_
        rw [Rat.natCast_mul, cj, Rat.intCast_mul, ← ek]
        show _ = _ * ((M : Nat) : Rat)
        grind) (fun m => by
        obtain ⟨i, ei, _⟩ := T.num m
        refine (S.dv m).mono.sub (dv_nat (k := k * i) ?_)
        rw [Rat.natCast_mul, cj, Rat.intCast_mul, ← ek, ← ei]
        grind)
    exact ⟨_, st, sx, by omega⟩
  · obtain ⟨c, c0, cl, ec⟩ := chg_int F nw hc
    have qc : q * chg s p = osum n.ws f p := by rw [eq]; exact mul_div_self hc
    have z0 : osum n.ws (left f s q) p = 0 := by rw [left_over F nw.ok, qc]; grind
    have ov : osum n.ws f p ≠ 0 := by
      rcases chg_cases F nw p with e | ⟨_, _, _, k⟩ | ⟨_, _, _, k⟩
      · exact absurd e hc
      · exact fun z => by rw [z] at k; exact absurd k Rat.lt_irrefl
      · exact rpos_ne k
    have lt : mp n (left f s q) < mp n f := by
      refine filter_lt (fun p hp h => ?_) hp (decide_eq_true ov) (decide_eq_false fun z => z z0)
      refine decide_eq_true ?_
      have h := of_decide_eq_true h
      rcases left_sign F L nw hp with ⟨_, e⟩ | ⟨_, _, k, _⟩ | ⟨_, _, k, _⟩
      · rw [← e]; exact h
      · exact fun z => by rw [z] at k; exact absurd k Rat.lt_irrefl
      · exact fun z => by rw [z] at k; exact absurd k Rat.lt_irrefl
    have dO : Dv (D * gd n.ws) (osum n.ws f p) := by
      have : ∀ m, Dv D (f m) ∧ Ab (2 ^ 10000) (f m) := fun m => ⟨S.dv m, Ab.of_nonneg (S.nn m) (S.ab m)⟩
      exact (osum_sz nw.wy (fun w h => h) this p).1
    have G120 := gd120 nw.wy nw.ok.w12
    have dq : Dv (D * gd n.ws * c.natAbs) q := by
      obtain ⟨k, ek⟩ := dO
      have e1 : q * (c : Rat) * ((D * gd n.ws : Nat) : Rat) = (k : Rat) * (gd s.path : Rat) := by rw [← ec, ← ek, ← qc]; grind
      rcases Int.lt_or_gt_of_ne c0 with h | h
      · refine dv_nat (k := -(k * gd s.path)) ?_
        have cn : ((c.natAbs : Nat) : Rat) = -(c : Rat) := by
          have := cast_abs (j := -c) (by omega)
          rw [Int.natAbs_neg, Rat.intCast_neg] at this
          exact this
        rw [Rat.natCast_mul, cn, Rat.intCast_neg, Rat.intCast_mul]
        show _ = -(_ * ((gd s.path : Nat) : Rat))
        rw [← e1]; grind
      · refine dv_nat (k := k * gd s.path) ?_
        rw [Rat.natCast_mul, cast_abs h, Rat.intCast_mul]
        show _ = _ * ((gd s.path : Nat) : Rat)
        rw [← e1]; grind
    obtain ⟨st, sx⟩ := mk (D * gd n.ws * c.natAbs * M) (Nat.mul_pos (Nat.mul_pos (Nat.mul_pos S.pos (gd_pos _)) (by omega)) T.pos) (pw_mul (pw_mul (pw_mul S.le G120 (Nat.le_refl _)) cl (Nat.le_refl _)) T.le (by omega)) dq.mono (fun m => by
        refine Dv.sub ?_ ?_
        · exact (S.dv m).of_dvd ⟨gd n.ws * c.natAbs * M, by ac_rfl⟩
        · obtain ⟨i, ei, _⟩ := T.num m
          exact dq.mul ⟨i, ei⟩)
    exact ⟨_, st, sx, by omega⟩
end
end GH
end
section
set_option maxRecDepth 100000
/-! The strands taken off so far. -/
namespace GH
open PySem PySem.Spec PyProof.Rows L2 GM
def sumS : List (Sd × Rat) → Str → Rat
  | [], _ => 0
  | t :: r, m => strandF t.1 t.2 m + sumS r m
def sumB : List (Sd × Rat) → Str → Rat
  | [], _ => 0
  | t :: r, p => (if bgn t.1 = some p then t.2 else 0) + sumB r p
def sumE : List (Sd × Rat) → Str → Rat
  | [], _ => 0
  | t :: r, p => (if fin t.1 = some p then t.2 * gainW t.1.path else 0) + sumE r p
theorem sumS_snoc (ss : List (Sd × Rat)) (t : Sd × Rat) (m : Str) : sumS (ss ++ [t]) m = sumS ss m + strandF t.1 t.2 m := by
  induction ss with
  | nil => show _ + 0 = 0 + _; grind
  | cons a r ih => show _ + sumS (r ++ [t]) m = _ + sumS r m + _; rw [ih]; grind
theorem sumB_snoc (ss : List (Sd × Rat)) (t : Sd × Rat) (m : Str) : sumB (ss ++ [t]) m = sumB ss m + (if bgn t.1 = some m then t.2 else 0) := by
  induction ss with
  | nil => show _ + 0 = 0 + _; grind
  | cons a r ih => show _ + sumB (r ++ [t]) m = _ + sumB r m + _; rw [ih]; grind
theorem sumE_snoc (ss : List (Sd × Rat)) (t : Sd × Rat) (m : Str) : sumE (ss ++ [t]) m = sumE ss m + (if fin t.1 = some m then t.2 * gainW t.1.path else 0) := by
  induction ss with
  | nil => show _ + 0 = 0 + _; grind
  | cons a r ih => show _ + sumE (r ++ [t]) m = _ + sumE r m + _; rw [ih]; grind
def mx (x : Rat) : Rat := if 0 < x then x else 0
theorem mx_pos {x : Rat} (h : 0 ≤ x) : mx x = x := by unfold mx; split <;> grind
theorem mx_neg {x : Rat} (h : x ≤ 0) : mx x = 0 := by unfold mx; split <;> grind
structure Acc (n : Nt) (f0 f : Str → Rat) (ss : List (Sd × Rat)) : Prop where
  tot : ∀ m, f0 m = f m + sumS ss m
  beg : ∀ p ∈ n.ps, mx (-osum n.ws f0 p) = mx (-osum n.ws f p) + sumB ss p
  en : ∀ p ∈ n.ps, mx (osum n.ws f0 p) = mx (osum n.ws f p) + sumE ss p
  ok : ∀ t ∈ ss, SV n t.1 ∧ 0 < t.2 ∧ ∃ D V, SX D V t.2
  len : ss.length + (mu n f + mp n f) ≤ 16
theorem Acc.nil {n : Nt} (ok : NtOk n) (f : Str → Rat) : Acc n f f [] :=
  ⟨fun m => by show _ = _ + (0 : Rat); grind, fun p _ => by show _ = _ + (0 : Rat); grind, fun p _ => by show _ = _ + (0 : Rat); grind, (fun t h => nomatch h), by
    have h1 := mu_le n f
    have h2 := mp_le n f
    have := ok.w12
    have := ok.p4
    show 0 + _ ≤ _
    omega⟩
theorem Acc.snoc {n : Nt} {f0 f : Str → Rat} {ss : List (Sd × Rat)} {s : Sd} {q : Rat} {D : Nat} (A : Acc n f0 f ss) (S : St n f D) (F : Fits n f s) (L : Least n f s q) (nw : NtW n) : ∃ D', St n (left f s q) D' ∧ Acc n f0 (left f s q) (ss ++ [(s, q)]) := by
  obtain ⟨D', st, sx, lt⟩ := left_St S F L nw
  have qp := least_pos F L nw
  refine ⟨D', st, fun m => ?_, fun p hp => ?_, fun p hp => ?_, fun t ht => ?_, ?_⟩
  · rw [sumS_snoc, A.tot m, strand_lin]
    show _ = f m - q * strandF s 1 m + _
    grind
  · rw [sumB_snoc, A.beg p hp]
    rcases left_sign F L nw hp with ⟨c, e⟩ | ⟨b, nf, k, e, l⟩ | ⟨b, nb, k, e, l⟩
    · rw [e]
      have nb : ¬ bgn s = some p := fun z => by
        have h1 := (F.bg p z).1
        have h2 : ¬ fin s = some p := fun y => by have := (F.en p y).1; grind
        unfold chg at c
        rw [if_neg h2, if_pos z] at c
        grind
      rw [if_neg nb]; grind
    · rw [if_pos b, mx_pos (by grind), mx_pos (by grind), e]
      show _ = _ + (_ + q)
      grind
    · rw [if_neg nb, mx_neg (by grind), mx_neg (by grind)]; grind
  · rw [sumE_snoc, A.en p hp]
    rcases left_sign F L nw hp with ⟨c, e⟩ | ⟨b, nf, k, e, l⟩ | ⟨b, nb, k, e, l⟩
    · rw [e]
      have nb : ¬ fin s = some p := fun z => by
        have h1 := (F.en p z).1
        have h2 : ¬ bgn s = some p := fun y => by have := (F.bg p y).1; grind
        have gp := path_pos F.sv nw
        unfold chg at c
        rw [if_pos z, if_neg h2] at c
        grind
      rw [if_neg nb]; grind
    · rw [if_neg nf, mx_neg (by grind), mx_neg (by grind)]; grind
    · rw [if_pos b, mx_pos (by grind), mx_pos (by grind), e]
      show _ = _ + (_ + q * gainW s.path)
      grind
  · rcases List.mem_append.mp ht with h | h
    · exact A.ok t h
    · rw [List.mem_singleton.mp h]
      exact ⟨F.sv, qp, D', _, sx⟩
  · have := A.len
    rw [List.length_append, List.length_singleton]
    omega
/-- nothing is left -/
structure Done (n : Nt) (f0 : Str → Rat) (ss : List (Sd × Rat)) : Prop where
  tot : ∀ m, f0 m = sumS ss m
  beg : ∀ p ∈ n.ps, mx (-osum n.ws f0 p) = sumB ss p
  en : ∀ p ∈ n.ps, mx (osum n.ws f0 p) = sumE ss p
  ok : ∀ t ∈ ss, SV n t.1 ∧ 0 < t.2 ∧ ∃ D V, SX D V t.2
  len : ss.length ≤ 16
theorem Acc.done {n : Nt} {f0 f : Str → Rat} {ss : List (Sd × Rat)} (A : Acc n f0 f ss) (h : ∀ m, f m = 0) : Done n f0 ss := by
  have o : ∀ p, osum n.ws f p = 0 := fun p => (osum_congr (g := fun _ => 0) fun w _ => h w.name).trans (osum_zero n.ws p)
  have m0 : mx 0 = 0 := mx_neg Rat.le_refl
  refine ⟨fun m => ?_, fun p hp => ?_, fun p hp => ?_, A.ok, by have := A.len; omega⟩
  · rw [A.tot m, h m]; grind
  · rw [A.beg p hp, o p, show (-(0 : Rat)) = 0 by grind, m0]; grind
  · rw [A.en p hp, o p, m0]; grind
/-- the worth of all, strand by strand -/
theorem worth_sum (ws : List (Wy Str)) (ss : List (Sd × Rat)) : worthF ws (sumS ss) = sumL (ss.map fun t => worthF ws (strandF t.1 t.2)) := by
  have go : ∀ (ss : List (Sd × Rat)) (a : Rat), (ss.map fun t => worthF ws (strandF t.1 t.2)).foldl (· + ·) a = a + worthF ws (sumS ss) := by
    intro ss
    induction ss with
    | nil =>
      intro a
      have : worthF ws (sumS []) = 0 := worth_zero ws
      show a = a + worthF ws (sumS [])
      rw [this]; grind
    | cons t r ih =>
      intro a
      have : worthF ws (sumS (t :: r)) = worthF ws (strandF t.1 t.2) + worthF ws (sumS r) := worth_add ws _ _
      rw [List.map_cons, List.foldl_cons, ih, this]; grind
  show _ = List.foldl _ 0 _
  rw [go]; grind
end GH
end
section
set_option maxRecDepth 100000
/-! What is in use; the least limit. -/
namespace GH
open PySem PySem.Spec PyProof.Rows L2 GM
abbrev sIU : Stmt := topS 49
abbrev sPF : Stmt := topS 50
abbrev sOO : Stmt := topS 51
abbrev sOS : Stmt := topS 52
abbrev sLL : Stmt := topS 53
abbrev sTA : Stmt := topS 54
def spIU (c : Cl) : Sp := fun vs H Q _ => ∃ (G : Hp) (x y : V) (n : Nt) (l : Pl), vs = [x, y] ∧ Same G H ∧ NetAt c G x n ∧ NtOk n ∧ DctE (Fr c) G y l ∧ (keys l).Nodup ∧ (∀ k ∈ keys l, k ∈ names n.ws) ∧ (∀ p ∈ l, 0 ≤ p.2) ∧
  Ret G H Q (fun v G' => ∃ m, DctE (Fr c) G' v m ∧ PlF m (amt l))
def spLL (c : Cl) : Sp := fun vs H Q _ => ∃ (G : Hp) (x : V) (qs : List Rat), vs = [x] ∧ Same G H ∧ LstAt (Fr c) G x qs ∧ qs ≠ [] ∧ (∀ q ∈ qs, Bd q) ∧ Ret G H Q (fun v G' => ∃ q ∈ qs, Fr c G' v q ∧ ∀ r ∈ qs, q ≤ r)
section
variable {P : Program} {w : World} {K : PySem.W.Frag} {mg : Str → Option Value} {base : Heap} {c : Cl} {f : Addr} {fd : FuncData}
theorem sgn_lt {a : Rat} (h : 0 ≤ a) : decide (sgn a < 0) = false := by
  refine decide_eq_false fun z => ?_
  unfold sgn at z
  split at z
  · omega
  · split at z
    · grind
    · omega
theorem sgn_gt {a : Rat} : decide (0 < sgn a) = decide (0 < a) := by
  refine decide_eq_decide.mpr ?_
  unfold sgn
  constructor
  · intro h
    split at h
    · assumption
    · split at h <;> omega
  · intro h
    rw [if_pos h]; decide
theorem names_way {ws : List (Wy Str)} {k : Str} (h : k ∈ names ws) : ∃ w ∈ ws, w.name = k := by
  obtain ⟨w, h1, h2⟩ := List.mem_map.mp h
  exact ⟨w, h1, h2⟩
theorem scIU : FnScope ["net", "plan", "kept", "name", "way"] ["net", "plan"] (defScope sIU) := ⟨rfl, rfl, rfl, by decide +kernel, rfl, by decide +kernel, by decide +kernel⟩
theorem ok_iu (F : FnP K "in_use" "in_use" sIU f fd) (T : Txt K mg c) (M : FrM P w K mg base c) (N : NtM P w K mg base c) : FnOk P w K mg base CX0 5 f fd ["net", "plan"] (spIU c) := by
  refine F.ok scIU (fun vs H Q E h => ?_) (fun cdv A outer s H vs Q E hr h => ?_)
  · obtain ⟨G, x, y, n, l, rfl, _⟩ := h
    rfl
  · obtain ⟨G, x, y, n, l, rfl, s, hn, nok, hl, nd, sub, nn, k⟩ := h
    refine ⟨_, PSs.nox (pss_cons (ps_set (i := 2) scIU.nd rfl (Or.inl rfl) pe_dnewK)
      (pss_cons (ps_lock (ps_for PassesOwn.never rfl (pi_keys (pv 1)) (pg_name (i := 3) scIU.nd rfl (Or.inl rfl))
        (pss_cons (ps_set (i := 4) scIU.nd rfl (Or.inl rfl) (pe_m T.clN N.way (hr.mono (by decide)) (pv 0) (pa_cons (pv 3) pa_nil)))
        (pss_cons (ps_if (pt_cmpR op_lt (pe_m0 T.clF M.sign (hr.mono (by decide)) (pe_dget (hu_of hr) (pv 1) (pv 3) (fun _ _ => rfl))) pe_int (nomark _)) pss_never pss_nil)
        (pss_one (ps_if (pt_cmpR op_gt (pe_m0 T.clF M.sign (hr.mono (by decide)) (pe_dget (hu_of hr) (pv 1) (pv 3) (fun _ _ => rfl))) pe_int (nomark _))
          (pss_one (ps_dput (hu_of hr) (pv 2) (pe_f (pv 4)) (pe_dget (hu_of hr) (pv 1) (pv 3) (fun _ _ => rfl)) rfl)) pss_nil))))))
      (pss_one (ps_ret (pv 2))))), ?_⟩
    intro d hd
    have e0 := Ext.tmp (o := .dK []) s hd
    have o0 := Own.nil (R := Fr c) s hd
    obtain ⟨a, kvs, rfl, hk, hp⟩ := id hl
    refine ⟨a, _, e0.gh _ _ hk, trivial, fun od => ?_⟩
    have sL := same_upd (p := a) (o := lck od kvs) e0.gh
    refine ⟨_, rfl, a, od, rfl, .inl ⟨kvs, upd_same, ?_⟩⟩
    have ad : d ≠ a := fun z => by have := Same.free s hd; rw [z, hk] at this; cases this
    have hdL : upd H a (lck od kvs) d = none := by rw [upd_ne ad]; exact hd
    have eL : Ext (upd G a (lck od kvs)) (upd H a (lck od kvs)) (upd G a (lck od kvs)) (upd (upd H d (.dK [])) a (lck od kvs)) := by
      rw [upd_two (Ne.symm ad)]
      exact Ext.tmp (same_upd s) hdL
    have ol := o0.turn (a := a) (o' := lck od kvs) hk (lock_sm hk)
    have lm := lock_sm (od := od) hk
    refine for_keys (l := l) hp (fun i σ H' => ∃ G' v3 v4 m, σ = [some x, some (.ref a), some (.ref d), v3, v4] ∧ Ext (upd G a (lck od kvs)) (upd H a (lck od kvs)) G' H' ∧ Own (Fr c) G' H' d m ∧ Told m ((keys l).take i) (amt l))
      ⟨_, none, none, [], rfl, eL, ol, Told.nil _⟩ (fun i σ H' _ z => ?_) (fun i pr σ H' hi z => ?_) (fun σ H' z => ?_)
    · obtain ⟨G', v3, v4, m, _, e, _⟩ := z
      exact (unl s hk e).1
    · obtain ⟨G', v3, v4, m, rfl, e, o, t⟩ := z
      have mem := List.mem_of_getElem? hi
      have mk : pr.1 ∈ keys l := List.mem_map.mpr ⟨pr, mem, rfl⟩
      have av : amt l pr.1 = pr.2 := amt_mem nd mem
      have el : lk l pr.1 = some pr.2 := lk_of_mem nd mem
      obtain ⟨wy, mw, ew⟩ := names_way (sub _ mk)
      have hnL := NetAt.mono (lm) hn
      have hnG := hnL.up' e.g
      refine ⟨_, rfl, hnG.ins e.gh, _, rfl, G', x, n, wy, by rw [ew], e.gh, hnG, nok, mw, fun v5 G5 H5 e5 h5 => ?_⟩
      have hl5 := (hl.at.up Fr.mono lm).up Fr.mono (same_sm (e.g.trans e5.g))
      obtain ⟨a1, u1, ea1, g1, r1⟩ := hl5.get e5.gh el
      have nn0 := nn _ mem
      refine ⟨_, rfl, _, rfl, a1, u1, ea1, g1, r1.ins e5.gh, G5, u1, _, rfl, e5.gh, r1, _, _, rfl, rfl, _, rfl, ?_⟩
      rw [sgn_lt nn0]
      refine iteF ⟨_, rfl, _, rfl, a1, u1, ea1, g1, r1.ins e5.gh, G5, u1, _, rfl, e5.gh, r1, _, _, rfl, rfl, _, rfl, ?_⟩
      have tk : (keys l).take (i + 1) = (keys l).take i ++ [pr.1] := take_succ_of (by unfold keys; rw [List.getElem?_map, hi]; rfl)
      rw [sgn_gt]
      have o5 := o.ext Fr.mono e5
      by_cases pz : 0 < pr.2
      · have hlen : m.length < sizeLine := line100 (by
          have := t.lenle
          have h2 := List.length_take_le' i (keys l)
          have h3 := pigeon nd sub
          rw [keys_len] at h2 h3
          rw [names_len] at h3
          have := nok.w12
          omega)
        obtain ⟨H7, dp, o7, u7, eo⟩ := o5.put (k := pr.1) r1 hlen
        have e7 := (e.trans e5).wr (o := u7) hdL o5.choose_spec.1
        rw [← eo] at e7
        refine iteDT pz ⟨_, rfl, _, rfl, a1, u1, ea1, g1, _, rfl, _, rfl, _, h5.name T e5.gh, d, H7, rfl, by rw [ew]; exact dp, G5, _, _, _, rfl, e7, o7, ?_⟩
        rw [tk, ← av]
        exact t.add (by rw [av]; exact rpos_ne pz)
      · refine iteDF pz ⟨G5, _, _, _, rfl, e.trans e5, o5, ?_⟩
        rw [tk]
        exact t.skip (by rw [av]; grind)
    · obtain ⟨G', v3, v4, m, rfl, e, o, t⟩ := z
      obtain ⟨q1, q2, q3⟩ := unl s hk e
      rw [← keys_len, List.take_length] at t
      have g1 : G' a = some (lck od kvs) := e.g a _ upd_same
      have o2 := o.turn (a := a) (o' := .dK kvs) g1 q3
      obtain ⟨G2, e2, hD, _⟩ := o2.doneE Fr.mono s q2 hd
      exact ⟨q1, _, rfl, k _ _ _ e2 ⟨m, hD, t.plf fun q hq => amt_none hq⟩⟩
theorem scLL : FnScope ["some", "found", "other"] ["some"] (defScope sLL) := ⟨rfl, rfl, rfl, by decide +kernel, rfl, by decide +kernel, by decide +kernel⟩
theorem ok_ll (F : FnP K "least_limit" "least_limit" sLL f fd) (T : Txt K mg c) (M : FrM P w K mg base c) : FnOk P w K mg base CX0 2 f fd ["some"] (spLL c) := by
  refine F.ok scLL (fun vs H Q E h => ?_) (fun cdv A outer s H vs Q E hr h => ?_)
  · obtain ⟨G, x, qs, rfl, _⟩ := h
    rfl
  · obtain ⟨G, x, qs, rfl, s, hq, ne, bd, k⟩ := h
    refine ⟨_, PSs.nox (pss_cons (ps_set (i := 1) scLL.nd rfl (Or.inl rfl) (pe_ix ix_list (pv 0) pe_int (fun _ _ => rfl)))
      (pss_cons (ps_for PassesOwn.never rfl (pi_list (pv 0)) (pg_name (i := 2) scLL.nd rfl (Or.inl rfl))
        (pss_one (ps_if (pt_val (pe_m T.clF M.under hr (pv 2) (pa_cons (pv 1) pa_nil))) (pss_one (ps_set (i := 1) scLL.nd rfl (Or.inl rfl) (pv 2))) pss_nil)))
      (pss_one (ps_ret (pv 1))))), ?_⟩
    obtain ⟨q0, r0, eq⟩ : ∃ q0 r0, qs = q0 :: r0 := by
      cases qs with
      | nil => exact absurd rfl ne
      | cons a b => exact ⟨a, b, rfl⟩
    obtain ⟨a, vs, rfl, hv, hp⟩ := id hq
    obtain ⟨v0, hv0, r⟩ := paired_get' hp 0 q0 (by rw [eq]; rfl)
    have at0 : atI vs 0 = some v0 := by
      unfold atI ixN
      rw [if_pos (by decide), if_pos (by have := (List.getElem?_eq_some_iff.mp hv0).1; omega)]
      exact hv0
    refine ⟨_, rfl, a, vs, 0, v0, rfl, rfl, SqL.of (s _ _ hv), at0, _, rfl, ?_⟩
    refine for_lst (R := Fr c) Fr.mono hq (Same.refl G) (Ext.refl s) (fun i σ G' H' => ∃ v1 v2 q, σ = [some (.ref a), some v1, v2] ∧ Fr c G' v1 q ∧ q ∈ qs ∧ ∀ r ∈ qs.take i, q ≤ r) ⟨v0, none, q0, rfl, r, by rw [eq]; exact List.mem_cons_self, fun r h => by simp at h⟩ (fun i q u σ G2 H2 hi hu sl e z => ?_) (fun σ G2 H2 sl e z => ?_)
    · obtain ⟨v1, v2, q1, rfl, h1, m1, l1⟩ := z
      have mq := List.mem_of_getElem? hi
      refine ⟨_, rfl, hu.ins e.gh, _, rfl, G2, u, v1, q, q1, rfl, e.gh, hu, h1, bd q mq, bd q1 m1, _, rfl, ?_⟩
      by_cases lt : q < q1
      · refine iteDT lt ⟨_, rfl, G2, sl, e, _, _, q, rfl, hu, mq, fun r hr => ?_⟩
        rw [take_succ_of hi] at hr
        rcases List.mem_append.mp hr with hr | hr
        · have := l1 r hr; grind
        · rw [List.mem_singleton.mp hr]; exact Rat.le_refl
      · refine iteDF lt ⟨G2, sl, e, _, _, q1, rfl, h1, m1, fun r hr => ?_⟩
        rw [take_succ_of hi] at hr
        rcases List.mem_append.mp hr with hr | hr
        · exact l1 r hr
        · rw [List.mem_singleton.mp hr]; grind
    · obtain ⟨v1, v2, q, rfl, h1, m1, l1⟩ := z
      rw [List.take_length] at l1
      exact ⟨_, rfl, k _ _ _ e ⟨q, m1, h1, l1⟩⟩
end
end GH
end
section
set_option maxRecDepth 100000
/-! Paths from a place. -/
namespace GH
open PySem PySem.Spec PyProof.Rows L2 GM
abbrev Rt := List (Str × List (Wy Str))
def nmR (R : Rt) : List (Str × List Str) := R.map fun t => (t.1, names t.2)
theorem nmR_keys (R : Rt) : keys (nmR R) = keys R := by unfold keys nmR; rw [List.map_map]; rfl
theorem nmR_len (R : Rt) : (nmR R).length = R.length := by unfold nmR; rw [List.length_map]
theorem nmR_lk {R : Rt} {k : Str} {u : List (Wy Str)} (h : lk R k = some u) : lk (nmR R) k = some (names u) := by
  induction R with
  | nil => cases h
  | cons p r ih =>
    by_cases e : p.1 = k
    · rw [lk_pos e] at h
      cases h
      exact lk_pos (p := (p.1, names p.2)) e
    · rw [lk_neg e] at h
      rw [← ih h]
      exact lk_neg (p := (p.1, names p.2)) e
/-- each place found, and a simple walk to it -/
structure Pth (us : List (Wy Str)) (a : Str) (R : Rt) : Prop where
  nd : (keys R).Nodup
  hat : a ∈ keys R
  walk : ∀ t ∈ R, Walk a t.2 t.1
  sim : ∀ t ∈ R, (a :: goals t.2).Nodup
  inn : ∀ t ∈ R, ∀ q ∈ a :: goals t.2, q ∈ keys R
  sub : ∀ t ∈ R, ∀ w ∈ t.2, w ∈ us
theorem Pth.one (us : List (Wy Str)) (a : Str) : Pth us a [(a, [])] := by
  refine ⟨by simp, by simp, ?_, ?_, ?_, ?_⟩
  · intro t ht; rw [List.mem_singleton.mp ht]; rfl
  · intro t ht; rw [List.mem_singleton.mp ht]; simp
  · intro t ht q hq; rw [List.mem_singleton.mp ht] at hq; simpa using hq
  · intro t ht w hw; rw [List.mem_singleton.mp ht] at hw; cases hw
theorem Pth.add {us : List (Wy Str)} {a : Str} {R : Rt} (P : Pth us a R) {w : Wy Str} {u : List (Wy Str)} (hw : w ∈ us) (hu : lk R w.start = some u) (hg : w.goal ∉ keys R) : Pth us a (R ++ [(w.goal, u ++ [w])]) := by
  have mem := lk_mem hu
  have kk : keys (R ++ [(w.goal, u ++ [w])]) = keys R ++ [w.goal] := by unfold keys; rw [List.map_append]; rfl
  have gg : a :: goals (u ++ [w]) = (a :: goals u) ++ [w.goal] := by unfold goals; rw [List.map_append]; rfl
  refine ⟨?_, ?_, fun t ht => ?_, fun t ht => ?_, fun t ht q hq => ?_, fun t ht v hv => ?_⟩
  · rw [kk, List.nodup_append]
    exact ⟨P.nd, by simp, fun x hx y hy => by rw [List.mem_singleton.mp hy]; exact fun e => hg (e ▸ hx)⟩
  · rw [kk]; exact List.mem_append_left _ P.hat
  · rcases List.mem_append.mp ht with h | h
    · exact P.walk t h
    · rw [List.mem_singleton.mp h]; exact walk_snoc (P.walk _ mem) rfl
  · rcases List.mem_append.mp ht with h | h
    · exact P.sim t h
    · rw [List.mem_singleton.mp h]
      show (a :: goals (u ++ [w])).Nodup
      rw [gg, List.nodup_append]
      exact ⟨P.sim _ mem, by simp, fun x hx y hy => by rw [List.mem_singleton.mp hy]; exact fun e => hg (e ▸ P.inn _ mem x hx)⟩
  · rw [kk]
    rcases List.mem_append.mp ht with h | h
    · exact List.mem_append_left _ (P.inn t h q hq)
    · rw [List.mem_singleton.mp h] at hq
      have hq : q ∈ a :: goals (u ++ [w]) := hq
      rw [gg] at hq
      rcases List.mem_append.mp hq with z | z
      · exact List.mem_append_left _ (P.inn _ mem q z)
      · exact List.mem_append_right _ z
  · rcases List.mem_append.mp ht with h | h
    · exact P.sub t h v hv
    · rw [List.mem_singleton.mp h] at hv
      have hv : v ∈ u ++ [w] := hv
      rcases List.mem_append.mp hv with z | z
      · exact P.sub _ mem v z
      · rw [List.mem_singleton.mp z]; exact hw
theorem Pth.len {us : List (Wy Str)} {a : Str} {R : Rt} {n : Nt} (P : Pth us a R) (ok : NtOk n) (ha : a ∈ n.ps) (hs : ∀ w ∈ us, w ∈ n.ws) : R.length ≤ n.ps.length := by
  have := pigeon P.nd (ps := n.ps) fun q hq => by
    obtain ⟨t, ht, e⟩ := List.mem_map.mp hq
    have w := P.walk t ht
    have : t.1 ∈ a :: goals t.2 := List.mem_of_getLast? (walk_last w)
    rw [e] at this
    rcases List.mem_cons.mp this with z | z
    · rw [z]; exact ha
    · obtain ⟨v, hv, ez⟩ := List.mem_map.mp z
      rw [← ez]; exact ok.go v (hs v (P.sub t ht v hv))
  rwa [keys_len] at this
def Closed (us : List (Wy Str)) (R : Rt) : Prop := ∀ w ∈ us, w.start ∈ keys R → w.goal ∈ keys R
def spPF (c : Cl) : Sp := fun vs H Q _ => ∃ (G : Hp) (x y : V) (a : Str) (n : Nt) (us : List (Wy Str)), vs = [x, y, .str a] ∧ Same G H ∧ NetAt c G x n ∧ NtOk n ∧ LstAt StrAt G y (names us) ∧ (∀ w ∈ us, w ∈ n.ws) ∧ us.length ≤ 20 ∧ a ∈ n.ps ∧
  Ret G H Q (fun v G' => ∃ R, DctE (LstAt StrAt) G' v (nmR R) ∧ Pth us a R ∧ Closed us R)
theorem LstAt.monoS : Mono (LstAt StrAt) := LstAt.mono (R := StrAt) StrAt.mono
theorem isSome_keys {α : Type} {l : List (Str × α)} {k : Str} : (lk l k).isSome = decide (k ∈ keys l) := by
  by_cases h : k ∈ keys l
  · obtain ⟨x, e⟩ := lk_some h
    rw [e, decide_eq_true h]; rfl
  · rw [lk_none.mpr h, decide_eq_false h]; rfl
section
variable {P : Program} {w : World} {K : PySem.W.Frag} {mg : Str → Option Value} {base : Heap} {c : Cl} {f : Addr} {fd : FuncData}
theorem scPF : FnScope ["net", "names", "place", "ways", "paths", "size", "way", "name"] ["net", "names", "place"] (defScope sPF) := ⟨rfl, rfl, rfl, by decide +kernel, rfl, by decide +kernel, by decide +kernel⟩
theorem ok_pf (F : FnP K "paths_from" "paths_from" sPF f fd) (T : Txt K mg c) (N : NtM P w K mg base c) : FnOk P w K mg base CX0 2 f fd ["net", "names", "place"] (spPF c) := by
  refine F.ok scPF (fun vs H Q E h => ?_) (fun cdv A outer s H vs Q E hr h => ?_)
  · obtain ⟨G, x, y, a, n, us, rfl, _⟩ := h
    rfl
  · obtain ⟨G, x, y, a, n, us, rfl, s, hn, nok, hy, us0, ul, ha, k⟩ := h
    refine ⟨_, PSs.nox (pss_cons (ps_k (ps_setLc (i := 3) (own := [("name", 7)]) (g := gName 7) (tt := tYes) (te := tM c.N "way" (spWay c) (tVar 0) (tCons (tVar 7) tNil)) rfl scPF.nd rfl rfl (sw_true rfl rfl rfl (by decide +kernel)) (pi_list (pv 1)) (blkOk_by (N := ["net", "names", "place", "ways", "paths", "size", "way", "name"]) (sc := defScope sPF) (by decide +kernel))
          (fun _ _ _ _ _ => pg_name (i := 7) scPF.nd rfl (Or.inl rfl)) (fun _ _ _ _ _ => pts_nil) (fun _ _ _ _ _ => pe_m T.clN N.way hr (pv 0) (pa_cons (pv 7) pa_nil))))
      (pss_cons (ps_set (i := 4) scPF.nd rfl (Or.inl rfl) (pe_disp (pps_cons (pv 2) (pe_lst pa_nil) pps_nil) rfl rfl (by simp) (by decide)))
      (pss_cons (ps_set (i := 5) scPF.nd rfl (Or.inl rfl) pe_int)
      (pss_cons (ps_while PassesOwn.never (pt_cmpR op_ne (pv 5) (pe_callB call_lenD (by rfl) T.len PySem.boot_len (pa_cons (pv 4) pa_nil)) (nomark _))
        (pss_cons (ps_set (i := 5) scPF.nd rfl (Or.inl rfl) (pe_callB call_lenD (by rfl) T.len PySem.boot_len (pa_cons (pv 4) pa_nil)))
        (pss_one (ps_for PassesOwn.never rfl (pi_list (pv 3)) (pg_name (i := 6) scPF.nd rfl (Or.inl rfl))
          (pss_one (ps_if (pw_and (pt_cmp (pc_din (hu_of hr) (pe_f (pv 6)) (pv 4)) (by rfl)) (pw_and1 (pt_cmp (pc_dnotin (hu_of hr) (pe_f (pv 6)) (pv 4)) (by rfl)))).pt
            (pss_one (ps_dput (hu_of hr) (pv 4) (pe_f (pv 6)) (pe_op op_cat (pe_dget (hu_of hr) (pv 4) (pe_f (pv 6)) (fun _ _ => rfl)) (pe_lst (pa_cons (pe_f (pv 6)) pa_nil))) rfl)) pss_nil))))))
      (pss_one (ps_ret (pv 4))))))), ?_⟩
    refine ⟨_, rfl, ?_⟩
    refine lc_lst (R := StrAt) (S := WayAt c) StrAt.mono WayAt.mono hy (Same.refl _) s (Ext.refl s) (by rw [names_len]; omega) (fun i => us.take i) rfl (fun i nm u G2 H2 hi hu sl e Yes No hy _ => ?_) (fun v3 G3 H3 sl e h3 => ?_)
    · obtain ⟨wy, hw, rfl⟩ := names_get hi
      have hu : u = .str wy.name := hu
      subst hu
      have hn2 := hn.up' e.g
      refine ⟨rfl, lc_yes ⟨_, rfl, hn2.ins e.gh, _, rfl, G2, x, n, wy, rfl, e.gh, hn2, nok, us0 _ (List.mem_of_getElem? hw), fun v3 G3 H3 e3 h3 => hy _ _ _ wy e3 h3 (take_succ_of hw)⟩⟩
    rw [names_len, List.take_length] at h3
    intro d hd
    have e1 := e.trans (Ext.tmp (o := .dK []) e.gh hd)
    have hdH : H d = none := e.free hd
    refine ⟨_, rfl, Nat.zero_le _, fun q nq => ?_⟩
    have qd : d ≠ q := fun z => by rw [← z, upd_same] at nq; cases nq
    have i2 := Ext.imm (p := q) (o := .lst []) e1.gh nq
    have e2 := e1.trans i2
    have gd : (upd G3 q (.lst [])) d = none := by rw [upd_ne qd]; exact Same.free e.gh hd
    refine ⟨by rw [upd_ne qd, upd_same], [(.inr a, .ref q)], rfl, (by show 1 ≤ 15; decide), ?_⟩
    have e3 := e2.wr (o := .dK [(.inr a, .ref q)]) hdH gd
    have o3 : Own (LstAt StrAt) (upd G3 q (.lst [])) (upd (upd (upd H3 d (.dK [])) q (.lst [])) d (.dK [(.inr a, .ref q)])) d (nmR [(a, [])]) := ⟨_, gd, upd_same, .cons ⟨rfl, q, [], rfl, upd_same, .nil⟩ .nil⟩
    have h3 := h3.up WayAt.mono (same_sm i2.g)
    refine ⟨fun m σ H' => ∃ (G' : Hp) (R : Rt) (sz : Nat) (v6 : Option V), σ = [some x, some y, some (.str a), some v3, some (.ref d), some (.int (sz : Int)), v6, none] ∧ Same (upd G3 q (.lst [])) G' ∧ Ext G H G' H' ∧ Own (LstAt StrAt) G' H' d (nmR R) ∧ Pth us a R ∧ (sz = R.length → Closed us R) ∧ m = 2 * (10 - R.length) + (if sz = R.length then 0 else 1),
      ⟨_, _, [(a, [])], 0, none, rfl, Same.refl _, e3, o3, Pth.one us a, (fun z => by cases z), rfl⟩, fun m σ H' iv => ?_⟩
    obtain ⟨G', R, sz, v6, rfl, sl, e, o, P0, cl, rfl⟩ := iv
    obtain ⟨kvs, gk, hk, pk⟩ := id o
    have lk : kvs.length = R.length := by rw [paired_len pk, nmR_len]
    have Rl := P0.len nok ha us0
    have p4 := nok.p4
    refine ⟨_, rfl, _, rfl, d, kvs, rfl, hk, rfl, _, rfl, ?_⟩
    rw [lk]
    by_cases z : sz = R.length
    · have : (!decide (V.int ((sz : Nat) : Int) = V.int ((R.length : Nat) : Int))) = false := by rw [z, decide_eq_true rfl]; rfl
      rw [this]
      obtain ⟨G2, e2, hD, _⟩ := o.doneE LstAt.monoS s e hdH
      exact iteF ⟨_, rfl, k _ _ _ e2 ⟨R, hD, P0, cl z⟩⟩
    · have : (!decide (V.int ((sz : Nat) : Int) = V.int ((R.length : Nat) : Int))) = true := by
        rw [decide_eq_false (fun y => z (by injection y with y; omega))]; rfl
      rw [this]
      refine iteT ⟨fun σ' H'' => ∃ (G' : Hp) (R' : Rt) (v6 : Option V), σ' = [some x, some y, some (.str a), some v3, some (.ref d), some (.int (R.length : Int)), v6, none] ∧ Same (upd G3 q (.lst [])) G' ∧ Ext G H G' H'' ∧ Own (LstAt StrAt) G' H'' d (nmR R') ∧ Pth us a R' ∧ R.length ≤ R'.length ∧ (R.length = R'.length → Closed us R'),
        fun σ' H'' ⟨G', R', v6, q1, q2, q3, q4, q5, q6, q7⟩ => ⟨2 * (10 - R'.length) + (if R.length = R'.length then 0 else 1), ?_, G', R', R.length, v6, q1, q2, q3, q4, q5, q7, rfl⟩, ?_⟩
      · have := q5.len nok ha us0
        rw [if_neg z]
        split <;> omega
      · refine ⟨_, rfl, d, kvs, rfl, hk, ?_⟩
        rw [lk]
        refine ⟨_, rfl, ?_⟩
        refine for_lst (R := WayAt c) WayAt.mono (h3.up WayAt.mono (same_sm sl)) (Same.refl G') e (fun i σ G' H' => ∃ (R' : Rt) (v6 : Option V), σ = [some x, some y, some (.str a), some v3, some (.ref d), some (.int (R.length : Int)), v6, none] ∧ Own (LstAt StrAt) G' H' d (nmR R') ∧ Pth us a R' ∧ (∃ ex, R' = R ++ ex) ∧ ∀ w ∈ us.take i, w.start ∈ keys R → w.goal ∈ keys R')
          ⟨R, v6, rfl, o, P0, ⟨[], by simp⟩, fun w h => by simp at h⟩ (fun i wy u σ G2 H2 hi hu sl2 e2 iv => ?_) (fun σ G2 H2 sl2 e2 iv => ?_)
        · obtain ⟨R', v6, rfl, o, P1, ⟨ex, eR⟩, cc⟩ := iv
          have mu := List.mem_of_getElem? hi
          obtain ⟨r1, g1, so1⟩ := o.isIn wy.start
          obtain ⟨r2, g2, so2⟩ := o.isIn wy.goal
          rw [isSome_keys, nmR_keys] at so1 so2
          have kk : keys R' = keys R ++ keys ex := by rw [eR]; unfold keys; rw [List.map_append]
          have stay : (wy.start ∈ keys R → wy.goal ∈ keys R') → ∀ w ∈ us.take (i + 1), w.start ∈ keys R → w.goal ∈ keys R' := fun z w hw => by
            rw [take_succ_of hi] at hw
            rcases List.mem_append.mp hw with hw | hw
            · exact cc w hw
            · rw [List.mem_singleton.mp hw]; exact z
          refine ⟨_, rfl, _, hu.start T e2.gh, _, rfl, d, r1, rfl, g1, _, rfl, ?_⟩
          rw [so1]
          by_cases hs1 : wy.start ∈ keys R'
          · refine iteDT hs1 ⟨_, rfl, _, hu.goal T e2.gh, _, rfl, d, r2, rfl, g2, _, rfl, ?_⟩
            rw [so2]
            by_cases hg1 : wy.goal ∈ keys R'
            · rw [decide_eq_true hg1]
              exact iteF ⟨G2, sl2, e2, R', _, rfl, o, P1, ⟨ex, eR⟩, stay fun _ => hg1⟩
            · rw [decide_eq_false hg1]
              obtain ⟨ux, eu⟩ := lk_some hs1
              obtain ⟨u1, g3, r3⟩ := o.get (nmR_lk eu)
              obtain ⟨b, zs, rfl, hz, pz⟩ := id r3
              refine iteT ⟨_, rfl, _, rfl, _, hu.start T e2.gh, d, _, rfl, g3, _, rfl, _, hu.name T e2.gh, by show 1 ≤ sizeLine; decide, fun p np => ?_⟩
              have e5 := Ext.imm (p := p) (o := .lst [.str wy.name]) e2.gh np
              have mem := lk_mem eu
              have ln : zs.length ≤ 10 := by
                rw [paired_len pz, names_len]
                have := pigeon (P1.sim _ mem) (ps := n.ps) fun q hq => by
                  rcases List.mem_cons.mp hq with z | z
                  · rw [z]; exact ha
                  · obtain ⟨v, hv, ez⟩ := List.mem_map.mp z
                    rw [← ez]; exact nok.go v (us0 v (P1.sub _ mem v hv))
                simp [goals] at this
                omega
              refine ⟨b, p, zs, _, rfl, rfl, e5.h _ _ (e2.gh _ _ hz), upd_same, ?_, fun t nt => ?_⟩
              · show zs.length + 1 ≤ sizeLine
                exact Nat.le_of_lt (line100 (by omega))
              have e6 := e5.trans (Ext.imm (p := t) (o := .lst (zs ++ [.str wy.name])) e5.gh nt)
              have o6 := o.ext LstAt.monoS e6
              have hu6 := WayAt.mono (same_sm e6.g) hu
              have r6 : LstAt StrAt (upd (upd G2 p (.lst [.str wy.name])) t (.lst (zs ++ [.str wy.name]))) (.ref t) (names (ux ++ [wy])) := by
                refine ⟨t, _, rfl, upd_same, ?_⟩
                have : names (ux ++ [wy]) = names ux ++ [wy.name] := by unfold names; rw [List.map_append]; rfl
                rw [this]
                exact paired_append (Paired.imp (fun _ _ z => z) pz) (.cons rfl .nil)
              have hlen : (nmR R').length < sizeLine := by rw [nmR_len]; exact line100 (by have := P1.len nok ha us0; omega)
              obtain ⟨H7, dp, o7, u7, eo⟩ := o6.put (k := wy.goal) r6 hlen
              have e7 := (e2.trans e6).wr (o := u7) hdH o6.choose_spec.1
              rw [← eo] at e7
              rw [put_new (by rw [nmR_keys]; exact hg1)] at o7
              refine ⟨_, rfl, _, rfl, _, hu6.goal T e6.gh, d, H7, rfl, dp, _, sl2.trans e6.g, e7, R' ++ [(wy.goal, ux ++ [wy])], _, rfl, ?_, P1.add mu eu hg1, ⟨ex ++ [(wy.goal, ux ++ [wy])], by rw [eR, List.append_assoc]⟩, fun w hw hs => ?_⟩
              · unfold nmR at o7 ⊢
                rw [List.map_append]; exact o7
              · have k2 : keys (R' ++ [(wy.goal, ux ++ [wy])]) = keys R' ++ [wy.goal] := by unfold keys; rw [List.map_append]; rfl
                rw [k2]
                rw [take_succ_of hi] at hw
                rcases List.mem_append.mp hw with hw | hw
                · exact List.mem_append_left _ (cc w hw hs)
                · rw [List.mem_singleton.mp hw]; exact List.mem_append_right _ (List.mem_singleton.mpr rfl)
          · refine iteDF hs1 (iteF ⟨G2, sl2, e2, R', _, rfl, o, P1, ⟨ex, eR⟩, stay fun z => absurd (by rw [kk]; exact List.mem_append_left _ z) hs1⟩)
        · obtain ⟨R', v6, rfl, o, P1, ⟨ex, eR⟩, cc⟩ := iv
          rw [List.take_length] at cc
          refine ⟨G2, R', v6, rfl, sl.trans sl2, e2, o, P1, by rw [eR, List.length_append]; omega, fun z => ?_⟩
          have ex0 : ex = [] := by
            rw [eR, List.length_append] at z
            exact List.length_eq_zero_iff.mp (by omega)
          rw [ex0, List.append_nil] at eR
          intro w hw hs
          exact cc w hw (by rw [← eR]; exact hs)
end
end GH
end
section
set_option maxRecDepth 100000
/-! A strand out of a place. -/
namespace GH
open PySem PySem.Spec PyProof.Rows L2 GM
/-- three lists -/
def L3At : Rl Sd := fun G v s => ∃ a v0 v1 v2, v = .ref a ∧ G a = some (.tup [v0, v1, v2]) ∧ LstAt StrAt G v0 (names s.head) ∧ LstAt StrAt G v1 (names s.path) ∧ LstAt StrAt G v2 (names s.tail)
theorem L3At.mono : Mono L3At := fun {G G' v x} s h => by
  obtain ⟨a, v0, v1, v2, e, h1, h2, h3, h4⟩ := h
  exact ⟨a, v0, v1, v2, e, s.tup h1, h2.up StrAt.mono s, h3.up StrAt.mono s, h4.up StrAt.mono s⟩
/-- where a strand may begin -/
def Head (n : Nt) (f : Str → Rat) (a : Str) (hs : List (Wy Str)) : Prop := (hs = [] ∧ osum n.ws f a < 0) ∨ (Ring a hs ∧ 1 < gainW hs ∧ ∀ w ∈ hs, w ∈ used n.ws f)
/-- the ways in use -/
structure Uses (n : Nt) (f : Str → Rat) (us : List (Wy Str)) : Prop where
  mem : ∀ w, w ∈ us ↔ w ∈ used n.ws f
  len : us.length ≤ 12
theorem Uses.sub {n : Nt} {f : Str → Rat} {us : List (Wy Str)} (u : Uses n f us) : ∀ w ∈ us, w ∈ n.ws := fun w h => (used_mem.mp ((u.mem w).mp h)).1
theorem used_pos {n : Nt} {f : Str → Rat} {D : Nat} (S : St n f D) {w : Wy Str} (h : w ∈ used n.ws f) : 0 < f w.name := by
  have h1 := (used_mem.mp h).2
  have h2 := S.nn w.name
  grind
def spOO (c : Cl) : Sp := fun vs H Q _ => ∃ (G : Hp) (x y z h : V) (a : Str) (n : Nt) (f : Str → Rat) (us hs : List (Wy Str)) (D : Nat), vs = [x, y, z, h, .str a] ∧ Same G H ∧ NetAt c G x n ∧ NtW n ∧ LstAt StrAt G y (names us) ∧ Uses n f us ∧ St n f D ∧ DctAt (Fr c) G z (tab n.ps (osum n.ws f)) ∧
  LstAt StrAt G h (names hs) ∧ a ∈ n.ps ∧ Head n f a hs ∧ Ret G H Q (fun v G' => ∃ s, L3At G' v s ∧ Fits n f s)
theorem ring_len10 {n : Nt} (ok : NtOk n) {a : Str} {us : List (Wy Str)} (r : Ring a us) (hs : ∀ w ∈ us, w ∈ n.ws) : us.length ≤ 10 := Nat.le_trans (ring_len ok r hs) (by decide)
theorem plc_nd {a b : Str} {us : List (Wy Str)} (h : Walk a us b) (nd : (a :: goals us).Nodup) : (plc us).Nodup := by
  cases us with
  | nil => exact List.nodup_nil
  | cons u r => rw [walk_plc h (by simp)]; exact nd
/-- the strand found fits -/
theorem fits_mk {n : Nt} {f : Str → Rat} {a b : Str} {hs u rg : List (Wy Str)} {D : Nat} (nw : NtW n) (S : St n f D) (ha : a ∈ n.ps) (hb : b ∈ n.ps) (hh : Head n f a hs) (hu : Walk a u b) (nd : (a :: goals u).Nodup) (us : ∀ w ∈ u, w ∈ used n.ws f)
    (ht : (rg = [] ∧ 0 < osum n.ws f b) ∨ (Ring b rg ∧ gainW rg < 1 ∧ ∀ w ∈ rg, w ∈ used n.ws f)) : Fits n f ⟨hs, u, rg⟩ := by
  have ok := nw.ok
  have sh : ∀ w ∈ hs, w ∈ used n.ws f := by
    rcases hh with ⟨e, _⟩ | ⟨_, _, h⟩
    · rw [e]; exact fun w h => nomatch h
    · exact h
  have st : ∀ w ∈ rg, w ∈ used n.ws f := by
    rcases ht with ⟨e, _⟩ | ⟨_, _, h⟩
    · rw [e]; exact fun w h => nomatch h
    · exact h
  have n0 : ¬ (hs = [] ∧ u = [] ∧ rg = []) := fun z => by
    obtain ⟨z1, z2, z3⟩ := z
    rcases hh with ⟨_, o1⟩ | ⟨r, _, _⟩
    · rcases ht with ⟨_, o2⟩ | ⟨r, _, _⟩
      · rw [z2] at hu
        have hu : a = b := hu
        rw [hu] at o1; grind
      · exact r.ne z3
    · exact r.ne z1
  have rd : Road ⟨hs, u, rg⟩ a b := by
    refine ⟨?_, hu, plc_nd hu nd, ?_, n0⟩
    · rcases hh with ⟨e, _⟩ | ⟨r, g, _⟩
      · exact .inl e
      · exact .inr ⟨r, g⟩
    · rcases ht with ⟨e, _⟩ | ⟨r, g, _⟩
      · exact .inl e
      · exact .inr ⟨r, g⟩
  have toW : ∀ {l : List (Wy Str)}, (∀ w ∈ l, w ∈ used n.ws f) → ∀ w ∈ l, w ∈ n.ws := fun h w hw => (used_mem.mp (h w hw)).1
  have lu : u.length ≤ 10 := by
    have := pigeon nd (ps := n.ps) fun q hq => by
      rcases List.mem_cons.mp hq with z | z
      · rw [z]; exact ha
      · obtain ⟨w, hw, e⟩ := List.mem_map.mp z
        rw [← e]; exact ok.go w (toW us w hw)
    simp [goals] at this
    have := ok.p4
    omega
  refine ⟨⟨toW sh, toW us, toW st, ?_, lu, ?_, .inr ⟨a, b, rd⟩⟩, fun m hm => ?_, fun z => ?_, fun p hp => ?_, fun p hp => ?_⟩
  · rcases hh with ⟨e, _⟩ | ⟨r, _, _⟩
    · show hs.length ≤ 10; rw [e]; exact Nat.zero_le _
    · exact ring_len10 ok r (toW sh)
  · rcases ht with ⟨e, _⟩ | ⟨r, _, _⟩
    · show rg.length ≤ 10; rw [e]; exact Nat.zero_le _
    · exact ring_len10 ok r (toW st)
  · have go : ∀ {l : List (Wy Str)}, (∀ w ∈ l, w ∈ used n.ws f) → m ∈ names l → 0 < f m := fun h z => by
      obtain ⟨w, hw, e⟩ := List.mem_map.mp z
      rw [← e]; exact used_pos S (h w hw)
    rcases List.mem_append.mp hm with z | z
    · rcases List.mem_append.mp z with z | z
      · exact go sh z
      · exact go us z
    · exact go st z
  · apply n0
    unfold Sd.names at z
    rw [List.append_eq_nil_iff, List.append_eq_nil_iff] at z
    have go : ∀ {l : List (Wy Str)}, names l = [] → l = [] := fun h => List.map_eq_nil_iff.mp h
    exact ⟨go z.1.1, go z.1.2, go z.2⟩
  · rw [rd.bgn] at hp
    rcases hh with ⟨e, o⟩ | ⟨r, _, _⟩
    · rw [if_pos e] at hp; cases hp; exact ⟨o, ha⟩
    · rw [if_neg r.ne] at hp; cases hp
  · rw [rd.fin] at hp
    rcases ht with ⟨e, o⟩ | ⟨r, _, _⟩
    · rw [if_pos e] at hp; cases hp; exact ⟨o, hb⟩
    · rw [if_neg r.ne] at hp; cases hp
/-- some place reached has too much, or a ring eats -/
theorem never_even {n : Nt} {f v : Str → Rat} {a : Str} {hs : List (Wy Str)} {R : List Str} {D : Nat} (nw : NtW n) (S : St n f D) (ha : a ∈ n.ps) (aR : a ∈ R) (hh : Head n f a hs) (cl : ∀ w ∈ used n.ws f, w.start ∈ R → w.goal ∈ R) (vp : ∀ p, 0 < v p)
    (ht : ∀ w ∈ used n.ws f, w.start ∈ R → v w.start ≤ w.gain * v w.goal) (ho : ∀ p ∈ n.ps, p ∈ R → osum n.ws f p ≤ 0) : False := by
  obtain ⟨h1, h2⟩ := no_weights (R := fun p => p ∈ R) nw.ok S.nn vp cl ht (fun w hw => (nw.wy w hw).pos) ho
  rcases hh with ⟨_, o⟩ | ⟨r, g, su⟩
  · have := h2 a ha aR
    rw [this] at o; exact absurd o Rat.lt_irrefl
  · have go : ∀ {us : List (Wy Str)} {x y : Str}, Walk x us y → x ∈ R → (∀ w ∈ us, w ∈ used n.ws f) → ∀ w ∈ us, w.start ∈ R := by
      intro us
      induction us with
      | nil => intro x y _ _ _ w h; cases h
      | cons u t ih =>
        intro x y hw hx hs w h
        have us : u.start ∈ R := by rw [hw.1]; exact hx
        rcases List.mem_cons.mp h with e | h
        · rw [e]; exact us
        · exact ih hw.2 (cl u (hs u List.mem_cons_self) us) (fun w hw => hs w (List.mem_cons_of_mem _ hw)) w h
    have ev := walk_even r.walk (v := v) fun w hw => h1 w (su w hw) (go r.walk aR su w hw)
    have := vp a
    have : (gainW hs - 1) * v a = 0 := by grind
    rcases Rat.mul_eq_zero.mp this with h | h
    · grind
    · grind
end GH
end
section
set_option maxRecDepth 100000
/-! out_of. -/
namespace GH
open PySem PySem.Spec PyProof.Rows L2 GM
theorem names_filter_take {us : List (Wy Str)} {P : Wy Str → Bool} {i : Nat} {w : Wy Str} (h : us[i]? = some w) : names ((us.take (i + 1)).filter P) = if P w = true then names ((us.take i).filter P) ++ [w.name] else names ((us.take i).filter P) := by
  rw [take_succ_of h, List.filter_append]
  split
  · rename_i p
    rw [List.filter_cons_of_pos p]
    unfold names
    rw [List.map_append]; rfl
  · rename_i p
    rw [List.filter_cons_of_neg p]
    rw [List.filter_nil, List.append_nil]
section
variable {P : Program} {w : World} {K : PySem.W.Frag} {mg : Str → Option Value} {base : Heap} {c : Cl} {f : Addr} {fd : FuncData}
theorem scOO : FnScope ["net", "names", "over", "head", "place", "paths", "goal", "near", "found", "name"] ["net", "names", "over", "head", "place"] (defScope sOO) := ⟨rfl, rfl, rfl, by decide +kernel, rfl, by decide +kernel, by decide +kernel⟩
theorem ok_oo (F : FnP K "out_of" "out_of" sOO f fd) (T : Txt K mg c) (M : FrM P w K mg base c) (N : NtM P w K mg base c) (S1 : Fn P w K mg base "paths_from" 2 ["net", "names", "place"] [] (spPF c)) (S2 : Fn P w K mg base "eating" 9 ["net", "names"] [] (spMkE c false)) :
    FnOk P w K mg base CX0 10 f fd ["net", "names", "over", "head", "place"] (spOO c) := by
  refine F.ok scOO (fun vs H Q E h => ?_) (fun cdv A outer s H vs Q E hr h => ?_)
  · obtain ⟨G, x, y, z, h, a, n, f, us, hs, D, rfl, _⟩ := h
    rfl
  · obtain ⟨G, x, y, z, hh, a, n, am, us, hs, D, rfl, s, hn, nw, hy, uu, st, hz, hhs, ha, hd, k⟩ := h
    refine ⟨_, PSs.nox (pss_cons (ps_set (i := 5) scOO.nd rfl (Or.inr rfl) (pe_fn S1 (hr.mono (by decide)) (by rfl) (pa_cons (pv 0) (pa_cons (pv 1) (pa_cons (pv 4) pa_nil)))))
      (pss_cons (ps_lock (ps_for PassesOwn.never rfl (pi_keys (pv 5)) (pg_name (i := 6) scOO.nd rfl (Or.inl rfl))
        (pss_one (ps_if (pt_cmpR op_gt (pe_m0 T.clF M.sign (hr.mono (by decide)) (pe_dget (hu_of hr) (pv 2) (pv 6) (fun _ _ => rfl))) pe_int (nomark _))
          (pss_one (ps_ret (pe_tup (pa_cons (pv 3) (pa_cons (pe_dget (hu_of hr) (pv 5) (pv 6) (fun _ _ => rfl)) (pa_cons (pe_lst pa_nil) pa_nil)))))) pss_nil))))
      (pss_cons (ps_k (ps_setLc (i := 7) (own := [("name", 9)]) (g := gName 9) (tt := tB (tDIn (tF K (tM c.N "way" (spWay c) (tVar 0) (tCons (tVar 9) tNil)) "start") (tVar 5))) (te := tVar 9) rfl scOO.nd rfl rfl (sw_true rfl rfl rfl (by decide +kernel)) (pi_list (pv 1)) (blkOk_by (N := ["net", "names", "over", "head", "place", "paths", "goal", "near", "found", "name"]) (sc := defScope sOO) (by decide +kernel))
          (fun _ _ _ _ _ => pg_name (i := 9) scOO.nd rfl (Or.inl rfl)) (fun _ _ _ _ _ => pts_one (pt_cmp (pc_din (hu_of hr) (pe_f (pe_m T.clN N.way (hr.mono (by decide)) (pv 0) (pa_cons (pv 9) pa_nil))) (pv 5)) (by rfl))) (fun _ _ _ _ _ => pv 9)))
      (pss_cons (ps_set (i := 8) scOO.nd rfl (Or.inl rfl) (pe_fn S2 hr (by rfl) (pa_cons (pv 0) (pa_cons (pv 7) pa_nil))))
      (pss_cons (ps_if (pt_cmpR op_eq (pe_ix ix_tup (pv 8) pe_int (fun _ _ => rfl)) pe_str (nomark _))
        (pss_one (ps_ret (pe_tup (pa_cons (pv 3) (pa_cons (pe_dget (hu_of hr) (pv 5) (pe_f (pe_m T.clN N.way (hr.mono (by decide)) (pv 0) (pa_cons (pe_ix ix_list (pe_ix ix_tup (pv 8) pe_int (fun _ _ => rfl)) pe_int (fun _ _ => rfl)) pa_nil))) (fun _ _ => rfl)) (pa_cons (pe_ix ix_tup (pv 8) pe_int (fun _ _ => rfl)) pa_nil)))))) pss_nil)
      (pss_never)))))), ?_⟩
    have us0 := uu.sub
    have ul := uu.len
    refine ⟨_, rfl, _, rfl, _, rfl, G, x, y, a, n, us, rfl, s, hn, nw.ok, hy, us0, by omega, ha, fun v5 G5 H5 e5 ⟨R, hR, pR, cR⟩ => ?_⟩
    obtain ⟨d, kvs, rfl, hk, hp⟩ := id hR
    refine ⟨d, _, e5.gh _ _ hk, trivial, fun od => ?_⟩
    have sL := same_upd (p := d) (o := lck od kvs) e5.gh
    have lm := lock_sm (od := od) hk
    have Rps : ∀ q ∈ keys R, q ∈ n.ps := fun q hq => by
      obtain ⟨t, ht, e⟩ := List.mem_map.mp hq
      have : t.1 ∈ a :: goals t.2 := List.mem_of_getLast? (walk_last (pR.walk t ht))
      rw [e] at this
      rcases List.mem_cons.mp this with z | z
      · rw [z]; exact ha
      · obtain ⟨v, hv, ez⟩ := List.mem_map.mp z
        rw [← ez]; exact nw.ok.go v (us0 v (pR.sub t ht v hv))
    have pu : ∀ t ∈ R, ∀ w ∈ t.2, w ∈ used n.ws am := fun t ht w hw => (uu.mem w).mp (pR.sub t ht w hw)
    refine ⟨_, rfl, d, od, rfl, .inl ⟨kvs, upd_same, ?_⟩⟩
    refine for_keys (l := nmR R) hp (fun i σ H' => ∃ G' v6, σ = [some x, some y, some z, some hh, some (.str a), some (.ref d), v6, none, none, none] ∧ Ext (upd G5 d (lck od kvs)) (upd H5 d (lck od kvs)) G' H' ∧ ∀ q ∈ (keys R).take i, osum n.ws am q ≤ 0)
      ⟨_, none, rfl, Ext.refl sL, fun q h => by simp at h⟩ (fun i σ H' _ z => ?_) (fun i pr σ H' hi z => ?_) (fun σ H' z => ?_)
    · obtain ⟨G', v6, _, e, _⟩ := z
      exact (unl e5.gh hk e).1
    · obtain ⟨G', v6, rfl, e, nb⟩ := z
      have kp : (keys R)[i]? = some pr.1 := by rw [← nmR_keys]; unfold keys; rw [List.getElem?_map, hi]; rfl
      have mk := List.mem_of_getElem? kp
      have hzL := ((hz.up Fr.mono (same_sm e5.g)).up Fr.mono lm).up Fr.mono (same_sm e.g)
      obtain ⟨a1, u1, ea1, g1, r1⟩ := hzL.get e.gh (tab_lk (Rps _ mk))
      refine ⟨_, rfl, _, rfl, a1, u1, ea1, g1, r1.ins e.gh, G', u1, _, rfl, e.gh, r1, _, _, rfl, rfl, _, rfl, ?_⟩
      rw [sgn_gt]
      by_cases pz : 0 < osum n.ws am pr.1
      · obtain ⟨u, eu⟩ := lk_some mk
        have mem := lk_mem eu
        have hRL := (hR.at.up LstAt.monoS lm).up LstAt.monoS (same_sm e.g)
        obtain ⟨a2, u2, ea2, g2, r2⟩ := hRL.get e.gh (nmR_lk eu)
        refine iteDT pz ⟨_, rfl, _, rfl, _, rfl, a2, u2, ea2, g2, Nat.zero_le _, fun p np => ⟨by show 3 ≤ sizeLine; decide, fun t nt => ?_⟩⟩
        have i1 := Ext.imm (p := p) (o := .lst []) e.gh np
        have e1 := i1.trans (Ext.imm (p := t) (o := .tup [hh, u2, .ref p]) i1.gh nt)
        obtain ⟨q1, q2, q3⟩ := unl e5.gh hk (e.trans e1)
        refine ⟨q1, k _ _ _ (e5.trans q2) ⟨⟨hs, u, []⟩, ?_, fits_mk nw st ha (Rps _ mk) hd (pR.walk _ mem) (pR.sim _ mem) (pu _ mem) (.inl ⟨rfl, pz⟩)⟩⟩
        refine L3At.mono q3 ⟨t, hh, u2, .ref p, rfl, upd_same, ?_, r2.up StrAt.mono (same_sm e1.g), p, [], rfl, ?_, .nil⟩
        · exact ((hhs.up StrAt.mono (same_sm e5.g)).up StrAt.mono lm).up StrAt.mono (same_sm (e.trans e1).g)
        · rw [upd_ne (fun z => by rw [← z, upd_same] at nt; cases nt), upd_same]
      · refine iteDF pz ⟨G', _, rfl, e, fun q hq => ?_⟩
        rw [take_succ_of kp] at hq
        rcases List.mem_append.mp hq with hq | hq
        · exact nb q hq
        · rw [List.mem_singleton.mp hq]; grind
    · obtain ⟨G', v6, rfl, e, nb⟩ := z
      rw [nmR_len, ← keys_len, List.take_length] at nb
      obtain ⟨q1, q2, q3⟩ := unl e5.gh hk e
      refine ⟨q1, ?_⟩
      have eg := e5.trans q2
      -- near
      have hy1 := hy.up StrAt.mono (same_sm eg.g)
      have hR1 : DctAt (LstAt StrAt) _ (.ref d) (nmR R) := hR.at.up LstAt.monoS (same_sm q2.g)
      refine ⟨_, rfl, ?_⟩
      refine lc_lst (R := StrAt) (S := StrAt) StrAt.mono StrAt.mono hy1 (Same.refl _) s eg (by rw [names_len]; omega) (fun i => names ((us.take i).filter fun w => decide (w.start ∈ keys R))) rfl (fun i nm u G2 H2 hi hu sl e Yes No hY hN => ?_) (fun v7 G7 H7 sl7 e7 h7 => ?_)
      · obtain ⟨wy, hw, rfl⟩ := names_get hi
        have hu : u = .str wy.name := hu
        subst hu
        have mu := List.mem_of_getElem? hw
        have hn2 := hn.up' e.g
        refine ⟨rfl, _, rfl, hn2.ins e.gh, _, rfl, G2, x, n, wy, rfl, e.gh, hn2, nw.ok, us0 _ mu, fun v3 G3 H3 e3 h3 => ?_⟩
        obtain ⟨a2, r2, ea2, g2, so⟩ := (hR1.up LstAt.monoS (same_sm (sl.trans e3.g))).isIn e3.gh wy.start
        rw [isSome_keys, nmR_keys] at so
        refine ⟨_, h3.start T e3.gh, _, rfl, a2, r2, ea2, g2, _, rfl, ?_⟩
        rw [so]
        by_cases ik : wy.start ∈ keys R
        · refine iteDT ik ⟨_, rfl, hY _ _ _ wy.name e3 rfl ?_⟩
          show names ((us.take (i + 1)).filter _) = _
          rw [names_filter_take hw, if_pos (decide_eq_true ik)]
        · refine iteDF ik (hN _ _ e3 ?_)
          show names ((us.take (i + 1)).filter _) = _
          rw [names_filter_take hw, if_neg (fun z => ik (of_decide_eq_true z))]
      rw [names_len, List.take_length] at h7
      have nearU : ∀ w ∈ us.filter fun w => decide (w.start ∈ keys R), w ∈ us ∧ w.start ∈ keys R := fun w h => by
        obtain ⟨h1, h2⟩ := List.mem_filter.mp h
        exact ⟨h1, of_decide_eq_true h2⟩
      have nl : (us.filter fun w => decide (w.start ∈ keys R)).length ≤ 12 := Nat.le_trans (List.length_filter_le _ _) ul
      refine ⟨_, rfl, _, rfl, G7, x, v7, n, us.filter fun w => decide (w.start ∈ keys R), rfl, e7.gh, hn.up' e7.g, nw, h7, fun w h => us0 w (nearU w h).1, by omega, fun v8 G8 H8 e8 fnd => ?_⟩
      have e78 := e7.trans e8
      have hR8 := hR1.up LstAt.monoS (same_sm (sl7.trans e8.g))
      rcases fnd with ⟨rg, c0, ht, ring, rsub, rl, rb⟩ | ⟨Fv, ht, fo, nb2⟩
      · obtain ⟨t8, w1, w2, rfl, ht8, e1, hl8⟩ := ht
        have e1 : w1 = .str "ring" := e1
        subst e1
        have hT : ∀ {G' H'}, Ext G8 H8 G' H' → SqT K H' t8 [.str "ring", w2] := fun e => SqT.of (e.gh _ _ (e.g _ _ ht8))
        have r8 := Ext.refl e8.gh
        obtain ⟨w0, rt, erg⟩ : ∃ w0 rt, rg = w0 :: rt := by
          cases rg with
          | nil => exact absurd rfl ring.ne
          | cons a b => exact ⟨a, b, rfl⟩
        have m0 : w0 ∈ rg := by rw [erg]; exact List.mem_cons_self
        have w0s : w0.start = c0 := by have := ring.walk; rw [erg] at this; exact this.1
        obtain ⟨w0u, w0k⟩ := nearU w0 (rsub w0 m0)
        rw [w0s] at w0k
        obtain ⟨b2, vs2, rfl, hv2, hp2⟩ := id hl8
        have hs2 := strs_eq hp2
        subst hs2
        have at0 : atI ((names rg).map V.str) 0 = some (.str w0.name) := atI_str (i := 0) (by rw [erg]; rfl)
        refine ⟨_, rfl, t8, _, 0, _, rfl, rfl, hT r8, rfl, rfl, _, rfl, ?_⟩
        have hn8 := hn.up' e78.g
        refine iteDT rfl ⟨_, rfl, _, rfl, _, rfl, hn8.ins e8.gh, _, rfl, t8, _, 1, _, rfl, rfl, hT r8, rfl, b2, _, 0, _, rfl, rfl, SqL.of (e8.gh _ _ hv2), at0, G8, x, n, w0, rfl, e8.gh, hn8, nw.ok, us0 _ w0u, fun v9 G9 H9 e9 h9 => ?_⟩
        obtain ⟨u, eu⟩ := lk_some w0k
        have mem := lk_mem eu
        obtain ⟨a2, u2, ea2, g2, r2⟩ := (hR8.up LstAt.monoS (same_sm e9.g)).get e9.gh (nmR_lk eu)
        refine ⟨_, h9.start T e9.gh, a2, u2, ea2, by rw [w0s]; exact g2, _, rfl, t8, _, 1, _, rfl, rfl, hT e9, rfl, by show 3 ≤ sizeLine; decide, fun t nt => ?_⟩
        have e10 := e9.trans (Ext.imm (p := t) (o := .tup [hh, u2, .ref b2]) e9.gh nt)
        refine k _ _ _ (e78.trans e10) ⟨⟨hs, u, rg⟩, ⟨t, hh, u2, .ref b2, rfl, upd_same, hhs.up StrAt.mono (same_sm (e78.trans e10).g), r2.up StrAt.mono (same_sm (Ext.imm (p := t) (o := .tup [hh, u2, .ref b2]) e9.gh nt).g), hl8.up StrAt.mono (same_sm e10.g)⟩,
          fits_mk nw st ha (Rps _ w0k) hd (pR.walk _ mem) (pR.sim _ mem) (pu _ mem) (.inr ⟨ring, ?_, fun w hw => (uu.mem w).mp (nearU w (rsub w hw)).1⟩)⟩
        have rb : gainW rg < 1 := by
          unfold bt at rb
          simpa using rb
        exact rb
      · exfalso
        refine never_even (v := fun p => (Fv p).1) (R := keys R) nw st ha pR.hat hd (fun w hw hs => cR w ((uu.mem w).mpr hw) hs) (fun p => ?_) (fun w hw hs => ?_) (fun p hp hpR => nb p hpR)
        · show 0 < (Fv p).1
          rw [fo.val]
          exact gainW_pos fun w hw => (fo.wy p w hw).pos
        · have := nb2 w (List.mem_filter.mpr ⟨(uu.mem w).mpr hw, decide_eq_true hs⟩)
          unfold bt at this
          simp at this
          grind
end
end GH
end
section
set_option maxRecDepth 100000
/-! one_strand. -/
namespace GH
open PySem PySem.Spec PyProof.Rows L2 GM
def spOS (c : Cl) : Sp := fun vs H Q _ => ∃ (G : Hp) (x y z : V) (n : Nt) (f : Str → Rat) (us : List (Wy Str)) (D : Nat), vs = [x, y, z] ∧ Same G H ∧ NetAt c G x n ∧ NtW n ∧ LstAt StrAt G y (names us) ∧ Uses n f us ∧ us ≠ [] ∧ St n f D ∧ DctAt (Fr c) G z (tab n.ps (osum n.ws f)) ∧
  Ret G H Q (fun v G' => ∃ s, L3At G' v s ∧ Fits n f s)
theorem fits_even {n : Nt} {f : Str → Rat} {us rg : List (Wy Str)} {c0 : Str} {D : Nat} (nw : NtW n) (S : St n f D) (uu : Uses n f us) (r : Ring c0 rg) (hs : ∀ w ∈ rg, w ∈ us) (l : rg.length ≤ 10) (g : gainW rg = 1) : Fits n f ⟨rg, [], []⟩ := by
  have rd : Rond ⟨rg, [], []⟩ c0 := ⟨r, g, rfl, rfl⟩
  refine ⟨⟨fun w h => uu.sub w (hs w h), (fun w h => nomatch h), (fun w h => nomatch h), l, Nat.zero_le _, Nat.zero_le _, .inl ⟨c0, rd⟩⟩, fun m hm => ?_, fun z => ?_, fun p hp => ?_, fun p hp => ?_⟩
  · have hm : m ∈ names rg := by
      unfold Sd.names at hm
      simpa [names] using hm
    obtain ⟨w, hw, e⟩ := List.mem_map.mp hm
    rw [← e]
    exact used_pos S ((uu.mem w).mp (hs w hw))
  · apply r.ne
    unfold Sd.names at z
    have : names rg = [] := by simpa [names] using z
    exact List.map_eq_nil_iff.mp this
  · rw [rd.bgn] at hp; cases hp
  · rw [rd.fin] at hp; cases hp
theorem ev_ok {n : Nt} {f v : Str → Rat} {us : List (Wy Str)} {D : Nat} (nw : NtW n) (S : St n f D) (uu : Uses n f us) (ne : us ≠ []) (vp : ∀ p, 0 < v p) (vb : ∀ p, Be (v p)) (ht : ∀ w ∈ us, ¬ bt true (w.gain * v w.goal) (v w.start)) (ho : ∀ p ∈ n.ps, 0 ≤ osum n.ws f p) : EvOk n us v := by
  obtain ⟨h1, h2⟩ := even_all nw.ok S.nn vp (fun w hw => by
    have := ht w ((uu.mem w).mpr hw)
    unfold bt at this
    simp at this
    grind) ho
  refine ⟨uu.sub, by have := uu.len; omega, fun w hw => h1 w ((uu.mem w).mp hw), fun w hw => ?_, ne, vp, vb⟩
  apply Classical.byContradiction
  intro k
  have hwu := (uu.mem w).mp hw
  have k' : w.goal ∉ starts (used n.ws f) := fun z => by
    obtain ⟨u, hu, e⟩ := List.mem_map.mp z
    exact k (List.mem_map.mpr ⟨u, (uu.mem u).mpr hu, e⟩)
  have := (goes_on (ws := used n.ws f) (f := f) (p := w.goal) (fun u hu => used_pos S hu) (fun u hu => (nw.wy u (used_mem.mp hu).1).pos) k').2 (List.mem_map.mpr ⟨w, hwu, rfl⟩)
  rw [osum_used, h2 w.goal (nw.ok.go w (used_mem.mp hwu).1)] at this
  exact absurd this Rat.lt_irrefl
section
variable {P : Program} {w : World} {K : PySem.W.Frag} {mg : Str → Option Value} {base : Heap} {c : Cl} {f : Addr} {fd : FuncData}
theorem scOS : FnScope ["net", "names", "over", "found", "place"] ["net", "names", "over"] (defScope sOS) := ⟨rfl, rfl, rfl, by decide +kernel, rfl, by decide +kernel, by decide +kernel⟩
theorem sgn_lt' {a : Rat} : decide (sgn a < 0) = decide (a < 0) := by
  refine decide_eq_decide.mpr ?_
  unfold sgn
  constructor
  · intro h
    split at h
    · omega
    · split at h
      · assumption
      · omega
  · intro h
    have : ¬ 0 < a := by grind
    rw [if_neg this, if_pos h]; decide
theorem ok_os (F : FnP K "one_strand" "one_strand" sOS f fd) (T : Txt K mg c) (M : FrM P w K mg base c) (N : NtM P w K mg base c) (S1 : Fn P w K mg base "making" 9 ["net", "names"] [] (spMkE c true)) (S2 : Fn P w K mg base "out_of" 10 ["net", "names", "over", "head", "place"] [] (spOO c)) (S3 : Fn P w K mg base "even_ring" 8 ["net", "names", "values"] [] (spER c)) :
    FnOk P w K mg base CX0 11 f fd ["net", "names", "over"] (spOS c) := by
  refine F.ok scOS (fun vs H Q E h => ?_) (fun cdv A outer s H vs Q E hr h => ?_)
  · obtain ⟨G, x, y, z, n, f, us, D, rfl, _⟩ := h
    rfl
  · obtain ⟨G, x, y, z, n, am, us, D, rfl, s, hn, nw, hy, uu, une, st, hz, k⟩ := h
    refine ⟨_, PSs.nox (pss_cons (ps_set (i := 3) scOS.nd rfl (Or.inl rfl) (pe_fn S1 (hr.mono (by decide)) (by rfl) (pa_cons (pv 0) (pa_cons (pv 1) pa_nil))))
      (pss_cons (ps_if (pt_cmpR op_eq (pe_ix ix_tup (pv 3) pe_int (fun _ _ => rfl)) pe_str (nomark _))
        (pss_one (ps_ret (pe_fn S2 hr (by rfl) (pa_cons (pv 0) (pa_cons (pv 1) (pa_cons (pv 2) (pa_cons (pe_ix ix_tup (pv 3) pe_int (fun _ _ => rfl)) (pa_cons (pe_f (pe_m T.clN N.way (hr.mono (by decide)) (pv 0) (pa_cons (pe_ix ix_list (pe_ix ix_tup (pv 3) pe_int (fun _ _ => rfl)) pe_int (fun _ _ => rfl)) pa_nil))) pa_nil)))))))) pss_nil)
      (pss_cons (ps_for PassesOwn.never rfl (pi_list (pe_m0 T.clN N.names (hr.mono (by decide)) (pv 0))) (pg_name (i := 4) scOS.nd rfl (Or.inl rfl))
        (pss_one (ps_if (pt_cmpR op_lt (pe_m0 T.clF M.sign (hr.mono (by decide)) (pe_dget (hu_of hr) (pv 2) (pv 4) (fun _ _ => rfl))) pe_int (nomark _))
          (pss_one (ps_ret (pe_fn S2 hr (by rfl) (pa_cons (pv 0) (pa_cons (pv 1) (pa_cons (pv 2) (pa_cons (pe_lst pa_nil) (pa_cons (pv 4) pa_nil)))))))) pss_nil)))
      (pss_one (ps_ret (pe_tup (pa_cons (pe_fn S3 (hr.mono (by decide)) (by rfl) (pa_cons (pv 0) (pa_cons (pv 1) (pa_cons (pe_ix ix_tup (pv 3) pe_int (fun _ _ => rfl)) pa_nil)))) (pa_cons (pe_lst pa_nil) (pa_cons (pe_lst pa_nil) pa_nil))))))))), ?_⟩
    have us0 := uu.sub
    have ul := uu.len
    refine ⟨_, rfl, _, rfl, G, x, y, n, us, rfl, s, hn, nw, hy, us0, by omega, fun v8 G8 H8 e8 fnd => ?_⟩
    have hn8 := hn.up' e8.g
    have hy8 := hy.up StrAt.mono (same_sm e8.g)
    have hz8 := hz.up Fr.mono (same_sm e8.g)
    have r8 := Ext.refl e8.gh
    rcases fnd with ⟨rg, c0, ht, ring, rsub, rl, rb⟩ | ⟨Fv, ht, fo, nb2⟩
    · obtain ⟨t8, w1, w2, rfl, ht8, e1, hl8⟩ := ht
      have e1 : w1 = .str "ring" := e1
      subst e1
      have hT : ∀ {G' H'}, Ext G8 H8 G' H' → SqT K H' t8 [.str "ring", w2] := fun e => SqT.of (e.gh _ _ (e.g _ _ ht8))
      obtain ⟨w0, rt, erg⟩ : ∃ w0 rt, rg = w0 :: rt := by
        cases rg with
        | nil => exact absurd rfl ring.ne
        | cons a b => exact ⟨a, b, rfl⟩
      have m0 : w0 ∈ rg := by rw [erg]; exact List.mem_cons_self
      have w0s : w0.start = c0 := by have := ring.walk; rw [erg] at this; exact this.1
      have w0u := rsub w0 m0
      obtain ⟨b2, vs2, rfl, hv2, hp2⟩ := id hl8
      have hs2 := strs_eq hp2
      subst hs2
      have at0 : atI ((names rg).map V.str) 0 = some (.str w0.name) := atI_str (i := 0) (by rw [erg]; rfl)
      refine ⟨_, rfl, t8, _, 0, _, rfl, rfl, hT r8, rfl, rfl, _, rfl, ?_⟩
      refine iteDT rfl ⟨_, rfl, _, rfl, _, rfl, _, rfl, t8, _, 1, _, rfl, rfl, hT r8, rfl, _, rfl, hn8.ins e8.gh, _, rfl, t8, _, 1, _, rfl, rfl, hT r8, rfl, b2, _, 0, _, rfl, rfl, SqL.of (e8.gh _ _ hv2), at0, G8, x, n, w0, rfl, e8.gh, hn8, nw.ok, us0 _ w0u, fun v9 G9 H9 e9 h9 => ?_⟩
      have e89 := e8.trans e9
      refine ⟨_, h9.start T e9.gh, G9, x, y, z, .ref b2, w0.start, n, am, us, rg, D, rfl, e9.gh, hn.up' e89.g, nw, hy.up StrAt.mono (same_sm e89.g), uu, st, hz.up Fr.mono (same_sm e89.g), hl8.up StrAt.mono (same_sm e9.g), nw.ok.st w0 (us0 _ w0u), .inr ⟨by rw [w0s]; exact ring, ?_, fun w hw => (uu.mem w).mp (rsub w hw)⟩, fun v10 G10 H10 e10 h10 => k _ _ _ (e89.trans e10) h10⟩
      have rb : 1 < gainW rg := by
        unfold bt at rb
        simpa using rb
      exact rb
    · obtain ⟨t8, w1, w2, rfl, ht8, e1, hD8⟩ := ht
      have e1 : w1 = .str "weights" := e1
      subst e1
      have hT : ∀ {G' H'}, Same G8 G' → Same G' H' → SqT K H' t8 [.str "weights", w2] := fun e e' => SqT.of (e' _ _ (e _ _ ht8))
      refine ⟨_, rfl, t8, _, 0, _, rfl, rfl, hT (Same.refl _) e8.gh, rfl, rfl, _, rfl, ?_⟩
      refine iteDF (fun z => by injection z with z; exact absurd z (by decide +kernel)) ?_
      refine ⟨_, rfl, hn8.ins e8.gh, G8, x, n, rfl, e8.gh, hn8, fun v9 G9 H9 e9 h9 => ?_⟩
      have hz9 := hz8.up Fr.mono (same_sm e9.g)
      refine for_lst (R := StrAt) StrAt.mono h9 (Same.refl G9) (e8.trans e9) (fun i σ G' H' => ∃ v4, σ = [some x, some y, some z, some (.ref t8), v4] ∧ ∀ q ∈ n.ps.take i, 0 ≤ osum n.ws am q) ⟨none, rfl, fun q h => by simp at h⟩ (fun i p u σ G2 H2 hi hu sl e iv => ?_) (fun σ G2 H2 sl e iv => ?_)
      · obtain ⟨v4, rfl, nb⟩ := iv
        have hu : u = .str p := hu
        subst hu
        have mp := List.mem_of_getElem? hi
        obtain ⟨a1, u1, ea1, g1, r1⟩ := (hz9.up Fr.mono (same_sm sl)).get e.gh (tab_lk mp)
        refine ⟨_, rfl, _, rfl, a1, u1, ea1, g1, r1.ins e.gh, G2, u1, _, rfl, e.gh, r1, _, _, rfl, rfl, _, rfl, ?_⟩
        rw [sgn_lt']
        by_cases nz : osum n.ws am p < 0
        · refine iteDT nz ⟨_, rfl, _, rfl, _, rfl, Nat.zero_le _, fun p1 n1 => ?_⟩
          have e3 := e.trans (Ext.imm (p := p1) (o := .lst []) e.gh n1)
          exact ⟨_, rfl, _, x, y, z, .ref p1, p, n, am, us, [], D, rfl, e3.gh, hn.up' e3.g, nw, hy.up StrAt.mono (same_sm e3.g), uu, st, hz.up Fr.mono (same_sm e3.g), ⟨p1, [], rfl, upd_same, .nil⟩, mp, .inl ⟨rfl, nz⟩, fun v10 G10 H10 e10 h10 => k _ _ _ (e3.trans e10) h10⟩
        · refine iteDF nz ⟨G2, sl, e, _, rfl, fun q hq => ?_⟩
          rw [take_succ_of hi] at hq
          rcases List.mem_append.mp hq with hq | hq
          · exact nb q hq
          · rw [List.mem_singleton.mp hq]; grind
      · obtain ⟨v4, rfl, nb⟩ := iv
        rw [List.take_length] at nb
        have ev := ev_ok (v := fun p => (Fv p).1) nw st uu une (fun p => by
          show 0 < (Fv p).1
          rw [fo.val]
          exact gainW_pos fun w hw => (fo.wy p w hw).pos) (fun p => fo.be (by decide) p) nb2 nb
        have s82 := e9.g.trans sl
        refine ⟨_, rfl, _, rfl, _, rfl, t8, _, 1, _, rfl, rfl, hT s82 e.gh, rfl, G2, x, y, w2, n, us, fun p => (Fv p).1, rfl, e.gh, hn.up' e.g, nw, hy.up StrAt.mono (same_sm e.g), hD8.up Fr.mono (same_sm s82), ev, fun v10 G10 H10 e10 ⟨rg, c0, hl, ring, rsub, rl, rb⟩ => ?_⟩
        refine ⟨Nat.zero_le _, fun p1 n1 => ⟨Nat.zero_le _, fun p2 n2 => ⟨by show 3 ≤ sizeLine; decide, fun t nt => ?_⟩⟩⟩
        have i1 := Ext.imm (p := p1) (o := .lst []) e10.gh n1
        have i2 := i1.trans (Ext.imm (p := p2) (o := .lst []) i1.gh n2)
        have i3 := i2.trans (Ext.imm (p := t) (o := .tup [v10, .ref p1, .ref p2]) i2.gh nt)
        have n12 : p1 ≠ p2 := fun z => by rw [← z, upd_same] at n2; cases n2
        have n1t : p1 ≠ t := fun z => by rw [← z, upd_ne n12, upd_same] at nt; cases nt
        have n2t : p2 ≠ t := fun z => by rw [← z, upd_same] at nt; cases nt
        refine k _ _ _ ((e.trans e10).trans i3) ⟨⟨rg, [], []⟩, ⟨t, v10, .ref p1, .ref p2, rfl, upd_same, hl.up StrAt.mono (same_sm i3.g), ⟨p1, [], rfl, ?_, .nil⟩, ⟨p2, [], rfl, ?_, .nil⟩⟩, fits_even nw st uu ring rsub rl rb⟩
        · rw [upd_ne n1t, upd_ne n12, upd_same]
        · rw [upd_ne n2t, upd_same]
end
end GH
end
section
set_option maxRecDepth 100000
/-! taken_apart: what it needs. -/
namespace GH
open PySem PySem.Spec PyProof.Rows L2 GM
theorem name_inj {ws : List (Wy Str)} (nd : (names ws).Nodup) {u v : Wy Str} (hu : u ∈ ws) (hv : v ∈ ws) (e : u.name = v.name) : u = v := by
  have h1 := byName_lk nd hu
  have h2 := byName_lk nd hv
  rw [e] at h1
  exact Option.some.inj (h1.symm.trans h2)
theorem ways_for {ws : List (Wy Str)} : ∀ {ks : List Str}, (∀ k ∈ ks, k ∈ names ws) → ∃ us : List (Wy Str), names us = ks ∧ ∀ w ∈ us, w ∈ ws
  | [], _ => ⟨[], rfl, fun w h => nomatch h⟩
  | k :: r, h => by
    obtain ⟨us, e, hs⟩ := ways_for fun x hx => h x (List.mem_cons_of_mem _ hx)
    obtain ⟨w, hw, ew⟩ := names_way (h k List.mem_cons_self)
    refine ⟨w :: us, ?_, fun v hv => ?_⟩
    · show w.name :: names us = k :: r
      rw [e, ew]
    · rcases List.mem_cons.mp hv with z | z
      · rw [z]; exact hw
      · exact hs v z
theorem uses_of {n : Nt} {f : Str → Rat} {l : Pl} (ok : NtOk n) (h : PlF l f) (hs : ∀ m, f m ≠ 0 → m ∈ names n.ws) : ∃ us, names us = keys l ∧ Uses n f us := by
  obtain ⟨us, e, sub⟩ := ways_for (ws := n.ws) (ks := keys l) fun k hk => hs k (h.key.mp hk)
  refine ⟨us, e, fun w => ⟨fun hw => used_mem.mpr ⟨sub w hw, h.key.mp (by rw [← e]; exact List.mem_map.mpr ⟨w, hw, rfl⟩)⟩, fun hw => ?_⟩, ?_⟩
  · obtain ⟨h1, h2⟩ := used_mem.mp hw
    have := h.key.mpr h2
    rw [← e] at this
    obtain ⟨u, hu, eu⟩ := List.mem_map.mp this
    have := name_inj ok.ndW (sub u hu) h1 eu
    rw [← this]; exact hu
  · have := pigeon h.nd (ps := names n.ws) fun k hk => hs k (h.key.mp hk)
    rw [← e, names_len, names_len] at this
    have := ok.w12
    omega
section
variable {n : Nt} {f : Str → Rat} {s : Sd} {D : Nat}
theorem St.sz (S : St n f D) : Sz D (2 ^ 10000) := ⟨S.pos, pw_le S.D (by decide), Nat.pow_le_pow_right (by decide) (by decide)⟩
theorem St.both (S : St n f D) (m : Str) : Dv D (f m) ∧ Ab (2 ^ 10000) (f m) := ⟨S.dv m, Ab.of_nonneg (S.nn m) (S.ab m)⟩
theorem St.bd (S : St n f D) (m : Str) : Bd (f m) := (S.sz.be (S.both m).1 (S.both m).2).bd
theorem St.over (S : St n f D) (nw : NtW n) (p : Str) : Be (osum n.ws f p) := S.sz.osum nw.wy nw.ok.w12 (fun w h => h) nw.ok.w12 S.both p
/-- sizes of the plan of one -/
theorem Tight.both {M : Nat} (T : Tight s M) (m : Str) : Dv M (strandF s 1 m) ∧ Ab (2 ^ 114) (strandF s 1 m) := by
  obtain ⟨j, ej, hj⟩ := T.num m
  refine ⟨⟨j, ej⟩, ?_⟩
  have M1 : (1 : Rat) ≤ (M : Rat) := Rat.natCast_le_natCast (a := 1) |>.mpr T.pos
  have j1 : ((j : Int) : Rat) ≤ ((2 ^ 114 : Nat) : Rat) := Rat.intCast_le_intCast (b := ((2 ^ 114 : Nat) : Int)) |>.mpr (by omega)
  have j2 : -((2 ^ 114 : Nat) : Rat) ≤ ((j : Int) : Rat) := by
    have := Rat.intCast_le_intCast (a := -((2 ^ 114 : Nat) : Int)) (b := j) |>.mpr (by omega)
    rw [Rat.intCast_neg] at this
    exact this
  have v0 : (0 : Rat) ≤ ((2 ^ 114 : Nat) : Rat) := Rat.natCast_nonneg
  rw [← ej] at j1 j2
  show -((2 ^ 114 : Nat) : Rat) ≤ _ ∧ _ ≤ ((2 ^ 114 : Nat) : Rat)
  generalize ((2 ^ 114 : Nat) : Rat) = V at *
  generalize strandF s 1 m = u at *
  generalize (M : Rat) = d at *
  constructor
  · apply Classical.byContradiction
    intro k
    have a := Rat.mul_le_mul_of_nonneg_left M1 (show 0 ≤ -u by grind)
    grind
  · apply Classical.byContradiction
    intro k
    have a := Rat.mul_le_mul_of_nonneg_left M1 (show 0 ≤ u by grind)
    grind
theorem Tight.sz {M : Nat} (T : Tight s M) : Sz M (2 ^ 114) := ⟨T.pos, pw_le T.le (by decide), Nat.pow_le_pow_right (by decide) (by decide)⟩
theorem Tight.bd {M : Nat} (T : Tight s M) (m : Str) : Bd (strandF s 1 m) := (T.sz.be (T.both m).1 (T.both m).2).bd
theorem Tight.bs {M : Nat} (T : Tight s M) {m : Str} (h : strandF s 1 m ≠ 0) : Bs (strandF s 1 m) := by
  obtain ⟨h1, h2⟩ := T.both m
  refine ⟨h, ?_⟩
  have := h2.num (h1.den_le T.pos)
  exact Nat.lt_of_le_of_lt (Nat.le_trans this (pw_mul (Nat.le_refl _) T.le (Nat.le_refl _))) (Nat.pow_lt_pow_right (by decide) (by decide))
theorem lim1_bd (S : St n f D) (F : Fits n f s) (nw : NtW n) {M : Nat} (T : Tight s M) {m : Str} (hm : m ∈ s.names) : Bd (f m / strandF s 1 m) := by
  have up := (strand_pos F.sv nw (x := 1) (by decide) m).2.1 hm
  obtain ⟨j, ej, hj⟩ := T.num m
  have Mp : (0 : Rat) < (M : Rat) := Rat.natCast_lt_natCast (a := 0) |>.mpr T.pos
  have jp : 0 < j := int_pos (by rw [← ej]; exact Rat.mul_pos up Mp)
  have qu : f m / strandF s 1 m * strandF s 1 m = f m := mul_div_self (rpos_ne up)
  have qp : 0 < f m / strandF s 1 m := div_pos' (F.pos m hm) up
  generalize f m / strandF s 1 m = q at *
  have eqj : q * (j : Rat) = f m * (M : Rat) := by rw [← ej, ← qu]; grind
  obtain ⟨k, ek⟩ := S.dv m
  have cj := cast_abs jp
  have d : Dv (D * j.natAbs) q := dv_nat (k := k * M) (by
    rw [Rat.natCast_mul, cj, Rat.intCast_mul, ← ek]
    show _ = _ * ((M : Nat) : Rat)
    grind)
  have j1 : (1 : Rat) ≤ (j : Rat) := Rat.intCast_le_intCast (a := 1) |>.mpr (by omega)
  have a1 := Rat.mul_le_mul_of_nonneg_left j1 (Rat.le_of_lt qp)
  have a : Ab (2 ^ 10000 * 2 ^ 110) (f m * (M : Rat)) := (S.both m).2.mul (Ab.of_nonneg (Rat.le_of_lt Mp) (Rat.natCast_le_natCast.mpr T.le))
  have aq : Ab (2 ^ 10000 * 2 ^ 110) q := Ab.of_nonneg (Rat.le_of_lt qp) (by have := a.2; rw [← eqj] at this; grind)
  exact bd_of (a := 3200) (b := 10110) d aq (Nat.mul_pos S.pos (by omega)) (pw_mul S.D hj (by decide)) (Nat.le_of_eq (by rw [← Nat.pow_add]))
theorem chg_bs (F : Fits n f s) (nw : NtW n) {p : Str} (h : chg s p ≠ 0) : Bd (chg s p) ∧ Bs (chg s p) := by
  obtain ⟨wh, wp, wt⟩ := F.sv.wy nw
  have lp := F.sv.lp
  rcases chg_cases F nw p with e | ⟨_, _, e, _⟩ | ⟨_, _, e, _⟩
  · exact absurd e h
  · rw [e]
    have sm : Sm10 (-1) := ⟨by decide, by decide⟩
    exact ⟨sm.be.bd, by decide, Nat.lt_of_le_of_lt sm.num (Nat.pow_lt_pow_right (by decide) (by decide))⟩
  · rw [e]
    obtain ⟨_, h2⟩ := gainW_sz wp
    exact ⟨gainW_bd wp (by omega), rpos_ne (path_pos F.sv nw), Nat.lt_of_le_of_lt h2 (Nat.pow_lt_pow_right (by decide) (by omega))⟩
theorem lim2_bd (S : St n f D) (F : Fits n f s) (nw : NtW n) {p : Str} (h : chg s p ≠ 0) : Bd (osum n.ws f p / chg s p) := by
  obtain ⟨wh, wp, wt⟩ := F.sv.wy nw
  obtain ⟨o1, o2⟩ := osum_sz nw.wy (fun w h => h) S.both p
  have G120 := gd120 nw.wy nw.ok.w12
  have w12 := nw.ok.w12
  have ob : n.ws.length * (2 ^ 10000 * (2 ^ 10 + 1)) ≤ 2 ^ 10020 := pw_mul (a := 4) (b := 10015) (by omega) (pw_mul (a := 10000) (b := 11) (Nat.le_refl _) (by decide) (by decide)) (by decide)
  have P0 : 0 < D * gd n.ws := Nat.mul_pos S.pos (gd_pos _)
  have dD : D * gd n.ws ≤ 2 ^ 3160 := pw_mul S.D G120 (by decide)
  rcases chg_cases F nw p with e | ⟨_, _, e, _⟩ | ⟨_, _, e, _⟩
  · exact absurd e h
  · rw [e, Rat.div_def, inv_m1]
    have : osum n.ws f p * -1 = -osum n.ws f p := by grind
    rw [this]
    exact bd_of (a := 3160) (b := 10020) o1.neg (o2.mono ob).neg P0 dD (Nat.le_refl _)
  · rw [e]
    have gp := path_pos F.sv nw
    obtain ⟨h1, h2⟩ := div_sz o1 (o2.mono ob) gp
    obtain ⟨s1, s2⟩ := gainW_sz wp
    have lp := F.sv.lp
    have np : 0 < (gainW s.path).num := r_pos.mpr gp
    exact bd_of (a := 3260) (b := 10120) h1 h2 (Nat.mul_pos P0 (by omega)) (pw_mul dD s2 (by omega)) (pw_mul (Nat.le_refl _) s1 (by omega))
end
/-! a comprehension over the keys, its list one own -/
section
variable {α β : Type} {R : V → α → Prop} {S : Rl β} {d : Addr} {od : Obj} {kvs : List (Key × V)} {l : List (Str × α)} {g : TG} {σ : L2.St} {H Ge He Gl G1 H1 : Hp}
theorem lc_keysO {tt : TT} {te : TE} {ws : List Nat} {Q : VK} (mS : Mono S) (hp : Paired (KvR R) kvs l) (hG : Gl d = some (lck od kvs)) (sl : Same Gl G1) (se : Same Ge He) (e1 : Ext Ge He G1 H1) (hlen : l.length ≤ 1000) (ys : Nat → List β) (y0 : ys 0 = [])
    (hs : ∀ i p G H, l[i]? = some p → Same Gl G → Ext Ge He G H → Turn S ys i ws (wipe σ ws) G H (fun Yes No => g (.str p.1) (wipe σ ws) H fun σ2 H2 => wipe σ2 ws = wipe σ ws ∧ tt σ2 H2 fun b H3 => if b = true then te σ2 H3 Yes else No H3))
    (hd : ∀ d' G H, He d' = none → Same Gl G → Ext Ge He G H → OwnL S G H d' (ys l.length) → Q (.ref d') H) :
    LcK (Itk d od kvs) g tt te ws σ Q H1 := by
  intro d' nd
  have hd0 : He d' = none := e1.free nd
  have o0 : OwnL S G1 (upd H1 d' (.lst [])) d' (ys 0) := by rw [y0]; exact OwnL.nil e1.gh nd
  refine ⟨fun i m H => m = kvs.length - i ∧ i ≤ kvs.length ∧ LC Ge He Gl S ys d' i H, ⟨kvs.length, by simp, Nat.zero_le _, G1, sl, e1.trans (Ext.tmp e1.gh nd), o0, by rw [y0]; exact Nat.le_refl _⟩, ?_⟩
  rintro i m H ⟨rfl, hi, G, s, e, o, len⟩
  have q : H d = some (lck od kvs) := e.gh _ _ (s _ _ hG)
  by_cases hlt : i < kvs.length
  · refine .inr ⟨⟨q, hlt⟩, LC Ge He Gl S ys d' (i + 1), fun H' p' => ⟨kvs.length - (i + 1), by omega, rfl, hlt, p'⟩, fun x H' y => ?_⟩
    obtain ⟨ee, k, v, hk, ex⟩ := y
    subst ee ex
    obtain ⟨b, hb, hr⟩ := paired_get hp i _ hk
    have : kV k = .str b.1 := by rw [show k = Sum.inr b.1 from hr.1]; rfl
    rw [this]
    have hi' : i < l.length := (List.getElem?_eq_some_iff.mp hb).1
    exact lc_turn (S := S) mS hd0 (by omega) s e o len (hs i b G _ hb s e)
  · have ee : i = kvs.length := by omega
    subst ee
    rw [paired_len hp] at o
    exact .inl ⟨⟨q, Nat.le_refl _⟩, hd _ _ _ hd0 s e o⟩
theorem OwnL.turn {R : Rl β} {G H : Hp} {d a : Addr} {l : List β} {o o' : HO} (h : OwnL R G H d l) (ha : G a = some o) (m : Sm G (upd G a o')) (mR : Mono R) : OwnL R (upd G a o') (upd H a o') d l := by
  obtain ⟨vs, g, hh, p⟩ := h
  have ne : d ≠ a := fun z => by rw [z, ha] at g; cases g
  exact ⟨vs, by rw [upd_ne ne]; exact g, by rw [upd_ne ne]; exact hh, Paired.imp (fun _ _ q => mR m q) p⟩
end
end GH
end
section
set_option maxRecDepth 100000
/-! taken_apart. -/
namespace GH
open PySem PySem.Spec PyProof.Rows L2 GM
def spTA (c : Cl) : Sp := fun vs H Q _ => ∃ (G : Hp) (x y : V) (n : Nt) (l : Pl) (D : Nat), vs = [x, y] ∧ Same G H ∧ NetAt c G x n ∧ NtW n ∧ DctE (Fr c) G y l ∧ (keys l).Nodup ∧ (∀ k ∈ keys l, k ∈ names n.ws) ∧ (∀ p ∈ l, 0 ≤ p.2) ∧ St n (amt l) D ∧
  ∀ d G' H' ss, H d = none → Ext G H G' H' → LstAt (SdAt c) G' (.ref d) ss → Done n (amt l) ss → Q (.ref d) H'
theorem left_eq {f : Str → Rat} {s : Sd} {q : Rat} (m : Str) : f m + strandF s 1 m * (0 - q) = left f s q m := by show _ = f m - q * strandF s 1 m; grind
theorem zero_bd : Bd 0 := (⟨by decide, by decide⟩ : Sm10 0).be.bd
theorem SX.bdq {D V : Nat} {q : Rat} (h : SX D V q) : Bd q ∧ Bd (0 - q) := by
  have b := bd_of (a := 4000) (b := 60000) h.dv h.ab h.pos h.d h.v
  have e : (0 : Rat) - q = -q := by grind
  rw [e]
  exact ⟨b, bd_of (a := 4000) (b := 60000) h.dv.neg h.ab.neg h.pos h.d h.v⟩
theorem filter_take_tab {ps : List Str} {g : Str → Rat} {P : Str → Bool} {i : Nat} {p : Str} (h : ps[i]? = some p) : ((ps.take (i + 1)).filter P).map g = if P p = true then ((ps.take i).filter P).map g ++ [g p] else ((ps.take i).filter P).map g := by
  rw [take_succ_of h, List.filter_append]
  split
  · rename_i k
    rw [List.filter_cons_of_pos k, List.map_append]; rfl
  · rename_i k
    rw [List.filter_cons_of_neg k, List.filter_nil, List.append_nil]
theorem tab_get {ps : List Str} {f : Str → Rat} {i : Nat} {pr : Str × Rat} (h : (tab ps f)[i]? = some pr) : ps[i]? = some pr.1 ∧ pr.2 = f pr.1 := by
  unfold tab at h
  rw [List.getElem?_map] at h
  obtain ⟨p, h1, h2⟩ := Option.map_eq_some_iff.mp h
  subst h2
  exact ⟨h1, rfl⟩
/-- the least of all the limits -/
theorem least_mk {n : Nt} {f : Str → Rat} {s : Sd} {lu : Pl} (nw : NtW n) (F : Fits n f s) (pl : PlF lu (strandF s 1)) {q : Rat}
    (mq : q ∈ (lu.map fun p => f p.1 / p.2) ++ ((n.ps.filter fun p => decide (chg s p ≠ 0)).map fun p => osum n.ws f p / chg s p)) (hl : ∀ r ∈ (lu.map fun p => f p.1 / p.2) ++ ((n.ps.filter fun p => decide (chg s p ≠ 0)).map fun p => osum n.ws f p / chg s p), q ≤ r) : Least n f s q := by
  have inn : ∀ m, m ∈ s.names ↔ m ∈ keys lu := fun m => by
    obtain ⟨_, h2, h3⟩ := strand_pos F.sv nw (x := 1) (by decide) m
    rw [pl.key]
    exact ⟨fun h => rpos_ne (h2 h), fun h => Classical.byContradiction fun z => h (h3 z)⟩
  refine ⟨fun m hm => ?_, fun p hp hc => ?_, ?_⟩
  · obtain ⟨p, hp, e⟩ := List.mem_map.mp ((inn m).mp hm)
    have := hl _ (List.mem_append_left _ (List.mem_map.mpr ⟨p, hp, rfl⟩))
    rw [pl.mem hp, e] at this
    exact this
  · exact hl _ (List.mem_append_right _ (List.mem_map.mpr ⟨p, List.mem_filter.mpr ⟨hp, decide_eq_true hc⟩, rfl⟩))
  · rcases List.mem_append.mp mq with h | h
    · obtain ⟨p, hp, e⟩ := List.mem_map.mp h
      exact .inl ⟨p.1, (inn _).mpr (List.mem_map.mpr ⟨p, hp, rfl⟩), by rw [← e, pl.mem hp]⟩
    · obtain ⟨p, hp, e⟩ := List.mem_map.mp h
      obtain ⟨h1, h2⟩ := List.mem_filter.mp hp
      exact .inr ⟨p, h1, of_decide_eq_true h2, e.symm⟩
section
variable {P : Program} {w : World} {K : PySem.W.Frag} {mg : Str → Option Value} {base : Heap} {c : Cl} {f : Addr} {fd : FuncData}
theorem scTA : FnScope ["net", "plan", "rest", "strands", "over", "lists", "unit", "changes", "limits", "size", "name", "place"] ["net", "plan"] (defScope sTA) := ⟨rfl, rfl, rfl, by decide +kernel, rfl, by decide +kernel, by decide +kernel⟩
theorem ok_ta (F : FnP K "taken_apart" "taken_apart" sTA f fd) (T : Txt K mg c) (M : FrM P w K mg base c) (S1 : Fn P w K mg base "in_use" 5 ["net", "plan"] [] (spIU c)) (S2 : Fn P w K mg base "sums" 8 ["net", "plan"] [] (spSums c)) (S3 : Fn P w K mg base "one_strand" 11 ["net", "names", "over"] [] (spOS c))
    (S4 : Fn P w K mg base "strand_plan" 11 ["net", "strand"] [] (spSP c)) (S5 : Fn P w K mg base "least_limit" 2 ["some"] [] (spLL c)) (S6 : Fn P w K mg base "together" 6 ["one", "other"] [] (spTog c)) (S7 : Fn P w K mg base "scaled" 5 ["plan", "number"] [] (spScal c)) :
    FnOk P w K mg base CX0 12 f fd ["net", "plan"] (spTA c) := by
  refine F.ok scTA (fun vs H Q E h => ?_) (fun cdv A outer s H vs Q E hr h => ?_)
  · obtain ⟨G, x, y, n, l, D, rfl, _⟩ := h
    rfl
  · obtain ⟨G, x, y, n, l0, D0, rfl, s, hn, nw, hl0, nd0, sub0, nn0, st0, k⟩ := h
    refine ⟨_, PSs.nox (pss_cons (ps_set (i := 2) scTA.nd rfl (Or.inr rfl) (pe_fn S1 (hr.mono (by decide)) (by rfl) (pa_cons (pv 0) (pa_cons (pv 1) pa_nil))))
      (pss_cons (ps_set (i := 3) scTA.nd rfl (Or.inl rfl) (pe_lst pa_nil))
      (pss_cons (ps_while PassesOwn.never (pt_cmpR op_gt (pe_callB call_lenD (by rfl) T.len PySem.boot_len (pa_cons (pv 2) pa_nil)) pe_int (nomark _))
        (pss_cons (ps_set (i := 4) scTA.nd rfl (Or.inr rfl) (pe_fn S2 (hr.mono (by decide)) (by rfl) (pa_cons (pv 0) (pa_cons (pv 2) pa_nil))))
        (pss_cons (ps_set (i := 5) scTA.nd rfl (Or.inl rfl) (pe_fn S3 hr (by rfl) (pa_cons (pv 0) (pa_cons (pe_callTy (call_listD rfl) (by rfl) T.list (by decide +kernel) (pa_cons (pv 2) pa_nil)) (pa_cons (pv 4) pa_nil)))))
        (pss_cons (ps_set (i := 6) scTA.nd rfl (Or.inr rfl) (pe_fn S4 hr (by rfl) (pa_cons (pv 0) (pa_cons (pe_op op_catT (pv 5) (pe_tup (pa_cons (pe_fr1 M.mkf (hr.mono (by decide)) (by rfl) (pa_cons pe_int pa_nil)) pa_nil))) pa_nil))))
        (pss_cons (ps_set (i := 7) scTA.nd rfl (Or.inr rfl) (pe_fn S2 (hr.mono (by decide)) (by rfl) (pa_cons (pv 0) (pa_cons (pv 6) pa_nil))))
        (pss_cons (ps_lock (ps_k (ps_setLc (i := 8) (own := [("name", 10)]) (g := gName 10) (tt := tYes) (te := tM c.F "over" (spOver c) (tDGet (tVar 2) (tVar 10)) (tCons (tDGet (tVar 6) (tVar 10)) tNil)) rfl scTA.nd rfl rfl (sw_true rfl rfl rfl (by decide +kernel)) (pi_keys (pv 6)) (blkOk_by (N := ["net", "plan", "rest", "strands", "over", "lists", "unit", "changes", "limits", "size", "name", "place"]) (sc := defScope sTA) (by decide +kernel))
          (fun _ _ _ _ _ => pg_name (i := 10) scTA.nd rfl (Or.inl rfl)) (fun _ _ _ _ _ => pts_nil) (fun _ _ _ _ _ => pe_m T.clF M.over (hr.mono (by decide)) (pe_dget (hu_of hr) (pv 2) (pv 10) (fun _ _ => rfl)) (pa_cons (pe_dget (hu_of hr) (pv 6) (pv 10) (fun _ _ => rfl)) pa_nil)))))
        (pss_cons (ps_expr (pe_bm PySem.F.plainAttrs_list PySem.F.slot_list_extend PySem.F.type_list_extend mt_extend (pv 8) (pa_cons (pe_lock (pe_k (pe_lc (own := [("place", 11)]) (g := gName 11) (tt := tTest (tOp rNe (tM c.F "sign" (spSign c) (tDGet (tVar 7) (tVar 11)) tNil) (tC (.int 0)))) (te := tM c.F "over" (spOver c) (tDGet (tVar 4) (tVar 11)) (tCons (tDGet (tVar 7) (tVar 11)) tNil)) rfl scTA.nd (pi_keys (pv 7)) (blkOk_by (N := ["net", "plan", "rest", "strands", "over", "lists", "unit", "changes", "limits", "size", "name", "place"]) (sc := defScope sTA) (by decide +kernel))
          (fun _ _ _ _ _ => pg_name (i := 11) scTA.nd rfl (Or.inl rfl)) (fun _ _ _ _ _ => pts_one (pt_cmpR op_ne (pe_m0 T.clF M.sign (hr.mono (by decide)) (pe_dget (hu_of hr) (pv 7) (pv 11) (fun _ _ => rfl))) pe_int (nomark _))) (fun _ _ _ _ _ => pe_m T.clF M.over (hr.mono (by decide)) (pe_dget (hu_of hr) (pv 4) (pv 11) (fun _ _ => rfl)) (pa_cons (pe_dget (hu_of hr) (pv 7) (pv 11) (fun _ _ => rfl)) pa_nil))))) pa_nil)))
        (pss_cons (ps_set (i := 9) scTA.nd rfl (Or.inl rfl) (pe_fn S5 (hr.mono (by decide)) (by rfl) (pa_cons (pv 8) pa_nil)))
        (pss_cons (ps_expr (pe_bm PySem.F.plainAttrs_list PySem.F.slot_list_append PySem.F.type_list_append mt_append (pv 3) (pa_cons (pe_op op_catT (pv 5) (pe_tup (pa_cons (pv 9) pa_nil))) pa_nil)))
        (pss_one (ps_set (i := 2) scTA.nd rfl (Or.inr rfl) (pe_fn S6 (hr.mono (by decide)) (by rfl) (pa_cons (pv 2) (pa_cons (pe_fn S7 (hr.mono (by decide)) (by rfl) (pa_cons (pv 6) (pa_cons (pe_m T.clF M.minus (hr.mono (by decide)) (pe_fr1 M.mkf (hr.mono (by decide)) (by rfl) (pa_cons pe_int pa_nil)) (pa_cons (pv 9) pa_nil)) pa_nil))) pa_nil))))))))))))))
      (pss_one (ps_ret (pv 3)))))), ?_⟩
    refine ⟨_, rfl, _, rfl, G, x, y, n, l0, rfl, s, hn, nw.ok, hl0, nd0, sub0, nn0, fun v2 G1 H1 e1 ⟨l1, hl1, pl1⟩ => ⟨Nat.zero_le _, fun ds hds => ?_⟩⟩
    have hdsH : H ds = none := e1.free hds
    have ea1 : amt l1 = amt l0 := funext pl1.amt
    have e2 := e1.trans (Ext.tmp (o := .lst []) e1.gh hds)
    refine ⟨fun m σ H' => ∃ (G' : Hp) (v2 : V) (o4 o5 o6 o7 o8 o9 : Option V) (l : Pl) (ss : List (Sd × Rat)) (D : Nat), σ = [some x, some y, some v2, some (.ref ds), o4, o5, o6, o7, o8, o9, none, none] ∧ Ext G H G' H' ∧ DctE (Fr c) G' v2 l ∧ PlF l (amt l) ∧ St n (amt l) D ∧ OwnL (SdAt c) G' H' ds ss ∧ Acc n (amt l0) (amt l) ss ∧ m = mu n (amt l) + mp n (amt l),
      ⟨_, G1, v2, none, none, none, none, none, none, l1, [], D0, rfl, e2, hl1, ⟨pl1.nd, pl1.nz, fun _ => rfl⟩, by rw [ea1]; exact st0, OwnL.nil e1.gh hds, by rw [ea1]; exact Acc.nil nw.ok _, rfl⟩, fun m σ H' iv => ?_⟩
    obtain ⟨G1, v2, o4, o5, o6, o7, o8, o9, l, ss, D, rfl, e, hl, pl, st, os, acc, rfl⟩ := iv
    obtain ⟨d2, kv2, rfl, hk2, hp2⟩ := id hl
    refine ⟨_, rfl, d2, kv2, rfl, e.gh _ _ hk2, _, _, rfl, rfl, _, rfl, ?_⟩
    rw [len_gt, paired_len hp2]
    by_cases ln : 0 < l.length
    case neg =>
      have l0' : l = [] := List.length_eq_zero_iff.mp (by omega)
      obtain ⟨G2, e2, hL, _⟩ := os.done SdAt.mono s e hdsH
      exact iteDF ln ⟨_, rfl, k _ _ _ ss hdsH e2 hL (acc.done fun m => by rw [l0']; rfl)⟩
    case pos =>
      refine iteDT ln ⟨fun σ' H'' => ∃ (G' : Hp) (v2 : V) (o4 o5 o6 o7 o8 o9 : Option V) (l' : Pl) (ss : List (Sd × Rat)) (D : Nat), σ' = [some x, some y, some v2, some (.ref ds), o4, o5, o6, o7, o8, o9, none, none] ∧ Ext G H G' H'' ∧ DctE (Fr c) G' v2 l' ∧ PlF l' (amt l') ∧ St n (amt l') D ∧ OwnL (SdAt c) G' H'' ds ss ∧ Acc n (amt l0) (amt l') ss ∧ mu n (amt l') + mp n (amt l') < mu n (amt l) + mp n (amt l),
        fun σ' H'' ⟨G', v2, o4, o5, o6, o7, o8, o9, l', ss, D, q1, q2, q3, q4, q5, q6, q7, q8⟩ => ⟨_, q8, G', v2, o4, o5, o6, o7, o8, o9, l', ss, D, q1, q2, q3, q4, q5, q6, q7, rfl⟩, ?_⟩
      have pok : PlOk n l := pl.ok st.sup
      have pbl : PB D (2 ^ 10000) l := pl.pb st.pos st.both
      have hn1 := hn.up' e.g
      have llen := pok.len nw.ok.w12
      refine ⟨_, rfl, _, rfl, G1, x, .ref d2, n, l, D, 2 ^ 10000, rfl, e.gh, hn1, nw, hl, pok, st.sz, pbl, fun v4 G2 H2 e2 hov => ?_⟩
      obtain ⟨us, eus, uu⟩ := uses_of nw.ok pl st.sup
      have une : us ≠ [] := fun z => by
        rw [z] at eus
        have := congrArg List.length eus
        rw [keys_len] at this
        simp [names] at this
        omega
      have e12 := e.trans e2
      have hl2 := hl.up Fr.mono e2.g
      obtain ⟨_, kv2', ee2, hk2', hp2'⟩ := id hl2
      cases ee2
      refine ⟨_, rfl, _, rfl, d2, kv2', rfl, .inl (e2.gh _ _ hk2'), fun p np => ?_⟩
      have i3 := Ext.imm (p := p) (o := .lst (kv2'.map fun kv => kV kv.1)) e2.gh np
      have e13 := e12.trans i3
      refine ⟨_, rfl, _, x, .ref p, v4, n, amt l, us, D, rfl, i3.gh, hn.up' e13.g, nw, ⟨p, _, rfl, upd_same, by rw [kv_keys hp2', eus]; exact flat_pair _⟩, uu, une, st, (hov.up Fr.mono i3.g).at, fun v5 G4 H4 e4 ⟨sd, hsd, F⟩ => ?_⟩
      have x4 := i3.trans e4
      have e14 := e12.trans x4
      obtain ⟨t5, u0, u1, u2, rfl, ht5, hu0, hu1, hu2⟩ := id hsd
      -- the plan of one
      refine ⟨_, rfl, _, rfl, G4, 1, rfl, e4.gh, fun vq G5 H5 e5 hq => ⟨by show 1 ≤ sizeLine; decide, fun p np => ?_⟩⟩
      have i5 := Ext.imm (p := p) (o := .tup [vq]) e5.gh np
      have x5 := e5.trans i5
      refine ⟨t5, p, _, _, rfl, rfl, SqT.of (x5.gh _ _ (x5.g _ _ ht5)), SqT.of upd_same, by simp, by show 3 + 1 ≤ sizeLine; decide, (fun z => by cases z), fun _ t nt => ?_⟩
      have i6 := Ext.imm (p := t) (o := .tup ([u0, u1, u2] ++ [vq])) x5.gh nt
      have x6 := x5.trans i6
      have e16 := e14.trans x6
      have sx1 : SX 1 1 1 := ⟨by decide, Nat.one_le_two_pow, Nat.one_le_two_pow, Dv.one, Ab.one (Nat.le_refl 1)⟩
      have hs1 : SdAt c _ (.ref t) (sd, (1 : Rat)) := ⟨t, u0, u1, u2, vq, rfl, upd_same, hu0.up StrAt.mono (same_sm x6.g), hu1.up StrAt.mono (same_sm x6.g), hu2.up StrAt.mono (same_sm x6.g), (Fr.mono (same_sm (i5.trans i6).g) hq).eq rfl⟩
      refine ⟨_, x, .ref t, n, sd, 1, 1, 1, rfl, x6.gh, hn.up' e16.g, nw, hs1, F.sv, by decide, sx1, fun v6 G7 H7 e7 ⟨lu, hlu, plu⟩ => ?_⟩
      have e17 := e16.trans e7
      obtain ⟨Mx, Tx⟩ := unit_tight F.sv nw
      have pbu : PB Mx (2 ^ 114) lu := plu.pb Tx.pos Tx.both
      have poku : PlOk n lu := plu.ok fun m hm => by
        apply Classical.byContradiction
        intro z
        refine hm ((strand_pos F.sv nw (x := 1) (by decide) m).2.2 fun y => ?_)
        exact z (st.sup m (rpos_ne (F.pos m y)))
      refine ⟨_, rfl, _, rfl, G7, x, v6, n, lu, Mx, 2 ^ 114, rfl, e7.gh, hn.up' e17.g, nw, hlu, poku, Tx.sz, pbu, fun v7 G8 H8 e8 hch => ?_⟩
      have eau : amt lu = strandF sd 1 := funext plu.amt
      have ech : tab n.ps (osum n.ws (amt lu)) = tab n.ps (chg sd) := tab_congr fun p _ => by rw [eau, strand_over F.sv nw.ok]; grind
      rw [ech] at hch
      have e18 := e17.trans e8
      have x28 := ((x4.trans x6).trans e7).trans e8
      have hl8 := hl2.up Fr.mono x28.g
      have hov8 := hov.up Fr.mono x28.g
      have hlu8 := hlu.up Fr.mono e8.g
      have hsd8 := L3At.mono (same_sm ((x6.trans e7).trans e8).g) hsd
      have os8 := os.ext SdAt.mono (e2.trans x28)
      have lul := poku.len nw.ok.w12
      obtain ⟨d6, kv6, rfl, hk6, hp6⟩ := id hlu8
      refine ⟨d6, _, e8.gh _ _ hk6, trivial, fun od => ⟨_, rfl, d6, od, rfl, .inl ⟨kv6, upd_same, ?_⟩⟩⟩
      have lm6 := lock_sm (od := od) hk6
      have sL6 := same_upd (p := d6) (o := lck od kv6) e8.gh
      refine lc_keysO (S := Fr c) (l := lu) Fr.mono hp6 upd_same (Same.refl _) sL6 (Ext.refl sL6) (by omega) (fun i => (lu.take i).map fun p => amt l p.1 / p.2) rfl (fun i pr G2 H2 hi sl2 e2 Yes No hY _ => ?_) (fun dl G9 H9 hdl sl9 e9 o9 => ?_)
      · have mem := List.mem_of_getElem? hi
        have mk : pr.1 ∈ keys lu := List.mem_map.mpr ⟨pr, mem, rfl⟩
        have un0 : strandF sd 1 pr.1 ≠ 0 := plu.key.mp mk
        have mn : pr.1 ∈ sd.names := Classical.byContradiction fun z => un0 ((strand_pos F.sv nw (x := 1) (by decide) pr.1).2.2 z)
        have fp := F.pos _ mn
        obtain ⟨q0, eq0⟩ := lk_some (pl.key.mpr (rpos_ne fp))
        have aq0 : q0 = amt l pr.1 := by unfold amt; rw [eq0]; rfl
        have pe2 : pr.2 = strandF sd 1 pr.1 := plu.mem mem
        obtain ⟨a1, w1, ea1, g1, r1⟩ := ((hl8.at.up Fr.mono lm6).up Fr.mono (same_sm sl2)).get e2.gh eq0
        obtain ⟨a2, w2, ea2, g2, r2⟩ := ((hlu8.at.up Fr.mono lm6).up Fr.mono (same_sm sl2)).get e2.gh (lk_of_mem plu.nd mem)
        refine ⟨rfl, lc_yes ⟨_, rfl, _, rfl, a1, w1, ea1, g1, r1.ins e2.gh, _, rfl, _, rfl, a2, w2, ea2, g2, G2, w1, w2, _, _, rfl, e2.gh, r1, r2, by rw [aq0]; exact st.bd _, by rw [pe2]; exact Tx.bd _, by rw [pe2]; exact Tx.bs un0, fun v3 G3 H3 e3 h3 => hY _ _ _ _ e3 h3 ?_⟩⟩
        show (lu.take (i + 1)).map _ = (lu.take i).map _ ++ _
        rw [take_succ_of hi, List.map_append, aq0]; rfl
      rw [List.take_length] at o9
      obtain ⟨q1, q2, q3⟩ := unl e8.gh hk6 e9
      have g6 : G9 d6 = some (lck od kv6) := e9.g d6 _ upd_same
      have o10 := o9.turn (a := d6) (o' := .dK kv6) g6 q3 Fr.mono
      have dl6 : dl ≠ d6 := fun z => by rw [z, upd_same] at hdl; cases hdl
      have hdl8 : H8 dl = none := by rw [upd_ne dl6] at hdl; exact hdl
      refine ⟨q1, ?_⟩
      generalize upd G9 d6 (.dK kv6) = G10 at *
      generalize upd H9 d6 (.dK kv6) = H10 at *
      have e110 := e18.trans q2
      -- the changes
      have hch10 := hch.up Fr.mono q2.g
      have hov10 := hov8.up Fr.mono q2.g
      obtain ⟨d7, kv7, rfl, hk7, hp7⟩ := id hch10
      obtain ⟨xs10, gx10, hx10, px10⟩ := id o10
      refine ⟨_, rfl, .inl ⟨rfl, _, SqL.of hx10⟩, d7, _, q2.gh _ _ hk7, trivial, fun od7 => ⟨_, rfl, d7, od7, rfl, .inl ⟨kv7, upd_same, ?_⟩⟩⟩
      have lm7 := lock_sm (od := od7) hk7
      have sL7 := same_upd (p := d7) (o := lck od7 kv7) q2.gh
      have p4 := nw.ok.p4
      refine lc_keys (S := Fr c) (l := tab n.ps (chg sd)) Fr.mono hp7 upd_same (Same.refl _) sL7 (Ext.refl sL7) (by rw [tab_len]; omega) (fun i => ((n.ps.take i).filter fun p => decide (chg sd p ≠ 0)).map fun p => osum n.ws (amt l) p / chg sd p) rfl (fun i pr G2 H2 hi sl2 e2 Yes No hY hN => ?_) (fun wz G11 H11 sl11 e11 hz11 => ?_)
      · obtain ⟨hpi, epr⟩ := tab_get hi
        have mp := List.mem_of_getElem? hpi
        have hC := (hch10.at.up Fr.mono lm7).up Fr.mono (same_sm sl2)
        have hO := (hov10.at.up Fr.mono lm7).up Fr.mono (same_sm sl2)
        obtain ⟨a1, w1, ea1, g1, r1⟩ := hC.get e2.gh (tab_lk mp)
        obtain ⟨a2, w2, ea2, g2, r2⟩ := hO.get e2.gh (tab_lk mp)
        refine ⟨rfl, _, rfl, _, rfl, a1, w1, ea1, g1, r1.ins e2.gh, G2, w1, _, rfl, e2.gh, r1, rfl, _, rfl, ?_⟩
        rw [sgn_ne]
        by_cases cz : chg sd pr.1 ≠ 0
        · obtain ⟨cb1, cb2⟩ := chg_bs F nw cz
          refine iteDT cz ⟨_, rfl, _, rfl, a2, w2, ea2, g2, r2.ins e2.gh, _, rfl, _, rfl, a1, w1, ea1, g1, G2, w2, w1, _, _, rfl, e2.gh, r2, r1, (st.over nw _).bd, cb1, cb2, fun v3 G3 H3 e3 h3 => hY _ _ _ _ e3 h3 ?_⟩
          show ((n.ps.take (i + 1)).filter _).map _ = _
          rw [filter_take_tab hpi, if_pos (decide_eq_true cz)]
        · refine iteDF cz (hN _ _ (Ext.refl e2.gh) ?_)
          show ((n.ps.take (i + 1)).filter _).map _ = _
          rw [filter_take_tab hpi, if_neg (fun z => cz (of_decide_eq_true z))]
      rw [tab_len, List.take_length] at hz11
      obtain ⟨q4, q5, q6⟩ := unl q2.gh hk7 e11
      have hz12 := hz11.up Fr.mono q6
      refine ⟨q4, ?_⟩
      generalize upd G11 d7 (.dK kv7) = G12 at *
      generalize upd H11 d7 (.dK kv7) = H12 at *
      have o12 := o10.ext Fr.mono q5
      obtain ⟨xs, gx, hx, px⟩ := id o12
      obtain ⟨zb, zs, rfl, hzb, pz⟩ := id hz12
      have e112 := e110.trans q5
      refine ⟨dl, zb, xs, zs, rfl, rfl, hx, q5.gh _ _ hzb, ?_, ?_⟩
      · rw [paired_len px, paired_len pz, List.length_map, List.length_map]
        have := List.length_filter_le (fun p => decide (chg sd p ≠ 0)) n.ps
        exact Nat.le_of_lt (line100 (by omega))
      have q25 := q2.trans q5
      have e13 := q25.wr (o := .lst (xs ++ zs)) hdl8 gx
      have o13 : OwnL (Fr c) G12 (upd H12 dl (.lst (xs ++ zs))) dl ((lu.map fun p => amt l p.1 / p.2) ++ ((n.ps.filter fun p => decide (chg sd p ≠ 0)).map fun p => osum n.ws (amt l) p / chg sd p)) := ⟨_, gx, upd_same, paired_append px pz⟩
      obtain ⟨G13, e13', hL13, sg13⟩ := o13.done Fr.mono e8.gh e13 hdl8
      have e113 := e18.trans e13'
      generalize eqs : ((lu.map fun p => amt l p.1 / p.2) ++ ((n.ps.filter fun p => decide (chg sd p ≠ 0)).map fun p => osum n.ws (amt l) p / chg sd p)) = qs at *
      have mnames : ∀ p ∈ lu, p.1 ∈ sd.names := fun p hp => Classical.byContradiction fun z => (plu.key.mp (List.mem_map.mpr ⟨p, hp, rfl⟩)) ((strand_pos F.sv nw (x := 1) (by decide) p.1).2.2 z)
      have qbd : ∀ q ∈ qs, Bd q := fun q hq => by
        rw [← eqs] at hq
        rcases List.mem_append.mp hq with h | h
        · obtain ⟨p, hp, ep⟩ := List.mem_map.mp h
          rw [← ep]
          show Bd (amt l p.1 / p.2)
          rw [plu.mem hp]
          exact lim1_bd st F nw Tx (mnames p hp)
        · obtain ⟨p, hp, ep⟩ := List.mem_map.mp h
          rw [← ep]
          exact lim2_bd st F nw (of_decide_eq_true (List.mem_filter.mp hp).2)
      have qne : qs ≠ [] := fun z => by
        obtain ⟨m, hm⟩ := List.exists_mem_of_ne_nil _ F.ne
        have : m ∈ keys lu := plu.key.mpr (rpos_ne ((strand_pos F.sv nw (x := 1) (by decide) m).2.1 hm))
        obtain ⟨p, hp, _⟩ := List.mem_map.mp this
        have : amt l p.1 / p.2 ∈ qs := by rw [← eqs]; exact List.mem_append_left _ (List.mem_map.mpr ⟨p, hp, rfl⟩)
        rw [z] at this; cases this
      refine ⟨_, rfl, G13, .ref dl, qs, rfl, e13'.gh, hL13, qne, qbd, fun v9 G14 H14 e14 ⟨q, mq, hq9, lq⟩ => ?_⟩
      rw [← eqs] at mq lq
      have L := least_mk nw F plu mq lq
      have e114 := e113.trans e14
      have x814 := e13'.trans e14
      have os14 := os8.ext SdAt.mono x814
      have hsd14 := L3At.mono (same_sm x814.g) hsd8
      obtain ⟨tb, b0, b1, b2, etb, htb, hb0, hb1, hb2⟩ := id hsd14
      cases etb
      obtain ⟨xs14, gs14, hs14, ps14⟩ := id os14
      -- strands.append(lists + (size,))
      refine ⟨_, rfl, .inl ⟨rfl, _, SqL.of hs14⟩, _, rfl, _, rfl, by show 1 ≤ sizeLine; decide, fun p np => ?_⟩
      have i15 := Ext.imm (p := p) (o := .tup [v9]) e14.gh np
      refine ⟨t5, p, _, _, rfl, rfl, SqT.of (i15.gh _ _ (i15.g _ _ htb)), SqT.of upd_same, by simp, by show 3 + 1 ≤ sizeLine; decide, (fun z => by cases z), fun _ t nt => ?_⟩
      have x16 := i15.trans (Ext.imm (p := t) (o := .tup ([b0, b1, b2] ++ [v9])) i15.gh nt)
      have os16 := os14.ext SdAt.mono x16
      obtain ⟨xs16, gs16, hs16, ps16⟩ := id os16
      have r16 : SdAt c (upd (upd G14 p (.tup [v9])) t (.tup ([b0, b1, b2] ++ [v9]))) (.ref t) (sd, q) := ⟨t, b0, b1, b2, v9, rfl, upd_same, hb0.up StrAt.mono (same_sm x16.g), hb1.up StrAt.mono (same_sm x16.g), hb2.up StrAt.mono (same_sm x16.g), Fr.mono (same_sm x16.g) hq9⟩
      have sl := acc.len
      refine ⟨ds, xs16, .ref t, rfl, rfl, hs16, line100 (by rw [paired_len ps16]; omega), ?_⟩
      have e117 := (e114.trans x16).wr (o := .lst (xs16 ++ [.ref t])) hdsH gs16
      have os17 := OwnL.snoc (R := SdAt c) (H := upd (upd H14 p (.tup [v9])) t (.tup ([b0, b1, b2] ++ [v9]))) (d := ds) gs16 ps16 r16
      have x817 := x814.trans x16
      have hq17 := Fr.mono (same_sm x16.g) hq9
      have hlu17 := hlu8.up Fr.mono x817.g
      have hl17 := hl8.up Fr.mono x817.g
      obtain ⟨D', st', acc'⟩ := acc.snoc st F L nw
      obtain ⟨D'', st'', sx, dec⟩ := left_St st F L nw
      obtain ⟨qb1, qb2⟩ := sx.bdq
      refine ⟨_, rfl, _, rfl, _, 0, rfl, e117.gh, fun v18 G18 H18 e18' h18 => ?_⟩
      have hq18 := Fr.mono (same_sm e18'.g) hq17
      refine ⟨h18.ins e18'.gh, _, rfl, G18, v18, v9, _, _, rfl, e18'.gh, h18, hq18, zero_bd, qb1, trivial, fun v19 G19 H19 e19 h19 => ?_⟩
      have x19 := e18'.trans e19
      refine ⟨G19, .ref d6, v19, lu, _, rfl, e19.gh, hlu17.up Fr.mono x19.g, plu.nd, h19, by omega, qb2, fun m => by rw [plu.amt]; exact Tx.bd m, fun v20 G20 H20 e20 ⟨m2, hm2, tm2⟩ => ?_⟩
      have x20 := x19.trans e20
      have l2l := tm2.lenle
      rw [keys_len] at l2l
      have e2f : ∀ m, amt m2 m = strandF sd 1 m * (0 - q) := fun m => by
        rw [tm2.amt]
        split
        · rw [plu.amt]; rfl
        · rename_i hm
          have : strandF sd 1 m = 0 := Classical.byContradiction fun z => hm (plu.key.mpr z)
          rw [this]; grind
      refine ⟨G20, .ref d2, v20, l, m2, rfl, e20.gh, (hl17.up Fr.mono x20.g).at, hm2.at, by omega, by omega, fun m => ⟨st.bd m, ?_⟩, fun v21 G21 H21 e21 ⟨m3, hm3, tm3⟩ => ?_⟩
      · rw [e2f]
        have d1 := (Tx.both m).1.mul (Dv.zero.sub sx.dv : Dv D'' (0 - q))
        have a1 := (Tx.both m).2.mul ((Ab.zero (V := 1)).sub sx.ab)
        exact bd_of (a := 4110) (b := 10300) d1 a1 (Nat.mul_pos Tx.pos sx.pos) (pw_mul Tx.le sx.d (by decide)) (pw_mul (a := 114) (b := 10111) (Nat.le_refl _) (by
          have : (2 : Nat) ^ 10000 * 2 ^ 110 = 2 ^ 10110 := by rw [← Nat.pow_add]
          rw [this]
          have : (2 : Nat) ^ 10111 = 2 ^ 10110 + 2 ^ 10110 := by rw [show 10111 = 10110 + 1 from rfl, Nat.pow_succ, Nat.mul_two]
          rw [this]
          have : 1 ≤ 2 ^ 10110 := Nat.one_le_two_pow
          omega) (by decide))
      · have pl3 : PlF m3 (left (amt l) sd q) := by
          refine (tm3.plf fun m hm => ?_).eq fun m => by rw [e2f]; exact left_eq m
          rw [amt_none fun z => hm (List.mem_append_left _ z), amt_none fun z => hm (List.mem_append_right _ z)]; grind
        have ea3 : amt m3 = left (amt l) sd q := funext pl3.amt
        exact ⟨G21, v21, _, _, _, _, _, _, m3, ss ++ [(sd, q)], D', rfl, e117.trans (x20.trans e21), hm3, ⟨pl3.nd, pl3.nz, fun _ => rfl⟩, by rw [ea3]; exact st', os17.ext SdAt.mono (x20.trans e21), by rw [ea3]; exact acc', by rw [ea3]; exact dec⟩
end
end GH
end
section
set_option maxRecDepth 100000
/-! The law's pairs. -/
namespace GH
open PySem PySem.Spec PyProof.Rows L2 GM
/-- the script -/
def ScrAt (K : PySem.W.Frag) (G : Hp) (v : V) (ns : List Int) : Prop := ∃ a, v = .ref a ∧ SqL K G a (ns.map V.int)
theorem ScrAt.same {K : PySem.W.Frag} {G G' : Hp} {v : V} {ns : List Int} (h : ScrAt K G v ns) (s : Same G G') : ScrAt K G' v ns := by
  obtain ⟨a, e, h⟩ := h
  refine ⟨a, e, ?_⟩
  rcases h with (h | ⟨o, h⟩) | h
  · exact .inl (.inl (s _ _ h))
  · exact .inl (.inr ⟨o, s _ _ h⟩)
  · exact .inr h
abbrev PI : Rl (Int × Int) := PrAt IntAt IntAt
theorem PI.mono : Mono PI := fun s h => PrAt.mono (R := IntAt) (S := IntAt) IntAt.mono IntAt.mono s h
theorem PI.obj {G : Hp} {v : V} {p : Int × Int} (h : PI G v p) : ∃ a, v = .ref a ∧ G a = some (.tup [.int p.1, .int p.2]) := by
  obtain ⟨a, v1, v2, e, h1, h2, h3⟩ := h
  have h2 : v1 = .int p.1 := h2
  have h3 : v2 = .int p.2 := h3
  subst h2 h3
  exact ⟨a, e, h1⟩
theorem PI.mk {G : Hp} {a : Addr} {x y : Int} : PI (upd G a (.tup [.int x, .int y])) (.ref a) (x, y) := ⟨a, _, _, rfl, upd_same, rfl, rfl⟩
def rv (p : Int × Int) : Rat := (p.1 : Rat) / (p.2 : Rat)
def plI (p q : Int × Int) : Int × Int := (p.1 * q.2 + q.1 * p.2, p.2 * q.2)
def tmI (p q : Int × Int) : Int × Int := (p.1 * q.1, p.2 * q.2)
theorem cast_ne {i : Int} (h : i ≠ 0) : (i : Rat) ≠ 0 := fun z => h (Rat.intCast_inj.mp (z : (i : Rat) = ((0 : Int) : Rat)))
theorem rv_mul {p : Int × Int} (h : p.2 ≠ 0) : rv p * (p.2 : Rat) = (p.1 : Rat) := mul_div_self (cast_ne h)
theorem rv_eq {p : Int × Int} {x : Rat} (h : p.2 ≠ 0) (e : x * (p.2 : Rat) = (p.1 : Rat)) : rv p = x := by
  have := rv_mul h
  have n := cast_ne h
  have k : (rv p - x) * (p.2 : Rat) = 0 := by grind
  rcases Rat.mul_eq_zero.mp k with k | k
  · grind
  · exact absurd k n
theorem rv_pl {p q : Int × Int} (hp : p.2 ≠ 0) (hq : q.2 ≠ 0) : rv (plI p q) = rv p + rv q := by
  refine rv_eq (Int.mul_ne_zero hp hq) ?_
  have e1 := rv_mul hp
  have e2 := rv_mul hq
  show (rv p + rv q) * ((p.2 * q.2 : Int) : Rat) = ((p.1 * q.2 + q.1 * p.2 : Int) : Rat)
  rw [Rat.intCast_add, Rat.intCast_mul, Rat.intCast_mul, Rat.intCast_mul, ← e1, ← e2]; grind
theorem rv_tm {p q : Int × Int} (hp : p.2 ≠ 0) (hq : q.2 ≠ 0) : rv (tmI p q) = rv p * rv q := by
  refine rv_eq (Int.mul_ne_zero hp hq) ?_
  have e1 := rv_mul hp
  have e2 := rv_mul hq
  show (rv p * rv q) * ((p.2 * q.2 : Int) : Rat) = ((p.1 * q.1 : Int) : Rat)
  rw [Rat.intCast_mul, Rat.intCast_mul, ← e1, ← e2]; grind
theorem rv_same {p q : Int × Int} (hp : p.2 ≠ 0) (hq : q.2 ≠ 0) : (p.1 * q.2 = q.1 * p.2) ↔ rv p = rv q := by
  have e1 := rv_mul hp
  have e2 := rv_mul hq
  constructor
  · intro h
    refine rv_eq hp ?_
    have h' : ((p.1 * q.2 : Int) : Rat) = ((q.1 * p.2 : Int) : Rat) := by rw [h]
    rw [Rat.intCast_mul, Rat.intCast_mul, ← e2] at h'
    have n := cast_ne hq
    have k : (rv q * (p.2 : Rat) - (p.1 : Rat)) * (q.2 : Rat) = 0 := by grind
    rcases Rat.mul_eq_zero.mp k with k | k
    · grind
    · exact absurd k n
  · intro h
    have : ((p.1 * q.2 : Int) : Rat) = ((q.1 * p.2 : Int) : Rat) := by
      rw [Rat.intCast_mul, Rat.intCast_mul, ← e1, ← e2, h]; grind
    exact Rat.intCast_inj.mp this
structure PSz (b : Nat) (p : Int × Int) : Prop where
  a : p.1.natAbs < 2 ^ b
  b : p.2.natAbs < 2 ^ b
theorem lt_mul {a b x y : Nat} (h : x < 2 ^ a) (k : y < 2 ^ b) : x * y < 2 ^ (a + b) := by
  rw [Nat.pow_add]; exact Nat.mul_lt_mul'' h k
theorem PSz.pl {a b : Nat} {p q : Int × Int} (h : PSz a p) (k : PSz b q) : PSz (a + b + 1) (plI p q) := by
  refine ⟨?_, ?_⟩
  · have h1 := lt_mul h.a k.b
    have h2 := lt_mul k.a h.b
    rw [Nat.add_comm b a] at h2
    have := Int.natAbs_add_le (p.1 * q.2) (q.1 * p.2)
    rw [Int.natAbs_mul, Int.natAbs_mul] at this
    rw [Nat.pow_succ, Nat.mul_two]
    show (p.1 * q.2 + q.1 * p.2).natAbs < _
    omega
  · have h1 := lt_mul h.b k.b
    show (p.2 * q.2).natAbs < _
    rw [Int.natAbs_mul]
    exact Nat.lt_trans h1 (Nat.pow_lt_pow_right (by decide) (by omega))
theorem PSz.tm {a b : Nat} {p q : Int × Int} (h : PSz a p) (k : PSz b q) : PSz (a + b) (tmI p q) := by
  refine ⟨?_, ?_⟩
  · show (p.1 * q.1).natAbs < _
    rw [Int.natAbs_mul]; exact lt_mul h.a k.a
  · show (p.2 * q.2).natAbs < _
    rw [Int.natAbs_mul]; exact lt_mul h.b k.b
theorem PSz.up {a b : Nat} {p : Int × Int} (h : PSz a p) (k : a ≤ b) : PSz b p := ⟨Nat.lt_of_lt_of_le h.a (Nat.pow_le_pow_right (by decide) k), Nat.lt_of_lt_of_le h.b (Nat.pow_le_pow_right (by decide) k)⟩
/-- what may be multiplied -/
abbrev PB6 (p : Int × Int) : Prop := PSz 10000000 p
abbrev sCA : Stmt := topS 67
abbrev sLN : Stmt := topS 68
abbrev sLG : Stmt := topS 69
abbrev sLFa : Stmt := topS 70
abbrev sLW : Stmt := topS 71
abbrev sLC : Stmt := topS 72
abbrev sLNt : Stmt := topS 73
abbrev sLP : Stmt := topS 74
abbrev sLT : Stmt := topS 75
abbrev sLWs : Stmt := topS 76
abbrev sLFW : Stmt := topS 77
abbrev sLRg : Stmt := topS 78
abbrev sLSt : Stmt := topS 79
abbrev sLSs : Stmt := topS 80
abbrev sLPr : Stmt := topS 81
abbrev sLSe : Stmt := topS 82
abbrev sLPl : Stmt := topS 83
abbrev sLDu : Stmt := topS 84
abbrev sLBr : Stmt := topS 85
abbrev sLWh : Stmt := topS 86
abbrev sLTo : Stmt := topS 87
abbrev sLAP : Stmt := topS 88
abbrev sLSa : Stmt := topS 89
abbrev sLAb : Stmt := topS 90
abbrev sLER : Stmt := topS 91
abbrev sLCR : Stmt := topS 92
abbrev sLaw : Stmt := topS 93
/-- what the script tells at j -/
def caF (ns : List Int) (j : Nat) : Int := if j < ns.length then ns.getD j 0 else if ns.length = 0 then 0 else ns.getD (j % ns.length) 0 * (48271 + (j : Int) * (j : Int)) % 1000003
def spCA (K : PySem.W.Frag) : Sp := fun vs H Q _ => ∃ (G : Hp) (x : V) (j : Nat) (ns : List Int), vs = [x, .int (j : Nat)] ∧ Same G H ∧ ScrAt K G x ns ∧ j ≤ 1000 ∧ ns.length ≤ 1000 ∧ Q (.int (caF ns j)) H
def spLP : Sp := fun vs H Q _ => ∃ (G : Hp) (x y : V) (p q : Int × Int), vs = [x, y] ∧ Same G H ∧ PI G x p ∧ PI G y q ∧ PB6 p ∧ PB6 q ∧ Ret G H Q (fun v G' => PI G' v (plI p q))
def spLT : Sp := fun vs H Q _ => ∃ (G : Hp) (x y : V) (p q : Int × Int), vs = [x, y] ∧ Same G H ∧ PI G x p ∧ PI G y q ∧ PB6 p ∧ PB6 q ∧ Ret G H Q (fun v G' => PI G' v (tmI p q))
def spLSa : Sp := fun vs H Q _ => ∃ (G : Hp) (x y : V) (p q : Int × Int), vs = [x, y] ∧ Same G H ∧ PI G x p ∧ PI G y q ∧ PB6 p ∧ PB6 q ∧ Q (.bl (decide (p.1 * q.2 = q.1 * p.2))) H
def abI (p : Int × Int) : Int × Int := if 0 < p.1 then p else (0, 1)
def spLAb : Sp := fun vs H Q _ => ∃ (G : Hp) (x : V) (p : Int × Int), vs = [x] ∧ Same G H ∧ PI G x p ∧ Ret G H Q (fun v G' => PI G' v (abI p))
def spLG : Sp := fun vs H Q _ => ∃ (G : Hp) (i : Int), vs = [.int i] ∧ Same G H ∧ Ret G H Q (fun v G' => ∃ p, PI G' v p ∧ 1 ≤ p.1 ∧ p.1 ≤ 5 ∧ 1 ≤ p.2 ∧ p.2 ≤ 5)
def spLFa : Sp := fun vs H Q _ => ∃ (G : Hp) (i : Int) (b : Bool), vs = [.int i, .bl b] ∧ Same G H ∧ Ret G H Q (fun v G' => ∃ p, PI G' v p ∧ 1 ≤ p.2 ∧ p.2 ≤ 5 ∧ p.1 ≤ 8 ∧ (b = true → p.1 = p.2) ∧ (b = false → p.2 < p.1))
def spLWh : Sp := fun vs H Q _ => ∃ i : Int, vs = [.int i] ∧ Q (.bl true) H
def spLTo (c : Cl) : Sp := fun vs H Q _ => ∃ (G : Hp) (x : V) (q : Rat), vs = [x] ∧ Same G H ∧ Fr c G x q ∧ Ret G H Q (fun v G' => PI G' v (q.num, (q.den : Int)))
section
variable {P : Program} {w : World} {K : PySem.W.Frag} {mg : Str → Option Value} {base : Heap} {c : Cl} {f : Addr} {fd : FuncData}
theorem scCA : FnScope ["_law_script", "_law_k"] ["_law_script", "_law_k"] (defScope sCA) := ⟨rfl, rfl, rfl, by decide +kernel, rfl, by decide +kernel, by decide +kernel⟩
theorem small_mul {i j : Int} (h1 : 0 ≤ j) (h2 : j ≤ 2 ^ 30) : CMul i j := .inr ⟨by omega, by omega⟩
theorem atI_cell2 {ns : List Int} {j : Nat} (h : j < ns.length) : atI (ns.map V.int) ((j : Nat) : Int) = some (V.int ns[j]) := by
  unfold atI ixN
  rw [if_pos (by omega), if_pos (by rw [List.length_map]; omega)]
  show (ns.map V.int)[((j : Nat) : Int).toNat]? = _
  rw [Int.toNat_natCast, List.getElem?_map, List.getElem?_eq_getElem h]; rfl
theorem ok_ca (F : FnP K "_law_cell_at" "_law_cell_at" sCA f fd) (T : Txt K mg c) : FnOk P w K mg base CX0 1 f fd ["_law_script", "_law_k"] (spCA K) := by
  refine F.ok scCA (fun vs H Q E h => ?_) (fun cdv A outer s H vs Q E hr h => ?_)
  · obtain ⟨G, x, j, ns, rfl, _⟩ := h
    rfl
  · obtain ⟨G, x, j, ns, rfl, s, hx, jl, nl, k⟩ := h
    refine ⟨_, PSs.nox (pss_cons (ps_if (pt_cmpR op_lt (pv 1) (pe_callB call_len_seq (by rfl) T.len PySem.boot_len (pa_cons (pv 0) pa_nil)) (nomark _)) (pss_one (ps_ret (pe_ix ix_list (pv 0) (pv 1) (fun _ _ => rfl)))) pss_nil)
      (pss_cons (ps_if (pt_cmpR op_eq (pe_callB call_len_seq (by rfl) T.len PySem.boot_len (pa_cons (pv 0) pa_nil)) pe_int (nomark _)) (pss_one (ps_ret pe_int)) pss_nil)
      (pss_one (ps_ret (pe_op op_mod (pe_op op_mul (pe_ix ix_list (pv 0) (pe_op op_mod (pv 1) (pe_callB call_len_seq (by rfl) T.len PySem.boot_len (pa_cons (pv 0) pa_nil))) (fun _ _ => rfl)) (pe_op op_add pe_int (pe_op op_mul (pv 1) (pv 1)))) pe_int))))), ?_⟩
    obtain ⟨a, rfl, hS⟩ := hx.same s
    have lm : ((ns.map V.int).length : Int) = (ns.length : Int) := by rw [List.length_map]
    refine ⟨_, rfl, _, rfl, a, _, rfl, .inl hS, _, _, rfl, rfl, _, rfl, ?_⟩
    rw [lm]
    by_cases jn : (j : Int) < (ns.length : Int)
    · have gd0 : ns[j]'(by omega) = caF ns j := by
        unfold caF
        rw [if_pos (by omega), List.getD_eq_getElem?_getD, List.getElem?_eq_getElem (by omega)]; rfl
      refine iteDT jn ⟨_, rfl, _, rfl, a, _, _, _, rfl, rfl, hS, atI_cell2 (by omega), ?_⟩
      rw [gd0]; exact k
    · refine iteDF jn ⟨_, rfl, a, _, rfl, .inl hS, rfl, _, rfl, ?_⟩
      rw [lm]
      by_cases n0 : ns.length = 0
      · refine iteDT (by rw [n0]; rfl) ?_
        have : caF ns j = 0 := by unfold caF; rw [if_neg (by omega), if_pos n0]
        rw [this] at k
        exact k
      · refine iteDF (fun z => by injection z with z; omega) ?_
        refine ⟨_, rfl, _, rfl, _, rfl, a, _, rfl, .inl hS, _, _, rfl, rfl, (by rw [lm]; omega), ?_⟩
        rw [lm]
        have jm : j % ns.length < ns.length := Nat.mod_lt _ (by omega)
        have gd1 : ns[j % ns.length]'jm * (48271 + (j : Int) * (j : Int)) % 1000003 = caF ns j := by
          unfold caF
          rw [if_neg (by omega), if_neg n0, List.getD_eq_getElem?_getD, List.getElem?_eq_getElem jm]; rfl
        rw [← gd1] at k
        have jj : (j : Int) * (j : Int) ≤ 1000 * 1000 := Int.mul_le_mul (by omega) (by omega) (by omega) (by omega)
        have jj0 : (0 : Int) ≤ (j : Int) * (j : Int) := Int.mul_nonneg (by omega) (by omega)
        have s30 : (1100000 : Int) ≤ 2 ^ 30 := by decide
        refine ⟨a, _, ((j % ns.length : Nat) : Int), _, rfl, rfl, hS, atI_cell2 jm, _, rfl, _, rfl, _, _, rfl, rfl, small_mul (by omega) (by omega), _, _, rfl, rfl, _, _, rfl, rfl, small_mul (by omega) (by omega), _, _, rfl, rfl, (by show (0 : Int) < 1000003; decide), k⟩
theorem scLP : FnScope ["_law_one", "_law_other"] ["_law_one", "_law_other"] (defScope sLP) := ⟨rfl, rfl, rfl, by decide +kernel, rfl, by decide +kernel, by decide +kernel⟩
theorem scLT : FnScope ["_law_one", "_law_other"] ["_law_one", "_law_other"] (defScope sLT) := ⟨rfl, rfl, rfl, by decide +kernel, rfl, by decide +kernel, by decide +kernel⟩
theorem scLSa : FnScope ["_law_one", "_law_other"] ["_law_one", "_law_other"] (defScope sLSa) := ⟨rfl, rfl, rfl, by decide +kernel, rfl, by decide +kernel, by decide +kernel⟩
theorem mul6 {i j : Int} (h : i.natAbs < 2 ^ 10000000) (k : j.natAbs < 2 ^ 10000000) : CMulX i j := mulx_ok h k (by decide)
theorem ok_lp (F : FnP K "_law_plus" "_law_plus" sLP f fd) : FnOk P w K mg base CX0 1 f fd ["_law_one", "_law_other"] spLP := by
  refine F.ok scLP (fun vs H Q E h => ?_) (fun cdv A outer s H vs Q E hr h => ?_)
  · obtain ⟨G, x, y, p, q, rfl, _⟩ := h
    rfl
  · obtain ⟨G, x, y, p, q, rfl, s, hx, hy, bp, bq, k⟩ := h
    refine ⟨_, PSs.nox (pss_one (ps_ret (pe_tup (pa_cons (pe_op op_add (pe_op op_mulX (pe_ix ix_tup (pv 0) pe_int (fun _ _ => rfl)) (pe_ix ix_tup (pv 1) pe_int (fun _ _ => rfl))) (pe_op op_mulX (pe_ix ix_tup (pv 1) pe_int (fun _ _ => rfl)) (pe_ix ix_tup (pv 0) pe_int (fun _ _ => rfl))))
      (pa_cons (pe_op op_mulX (pe_ix ix_tup (pv 0) pe_int (fun _ _ => rfl)) (pe_ix ix_tup (pv 1) pe_int (fun _ _ => rfl))) pa_nil))))), ?_⟩
    obtain ⟨a, rfl, ha⟩ := hx.obj
    obtain ⟨b, rfl, hb⟩ := hy.obj
    have hA : SqT K H a [.int p.1, .int p.2] := SqT.of (s _ _ ha)
    have hB : SqT K H b [.int q.1, .int q.2] := SqT.of (s _ _ hb)
    refine ⟨_, rfl, a, _, 0, _, rfl, rfl, hA, rfl, _, rfl, b, _, 1, _, rfl, rfl, hB, rfl, _, _, rfl, rfl, mul6 bp.a bq.b, _, rfl, b, _, 0, _, rfl, rfl, hB, rfl, _, rfl, a, _, 1, _, rfl, rfl, hA, rfl, _, _, rfl, rfl, mul6 bq.a bp.b, _, _, rfl, rfl,
      _, rfl, a, _, 1, _, rfl, rfl, hA, rfl, _, rfl, b, _, 1, _, rfl, rfl, hB, rfl, _, _, rfl, rfl, mul6 bp.b bq.b, by show 2 ≤ sizeLine; decide, fun t nt => ?_⟩
    exact k _ _ _ (Ext.imm s nt) PI.mk
theorem ok_lt (F : FnP K "_law_times" "_law_times" sLT f fd) : FnOk P w K mg base CX0 1 f fd ["_law_one", "_law_other"] spLT := by
  refine F.ok scLT (fun vs H Q E h => ?_) (fun cdv A outer s H vs Q E hr h => ?_)
  · obtain ⟨G, x, y, p, q, rfl, _⟩ := h
    rfl
  · obtain ⟨G, x, y, p, q, rfl, s, hx, hy, bp, bq, k⟩ := h
    refine ⟨_, PSs.nox (pss_one (ps_ret (pe_tup (pa_cons (pe_op op_mulX (pe_ix ix_tup (pv 0) pe_int (fun _ _ => rfl)) (pe_ix ix_tup (pv 1) pe_int (fun _ _ => rfl)))
      (pa_cons (pe_op op_mulX (pe_ix ix_tup (pv 0) pe_int (fun _ _ => rfl)) (pe_ix ix_tup (pv 1) pe_int (fun _ _ => rfl))) pa_nil))))), ?_⟩
    obtain ⟨a, rfl, ha⟩ := hx.obj
    obtain ⟨b, rfl, hb⟩ := hy.obj
    have hA : SqT K H a [.int p.1, .int p.2] := SqT.of (s _ _ ha)
    have hB : SqT K H b [.int q.1, .int q.2] := SqT.of (s _ _ hb)
    refine ⟨_, rfl, a, _, 0, _, rfl, rfl, hA, rfl, _, rfl, b, _, 0, _, rfl, rfl, hB, rfl, _, _, rfl, rfl, mul6 bp.a bq.a,
      _, rfl, a, _, 1, _, rfl, rfl, hA, rfl, _, rfl, b, _, 1, _, rfl, rfl, hB, rfl, _, _, rfl, rfl, mul6 bp.b bq.b, by show 2 ≤ sizeLine; decide, fun t nt => ?_⟩
    exact k _ _ _ (Ext.imm s nt) PI.mk
theorem ok_lsa (F : FnP K "_law_same" "_law_same" sLSa f fd) : FnOk P w K mg base CX0 1 f fd ["_law_one", "_law_other"] spLSa := by
  refine F.ok scLSa (fun vs H Q E h => ?_) (fun cdv A outer s H vs Q E hr h => ?_)
  · obtain ⟨G, x, y, p, q, rfl, _⟩ := h
    rfl
  · obtain ⟨G, x, y, p, q, rfl, s, hx, hy, bp, bq, k⟩ := h
    refine ⟨_, PSs.nox (pss_one (ps_ret (pe_cmpR op_eq (pe_op op_mulX (pe_ix ix_tup (pv 0) pe_int (fun _ _ => rfl)) (pe_ix ix_tup (pv 1) pe_int (fun _ _ => rfl))) (pe_op op_mulX (pe_ix ix_tup (pv 1) pe_int (fun _ _ => rfl)) (pe_ix ix_tup (pv 0) pe_int (fun _ _ => rfl))) (nomark _)))), ?_⟩
    obtain ⟨a, rfl, ha⟩ := hx.obj
    obtain ⟨b, rfl, hb⟩ := hy.obj
    have hA : SqT K H a [.int p.1, .int p.2] := SqT.of (s _ _ ha)
    have hB : SqT K H b [.int q.1, .int q.2] := SqT.of (s _ _ hb)
    refine ⟨_, rfl, a, _, 0, _, rfl, rfl, hA, rfl, _, rfl, b, _, 1, _, rfl, rfl, hB, rfl, _, _, rfl, rfl, mul6 bp.a bq.b, _, rfl, b, _, 0, _, rfl, rfl, hB, rfl, _, rfl, a, _, 1, _, rfl, rfl, hA, rfl, _, _, rfl, rfl, mul6 bq.a bp.b, rfl, ?_⟩
    have : decide (V.int (p.1 * q.2) = V.int (q.1 * p.2)) = decide (p.1 * q.2 = q.1 * p.2) := decide_eq_decide.mpr ⟨fun z => V.int.inj z, fun z => by rw [z]⟩
    show Q (.bl (decide (V.int (p.1 * q.2) = V.int (q.1 * p.2)))) H
    rw [this]; exact k
theorem scLAb : FnScope ["_law_pair"] ["_law_pair"] (defScope sLAb) := ⟨rfl, rfl, rfl, by decide +kernel, rfl, by decide +kernel, by decide +kernel⟩
theorem ok_lab (F : FnP K "_law_above" "_law_above" sLAb f fd) : FnOk P w K mg base CX0 1 f fd ["_law_pair"] spLAb := by
  refine F.ok scLAb (fun vs H Q E h => ?_) (fun cdv A outer s H vs Q E hr h => ?_)
  · obtain ⟨G, x, p, rfl, _⟩ := h
    rfl
  · obtain ⟨G, x, p, rfl, s, hx, k⟩ := h
    refine ⟨_, PSs.nox (pss_cons (ps_if (pt_cmpR op_gt (pe_ix ix_tup (pv 0) pe_int (fun _ _ => rfl)) pe_int (nomark _)) (pss_one (ps_ret (pv 0))) pss_nil) (pss_one (ps_ret (pe_tup (pa_cons pe_int (pa_cons pe_int pa_nil)))))), ?_⟩
    obtain ⟨a, rfl, ha⟩ := hx.obj
    refine ⟨_, rfl, a, _, 0, _, rfl, rfl, SqT.of (s _ _ ha), rfl, _, _, rfl, rfl, _, rfl, ?_⟩
    unfold abI at k
    by_cases h : 0 < p.1
    · rw [if_pos h] at k
      exact iteDT h ⟨_, rfl, k _ _ _ (Ext.refl s) hx⟩
    · rw [if_neg h] at k
      exact iteDF h ⟨by show 2 ≤ sizeLine; decide, fun t nt => k _ _ _ (Ext.imm s nt) PI.mk⟩
end
end GH
end
section
set_option maxRecDepth 100000
/-! The law's gains, factors, readings of Fractions, costs. -/
namespace GH
open PySem PySem.Spec PyProof.Rows L2 GM
/-- the cost of the way of that name -/
def cstF (ks : List Str) (cell : Int) (m : Str) : Int := cell * (48271 + ((ks.idxOf m : Nat) : Int)) % 1000003 % 11 - 5
theorem cst_le (ks : List Str) (cell : Int) (m : Str) : -5 ≤ cstF ks cell m ∧ cstF ks cell m ≤ 5 := by unfold cstF; omega
def spLC {α : Type} (R : Rl α) : Sp := fun vs H Q _ => ∃ (G : Hp) (m : Str) (y : V) (l : List (Str × α)) (i : Int), vs = [.str m, y, .int i] ∧ Same G H ∧ DctAt R G y l ∧ (keys l).Nodup ∧ l.length ≤ 1000 ∧ m ∈ keys l ∧ ∀ G' H', Ext G H G' H' → Q (.int (cstF (keys l) i m)) H'
section
variable {P : Program} {w : World} {K : PySem.W.Frag} {mg : Str → Option Value} {base : Heap} {c : Cl} {f : Addr} {fd : FuncData}
theorem scLGa : FnScope ["_law_cell"] ["_law_cell"] (defScope sLG) := ⟨rfl, rfl, rfl, by decide +kernel, rfl, by decide +kernel, by decide +kernel⟩
theorem cd (i j : Int) (h : 0 < j) (k : j < 1073741824) : CDiv i j := ⟨h, k⟩
theorem ok_lg (F : FnP K "_law_gain" "_law_gain" sLG f fd) : FnOk P w K mg base CX0 1 f fd ["_law_cell"] spLG := by
  refine F.ok scLGa (fun vs H Q E h => ?_) (fun cdv A outer s H vs Q E hr h => ?_)
  · obtain ⟨G, i, rfl, _⟩ := h
    rfl
  · obtain ⟨G, i, rfl, s, k⟩ := h
    refine ⟨_, PSs.nox (pss_cons (ps_if (pt_cmpR op_eq (pe_op op_mod (pv 0) pe_int) pe_int (nomark _)) (pss_one (ps_ret (pe_tup (pa_cons pe_int (pa_cons pe_int pa_nil))))) pss_nil)
      (pss_one (ps_ret (pe_tup (pa_cons (pe_op op_add pe_int (pe_op op_mod (pe_op op_fdiv (pv 0) pe_int) pe_int)) (pa_cons (pe_op op_add pe_int (pe_op op_mod (pe_op op_fdiv (pv 0) pe_int) pe_int)) pa_nil)))))), ?_⟩
    refine ⟨_, rfl, _, _, rfl, rfl, (by show (0 : Int) < 3; decide), rfl, _, rfl, ?_⟩
    refine ite2 (fun _ => ?_) (fun _ => ?_)
    · exact ⟨by show 2 ≤ sizeLine; decide, fun t nt => k _ _ _ (Ext.imm s nt) ⟨(1, 1), PI.mk, by decide, by decide, by decide, by decide⟩⟩
    · refine ⟨_, rfl, _, _, rfl, rfl, cd _ _ (by decide) (by decide), _, _, rfl, rfl, (by show (0 : Int) < 5; decide), _, _, rfl, rfl, _, rfl, _, _, rfl, rfl, cd _ _ (by decide) (by decide), _, _, rfl, rfl, (by show (0 : Int) < 5; decide), _, _, rfl, rfl, by show 2 ≤ sizeLine; decide, fun t nt => ?_⟩
      exact k _ _ _ (Ext.imm s nt) ⟨(1 + i / 3 % 5, 1 + i / 15 % 5), PI.mk, by show 1 ≤ 1 + i / 3 % 5; omega, by show 1 + i / 3 % 5 ≤ 5; omega, by show 1 ≤ 1 + i / 15 % 5; omega, by show 1 + i / 15 % 5 ≤ 5; omega⟩
theorem scLFa : FnScope ["_law_cell", "_law_equal"] ["_law_cell", "_law_equal"] (defScope sLFa) := ⟨rfl, rfl, rfl, by decide +kernel, rfl, by decide +kernel, by decide +kernel⟩
theorem ok_lfa (F : FnP K "_law_factor" "_law_factor" sLFa f fd) : FnOk P w K mg base CX0 1 f fd ["_law_cell", "_law_equal"] spLFa := by
  refine F.ok scLFa (fun vs H Q E h => ?_) (fun cdv A outer s H vs Q E hr h => ?_)
  · obtain ⟨G, i, b, rfl, _⟩ := h
    rfl
  · obtain ⟨G, i, b, rfl, s, k⟩ := h
    refine ⟨_, PSs.nox (pss_cons (ps_if (pt_val (pv 1)) (pss_one (ps_ret (pe_tup (pa_cons pe_int (pa_cons pe_int pa_nil))))) pss_nil)
      (pss_one (ps_ret (pe_tup (pa_cons (pe_op op_add (pe_op op_add pe_int (pe_op op_mod (pe_op op_fdiv (pv 0) pe_int) pe_int)) (pe_op op_mod (pe_op op_fdiv (pv 0) pe_int) pe_int)) (pa_cons (pe_op op_add pe_int (pe_op op_mod (pe_op op_fdiv (pv 0) pe_int) pe_int)) pa_nil)))))), ?_⟩
    refine ⟨_, rfl, b, rfl, ?_⟩
    cases b with
    | true => exact iteT ⟨by show 2 ≤ sizeLine; decide, fun t nt => k _ _ _ (Ext.imm s nt) ⟨(1, 1), PI.mk, by decide, by decide, by decide, fun _ => rfl, (fun z => nomatch z)⟩⟩
    | false =>
      refine iteF ⟨_, rfl, _, _, rfl, rfl, cd _ _ (by decide) (by decide), _, _, rfl, rfl, (by show (0 : Int) < 5; decide), _, _, rfl, rfl, _, rfl, _, _, rfl, rfl, cd _ _ (by decide) (by decide), _, _, rfl, rfl, (by show (0 : Int) < 3; decide), _, _, rfl, rfl,
        _, rfl, _, _, rfl, rfl, cd _ _ (by decide) (by decide), _, _, rfl, rfl, (by show (0 : Int) < 5; decide), _, _, rfl, rfl, by show 2 ≤ sizeLine; decide, fun t nt => ?_⟩
      exact k _ _ _ (Ext.imm s nt) ⟨(2 + i / 5 % 5 + i / 25 % 3, 1 + i / 5 % 5), PI.mk, by show 1 ≤ 1 + i / 5 % 5; omega, by show 1 + i / 5 % 5 ≤ 5; omega, by show 2 + i / 5 % 5 + i / 25 % 3 ≤ 8; omega, (fun z => nomatch z), fun _ => by show 1 + i / 5 % 5 < 2 + i / 5 % 5 + i / 25 % 3; omega⟩
theorem scLWh : FnScope ["_law_found"] ["_law_found"] (defScope sLWh) := ⟨rfl, rfl, rfl, by decide +kernel, rfl, by decide +kernel, by decide +kernel⟩
theorem ok_lwh (F : FnP K "_law_whole" "_law_whole" sLWh f fd) (T : Txt K mg c) : FnOk P w K mg base CX0 1 f fd ["_law_found"] spLWh := by
  refine F.ok scLWh (fun vs H Q E h => ?_) (fun cdv A outer s H vs Q E hr h => ?_)
  · obtain ⟨i, rfl, _⟩ := h
    rfl
  · obtain ⟨i, rfl, k⟩ := h
    refine ⟨_, PSs.nox (pss_one (ps_ret (pe_and (pe_callB call_isi (by rfl) T.isi (by decide +kernel) (pa_cons (pv 0) (pa_cons (pe_bltn (x := "int") (v := .ty "int") (u := .type "int") (by rfl) T.int (by decide +kernel) rfl) pa_nil))) (pe_one (pe_not (pe_callB call_isi (by rfl) T.isi (by decide +kernel) (pa_cons (pv 0) (pa_cons (pe_bltn (x := "bool") (v := .ty "bool") (u := .type "bool") (by rfl) T.bool (by decide +kernel) rfl) pa_nil)))))))), ?_⟩
    refine ⟨_, rfl, _, _, _, _, _, rfl, .ty "int", .base (.int i), T.kII, _, rfl, iteT ?_⟩
    exact ⟨_, rfl, _, _, _, _, _, rfl, .ty "bool", .base (.int i), T.kIB, _, rfl, k⟩
theorem scLTo : FnScope ["_law_found"] ["_law_found"] (defScope sLTo) := ⟨rfl, rfl, rfl, by decide +kernel, rfl, by decide +kernel, by decide +kernel⟩
theorem ok_lto (F : FnP K "_law_told" "_law_told" sLTo f fd) (T : Txt K mg c) (S1 : Fn P w K mg base "_law_whole" 1 ["_law_found"] [] spLWh) : FnOk P w K mg base CX0 2 f fd ["_law_found"] (spLTo c) := by
  refine F.ok scLTo (fun vs H Q E h => ?_) (fun cdv A outer s H vs Q E hr h => ?_)
  · obtain ⟨G, x, q, rfl, _⟩ := h
    rfl
  · obtain ⟨G, x, q, rfl, s, hx, k⟩ := h
    refine ⟨_, PSs.nox (pss_cons (ps_if (pw_or (pt_not (pt_val (pe_callB call_isi (by rfl) T.isi (by decide +kernel) (pa_cons (pv 0) (pa_cons (pe_glob (v := .ref c.F) (by rfl) T.gF rfl) pa_nil))))) (pw_or (pt_not (pt_val (pe_fn S1 hr (by rfl) (pa_cons (pe_f (pv 0)) pa_nil)))) (pw_or1 (pt_not (pt_val (pe_fn S1 hr (by rfl) (pa_cons (pe_f (pv 0)) pa_nil))))))).pt pss_never pss_nil)
      (pss_one (ps_ret (pe_tup (pa_cons (pe_f (pv 0)) (pa_cons (pe_f (pv 0)) pa_nil)))))), ?_⟩
    obtain ⟨a, dx, rfl, ha⟩ := id hx
    refine ⟨_, rfl, .ref a, .ref c.F, _, _, _, rfl, .own c.F, .base (T.tyF (s _ _ ha)), T.kFF, _, rfl, iteF ?_⟩
    refine ⟨_, rfl, _, hx.top T s, _, rfl, _, rfl, iteF ⟨_, rfl, _, hx.bot T s, _, rfl, _, rfl, iteF ?_⟩⟩
    exact ⟨_, rfl, _, hx.top T s, _, rfl, _, hx.bot T s, by show 2 ≤ sizeLine; decide, fun t nt => k _ _ _ (Ext.imm s nt) PI.mk⟩
theorem scLC : FnScope ["_law_name", "_law_ways_here", "_law_cell"] ["_law_name", "_law_ways_here", "_law_cell"] (defScope sLC) := ⟨rfl, rfl, rfl, by decide +kernel, rfl, by decide +kernel, by decide +kernel⟩
theorem ok_lc {α : Type} {R : Rl α} (F : FnP K "_law_cost" "_law_cost" sLC f fd) (T : Txt K mg c) : FnOk P w K mg base CX0 1 f fd ["_law_name", "_law_ways_here", "_law_cell"] (spLC R) := by
  refine F.ok scLC (fun vs H Q E h => ?_) (fun cdv A outer s H vs Q E hr h => ?_)
  · obtain ⟨G, m, y, l, i, rfl, _⟩ := h
    rfl
  · obtain ⟨G, m, y, l, i, rfl, s, hy, nd, len, hm, k⟩ := h
    refine ⟨_, PSs.nox (pss_one (ps_ret (pe_op op_sub (pe_op op_mod (pe_op op_mod (pe_op op_mul (pv 2) (pe_op op_add pe_int (pe_bm PySem.F.plainAttrs_list PySem.F.slot_list_index PySem.F.type_list_index mt_index (pe_callTy (call_listD rfl) (by rfl) T.list (by decide +kernel) (pa_cons (pv 1) pa_nil)) (pa_cons (pv 0) pa_nil)))) pe_int) pe_int) pe_int))), ?_⟩
    obtain ⟨a, kvs, rfl, hk, hp⟩ := hy
    refine ⟨_, rfl, _, rfl, a, kvs, rfl, (hk.sm (same_sm s)).rd, fun p np => ?_⟩
    rw [kv_keys hp]
    have hL : SqL K (upd H p (.lst ((keys l).map V.str))) p ((keys l).map V.str) := SqL.of upd_same
    have jl : (keys l).idxOf m < (keys l).length := List.idxOf_lt_length_of_mem hm
    have jg : (keys l)[(keys l).idxOf m]? = some m := by rw [List.getElem?_eq_getElem jl, List.getElem_idxOf]
    refine ⟨.inl ⟨rfl, _, hL⟩, _, rfl, p, _, _, (keys l).idxOf m, .str m, rfl, rfl, hL, rfl, flat_strs' _, by rw [List.getElem?_map, jg]; rfl, (show (m == m) = true from beq_self_eq_true m), fun q z hq hz => ?_, ?_⟩
    · rw [List.getElem?_map] at hz
      obtain ⟨y, hy1, hy2⟩ := Option.map_eq_some_iff.mp hz
      subst hy2
      show (y == m) = false
      refine beq_eq_false_iff_ne.mpr fun ey => ?_
      subst ey
      obtain ⟨l1, l1'⟩ := List.getElem?_eq_some_iff.mp hy1
      obtain ⟨l2, l2'⟩ := List.getElem?_eq_some_iff.mp jg
      have := (List.getElem_inj nd).mp (l1'.trans l2'.symm)
      omega
    · have kl : (keys l).length ≤ 1000 := by rw [keys_len]; exact len
      have s30 : (100000 : Int) ≤ 2 ^ 30 := by decide
      refine ⟨_, _, rfl, rfl, _, _, rfl, rfl, small_mul (by omega) (by omega), _, _, rfl, rfl, (by show (0 : Int) < 1000003; decide), _, _, rfl, rfl, (by show (0 : Int) < 11; decide), _, _, rfl, rfl, ?_⟩
      exact k _ _ (Ext.imm s np)
end
end GH
end
section
set_option maxRecDepth 100000
/-! Names that differ. -/
namespace GH
open PySem PySem.Spec PyProof.Rows L2 GM
def sg : Str := "abcdefghijklmnopqrstuvwxyz0123456789."
theorem sg_len : sg.cps.toList.length = 37 := by decide +kernel
theorem sg_nd : sg.cps.toList.Nodup := by decide +kernel
theorem nodup_rng {g : Nat → Str} {n : Nat} (h : ∀ i j, i < n → j < n → g i = g j → i = j) : ((List.range n).map g).Nodup := by
  refine List.pairwise_map.mpr (List.Pairwise.imp_of_mem (R := (· < ·)) (fun {a b} ha hb hlt e => ?_) List.pairwise_lt_range)
  have := h a b (List.mem_range.mp ha) (List.mem_range.mp hb) e
  omega
theorem foldl_app_size (x : Array Nat) (k : Nat) (a : Array Nat) : ((List.replicate k x).foldl (· ++ ·) a).size = a.size + k * x.size := by
  induction k generalizing a with
  | zero => simp
  | succ k ih =>
    rw [List.replicate_succ, List.foldl_cons, ih, Array.size_append, Nat.add_mul, Nat.one_mul]
    omega
theorem mul_len {x : Str} (h : x.length = 1) {n : Int} (hn : 0 ≤ n) : (Txt.mul x n).length = n.toNat := by
  unfold Txt.mul
  by_cases h1 : n < 1
  · rw [if_pos h1]
    have : n = 0 := by omega
    subst this; rfl
  · rw [if_neg h1]
    by_cases h2 : (n == 1 || x.length == 0) = true
    · rw [if_pos h2]
      rw [h] at h2
      have : n = 1 := by simpa using h2
      subst this; exact h
    · rw [if_neg h2]
      show ((List.replicate n.toNat x.cps).foldl (· ++ ·) #[]).size = n.toNat
      rw [foldl_app_size, show x.cps.size = 1 from h]
      simp
theorem mul_small {x : Str} (h : x.length = 1) {n : Int} (h0 : 0 ≤ n) (h1 : n ≤ 1000) : MulOk x n := by
  refine ⟨?_, fun a b => ?_, fun a b => ?_⟩
  · have a : ¬ n < -2 ^ 63 := by omega
    have b : ¬ n ≥ 2 ^ 63 := by omega
    rw [decide_eq_false a, decide_eq_false b]; rfl
  · rw [h]
    have : 1 ≤ ((2 : Int) ^ 63 - 1) / n := (Int.le_ediv_iff_mul_le (by omega)).mpr (by omega)
    omega
  · rw [h]
    unfold Builtin.Str.tooLong
    refine decide_eq_false ?_
    have : n.toNat ≤ 1000 := by omega
    have := small1000 (n := 1 * n.toNat) (by omega)
    have e : (sizeLine : Nat) = sizeLine := rfl
    omega
theorem ixS_sg {j : Nat} (h : j < 37) : atI sg.cps.toList ((j : Nat) : Int) = some (sg.cps.toList[j]'(by rw [sg_len]; exact h)) := by
  unfold atI ixN
  rw [if_pos (by omega), if_pos (by rw [sg_len]; omega)]
  show sg.cps.toList[((j : Nat) : Int).toNat]? = _
  rw [Int.toNat_natCast]
  exact List.getElem?_eq_getElem (by rw [sg_len]; exact h)
/-- the letter of a number -/
def chr (i : Int) : Str := ⟨#[sg.cps.toList.getD (i % 37).toNat 0]⟩
theorem chr_ix (i : Int) : ∃ cc, atI sg.cps.toList (i % 37) = some cc ∧ (⟨#[cc]⟩ : Str) = chr i := by
  have h : (i % 37).toNat < 37 := by omega
  have e : (((i % 37).toNat : Nat) : Int) = i % 37 := by omega
  have := ixS_sg h
  rw [e] at this
  refine ⟨_, this, ?_⟩
  unfold chr
  rw [List.getD_eq_getElem?_getD, List.getElem?_eq_getElem (by rw [sg_len]; exact h)]; rfl
theorem chr_len (i : Int) : (chr i).length = 1 := rfl
theorem chr_inj {i j : Int} (h : chr i = chr j) : i % 37 = j % 37 := by
  have hi : (i % 37).toNat < 37 := by omega
  have hj : (j % 37).toNat < 37 := by omega
  unfold chr at h
  rw [List.getD_eq_getElem?_getD, List.getD_eq_getElem?_getD, List.getElem?_eq_getElem (by rw [sg_len]; exact hi), List.getElem?_eq_getElem (by rw [sg_len]; exact hj)] at h
  have h := congrArg (fun s : Str => s.cps.toList) h
  have h : [sg.cps.toList[(i % 37).toNat]] = [sg.cps.toList[(j % 37).toNat]] := h
  have h := List.cons.inj h
  have := (List.getElem_inj sg_nd).mp h.1
  omega
/-- a letter put into z -/
def put1 (z : Str) (k : Nat) (ch : Str) : Str := cutS z none (some (k : Int)) ++ ch ++ cutS z (some (k : Int)) none
theorem put1_inj {z a b : Str} {k : Nat} (h : put1 z k a = put1 z k b) : a = b := by
  unfold put1 at h
  have h := congrArg (fun s : Str => s.cps.toList) h
  have e : ∀ x y : Str, (x ++ y).cps.toList = x.cps.toList ++ y.cps.toList := fun x y => by
    show (x.cps ++ y.cps).toList = _
    rw [Array.toList_append]
  simp only [e] at h
  rw [List.append_assoc, List.append_assoc] at h
  have h2 := List.append_cancel_left h
  have h3 := List.append_cancel_right h2
  cases a with
  | mk a =>
    cases b with
    | mk b => exact congrArg Str.mk (Array.toList_inj.mp h3)
theorem app_len (x y : Str) : (x ++ y).length = x.length + y.length := by
  show (x.cps ++ y.cps).size = _
  rw [Array.size_append]; rfl
theorem cutS_len (z : Str) (lo hi : Option Int) : (cutS z lo hi).length ≤ z.length := by
  unfold cutS
  show (List.toArray _).size ≤ z.cps.size
  rw [List.size_toArray, List.length_take, List.length_drop, Array.length_toList]
  omega
def spLN : Sp := fun vs H Q _ => ∃ (G : Hp) (i : Int) (n : Nat), vs = [.int i, .int (n : Nat)] ∧ Same G H ∧ n ≤ 12 ∧ Ret G H Q (fun v G' => ∃ ks, LstAt StrAt G' v ks ∧ ks.length = n ∧ ks.Nodup)
section
variable {P : Program} {w : World} {K : PySem.W.Frag} {mg : Str → Option Value} {base : Heap} {c : Cl} {f : Addr} {fd : FuncData}
theorem scLN : FnScope ["_law_cell", "_law_count", "_law_signs", "_law_fill", "_law_at", "_law_k"] ["_law_cell", "_law_count"] (defScope sLN) := ⟨rfl, rfl, rfl, by decide +kernel, rfl, by decide +kernel, by decide +kernel⟩
theorem ok_ln (F : FnP K "_law_names" "_law_names" sLN f fd) (T : Txt K mg c) : FnOk P w K mg base CX0 1 f fd ["_law_cell", "_law_count"] spLN := by
  refine F.ok scLN (fun vs H Q E h => ?_) (fun cdv A outer s H vs Q E hr h => ?_)
  · obtain ⟨G, i, n, rfl, _⟩ := h
    rfl
  · obtain ⟨G, i, n, rfl, s, hn, k⟩ := h
    refine ⟨_, PSs.nox (pss_cons (ps_set (i := 2) scLN.nd rfl (Or.inr rfl) pe_str)
      (pss_cons (ps_if (pt_cmpR op_eq (pe_op op_mod (pv 0) pe_int) pe_int (nomark _))
        (pss_one (ps_ret (pe_k (pe_lc (own := [("_law_k", 5)]) (g := gName 5) (tt := tYes) rfl scLN.nd (pi_range1 (by rfl) T.range (pa_cons (pv 1) pa_nil)) (blkOk_by (N := ["_law_cell", "_law_count", "_law_signs", "_law_fill", "_law_at", "_law_k"]) (sc := defScope sLN) (by decide +kernel))
          (fun _ _ _ _ _ => pg_name (i := 5) scLN.nd rfl (Or.inl rfl)) (fun _ _ _ _ _ => pts_nil) (fun _ _ _ _ _ => pe_op op_rep_str (pe_ix ix_str (pv 2) (pe_op op_mod (pe_op op_fdiv (pv 0) pe_int) pe_int) (fun _ _ => rfl)) (pe_op op_add (pv 5) pe_int)))))) pss_nil)
      (pss_cons (ps_set (i := 3) scLN.nd rfl (Or.inr rfl) (pe_op op_rep_str (pe_ix ix_str (pv 2) (pe_op op_mod (pe_op op_fdiv (pv 0) pe_int) pe_int) (fun _ _ => rfl)) (pe_ix ix_list (pe_lst (pa_cons pe_int (pa_cons pe_int (pa_cons pe_int (pa_cons pe_int pa_nil))))) (pe_op op_mod (pe_op op_fdiv (pv 0) pe_int) pe_int) (fun _ _ => rfl))))
      (pss_cons (ps_set (i := 4) scLN.nd rfl (Or.inr rfl) (pe_op op_mod (pe_op op_fdiv (pv 0) pe_int) (pe_op op_add (pe_callB call_len (by rfl) T.len PySem.boot_len (pa_cons (pv 3) pa_nil)) pe_int)))
      (pss_one (ps_ret (pe_k (pe_lc (own := [("_law_k", 5)]) (g := gName 5) (tt := tYes) rfl scLN.nd (pi_range1 (by rfl) T.range (pa_cons (pv 1) pa_nil)) (blkOk_by (N := ["_law_cell", "_law_count", "_law_signs", "_law_fill", "_law_at", "_law_k"]) (sc := defScope sLN) (by decide +kernel))
          (fun _ _ _ _ _ => pg_name (i := 5) scLN.nd rfl (Or.inl rfl)) (fun _ _ _ _ _ => pts_nil) (fun _ _ _ _ _ => pe_op op_add_str (pe_op op_add_str (pe_slice sl_str (pv 3) po_none (po_some (pv 4))) (pe_ix ix_str (pv 2) (pe_op op_mod (pe_op op_add (pv 5) (pe_op op_fdiv (pv 0) pe_int)) pe_int) (fun _ _ => rfl))) (pe_slice sl_str (pv 3) (po_some (pv 4)) po_none)))))))))), ?_⟩
    have sgz : sg.length ≤ sizeLine := Nat.le_of_lt (small1000 (by show sg.cps.size ≤ 1000; rw [← Array.length_toList, sg_len]; decide))
    obtain ⟨q1, q2⟩ := small62 (show n ≤ 1000 by omega)
    refine ⟨_, rfl, _, _, rfl, rfl, (by show (0 : Int) < 4; decide), rfl, _, rfl, ?_⟩
    refine ite2 (fun _ => ?_) (fun _ => ?_)
    · refine ⟨_, rfl, _, rfl, q1, q2, ?_⟩
      rw [Int.toNat_natCast]
      refine lc_rng (S := StrAt) (lo := 0) (n := n) StrAt.mono (Same.refl G) s (Ext.refl s) (by omega) (fun j => (List.range j).map fun m => Txt.mul (chr (i / 4)) (0 + ((m : Nat) : Int) + 1)) rfl (fun j G2 H2 hj sl e Yes No hY _ => ?_) (fun v2 G2 H2 sl e h2 => ?_)
      · obtain ⟨cc, ec, eh⟩ := chr_ix (i / 4)
        refine ⟨rfl, lc_yes ⟨_, rfl, _, rfl, _, _, rfl, rfl, cd _ _ (by decide) (by decide), _, _, rfl, rfl, (by show (0 : Int) < 37; decide), sg, _, cc, rfl, rfl, sgz, ec, _, rfl, _, _, rfl, rfl, _, _, rfl, rfl, ?_, ?_⟩⟩
        · rw [eh]; exact mul_small (chr_len _) (by omega) (by omega)
        · refine hY _ _ _ _ (Ext.refl e.gh) rfl ?_
          show (List.range (j + 1)).map _ = (List.range j).map _ ++ _
          rw [List.range_succ, List.map_append, eh]; rfl
      · refine k _ _ _ e ⟨_, h2, by simp, nodup_rng fun a b ha hb he => ?_⟩
        have := congrArg Str.length he
        rw [mul_len (chr_len _) (by omega), mul_len (chr_len _) (by omega)] at this
        omega
    · obtain ⟨cc, ec, eh⟩ := chr_ix (i / 4)
      refine ⟨_, rfl, _, rfl, _, _, rfl, rfl, cd _ _ (by decide) (by decide), _, _, rfl, rfl, (by show (0 : Int) < 37; decide), sg, _, cc, rfl, rfl, sgz, ec, by show 4 ≤ sizeLine; decide, fun p np => ?_⟩
      have i1 := Ext.imm (p := p) (o := .lst [.int 0, .int 1, .int 3, .int 59]) s np
      obtain ⟨r, r0, r59, er⟩ : ∃ r : Int, 0 ≤ r ∧ r ≤ 59 ∧ atI [V.int 0, V.int 1, V.int 3, V.int 59] (i / 148 % 4) = some (.int r) := by
        have h4 : i / 148 % 4 = 0 ∨ i / 148 % 4 = 1 ∨ i / 148 % 4 = 2 ∨ i / 148 % 4 = 3 := by omega
        rcases h4 with h | h | h | h <;> rw [h]
        · exact ⟨0, by decide, by decide, rfl⟩
        · exact ⟨1, by decide, by decide, rfl⟩
        · exact ⟨3, by decide, by decide, rfl⟩
        · exact ⟨59, by decide, by decide, rfl⟩
      refine ⟨_, rfl, _, _, rfl, rfl, cd _ _ (by decide) (by decide), _, _, rfl, rfl, (by show (0 : Int) < 4; decide), p, _, _, _, rfl, rfl, SqL.of upd_same, er, _, _, rfl, rfl, ?_, ?_⟩
      · rw [eh]; exact mul_small (chr_len _) r0 (by omega)
      rw [eh]
      have fl := mul_len (chr_len (i / 4)) r0
      generalize Txt.mul (chr (i / 4)) r = z at *
      have zl : z.length ≤ 59 := by omega
      have zz : z.length ≤ sizeLine := Nat.le_of_lt (small1000 (by omega))
      refine ⟨_, rfl, _, _, rfl, rfl, cd _ _ (by decide) (by decide), _, rfl, _, z.length, rfl, ⟨zz, rfl⟩, _, _, rfl, rfl, _, _, rfl, rfl, (by show (0 : Int) < (z.length : Int) + 1; omega), ?_⟩
      obtain ⟨m, em⟩ : ∃ m : Nat, (m : Int) = i / 592 % ((z.length : Int) + 1) := ⟨(i / 592 % ((z.length : Int) + 1)).toNat, by
        have := Int.emod_nonneg (i / 592) (b := (z.length : Int) + 1) (by omega)
        omega⟩
      refine ⟨_, rfl, _, rfl, q1, q2, ?_⟩
      rw [Int.toNat_natCast]
      refine lc_rng (S := StrAt) (lo := 0) (n := n) StrAt.mono (Same.refl _) s i1 (by omega) (fun j => (List.range j).map fun t => put1 z m (chr (0 + ((t : Nat) : Int) + i / 7))) rfl (fun j G2 H2 hj sl e Yes No hY _ => ?_) (fun v2 G2 H2 sl e h2 => ?_)
      · obtain ⟨cc, ec, eh⟩ := chr_ix (0 + ((j : Nat) : Int) + i / 7)
        have c1 := cutS_len z none (some (m : Int))
        have c2 := cutS_len z (some (m : Int)) none
        have s1 := small1000 (n := 200) (by decide)
        have l1 := chr_len (0 + ((j : Nat) : Int) + i / 7)
        refine ⟨rfl, lc_yes ⟨_, rfl, _, rfl, (m : Int), by rw [em], z, rfl, zz, _, rfl, _, rfl, _, rfl, _, _, rfl, rfl, cd _ _ (by decide) (by decide), _, _, rfl, rfl, _, _, rfl, rfl, (by show (0 : Int) < 37; decide), sg, _, cc, rfl, rfl, sgz, ec, _, _, rfl, rfl, ?_, _, rfl, _, rfl, (m : Int), by rw [em], z, rfl, zz, _, _, rfl, rfl, ?_, ?_⟩⟩
        · rw [eh]; omega
        · rw [eh, app_len]; omega
        · rw [eh]
          refine hY _ _ _ _ (Ext.refl e.gh) rfl ?_
          show (List.range (j + 1)).map _ = (List.range j).map _ ++ _
          rw [List.range_succ, List.map_append]; rfl
      · refine k _ _ _ e ⟨_, h2, by simp, nodup_rng fun a b ha hb he => ?_⟩
        have := chr_inj (put1_inj he)
        omega
end
end GH
end
section
set_option maxRecDepth 100000
/-! The law's ways. -/
namespace GH
open PySem PySem.Spec PyProof.Rows L2 GM
structure Wr where
  s : Str
  g : Str
  a : Int
  b : Int
  k : Int
def WrAt : Rl Wr := fun G v r => ∃ a vg, v = .ref a ∧ G a = some (.tup [.str r.s, .str r.g, vg, .int r.k]) ∧ PI G vg (r.a, r.b)
theorem WrAt.mono : Mono WrAt := fun {G G' v r} s h => by
  obtain ⟨a, vg, e, h1, h2⟩ := h
  exact ⟨a, vg, e, s.tup h1, PI.mono s h2⟩
structure WrOk (ps : List Str) (r : Wr) : Prop where
  s : r.s ∈ ps
  g : r.g ∈ ps
  ne : r.s ≠ r.g
  a1 : 1 ≤ r.a
  a2 : r.a ≤ 1000
  b1 : 1 ≤ r.b
  b2 : r.b ≤ 1000
abbrev Wd := List (Str × Wr)
/-- the law's dict of ways -/
structure WdOk (ps : List Str) (l : Wd) : Prop where
  nd : (keys l).Nodup
  len : l.length ≤ 12
  ok : ∀ p ∈ l, WrOk ps p.2
abbrev at' (ks : List Str) (j : Nat) : Str := ks.getD j Str.empty
theorem at_get {ks : List Str} {j : Nat} (h : j < ks.length) : ks[j]? = some (at' ks j) := by
  unfold at'
  rw [List.getD_eq_getElem?_getD, List.getElem?_eq_getElem h]; rfl
theorem at_mem {ks : List Str} {j : Nat} (h : j < ks.length) : at' ks j ∈ ks := List.mem_of_getElem? (at_get h)
theorem at_inj {ks : List Str} (nd : ks.Nodup) {i j : Nat} (hi : i < ks.length) (hj : j < ks.length) (h : at' ks i = at' ks j) : i = j := by
  have h1 := at_get hi
  have h2 := at_get hj
  rw [h] at h1
  obtain ⟨l1, l1'⟩ := List.getElem?_eq_some_iff.mp h1
  obtain ⟨l2, l2'⟩ := List.getElem?_eq_some_iff.mp h2
  exact (List.getElem_inj nd).mp (l1'.trans l2'.symm)
theorem ix_at {K : PySem.W.Frag} {G H : Hp} {v : V} {ks : List Str} (h : LstAt StrAt G v ks) (s : Same G H) {j : Nat} (hj : j < ks.length) : ∃ a xs, v = .ref a ∧ SqL K H a xs ∧ atI xs ((j : Nat) : Int) = some (.str (at' ks j)) := by
  obtain ⟨a, vs, e, h1, h2⟩ := h
  have := strs_eq h2
  subst this
  exact ⟨a, _, e, SqL.of (s _ _ h1), atI_str (at_get hj)⟩
/-- where the k-th of the plain ways goes -/
def gl (c k : Nat) : Nat := if k < c then (k + 1) % c else (k - 1) % c
/-- the first m labels are laid, the first 2c of them along the spots, there and back -/
structure Laid (ps ls : List Str) (m : Nat) (l : Wd) : Prop where
  ok : WdOk ps l
  ks : keys l = ls.take m
  hat : ∀ j, j < m → j < 2 * ps.length → ∃ r, lk l (at' ls j) = some r ∧ r.s = at' ps (j % ps.length) ∧ r.g = at' ps (gl ps.length j) ∧ r.a ≤ 5 ∧ r.b ≤ 5
def spLWs (K : PySem.W.Frag) : Sp := fun vs H Q _ => ∃ (G : Hp) (x y z : V) (ns : List Int) (ps ls : List Str), vs = [x, y, z] ∧ Same G H ∧ ScrAt K G x ns ∧ ns.length ≤ 1000 ∧ LstAt StrAt G y ps ∧ LstAt StrAt G z ls ∧ ps.Nodup ∧ ls.Nodup ∧ 2 ≤ ps.length ∧ ps.length ≤ 4 ∧ ls.length = 2 * ps.length + 4 ∧
  ∀ d G' H' l, H d = none → Ext G H G' H' → Own WrAt G' H' d l → Laid ps ls (2 * ps.length) l → Q (.ref d) H'
def spLFW (K : PySem.W.Frag) : Sp := fun vs H Q _ => ∃ (G : Hp) (x y z : V) (ns : List Int) (ps ls : List Str), vs = [x, y, z] ∧ Same G H ∧ ScrAt K G x ns ∧ ns.length ≤ 1000 ∧ LstAt StrAt G y ps ∧ LstAt StrAt G z ls ∧ ps.Nodup ∧ ls.Nodup ∧ 2 ≤ ps.length ∧ ps.length ≤ 4 ∧ ls.length = 2 * ps.length + 4 ∧
  ∀ d G' H' l, H d = none → Ext G H G' H' → Own WrAt G' H' d l → WdOk ps l → Q (.ref d) H'
theorem gl_lt {c k : Nat} (h : 2 ≤ c) : gl c k < c := by
  unfold gl
  split <;> exact Nat.mod_lt _ (by omega)
theorem gl_ne {c k : Nat} (h : 2 ≤ c) (hk : k < 2 * c) : k % c ≠ gl c k := by
  unfold gl
  split
  · rename_i kc
    rw [Nat.mod_eq_of_lt kc]
    by_cases e : k + 1 = c
    · rw [e, Nat.mod_self]; omega
    · rw [Nat.mod_eq_of_lt (by omega)]; omega
  · rename_i kc
    obtain ⟨t, rfl⟩ : ∃ t, k = c + t := ⟨k - c, by omega⟩
    have tc : t < c := by omega
    rw [Nat.add_mod_left, Nat.mod_eq_of_lt tc]
    by_cases t0 : t = 0
    · subst t0
      rw [Nat.add_zero, Nat.mod_eq_of_lt (by omega)]; omega
    · have : c + t - 1 = c + (t - 1) := by omega
      rw [this, Nat.add_mod_left, Nat.mod_eq_of_lt (by omega)]; omega
theorem lk_snoc_old {α : Type} {l : List (Str × α)} {k j : Str} {x y : α} (h : lk l j = some y) : lk (l ++ [(k, x)]) j = some y := by rw [lk_append, h]; rfl
theorem lk_snoc_new {α : Type} {l : List (Str × α)} {k : Str} {x : α} (h : k ∉ keys l) : lk (l ++ [(k, x)]) k = some x := by
  rw [lk_append, lk_none.mpr h, lk_pos rfl]; rfl
theorem Laid.snoc {ps ls : List Str} {m : Nat} {l : Wd} (h : Laid ps ls m l) (nd : ls.Nodup) (hm : m < ls.length) (lm : m < 12) {r : Wr} (ro : WrOk ps r) (hr : m < 2 * ps.length → r.s = at' ps (m % ps.length) ∧ r.g = at' ps (gl ps.length m) ∧ r.a ≤ 5 ∧ r.b ≤ 5) : at' ls m ∉ keys l ∧ Laid ps ls (m + 1) (l ++ [(at' ls m, r)]) := by
  have g := at_get hm
  have nk : at' ls m ∉ keys l := by rw [h.ks]; exact not_mem_take nd g
  have kk : keys (l ++ [(at' ls m, r)]) = ls.take (m + 1) := by
    unfold keys
    rw [List.map_append, take_succ_of g]
    show keys l ++ _ = _
    rw [h.ks]; rfl
  refine ⟨nk, ⟨?_, ?_, fun p hp => ?_⟩, kk, fun j hj hj2 => ?_⟩
  · rw [kk]; exact (List.take_sublist _ _).nodup nd
  · have e := congrArg List.length h.ks
    rw [keys_len, List.length_take] at e
    rw [List.length_append, List.length_singleton]; omega
  · rcases List.mem_append.mp hp with hp | hp
    · exact h.ok.ok p hp
    · rw [List.mem_singleton.mp hp]; exact ro
  · by_cases e : j = m
    · subst e
      exact ⟨r, lk_snoc_new nk, hr hj2⟩
    · obtain ⟨r', e1, e2⟩ := h.hat j (by omega) hj2
      exact ⟨r', lk_snoc_old e1, e2⟩
theorem Laid.nil (ps ls : List Str) : Laid ps ls 0 [] := ⟨⟨List.nodup_nil, Nat.zero_le _, fun p h => nomatch h⟩, by simp, fun j h => absurd h (Nat.not_lt_zero _)⟩
section
variable {P : Program} {w : World} {K : PySem.W.Frag} {mg : Str → Option Value} {base : Heap} {c : Cl} {f : Addr} {fd : FuncData}
theorem scLWs : FnScope ["_law_script", "_law_spots", "_law_labels", "_law_count", "_law_ways_here", "_law_k", "_law_goal", "_law_cell"] ["_law_script", "_law_spots", "_law_labels"] (defScope sLWs) := ⟨rfl, rfl, rfl, by decide +kernel, rfl, by decide +kernel, by decide +kernel⟩
theorem ok_lws (F : FnP K "_law_ways" "_law_ways" sLWs f fd) (T : Txt K mg c) (S1 : Fn P w K mg base "_law_cell_at" 1 ["_law_script", "_law_k"] [] (spCA K)) (S2 : Fn P w K mg base "_law_gain" 1 ["_law_cell"] [] spLG) : FnOk P w K mg base CX0 2 f fd ["_law_script", "_law_spots", "_law_labels"] (spLWs K) := by
  refine F.ok scLWs (fun vs H Q E h => ?_) (fun cdv A outer s H vs Q E hr h => ?_)
  · obtain ⟨G, x, y, z, ns, ps, ls, rfl, _⟩ := h
    rfl
  · obtain ⟨G, x, y, z, ns, ps, ls, rfl, s, hx, nl, hy, hz, ndp, ndl, p2, p4, ll, k⟩ := h
    refine ⟨_, PSs.nox (pss_cons (ps_set (i := 3) scLWs.nd rfl (Or.inl rfl) (pe_callB call_len_seq (by rfl) T.len PySem.boot_len (pa_cons (pv 1) pa_nil)))
      (pss_cons (ps_set (i := 4) scLWs.nd rfl (Or.inl rfl) pe_dnewK)
      (pss_cons (ps_for PassesOwn.never rfl (pi_range1 (by rfl) T.range (pa_cons (pe_op op_mul pe_int (pv 3)) pa_nil)) (pg_name (i := 5) scLWs.nd rfl (Or.inl rfl))
        (pss_cons (ps_set (i := 6) scLWs.nd rfl (Or.inl rfl) (pe_op op_mod (pe_op op_add (pv 5) pe_int) (pv 3)))
        (C8.pss_cut (ps_if (pt_cmpR op_ge (pv 5) (pv 3) (nomark _)) (pss_one (ps_set (i := 6) scLWs.nd rfl (Or.inl rfl) (pe_op op_mod (pe_op op_sub (pv 5) pe_int) (pv 3)))) pss_nil)
        (pss_cons (ps_set (i := 7) scLWs.nd rfl (Or.inl rfl) (pe_fn S1 hr (by rfl) (pa_cons (pv 0) (pa_cons (pe_op op_add pe_int (pv 5)) pa_nil))))
        (pss_one (ps_dput (hu_of hr) (pv 4) (pe_ix ix_list (pv 2) (pv 5) (fun _ _ => rfl)) (pe_tup (pa_cons (pe_ix ix_list (pv 1) (pe_op op_mod (pv 5) (pv 3)) (fun _ _ => rfl)) (pa_cons (pe_ix ix_list (pv 1) (pv 6) (fun _ _ => rfl)) (pa_cons (pe_fn S2 hr (by rfl) (pa_cons (pv 7) pa_nil)) (pa_cons (pe_op op_mod (pe_op op_fdiv (pv 7) pe_int) pe_int) pa_nil))))) rfl))))))
      (pss_one (ps_ret (pv 4)))))), ?_⟩
    obtain ⟨ay, ys, rfl, sy, ly⟩ := hy.len s (K := K)
    refine ⟨_, rfl, ay, ys, rfl, .inl sy, fun d hd => ?_⟩
    rw [ly]
    have e0 := Ext.tmp (o := .dK []) s hd
    obtain ⟨q1, q2⟩ := small62 (show 2 * ps.length ≤ 1000 by omega)
    refine ⟨_, rfl, _, _, rfl, rfl, small_mul (by omega) (by omega), _, rfl, by omega, by omega, ?_⟩
    have en : ((2 : Int) * (ps.length : Int)).toNat = 2 * ps.length := by omega
    rw [en]
    refine for_rng (lo := 0) (n := 2 * ps.length) (Same.refl G) e0 (fun i σ G' H' => ∃ v5 v6 v7 l, σ = [some x, some (.ref ay), some z, some (.int (ps.length : Int)), some (.ref d), v5, v6, v7] ∧ Own WrAt G' H' d l ∧ Laid ps ls i l) ⟨none, none, none, [], rfl, Own.nil s hd, Laid.nil ps ls⟩ (fun i σ G2 H2 hi sl e iv => ?_) (fun σ G2 H2 sl e iv => ?_)
    · obtain ⟨v5, v6, v7, l, rfl, o, la⟩ := iv
      have pp : (0 : Int) < (ps.length : Int) := by omega
      have step : ∀ (zc : Int) (G3 H3 : Hp) (pg : Int × Int) (vg : V) (tt : Addr), Ext G2 H2 G3 H3 → PI G3 vg pg → 1 ≤ pg.1 → pg.1 ≤ 5 → 1 ≤ pg.2 → pg.2 ≤ 5 → H3 tt = none →
          ∃ H4, DPut (upd H3 tt (.tup [.str (at' ps (i % ps.length)), .str (at' ps (gl ps.length i)), vg, .int zc])) d (.str (at' ls i)) (.ref tt) H4 ∧ ∃ G4, Same G G4 ∧ Ext G H G4 H4 ∧ ∃ l', Own WrAt G4 H4 d l' ∧ Laid ps ls (i + 1) l' := fun zc G3 H3 pg vg tt e3 hp a1 a2 b1 b2 nt => by
        have e4 := e3.trans (Ext.imm (p := tt) (o := .tup [.str (at' ps (i % ps.length)), .str (at' ps (gl ps.length i)), vg, .int zc]) e3.gh nt)
        have o4 := o.ext WrAt.mono e4
        have il : i % ps.length < ps.length := Nat.mod_lt _ (by omega)
        have gll := gl_lt (k := i) p2
        have ro : WrOk ps ⟨at' ps (i % ps.length), at' ps (gl ps.length i), pg.1, pg.2, zc⟩ := ⟨at_mem il, at_mem gll, fun h => gl_ne p2 hi (at_inj ndp il gll h), a1, by show pg.1 ≤ 1000; omega, b1, by show pg.2 ≤ 1000; omega⟩
        obtain ⟨nk, la'⟩ := la.snoc ndl (by omega) (by omega) ro fun _ => ⟨rfl, rfl, a2, b2⟩
        have r4 : WrAt (upd G3 tt (.tup [.str (at' ps (i % ps.length)), .str (at' ps (gl ps.length i)), vg, .int zc])) (.ref tt) ⟨at' ps (i % ps.length), at' ps (gl ps.length i), pg.1, pg.2, zc⟩ := ⟨tt, vg, rfl, upd_same, PI.mono (same_sm (same_new (Same.free e3.gh nt))) hp⟩
        obtain ⟨H4, dp, o5, u5, eo⟩ := o4.put (k := at' ls i) r4 (line100 (by have := la.ok.len; omega))
        have e5 := (e.trans e4).wr (o := u5) hd o4.choose_spec.1
        rw [← eo] at e5
        rw [put_new nk] at o5
        exact ⟨H4, dp, _, sl.trans e4.g, e5, _, o5, la'⟩
      obtain ⟨az, zs, ez, sz, gz⟩ := ix_at (K := K) (hz.up StrAt.mono (same_sm e.g)) e.gh (j := i) (by omega)
      have hzz := ez
      subst hzz
      refine ⟨_, rfl, _, _, rfl, rfl, _, rfl, _, _, rfl, rfl, pp, ?_⟩
      refine ⟨fun σ' H' => σ' = [some x, some (.ref ay), some (.ref az), some (.int (ps.length : Int)), some (.ref d), some (.int (0 + (i : Int))), some (.int ((gl ps.length i : Nat) : Int)), v7] ∧ H' = H2, ?_, fun σ' H' ⟨e1, e2⟩ => ?_⟩
      · refine ⟨_, rfl, _, rfl, _, _, rfl, rfl, _, rfl, ?_⟩
        have g1 : ((0 : Int) + (i : Int) + 1) % (ps.length : Int) = (((i + 1) % ps.length : Nat) : Int) := by
          have : (0 : Int) + (i : Int) + 1 = ((i + 1 : Nat) : Int) := by omega
          rw [this]; rfl
        by_cases ge : (ps.length : Int) ≤ 0 + (i : Int)
        · refine iteDT ge ⟨_, rfl, _, _, rfl, rfl, _, rfl, _, _, rfl, rfl, pp, ?_, rfl⟩
          have g2 : ((0 : Int) + (i : Int) - 1) % (ps.length : Int) = (((i - 1) % ps.length : Nat) : Int) := by
            have : (0 : Int) + (i : Int) - 1 = ((i - 1 : Nat) : Int) := by omega
            rw [this]; rfl
          have : gl ps.length i = (i - 1) % ps.length := by unfold gl; rw [if_neg (by omega)]
          rw [this, ← g2]; rfl
        · refine iteDF ge ⟨?_, rfl⟩
          have : gl ps.length i = (i + 1) % ps.length := by unfold gl; rw [if_pos (by omega)]
          rw [this, ← g1]; rfl
      · subst e1 e2
        refine ⟨_, rfl, _, rfl, _, _, rfl, rfl, G2, x, 5 + i, ns, by
          have : ((5 : Int) + (0 + (i : Int))) = ((5 + i : Nat) : Int) := by omega
          show [x, V.int (5 + (0 + (i : Int)))] = [x, V.int ((5 + i : Nat) : Int)]
          rw [this], e.gh, hx.same e.g, by omega, nl, ?_⟩
        generalize caF ns (5 + i) = zc
        obtain ⟨a1, x1, e1, s1, g1⟩ := ix_at (K := K) (hy.up StrAt.mono (same_sm e.g)) e.gh (j := i % ps.length) (Nat.mod_lt _ (by omega))
        obtain ⟨a2, x2, e2, s2, g2⟩ := ix_at (K := K) (hy.up StrAt.mono (same_sm e.g)) e.gh (j := gl ps.length i) (gl_lt p2)
        have em : ((0 : Int) + (i : Int)) % (ps.length : Int) = ((i % ps.length : Nat) : Int) := by
          have : (0 : Int) + (i : Int) = ((i : Nat) : Int) := by omega
          rw [this]; rfl
        refine ⟨_, rfl, _, rfl, _, rfl, _, _, rfl, rfl, pp, a1, x1, _, _, e1, rfl, s1, by rw [em]; exact g1, _, rfl, _, rfl, a2, x2, _, _, e2, rfl, s2, g2, _, rfl, G2, zc, rfl, e.gh, fun vg G3 H3 e3 ⟨pg, hp, b1, b2, b3, b4⟩ => ?_⟩
        refine ⟨_, rfl, _, _, rfl, rfl, cd _ _ (by decide) (by decide), _, _, rfl, rfl, (by show (0 : Int) < 3; decide), by show 4 ≤ sizeLine; decide, fun tt nt => ?_⟩
        obtain ⟨H4, dp, G4, sl4, e4, l', o4, la'⟩ := step (zc / 75 % 3) G3 H3 pg vg tt e3 hp b1 b2 b3 b4 nt
        obtain ⟨a5, x5, e5, s5, g5⟩ := ix_at (K := K) ((hz.up StrAt.mono (same_sm e.g)).up StrAt.mono (same_sm (e3.trans (Ext.imm (p := tt) (o := .tup [.str (at' ps (i % ps.length)), .str (at' ps (gl ps.length i)), vg, .int (zc / 75 % 3)]) e3.gh nt)).g)) (Ext.imm (p := tt) (o := .tup [.str (at' ps (i % ps.length)), .str (at' ps (gl ps.length i)), vg, .int (zc / 75 % 3)]) e3.gh nt).gh (j := i) (by omega)
        refine ⟨_, rfl, _, rfl, _, rfl, a5, x5, _, _, e5, rfl, s5, by
          have : (0 : Int) + (i : Int) = ((i : Nat) : Int) := by omega
          rw [this]; exact g5, d, H4, rfl, dp, G4, sl4, e4, _, _, _, l', rfl, o4, la'⟩
    · obtain ⟨v5, v6, v7, l, rfl, o, la⟩ := iv
      exact ⟨_, rfl, k d G2 H2 l hd e o la⟩
end
end GH
end
section
set_option maxRecDepth 100000
/-! The law's free ways. -/
namespace GH
open PySem PySem.Spec PyProof.Rows L2 GM
theorem WdOk.snoc {ps ls : List Str} {m : Nat} {l : Wd} (h : WdOk ps l) (hk : keys l = ls.take m) (nd : ls.Nodup) (hm : m < ls.length) (lm : m < 12) {r : Wr} (ro : WrOk ps r) : at' ls m ∉ keys l ∧ WdOk ps (l ++ [(at' ls m, r)]) ∧ keys (l ++ [(at' ls m, r)]) = ls.take (m + 1) := by
  have g := at_get hm
  have nk : at' ls m ∉ keys l := by rw [hk]; exact not_mem_take nd g
  have kk : keys (l ++ [(at' ls m, r)]) = ls.take (m + 1) := by
    unfold keys
    rw [List.map_append, take_succ_of g]
    show keys l ++ _ = _
    rw [hk]; rfl
  refine ⟨nk, ⟨?_, ?_, fun p hp => ?_⟩, kk⟩
  · rw [kk]; exact (List.take_sublist _ _).nodup nd
  · have e := congrArg List.length hk
    rw [keys_len, List.length_take] at e
    rw [List.length_append, List.length_singleton]; omega
  · rcases List.mem_append.mp hp with hp | hp
    · exact h.ok p hp
    · rw [List.mem_singleton.mp hp]; exact ro
theorem step_ne {c : Int} (hc : 2 ≤ c) (s d : Int) (hs0 : 0 ≤ s) (hs : s < c) (hd0 : 0 ≤ d) (hd : d < c - 1) : s ≠ (s + 1 + d) % c := by
  by_cases h : s + 1 + d < c
  · rw [Int.emod_eq_of_lt (by omega) h]; omega
  · have : (s + 1 + d) % c = s + 1 + d - c := by
      rw [← Int.sub_emod_right (s + 1 + d) c, Int.emod_eq_of_lt (by omega) (by omega)]
    rw [this]; omega
section
variable {P : Program} {w : World} {K : PySem.W.Frag} {mg : Str → Option Value} {base : Heap} {c : Cl} {f : Addr} {fd : FuncData}
theorem scLFW : FnScope ["_law_script", "_law_spots", "_law_labels", "_law_count", "_law_ways_here", "_law_k", "_law_cell", "_law_start", "_law_goal"] ["_law_script", "_law_spots", "_law_labels"] (defScope sLFW) := ⟨rfl, rfl, rfl, by decide +kernel, rfl, by decide +kernel, by decide +kernel⟩
theorem ok_lfw (F : FnP K "_law_free_ways" "_law_free_ways" sLFW f fd) (T : Txt K mg c) (S1 : Fn P w K mg base "_law_cell_at" 1 ["_law_script", "_law_k"] [] (spCA K)) : FnOk P w K mg base CX0 2 f fd ["_law_script", "_law_spots", "_law_labels"] (spLFW K) := by
  refine F.ok scLFW (fun vs H Q E h => ?_) (fun cdv A outer s H vs Q E hr h => ?_)
  · obtain ⟨G, x, y, z, ns, ps, ls, rfl, _⟩ := h
    rfl
  · obtain ⟨G, x, y, z, ns, ps, ls, rfl, s, hx, nl, hy, hz, ndp, ndl, p2, p4, ll, k⟩ := h
    refine ⟨_, PSs.nox (pss_cons (ps_set (i := 3) scLFW.nd rfl (Or.inl rfl) (pe_callB call_len_seq (by rfl) T.len PySem.boot_len (pa_cons (pv 1) pa_nil)))
      (pss_cons (ps_set (i := 4) scLFW.nd rfl (Or.inl rfl) pe_dnewK)
      (pss_cons (ps_for PassesOwn.never rfl (pi_range1 (by rfl) T.range (pa_cons (pe_op op_add pe_int (pe_op op_mod (pe_fn S1 hr (by rfl) (pa_cons (pv 0) (pa_cons pe_int pa_nil))) pe_int)) pa_nil)) (pg_name (i := 5) scLFW.nd rfl (Or.inl rfl))
        (pss_cons (ps_set (i := 6) scLFW.nd rfl (Or.inl rfl) (pe_fn S1 hr (by rfl) (pa_cons (pv 0) (pa_cons (pe_op op_add pe_int (pv 5)) pa_nil))))
        (pss_cons (ps_set (i := 7) scLFW.nd rfl (Or.inl rfl) (pe_op op_mod (pv 6) (pv 3)))
        (pss_cons (ps_set (i := 6) scLFW.nd rfl (Or.inl rfl) (pe_op op_fdiv (pv 6) (pv 3)))
        (pss_cons (ps_set (i := 8) scLFW.nd rfl (Or.inl rfl) (pe_op op_mod (pe_op op_add (pe_op op_add (pv 7) pe_int) (pe_op op_mod (pv 6) (pe_op op_sub (pv 3) pe_int))) (pv 3)))
        (pss_cons (ps_set (i := 6) scLFW.nd rfl (Or.inl rfl) (pe_op op_fdiv (pv 6) (pe_op op_sub (pv 3) pe_int)))
        (pss_one (ps_dput (hu_of hr) (pv 4) (pe_ix ix_list (pv 2) (pv 5) (fun _ _ => rfl)) (pe_tup (pa_cons (pe_ix ix_list (pv 1) (pv 7) (fun _ _ => rfl)) (pa_cons (pe_ix ix_list (pv 1) (pv 8) (fun _ _ => rfl)) (pa_cons (pe_tup (pa_cons (pe_op op_add pe_int (pe_op op_mod (pv 6) pe_int)) (pa_cons (pe_op op_add pe_int (pe_op op_mod (pe_op op_fdiv (pv 6) pe_int) pe_int)) pa_nil))) (pa_cons (pe_op op_mod (pe_op op_fdiv (pv 6) pe_int) pe_int) pa_nil))))) rfl))))))))
      (pss_one (ps_ret (pv 4)))))), ?_⟩
    obtain ⟨ay, ys, rfl, sy, ly⟩ := hy.len s (K := K)
    refine ⟨_, rfl, ay, ys, rfl, .inl sy, fun d hd => ?_⟩
    rw [ly]
    have e0 := Ext.tmp (o := .dK []) s hd
    refine ⟨_, rfl, G, x, 4, ns, rfl, e0.gh, hx, by decide, nl, ?_⟩
    generalize caF ns 4 = z0
    refine ⟨_, _, rfl, rfl, (by show (0 : Int) < 8; decide), _, _, rfl, rfl, _, rfl, by omega, by omega, ?_⟩
    obtain ⟨n, en, n8⟩ : ∃ n : Nat, (1 + z0 % 8).toNat = n ∧ n ≤ 8 := ⟨_, rfl, by omega⟩
    rw [en]
    have pp : (0 : Int) < (ps.length : Int) := by omega
    have pp1 : (0 : Int) < (ps.length : Int) - 1 := by omega
    refine for_rng (lo := 0) (n := n) (Same.refl G) e0 (fun i σ G' H' => ∃ v5 v6 v7 v8 l, σ = [some x, some (.ref ay), some z, some (.int (ps.length : Int)), some (.ref d), v5, v6, v7, v8] ∧ Own WrAt G' H' d l ∧ WdOk ps l ∧ keys l = ls.take i) ⟨none, none, none, none, [], rfl, Own.nil s hd, ⟨List.nodup_nil, Nat.zero_le _, fun p h => nomatch h⟩, by simp⟩ (fun i σ G2 H2 hi sl e iv => ?_) (fun σ G2 H2 sl e iv => ?_)
    · obtain ⟨v5, v6, v7, v8, l, rfl, o, la, lk'⟩ := iv
      refine ⟨_, rfl, _, rfl, _, _, rfl, rfl, G2, x, 5 + i, ns, ?_, e.gh, hx.same e.g, by omega, nl, ?_⟩
      · have : ((5 : Int) + (0 + (i : Int))) = ((5 + i : Nat) : Int) := by omega
        show [x, V.int (5 + (0 + (i : Int)))] = [x, V.int ((5 + i : Nat) : Int)]
        rw [this]
      generalize caF ns (5 + i) = zc
      refine ⟨_, rfl, _, rfl, _, _, rfl, rfl, pp, ?_⟩
      refine ⟨_, rfl, _, rfl, _, _, rfl, rfl, ⟨pp, by omega⟩, ?_⟩
      refine ⟨_, rfl, _, _, rfl, rfl, _, rfl, _, rfl, _, _, rfl, rfl, _, _, rfl, rfl, pp1, _, _, rfl, rfl, _, rfl, _, _, rfl, rfl, pp, ?_⟩
      refine ⟨_, rfl, _, rfl, _, _, rfl, rfl, _, _, rfl, rfl, ⟨pp1, by omega⟩, ?_⟩
      have s0 := Int.emod_nonneg zc (b := (ps.length : Int)) (by omega)
      have s1 := Int.emod_lt_of_pos zc pp
      have d0 := Int.emod_nonneg (zc / (ps.length : Int)) (b := (ps.length : Int) - 1) (by omega)
      have d1 := Int.emod_lt_of_pos (zc / (ps.length : Int)) pp1
      have ne := step_ne (c := (ps.length : Int)) (by omega) _ _ s0 s1 d0 d1
      have g0 := Int.emod_nonneg (zc % (ps.length : Int) + 1 + zc / (ps.length : Int) % ((ps.length : Int) - 1)) (b := (ps.length : Int)) (by omega)
      have g1 := Int.emod_lt_of_pos (zc % (ps.length : Int) + 1 + zc / (ps.length : Int) % ((ps.length : Int) - 1)) pp
      obtain ⟨st, est⟩ : ∃ st : Nat, zc % (ps.length : Int) = (st : Int) := ⟨(zc % (ps.length : Int)).toNat, by omega⟩
      obtain ⟨gt, egt⟩ : ∃ gt : Nat, (zc % (ps.length : Int) + 1 + zc / (ps.length : Int) % ((ps.length : Int) - 1)) % (ps.length : Int) = (gt : Int) := ⟨((zc % (ps.length : Int) + 1 + zc / (ps.length : Int) % ((ps.length : Int) - 1)) % (ps.length : Int)).toNat, by omega⟩
      rw [egt] at ne g0 g1
      rw [est] at ne s0 s1
      obtain ⟨a1, x1, e1, q1, r1⟩ := ix_at (K := K) (hy.up StrAt.mono (same_sm e.g)) e.gh (j := st) (by omega)
      obtain ⟨a2, x2, e2, q2, r2⟩ := ix_at (K := K) (hy.up StrAt.mono (same_sm e.g)) e.gh (j := gt) (by omega)
      have b5 : ∀ cc : Int, 1 ≤ 1 + cc % 5 ∧ 1 + cc % 5 ≤ 1000 := fun cc => by omega
      obtain ⟨cc, ecc⟩ : ∃ cc : Int, cc = zc / (ps.length : Int) / ((ps.length : Int) - 1) := ⟨_, rfl⟩
      refine ⟨_, rfl, _, rfl, a1, x1, _, _, e1, rfl, q1, by rw [est]; exact r1, _, rfl, _, rfl, a2, x2, _, _, e2, rfl, q2, by rw [egt]; exact r2, ?_⟩
      refine ⟨_, rfl, _, _, rfl, rfl, (by show (0 : Int) < 5; decide), _, _, rfl, rfl, _, rfl, _, _, rfl, rfl, cd _ _ (by decide) (by decide), _, _, rfl, rfl, (by show (0 : Int) < 5; decide), _, _, rfl, rfl, by show 2 ≤ sizeLine; decide, fun tp np => ?_⟩
      refine ⟨_, rfl, _, _, rfl, rfl, cd _ _ (by decide) (by decide), _, _, rfl, rfl, (by show (0 : Int) < 3; decide), by show 4 ≤ sizeLine; decide, fun tt nt => ?_⟩
      have i3 := Ext.imm (p := tp) (o := .tup [.int (1 + (zc / (ps.length : Int) / ((ps.length : Int) - 1)) % 5), .int (1 + (zc / (ps.length : Int) / ((ps.length : Int) - 1)) / 5 % 5)]) e.gh np
      have i4 := Ext.imm (p := tt) (o := .tup [.str (at' ps st), .str (at' ps gt), .ref tp, .int ((zc / (ps.length : Int) / ((ps.length : Int) - 1)) / 25 % 3)]) i3.gh nt
      have x4 := i3.trans i4
      have o4 := o.ext WrAt.mono x4
      have ro : WrOk ps ⟨at' ps st, at' ps gt, 1 + (zc / (ps.length : Int) / ((ps.length : Int) - 1)) % 5, 1 + (zc / (ps.length : Int) / ((ps.length : Int) - 1)) / 5 % 5, (zc / (ps.length : Int) / ((ps.length : Int) - 1)) / 25 % 3⟩ := ⟨at_mem (by omega), at_mem (by omega), fun h => ne (by have := at_inj ndp (by omega) (by omega) h; omega), (b5 (zc / (ps.length : Int) / ((ps.length : Int) - 1))).1, (b5 (zc / (ps.length : Int) / ((ps.length : Int) - 1))).2, (b5 ((zc / (ps.length : Int) / ((ps.length : Int) - 1)) / 5)).1, (b5 ((zc / (ps.length : Int) / ((ps.length : Int) - 1)) / 5)).2⟩
      obtain ⟨nk, la', lk2⟩ := la.snoc lk' ndl (by omega) (by omega) ro
      have r4 : WrAt (upd (upd G2 tp (.tup [.int (1 + (zc / (ps.length : Int) / ((ps.length : Int) - 1)) % 5), .int (1 + (zc / (ps.length : Int) / ((ps.length : Int) - 1)) / 5 % 5)])) tt (.tup [.str (at' ps st), .str (at' ps gt), .ref tp, .int ((zc / (ps.length : Int) / ((ps.length : Int) - 1)) / 25 % 3)])) (.ref tt) ⟨at' ps st, at' ps gt, 1 + (zc / (ps.length : Int) / ((ps.length : Int) - 1)) % 5, 1 + (zc / (ps.length : Int) / ((ps.length : Int) - 1)) / 5 % 5, (zc / (ps.length : Int) / ((ps.length : Int) - 1)) / 25 % 3⟩ := ⟨tt, .ref tp, rfl, upd_same, PI.mono (same_sm i4.g) PI.mk⟩
      obtain ⟨H4, dp, o5, u5, eo⟩ := o4.put (k := at' ls i) r4 (line100 (by have := la.len; omega))
      have e5 := (e.trans x4).wr (o := u5) hd o4.choose_spec.1
      rw [← eo] at e5
      rw [put_new nk] at o5
      obtain ⟨a5, x5, e6, s5, g5⟩ := ix_at (K := K) ((hz.up StrAt.mono (same_sm e.g)).up StrAt.mono (same_sm x4.g)) x4.gh (j := i) (by omega)
      refine ⟨_, rfl, _, rfl, _, rfl, a5, x5, _, _, e6, rfl, s5, by
        have : (0 : Int) + (i : Int) = ((i : Nat) : Int) := by omega
        rw [this]; exact g5, d, H4, rfl, dp, _, sl.trans x4.g, e5, _, _, _, _, _, rfl, o5, la', lk2⟩
    · obtain ⟨v5, v6, v7, v8, l, rfl, o, la, lk'⟩ := iv
      exact ⟨_, rfl, k d G2 H2 l hd e o la⟩
end
end GH
end
section
set_option maxRecDepth 100000
/-! The law's products, rings. -/
namespace GH
open PySem PySem.Spec PyProof.Rows L2 GM
def gab (l : Wd) (k : Str) : Int × Int := match lk l k with
  | some r => (r.a, r.b)
  | none => (1, 1)
def prodI (l : Wd) (ks : List Str) : Int × Int := ks.foldl (fun p k => tmI p (gab l k)) (1, 1)
theorem prodI_snoc (l : Wd) (ks : List Str) (k : Str) : prodI l (ks ++ [k]) = tmI (prodI l ks) (gab l k) := by unfold prodI; rw [List.foldl_append]; rfl
theorem gab_some {l : Wd} {k : Str} {r : Wr} (h : lk l k = some r) : gab l k = (r.a, r.b) := by unfold gab; rw [h]
theorem gab_ok {ps : List Str} {l : Wd} (h : WdOk ps l) (k : Str) : 1 ≤ (gab l k).1 ∧ (gab l k).1 ≤ 1000 ∧ 1 ≤ (gab l k).2 ∧ (gab l k).2 ≤ 1000 := by
  unfold gab
  cases e : lk l k with
  | none => exact ⟨by decide, by decide, by decide, by decide⟩
  | some r =>
    have := h.ok _ (lk_mem e)
    exact ⟨this.a1, this.a2, this.b1, this.b2⟩
theorem prodI_pos {ps : List Str} {l : Wd} (h : WdOk ps l) (ks : List Str) : 0 < (prodI l ks).1 ∧ 0 < (prodI l ks).2 ∧ PSz (10 * ks.length + 1) (prodI l ks) := by
  rcases ks.eq_nil_or_concat with rfl | ⟨r, k, rfl⟩
  · exact ⟨by show (0 : Int) < 1; decide, by show (0 : Int) < 1; decide, ⟨by show 1 < 2 ^ 1; decide, by show 1 < 2 ^ 1; decide⟩⟩
  · rw [List.concat_eq_append, prodI_snoc]
    obtain ⟨i1, i2, i3⟩ := prodI_pos h r
    obtain ⟨g1, g2, g3, g4⟩ := gab_ok h k
    refine ⟨Int.mul_pos i1 (by omega), Int.mul_pos i2 (by omega), ?_⟩
    have : PSz 10 (gab l k) := ⟨by show _ < 1024; omega, by show _ < 1024; omega⟩
    have := i3.tm this
    rw [List.length_append, List.length_singleton]
    exact this.up (by omega)
termination_by ks.length
decreasing_by rename_i e; rw [e]; simp
theorem prodI_congr {l l' : Wd} {ks : List Str} (h : ∀ k ∈ ks, lk l k = lk l' k) : prodI l ks = prodI l' ks := by
  have : ∀ (ks : List Str) (p : Int × Int), (∀ k ∈ ks, lk l k = lk l' k) → ks.foldl (fun p k => tmI p (gab l k)) p = ks.foldl (fun p k => tmI p (gab l' k)) p := by
    intro ks
    induction ks with
    | nil => intro p _; rfl
    | cons k r ih =>
      intro p h
      have e : gab l k = gab l' k := by unfold gab; rw [h k List.mem_cons_self]
      rw [List.foldl_cons, List.foldl_cons, e]
      exact ih _ fun k hk => h k (List.mem_cons_of_mem _ hk)
  exact this ks _ h
theorem WrAt.gains {G : Hp} {v : V} {r : Wr} {K : PySem.W.Frag} {H : Hp} (h : WrAt G v r) (s : Same G H) : ∃ a vg, v = .ref a ∧ SqT K H a [.str r.s, .str r.g, vg, .int r.k] ∧ PI G vg (r.a, r.b) := by
  obtain ⟨a, vg, e, h1, h2⟩ := h
  exact ⟨a, vg, e, SqT.of (s _ _ h1), h2⟩
def spLPr : Sp := fun vs H Q _ => ∃ (G : Hp) (x y : V) (ps : List Str) (l : Wd) (ks : List Str), vs = [x, y] ∧ Same G H ∧ DctAt WrAt G x l ∧ WdOk ps l ∧ LstAt StrAt G y ks ∧ ks.length ≤ 50 ∧ (∀ k ∈ ks, k ∈ keys l) ∧ Ret G H Q (fun v G' => PI G' v (prodI l ks))
section
variable {P : Program} {w : World} {K : PySem.W.Frag} {mg : Str → Option Value} {base : Heap} {c : Cl} {f : Addr} {fd : FuncData}
theorem scLPr : FnScope ["_law_ways_here", "_law_walk", "_law_gain_here", "_law_name"] ["_law_ways_here", "_law_walk"] (defScope sLPr) := ⟨rfl, rfl, rfl, by decide +kernel, rfl, by decide +kernel, by decide +kernel⟩
theorem psz_ab {ps : List Str} {r : Wr} (h : WrOk ps r) : PB6 (r.a, r.b) := by
  have : PSz 10 (r.a, r.b) := ⟨by show r.a.natAbs < 1024; have := h.a1; have := h.a2; omega, by show r.b.natAbs < 1024; have := h.b1; have := h.b2; omega⟩
  exact this.up (by decide)
theorem ok_lpr (F : FnP K "_law_product" "_law_product" sLPr f fd) (S1 : Fn P w K mg base "_law_times" 1 ["_law_one", "_law_other"] [] spLT) : FnOk P w K mg base CX0 2 f fd ["_law_ways_here", "_law_walk"] spLPr := by
  refine F.ok scLPr (fun vs H Q E h => ?_) (fun cdv A outer s H vs Q E hr h => ?_)
  · obtain ⟨G, x, y, ps, l, ks, rfl, _⟩ := h
    rfl
  · obtain ⟨G, x, y, ps, l, ks, rfl, s, hx, wo, hy, kl, kk, k⟩ := h
    refine ⟨_, PSs.nox (pss_cons (ps_set (i := 2) scLPr.nd rfl (Or.inl rfl) (pe_tup (pa_cons pe_int (pa_cons pe_int pa_nil))))
      (pss_cons (ps_for PassesOwn.never rfl (pi_list (pv 1)) (pg_name (i := 3) scLPr.nd rfl (Or.inl rfl))
        (pss_one (ps_set (i := 2) scLPr.nd rfl (Or.inl rfl) (pe_fn S1 hr (by rfl) (pa_cons (pv 2) (pa_cons (pe_ix ix_tup (pe_dget (hu_of hr) (pv 0) (pv 3) (fun _ _ => rfl)) pe_int (fun _ _ => rfl)) pa_nil))))))
      (pss_one (ps_ret (pv 2))))), ?_⟩
    refine ⟨by show 2 ≤ sizeLine; decide, fun p np => ?_⟩
    have e0 := Ext.imm (p := p) (o := .tup [.int 1, .int 1]) s np
    refine ⟨_, rfl, ?_⟩
    refine for_lst (R := StrAt) StrAt.mono (hy.up StrAt.mono (same_sm e0.g)) (Same.refl _) e0 (fun i σ G' H' => ∃ v2 v3, σ = [some x, some y, some v2, v3] ∧ PI G' v2 (prodI l (ks.take i))) ⟨.ref p, none, rfl, PI.mk⟩ (fun i m u σ G2 H2 hi hu sl e iv => ?_) (fun σ G2 H2 sl e iv => ?_)
    · obtain ⟨v2, v3, rfl, h2⟩ := iv
      have hu : u = .str m := hu
      subst hu
      obtain ⟨r, er⟩ := lk_some (kk m (List.mem_of_getElem? hi))
      obtain ⟨a1, u1, ea1, g1, r1⟩ := (hx.up WrAt.mono (same_sm e.g)).get e.gh er
      obtain ⟨t1, vg, rfl, st, hg⟩ := r1.gains (K := K) e.gh
      have pp := (prodI_pos wo (ks.take i)).2.2
      refine ⟨_, rfl, _, rfl, _, rfl, a1, _, ea1, g1, t1, _, 2, _, rfl, rfl, st, rfl, G2, v2, vg, _, _, rfl, e.gh, h2, hg, pp.up ?_, psz_ab (wo.ok _ (lk_mem er)), fun v4 G3 H3 e3 h3 => ?_⟩
      · have := List.length_take_le' i ks; omega
      · refine ⟨G3, sl.trans e3.g, e.trans e3, v4, _, rfl, ?_⟩
        rw [take_succ_of hi, prodI_snoc, gab_some er]; exact h3
    · obtain ⟨v2, v3, rfl, h2⟩ := iv
      rw [List.take_length] at h2
      exact ⟨_, rfl, k _ _ _ e h2⟩
end
end GH
end
section
set_option maxRecDepth 100000
/-! The law's rings. -/
namespace GH
open PySem PySem.Spec PyProof.Rows L2 GM
/-- the ways of a list go round the places P 0, P 1, .. -/
structure Rnd (ps : List Str) (l : Wd) (ar : List Str) (Pf : Nat → Str) : Prop where
  c2 : 2 ≤ ar.length
  c4 : ar.length ≤ 4
  inj : ∀ i j, i < ar.length → j < ar.length → Pf i = Pf j → i = j
  mem : ∀ i, i < ar.length → Pf i ∈ ps
  way : ∀ i, i < ar.length → ∃ r, lk l (at' ar i) = some r ∧ r.s = Pf i ∧ r.g = Pf ((i + 1) % ar.length) ∧ r.a ≤ 5 ∧ r.b ≤ 5
/-- the place where the t-th step begins -/
def stp (c : Nat) (bg : Int) (t : Nat) : Nat := ((bg + (t : Int)) % (c : Int)).toNat
theorem stp_lt {c : Nat} (h : 2 ≤ c) (bg : Int) (t : Nat) : stp c bg t < c := by
  unfold stp
  have := Int.emod_lt_of_pos (bg + (t : Int)) (show (0 : Int) < (c : Int) by omega)
  have := Int.emod_nonneg (bg + (t : Int)) (show (c : Int) ≠ 0 by omega)
  omega
theorem stp_eq {c : Nat} (h : 2 ≤ c) (bg : Int) (t : Nat) : ((stp c bg t : Nat) : Int) = (bg + (t : Int)) % (c : Int) := by
  unfold stp
  have := Int.emod_nonneg (bg + (t : Int)) (show (c : Int) ≠ 0 by omega)
  omega
theorem stp_next {c : Nat} (h : 2 ≤ c) (k : c ≤ 4) (bg : Int) (t : Nat) : (stp c bg t + 1) % c = stp c bg (t + 1) := by
  have : c = 2 ∨ c = 3 ∨ c = 4 := by omega
  rcases this with rfl | rfl | rfl <;> unfold stp <;> omega
theorem stp_ne {c : Nat} (h : 2 ≤ c) (k : c ≤ 4) (bg : Int) {m : Nat} (m1 : 1 ≤ m) (m2 : m < c) : stp c bg 0 ≠ stp c bg m := by
  have : c = 2 ∨ c = 3 ∨ c = 4 := by omega
  rcases this with rfl | rfl | rfl <;> unfold stp <;> omega
/-- the names of m steps -/
def run (ar : List Str) (bg : Int) (m : Nat) : List Str := (List.range m).map fun t => at' ar (stp ar.length bg t)
theorem run_succ (ar : List Str) (bg : Int) (m : Nat) : run ar bg (m + 1) = run ar bg m ++ [at' ar (stp ar.length bg m)] := by
  unfold run; rw [List.range_succ, List.map_append]; rfl
theorem run_len (ar : List Str) (bg : Int) (m : Nat) : (run ar bg m).length = m := by unfold run; simp
theorem run_get {ar : List Str} {bg : Int} {m i : Nat} (h : i < m) : (run ar bg m)[i]? = some (at' ar (stp ar.length bg i)) := by
  unfold run
  rw [List.getElem?_map, List.getElem?_range h]; rfl
/-- small gains: their products -/
theorem prod5 {ps : List Str} {l : Wd} (h : WdOk ps l) {ks : List Str} (hk : ∀ k ∈ ks, (gab l k).1 ≤ 5 ∧ (gab l k).2 ≤ 5) (hl : ks.length ≤ 3) : (prodI l ks).1 ≤ 125 ∧ (prodI l ks).2 ≤ 125 := by
  have go : ∀ ks : List Str, (∀ k ∈ ks, (gab l k).1 ≤ 5 ∧ (gab l k).2 ≤ 5) → ∀ p : Int × Int, 0 < p.1 → 0 < p.2 → ∀ M : Int, p.1 ≤ M → p.2 ≤ M → (ks.foldl (fun p k => tmI p (gab l k)) p).1 ≤ M * 5 ^ ks.length ∧ (ks.foldl (fun p k => tmI p (gab l k)) p).2 ≤ M * 5 ^ ks.length := by
    intro ks
    induction ks with
    | nil => intro _ p _ _ M h1 h2; simp; exact ⟨h1, h2⟩
    | cons k r ih =>
      intro hk p p1 p2 M h1 h2
      obtain ⟨k1, k2⟩ := hk k List.mem_cons_self
      obtain ⟨g1, _, g3, _⟩ := gab_ok h k
      have q := ih (fun k hk' => hk k (List.mem_cons_of_mem _ hk')) (tmI p (gab l k)) (Int.mul_pos p1 (by omega)) (Int.mul_pos p2 (by omega)) (M * 5) (Int.mul_le_mul h1 k1 (by omega) (by omega)) (Int.mul_le_mul h2 k2 (by omega) (by omega))
      rw [List.foldl_cons, List.length_cons]
      have e : M * 5 * 5 ^ r.length = M * 5 ^ (r.length + 1) := by rw [Int.pow_succ, Int.mul_assoc, Int.mul_comm 5]
      rw [← e]; exact q
  obtain ⟨q1, q2⟩ := go ks hk (1, 1) (by decide) (by decide) 1 (by decide) (by decide)
  have : (5 : Int) ^ ks.length ≤ 125 := by
    have : ks.length = 0 ∨ ks.length = 1 ∨ ks.length = 2 ∨ ks.length = 3 := by omega
    rcases this with h | h | h | h <;> rw [h] <;> decide
  rw [Int.one_mul] at q1 q2
  exact ⟨Int.le_trans q1 this, Int.le_trans q2 this⟩
/-- the ring that is made -/
structure RingI (l : Wd) (nm : Str) (r : Wr) (ks : List Str) (g : Int × Int) : Prop where
  sub : ∀ k ∈ ks, k ∈ keys l ∨ k = nm
  ne : ks ≠ []
  len : ks.length ≤ 4
  eq : g.1 = g.2 → (prodI (l ++ [(nm, r)]) ks).1 = (prodI (l ++ [(nm, r)]) ks).2
  gt : g.2 < g.1 → (prodI (l ++ [(nm, r)]) ks).2 < (prodI (l ++ [(nm, r)]) ks).1
  lt : g.1 < g.2 → (prodI (l ++ [(nm, r)]) ks).1 < (prodI (l ++ [(nm, r)]) ks).2
def spLRg : Sp := fun vs H Q _ => ∃ (G : Hp) (d : Addr) (y vg : V) (bg kd szi : Int) (sz : Nat) (nm : Str) (g : Int × Int) (ps ar : List Str) (l : Wd) (Pf : Nat → Str), vs = [.ref d, y, .int bg, .int szi, .str nm, vg, .int kd] ∧ szi = ((sz : Nat) : Int) ∧ Same G H ∧ Own WrAt G H d l ∧ WdOk ps l ∧ l.length < 12 ∧ nm ∉ keys l ∧
  LstAt StrAt G y ar ∧ Rnd ps l ar Pf ∧ 2 ≤ sz ∧ sz ≤ ar.length ∧ PI G vg g ∧ 1 ≤ g.1 ∧ g.1 ≤ 8 ∧ 1 ≤ g.2 ∧ g.2 ≤ 8 ∧
  ∀ v G' H' r ks, ExtX d G H G' H' → Own WrAt G' H' d (l ++ [(nm, r)]) → WrOk ps r → LstAt StrAt G' v ks → RingI l nm r ks g → Q v H'
section
variable {P : Program} {w : World} {K : PySem.W.Frag} {mg : Str → Option Value} {base : Heap} {c : Cl} {f : Addr} {fd : FuncData}
theorem scLRg : FnScope ["_law_ways_here", "_law_around", "_law_begin", "_law_size", "_law_name", "_law_gain_here", "_law_kind", "_law_names_here", "_law_product_here", "_law_label", "_law_k"] ["_law_ways_here", "_law_around", "_law_begin", "_law_size", "_law_name", "_law_gain_here", "_law_kind"] (defScope sLRg) := ⟨rfl, rfl, rfl, by decide +kernel, rfl, by decide +kernel, by decide +kernel⟩
theorem ok_lrg (F : FnP K "_law_ring" "_law_ring" sLRg f fd) (T : Txt K mg c) (S1 : Fn P w K mg base "_law_times" 1 ["_law_one", "_law_other"] [] spLT) : FnOk P w K mg base CX0 2 f fd ["_law_ways_here", "_law_around", "_law_begin", "_law_size", "_law_name", "_law_gain_here", "_law_kind"] spLRg := by
  refine F.ok scLRg (fun vs H Q E h => ?_) (fun cdv A outer s H vs Q E hr h => ?_)
  · obtain ⟨G, d, y, vg, bg, kd, szi, sz, nm, g, ps, ar, l, Pf, rfl, _⟩ := h
    rfl
  · obtain ⟨G, d, y, vg, bg, kd, szi, sz, nm, g, ps, ar, l, Pf, rfl, rfl, s, o, wo, ll, nn, hy, rn, s2, sc, hg, g1, g2, g3, g4, k⟩ := h
    refine ⟨_, PSs.nox (pss_cons (ps_k (ps_setLc (i := 7) (own := [("_law_k", 10)]) (g := gName 10) (tt := tYes) (te := tOp (rIxL K) (tVar 1) (tOp (rI (fun _ j => 0 < j) fun i j => V.int (i % j)) (tOp (rI0 fun i j => V.int (i + j)) (tVar 2) (tVar 10)) (tCB (fun xs H Q => ∃ p ys, xs = [.ref p] ∧ (SqL K H p ys ∨ SqT K H p ys) ∧ Q (.int ys.length) H) (tCons (tVar 1) tNil)))) rfl scLRg.nd rfl rfl (sw_true rfl rfl rfl (by decide +kernel)) (pi_range1 (by rfl) T.range (pa_cons (pe_op op_sub (pv 3) pe_int) pa_nil)) (blkOk_by (N := ["_law_ways_here", "_law_around", "_law_begin", "_law_size", "_law_name", "_law_gain_here", "_law_kind", "_law_names_here", "_law_product_here", "_law_label", "_law_k"]) (sc := defScope sLRg) (by decide +kernel))
          (fun _ _ _ _ _ => pg_name (i := 10) scLRg.nd rfl (Or.inl rfl)) (fun _ _ _ _ _ => pts_nil) (fun _ _ _ _ _ => pe_ix ix_list (pv 1) (pe_op op_mod (pe_op op_add (pv 2) (pv 10)) (pe_callB call_len_seq (by rfl) T.len PySem.boot_len (pa_cons (pv 1) pa_nil))) (fun _ _ => rfl))))
      (pss_cons (ps_set (i := 8) scLRg.nd rfl (Or.inl rfl) (pe_tup (pa_cons pe_int (pa_cons pe_int pa_nil))))
      (pss_cons (ps_for PassesOwn.never rfl (pi_list (pv 7)) (pg_name (i := 9) scLRg.nd rfl (Or.inl rfl))
        (pss_one (ps_set (i := 8) scLRg.nd rfl (Or.inl rfl) (pe_fn S1 hr (by rfl) (pa_cons (pv 8) (pa_cons (pe_ix ix_tup (pe_dget (hu_of hr) (pv 0) (pv 9) (fun _ _ => rfl)) pe_int (fun _ _ => rfl)) pa_nil))))))
      (pss_cons (ps_set (i := 5) scLRg.nd rfl (Or.inl rfl) (pe_tup (pa_cons (pe_op op_mulX (pe_ix ix_tup (pv 5) pe_int (fun _ _ => rfl)) (pe_ix ix_tup (pv 8) pe_int (fun _ _ => rfl))) (pa_cons (pe_op op_mulX (pe_ix ix_tup (pv 5) pe_int (fun _ _ => rfl)) (pe_ix ix_tup (pv 8) pe_int (fun _ _ => rfl))) pa_nil))))
      (pss_cons (ps_dput (hu_of hr) (pv 0) (pv 4) (pe_tup (pa_cons (pe_ix ix_tup (pe_dget (hu_of hr) (pv 0) (pe_ix ix_list (pv 7) (pe_un un_neg pe_int) (fun _ _ => rfl)) (fun _ _ => rfl)) pe_int (fun _ _ => rfl)) (pa_cons (pe_ix ix_tup (pe_dget (hu_of hr) (pv 0) (pe_ix ix_list (pv 7) pe_int (fun _ _ => rfl)) (fun _ _ => rfl)) pe_int (fun _ _ => rfl)) (pa_cons (pv 5) (pa_cons (pv 6) pa_nil))))) rfl)
      (pss_one (ps_ret (pe_op op_cat (pv 7) (pe_lst (pa_cons (pv 4) pa_nil)))))))))), ?_⟩
    have c2 := rn.c2
    have c4 := rn.c4
    obtain ⟨m, em, m1, m2⟩ : ∃ m : Nat, (sz : Int) - 1 = (m : Int) ∧ 1 ≤ m ∧ m < ar.length := ⟨sz - 1, by omega, by omega, by omega⟩
    obtain ⟨ay, ys, rfl, sy, ly⟩ := hy.len s (K := K)
    have pp : (0 : Int) < (ar.length : Int) := by omega
    refine ⟨_, rfl, _, _, rfl, rfl, _, rfl, by omega, by omega, ?_⟩
    have et : ((sz : Int) - 1).toNat = m := by omega
    rw [et]
    refine lc_rng (S := StrAt) (lo := 0) (n := m) StrAt.mono (Same.refl G) s (Ext.refl s) (by omega) (fun j => run ar bg j) rfl (fun j G2 H2 hj sl e Yes No hY _ => ?_) (fun v7 G2 H2 sl e h7 => ?_)
    · obtain ⟨a1, x1, e1, q1, r1⟩ := ix_at (K := K) (hy.up StrAt.mono (same_sm e.g)) e.gh (j := stp ar.length bg j) (stp_lt c2 _ _)
      obtain ⟨a3, x3, e3, q3, l3⟩ := (hy.up StrAt.mono (same_sm e.g)).len e.gh (K := K)
      refine ⟨rfl, lc_yes ⟨_, rfl, _, rfl, _, rfl, _, _, rfl, rfl, _, rfl, a3, x3, by rw [e3], .inl q3, _, _, rfl, rfl, by rw [l3]; exact pp, a1, x1, _, .str (at' ar (stp ar.length bg j)), e1, rfl, q1, ?_, ?_⟩⟩
      · rw [l3]
        show atI x1 ((bg + (0 + (j : Int))) % (ar.length : Int)) = _
        rw [Int.zero_add, ← stp_eq c2]; exact r1
      · exact hY _ _ _ _ (Ext.refl e.gh) rfl (run_succ ar bg j)
    have o2 := o.ext WrAt.mono e
    refine ⟨by show 2 ≤ sizeLine; decide, fun tp np => ?_⟩
    have i3 := Ext.imm (p := tp) (o := .tup [.int 1, .int 1]) e.gh np
    have e3 := e.trans i3
    have rl : ∀ t, t < m → ∃ r, lk l (at' ar (stp ar.length bg t)) = some r ∧ r.s = Pf (stp ar.length bg t) ∧ r.g = Pf (stp ar.length bg (t + 1)) ∧ r.a ≤ 5 ∧ r.b ≤ 5 := fun t _ => by
      obtain ⟨r, q1, q2, q3, q4⟩ := rn.way _ (stp_lt c2 bg t)
      rw [stp_next c2 c4] at q3
      exact ⟨r, q1, q2, q3, q4⟩
    refine ⟨_, rfl, ?_⟩
    refine for_lst (R := StrAt) StrAt.mono (h7.up StrAt.mono (same_sm i3.g)) (Same.refl _) e3 (fun i σ G' H' => ∃ v8 v9, σ = [some (.ref d), some (.ref ay), some (.int bg), some (.int (sz : Nat)), some (.str nm), some vg, some (.int kd), some v7, some v8, v9, none] ∧ PI G' v8 (prodI l ((run ar bg m).take i))) ⟨.ref tp, none, rfl, PI.mk⟩ (fun i t u σ G4 H4 hi hu sl4 e4 iv => ?_) (fun σ G4 H4 sl4 e4 iv => ?_)
    · obtain ⟨v8, v9, rfl, h8⟩ := iv
      have hu : u = .str t := hu
      subst hu
      have il : i < m := by have := (List.getElem?_eq_some_iff.mp hi).1; rwa [run_len] at this
      rw [run_get il] at hi
      have hi' := Option.some.inj hi
      obtain ⟨r, er, _⟩ := rl i il
      rw [hi'] at er
      have o4 := o.ext WrAt.mono e4
      obtain ⟨u1, dg, r1⟩ := o4.get er
      obtain ⟨t1, vg1, rfl, st, hg1⟩ := r1.gains (K := K) e4.gh
      have pq := (prodI_pos wo ((run ar bg m).take i)).2.2
      refine ⟨_, rfl, _, rfl, _, rfl, d, _, rfl, dg, t1, _, 2, _, rfl, rfl, st, rfl, G4, v8, vg1, _, _, rfl, e4.gh, h8, hg1, pq.up ?_, psz_ab (wo.ok _ (lk_mem er)), fun v5 G5 H5 e5 h5 => ?_⟩
      · rw [List.length_take]; omega
      · refine ⟨G5, sl4.trans e5.g, e4.trans e5, v5, _, rfl, ?_⟩
        rw [take_succ_of (run_get il), prodI_snoc, hi', gab_some er]; exact h5
    obtain ⟨v8, v9, rfl, h8⟩ := iv
    rw [List.take_length] at h8
    obtain ⟨p1, p2, pz⟩ := prodI_pos wo (run ar bg m)
    rw [run_len] at pz
    have p5 := prod5 wo (ks := run ar bg m) (fun k hk => by
      obtain ⟨t, ht, e⟩ := List.mem_map.mp hk
      obtain ⟨r, er, _, _, r1, r2⟩ := rl t (List.mem_range.mp ht)
      rw [← e, gab_some er]; exact ⟨r1, r2⟩) (by rw [run_len]; omega)
    obtain ⟨t8, e8, ht8⟩ := h8.obj
    subst e8
    have hg4 := PI.mono (same_sm e4.g) hg
    obtain ⟨tg, eg, htg⟩ := hg4.obj
    subst eg
    have A8 : SqT K H4 t8 [.int (prodI l (run ar bg m)).1, .int (prodI l (run ar bg m)).2] := SqT.of (e4.gh _ _ ht8)
    have Ag : SqT K H4 tg [.int g.1, .int g.2] := SqT.of (e4.gh _ _ htg)
    have small : ∀ i : Int, 1 ≤ i → i ≤ 1000 → i.natAbs < 2 ^ 10000000 := fun i a b => Nat.lt_of_lt_of_le (show i.natAbs < 2 ^ 10 by show _ < 1024; omega) (Nat.pow_le_pow_right (by decide) (by decide))
    refine ⟨_, rfl, tg, _, 0, _, rfl, rfl, Ag, rfl, _, rfl, t8, _, 1, _, rfl, rfl, A8, rfl, _, _, rfl, rfl, mul6 (small _ g1 (by omega)) (small _ p2 (by omega)), _, rfl, tg, _, 1, _, rfl, rfl, Ag, rfl, _, rfl, t8, _, 0, _, rfl, rfl, A8, rfl, _, _, rfl, rfl, mul6 (small _ g3 (by omega)) (small _ p1 (by omega)), by show 2 ≤ sizeLine; decide, fun tq nq => ?_⟩
    have i5 := Ext.imm (p := tq) (o := .tup [.int (g.1 * (prodI l (run ar bg m)).2), .int (g.2 * (prodI l (run ar bg m)).1)]) e4.gh nq
    have e5 := e4.trans i5
    have h75 := (h7.up StrAt.mono (same_sm ((i3.g.trans sl4).trans i5.g)))
    obtain ⟨a7, xs7, rfl, hx7, hp7⟩ := id h75
    have hs7 := strs_eq hp7
    subst hs7
    have L7 : SqL K _ a7 ((run ar bg m).map V.str) := SqL.of (e5.gh _ _ hx7)
    have atl : atI ((run ar bg m).map V.str) (-1) = some (.str (at' ar (stp ar.length bg (m - 1)))) := atI_last (by rw [run_len]; exact run_get (by omega))
    have at0 : atI ((run ar bg m).map V.str) 0 = some (.str (at' ar (stp ar.length bg 0))) := atI_str (i := 0) (run_get (by omega))
    obtain ⟨rL, eL, _, gL, _⟩ := rl (m - 1) (by omega)
    obtain ⟨r0, er0, s0, _⟩ := rl 0 (by omega)
    rw [show m - 1 + 1 = m by omega] at gL
    have o5 := o.ext WrAt.mono e5
    obtain ⟨uL, dL, qL⟩ := o5.get eL
    obtain ⟨u0, d0, q0⟩ := o5.get er0
    obtain ⟨tL, vL, rfl, sL, _⟩ := qL.gains (K := K) e5.gh
    obtain ⟨t0, v0, rfl, s00, _⟩ := q0.gains (K := K) e5.gh
    refine ⟨_, rfl, _, rfl, _, rfl, a7, _, -1, _, rfl, rfl, L7, atl, d, _, rfl, dL, tL, _, 1, _, rfl, rfl, sL, rfl, _, rfl, _, rfl, a7, _, 0, _, rfl, rfl, L7, at0, d, _, rfl, d0, t0, _, 0, _, rfl, rfl, s00, rfl, _, rfl, _, rfl, by show 4 ≤ sizeLine; decide, fun tt nt => ?_⟩
    have i6 := Ext.imm (p := tt) (o := .tup [.str rL.g, .str r0.s, .ref tq, .int kd]) e5.gh nt
    have e6 := e5.trans i6
    have o6 := o.ext WrAt.mono e6
    have st0 := stp_lt c2 bg 0
    have stm := stp_lt c2 bg m
    have m7 : ∀ a b : Int, 1 ≤ a → a ≤ 8 → 0 < b → b ≤ 125 → 1 ≤ a * b ∧ a * b ≤ 1000 := fun a b h1 h2 h3 h4 => ⟨Int.mul_pos (by omega) h3, by
      have := Int.mul_le_mul h2 h4 (by omega) (by omega : (0 : Int) ≤ 8)
      omega⟩
    have ma := m7 _ _ g1 g2 p2 p5.2
    have mb := m7 _ _ g3 g4 p1 p5.1
    have ro : WrOk ps ⟨rL.g, r0.s, g.1 * (prodI l (run ar bg m)).2, g.2 * (prodI l (run ar bg m)).1, kd⟩ := by
      refine ⟨?_, ?_, ?_, ma.1, ma.2, mb.1, mb.2⟩
      · show rL.g ∈ ps; rw [gL]; exact rn.mem _ stm
      · show r0.s ∈ ps; rw [s0]; exact rn.mem _ st0
      · show rL.g ≠ r0.s
        rw [gL, s0]
        exact fun z => stp_ne c2 c4 bg m1 m2 (rn.inj _ _ stm st0 z).symm
    have r6 : WrAt (upd (upd G4 tq (.tup [.int (g.1 * (prodI l (run ar bg m)).2), .int (g.2 * (prodI l (run ar bg m)).1)])) tt (.tup [.str rL.g, .str r0.s, .ref tq, .int kd])) (.ref tt) ⟨rL.g, r0.s, g.1 * (prodI l (run ar bg m)).2, g.2 * (prodI l (run ar bg m)).1, kd⟩ := ⟨tt, .ref tq, rfl, upd_same, PI.mono (same_sm i6.g) PI.mk⟩
    obtain ⟨H7, dp, o7, u7, eo⟩ := o6.put (k := nm) r6 (line100 (by omega))
    rw [put_new nn] at o7
    have x7 := e6.x.wr (d := d) (o := u7) o6.choose_spec.1
    rw [← eo] at x7
    refine ⟨_, rfl, _, rfl, d, H7, rfl, dp, ?_⟩
    have hd7 := o7.choose_spec.2.1
    refine ⟨_, rfl, _, rfl, by show 1 ≤ sizeLine; decide, fun p np => ?_⟩
    have i8 := Ext.imm (p := p) (o := .lst [.str nm]) x7.gh np
    have hx8 := i8.gh _ _ (i8.g _ _ (i6.g _ _ hx7))
    refine ⟨a7, p, _, _, rfl, rfl, hx8, upd_same, ?_, fun q nq => ?_⟩
    · rw [List.length_map, run_len]
      exact Nat.le_of_lt (line100 (show m + 1 ≤ 1000 by omega))
    have i9 := i8.trans (Ext.imm (p := q) (o := .lst ((run ar bg m).map V.str ++ [.str nm])) i8.gh nq)
    have hdn : H d ≠ none := some_ne o.choose_spec.2.1
    have x9 := x7.trans (fun _ => some_ne hd7) i9
    refine k _ _ _ ⟨rL.g, r0.s, g.1 * (prodI l (run ar bg m)).2, g.2 * (prodI l (run ar bg m)).1, kd⟩ (run ar bg m ++ [nm]) x9 (o7.ext WrAt.mono i9) ro ⟨q, _, rfl, upd_same, ?_⟩ ?_
    · have := flat_pair (G := upd (upd (upd (upd G4 tq (.tup [.int (g.1 * (prodI l (run ar bg m)).2), .int (g.2 * (prodI l (run ar bg m)).1)])) tt (.tup [.str rL.g, .str r0.s, .ref tq, .int kd])) p (.lst [.str nm])) q (.lst ((run ar bg m).map V.str ++ [.str nm]))) (run ar bg m ++ [nm])
      rw [List.map_append] at this
      exact this
    · have kin : ∀ k ∈ run ar bg m, k ∈ keys l := fun k hk => by
        obtain ⟨t, ht, e⟩ := List.mem_map.mp hk
        obtain ⟨r, er, _⟩ := rl t (List.mem_range.mp ht)
        rw [← e]
        exact List.mem_map.mpr ⟨_, lk_mem er, rfl⟩
      have pe : prodI (l ++ [(nm, (⟨rL.g, r0.s, g.1 * (prodI l (run ar bg m)).2, g.2 * (prodI l (run ar bg m)).1, kd⟩ : Wr))]) (run ar bg m ++ [nm]) = ((prodI l (run ar bg m)).1 * (g.1 * (prodI l (run ar bg m)).2), (prodI l (run ar bg m)).2 * (g.2 * (prodI l (run ar bg m)).1)) := by
        rw [prodI_snoc, gab_some (lk_snoc_new nn), ← prodI_congr (l := l) fun k hk => by
          obtain ⟨r, er⟩ := lk_some (kin k hk)
          rw [er, lk_snoc_old er]]
        rfl
      have pq : ∀ a b : Int, (prodI l (run ar bg m)).1 * (a * (prodI l (run ar bg m)).2) = a * ((prodI l (run ar bg m)).1 * (prodI l (run ar bg m)).2) := fun a _ => by ac_rfl
      have pq2 : ∀ a b : Int, (prodI l (run ar bg m)).2 * (a * (prodI l (run ar bg m)).1) = a * ((prodI l (run ar bg m)).1 * (prodI l (run ar bg m)).2) := fun a _ => by ac_rfl
      have pos := Int.mul_pos p1 p2
      refine ⟨fun k hk => ?_, by simp, by rw [List.length_append, run_len]; show m + 1 ≤ 4; omega, fun ge => ?_, fun ge => ?_, fun ge => ?_⟩
      · rcases List.mem_append.mp hk with hk | hk
        · exact .inl (kin k hk)
        · exact .inr (List.mem_singleton.mp hk)
      · rw [pe]
        show (prodI l (run ar bg m)).1 * (g.1 * (prodI l (run ar bg m)).2) = (prodI l (run ar bg m)).2 * (g.2 * (prodI l (run ar bg m)).1)
        rw [pq g.1 0, pq2 g.2 0, ge]
      · rw [pe]
        show (prodI l (run ar bg m)).2 * (g.2 * (prodI l (run ar bg m)).1) < (prodI l (run ar bg m)).1 * (g.1 * (prodI l (run ar bg m)).2)
        rw [pq g.1 0, pq2 g.2 0]
        exact Int.mul_lt_mul_of_pos_right ge pos
      · rw [pe]
        show (prodI l (run ar bg m)).1 * (g.1 * (prodI l (run ar bg m)).2) < (prodI l (run ar bg m)).2 * (g.2 * (prodI l (run ar bg m)).1)
        rw [pq g.1 0, pq2 g.2 0]
        exact Int.mul_lt_mul_of_pos_right ge pos
end
end GH
end
section
set_option maxRecDepth 100000
/-! The law's strands. -/
namespace GH
open PySem PySem.Spec PyProof.Rows L2 GM
theorem ExtX.comp {d : Addr} {G H G1 H1 G2 H2 : Hp} (a : ExtX d G H G1 H1) (n : H d ≠ none → H1 d ≠ none) (b : ExtX d G1 H1 G2 H2) : ExtX d G H G2 H2 :=
  ⟨a.g.trans b.g, fun x o ne z => b.h x o ne (a.h x o ne z), b.gh, fun x z q => b.new x (a.new x z q) (by
    by_cases e : x = d
    · rw [e] at q ⊢; exact n q
    · cases k : H x with
      | none => exact absurd k q
      | some o => exact some_ne (a.h x o e k))⟩
structure LS where
  h : List Str
  p : List Str
  t : List Str
  q : Int × Int
def LsAt : Rl LS := fun G v x => ∃ a v0 v1 v2 v3, v = .ref a ∧ G a = some (.tup [v0, v1, v2, v3]) ∧ LstAt StrAt G v0 x.h ∧ LstAt StrAt G v1 x.p ∧ LstAt StrAt G v2 x.t ∧ PI G v3 x.q
theorem LsAt.mono : Mono LsAt := fun {G G' v x} s h => by
  obtain ⟨a, v0, v1, v2, v3, e, h1, h2, h3, h4, h5⟩ := h
  exact ⟨a, v0, v1, v2, v3, e, s.tup h1, h2.up StrAt.mono s, h3.up StrAt.mono s, h4.up StrAt.mono s, PI.mono s h5⟩
structure LsOk (l : Wd) (x : LS) : Prop where
  sh : ∀ k ∈ x.h, k ∈ keys l
  sp : ∀ k ∈ x.p, k ∈ keys l
  st : ∀ k ∈ x.t, k ∈ keys l
  lh : x.h.length ≤ 4
  lp : x.p.length ≤ 4
  lt : x.t.length ≤ 4
  hd : x.h = [] ∨ (prodI l x.h).2 ≤ (prodI l x.h).1
  tl : x.t = [] ∨ (prodI l x.t).1 < (prodI l x.t).2
  q1 : 1 ≤ x.q.1
  q2 : x.q.1 ≤ 12
  q3 : 1 ≤ x.q.2
  q4 : x.q.2 ≤ 6
theorem keys_snoc (l : Wd) (ex : Wd) : keys (l ++ ex) = keys l ++ keys ex := by unfold keys; rw [List.map_append]
theorem lk_app_old {l ex : Wd} {k : Str} (h : k ∈ keys l) : lk l k = lk (l ++ ex) k := by
  obtain ⟨r, e⟩ := lk_some h
  rw [lk_append, e]; rfl
theorem LsOk.more {l : Wd} {x : LS} (h : LsOk l x) (ex : Wd) : LsOk (l ++ ex) x := by
  have up : ∀ k, k ∈ keys l → k ∈ keys (l ++ ex) := fun k hk => by rw [keys_snoc]; exact List.mem_append_left _ hk
  refine ⟨fun k hk => up k (h.sh k hk), fun k hk => up k (h.sp k hk), fun k hk => up k (h.st k hk), h.lh, h.lp, h.lt, ?_, ?_, h.q1, h.q2, h.q3, h.q4⟩
  · rw [← prodI_congr (l := l) (fun k hk => lk_app_old (h.sh k hk))]; exact h.hd
  · rw [← prodI_congr (l := l) (fun k hk => lk_app_old (h.st k hk))]; exact h.tl
def spLSt : Sp := fun vs H Q _ => ∃ (G : Hp) (d : Addr) (y z : V) (wh : Nat) (cs : List Int) (ps ls : List Str) (l : Wd), vs = [.ref d, y, .int (ps.length : Int), .int (wh : Nat), z] ∧ Same G H ∧ Own WrAt G H d l ∧ Laid ps ls (2 * ps.length + 2 * wh) l ∧ LstAt StrAt G y ls ∧ LstAt IntAt G z cs ∧ cs.length = 4 ∧ wh ≤ 1 ∧
  ls.Nodup ∧ ls.length = 2 * ps.length + 4 ∧ ps.Nodup ∧ 2 ≤ ps.length ∧ ps.length ≤ 4 ∧
  ∀ v G' H' ex x, ExtX d G H G' H' → Own WrAt G' H' d (l ++ ex) → Laid ps ls (2 * ps.length + 2 * wh + 2) (l ++ ex) → LsAt G' v x → LsOk (l ++ ex) x → Q v H'
theorem rnd_ahead {ps ls : List Str} {m : Nat} {l : Wd} (la : Laid ps ls m l) (hm : 2 * ps.length ≤ m) (ndp : ps.Nodup) (c2 : 2 ≤ ps.length) (c4 : ps.length ≤ 4) (ll : 2 * ps.length ≤ ls.length) : Rnd ps l (ls.take ps.length) (fun i => at' ps i) := by
  have e : (ls.take ps.length).length = ps.length := by rw [List.length_take]; omega
  have at_ : ∀ i, i < ps.length → at' (ls.take ps.length) i = at' ls i := fun i hi => by
    unfold at'
    rw [List.getD_eq_getElem?_getD, List.getD_eq_getElem?_getD, List.getElem?_take, if_pos hi]
  refine ⟨by rw [e]; exact c2, by rw [e]; exact c4, fun i j hi hj h => at_inj ndp (by omega) (by omega) h, fun i hi => at_mem (by omega), fun i hi => ?_⟩
  rw [e] at hi ⊢
  rw [at_ i hi]
  obtain ⟨r, r1, r2, r3, r4⟩ := la.hat i (by omega) (by omega)
  rw [Nat.mod_eq_of_lt hi] at r2
  unfold gl at r3
  rw [if_pos hi] at r3
  exact ⟨r, r1, r2, r3, r4⟩
theorem bk_inj {c i j : Nat} (h2 : 2 ≤ c) (h4 : c ≤ 4) (hi : i < c) (hj : j < c) (h : (c - i) % c = (c - j) % c) : i = j := by
  have : c = 2 ∨ c = 3 ∨ c = 4 := by omega
  rcases this with rfl | rfl | rfl <;> omega
theorem bk_next {c i : Nat} (h2 : 2 ≤ c) (h4 : c ≤ 4) (hi : i < c) : (c + (c - i) % c - 1) % c = (c - (i + 1) % c) % c := by
  have hc : c = 2 ∨ c = 3 ∨ c = 4 := by omega
  have h : i = 0 ∨ i = 1 ∨ i = 2 ∨ i = 3 := by omega
  rcases hc with rfl | rfl | rfl <;> rcases h with rfl | rfl | rfl | rfl <;> first | rfl | omega
/-- the other way round -/
def back (ps ls : List Str) : List Str := (List.range ps.length).map fun k => at' ls (ps.length + (ps.length - k) % ps.length)
theorem rnd_back {ps ls : List Str} {m : Nat} {l : Wd} (la : Laid ps ls m l) (hm : 2 * ps.length ≤ m) (ndp : ps.Nodup) (c2 : 2 ≤ ps.length) (c4 : ps.length ≤ 4) : Rnd ps l (back ps ls) (fun i => at' ps ((ps.length - i) % ps.length)) := by
  have e : (back ps ls).length = ps.length := by unfold back; simp
  have at_ : ∀ i, i < ps.length → at' (back ps ls) i = at' ls (ps.length + (ps.length - i) % ps.length) := fun i hi => by
    unfold at' back
    rw [List.getD_eq_getElem?_getD, List.getElem?_map, List.getElem?_range hi]; rfl
  have lt : ∀ i, (ps.length - i) % ps.length < ps.length := fun i => Nat.mod_lt _ (by omega)
  refine ⟨by rw [e]; exact c2, by rw [e]; exact c4, fun i j hi hj h => ?_, fun i hi => at_mem (lt i), fun i hi => ?_⟩
  · rw [e] at hi hj
    exact bk_inj c2 c4 hi hj (at_inj ndp (lt i) (lt j) h)
  · rw [e] at hi ⊢
    rw [at_ i hi]
    obtain ⟨r, r1, r2, r3, r4⟩ := la.hat (ps.length + (ps.length - i) % ps.length) (by have := lt i; omega) (by have := lt i; omega)
    refine ⟨r, r1, ?_, ?_, r4⟩
    · rw [r2]
      congr 1
      rw [Nat.add_mod_left, Nat.mod_mod]
    · rw [r3]
      show at' ps _ = at' ps _
      congr 1
      unfold gl
      rw [if_neg (by omega)]
      exact bk_next c2 c4 hi
end GH
end
section
set_option maxRecDepth 100000
set_option maxHeartbeats 4000000
/-! _law_strand. -/
namespace GH
open PySem PySem.Spec PyProof.Rows L2 GM
theorem Laid.close {ps ls : List Str} {m : Nat} {l : Wd} (h : Laid ps ls m l) (nd : ls.Nodup) (hm : m < ls.length) (lm : m < 12) (hl : 2 * ps.length ≤ m) {r : Wr} (ro : WrOk ps r) : at' ls m ∉ keys l ∧ Laid ps ls (m + 1) (l ++ [(at' ls m, r)]) := h.snoc nd hm lm ro fun z => by omega
theorem Laid.len {ps ls : List Str} {m : Nat} {l : Wd} (h : Laid ps ls m l) : l.length ≤ m := by
  have := congrArg List.length h.ks
  rw [keys_len, List.length_take] at this; omega
theorem Rnd.more {ps ar : List Str} {l : Wd} {Pf : Nat → Str} (h : Rnd ps l ar Pf) (ex : Wd) : Rnd ps (l ++ ex) ar Pf :=
  ⟨h.c2, h.c4, h.inj, h.mem, fun i hi => by
    obtain ⟨r, r1, r2⟩ := h.way i hi
    exact ⟨r, by rw [lk_append, r1]; rfl, r2⟩⟩
theorem ints_at {K : PySem.W.Frag} {G H : Hp} {v : V} {cs : List Int} (h : LstAt IntAt G v cs) (s : Same G H) {j : Nat} (hj : j < cs.length) : ∃ a xs, v = .ref a ∧ SqL K H a xs ∧ atI xs ((j : Nat) : Int) = some (.int cs[j]) := by
  obtain ⟨a, vs, e, h1, h2⟩ := h
  obtain ⟨u, hu, hr⟩ := paired_get' h2 j cs[j] (List.getElem?_eq_getElem hj)
  have hr : u = .int cs[j] := hr
  subst hr
  refine ⟨a, vs, e, SqL.of (s _ _ h1), ?_⟩
  have := (List.getElem?_eq_some_iff.mp hu).1
  unfold atI ixN
  rw [if_pos (by omega), if_pos (by omega)]
  show vs[((j : Nat) : Int).toNat]? = _
  rw [Int.toNat_natCast, hu]
section
variable {P : Program} {w : World} {K : PySem.W.Frag} {mg : Str → Option Value} {base : Heap} {c : Cl} {f : Addr} {fd : FuncData}
abbrev nSt : List Str := ["_law_ways_here", "_law_labels", "_law_count", "_law_which", "_law_cells", "_law_kind", "_law_start", "_law_size", "_law_ahead", "_law_behind", "_law_more", "_law_less", "_law_many", "_law_head", "_law_last", "_law_tail", "_law_path", "_law_k"]
theorem scLSt : FnScope nSt ["_law_ways_here", "_law_labels", "_law_count", "_law_which", "_law_cells"] (defScope sLSt) := ⟨rfl, rfl, rfl, by decide +kernel, rfl, by decide +kernel, by decide +kernel⟩
theorem ok_lst (F : FnP K "_law_strand" "_law_strand" sLSt f fd) (T : Txt K mg c) (S1 : Fn P w K mg base "_law_factor" 1 ["_law_cell", "_law_equal"] [] spLFa) (S2 : Fn P w K mg base "_law_ring" 2 ["_law_ways_here", "_law_around", "_law_begin", "_law_size", "_law_name", "_law_gain_here", "_law_kind"] [] spLRg) :
    FnOk P w K mg base CX0 3 f fd ["_law_ways_here", "_law_labels", "_law_count", "_law_which", "_law_cells"] spLSt := by
  refine F.ok scLSt (fun vs H Q E h => ?_) (fun cdv A outer s H vs Q E hr h => ?_)
  · obtain ⟨G, d, y, z, wh, cs, ps, ls, l, rfl, _⟩ := h
    rfl
  · obtain ⟨G, d, y, z, wh, cs, ps, ls, l, rfl, s, o, la, hy, hz, cl, wl, ndl, ll, ndp, c2, c4, k⟩ := h
    refine ⟨_, PSs.nox (pss_cons (ps_set (i := 5) scLSt.nd rfl (Or.inl rfl) (pe_op op_mod (pe_ix ix_list (pv 4) pe_int (fun _ _ => rfl)) pe_int))
      (pss_cons (ps_set (i := 6) scLSt.nd rfl (Or.inr rfl) (pe_op op_mod (pe_op op_fdiv (pe_ix ix_list (pv 4) pe_int (fun _ _ => rfl)) pe_int) (pv 2)))
      (pss_cons (ps_set (i := 7) scLSt.nd rfl (Or.inl rfl) pe_int)
      (C8.pss_cut (ps_if (pt_cmpR op_eq (pe_op op_mod (pv 5) pe_int) pe_int (nomark _)) (pss_one (ps_set (i := 7) scLSt.nd rfl (Or.inl rfl) (pe_op op_add pe_int (pe_op op_mod (pe_op op_fdiv (pe_ix ix_list (pv 4) pe_int (fun _ _ => rfl)) pe_int) (pe_op op_sub (pv 2) pe_int))))) pss_nil)
      (pss_cons (ps_set (i := 8) scLSt.nd rfl (Or.inr rfl) (pe_slice sl_list (pv 1) po_none (po_some (pv 2))))
      (pss_cons (ps_k (ps_setLc (i := 9) (own := [("_law_k", 17)]) (g := gName 17) (tt := tYes) (te := tOp (rIxL K) (tVar 1) (tOp (rI0 fun i j => V.int (i + j)) (tVar 2) (tOp (rI (fun _ j => 0 < j) fun i j => V.int (i % j)) (tOp (rI0 fun i j => V.int (i - j)) (tC (.int 0)) (tVar 17)) (tVar 2)))) rfl scLSt.nd rfl rfl (sw_true rfl rfl rfl (by decide +kernel)) (pi_range1 (by rfl) T.range (pa_cons (pv 2) pa_nil)) (blkOk_by (N := nSt) (sc := defScope sLSt) (by decide +kernel))
          (fun _ _ _ _ _ => pg_name (i := 17) scLSt.nd rfl (Or.inl rfl)) (fun _ _ _ _ _ => pts_nil) (fun _ _ _ _ _ => pe_ix ix_list (pv 1) (pe_op op_add (pv 2) (pe_op op_mod (pe_op op_sub pe_int (pv 17)) (pv 2))) (fun _ _ => rfl))))
      (pss_cons (ps_set (i := 10) scLSt.nd rfl (Or.inl rfl) (pe_fn S1 (hr.mono (by decide)) (by rfl) (pa_cons (pe_ix ix_list (pv 4) pe_int (fun _ _ => rfl)) (pa_cons (pe_cmpR op_eq (pv 5) pe_int (nomark _)) pa_nil))))
      (pss_cons (ps_set (i := 11) scLSt.nd rfl (Or.inl rfl) (pe_fn S1 (hr.mono (by decide)) (by rfl) (pa_cons (pe_ix ix_list (pv 4) pe_int (fun _ _ => rfl)) (pa_cons pe_bl pa_nil))))
      (pss_cons (ps_set (i := 11) scLSt.nd rfl (Or.inl rfl) (pe_tup (pa_cons (pe_ix ix_tup (pv 11) pe_int (fun _ _ => rfl)) (pa_cons (pe_ix ix_tup (pv 11) pe_int (fun _ _ => rfl)) pa_nil))))
      (pss_cons (ps_set (i := 12) scLSt.nd rfl (Or.inl rfl) (pe_op op_add pe_int (pe_op op_mod (pe_op op_fdiv (pe_ix ix_list (pv 4) pe_int (fun _ _ => rfl)) pe_int) (pe_op op_sub (pv 2) pe_int))))
      (pss_cons (ps_set (i := 13) scLSt.nd rfl (Or.inl rfl) (pe_fn S2 hr (by rfl) (pa_cons (pv 0) (pa_cons (pv 8) (pa_cons (pv 6) (pa_cons (pv 12) (pa_cons (pe_ix ix_list (pv 1) (pe_op op_add (pe_op op_mul pe_int (pv 2)) (pe_op op_mul pe_int (pv 3))) (fun _ _ => rfl)) (pa_cons (pv 10) (pa_cons (pe_op op_mod (pe_ix ix_list (pv 4) pe_int (fun _ _ => rfl)) pe_int) pa_nil)))))))))
      (pss_cons (ps_set (i := 12) scLSt.nd rfl (Or.inl rfl) (pe_op op_add pe_int (pe_op op_mod (pe_op op_fdiv (pe_ix ix_list (pv 4) pe_int (fun _ _ => rfl)) pe_int) (pe_op op_sub (pv 2) pe_int))))
      (pss_cons (ps_set (i := 14) scLSt.nd rfl (Or.inl rfl) (pe_ix ix_list (pv 1) (pe_op op_add (pe_op op_add (pe_op op_mul pe_int (pv 2)) (pe_op op_mul pe_int (pv 3))) pe_int) (fun _ _ => rfl)))
      (pss_cons (ps_set (i := 15) scLSt.nd rfl (Or.inl rfl) (pe_fn S2 hr (by rfl) (pa_cons (pv 0) (pa_cons (pv 9) (pa_cons (pe_op op_sub (pe_op op_sub pe_int (pv 6)) (pv 7)) (pa_cons (pv 12) (pa_cons (pv 14) (pa_cons (pv 11) (pa_cons (pe_op op_mod (pe_ix ix_list (pv 4) pe_int (fun _ _ => rfl)) pe_int) pa_nil)))))))))
      (pss_cons (ps_k (ps_setLc (i := 16) (own := [("_law_k", 17)]) (g := gName 17) (tt := tYes) (te := tOp (rIxL K) (tVar 8) (tOp (rI (fun _ j => 0 < j) fun i j => V.int (i % j)) (tOp (rI0 fun i j => V.int (i + j)) (tVar 6) (tVar 17)) (tVar 2))) rfl scLSt.nd rfl rfl (sw_true rfl rfl rfl (by decide +kernel)) (pi_range1 (by rfl) T.range (pa_cons (pv 7) pa_nil)) (blkOk_by (N := nSt) (sc := defScope sLSt) (by decide +kernel))
          (fun _ _ _ _ _ => pg_name (i := 17) scLSt.nd rfl (Or.inl rfl)) (fun _ _ _ _ _ => pts_nil) (fun _ _ _ _ _ => pe_ix ix_list (pv 8) (pe_op op_mod (pe_op op_add (pv 6) (pv 17)) (pv 2)) (fun _ _ => rfl))))
      (C8.pss_cut (ps_if (pt_cmpR op_notIn_seq (pv 5) (pe_lst (pa_cons pe_int (pa_cons pe_int (pa_cons pe_int (pa_cons pe_int (pa_cons pe_int pa_nil)))))) (by rfl)) (pss_one (ps_set (i := 13) scLSt.nd rfl (Or.inl rfl) (pe_lst pa_nil))) pss_nil)
      (C8.pss_cut (ps_if (pt_cmpR op_lt (pv 5) pe_int (nomark _)) (pss_one (ps_set (i := 15) scLSt.nd rfl (Or.inl rfl) (pe_lst pa_nil))) pss_nil)
      (pss_one (ps_ret (pe_tup (pa_cons (pv 13) (pa_cons (pv 16) (pa_cons (pv 15) (pa_cons (pe_tup (pa_cons (pe_op op_add pe_int (pe_op op_mod (pe_ix ix_list (pv 4) pe_int (fun _ _ => rfl)) pe_int)) (pa_cons (pe_op op_add pe_int (pe_op op_mod (pe_op op_fdiv (pe_ix ix_list (pv 4) pe_int (fun _ _ => rfl)) pe_int) pe_int)) pa_nil))) pa_nil)))))))))))))))))))))))), ?_⟩
    have pp : (0 : Int) < (ps.length : Int) := by omega
    have pp1 : (0 : Int) < (ps.length : Int) - 1 := by omega
    have hd0 : H d ≠ none := some_ne o.choose_spec.2.1
    have cel : ∀ {G' H'}, Same G G' → Same G' H' → ∀ j, (hj : j < 4) → ∃ a xs, z = .ref a ∧ SqL K H' a xs ∧ atI xs ((j : Nat) : Int) = some (.int (cs[j]'(by omega))) := fun s1 s2 j hj => ints_at (hz.up IntAt.mono (same_sm s1)) s2 (by omega)
    have lab : ∀ {G' H'}, Same G G' → Same G' H' → ∀ j, j < ls.length → ∃ a xs, y = .ref a ∧ SqL K H' a xs ∧ atI xs ((j : Nat) : Int) = some (.str (at' ls j)) := fun s1 s2 j hj => ix_at (hy.up StrAt.mono (same_sm s1)) s2 hj
    obtain ⟨az, xz, rfl, sz, gz0⟩ := cel (Same.refl G) s 0 (by decide)
    have mod_lt : ∀ i : Int, 0 ≤ i % ((ps.length : Int) - 1) ∧ i % ((ps.length : Int) - 1) < (ps.length : Int) - 1 := fun i => ⟨Int.emod_nonneg _ (by omega), Int.emod_lt_of_pos _ pp1⟩
    refine ⟨_, rfl, az, xz, 0, _, rfl, rfl, sz, gz0, _, _, rfl, rfl, (by show (0 : Int) < 8; decide), ?_⟩
    refine ⟨_, rfl, az, xz, 0, _, rfl, rfl, sz, gz0, _, _, rfl, rfl, cd _ _ (by decide) (by decide), _, rfl, _, _, rfl, rfl, pp, ?_⟩
    generalize ekd : cs[0] % 8 = kd
    generalize est : cs[0] / 8 % (ps.length : Int) = st
    refine ⟨fun σ' H' => ∃ m : Nat, m < ps.length ∧ σ' = [some (.ref d), some y, some (.int (ps.length : Int)), some (.int (wh : Nat)), some (.ref az), some (.int kd), some (.int st), some (.int (m : Nat)), none, none, none, none, none, none, none, none, none, none] ∧ H' = H, ?_, fun σ' H' ⟨m, hm, e1, e2⟩ => ?_⟩
    · refine ⟨_, rfl, _, _, rfl, rfl, (by show (0 : Int) < 2; decide), rfl, _, rfl, ite2 (fun _ => ?_) (fun _ => ?_)⟩
      · refine ⟨_, rfl, az, xz, 0, _, rfl, rfl, sz, gz0, _, _, rfl, rfl, cd _ _ (by decide) (by decide), _, rfl, _, _, rfl, rfl, _, _, rfl, rfl, pp1, _, _, rfl, rfl, ?_⟩
        obtain ⟨q1, q2⟩ := mod_lt (cs[0] / 40)
        obtain ⟨m, em⟩ : ∃ m : Nat, 1 + cs[0] / 40 % ((ps.length : Int) - 1) = (m : Int) := ⟨(1 + cs[0] / 40 % ((ps.length : Int) - 1)).toNat, by omega⟩
        refine ⟨m, by omega, ?_, rfl⟩
        subst ekd est
        rw [← em]; rfl
      · refine ⟨0, by omega, ?_, rfl⟩
        subst ekd est; rfl
    subst e1 e2
    -- ahead
    obtain ⟨ay, xy, rfl, sy, _⟩ := lab (Same.refl G) s 0 (by omega)
    obtain ⟨ay', vsy, eay, hvy, hpy⟩ := id hy
    cases eay
    have hsy := strs_eq hpy
    subst hsy
    refine ⟨_, rfl, _, rfl, _, rfl, ay, _, rfl, SqL.of (s _ _ hvy), fun pa npa => ?_⟩
    have cA : cutV (ls.map V.str) none (some (ps.length : Int)) = (ls.take ps.length).map V.str := by rw [cut_take (by rw [List.length_map]; omega), List.map_take]
    rw [cA]
    have i1 := Ext.imm (p := pa) (o := .lst ((ls.take ps.length).map V.str)) s npa
    have hA : LstAt StrAt (upd G pa (.lst ((ls.take ps.length).map V.str))) (.ref pa) (ls.take ps.length) := ⟨pa, _, rfl, upd_same, flat_pair _⟩
    -- behind
    refine ⟨_, rfl, _, rfl, by omega, by omega, ?_⟩
    rw [Int.toNat_natCast]
    refine lc_rng (S := StrAt) (lo := 0) (n := ps.length) StrAt.mono (Same.refl _) s i1 (by omega) (fun j => (List.range j).map fun k => at' ls (ps.length + (ps.length - k) % ps.length)) rfl (fun j G2 H2 hj sl e Yes No hY _ => ?_) (fun v9 G2 H2 sl e h9 => ?_)
    · have lt : (ps.length - j) % ps.length < ps.length := Nat.mod_lt _ (by omega)
      obtain ⟨a1, x1, e1, q1, r1⟩ := lab e.g e.gh (ps.length + (ps.length - j) % ps.length) (by omega)
      refine ⟨rfl, lc_yes ⟨_, rfl, _, rfl, _, rfl, _, _, rfl, rfl, _, rfl, _, _, rfl, rfl, pp, _, _, rfl, rfl, a1, x1, _, .str (at' ls (ps.length + (ps.length - j) % ps.length)), e1, rfl, q1, ?_, ?_⟩⟩
      · show atI x1 ((ps.length : Int) + (0 - (0 + (j : Int))) % (ps.length : Int)) = _
        have : (ps.length : Int) + (0 - (0 + (j : Int))) % (ps.length : Int) = ((ps.length + (ps.length - j) % ps.length : Nat) : Int) := by
          have e2 : (0 - (0 + (j : Int))) % (ps.length : Int) = ((ps.length - j : Nat) : Int) % (ps.length : Int) := by
            rw [← Int.add_emod_right (0 - (0 + (j : Int)))]
            congr 1; omega
          rw [e2]; rfl
        rw [this]; exact r1
      · refine hY _ _ _ _ (Ext.refl e.gh) rfl ?_
        show (List.range (j + 1)).map _ = (List.range j).map _ ++ _
        rw [List.range_succ, List.map_append]; rfl
    have h9 : LstAt StrAt G2 v9 (back ps ls) := h9
    have o2 := o.ext WrAt.mono e
    have cel2 : ∀ {G' H'}, Same G G' → Same G' H' → ∀ j, (hj : j < 4) → ∃ xs, SqL K H' az xs ∧ atI xs ((j : Nat) : Int) = some (.int (cs[j]'(by omega))) := fun s1 s2 j hj => by
      obtain ⟨a, xs, e, q⟩ := cel s1 s2 j hj
      cases e
      exact ⟨xs, q⟩
    have lab2 : ∀ {G' H'}, Same G G' → Same G' H' → ∀ j, j < ls.length → ∃ xs, SqL K H' ay xs ∧ atI xs ((j : Nat) : Int) = some (.str (at' ls j)) := fun s1 s2 j hj => by
      obtain ⟨a, xs, e, q⟩ := lab s1 s2 j hj
      cases e
      exact ⟨xs, q⟩
    obtain ⟨xz1, sz1, gz1⟩ := cel2 e.g e.gh 1 (by decide)
    -- more
    refine ⟨_, rfl, az, xz1, 1, _, rfl, rfl, sz1, gz1, _, rfl, rfl, G2, _, _, rfl, e.gh, fun v10 G3 H3 e3 ⟨gm, hgm, gm1, gm2, gm3, gm4, gm5⟩ => ?_⟩
    have e23 := e.trans e3
    obtain ⟨xz2, sz2, gz2⟩ := cel2 e23.g e23.gh 2 (by decide)
    refine ⟨_, rfl, az, xz2, 2, _, rfl, rfl, sz2, gz2, G3, _, _, rfl, e3.gh, fun v11 G4 H4 e4 ⟨gt, hgt, gt1, gt2, gt3, gt4, gt5⟩ => ?_⟩
    obtain ⟨tl, rfl, htl⟩ := hgt.obj
    have Tl : SqT K H4 tl [.int gt.1, .int gt.2] := SqT.of (e4.gh _ _ htl)
    refine ⟨_, rfl, tl, _, 1, _, rfl, rfl, Tl, rfl, _, rfl, tl, _, 0, _, rfl, rfl, Tl, rfl, by show 2 ≤ sizeLine; decide, fun tq ntq => ?_⟩
    have i5 := Ext.imm (p := tq) (o := .tup [.int gt.2, .int gt.1]) e4.gh ntq
    have e35 := e3.trans (e4.trans i5)
    have e5 := e.trans e35
    have hgl : PI (upd G4 tq (.tup [.int gt.2, .int gt.1])) (.ref tq) (gt.2, gt.1) := PI.mk
    obtain ⟨xz1, sz1, gz1⟩ := cel2 e5.g e5.gh 1 (by decide)
    refine ⟨_, rfl, az, xz1, 1, _, rfl, rfl, sz1, gz1, _, _, rfl, rfl, cd _ _ (by decide) (by decide), _, rfl, _, _, rfl, rfl, _, _, rfl, rfl, pp1, _, _, rfl, rfl, ?_⟩
    obtain ⟨mq1, mq2⟩ := mod_lt (cs[1] / 225)
    obtain ⟨mn, emn⟩ : ∃ mn : Nat, 2 + cs[1] / 225 % ((ps.length : Int) - 1) = (mn : Int) := ⟨(2 + cs[1] / 225 % ((ps.length : Int) - 1)).toNat, by omega⟩
    -- the head's ring
    have gmp : 1 ≤ gm.1 := by
      by_cases b : decide (V.int kd = V.int 0) = true
      · have := gm4 b; omega
      · have := gm5 (by simpa using b); omega
    have o5 := o2.ext WrAt.mono e35
    have m1 : 2 * ps.length + 2 * wh < ls.length := by omega
    obtain ⟨xl1, sl1, gl1⟩ := lab2 e5.g e5.gh (2 * ps.length + 2 * wh) m1
    have rn1 := rnd_ahead la (by omega) ndp c2 c4 (by omega)
    have lt5 : (ls.take ps.length).length = ps.length := by rw [List.length_take]; omega
    have nk1 : at' ls (2 * ps.length + 2 * wh) ∉ keys l := by rw [la.ks]; exact not_mem_take ndl (at_get m1)
    have lb1 : (2 : Int) * (ps.length : Int) + 2 * (wh : Int) = ((2 * ps.length + 2 * wh : Nat) : Int) := by omega
    refine ⟨_, rfl, _, rfl, _, rfl, _, rfl, _, rfl, _, rfl, _, _, rfl, rfl, small_mul (by omega) (by omega), _, rfl, _, _, rfl, rfl, small_mul (by omega) (by omega), _, _, rfl, rfl, ay, xl1, _, .str (at' ls (2 * ps.length + 2 * wh)), rfl, rfl, sl1, ?_, ?_⟩
    · show atI xl1 ((2 : Int) * (ps.length : Int) + 2 * (wh : Int)) = _
      rw [lb1]; exact gl1
    refine ⟨_, rfl, _, rfl, az, xz1, 1, _, rfl, rfl, sz1, gz1, _, _, rfl, rfl, (by show (0 : Int) < 3; decide), ?_⟩
    refine ⟨_, d, .ref pa, v10, st, cs[1] % 3, _, mn, at' ls (2 * ps.length + 2 * wh), gm, ps, ls.take ps.length, l, _, rfl, emn, e5.gh, o5, la.ok, by have := la.len; omega, nk1, hA.up StrAt.mono (same_sm (sl.trans e35.g)), rn1, by omega, by rw [lt5]; omega, PI.mono (same_sm (e4.trans i5).g) hgm, gmp, gm3, gm1, by omega, fun v13 G6 H6 r1 ks1 x6 o6 ro1 hl1 rg1 => ?_⟩
    have la6 : Laid ps ls (2 * ps.length + 2 * wh + 1) (l ++ [(at' ls (2 * ps.length + 2 * wh), r1)]) := (la.close ndl m1 (by omega) (by omega) ro1).2
    have X6 := e5.x.comp (fun z => same_nn e5.h z) x6
    have hy6 := fun j hj => lab2 X6.g X6.gh j hj
    obtain ⟨xz3, sz3, gz3⟩ := cel2 X6.g X6.gh 2 (by decide)
    refine ⟨_, rfl, az, xz3, 2, _, rfl, rfl, sz3, gz3, _, _, rfl, rfl, cd _ _ (by decide) (by decide), _, rfl, _, _, rfl, rfl, _, _, rfl, rfl, pp1, _, _, rfl, rfl, ?_⟩
    obtain ⟨mr1, mr2⟩ := mod_lt (cs[2] / 225)
    obtain ⟨mt, emt⟩ : ∃ mt : Nat, 2 + cs[2] / 225 % ((ps.length : Int) - 1) = (mt : Int) := ⟨(2 + cs[2] / 225 % ((ps.length : Int) - 1)).toNat, by omega⟩
    have m2 : 2 * ps.length + 2 * wh + 1 < ls.length := by omega
    obtain ⟨xl2, sl2, gl2⟩ := hy6 (2 * ps.length + 2 * wh + 1) m2
    refine ⟨_, rfl, _, rfl, _, _, rfl, rfl, small_mul (by omega) (by omega), _, rfl, _, _, rfl, rfl, small_mul (by omega) (by omega), _, _, rfl, rfl, _, _, rfl, rfl, ay, xl2, _, .str (at' ls (2 * ps.length + 2 * wh + 1)), rfl, rfl, sl2, ?_, ?_⟩
    · show atI xl2 ((2 : Int) * (ps.length : Int) + 2 * (wh : Int) + 1) = _
      have : (2 : Int) * (ps.length : Int) + 2 * (wh : Int) + 1 = ((2 * ps.length + 2 * wh + 1 : Nat) : Int) := by omega
      rw [this]; exact gl2
    have nk2 : at' ls (2 * ps.length + 2 * wh + 1) ∉ keys (l ++ [(at' ls (2 * ps.length + 2 * wh), r1)]) := by rw [la6.ks]; exact not_mem_take ndl (at_get m2)
    have rn2 := (rnd_back la (by omega) ndp c2 c4).more [(at' ls (2 * ps.length + 2 * wh), r1)]
    have bl : (back ps ls).length = ps.length := by unfold back; simp
    refine ⟨_, rfl, _, rfl, _, rfl, _, _, rfl, rfl, _, rfl, _, _, rfl, rfl, _, rfl, _, rfl, _, rfl, _, rfl, az, xz3, 2, _, rfl, rfl, sz3, gz3, _, _, rfl, rfl, (by show (0 : Int) < 3; decide), ?_⟩
    refine ⟨_, d, v9, .ref tq, _, cs[2] % 3, _, mt, at' ls (2 * ps.length + 2 * wh + 1), (gt.2, gt.1), ps, back ps ls, _, _, rfl, emt, X6.gh, o6, la6.ok, by have := la6.len; omega, nk2, h9.up StrAt.mono (same_sm (e35.g.trans x6.g)), rn2, by omega, by rw [bl]; omega, PI.mono (same_sm x6.g) hgl, gt1, by show gt.2 ≤ 8; omega, by show 1 ≤ gt.1; have := gt5 rfl; omega, gt3, fun v15 G7 H7 r2 ks2 x7 o7 ro2 hl2 rg2 => ?_⟩
    have la7 : Laid ps ls (2 * ps.length + 2 * wh + 2) (l ++ [(at' ls (2 * ps.length + 2 * wh), r1)] ++ [(at' ls (2 * ps.length + 2 * wh + 1), r2)]) := (la6.close ndl m2 (by omega) (by omega) ro2).2
    have X7 := X6.comp (fun _ => some_ne o6.choose_spec.2.1) x7
    have hA7 := hA.up StrAt.mono (same_sm ((sl.trans e35.g).trans (x6.g.trans x7.g)))
    have r7 := Ext.refl X7.gh
    refine ⟨_, rfl, _, rfl, by omega, by omega, ?_⟩
    rw [Int.toNat_natCast]
    refine lc_rng (S := StrAt) (lo := 0) (n := m) StrAt.mono (Same.refl _) X7.gh r7 (by omega) (fun j => run (ls.take ps.length) st j) rfl (fun j G8 H8 hj sl8 e8 Yes No hY _ => ?_) (fun v16 G8 H8 sl8 e8 h16 => ?_)
    · obtain ⟨a1, x1, e1, q1, r1⟩ := ix_at (K := K) (hA7.up StrAt.mono (same_sm e8.g)) e8.gh (j := stp ps.length st j) (by rw [lt5]; exact stp_lt c2 _ _)
      refine ⟨rfl, lc_yes ⟨_, rfl, _, rfl, _, rfl, _, _, rfl, rfl, _, rfl, _, _, rfl, rfl, pp, a1, x1, _, .str (at' (ls.take ps.length) (stp ps.length st j)), e1, rfl, q1, ?_, ?_⟩⟩
      · show atI x1 ((st + (0 + (j : Int))) % (ps.length : Int)) = _
        rw [Int.zero_add, ← stp_eq c2]; exact r1
      · refine hY _ _ _ _ (Ext.refl e8.gh) rfl ?_
        show run (ls.take ps.length) st (j + 1) = _
        rw [run_succ, lt5]
    have hh8 := (hl1.up StrAt.mono (same_sm (x7.g.trans e8.g)))
    have ht8 := hl2.up StrAt.mono (same_sm e8.g)
    have X8 := X7.comp (fun _ => some_ne o7.choose_spec.2.1) e8.x
    have r8 := Ext.refl e8.gh
    refine ⟨fun σ' H' => ∃ G' v13' hd, σ' = [some (.ref d), some (.ref ay), some (.int (ps.length : Int)), some (.int (wh : Nat)), some (.ref az), some (.int kd), some (.int st), some (.int (m : Nat)), some (.ref pa), some v9, some v10, some (.ref tq), some (.int (2 + cs[2] / 225 % ((ps.length : Int) - 1))), some v13', some (.str (at' ls (2 * ps.length + 2 * wh + 1))), some v15, some v16, none] ∧ Ext G8 H8 G' H' ∧ LstAt StrAt G' v13' hd ∧ (hd = [] ∨ hd = ks1), ?_, fun σ' H' ⟨G9, v13', hd, e1, e9, hh9, hh⟩ => ?_⟩
    · refine ⟨_, rfl, by show 5 ≤ sizeLine; decide, fun p np => ?_⟩
      have i9 := Ext.imm (p := p) (o := .lst [.int 0, .int 2, .int 3, .int 6, .int 7]) e8.gh np
      refine ⟨p, _, rfl, .inl (SqL.of upd_same), rfl, rfl, _, rfl, ite2 (fun _ => ?_) (fun _ => ?_)⟩
      · refine ⟨Nat.zero_le _, fun q nq => ?_⟩
        have i10 := i9.trans (Ext.imm (p := q) (o := .lst []) i9.gh nq)
        exact ⟨_, .ref q, [], rfl, i10, ⟨q, [], rfl, upd_same, .nil⟩, .inl rfl⟩
      · exact ⟨_, v13, ks1, rfl, i9, hh8.up StrAt.mono (same_sm i9.g), .inr rfl⟩
    subst e1
    refine ⟨fun σ' H' => ∃ G' v15' td, σ' = [some (.ref d), some (.ref ay), some (.int (ps.length : Int)), some (.int (wh : Nat)), some (.ref az), some (.int kd), some (.int st), some (.int (m : Nat)), some (.ref pa), some v9, some v10, some (.ref tq), some (.int (2 + cs[2] / 225 % ((ps.length : Int) - 1))), some v13', some (.str (at' ls (2 * ps.length + 2 * wh + 1))), some v15', some v16, none] ∧ Ext G8 H8 G' H' ∧ LstAt StrAt G' v13' hd ∧ LstAt StrAt G' v15' td ∧ (td = [] ∨ td = ks2), ?_, fun σ' H' ⟨G10, v15', td, e1, e10, hh10, ht10, tt⟩ => ?_⟩
    · refine ⟨_, rfl, _, _, rfl, rfl, _, rfl, ite2 (fun _ => ?_) (fun _ => ?_)⟩
      · refine ⟨Nat.zero_le _, fun q nq => ?_⟩
        have i10 := Ext.imm (p := q) (o := .lst []) e9.gh nq
        exact ⟨_, .ref q, [], rfl, e9.trans i10, hh9.up StrAt.mono (same_sm i10.g), ⟨q, [], rfl, upd_same, .nil⟩, .inl rfl⟩
      · exact ⟨_, v15, ks2, rfl, e9, hh9, ht8.up StrAt.mono (same_sm e9.g), .inr rfl⟩
    subst e1
    have X10 := X8.comp (fun z => same_nn e8.h (some_ne o7.choose_spec.2.1)) e10.x
    obtain ⟨xz4, sz4, gz4⟩ := cel2 X10.g X10.gh 3 (by decide)
    refine ⟨_, rfl, _, rfl, _, rfl, _, rfl, az, xz4, 3, _, rfl, rfl, sz4, gz4, _, _, rfl, rfl, (by show (0 : Int) < 12; decide), _, _, rfl, rfl, _, rfl, az, xz4, 3, _, rfl, rfl, sz4, gz4, _, _, rfl, rfl, cd _ _ (by decide) (by decide), _, _, rfl, rfl, (by show (0 : Int) < 6; decide), _, _, rfl, rfl, by show 2 ≤ sizeLine; decide, fun p np => ⟨by show 4 ≤ sizeLine; decide, fun t nt => ?_⟩⟩
    have i11 := Ext.imm (p := p) (o := .tup [.int (1 + cs[3] % 12), .int (1 + cs[3] / 12 % 6)]) e10.gh np
    have i12 := i11.trans (Ext.imm (p := t) (o := .tup [v13', v16, v15', .ref p]) i11.gh nt)
    have X12 := X10.comp (fun z => same_nn (e8.trans e10).h (some_ne o7.choose_spec.2.1)) i12.x
    have o12 := o7.ext WrAt.mono ((e8.trans e10).trans i12)
    rw [List.append_assoc] at o12 la7
    refine k _ _ _ _ ⟨hd, run (ls.take ps.length) st m, td, (1 + cs[3] % 12, 1 + cs[3] / 12 % 6)⟩ X12 o12 la7 ⟨t, v13', v16, v15', .ref p, rfl, upd_same, hh10.up StrAt.mono (same_sm i12.g), h16.up StrAt.mono (same_sm (e10.trans i12).g), ht10.up StrAt.mono (same_sm i12.g), PI.mono (same_sm (Ext.imm (p := t) (o := .tup [v13', v16, v15', .ref p]) i11.gh nt).g) PI.mk⟩ ?_
    have kl : ∀ k, k ∈ keys l → k ∈ keys (l ++ ([(at' ls (2 * ps.length + 2 * wh), r1)] ++ [(at' ls (2 * ps.length + 2 * wh + 1), r2)])) := fun k hk => by rw [keys_snoc]; exact List.mem_append_left _ hk
    have k1 : ∀ k ∈ ks1, k ∈ keys (l ++ [(at' ls (2 * ps.length + 2 * wh), r1)]) := fun k hk => by
      rw [keys_snoc]
      rcases rg1.sub k hk with h | h
      · exact List.mem_append_left _ h
      · exact List.mem_append_right _ (by rw [h]; exact List.mem_cons_self)
    have k2 : ∀ k ∈ ks2, k ∈ keys (l ++ [(at' ls (2 * ps.length + 2 * wh), r1)] ++ [(at' ls (2 * ps.length + 2 * wh + 1), r2)]) := fun k hk => by
      rw [keys_snoc]
      rcases rg2.sub k hk with h | h
      · exact List.mem_append_left _ h
      · exact List.mem_append_right _ (by rw [h]; exact List.mem_cons_self)
    have b12 : ∀ i : Int, 1 ≤ 1 + i % 12 ∧ 1 + i % 12 ≤ 12 := fun i => by omega
    have b6 : ∀ i : Int, 1 ≤ 1 + i % 6 ∧ 1 + i % 6 ≤ 6 := fun i => by omega
    refine ⟨fun q hq => ?_, fun q hq => ?_, fun q hq => ?_, ?_, ?_, ?_, ?_, ?_, (b12 _).1, (b12 _).2, (b6 _).1, (b6 _).2⟩
    · have hq : q ∈ hd := hq
      rcases hh with e | e
      · rw [e] at hq; cases hq
      · rw [e] at hq
        rw [← List.append_assoc, keys_snoc]
        exact List.mem_append_left _ (k1 q hq)
    · have hq : q ∈ run (ls.take ps.length) st m := hq
      obtain ⟨t', ht', e⟩ := List.mem_map.mp hq
      obtain ⟨r, er, _⟩ := rn1.way (stp (ls.take ps.length).length st t') (stp_lt (by rw [lt5]; exact c2) _ _)
      rw [← e]
      exact kl _ (List.mem_map.mpr ⟨_, lk_mem er, rfl⟩)
    · have hq : q ∈ td := hq
      rcases tt with e | e
      · rw [e] at hq; cases hq
      · rw [e] at hq
        rw [← List.append_assoc]; exact k2 q hq
    · rcases hh with e | e
      · show hd.length ≤ 4; rw [e]; exact Nat.zero_le _
      · show hd.length ≤ 4; rw [e]; exact rg1.len
    · show (run (ls.take ps.length) st m).length ≤ 4
      rw [run_len]; omega
    · rcases tt with e | e
      · show td.length ≤ 4; rw [e]; exact Nat.zero_le _
      · show td.length ≤ 4; rw [e]; exact rg2.len
    · show hd = [] ∨ (prodI _ hd).2 ≤ (prodI _ hd).1
      rcases hh with e | e
      · exact .inl e
      · right
        rw [e, ← List.append_assoc, ← prodI_congr (l := l ++ [(at' ls (2 * ps.length + 2 * wh), r1)]) fun k hk => lk_app_old (k1 k hk)]
        by_cases b : gm.1 = gm.2
        · exact Int.le_of_eq (rg1.eq b).symm
        · refine Int.le_of_lt (rg1.gt ?_)
          by_cases b2 : decide (V.int kd = V.int 0) = true
          · exact absurd (gm4 b2) b
          · exact gm5 (by simpa using b2)
    · show td = [] ∨ (prodI _ td).1 < (prodI _ td).2
      rcases tt with e | e
      · exact .inl e
      · right
        rw [e, ← List.append_assoc]
        exact rg2.lt (gt5 rfl)
end
end GH
end
section
set_option maxRecDepth 100000
set_option maxHeartbeats 4000000
/-! _law_strands, _law_as_plan. -/
namespace GH
open PySem PySem.Spec PyProof.Rows L2 GM
/-- without the thing at d -/
def ers (H : Hp) (d : Addr) : Hp := fun b => if b = d then none else H b
theorem ers_d (H : Hp) (d : Addr) : ers H d d = none := if_pos rfl
theorem ers_ne {H : Hp} {d b : Addr} (h : b ≠ d) : ers H d b = H b := if_neg h
theorem same_ers {G H : Hp} {d : Addr} (s : Same G H) (g : G d = none) : Same G (ers H d) := fun b o e => by
  rw [ers_ne (ne_of_none e g)]; exact s b o e
theorem ExtX.toE {d : Addr} {G H G' H' : Hp} (x : ExtX d G H G' H') : Ext G (ers H d) G' H' := by
  refine ⟨x.g, fun b o e => ?_, x.gh, fun b z n => ?_⟩
  · by_cases h : b = d
    · rw [h, ers_d] at e; cases e
    · rw [ers_ne h] at e; exact x.h b o h e
  · by_cases h : b = d
    · rw [h, ers_d] at n; exact absurd rfl n
    · rw [ers_ne h] at n; exact x.new b z n
theorem ExtX.ofE {d : Addr} {G H G' H' : Hp} (e : Ext G (ers H d) G' H') (g : G' d = none) : ExtX d G H G' H' := by
  refine ⟨e.g, fun b o h z => e.h b o (by rw [ers_ne h]; exact z), e.gh, fun b z n => ?_⟩
  by_cases h : b = d
  · rw [h]; exact g
  · exact e.new b z (by rw [ers_ne h]; exact n)
theorem OwnL.extX {β : Type} {R : Rl β} {G H G' H' : Hp} {a d : Addr} {l : List β} (o : OwnL R G H a l) (m : Mono R) (x : ExtX d G H G' H') (ne : a ≠ d) : OwnL R G' H' a l := by
  obtain ⟨vs, g, h, p⟩ := o
  obtain ⟨g', h'⟩ := x.keep ne g h
  exact ⟨vs, g', h', Paired.imp (fun _ _ q => m (same_sm x.g) q) p⟩
theorem Own.extX {β : Type} {R : Rl β} {G H G' H' : Hp} {a d : Addr} {l : List (Str × β)} (o : Own R G H a l) (m : Mono R) (x : ExtX d G H G' H') (ne : a ≠ d) : Own R G' H' a l := by
  obtain ⟨vs, g, h, p⟩ := o
  obtain ⟨g', h'⟩ := x.keep ne g h
  exact ⟨vs, g', h', Paired.imp (fun _ _ q => ⟨q.1, m (same_sm x.g) q.2⟩) p⟩
def spLSs (K : PySem.W.Frag) : Sp := fun vs H Q _ => ∃ (G : Hp) (d : Addr) (x y : V) (ns : List Int) (ps ls : List Str) (l : Wd), vs = [x, .ref d, y, .int (ps.length : Int), .int 2] ∧ Same G H ∧ Own WrAt G H d l ∧ Laid ps ls (2 * ps.length) l ∧ ScrAt K G x ns ∧ ns.length ≤ 1000 ∧ LstAt StrAt G y ls ∧
  ls.Nodup ∧ ls.length = 2 * ps.length + 4 ∧ ps.Nodup ∧ 2 ≤ ps.length ∧ ps.length ≤ 4 ∧
  ∀ v G' H' l' xs, ExtX d G H G' H' → Own WrAt G' H' d l' → WdOk ps l' → LstAt LsAt G' v xs → xs.length ≤ 2 → (∀ x ∈ xs, LsOk l' x) → Q v H'
section
variable {P : Program} {w : World} {K : PySem.W.Frag} {mg : Str → Option Value} {base : Heap} {c : Cl} {f : Addr} {fd : FuncData}
abbrev nSs : List Str := ["_law_script", "_law_ways_here", "_law_labels", "_law_count", "_law_many", "_law_strands_here", "_law_k", "_law_cells", "_law_j"]
theorem scLSs : FnScope nSs ["_law_script", "_law_ways_here", "_law_labels", "_law_count", "_law_many"] (defScope sLSs) := ⟨rfl, rfl, rfl, by decide +kernel, rfl, by decide +kernel, by decide +kernel⟩
theorem ok_lss (F : FnP K "_law_strands" "_law_strands" sLSs f fd) (T : Txt K mg c) (S1 : Fn P w K mg base "_law_cell_at" 1 ["_law_script", "_law_k"] [] (spCA K)) (S2 : Fn P w K mg base "_law_strand" 3 ["_law_ways_here", "_law_labels", "_law_count", "_law_which", "_law_cells"] [] spLSt) :
    FnOk P w K mg base CX0 4 f fd ["_law_script", "_law_ways_here", "_law_labels", "_law_count", "_law_many"] (spLSs K) := by
  refine F.ok scLSs (fun vs H Q E h => ?_) (fun cdv A outer s H vs Q E hr h => ?_)
  · obtain ⟨G, d, x, y, ns, ps, ls, l, rfl, _⟩ := h
    rfl
  · obtain ⟨G, d, x, y, ns, ps, ls, l, rfl, s, o, la, hx, nl, hy, ndl, ll, ndp, c2, c4, k⟩ := h
    refine ⟨_, PSs.nox (pss_cons (ps_set (i := 5) scLSs.nd rfl (Or.inl rfl) (pe_lst pa_nil))
      (pss_cons (ps_for PassesOwn.never rfl (pi_range1 (by rfl) T.range (pa_cons (pv 4) pa_nil)) (pg_name (i := 6) scLSs.nd rfl (Or.inr rfl))
        (pss_cons (ps_k (ps_setLc (i := 7) (own := [("_law_j", 8)]) (g := gName 8) (tt := tYes) (te := tCall (spCA K) [] E0 (tCons (tVar 0) (tCons (tOp (rI0 fun i j => V.int (i + j)) (tOp (rI0 fun i j => V.int (i + j)) (tC (.int 15)) (tOp (rI CMul fun i j => V.int (i * j)) (tC (.int 4)) (tVar 6))) (tVar 8)) tNil))) rfl scLSs.nd rfl rfl (sw_true rfl rfl rfl (by decide +kernel)) (pi_range1 (by rfl) T.range (pa_cons pe_int pa_nil)) (blkOk_by (N := nSs) (sc := defScope sLSs) (by decide +kernel))
          (fun _ _ _ _ _ => pg_name (i := 8) scLSs.nd rfl (Or.inl rfl)) (fun _ _ _ _ _ => pts_nil) (fun _ _ _ _ _ => pe_fn S1 (hr.mono (by decide)) (by rfl) (pa_cons (pv 0) (pa_cons (pe_op op_add (pe_op op_add pe_int (pe_op op_mul pe_int (pv 6))) (pv 8)) pa_nil)))))
        (pss_one (ps_expr (pe_bm PySem.F.plainAttrs_list PySem.F.slot_list_append PySem.F.type_list_append mt_append (pv 5) (pa_cons (pe_fn S2 hr (by rfl) (pa_cons (pv 1) (pa_cons (pv 2) (pa_cons (pv 3) (pa_cons (pv 6) (pa_cons (pv 7) pa_nil)))))) pa_nil))))))
      (pss_one (ps_ret (pv 5))))), ?_⟩
    have gd := o.choose_spec.1
    have hdd := o.choose_spec.2.1
    refine ⟨Nat.zero_le _, fun ds hds => ?_⟩
    have dne : ds ≠ d := fun z => by rw [z, hdd] at hds; cases hds
    have sE := same_ers s gd
    have e0 : Ext G (ers H d) G (upd H ds (.lst [])) := (Ext.tmp (o := .lst []) s hds).x.toE
    have hdsE : ers H d ds = none := by rw [ers_ne dne]; exact hds
    refine ⟨_, rfl, _, rfl, by decide, by decide, ?_⟩
    show ∃ W : Nat → Nat → L2.St → Hp → Prop, _
    refine for_rng (lo := 0) (n := 2) (Same.refl G) e0 (fun i σ G' H' => ∃ v6 v7 l' xs, σ = [some x, some (.ref d), some y, some (.int (ps.length : Int)), some (.int 2), some (.ref ds), v6, v7, none] ∧ Own WrAt G' H' d l' ∧ Laid ps ls (2 * ps.length + 2 * i) l' ∧ OwnL LsAt G' H' ds xs ∧ xs.length = i ∧ ∀ x ∈ xs, LsOk l' x)
      ⟨none, none, l, [], rfl, o.ext WrAt.mono (Ext.tmp s hds), la, OwnL.nil s hds, rfl, fun x h => nomatch h⟩ (fun i σ G2 H2 hi sl e iv => ?_) (fun σ G2 H2 sl e iv => ?_)
    · obtain ⟨v6, v7, l', xs, rfl, o2, la2, os, xl, ok⟩ := iv
      refine ⟨4, rfl, by decide, by decide, ?_⟩
      show LcK (Itr 0 4) _ _ _ _ _ _ _
      refine lc_rng (S := IntAt) (lo := 0) (n := 4) IntAt.mono (Same.refl _) e.gh (Ext.refl e.gh) (by decide) (fun j => (List.range j).map fun t => caF ns (15 + 4 * i + t)) rfl (fun j G3 H3 hj sl3 e3 Yes No hY _ => ?_) (fun v7 G3 H3 sl3 e3 h7 => ?_)
      · refine ⟨rfl, lc_yes ⟨_, rfl, _, rfl, _, _, rfl, rfl, small_mul (by omega) (by omega), _, _, rfl, rfl, _, rfl, _, _, rfl, rfl, G3, x, 15 + 4 * i + j, ns, ?_, e3.gh, hx.same (e.g.trans e3.g), by omega, nl, ?_⟩⟩
        · show [x, V.int (15 + 4 * (0 + (i : Int)) + (0 + (j : Int)))] = [x, V.int ((15 + 4 * i + j : Nat) : Int)]
          have : (15 + 4 * (0 + (i : Int)) + (0 + (j : Int))) = ((15 + 4 * i + j : Nat) : Int) := by omega
          rw [this]
        · refine hY _ _ _ _ (Ext.refl e3.gh) rfl ?_
          show (List.range (j + 1)).map _ = (List.range j).map _ ++ _
          rw [List.range_succ, List.map_append]; rfl
      · have o3 := o2.ext WrAt.mono e3
        have os3 := os.ext LsAt.mono e3
        have e13 := e.trans e3
        refine ⟨_, rfl, .inl ⟨rfl, _, SqL.of os3.choose_spec.2.1⟩, _, rfl, _, rfl, _, rfl, _, rfl, _, rfl, ?_⟩
        refine ⟨G3, d, y, v7, i, _, ps, ls, l', ?_, e3.gh, o3, la2, hy.up StrAt.mono (same_sm e13.g), h7, by simp, by omega, ndl, ll, ndp, c2, c4, fun v G4 H4 ex xx x4 o4 la4 hv4 ok4 => ?_⟩
        · show [V.ref d, y, V.int (ps.length : Int), V.int (0 + (i : Int)), v7] = _
          rw [Int.zero_add]
        · have os4 := os3.extX LsAt.mono x4 dne
          obtain ⟨vs4, gs4, hs4, ps4⟩ := os4
          have e14 := x4.up e13 (ers_d H d)
          have o5 : Own WrAt G4 (upd H4 ds (.lst (vs4 ++ [v]))) d (l' ++ ex) := by
            obtain ⟨kv, q1, q2, q3⟩ := o4
            exact ⟨kv, q1, by rw [upd_ne (Ne.symm dne)]; exact q2, q3⟩
          refine ⟨ds, vs4, v, rfl, rfl, hs4, line100 (by rw [paired_len ps4]; omega), G4, sl.trans (e3.g.trans x4.g), e14.wr hdsE gs4, _, _, l' ++ ex, xs ++ [xx], rfl, o5, la4, OwnL.snoc gs4 ps4 hv4, by rw [List.length_append, xl]; rfl, fun t ht => ?_⟩
          rcases List.mem_append.mp ht with ht | ht
          · exact (ok t ht).more ex
          · rw [List.mem_singleton.mp ht]; exact ok4
    · obtain ⟨v6, v7, l', xs, rfl, o2, la2, os, xl, ok⟩ := iv
      obtain ⟨vs, gs, hs, pvs⟩ := os
      have sg : Same G2 (upd G2 ds (.lst vs)) := same_new gs
      have e3 := e.frz sE hdsE hs
      have o3 : Own WrAt (upd G2 ds (.lst vs)) H2 d l' := by
        obtain ⟨kv, q1, q2, q3⟩ := o2
        exact ⟨kv, by rw [upd_ne (Ne.symm dne)]; exact q1, q2, Paired.imp (fun _ _ q => ⟨q.1, WrAt.mono (same_sm sg) q.2⟩) q3⟩
      exact ⟨_, rfl, k _ _ _ l' xs (ExtX.ofE e3 o3.choose_spec.1) o3 la2.ok ⟨ds, vs, rfl, upd_same, Paired.imp (fun _ _ q => LsAt.mono (same_sm sg) q) pvs⟩ (by omega) ok⟩
end
end GH
end
section
set_option maxRecDepth 100000
set_option maxHeartbeats 4000000
/-! What is due: an amount sent along a walk. -/
namespace GH
open PySem PySem.Spec PyProof.Rows L2 GM
abbrev Dd := List (Str × (Int × Int))
structure DuP (D b : Nat) (p : Int × Int) : Prop where
  n : 0 ≤ p.1
  d : 0 < p.2
  sz : PSz b p
  dv : Dv D (rv p)
structure DuOk (wl : Wd) (D b : Nat) (l : Dd) : Prop where
  nd : (keys l).Nodup
  sub : ∀ k ∈ keys l, k ∈ keys wl
  ok : ∀ t ∈ l, DuP D b t.2
def duA (l : Dd) (m : Str) : Int × Int := (lk l m).getD (0, 1)
theorem DuP.more {D D' b b' : Nat} {p : Int × Int} (h : DuP D b p) (k : D ∣ D') (hb : b ≤ b') : DuP D' b' p := ⟨h.n, h.d, h.sz.up hb, h.dv.of_dvd k⟩
theorem DuOk.more {wl : Wd} {D D' b b' : Nat} {l : Dd} (h : DuOk wl D b l) (k : D ∣ D') (hb : b ≤ b') : DuOk wl D' b' l := ⟨h.nd, h.sub, fun t ht => (h.ok t ht).more k hb⟩
theorem DuP.zero (D : Nat) {b : Nat} (hb : 1 ≤ b) : DuP D b (0, 1) := by
  refine ⟨by decide, by decide, ?_, ?_⟩
  · have : PSz 1 ((0, 1) : Int × Int) := ⟨by decide, by decide⟩
    exact this.up hb
  · have : rv (0, 1) = 0 := rv_eq (by decide) (by show (0 : Rat) * _ = ((0 : Int) : Rat); rw [Rat.zero_mul]; rfl)
    rw [this]; exact Dv.zero
theorem DuOk.amt {wl : Wd} {D b : Nat} {l : Dd} (h : DuOk wl D b l) (hb : 1 ≤ b) (m : Str) : DuP D b (duA l m) := by
  unfold duA
  cases e : lk l m with
  | none => exact DuP.zero D hb
  | some x => exact h.ok _ (lk_mem e)
theorem DuP.add {D a b : Nat} {p q : Int × Int} (h : DuP D a p) (k : DuP D b q) : DuP D (a + b + 1) (plI p q) := by
  have h1 := h.n
  have h2 := h.d
  have k1 := k.n
  have k2 := k.d
  refine ⟨?_, Int.mul_pos h2 k2, h.sz.pl k.sz, ?_⟩
  · exact Int.add_nonneg (Int.mul_nonneg h1 (Int.le_of_lt k2)) (Int.mul_nonneg k1 (Int.le_of_lt h2))
  · rw [rv_pl (by omega) (by omega)]; exact h.dv.add k.dv
theorem DuOk.put {wl : Wd} {D b : Nat} {l : Dd} (h : DuOk wl D b l) {m : Str} {p : Int × Int} (hm : m ∈ keys wl) (hp : DuP D b p) : DuOk wl D b (put l m p) := by
  refine ⟨nodup_put h.nd, fun k hk => ?_, fun t ht => ?_⟩
  · rw [keys_put] at hk
    split at hk
    · exact h.sub k hk
    · rcases List.mem_append.mp hk with hk | hk
      · exact h.sub k hk
      · rw [List.mem_singleton.mp hk]; exact hm
  · rcases mem_put ht with rfl | ⟨ht, _⟩
    · exact hp
    · exact h.ok t ht
/-- a pair of positive bottom: times its bottom it is whole -/
theorem dv_pair {p : Int × Int} (h : 0 < p.2) : Dv p.2.natAbs (rv p) := by
  refine ⟨p.1, ?_⟩
  rw [cast_abs h]; exact rv_mul (by omega)
end GH
end
section
set_option maxRecDepth 100000
set_option maxHeartbeats 4000000
/-! _law_send. -/
namespace GH
open PySem PySem.Spec PyProof.Rows L2 GM
/-- what the sending multiplies the bottoms by -/
def dnS (wl : Wd) (p : Int × Int) (ks : List Str) : Nat := (p.2 * (prodI wl ks).2).natAbs
theorem prodI_dvd (wl : Wd) (ks : List Str) (i : Nat) : (prodI wl (ks.take i)).2 ∣ (prodI wl ks).2 := by
  have go : ∀ (r : List Str) (p : Int × Int), p.2 ∣ (r.foldl (fun p k => tmI p (gab wl k)) p).2 := by
    intro r
    induction r with
    | nil => intro p; exact Int.dvd_refl _
    | cons k r ih => intro p; exact Int.dvd_trans (Int.dvd_mul_right p.2 (gab wl k).2) (ih (tmI p (gab wl k)))
  have : prodI wl ks = (ks.drop i).foldl (fun p k => tmI p (gab wl k)) (prodI wl (ks.take i)) := by
    unfold prodI
    rw [← List.foldl_append, List.take_append_drop]
  rw [this]; exact go _ _
def spLSe : Sp := fun vs H Q _ => ∃ (G : Hp) (d : Addr) (x y z : V) (ps : List Str) (wl : Wd) (ks : List Str) (p : Int × Int) (l : Dd) (D b a : Nat), vs = [.ref d, x, y, z] ∧ Same G H ∧ Own PI G H d l ∧ DctAt WrAt G x wl ∧ WdOk ps wl ∧ LstAt StrAt G y ks ∧ (∀ k ∈ ks, k ∈ keys wl) ∧ ks.length ≤ 4 ∧ PI G z p ∧ 0 ≤ p.1 ∧ 0 < p.2 ∧ PSz a p ∧ a ≤ 1000 ∧ DuOk wl D b l ∧ 1 ≤ b ∧ b ≤ 100000 ∧
  ∀ v G' H' l', ExtX d G H G' H' → Own PI G' H' d l' → DuOk wl (D * dnS wl p ks) (b + 4 * (a + 50)) l' → PI G' v (tmI p (prodI wl ks)) → Q v H'
section
variable {P : Program} {w : World} {K : PySem.W.Frag} {mg : Str → Option Value} {base : Heap} {c : Cl} {f : Addr} {fd : FuncData}
theorem scLSe : FnScope ["_law_due_here", "_law_ways_here", "_law_walk", "_law_put", "_law_name"] ["_law_due_here", "_law_ways_here", "_law_walk", "_law_put"] (defScope sLSe) := ⟨rfl, rfl, rfl, by decide +kernel, rfl, by decide +kernel, by decide +kernel⟩
theorem ok_lse (F : FnP K "_law_send" "_law_send" sLSe f fd) (S1 : Fn P w K mg base "_law_plus" 1 ["_law_one", "_law_other"] [] spLP) (S2 : Fn P w K mg base "_law_times" 1 ["_law_one", "_law_other"] [] spLT) : FnOk P w K mg base CX0 2 f fd ["_law_due_here", "_law_ways_here", "_law_walk", "_law_put"] spLSe := by
  refine F.ok scLSe (fun vs H Q E h => ?_) (fun cdv A outer s H vs Q E hr h => ?_)
  · obtain ⟨G, d, x, y, z, ps, wl, ks, p, l, D, b, a, rfl, _⟩ := h
    rfl
  · obtain ⟨G, d, x, y, z, ps, wl, ks, p, l, D, b, a, rfl, s, o, hx, wo, hy, sub, kl, hz, p1, p2, pz, al, du, b1, bl, k⟩ := h
    refine ⟨_, PSs.nox (pss_cons (ps_for PassesOwn.never rfl (pi_list (pv 2)) (pg_name (i := 4) scLSe.nd rfl (Or.inl rfl))
        (pss_cons (ps_dput (hu_of hr) (pv 0) (pv 4) (pe_fn S1 hr (by rfl) (pa_cons (pe_dget2 (hu_of hr) (pv 0) (pv 4) (pe_tup (pa_cons pe_int (pa_cons pe_int pa_nil))) ⟨rfl, rfl, rfl, rfl⟩) (pa_cons (pv 3) pa_nil))) rfl)
        (pss_one (ps_set (i := 3) scLSe.nd rfl (Or.inl rfl) (pe_fn S2 hr (by rfl) (pa_cons (pv 3) (pa_cons (pe_ix ix_tup (pe_dget (hu_of hr) (pv 1) (pv 4) (fun _ _ => rfl)) pe_int (fun _ _ => rfl)) pa_nil)))))))
      (pss_one (ps_ret (pv 3)))), ?_⟩
    have gd := o.choose_spec.1
    have hdd := o.choose_spec.2.1
    have sE := same_ers s gd
    have e0 : Ext G (ers H d) G H := (Ext.refl s).x.toE
    have dvd : ∀ i, (tmI p (prodI wl (ks.take i))).2.natAbs ∣ D * dnS wl p ks := fun i => by
      refine Nat.dvd_trans ?_ (Nat.dvd_mul_left _ _)
      exact Int.natAbs_dvd_natAbs.mpr (Int.mul_dvd_mul (Int.dvd_refl _) (prodI_dvd wl ks i))
    have dut : ∀ i, DuP (D * dnS wl p ks) (a + 41) (tmI p (prodI wl (ks.take i))) := fun i => by
      obtain ⟨q1, q2, q3⟩ := prodI_pos wo (ks.take i)
      have h2 : 0 < (tmI p (prodI wl (ks.take i))).2 := Int.mul_pos p2 q2
      refine ⟨Int.mul_nonneg p1 (Int.le_of_lt q1), h2, (pz.tm q3).up ?_, (dv_pair h2).of_dvd (dvd i)⟩
      have := List.length_take_le' i ks
      omega
    refine ⟨_, rfl, ?_⟩
    refine for_lst (R := StrAt) StrAt.mono hy (Same.refl G) e0 (fun i σ G' H' => ∃ v3 v4 l', σ = [some (.ref d), some x, some y, some v3, v4] ∧ Own PI G' H' d l' ∧ PI G' v3 (tmI p (prodI wl (ks.take i))) ∧ DuOk wl (D * dnS wl p ks) (b + i * (a + 50)) l')
      ⟨z, none, l, rfl, o, by
        have : tmI p (prodI wl (ks.take 0)) = p := by show (p.1 * 1, p.2 * 1) = p; rw [Int.mul_one, Int.mul_one]
        rw [this]; exact hz, du.more (Nat.dvd_mul_right _ _) (by omega)⟩ (fun i m u σ G2 H2 hi hu sl e iv => ?_) (fun σ G2 H2 sl e iv => ?_)
    · obtain ⟨v3, v4, l', rfl, o2, h3, du2⟩ := iv
      have hu : u = .str m := hu
      subst hu
      have il := (List.getElem?_eq_some_iff.mp hi).1
      have mk := sub m (List.mem_of_getElem? hi)
      have bi : i * (a + 50) ≤ 4 * 1050 := Nat.mul_le_mul (by omega) (by omega)
      refine ⟨_, rfl, d, rfl, o2.isD, _, rfl, by show 2 ≤ sizeLine; decide, fun tp np => ?_⟩
      have i3 := Ext.imm (p := tp) (o := .tup [.int 0, .int 1]) e.gh np
      have o3 := o2.ext PI.mono i3
      obtain ⟨r, dg, u6, eu6, hu6⟩ : ∃ r, DGet (upd H2 tp (.tup [.int 0, .int 1])) d (.str m) r ∧ ∃ u6, u6 = r.getD (.ref tp) ∧ PI (upd G2 tp (.tup [.int 0, .int 1])) u6 (duA l' m) := by
        unfold duA
        cases el : lk l' m with
        | none =>
          obtain ⟨r, dg, so⟩ := o3.isIn m
          rw [el] at so
          cases r with
          | some _ => cases so
          | none => exact ⟨none, dg, .ref tp, rfl, PI.mk⟩
        | some q =>
          obtain ⟨u6, dg, hr6⟩ := o3.get el
          exact ⟨some u6, dg, u6, rfl, hr6⟩
      subst eu6
      have da := du2.amt (by omega) m
      have dt := dut i
      have h33 := PI.mono (same_sm i3.g) h3
      refine ⟨r, dg, _, rfl, _, _, v3, _, _, rfl, i3.gh, hu6, h33, da.sz.up (by omega), dt.sz.up (by omega), fun v5 G5 H5 e5 h5 => ?_⟩
      have e35 := i3.trans e5
      have o5 := o2.ext PI.mono e35
      have hlen : l'.length < sizeLine := line100 (by
        have := pigeon du2.nd du2.sub
        rw [keys_len, keys_len] at this
        have := wo.len
        omega)
      obtain ⟨H6, dp, o6, u6, eo⟩ := o5.put (k := m) h5 hlen
      have e6 := (e.trans e35).wr (o := u6) (ers_d H d) o5.choose_spec.1
      rw [← eo] at e6
      have du6 := (du2.more (D' := D * dnS wl p ks) (b' := b + (i + 1) * (a + 50)) (Nat.dvd_refl _) (by rw [Nat.add_mul]; omega)).put (m := m) mk ((da.add dt).more (D' := D * dnS wl p ks) (b' := b + (i + 1) * (a + 50)) (Nat.dvd_refl _) (by rw [Nat.add_mul]; omega))
      obtain ⟨rr, er⟩ := lk_some mk
      obtain ⟨a1, u1, ea1, g1, r1⟩ := (hx.up WrAt.mono (same_sm e6.g)).get e6.gh er
      obtain ⟨t1, vg, rfl, st, hg⟩ := r1.gains (K := K) e6.gh
      refine ⟨_, rfl, _, rfl, d, H6, rfl, dp, ?_⟩
      refine ⟨_, rfl, _, rfl, _, rfl, a1, _, ea1, g1, t1, _, 2, _, rfl, rfl, st, rfl, G5, v3, vg, _, _, rfl, e6.gh, PI.mono (same_sm e35.g) h3, hg, dt.sz.up (by omega), psz_ab (wo.ok _ (lk_mem er)), fun v7 G7 H7 e7 h7 => ?_⟩
      refine ⟨G7, sl.trans (e35.g.trans e7.g), e6.trans e7, v7, _, _, rfl, o6.ext PI.mono e7, ?_, du6⟩
      have : tmI p (prodI wl (ks.take (i + 1))) = tmI (tmI p (prodI wl (ks.take i))) (rr.a, rr.b) := by
        rw [take_succ_of hi, prodI_snoc, gab_some er]
        show (p.1 * (_ * _), p.2 * (_ * _)) = (p.1 * _ * _, p.2 * _ * _)
        rw [Int.mul_assoc, Int.mul_assoc]
      rw [this]; exact h7
    · obtain ⟨v3, v4, l', rfl, o2, h3, du2⟩ := iv
      rw [List.take_length] at h3
      refine ⟨_, rfl, k _ _ _ l' (ExtX.ofE e o2.choose_spec.1) o2 (du2.more (Nat.dvd_refl _) ?_) h3⟩
      have := Nat.mul_le_mul_right (a + 50) kl
      omega
end
end GH
end
section
set_option maxRecDepth 100000
set_option maxHeartbeats 4000000
/-! _law_planned. -/
namespace GH
open PySem PySem.Spec PyProof.Rows L2 GM
def spLPl : Sp := fun vs H Q _ => ∃ (G : Hp) (d : Addr) (x y : V) (ps : List Str) (wl : Wd) (sx : LS) (l : Dd) (D b : Nat), vs = [.ref d, x, y] ∧ Same G H ∧ Own PI G H d l ∧ DctAt WrAt G x wl ∧ WdOk ps wl ∧ LsAt G y sx ∧ LsOk wl sx ∧ DuOk wl D b l ∧ 0 < D ∧ 1 ≤ b ∧ b ≤ 50000 ∧
  ∀ G' H' l' D', ExtX d G H G' H' → Own PI G' H' d l' → 0 < D' → D ∣ D' → D' ≤ D * 2 ^ 290 → DuOk wl D' (b + 1300) l' → Q .non H'
theorem dnS_le {ps : List Str} {wl : Wd} (wo : WdOk ps wl) {p : Int × Int} {ks : List Str} {a : Nat} (h : p.2.natAbs < 2 ^ a) (kl : ks.length ≤ 4) (p2 : 0 < p.2) : 0 < dnS wl p ks ∧ dnS wl p ks ≤ 2 ^ (a + 41) := by
  obtain ⟨q1, q2, q3⟩ := prodI_pos wo ks
  have z := q3.b
  have : (prodI wl ks).2.natAbs < 2 ^ 41 := Nat.lt_of_lt_of_le z (Nat.pow_le_pow_right (by decide) (by omega))
  unfold dnS
  refine ⟨?_, ?_⟩
  · have := Int.mul_pos p2 q2; omega
  · rw [Int.natAbs_mul]
    exact Nat.le_of_lt (lt_mul h this)
theorem PI.up' {G G' : Hp} {v : V} {p : Int × Int} (h : PI G v p) (s : Same G G') : PI G' v p := PI.mono (same_sm s) h
theorem e0_s {K : PySem.W.Frag} {G H : Hp} {v : V} {ks : List Str} {neg : Bool} {p : Addr} {Q : VK} (h : LstAt StrAt G v ks) (s : Same G H) (np : H p = none) (q : Q (.bl (if neg = true then !decide (ks = []) else decide (ks = []))) (upd H p (.lst []))) : rE0 K neg v (.ref p) (upd H p (.lst [])) Q := by
  obtain ⟨a, vs, rfl, hv, hp⟩ := h
  refine ⟨a, p, vs, rfl, rfl, SqL.of (same_new np _ _ (s _ _ hv)), upd_same, ?_⟩
  have : decide (vs = []) = decide (ks = []) := decide_eq_decide.mpr (by
    have hl := paired_len hp
    constructor
    · intro z; rw [z] at hl; exact List.length_eq_zero_iff.mp hl.symm
    · intro z; rw [z] at hl; exact List.length_eq_zero_iff.mp hl)
  rw [this]; exact q
section
variable {P : Program} {w : World} {K : PySem.W.Frag} {mg : Str → Option Value} {base : Heap} {c : Cl} {f : Addr} {fd : FuncData}
abbrev nPl : List Str := ["_law_due_here", "_law_ways_here", "_law_strand_here", "_law_put", "_law_gain_here", "_law_out"]
theorem scLPl : FnScope nPl ["_law_due_here", "_law_ways_here", "_law_strand_here"] (defScope sLPl) := ⟨rfl, rfl, rfl, by decide +kernel, rfl, by decide +kernel, by decide +kernel⟩
theorem ok_lpl (F : FnP K "_law_planned" "_law_planned" sLPl f fd) (S1 : Fn P w K mg base "_law_product" 2 ["_law_ways_here", "_law_walk"] [] spLPr) (S2 : Fn P w K mg base "_law_send" 2 ["_law_due_here", "_law_ways_here", "_law_walk", "_law_put"] [] spLSe) :
    FnOk P w K mg base CX0 3 f fd ["_law_due_here", "_law_ways_here", "_law_strand_here"] spLPl := by
  refine F.ok scLPl (fun vs H Q E h => ?_) (fun cdv A outer s H vs Q E hr h => ?_)
  · obtain ⟨G, d, x, y, ps, wl, sx, l, D, b, rfl, _⟩ := h
    rfl
  · obtain ⟨G, d, x, y, ps, wl, sx, l, D, b, rfl, s, o, hx, wo, hy, ok, du, D0, b1, bl, k⟩ := h
    refine ⟨_, PSs.nox (pss_cons (ps_set (i := 3) scLPl.nd rfl (Or.inl rfl) (pe_ix ix_tup (pv 2) pe_int (fun _ _ => rfl)))
      (pss_cons (ps_set (i := 4) scLPl.nd rfl (Or.inl rfl) (pe_fn S1 hr (by rfl) (pa_cons (pv 1) (pa_cons (pe_ix ix_tup (pv 2) pe_int (fun _ _ => rfl)) pa_nil))))
      (C8.pss_cut (ps_if (pw_and (pt_cmpR (op_ne0 (hu0 hr)) (pe_ix ix_tup (pv 2) pe_int (fun _ _ => rfl)) (pe_lst pa_nil) (nomark _)) (pw_and1 (pt_cmpR op_eq (pe_ix ix_tup (pv 4) pe_int (fun _ _ => rfl)) (pe_ix ix_tup (pv 4) pe_int (fun _ _ => rfl)) (nomark _)))).pt
        (pss_cons (ps_expr (pe_fn S2 hr (by rfl) (pa_cons (pv 0) (pa_cons (pv 1) (pa_cons (pe_ix ix_tup (pv 2) pe_int (fun _ _ => rfl)) (pa_cons (pv 3) pa_nil)))))) (pss_one ps_retN)) pss_nil)
      (C8.pss_cut (ps_if (pt_cmpR (op_ne0 (hu0 hr)) (pe_ix ix_tup (pv 2) pe_int (fun _ _ => rfl)) (pe_lst pa_nil) (nomark _))
        (pss_one (ps_expr (pe_fn S2 hr (by rfl) (pa_cons (pv 0) (pa_cons (pv 1) (pa_cons (pe_ix ix_tup (pv 2) pe_int (fun _ _ => rfl)) (pa_cons (pe_tup (pa_cons (pe_op op_mulX (pe_ix ix_tup (pv 3) pe_int (fun _ _ => rfl)) (pe_ix ix_tup (pv 4) pe_int (fun _ _ => rfl))) (pa_cons (pe_op op_mulX (pe_ix ix_tup (pv 3) pe_int (fun _ _ => rfl)) (pe_op op_sub (pe_ix ix_tup (pv 4) pe_int (fun _ _ => rfl)) (pe_ix ix_tup (pv 4) pe_int (fun _ _ => rfl)))) pa_nil))) pa_nil))))))) pss_nil)
      (pss_cons (ps_set (i := 5) scLPl.nd rfl (Or.inl rfl) (pe_fn S2 hr (by rfl) (pa_cons (pv 0) (pa_cons (pv 1) (pa_cons (pe_ix ix_tup (pv 2) pe_int (fun _ _ => rfl)) (pa_cons (pv 3) pa_nil))))))
      (pss_one (ps_if (pt_cmpR (op_ne0 (hu0 hr)) (pe_ix ix_tup (pv 2) pe_int (fun _ _ => rfl)) (pe_lst pa_nil) (nomark _))
        (pss_cons (ps_set (i := 4) scLPl.nd rfl (Or.inl rfl) (pe_fn S1 hr (by rfl) (pa_cons (pv 1) (pa_cons (pe_ix ix_tup (pv 2) pe_int (fun _ _ => rfl)) pa_nil))))
        (pss_one (ps_expr (pe_fn S2 hr (by rfl) (pa_cons (pv 0) (pa_cons (pv 1) (pa_cons (pe_ix ix_tup (pv 2) pe_int (fun _ _ => rfl)) (pa_cons (pe_tup (pa_cons (pe_op op_mulX (pe_ix ix_tup (pv 5) pe_int (fun _ _ => rfl)) (pe_ix ix_tup (pv 4) pe_int (fun _ _ => rfl))) (pa_cons (pe_op op_mulX (pe_ix ix_tup (pv 5) pe_int (fun _ _ => rfl)) (pe_op op_sub (pe_ix ix_tup (pv 4) pe_int (fun _ _ => rfl)) (pe_ix ix_tup (pv 4) pe_int (fun _ _ => rfl)))) pa_nil))) pa_nil)))))))) pss_nil))))))), ?_⟩
    obtain ⟨t, v0, v1, v2, v3, rfl, ht, h0, h1, h2, h3⟩ := id hy
    have gd := o.choose_spec.1
    have hT : ∀ {G' H'}, Same G G' → Same G' H' → SqT K H' t [v0, v1, v2, v3] := fun e e' => SqT.of (e' _ _ (e _ _ ht))
    obtain ⟨tp, rfl, htp⟩ := h3.obj
    have q1 := ok.q1
    have q2 := ok.q2
    have q3 := ok.q3
    have q4 := ok.q4
    have pz : PSz 10 sx.q := ⟨by show _ < 1024; omega, by show _ < 1024; omega⟩
    refine ⟨_, rfl, t, _, 3, _, rfl, rfl, hT (Same.refl G) s, rfl, ?_⟩
    refine ⟨_, rfl, _, rfl, t, _, 0, _, rfl, rfl, hT (Same.refl G) s, rfl, G, x, v0, ps, wl, sx.h, rfl, s, hx, wo, h0, by have := ok.lh; omega, ok.sh, fun v4 G1 H1 e1 h4 => ?_⟩
    obtain ⟨t4, rfl, ht4⟩ := h4.obj
    obtain ⟨ph1, ph2, phz⟩ := prodI_pos wo sx.h
    have lh := ok.lh
    have phz : PSz 41 (prodI wl sx.h) := phz.up (by omega)
    have o1 := o.ext PI.mono e1
    have X1 := e1.x (d := d)
    have sE := same_ers s gd
    have E1 : Ext G (ers H d) G1 H1 := X1.toE
    have M1 : ∃ M : L2.St → Hp → Prop, M = fun σ' H' => σ' = [some (.ref d), some x, some (.ref t), some (.ref tp), some (.ref t4), none] ∧ (sx.h = [] ∨ (prodI wl sx.h).2 < (prodI wl sx.h).1) ∧ ∃ G', Ext G (ers H d) G' H' ∧ Same G1 G' ∧ Own PI G' H' d l := ⟨_, rfl⟩
    obtain ⟨M1, eM1⟩ := M1
    have M2 : ∃ M : L2.St → Hp → Prop, M = fun σ' H' => σ' = [some (.ref d), some x, some (.ref t), some (.ref tp), some (.ref t4), none] ∧ ∃ G' l' D', Ext G (ers H d) G' H' ∧ Same G1 G' ∧ Own PI G' H' d l' ∧ 0 < D' ∧ D ∣ D' ∧ D' ≤ D * 2 ^ 100 ∧ DuOk wl D' (b + 410) l' := ⟨_, rfl⟩
    obtain ⟨M2, eM2⟩ := M2
    refine ⟨M1, ?_, fun σ' H' m1 => ⟨M2, ?_, fun σ' H' m2 => ?_⟩⟩
    · refine ⟨_, rfl, t, _, 0, _, rfl, rfl, hT e1.g e1.gh, rfl, Nat.zero_le _, fun p1 n1 => e0_s (h0.up StrAt.mono (same_sm e1.g)) e1.gh n1 ⟨_, rfl, ?_⟩⟩
      have i2 := Ext.imm (p := p1) (o := .lst []) e1.gh n1
      have o2 := o1.ext PI.mono i2
      have E2 := E1.trans i2
      rw [if_pos rfl, eM1]
      by_cases z0 : sx.h = []
      · rw [decide_eq_true z0]
        exact iteF (iteF ⟨rfl, .inl z0, _, E2, i2.g, o2⟩)
      · rw [decide_eq_false z0]
        have T4 : SqT K _ t4 [.int (prodI wl sx.h).1, .int (prodI wl sx.h).2] := SqT.of (i2.gh _ _ (i2.g _ _ ht4))
        refine iteT ⟨_, rfl, t4, _, 0, _, rfl, rfl, T4, rfl, _, rfl, t4, _, 1, _, rfl, rfl, T4, rfl, rfl, _, rfl, ?_⟩
        by_cases eq : (prodI wl sx.h).1 = (prodI wl sx.h).2
        · have e12 := e1.trans i2
          refine iteDT (by rw [eq]) ⟨_, rfl, _, rfl, _, rfl, t, _, 0, _, rfl, rfl, hT e12.g e12.gh, rfl, _, rfl, ?_⟩
          refine ⟨_, d, x, v0, .ref tp, ps, wl, sx.h, sx.q, l, D, b, 10, rfl, e12.gh, o2, hx.up WrAt.mono (same_sm e12.g), wo, h0.up StrAt.mono (same_sm e12.g), ok.sh, lh, h3.up' e12.g, by omega, by omega, pz, by decide, du, b1, by omega, fun v5 G5 H5 l5 x5 o5 du5 _ => ?_⟩
          have x15 := (e12.x (d := d)).comp (fun z => same_nn e12.h z) x5
          obtain ⟨d1, d2⟩ := dnS_le wo (p := sx.q) (ks := sx.h) (a := 10) pz.b lh (by omega)
          exact k _ _ l5 _ x15 o5 (Nat.mul_pos D0 d1) (Nat.dvd_mul_right _ _) (Nat.mul_le_mul_left D (Nat.le_trans d2 (Nat.pow_le_pow_right (by decide) (by decide)))) (du5.more (Nat.dvd_refl _) (by omega))
        · refine iteDF (fun z => eq (V.int.inj z)) ⟨rfl, .inr ?_, _, E2, i2.g, o2⟩
          rcases ok.hd with h | h
          · exact absurd h z0
          · omega
    · rw [eM1] at m1
      obtain ⟨rfl, hgt, G2, E2, s12, o2⟩ := m1
      rw [eM2]
      have s02 : Same G G2 := E2.g
      refine ⟨_, rfl, t, _, 0, _, rfl, rfl, hT s02 E2.gh, rfl, Nat.zero_le _, fun p1 n1 => e0_s (h0.up StrAt.mono (same_sm s02)) E2.gh n1 ⟨_, rfl, ?_⟩⟩
      have i3 := Ext.imm (p := p1) (o := .lst []) E2.gh n1
      have o3 := o2.ext PI.mono i3
      have E3 := E2.trans i3
      rw [if_pos rfl]
      by_cases z0 : sx.h = []
      · rw [decide_eq_true z0]
        refine iteF ⟨rfl, _, l, D, E3, s12.trans i3.g, o3, D0, Nat.dvd_refl _, Nat.le_mul_of_pos_right _ (Nat.pow_pos (by decide)), du.more (Nat.dvd_refl _) (by omega)⟩
      · rw [decide_eq_false z0]
        have gt : (prodI wl sx.h).2 < (prodI wl sx.h).1 := by
          rcases hgt with h | h
          · exact absurd h z0
          · exact h
        have T4 : SqT K _ t4 [.int (prodI wl sx.h).1, .int (prodI wl sx.h).2] := SqT.of (i3.gh _ _ (i3.g _ _ (s12 _ _ ht4)))
        have Tp : SqT K _ tp [.int sx.q.1, .int sx.q.2] := SqT.of (i3.gh _ _ (i3.g _ _ (s02 _ _ htp)))
        have big : ∀ {a : Nat} {i : Int}, i.natAbs < 2 ^ a → a ≤ 10000000 → i.natAbs < 2 ^ 10000000 := fun h k => Nat.lt_of_lt_of_le h (Nat.pow_le_pow_right (by decide) k)
        have subz : ((prodI wl sx.h).1 - (prodI wl sx.h).2).natAbs < 2 ^ 41 := by
          have := phz.a
          omega
        refine iteT ⟨_, rfl, _, rfl, _, rfl, t, _, 0, _, rfl, rfl, hT E3.g E3.gh, rfl, _, rfl, tp, _, 0, _, rfl, rfl, Tp, rfl, _, rfl, t4, _, 1, _, rfl, rfl, T4, rfl, _, _, rfl, rfl, mul6 (big pz.a (by decide)) (big phz.b (by decide)),
          _, rfl, tp, _, 1, _, rfl, rfl, Tp, rfl, _, rfl, t4, _, 0, _, rfl, rfl, T4, rfl, _, rfl, t4, _, 1, _, rfl, rfl, T4, rfl, _, _, rfl, rfl, _, _, rfl, rfl, mul6 (big pz.b (by decide)) (big subz (by decide)), by show 2 ≤ sizeLine; decide, fun tq nq => ?_⟩
        have i4 := i3.trans (Ext.imm (p := tq) (o := .tup [.int (sx.q.1 * (prodI wl sx.h).2), .int (sx.q.2 * ((prodI wl sx.h).1 - (prodI wl sx.h).2))]) i3.gh nq)
        have E4 := E2.trans i4
        have o4 := o2.ext PI.mono i4
        have pz4 : PSz 51 (sx.q.1 * (prodI wl sx.h).2, sx.q.2 * ((prodI wl sx.h).1 - (prodI wl sx.h).2)) := ⟨by show (_ * _ : Int).natAbs < _; rw [Int.natAbs_mul]; exact lt_mul pz.a phz.b, by show (_ * _ : Int).natAbs < _; rw [Int.natAbs_mul]; exact lt_mul pz.b subz⟩
        have dp : 0 < sx.q.2 * ((prodI wl sx.h).1 - (prodI wl sx.h).2) := Int.mul_pos (by omega) (by omega)
        refine ⟨_, d, x, v0, .ref tq, ps, wl, sx.h, _, l, D, b, 51, rfl, E4.gh, o4, hx.up WrAt.mono (same_sm E4.g), wo, h0.up StrAt.mono (same_sm E4.g), ok.sh, lh, PI.mk, Int.mul_nonneg (by omega) (Int.le_of_lt ph2), dp, pz4, by decide, du, b1, by omega, fun v5 G5 H5 l5 x5 o5 du5 _ => ?_⟩
        obtain ⟨d1, d2⟩ := dnS_le wo (ks := sx.h) pz4.b lh dp
        refine ⟨rfl, G5, l5, _, x5.up E4 (ers_d H d), (s12.trans i4.g).trans x5.g, o5, Nat.mul_pos D0 d1, Nat.dvd_mul_right _ _, Nat.mul_le_mul_left D (Nat.le_trans d2 (Nat.pow_le_pow_right (by decide) (by decide))), du5.more (Nat.dvd_refl _) (by omega)⟩
    · rw [eM2] at m2
      obtain ⟨rfl, G2, l2, D2, E2, s12, o2, D2p, D2d, D2l, du2⟩ := m2
      have s02 : Same G G2 := E2.g
      have big : ∀ {a : Nat} {i : Int}, i.natAbs < 2 ^ a → a ≤ 10000000 → i.natAbs < 2 ^ 10000000 := fun h k => Nat.lt_of_lt_of_le h (Nat.pow_le_pow_right (by decide) k)
      refine ⟨_, rfl, _, rfl, _, rfl, t, _, 1, _, rfl, rfl, hT s02 E2.gh, rfl, _, rfl, G2, d, x, v1, .ref tp, ps, wl, sx.p, sx.q, l2, D2, _, 10, rfl, E2.gh, o2, hx.up WrAt.mono (same_sm s02), wo, h1.up StrAt.mono (same_sm s02), ok.sp, ok.lp, h3.up' s02, by omega, by omega, pz, by decide, du2, by omega, by omega, fun v5 G5 H5 l5 x5 o5 du5 h5 => ?_⟩
      obtain ⟨d1, d2⟩ := dnS_le wo (p := sx.q) (ks := sx.p) (a := 10) pz.b ok.lp (by omega)
      have E5 := x5.up E2 (ers_d H d)
      have s05 : Same G G5 := E5.g
      obtain ⟨pp1, pp2, ppz⟩ := prodI_pos wo sx.p
      have lp := ok.lp
      have ppz : PSz 41 (prodI wl sx.p) := ppz.up (by omega)
      obtain ⟨t5, rfl, ht5⟩ := h5.obj
      have oz : PSz 51 (tmI sx.q (prodI wl sx.p)) := pz.tm ppz
      have D5p : 0 < D2 * dnS wl sx.q sx.p := Nat.mul_pos D2p d1
      have D5l : D2 * dnS wl sx.q sx.p ≤ D * 2 ^ 152 := by
        refine Nat.le_trans (Nat.mul_le_mul D2l (Nat.le_trans d2 (Nat.pow_le_pow_right (by decide) (show 10 + 41 ≤ 52 by decide)))) ?_
        rw [Nat.mul_assoc, ← Nat.pow_add]
        exact Nat.le_refl _
      refine ⟨_, rfl, t, _, 2, _, rfl, rfl, hT s05 E5.gh, rfl, Nat.zero_le _, fun p1 n1 => e0_s (h2.up StrAt.mono (same_sm s05)) E5.gh n1 ⟨_, rfl, ?_⟩⟩
      have i6 := Ext.imm (p := p1) (o := .lst []) E5.gh n1
      have o6 := o5.ext PI.mono i6
      have E6 := E5.trans i6
      rw [if_pos rfl]
      by_cases z0 : sx.t = []
      · rw [decide_eq_true z0]
        exact iteF (k _ _ l5 _ (ExtX.ofE E6 o6.choose_spec.1) o6 D5p (Nat.dvd_trans D2d (Nat.dvd_mul_right _ _)) (Nat.le_trans D5l (Nat.mul_le_mul_left D (Nat.pow_le_pow_right (by decide) (by decide)))) (du5.more (Nat.dvd_refl _) (by omega)))
      · rw [decide_eq_false z0]
        have lt : (prodI wl sx.t).1 < (prodI wl sx.t).2 := by
          rcases ok.tl with h | h
          · exact absurd h z0
          · exact h
        have ltl := ok.lt
        refine iteT ⟨_, rfl, _, rfl, t, _, 2, _, rfl, rfl, hT E6.g E6.gh, rfl, _, x, v2, ps, wl, sx.t, rfl, E6.gh, hx.up WrAt.mono (same_sm E6.g), wo, h2.up StrAt.mono (same_sm E6.g), by omega, ok.st, fun v7 G7 H7 e7 h7 => ?_⟩
        obtain ⟨t7, rfl, ht7⟩ := h7.obj
        obtain ⟨pt1, pt2, ptz⟩ := prodI_pos wo sx.t
        have ptz : PSz 41 (prodI wl sx.t) := ptz.up (by omega)
        have E7 := E6.trans e7
        have T7 : SqT K H7 t7 [.int (prodI wl sx.t).1, .int (prodI wl sx.t).2] := SqT.of (e7.gh _ _ ht7)
        have T5 : SqT K H7 t5 [.int (tmI sx.q (prodI wl sx.p)).1, .int (tmI sx.q (prodI wl sx.p)).2] := SqT.of (e7.gh _ _ (e7.g _ _ (i6.g _ _ ht5)))
        have subz : ((prodI wl sx.t).2 - (prodI wl sx.t).1).natAbs < 2 ^ 41 := by
          have := ptz.b
          omega
        refine ⟨_, rfl, _, rfl, _, rfl, t, _, 2, _, rfl, rfl, hT E7.g E7.gh, rfl, _, rfl, t5, _, 0, _, rfl, rfl, T5, rfl, _, rfl, t7, _, 1, _, rfl, rfl, T7, rfl, _, _, rfl, rfl, mul6 (big oz.a (by decide)) (big ptz.b (by decide)),
          _, rfl, t5, _, 1, _, rfl, rfl, T5, rfl, _, rfl, t7, _, 1, _, rfl, rfl, T7, rfl, _, rfl, t7, _, 0, _, rfl, rfl, T7, rfl, _, _, rfl, rfl, _, _, rfl, rfl, mul6 (big oz.b (by decide)) (big subz (by decide)), by show 2 ≤ sizeLine; decide, fun tq nq => ?_⟩
        have i8 := Ext.imm (p := tq) (o := .tup [.int ((tmI sx.q (prodI wl sx.p)).1 * (prodI wl sx.t).2), .int ((tmI sx.q (prodI wl sx.p)).2 * ((prodI wl sx.t).2 - (prodI wl sx.t).1))]) e7.gh nq
        have E8 := E7.trans i8
        have o8 := o6.ext PI.mono (e7.trans i8)
        have pz8 : PSz 92 ((tmI sx.q (prodI wl sx.p)).1 * (prodI wl sx.t).2, (tmI sx.q (prodI wl sx.p)).2 * ((prodI wl sx.t).2 - (prodI wl sx.t).1)) := ⟨by show (_ * _ : Int).natAbs < _; rw [Int.natAbs_mul]; exact lt_mul oz.a ptz.b, by show (_ * _ : Int).natAbs < _; rw [Int.natAbs_mul]; exact lt_mul oz.b subz⟩
        have n8 : 0 ≤ (tmI sx.q (prodI wl sx.p)).1 := Int.mul_nonneg (by omega) (Int.le_of_lt pp1)
        have d8 : 0 < (tmI sx.q (prodI wl sx.p)).2 := Int.mul_pos (by omega) pp2
        have dp : 0 < (tmI sx.q (prodI wl sx.p)).2 * ((prodI wl sx.t).2 - (prodI wl sx.t).1) := Int.mul_pos d8 (by omega)
        refine ⟨_, d, x, v2, .ref tq, ps, wl, sx.t, _, l5, _, _, 92, rfl, E8.gh, o8, hx.up WrAt.mono (same_sm E8.g), wo, h2.up StrAt.mono (same_sm E8.g), ok.st, ltl, PI.mk, Int.mul_nonneg n8 (Int.le_of_lt pt2), dp, pz8, by decide, du5, by omega, by omega, fun v9 G9 H9 l9 x9 o9 du9 _ => ?_⟩
        obtain ⟨d1', d2'⟩ := dnS_le wo (ks := sx.t) pz8.b ltl dp
        refine k _ _ l9 _ (ExtX.ofE (x9.up E8 (ers_d H d)) o9.choose_spec.1) o9 (Nat.mul_pos D5p d1') (Nat.dvd_trans (Nat.dvd_trans D2d (Nat.dvd_mul_right _ _)) (Nat.dvd_mul_right _ _)) ?_ (du9.more (Nat.dvd_refl _) (by omega))
        refine Nat.le_trans (Nat.mul_le_mul D5l (Nat.le_trans d2' (Nat.pow_le_pow_right (by decide) (show 92 + 41 ≤ 138 by decide)))) ?_
        rw [Nat.mul_assoc, ← Nat.pow_add]
        exact Nat.le_refl _
end
end GH
end
section
set_option maxRecDepth 100000
set_option maxHeartbeats 4000000
/-! _law_as_plan. -/
namespace GH
open PySem PySem.Spec PyProof.Rows L2 GM
/-- the plan that a due dict tells -/
def duPl (l : Dd) : Pl := l.map fun t => (t.1, rv t.2)
theorem duPl_keys (l : Dd) : keys (duPl l) = keys l := by unfold keys duPl; rw [List.map_map]; rfl
def spLAP (c : Cl) : Sp := fun vs H Q _ => ∃ (G : Hp) (x : V) (wl : Wd) (l : Dd) (D : Nat), vs = [x] ∧ Same G H ∧ DctE PI G x l ∧ DuOk wl D 8000 l ∧ l.length ≤ 100 ∧ Ret G H Q (fun v G' => DctE (Fr c) G' v (duPl l))
theorem rv_div (p : Int × Int) : rv p = Rat.divInt p.1 p.2 := by unfold rv; rw [Rat.divInt_eq_div]
section
variable {P : Program} {w : World} {K : PySem.W.Frag} {mg : Str → Option Value} {base : Heap} {c : Cl} {f : Addr} {fd : FuncData}
theorem scLAP : FnScope ["_law_due_here", "_law_plan", "_law_name"] ["_law_due_here"] (defScope sLAP) := ⟨rfl, rfl, rfl, by decide +kernel, rfl, by decide +kernel, by decide +kernel⟩
theorem ok_lap (F : FnP K "_law_as_plan" "_law_as_plan" sLAP f fd) (T : Txt K mg c) (M : MkF2 P w K mg base c) : FnOk P w K mg base CX0 4 f fd ["_law_due_here"] (spLAP c) := by
  refine F.ok scLAP (fun vs H Q E h => ?_) (fun cdv A outer s H vs Q E hr h => ?_)
  · obtain ⟨G, x, wl, l, D, rfl, _⟩ := h
    rfl
  · obtain ⟨G, x, wl, l, D, rfl, s, hl, du, len, k⟩ := h
    refine ⟨_, PSs.nox (pss_cons (ps_set (i := 1) scLAP.nd rfl (Or.inl rfl) pe_dnewK)
      (pss_cons (ps_lock (ps_for PassesOwn.never rfl (pi_keys (pv 0)) (pg_name (i := 2) scLAP.nd rfl (Or.inl rfl))
        (pss_one (ps_dput (hu_of hr) (pv 1) (pv 2) (pe_fr M hr (by rfl) (pa_cons (pe_ix ix_tup (pe_dget (hu_of hr) (pv 0) (pv 2) (fun _ _ => rfl)) pe_int (fun _ _ => rfl)) (pa_cons (pe_ix ix_tup (pe_dget (hu_of hr) (pv 0) (pv 2) (fun _ _ => rfl)) pe_int (fun _ _ => rfl)) pa_nil))) rfl))))
      (pss_one (ps_ret (pv 1))))), ?_⟩
    intro d hd
    have e0 := Ext.tmp (o := .dK []) s hd
    have o0 := Own.nil (R := Fr c) s hd
    obtain ⟨a, kvs, rfl, hk, hp⟩ := id hl
    refine ⟨a, _, e0.gh _ _ hk, trivial, fun od => ?_⟩
    refine ⟨_, rfl, a, od, rfl, .inl ⟨kvs, upd_same, ?_⟩⟩
    have ad : d ≠ a := fun z => by have := Same.free s hd; rw [z, hk] at this; cases this
    have hdL : upd H a (lck od kvs) d = none := by rw [upd_ne ad]; exact hd
    have eL : Ext (upd G a (lck od kvs)) (upd H a (lck od kvs)) (upd G a (lck od kvs)) (upd (upd H d (.dK [])) a (lck od kvs)) := by
      rw [upd_two (Ne.symm ad)]
      exact Ext.tmp (same_upd s) hdL
    have lm := lock_sm (od := od) hk
    have ol := o0.turn (a := a) (o' := lck od kvs) hk lm
    refine for_keys (l := l) hp (fun i σ H' => ∃ G' v2, σ = [some (.ref a), some (.ref d), v2] ∧ Ext (upd G a (lck od kvs)) (upd H a (lck od kvs)) G' H' ∧ Own (Fr c) G' H' d ((duPl l).take i))
      ⟨_, none, rfl, eL, ol⟩ (fun i σ H' _ z => ?_) (fun i pr σ H' hi z => ?_) (fun σ H' z => ?_)
    · obtain ⟨G', v2, _, e, _⟩ := z
      exact (unl s hk e).1
    · obtain ⟨G', v2, rfl, e, o⟩ := z
      have mem := List.mem_of_getElem? hi
      have dp := du.ok _ mem
      have el : lk l pr.1 = some pr.2 := lk_of_mem du.nd mem
      obtain ⟨a1, u1, ea1, g1, r1⟩ := ((hl.at.up PI.mono lm).up PI.mono (same_sm e.g)).get e.gh el
      obtain ⟨t, rfl, ht⟩ := PI.obj r1
      have hT : SqT K H' t [.int pr.2.1, .int pr.2.2] := SqT.of (e.gh _ _ ht)
      have hpi : (duPl l)[i]? = some (pr.1, rv pr.2) := by unfold duPl; rw [List.getElem?_map, hi]; rfl
      refine ⟨_, rfl, _, rfl, a1, _, ea1, g1, t, _, 0, _, rfl, rfl, hT, rfl, _, rfl, _, rfl, a1, _, ea1, g1, t, _, 1, _, rfl, rfl, hT, rfl, ?_⟩
      refine ⟨G', pr.2.1, pr.2.2, rfl, e.gh, ⟨by have := dp.d; omega, Nat.lt_of_lt_of_le dp.sz.b (Nat.pow_le_pow_right (by decide) (by decide))⟩, fun v G3 H3 e3 h3 => ?_⟩
      rw [← rv_div] at h3
      have o3 := o.ext Fr.mono e3
      have hlen : ((duPl l).take i).length < sizeLine := line100 (by
        have := List.length_take_le' i (duPl l)
        have e : (duPl l).length = l.length := by unfold duPl; rw [List.length_map]
        omega)
      obtain ⟨H7, dpp, o7, u7, eo⟩ := o3.put (k := pr.1) h3 hlen
      have e7 := (e.trans e3).wr (o := u7) hdL o3.choose_spec.1
      rw [← eo] at e7
      rw [put_snoc (p := (pr.1, rv pr.2)) (by rw [duPl_keys]; exact du.nd) hpi] at o7
      exact ⟨_, rfl, _, rfl, d, H7, rfl, dpp, G3, _, rfl, e7, o7⟩
    · obtain ⟨G', v2, rfl, e, o⟩ := z
      obtain ⟨q1, q2, q3⟩ := unl s hk e
      have el : (duPl l).length = l.length := by unfold duPl; rw [List.length_map]
      rw [← el, List.take_length] at o
      have g1 : G' a = some (lck od kvs) := e.g a _ upd_same
      have o2 := o.turn (a := a) (o' := .dK kvs) g1 q3
      obtain ⟨G2, e2, hD, _⟩ := o2.doneE Fr.mono s q2 hd
      exact ⟨q1, _, rfl, k _ _ _ e2 hD⟩
end
end GH
end
section
set_option maxRecDepth 100000
set_option maxHeartbeats 4000000
/-! _law_due. -/
namespace GH
open PySem PySem.Spec PyProof.Rows L2 GM
def spLDu (K : PySem.W.Frag) : Sp := fun vs H Q _ => ∃ (G : Hp) (x y z : V) (ns : List Int) (ps : List Str) (wl : Wd) (xs : List LS), vs = [x, y, z] ∧ Same G H ∧ ScrAt K G x ns ∧ ns.length ≤ 900 ∧ DctAt WrAt G y wl ∧ WdOk ps wl ∧ LstAt LsAt G z xs ∧ xs.length ≤ 2 ∧ (∀ t ∈ xs, LsOk wl t) ∧
  Ret G H Q (fun v G' => ∃ l D, DctE PI G' v l ∧ 0 < D ∧ D ≤ 2 ^ 600 ∧ DuOk wl D 8000 l)
section
variable {P : Program} {w : World} {K : PySem.W.Frag} {mg : Str → Option Value} {base : Heap} {c : Cl} {f : Addr} {fd : FuncData}
abbrev nDu : List Str := ["_law_script", "_law_ways_here", "_law_strands_here", "_law_due_here", "_law_strand_here", "_law_labels", "_law_k", "_law_cell"]
theorem scLDu : FnScope nDu ["_law_script", "_law_ways_here", "_law_strands_here"] (defScope sLDu) := ⟨rfl, rfl, rfl, by decide +kernel, rfl, by decide +kernel, by decide +kernel⟩
theorem ok_ldu (F : FnP K "_law_due" "_law_due" sLDu f fd) (T : Txt K mg c) (S1 : Fn P w K mg base "_law_planned" 3 ["_law_due_here", "_law_ways_here", "_law_strand_here"] [] spLPl) (S2 : Fn P w K mg base "_law_cell_at" 1 ["_law_script", "_law_k"] [] (spCA K)) (S3 : Fn P w K mg base "_law_plus" 1 ["_law_one", "_law_other"] [] spLP) :
    FnOk P w K mg base CX0 4 f fd ["_law_script", "_law_ways_here", "_law_strands_here"] (spLDu K) := by
  refine F.ok scLDu (fun vs H Q E h => ?_) (fun cdv A outer s H vs Q E hr h => ?_)
  · obtain ⟨G, x, y, z, ns, ps, wl, xs, rfl, _⟩ := h
    rfl
  · obtain ⟨G, x, y, z, ns, ps, wl, xs, rfl, s, hx, nl, hy, wo, hz, xl, ok, k⟩ := h
    refine ⟨_, PSs.nox (pss_cons (ps_set (i := 3) scLDu.nd rfl (Or.inl rfl) pe_dnewK)
      (pss_cons (ps_for PassesOwn.never rfl (pi_list (pv 2)) (pg_name (i := 4) scLDu.nd rfl (Or.inl rfl))
        (pss_one (ps_expr (pe_fn S1 hr (by rfl) (pa_cons (pv 3) (pa_cons (pv 1) (pa_cons (pv 4) pa_nil)))))))
      (pss_cons (ps_set (i := 5) scLDu.nd rfl (Or.inl rfl) (pe_callTy (call_listD rfl) (by rfl) T.list (by decide +kernel) (pa_cons (pv 1) pa_nil)))
      (pss_cons (ps_for PassesOwn.never rfl (pi_range1 (by rfl) T.range (pa_cons (pe_callB call_len_seq (by rfl) T.len PySem.boot_len (pa_cons (pv 5) pa_nil)) pa_nil)) (pg_name (i := 6) scLDu.nd rfl (Or.inl rfl))
        (pss_cons (ps_set (i := 7) scLDu.nd rfl (Or.inl rfl) (pe_fn S2 (hr.mono (by decide)) (by rfl) (pa_cons (pv 0) (pa_cons (pe_op op_add pe_int (pv 6)) pa_nil))))
        (pss_one (ps_if (pt_cmpR op_eq (pe_op op_mod (pv 7) pe_int) pe_int (nomark _))
          (pss_one (ps_dput (hu_of hr) (pv 3) (pe_ix ix_list (pv 5) (pv 6) (fun _ _ => rfl)) (pe_fn S3 (hr.mono (by decide)) (by rfl) (pa_cons (pe_dget2 (hu_of hr) (pv 3) (pe_ix ix_list (pv 5) (pv 6) (fun _ _ => rfl)) (pe_tup (pa_cons pe_int (pa_cons pe_int pa_nil))) ⟨rfl, rfl, rfl, rfl⟩) (pa_cons (pe_tup (pa_cons (pe_op op_mod (pe_op op_fdiv (pv 7) pe_int) pe_int) (pa_cons (pe_op op_add pe_int (pe_op op_mod (pe_op op_fdiv (pv 7) pe_int) pe_int)) pa_nil))) pa_nil))) rfl)) pss_nil))))
      (pss_one (ps_ret (pv 3))))))), ?_⟩
    intro d hd
    have e0 := Ext.tmp (o := .dK []) s hd
    refine ⟨_, rfl, ?_⟩
    refine for_lst (R := LsAt) LsAt.mono hz (Same.refl G) e0 (fun i σ G' H' => ∃ v4 l D, σ = [some x, some y, some z, some (.ref d), v4, none, none, none] ∧ Own PI G' H' d l ∧ 0 < D ∧ D ≤ 60 * 2 ^ (290 * i) ∧ 60 ∣ D ∧ DuOk wl D (1 + 1300 * i) l)
      ⟨none, [], 60, rfl, Own.nil s hd, by decide, by decide, Nat.dvd_refl _, ⟨List.nodup_nil, (fun k h => nomatch h), fun t h => nomatch h⟩⟩ (fun i sx u σ G2 H2 hi hu sl e iv => ?_) (fun σ G2 H2 sl e iv => ?_)
    · obtain ⟨v4, l, D, rfl, o, D0, Dl, D60, du⟩ := iv
      have il := (List.getElem?_eq_some_iff.mp hi).1
      refine ⟨_, rfl, _, rfl, _, rfl, G2, d, y, u, ps, wl, sx, l, D, _, rfl, e.gh, o, hy.up WrAt.mono (same_sm e.g), wo, hu, ok _ (List.mem_of_getElem? hi), du, D0, by omega, by omega, fun G3 H3 l3 D3 x3 o3 D30 D3d D3l du3 => ?_⟩
      refine ⟨G3, sl.trans x3.g, x3.up e hd, _, l3, D3, rfl, o3, D30, ?_, Nat.dvd_trans D60 D3d, du3.more (Nat.dvd_refl _) (by omega)⟩
      refine Nat.le_trans D3l ?_
      rw [show 290 * (i + 1) = 290 * i + 290 by omega, Nat.pow_add, ← Nat.mul_assoc]
      exact Nat.mul_le_mul_right _ Dl
    obtain ⟨v4, l, D, rfl, o, D0, Dl, D60, du⟩ := iv
    obtain ⟨ay, kvs, rfl, hk, hp⟩ := id hy
    refine ⟨_, rfl, ay, kvs, rfl, ((hk.sm (same_sm e.g)).sm (same_sm e.gh)).rd, fun p np => ?_⟩
    rw [kv_keys hp]
    have i1 := Ext.imm (p := p) (o := .lst ((keys wl).map V.str)) e.gh np
    have e1 := e.trans i1
    have o1 := o.ext PI.mono i1
    have hL : LstAt StrAt (upd G2 p (.lst ((keys wl).map V.str))) (.ref p) (keys wl) := ⟨p, _, rfl, upd_same, flat_pair _⟩
    have kl : (keys wl).length ≤ 12 := by rw [keys_len]; exact wo.len
    refine ⟨_, rfl, p, _, rfl, .inl (SqL.of upd_same), _, rfl, by rw [List.length_map]; omega, by rw [List.length_map]; omega, ?_⟩
    rw [List.length_map, Int.toNat_natCast]
    refine for_rng (lo := 0) (n := (keys wl).length) (Same.refl _) e1 (fun i σ G' H' => ∃ v6 v7 l', σ = [some x, some (.ref ay), some z, some (.ref d), v4, some (.ref p), v6, v7] ∧ Own PI G' H' d l' ∧ DuOk wl D (1 + 1300 * xs.length + 10 * i) l') ⟨none, none, l, rfl, o1, du⟩ (fun i σ G3 H3 hi sl3 e3 iv => ?_) (fun σ G3 H3 sl3 e3 iv => ?_)
    · obtain ⟨v6, v7, l', rfl, o3, du3⟩ := iv
      have sg : Same G G3 := e3.g
      have lab : ∀ {G' H'}, Same G3 G' → Same G' H' → SqL K H' p ((keys wl).map V.str) := fun s1 s2 => SqL.of (s2 _ _ (s1 _ _ (sl3 _ _ upd_same)))
      have ati : atI ((keys wl).map V.str) (0 + (i : Int)) = some (.str (at' (keys wl) i)) := by rw [Int.zero_add]; exact atI_str (at_get hi)
      refine ⟨_, rfl, _, rfl, _, _, rfl, rfl, G3, x, 24 + i, ns, ?_, e3.gh, hx.same sg, by omega, by omega, ?_⟩
      · show [x, V.int (24 + (0 + (i : Int)))] = [x, V.int ((24 + i : Nat) : Int)]
        have : (24 + (0 + (i : Int))) = ((24 + i : Nat) : Int) := by omega
        rw [this]
      generalize caF ns (24 + i) = zc
      refine ⟨_, rfl, _, _, rfl, rfl, (by show (0 : Int) < 4; decide), rfl, _, rfl, ite2 (fun _ => ?_) (fun _ => ?_)⟩
      · refine ⟨_, rfl, d, rfl, o3.isD, _, rfl, _, rfl, p, _, _, _, rfl, rfl, lab (Same.refl _) e3.gh, ati, by show 2 ≤ sizeLine; decide, fun tp ntp => ?_⟩
        have i4 := Ext.imm (p := tp) (o := .tup [.int 0, .int 1]) e3.gh ntp
        have o4 := o3.ext PI.mono i4
        obtain ⟨r, dg, u6, eu6, hu6⟩ : ∃ r, DGet (upd H3 tp (.tup [.int 0, .int 1])) d (.str (at' (keys wl) i)) r ∧ ∃ u6, u6 = r.getD (.ref tp) ∧ PI (upd G3 tp (.tup [.int 0, .int 1])) u6 (duA l' (at' (keys wl) i)) := by
          unfold duA
          cases el : lk l' (at' (keys wl) i) with
          | none =>
            obtain ⟨r, dg, so⟩ := o4.isIn (at' (keys wl) i)
            rw [el] at so
            cases r with
            | some _ => cases so
            | none => exact ⟨none, dg, .ref tp, rfl, PI.mk⟩
          | some q =>
            obtain ⟨u6, dg, hr6⟩ := o4.get el
            exact ⟨some u6, dg, u6, rfl, hr6⟩
        subst eu6
        have da := du3.amt (by omega) (at' (keys wl) i)
        refine ⟨r, dg, _, rfl, _, _, rfl, rfl, cd _ _ (by decide) (by decide), _, _, rfl, rfl, (by show (0 : Int) < 12; decide), _, rfl, _, _, rfl, rfl, cd _ _ (by decide) (by decide), _, _, rfl, rfl, (by show (0 : Int) < 6; decide), _, _, rfl, rfl, by show 2 ≤ sizeLine; decide, fun tq ntq => ?_⟩
        have i5 := i4.trans (Ext.imm (p := tq) (o := .tup [.int (zc / 4 % 12), .int (1 + zc / 48 % 6)]) i4.gh ntq)
        have dq : DuP D 8 (zc / 4 % 12, 1 + zc / 48 % 6) := by
          have h1 : 0 ≤ zc / 4 % 12 ∧ zc / 4 % 12 < 12 := by omega
          have h2 : 1 ≤ 1 + zc / 48 % 6 ∧ 1 + zc / 48 % 6 ≤ 6 := by omega
          refine ⟨h1.1, by show 0 < 1 + zc / 48 % 6; omega, ⟨by show (zc / 4 % 12).natAbs < 256; omega, by show (1 + zc / 48 % 6).natAbs < 256; omega⟩, ?_⟩
          refine (dv_pair (p := (zc / 4 % 12, 1 + zc / 48 % 6)) (by show 0 < 1 + zc / 48 % 6; omega)).of_dvd (Nat.dvd_trans ?_ D60)
          show (1 + zc / 48 % 6).natAbs ∣ 60
          have : (1 + zc / 48 % 6).natAbs = 1 ∨ (1 + zc / 48 % 6).natAbs = 2 ∨ (1 + zc / 48 % 6).natAbs = 3 ∨ (1 + zc / 48 % 6).natAbs = 4 ∨ (1 + zc / 48 % 6).natAbs = 5 ∨ (1 + zc / 48 % 6).natAbs = 6 := by omega
          rcases this with h | h | h | h | h | h <;> rw [h] <;> decide
        have bi : 1 + 1300 * xs.length + 10 * i ≤ 10000 := by omega
        refine ⟨_, _, .ref tq, _, _, rfl, i5.gh, PI.mono (same_sm (Ext.imm (p := tq) (o := .tup [.int (zc / 4 % 12), .int (1 + zc / 48 % 6)]) i4.gh ntq).g) hu6, PI.mk, da.sz.up (by omega), dq.sz.up (by omega), fun v5 G5 H5 e5 h5 => ?_⟩
        have x5 := i5.trans e5
        have o5 := o3.ext PI.mono x5
        have hlen : l'.length < sizeLine := line100 (by
          have := pigeon du3.nd du3.sub
          rw [keys_len] at this
          omega)
        obtain ⟨H6, dp, o6, u6', eo⟩ := o5.put (k := at' (keys wl) i) h5 hlen
        have e6 := (e3.trans x5).wr (o := u6') hd o5.choose_spec.1
        rw [← eo] at e6
        refine ⟨_, rfl, _, rfl, _, rfl, p, _, _, _, rfl, rfl, lab x5.g x5.gh, ati, d, H6, rfl, dp, G5, sl3.trans x5.g, e6, _, _, _, rfl, o6, ?_⟩
        exact (du3.more (D' := D) (b' := 1 + 1300 * xs.length + 10 * (i + 1)) (Nat.dvd_refl _) (by omega)).put (at_mem hi) ((da.add dq).more (Nat.dvd_refl _) (by omega))
      · exact ⟨G3, sl3, e3, _, _, l', rfl, o3, du3.more (Nat.dvd_refl _) (by omega)⟩
    · obtain ⟨v6, v7, l', rfl, o3, du3⟩ := iv
      obtain ⟨G4, e4, hD, _⟩ := o3.doneE PI.mono s e3 hd
      refine ⟨_, rfl, k _ _ _ e4 ⟨l', D, hD, D0, ?_, du3.more (Nat.dvd_refl _) (by omega)⟩⟩
      refine Nat.le_trans Dl ?_
      exact pw_mul (a := 6) (b := 580) (by decide) (Nat.pow_le_pow_right (by decide) (by omega)) (by decide)
end
end GH
end
section
set_option maxRecDepth 100000
set_option maxHeartbeats 4000000
/-! _law_brought. -/
namespace GH
open PySem PySem.Spec PyProof.Rows L2 GM
theorem Ext.lock {G H G1 H1 : Hp} {a : Addr} {o : HO} (e : Ext G H G1 H1) : Ext (upd G a o) (upd H a o) (upd G1 a o) (upd H1 a o) := by
  refine ⟨same_upd e.g, same_upd e.h, same_upd e.gh, fun b z n => ?_⟩
  by_cases h : b = a
  · subst h; rw [upd_same] at z; cases z
  · rw [upd_ne h] at z n ⊢
    exact e.new b z n
/-- the net's ways, by the law's dict -/
def wyL (cell : Int) (wl : Wd) : List (Wy Str) := wl.map fun t => ⟨t.1, t.2.s, t.2.g, rv (t.2.a, t.2.b), ((cstF (keys wl) cell t.1 : Int) : Rat)⟩
theorem wyL_names (cell : Int) (wl : Wd) : names (wyL cell wl) = keys wl := by unfold names wyL keys; rw [List.map_map]; rfl
theorem wyL_mem {cell : Int} {wl : Wd} {m : Str} {r : Wr} (h : lk wl m = some r) : (⟨m, r.s, r.g, rv (r.a, r.b), ((cstF (keys wl) cell m : Int) : Rat)⟩ : Wy Str) ∈ wyL cell wl := List.mem_map.mpr ⟨(m, r), lk_mem h, rfl⟩
theorem amt_snoc {l : Pl} {k : Str} {x : Rat} (h : k ∉ keys l) (m : Str) : amt (l ++ [(k, x)]) m = amt l m + one k x m := by
  unfold amt one
  rw [lk_append]
  by_cases e : k = m
  · subst e
    rw [lk_none.mpr h, lk_pos rfl, if_pos rfl]
    show x = 0 + x; grind
  · rw [lk_neg e, if_neg e, lk_nil, Option.or_none]; grind
theorem duPl_take (l : Dd) (i : Nat) : duPl (l.take i) = (duPl l).take i := by unfold duPl; rw [List.map_take]
theorem duPl_step {l : Dd} (nd : (keys l).Nodup) {i : Nat} {t : Str × (Int × Int)} (h : l[i]? = some t) (m : Str) : amt (duPl (l.take (i + 1))) m = amt (duPl (l.take i)) m + one t.1 (rv t.2) m := by
  have e : duPl (l.take (i + 1)) = duPl (l.take i) ++ [(t.1, rv t.2)] := by
    rw [take_succ_of h]; unfold duPl; rw [List.map_append]; rfl
  rw [e]
  refine amt_snoc ?_ m
  rw [duPl_keys]
  have : keys (l.take i) = (keys l).take i := by unfold keys; rw [List.map_take]
  rw [this]
  exact not_mem_take nd (by unfold keys; rw [List.getElem?_map, h]; rfl)
theorem worth_one_out {ws : List (Wy Str)} {n : Str} {x : Rat} (h : n ∉ names ws) : worthF ws (one n x) = 0 := by
  induction ws with
  | nil => rfl
  | cons w r ih =>
    have h1 : n ≠ w.name := fun e => h (by rw [e]; exact List.mem_cons_self)
    have h2 : n ∉ names r := fun k => h (List.mem_cons_of_mem _ k)
    simp only [worthF, ih h2]
    simp only [one, if_neg h1]; grind
theorem worth_one {ws : List (Wy Str)} {w : Wy Str} {x : Rat} (nd : (names ws).Nodup) (h : w ∈ ws) : worthF ws (one w.name x) = x * w.cost := by
  induction ws with
  | nil => exact absurd h List.not_mem_nil
  | cons v r ih =>
    obtain ⟨n1, n2⟩ := List.nodup_cons.mp (show (v.name :: names r).Nodup from nd)
    rcases List.mem_cons.mp h with e | hr
    · subst e
      simp only [worthF, worth_one_out (x := x) n1]
      simp only [one, if_pos rfl]; grind
    · have hne : w.name ≠ v.name := fun e => n1 (by rw [← e]; exact List.mem_map.mpr ⟨w, hr, rfl⟩)
      simp only [worthF, ih n2 hr]
      simp only [one, if_neg hne]; grind
theorem osum_step {ps : List Str} {wl : Wd} {l : Dd} (cell : Int) (wo : WdOk ps wl) (nd : (keys l).Nodup) {i : Nat} {t : Str × (Int × Int)} {r : Wr} (h : l[i]? = some t) (hr : lk wl t.1 = some r) (p : Str) :
    osum (wyL cell wl) (amt (duPl (l.take (i + 1)))) p = osum (wyL cell wl) (amt (duPl (l.take i))) p + rv t.2 * ((if r.g = p then rv (r.a, r.b) else 0) - (if r.s = p then 1 else 0)) := by
  rw [osum_congr (g := fun m => amt (duPl (l.take i)) m + one t.1 (rv t.2) m) fun w _ => duPl_step nd h w.name, osum_add]
  rw [osum_one (w := ⟨t.1, r.s, r.g, rv (r.a, r.b), ((cstF (keys wl) cell t.1 : Int) : Rat)⟩) (by rw [wyL_names]; exact wo.nd) (wyL_mem hr)]
theorem worth_step {ps : List Str} {wl : Wd} {l : Dd} (cell : Int) (wo : WdOk ps wl) (nd : (keys l).Nodup) {i : Nat} {t : Str × (Int × Int)} {r : Wr} (h : l[i]? = some t) (hr : lk wl t.1 = some r) :
    worthF (wyL cell wl) (amt (duPl (l.take (i + 1)))) = worthF (wyL cell wl) (amt (duPl (l.take i))) + rv t.2 * ((cstF (keys wl) cell t.1 : Int) : Rat) := by
  rw [worth_congr (g := fun m => amt (duPl (l.take i)) m + one t.1 (rv t.2) m) fun w _ => duPl_step nd h w.name, worth_add]
  rw [worth_one (w := ⟨t.1, r.s, r.g, rv (r.a, r.b), ((cstF (keys wl) cell t.1 : Int) : Rat)⟩) (by rw [wyL_names]; exact wo.nd) (wyL_mem hr)]
/-- at each place a pair that tells F -/
structure BrOk (ps : List Str) (F : Str → Rat) (b : Nat) (m : Dd) : Prop where
  ks : keys m = ps
  ok : ∀ p ∈ ps, ∃ q, lk m p = some q ∧ 0 < q.2 ∧ PSz b q ∧ rv q = F p
theorem BrOk.put {ps : List Str} {F F' : Str → Rat} {b b' : Nat} {m : Dd} {p : Str} {q : Int × Int} (h : BrOk ps F b m) (hp : p ∈ ps) (q2 : 0 < q.2) (qz : PSz b' q) (hb : b ≤ b') (e : F' p = rv q) (ee : ∀ p', p' ≠ p → F' p' = F p') : BrOk ps F' b' (put m p q) := by
  refine ⟨?_, fun p' hp' => ?_⟩
  · rw [keys_put, if_pos (by rw [h.ks]; exact hp), h.ks]
  · rw [lk_put]
    by_cases z : p' = p
    · subst z
      rw [if_pos rfl]
      exact ⟨q, rfl, q2, qz, e.symm⟩
    · rw [if_neg z]
      obtain ⟨q', a, b, c, d⟩ := h.ok p' hp'
      exact ⟨q', a, b, c.up hb, by rw [d, ee p' z]⟩
def spLBr (cell : Int) : Sp := fun vs H Q _ => ∃ (G : Hp) (x y z : V) (ps : List Str) (wl : Wd) (l : Dd) (D : Nat), vs = [x, y, z] ∧ Same G H ∧ LstAt StrAt G x ps ∧ ps.Nodup ∧ ps.length ≤ 100 ∧ DctAt WrAt G y wl ∧ WdOk ps wl ∧ DctE PI G z l ∧ DuOk wl D 8000 l ∧
  Ret G H Q (fun v G' => ∃ m, DctAt PI G' v m ∧ BrOk ps (osum (wyL cell wl) (amt (duPl l))) 200000 m)
theorem rv_zero : rv (0, 1) = 0 := rv_eq (by decide) (by show (0 : Rat) * _ = ((0 : Int) : Rat); rw [Rat.zero_mul]; rfl)
theorem rv_neg {p : Int × Int} (h : p.2 ≠ 0) : rv (0 - p.1, p.2) = -rv p := by
  refine rv_eq h ?_
  have e1 := rv_mul h
  show (-rv p) * (p.2 : Rat) = ((0 - p.1 : Int) : Rat)
  rw [show (0 - p.1 : Int) = -p.1 by omega, Rat.intCast_neg, ← e1]; grind
section
variable {P : Program} {w : World} {K : PySem.W.Frag} {mg : Str → Option Value} {base : Heap} {c : Cl} {f : Addr} {fd : FuncData}
abbrev nBr : List Str := ["_law_spots", "_law_ways_here", "_law_due_here", "_law_at_spots", "_law_spot", "_law_name", "_law_way_here", "_law_put"]
theorem scLBr : FnScope nBr ["_law_spots", "_law_ways_here", "_law_due_here"] (defScope sLBr) := ⟨rfl, rfl, rfl, by decide +kernel, rfl, by decide +kernel, by decide +kernel⟩
theorem ok_lbr (cell : Int) (F : FnP K "_law_brought" "_law_brought" sLBr f fd) (T : Txt K mg c) (S1 : Fn P w K mg base "_law_plus" 1 ["_law_one", "_law_other"] [] spLP) (S2 : Fn P w K mg base "_law_times" 1 ["_law_one", "_law_other"] [] spLT) :
    FnOk P w K mg base CX0 2 f fd ["_law_spots", "_law_ways_here", "_law_due_here"] (spLBr cell) := by
  refine F.ok scLBr (fun vs H Q E h => ?_) (fun cdv A outer s H vs Q E hr h => ?_)
  · obtain ⟨G, x, y, z, ps, wl, l, D, rfl, _⟩ := h
    rfl
  · obtain ⟨G, x, y, z, ps, wl, l, D, rfl, s, hx, ndp, pl, hy, wo, hz, du, k⟩ := h
    refine ⟨_, PSs.nox (pss_cons (ps_set (i := 3) scLBr.nd rfl (Or.inl rfl) pe_dnewK)
      (pss_cons (ps_for PassesOwn.never rfl (pi_list (pv 0)) (pg_name (i := 4) scLBr.nd rfl (Or.inl rfl))
        (pss_one (ps_dput (hu_of hr) (pv 3) (pv 4) (pe_tup (pa_cons pe_int (pa_cons pe_int pa_nil))) rfl)))
      (pss_cons (ps_lock (ps_for PassesOwn.never rfl (pi_keys (pv 2)) (pg_name (i := 5) scLBr.nd rfl (Or.inl rfl))
        (pss_cons (ps_set (i := 6) scLBr.nd rfl (Or.inl rfl) (pe_dget (hu_of hr) (pv 1) (pv 5) (fun _ _ => rfl)))
        (pss_cons (ps_set (i := 7) scLBr.nd rfl (Or.inl rfl) (pe_dget (hu_of hr) (pv 2) (pv 5) (fun _ _ => rfl)))
        (pss_cons (ps_dput (hu_of hr) (pv 3) (pe_ix ix_tup (pv 6) pe_int (fun _ _ => rfl)) (pe_fn S1 hr (by rfl) (pa_cons (pe_dget (hu_of hr) (pv 3) (pe_ix ix_tup (pv 6) pe_int (fun _ _ => rfl)) (fun _ _ => rfl)) (pa_cons (pe_tup (pa_cons (pe_op op_sub pe_int (pe_ix ix_tup (pv 7) pe_int (fun _ _ => rfl))) (pa_cons (pe_ix ix_tup (pv 7) pe_int (fun _ _ => rfl)) pa_nil))) pa_nil))) rfl)
        (pss_one (ps_dput (hu_of hr) (pv 3) (pe_ix ix_tup (pv 6) pe_int (fun _ _ => rfl)) (pe_fn S1 hr (by rfl) (pa_cons (pe_dget (hu_of hr) (pv 3) (pe_ix ix_tup (pv 6) pe_int (fun _ _ => rfl)) (fun _ _ => rfl)) (pa_cons (pe_fn S2 hr (by rfl) (pa_cons (pv 7) (pa_cons (pe_ix ix_tup (pv 6) pe_int (fun _ _ => rfl)) pa_nil))) pa_nil))) rfl)))))))
      (pss_one (ps_ret (pv 3)))))), ?_⟩
    intro d hd
    have e0 := Ext.tmp (o := .dK []) s hd
    have zl : ∀ ps : List Str, keys (ps.map fun p => (p, ((0 : Int), (1 : Int)))) = ps := fun ps => by
      unfold keys; rw [List.map_map]; exact List.map_id _
    refine ⟨_, rfl, ?_⟩
    refine for_lst (R := StrAt) StrAt.mono hx (Same.refl G) e0 (fun i σ G' H' => ∃ v4, σ = [some x, some y, some z, some (.ref d), v4, none, none, none] ∧ Own PI G' H' d ((ps.map fun p => (p, ((0 : Int), (1 : Int)))).take i))
      ⟨none, rfl, Own.nil s hd⟩ (fun i p u σ G2 H2 hi hu sl e iv => ?_) (fun σ G1 H1 sl e1 iv => ?_)
    · obtain ⟨v4, rfl, o⟩ := iv
      have hu : u = .str p := hu
      subst hu
      refine ⟨by show 2 ≤ sizeLine; decide, fun tp np => ?_⟩
      have i3 := Ext.imm (p := tp) (o := .tup [.int 0, .int 1]) e.gh np
      have o3 := o.ext PI.mono i3
      have il := (List.getElem?_eq_some_iff.mp hi).1
      obtain ⟨H6, dp, o6, u6, eo⟩ := o3.put (k := p) (x := ((0 : Int), (1 : Int))) (v := .ref tp) PI.mk (line100 (by rw [List.length_take, List.length_map]; omega))
      have e6 := (e.trans i3).wr (o := u6) hd o3.choose_spec.1
      rw [← eo] at e6
      have := put_snoc (l := ps.map fun p => (p, ((0 : Int), (1 : Int)))) (p := (p, ((0 : Int), (1 : Int)))) (by rw [zl]; exact ndp) (i := i) (by rw [List.getElem?_map, hi]; rfl)
      rw [this] at o6
      exact ⟨_, rfl, _, rfl, d, H6, rfl, dp, _, sl.trans i3.g, e6, _, rfl, o6⟩
    obtain ⟨v4, rfl, o1⟩ := iv
    rw [List.take_of_length_le (by rw [List.length_map]; omega)] at o1
    obtain ⟨a, kvs, rfl, hk, hp⟩ := id hz
    have hk1 := e1.g _ _ hk
    refine ⟨a, _, e1.gh _ _ hk1, trivial, fun od => ?_⟩
    refine ⟨_, rfl, a, od, rfl, .inl ⟨kvs, upd_same, ?_⟩⟩
    have ad : d ≠ a := fun z => by have := Same.free s hd; rw [z, hk] at this; cases this
    have hdL : upd H a (lck od kvs) d = none := by rw [upd_ne ad]; exact hd
    have eL : Ext (upd G a (lck od kvs)) (upd H a (lck od kvs)) (upd G1 a (lck od kvs)) (upd H1 a (lck od kvs)) := e1.lock
    have lm := lock_sm (od := od) hk
    have oL := o1.turn (a := a) (o' := lck od kvs) hk1 (lock_sm hk1) PI.mono
    have hyL := hy.up WrAt.mono lm
    have hzL := hz.at.up PI.mono lm
    have ll : l.length ≤ 12 := by
      have := pigeon du.nd du.sub
      rw [keys_len, keys_len] at this
      have := wo.len
      omega
    refine for_keys (l := l) hp (fun i σ H' => ∃ G' v5 v6 v7 m, σ = [some x, some y, some (.ref a), some (.ref d), v4, v5, v6, v7] ∧ Ext (upd G a (lck od kvs)) (upd H a (lck od kvs)) G' H' ∧ Own PI G' H' d m ∧ BrOk ps (osum (wyL cell wl) (amt (duPl (l.take i)))) (1 + 16100 * i) m)
      ⟨_, none, none, none, _, rfl, eL, oL, ⟨zl ps, fun p hp => ⟨(0, 1), ?_, by decide, ⟨by decide, by decide⟩, ?_⟩⟩⟩ (fun i σ H' _ z => ?_) (fun i pr σ H' hi z => ?_) (fun σ H' z => ?_)
    · exact lk_of_mem (by rw [zl]; exact ndp) (List.mem_map.mpr ⟨p, hp, rfl⟩)
    · rw [rv_zero]
      exact ((osum_congr (g := fun _ => 0) fun w _ => rfl).trans (osum_zero _ p)).symm
    · obtain ⟨G', v5, v6, v7, m, _, e, _⟩ := z
      exact (unl s hk e).1
    · obtain ⟨G2, v5, v6, v7, m, rfl, e, o, br⟩ := z
      have mem := List.mem_of_getElem? hi
      have il := (List.getElem?_eq_some_iff.mp hi).1
      have dq := du.ok _ mem
      obtain ⟨r, er⟩ := lk_some (du.sub pr.1 (List.mem_map.mpr ⟨pr, mem, rfl⟩))
      have ro : WrOk ps r := wo.ok _ (lk_mem er)
      obtain ⟨a1, w1, ea1, g1, r1⟩ := (hyL.up WrAt.mono (same_sm e.g)).get e.gh er
      obtain ⟨a2, w2, ea2, g2, r2⟩ := (hzL.up PI.mono (same_sm e.g)).get e.gh (lk_of_mem du.nd mem)
      obtain ⟨t, vg, rfl, ht, hg⟩ := id r1
      obtain ⟨t2, rfl, ht2⟩ := r2.obj
      have hT : ∀ {G' H'}, Same G2 G' → Same G' H' → SqT K H' t [.str r.s, .str r.g, vg, .int r.k] := fun s1 s2 => SqT.of (s2 _ _ (s1 _ _ ht))
      have hT2 : SqT K H' t2 [.int pr.2.1, .int pr.2.2] := SqT.of (e.gh _ _ ht2)
      obtain ⟨q, eq, q2, qz, qv⟩ := br.ok r.s ro.s
      obtain ⟨u, dg, hu⟩ := o.get eq
      refine ⟨_, rfl, _, rfl, a1, _, ea1, g1, _, rfl, _, rfl, a2, _, ea2, g2, ?_⟩
      refine ⟨_, rfl, _, rfl, t, _, 0, _, rfl, rfl, hT (Same.refl _) e.gh, rfl, d, u, rfl, dg, _, rfl, t2, _, 0, _, rfl, rfl, hT2, rfl, _, _, rfl, rfl, _, rfl, t2, _, 1, _, rfl, rfl, hT2, rfl, by show 2 ≤ sizeLine; decide, fun tp np => ?_⟩
      have i3 := Ext.imm (p := tp) (o := .tup [.int (0 - pr.2.1), .int pr.2.2]) e.gh np
      have dqz := dq.sz
      have nz : PSz 8000 (0 - pr.2.1, pr.2.2) := ⟨by show (0 - pr.2.1).natAbs < _; have := dqz.a; omega, dqz.b⟩
      refine ⟨_, u, .ref tp, q, _, rfl, i3.gh, PI.mono (same_sm i3.g) hu, PI.mk, qz.up (by omega), nz.up (by decide), fun v5 G5 H5 e5 h5 => ?_⟩
      have e35 := i3.trans e5
      have o5 := o.ext PI.mono e35
      have ml : m.length < sizeLine := line100 (by rw [← keys_len, br.ks]; omega)
      obtain ⟨H6, dp, o6, u6, eo⟩ := o5.put (k := r.s) h5 ml
      have e6 := (e.trans e35).wr (o := u6) hdL o5.choose_spec.1
      rw [← eo] at e6
      refine ⟨_, rfl, _, rfl, t, _, 0, _, rfl, rfl, hT e35.g e35.gh, rfl, d, H6, rfl, dp, ?_⟩
      have dq2 := dq.d
      have pv1 : rv (plI q (0 - pr.2.1, pr.2.2)) = rv q - rv pr.2 := by
        rw [rv_pl (by omega) (by show pr.2.2 ≠ 0; omega), rv_neg (by omega)]; grind
      have br6 := br.put (b' := 1 + 16100 * i + 8001) (F' := fun p => osum (wyL cell wl) (amt (duPl (l.take i))) p - (if r.s = p then rv pr.2 else 0)) (q := plI q (0 - pr.2.1, pr.2.2)) ro.s (Int.mul_pos q2 dq2) (qz.pl nz) (by omega) (by
        show _ - _ = _
        rw [if_pos rfl, pv1, qv]) (fun p' hp' => by
        show _ - _ = _
        rw [if_neg (fun z => hp' z.symm)]; grind)
      obtain ⟨q', eq', q2', qz', qv'⟩ := br6.ok r.g ro.g
      obtain ⟨u', dg', hu'⟩ := o6.get eq'
      have pgz : PSz 10 (r.a, r.b) := ⟨by show r.a.natAbs < 1024; have := ro.a1; have := ro.a2; omega, by show r.b.natAbs < 1024; have := ro.b1; have := ro.b2; omega⟩
      refine ⟨_, rfl, _, rfl, t, _, 1, _, rfl, rfl, hT e35.g e6.gh, rfl, d, u', rfl, dg', _, rfl, _, rfl, t, _, 2, _, rfl, rfl, hT e35.g e6.gh, rfl, ?_⟩
      refine ⟨G5, .ref t2, vg, pr.2, (r.a, r.b), rfl, e6.gh, PI.mono (same_sm e35.g) r2, PI.mono (same_sm e35.g) hg, dqz.up (by decide), pgz.up (by decide), fun v7 G7 H7 e7 h7 => ?_⟩
      have tz : PSz 8010 (tmI pr.2 (r.a, r.b)) := dqz.tm pgz
      refine ⟨G7, u', v7, q', _, rfl, e7.gh, PI.mono (same_sm e7.g) hu', h7, qz'.up (by omega), tz.up (by decide), fun v9 G9 H9 e9 h9 => ?_⟩
      have e79 := e7.trans e9
      have o9 := o6.ext PI.mono e79
      have ml' : (put m r.s (plI q (0 - pr.2.1, pr.2.2))).length < sizeLine := line100 (by rw [← keys_len, br6.ks]; omega)
      obtain ⟨H10, dp10, o10, u10, eo10⟩ := o9.put (k := r.g) h9 ml'
      have e10 := (e6.trans e79).wr (o := u10) hdL o9.choose_spec.1
      rw [← eo10] at e10
      refine ⟨_, rfl, _, rfl, t, _, 1, _, rfl, rfl, hT (e35.g.trans e79.g) e79.gh, rfl, d, H10, rfl, dp10, G9, _, _, _, _, rfl, e10, o10, ?_⟩
      have rb := ro.b1
      have pv2 : rv (plI q' (tmI pr.2 (r.a, r.b))) = rv q' + rv pr.2 * rv (r.a, r.b) := by
        rw [rv_pl (by omega) (Int.mul_ne_zero (by omega) (by show r.b ≠ 0; omega)), rv_tm (by omega) (by show r.b ≠ 0; omega)]
      refine br6.put ro.g (Int.mul_pos q2' (Int.mul_pos dq2 (by show 0 < r.b; omega))) ((qz'.pl tz).up (by omega)) (by omega) ?_ (fun p' hp' => ?_)
      · rw [pv2, qv', osum_step cell wo du.nd hi er, if_pos rfl]
        show _ = _ - (if r.s = r.g then rv pr.2 else 0) + _
        split <;> grind
      · rw [osum_step cell wo du.nd hi er, if_neg (fun z => hp' z.symm)]
        show _ = _ - (if r.s = p' then rv pr.2 else 0)
        split <;> grind
    · obtain ⟨G2, v5, v6, v7, m, rfl, e, o, br⟩ := z
      obtain ⟨q1, q2, q3⟩ := unl s hk e
      rw [List.take_length] at br
      have g1 : G2 a = some (lck od kvs) := e.g a _ upd_same
      have o2 := o.turn (a := a) (o' := .dK kvs) g1 q3 PI.mono
      obtain ⟨G3, e3, hD, _⟩ := o2.doneE PI.mono s q2 hd
      exact ⟨q1, _, rfl, k _ _ _ e3 ⟨m, hD.at, br.ks, fun p hp => by
        obtain ⟨q, a, b, cc, dd⟩ := br.ok p hp
        exact ⟨q, a, b, cc.up (by omega), dd⟩⟩⟩
end
end GH
end
section
set_option maxRecDepth 100000
set_option maxHeartbeats 4000000
/-! _law_way, _law_net. -/
namespace GH
open PySem PySem.Spec PyProof.Rows L2 GM
theorem sm_div {n d : Int} (d0 : 0 < d) (hd : d ≤ 1024) (hn : n.natAbs ≤ 1024) : Sm10 (Rat.divInt n d) := by
  refine ⟨?_, ?_⟩
  · rw [Rat.den_divInt, if_neg (by omega)]
    exact Nat.le_trans (Nat.div_le_self _ _) (by show d.natAbs ≤ 1024; omega)
  · rw [Rat.num_divInt, Int.sign_eq_one_of_pos d0, Int.one_mul]
    exact Nat.le_trans (Int.natAbs_ediv_le_natAbs _ _) hn
theorem rv_pos {p : Int × Int} (h1 : 0 < p.1) (h2 : 0 < p.2) : 0 < rv p := by
  unfold rv
  exact div_pos' (Rat.intCast_lt_intCast (a := 0) |>.mpr h1) (Rat.intCast_lt_intCast (a := 0) |>.mpr h2)
theorem rv_one {p : Int × Int} (h : p.2 ≠ 0) (e : p.1 = p.2) : rv p = 1 := rv_eq h (by rw [e]; exact Rat.one_mul _)
theorem rv_less {a b : Int} (h : b ≠ 0) : rv (b - a, b) = 1 - rv (a, b) := by
  have e := rv_mul (p := (a, b)) h
  refine rv_eq h ?_
  show (1 - rv (a, b)) * (b : Rat) = ((b - a : Int) : Rat)
  rw [Rat.intCast_sub, ← show rv (a, b) * (b : Rat) = (a : Rat) from e]; grind
theorem rv_le_one {a b : Int} (h : 0 < b) (k : a ≤ b) : rv (a, b) ≤ 1 := by
  unfold rv
  rw [div_le_iff' (Rat.intCast_lt_intCast (a := 0) |>.mpr h), Rat.one_mul]
  exact Rat.intCast_le_intCast.mpr k
theorem WrOk.wy {ps : List Str} {r : Wr} (h : WrOk ps r) {x : Rat} (hx : Sm10 x) (m : Str) : WyOk ⟨m, r.s, r.g, rv (r.a, r.b), x⟩ := by
  have h1 := h.a1
  have h2 := h.a2
  have h3 := h.b1
  have h4 := h.b2
  refine ⟨rv_pos (by show 0 < r.a; omega) (by show 0 < r.b; omega), ?_, ?_, hx⟩
  · show Sm10 (rv (r.a, r.b))
    rw [rv_div]; exact sm_div (by show 0 < r.b; omega) (by show r.b ≤ 1024; omega) (by show r.a.natAbs ≤ 1024; omega)
  · show Sm10 (1 - rv (r.a, r.b))
    rw [← rv_less (by omega), rv_div]; exact sm_div (by show 0 < r.b; omega) (by show r.b ≤ 1024; omega) (by show (r.b - r.a).natAbs ≤ 1024; omega)
theorem okHigh.up {c : Cl} {G G' : Hp} {v : V} (h : okHigh c G v) (s : Same G G') : okHigh c G' v := by
  rcases h with h | ⟨x, h, k⟩
  · exact .inl h
  · exact .inr ⟨x, Fr.mono (same_sm s) h, k⟩
theorem cf1000 {d : Int} (h : 0 < d) (k : d ≤ 1024) : CF d := ⟨by omega, Nat.lt_of_le_of_lt (show d.natAbs ≤ 2 ^ 10 by show d.natAbs ≤ 1024; omega) (Nat.pow_lt_pow_right (by decide) (by decide))⟩
def spLWy (c : Cl) : Sp := fun vs H Q _ => ∃ (G : Hp) (m : Str) (y vh vc : V) (ps : List Str) (r : Wr) (x : Rat), vs = [.str m, y, vh, vc] ∧ Same G H ∧ WrAt G y r ∧ WrOk ps r ∧ okHigh c G vh ∧ Fr c G vc x ∧ Sm10 x ∧
  Ret G H Q (fun v G' => WayAt c G' v ⟨m, r.s, r.g, rv (r.a, r.b), x⟩)
section
variable {P : Program} {w : World} {K : PySem.W.Frag} {mg : Str → Option Value} {base : Heap} {c : Cl} {f : Addr} {fd : FuncData}
theorem scLWy : FnScope ["_law_name", "_law_parts", "_law_high", "_law_cost_here", "_law_gain_here"] ["_law_name", "_law_parts", "_law_high", "_law_cost_here"] (defScope sLW) := ⟨rfl, rfl, rfl, by decide +kernel, rfl, by decide +kernel, by decide +kernel⟩
theorem ok_lwy (F : FnP K "_law_way" "_law_way" sLW f fd) (T : Txt K mg c) (M : FrM P w K mg base c) (M1 : Mkr P w K mg base "Way" c.W 2 ["self", "name", "start", "goal", "high", "cost"] [] (spWI c K))
    (M2 : Mkr P w K mg base "Growing" c.G 3 ["self", "name", "start", "goal", "rate", "high", "cost"] [] (spGI c)) (M3 : Mkr P w K mg base "Leaking" c.L 5 ["self", "name", "start", "goal", "loss", "high", "cost"] [] (spLI c)) :
    FnOk P w K mg base CX0 7 f fd ["_law_name", "_law_parts", "_law_high", "_law_cost_here"] (spLWy c) := by
  refine F.ok scLWy (fun vs H Q E h => ?_) (fun cdv A outer s H vs Q E hr h => ?_)
  · obtain ⟨G, m, y, vh, vc, ps, r, x, rfl, _⟩ := h
    rfl
  · obtain ⟨G, m, y, vh, vc, ps, r, x, rfl, s, hy, ro, hh, hc, hx, k⟩ := h
    refine ⟨_, PSs.nox (pss_cons (ps_set (i := 4) scLWy.nd rfl (Or.inl rfl) (pe_ix ix_tup (pv 1) pe_int (fun _ _ => rfl)))
      (C8.pss_cut (ps_if (pw_and (pt_cmpR op_eq (pe_ix ix_tup (pv 4) pe_int (fun _ _ => rfl)) (pe_ix ix_tup (pv 4) pe_int (fun _ _ => rfl)) (nomark _)) (pw_and1 (pt_cmpR op_eq (pe_ix ix_tup (pv 1) pe_int (fun _ _ => rfl)) pe_int (nomark _)))).pt
        (pss_one (ps_ret (pe_mkR M1 (fun vs H Q z => imp_way T z) (hr.mono (by decide)) (by rfl) (pa_cons (pv 0) (pa_cons (pe_ix ix_tup (pv 1) pe_int (fun _ _ => rfl)) (pa_cons (pe_ix ix_tup (pv 1) pe_int (fun _ _ => rfl)) (pa_cons (pv 2) (pa_cons (pv 3) pa_nil)))))))) pss_nil)
      (C8.pss_cut (ps_if (pw_and (pt_cmpR op_le (pe_ix ix_tup (pv 4) pe_int (fun _ _ => rfl)) (pe_ix ix_tup (pv 4) pe_int (fun _ _ => rfl)) (nomark _)) (pw_and1 (pt_cmpR op_eq (pe_ix ix_tup (pv 1) pe_int (fun _ _ => rfl)) pe_int (nomark _)))).pt
        (pss_one (ps_ret (pe_mkR M3 (fun vs H Q z => imp_leak T z) hr (by rfl) (pa_cons (pv 0) (pa_cons (pe_ix ix_tup (pv 1) pe_int (fun _ _ => rfl)) (pa_cons (pe_ix ix_tup (pv 1) pe_int (fun _ _ => rfl)) (pa_cons (pe_fr M.mkf2 (hr.mono (by decide)) (by rfl) (pa_cons (pe_op op_sub (pe_ix ix_tup (pv 4) pe_int (fun _ _ => rfl)) (pe_ix ix_tup (pv 4) pe_int (fun _ _ => rfl))) (pa_cons (pe_ix ix_tup (pv 4) pe_int (fun _ _ => rfl)) pa_nil))) (pa_cons (pv 2) (pa_cons (pv 3) pa_nil))))))))) pss_nil)
      (pss_one (ps_ret (pe_mkR M2 (fun vs H Q z => imp_grow T z) (hr.mono (by decide)) (by rfl) (pa_cons (pv 0) (pa_cons (pe_ix ix_tup (pv 1) pe_int (fun _ _ => rfl)) (pa_cons (pe_ix ix_tup (pv 1) pe_int (fun _ _ => rfl)) (pa_cons (pe_fr M.mkf2 (hr.mono (by decide)) (by rfl) (pa_cons (pe_ix ix_tup (pv 4) pe_int (fun _ _ => rfl)) (pa_cons (pe_ix ix_tup (pv 4) pe_int (fun _ _ => rfl)) pa_nil))) (pa_cons (pv 2) (pa_cons (pv 3) pa_nil)))))))))))), ?_⟩
    obtain ⟨t, vg, rfl, ht, hg⟩ := hy
    obtain ⟨tg, rfl, htg⟩ := hg.obj
    have hT : SqT K H t [.str r.s, .str r.g, .ref tg, .int r.k] := SqT.of (s _ _ ht)
    have hG : SqT K H tg [.int r.a, .int r.b] := SqT.of (s _ _ htg)
    have b1 := ro.b1
    have b2 := ro.b2
    have wok := ro.wy hx m
    refine ⟨_, rfl, t, _, 2, _, rfl, rfl, hT, rfl, ?_⟩
    refine ⟨fun σ' H' => σ' = [some (.str m), some (.ref t), some vh, some vc, some (.ref tg)] ∧ H' = H, ?_, fun σ' H' ⟨e1, e2⟩ => ?_⟩
    · refine ⟨_, rfl, tg, _, 0, _, rfl, rfl, hG, rfl, _, rfl, tg, _, 1, _, rfl, rfl, hG, rfl, rfl, _, rfl, ?_⟩
      by_cases eq : r.a = r.b
      · refine iteDT (by rw [eq]) ⟨_, rfl, t, _, 3, _, rfl, rfl, hT, rfl, rfl, _, rfl, ?_⟩
        by_cases k0 : r.k = 0
        · refine iteDT (by rw [k0]) ⟨_, rfl, _, rfl, t, _, 0, _, rfl, rfl, hT, rfl, _, rfl, t, _, 1, _, rfl, rfl, hT, rfl, _, rfl, _, rfl, ?_⟩
          have g1 : rv (r.a, r.b) = 1 := rv_one (by show r.b ≠ 0; omega) eq
          rw [g1] at wok k
          exact ⟨G, m, r.s, r.g, vh, vc, x, rfl, s, ro.ne, hh, hc, wok, k⟩
        · exact iteDF (fun z => k0 (V.int.inj z)) ⟨rfl, rfl⟩
      · exact iteDF (fun z => eq (V.int.inj z)) (iteF ⟨rfl, rfl⟩)
    · have e2 := e2.symm
      subst e1 e2
      refine ⟨fun σ' H' => σ' = [some (.str m), some (.ref t), some vh, some vc, some (.ref tg)] ∧ H' = H, ?_, fun σ' H' ⟨e1, e2⟩ => ?_⟩
      · refine ⟨_, rfl, tg, _, 0, _, rfl, rfl, hG, rfl, _, rfl, tg, _, 1, _, rfl, rfl, hG, rfl, _, _, rfl, rfl, _, rfl, ?_⟩
        by_cases le : r.a ≤ r.b
        · refine iteDT le ⟨_, rfl, t, _, 3, _, rfl, rfl, hT, rfl, rfl, _, rfl, ?_⟩
          by_cases k0 : r.k = 1
          · refine iteDT (by rw [k0]) ⟨_, rfl, _, rfl, t, _, 0, _, rfl, rfl, hT, rfl, _, rfl, t, _, 1, _, rfl, rfl, hT, rfl, _, rfl, tg, _, 1, _, rfl, rfl, hG, rfl, _, rfl, tg, _, 0, _, rfl, rfl, hG, rfl, _, _, rfl, rfl, _, rfl, tg, _, 1, _, rfl, rfl, hG, rfl, ?_⟩
            refine ⟨G, r.b - r.a, r.b, rfl, s, cf1000 (by omega) (by omega), fun vl G2 H2 e2 hl => ?_⟩
            have el : Rat.divInt (r.b - r.a) r.b = 1 - rv (r.a, r.b) := by rw [← rv_less (by omega), rv_div]
            rw [el] at hl
            exact ⟨_, rfl, _, rfl, G2, m, r.s, r.g, vl, vh, vc, rv (r.a, r.b), x, rfl, e2.gh, ro.ne, hh.up e2.g, Fr.mono (same_sm e2.g) hc, hl, rv_le_one (by omega) le, wok, fun v G3 H3 e3 h3 => k _ _ _ (e2.trans e3) h3⟩
          · exact iteDF (fun z => k0 (V.int.inj z)) ⟨rfl, rfl⟩
        · exact iteDF le (iteF ⟨rfl, rfl⟩)
      · have e2 := e2.symm
        subst e1 e2
        refine ⟨_, rfl, _, rfl, t, _, 0, _, rfl, rfl, hT, rfl, _, rfl, t, _, 1, _, rfl, rfl, hT, rfl, _, rfl, tg, _, 0, _, rfl, rfl, hG, rfl, _, rfl, tg, _, 1, _, rfl, rfl, hG, rfl, ?_⟩
        refine ⟨G, r.a, r.b, rfl, s, cf1000 (by omega) (by omega), fun vl G2 H2 e2 hl => ?_⟩
        have el : Rat.divInt r.a r.b = rv (r.a, r.b) := by rw [rv_div]
        rw [el] at hl
        exact ⟨_, rfl, _, rfl, G2, m, r.s, r.g, vl, vh, vc, rv (r.a, r.b), x, rfl, e2.gh, ro.ne, hh.up e2.g, Fr.mono (same_sm e2.g) hc, hl, wok, fun v G3 H3 e3 h3 => k _ _ _ (e2.trans e3) h3⟩
end
end GH
end
section
set_option maxRecDepth 100000
set_option maxHeartbeats 4000000
/-! _law_net. -/
namespace GH
open PySem PySem.Spec PyProof.Rows L2 GM
theorem sm_int {i : Int} (h : i.natAbs ≤ 1024) : Sm10 ((i : Int) : Rat) := by
  refine ⟨?_, ?_⟩
  · rw [Rat.den_intCast]; decide
  · rw [Rat.num_intCast]; exact h
theorem sm_cst (ks : List Str) (cell : Int) (m : Str) : Sm10 ((cstF ks cell m : Int) : Rat) := by
  have := cst_le ks cell m
  exact sm_int (by omega)
theorem wyL_len (cell : Int) (wl : Wd) : (wyL cell wl).length = wl.length := by unfold wyL; rw [List.length_map]
/-- the net that the law's dict tells -/
abbrev ntL (ps : List Str) (cell : Int) (wl : Wd) : Nt := ⟨ps, wyL cell wl⟩
theorem ntL_ok {ps : List Str} {cell : Int} {wl : Wd} (wo : WdOk ps wl) (nd : ps.Nodup) (p1 : 1 ≤ ps.length) (p4 : ps.length ≤ 4) : NtW (ntL ps cell wl) := by
  have mem : ∀ w ∈ wyL cell wl, ∃ t ∈ wl, w = ⟨t.1, t.2.s, t.2.g, rv (t.2.a, t.2.b), ((cstF (keys wl) cell t.1 : Int) : Rat)⟩ := fun w hw => by
    obtain ⟨t, ht, e⟩ := List.mem_map.mp hw
    exact ⟨t, ht, e.symm⟩
  refine ⟨⟨nd, by show (names (wyL cell wl)).Nodup; rw [wyL_names]; exact wo.nd, fun w hw => ?_, fun w hw => ?_, fun w hw => ?_, p4, p1, by show (wyL cell wl).length ≤ 12; rw [wyL_len]; exact wo.len⟩, fun w hw => ?_, fun w hw => ?_⟩
  · obtain ⟨t, ht, rfl⟩ := mem w hw; exact (wo.ok t ht).s
  · obtain ⟨t, ht, rfl⟩ := mem w hw; exact (wo.ok t ht).g
  · obtain ⟨t, ht, rfl⟩ := mem w hw; exact (wo.ok t ht).ne
  · obtain ⟨t, ht, rfl⟩ := mem w hw; exact (wo.ok t ht).wy (sm_cst _ _ _) t.1
  · obtain ⟨t, ht, rfl⟩ := mem w hw; exact Rat.den_intCast ..
def spLNt (c : Cl) : Sp := fun vs H Q _ => ∃ (G : Hp) (x y : V) (cell : Int) (ps : List Str) (wl : Wd), vs = [x, y, .int cell] ∧ Same G H ∧ LstAt StrAt G x ps ∧ ps.Nodup ∧ 1 ≤ ps.length ∧ ps.length ≤ 4 ∧ DctE WrAt G y wl ∧ WdOk ps wl ∧ Ret G H Q (fun v G' => NetAt c G' v (ntL ps cell wl))
theorem PrAt.mk {α β : Type} {R : Rl α} {S : Rl β} {G : Hp} {p : Addr} {v1 v2 : V} {x : α} {y : β} (g : G p = some (.tup [v1, v2])) (h1 : R G v1 x) (h2 : S G v2 y) : PrAt R S G (.ref p) (x, y) := ⟨p, v1, v2, rfl, g, h1, h2⟩
section
variable {P : Program} {w : World} {K : PySem.W.Frag} {mg : Str → Option Value} {base : Heap} {c : Cl} {f : Addr} {fd : FuncData}
abbrev nNt : List Str := ["_law_spots", "_law_ways_here", "_law_cell", "_law_made", "_law_name", "_law_high", "_law_spot"]
theorem scLNt : FnScope nNt ["_law_spots", "_law_ways_here", "_law_cell"] (defScope sLNt) := ⟨rfl, rfl, rfl, by decide +kernel, rfl, by decide +kernel, by decide +kernel⟩
theorem ok_lnt (F : FnP K "_law_net" "_law_net" sLNt f fd) (T : Txt K mg c) (M : FrM P w K mg base c) (Mn : Mkr P w K mg base "Net" c.N 2 ["self", "places", "ways"] [] (spNI c)) (S1 : Fn P w K mg base "_law_way" 7 ["_law_name", "_law_parts", "_law_high", "_law_cost_here"] [] (spLWy c))
    (S2 : Fn P w K mg base "_law_cost" 1 ["_law_name", "_law_ways_here", "_law_cell"] [] (spLC WrAt)) : FnOk P w K mg base CX0 8 f fd ["_law_spots", "_law_ways_here", "_law_cell"] (spLNt c) := by
  refine F.ok scLNt (fun vs H Q E h => ?_) (fun cdv A outer s H vs Q E hr h => ?_)
  · obtain ⟨G, x, y, cell, ps, wl, rfl, _⟩ := h
    rfl
  · obtain ⟨G, x, y, cell, ps, wl, rfl, s, hx, ndp, p1, p4, hy, wo, k⟩ := h
    refine ⟨_, PSs.nox (pss_cons (ps_set (i := 3) scLNt.nd rfl (Or.inl rfl) (pe_lst pa_nil))
      (pss_cons (ps_lock (ps_for PassesOwn.never rfl (pi_keys (pv 1)) (pg_name (i := 4) scLNt.nd rfl (Or.inl rfl))
        (pss_cons (ps_set (i := 5) scLNt.nd rfl (Or.inl rfl) (pe_ix ix_list (pe_lst (pa_cons pe_non (pa_cons (pe_fr1 M.mkf (hr.mono (by decide)) (by rfl) (pa_cons pe_int pa_nil)) (pa_cons (pe_fr1 M.mkf (hr.mono (by decide)) (by rfl) (pa_cons pe_int pa_nil)) pa_nil)))) (pe_op op_mod (pe_op op_add (pv 2) (pe_callB call_len_seq (by rfl) T.len PySem.boot_len (pa_cons (pv 3) pa_nil))) pe_int) (fun _ _ => rfl)))
        (pss_one (ps_expr (pe_bm PySem.F.plainAttrs_list PySem.F.slot_list_append PySem.F.type_list_append mt_append (pv 3) (pa_cons (pe_fn S1 hr (by rfl) (pa_cons (pv 4) (pa_cons (pe_dget (hu_of hr) (pv 1) (pv 4) (fun _ _ => rfl)) (pa_cons (pv 5) (pa_cons (pe_fr1 M.mkf (hr.mono (by decide)) (by rfl) (pa_cons (pe_fn S2 (hr.mono (by decide)) (by rfl) (pa_cons (pv 4) (pa_cons (pv 1) (pa_cons (pv 2) pa_nil)))) pa_nil)) pa_nil))))) pa_nil)))))))
      (pss_one (ps_ret (pe_mkR Mn (fun vs H Q z => imp_net z) (hr.mono (by decide)) (by rfl) (pa_cons (pe_k (pe_lc (own := [("_law_spot", 6)]) (g := gName 6) (tt := tYes) rfl scLNt.nd (pi_list (pv 0)) (blkOk_by (N := nNt) (sc := defScope sLNt) (by decide +kernel))
          (fun _ _ _ _ _ => pg_name (i := 6) scLNt.nd rfl (Or.inl rfl)) (fun _ _ _ _ _ => pts_nil) (fun _ _ _ _ _ => pe_tup (pa_cons (pv 6) (pa_cons (pe_fr1 M.mkf (hr.mono (by decide)) (by rfl) (pa_cons (pe_op op_sub (pe_op op_mod (pv 2) pe_int) pe_int) pa_nil)) pa_nil))))) (pa_cons (pv 3) pa_nil))))))), ?_⟩
    refine ⟨Nat.zero_le _, fun ds hds => ?_⟩
    have e0 := Ext.tmp (o := .lst []) s hds
    obtain ⟨a, kvs, rfl, hk, hp⟩ := id hy
    refine ⟨a, _, e0.gh _ _ hk, trivial, fun od => ?_⟩
    refine ⟨_, rfl, a, od, rfl, .inl ⟨kvs, upd_same, ?_⟩⟩
    have ad : ds ≠ a := fun z => by have := Same.free s hds; rw [z, hk] at this; cases this
    have hdL : upd H a (lck od kvs) ds = none := by rw [upd_ne ad]; exact hds
    have eL : Ext (upd G a (lck od kvs)) (upd H a (lck od kvs)) (upd G a (lck od kvs)) (upd (upd H ds (.lst [])) a (lck od kvs)) := e0.lock
    have lm := lock_sm (od := od) hk
    have o0 : OwnL (WayAt c) G (upd H ds (.lst [])) ds [] := OwnL.nil s hds
    have oL := o0.turn (a := a) (o' := lck od kvs) hk lm WayAt.mono
    have hyL := hy.at.up WrAt.mono lm
    have kl := wo.len
    refine for_keys (l := wl) hp (fun i σ H' => ∃ G' v4 v5, σ = [some x, some (.ref a), some (.int cell), some (.ref ds), v4, v5, none] ∧ Ext (upd G a (lck od kvs)) (upd H a (lck od kvs)) G' H' ∧ OwnL (WayAt c) G' H' ds ((wyL cell wl).take i))
      ⟨_, none, none, rfl, eL, oL⟩ (fun i σ H' _ z => ?_) (fun i pr σ H' hi z => ?_) (fun σ H' z => ?_)
    · obtain ⟨G', v4, v5, _, e, _⟩ := z
      exact (unl s hk e).1
    · obtain ⟨G2, v4, v5, rfl, e, o⟩ := z
      have mem := List.mem_of_getElem? hi
      have il := (List.getElem?_eq_some_iff.mp hi).1
      refine ⟨G2, 0, rfl, e.gh, fun va G3 H3 e3 ha => ⟨G3, 1, rfl, e3.gh, fun vb G4 H4 e4 hb => ⟨by show 3 ≤ sizeLine; decide, fun p np => ?_⟩⟩⟩
      have e34 := e3.trans e4
      have i5 := e34.trans (Ext.imm (p := p) (o := .lst [.non, va, vb]) e4.gh np)
      have o5 := o.ext WayAt.mono i5
      obtain ⟨xs, gx, hxs, px⟩ := id o5
      obtain ⟨vh, evh, ohh⟩ : ∃ vh, atI [V.non, va, vb] ((cell + (xs.length : Int)) % 3) = some vh ∧ okHigh c (upd G4 p (.lst [.non, va, vb])) vh := by
        have ha' := Fr.mono (same_sm (e4.trans (Ext.imm (p := p) (o := .lst [.non, va, vb]) e4.gh np)).g) ha
        have hb' := Fr.mono (same_sm (Ext.imm (p := p) (o := .lst [.non, va, vb]) e4.gh np).g) hb
        have h3 : (cell + (xs.length : Int)) % 3 = 0 ∨ (cell + (xs.length : Int)) % 3 = 1 ∨ (cell + (xs.length : Int)) % 3 = 2 := by omega
        rcases h3 with h | h | h <;> rw [h]
        · exact ⟨.non, rfl, .inl rfl⟩
        · exact ⟨va, rfl, .inr ⟨_, ha', by decide⟩⟩
        · exact ⟨vb, rfl, .inr ⟨_, hb', by decide⟩⟩
      refine ⟨_, rfl, _, rfl, ds, xs, rfl, .inl (SqL.of hxs), _, _, rfl, rfl, _, _, rfl, rfl, (by show (0 : Int) < 3; decide), p, _, _, _, rfl, rfl, SqL.of upd_same, evh, ?_⟩
      have e15 := e.trans i5
      obtain ⟨a1, w1, ea1, g1, r1⟩ := (hyL.up WrAt.mono (same_sm e15.g)).get e15.gh (lk_of_mem wo.nd mem)
      refine ⟨_, rfl, .inl ⟨rfl, _, SqL.of hxs⟩, _, rfl, _, rfl, _, rfl, a1, _, ea1, g1, _, rfl, _, rfl, _, rfl, _, rfl, ?_⟩
      refine ⟨_, pr.1, .ref a, wl, cell, rfl, e15.gh, hyL.up WrAt.mono (same_sm e15.g), wo.nd, by omega, List.mem_map.mpr ⟨pr, mem, rfl⟩, fun G6 H6 e6 => ?_⟩
      refine ⟨G6, _, rfl, e6.gh, fun vc G7 H7 e7 hc => ?_⟩
      have e67 := e6.trans e7
      refine ⟨G7, pr.1, w1, vh, vc, ps, pr.2, _, rfl, e7.gh, WrAt.mono (same_sm e67.g) r1, wo.ok _ mem, ohh.up e67.g, hc, sm_cst _ _ _, fun v8 G8 H8 e8 h8 => ?_⟩
      have e68 := e67.trans e8
      obtain ⟨ys, gy, hys, py⟩ := o5.ext WayAt.mono e68
      refine ⟨ds, ys, v8, rfl, rfl, hys, line100 (by rw [paired_len py]; have := List.length_take_le' i (wyL cell wl); rw [wyL_len] at this; omega), G8, _, _, rfl, (e15.trans e68).wr hdL gy, ?_⟩
      have : (wyL cell wl)[i]? = some ⟨pr.1, pr.2.s, pr.2.g, rv (pr.2.a, pr.2.b), ((cstF (keys wl) cell pr.1 : Int) : Rat)⟩ := by unfold wyL; rw [List.getElem?_map, hi]; rfl
      rw [take_succ_of this]
      exact OwnL.snoc gy py h8
    · obtain ⟨G2, v4, v5, rfl, e, o⟩ := z
      obtain ⟨q1, q2, q3⟩ := unl s hk e
      rw [List.take_of_length_le (by rw [wyL_len]; omega)] at o
      have g1 : G2 a = some (lck od kvs) := e.g a _ upd_same
      have o2 := o.turn (a := a) (o' := .dK kvs) g1 q3 WayAt.mono
      obtain ⟨G3, e3, hL, _⟩ := o2.done WayAt.mono s q2 hds
      refine ⟨q1, ?_⟩
      generalize upd H' a (.dK kvs) = H3 at *
      refine ⟨_, rfl, ?_⟩
      refine lc_lst (R := StrAt) (S := PrAt StrAt (Fr c)) StrAt.mono (fun s h => PrAt.mono (R := StrAt) (S := Fr c) StrAt.mono Fr.mono s h) (hx.up StrAt.mono (same_sm e3.g)) (Same.refl _) e3.gh (Ext.refl e3.gh) (by omega) (fun i => (ps.take i).map fun p => (p, ((cell % 5 - 2 : Int) : Rat))) rfl (fun i p u G4 H4 hi hu sl e4 Yes No hY _ => ?_) (fun vl G4 H4 sl e4 h4 => ?_)
      · have hu : u = .str p := hu
        subst hu
        refine ⟨rfl, lc_yes ⟨_, rfl, _, rfl, _, _, rfl, rfl, (by show (0 : Int) < 5; decide), _, _, rfl, rfl, G4, _, rfl, e4.gh, fun vw G5 H5 e5 hw => ⟨by show 2 ≤ sizeLine; decide, fun tp np => ?_⟩⟩⟩
        have i6 := e5.trans (Ext.imm (p := tp) (o := .tup [.str p, vw]) e5.gh np)
        refine hY _ _ _ (p, ((cell % 5 - 2 : Int) : Rat)) i6 (PrAt.mk (R := StrAt) (S := Fr c) upd_same rfl (Fr.mono (same_sm (same_new (Same.free e5.gh np))) hw)) ?_
        show (ps.take (i + 1)).map _ = (ps.take i).map _ ++ _
        rw [take_succ_of hi, List.map_append]; rfl
      · rw [List.take_length] at h4
        have e14 := e3.trans e4
        have ke : keys (ps.map fun p => (p, ((cell % 5 - 2 : Int) : Rat))) = ps := by unfold keys; rw [List.map_map]; exact List.map_id _
        refine ⟨_, rfl, G4, vl, .ref ds, _, wyL cell wl, rfl, e4.gh, h4, by rw [ke]; exact ndp, by rw [List.length_map]; omega, hL.up WayAt.mono (same_sm e4.g), by rw [wyL_names]; exact wo.nd, by rw [wyL_len]; omega, fun w hw => ?_, fun v G5 H5 e5 h5 => ?_⟩
        · rw [ke]
          have ok := ntL_ok (cell := cell) wo ndp p1 p4
          exact ⟨ok.ok.st w hw, ok.ok.go w hw⟩
        · rw [ke] at h5
          exact k _ _ _ (e14.trans e5) h5
end
end GH
end
section
set_option maxRecDepth 100000
set_option maxHeartbeats 4000000
/-! What begins, ends: pairs at some places. -/
namespace GH
open PySem PySem.Spec PyProof.Rows L2 GM
theorem Own.other {β : Type} {R : Rl β} {G H : Hp} {a d : Addr} {l : List (Str × β)} {o : HO} (h : Own R G H a l) (ne : a ≠ d) : Own R G (upd H d o) a l := by
  obtain ⟨kv, g, hh, p⟩ := h
  exact ⟨kv, g, by rw [upd_ne ne]; exact hh, p⟩
structure AtOk (ps : List Str) (F : Str → Rat) (b : Nat) (m : Dd) : Prop where
  nd : (keys m).Nodup
  sub : ∀ k ∈ keys m, k ∈ ps
  ok : ∀ p ∈ ps, 0 < (duA m p).2 ∧ PSz b (duA m p) ∧ rv (duA m p) = F p
theorem duA_put {m : Dd} {k p : Str} {q : Int × Int} : duA (put m k q) p = if p = k then q else duA m p := by
  unfold duA
  rw [lk_put]
  split <;> rfl
theorem AtOk.put {ps : List Str} {F F' : Str → Rat} {b b' : Nat} {m : Dd} {p : Str} {q : Int × Int} (h : AtOk ps F b m) (hp : p ∈ ps) (q2 : 0 < q.2) (qz : PSz b' q) (hb : b ≤ b') (e : F' p = rv q) (ee : ∀ p', p' ≠ p → F' p' = F p') : AtOk ps F' b' (put m p q) := by
  refine ⟨nodup_put h.nd, fun k hk => ?_, fun p' hp' => ?_⟩
  · rw [keys_put] at hk
    split at hk
    · exact h.sub k hk
    · rcases List.mem_append.mp hk with hk | hk
      · exact h.sub k hk
      · rw [List.mem_singleton.mp hk]; exact hp
  · rw [duA_put]
    by_cases z : p' = p
    · subst z
      rw [if_pos rfl]
      exact ⟨q2, qz, e.symm⟩
    · rw [if_neg z]
      obtain ⟨a, b, c⟩ := h.ok p' hp'
      exact ⟨a, b.up hb, by rw [c, ee p' z]⟩
theorem AtOk.more {ps : List Str} {F F' : Str → Rat} {b b' : Nat} {m : Dd} (h : AtOk ps F b m) (hb : b ≤ b') (e : ∀ p ∈ ps, F' p = F p) : AtOk ps F' b' m :=
  ⟨h.nd, h.sub, fun p hp => by obtain ⟨x, y, z⟩ := h.ok p hp; exact ⟨x, y.up hb, by rw [z, e p hp]⟩⟩
theorem AtOk.nil (ps : List Str) : AtOk ps (fun _ => 0) 1 [] := ⟨List.nodup_nil, (fun k h => nomatch h), fun p hp => ⟨(by decide : (0 : Int) < 1), ⟨(by decide : (0 : Int).natAbs < 2 ^ 1), (by decide : (1 : Int).natAbs < 2 ^ 1)⟩, rv_zero⟩⟩
theorem AtOk.len {ps : List Str} {F : Str → Rat} {b : Nat} {m : Dd} (h : AtOk ps F b m) : m.length ≤ ps.length := by
  have := pigeon h.nd h.sub
  rw [keys_len] at this
  exact this
/-- what d.get(k, (0, 1)) hands back -/
theorem get01 {G H : Hp} {d tp : Addr} {m : Dd} (o : Own PI G H d m) (s : Same G H) (np : H tp = none) (k : Str) : ∃ r, DGet (upd H tp (.tup [.int 0, .int 1])) d (.str k) r ∧ PI (upd G tp (.tup [.int 0, .int 1])) (r.getD (.ref tp)) (duA m k) := by
  have o3 := o.ext PI.mono (Ext.imm (p := tp) (o := .tup [.int 0, .int 1]) s np)
  unfold duA
  cases el : lk m k with
  | none =>
    obtain ⟨r, dg, so⟩ := o3.isIn k
    rw [el] at so
    cases r with
    | some _ => cases so
    | none => exact ⟨none, dg, PI.mk⟩
  | some q =>
    obtain ⟨u6, dg, hr6⟩ := o3.get el
    exact ⟨some u6, dg, hr6⟩
/-- a way of the net, in the law's dict -/
theorem wyL_lk {ps : List Str} {wl : Wd} {cell : Int} {w : Wy Str} (wo : WdOk ps wl) (h : w ∈ wyL cell wl) : ∃ r, lk wl w.name = some r ∧ r.s = w.start ∧ r.g = w.goal ∧ rv (r.a, r.b) = w.gain := by
  obtain ⟨t, ht, e⟩ := List.mem_map.mp h
  subst e
  exact ⟨t.2, lk_of_mem wo.nd ht, rfl, rfl, rfl⟩
theorem wyL_key {ps : List Str} {wl : Wd} {cell : Int} (wo : WdOk ps wl) {us : List (Wy Str)} (h : ∀ w ∈ us, w ∈ wyL cell wl) : ∀ k ∈ names us, k ∈ keys wl := fun k hk => by
  obtain ⟨w, hw, e⟩ := List.mem_map.mp hk
  subst e
  obtain ⟨r, er, _⟩ := wyL_lk wo (h w hw)
  exact List.mem_map.mpr ⟨_, lk_mem er, rfl⟩
theorem prod_gain {ps : List Str} {wl : Wd} {cell : Int} (wo : WdOk ps wl) {us : List (Wy Str)} (h : ∀ w ∈ us, w ∈ wyL cell wl) : rv (prodI wl (names us)) = gainW us := by
  have go : ∀ (us : List (Wy Str)) (p : Int × Int), (∀ w ∈ us, w ∈ wyL cell wl) → p.2 ≠ 0 → rv ((names us).foldl (fun p k => tmI p (gab wl k)) p) = rv p * gainW us := by
    intro us
    induction us with
    | nil =>
      intro p _ _
      show rv p = rv p * 1
      rw [Rat.mul_one]
    | cons w r ih =>
      intro p h hp
      obtain ⟨x, e1, _, _, e4⟩ := wyL_lk wo (h w List.mem_cons_self)
      have b1 : 1 ≤ x.b := (wo.ok _ (lk_mem e1)).b1
      have g := gab_some e1
      have n2 : (gab wl w.name).2 ≠ 0 := by rw [g]; show x.b ≠ 0; omega
      show rv ((names r).foldl _ (tmI p (gab wl w.name))) = _
      rw [ih _ (fun v hv => h v (List.mem_cons_of_mem _ hv)) (Int.mul_ne_zero hp n2), rv_tm hp n2, g, e4]
      show _ = rv p * (w.gain * gainW r)
      rw [Rat.mul_assoc]
  have := go us (1, 1) h (by decide)
  unfold prodI
  rw [this, rv_one (p := (1, 1)) (by decide) rfl, Rat.one_mul]
theorem rv_q (q : Rat) : rv (q.num, (q.den : Int)) = q := by
  refine rv_eq (by have := q.den_nz; show (q.den : Int) ≠ 0; omega) (num_eq q)
theorem prod_one {p : Int × Int} (h : p.2 ≠ 0) : p.1 = p.2 ↔ rv p = 1 := by
  constructor
  · exact rv_one h
  · intro e
    have := rv_mul h
    rw [e, Rat.one_mul] at this
    exact (Rat.intCast_inj.mp this).symm
theorem SX.psz {D V : Nat} {q : Rat} (h : SX D V q) : PSz 64001 (q.num, (q.den : Int)) := by
  have d := h.dv.den_le h.pos
  have n := h.ab.num d
  refine ⟨Nat.lt_of_le_of_lt n ?_, ?_⟩
  · exact Nat.lt_of_le_of_lt (pw_mul h.v h.d (Nat.le_refl _)) (Nat.pow_lt_pow_right (by decide) (by decide))
  · show (q.den : Int).natAbs < _
    rw [Int.natAbs_natCast]
    exact Nat.lt_of_le_of_lt (Nat.le_trans d h.d) (Nat.pow_lt_pow_right (by decide) (by decide))
theorem rv_ab {p : Int × Int} (h : 0 < p.2) : rv (abI p) = mx (rv p) := by
  unfold abI
  have e := rv_mul (p := p) (by omega)
  have p2 : (0 : Rat) < (p.2 : Rat) := Rat.intCast_lt_intCast (a := 0) |>.mpr h
  by_cases k : 0 < p.1
  · rw [if_pos k, mx_pos (Rat.le_of_lt (rv_pos k h))]
  · rw [if_neg k, rv_zero]
    refine (mx_neg ?_).symm
    apply Classical.byContradiction
    intro z
    have z : 0 < rv p := by have := Rat.not_le.mp z; exact this
    have := Rat.mul_pos z p2
    rw [e] at this
    have : 0 < p.1 := Rat.intCast_lt_intCast (a := 0) |>.mp this
    exact k this
theorem abI_sz {b : Nat} (hb : 1 ≤ b) {p : Int × Int} (h : PSz b p) : PSz b (abI p) := by
  unfold abI
  split
  · exact h
  · exact PSz.up (a := 1) ⟨by decide, by decide⟩ hb
theorem abI_pos {p : Int × Int} (h : 0 < p.2) : 0 < (abI p).2 := by
  unfold abI
  split
  · exact h
  · decide
end GH
end
section
set_option maxRecDepth 100000
set_option maxHeartbeats 4000000
/-! _law_ends_right. -/
namespace GH
open PySem PySem.Spec PyProof.Rows L2 GM
/-- a test, told by what holds behind it -/
def tCut (t : TT) : TT := fun σ H Q => ∃ M : Bool → Hp → Prop, t σ H M ∧ ∀ b H1, M b H1 → Q b H1
theorem pt_cut {X : Cx} {e : Expr} {t : TT} (h : PT X e t) : PT X e (tCut t) := by
  refine ⟨fun pins s σ H Q I z => ?_⟩
  obtain ⟨M, h1, h2⟩ := z
  refine thn (h.run pins s σ H M I h1) fun c s1 y => ?_
  obtain ⟨H1, I1, q1⟩ := y
  exact ⟨H1, I1, h2 _ _ q1⟩
theorem take_sumB {ss : List (Sd × Rat)} {i : Nat} {t : Sd × Rat} (h : ss[i]? = some t) (p : Str) : sumB (ss.take (i + 1)) p = sumB (ss.take i) p + (if bgn t.1 = some p then t.2 else 0) := by rw [take_succ_of h, sumB_snoc]
theorem take_sumE {ss : List (Sd × Rat)} {i : Nat} {t : Sd × Rat} (h : ss[i]? = some t) (p : Str) : sumE (ss.take (i + 1)) p = sumE (ss.take i) p + (if fin t.1 = some p then t.2 * gainW t.1.path else 0) := by rw [take_succ_of h, sumE_snoc]
theorem eq0_s {K : PySem.W.Frag} {G H : Hp} {v : V} {ks : List Str} {p : Addr} {Q : VK} (h : LstAt StrAt G v ks) (s : Same G H) (np : H p = none) (q : Q (.bl (decide (ks = []))) (upd H p (.lst []))) : rE0 K false v (.ref p) (upd H p (.lst [])) Q :=
  e0_s h s np (by rw [if_neg (by decide)]; exact q)
theorem str_lst {G : Hp} {v : V} {ks : List Str} (h : LstAt StrAt G v ks) : ∃ a, v = .ref a ∧ G a = some (.lst (ks.map V.str)) := by
  obtain ⟨a, vs, e, h1, h2⟩ := h
  have := strs_eq h2
  subst this
  exact ⟨a, e, h1⟩
def spLER (c : Cl) : Sp := fun vs H Q _ => ∃ (G : Hp) (x y z v : V) (ps : List Str) (wl : Wd) (l : Dd) (D : Nat) (cell : Int) (ss : List (Sd × Rat)), vs = [x, y, z, v] ∧ Same G H ∧ LstAt StrAt G x ps ∧ ps.Nodup ∧ ps.length ≤ 100 ∧ DctAt WrAt G y wl ∧ WdOk ps wl ∧ DctE PI G z l ∧ DuOk wl D 8000 l ∧
  LstAt (SdAt c) G v ss ∧ Done (ntL ps cell wl) (amt (duPl l)) ss ∧ ∀ G' H', Ext G H G' H' → Q (.bl true) H'
section
variable {P : Program} {w : World} {K : PySem.W.Frag} {mg : Str → Option Value} {base : Heap} {c : Cl} {f : Addr} {fd : FuncData}
abbrev nER : List Str := ["_law_spots", "_law_ways_here", "_law_due_here", "_law_found", "_law_begins", "_law_ends", "_law_strand_here", "_law_put", "_law_walk", "_law_gain_here", "_law_at", "_law_at_spots", "_law_spot", "_law_over"]
theorem scLER : FnScope nER ["_law_spots", "_law_ways_here", "_law_due_here", "_law_found"] (defScope sLER) := ⟨rfl, rfl, rfl, by decide +kernel, rfl, by decide +kernel, by decide +kernel⟩
theorem ok_ler (F : FnP K "_law_ends_right" "_law_ends_right" sLER f fd) (T : Txt K mg c) (S1 : Fn P w K mg base "_law_told" 2 ["_law_found"] [] (spLTo c)) (S2 : Fn P w K mg base "_law_product" 2 ["_law_ways_here", "_law_walk"] [] spLPr) (S3 : Fn P w K mg base "_law_plus" 1 ["_law_one", "_law_other"] [] spLP)
    (S4 : Fn P w K mg base "_law_times" 1 ["_law_one", "_law_other"] [] spLT) (S5 : ∀ cell, Fn P w K mg base "_law_brought" 2 ["_law_spots", "_law_ways_here", "_law_due_here"] [] (spLBr cell)) (S6 : Fn P w K mg base "_law_same" 1 ["_law_one", "_law_other"] [] spLSa) (S7 : Fn P w K mg base "_law_above" 1 ["_law_pair"] [] spLAb) :
    FnOk P w K mg base CX0 3 f fd ["_law_spots", "_law_ways_here", "_law_due_here", "_law_found"] (spLER c) := by
  refine F.ok scLER (fun vs H Q E h => ?_) (fun cdv A outer s H vs Q E hr h => ?_)
  · obtain ⟨G, x, y, z, v, ps, wl, l, D, cell, ss, rfl, _⟩ := h
    rfl
  · obtain ⟨G, x, y, z, v, ps, wl, l, D, cell, ss, rfl, s, hx, ndp, pl, hy, wo, hz, du, hv, dn, k⟩ := h
    refine ⟨_, PSs.nox (pss_cons (ps_set (i := 4) scLER.nd rfl (Or.inl rfl) pe_dnewK)
      (pss_cons (ps_set (i := 5) scLER.nd rfl (Or.inl rfl) pe_dnewK)
      (pss_cons (ps_for PassesOwn.never rfl (pi_list (pv 3)) (pg_name (i := 6) scLER.nd rfl (Or.inl rfl))
        (pss_cons (ps_set (i := 7) scLER.nd rfl (Or.inl rfl) (pe_fn S1 hr (by rfl) (pa_cons (pe_ix ix_tup (pv 6) pe_int (fun _ _ => rfl)) pa_nil)))
        (pss_cons (ps_set (i := 8) scLER.nd rfl (Or.inl rfl) (pe_op op_cat (pe_op op_cat (pe_ix ix_tup (pv 6) pe_int (fun _ _ => rfl)) (pe_ix ix_tup (pv 6) pe_int (fun _ _ => rfl))) (pe_ix ix_tup (pv 6) pe_int (fun _ _ => rfl))))
        (pss_cons (ps_set (i := 9) scLER.nd rfl (Or.inl rfl) (pe_fn S2 hr (by rfl) (pa_cons (pv 1) (pa_cons (pe_ix ix_tup (pv 6) pe_int (fun _ _ => rfl)) pa_nil))))
        (C8.pss_cut (ps_if (pt_cmpR (op_eq0 (hu0 hr)) (pe_ix ix_tup (pv 6) pe_int (fun _ _ => rfl)) (pe_lst pa_nil) (nomark _))
          (pss_cons (ps_set (i := 10) scLER.nd rfl (Or.inl rfl) (pe_ix ix_tup (pe_dget (hu_of hr) (pv 1) (pe_ix ix_list (pv 8) pe_int (fun _ _ => rfl)) (fun _ _ => rfl)) pe_int (fun _ _ => rfl)))
          (pss_one (ps_dput (hu_of hr) (pv 4) (pv 10) (pe_fn S3 (hr.mono (by decide)) (by rfl) (pa_cons (pe_dget2 (hu_of hr) (pv 4) (pv 10) (pe_tup (pa_cons pe_int (pa_cons pe_int pa_nil))) ⟨rfl, rfl, rfl, rfl⟩) (pa_cons (pv 7) pa_nil))) rfl))) pss_nil)
        (pss_one (ps_if (pt_cut (pw_and (pt_cmpR (op_eq0 (hu0 hr)) (pe_ix ix_tup (pv 6) pe_int (fun _ _ => rfl)) (pe_lst pa_nil) (nomark _)) (pw_and1 (pw_or (pt_cmpR (op_eq0 (hu0 hr)) (pe_ix ix_tup (pv 6) pe_int (fun _ _ => rfl)) (pe_lst pa_nil) (nomark _)) (pw_or1 (pt_cmpR op_ne (pe_ix ix_tup (pv 9) pe_int (fun _ _ => rfl)) (pe_ix ix_tup (pv 9) pe_int (fun _ _ => rfl)) (nomark _)))).pt)).pt)
          (pss_cons (ps_set (i := 10) scLER.nd rfl (Or.inl rfl) (pe_ix ix_tup (pe_dget (hu_of hr) (pv 1) (pe_ix ix_list (pv 8) (pe_un un_neg pe_int) (fun _ _ => rfl)) (fun _ _ => rfl)) pe_int (fun _ _ => rfl)))
          (pss_one (ps_dput (hu_of hr) (pv 5) (pv 10) (pe_fn S3 (hr.mono (by decide)) (by rfl) (pa_cons (pe_dget2 (hu_of hr) (pv 5) (pv 10) (pe_tup (pa_cons pe_int (pa_cons pe_int pa_nil))) ⟨rfl, rfl, rfl, rfl⟩) (pa_cons (pe_fn S4 (hr.mono (by decide)) (by rfl) (pa_cons (pv 7) (pa_cons (pe_fn S2 hr (by rfl) (pa_cons (pv 1) (pa_cons (pe_ix ix_tup (pv 6) pe_int (fun _ _ => rfl)) pa_nil))) pa_nil))) pa_nil))) rfl))) pss_nil)))))))
      (pss_cons (ps_set (i := 11) scLER.nd rfl (Or.inl rfl) (pe_fn (S5 cell) hr (by rfl) (pa_cons (pv 0) (pa_cons (pv 1) (pa_cons (pv 2) pa_nil)))))
      (pss_cons (ps_for PassesOwn.never rfl (pi_list (pv 0)) (pg_name (i := 12) scLER.nd rfl (Or.inl rfl))
        (pss_cons (ps_set (i := 13) scLER.nd rfl (Or.inl rfl) (pe_dget (hu_of hr) (pv 11) (pv 12) (fun _ _ => rfl)))
        (pss_cons (ps_if (pt_not (pt_val (pe_fn S6 (hr.mono (by decide)) (by rfl) (pa_cons (pe_dget2 (hu_of hr) (pv 4) (pv 12) (pe_tup (pa_cons pe_int (pa_cons pe_int pa_nil))) ⟨rfl, rfl, rfl, rfl⟩) (pa_cons (pe_fn S7 (hr.mono (by decide)) (by rfl) (pa_cons (pe_tup (pa_cons (pe_op op_sub pe_int (pe_ix ix_tup (pv 13) pe_int (fun _ _ => rfl))) (pa_cons (pe_ix ix_tup (pv 13) pe_int (fun _ _ => rfl)) pa_nil))) pa_nil)) pa_nil))))) pss_never pss_nil)
        (pss_one (ps_if (pt_not (pt_val (pe_fn S6 (hr.mono (by decide)) (by rfl) (pa_cons (pe_dget2 (hu_of hr) (pv 5) (pv 12) (pe_tup (pa_cons pe_int (pa_cons pe_int pa_nil))) ⟨rfl, rfl, rfl, rfl⟩) (pa_cons (pe_fn S7 (hr.mono (by decide)) (by rfl) (pa_cons (pv 13) pa_nil)) pa_nil))))) pss_never pss_nil)))))
      (pss_one (ps_ret pe_bl))))))), ?_⟩
    intro db hdb
    have e0 := Ext.tmp (o := .dK []) s hdb
    intro de hde
    have dne : de ≠ db := fun z => by rw [z, upd_same] at hde; cases hde
    have hdeH : H de = none := by rw [upd_ne dne] at hde; exact hde
    have e1 := e0.trans (Ext.tmp (o := .dK []) e0.gh hde)
    have ob0 : Own PI G (upd (upd H db (.dK [])) de (.dK [])) db [] := (Own.nil (R := PI) s hdb).other (Ne.symm dne)
    have oe0 : Own PI G (upd (upd H db (.dK [])) de (.dK [])) de [] := Own.nil (R := PI) e0.gh hde
    have a0 := (AtOk.nil ps)
    refine ⟨_, rfl, ?_⟩
    refine for_lst (R := SdAt c) SdAt.mono hv (Same.refl G) e1 (fun i σ G' H' => ∃ o6 o7 o8 o9 o10 mb me, σ = [some x, some y, some z, some v, some (.ref db), some (.ref de), o6, o7, o8, o9, o10, none, none, none] ∧ Own PI G' H' db mb ∧ Own PI G' H' de me ∧ AtOk ps (sumB (ss.take i)) (1 + 70000 * i) mb ∧ AtOk ps (sumE (ss.take i)) (1 + 70000 * i) me)
      ⟨none, none, none, none, none, [], [], rfl, ob0, oe0, a0.more (Nat.le_refl _) (fun _ _ => rfl), a0.more (Nat.le_refl _) (fun _ _ => rfl)⟩ (fun i t u σ G2 H2 hi hu sl e iv => ?_) (fun σ G2 H2 sl e iv => ?_)
    · obtain ⟨o6, o7, o8, o9, o10, mb, me, rfl, ob, oe, ab, ae⟩ := iv
      obtain ⟨tt, v0, v1, v2, v3, rfl, ht, h0, h1, h2, h3⟩ := id hu
      have mem := List.mem_of_getElem? hi
      have il := (List.getElem?_eq_some_iff.mp hi).1
      have sl16 := dn.len
      obtain ⟨sv, qp, Dq, Vq, sx⟩ := dn.ok t mem
      have qz := sx.psz
      have wsub : ∀ w ∈ t.1.head ++ t.1.path ++ t.1.tail, w ∈ wyL cell wl := fun w hw => by
        rcases List.mem_append.mp hw with hw | hw
        · rcases List.mem_append.mp hw with hw | hw
          · exact sv.sh w hw
          · exact sv.sp w hw
        · exact sv.st w hw
      have wne : t.1.head ++ t.1.path ++ t.1.tail ≠ [] := fun z => by
        obtain ⟨z1, z2⟩ := List.append_eq_nil_iff.mp z
        obtain ⟨z3, z4⟩ := List.append_eq_nil_iff.mp z1
        exact sv.hn ⟨z3, z4, z2⟩
      have hT : ∀ {G' H'}, Same G2 G' → Same G' H' → SqT K H' tt [v0, v1, v2, v3] := fun s1 s2 => SqT.of (s2 _ _ (s1 _ _ ht))
      have hyG : DctAt WrAt G2 y wl := hy.up WrAt.mono (same_sm e.g)
      refine ⟨_, rfl, tt, _, 3, _, rfl, rfl, hT (Same.refl _) e.gh, rfl, G2, v3, t.2, rfl, e.gh, h3, fun v7 G3 H3 e3 h7 => ?_⟩
      obtain ⟨l0, rfl, hl0⟩ := str_lst h0
      obtain ⟨l1, rfl, hl1⟩ := str_lst h1
      obtain ⟨l2, rfl, hl2⟩ := str_lst h2
      have nlen : ∀ us : List (Wy Str), (names us).length = us.length := names_len
      have nnil : ∀ us : List (Wy Str), names us = [] ↔ us = [] := fun us => List.map_eq_nil_iff
      have lh := sv.lh
      have lp := sv.lp
      have lt := sv.lt
      have szl : 100 ≤ sizeLine := Nat.le_of_lt (small1000 (n := 100) (by decide))
      refine ⟨_, rfl, tt, _, 0, _, rfl, rfl, hT e3.g e3.gh, rfl, _, rfl, tt, _, 1, _, rfl, rfl, hT e3.g e3.gh, rfl, l0, l1, _, _, rfl, rfl, e3.gh _ _ (e3.g _ _ hl0), e3.gh _ _ (e3.g _ _ hl1), by rw [List.length_map, List.length_map, nlen, nlen]; omega, fun p1 np1 => ?_⟩
      have i3 := Ext.imm (p := p1) (o := .lst ((names t.1.head).map V.str ++ (names t.1.path).map V.str)) e3.gh np1
      have i4 := e3.trans i3
      refine ⟨_, rfl, tt, _, 2, _, rfl, rfl, hT i4.g i4.gh, rfl, p1, l2, _, _, rfl, rfl, upd_same, i4.gh _ _ (i4.g _ _ hl2), by rw [List.length_append, List.length_map, List.length_map, List.length_map, nlen, nlen, nlen]; omega, fun p2 np2 => ?_⟩
      have ew : (names t.1.head).map V.str ++ (names t.1.path).map V.str ++ (names t.1.tail).map V.str = (names (t.1.head ++ t.1.path ++ t.1.tail)).map V.str := by unfold names; simp only [List.map_append]
      rw [ew]
      have i34 := i3.trans (Ext.imm (p := p2) (o := .lst ((names (t.1.head ++ t.1.path ++ t.1.tail)).map V.str)) i3.gh np2)
      have i5 := e3.trans i34
      have hp2 : (upd (upd G3 p1 (.lst ((names t.1.head).map V.str ++ (names t.1.path).map V.str))) p2 (.lst ((names (t.1.head ++ t.1.path ++ t.1.tail)).map V.str))) p2 = some (.lst ((names (t.1.head ++ t.1.path ++ t.1.tail)).map V.str)) := upd_same
      have h7' := PI.mono (same_sm i34.g) h7
      generalize upd (upd G3 p1 (.lst ((names t.1.head).map V.str ++ (names t.1.path).map V.str))) p2 (.lst ((names (t.1.head ++ t.1.path ++ t.1.tail)).map V.str)) = G4 at *
      generalize upd (upd H3 p1 (.lst ((names t.1.head).map V.str ++ (names t.1.path).map V.str))) p2 (.lst ((names (t.1.head ++ t.1.path ++ t.1.tail)).map V.str)) = H4 at *
      refine ⟨_, rfl, _, rfl, tt, _, 0, _, rfl, rfl, hT i5.g i5.gh, rfl, G4, y, .ref l0, ps, wl, names t.1.head, rfl, i5.gh, hyG.up WrAt.mono (same_sm i5.g), wo, h0.up StrAt.mono (same_sm i5.g), by rw [nlen]; omega, wyL_key wo sv.sh, fun v9 G5 H5 e5 h9 => ?_⟩
      have e25 := i5.trans e5
      have e05 := e.trans e25
      have hp5 := e5.g _ _ hp2
      have h75 := PI.mono (same_sm e5.g) h7'
      have hq2 : (0 : Int) < (t.2.den : Int) := by have := t.2.den_nz; omega
      refine ⟨fun σ' H' => ∃ o10 G' mb', σ' = [some x, some y, some z, some v, some (.ref db), some (.ref de), some (.ref tt), some v7, some (.ref p2), some v9, o10, none, none, none] ∧ Ext G H G' H' ∧ Same G5 G' ∧ Own PI G' H' db mb' ∧ Own PI G' H' de me ∧ AtOk ps (sumB (ss.take (i + 1))) (1 + 70000 * (i + 1)) mb', ?_, fun σ' H' m1 => ?_⟩
      · refine ⟨_, rfl, tt, _, 0, _, rfl, rfl, hT e25.g e25.gh, rfl, Nat.zero_le _, fun p3 n3 => eq0_s (h0.up StrAt.mono (same_sm e25.g)) e25.gh n3 ⟨_, rfl, ?_⟩⟩
        have i6 := Ext.imm (p := p3) (o := .lst []) e25.gh n3
        have e06 := e05.trans i6
        have ob6 := (ob.ext PI.mono e25).ext PI.mono i6
        have oe6 := (oe.ext PI.mono e25).ext PI.mono i6
        by_cases z0 : names t.1.head = []
        · have hh : t.1.head = [] := (nnil _).mp z0
          obtain ⟨w0, rest, ew0⟩ : ∃ w0 rest, t.1.head ++ t.1.path ++ t.1.tail = w0 :: rest := List.exists_cons_of_ne_nil wne
          have w0in := wsub w0 (by rw [ew0]; exact List.mem_cons_self)
          obtain ⟨r0, er0, rs0, rg0, _⟩ := wyL_lk wo w0in
          have ro0 : WrOk ps r0 := wo.ok _ (lk_mem er0)
          have bg : bgn t.1 = some w0.start := by
            unfold bgn
            rw [if_pos hh]
            rw [hh, List.nil_append] at ew0
            rw [ew0]; rfl
          have at0 : atI ((names (t.1.head ++ t.1.path ++ t.1.tail)).map V.str) 0 = some (.str w0.name) := atI_str (i := 0) (by rw [ew0]; rfl)
          obtain ⟨a1, u1, ea1, g1, r1⟩ := (hyG.up WrAt.mono (same_sm (e25.trans i6).g)).get i6.gh er0
          obtain ⟨t1, vg, rfl, ht1, hg⟩ := id r1
          refine iteDT z0 ⟨_, rfl, _, rfl, p2, _, 0, _, rfl, rfl, SqL.of (i6.gh _ _ (i6.g _ _ hp5)), at0, a1, _, ea1, g1, t1, _, 0, _, rfl, rfl, SqT.of (i6.gh _ _ ht1), rfl, ?_⟩
          refine ⟨_, rfl, db, rfl, ob6.isD, _, rfl, by show 2 ≤ sizeLine; decide, fun tp ntp => ?_⟩
          obtain ⟨r, dg, hu6⟩ := get01 ob6 i6.gh ntp r0.s
          have i7 := Ext.imm (p := tp) (o := .tup [.int 0, .int 1]) i6.gh ntp
          obtain ⟨q2, qz', qv⟩ := ab.ok r0.s ro0.s
          refine ⟨r, dg, _, rfl, _, _, v7, _, _, rfl, i7.gh, hu6, PI.mono (same_sm (i6.trans i7).g) h75, qz'.up (by omega), qz.up (by decide), fun v11 G7 H7 e7 h11 => ?_⟩
          have e67 := i7.trans e7
          have ob7 := ob6.ext PI.mono e67
          obtain ⟨H8, dp, o8, u8, eo⟩ := ob7.put (k := r0.s) h11 (line100 (by have := ab.len; omega))
          have e8 := (e06.trans e67).wr (o := u8) hdb ob7.choose_spec.1
          rw [← eo] at e8
          have oe8 : Own PI G7 H8 de me := by rw [eo]; exact (oe6.ext PI.mono e67).other dne
          refine ⟨_, rfl, _, rfl, db, H8, rfl, dp, some (.str r0.s), G7, _, rfl, e8, i6.g.trans e67.g, o8, oe8, ?_⟩
          refine ab.put ro0.s (Int.mul_pos q2 hq2) ((qz'.pl qz).up (by omega)) (by omega) ?_ (fun p' hp' => ?_)
          · rw [take_sumB hi, bg, if_pos (by rw [rs0]), rv_pl (by omega) (by show (t.2.den : Int) ≠ 0; omega), rv_q, qv]
          · rw [take_sumB hi, bg, if_neg (fun z => hp' (by rw [rs0]; exact (Option.some.inj z).symm))]; grind
        · refine iteDF z0 ⟨_, _, mb, rfl, e06, i6.g, ob6, oe6, ab.more (by omega) fun p hp => ?_⟩
          have : bgn t.1 = none := by unfold bgn; exact if_neg fun z => z0 (by rw [z]; rfl)
          rw [take_sumB hi, this, if_neg (by simp)]; grind
      · obtain ⟨o10', G6, mb', rfl, e6, s56, ob6, oe6, ab6⟩ := m1
        have s26 : Same G2 G6 := e25.g.trans s56
        obtain ⟨ph1, ph2, phz⟩ := prodI_pos wo (names t.1.head)
        have hgain := prod_gain wo sv.sh
        obtain ⟨t9, rfl, ht9⟩ := h9.obj
        refine ⟨fun b H' => b = decide (t.1.tail = [] ∧ (t.1.head = [] ∨ gainW t.1.head ≠ 1)) ∧ ∃ G', Ext G H G' H' ∧ Same G6 G' ∧ Own PI G' H' db mb' ∧ Own PI G' H' de me, ?_, fun b H' ⟨eb, G7, e7, s67, ob7, oe7⟩ => ?_⟩
        · refine ⟨_, rfl, tt, _, 2, _, rfl, rfl, hT s26 e6.gh, rfl, Nat.zero_le _, fun p3 n3 => eq0_s (h2.up StrAt.mono (same_sm s26)) e6.gh n3 ⟨_, rfl, ?_⟩⟩
          have i7 := Ext.imm (p := p3) (o := .lst []) e6.gh n3
          by_cases zt : names t.1.tail = []
          · have ht0 : t.1.tail = [] := (nnil _).mp zt
            refine iteDT zt ⟨_, rfl, tt, _, 0, _, rfl, rfl, hT (s26.trans i7.g) i7.gh, rfl, Nat.zero_le _, fun p4 n4 => eq0_s (h0.up StrAt.mono (same_sm (s26.trans i7.g))) i7.gh n4 ⟨_, rfl, ?_⟩⟩
            have i8 := i7.trans (Ext.imm (p := p4) (o := .lst []) i7.gh n4)
            by_cases zh : names t.1.head = []
            · exact iteDT zh ⟨(decide_eq_true ⟨ht0, .inl ((nnil _).mp zh)⟩).symm, _, e6.trans i8, i8.g, ob6.ext PI.mono i8, oe6.ext PI.mono i8⟩
            · have T9 : SqT K _ t9 [.int (prodI wl (names t.1.head)).1, .int (prodI wl (names t.1.head)).2] := SqT.of (i8.gh _ _ (i8.g _ _ (s56 _ _ ht9)))
              refine iteDF zh ⟨_, rfl, t9, _, 0, _, rfl, rfl, T9, rfl, _, rfl, t9, _, 1, _, rfl, rfl, T9, rfl, rfl, _, rfl, ?_, _, e6.trans i8, i8.g, ob6.ext PI.mono i8, oe6.ext PI.mono i8⟩
              by_cases eq : (prodI wl (names t.1.head)).1 = (prodI wl (names t.1.head)).2
              · have g1 : gainW t.1.head = 1 := by rw [← hgain]; exact (prod_one (by omega)).mp eq
                rw [eq, decide_eq_true rfl]
                refine (decide_eq_false fun z => ?_).symm
                rcases z.2 with z | z
                · exact zh (by rw [z]; rfl)
                · exact z g1
              · have g1 : gainW t.1.head ≠ 1 := by rw [← hgain]; exact fun z => eq ((prod_one (by omega)).mpr z)
                rw [decide_eq_false (fun z => eq (V.int.inj z))]
                exact (decide_eq_true ⟨ht0, .inr g1⟩).symm
          · exact iteDF zt ⟨(decide_eq_false fun z => zt (by rw [z.1]; rfl)).symm, _, e6.trans i7, i7.g, ob6.ext PI.mono i7, oe6.ext PI.mono i7⟩
        · subst eb
          have s57 := s56.trans s67
          have s27 := s26.trans s67
          by_cases hf : t.1.tail = [] ∧ (t.1.head = [] ∨ gainW t.1.head ≠ 1)
          · have hp7 := s57 _ _ hp5
            have wne' : t.1.head ++ t.1.path ≠ [] := fun z => wne (by rw [z, hf.1]; rfl)
            obtain ⟨wz, ewz⟩ : ∃ wz, (t.1.head ++ t.1.path).getLast? = some wz := ⟨_, List.getLast?_eq_some_getLast wne'⟩
            have fz : fin t.1 = some wz.goal := by unfold fin; rw [if_pos hf, ewz]; rfl
            have wzin := wsub wz (List.mem_append_left _ (List.mem_of_getLast? ewz))
            obtain ⟨rz, erz, rsz, rgz, _⟩ := wyL_lk wo wzin
            have roz : WrOk ps rz := wo.ok _ (lk_mem erz)
            have atz : atI ((names (t.1.head ++ t.1.path ++ t.1.tail)).map V.str) (-1) = some (.str wz.name) := by
              refine atI_last ?_
              rw [hf.1, List.append_nil, ← List.getLast?_eq_getElem?]
              unfold names
              rw [List.getLast?_map, ewz]; rfl
            obtain ⟨a1, u1, ea1, g1, r1⟩ := (hyG.up WrAt.mono (same_sm s27)).get e7.gh erz
            obtain ⟨t1, vg, rfl, ht1, hg⟩ := id r1
            refine iteDT hf ⟨_, rfl, _, rfl, _, rfl, p2, _, -1, _, rfl, rfl, SqL.of (e7.gh _ _ hp7), atz, a1, _, ea1, g1, t1, _, 1, _, rfl, rfl, SqT.of (e7.gh _ _ ht1), rfl, ?_⟩
            refine ⟨_, rfl, de, rfl, oe7.isD, _, rfl, by show 2 ≤ sizeLine; decide, fun tp ntp => ?_⟩
            obtain ⟨r, dg, hu8⟩ := get01 oe7 e7.gh ntp rz.g
            have i8 := Ext.imm (p := tp) (o := .tup [.int 0, .int 1]) e7.gh ntp
            obtain ⟨q2, qz', qv⟩ := ae.ok rz.g roz.g
            have h1' : LstAt StrAt _ (.ref l1) (names t.1.path) := h1.up StrAt.mono (same_sm (s27.trans i8.g))
            refine ⟨r, dg, _, rfl, _, rfl, _, rfl, tt, _, 1, _, rfl, rfl, hT (s27.trans i8.g) i8.gh, rfl, _, y, .ref l1, ps, wl, names t.1.path, rfl, i8.gh, hyG.up WrAt.mono (same_sm (s27.trans i8.g)), wo, h1', by rw [nlen]; omega, wyL_key wo sv.sp, fun v11 G9 H9 e9 h11 => ?_⟩
            obtain ⟨pp1, pp2, ppz⟩ := prodI_pos wo (names t.1.path)
            have ppz : PSz 101 (prodI wl (names t.1.path)) := ppz.up (by rw [nlen]; omega)
            refine ⟨G9, v7, v11, _, _, rfl, e9.gh, PI.mono (same_sm ((s57.trans i8.g).trans e9.g)) h75, h11, qz.up (by decide), ppz.up (by decide), fun v12 G10 H10 e10 h12 => ?_⟩
            have tz := qz.tm ppz
            refine ⟨G10, _, v12, _, _, rfl, e10.gh, PI.mono (same_sm (e9.trans e10).g) hu8, h12, qz'.up (by omega), tz.up (by decide), fun v13 G11 H11 e11 h13 => ?_⟩
            have e8e := ((i8.trans e9).trans e10).trans e11
            have oe11 := oe7.ext PI.mono e8e
            obtain ⟨H12, dp, o12, u12, eo⟩ := oe11.put (k := rz.g) h13 (line100 (by have := ae.len; omega))
            have e12 := (e7.trans e8e).wr (o := u12) hdeH oe11.choose_spec.1
            rw [← eo] at e12
            have ob12 : Own PI G11 H12 db mb' := by rw [eo]; exact (ob7.ext PI.mono e8e).other (Ne.symm dne)
            refine ⟨_, rfl, _, rfl, de, H12, rfl, dp, G11, e12.g, e12, _, _, _, _, _, mb', _, rfl, ob12, o12, ab6, ?_⟩
            have n2 : (tmI (t.2.num, (t.2.den : Int)) (prodI wl (names t.1.path))).2 > 0 := Int.mul_pos hq2 pp2
            refine ae.put roz.g (Int.mul_pos q2 n2) ((qz'.pl tz).up (by omega)) (by omega) ?_ (fun p' hp' => ?_)
            · rw [take_sumE hi, fz, if_pos (by rw [rgz]), rv_pl (by omega) (by omega), rv_tm (by show (t.2.den : Int) ≠ 0; omega) (by omega), rv_q, qv, prod_gain wo sv.sp]
            · rw [take_sumE hi, fz, if_neg (fun z => hp' (by rw [rgz]; exact (Option.some.inj z).symm))]; grind
          · refine iteDF hf ⟨G7, e7.g, e7, _, _, _, _, _, mb', me, rfl, ob7, oe7, ab6, ae.more (by omega) fun p hp => ?_⟩
            have : fin t.1 = none := by unfold fin; exact if_neg hf
            rw [take_sumE hi, this, if_neg (by simp)]; grind
    · obtain ⟨o6, o7, o8, o9, o10, mb, me, rfl, ob, oe, ab, ae⟩ := iv
      rw [List.take_length] at ab ae
      refine ⟨_, rfl, _, rfl, _, rfl, G2, x, y, z, ps, wl, l, D, rfl, e.gh, hx.up StrAt.mono (same_sm e.g), ndp, pl, hy.up WrAt.mono (same_sm e.g), wo, hz.up PI.mono e.g, du, fun v11 G3 H3 e3 ⟨mo, hmo, br⟩ => ?_⟩
      refine ⟨_, rfl, ?_⟩
      have e13 := e.trans e3
      have sl16 := dn.len
      refine for_lst (R := StrAt) StrAt.mono (hx.up StrAt.mono (same_sm e13.g)) (Same.refl G3) e13 (fun i σ G' H' => ∃ o12 o13, σ = [some x, some y, some z, some v, some (.ref db), some (.ref de), o6, o7, o8, o9, o10, some v11, o12, o13] ∧ Own PI G' H' db mb ∧ Own PI G' H' de me)
        ⟨none, none, rfl, ob.ext PI.mono e3, oe.ext PI.mono e3⟩ (fun i p u σ G4 H4 hi hu sl4 e4 iv => ?_) (fun σ G4 H4 sl4 e4 iv => ?_)
      · obtain ⟨o12, o13, rfl, ob4, oe4⟩ := iv
        have hu : u = .str p := hu
        subst hu
        have pm := List.mem_of_getElem? hi
        obtain ⟨q, eq, q2, qz, qv⟩ := br.ok p pm
        obtain ⟨b2, bz, bv⟩ := ab.ok p pm
        obtain ⟨f2, fz, fv⟩ := ae.ok p pm
        obtain ⟨a1, u1, ea1, g1, r1⟩ := (hmo.up PI.mono (same_sm sl4)).get e4.gh eq
        obtain ⟨to, rfl, hto⟩ := r1.obj
        refine ⟨_, rfl, _, rfl, a1, _, ea1, g1, ?_⟩
        refine ⟨_, rfl, db, rfl, ob4.isD, _, rfl, by show 2 ≤ sizeLine; decide, fun tp ntp => ?_⟩
        obtain ⟨r, dg, hu5⟩ := get01 ob4 e4.gh ntp p
        have i5 := Ext.imm (p := tp) (o := .tup [.int 0, .int 1]) e4.gh ntp
        have TO : SqT K _ to [.int q.1, .int q.2] := SqT.of (i5.gh _ _ (i5.g _ _ hto))
        refine ⟨r, dg, _, rfl, to, _, 0, _, rfl, rfl, TO, rfl, _, _, rfl, rfl, _, rfl, to, _, 1, _, rfl, rfl, TO, rfl, by show 2 ≤ sizeLine; decide, fun tq ntq => ?_⟩
        have i6' := Ext.imm (p := tq) (o := .tup [.int (0 - q.1), .int q.2]) i5.gh ntq
        have i6 := i5.trans i6'
        have nz : PSz 200000 (0 - q.1, q.2) := ⟨by show (0 - q.1).natAbs < _; have := qz.a; omega, qz.b⟩
        refine ⟨_, .ref tq, _, rfl, i6.gh, PI.mk, fun va G7 H7 e7 ha => ?_⟩
        have e47 := i6.trans e7
        refine ⟨G7, _, va, _, _, rfl, e7.gh, PI.mono (same_sm (i6'.trans e7).g) hu5, ha, bz.up (by omega), (abI_sz (by decide) nz).up (by decide), _, rfl, ?_⟩
        have E1 : (duA mb p).1 * (abI (0 - q.1, q.2)).2 = (abI (0 - q.1, q.2)).1 * (duA mb p).2 := by
          have n2 := abI_pos (p := (0 - q.1, q.2)) q2
          refine (rv_same (by omega) (by omega)).mpr ?_
          rw [bv, rv_ab (p := (0 - q.1, q.2)) q2, rv_neg (by omega), qv]
          exact (dn.beg p pm).symm
        rw [decide_eq_true E1]
        refine iteF ?_
        have ob7 := ob4.ext PI.mono e47
        have oe7 := oe4.ext PI.mono e47
        refine ⟨_, rfl, de, rfl, oe7.isD, _, rfl, by show 2 ≤ sizeLine; decide, fun tp2 ntp2 => ?_⟩
        obtain ⟨r2, dg2, hu8⟩ := get01 oe7 e7.gh ntp2 p
        have i8 := Ext.imm (p := tp2) (o := .tup [.int 0, .int 1]) e7.gh ntp2
        refine ⟨r2, dg2, _, rfl, _, .ref to, q, rfl, i8.gh, PI.mono (same_sm (e47.trans i8).g) r1, fun vb G9 H9 e9 hb => ?_⟩
        refine ⟨G9, _, vb, _, _, rfl, e9.gh, PI.mono (same_sm e9.g) hu8, hb, fz.up (by omega), (abI_sz (by decide) qz).up (by decide), _, rfl, ?_⟩
        have E2 : (duA me p).1 * (abI q).2 = (abI q).1 * (duA me p).2 := by
          have n2 := abI_pos q2
          refine (rv_same (by omega) (by omega)).mpr ?_
          rw [fv, rv_ab q2, qv]
          exact (dn.en p pm).symm
        rw [decide_eq_true E2]
        have e79 := i8.trans e9
        exact iteF ⟨G9, sl4.trans (e47.trans e79).g, e4.trans (e47.trans e79), _, _, rfl, ob7.ext PI.mono e79, oe7.ext PI.mono e79⟩
      · obtain ⟨o12, o13, rfl, ob4, oe4⟩ := iv
        exact k _ _ e4
end
end GH
end
section
set_option maxRecDepth 100000
set_option maxHeartbeats 4000000
/-! _law_costs_right. -/
namespace GH
open PySem PySem.Spec PyProof.Rows L2 GM
theorem take_sumS {ws : List (Wy Str)} {ss : List (Sd × Rat)} {i : Nat} {t : Sd × Rat} (h : ss[i]? = some t) : worthF ws (sumS (ss.take (i + 1))) = worthF ws (sumS (ss.take i)) + worthF ws (strandF t.1 t.2) := by
  rw [take_succ_of h, ← worth_add]
  exact worth_congr fun w _ => sumS_snoc _ _ _
theorem worth_sz {ws : List (Wy Str)} {f : Str → Rat} {D V : Nat} (h : ∀ w ∈ ws, WyOk w) (hc : ∀ w ∈ ws, w.cost.den = 1) (hf : ∀ m, Dv D (f m) ∧ Ab V (f m)) : Dv D (worthF ws f) ∧ Ab (ws.length * (V * 2 ^ 10)) (worthF ws f) := by
  induction ws with
  | nil => exact ⟨Dv.zero, Ab.zero⟩
  | cons w r ih =>
    obtain ⟨i1, i2⟩ := ih (fun v hv => h v (List.mem_cons_of_mem _ hv)) fun v hv => hc v (List.mem_cons_of_mem _ hv)
    have cI : Dv 1 w.cost := by have := dv_den w.cost; rwa [hc w List.mem_cons_self] at this
    obtain ⟨f1, f2⟩ := hf w.name
    have d1 := f1.mul cI
    rw [Nat.mul_one] at d1
    refine ⟨d1.add i1, ?_⟩
    show Ab ((r.length + 1) * _) _
    rw [Nat.add_mul, Nat.one_mul, Nat.add_comm]
    exact (f2.mul (h w List.mem_cons_self).cost.ab).add i2
theorem psz_of {D V a b : Nat} {x : Rat} (h : Dv D x) (k : Ab V x) (h0 : 0 < D) (hD : D ≤ 2 ^ a) (hV : V ≤ 2 ^ b) : PSz (a + b + 1) (x.num, (x.den : Int)) := by
  have d := h.den_le h0
  have n := k.num d
  refine ⟨Nat.lt_of_le_of_lt n ?_, ?_⟩
  · exact Nat.lt_of_le_of_lt (pw_mul (c := a + b) hV hD (by omega)) (Nat.pow_lt_pow_right (by decide) (by omega))
  · show (x.den : Int).natAbs < _
    rw [Int.natAbs_natCast]
    exact Nat.lt_of_le_of_lt (Nat.le_trans d hD) (Nat.pow_lt_pow_right (by decide) (by omega))
/-- a strand's plan: sizes -/
theorem strand_sz {n : Nt} {s : Sd} {q : Rat} {D V : Nat} (sv : SV n s) (nw : NtW n) (sx : SX D V q) : ∃ D', Sz D' (2 ^ 60114) ∧ D' ≤ 2 ^ 4110 ∧ ∀ m, Dv D' (strandF s q m) ∧ Ab (2 ^ 60114) (strandF s q m) := by
  obtain ⟨M, T⟩ := unit_tight sv nw
  have hD : D * M ≤ 2 ^ 4110 := pw_mul sx.d T.le (by decide)
  refine ⟨D * M, ⟨Nat.mul_pos sx.pos T.pos, pw_le hD (by decide), Nat.pow_le_pow_right (by decide) (by decide)⟩, hD, fun m => ?_⟩
  rw [strand_lin]
  obtain ⟨h1, h2⟩ := T.both m
  exact ⟨sx.dv.mul h1, (sx.ab.mul h2).mono (pw_mul sx.v (Nat.le_refl _) (by decide))⟩
theorem strand_sub {n : Nt} {s : Sd} {q : Rat} (sv : SV n s) (nw : NtW n) (hq : 0 < q) (m : Str) (h : strandF s q m ≠ 0) : m ∈ names n.ws := by
  apply Classical.byContradiction
  intro z
  refine h ((strand_pos sv nw hq m).2.2 fun y => z ?_)
  have go : ∀ us : List (Wy Str), (∀ w ∈ us, w ∈ n.ws) → m ∈ names us → m ∈ names n.ws := fun us hu hm => by
    obtain ⟨w, hw, e⟩ := List.mem_map.mp hm
    exact List.mem_map.mpr ⟨w, hu w hw, e⟩
  rcases List.mem_append.mp y with y | y
  · rcases List.mem_append.mp y with y | y
    · exact go _ sv.sh y
    · exact go _ sv.sp y
  · exact go _ sv.st y
theorem rv_i1 (i : Int) : rv (i, 1) = ((i : Int) : Rat) := rv_eq (by show (1 : Int) ≠ 0; decide) (by show (i : Rat) * ((1 : Int) : Rat) = (i : Rat); exact Rat.mul_one _)
def spLCR (c : Cl) : Sp := fun vs H Q _ => ∃ (G : Hp) (x y z v : V) (ps : List Str) (wl : Wd) (l : Dd) (D : Nat) (cell : Int) (ss : List (Sd × Rat)), vs = [x, y, z, .int cell, v] ∧ Same G H ∧ NetAt c G x (ntL ps cell wl) ∧ NtW (ntL ps cell wl) ∧ DctAt WrAt G y wl ∧ WdOk ps wl ∧ DctE PI G z l ∧ DuOk wl D 8000 l ∧
  LstAt (SdAt c) G v ss ∧ Done (ntL ps cell wl) (amt (duPl l)) ss ∧ ∀ G' H', Ext G H G' H' → Q (.bl true) H'
section
variable {P : Program} {w : World} {K : PySem.W.Frag} {mg : Str → Option Value} {base : Heap} {c : Cl} {f : Addr} {fd : FuncData}
abbrev nCR : List Str := ["_law_net_here", "_law_ways_here", "_law_due_here", "_law_cell", "_law_found", "_law_told_here", "_law_strand_here", "_law_whole_here", "_law_name"]
theorem scLCR : FnScope nCR ["_law_net_here", "_law_ways_here", "_law_due_here", "_law_cell", "_law_found"] (defScope sLCR) := ⟨rfl, rfl, rfl, by decide +kernel, rfl, by decide +kernel, by decide +kernel⟩
theorem ok_lcr (F : FnP K "_law_costs_right" "_law_costs_right" sLCR f fd) (T : Txt K mg c) (S1 : Fn P w K mg base "_law_plus" 1 ["_law_one", "_law_other"] [] spLP) (S2 : Fn P w K mg base "_law_told" 2 ["_law_found"] [] (spLTo c)) (S3 : Fn P w K mg base "worth" 6 ["net", "plan"] [] (spWorth c)) (S4 : Fn P w K mg base "strand_plan" 11 ["net", "strand"] [] (spSP c))
    (S5 : Fn P w K mg base "_law_times" 1 ["_law_one", "_law_other"] [] spLT) (S6 : Fn P w K mg base "_law_cost" 1 ["_law_name", "_law_ways_here", "_law_cell"] [] (spLC WrAt)) (S7 : Fn P w K mg base "_law_same" 1 ["_law_one", "_law_other"] [] spLSa) :
    FnOk P w K mg base CX0 12 f fd ["_law_net_here", "_law_ways_here", "_law_due_here", "_law_cell", "_law_found"] (spLCR c) := by
  refine F.ok scLCR (fun vs H Q E h => ?_) (fun cdv A outer s H vs Q E hr h => ?_)
  · obtain ⟨G, x, y, z, v, ps, wl, l, D, cell, ss, rfl, _⟩ := h
    rfl
  · obtain ⟨G, x, y, z, v, ps, wl, l, D, cell, ss, rfl, s, hn, nw, hy, wo, hz, du, hv, dn, k⟩ := h
    refine ⟨_, PSs.nox (pss_cons (ps_set (i := 5) scLCR.nd rfl (Or.inl rfl) (pe_tup (pa_cons pe_int (pa_cons pe_int pa_nil))))
      (pss_cons (ps_for PassesOwn.never rfl (pi_list (pv 4)) (pg_name (i := 6) scLCR.nd rfl (Or.inl rfl))
        (pss_one (ps_set (i := 5) scLCR.nd rfl (Or.inl rfl) (pe_fn S1 (hr.mono (by decide)) (by rfl) (pa_cons (pv 5) (pa_cons (pe_fn S2 (hr.mono (by decide)) (by rfl) (pa_cons (pe_fn S3 (hr.mono (by decide)) (by rfl) (pa_cons (pv 0) (pa_cons (pe_fn S4 hr (by rfl) (pa_cons (pv 0) (pa_cons (pv 6) pa_nil))) pa_nil))) pa_nil)) pa_nil))))))
      (pss_cons (ps_set (i := 7) scLCR.nd rfl (Or.inl rfl) (pe_tup (pa_cons pe_int (pa_cons pe_int pa_nil))))
      (pss_cons (ps_lock (ps_for PassesOwn.never rfl (pi_keys (pv 2)) (pg_name (i := 8) scLCR.nd rfl (Or.inl rfl))
        (pss_one (ps_set (i := 7) scLCR.nd rfl (Or.inl rfl) (pe_fn S1 (hr.mono (by decide)) (by rfl) (pa_cons (pv 7) (pa_cons (pe_fn S5 (hr.mono (by decide)) (by rfl) (pa_cons (pe_dget (hu_of hr) (pv 2) (pv 8) (fun _ _ => rfl)) (pa_cons (pe_tup (pa_cons (pe_fn S6 (hr.mono (by decide)) (by rfl) (pa_cons (pv 8) (pa_cons (pv 1) (pa_cons (pv 3) pa_nil)))) (pa_cons pe_int pa_nil))) pa_nil))) pa_nil)))))))
      (pss_one (ps_ret (pe_and (pe_cmpR op_gt (pe_ix ix_tup (pv 5) pe_int (fun _ _ => rfl)) pe_int (nomark _)) (pe_one (pe_fn S7 (hr.mono (by decide)) (by rfl) (pa_cons (pv 5) (pa_cons (pv 7) pa_nil))))))))))), ?_⟩
    refine ⟨by show 2 ≤ sizeLine; decide, fun p0 np0 => ?_⟩
    have i0 := Ext.imm (p := p0) (o := .tup [.int 0, .int 1]) s np0
    have w0 : ∀ ws : List (Wy Str), worthF ws (fun _ => 0) = 0 := worth_zero
    refine ⟨_, rfl, ?_⟩
    refine for_lst (R := SdAt c) SdAt.mono (hv.up SdAt.mono (same_sm i0.g)) (Same.refl _) i0 (fun i σ G' H' => ∃ v5 v6 q, σ = [some x, some y, some z, some (.int cell), some v, some v5, v6, none, none] ∧ PI G' v5 q ∧ 0 < q.2 ∧ PSz (1 + 64400 * i) q ∧ rv q = worthF (wyL cell wl) (sumS (ss.take i)))
      ⟨.ref p0, none, (0, 1), rfl, PI.mk, by decide, ⟨by decide, by decide⟩, by rw [rv_zero]; exact (w0 _).symm⟩ (fun i t u σ G2 H2 hi hu sl e iv => ?_) (fun σ G2 H2 sl e iv => ?_)
    · obtain ⟨v5, v6, q, rfl, h5, q2, qz, qv⟩ := iv
      have mem := List.mem_of_getElem? hi
      have il := (List.getElem?_eq_some_iff.mp hi).1
      have sl16 := dn.len
      obtain ⟨sv, qp, Dq, Vq, sx⟩ := dn.ok t mem
      obtain ⟨D', sz, dl, hf⟩ := strand_sz sv nw sx
      refine ⟨_, rfl, _, rfl, _, rfl, _, rfl, G2, x, u, ntL ps cell wl, t.1, t.2, Dq, Vq, rfl, e.gh, hn.up' e.g, nw, hu, sv, qp, sx, fun vp G3 H3 e3 ⟨lp, hlp, plp⟩ => ?_⟩
      refine ⟨G3, x, vp, ntL ps cell wl, lp, D', 2 ^ 60114, rfl, e3.gh, hn.up' (e.trans e3).g, nw, hlp, plp.ok (strand_sub sv nw qp), sz, plp.pb sz.pos hf, fun vw G4 H4 e4 hw => ?_⟩
      have ea : amt lp = strandF t.1 t.2 := funext plp.amt
      rw [ea] at hw
      obtain ⟨wd, wb⟩ := worth_sz nw.wy nw.cd hf
      have wz : PSz 64300 ((worthF (wyL cell wl) (strandF t.1 t.2)).num, ((worthF (wyL cell wl) (strandF t.1 t.2)).den : Int)) := by
        refine (psz_of (a := 4110) (b := 60128) wd wb sz.pos dl ?_).up (by decide)
        have h12 : (ntL ps cell wl).ws.length ≤ 2 ^ 4 := Nat.le_trans nw.ok.w12 (by decide)
        exact pw_mul h12 (pw_mul (Nat.le_refl _) (Nat.le_refl _) (Nat.le_refl _)) (by decide)
      refine ⟨G4, vw, _, rfl, e4.gh, hw, fun vt G5 H5 e5 ht => ?_⟩
      refine ⟨G5, v5, vt, q, _, rfl, e5.gh, PI.mono (same_sm ((e3.trans e4).trans e5).g) h5, ht, qz.up (by omega), wz.up (by decide), fun v7 G6 H6 e6 h6 => ?_⟩
      have e26 := ((e3.trans e4).trans e5).trans e6
      have dp : (0 : Int) < ((worthF (wyL cell wl) (strandF t.1 t.2)).den : Int) := by have := (worthF (wyL cell wl) (strandF t.1 t.2)).den_nz; omega
      refine ⟨G6, sl.trans e26.g, e.trans e26, v7, _, _, rfl, h6, Int.mul_pos q2 dp, (qz.pl wz).up (by omega), ?_⟩
      rw [rv_pl (by omega) (by show ((worthF (wyL cell wl) (strandF t.1 t.2)).den : Int) ≠ 0; omega), rv_q, qv, take_sumS hi]
    · obtain ⟨v5, v6, q, rfl, h5, q2, qz, qv⟩ := iv
      rw [List.take_length] at qv
      have sl16 := dn.len
      refine ⟨by show 2 ≤ sizeLine; decide, fun p1 np1 => ?_⟩
      have i3 := Ext.imm (p := p1) (o := .tup [.int 0, .int 1]) e.gh np1
      have e3 := e.trans i3
      have h53 := PI.mono (same_sm i3.g) h5
      have hp1 : PI (upd G2 p1 (.tup [.int 0, .int 1])) (.ref p1) (0, 1) := PI.mk
      generalize upd G2 p1 (.tup [.int 0, .int 1]) = G3 at *
      generalize upd H2 p1 (.tup [.int 0, .int 1]) = H3 at *
      have hz3 := hz.up PI.mono e3.g
      obtain ⟨a, kvs, rfl, hk, hp⟩ := id hz3
      refine ⟨a, _, e3.gh _ _ hk, trivial, fun od => ?_⟩
      refine ⟨_, rfl, a, od, rfl, .inl ⟨kvs, upd_same, ?_⟩⟩
      have lm := lock_sm (od := od) hk
      have hzL := hz3.at.up PI.mono lm
      have hyL := (hy.up WrAt.mono (same_sm e3.g)).up WrAt.mono lm
      have sL := same_upd (p := a) (o := lck od kvs) e3.gh
      have ll : l.length ≤ 12 := by
        have := pigeon du.nd du.sub
        rw [keys_len, keys_len] at this
        have := wo.len
        omega
      refine for_keys (l := l) hp (fun i σ H' => ∃ G' v7 v8 r, σ = [some x, some y, some (.ref a), some (.int cell), some v, some v5, v6, some v7, v8] ∧ Ext (upd G3 a (lck od kvs)) (upd H3 a (lck od kvs)) G' H' ∧ PI G' v7 r ∧ 0 < r.2 ∧ PSz (1 + 8100 * i) r ∧ rv r = worthF (wyL cell wl) (amt (duPl (l.take i))))
        ⟨_, .ref p1, none, (0, 1), rfl, Ext.refl sL, PI.mono lm hp1, by decide, ⟨by decide, by decide⟩, by rw [rv_zero]; exact (w0 _).symm⟩ (fun i σ H' _ z => ?_) (fun i pr σ H' hi z => ?_) (fun σ H' z => ?_)
      · obtain ⟨G', v7, v8, r, _, e4, _⟩ := z
        exact (unl e3.gh hk e4).1
      · obtain ⟨G4, v7, v8, r, rfl, e4, h7, r2, rz, rvv⟩ := z
        have mem := List.mem_of_getElem? hi
        have il := (List.getElem?_eq_some_iff.mp hi).1
        have dq := du.ok _ mem
        have mk := du.sub pr.1 (List.mem_map.mpr ⟨pr, mem, rfl⟩)
        obtain ⟨rr, er⟩ := lk_some mk
        obtain ⟨a2, w2, ea2, g2, hr2⟩ := (hzL.up PI.mono (same_sm e4.g)).get e4.gh (lk_of_mem du.nd mem)
        have wlen := wo.len
        refine ⟨_, rfl, _, rfl, _, rfl, a2, _, ea2, g2, _, rfl, _, rfl, _, rfl, G4, pr.1, y, wl, cell, rfl, e4.gh, hyL.up WrAt.mono (same_sm e4.g), wo.nd, by omega, mk, fun G5 H5 e5 => ?_⟩
        refine ⟨by show 2 ≤ sizeLine; decide, fun tq ntq => ?_⟩
        have cl := cst_le (keys wl) cell pr.1
        have i6' := Ext.imm (p := tq) (o := .tup [.int (cstF (keys wl) cell pr.1), .int 1]) e5.gh ntq
        have i6 := e5.trans i6'
        have cz : PSz 3 (cstF (keys wl) cell pr.1, 1) := ⟨by show (cstF (keys wl) cell pr.1).natAbs < 8; omega, by show (1 : Int).natAbs < 2 ^ 3; decide⟩
        have dz := dq.sz
        refine ⟨_, w2, .ref tq, pr.2, _, rfl, i6.gh, PI.mono (same_sm i6.g) hr2, PI.mk, dz.up (by decide), cz.up (by decide), fun v9 G7 H7 e7 h9 => ?_⟩
        have tz := dz.tm cz
        refine ⟨G7, v7, v9, r, _, rfl, e7.gh, PI.mono (same_sm (i6.trans e7).g) h7, h9, rz.up (by omega), tz.up (by decide), fun v10 G8 H8 e8 h10 => ?_⟩
        have d2 := dq.d
        have n2 : 0 < (tmI pr.2 (cstF (keys wl) cell pr.1, 1)).2 := Int.mul_pos d2 (by show (0 : Int) < 1; decide)
        refine ⟨G8, v10, _, _, rfl, e4.trans ((i6.trans e7).trans e8), h10, Int.mul_pos r2 n2, (rz.pl tz).up (by omega), ?_⟩
        rw [rv_pl (by omega) (by omega), rv_tm (by omega) (by show (1 : Int) ≠ 0; decide), rv_i1, rvv, worth_step cell wo du.nd hi er]
      · obtain ⟨G4, v7, v8, r, rfl, e4, h7, r2, rz, rvv⟩ := z
        obtain ⟨q1, e5, q3⟩ := unl e3.gh hk e4
        rw [List.take_length] at rvv
        have h75 := PI.mono q3 h7
        have h55 := PI.mono (same_sm e5.g) h53
        refine ⟨q1, ?_⟩
        generalize upd G4 a (.dK kvs) = G5 at *
        generalize upd H' a (.dK kvs) = H5 at *
        obtain ⟨t5, rfl, ht5⟩ := h55.obj
        refine ⟨_, rfl, t5, _, 1, _, rfl, rfl, SqT.of (e5.gh _ _ ht5), rfl, _, _, rfl, rfl, _, rfl, ?_⟩
        refine iteDT q2 ⟨_, rfl, _, rfl, G5, .ref t5, v7, q, r, rfl, e5.gh, h55, h75, qz.up (by omega), rz.up (by omega), ?_⟩
        have E1 : q.1 * r.2 = r.1 * q.2 := by
          refine (rv_same (by omega) (by omega)).mpr ?_
          rw [qv, rvv]
          exact (worth_congr fun w _ => dn.tot w.name).symm
        rw [decide_eq_true E1]
        exact k _ _ (e3.trans e5)
end
end GH
end
section
set_option maxRecDepth 100000
set_option maxHeartbeats 4000000
/-! law. -/
namespace GH
open PySem PySem.Spec PyProof.Rows L2 GM
theorem lk_duPl (l : Dd) (m : Str) : lk (duPl l) m = (lk l m).map rv := by
  induction l with
  | nil => rfl
  | cons t r ih =>
    by_cases e : t.1 = m
    · rw [lk_pos e]
      show lk ((t.1, rv t.2) :: duPl r) m = _
      rw [lk_pos (by exact e)]; rfl
    · rw [lk_neg e, ← ih]
      exact lk_neg (p := (t.1, rv t.2)) e
theorem amt_du (l : Dd) (m : Str) : amt (duPl l) m = rv (duA l m) := by
  unfold amt duA
  rw [lk_duPl]
  cases lk l m with
  | none => exact rv_zero.symm
  | some x => rfl
theorem rv_nn {p : Int × Int} (h1 : 0 ≤ p.1) (h2 : 0 < p.2) : 0 ≤ rv p := by
  rcases Int.lt_or_eq_of_le h1 with h | h
  · exact Rat.le_of_lt (rv_pos h h2)
  · have : rv p = 0 := rv_eq (by omega) (by rw [← h, Rat.zero_mul]; rfl)
    rw [this]; exact Rat.le_refl
theorem rv_top {p : Int × Int} (h1 : 0 ≤ p.1) (h2 : 0 < p.2) : rv p ≤ ((p.1 : Int) : Rat) := by
  unfold rv
  rw [div_le_iff' (Rat.intCast_lt_intCast (a := 0) |>.mpr h2)]
  have a : (1 : Rat) ≤ (p.2 : Rat) := Rat.intCast_le_intCast (a := 1) |>.mpr (by omega)
  have b : (0 : Rat) ≤ (p.1 : Rat) := Rat.intCast_le_intCast (a := 0) |>.mpr h1
  have := Rat.mul_le_mul_of_nonneg_left a b
  rwa [Rat.mul_one] at this
theorem du_St {ps : List Str} {wl : Wd} {l : Dd} {D : Nat} (cell : Int) (du : DuOk wl D 8000 l) (D0 : 0 < D) (Dl : D ≤ 2 ^ 600) : St (ntL ps cell wl) (amt (duPl l)) D := by
  have am := fun m => du.amt (by decide) m
  refine ⟨fun m => ?_, fun m h => ?_, D0, Nat.le_trans Dl (Nat.pow_le_pow_right (by decide) (by omega)), fun m => ?_, fun m => ?_⟩
  · rw [amt_du]; exact rv_nn (am m).n (am m).d
  · have := amt_in h
    rw [duPl_keys] at this
    show m ∈ names (wyL cell wl)
    rw [wyL_names]; exact du.sub m this
  · rw [amt_du]; exact (am m).dv
  · rw [amt_du]
    refine Rat.le_trans (rv_top (am m).n (am m).d) ?_
    have h1 := (am m).sz.a
    have h2 : (2 : Nat) ^ 8000 ≤ 2 ^ 10000 := Nat.pow_le_pow_right (by decide) (by decide)
    have h3 := (am m).n
    have h4 : (duA l m).1 ≤ ((2 ^ 10000 : Nat) : Int) := by
      generalize (2 : Nat) ^ 8000 = A at *
      generalize (2 : Nat) ^ 10000 = B at *
      omega
    exact Rat.intCast_le_intCast (b := ((2 ^ 10000 : Nat) : Int)) |>.mpr h4
theorem cut_take2 {xs : List V} {i : Nat} : cutV xs none (some (i : Int)) = xs.take i := by
  unfold cutV
  rw [HT.sIx_none, HT.sIx_nat, List.drop_zero, Nat.sub_zero]
  by_cases h : i ≤ xs.length
  · rw [Nat.min_eq_left h]
  · rw [Nat.min_eq_right (by omega), List.take_length, List.take_of_length_le (by omega)]
theorem paired_take {α β : Type} {F : α → β → Prop} {l : List α} {r : List β} (h : Paired F l r) : ∀ i, Paired F (l.take i) (r.take i) := by
  induction h with
  | nil => intro i; rw [List.take_nil, List.take_nil]; exact .nil
  | cons a t ih =>
    intro i
    cases i with
    | zero => exact .nil
    | succ i => exact .cons a (ih i)
/-- a list that came and was emptied -/
theorem Ext.back {G1 H1 G2 H2 G5 H5 : Hp} {d : Addr} {o : HO} (e : Ext G1 H1 G2 H2) (x : Ext G2 H2 G5 H5) (hd : H2 d = none) : Ext G1 H1 G2 (upd H5 d o) := by
  have gd := Same.free e.gh hd
  refine ⟨e.g, fun b u q => ?_, fun b u q => ?_, e.new⟩
  · have h2 := e.h b u q
    rw [upd_ne (ne_of_none h2 hd)]; exact x.h b u h2
  · rw [upd_ne (ne_of_none q gd)]; exact x.h b u (e.gh b u q)
def spLaw (K : PySem.W.Frag) : Sp := fun vs H Q _ => ∃ (a : Addr) (ns : List Int), vs = [.ref a] ∧ SqL K H a (ns.map V.int) ∧ ns.length ≤ 63 ∧ ∀ H', Q (.bl true) H'
section
variable {P : Program} {w : World} {K : PySem.W.Frag} {mg : Str → Option Value} {base : Heap} {c : Cl} {f : Addr} {fd : FuncData}
abbrev nLaw : List Str := ["_law_script", "_law_cell", "_law_spots", "_law_labels", "_law_ways_here", "_law_strands_here", "_law_net_here", "_law_due_here", "_law_plan", "_law_k", "_law_found"]
theorem scLaw : FnScope nLaw ["_law_script"] (defScope sLaw) := ⟨rfl, rfl, rfl, by decide +kernel, rfl, by decide +kernel, by decide +kernel⟩
theorem ok_law (F : FnP K "law" "law" sLaw f fd) (T : Txt K mg c) (S1 : Fn P w K mg base "_law_cell_at" 1 ["_law_script", "_law_k"] [] (spCA K)) (S2 : Fn P w K mg base "_law_names" 1 ["_law_cell", "_law_count"] [] spLN) (S3 : Fn P w K mg base "_law_ways" 2 ["_law_script", "_law_spots", "_law_labels"] [] (spLWs K))
    (S4 : Fn P w K mg base "_law_strands" 4 ["_law_script", "_law_ways_here", "_law_labels", "_law_count", "_law_many"] [] (spLSs K)) (S5 : Fn P w K mg base "_law_free_ways" 2 ["_law_script", "_law_spots", "_law_labels"] [] (spLFW K)) (S6 : Fn P w K mg base "_law_net" 8 ["_law_spots", "_law_ways_here", "_law_cell"] [] (spLNt c))
    (S7 : Fn P w K mg base "_law_due" 4 ["_law_script", "_law_ways_here", "_law_strands_here"] [] (spLDu K)) (S8 : Fn P w K mg base "_law_as_plan" 4 ["_law_due_here"] [] (spLAP c)) (S9 : Fn P w K mg base "taken_apart" 12 ["net", "plan"] [] (spTA c))
    (S10 : Fn P w K mg base "_law_ends_right" 3 ["_law_spots", "_law_ways_here", "_law_due_here", "_law_found"] [] (spLER c)) (S11 : Fn P w K mg base "_law_costs_right" 12 ["_law_net_here", "_law_ways_here", "_law_due_here", "_law_cell", "_law_found"] [] (spLCR c)) :
    FnOk P w K mg base CX0 13 f fd ["_law_script"] (spLaw K) := by
  refine F.ok scLaw (fun vs H Q E h => ?_) (fun cdv A outer s H vs Q E hr h => ?_)
  · obtain ⟨a, ns, rfl, _⟩ := h
    rfl
  · obtain ⟨ax, ns, rfl, hS, nl, k⟩ := h
    refine ⟨_, PSs.nox (pss_cons (ps_set (i := 1) scLaw.nd rfl (Or.inl rfl) (pe_fn S1 (hr.mono (by decide)) (by rfl) (pa_cons (pv 0) (pa_cons pe_int pa_nil))))
      (pss_cons (ps_set (i := 2) scLaw.nd rfl (Or.inl rfl) (pe_fn S2 (hr.mono (by decide)) (by rfl) (pa_cons (pe_fn S1 (hr.mono (by decide)) (by rfl) (pa_cons (pv 0) (pa_cons pe_int pa_nil))) (pa_cons (pe_op op_add pe_int (pe_op op_mod (pv 1) pe_int)) pa_nil))))
      (pss_cons (ps_set (i := 3) scLaw.nd rfl (Or.inl rfl) (pe_fn S2 (hr.mono (by decide)) (by rfl) (pa_cons (pe_fn S1 (hr.mono (by decide)) (by rfl) (pa_cons (pv 0) (pa_cons pe_int pa_nil))) (pa_cons (pe_op op_add (pe_op op_mul pe_int (pe_callB call_len_seq (by rfl) T.len PySem.boot_len (pa_cons (pv 2) pa_nil))) pe_int) pa_nil))))
      (pss_cons (ps_set (i := 4) scLaw.nd rfl (Or.inl rfl) (pe_fn S3 (hr.mono (by decide)) (by rfl) (pa_cons (pv 0) (pa_cons (pv 2) (pa_cons (pv 3) pa_nil)))))
      (pss_cons (ps_set (i := 5) scLaw.nd rfl (Or.inl rfl) (pe_slice sl_list (pe_fn S4 (hr.mono (by decide)) (by rfl) (pa_cons (pv 0) (pa_cons (pv 4) (pa_cons (pv 3) (pa_cons (pe_callB call_len_seq (by rfl) T.len PySem.boot_len (pa_cons (pv 2) pa_nil)) (pa_cons pe_int pa_nil)))))) po_none (po_some (pe_op op_mod (pe_fn S1 (hr.mono (by decide)) (by rfl) (pa_cons (pv 0) (pa_cons pe_int pa_nil))) pe_int))))
      (C8.pss_cut (ps_if (pt_cmpR op_eq (pe_op op_mod (pe_op op_fdiv (pv 1) pe_int) pe_int) pe_int (nomark _)) (pss_cons (ps_set (i := 4) scLaw.nd rfl (Or.inl rfl) (pe_fn S5 (hr.mono (by decide)) (by rfl) (pa_cons (pv 0) (pa_cons (pv 2) (pa_cons (pv 3) pa_nil))))) (pss_one (ps_set (i := 5) scLaw.nd rfl (Or.inl rfl) (pe_lst pa_nil)))) pss_nil)
      (pss_cons (ps_set (i := 1) scLaw.nd rfl (Or.inl rfl) (pe_fn S1 (hr.mono (by decide)) (by rfl) (pa_cons (pv 0) (pa_cons pe_int pa_nil))))
      (pss_cons (ps_set (i := 6) scLaw.nd rfl (Or.inl rfl) (pe_fn S6 (hr.mono (by decide)) (by rfl) (pa_cons (pv 2) (pa_cons (pv 4) (pa_cons (pv 1) pa_nil)))))
      (pss_cons (ps_set (i := 7) scLaw.nd rfl (Or.inl rfl) (pe_fn S7 (hr.mono (by decide)) (by rfl) (pa_cons (pv 0) (pa_cons (pv 4) (pa_cons (pv 5) pa_nil)))))
      (pss_cons (ps_set (i := 8) scLaw.nd rfl (Or.inl rfl) (pe_fn S8 (hr.mono (by decide)) (by rfl) (pa_cons (pv 7) pa_nil)))
      (pss_cons (ps_for PassesOwn.never rfl (pi_range1 (by rfl) T.range (pa_cons pe_int pa_nil)) (pg_name (i := 9) scLaw.nd rfl (Or.inl rfl))
        (pss_cons (ps_set (i := 10) scLaw.nd rfl (Or.inl rfl) (pe_fn S9 hr (by rfl) (pa_cons (pv 6) (pa_cons (pv 8) pa_nil))))
        (pss_cons (ps_if (pw_or (pt_not (pt_val (pe_fn S10 (hr.mono (by decide)) (by rfl) (pa_cons (pv 2) (pa_cons (pv 4) (pa_cons (pv 7) (pa_cons (pv 10) pa_nil))))))) (pw_or1 (pt_not (pt_val (pe_fn S11 hr (by rfl) (pa_cons (pv 6) (pa_cons (pv 4) (pa_cons (pv 7) (pa_cons (pv 1) (pa_cons (pv 10) pa_nil)))))))))).pt pss_never pss_nil)
        (pss_one (ps_expr (pe_bm0 PySem.F.plainAttrs_list PySem.F.slot_list_clear PySem.F.type_list_clear mt_clear (pv 10)))))))
      (pss_one (ps_ret pe_bl))))))))))))), ?_⟩
    have hx : ScrAt K H (.ref ax) ns := ⟨ax, rfl, hS⟩
    have s0 := Same.refl H
    have p30 : (100 : Int) ≤ 2 ^ 30 := by decide
    refine ⟨_, rfl, H, .ref ax, 0, ns, rfl, s0, hx, by decide, by omega, ?_⟩
    generalize caF ns 0 = z0
    obtain ⟨n2, en2⟩ : ∃ n2 : Nat, (n2 : Int) = 2 + z0 % 3 := ⟨(2 + z0 % 3).toNat, by omega⟩
    refine ⟨_, rfl, H, .ref ax, 1, ns, rfl, s0, hx, by decide, by omega, _, rfl, _, _, rfl, rfl, (by show (0 : Int) < 3; decide), _, _, rfl, rfl, H, caF ns 1, n2, by rw [en2]; rfl, s0, by omega, fun v2 G2 H2 e2 ⟨ps, hps, pl, ndp⟩ => ?_⟩
    obtain ⟨ay, ys, rfl, sy, ly⟩ := hps.len e2.gh (K := K)
    refine ⟨_, rfl, G2, .ref ax, 2, ns, rfl, e2.gh, hx.same e2.g, by decide, by omega, _, rfl, ay, ys, rfl, .inl sy, _, _, rfl, rfl, small_mul (by omega) (by omega), _, _, rfl, rfl, G2, caF ns 2, 2 * ps.length + 4, ?_, e2.gh, by omega, fun v3 G3 H3 e3 ⟨ls, hls, ll, ndl⟩ => ?_⟩
    · rw [ly]; rfl
    have e03 := e2.trans e3
    have hps3 := hps.up StrAt.mono (same_sm e3.g)
    refine ⟨_, rfl, _, rfl, _, rfl, G3, .ref ax, .ref ay, v3, ns, ps, ls, rfl, e3.gh, hx.same e03.g, by omega, hps3, hls, ndp, ndl, by omega, by omega, ll, fun d G4 H4 wl nd e4 o4 la => ?_⟩
    have e04 := e03.trans e4
    have hd0 : H d = none := e03.free nd
    have hps4 := hps3.up StrAt.mono (same_sm e4.g)
    obtain ⟨_, ys4, ey4, sy4, ly4⟩ := hps4.len e4.gh (K := K)
    cases ey4
    refine ⟨_, rfl, _, rfl, _, rfl, _, rfl, ay, ys4, rfl, .inl sy4, G4, d, .ref ax, v3, ns, ps, ls, wl, by rw [ly4]; rfl, e4.gh, o4, la, hx.same e04.g, by omega, hls.up StrAt.mono (same_sm e4.g), ndl, ll, ndp, by omega, by omega, fun v5 G5 H5 wl5 xs x5 o5 wo5 hv5 xl5 ok5 => ?_⟩
    have e05 := x5.up e04 hd0
    refine ⟨_, rfl, G5, .ref ax, 4, ns, rfl, e05.gh, hx.same e05.g, by decide, by omega, _, _, rfl, rfl, (by show (0 : Int) < 3; decide), ?_⟩
    generalize caF ns 4 = z4
    obtain ⟨n4, en4⟩ : ∃ n4 : Nat, (n4 : Int) = z4 % 3 := ⟨(z4 % 3).toNat, by omega⟩
    obtain ⟨a5, vs5, rfl, g5, pv5⟩ := hv5
    refine ⟨(n4 : Int), by rw [en4], a5, vs5, rfl, SqL.of (e05.gh _ _ g5), fun p6 np6 => ?_⟩
    rw [cut_take2]
    have i6 := Ext.imm (p := p6) (o := .lst (vs5.take n4)) e05.gh np6
    have e06 := e05.trans i6
    have s36 : Same G3 (upd G5 p6 (.lst (vs5.take n4))) := (e4.g.trans x5.g).trans i6.g
    have hL6 : LstAt LsAt (upd G5 p6 (.lst (vs5.take n4))) (.ref p6) (xs.take n4) := ⟨p6, _, rfl, upd_same, Paired.imp (fun _ _ q => LsAt.mono (same_sm i6.g) q) (paired_take pv5 n4)⟩
    have o6 := o5.ext WrAt.mono i6
    generalize upd G5 p6 (.lst (vs5.take n4)) = G6 at *
    generalize upd H5 p6 (.lst (vs5.take n4)) = H6 at *
    refine ⟨fun σ' H' => ∃ G' v4 v5 wl xs, σ' = [some (.ref ax), some (.int z0), some (.ref ay), some v3, some v4, some v5, none, none, none, none, none] ∧ Ext H H G' H' ∧ Same G3 G' ∧ DctE WrAt G' v4 wl ∧ WdOk ps wl ∧ LstAt LsAt G' v5 xs ∧ xs.length ≤ 2 ∧ ∀ t ∈ xs, LsOk wl t, ?_, fun σ' H' m1 => ?_⟩
    · refine ⟨_, rfl, _, _, rfl, rfl, cd _ _ (by decide) (by decide), _, _, rfl, rfl, (by show (0 : Int) < 2; decide), rfl, _, rfl, ite2 (fun _ => ?_) (fun _ => ?_)⟩
      · refine ⟨_, rfl, _, rfl, _, rfl, G6, .ref ax, .ref ay, v3, ns, ps, ls, rfl, e06.gh, hx.same e06.g, by omega, hps3.up StrAt.mono (same_sm s36), hls.up StrAt.mono (same_sm s36), ndp, ndl, by omega, by omega, ll, fun d7 G7 H7 wl7 nd7 e7 o7 wo7 => ⟨Nat.zero_le _, fun p8 np8 => ?_⟩⟩
        have i8 := Ext.imm (p := p8) (o := .lst []) e7.gh np8
        have hd7 : H d7 = none := e06.free nd7
        obtain ⟨G9, e9, hD9, s89⟩ := (o7.ext WrAt.mono i8).doneE WrAt.mono s0 (e06.trans (e7.trans i8)) hd7
        exact ⟨G9, _, .ref p8, wl7, [], rfl, e9, (s36.trans (e7.trans i8).g).trans s89, hD9, wo7, ⟨p8, [], rfl, s89 _ _ upd_same, .nil⟩, Nat.zero_le _, (fun t h => nomatch h)⟩
      · obtain ⟨G9, e9, hD9, s89⟩ := o6.doneE WrAt.mono s0 e06 hd0
        refine ⟨G9, _, .ref p6, wl5, xs.take n4, rfl, e9, s36.trans s89, hD9, wo5, hL6.up LsAt.mono (same_sm s89), ?_, fun t h => ok5 t (List.mem_of_mem_take h)⟩
        have := List.length_take_le' n4 xs
        omega
    obtain ⟨G9, v4, w5, wm, xm, rfl, e9, s39, hD, wo, hX, xl, ok⟩ := m1
    refine ⟨_, rfl, G9, .ref ax, 3, ns, rfl, e9.gh, hx.same e9.g, by decide, by omega, ?_⟩
    generalize caF ns 3 = cell
    have hps9 := hps3.up StrAt.mono (same_sm s39)
    refine ⟨_, rfl, _, rfl, _, rfl, G9, .ref ay, v4, cell, ps, wm, rfl, e9.gh, hps9, ndp, by omega, by omega, hD, wo, fun v6 G10 H10 e10 hn => ?_⟩
    have e010 := e9.trans e10
    have hD10 := hD.up WrAt.mono e10.g
    refine ⟨_, rfl, _, rfl, _, rfl, G10, .ref ax, v4, w5, ns, ps, wm, xm, rfl, e10.gh, hx.same e010.g, by omega, hD10.at, wo, hX.up LsAt.mono (same_sm e10.g), xl, ok, fun v7 G11 H11 e11 ⟨l, D, hl, D0, Dl, du⟩ => ?_⟩
    have llen : l.length ≤ 12 := by
      have := pigeon du.nd du.sub
      rw [keys_len, keys_len] at this
      have := wo.len
      omega
    refine ⟨_, rfl, G11, v7, wm, l, D, rfl, e11.gh, hl, du, by omega, fun v8 G12 H12 e12 hp => ?_⟩
    have e012 := e010.trans (e11.trans e12)
    have nw := ntL_ok (cell := cell) wo ndp (by omega) (by omega)
    have st := du_St (ps := ps) cell du D0 Dl
    refine ⟨2, rfl, by decide, by decide, ?_⟩
    refine for_rng (lo := 0) (n := 2) (Same.refl G12) e012 (fun i σ G' H' => ∃ o9 o10, σ = [some (.ref ax), some (.int cell), some (.ref ay), some v3, some v4, some w5, some v6, some v7, some v8, o9, o10]) ⟨none, none, rfl⟩ (fun i σ G2 H2 hi sl e iv => ?_) (fun σ G2 H2 sl e iv => ?_)
    · obtain ⟨o9, o10, rfl⟩ := iv
      have s102 := (e11.g.trans e12.g).trans sl
      refine ⟨_, rfl, _, rfl, G2, v6, v8, ntL ps cell wm, duPl l, D, rfl, e.gh, hn.up' s102, nw, hp.up Fr.mono sl, by rw [duPl_keys]; exact du.nd, fun k hk => ?_, fun p hp => ?_, st, fun d' G5 H5 ss nd' x5 hf dn => ?_⟩
      · rw [duPl_keys] at hk
        show k ∈ names (wyL cell wm)
        rw [wyL_names]; exact du.sub k hk
      · obtain ⟨t, ht, et⟩ := List.mem_map.mp hp
        subst et
        exact rv_nn (du.ok t ht).n (du.ok t ht).d
      have s105 := s102.trans x5.g
      have s95 := e10.g.trans s105
      refine ⟨_, rfl, _, rfl, _, rfl, _, rfl, G5, .ref ay, v4, v7, .ref d', ps, wm, l, D, cell, ss, rfl, x5.gh, hps9.up StrAt.mono (same_sm s95), ndp, by omega, (hD10.up WrAt.mono s105).at, wo, hl.up PI.mono ((e12.g.trans sl).trans x5.g), du, hf, dn, fun G6 H6 e6 => ?_⟩
      have s106 := s105.trans e6.g
      refine ⟨_, rfl, iteF ⟨_, rfl, _, rfl, _, rfl, _, rfl, _, rfl, G6, v6, v4, v7, .ref d', ps, wm, l, D, cell, ss, rfl, e6.gh, hn.up' s106, nw, (hD10.up WrAt.mono s106).at, wo, hl.up PI.mono (((e12.g.trans sl).trans x5.g).trans e6.g), du, hf.up SdAt.mono (same_sm e6.g), dn, fun G7 H7 e7 => ?_⟩⟩
      refine ⟨_, rfl, iteF ?_⟩
      obtain ⟨_, vf, ef, gf, _⟩ := hf
      cases ef
      have hf7 := e7.h _ _ (e6.h _ _ (x5.gh _ _ gf))
      exact ⟨_, rfl, .inl ⟨rfl, _, SqL.of hf7⟩, d', vf, rfl, rfl, hf7, G2, sl, Ext.back e ((x5.trans e6).trans e7) nd', _, _, rfl⟩
    · exact k _
end
end GH
end
section
set_option maxRecDepth 100000
set_option maxHeartbeats 4000000
/-! From the head's facts to what each def keeps. -/
namespace GH
open PySem PySem.Spec PyProof.Rows L2 GM
/-- the classes, by their names -/
def clK (K : PySem.W.Frag) : Cl := ⟨He.ga K "Fraction", He.ga K "Way", He.ga K "Growing", He.ga K "Leaking", He.ga K "Store", He.ga K "Net"⟩
theorem tyI {K : PySem.W.Frag} {x : Str} (cl : Cls K (He.ga K x)) (o : ocB K = true) (t : tcB K x = true) {H : Hp} {a dx : Addr} {fs : List (Str × V)} (e : H a = some (.ins (He.ga K x) dx fs)) : TyOf K H (.ref a) (.ref (He.ga K x)) := by
  obtain ⟨o1, o2⟩ := He.ba o
  obtain ⟨t1, t2⟩ := He.ba t
  exact .ins e cl (He.eqO_ok t1) (He.eqO_ok o1) (of_decide_eq_true o2) (of_decide_eq_true t2)
theorem koI {K : PySem.W.Frag} {t c : Value} {b : Bool} (h : koB K t c b = true) : PySem.W.kitOne K t c = some b := of_decide_eq_true h
theorem cvI {K : PySem.W.Frag} (h : cvB K = true) : ClX.CVal K (He.ga K "Way") (.type "type") "__init__" (.ref (He.ma K (He.ga K "Way") "__init__")) (.ref (He.ma K (He.ga K "Way") "__init__")) := by
  unfold cvB at h
  cases e : PySem.W.findCls K (.ref (He.ga K "Way")) (.type "type") "__init__" with
  | none => rw [e] at h; cases h
  | some r =>
    rw [e] at h
    cases r with
    | val u =>
      have eu : u = .ref (He.ma K (He.ga K "Way") "__init__") := of_decide_eq_true h
      subst eu
      exact ⟨e, rfl⟩
    | get _ _ _ _ => cases h
theorem crI {K : PySem.W.Frag} (h : crB K = true) : ClX.CRead K (He.ga K "Way") (.type "type") := by
  obtain ⟨h1, h2⟩ := He.ba h
  exact ⟨h1, He.eqO_ok h2⟩
theorem neI {K : PySem.W.Frag} {x y : Str} (h : neB K x y = true) : He.ga K x ≠ He.ga K y := of_decide_eq_true h
section
variable {P : Program} {w : World} {K : PySem.W.Frag} {mg : Str → Option Value} {base : Heap} {c : Cl}
theorem mkFn {x : Str} {st : Stmt} {k : Nat} {ps : List Str} {sp : Sp} {f : Addr} {fd : FuncData} (F : FnP K x x st f fd) (ok : FnOk P w K mg base CX0 k f fd ps sp) (g : mg x = some (.ref f)) (hb : Binds K fd ps []) : Fn P w K mg base x k ps [] sp := ⟨f, fd, [], ok, g, F.kp, hb, .nil⟩
theorem mkMd {C : Addr} {m : Str} {j k : Nat} {ps : List Str} {sp : Sp} {f : Addr} {fd : FuncData} (ok : FnOk P w K mg base CX0 j f fd ps sp) (h : j ≤ k) (M : Meth K C m f) (hb : Binds K fd ps []) : Md P w K mg base C m k ps sp := ⟨f, fd, ok.mono h, M, hb⟩

theorem txt {h : Heap} (X : K.In h) (G : h.Ns mainGlobals mg) (s : obsK K = valM) : Txt K mg (clK K) := by
  have d := says_d s
  have x : ∀ (i : Nat) {b : Bool}, (exL K)[i]? = some b → b = true := fun i {b} h => says_b s i h
  have cF : Cls K (He.ga K "Fraction") := He.cls_ok (d.fact 83 rfl)
  have cW : WCls K (He.ga K "Way") := ⟨He.cls_ok (d.fact 84 rfl), He.noat_ok (d.fact 90 rfl), He.noat_ok (d.fact 91 rfl), He.noat_ok (d.fact 92 rfl), He.noat_ok (d.fact 93 rfl), He.noat_ok (d.fact 94 rfl)⟩
  have cG : WCls K (He.ga K "Growing") := ⟨He.cls_ok (d.fact 85 rfl), He.noat_ok (d.fact 95 rfl), He.noat_ok (d.fact 96 rfl), He.noat_ok (d.fact 97 rfl), He.noat_ok (d.fact 98 rfl), He.noat_ok (d.fact 99 rfl)⟩
  have cL : WCls K (He.ga K "Leaking") := ⟨He.cls_ok (d.fact 86 rfl), He.noat_ok (d.fact 101 rfl), He.noat_ok (d.fact 102 rfl), He.noat_ok (d.fact 103 rfl), He.noat_ok (d.fact 104 rfl), He.noat_ok (d.fact 105 rfl)⟩
  have mW := He.mkr_ok (d.fact 126 rfl)
  obtain ⟨fdW, FW⟩ := d.def_ 74 (d := m_Way_init) rfl
  have kW : PySem.W.keepIn K (.ref (He.ma K (He.ga K "Way") "__init__")) = true := FW.kp
  exact { clF := cF, nTop := He.noat_ok (d.fact 88 rfl), nBot := He.noat_ok (d.fact 89 rfl), cW := cW, cG := cG, cL := cL, nRate := He.noat_ok (d.fact 100 rfl), nLoss := He.noat_ok (d.fact 106 rfl), gW := He.glo_ok X G (d.fact 67 rfl), rW := ⟨.type "type", He.ma K (He.ga K "Way") "__init__", crI (x 0 rfl), cvI (x 1 rfl), kW, mW.init⟩, clN := He.cls_ok (d.fact 87 rfl), nKW := He.noat_ok (d.fact 107 rfl), nKY := He.noat_ok (d.fact 108 rfl), gS := He.glo_ok X G (d.fact 70 rfl), gF := He.glo_ok X G (d.fact 66 rfl), abs := He.free_ok X G (d.fact 72 rfl), len := He.free_ok X G (d.fact 73 rfl), list := He.free_ok X G (d.fact 74 rfl), dict := He.free_ok X G (d.fact 75 rfl), set := He.free_ok X G (d.fact 76 rfl), range := He.free_ok X G (d.fact 77 rfl), isi := He.free_ok X G (d.fact 78 rfl), int := He.free_ok X G (d.fact 79 rfl), bool := He.free_ok X G (d.fact 80 rfl), mPl := He.int_ok X G (d.fact 81 rfl), mWy := He.int_ok X G (d.fact 82 rfl), tyW := fun e => tyI cW.cl (x 2 rfl) (x 3 rfl) e, tyG := fun e => tyI cG.cl (x 2 rfl) (x 4 rfl) e, tyL := fun e => tyI cL.cl (x 2 rfl) (x 5 rfl) e, tyF := fun e => tyI cF (x 2 rfl) (x 6 rfl) e, kWS := koI (x 7 rfl), kGS := koI (x 8 rfl), kLS := koI (x 9 rfl), kFF := koI (x 10 rfl), kII := koI (x 11 rfl), kIB := koI (x 12 rfl) }
end
theorem facts {P : Program} {w : World} {K : PySem.W.Frag} {h : Heap} {mg : Str → Option Value} {f : Addr} (X : K.In h) (G : h.Ns mainGlobals mg) (hfa : mg ("law" : Str) = some (.ref f)) (s : obsK K = valM) :
    ∃ fd : FuncData, (∀ (s : Shared) (v : Value), BindsTo s fd ⟨[v], []⟩ [("_law_script", v)]) ∧ ∀ base : Heap, K.In base → base.Ns mainGlobals mg → FnOk P w K mg base CX0 13 f fd ["_law_script"] (spLaw K) := by
  have d := says_d s
  have x : ∀ (i : Nat) {b : Bool}, (exL K)[i]? = some b → b = true := fun i {b} h => says_b s i h
  have T := txt X G s
  have ne : (clK K).W ≠ (clK K).G ∧ (clK K).W ≠ (clK K).L ∧ (clK K).G ≠ (clK K).L := ⟨neI (x 13 rfl), neI (x 14 rfl), neI (x 15 rfl)⟩
  obtain ⟨fd, F0⟩ := d.def_ 65 (d := g_law) rfl
  have F : FnP K "law" "law" (topS 93) (He.ga K "law") fd := F0
  have e := hfa.symm.trans (He.glo_ok X G (d.fact 65 rfl))
  cases e
  have b := FunD.bindsA (ps := ["_law_script"]) F (fun _ _ _ _ _ _ us hl => match us, hl with | [_], _ => rfl)
  refine ⟨fd, fun s v => b s [v] rfl, fun base _ _ => ?_⟩
  obtain ⟨fd_divisor, F0_divisor⟩ := d.def_ 0 (d := g_divisor) rfl
  have F_divisor : FnP K "divisor" "divisor" (topS 12) (He.ga K "divisor") fd_divisor := F0_divisor
  have S_divisor : Fn P w K mg base "divisor" 1 ["one", "other"] [] spDiv := mkFn F_divisor (ok_div F_divisor T) (He.glo_ok X G (d.fact 0 rfl)) (F_divisor.bindsN fun _ _ _ _ _ _ us hl => match us, hl with | [_, _], _ => rfl)
  obtain ⟨fd_Fraction_init, F0_Fraction_init⟩ := d.def_ 66 (d := m_Fraction_init) rfl
  have F_Fraction_init : FnD K "__init__" "Fraction.__init__" (inClass (topS 13) 0) [.int 1] (He.ma K (He.ga K "Fraction") "__init__") fd_Fraction_init := F0_Fraction_init
  have gF := T.gF
  have mkF : MkF P w K mg base (clK K) := by
    obtain ⟨ds, hv, hb⟩ := F_Fraction_init.binds1 (ps := ["self", "top", "bottom"]) 2 0 (by simp) rfl (fun _ _ _ _ _ _ _ us its h1 h2 => match us, its, h1, h2 with | [_, _], [_], _, _ => ⟨_, rfl, rfl⟩)
    exact ⟨_, fd_Fraction_init, ds, ok_FI F_Fraction_init T S_divisor, He.mkr_ok (d.fact 125 rfl), gF, hb, hv⟩
  have mkF2 : MkF2 P w K mg base (clK K) := by
    obtain ⟨ds, hv, hb⟩ := F_Fraction_init.binds1 (ps := ["self", "top", "bottom"]) 3 1 (by simp) rfl (fun _ _ _ _ _ _ _ us its h1 h2 => match us, its, h1, h2 with | [_, _, _], [_], _, _ => ⟨_, rfl, rfl⟩)
    exact ⟨_, fd_Fraction_init, ds, ok_FI F_Fraction_init T S_divisor, He.mkr_ok (d.fact 125 rfl), gF, hb, hv⟩
  obtain ⟨fd_Fraction_plus, F0_Fraction_plus⟩ := d.def_ 67 (d := m_Fraction_plus) rfl
  have F_Fraction_plus : FnP K "plus" "Fraction.plus" (inClass (topS 13) 1) (He.ma K (He.ga K "Fraction") "plus") fd_Fraction_plus := F0_Fraction_plus
  have M_Fraction_plus : Md P w K mg base (clK K).F "plus" 4 ["self", "other"] (spPlus (clK K)) := mkMd (j := 4) (ok_plus F_Fraction_plus T mkF2) (by decide) (He.meth_ok (d.fact 109 rfl)) (F_Fraction_plus.bindsN fun _ _ _ _ _ _ us hl => match us, hl with | [_, _], _ => rfl)
  obtain ⟨fd_Fraction_minus, F0_Fraction_minus⟩ := d.def_ 68 (d := m_Fraction_minus) rfl
  have F_Fraction_minus : FnP K "minus" "Fraction.minus" (inClass (topS 13) 2) (He.ma K (He.ga K "Fraction") "minus") fd_Fraction_minus := F0_Fraction_minus
  have M_Fraction_minus : Md P w K mg base (clK K).F "minus" 4 ["self", "other"] (spMinus (clK K)) := mkMd (j := 4) (ok_minus F_Fraction_minus T mkF2) (by decide) (He.meth_ok (d.fact 110 rfl)) (F_Fraction_minus.bindsN fun _ _ _ _ _ _ us hl => match us, hl with | [_, _], _ => rfl)
  obtain ⟨fd_Fraction_times, F0_Fraction_times⟩ := d.def_ 69 (d := m_Fraction_times) rfl
  have F_Fraction_times : FnP K "times" "Fraction.times" (inClass (topS 13) 3) (He.ma K (He.ga K "Fraction") "times") fd_Fraction_times := F0_Fraction_times
  have M_Fraction_times : Md P w K mg base (clK K).F "times" 4 ["self", "other"] (spTimes (clK K)) := mkMd (j := 4) (ok_times F_Fraction_times T mkF2) (by decide) (He.meth_ok (d.fact 111 rfl)) (F_Fraction_times.bindsN fun _ _ _ _ _ _ us hl => match us, hl with | [_, _], _ => rfl)
  obtain ⟨fd_Fraction_over, F0_Fraction_over⟩ := d.def_ 70 (d := m_Fraction_over) rfl
  have F_Fraction_over : FnP K "over" "Fraction.over" (inClass (topS 13) 4) (He.ma K (He.ga K "Fraction") "over") fd_Fraction_over := F0_Fraction_over
  have M_Fraction_over : Md P w K mg base (clK K).F "over" 4 ["self", "other"] (spOver (clK K)) := mkMd (j := 4) (ok_over F_Fraction_over T mkF2) (by decide) (He.meth_ok (d.fact 112 rfl)) (F_Fraction_over.bindsN fun _ _ _ _ _ _ us hl => match us, hl with | [_, _], _ => rfl)
  obtain ⟨fd_Fraction_under, F0_Fraction_under⟩ := d.def_ 71 (d := m_Fraction_under) rfl
  have F_Fraction_under : FnP K "under" "Fraction.under" (inClass (topS 13) 5) (He.ma K (He.ga K "Fraction") "under") fd_Fraction_under := F0_Fraction_under
  have M_Fraction_under : Md P w K mg base (clK K).F "under" 1 ["self", "other"] (spUnder (clK K)) := mkMd (j := 1) (ok_under F_Fraction_under T) (by decide) (He.meth_ok (d.fact 113 rfl)) (F_Fraction_under.bindsN fun _ _ _ _ _ _ us hl => match us, hl with | [_, _], _ => rfl)
  obtain ⟨fd_Fraction_same, F0_Fraction_same⟩ := d.def_ 72 (d := m_Fraction_same) rfl
  have F_Fraction_same : FnP K "same" "Fraction.same" (inClass (topS 13) 6) (He.ma K (He.ga K "Fraction") "same") fd_Fraction_same := F0_Fraction_same
  have M_Fraction_same : Md P w K mg base (clK K).F "same" 1 ["self", "other"] (spSame (clK K)) := mkMd (j := 1) (ok_same F_Fraction_same T) (by decide) (He.meth_ok (d.fact 114 rfl)) (F_Fraction_same.bindsN fun _ _ _ _ _ _ us hl => match us, hl with | [_, _], _ => rfl)
  obtain ⟨fd_Fraction_sign, F0_Fraction_sign⟩ := d.def_ 73 (d := m_Fraction_sign) rfl
  have F_Fraction_sign : FnP K "sign" "Fraction.sign" (inClass (topS 13) 7) (He.ma K (He.ga K "Fraction") "sign") fd_Fraction_sign := F0_Fraction_sign
  have M_Fraction_sign : Md P w K mg base (clK K).F "sign" 1 ["self"] (spSign (clK K)) := mkMd (j := 1) (ok_sign F_Fraction_sign T) (by decide) (He.meth_ok (d.fact 115 rfl)) (F_Fraction_sign.bindsN fun _ _ _ _ _ _ us hl => match us, hl with | [_], _ => rfl)
  have M : FrM P w K mg base (clK K) := ⟨mkF, mkF2, M_Fraction_plus, M_Fraction_minus, M_Fraction_times, M_Fraction_over, M_Fraction_under, M_Fraction_same, M_Fraction_sign⟩
  obtain ⟨fd_Way_gain, F0_Way_gain⟩ := d.def_ 75 (d := m_Way_gain) rfl
  have F_Way_gain : FnP K "gain" "Way.gain" (inClass (topS 56) 2) (He.ma K (He.ga K "Way") "gain") fd_Way_gain := F0_Way_gain
  have M_Way_gain : Md P w K mg base (clK K).W "gain" 5 ["self"] (spGain (clK K) (clK K).W) := mkMd (j := 4) (ok_gainW F_Way_gain T M ne) (by decide) (He.meth_ok (d.fact 116 rfl)) (F_Way_gain.bindsN fun _ _ _ _ _ _ us hl => match us, hl with | [_], _ => rfl)
  obtain ⟨fd_Growing_gain, F0_Growing_gain⟩ := d.def_ 78 (d := m_Growing_gain) rfl
  have F_Growing_gain : FnP K "gain" "Growing.gain" (inClass (topS 57) 1) (He.ma K (He.ga K "Growing") "gain") fd_Growing_gain := F0_Growing_gain
  have M_Growing_gain : Md P w K mg base (clK K).G "gain" 5 ["self"] (spGain (clK K) (clK K).G) := mkMd (j := 1) (ok_gainG F_Growing_gain T ne) (by decide) (He.meth_ok (d.fact 118 rfl)) (F_Growing_gain.bindsN fun _ _ _ _ _ _ us hl => match us, hl with | [_], _ => rfl)
  obtain ⟨fd_Leaking_gain, F0_Leaking_gain⟩ := d.def_ 81 (d := m_Leaking_gain) rfl
  have F_Leaking_gain : FnP K "gain" "Leaking.gain" (inClass (topS 58) 1) (He.ma K (He.ga K "Leaking") "gain") fd_Leaking_gain := F0_Leaking_gain
  have M_Leaking_gain : Md P w K mg base (clK K).L "gain" 5 ["self"] (spGain (clK K) (clK K).L) := mkMd (j := 5) (ok_gainL F_Leaking_gain T M ne) (by decide) (He.meth_ok (d.fact 120 rfl)) (F_Leaking_gain.bindsN fun _ _ _ _ _ _ us hl => match us, hl with | [_], _ => rfl)
  obtain ⟨fd_Way_out, F0_Way_out⟩ := d.def_ 76 (d := m_Way_out) rfl
  have F_Way_out : FnP K "out" "Way.out" (inClass (topS 56) 3) (He.ma K (He.ga K "Way") "out") fd_Way_out := F0_Way_out
  have M_Way_out : Md P w K mg base (clK K).W "out" 6 ["self", "amount"] (spOut (clK K) (clK K).W) := mkMd (j := 6) (ok_outW F_Way_out T M T.cW.cl M_Way_gain) (by decide) (He.meth_ok (d.fact 117 rfl)) (F_Way_out.bindsN fun _ _ _ _ _ _ us hl => match us, hl with | [_, _], _ => rfl)
  obtain ⟨fd_Growing_out, F0_Growing_out⟩ := d.def_ 79 (d := m_Growing_out) rfl
  have F_Growing_out : FnP K "out" "Way.out" (inClass (topS 56) 3) (He.ma K (He.ga K "Growing") "out") fd_Growing_out := F0_Growing_out
  have M_Growing_out : Md P w K mg base (clK K).G "out" 6 ["self", "amount"] (spOut (clK K) (clK K).G) := mkMd (j := 6) (ok_outW F_Growing_out T M T.cG.cl M_Growing_gain) (by decide) (He.meth_ok (d.fact 119 rfl)) (F_Growing_out.bindsN fun _ _ _ _ _ _ us hl => match us, hl with | [_, _], _ => rfl)
  obtain ⟨fd_Leaking_out, F0_Leaking_out⟩ := d.def_ 82 (d := m_Leaking_out) rfl
  have F_Leaking_out : FnP K "out" "Leaking.out" (inClass (topS 58) 2) (He.ma K (He.ga K "Leaking") "out") fd_Leaking_out := F0_Leaking_out
  have M_Leaking_out : Md P w K mg base (clK K).L "out" 6 ["self", "amount"] (spOut (clK K) (clK K).L) := mkMd (j := 5) (ok_outL F_Leaking_out T M ne) (by decide) (He.meth_ok (d.fact 121 rfl)) (F_Leaking_out.bindsN fun _ _ _ _ _ _ us hl => match us, hl with | [_, _], _ => rfl)
  have W : WyM P w K mg base (clK K) := ⟨M_Way_gain, M_Growing_gain, M_Leaking_gain, M_Way_out, M_Growing_out, M_Leaking_out⟩
  obtain ⟨fd_Way_init, F0_Way_init⟩ := d.def_ 74 (d := m_Way_init) rfl
  have F_Way_init : FnD K "__init__" "Way.__init__" (inClass (topS 56) 0) [.non, .non] (He.ma K (He.ga K "Way") "__init__") fd_Way_init := F0_Way_init
  have bWI : Binds K fd_Way_init ["self", "name", "start", "goal", "high", "cost"] [] := by
    obtain ⟨ds, hv, hb⟩ := F_Way_init.binds1 (ps := ["self", "name", "start", "goal", "high", "cost"]) 6 2 (by simp) rfl (fun _ _ _ _ _ _ _ us its h1 h2 => match us, its, h1, h2 with | [_, _, _, _, _, _], [_, _], _, _ => ⟨_, rfl, rfl⟩)
    cases hv
    exact hb
  have okWI := ok_WI (base := base) (P := P) (w := w) (mg := mg) F_Way_init T M
  have B : WIok P w K mg base (clK K) := ⟨.type "type", _, fd_Way_init, crI (x 0 rfl), cvI (x 1 rfl), F_Way_init.kp, okWI, bWI⟩
  have mkW : Mkr P w K mg base "Way" (clK K).W 2 ["self", "name", "start", "goal", "high", "cost"] [] (spWI (clK K) K) := ⟨_, fd_Way_init, [], okWI, He.mkr_ok (d.fact 126 rfl), T.gW, bWI, .nil⟩
  obtain ⟨fd_Growing_init, F0_Growing_init⟩ := d.def_ 77 (d := m_Growing_init) rfl
  have F_Growing_init : FnD K "__init__" "Growing.__init__" (inClass (topS 57) 0) [.non, .non] (He.ma K (He.ga K "Growing") "__init__") fd_Growing_init := F0_Growing_init
  have mkG : Mkr P w K mg base "Growing" (clK K).G 3 ["self", "name", "start", "goal", "rate", "high", "cost"] [] (spGI (clK K)) := by
    obtain ⟨ds, hv, hb⟩ := F_Growing_init.binds1 (ps := ["self", "name", "start", "goal", "rate", "high", "cost"]) 7 2 (by simp) rfl (fun _ _ _ _ _ _ _ us its h1 h2 => match us, its, h1, h2 with | [_, _, _, _, _, _, _], [_, _], _, _ => ⟨_, rfl, rfl⟩)
    exact ⟨_, fd_Growing_init, ds, ok_GI F_Growing_init T M B, He.mkr_ok (d.fact 127 rfl), He.glo_ok X G (d.fact 68 rfl), hb, hv⟩
  obtain ⟨fd_Leaking_init, F0_Leaking_init⟩ := d.def_ 80 (d := m_Leaking_init) rfl
  have F_Leaking_init : FnD K "__init__" "Leaking.__init__" (inClass (topS 58) 0) [.non, .non] (He.ma K (He.ga K "Leaking") "__init__") fd_Leaking_init := F0_Leaking_init
  have mkL : Mkr P w K mg base "Leaking" (clK K).L 5 ["self", "name", "start", "goal", "loss", "high", "cost"] [] (spLI (clK K)) := by
    obtain ⟨ds, hv, hb⟩ := F_Leaking_init.binds1 (ps := ["self", "name", "start", "goal", "loss", "high", "cost"]) 7 2 (by simp) rfl (fun _ _ _ _ _ _ _ us its h1 h2 => match us, its, h1, h2 with | [_, _, _, _, _, _, _], [_, _], _, _ => ⟨_, rfl, rfl⟩)
    exact ⟨_, fd_Leaking_init, ds, ok_LI F_Leaking_init T M B, He.mkr_ok (d.fact 128 rfl), He.glo_ok X G (d.fact 69 rfl), hb, hv⟩
  obtain ⟨fd_Net_way, F0_Net_way⟩ := d.def_ 85 (d := m_Net_way) rfl
  have F_Net_way : FnP K "way" "Net.way" (inClass (topS 65) 3) (He.ma K (He.ga K "Net") "way") fd_Net_way := F0_Net_way
  have M_Net_way : Md P w K mg base (clK K).N "way" 1 ["self", "name"] (spWay (clK K)) := mkMd (j := 1) (ok_way F_Net_way T) (by decide) (He.meth_ok (d.fact 123 rfl)) (F_Net_way.bindsN fun _ _ _ _ _ _ us hl => match us, hl with | [_, _], _ => rfl)
  obtain ⟨fd_Net_names, F0_Net_names⟩ := d.def_ 84 (d := m_Net_names) rfl
  have F_Net_names : FnP K "names" "Net.names" (inClass (topS 65) 1) (He.ma K (He.ga K "Net") "names") fd_Net_names := F0_Net_names
  have M_Net_names : Md P w K mg base (clK K).N "names" 1 ["self"] (spNames (clK K)) := mkMd (j := 1) (ok_names F_Net_names T) (by decide) (He.meth_ok (d.fact 122 rfl)) (F_Net_names.bindsN fun _ _ _ _ _ _ us hl => match us, hl with | [_], _ => rfl)
  obtain ⟨fd_Net_all_ways, F0_Net_all_ways⟩ := d.def_ 86 (d := m_Net_all_ways) rfl
  have F_Net_all_ways : FnP K "all_ways" "Net.all_ways" (inClass (topS 65) 4) (He.ma K (He.ga K "Net") "all_ways") fd_Net_all_ways := F0_Net_all_ways
  have M_Net_all_ways : Md P w K mg base (clK K).N "all_ways" 1 ["self"] (spAll (clK K)) := mkMd (j := 1) (ok_all F_Net_all_ways T) (by decide) (He.meth_ok (d.fact 124 rfl)) (F_Net_all_ways.bindsN fun _ _ _ _ _ _ us hl => match us, hl with | [_], _ => rfl)
  have N : NtM P w K mg base (clK K) := ⟨M_Net_way, M_Net_names, M_Net_all_ways⟩
  obtain ⟨fd_wants_of, F0_wants_of⟩ := d.def_ 37 (d := g_wants_of) rfl
  have F_wants_of : FnP K "wants_of" "wants_of" (topS 63) (He.ga K "wants_of") fd_wants_of := F0_wants_of
  have S_wants_of : Fn P w K mg base "wants_of" 1 ["places"] [] (spWants (clK K)) := mkFn F_wants_of (ok_wants F_wants_of T) (He.glo_ok X G (d.fact 37 rfl)) (F_wants_of.bindsN fun _ _ _ _ _ _ us hl => match us, hl with | [_], _ => rfl)
  obtain ⟨fd_ways_of, F0_ways_of⟩ := d.def_ 38 (d := g_ways_of) rfl
  have F_ways_of : FnP K "ways_of" "ways_of" (topS 64) (He.ga K "ways_of") fd_ways_of := F0_ways_of
  have S_ways_of : Fn P w K mg base "ways_of" 1 ["wants", "ways"] [] (spWays (clK K)) := mkFn F_ways_of (ok_ways F_ways_of T) (He.glo_ok X G (d.fact 38 rfl)) (F_ways_of.bindsN fun _ _ _ _ _ _ us hl => match us, hl with | [_, _], _ => rfl)
  obtain ⟨fd_Net_init, F0_Net_init⟩ := d.def_ 83 (d := m_Net_init) rfl
  have F_Net_init : FnD K "__init__" "Net.__init__" (inClass (topS 65) 0) [] (He.ma K (He.ga K "Net") "__init__") fd_Net_init := F0_Net_init
  have mkN : Mkr P w K mg base "Net" (clK K).N 2 ["self", "places", "ways"] [] (spNI (clK K)) := ⟨_, fd_Net_init, [], ok_NI F_Net_init T S_wants_of S_ways_of, He.mkr_ok (d.fact 129 rfl), He.glo_ok X G (d.fact 71 rfl), F_Net_init.bindsN fun _ _ _ _ _ _ us hl => match us, hl with | [_, _, _], _ => rfl, .nil⟩
  obtain ⟨fd_total, F0_total⟩ := d.def_ 1 (d := g_total) rfl
  have F_total : FnP K "total" "total" (topS 14) (He.ga K "total") fd_total := F0_total
  have S_total : Fn P w K mg base "total" 5 ["some"] [] (spTotal (clK K)) := mkFn F_total (ok_total F_total T M) (He.glo_ok X G (d.fact 1 rfl)) (F_total.bindsN fun _ _ _ _ _ _ us hl => match us, hl with | [_], _ => rfl)
  obtain ⟨fd_amount, F0_amount⟩ := d.def_ 2 (d := g_amount) rfl
  have F_amount : FnP K "amount" "amount" (topS 16) (He.ga K "amount") fd_amount := F0_amount
  have S_amount : Fn P w K mg base "amount" 5 ["plan", "name"] [] (spAmount (clK K)) := mkFn F_amount (ok_amount F_amount T M) (He.glo_ok X G (d.fact 2 rfl)) (F_amount.bindsN fun _ _ _ _ _ _ us hl => match us, hl with | [_, _], _ => rfl)
  obtain ⟨fd_strangers, F0_strangers⟩ := d.def_ 3 (d := g_strangers) rfl
  have F_strangers : FnP K "strangers" "strangers" (topS 17) (He.ga K "strangers") fd_strangers := F0_strangers
  have S_strangers : Fn P w K mg base "strangers" 2 ["net", "plan"] [] (spStr (clK K)) := mkFn F_strangers (ok_str F_strangers T N) (He.glo_ok X G (d.fact 3 rfl)) (F_strangers.bindsN fun _ _ _ _ _ _ us hl => match us, hl with | [_, _], _ => rfl)
  obtain ⟨fd_own_sums, F0_own_sums⟩ := d.def_ 4 (d := g_own_sums) rfl
  have F_own_sums : FnP K "own_sums" "own_sums" (topS 18) (He.ga K "own_sums") fd_own_sums := F0_own_sums
  have S_own_sums : Fn P w K mg base "own_sums" 7 ["net", "plan"] [] (spOwn (clK K)) := mkFn F_own_sums (ok_own F_own_sums T M W N S_amount) (He.glo_ok X G (d.fact 4 rfl)) (F_own_sums.bindsN fun _ _ _ _ _ _ us hl => match us, hl with | [_, _], _ => rfl)
  obtain ⟨fd_refuse_strangers, F0_refuse_strangers⟩ := d.def_ 5 (d := g_refuse_strangers) rfl
  have F_refuse_strangers : FnP K "refuse_strangers" "refuse_strangers" (topS 19) (He.ga K "refuse_strangers") fd_refuse_strangers := F0_refuse_strangers
  have S_refuse_strangers : Fn P w K mg base "refuse_strangers" 3 ["net", "plan"] [] (spRef (clK K)) := mkFn F_refuse_strangers (ok_ref F_refuse_strangers T S_strangers) (He.glo_ok X G (d.fact 5 rfl)) (F_refuse_strangers.bindsN fun _ _ _ _ _ _ us hl => match us, hl with | [_, _], _ => rfl)
  obtain ⟨fd_sums, F0_sums⟩ := d.def_ 6 (d := g_sums) rfl
  have F_sums : FnP K "sums" "sums" (topS 20) (He.ga K "sums") fd_sums := F0_sums
  have S_sums : Fn P w K mg base "sums" 8 ["net", "plan"] [] (spSums (clK K)) := mkFn F_sums (ok_sums F_sums T S_refuse_strangers S_own_sums) (He.glo_ok X G (d.fact 6 rfl)) (F_sums.bindsN fun _ _ _ _ _ _ us hl => match us, hl with | [_, _], _ => rfl)
  obtain ⟨fd_worth, F0_worth⟩ := d.def_ 7 (d := g_worth) rfl
  have F_worth : FnP K "worth" "worth" (topS 21) (He.ga K "worth") fd_worth := F0_worth
  have S_worth : Fn P w K mg base "worth" 6 ["net", "plan"] [] (spWorth (clK K)) := mkFn F_worth (ok_worth F_worth T M N S_amount S_refuse_strangers S_total) (He.glo_ok X G (d.fact 7 rfl)) (F_worth.bindsN fun _ _ _ _ _ _ us hl => match us, hl with | [_, _], _ => rfl)
  obtain ⟨fd_together, F0_together⟩ := d.def_ 8 (d := g_together) rfl
  have F_together : FnP K "together" "together" (topS 22) (He.ga K "together") fd_together := F0_together
  have S_together : Fn P w K mg base "together" 6 ["one", "other"] [] (spTog (clK K)) := mkFn F_together (ok_tog F_together T M S_amount) (He.glo_ok X G (d.fact 8 rfl)) (F_together.bindsN fun _ _ _ _ _ _ us hl => match us, hl with | [_, _], _ => rfl)
  obtain ⟨fd_scaled, F0_scaled⟩ := d.def_ 9 (d := g_scaled) rfl
  have F_scaled : FnP K "scaled" "scaled" (topS 23) (He.ga K "scaled") fd_scaled := F0_scaled
  have S_scaled : Fn P w K mg base "scaled" 5 ["plan", "number"] [] (spScal (clK K)) := mkFn F_scaled (ok_scal F_scaled T M) (He.glo_ok X G (d.fact 9 rfl)) (F_scaled.bindsN fun _ _ _ _ _ _ us hl => match us, hl with | [_, _], _ => rfl)
  obtain ⟨fd_walk_ways, F0_walk_ways⟩ := d.def_ 10 (d := g_walk_ways) rfl
  have F_walk_ways : FnP K "walk_ways" "walk_ways" (topS 25) (He.ga K "walk_ways") fd_walk_ways := F0_walk_ways
  have S_walk_ways : Fn P w K mg base "walk_ways" 2 ["net", "walk"] [] (spWW (clK K)) := mkFn F_walk_ways (ok_ww F_walk_ways T N) (He.glo_ok X G (d.fact 10 rfl)) (F_walk_ways.bindsN fun _ _ _ _ _ _ us hl => match us, hl with | [_, _], _ => rfl)
  obtain ⟨fd_places_of, F0_places_of⟩ := d.def_ 11 (d := g_places_of) rfl
  have F_places_of : FnP K "places_of" "places_of" (topS 26) (He.ga K "places_of") fd_places_of := F0_places_of
  have S_places_of : Fn P w K mg base "places_of" 3 ["net", "walk"] [] (spPO (clK K)) := mkFn F_places_of (ok_po F_places_of T S_walk_ways) (He.glo_ok X G (d.fact 11 rfl)) (F_places_of.bindsN fun _ _ _ _ _ _ us hl => match us, hl with | [_, _], _ => rfl)
  obtain ⟨fd_gain_of, F0_gain_of⟩ := d.def_ 12 (d := g_gain_of) rfl
  have F_gain_of : FnP K "gain_of" "gain_of" (topS 27) (He.ga K "gain_of") fd_gain_of := F0_gain_of
  have S_gain_of : Fn P w K mg base "gain_of" 7 ["net", "walk"] [] (spGO (clK K)) := mkFn F_gain_of (ok_go F_gain_of T M W S_walk_ways) (He.glo_ok X G (d.fact 12 rfl)) (F_gain_of.bindsN fun _ _ _ _ _ _ us hl => match us, hl with | [_, _], _ => rfl)
  obtain ⟨fd_is_path, F0_is_path⟩ := d.def_ 13 (d := g_is_path) rfl
  have F_is_path : FnP K "is_path" "is_path" (topS 28) (He.ga K "is_path") fd_is_path := F0_is_path
  have S_is_path : Fn P w K mg base "is_path" 4 ["net", "walk"] [] (spIP (clK K)) := mkFn F_is_path (ok_ip F_is_path T S_places_of) (He.glo_ok X G (d.fact 13 rfl)) (F_is_path.bindsN fun _ _ _ _ _ _ us hl => match us, hl with | [_, _], _ => rfl)
  obtain ⟨fd_is_ring, F0_is_ring⟩ := d.def_ 14 (d := g_is_ring) rfl
  have F_is_ring : FnP K "is_ring" "is_ring" (topS 29) (He.ga K "is_ring") fd_is_ring := F0_is_ring
  have S_is_ring : Fn P w K mg base "is_ring" 4 ["net", "walk"] [] (spIR (clK K)) := mkFn F_is_ring (ok_ir F_is_ring T S_places_of) (He.glo_ok X G (d.fact 14 rfl)) (F_is_ring.bindsN fun _ _ _ _ _ _ us hl => match us, hl with | [_, _], _ => rfl)
  obtain ⟨fd_sent, F0_sent⟩ := d.def_ 15 (d := g_sent) rfl
  have F_sent : FnP K "sent" "sent" (topS 30) (He.ga K "sent") fd_sent := F0_sent
  have S_sent : Fn P w K mg base "sent" 7 ["net", "walk", "amount"] [] (spSent (clK K)) := mkFn F_sent (ok_sent F_sent T M W S_walk_ways) (He.glo_ok X G (d.fact 15 rfl)) (F_sent.bindsN fun _ _ _ _ _ _ us hl => match us, hl with | [_, _, _], _ => rfl)
  obtain ⟨fd_better_gain, F0_better_gain⟩ := d.def_ 16 (d := g_better_gain) rfl
  have F_better_gain : FnP K "better_gain" "better_gain" (topS 32) (He.ga K "better_gain") fd_better_gain := F0_better_gain
  have S_better_gain : Fn P w K mg base "better_gain" 2 ["one", "other", "makes"] [] (spBG (clK K)) := mkFn F_better_gain (ok_bg F_better_gain T M) (He.glo_ok X G (d.fact 16 rfl)) (F_better_gain.bindsN fun _ _ _ _ _ _ us hl => match us, hl with | [_, _, _], _ => rfl)
  obtain ⟨fd_one_round, F0_one_round⟩ := d.def_ 17 (d := g_one_round) rfl
  have F_one_round : FnP K "one_round" "one_round" (topS 33) (He.ga K "one_round") fd_one_round := F0_one_round
  have S_one_round : Fn P w K mg base "one_round" 7 ["found", "ways", "makes"] [] (spOR (clK K)) := mkFn F_one_round (ok_or F_one_round T M W S_better_gain) (He.glo_ok X G (d.fact 17 rfl)) (F_one_round.bindsN fun _ _ _ _ _ _ us hl => match us, hl with | [_, _, _], _ => rfl)
  obtain ⟨fd_first_ring, F0_first_ring⟩ := d.def_ 18 (d := g_first_ring) rfl
  have F_first_ring : FnP K "first_ring" "first_ring" (topS 34) (He.ga K "first_ring") fd_first_ring := F0_first_ring
  have S_first_ring : Fn P w K mg base "first_ring" 4 ["net", "walk"] [] (spFR (clK K)) := mkFn F_first_ring (ok_fr F_first_ring T S_places_of) (He.glo_ok X G (d.fact 18 rfl)) (F_first_ring.bindsN fun _ _ _ _ _ _ us hl => match us, hl with | [_, _], _ => rfl)
  obtain ⟨fd_looked_for, F0_looked_for⟩ := d.def_ 19 (d := g_looked_for) rfl
  have F_looked_for : FnP K "looked_for" "looked_for" (topS 35) (He.ga K "looked_for") fd_looked_for := F0_looked_for
  have S_looked_for : Fn P w K mg base "looked_for" 8 ["net", "names", "makes"] [] (spLF (clK K)) := mkFn F_looked_for (ok_lf F_looked_for T M N S_one_round S_first_ring) (He.glo_ok X G (d.fact 19 rfl)) (F_looked_for.bindsN fun _ _ _ _ _ _ us hl => match us, hl with | [_, _, _], _ => rfl)
  obtain ⟨fd_making, F0_making⟩ := d.def_ 20 (d := g_making) rfl
  have F_making : FnP K "making" "making" (topS 36) (He.ga K "making") fd_making := F0_making
  have S_making : Fn P w K mg base "making" 9 ["net", "names"] [] (spMkE (clK K) true) := mkFn F_making (ok_mk F_making T S_looked_for) (He.glo_ok X G (d.fact 20 rfl)) (F_making.bindsN fun _ _ _ _ _ _ us hl => match us, hl with | [_, _], _ => rfl)
  obtain ⟨fd_eating, F0_eating⟩ := d.def_ 21 (d := g_eating) rfl
  have F_eating : FnP K "eating" "eating" (topS 37) (He.ga K "eating") fd_eating := F0_eating
  have S_eating : Fn P w K mg base "eating" 9 ["net", "names"] [] (spMkE (clK K) false) := mkFn F_eating (ok_ea F_eating T S_looked_for) (He.glo_ok X G (d.fact 21 rfl)) (F_eating.bindsN fun _ _ _ _ _ _ us hl => match us, hl with | [_, _], _ => rfl)
  obtain ⟨fd_even_ways, F0_even_ways⟩ := d.def_ 22 (d := g_even_ways) rfl
  have F_even_ways : FnP K "even_ways" "even_ways" (topS 38) (He.ga K "even_ways") fd_even_ways := F0_even_ways
  have S_even_ways : Fn P w K mg base "even_ways" 7 ["net", "names", "values"] [] (spEW (clK K)) := mkFn F_even_ways (ok_ew F_even_ways T M W N) (He.glo_ok X G (d.fact 22 rfl)) (F_even_ways.bindsN fun _ _ _ _ _ _ us hl => match us, hl with | [_, _, _], _ => rfl)
  obtain ⟨fd_going_on, F0_going_on⟩ := d.def_ 23 (d := g_going_on) rfl
  have F_going_on : FnP K "going_on" "going_on" (topS 39) (He.ga K "going_on") fd_going_on := F0_going_on
  have S_going_on : Fn P w K mg base "going_on" 1 ["ways"] [] (spGn (clK K)) := mkFn F_going_on (ok_gn F_going_on T) (He.glo_ok X G (d.fact 23 rfl)) (F_going_on.bindsN fun _ _ _ _ _ _ us hl => match us, hl with | [_], _ => rfl)
  obtain ⟨fd_even_ring, F0_even_ring⟩ := d.def_ 24 (d := g_even_ring) rfl
  have F_even_ring : FnP K "even_ring" "even_ring" (topS 40) (He.ga K "even_ring") fd_even_ring := F0_even_ring
  have S_even_ring : Fn P w K mg base "even_ring" 8 ["net", "names", "values"] [] (spER (clK K)) := mkFn F_even_ring (ok_er F_even_ring T S_even_ways S_going_on) (He.glo_ok X G (d.fact 24 rfl)) (F_even_ring.bindsN fun _ _ _ _ _ _ us hl => match us, hl with | [_, _, _], _ => rfl)
  obtain ⟨fd_is_walk, F0_is_walk⟩ := d.def_ 25 (d := g_is_walk) rfl
  have F_is_walk : FnP K "is_walk" "is_walk" (topS 42) (He.ga K "is_walk") fd_is_walk := F0_is_walk
  have S_is_walk : Fn P w K mg base "is_walk" 4 ["net", "walk"] [] (spIW (clK K)) := mkFn F_is_walk (ok_iw F_is_walk T S_places_of) (He.glo_ok X G (d.fact 25 rfl)) (F_is_walk.bindsN fun _ _ _ _ _ _ us hl => match us, hl with | [_, _], _ => rfl)
  obtain ⟨fd_ring_by_side, F0_ring_by_side⟩ := d.def_ 26 (d := g_ring_by_side) rfl
  have F_ring_by_side : FnP K "ring_by_side" "ring_by_side" (topS 43) (He.ga K "ring_by_side") fd_ring_by_side := F0_ring_by_side
  have S_ring_by_side : Fn P w K mg base "ring_by_side" 8 ["net", "walk", "side"] [] (spRS (clK K)) := mkFn F_ring_by_side (ok_rs F_ring_by_side T M S_is_ring S_gain_of) (He.glo_ok X G (d.fact 26 rfl)) (F_ring_by_side.bindsN fun _ _ _ _ _ _ us hl => match us, hl with | [_, _, _], _ => rfl)
  obtain ⟨fd_joined_up, F0_joined_up⟩ := d.def_ 27 (d := g_joined_up) rfl
  have F_joined_up : FnP K "joined_up" "joined_up" (topS 44) (He.ga K "joined_up") fd_joined_up := F0_joined_up
  have S_joined_up : Fn P w K mg base "joined_up" 4 ["net", "parts"] [] (spJU (clK K)) := mkFn F_joined_up (ok_ju F_joined_up T S_places_of) (He.glo_ok X G (d.fact 27 rfl)) (F_joined_up.bindsN fun _ _ _ _ _ _ us hl => match us, hl with | [_, _], _ => rfl)
  obtain ⟨fd_is_road, F0_is_road⟩ := d.def_ 28 (d := g_is_road) rfl
  have F_is_road : FnP K "is_road" "is_road" (topS 45) (He.ga K "is_road") fd_is_road := F0_is_road
  have S_is_road : Fn P w K mg base "is_road" 9 ["net", "head", "path", "tail"] [] (spRo (clK K)) := mkFn F_is_road (ok_ro F_is_road T S_ring_by_side S_is_path S_joined_up) (He.glo_ok X G (d.fact 28 rfl)) (F_is_road.bindsN fun _ _ _ _ _ _ us hl => match us, hl with | [_, _, _, _], _ => rfl)
  obtain ⟨fd_is_strand, F0_is_strand⟩ := d.def_ 29 (d := g_is_strand) rfl
  have F_is_strand : FnP K "is_strand" "is_strand" (topS 46) (He.ga K "is_strand") fd_is_strand := F0_is_strand
  have S_is_strand : Fn P w K mg base "is_strand" 10 ["net", "strand"] [] (spIS (clK K)) := mkFn F_is_strand (ok_is F_is_strand T M S_is_walk S_ring_by_side S_is_road) (He.glo_ok X G (d.fact 29 rfl)) (F_is_strand.bindsN fun _ _ _ _ _ _ us hl => match us, hl with | [_, _], _ => rfl)
  obtain ⟨fd_strand_plan, F0_strand_plan⟩ := d.def_ 30 (d := g_strand_plan) rfl
  have F_strand_plan : FnP K "strand_plan" "strand_plan" (topS 47) (He.ga K "strand_plan") fd_strand_plan := F0_strand_plan
  have S_strand_plan : Fn P w K mg base "strand_plan" 11 ["net", "strand"] [] (spSP (clK K)) := mkFn F_strand_plan (ok_sp F_strand_plan T M S_is_strand S_ring_by_side S_sent S_gain_of S_together) (He.glo_ok X G (d.fact 30 rfl)) (F_strand_plan.bindsN fun _ _ _ _ _ _ us hl => match us, hl with | [_, _], _ => rfl)
  obtain ⟨fd_in_use, F0_in_use⟩ := d.def_ 31 (d := g_in_use) rfl
  have F_in_use : FnP K "in_use" "in_use" (topS 49) (He.ga K "in_use") fd_in_use := F0_in_use
  have S_in_use : Fn P w K mg base "in_use" 5 ["net", "plan"] [] (spIU (clK K)) := mkFn F_in_use (ok_iu F_in_use T M N) (He.glo_ok X G (d.fact 31 rfl)) (F_in_use.bindsN fun _ _ _ _ _ _ us hl => match us, hl with | [_, _], _ => rfl)
  obtain ⟨fd_paths_from, F0_paths_from⟩ := d.def_ 32 (d := g_paths_from) rfl
  have F_paths_from : FnP K "paths_from" "paths_from" (topS 50) (He.ga K "paths_from") fd_paths_from := F0_paths_from
  have S_paths_from : Fn P w K mg base "paths_from" 2 ["net", "names", "place"] [] (spPF (clK K)) := mkFn F_paths_from (ok_pf F_paths_from T N) (He.glo_ok X G (d.fact 32 rfl)) (F_paths_from.bindsN fun _ _ _ _ _ _ us hl => match us, hl with | [_, _, _], _ => rfl)
  obtain ⟨fd_out_of, F0_out_of⟩ := d.def_ 33 (d := g_out_of) rfl
  have F_out_of : FnP K "out_of" "out_of" (topS 51) (He.ga K "out_of") fd_out_of := F0_out_of
  have S_out_of : Fn P w K mg base "out_of" 10 ["net", "names", "over", "head", "place"] [] (spOO (clK K)) := mkFn F_out_of (ok_oo F_out_of T M N S_paths_from S_eating) (He.glo_ok X G (d.fact 33 rfl)) (F_out_of.bindsN fun _ _ _ _ _ _ us hl => match us, hl with | [_, _, _, _, _], _ => rfl)
  obtain ⟨fd_one_strand, F0_one_strand⟩ := d.def_ 34 (d := g_one_strand) rfl
  have F_one_strand : FnP K "one_strand" "one_strand" (topS 52) (He.ga K "one_strand") fd_one_strand := F0_one_strand
  have S_one_strand : Fn P w K mg base "one_strand" 11 ["net", "names", "over"] [] (spOS (clK K)) := mkFn F_one_strand (ok_os F_one_strand T M N S_making S_out_of S_even_ring) (He.glo_ok X G (d.fact 34 rfl)) (F_one_strand.bindsN fun _ _ _ _ _ _ us hl => match us, hl with | [_, _, _], _ => rfl)
  obtain ⟨fd_least_limit, F0_least_limit⟩ := d.def_ 35 (d := g_least_limit) rfl
  have F_least_limit : FnP K "least_limit" "least_limit" (topS 53) (He.ga K "least_limit") fd_least_limit := F0_least_limit
  have S_least_limit : Fn P w K mg base "least_limit" 2 ["some"] [] (spLL (clK K)) := mkFn F_least_limit (ok_ll F_least_limit T M) (He.glo_ok X G (d.fact 35 rfl)) (F_least_limit.bindsN fun _ _ _ _ _ _ us hl => match us, hl with | [_], _ => rfl)
  obtain ⟨fd_taken_apart, F0_taken_apart⟩ := d.def_ 36 (d := g_taken_apart) rfl
  have F_taken_apart : FnP K "taken_apart" "taken_apart" (topS 54) (He.ga K "taken_apart") fd_taken_apart := F0_taken_apart
  have S_taken_apart : Fn P w K mg base "taken_apart" 12 ["net", "plan"] [] (spTA (clK K)) := mkFn F_taken_apart (ok_ta F_taken_apart T M S_in_use S_sums S_one_strand S_strand_plan S_least_limit S_together S_scaled) (He.glo_ok X G (d.fact 36 rfl)) (F_taken_apart.bindsN fun _ _ _ _ _ _ us hl => match us, hl with | [_, _], _ => rfl)
  obtain ⟨fd_law_cell_at, F0_law_cell_at⟩ := d.def_ 39 (d := g__law_cell_at) rfl
  have F_law_cell_at : FnP K "_law_cell_at" "_law_cell_at" (topS 67) (He.ga K "_law_cell_at") fd_law_cell_at := F0_law_cell_at
  have S_law_cell_at : Fn P w K mg base "_law_cell_at" 1 ["_law_script", "_law_k"] [] (spCA K) := mkFn F_law_cell_at (ok_ca F_law_cell_at T) (He.glo_ok X G (d.fact 39 rfl)) (F_law_cell_at.bindsN fun _ _ _ _ _ _ us hl => match us, hl with | [_, _], _ => rfl)
  obtain ⟨fd_law_names, F0_law_names⟩ := d.def_ 40 (d := g__law_names) rfl
  have F_law_names : FnP K "_law_names" "_law_names" (topS 68) (He.ga K "_law_names") fd_law_names := F0_law_names
  have S_law_names : Fn P w K mg base "_law_names" 1 ["_law_cell", "_law_count"] [] spLN := mkFn F_law_names (ok_ln F_law_names T) (He.glo_ok X G (d.fact 40 rfl)) (F_law_names.bindsN fun _ _ _ _ _ _ us hl => match us, hl with | [_, _], _ => rfl)
  obtain ⟨fd_law_gain, F0_law_gain⟩ := d.def_ 41 (d := g__law_gain) rfl
  have F_law_gain : FnP K "_law_gain" "_law_gain" (topS 69) (He.ga K "_law_gain") fd_law_gain := F0_law_gain
  have S_law_gain : Fn P w K mg base "_law_gain" 1 ["_law_cell"] [] spLG := mkFn F_law_gain (ok_lg F_law_gain) (He.glo_ok X G (d.fact 41 rfl)) (F_law_gain.bindsN fun _ _ _ _ _ _ us hl => match us, hl with | [_], _ => rfl)
  obtain ⟨fd_law_factor, F0_law_factor⟩ := d.def_ 42 (d := g__law_factor) rfl
  have F_law_factor : FnP K "_law_factor" "_law_factor" (topS 70) (He.ga K "_law_factor") fd_law_factor := F0_law_factor
  have S_law_factor : Fn P w K mg base "_law_factor" 1 ["_law_cell", "_law_equal"] [] spLFa := mkFn F_law_factor (ok_lfa F_law_factor) (He.glo_ok X G (d.fact 42 rfl)) (F_law_factor.bindsN fun _ _ _ _ _ _ us hl => match us, hl with | [_, _], _ => rfl)
  obtain ⟨fd_law_plus, F0_law_plus⟩ := d.def_ 46 (d := g__law_plus) rfl
  have F_law_plus : FnP K "_law_plus" "_law_plus" (topS 74) (He.ga K "_law_plus") fd_law_plus := F0_law_plus
  have S_law_plus : Fn P w K mg base "_law_plus" 1 ["_law_one", "_law_other"] [] spLP := mkFn F_law_plus (ok_lp F_law_plus) (He.glo_ok X G (d.fact 46 rfl)) (F_law_plus.bindsN fun _ _ _ _ _ _ us hl => match us, hl with | [_, _], _ => rfl)
  obtain ⟨fd_law_times, F0_law_times⟩ := d.def_ 47 (d := g__law_times) rfl
  have F_law_times : FnP K "_law_times" "_law_times" (topS 75) (He.ga K "_law_times") fd_law_times := F0_law_times
  have S_law_times : Fn P w K mg base "_law_times" 1 ["_law_one", "_law_other"] [] spLT := mkFn F_law_times (ok_lt F_law_times) (He.glo_ok X G (d.fact 47 rfl)) (F_law_times.bindsN fun _ _ _ _ _ _ us hl => match us, hl with | [_, _], _ => rfl)
  obtain ⟨fd_law_same, F0_law_same⟩ := d.def_ 61 (d := g__law_same) rfl
  have F_law_same : FnP K "_law_same" "_law_same" (topS 89) (He.ga K "_law_same") fd_law_same := F0_law_same
  have S_law_same : Fn P w K mg base "_law_same" 1 ["_law_one", "_law_other"] [] spLSa := mkFn F_law_same (ok_lsa F_law_same) (He.glo_ok X G (d.fact 61 rfl)) (F_law_same.bindsN fun _ _ _ _ _ _ us hl => match us, hl with | [_, _], _ => rfl)
  obtain ⟨fd_law_above, F0_law_above⟩ := d.def_ 62 (d := g__law_above) rfl
  have F_law_above : FnP K "_law_above" "_law_above" (topS 90) (He.ga K "_law_above") fd_law_above := F0_law_above
  have S_law_above : Fn P w K mg base "_law_above" 1 ["_law_pair"] [] spLAb := mkFn F_law_above (ok_lab F_law_above) (He.glo_ok X G (d.fact 62 rfl)) (F_law_above.bindsN fun _ _ _ _ _ _ us hl => match us, hl with | [_], _ => rfl)
  obtain ⟨fd_law_whole, F0_law_whole⟩ := d.def_ 58 (d := g__law_whole) rfl
  have F_law_whole : FnP K "_law_whole" "_law_whole" (topS 86) (He.ga K "_law_whole") fd_law_whole := F0_law_whole
  have S_law_whole : Fn P w K mg base "_law_whole" 1 ["_law_found"] [] spLWh := mkFn F_law_whole (ok_lwh F_law_whole T) (He.glo_ok X G (d.fact 58 rfl)) (F_law_whole.bindsN fun _ _ _ _ _ _ us hl => match us, hl with | [_], _ => rfl)
  obtain ⟨fd_law_told, F0_law_told⟩ := d.def_ 59 (d := g__law_told) rfl
  have F_law_told : FnP K "_law_told" "_law_told" (topS 87) (He.ga K "_law_told") fd_law_told := F0_law_told
  have S_law_told : Fn P w K mg base "_law_told" 2 ["_law_found"] [] (spLTo (clK K)) := mkFn F_law_told (ok_lto F_law_told T S_law_whole) (He.glo_ok X G (d.fact 59 rfl)) (F_law_told.bindsN fun _ _ _ _ _ _ us hl => match us, hl with | [_], _ => rfl)
  obtain ⟨fd_law_cost, F0_law_cost⟩ := d.def_ 44 (d := g__law_cost) rfl
  have F_law_cost : FnP K "_law_cost" "_law_cost" (topS 72) (He.ga K "_law_cost") fd_law_cost := F0_law_cost
  have S_law_cost : Fn P w K mg base "_law_cost" 1 ["_law_name", "_law_ways_here", "_law_cell"] [] (spLC WrAt) := mkFn F_law_cost (ok_lc F_law_cost T) (He.glo_ok X G (d.fact 44 rfl)) (F_law_cost.bindsN fun _ _ _ _ _ _ us hl => match us, hl with | [_, _, _], _ => rfl)
  obtain ⟨fd_law_way, F0_law_way⟩ := d.def_ 43 (d := g__law_way) rfl
  have F_law_way : FnP K "_law_way" "_law_way" (topS 71) (He.ga K "_law_way") fd_law_way := F0_law_way
  have S_law_way : Fn P w K mg base "_law_way" 7 ["_law_name", "_law_parts", "_law_high", "_law_cost_here"] [] (spLWy (clK K)) := mkFn F_law_way (ok_lwy F_law_way T M mkW mkG mkL) (He.glo_ok X G (d.fact 43 rfl)) (F_law_way.bindsN fun _ _ _ _ _ _ us hl => match us, hl with | [_, _, _, _], _ => rfl)
  obtain ⟨fd_law_net, F0_law_net⟩ := d.def_ 45 (d := g__law_net) rfl
  have F_law_net : FnP K "_law_net" "_law_net" (topS 73) (He.ga K "_law_net") fd_law_net := F0_law_net
  have S_law_net : Fn P w K mg base "_law_net" 8 ["_law_spots", "_law_ways_here", "_law_cell"] [] (spLNt (clK K)) := mkFn F_law_net (ok_lnt F_law_net T M mkN S_law_way S_law_cost) (He.glo_ok X G (d.fact 45 rfl)) (F_law_net.bindsN fun _ _ _ _ _ _ us hl => match us, hl with | [_, _, _], _ => rfl)
  obtain ⟨fd_law_ways, F0_law_ways⟩ := d.def_ 48 (d := g__law_ways) rfl
  have F_law_ways : FnP K "_law_ways" "_law_ways" (topS 76) (He.ga K "_law_ways") fd_law_ways := F0_law_ways
  have S_law_ways : Fn P w K mg base "_law_ways" 2 ["_law_script", "_law_spots", "_law_labels"] [] (spLWs K) := mkFn F_law_ways (ok_lws F_law_ways T S_law_cell_at S_law_gain) (He.glo_ok X G (d.fact 48 rfl)) (F_law_ways.bindsN fun _ _ _ _ _ _ us hl => match us, hl with | [_, _, _], _ => rfl)
  obtain ⟨fd_law_free_ways, F0_law_free_ways⟩ := d.def_ 49 (d := g__law_free_ways) rfl
  have F_law_free_ways : FnP K "_law_free_ways" "_law_free_ways" (topS 77) (He.ga K "_law_free_ways") fd_law_free_ways := F0_law_free_ways
  have S_law_free_ways : Fn P w K mg base "_law_free_ways" 2 ["_law_script", "_law_spots", "_law_labels"] [] (spLFW K) := mkFn F_law_free_ways (ok_lfw F_law_free_ways T S_law_cell_at) (He.glo_ok X G (d.fact 49 rfl)) (F_law_free_ways.bindsN fun _ _ _ _ _ _ us hl => match us, hl with | [_, _, _], _ => rfl)
  obtain ⟨fd_law_ring, F0_law_ring⟩ := d.def_ 50 (d := g__law_ring) rfl
  have F_law_ring : FnP K "_law_ring" "_law_ring" (topS 78) (He.ga K "_law_ring") fd_law_ring := F0_law_ring
  have S_law_ring : Fn P w K mg base "_law_ring" 2 ["_law_ways_here", "_law_around", "_law_begin", "_law_size", "_law_name", "_law_gain_here", "_law_kind"] [] spLRg := mkFn F_law_ring (ok_lrg F_law_ring T S_law_times) (He.glo_ok X G (d.fact 50 rfl)) (F_law_ring.bindsN fun _ _ _ _ _ _ us hl => match us, hl with | [_, _, _, _, _, _, _], _ => rfl)
  obtain ⟨fd_law_strand, F0_law_strand⟩ := d.def_ 51 (d := g__law_strand) rfl
  have F_law_strand : FnP K "_law_strand" "_law_strand" (topS 79) (He.ga K "_law_strand") fd_law_strand := F0_law_strand
  have S_law_strand : Fn P w K mg base "_law_strand" 3 ["_law_ways_here", "_law_labels", "_law_count", "_law_which", "_law_cells"] [] spLSt := mkFn F_law_strand (ok_lst F_law_strand T S_law_factor S_law_ring) (He.glo_ok X G (d.fact 51 rfl)) (F_law_strand.bindsN fun _ _ _ _ _ _ us hl => match us, hl with | [_, _, _, _, _], _ => rfl)
  obtain ⟨fd_law_strands, F0_law_strands⟩ := d.def_ 52 (d := g__law_strands) rfl
  have F_law_strands : FnP K "_law_strands" "_law_strands" (topS 80) (He.ga K "_law_strands") fd_law_strands := F0_law_strands
  have S_law_strands : Fn P w K mg base "_law_strands" 4 ["_law_script", "_law_ways_here", "_law_labels", "_law_count", "_law_many"] [] (spLSs K) := mkFn F_law_strands (ok_lss F_law_strands T S_law_cell_at S_law_strand) (He.glo_ok X G (d.fact 52 rfl)) (F_law_strands.bindsN fun _ _ _ _ _ _ us hl => match us, hl with | [_, _, _, _, _], _ => rfl)
  obtain ⟨fd_law_product, F0_law_product⟩ := d.def_ 53 (d := g__law_product) rfl
  have F_law_product : FnP K "_law_product" "_law_product" (topS 81) (He.ga K "_law_product") fd_law_product := F0_law_product
  have S_law_product : Fn P w K mg base "_law_product" 2 ["_law_ways_here", "_law_walk"] [] spLPr := mkFn F_law_product (ok_lpr F_law_product S_law_times) (He.glo_ok X G (d.fact 53 rfl)) (F_law_product.bindsN fun _ _ _ _ _ _ us hl => match us, hl with | [_, _], _ => rfl)
  obtain ⟨fd_law_send, F0_law_send⟩ := d.def_ 54 (d := g__law_send) rfl
  have F_law_send : FnP K "_law_send" "_law_send" (topS 82) (He.ga K "_law_send") fd_law_send := F0_law_send
  have S_law_send : Fn P w K mg base "_law_send" 2 ["_law_due_here", "_law_ways_here", "_law_walk", "_law_put"] [] spLSe := mkFn F_law_send (ok_lse F_law_send S_law_plus S_law_times) (He.glo_ok X G (d.fact 54 rfl)) (F_law_send.bindsN fun _ _ _ _ _ _ us hl => match us, hl with | [_, _, _, _], _ => rfl)
  obtain ⟨fd_law_planned, F0_law_planned⟩ := d.def_ 55 (d := g__law_planned) rfl
  have F_law_planned : FnP K "_law_planned" "_law_planned" (topS 83) (He.ga K "_law_planned") fd_law_planned := F0_law_planned
  have S_law_planned : Fn P w K mg base "_law_planned" 3 ["_law_due_here", "_law_ways_here", "_law_strand_here"] [] spLPl := mkFn F_law_planned (ok_lpl F_law_planned S_law_product S_law_send) (He.glo_ok X G (d.fact 55 rfl)) (F_law_planned.bindsN fun _ _ _ _ _ _ us hl => match us, hl with | [_, _, _], _ => rfl)
  obtain ⟨fd_law_due, F0_law_due⟩ := d.def_ 56 (d := g__law_due) rfl
  have F_law_due : FnP K "_law_due" "_law_due" (topS 84) (He.ga K "_law_due") fd_law_due := F0_law_due
  have S_law_due : Fn P w K mg base "_law_due" 4 ["_law_script", "_law_ways_here", "_law_strands_here"] [] (spLDu K) := mkFn F_law_due (ok_ldu F_law_due T S_law_planned S_law_cell_at S_law_plus) (He.glo_ok X G (d.fact 56 rfl)) (F_law_due.bindsN fun _ _ _ _ _ _ us hl => match us, hl with | [_, _, _], _ => rfl)
  obtain ⟨fd_law_as_plan, F0_law_as_plan⟩ := d.def_ 60 (d := g__law_as_plan) rfl
  have F_law_as_plan : FnP K "_law_as_plan" "_law_as_plan" (topS 88) (He.ga K "_law_as_plan") fd_law_as_plan := F0_law_as_plan
  have S_law_as_plan : Fn P w K mg base "_law_as_plan" 4 ["_law_due_here"] [] (spLAP (clK K)) := mkFn F_law_as_plan (ok_lap F_law_as_plan T mkF2) (He.glo_ok X G (d.fact 60 rfl)) (F_law_as_plan.bindsN fun _ _ _ _ _ _ us hl => match us, hl with | [_], _ => rfl)
  obtain ⟨fd_br, F0_br⟩ := d.def_ 57 (d := g__law_brought) rfl
  have F_br : FnP K "_law_brought" "_law_brought" (topS 85) (He.ga K "_law_brought") fd_br := F0_br
  have S_br : ∀ cell, Fn P w K mg base "_law_brought" 2 ["_law_spots", "_law_ways_here", "_law_due_here"] [] (spLBr cell) := fun cell => mkFn F_br (ok_lbr cell F_br T S_law_plus S_law_times) (He.glo_ok X G (d.fact 57 rfl)) (F_br.bindsN fun _ _ _ _ _ _ us hl => match us, hl with | [_, _, _], _ => rfl)
  obtain ⟨fd_law_ends_right, F0_law_ends_right⟩ := d.def_ 63 (d := g__law_ends_right) rfl
  have F_law_ends_right : FnP K "_law_ends_right" "_law_ends_right" (topS 91) (He.ga K "_law_ends_right") fd_law_ends_right := F0_law_ends_right
  have S_law_ends_right : Fn P w K mg base "_law_ends_right" 3 ["_law_spots", "_law_ways_here", "_law_due_here", "_law_found"] [] (spLER (clK K)) := mkFn F_law_ends_right (ok_ler F_law_ends_right T S_law_told S_law_product S_law_plus S_law_times S_br S_law_same S_law_above) (He.glo_ok X G (d.fact 63 rfl)) (F_law_ends_right.bindsN fun _ _ _ _ _ _ us hl => match us, hl with | [_, _, _, _], _ => rfl)
  obtain ⟨fd_law_costs_right, F0_law_costs_right⟩ := d.def_ 64 (d := g__law_costs_right) rfl
  have F_law_costs_right : FnP K "_law_costs_right" "_law_costs_right" (topS 92) (He.ga K "_law_costs_right") fd_law_costs_right := F0_law_costs_right
  have S_law_costs_right : Fn P w K mg base "_law_costs_right" 12 ["_law_net_here", "_law_ways_here", "_law_due_here", "_law_cell", "_law_found"] [] (spLCR (clK K)) := mkFn F_law_costs_right (ok_lcr F_law_costs_right T S_law_plus S_law_told S_worth S_strand_plan S_law_times S_law_cost S_law_same) (He.glo_ok X G (d.fact 64 rfl)) (F_law_costs_right.bindsN fun _ _ _ _ _ _ us hl => match us, hl with | [_, _, _, _, _], _ => rfl)
  exact ok_law F T S_law_cell_at S_law_names S_law_ways S_law_strands S_law_free_ways S_law_net S_law_due S_law_as_plan S_taken_apart S_law_ends_right S_law_costs_right
end GH
end
open PySem PySem.W PySem.Calls PyProof.Rows
set_option maxRecDepth 100000 in
set_option maxHeartbeats 0 in
theorem PySem.Challenge.cw_gainstream_k38_whole_ends_and_costs_holds : PySem.Challenge.rw_gainstream_k38_whole_ends_and_costs.Holds := by
  w_on; o_law
  refine HandSHeadRun.head_any (r := OpenLaw.row PySem.Challenge.rw_gainstream_k38_whole_ends_and_costs) (q := GH.qv) (H := GH.hookM) (ob := GH.obN) (M := 20000) (loose := GH.looseN) (d := HandSHeadRun.topDef (OpenLaw.row PySem.Challenge.rw_gainstream_k38_whole_ends_and_costs).prog 93) (kwd := []) GH.obN_eq
    (by kernel_rfl) (fun s => by kernel_rfl) GH.headRun (by kernel_rfl) (by kernel_rfl) (by kernel_rfl) (by rfl) (by first | assumption | decide +kernel) (by decide +kernel) ⟨rfl, rfl, rfl, rfl, rfl, by decide +kernel⟩ ?hw ?hc
  case hw => w_witness2
  case hc =>
    refine L2.walk_ofE (l := PySem.Challenge.rw_gainstream_k38_whole_ends_and_costs) (n := 63) (k := 13) (x := "_law_script") (CX := L2.CX0) rfl (by decide) (by kernel_rfl) ⟨rfl, by decide, by decide⟩ ?F (fun _ _ _ _ z => z)
    intro w mg fa h Y G hmg0
    obtain ⟨K, KX, c⟩ := Y
    have hmg : mg ("law" : PySem.Str) = some (.ref fa) := by
      have e : (HandSHeadRun.topDef (OpenLaw.row PySem.Challenge.rw_gainstream_k38_whole_ends_and_costs).prog 93).name = ("law" : PySem.Str) := by kernel_rfl
      rw [← e]
      exact hmg0
    obtain ⟨fd, hb, hF⟩ := GH.facts (P := (PySem.Challenge.rw_gainstream_k38_whole_ends_and_costs).prog) (w := w) KX G hmg c
    exact ⟨K, fd, GH.spLaw K, KX, hb, fun H a ns hl _ hS => ⟨a, ns, rfl, hS, hl, fun _ => rfl⟩, hF⟩
