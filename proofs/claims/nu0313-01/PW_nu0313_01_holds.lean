import PyProof.Rows.All
import Wide.All
import OpenK.AllK
import Wide.FinOn
import Lean
import PySem.Challenge.RW_nu0313_01

/- the plain law: the coding of whole numbers in groups of seven bits, in plain Lean -/
namespace Mine
noncomputable def zig (v : Int) : Nat := if v ≥ 0 then (2 * v).toNat else (-2 * v - 1).toNat
noncomputable def gr (n : Nat) : List Int := if h : 127 < n then ((n % 128 + 128 : Nat) : Int) :: gr (n / 128) else [(n : Int)]
termination_by n
decreasing_by omega
theorem gr_big {n : Nat} (h : 127 < n) : gr n = ((n % 128 + 128 : Nat) : Int) :: gr (n / 128) := by rw [gr, dif_pos h]
theorem gr_small {n : Nat} (h : ¬ 127 < n) : gr n = [(n : Int)] := by rw [gr, dif_neg h]
theorem gr_len_pos (n : Nat) : 0 < (gr n).length := by
  by_cases h : 127 < n
  · rw [gr_big h]; simp
  · rw [gr_small h]; simp

/-- what a reading of the bytes that are left ends in -/
inductive Rd (α : Type) where
  | ok (v : α) (rest : List Int)
  | bad (what : String) (rest : List Int)
noncomputable def rbyte : List Int → Rd Int
  | [] => .bad "cut_off" []
  | v :: r => if v < 0 ∨ 255 < v then .bad "bad_byte" (v :: r) else .ok v r
noncomputable def unzig (t : Int) : Int := if t % 2 = 1 then -((t + 1) / 2) else t / 2
noncomputable def rgo (t w g : Int) : List Int → Rd Int
  | [] => if 127 < g then .bad "cut_off" [] else if g = 0 ∧ 1 < w then .bad "long_number" [] else .ok (unzig (t + g * w)) []
  | v :: r => if 127 < g then (if v < 0 ∨ 255 < v then .bad "bad_byte" (v :: r) else rgo (t + (g - 128) * w) (w * 128) v r)
      else if g = 0 ∧ 1 < w then .bad "long_number" (v :: r) else .ok (unzig (t + g * w)) (v :: r)
noncomputable def Rd.bind {α β : Type} : Rd α → (α → List Int → Rd β) → Rd β
  | .ok v r, f => f v r
  | .bad w r, _ => .bad w r
noncomputable def rnum (l : List Int) : Rd Int := (rbyte l).bind fun g r => rgo 0 1 g r
theorem rgo_big {t w g : Int} (h : 127 < g) (l : List Int) : rgo t w g l = (rbyte l).bind fun v r => rgo (t + (g - 128) * w) (w * 128) v r := by
  cases l with
  | nil => simp [rgo, rbyte, Rd.bind, h]
  | cons v r => by_cases q : v < 0 ∨ 255 < v <;> simp [rgo, rbyte, Rd.bind, h, q]
theorem rgo_long {t w g : Int} (h : ¬ 127 < g) (q : g = 0 ∧ 1 < w) (l : List Int) : rgo t w g l = .bad "long_number" l := by
  cases l <;> simp [rgo, h, q]
theorem rgo_end {t w g : Int} (h : ¬ 127 < g) (q : ¬ (g = 0 ∧ 1 < w)) (l : List Int) : rgo t w g l = .ok (unzig (t + g * w)) l := by
  cases l <;> simp [rgo, h, q]
noncomputable def rcount (l : List Int) : Rd Int := (rnum l).bind fun n r => if n < 0 ∨ (r.length : Int) < n then .bad "bad_count" r else .ok n r
/-- n times -/
noncomputable def rmany {α : Type} (f : List Int → Rd α) : Nat → List Int → Rd (List α)
  | 0, l => .ok [] l
  | n + 1, l => (f l).bind fun v r => (rmany f n r).bind fun vs r' => .ok (v :: vs) r'
noncomputable def rchar (l : List Int) : Rd Int := (rnum l).bind fun c r => if c < 0 ∨ 1114111 < c then .bad "bad_char" r else .ok c r
noncomputable def rtext (l : List Int) : Rd (List Int) := (rcount l).bind fun n r => rmany rchar n.toNat r
noncomputable def rnums (l : List Int) : Rd (List Int) := (rcount l).bind fun n r => rmany rnum n.toNat r
inductive Val where
  | num (v : Int)
  | text (cs : List Int)
  | nums (vs : List Int)
noncomputable def Rd.map {α β : Type} (f : α → β) : Rd α → Rd β
  | .ok v r => .ok (f v) r
  | .bad w r => .bad w r
noncomputable def rkind (k : Int) (l : List Int) : Rd Val := if k = 0 then (rnum l).map .num else if k = 1 then (rtext l).map .text else if k = 2 then (rnums l).map .nums else (rbyte l).map .num
noncomputable def rall : List Int → List Int → Rd (List Val)
  | [], l => .ok [] l
  | k :: ks, l => (rkind k l).bind fun v r => (rall ks r).bind fun vs r' => .ok (v :: vs) r'

theorem rbyte_ok {l r : List Int} {v : Int} (h : rbyte l = .ok v r) : l = v :: r ∧ 0 ≤ v ∧ v ≤ 255 := by
  cases l with
  | nil => cases h
  | cons a l =>
    rw [rbyte] at h
    split at h
    · cases h
    · cases h; exact ⟨rfl, by omega, by omega⟩
theorem rcount_le {l r : List Int} {v : Int} (h : rcount l = .ok v r) : 0 ≤ v ∧ v ≤ (r.length : Int) := by
  unfold rcount at h
  cases hn : rnum l with
  | bad w q => rw [hn] at h; cases h
  | ok n q =>
    rw [hn] at h
    simp only [Rd.bind] at h
    split at h
    · cases h
    · cases h; omega
noncomputable def pre {α : Type} (done : List α) (R : Rd (List α)) : Rd (List α) := R.bind fun vs r => .ok (done ++ vs) r
theorem pre_nil {α : Type} (R : Rd (List α)) : pre [] R = R := by cases R <;> rfl
theorem pre_succ {α : Type} {f : List Int → Rd α} {n : Nat} {l r : List Int} {v : α} (h : f l = .ok v r) (done : List α) : pre done (rmany f (n + 1) l) = pre (done ++ [v]) (rmany f n r) := by
  rw [rmany, h]
  simp only [Rd.bind]
  cases rmany f n r with
  | bad w q => rfl
  | ok vs q => simp [pre, Rd.bind]
theorem pre_bad {α : Type} {f : List Int → Rd α} {n : Nat} {l r : List Int} {w : String} (h : f l = .bad w r) (done : List α) : pre done (rmany f (n + 1) l) = .bad w r := by
  rw [rmany, h]; rfl
theorem pre_zero {α : Type} {f : List Int → Rd α} (l : List Int) (done : List α) : pre done (rmany f 0 l) = .ok done l := by
  simp [pre, rmany, Rd.bind]
theorem prea_succ {k : Int} {ks l r : List Int} {v : Val} (h : rkind k l = .ok v r) (done : List Val) : pre done (rall (k :: ks) l) = pre (done ++ [v]) (rall ks r) := by
  rw [rall, h]
  simp only [Rd.bind]
  cases rall ks r with
  | bad w q => rfl
  | ok vs q => simp [pre, Rd.bind]
theorem prea_bad {k : Int} {ks l r : List Int} {w : String} (h : rkind k l = .bad w r) (done : List Val) : pre done (rall (k :: ks) l) = .bad w r := by
  rw [rall, h]; rfl
theorem prea_zero (l : List Int) (done : List Val) : pre done (rall [] l) = .ok done l := by
  simp [pre, rall, Rd.bind]

/-- the numbers, one behind the other -/
noncomputable def grs (vs : List Int) : List Int := vs.flatMap fun v => gr (zig v)
noncomputable def wtextL (cs : List Int) : List Int := gr (zig (cs.length : Int)) ++ grs cs
theorem grs_nil : grs [] = [] := rfl
theorem grs_snoc (vs : List Int) (v : Int) : grs (vs ++ [v]) = grs vs ++ gr (zig v) := by simp [grs]
theorem grs_cons (v : Int) (vs : List Int) : grs (v :: vs) = gr (zig v) ++ grs vs := by simp [grs]
theorem grs_append (vs ws : List Int) : grs (vs ++ ws) = grs vs ++ grs ws := by simp [grs]
theorem grs_take (vs : List Int) (i : Nat) : (grs (vs.take i)).length ≤ (grs vs).length := by
  have := congrArg (fun l => (grs l).length) (List.take_append_drop i vs)
  simp only [grs_append, List.length_append] at this
  omega
theorem take_at {vs : List Int} {i : Nat} {c : Int} (h : vs[i]? = some c) : vs.take (i + 1) = vs.take i ++ [c] := by
  rw [List.take_add_one, h]; rfl
noncomputable def wnumsL (vs : List Int) : List Int := gr (zig (vs.length : Int)) ++ grs vs

/-- how a value of a kind is written -/
noncomputable def enc : Val → Int → List Int
  | .num v, k => if k = 0 then gr (zig v) else [v]
  | .text cs, _ => wtextL cs
  | .nums vs, _ => wnumsL vs
noncomputable def Good (k : Int) : Val → Prop
  | .num v => k = 0 ∨ (k = 3 ∧ 0 ≤ v ∧ v ≤ 255)
  | .text cs => k = 1 ∧ ∀ c ∈ cs, 0 ≤ c ∧ c ≤ 1114111
  | .nums _ => k = 2
noncomputable def encs (kv : List (Int × Val)) : List Int := kv.flatMap fun p => enc p.2 p.1
theorem encs_snoc (kv : List (Int × Val)) (p : Int × Val) : encs (kv ++ [p]) = encs kv ++ enc p.2 p.1 := by simp [encs]
end Mine

/- the plain law: what is written is read again; what is cut or turned is refused -/
namespace Mine
theorem gr_range (n : Nat) : ∀ c ∈ gr n, 0 ≤ c ∧ c ≤ 255 := by
  induction n using Nat.strongRecOn with
  | ind n ih =>
    intro c hc
    by_cases h : 127 < n
    · rw [gr_big h] at hc
      rcases List.mem_cons.mp hc with rfl | hc
      · omega
      · exact ih _ (by omega) c hc
    · rw [gr_small h] at hc
      rw [List.mem_singleton.mp hc]; omega
theorem unzig_zig (v : Int) : unzig (zig v : Int) = v := by
  unfold zig unzig
  split <;> split <;> omega

/-- l is the writing of v: read whole it gives v, cut it is refused -/
def Refused {α : Type} (R : Rd α) : Prop := ∃ w r, R = .bad w r ∧ (w = "cut_off" ∨ w = "bad_count")
structure Codes {α : Type} (f : List Int → Rd α) (l : List Int) (v : α) : Prop where
  whole : ∀ r, f (l ++ r) = .ok v r
  cut : ∀ k, k < l.length → Refused (f (l.take k))
theorem Refused.bind {α β : Type} {R : Rd α} (h : Refused R) (f : α → List Int → Rd β) : Refused (R.bind f) := by
  obtain ⟨w, r, rfl, hw⟩ := h
  exact ⟨w, r, rfl, hw⟩
theorem Refused.map {α β : Type} {R : Rd α} (h : Refused R) (f : α → β) : Refused (R.map f) := by
  obtain ⟨w, r, rfl, hw⟩ := h
  exact ⟨w, r, rfl, hw⟩
theorem Codes.bind {α β : Type} {f : List Int → Rd α} {l l' : List Int} {v : α} {g : α → List Int → Rd β} {u : β} (a : Codes f l v) (b : Codes (g v) l' u) : Codes (fun x => (f x).bind g) (l ++ l') u := by
  refine ⟨fun r => ?_, fun k hk => ?_⟩
  · show (f _).bind g = _
    rw [List.append_assoc, a.whole]; exact b.whole r
  · show Refused ((f _).bind g)
    by_cases h : k < l.length
    · rw [List.take_append_of_le_length (Nat.le_of_lt h)]
      exact (a.cut k h).bind g
    · rw [List.take_append, List.take_of_length_le (by omega), a.whole]
      exact b.cut _ (by rw [List.length_append] at hk; omega)
theorem Codes.map {α β : Type} {f : List Int → Rd α} {l : List Int} {v : α} (a : Codes f l v) (g : α → β) : Codes (fun x => (f x).map g) l (g v) :=
  ⟨fun r => by show (f _).map g = _; rw [a.whole]; rfl, fun k hk => (a.cut k hk).map g⟩
theorem Codes.pure {α : Type} (v : α) : Codes (fun x => Rd.ok v x) [] v := ⟨fun _ => rfl, fun _ h => absurd h (Nat.not_lt_zero _)⟩
theorem codes_byte {v : Int} (h : 0 ≤ v ∧ v ≤ 255) : Codes rbyte [v] v := by
  refine ⟨fun r => ?_, fun k hk => ?_⟩
  · show rbyte (v :: r) = _
    rw [rbyte, if_neg (by omega)]
  · obtain rfl : k = 0 := by simp at hk; omega
    exact ⟨_, _, rfl, .inl rfl⟩

/-- the groups, from the second on -/
theorem rgo_groups (n : Nat) : ∀ (t w : Int), (0 < n ∨ w = 1) → ∀ g tl, gr n = g :: tl → (∀ r, rgo t w g (tl ++ r) = .ok (unzig (t + n * w)) r) ∧ ∀ k, k < tl.length → Refused (rgo t w g (tl.take k)) := by
  induction n using Nat.strongRecOn with
  | ind n ih =>
    intro t w hw g tl e
    by_cases h : 127 < n
    · rw [gr_big h] at e
      obtain ⟨rfl, rfl⟩ := List.cons.inj e
      clear e
      have hg : (127 : Int) < ((n % 128 + 128 : Nat) : Int) := by omega
      obtain ⟨g', tl', e'⟩ : ∃ g' tl', gr (n / 128) = g' :: tl' := by
        cases q : gr (n / 128) with
        | nil => have := gr_len_pos (n / 128); rw [q] at this; exact absurd this (Nat.lt_irrefl _)
        | cons a b => exact ⟨a, b, rfl⟩
      have hr := gr_range (n / 128) g' (by rw [e']; exact .head _)
      obtain ⟨i1, i2⟩ := ih (n / 128) (by omega) (t + (((n % 128 + 128 : Nat) : Int) - 128) * w) (w * 128) (.inl (by omega)) g' tl' e'
      refine ⟨fun r => ?_, fun k hk => ?_⟩
      · rw [e', rgo_big hg, List.cons_append, rbyte, if_neg (by omega)]
        show rgo _ _ g' (tl' ++ r) = _
        rw [i1]
        refine congrArg (fun z => Rd.ok (unzig z) r) ?_
        have q : (n : Int) = ((n % 128 : Nat) : Int) + 128 * ((n / 128 : Nat) : Int) := by omega
        have q2 : ((n % 128 + 128 : Nat) : Int) - 128 = ((n % 128 : Nat) : Int) := by omega
        rw [q2]
        generalize ((n % 128 : Nat) : Int) = a at *
        generalize ((n / 128 : Nat) : Int) = b at *
        have q3 : b * (w * 128) = 128 * b * w := by rw [Int.mul_comm w 128, ← Int.mul_assoc, Int.mul_comm b 128]
        rw [q, Int.add_mul, q3, Int.add_assoc]
      · rw [rgo_big hg, e']
        cases k with
        | zero => exact ⟨_, _, rfl, .inl rfl⟩
        | succ k =>
          rw [List.take_succ_cons, rbyte, if_neg (by omega)]
          exact i2 k (by rw [e', List.length_cons] at hk; omega)
    · rw [gr_small h] at e
      obtain ⟨rfl, rfl⟩ := List.cons.inj e
      refine ⟨fun r => ?_, fun k hk => absurd hk (Nat.not_lt_zero _)⟩
      exact rgo_end (by omega) (by omega) _
theorem codes_num (v : Int) : Codes rnum (gr (zig v)) v := by
  obtain ⟨g, tl, e⟩ : ∃ g tl, gr (zig v) = g :: tl := by
    cases q : gr (zig v) with
    | nil => have := gr_len_pos (zig v); rw [q] at this; exact absurd this (Nat.lt_irrefl _)
    | cons a b => exact ⟨a, b, rfl⟩
  have hr := gr_range _ g (by rw [e]; exact .head _)
  obtain ⟨i1, i2⟩ := rgo_groups (zig v) 0 1 (.inr rfl) g tl e
  rw [e]
  refine ⟨fun r => ?_, fun k hk => ?_⟩
  · unfold rnum
    rw [List.cons_append, rbyte, if_neg (by omega)]
    show rgo 0 1 g (tl ++ r) = _
    rw [i1, Int.zero_add, Int.mul_one, unzig_zig]
  · unfold rnum
    cases k with
    | zero => exact ⟨_, _, rfl, .inl rfl⟩
    | succ k =>
      rw [List.take_succ_cons, rbyte, if_neg (by omega)]
      exact i2 k (by rw [List.length_cons] at hk; omega)
theorem codes_char {c : Int} (h : 0 ≤ c ∧ c ≤ 1114111) : Codes rchar (gr (zig c)) c := by
  have a := (codes_num c).bind (g := fun c r => if c < 0 ∨ 1114111 < c then .bad "bad_char" r else .ok c r) (l' := []) (u := c) ⟨fun r => by rw [if_neg (by omega)]; rfl, fun _ h => absurd h (Nat.not_lt_zero _)⟩
  rw [List.append_nil] at a
  exact a
theorem codes_many {f : List Int → Rd Int} : ∀ vs : List Int, (∀ v ∈ vs, Codes f (gr (zig v)) v) → Codes (rmany f vs.length) (grs vs) vs
  | [], _ => ⟨fun _ => rfl, fun _ h => absurd h (Nat.not_lt_zero _)⟩
  | v :: vs, h => by
    rw [grs_cons]
    have b := codes_many vs fun u hu => h u (.tail _ hu)
    have c : Codes (fun r => (rmany f vs.length r).bind fun us r' => .ok (v :: us) r') (grs vs) (v :: vs) := by
      have := b.bind (g := fun us r' => .ok (v :: us) r') (l' := []) (u := v :: vs) (Codes.pure _)
      rwa [List.append_nil] at this
    exact (h v (.head _)).bind (g := fun v r => (rmany f vs.length r).bind fun us r' => .ok (v :: us) r') c
theorem grs_len (vs : List Int) : vs.length ≤ (grs vs).length := by
  induction vs with
  | nil => exact Nat.le_refl _
  | cons v vs ih =>
    rw [grs_cons, List.length_append, List.length_cons]
    have := gr_len_pos (zig v)
    omega
/-- a count and what is counted -/
theorem codes_counted {f : List Int → Rd Int} (vs : List Int) (h : ∀ v ∈ vs, Codes f (gr (zig v)) v) : Codes (fun l => (rcount l).bind fun n r => rmany f n.toNat r) (gr (zig (vs.length : Int)) ++ grs vs) vs := by
  have a := codes_num (vs.length : Int)
  have b := codes_many vs h
  have hl := grs_len vs
  refine ⟨fun r => ?_, fun k hk => ?_⟩
  · unfold rcount
    rw [List.append_assoc, a.whole]
    simp only [Rd.bind]
    rw [if_neg (by rw [List.length_append]; omega)]
    simp only [Int.toNat_natCast]
    exact b.whole r
  · unfold rcount
    by_cases q : k < (gr (zig (vs.length : Int))).length
    · rw [List.take_append_of_le_length (Nat.le_of_lt q)]
      exact ((a.cut k q).bind _).bind _
    · rw [List.take_append, List.take_of_length_le (by omega), a.whole]
      simp only [Rd.bind]
      by_cases z : (vs.length : Int) < 0 ∨ (((grs vs).take (k - (gr (zig (vs.length : Int))).length)).length : Int) < (vs.length : Int)
      · rw [if_pos z]
        exact ⟨_, _, rfl, .inr rfl⟩
      · rw [if_neg z]
        simp only [Int.toNat_natCast]
        exact b.cut _ (by rw [List.length_append] at hk; omega)
theorem codes_kind {k : Int} {v : Val} (h : Good k v) : Codes (rkind k) (enc v k) v := by
  cases v with
  | num v =>
    rcases h with rfl | ⟨rfl, h⟩
    · exact (codes_num v).map Val.num
    · exact (codes_byte h).map Val.num
  | text cs =>
    obtain ⟨rfl, h⟩ := h
    exact (codes_counted cs fun c hc => codes_char (h c hc)).map Val.text
  | nums vs =>
    obtain rfl : k = 2 := h
    exact (codes_counted vs fun v _ => codes_num v).map Val.nums
theorem codes_all : ∀ kv : List (Int × Val), (∀ p ∈ kv, Good p.1 p.2) → Codes (rall (kv.map (·.1))) (encs kv) (kv.map (·.2))
  | [], _ => ⟨fun _ => rfl, fun _ h => absurd h (Nat.not_lt_zero _)⟩
  | (k, v) :: kv, h => by
    have b := codes_all kv fun p hp => h p (.tail _ hp)
    have c : Codes (fun r => (rall (kv.map (·.1)) r).bind fun us r' => .ok (v :: us) r') (encs kv) (v :: kv.map (·.2)) := by
      have := b.bind (g := fun us r' => .ok (v :: us) r') (l' := []) (u := v :: kv.map (·.2)) (Codes.pure _)
      rwa [List.append_nil] at this
    exact (codes_kind (h _ (.head _))).bind (g := fun v r => (rall (kv.map (·.1)) r).bind fun us r' => .ok (v :: us) r') c

/-- the whole row is read again -/
theorem rall_whole {kv : List (Int × Val)} (h : ∀ p ∈ kv, Good p.1 p.2) : rall (kv.map (·.1)) (encs kv) = .ok (kv.map (·.2)) [] := by
  have := (codes_all kv h).whole []
  rwa [List.append_nil] at this
/-- the cut row is refused -/
theorem rall_cut {kv : List (Int × Val)} (h : ∀ p ∈ kv, Good p.1 p.2) {k : Nat} (hk : k < (encs kv).length) : Refused (rall (kv.map (·.1)) ((encs kv).take k)) := (codes_all kv h).cut k hk

/-- a number whose last group is nought -/
theorem rgo_more (n : Nat) : ∀ (t w : Int), 0 < w → ∀ g tl, gr n = g :: tl → ∃ t' w', 0 < w' ∧ rgo t w (if tl = [] then g + 128 else g) (if tl = [] then [0] else tl.dropLast ++ [tl.getLastD 0 + 128, 0]) = rgo t' w' 0 [] ∧ 1 < w' := by
  induction n using Nat.strongRecOn with
  | ind n ih =>
    intro t w hw g tl e
    by_cases h : 127 < n
    · rw [gr_big h] at e
      obtain ⟨rfl, rfl⟩ := List.cons.inj e
      clear e
      have hg : (127 : Int) < ((n % 128 + 128 : Nat) : Int) := by omega
      obtain ⟨g', tl', e'⟩ : ∃ g' tl', gr (n / 128) = g' :: tl' := by
        cases q : gr (n / 128) with
        | nil => have := gr_len_pos (n / 128); rw [q] at this; exact absurd this (Nat.lt_irrefl _)
        | cons a b => exact ⟨a, b, rfl⟩
      have hr := gr_range (n / 128) g' (by rw [e']; exact .head _)
      obtain ⟨t', w', q1, q2, q3⟩ := ih (n / 128) (by omega) (t + (((n % 128 + 128 : Nat) : Int) - 128) * w) (w * 128) (by omega) g' tl' e'
      refine ⟨t', w', q1, ?_, q3⟩
      rw [if_neg (by rw [e']; simp), if_neg (by rw [e']; simp), e', rgo_big hg]
      rw [← q2]
      by_cases z : tl' = []
      · subst z
        have hg' : g' ≤ 127 := by
          by_cases y : 127 < n / 128
          · rw [gr_big y] at e'
            have := (List.cons.inj e').2
            have p := gr_len_pos (n / 128 / 128)
            rw [this] at p; exact absurd p (Nat.lt_irrefl _)
          · rw [gr_small y] at e'
            have := (List.cons.inj e').1
            omega
        simp only [if_true, List.dropLast, List.nil_append, List.getLastD]
        rw [show ([g'] : List Int).getLast (by simp) = g' from rfl] <;> try rfl
        rw [rbyte, if_neg (by omega)]
        rfl
      · rw [if_neg z, if_neg z]
        obtain ⟨a, b, rfl⟩ : ∃ a b, tl' = a :: b := by
          cases tl' with
          | nil => exact absurd rfl z
          | cons a b => exact ⟨a, b, rfl⟩
        rw [List.dropLast_cons_of_ne_nil (by simp), List.cons_append, rbyte, if_neg (by omega)]
        rfl
    · rw [gr_small h] at e
      obtain ⟨rfl, rfl⟩ := List.cons.inj e
      refine ⟨t + ((n : Int) + 128 - 128) * w, w * 128, by omega, ?_, by omega⟩
      rw [if_pos rfl, if_pos rfl, rgo_big (by omega)]
      rfl
theorem rnum_long (v : Int) : rnum ((gr (zig v)).dropLast ++ [(gr (zig v)).getLastD 0 + 128, 0]) = .bad "long_number" [] := by
  obtain ⟨g, tl, e⟩ : ∃ g tl, gr (zig v) = g :: tl := by
    cases q : gr (zig v) with
    | nil => have := gr_len_pos (zig v); rw [q] at this; exact absurd this (Nat.lt_irrefl _)
    | cons a b => exact ⟨a, b, rfl⟩
  have hr := gr_range _ g (by rw [e]; exact .head _)
  obtain ⟨t', w', q1, q2, q3⟩ := rgo_more (zig v) 0 1 (by decide) g tl e
  rw [rgo_long (by decide) ⟨rfl, q3⟩] at q2
  rw [e, ← q2]
  cases tl with
  | nil =>
    have hg : g ≤ 127 := by
      by_cases y : 127 < zig v
      · rw [gr_big y] at e
        have := (List.cons.inj e).2
        have p := gr_len_pos (zig v / 128)
        rw [this] at p; exact absurd p (Nat.lt_irrefl _)
      · rw [gr_small y] at e
        have := (List.cons.inj e).1
        omega
    show rnum [g + 128, 0] = _
    unfold rnum
    rw [rbyte, if_neg (by omega)]
    rfl
  | cons a b =>
    rw [List.dropLast_cons_of_ne_nil (by simp), List.cons_append]
    unfold rnum
    rw [rbyte, if_neg (by omega)]
    rfl
end Mine

set_option Elab.async false
set_option maxRecDepth 100000
set_option maxHeartbeats 8000000
namespace Mine
/- the head: what the top leaves. The objects are printed by a program of mine; the defs' own texts are fetched from the row, by unification. -/
section
open PySem
noncomputable def stm (i : Nat) : Option Stmt := PySem.Challenge.pw_nu0313_01.main.body[i]?
noncomputable def inCls : Option Stmt → Nat → Option Stmt
  | some (.ClassDef _ _ _ b _ _ _ _ _ _ _), j => b[j]?
  | _, _ => none
noncomputable def fnIn : Option Stmt → Option (Arguments × List Stmt × Scope)
  | some (.FunctionDef _ a b _ _ _ s _ _ _) => some (a, b, s)
  | _ => none
/-- the loader's name, out of the library's own boot -/
noncomputable def ldOf (o : Obj) : Option String := match o.data with
  | .dict es _ => (es.toList.filterMap fun e => match e.val with | .builtin x => some x | _ => none).head?
  | _ => none
noncomputable def hd.heap_39 : Params → W.Frag := by
  refine (?F : ∀ (ld : String) (_ : ∀ P, ldOf (W.boot_o_3 P) = some ld) (p1 : Arguments) (b1 : List Stmt) (s1 : Scope) (_ : fnIn (inCls (stm 2) 0) = some (p1, b1, s1)) (p2 : Arguments) (b2 : List Stmt) (s2 : Scope) (_ : fnIn (inCls (stm 5) 0) = some (p2, b2, s2)) (p3 : Arguments) (b3 : List Stmt) (s3 : Scope) (_ : fnIn (inCls (stm 5) 1) = some (p3, b3, s3)) (p4 : Arguments) (b4 : List Stmt) (s4 : Scope) (_ : fnIn (inCls (stm 5) 2) = some (p4, b4, s4)) (p5 : Arguments) (b5 : List Stmt) (s5 : Scope) (_ : fnIn (inCls (stm 5) 3) = some (p5, b5, s5)) (p6 : Arguments) (b6 : List Stmt) (s6 : Scope) (_ : fnIn (inCls (stm 5) 4) = some (p6, b6, s6)) (p7 : Arguments) (b7 : List Stmt) (s7 : Scope) (_ : fnIn (inCls (stm 6) 0) = some (p7, b7, s7)) (p8 : Arguments) (b8 : List Stmt) (s8 : Scope) (_ : fnIn (inCls (stm 6) 1) = some (p8, b8, s8)) (p9 : Arguments) (b9 : List Stmt) (s9 : Scope) (_ : fnIn (inCls (stm 6) 2) = some (p9, b9, s9)) (p10 : Arguments) (b10 : List Stmt) (s10 : Scope) (_ : fnIn (inCls (stm 6) 3) = some (p10, b10, s10)) (p11 : Arguments) (b11 : List Stmt) (s11 : Scope) (_ : fnIn (inCls (stm 6) 4) = some (p11, b11, s11)) (p12 : Arguments) (b12 : List Stmt) (s12 : Scope) (_ : fnIn (inCls (stm 6) 5) = some (p12, b12, s12)) (p13 : Arguments) (b13 : List Stmt) (s13 : Scope) (_ : fnIn (inCls (stm 6) 6) = some (p13, b13, s13)) (p14 : Arguments) (b14 : List Stmt) (s14 : Scope) (_ : fnIn (inCls (stm 6) 7) = some (p14, b14, s14)) (p15 : Arguments) (b15 : List Stmt) (s15 : Scope) (_ : fnIn (stm 8) = some (p15, b15, s15)) (p16 : Arguments) (b16 : List Stmt) (s16 : Scope) (_ : fnIn (stm 9) = some (p16, b16, s16)) (p17 : Arguments) (b17 : List Stmt) (s17 : Scope) (_ : fnIn (stm 10) = some (p17, b17, s17)) (p18 : Arguments) (b18 : List Stmt) (s18 : Scope) (_ : fnIn (stm 11) = some (p18, b18, s18)) (p19 : Arguments) (b19 : List Stmt) (s19 : Scope) (_ : fnIn (stm 12) = some (p19, b19, s19)) (p20 : Arguments) (b20 : List Stmt) (s20 : Scope) (_ : fnIn (stm 13) = some (p20, b20, s20)), Params → List (Nat × Obj)) _ (fun _ => rfl) _ _ _ rfl _ _ _ rfl _ _ _ rfl _ _ _ rfl _ _ _ rfl _ _ _ rfl _ _ _ rfl _ _ _ rfl _ _ _ rfl _ _ _ rfl _ _ _ rfl _ _ _ rfl _ _ _ rfl _ _ _ rfl _ _ _ rfl _ _ _ rfl _ _ _ rfl _ _ _ rfl _ _ _ rfl _ _ _ rfl
  exact fun ld _ p1 b1 s1 _ p2 b2 s2 _ p3 b3 s3 _ p4 b4 s4 _ p5 b5 s5 _ p6 b6 s6 _ p7 b7 s7 _ p8 b8 s8 _ p9 b9 s9 _ p10 b10 s10 _ p11 b11 s11 _ p12 b12 s12 _ p13 b13 s13 _ p14 b14 s14 _ p15 b15 s15 _ p16 b16 s16 _ p17 b17 s17 _ p18 b18 s18 _ p19 b19 s19 _ p20 b20 s20 _ P =>
    (nat_lit 2, (Obj.mk Value.none (none : Option Nat) (Data.dict #[(DictEntry.mk (PyData.keyHash P (Str.ofString "type.__subclasses__.Exception.0")) (Value.str (Str.ofString "type.__subclasses__.Exception.0") (205 : Nat)) (Value.int 24 (0 : Nat))), (DictEntry.mk (PyData.keyHash P (Str.ofString "type.__subclasses__.Exception.n")) (Value.str (Str.ofString "type.__subclasses__.Exception.n") (206 : Nat)) (Value.int 1 (0 : Nat)))] (2 : Nat)) #[])) ::
  (nat_lit 3, (Obj.mk (Value.type "dict") (none : Option Nat) (Data.dict #[(DictEntry.mk (PyData.keyHash P (Str.ofString "__name__")) (Value.str (Str.ofString "__name__") (165 : Nat)) (Value.str (Str.ofString "law_nu0313_01") (390 : Nat))), (DictEntry.mk (PyData.keyHash P (Str.ofString "__doc__")) (Value.str (Str.ofString "__doc__") (166 : Nat)) Value.none), (DictEntry.mk (PyData.keyHash P (Str.ofString "__package__")) (Value.str (Str.ofString "__package__") (167 : Nat)) Value.none), (DictEntry.mk (PyData.keyHash P (Str.ofString "__loader__")) (Value.str (Str.ofString "__loader__") (168 : Nat)) (Value.builtin ld)), (DictEntry.mk (PyData.keyHash P (Str.ofString "__spec__")) (Value.str (Str.ofString "__spec__") (169 : Nat)) Value.none), (DictEntry.mk (PyData.keyHash P (Str.ofString "__annotations__")) (Value.str (Str.ofString "__annotations__") (170 : Nat)) (Value.ref (6 : Nat))), (DictEntry.mk (PyData.keyHash P (Str.ofString "__builtins__")) (Value.str (Str.ofString "__builtins__") (171 : Nat)) (Value.ref (4 : Nat))), (DictEntry.mk (PyData.keyHash P (Str.ofString "__file__")) (Value.str (Str.ofString "__file__") (173 : Nat)) (Value.str (Str.ofString "/claim/cut.py") (172 : Nat))), (DictEntry.mk (PyData.keyHash P (Str.ofString "__cached__")) (Value.str (Str.ofString "__cached__") (174 : Nat)) Value.none), (DictEntry.mk (PyData.keyHash P (Str.ofString "YardError")) (Value.str (Str.ofString "YardError") (208 : Nat)) (Value.ref (24 : Nat))), (DictEntry.mk (PyData.keyHash P (Str.ofString "FormatError")) (Value.str (Str.ofString "FormatError") (235 : Nat)) (Value.ref (44 : Nat))), (DictEntry.mk (PyData.keyHash P (Str.ofString "MOST_CODE")) (Value.str (Str.ofString "MOST_CODE") (239 : Nat)) (Value.int 1114111 (238 : Nat))), (DictEntry.mk (PyData.keyHash P (Str.ofString "ByteWriter")) (Value.str (Str.ofString "ByteWriter") (302 : Nat)) (Value.ref (91 : Nat))), (DictEntry.mk (PyData.keyHash P (Str.ofString "ByteReader")) (Value.str (Str.ofString "ByteReader") (389 : Nat)) (Value.ref (159 : Nat))), (DictEntry.mk (PyData.keyHash P (Str.ofString "_law_pick")) (Value.str (Str.ofString "_law_pick") (401 : Nat)) (Value.ref (170 : Nat))), (DictEntry.mk (PyData.keyHash P (Str.ofString "_law_groups")) (Value.str (Str.ofString "_law_groups") (410 : Nat)) (Value.ref (177 : Nat))), (DictEntry.mk (PyData.keyHash P (Str.ofString "_law_figure")) (Value.str (Str.ofString "_law_figure") (419 : Nat)) (Value.ref (184 : Nat))), (DictEntry.mk (PyData.keyHash P (Str.ofString "_law_word")) (Value.str (Str.ofString "_law_word") (425 : Nat)) (Value.ref (189 : Nat))), (DictEntry.mk (PyData.keyHash P (Str.ofString "_law_read")) (Value.str (Str.ofString "_law_read") (437 : Nat)) (Value.ref (196 : Nat))), (DictEntry.mk (PyData.keyHash P (Str.ofString "law")) (Value.str (Str.ofString "law") (443 : Nat)) (Value.ref (201 : Nat)))] (20 : Nat)) #[])) ::
  (nat_lit 15, (Obj.mk (Value.type "tuple") (none : Option Nat) (Data.seq #[(Value.type "Exception")] (0 : Nat)) #[])) ::
  (nat_lit 22, (Obj.mk (Value.type "tuple") (none : Option Nat) (Data.seq #[] (0 : Nat)) #[])) ::
  (nat_lit 23, (Obj.mk (Value.type "dict") (none : Option Nat) (Data.dict #[(DictEntry.mk (PyData.keyHash P (Str.ofString "__module__")) (Value.str (Str.ofString "__module__") (196 : Nat)) (Value.str (Str.ofString "moduleyard.errors") (187 : Nat))), (DictEntry.mk (PyData.keyHash P (Str.ofString "__firstlineno__")) (Value.str (Str.ofString "__firstlineno__") (200 : Nat)) (Value.int 2 (199 : Nat))), (DictEntry.mk (PyData.keyHash P (Str.ofString "__static_attributes__")) (Value.str (Str.ofString "__static_attributes__") (201 : Nat)) (Value.ref (22 : Nat))), (DictEntry.mk (PyData.keyHash P (Str.ofString "__weakref__")) (Value.str (Str.ofString "__weakref__") (203 : Nat)) (Value.ref (25 : Nat))), (DictEntry.mk (PyData.keyHash P (Str.ofString "__doc__")) (Value.str (Str.ofString "__doc__") (204 : Nat)) Value.none)] (3 : Nat)) #[])) ::
  (nat_lit 24, (Obj.mk (Value.type "type") (none : Option Nat) (Data.cls (ClassData.mk (Str.ofString "YardError") [(Value.type "Exception")] [(Value.ref (24 : Nat)), (Value.type "Exception"), (Value.type "BaseException"), (Value.type "object")] (23 : Nat) (Str.ofString "YardError") Bool.true [] [(Value.ref (44 : Nat))] Bool.false none Bool.false)) #[(some (Value.ref (15 : Nat))), none, (some (Value.str (Str.ofString "YardError") (189 : Nat))), (some (Value.str (Str.ofString "YardError") (197 : Nat))), (some (Value.builtin "Exception.__new__")), (some (Value.bool Bool.true))])) ::
  (nat_lit 25, (Obj.mk (Value.type "getset_descriptor") (none : Option Nat) (Data.fields #[(Value.str (Str.ofString "__weakref__") (202 : Nat)), (Value.ref (24 : Nat)), (Value.builtin "ExceptionGroup.__weakref__"), Value.none]) #[])) ::
  (nat_lit 28, (Obj.mk (Value.type "tuple") (none : Option Nat) (Data.seq #[(Value.ref (24 : Nat))] (0 : Nat)) #[])) ::
  (nat_lit 35, (Obj.mk (Value.type "tuple") (none : Option Nat) (Data.seq #[] (0 : Nat)) #[])) ::
  (nat_lit 37, (Obj.mk (Value.type "tuple") (none : Option Nat) (Data.seq #[(Value.str (Str.ofString "self") (224 : Nat)), (Value.str (Str.ofString "what") (225 : Nat)), (Value.str (Str.ofString "at") (226 : Nat))] (0 : Nat)) #[])) ::
  (nat_lit 38, (Obj.mk (Value.type "tuple") (none : Option Nat) (Data.seq #[] (0 : Nat)) #[])) ::
  (nat_lit 40, (Obj.mk (Value.type "code") (none : Option Nat) (Data.fields #[(Value.str (Str.ofString "__init__") (221 : Nat)), (Value.str (Str.ofString "FormatError.__init__") (222 : Nat)), (Value.str (Str.ofString "/claim/cut.py") (223 : Nat)), (Value.int 6 (0 : Nat)), (Value.int 3 (0 : Nat)), (Value.int 0 (0 : Nat)), (Value.int 0 (0 : Nat)), (Value.int 3 (0 : Nat)), (Value.ref (35 : Nat)), (Value.bool Bool.true), (Value.int 181 (0 : Nat)), (Value.ref (36 : Nat)), Value.none, (Value.ref (37 : Nat)), (Value.ref (38 : Nat)), (Value.ref (39 : Nat)), (Value.int 227 (0 : Nat)), (Value.int 6 (0 : Nat)), (Value.str (Str.ofString "/claim/cut.py") (228 : Nat))]) #[])) ::
  (nat_lit 41, (Obj.mk (Value.type "function") (none : Option Nat) (Data.func (FuncData.mk (Str.ofString "__init__") (Str.ofString "FormatError.__init__") p1 (FuncBody.stmts b1) s1 (3 : Nat) ([] : List (Str × Nat)) Value.none Value.none Value.none (Value.str (Str.ofString "moduleyard.errors") (187 : Nat)) (none : Option Nat) (Value.ref (40 : Nat)) Value.none (0 : Nat))) #[])) ::
  (nat_lit 42, (Obj.mk (Value.type "tuple") (none : Option Nat) (Data.seq #[(Value.str (Str.ofString "at") (230 : Nat)), (Value.str (Str.ofString "what") (231 : Nat))] (0 : Nat)) #[])) ::
  (nat_lit 43, (Obj.mk (Value.type "dict") (none : Option Nat) (Data.dict #[(DictEntry.mk (PyData.keyHash P (Str.ofString "__module__")) (Value.str (Str.ofString "__module__") (216 : Nat)) (Value.str (Str.ofString "moduleyard.errors") (187 : Nat))), (DictEntry.mk (PyData.keyHash P (Str.ofString "__firstlineno__")) (Value.str (Str.ofString "__firstlineno__") (220 : Nat)) (Value.int 4 (219 : Nat))), (DictEntry.mk (PyData.keyHash P (Str.ofString "__init__")) (Value.str (Str.ofString "__init__") (229 : Nat)) (Value.ref (41 : Nat))), (DictEntry.mk (PyData.keyHash P (Str.ofString "__static_attributes__")) (Value.str (Str.ofString "__static_attributes__") (232 : Nat)) (Value.ref (42 : Nat))), (DictEntry.mk (PyData.keyHash P (Str.ofString "__doc__")) (Value.str (Str.ofString "__doc__") (233 : Nat)) Value.none)] (2 : Nat)) #[])) ::
  (nat_lit 44, (Obj.mk (Value.type "type") (none : Option Nat) (Data.cls (ClassData.mk (Str.ofString "FormatError") [(Value.ref (24 : Nat))] [(Value.ref (44 : Nat)), (Value.ref (24 : Nat)), (Value.type "Exception"), (Value.type "BaseException"), (Value.type "object")] (43 : Nat) (Str.ofString "FormatError") Bool.true [] [] Bool.false none Bool.false)) #[(some (Value.ref (28 : Nat))), none, (some (Value.str (Str.ofString "FormatError") (209 : Nat))), (some (Value.str (Str.ofString "FormatError") (217 : Nat))), (some (Value.builtin "Exception.__new__")), (some (Value.bool Bool.true))])) ::
  (nat_lit 54, (Obj.mk (Value.type "tuple") (none : Option Nat) (Data.seq #[] (0 : Nat)) #[])) ::
  (nat_lit 56, (Obj.mk (Value.type "tuple") (none : Option Nat) (Data.seq #[(Value.str (Str.ofString "self") (255 : Nat))] (0 : Nat)) #[])) ::
  (nat_lit 57, (Obj.mk (Value.type "tuple") (none : Option Nat) (Data.seq #[] (0 : Nat)) #[])) ::
  (nat_lit 59, (Obj.mk (Value.type "code") (none : Option Nat) (Data.fields #[(Value.str (Str.ofString "__init__") (252 : Nat)), (Value.str (Str.ofString "ByteWriter.__init__") (253 : Nat)), (Value.str (Str.ofString "/claim/cut.py") (254 : Nat)), (Value.int 13 (0 : Nat)), (Value.int 1 (0 : Nat)), (Value.int 0 (0 : Nat)), (Value.int 0 (0 : Nat)), (Value.int 3 (0 : Nat)), (Value.ref (54 : Nat)), (Value.bool Bool.true), (Value.int 181 (0 : Nat)), (Value.ref (55 : Nat)), Value.none, (Value.ref (56 : Nat)), (Value.ref (57 : Nat)), (Value.ref (58 : Nat)), (Value.int 256 (0 : Nat)), (Value.int 13 (0 : Nat)), (Value.str (Str.ofString "/claim/cut.py") (257 : Nat))]) #[])) ::
  (nat_lit 60, (Obj.mk (Value.type "function") (none : Option Nat) (Data.func (FuncData.mk (Str.ofString "__init__") (Str.ofString "ByteWriter.__init__") p2 (FuncBody.stmts b2) s2 (3 : Nat) ([] : List (Str × Nat)) Value.none Value.none Value.none (Value.str (Str.ofString "moduleyard.bytesio") (236 : Nat)) (none : Option Nat) (Value.ref (59 : Nat)) Value.none (0 : Nat))) #[])) ::
  (nat_lit 61, (Obj.mk (Value.type "tuple") (none : Option Nat) (Data.seq #[] (0 : Nat)) #[])) ::
  (nat_lit 63, (Obj.mk (Value.type "tuple") (none : Option Nat) (Data.seq #[(Value.str (Str.ofString "self") (262 : Nat)), (Value.str (Str.ofString "value") (263 : Nat))] (0 : Nat)) #[])) ::
  (nat_lit 64, (Obj.mk (Value.type "tuple") (none : Option Nat) (Data.seq #[] (0 : Nat)) #[])) ::
  (nat_lit 66, (Obj.mk (Value.type "code") (none : Option Nat) (Data.fields #[(Value.str (Str.ofString "byte") (259 : Nat)), (Value.str (Str.ofString "ByteWriter.byte") (260 : Nat)), (Value.str (Str.ofString "/claim/cut.py") (261 : Nat)), (Value.int 16 (0 : Nat)), (Value.int 2 (0 : Nat)), (Value.int 0 (0 : Nat)), (Value.int 0 (0 : Nat)), (Value.int 3 (0 : Nat)), (Value.ref (61 : Nat)), (Value.bool Bool.true), (Value.int 181 (0 : Nat)), (Value.ref (62 : Nat)), Value.none, (Value.ref (63 : Nat)), (Value.ref (64 : Nat)), (Value.ref (65 : Nat)), (Value.int 264 (0 : Nat)), (Value.int 16 (0 : Nat)), (Value.str (Str.ofString "/claim/cut.py") (265 : Nat))]) #[])) ::
  (nat_lit 67, (Obj.mk (Value.type "function") (none : Option Nat) (Data.func (FuncData.mk (Str.ofString "byte") (Str.ofString "ByteWriter.byte") p3 (FuncBody.stmts b3) s3 (3 : Nat) ([] : List (Str × Nat)) Value.none Value.none Value.none (Value.str (Str.ofString "moduleyard.bytesio") (236 : Nat)) (none : Option Nat) (Value.ref (66 : Nat)) Value.none (0 : Nat))) #[])) ::
  (nat_lit 68, (Obj.mk (Value.type "tuple") (none : Option Nat) (Data.seq #[] (0 : Nat)) #[])) ::
  (nat_lit 70, (Obj.mk (Value.type "tuple") (none : Option Nat) (Data.seq #[(Value.str (Str.ofString "self") (270 : Nat)), (Value.str (Str.ofString "n") (271 : Nat)), (Value.str (Str.ofString "rest") (272 : Nat))] (0 : Nat)) #[])) ::
  (nat_lit 71, (Obj.mk (Value.type "tuple") (none : Option Nat) (Data.seq #[] (0 : Nat)) #[])) ::
  (nat_lit 73, (Obj.mk (Value.type "code") (none : Option Nat) (Data.fields #[(Value.str (Str.ofString "number") (267 : Nat)), (Value.str (Str.ofString "ByteWriter.number") (268 : Nat)), (Value.str (Str.ofString "/claim/cut.py") (269 : Nat)), (Value.int 19 (0 : Nat)), (Value.int 2 (0 : Nat)), (Value.int 0 (0 : Nat)), (Value.int 0 (0 : Nat)), (Value.int 3 (0 : Nat)), (Value.ref (68 : Nat)), (Value.bool Bool.true), (Value.int 181 (0 : Nat)), (Value.ref (69 : Nat)), Value.none, (Value.ref (70 : Nat)), (Value.ref (71 : Nat)), (Value.ref (72 : Nat)), (Value.int 273 (0 : Nat)), (Value.int 19 (0 : Nat)), (Value.str (Str.ofString "/claim/cut.py") (274 : Nat))]) #[])) ::
  (nat_lit 74, (Obj.mk (Value.type "function") (none : Option Nat) (Data.func (FuncData.mk (Str.ofString "number") (Str.ofString "ByteWriter.number") p4 (FuncBody.stmts b4) s4 (3 : Nat) ([] : List (Str × Nat)) Value.none Value.none Value.none (Value.str (Str.ofString "moduleyard.bytesio") (236 : Nat)) (none : Option Nat) (Value.ref (73 : Nat)) Value.none (0 : Nat))) #[])) ::
  (nat_lit 75, (Obj.mk (Value.type "tuple") (none : Option Nat) (Data.seq #[] (0 : Nat)) #[])) ::
  (nat_lit 77, (Obj.mk (Value.type "tuple") (none : Option Nat) (Data.seq #[(Value.str (Str.ofString "self") (279 : Nat)), (Value.str (Str.ofString "s") (280 : Nat)), (Value.str (Str.ofString "char") (281 : Nat))] (0 : Nat)) #[])) ::
  (nat_lit 78, (Obj.mk (Value.type "tuple") (none : Option Nat) (Data.seq #[] (0 : Nat)) #[])) ::
  (nat_lit 80, (Obj.mk (Value.type "code") (none : Option Nat) (Data.fields #[(Value.str (Str.ofString "text") (276 : Nat)), (Value.str (Str.ofString "ByteWriter.text") (277 : Nat)), (Value.str (Str.ofString "/claim/cut.py") (278 : Nat)), (Value.int 26 (0 : Nat)), (Value.int 2 (0 : Nat)), (Value.int 0 (0 : Nat)), (Value.int 0 (0 : Nat)), (Value.int 3 (0 : Nat)), (Value.ref (75 : Nat)), (Value.bool Bool.true), (Value.int 181 (0 : Nat)), (Value.ref (76 : Nat)), Value.none, (Value.ref (77 : Nat)), (Value.ref (78 : Nat)), (Value.ref (79 : Nat)), (Value.int 282 (0 : Nat)), (Value.int 26 (0 : Nat)), (Value.str (Str.ofString "/claim/cut.py") (283 : Nat))]) #[])) ::
  (nat_lit 81, (Obj.mk (Value.type "function") (none : Option Nat) (Data.func (FuncData.mk (Str.ofString "text") (Str.ofString "ByteWriter.text") p5 (FuncBody.stmts b5) s5 (3 : Nat) ([] : List (Str × Nat)) Value.none Value.none Value.none (Value.str (Str.ofString "moduleyard.bytesio") (236 : Nat)) (none : Option Nat) (Value.ref (80 : Nat)) Value.none (0 : Nat))) #[])) ::
  (nat_lit 82, (Obj.mk (Value.type "tuple") (none : Option Nat) (Data.seq #[] (0 : Nat)) #[])) ::
  (nat_lit 84, (Obj.mk (Value.type "tuple") (none : Option Nat) (Data.seq #[(Value.str (Str.ofString "self") (288 : Nat)), (Value.str (Str.ofString "row") (289 : Nat)), (Value.str (Str.ofString "n") (290 : Nat))] (0 : Nat)) #[])) ::
  (nat_lit 85, (Obj.mk (Value.type "tuple") (none : Option Nat) (Data.seq #[] (0 : Nat)) #[])) ::
  (nat_lit 87, (Obj.mk (Value.type "code") (none : Option Nat) (Data.fields #[(Value.str (Str.ofString "numbers") (285 : Nat)), (Value.str (Str.ofString "ByteWriter.numbers") (286 : Nat)), (Value.str (Str.ofString "/claim/cut.py") (287 : Nat)), (Value.int 31 (0 : Nat)), (Value.int 2 (0 : Nat)), (Value.int 0 (0 : Nat)), (Value.int 0 (0 : Nat)), (Value.int 3 (0 : Nat)), (Value.ref (82 : Nat)), (Value.bool Bool.true), (Value.int 181 (0 : Nat)), (Value.ref (83 : Nat)), Value.none, (Value.ref (84 : Nat)), (Value.ref (85 : Nat)), (Value.ref (86 : Nat)), (Value.int 291 (0 : Nat)), (Value.int 31 (0 : Nat)), (Value.str (Str.ofString "/claim/cut.py") (292 : Nat))]) #[])) ::
  (nat_lit 88, (Obj.mk (Value.type "function") (none : Option Nat) (Data.func (FuncData.mk (Str.ofString "numbers") (Str.ofString "ByteWriter.numbers") p6 (FuncBody.stmts b6) s6 (3 : Nat) ([] : List (Str × Nat)) Value.none Value.none Value.none (Value.str (Str.ofString "moduleyard.bytesio") (236 : Nat)) (none : Option Nat) (Value.ref (87 : Nat)) Value.none (0 : Nat))) #[])) ::
  (nat_lit 89, (Obj.mk (Value.type "tuple") (none : Option Nat) (Data.seq #[(Value.str (Str.ofString "out") (294 : Nat))] (0 : Nat)) #[])) ::
  (nat_lit 90, (Obj.mk (Value.type "dict") (none : Option Nat) (Data.dict #[(DictEntry.mk (PyData.keyHash P (Str.ofString "__module__")) (Value.str (Str.ofString "__module__") (247 : Nat)) (Value.str (Str.ofString "moduleyard.bytesio") (236 : Nat))), (DictEntry.mk (PyData.keyHash P (Str.ofString "__firstlineno__")) (Value.str (Str.ofString "__firstlineno__") (251 : Nat)) (Value.int 11 (250 : Nat))), (DictEntry.mk (PyData.keyHash P (Str.ofString "__init__")) (Value.str (Str.ofString "__init__") (258 : Nat)) (Value.ref (60 : Nat))), (DictEntry.mk (PyData.keyHash P (Str.ofString "byte")) (Value.str (Str.ofString "byte") (266 : Nat)) (Value.ref (67 : Nat))), (DictEntry.mk (PyData.keyHash P (Str.ofString "number")) (Value.str (Str.ofString "number") (275 : Nat)) (Value.ref (74 : Nat))), (DictEntry.mk (PyData.keyHash P (Str.ofString "text")) (Value.str (Str.ofString "text") (284 : Nat)) (Value.ref (81 : Nat))), (DictEntry.mk (PyData.keyHash P (Str.ofString "numbers")) (Value.str (Str.ofString "numbers") (293 : Nat)) (Value.ref (88 : Nat))), (DictEntry.mk (PyData.keyHash P (Str.ofString "__static_attributes__")) (Value.str (Str.ofString "__static_attributes__") (295 : Nat)) (Value.ref (89 : Nat))), (DictEntry.mk (PyData.keyHash P (Str.ofString "__dict__")) (Value.str (Str.ofString "__dict__") (297 : Nat)) (Value.ref (92 : Nat))), (DictEntry.mk (PyData.keyHash P (Str.ofString "__weakref__")) (Value.str (Str.ofString "__weakref__") (299 : Nat)) (Value.ref (93 : Nat))), (DictEntry.mk (PyData.keyHash P (Str.ofString "__doc__")) (Value.str (Str.ofString "__doc__") (300 : Nat)) Value.none)] (4 : Nat)) #[])) ::
  (nat_lit 91, (Obj.mk (Value.type "type") (none : Option Nat) (Data.cls (ClassData.mk (Str.ofString "ByteWriter") [(Value.type "object")] [(Value.ref (91 : Nat)), (Value.type "object")] (90 : Nat) (Str.ofString "ByteWriter") Bool.true [] [] Bool.false none Bool.false)) #[none, none, (some (Value.str (Str.ofString "ByteWriter") (240 : Nat))), (some (Value.str (Str.ofString "ByteWriter") (248 : Nat))), (some (Value.builtin "object.__new__")), (some (Value.bool Bool.true))])) ::
  (nat_lit 92, (Obj.mk (Value.type "getset_descriptor") (none : Option Nat) (Data.fields #[(Value.str (Str.ofString "__dict__") (296 : Nat)), (Value.ref (91 : Nat)), (Value.builtin "function.__dict__"), (Value.builtin "function.__dict__#set")]) #[])) ::
  (nat_lit 93, (Obj.mk (Value.type "getset_descriptor") (none : Option Nat) (Data.fields #[(Value.str (Str.ofString "__weakref__") (298 : Nat)), (Value.ref (91 : Nat)), (Value.builtin "ExceptionGroup.__weakref__"), Value.none]) #[])) ::
  (nat_lit 103, (Obj.mk (Value.type "tuple") (none : Option Nat) (Data.seq #[] (0 : Nat)) #[])) ::
  (nat_lit 105, (Obj.mk (Value.type "tuple") (none : Option Nat) (Data.seq #[(Value.str (Str.ofString "self") (318 : Nat)), (Value.str (Str.ofString "data") (319 : Nat))] (0 : Nat)) #[])) ::
  (nat_lit 106, (Obj.mk (Value.type "tuple") (none : Option Nat) (Data.seq #[] (0 : Nat)) #[])) ::
  (nat_lit 108, (Obj.mk (Value.type "code") (none : Option Nat) (Data.fields #[(Value.str (Str.ofString "__init__") (315 : Nat)), (Value.str (Str.ofString "ByteReader.__init__") (316 : Nat)), (Value.str (Str.ofString "/claim/cut.py") (317 : Nat)), (Value.int 37 (0 : Nat)), (Value.int 2 (0 : Nat)), (Value.int 0 (0 : Nat)), (Value.int 0 (0 : Nat)), (Value.int 3 (0 : Nat)), (Value.ref (103 : Nat)), (Value.bool Bool.true), (Value.int 181 (0 : Nat)), (Value.ref (104 : Nat)), Value.none, (Value.ref (105 : Nat)), (Value.ref (106 : Nat)), (Value.ref (107 : Nat)), (Value.int 320 (0 : Nat)), (Value.int 37 (0 : Nat)), (Value.str (Str.ofString "/claim/cut.py") (321 : Nat))]) #[])) ::
  (nat_lit 109, (Obj.mk (Value.type "function") (none : Option Nat) (Data.func (FuncData.mk (Str.ofString "__init__") (Str.ofString "ByteReader.__init__") p7 (FuncBody.stmts b7) s7 (3 : Nat) ([] : List (Str × Nat)) Value.none Value.none Value.none (Value.str (Str.ofString "moduleyard.bytesio") (236 : Nat)) (none : Option Nat) (Value.ref (108 : Nat)) Value.none (0 : Nat))) #[])) ::
  (nat_lit 110, (Obj.mk (Value.type "tuple") (none : Option Nat) (Data.seq #[] (0 : Nat)) #[])) ::
  (nat_lit 112, (Obj.mk (Value.type "tuple") (none : Option Nat) (Data.seq #[(Value.str (Str.ofString "self") (326 : Nat)), (Value.str (Str.ofString "what") (327 : Nat))] (0 : Nat)) #[])) ::
  (nat_lit 113, (Obj.mk (Value.type "tuple") (none : Option Nat) (Data.seq #[] (0 : Nat)) #[])) ::
  (nat_lit 115, (Obj.mk (Value.type "code") (none : Option Nat) (Data.fields #[(Value.str (Str.ofString "fail") (323 : Nat)), (Value.str (Str.ofString "ByteReader.fail") (324 : Nat)), (Value.str (Str.ofString "/claim/cut.py") (325 : Nat)), (Value.int 41 (0 : Nat)), (Value.int 2 (0 : Nat)), (Value.int 0 (0 : Nat)), (Value.int 0 (0 : Nat)), (Value.int 3 (0 : Nat)), (Value.ref (110 : Nat)), (Value.bool Bool.true), (Value.int 181 (0 : Nat)), (Value.ref (111 : Nat)), Value.none, (Value.ref (112 : Nat)), (Value.ref (113 : Nat)), (Value.ref (114 : Nat)), (Value.int 328 (0 : Nat)), (Value.int 41 (0 : Nat)), (Value.str (Str.ofString "/claim/cut.py") (329 : Nat))]) #[])) ::
  (nat_lit 116, (Obj.mk (Value.type "function") (none : Option Nat) (Data.func (FuncData.mk (Str.ofString "fail") (Str.ofString "ByteReader.fail") p8 (FuncBody.stmts b8) s8 (3 : Nat) ([] : List (Str × Nat)) Value.none Value.none Value.none (Value.str (Str.ofString "moduleyard.bytesio") (236 : Nat)) (none : Option Nat) (Value.ref (115 : Nat)) Value.none (0 : Nat))) #[])) ::
  (nat_lit 117, (Obj.mk (Value.type "tuple") (none : Option Nat) (Data.seq #[] (0 : Nat)) #[])) ::
  (nat_lit 119, (Obj.mk (Value.type "tuple") (none : Option Nat) (Data.seq #[(Value.str (Str.ofString "self") (334 : Nat))] (0 : Nat)) #[])) ::
  (nat_lit 120, (Obj.mk (Value.type "tuple") (none : Option Nat) (Data.seq #[] (0 : Nat)) #[])) ::
  (nat_lit 122, (Obj.mk (Value.type "code") (none : Option Nat) (Data.fields #[(Value.str (Str.ofString "done") (331 : Nat)), (Value.str (Str.ofString "ByteReader.done") (332 : Nat)), (Value.str (Str.ofString "/claim/cut.py") (333 : Nat)), (Value.int 44 (0 : Nat)), (Value.int 1 (0 : Nat)), (Value.int 0 (0 : Nat)), (Value.int 0 (0 : Nat)), (Value.int 3 (0 : Nat)), (Value.ref (117 : Nat)), (Value.bool Bool.true), (Value.int 181 (0 : Nat)), (Value.ref (118 : Nat)), Value.none, (Value.ref (119 : Nat)), (Value.ref (120 : Nat)), (Value.ref (121 : Nat)), (Value.int 335 (0 : Nat)), (Value.int 44 (0 : Nat)), (Value.str (Str.ofString "/claim/cut.py") (336 : Nat))]) #[])) ::
  (nat_lit 123, (Obj.mk (Value.type "function") (none : Option Nat) (Data.func (FuncData.mk (Str.ofString "done") (Str.ofString "ByteReader.done") p9 (FuncBody.stmts b9) s9 (3 : Nat) ([] : List (Str × Nat)) Value.none Value.none Value.none (Value.str (Str.ofString "moduleyard.bytesio") (236 : Nat)) (none : Option Nat) (Value.ref (122 : Nat)) Value.none (0 : Nat))) #[])) ::
  (nat_lit 124, (Obj.mk (Value.type "tuple") (none : Option Nat) (Data.seq #[] (0 : Nat)) #[])) ::
  (nat_lit 126, (Obj.mk (Value.type "tuple") (none : Option Nat) (Data.seq #[(Value.str (Str.ofString "self") (341 : Nat)), (Value.str (Str.ofString "value") (342 : Nat))] (0 : Nat)) #[])) ::
  (nat_lit 127, (Obj.mk (Value.type "tuple") (none : Option Nat) (Data.seq #[] (0 : Nat)) #[])) ::
  (nat_lit 129, (Obj.mk (Value.type "code") (none : Option Nat) (Data.fields #[(Value.str (Str.ofString "byte") (338 : Nat)), (Value.str (Str.ofString "ByteReader.byte") (339 : Nat)), (Value.str (Str.ofString "/claim/cut.py") (340 : Nat)), (Value.int 47 (0 : Nat)), (Value.int 1 (0 : Nat)), (Value.int 0 (0 : Nat)), (Value.int 0 (0 : Nat)), (Value.int 3 (0 : Nat)), (Value.ref (124 : Nat)), (Value.bool Bool.true), (Value.int 181 (0 : Nat)), (Value.ref (125 : Nat)), Value.none, (Value.ref (126 : Nat)), (Value.ref (127 : Nat)), (Value.ref (128 : Nat)), (Value.int 343 (0 : Nat)), (Value.int 47 (0 : Nat)), (Value.str (Str.ofString "/claim/cut.py") (344 : Nat))]) #[])) ::
  (nat_lit 130, (Obj.mk (Value.type "function") (none : Option Nat) (Data.func (FuncData.mk (Str.ofString "byte") (Str.ofString "ByteReader.byte") p10 (FuncBody.stmts b10) s10 (3 : Nat) ([] : List (Str × Nat)) Value.none Value.none Value.none (Value.str (Str.ofString "moduleyard.bytesio") (236 : Nat)) (none : Option Nat) (Value.ref (129 : Nat)) Value.none (0 : Nat))) #[])) ::
  (nat_lit 131, (Obj.mk (Value.type "tuple") (none : Option Nat) (Data.seq #[] (0 : Nat)) #[])) ::
  (nat_lit 133, (Obj.mk (Value.type "tuple") (none : Option Nat) (Data.seq #[(Value.str (Str.ofString "self") (349 : Nat)), (Value.str (Str.ofString "total") (350 : Nat)), (Value.str (Str.ofString "weight") (351 : Nat)), (Value.str (Str.ofString "group") (352 : Nat))] (0 : Nat)) #[])) ::
  (nat_lit 134, (Obj.mk (Value.type "tuple") (none : Option Nat) (Data.seq #[] (0 : Nat)) #[])) ::
  (nat_lit 136, (Obj.mk (Value.type "code") (none : Option Nat) (Data.fields #[(Value.str (Str.ofString "number") (346 : Nat)), (Value.str (Str.ofString "ByteReader.number") (347 : Nat)), (Value.str (Str.ofString "/claim/cut.py") (348 : Nat)), (Value.int 56 (0 : Nat)), (Value.int 1 (0 : Nat)), (Value.int 0 (0 : Nat)), (Value.int 0 (0 : Nat)), (Value.int 3 (0 : Nat)), (Value.ref (131 : Nat)), (Value.bool Bool.true), (Value.int 181 (0 : Nat)), (Value.ref (132 : Nat)), Value.none, (Value.ref (133 : Nat)), (Value.ref (134 : Nat)), (Value.ref (135 : Nat)), (Value.int 353 (0 : Nat)), (Value.int 56 (0 : Nat)), (Value.str (Str.ofString "/claim/cut.py") (354 : Nat))]) #[])) ::
  (nat_lit 137, (Obj.mk (Value.type "function") (none : Option Nat) (Data.func (FuncData.mk (Str.ofString "number") (Str.ofString "ByteReader.number") p11 (FuncBody.stmts b11) s11 (3 : Nat) ([] : List (Str × Nat)) Value.none Value.none Value.none (Value.str (Str.ofString "moduleyard.bytesio") (236 : Nat)) (none : Option Nat) (Value.ref (136 : Nat)) Value.none (0 : Nat))) #[])) ::
  (nat_lit 138, (Obj.mk (Value.type "tuple") (none : Option Nat) (Data.seq #[] (0 : Nat)) #[])) ::
  (nat_lit 140, (Obj.mk (Value.type "tuple") (none : Option Nat) (Data.seq #[(Value.str (Str.ofString "self") (359 : Nat)), (Value.str (Str.ofString "n") (360 : Nat))] (0 : Nat)) #[])) ::
  (nat_lit 141, (Obj.mk (Value.type "tuple") (none : Option Nat) (Data.seq #[] (0 : Nat)) #[])) ::
  (nat_lit 143, (Obj.mk (Value.type "code") (none : Option Nat) (Data.fields #[(Value.str (Str.ofString "count") (356 : Nat)), (Value.str (Str.ofString "ByteReader.count") (357 : Nat)), (Value.str (Str.ofString "/claim/cut.py") (358 : Nat)), (Value.int 71 (0 : Nat)), (Value.int 1 (0 : Nat)), (Value.int 0 (0 : Nat)), (Value.int 0 (0 : Nat)), (Value.int 3 (0 : Nat)), (Value.ref (138 : Nat)), (Value.bool Bool.true), (Value.int 181 (0 : Nat)), (Value.ref (139 : Nat)), Value.none, (Value.ref (140 : Nat)), (Value.ref (141 : Nat)), (Value.ref (142 : Nat)), (Value.int 361 (0 : Nat)), (Value.int 71 (0 : Nat)), (Value.str (Str.ofString "/claim/cut.py") (362 : Nat))]) #[])) ::
  (nat_lit 144, (Obj.mk (Value.type "function") (none : Option Nat) (Data.func (FuncData.mk (Str.ofString "count") (Str.ofString "ByteReader.count") p12 (FuncBody.stmts b12) s12 (3 : Nat) ([] : List (Str × Nat)) Value.none Value.none Value.none (Value.str (Str.ofString "moduleyard.bytesio") (236 : Nat)) (none : Option Nat) (Value.ref (143 : Nat)) Value.none (0 : Nat))) #[])) ::
  (nat_lit 145, (Obj.mk (Value.type "tuple") (none : Option Nat) (Data.seq #[] (0 : Nat)) #[])) ::
  (nat_lit 147, (Obj.mk (Value.type "tuple") (none : Option Nat) (Data.seq #[(Value.str (Str.ofString "self") (367 : Nat)), (Value.str (Str.ofString "letters") (368 : Nat)), (Value.str (Str.ofString "place") (369 : Nat)), (Value.str (Str.ofString "code") (370 : Nat))] (0 : Nat)) #[])) ::
  (nat_lit 148, (Obj.mk (Value.type "tuple") (none : Option Nat) (Data.seq #[] (0 : Nat)) #[])) ::
  (nat_lit 150, (Obj.mk (Value.type "code") (none : Option Nat) (Data.fields #[(Value.str (Str.ofString "text") (364 : Nat)), (Value.str (Str.ofString "ByteReader.text") (365 : Nat)), (Value.str (Str.ofString "/claim/cut.py") (366 : Nat)), (Value.int 77 (0 : Nat)), (Value.int 1 (0 : Nat)), (Value.int 0 (0 : Nat)), (Value.int 0 (0 : Nat)), (Value.int 3 (0 : Nat)), (Value.ref (145 : Nat)), (Value.bool Bool.true), (Value.int 181 (0 : Nat)), (Value.ref (146 : Nat)), Value.none, (Value.ref (147 : Nat)), (Value.ref (148 : Nat)), (Value.ref (149 : Nat)), (Value.int 371 (0 : Nat)), (Value.int 77 (0 : Nat)), (Value.str (Str.ofString "/claim/cut.py") (372 : Nat))]) #[])) ::
  (nat_lit 151, (Obj.mk (Value.type "function") (none : Option Nat) (Data.func (FuncData.mk (Str.ofString "text") (Str.ofString "ByteReader.text") p13 (FuncBody.stmts b13) s13 (3 : Nat) ([] : List (Str × Nat)) Value.none Value.none Value.none (Value.str (Str.ofString "moduleyard.bytesio") (236 : Nat)) (none : Option Nat) (Value.ref (150 : Nat)) Value.none (0 : Nat))) #[])) ::
  (nat_lit 152, (Obj.mk (Value.type "tuple") (none : Option Nat) (Data.seq #[] (0 : Nat)) #[])) ::
  (nat_lit 155, (Obj.mk (Value.type "code") (none : Option Nat) (Data.fields #[(Value.str (Str.ofString "numbers") (374 : Nat)), (Value.str (Str.ofString "ByteReader.numbers") (375 : Nat)), (Value.str (Str.ofString "/claim/cut.py") (376 : Nat)), (Value.int 86 (0 : Nat)), (Value.int 1 (0 : Nat)), (Value.int 0 (0 : Nat)), (Value.int 0 (0 : Nat)), (Value.int 3 (0 : Nat)), (Value.ref (152 : Nat)), (Value.bool Bool.true), (Value.int 181 (0 : Nat)), (Value.ref (153 : Nat)), Value.none, Value.none, Value.none, (Value.ref (154 : Nat)), (Value.int 377 (0 : Nat)), (Value.int 86 (0 : Nat)), (Value.str (Str.ofString "/claim/cut.py") (378 : Nat))]) #[])) ::
  (nat_lit 156, (Obj.mk (Value.type "function") (none : Option Nat) (Data.func (FuncData.mk (Str.ofString "numbers") (Str.ofString "ByteReader.numbers") p14 (FuncBody.stmts b14) s14 (3 : Nat) ([] : List (Str × Nat)) Value.none Value.none Value.none (Value.str (Str.ofString "moduleyard.bytesio") (236 : Nat)) (none : Option Nat) (Value.ref (155 : Nat)) Value.none (0 : Nat))) #[])) ::
  (nat_lit 157, (Obj.mk (Value.type "tuple") (none : Option Nat) (Data.seq #[(Value.str (Str.ofString "at") (380 : Nat)), (Value.str (Str.ofString "data") (381 : Nat))] (0 : Nat)) #[])) ::
  (nat_lit 158, (Obj.mk (Value.type "dict") (none : Option Nat) (Data.dict #[(DictEntry.mk (PyData.keyHash P (Str.ofString "__module__")) (Value.str (Str.ofString "__module__") (310 : Nat)) (Value.str (Str.ofString "moduleyard.bytesio") (236 : Nat))), (DictEntry.mk (PyData.keyHash P (Str.ofString "__firstlineno__")) (Value.str (Str.ofString "__firstlineno__") (314 : Nat)) (Value.int 35 (313 : Nat))), (DictEntry.mk (PyData.keyHash P (Str.ofString "__init__")) (Value.str (Str.ofString "__init__") (322 : Nat)) (Value.ref (109 : Nat))), (DictEntry.mk (PyData.keyHash P (Str.ofString "fail")) (Value.str (Str.ofString "fail") (330 : Nat)) (Value.ref (116 : Nat))), (DictEntry.mk (PyData.keyHash P (Str.ofString "done")) (Value.str (Str.ofString "done") (337 : Nat)) (Value.ref (123 : Nat))), (DictEntry.mk (PyData.keyHash P (Str.ofString "byte")) (Value.str (Str.ofString "byte") (345 : Nat)) (Value.ref (130 : Nat))), (DictEntry.mk (PyData.keyHash P (Str.ofString "number")) (Value.str (Str.ofString "number") (355 : Nat)) (Value.ref (137 : Nat))), (DictEntry.mk (PyData.keyHash P (Str.ofString "count")) (Value.str (Str.ofString "count") (363 : Nat)) (Value.ref (144 : Nat))), (DictEntry.mk (PyData.keyHash P (Str.ofString "text")) (Value.str (Str.ofString "text") (373 : Nat)) (Value.ref (151 : Nat))), (DictEntry.mk (PyData.keyHash P (Str.ofString "numbers")) (Value.str (Str.ofString "numbers") (379 : Nat)) (Value.ref (156 : Nat))), (DictEntry.mk (PyData.keyHash P (Str.ofString "__static_attributes__")) (Value.str (Str.ofString "__static_attributes__") (382 : Nat)) (Value.ref (157 : Nat))), (DictEntry.mk (PyData.keyHash P (Str.ofString "__dict__")) (Value.str (Str.ofString "__dict__") (384 : Nat)) (Value.ref (160 : Nat))), (DictEntry.mk (PyData.keyHash P (Str.ofString "__weakref__")) (Value.str (Str.ofString "__weakref__") (386 : Nat)) (Value.ref (161 : Nat))), (DictEntry.mk (PyData.keyHash P (Str.ofString "__doc__")) (Value.str (Str.ofString "__doc__") (387 : Nat)) Value.none)] (4 : Nat)) #[])) ::
  (nat_lit 159, (Obj.mk (Value.type "type") (none : Option Nat) (Data.cls (ClassData.mk (Str.ofString "ByteReader") [(Value.type "object")] [(Value.ref (159 : Nat)), (Value.type "object")] (158 : Nat) (Str.ofString "ByteReader") Bool.true [] [] Bool.false none Bool.false)) #[none, none, (some (Value.str (Str.ofString "ByteReader") (303 : Nat))), (some (Value.str (Str.ofString "ByteReader") (311 : Nat))), (some (Value.builtin "object.__new__")), (some (Value.bool Bool.true))])) ::
  (nat_lit 160, (Obj.mk (Value.type "getset_descriptor") (none : Option Nat) (Data.fields #[(Value.str (Str.ofString "__dict__") (383 : Nat)), (Value.ref (159 : Nat)), (Value.builtin "function.__dict__"), (Value.builtin "function.__dict__#set")]) #[])) ::
  (nat_lit 161, (Obj.mk (Value.type "getset_descriptor") (none : Option Nat) (Data.fields #[(Value.str (Str.ofString "__weakref__") (385 : Nat)), (Value.ref (159 : Nat)), (Value.builtin "ExceptionGroup.__weakref__"), Value.none]) #[])) ::
  (nat_lit 164, (Obj.mk (Value.type "tuple") (none : Option Nat) (Data.seq #[] (0 : Nat)) #[])) ::
  (nat_lit 166, (Obj.mk (Value.type "tuple") (none : Option Nat) (Data.seq #[(Value.str (Str.ofString "hand") (395 : Nat)), (Value.str (Str.ofString "limit") (396 : Nat)), (Value.str (Str.ofString "figure") (397 : Nat)), (Value.str (Str.ofString "digit") (398 : Nat))] (0 : Nat)) #[])) ::
  (nat_lit 167, (Obj.mk (Value.type "tuple") (none : Option Nat) (Data.seq #[] (0 : Nat)) #[])) ::
  (nat_lit 169, (Obj.mk (Value.type "code") (none : Option Nat) (Data.fields #[(Value.str (Str.ofString "_law_pick") (392 : Nat)), (Value.str (Str.ofString "_law_pick") (393 : Nat)), (Value.str (Str.ofString "/claim/cut.py") (394 : Nat)), (Value.int 89 (0 : Nat)), (Value.int 2 (0 : Nat)), (Value.int 0 (0 : Nat)), (Value.int 0 (0 : Nat)), (Value.int 3 (0 : Nat)), (Value.ref (164 : Nat)), (Value.bool Bool.true), (Value.int 181 (0 : Nat)), (Value.ref (165 : Nat)), Value.none, (Value.ref (166 : Nat)), (Value.ref (167 : Nat)), (Value.ref (168 : Nat)), (Value.int 399 (0 : Nat)), (Value.int 89 (0 : Nat)), (Value.str (Str.ofString "/claim/cut.py") (400 : Nat))]) #[])) ::
  (nat_lit 170, (Obj.mk (Value.type "function") (none : Option Nat) (Data.func (FuncData.mk (Str.ofString "_law_pick") (Str.ofString "_law_pick") p15 (FuncBody.stmts b15) s15 (3 : Nat) ([] : List (Str × Nat)) Value.none Value.none Value.none (Value.str (Str.ofString "law_nu0313_01") (390 : Nat)) (none : Option Nat) (Value.ref (169 : Nat)) Value.none (0 : Nat))) #[])) ::
  (nat_lit 171, (Obj.mk (Value.type "tuple") (none : Option Nat) (Data.seq #[] (0 : Nat)) #[])) ::
  (nat_lit 173, (Obj.mk (Value.type "tuple") (none : Option Nat) (Data.seq #[(Value.str (Str.ofString "value") (405 : Nat)), (Value.str (Str.ofString "rest") (406 : Nat)), (Value.str (Str.ofString "found") (407 : Nat))] (0 : Nat)) #[])) ::
  (nat_lit 174, (Obj.mk (Value.type "tuple") (none : Option Nat) (Data.seq #[] (0 : Nat)) #[])) ::
  (nat_lit 176, (Obj.mk (Value.type "code") (none : Option Nat) (Data.fields #[(Value.str (Str.ofString "_law_groups") (402 : Nat)), (Value.str (Str.ofString "_law_groups") (403 : Nat)), (Value.str (Str.ofString "/claim/cut.py") (404 : Nat)), (Value.int 100 (0 : Nat)), (Value.int 1 (0 : Nat)), (Value.int 0 (0 : Nat)), (Value.int 0 (0 : Nat)), (Value.int 3 (0 : Nat)), (Value.ref (171 : Nat)), (Value.bool Bool.true), (Value.int 181 (0 : Nat)), (Value.ref (172 : Nat)), Value.none, (Value.ref (173 : Nat)), (Value.ref (174 : Nat)), (Value.ref (175 : Nat)), (Value.int 408 (0 : Nat)), (Value.int 100 (0 : Nat)), (Value.str (Str.ofString "/claim/cut.py") (409 : Nat))]) #[])) ::
  (nat_lit 177, (Obj.mk (Value.type "function") (none : Option Nat) (Data.func (FuncData.mk (Str.ofString "_law_groups") (Str.ofString "_law_groups") p16 (FuncBody.stmts b16) s16 (3 : Nat) ([] : List (Str × Nat)) Value.none Value.none Value.none (Value.str (Str.ofString "law_nu0313_01") (390 : Nat)) (none : Option Nat) (Value.ref (176 : Nat)) Value.none (0 : Nat))) #[])) ::
  (nat_lit 178, (Obj.mk (Value.type "tuple") (none : Option Nat) (Data.seq #[] (0 : Nat)) #[])) ::
  (nat_lit 180, (Obj.mk (Value.type "tuple") (none : Option Nat) (Data.seq #[(Value.str (Str.ofString "hand") (414 : Nat)), (Value.str (Str.ofString "form") (415 : Nat)), (Value.str (Str.ofString "value") (416 : Nat))] (0 : Nat)) #[])) ::
  (nat_lit 181, (Obj.mk (Value.type "tuple") (none : Option Nat) (Data.seq #[] (0 : Nat)) #[])) ::
  (nat_lit 183, (Obj.mk (Value.type "code") (none : Option Nat) (Data.fields #[(Value.str (Str.ofString "_law_figure") (411 : Nat)), (Value.str (Str.ofString "_law_figure") (412 : Nat)), (Value.str (Str.ofString "/claim/cut.py") (413 : Nat)), (Value.int 107 (0 : Nat)), (Value.int 1 (0 : Nat)), (Value.int 0 (0 : Nat)), (Value.int 0 (0 : Nat)), (Value.int 3 (0 : Nat)), (Value.ref (178 : Nat)), (Value.bool Bool.true), (Value.int 181 (0 : Nat)), (Value.ref (179 : Nat)), Value.none, (Value.ref (180 : Nat)), (Value.ref (181 : Nat)), (Value.ref (182 : Nat)), (Value.int 417 (0 : Nat)), (Value.int 107 (0 : Nat)), (Value.str (Str.ofString "/claim/cut.py") (418 : Nat))]) #[])) ::
  (nat_lit 184, (Obj.mk (Value.type "function") (none : Option Nat) (Data.func (FuncData.mk (Str.ofString "_law_figure") (Str.ofString "_law_figure") p17 (FuncBody.stmts b17) s17 (3 : Nat) ([] : List (Str × Nat)) Value.none Value.none Value.none (Value.str (Str.ofString "law_nu0313_01") (390 : Nat)) (none : Option Nat) (Value.ref (183 : Nat)) Value.none (0 : Nat))) #[])) ::
  (nat_lit 185, (Obj.mk (Value.type "tuple") (none : Option Nat) (Data.seq #[] (0 : Nat)) #[])) ::
  (nat_lit 188, (Obj.mk (Value.type "code") (none : Option Nat) (Data.fields #[(Value.str (Str.ofString "_law_word") (420 : Nat)), (Value.str (Str.ofString "_law_word") (421 : Nat)), (Value.str (Str.ofString "/claim/cut.py") (422 : Nat)), (Value.int 111 (0 : Nat)), (Value.int 1 (0 : Nat)), (Value.int 0 (0 : Nat)), (Value.int 0 (0 : Nat)), (Value.int 3 (0 : Nat)), (Value.ref (185 : Nat)), (Value.bool Bool.true), (Value.int 181 (0 : Nat)), (Value.ref (186 : Nat)), Value.none, Value.none, Value.none, (Value.ref (187 : Nat)), (Value.int 423 (0 : Nat)), (Value.int 111 (0 : Nat)), (Value.str (Str.ofString "/claim/cut.py") (424 : Nat))]) #[])) ::
  (nat_lit 189, (Obj.mk (Value.type "function") (none : Option Nat) (Data.func (FuncData.mk (Str.ofString "_law_word") (Str.ofString "_law_word") p18 (FuncBody.stmts b18) s18 (3 : Nat) ([] : List (Str × Nat)) Value.none Value.none Value.none (Value.str (Str.ofString "law_nu0313_01") (390 : Nat)) (none : Option Nat) (Value.ref (188 : Nat)) Value.none (0 : Nat))) #[])) ::
  (nat_lit 190, (Obj.mk (Value.type "tuple") (none : Option Nat) (Data.seq #[] (0 : Nat)) #[])) ::
  (nat_lit 192, (Obj.mk (Value.type "tuple") (none : Option Nat) (Data.seq #[(Value.str (Str.ofString "data") (429 : Nat)), (Value.str (Str.ofString "kinds") (430 : Nat)), (Value.str (Str.ofString "reader") (431 : Nat)), (Value.str (Str.ofString "found") (432 : Nat)), (Value.str (Str.ofString "kind") (433 : Nat)), (Value.str (Str.ofString "error") (434 : Nat))] (0 : Nat)) #[])) ::
  (nat_lit 193, (Obj.mk (Value.type "tuple") (none : Option Nat) (Data.seq #[] (0 : Nat)) #[])) ::
  (nat_lit 195, (Obj.mk (Value.type "code") (none : Option Nat) (Data.fields #[(Value.str (Str.ofString "_law_read") (426 : Nat)), (Value.str (Str.ofString "_law_read") (427 : Nat)), (Value.str (Str.ofString "/claim/cut.py") (428 : Nat)), (Value.int 113 (0 : Nat)), (Value.int 2 (0 : Nat)), (Value.int 0 (0 : Nat)), (Value.int 0 (0 : Nat)), (Value.int 3 (0 : Nat)), (Value.ref (190 : Nat)), (Value.bool Bool.true), (Value.int 181 (0 : Nat)), (Value.ref (191 : Nat)), Value.none, (Value.ref (192 : Nat)), (Value.ref (193 : Nat)), (Value.ref (194 : Nat)), (Value.int 435 (0 : Nat)), (Value.int 113 (0 : Nat)), (Value.str (Str.ofString "/claim/cut.py") (436 : Nat))]) #[])) ::
  (nat_lit 196, (Obj.mk (Value.type "function") (none : Option Nat) (Data.func (FuncData.mk (Str.ofString "_law_read") (Str.ofString "_law_read") p19 (FuncBody.stmts b19) s19 (3 : Nat) ([] : List (Str × Nat)) Value.none Value.none Value.none (Value.str (Str.ofString "law_nu0313_01") (390 : Nat)) (none : Option Nat) (Value.ref (195 : Nat)) Value.none (0 : Nat))) #[])) ::
  (nat_lit 197, (Obj.mk (Value.type "tuple") (none : Option Nat) (Data.seq #[] (0 : Nat)) #[])) ::
  (nat_lit 200, (Obj.mk (Value.type "code") (none : Option Nat) (Data.fields #[(Value.str (Str.ofString "law") (438 : Nat)), (Value.str (Str.ofString "law") (439 : Nat)), (Value.str (Str.ofString "/claim/cut.py") (440 : Nat)), (Value.int 122 (0 : Nat)), (Value.int 1 (0 : Nat)), (Value.int 0 (0 : Nat)), (Value.int 0 (0 : Nat)), (Value.int 3 (0 : Nat)), (Value.ref (197 : Nat)), (Value.bool Bool.true), (Value.int 181 (0 : Nat)), (Value.ref (198 : Nat)), Value.none, Value.none, Value.none, (Value.ref (199 : Nat)), (Value.int 441 (0 : Nat)), (Value.int 122 (0 : Nat)), (Value.str (Str.ofString "/claim/cut.py") (442 : Nat))]) #[])) ::
  (nat_lit 201, (Obj.mk (Value.type "function") (none : Option Nat) (Data.func (FuncData.mk (Str.ofString "law") (Str.ofString "law") p20 (FuncBody.stmts b20) s20 (3 : Nat) ([] : List (Str × Nat)) Value.none Value.none Value.none (Value.str (Str.ofString "law_nu0313_01") (390 : Nat)) (none : Option Nat) (Value.ref (200 : Nat)) Value.none (0 : Nat))) #[])) :: []
noncomputable def hd.o_43 : Params → Obj := fun P => (Obj.mk (Value.type "tuple") (none : Option Nat) (Data.seq #[] (0 : Nat)) #[])
noncomputable def hd.o_44 : Params → Obj := fun P => (Obj.mk Value.none (none : Option Nat) (Data.fields #[]) #[])
noncomputable def hd.o_45 : Params → Obj := fun P => (Obj.mk (Value.type "code") (none : Option Nat) (Data.fields #[(Value.str (Str.ofString "<module>") (182 : Nat)), (Value.str (Str.ofString "<module>") (183 : Nat)), (Value.str (Str.ofString "/claim/cut.py") (184 : Nat)), (Value.int 1 (0 : Nat)), (Value.int 0 (0 : Nat)), (Value.int 0 (0 : Nat)), (Value.int 0 (0 : Nat)), (Value.int 0 (0 : Nat)), (Value.ref (11 : Nat)), (Value.bool Bool.false), (Value.int 181 (0 : Nat)), (Value.ref (12 : Nat)), Value.none, Value.none, Value.none, Value.none, (Value.int 185 (0 : Nat)), (Value.int 1 (0 : Nat)), (Value.str (Str.ofString "/claim/cut.py") (186 : Nat))]) #[])
noncomputable def hd.o_46 : Params → Obj := fun P => (Obj.mk (Value.type "frame") (none : Option Nat) Data.plain #[(some (Value.ref (13 : Nat))), (some (Value.ref (3 : Nat))), (some (Value.ref (3 : Nat))), none, (some (Value.str (Str.ofString "__main__") (164 : Nat))), none, (some (Value.ref (0 : Nat)))])
noncomputable def hd.heap_46 : Params → Heap := fun P => (Heap.mk (Array.mk [(W.boot_o_0 P), (W.boot_o_1 P), (W.boot_o_2 P), (W.boot_o_3 P), (W.boot_o_4 P), (W.boot_o_5 P), (W.boot_o_6 P), (W.boot_o_7 P), (W.boot_o_8 P), (W.boot_o_9 P), (W.boot_o_10 P), (hd.o_43 P), (hd.o_44 P), (hd.o_45 P), (hd.o_46 P)]) ({} : Life))
noncomputable def hd.tree_47 : Params → W.BT := fun P => (W.BT.node (W.boot_o_0 P) (W.BT.node (W.boot_o_1 P) (W.BT.node (W.boot_o_3 P) (W.BT.node (W.boot_o_7 P) W.BT.nil W.BT.nil) (W.BT.node (hd.o_43 P) W.BT.nil W.BT.nil)) (W.BT.node (W.boot_o_5 P) (W.BT.node (W.boot_o_9 P) W.BT.nil W.BT.nil) (W.BT.node (hd.o_45 P) W.BT.nil W.BT.nil))) (W.BT.node (W.boot_o_2 P) (W.BT.node (W.boot_o_4 P) (W.BT.node (W.boot_o_8 P) W.BT.nil W.BT.nil) (W.BT.node (hd.o_44 P) W.BT.nil W.BT.nil)) (W.BT.node (W.boot_o_6 P) (W.BT.node (W.boot_o_10 P) W.BT.nil W.BT.nil) (W.BT.node (hd.o_46 P) W.BT.nil W.BT.nil))))
noncomputable def hd.o_49 : Params → Obj := fun P => (Obj.mk Value.none (none : Option Nat) (Data.dict #[(DictEntry.mk (PyData.keyHash P (Str.ofString "type.__subclasses__.Exception.0")) (Value.str (Str.ofString "type.__subclasses__.Exception.0") (205 : Nat)) (Value.int 24 (0 : Nat))), (DictEntry.mk (PyData.keyHash P (Str.ofString "type.__subclasses__.Exception.n")) (Value.str (Str.ofString "type.__subclasses__.Exception.n") (206 : Nat)) (Value.int 1 (0 : Nat)))] (2 : Nat)) #[])
noncomputable def hd.o_50 : Params → Obj := by
  refine (?F : ∀ (ld : String) (_ : ∀ P, ldOf (W.boot_o_3 P) = some ld), Params → Obj) _ (fun _ => rfl)
  exact fun ld _ P => (Obj.mk (Value.type "dict") (none : Option Nat) (Data.dict #[(DictEntry.mk (PyData.keyHash P (Str.ofString "__name__")) (Value.str (Str.ofString "__name__") (165 : Nat)) (Value.str (Str.ofString "moduleyard.errors") (187 : Nat))), (DictEntry.mk (PyData.keyHash P (Str.ofString "__doc__")) (Value.str (Str.ofString "__doc__") (166 : Nat)) Value.none), (DictEntry.mk (PyData.keyHash P (Str.ofString "__package__")) (Value.str (Str.ofString "__package__") (167 : Nat)) Value.none), (DictEntry.mk (PyData.keyHash P (Str.ofString "__loader__")) (Value.str (Str.ofString "__loader__") (168 : Nat)) (Value.builtin ld)), (DictEntry.mk (PyData.keyHash P (Str.ofString "__spec__")) (Value.str (Str.ofString "__spec__") (169 : Nat)) Value.none), (DictEntry.mk (PyData.keyHash P (Str.ofString "__annotations__")) (Value.str (Str.ofString "__annotations__") (170 : Nat)) (Value.ref (6 : Nat))), (DictEntry.mk (PyData.keyHash P (Str.ofString "__builtins__")) (Value.str (Str.ofString "__builtins__") (171 : Nat)) (Value.ref (4 : Nat))), (DictEntry.mk (PyData.keyHash P (Str.ofString "__file__")) (Value.str (Str.ofString "__file__") (173 : Nat)) (Value.str (Str.ofString "/claim/cut.py") (172 : Nat))), (DictEntry.mk (PyData.keyHash P (Str.ofString "__cached__")) (Value.str (Str.ofString "__cached__") (174 : Nat)) Value.none), (DictEntry.mk (PyData.keyHash P (Str.ofString "YardError")) (Value.str (Str.ofString "YardError") (208 : Nat)) (Value.ref (24 : Nat)))] (10 : Nat)) #[])
noncomputable def hd.o_51 : Params → Obj := fun P => (Obj.mk Value.none (none : Option Nat) (Data.fields #[(Value.int 2 (0 : Nat)), (Value.int 0 (0 : Nat)), (Value.ref (20 : Nat))]) #[])
noncomputable def hd.o_52 : Params → Obj := fun P => (Obj.mk (Value.type "tuple") (none : Option Nat) (Data.seq #[(Value.type "Exception")] (0 : Nat)) #[])
noncomputable def hd.o_53 : Params → Obj := fun P => (Obj.mk (Value.type "builtin_function_or_method") (none : Option Nat) (Data.fields #[(Value.builtin "type.__prepare__"), (Value.type "type")]) #[])
noncomputable def hd.o_54 : Params → Obj := fun P => (Obj.mk (Value.type "dict") (none : Option Nat) (Data.dict #[(DictEntry.mk (PyData.keyHash P (Str.ofString "__module__")) (Value.str (Str.ofString "__module__") (196 : Nat)) (Value.str (Str.ofString "moduleyard.errors") (187 : Nat))), (DictEntry.mk (PyData.keyHash P (Str.ofString "__qualname__")) (Value.str (Str.ofString "__qualname__") (198 : Nat)) (Value.str (Str.ofString "YardError") (197 : Nat))), (DictEntry.mk (PyData.keyHash P (Str.ofString "__firstlineno__")) (Value.str (Str.ofString "__firstlineno__") (200 : Nat)) (Value.int 2 (199 : Nat))), (DictEntry.mk (PyData.keyHash P (Str.ofString "__static_attributes__")) (Value.str (Str.ofString "__static_attributes__") (201 : Nat)) (Value.ref (22 : Nat)))] (4 : Nat)) #[])
noncomputable def hd.o_55 : Params → Obj := fun P => (Obj.mk (Value.type "tuple") (none : Option Nat) (Data.seq #[] (0 : Nat)) #[])
noncomputable def hd.o_56 : Params → Obj := fun P => (Obj.mk Value.none (none : Option Nat) (Data.fields #[]) #[])
noncomputable def hd.o_57 : Params → Obj := fun P => (Obj.mk (Value.type "code") (none : Option Nat) (Data.fields #[(Value.str (Str.ofString "YardError") (191 : Nat)), (Value.str (Str.ofString "YardError") (192 : Nat)), (Value.str (Str.ofString "/claim/cut.py") (193 : Nat)), (Value.int 2 (0 : Nat)), (Value.int 0 (0 : Nat)), (Value.int 0 (0 : Nat)), (Value.int 0 (0 : Nat)), (Value.int 0 (0 : Nat)), (Value.ref (18 : Nat)), (Value.bool Bool.false), (Value.int 181 (0 : Nat)), (Value.ref (19 : Nat)), Value.none, Value.none, Value.none, Value.none, (Value.int 194 (0 : Nat)), (Value.int 2 (0 : Nat)), (Value.str (Str.ofString "/claim/cut.py") (195 : Nat))]) #[])
noncomputable def hd.o_58 : Params → Obj := fun P => (Obj.mk (Value.type "frame") (none : Option Nat) Data.plain #[(some (Value.ref (20 : Nat))), (some (Value.ref (3 : Nat))), (some (Value.ref (17 : Nat))), none, (some (Value.str (Str.ofString "moduleyard.errors") (187 : Nat))), none, (some (Value.ref (0 : Nat)))])
noncomputable def hd.o_59 : Params → Obj := fun P => (Obj.mk (Value.type "tuple") (none : Option Nat) (Data.seq #[] (0 : Nat)) #[])
noncomputable def hd.o_60 : Params → Obj := fun P => (Obj.mk (Value.type "dict") (none : Option Nat) (Data.dict #[(DictEntry.mk (PyData.keyHash P (Str.ofString "__module__")) (Value.str (Str.ofString "__module__") (196 : Nat)) (Value.str (Str.ofString "moduleyard.errors") (187 : Nat))), (DictEntry.mk (PyData.keyHash P (Str.ofString "__firstlineno__")) (Value.str (Str.ofString "__firstlineno__") (200 : Nat)) (Value.int 2 (199 : Nat))), (DictEntry.mk (PyData.keyHash P (Str.ofString "__static_attributes__")) (Value.str (Str.ofString "__static_attributes__") (201 : Nat)) (Value.ref (22 : Nat))), (DictEntry.mk (PyData.keyHash P (Str.ofString "__weakref__")) (Value.str (Str.ofString "__weakref__") (203 : Nat)) (Value.ref (25 : Nat))), (DictEntry.mk (PyData.keyHash P (Str.ofString "__doc__")) (Value.str (Str.ofString "__doc__") (204 : Nat)) Value.none)] (3 : Nat)) #[])
noncomputable def hd.o_61 : Params → Obj := fun P => (Obj.mk (Value.type "type") (none : Option Nat) (Data.cls (ClassData.mk (Str.ofString "YardError") [(Value.type "Exception")] [(Value.ref (24 : Nat)), (Value.type "Exception"), (Value.type "BaseException"), (Value.type "object")] (23 : Nat) (Str.ofString "YardError") Bool.true [] [] Bool.false none Bool.false)) #[(some (Value.ref (15 : Nat))), none, (some (Value.str (Str.ofString "YardError") (189 : Nat))), (some (Value.str (Str.ofString "YardError") (197 : Nat))), (some (Value.builtin "Exception.__new__")), (some (Value.bool Bool.true))])
noncomputable def hd.o_62 : Params → Obj := fun P => (Obj.mk (Value.type "getset_descriptor") (none : Option Nat) (Data.fields #[(Value.str (Str.ofString "__weakref__") (202 : Nat)), (Value.ref (24 : Nat)), (Value.builtin "ExceptionGroup.__weakref__"), Value.none]) #[])
noncomputable def hd.o_63 : Params → Obj := fun P => (Obj.mk (Value.type "super") (none : Option Nat) (Data.fields #[(Value.ref (24 : Nat)), (Value.ref (24 : Nat)), (Value.ref (24 : Nat))]) #[])
noncomputable def hd.o_64 : Params → Obj := fun P => (Obj.mk (Value.type "builtin_function_or_method") (none : Option Nat) (Data.fields #[(Value.builtin "object.__init_subclass__"), (Value.ref (24 : Nat))]) #[])
noncomputable def hd.tree_64 : Params → W.BT := fun P => (W.BT.node (W.boot_o_0 P) (W.BT.node (W.boot_o_1 P) (W.BT.node (hd.o_50 P) (W.BT.node (W.boot_o_7 P) (W.BT.node (hd.o_52 P) W.BT.nil W.BT.nil) (W.BT.node (hd.o_60 P) W.BT.nil W.BT.nil)) (W.BT.node (hd.o_43 P) (W.BT.node (hd.o_56 P) W.BT.nil W.BT.nil) (W.BT.node (hd.o_64 P) W.BT.nil W.BT.nil))) (W.BT.node (W.boot_o_5 P) (W.BT.node (W.boot_o_9 P) (W.BT.node (hd.o_54 P) W.BT.nil W.BT.nil) (W.BT.node (hd.o_62 P) W.BT.nil W.BT.nil)) (W.BT.node (hd.o_45 P) (W.BT.node (hd.o_58 P) W.BT.nil W.BT.nil) W.BT.nil))) (W.BT.node (hd.o_49 P) (W.BT.node (W.boot_o_4 P) (W.BT.node (W.boot_o_8 P) (W.BT.node (hd.o_53 P) W.BT.nil W.BT.nil) (W.BT.node (hd.o_61 P) W.BT.nil W.BT.nil)) (W.BT.node (hd.o_51 P) (W.BT.node (hd.o_57 P) W.BT.nil W.BT.nil) W.BT.nil)) (W.BT.node (W.boot_o_6 P) (W.BT.node (W.boot_o_10 P) (W.BT.node (hd.o_55 P) W.BT.nil W.BT.nil) (W.BT.node (hd.o_63 P) W.BT.nil W.BT.nil)) (W.BT.node (hd.o_46 P) (W.BT.node (hd.o_59 P) W.BT.nil W.BT.nil) W.BT.nil))))
noncomputable def hd.o_65 : Params → Obj := by
  refine (?F : ∀ (ld : String) (_ : ∀ P, ldOf (W.boot_o_3 P) = some ld), Params → Obj) _ (fun _ => rfl)
  exact fun ld _ P => (Obj.mk (Value.type "dict") (none : Option Nat) (Data.dict #[(DictEntry.mk (PyData.keyHash P (Str.ofString "__name__")) (Value.str (Str.ofString "__name__") (165 : Nat)) (Value.str (Str.ofString "moduleyard.bytesio") (236 : Nat))), (DictEntry.mk (PyData.keyHash P (Str.ofString "__doc__")) (Value.str (Str.ofString "__doc__") (166 : Nat)) Value.none), (DictEntry.mk (PyData.keyHash P (Str.ofString "__package__")) (Value.str (Str.ofString "__package__") (167 : Nat)) Value.none), (DictEntry.mk (PyData.keyHash P (Str.ofString "__loader__")) (Value.str (Str.ofString "__loader__") (168 : Nat)) (Value.builtin ld)), (DictEntry.mk (PyData.keyHash P (Str.ofString "__spec__")) (Value.str (Str.ofString "__spec__") (169 : Nat)) Value.none), (DictEntry.mk (PyData.keyHash P (Str.ofString "__annotations__")) (Value.str (Str.ofString "__annotations__") (170 : Nat)) (Value.ref (6 : Nat))), (DictEntry.mk (PyData.keyHash P (Str.ofString "__builtins__")) (Value.str (Str.ofString "__builtins__") (171 : Nat)) (Value.ref (4 : Nat))), (DictEntry.mk (PyData.keyHash P (Str.ofString "__file__")) (Value.str (Str.ofString "__file__") (173 : Nat)) (Value.str (Str.ofString "/claim/cut.py") (172 : Nat))), (DictEntry.mk (PyData.keyHash P (Str.ofString "__cached__")) (Value.str (Str.ofString "__cached__") (174 : Nat)) Value.none), (DictEntry.mk (PyData.keyHash P (Str.ofString "YardError")) (Value.str (Str.ofString "YardError") (208 : Nat)) (Value.ref (24 : Nat))), (DictEntry.mk (PyData.keyHash P (Str.ofString "FormatError")) (Value.str (Str.ofString "FormatError") (235 : Nat)) (Value.ref (44 : Nat))), (DictEntry.mk (PyData.keyHash P (Str.ofString "MOST_CODE")) (Value.str (Str.ofString "MOST_CODE") (239 : Nat)) (Value.int 1114111 (238 : Nat)))] (12 : Nat)) #[])
noncomputable def hd.o_66 : Params → Obj := fun P => (Obj.mk Value.none (none : Option Nat) (Data.fields #[(Value.int 2 (0 : Nat)), (Value.int 0 (0 : Nat)), (Value.ref (20 : Nat)), (Value.int 4 (0 : Nat)), (Value.int 0 (0 : Nat)), (Value.ref (33 : Nat))]) #[])
noncomputable def hd.o_67 : Params → Obj := fun P => (Obj.mk (Value.type "type") (none : Option Nat) (Data.cls (ClassData.mk (Str.ofString "YardError") [(Value.type "Exception")] [(Value.ref (24 : Nat)), (Value.type "Exception"), (Value.type "BaseException"), (Value.type "object")] (23 : Nat) (Str.ofString "YardError") Bool.true [] [(Value.ref (44 : Nat))] Bool.false none Bool.false)) #[(some (Value.ref (15 : Nat))), none, (some (Value.str (Str.ofString "YardError") (189 : Nat))), (some (Value.str (Str.ofString "YardError") (197 : Nat))), (some (Value.builtin "Exception.__new__")), (some (Value.bool Bool.true))])
noncomputable def hd.o_68 : Params → Obj := fun P => (Obj.mk (Value.type "tuple") (none : Option Nat) (Data.seq #[(Value.ref (24 : Nat))] (0 : Nat)) #[])
noncomputable def hd.o_69 : Params → Obj := fun P => (Obj.mk (Value.type "builtin_function_or_method") (none : Option Nat) (Data.fields #[(Value.builtin "type.__prepare__"), (Value.type "type")]) #[])
noncomputable def hd.o_70 : Params → Obj := fun P => (Obj.mk (Value.type "dict") (none : Option Nat) (Data.dict #[(DictEntry.mk (PyData.keyHash P (Str.ofString "__module__")) (Value.str (Str.ofString "__module__") (216 : Nat)) (Value.str (Str.ofString "moduleyard.errors") (187 : Nat))), (DictEntry.mk (PyData.keyHash P (Str.ofString "__qualname__")) (Value.str (Str.ofString "__qualname__") (218 : Nat)) (Value.str (Str.ofString "FormatError") (217 : Nat))), (DictEntry.mk (PyData.keyHash P (Str.ofString "__firstlineno__")) (Value.str (Str.ofString "__firstlineno__") (220 : Nat)) (Value.int 4 (219 : Nat))), (DictEntry.mk (PyData.keyHash P (Str.ofString "__init__")) (Value.str (Str.ofString "__init__") (229 : Nat)) (Value.ref (41 : Nat))), (DictEntry.mk (PyData.keyHash P (Str.ofString "__static_attributes__")) (Value.str (Str.ofString "__static_attributes__") (232 : Nat)) (Value.ref (42 : Nat)))] (5 : Nat)) #[])
noncomputable def hd.o_71 : Params → Obj := fun P => (Obj.mk (Value.type "tuple") (none : Option Nat) (Data.seq #[] (0 : Nat)) #[])
noncomputable def hd.o_72 : Params → Obj := fun P => (Obj.mk Value.none (none : Option Nat) (Data.fields #[(Value.int 6 (0 : Nat)), (Value.int 4 (0 : Nat)), (Value.ref (40 : Nat))]) #[])
noncomputable def hd.o_73 : Params → Obj := fun P => (Obj.mk (Value.type "code") (none : Option Nat) (Data.fields #[(Value.str (Str.ofString "FormatError") (211 : Nat)), (Value.str (Str.ofString "FormatError") (212 : Nat)), (Value.str (Str.ofString "/claim/cut.py") (213 : Nat)), (Value.int 4 (0 : Nat)), (Value.int 0 (0 : Nat)), (Value.int 0 (0 : Nat)), (Value.int 0 (0 : Nat)), (Value.int 0 (0 : Nat)), (Value.ref (31 : Nat)), (Value.bool Bool.false), (Value.int 181 (0 : Nat)), (Value.ref (32 : Nat)), Value.none, Value.none, Value.none, Value.none, (Value.int 214 (0 : Nat)), (Value.int 4 (0 : Nat)), (Value.str (Str.ofString "/claim/cut.py") (215 : Nat))]) #[])
noncomputable def hd.o_74 : Params → Obj := fun P => (Obj.mk (Value.type "frame") (none : Option Nat) Data.plain #[(some (Value.ref (33 : Nat))), (some (Value.ref (3 : Nat))), (some (Value.ref (30 : Nat))), none, (some (Value.str (Str.ofString "moduleyard.errors") (187 : Nat))), none, (some (Value.ref (0 : Nat)))])
noncomputable def hd.o_75 : Params → Obj := fun P => (Obj.mk (Value.type "tuple") (none : Option Nat) (Data.seq #[] (0 : Nat)) #[])
noncomputable def hd.o_76 : Params → Obj := fun P => (Obj.mk Value.none (none : Option Nat) (Data.fields #[]) #[])
noncomputable def hd.o_77 : Params → Obj := fun P => (Obj.mk (Value.type "tuple") (none : Option Nat) (Data.seq #[(Value.str (Str.ofString "self") (224 : Nat)), (Value.str (Str.ofString "what") (225 : Nat)), (Value.str (Str.ofString "at") (226 : Nat))] (0 : Nat)) #[])
noncomputable def hd.o_78 : Params → Obj := fun P => (Obj.mk (Value.type "tuple") (none : Option Nat) (Data.seq #[] (0 : Nat)) #[])
noncomputable def hd.o_79 : Params → Obj := by
  refine (?F : ∀ (p : Arguments) (b : List Stmt) (s : Scope) (_ : fnIn (inCls (stm 2) 0) = some (p, b, s)), Params → Obj) _ _ _ rfl
  exact fun p b s _ P => (Obj.mk Value.none (none : Option Nat) (Data.func (FuncData.mk (Str.ofString "__init__") (Str.ofString "FormatError.__init__") p (FuncBody.stmts b) s (0 : Nat) ([] : List (Str × Nat)) Value.none Value.none Value.none Value.none (none : Option Nat) Value.none Value.none (0 : Nat))) #[])
noncomputable def hd.o_80 : Params → Obj := fun P => (Obj.mk (Value.type "code") (none : Option Nat) (Data.fields #[(Value.str (Str.ofString "__init__") (221 : Nat)), (Value.str (Str.ofString "FormatError.__init__") (222 : Nat)), (Value.str (Str.ofString "/claim/cut.py") (223 : Nat)), (Value.int 6 (0 : Nat)), (Value.int 3 (0 : Nat)), (Value.int 0 (0 : Nat)), (Value.int 0 (0 : Nat)), (Value.int 3 (0 : Nat)), (Value.ref (35 : Nat)), (Value.bool Bool.true), (Value.int 181 (0 : Nat)), (Value.ref (36 : Nat)), Value.none, (Value.ref (37 : Nat)), (Value.ref (38 : Nat)), (Value.ref (39 : Nat)), (Value.int 227 (0 : Nat)), (Value.int 6 (0 : Nat)), (Value.str (Str.ofString "/claim/cut.py") (228 : Nat))]) #[])
noncomputable def hd.o_81 : Params → Obj := by
  refine (?F : ∀ (p : Arguments) (b : List Stmt) (s : Scope) (_ : fnIn (inCls (stm 2) 0) = some (p, b, s)), Params → Obj) _ _ _ rfl
  exact fun p b s _ P => (Obj.mk (Value.type "function") (none : Option Nat) (Data.func (FuncData.mk (Str.ofString "__init__") (Str.ofString "FormatError.__init__") p (FuncBody.stmts b) s (3 : Nat) ([] : List (Str × Nat)) Value.none Value.none Value.none (Value.str (Str.ofString "moduleyard.errors") (187 : Nat)) (none : Option Nat) (Value.ref (40 : Nat)) Value.none (0 : Nat))) #[])
noncomputable def hd.o_82 : Params → Obj := fun P => (Obj.mk (Value.type "tuple") (none : Option Nat) (Data.seq #[(Value.str (Str.ofString "at") (230 : Nat)), (Value.str (Str.ofString "what") (231 : Nat))] (0 : Nat)) #[])
noncomputable def hd.o_83 : Params → Obj := fun P => (Obj.mk (Value.type "dict") (none : Option Nat) (Data.dict #[(DictEntry.mk (PyData.keyHash P (Str.ofString "__module__")) (Value.str (Str.ofString "__module__") (216 : Nat)) (Value.str (Str.ofString "moduleyard.errors") (187 : Nat))), (DictEntry.mk (PyData.keyHash P (Str.ofString "__firstlineno__")) (Value.str (Str.ofString "__firstlineno__") (220 : Nat)) (Value.int 4 (219 : Nat))), (DictEntry.mk (PyData.keyHash P (Str.ofString "__init__")) (Value.str (Str.ofString "__init__") (229 : Nat)) (Value.ref (41 : Nat))), (DictEntry.mk (PyData.keyHash P (Str.ofString "__static_attributes__")) (Value.str (Str.ofString "__static_attributes__") (232 : Nat)) (Value.ref (42 : Nat))), (DictEntry.mk (PyData.keyHash P (Str.ofString "__doc__")) (Value.str (Str.ofString "__doc__") (233 : Nat)) Value.none)] (2 : Nat)) #[])
noncomputable def hd.o_84 : Params → Obj := fun P => (Obj.mk (Value.type "type") (none : Option Nat) (Data.cls (ClassData.mk (Str.ofString "FormatError") [(Value.ref (24 : Nat))] [(Value.ref (44 : Nat)), (Value.ref (24 : Nat)), (Value.type "Exception"), (Value.type "BaseException"), (Value.type "object")] (43 : Nat) (Str.ofString "FormatError") Bool.true [] [] Bool.false none Bool.false)) #[(some (Value.ref (28 : Nat))), none, (some (Value.str (Str.ofString "FormatError") (209 : Nat))), (some (Value.str (Str.ofString "FormatError") (217 : Nat))), (some (Value.builtin "Exception.__new__")), (some (Value.bool Bool.true))])
noncomputable def hd.o_85 : Params → Obj := fun P => (Obj.mk (Value.type "super") (none : Option Nat) (Data.fields #[(Value.ref (44 : Nat)), (Value.ref (44 : Nat)), (Value.ref (44 : Nat))]) #[])
noncomputable def hd.o_86 : Params → Obj := fun P => (Obj.mk (Value.type "builtin_function_or_method") (none : Option Nat) (Data.fields #[(Value.builtin "object.__init_subclass__"), (Value.ref (44 : Nat))]) #[])
noncomputable def hd.tree_86 : Params → W.BT := fun P => (W.BT.node (W.boot_o_0 P) (W.BT.node (W.boot_o_1 P) (W.BT.node (hd.o_65 P) (W.BT.node (W.boot_o_7 P) (W.BT.node (hd.o_52 P) (W.BT.node (hd.o_71 P) W.BT.nil W.BT.nil) W.BT.nil) (W.BT.node (hd.o_60 P) (W.BT.node (hd.o_79 P) W.BT.nil W.BT.nil) W.BT.nil)) (W.BT.node (hd.o_43 P) (W.BT.node (hd.o_56 P) (W.BT.node (hd.o_75 P) W.BT.nil W.BT.nil) W.BT.nil) (W.BT.node (hd.o_64 P) (W.BT.node (hd.o_83 P) W.BT.nil W.BT.nil) W.BT.nil))) (W.BT.node (W.boot_o_5 P) (W.BT.node (W.boot_o_9 P) (W.BT.node (hd.o_54 P) (W.BT.node (hd.o_73 P) W.BT.nil W.BT.nil) W.BT.nil) (W.BT.node (hd.o_62 P) (W.BT.node (hd.o_81 P) W.BT.nil W.BT.nil) W.BT.nil)) (W.BT.node (hd.o_45 P) (W.BT.node (hd.o_58 P) (W.BT.node (hd.o_77 P) W.BT.nil W.BT.nil) W.BT.nil) (W.BT.node (hd.o_69 P) (W.BT.node (hd.o_85 P) W.BT.nil W.BT.nil) W.BT.nil)))) (W.BT.node (hd.o_49 P) (W.BT.node (W.boot_o_4 P) (W.BT.node (W.boot_o_8 P) (W.BT.node (hd.o_53 P) (W.BT.node (hd.o_72 P) W.BT.nil W.BT.nil) W.BT.nil) (W.BT.node (hd.o_67 P) (W.BT.node (hd.o_80 P) W.BT.nil W.BT.nil) W.BT.nil)) (W.BT.node (hd.o_66 P) (W.BT.node (hd.o_57 P) (W.BT.node (hd.o_76 P) W.BT.nil W.BT.nil) W.BT.nil) (W.BT.node (hd.o_68 P) (W.BT.node (hd.o_84 P) W.BT.nil W.BT.nil) W.BT.nil))) (W.BT.node (W.boot_o_6 P) (W.BT.node (W.boot_o_10 P) (W.BT.node (hd.o_55 P) (W.BT.node (hd.o_74 P) W.BT.nil W.BT.nil) W.BT.nil) (W.BT.node (hd.o_63 P) (W.BT.node (hd.o_82 P) W.BT.nil W.BT.nil) W.BT.nil)) (W.BT.node (hd.o_46 P) (W.BT.node (hd.o_59 P) (W.BT.node (hd.o_78 P) W.BT.nil W.BT.nil) W.BT.nil) (W.BT.node (hd.o_70 P) (W.BT.node (hd.o_86 P) W.BT.nil W.BT.nil) W.BT.nil)))))
noncomputable def hd.o_87 : Params → Obj := by
  refine (?F : ∀ (ld : String) (_ : ∀ P, ldOf (W.boot_o_3 P) = some ld), Params → Obj) _ (fun _ => rfl)
  exact fun ld _ P => (Obj.mk (Value.type "dict") (none : Option Nat) (Data.dict #[(DictEntry.mk (PyData.keyHash P (Str.ofString "__name__")) (Value.str (Str.ofString "__name__") (165 : Nat)) (Value.str (Str.ofString "moduleyard.bytesio") (236 : Nat))), (DictEntry.mk (PyData.keyHash P (Str.ofString "__doc__")) (Value.str (Str.ofString "__doc__") (166 : Nat)) Value.none), (DictEntry.mk (PyData.keyHash P (Str.ofString "__package__")) (Value.str (Str.ofString "__package__") (167 : Nat)) Value.none), (DictEntry.mk (PyData.keyHash P (Str.ofString "__loader__")) (Value.str (Str.ofString "__loader__") (168 : Nat)) (Value.builtin ld)), (DictEntry.mk (PyData.keyHash P (Str.ofString "__spec__")) (Value.str (Str.ofString "__spec__") (169 : Nat)) Value.none), (DictEntry.mk (PyData.keyHash P (Str.ofString "__annotations__")) (Value.str (Str.ofString "__annotations__") (170 : Nat)) (Value.ref (6 : Nat))), (DictEntry.mk (PyData.keyHash P (Str.ofString "__builtins__")) (Value.str (Str.ofString "__builtins__") (171 : Nat)) (Value.ref (4 : Nat))), (DictEntry.mk (PyData.keyHash P (Str.ofString "__file__")) (Value.str (Str.ofString "__file__") (173 : Nat)) (Value.str (Str.ofString "/claim/cut.py") (172 : Nat))), (DictEntry.mk (PyData.keyHash P (Str.ofString "__cached__")) (Value.str (Str.ofString "__cached__") (174 : Nat)) Value.none), (DictEntry.mk (PyData.keyHash P (Str.ofString "YardError")) (Value.str (Str.ofString "YardError") (208 : Nat)) (Value.ref (24 : Nat))), (DictEntry.mk (PyData.keyHash P (Str.ofString "FormatError")) (Value.str (Str.ofString "FormatError") (235 : Nat)) (Value.ref (44 : Nat))), (DictEntry.mk (PyData.keyHash P (Str.ofString "MOST_CODE")) (Value.str (Str.ofString "MOST_CODE") (239 : Nat)) (Value.int 1114111 (238 : Nat))), (DictEntry.mk (PyData.keyHash P (Str.ofString "ByteWriter")) (Value.str (Str.ofString "ByteWriter") (302 : Nat)) (Value.ref (91 : Nat)))] (13 : Nat)) #[])
noncomputable def hd.o_88 : Params → Obj := fun P => (Obj.mk Value.none (none : Option Nat) (Data.fields #[(Value.int 2 (0 : Nat)), (Value.int 0 (0 : Nat)), (Value.ref (20 : Nat)), (Value.int 4 (0 : Nat)), (Value.int 0 (0 : Nat)), (Value.ref (33 : Nat)), (Value.int 11 (0 : Nat)), (Value.int 0 (0 : Nat)), (Value.ref (52 : Nat))]) #[])
noncomputable def hd.o_89 : Params → Obj := fun P => (Obj.mk (Value.type "tuple") (none : Option Nat) (Data.seq #[] (0 : Nat)) #[])
noncomputable def hd.o_90 : Params → Obj := fun P => (Obj.mk (Value.type "builtin_function_or_method") (none : Option Nat) (Data.fields #[(Value.builtin "type.__prepare__"), (Value.type "type")]) #[])
noncomputable def hd.o_91 : Params → Obj := fun P => (Obj.mk (Value.type "dict") (none : Option Nat) (Data.dict #[(DictEntry.mk (PyData.keyHash P (Str.ofString "__module__")) (Value.str (Str.ofString "__module__") (247 : Nat)) (Value.str (Str.ofString "moduleyard.bytesio") (236 : Nat))), (DictEntry.mk (PyData.keyHash P (Str.ofString "__qualname__")) (Value.str (Str.ofString "__qualname__") (249 : Nat)) (Value.str (Str.ofString "ByteWriter") (248 : Nat))), (DictEntry.mk (PyData.keyHash P (Str.ofString "__firstlineno__")) (Value.str (Str.ofString "__firstlineno__") (251 : Nat)) (Value.int 11 (250 : Nat))), (DictEntry.mk (PyData.keyHash P (Str.ofString "__init__")) (Value.str (Str.ofString "__init__") (258 : Nat)) (Value.ref (60 : Nat))), (DictEntry.mk (PyData.keyHash P (Str.ofString "byte")) (Value.str (Str.ofString "byte") (266 : Nat)) (Value.ref (67 : Nat))), (DictEntry.mk (PyData.keyHash P (Str.ofString "number")) (Value.str (Str.ofString "number") (275 : Nat)) (Value.ref (74 : Nat))), (DictEntry.mk (PyData.keyHash P (Str.ofString "text")) (Value.str (Str.ofString "text") (284 : Nat)) (Value.ref (81 : Nat))), (DictEntry.mk (PyData.keyHash P (Str.ofString "numbers")) (Value.str (Str.ofString "numbers") (293 : Nat)) (Value.ref (88 : Nat))), (DictEntry.mk (PyData.keyHash P (Str.ofString "__static_attributes__")) (Value.str (Str.ofString "__static_attributes__") (295 : Nat)) (Value.ref (89 : Nat)))] (9 : Nat)) #[])
noncomputable def hd.o_92 : Params → Obj := fun P => (Obj.mk (Value.type "tuple") (none : Option Nat) (Data.seq #[] (0 : Nat)) #[])
noncomputable def hd.o_93 : Params → Obj := fun P => (Obj.mk Value.none (none : Option Nat) (Data.fields #[(Value.int 13 (0 : Nat)), (Value.int 4 (0 : Nat)), (Value.ref (59 : Nat)), (Value.int 16 (0 : Nat)), (Value.int 4 (0 : Nat)), (Value.ref (66 : Nat)), (Value.int 19 (0 : Nat)), (Value.int 4 (0 : Nat)), (Value.ref (73 : Nat)), (Value.int 26 (0 : Nat)), (Value.int 4 (0 : Nat)), (Value.ref (80 : Nat)), (Value.int 31 (0 : Nat)), (Value.int 4 (0 : Nat)), (Value.ref (87 : Nat))]) #[])
noncomputable def hd.o_94 : Params → Obj := fun P => (Obj.mk (Value.type "code") (none : Option Nat) (Data.fields #[(Value.str (Str.ofString "ByteWriter") (242 : Nat)), (Value.str (Str.ofString "ByteWriter") (243 : Nat)), (Value.str (Str.ofString "/claim/cut.py") (244 : Nat)), (Value.int 11 (0 : Nat)), (Value.int 0 (0 : Nat)), (Value.int 0 (0 : Nat)), (Value.int 0 (0 : Nat)), (Value.int 0 (0 : Nat)), (Value.ref (50 : Nat)), (Value.bool Bool.false), (Value.int 181 (0 : Nat)), (Value.ref (51 : Nat)), Value.none, Value.none, Value.none, Value.none, (Value.int 245 (0 : Nat)), (Value.int 11 (0 : Nat)), (Value.str (Str.ofString "/claim/cut.py") (246 : Nat))]) #[])
noncomputable def hd.o_95 : Params → Obj := fun P => (Obj.mk (Value.type "frame") (none : Option Nat) Data.plain #[(some (Value.ref (52 : Nat))), (some (Value.ref (3 : Nat))), (some (Value.ref (49 : Nat))), none, (some (Value.str (Str.ofString "moduleyard.bytesio") (236 : Nat))), none, (some (Value.ref (0 : Nat)))])
noncomputable def hd.o_96 : Params → Obj := fun P => (Obj.mk (Value.type "tuple") (none : Option Nat) (Data.seq #[] (0 : Nat)) #[])
noncomputable def hd.o_97 : Params → Obj := fun P => (Obj.mk Value.none (none : Option Nat) (Data.fields #[]) #[])
noncomputable def hd.o_98 : Params → Obj := fun P => (Obj.mk (Value.type "tuple") (none : Option Nat) (Data.seq #[(Value.str (Str.ofString "self") (255 : Nat))] (0 : Nat)) #[])
noncomputable def hd.o_99 : Params → Obj := fun P => (Obj.mk (Value.type "tuple") (none : Option Nat) (Data.seq #[] (0 : Nat)) #[])
noncomputable def hd.o_100 : Params → Obj := by
  refine (?F : ∀ (p : Arguments) (b : List Stmt) (s : Scope) (_ : fnIn (inCls (stm 5) 0) = some (p, b, s)), Params → Obj) _ _ _ rfl
  exact fun p b s _ P => (Obj.mk Value.none (none : Option Nat) (Data.func (FuncData.mk (Str.ofString "__init__") (Str.ofString "ByteWriter.__init__") p (FuncBody.stmts b) s (0 : Nat) ([] : List (Str × Nat)) Value.none Value.none Value.none Value.none (none : Option Nat) Value.none Value.none (0 : Nat))) #[])
noncomputable def hd.o_101 : Params → Obj := fun P => (Obj.mk (Value.type "code") (none : Option Nat) (Data.fields #[(Value.str (Str.ofString "__init__") (252 : Nat)), (Value.str (Str.ofString "ByteWriter.__init__") (253 : Nat)), (Value.str (Str.ofString "/claim/cut.py") (254 : Nat)), (Value.int 13 (0 : Nat)), (Value.int 1 (0 : Nat)), (Value.int 0 (0 : Nat)), (Value.int 0 (0 : Nat)), (Value.int 3 (0 : Nat)), (Value.ref (54 : Nat)), (Value.bool Bool.true), (Value.int 181 (0 : Nat)), (Value.ref (55 : Nat)), Value.none, (Value.ref (56 : Nat)), (Value.ref (57 : Nat)), (Value.ref (58 : Nat)), (Value.int 256 (0 : Nat)), (Value.int 13 (0 : Nat)), (Value.str (Str.ofString "/claim/cut.py") (257 : Nat))]) #[])
noncomputable def hd.o_102 : Params → Obj := by
  refine (?F : ∀ (p : Arguments) (b : List Stmt) (s : Scope) (_ : fnIn (inCls (stm 5) 0) = some (p, b, s)), Params → Obj) _ _ _ rfl
  exact fun p b s _ P => (Obj.mk (Value.type "function") (none : Option Nat) (Data.func (FuncData.mk (Str.ofString "__init__") (Str.ofString "ByteWriter.__init__") p (FuncBody.stmts b) s (3 : Nat) ([] : List (Str × Nat)) Value.none Value.none Value.none (Value.str (Str.ofString "moduleyard.bytesio") (236 : Nat)) (none : Option Nat) (Value.ref (59 : Nat)) Value.none (0 : Nat))) #[])
noncomputable def hd.o_103 : Params → Obj := fun P => (Obj.mk (Value.type "tuple") (none : Option Nat) (Data.seq #[] (0 : Nat)) #[])
noncomputable def hd.o_104 : Params → Obj := fun P => (Obj.mk Value.none (none : Option Nat) (Data.fields #[]) #[])
noncomputable def hd.o_105 : Params → Obj := fun P => (Obj.mk (Value.type "tuple") (none : Option Nat) (Data.seq #[(Value.str (Str.ofString "self") (262 : Nat)), (Value.str (Str.ofString "value") (263 : Nat))] (0 : Nat)) #[])
noncomputable def hd.o_106 : Params → Obj := fun P => (Obj.mk (Value.type "tuple") (none : Option Nat) (Data.seq #[] (0 : Nat)) #[])
noncomputable def hd.o_107 : Params → Obj := by
  refine (?F : ∀ (p : Arguments) (b : List Stmt) (s : Scope) (_ : fnIn (inCls (stm 5) 1) = some (p, b, s)), Params → Obj) _ _ _ rfl
  exact fun p b s _ P => (Obj.mk Value.none (none : Option Nat) (Data.func (FuncData.mk (Str.ofString "byte") (Str.ofString "ByteWriter.byte") p (FuncBody.stmts b) s (0 : Nat) ([] : List (Str × Nat)) Value.none Value.none Value.none Value.none (none : Option Nat) Value.none Value.none (0 : Nat))) #[])
noncomputable def hd.o_108 : Params → Obj := fun P => (Obj.mk (Value.type "code") (none : Option Nat) (Data.fields #[(Value.str (Str.ofString "byte") (259 : Nat)), (Value.str (Str.ofString "ByteWriter.byte") (260 : Nat)), (Value.str (Str.ofString "/claim/cut.py") (261 : Nat)), (Value.int 16 (0 : Nat)), (Value.int 2 (0 : Nat)), (Value.int 0 (0 : Nat)), (Value.int 0 (0 : Nat)), (Value.int 3 (0 : Nat)), (Value.ref (61 : Nat)), (Value.bool Bool.true), (Value.int 181 (0 : Nat)), (Value.ref (62 : Nat)), Value.none, (Value.ref (63 : Nat)), (Value.ref (64 : Nat)), (Value.ref (65 : Nat)), (Value.int 264 (0 : Nat)), (Value.int 16 (0 : Nat)), (Value.str (Str.ofString "/claim/cut.py") (265 : Nat))]) #[])
noncomputable def hd.o_109 : Params → Obj := by
  refine (?F : ∀ (p : Arguments) (b : List Stmt) (s : Scope) (_ : fnIn (inCls (stm 5) 1) = some (p, b, s)), Params → Obj) _ _ _ rfl
  exact fun p b s _ P => (Obj.mk (Value.type "function") (none : Option Nat) (Data.func (FuncData.mk (Str.ofString "byte") (Str.ofString "ByteWriter.byte") p (FuncBody.stmts b) s (3 : Nat) ([] : List (Str × Nat)) Value.none Value.none Value.none (Value.str (Str.ofString "moduleyard.bytesio") (236 : Nat)) (none : Option Nat) (Value.ref (66 : Nat)) Value.none (0 : Nat))) #[])
noncomputable def hd.o_110 : Params → Obj := fun P => (Obj.mk (Value.type "tuple") (none : Option Nat) (Data.seq #[] (0 : Nat)) #[])
noncomputable def hd.o_111 : Params → Obj := fun P => (Obj.mk Value.none (none : Option Nat) (Data.fields #[]) #[])
noncomputable def hd.o_112 : Params → Obj := fun P => (Obj.mk (Value.type "tuple") (none : Option Nat) (Data.seq #[(Value.str (Str.ofString "self") (270 : Nat)), (Value.str (Str.ofString "n") (271 : Nat)), (Value.str (Str.ofString "rest") (272 : Nat))] (0 : Nat)) #[])
noncomputable def hd.o_113 : Params → Obj := fun P => (Obj.mk (Value.type "tuple") (none : Option Nat) (Data.seq #[] (0 : Nat)) #[])
noncomputable def hd.o_114 : Params → Obj := by
  refine (?F : ∀ (p : Arguments) (b : List Stmt) (s : Scope) (_ : fnIn (inCls (stm 5) 2) = some (p, b, s)), Params → Obj) _ _ _ rfl
  exact fun p b s _ P => (Obj.mk Value.none (none : Option Nat) (Data.func (FuncData.mk (Str.ofString "number") (Str.ofString "ByteWriter.number") p (FuncBody.stmts b) s (0 : Nat) ([] : List (Str × Nat)) Value.none Value.none Value.none Value.none (none : Option Nat) Value.none Value.none (0 : Nat))) #[])
noncomputable def hd.o_115 : Params → Obj := fun P => (Obj.mk (Value.type "code") (none : Option Nat) (Data.fields #[(Value.str (Str.ofString "number") (267 : Nat)), (Value.str (Str.ofString "ByteWriter.number") (268 : Nat)), (Value.str (Str.ofString "/claim/cut.py") (269 : Nat)), (Value.int 19 (0 : Nat)), (Value.int 2 (0 : Nat)), (Value.int 0 (0 : Nat)), (Value.int 0 (0 : Nat)), (Value.int 3 (0 : Nat)), (Value.ref (68 : Nat)), (Value.bool Bool.true), (Value.int 181 (0 : Nat)), (Value.ref (69 : Nat)), Value.none, (Value.ref (70 : Nat)), (Value.ref (71 : Nat)), (Value.ref (72 : Nat)), (Value.int 273 (0 : Nat)), (Value.int 19 (0 : Nat)), (Value.str (Str.ofString "/claim/cut.py") (274 : Nat))]) #[])
noncomputable def hd.o_116 : Params → Obj := by
  refine (?F : ∀ (p : Arguments) (b : List Stmt) (s : Scope) (_ : fnIn (inCls (stm 5) 2) = some (p, b, s)), Params → Obj) _ _ _ rfl
  exact fun p b s _ P => (Obj.mk (Value.type "function") (none : Option Nat) (Data.func (FuncData.mk (Str.ofString "number") (Str.ofString "ByteWriter.number") p (FuncBody.stmts b) s (3 : Nat) ([] : List (Str × Nat)) Value.none Value.none Value.none (Value.str (Str.ofString "moduleyard.bytesio") (236 : Nat)) (none : Option Nat) (Value.ref (73 : Nat)) Value.none (0 : Nat))) #[])
noncomputable def hd.o_117 : Params → Obj := fun P => (Obj.mk (Value.type "tuple") (none : Option Nat) (Data.seq #[] (0 : Nat)) #[])
noncomputable def hd.o_118 : Params → Obj := fun P => (Obj.mk Value.none (none : Option Nat) (Data.fields #[]) #[])
noncomputable def hd.o_119 : Params → Obj := fun P => (Obj.mk (Value.type "tuple") (none : Option Nat) (Data.seq #[(Value.str (Str.ofString "self") (279 : Nat)), (Value.str (Str.ofString "s") (280 : Nat)), (Value.str (Str.ofString "char") (281 : Nat))] (0 : Nat)) #[])
noncomputable def hd.o_120 : Params → Obj := fun P => (Obj.mk (Value.type "tuple") (none : Option Nat) (Data.seq #[] (0 : Nat)) #[])
noncomputable def hd.o_121 : Params → Obj := by
  refine (?F : ∀ (p : Arguments) (b : List Stmt) (s : Scope) (_ : fnIn (inCls (stm 5) 3) = some (p, b, s)), Params → Obj) _ _ _ rfl
  exact fun p b s _ P => (Obj.mk Value.none (none : Option Nat) (Data.func (FuncData.mk (Str.ofString "text") (Str.ofString "ByteWriter.text") p (FuncBody.stmts b) s (0 : Nat) ([] : List (Str × Nat)) Value.none Value.none Value.none Value.none (none : Option Nat) Value.none Value.none (0 : Nat))) #[])
noncomputable def hd.o_122 : Params → Obj := fun P => (Obj.mk (Value.type "code") (none : Option Nat) (Data.fields #[(Value.str (Str.ofString "text") (276 : Nat)), (Value.str (Str.ofString "ByteWriter.text") (277 : Nat)), (Value.str (Str.ofString "/claim/cut.py") (278 : Nat)), (Value.int 26 (0 : Nat)), (Value.int 2 (0 : Nat)), (Value.int 0 (0 : Nat)), (Value.int 0 (0 : Nat)), (Value.int 3 (0 : Nat)), (Value.ref (75 : Nat)), (Value.bool Bool.true), (Value.int 181 (0 : Nat)), (Value.ref (76 : Nat)), Value.none, (Value.ref (77 : Nat)), (Value.ref (78 : Nat)), (Value.ref (79 : Nat)), (Value.int 282 (0 : Nat)), (Value.int 26 (0 : Nat)), (Value.str (Str.ofString "/claim/cut.py") (283 : Nat))]) #[])
noncomputable def hd.o_123 : Params → Obj := by
  refine (?F : ∀ (p : Arguments) (b : List Stmt) (s : Scope) (_ : fnIn (inCls (stm 5) 3) = some (p, b, s)), Params → Obj) _ _ _ rfl
  exact fun p b s _ P => (Obj.mk (Value.type "function") (none : Option Nat) (Data.func (FuncData.mk (Str.ofString "text") (Str.ofString "ByteWriter.text") p (FuncBody.stmts b) s (3 : Nat) ([] : List (Str × Nat)) Value.none Value.none Value.none (Value.str (Str.ofString "moduleyard.bytesio") (236 : Nat)) (none : Option Nat) (Value.ref (80 : Nat)) Value.none (0 : Nat))) #[])
noncomputable def hd.o_124 : Params → Obj := fun P => (Obj.mk (Value.type "tuple") (none : Option Nat) (Data.seq #[] (0 : Nat)) #[])
noncomputable def hd.o_125 : Params → Obj := fun P => (Obj.mk Value.none (none : Option Nat) (Data.fields #[]) #[])
noncomputable def hd.o_126 : Params → Obj := fun P => (Obj.mk (Value.type "tuple") (none : Option Nat) (Data.seq #[(Value.str (Str.ofString "self") (288 : Nat)), (Value.str (Str.ofString "row") (289 : Nat)), (Value.str (Str.ofString "n") (290 : Nat))] (0 : Nat)) #[])
noncomputable def hd.o_127 : Params → Obj := fun P => (Obj.mk (Value.type "tuple") (none : Option Nat) (Data.seq #[] (0 : Nat)) #[])
noncomputable def hd.o_128 : Params → Obj := by
  refine (?F : ∀ (p : Arguments) (b : List Stmt) (s : Scope) (_ : fnIn (inCls (stm 5) 4) = some (p, b, s)), Params → Obj) _ _ _ rfl
  exact fun p b s _ P => (Obj.mk Value.none (none : Option Nat) (Data.func (FuncData.mk (Str.ofString "numbers") (Str.ofString "ByteWriter.numbers") p (FuncBody.stmts b) s (0 : Nat) ([] : List (Str × Nat)) Value.none Value.none Value.none Value.none (none : Option Nat) Value.none Value.none (0 : Nat))) #[])
noncomputable def hd.o_129 : Params → Obj := fun P => (Obj.mk (Value.type "code") (none : Option Nat) (Data.fields #[(Value.str (Str.ofString "numbers") (285 : Nat)), (Value.str (Str.ofString "ByteWriter.numbers") (286 : Nat)), (Value.str (Str.ofString "/claim/cut.py") (287 : Nat)), (Value.int 31 (0 : Nat)), (Value.int 2 (0 : Nat)), (Value.int 0 (0 : Nat)), (Value.int 0 (0 : Nat)), (Value.int 3 (0 : Nat)), (Value.ref (82 : Nat)), (Value.bool Bool.true), (Value.int 181 (0 : Nat)), (Value.ref (83 : Nat)), Value.none, (Value.ref (84 : Nat)), (Value.ref (85 : Nat)), (Value.ref (86 : Nat)), (Value.int 291 (0 : Nat)), (Value.int 31 (0 : Nat)), (Value.str (Str.ofString "/claim/cut.py") (292 : Nat))]) #[])
noncomputable def hd.o_130 : Params → Obj := by
  refine (?F : ∀ (p : Arguments) (b : List Stmt) (s : Scope) (_ : fnIn (inCls (stm 5) 4) = some (p, b, s)), Params → Obj) _ _ _ rfl
  exact fun p b s _ P => (Obj.mk (Value.type "function") (none : Option Nat) (Data.func (FuncData.mk (Str.ofString "numbers") (Str.ofString "ByteWriter.numbers") p (FuncBody.stmts b) s (3 : Nat) ([] : List (Str × Nat)) Value.none Value.none Value.none (Value.str (Str.ofString "moduleyard.bytesio") (236 : Nat)) (none : Option Nat) (Value.ref (87 : Nat)) Value.none (0 : Nat))) #[])
noncomputable def hd.o_131 : Params → Obj := fun P => (Obj.mk (Value.type "tuple") (none : Option Nat) (Data.seq #[(Value.str (Str.ofString "out") (294 : Nat))] (0 : Nat)) #[])
noncomputable def hd.o_132 : Params → Obj := fun P => (Obj.mk (Value.type "dict") (none : Option Nat) (Data.dict #[(DictEntry.mk (PyData.keyHash P (Str.ofString "__module__")) (Value.str (Str.ofString "__module__") (247 : Nat)) (Value.str (Str.ofString "moduleyard.bytesio") (236 : Nat))), (DictEntry.mk (PyData.keyHash P (Str.ofString "__firstlineno__")) (Value.str (Str.ofString "__firstlineno__") (251 : Nat)) (Value.int 11 (250 : Nat))), (DictEntry.mk (PyData.keyHash P (Str.ofString "__init__")) (Value.str (Str.ofString "__init__") (258 : Nat)) (Value.ref (60 : Nat))), (DictEntry.mk (PyData.keyHash P (Str.ofString "byte")) (Value.str (Str.ofString "byte") (266 : Nat)) (Value.ref (67 : Nat))), (DictEntry.mk (PyData.keyHash P (Str.ofString "number")) (Value.str (Str.ofString "number") (275 : Nat)) (Value.ref (74 : Nat))), (DictEntry.mk (PyData.keyHash P (Str.ofString "text")) (Value.str (Str.ofString "text") (284 : Nat)) (Value.ref (81 : Nat))), (DictEntry.mk (PyData.keyHash P (Str.ofString "numbers")) (Value.str (Str.ofString "numbers") (293 : Nat)) (Value.ref (88 : Nat))), (DictEntry.mk (PyData.keyHash P (Str.ofString "__static_attributes__")) (Value.str (Str.ofString "__static_attributes__") (295 : Nat)) (Value.ref (89 : Nat))), (DictEntry.mk (PyData.keyHash P (Str.ofString "__dict__")) (Value.str (Str.ofString "__dict__") (297 : Nat)) (Value.ref (92 : Nat))), (DictEntry.mk (PyData.keyHash P (Str.ofString "__weakref__")) (Value.str (Str.ofString "__weakref__") (299 : Nat)) (Value.ref (93 : Nat))), (DictEntry.mk (PyData.keyHash P (Str.ofString "__doc__")) (Value.str (Str.ofString "__doc__") (300 : Nat)) Value.none)] (4 : Nat)) #[])
noncomputable def hd.o_133 : Params → Obj := fun P => (Obj.mk (Value.type "type") (none : Option Nat) (Data.cls (ClassData.mk (Str.ofString "ByteWriter") [(Value.type "object")] [(Value.ref (91 : Nat)), (Value.type "object")] (90 : Nat) (Str.ofString "ByteWriter") Bool.true [] [] Bool.false none Bool.false)) #[none, none, (some (Value.str (Str.ofString "ByteWriter") (240 : Nat))), (some (Value.str (Str.ofString "ByteWriter") (248 : Nat))), (some (Value.builtin "object.__new__")), (some (Value.bool Bool.true))])
noncomputable def hd.o_134 : Params → Obj := fun P => (Obj.mk (Value.type "getset_descriptor") (none : Option Nat) (Data.fields #[(Value.str (Str.ofString "__dict__") (296 : Nat)), (Value.ref (91 : Nat)), (Value.builtin "function.__dict__"), (Value.builtin "function.__dict__#set")]) #[])
noncomputable def hd.o_135 : Params → Obj := fun P => (Obj.mk (Value.type "getset_descriptor") (none : Option Nat) (Data.fields #[(Value.str (Str.ofString "__weakref__") (298 : Nat)), (Value.ref (91 : Nat)), (Value.builtin "ExceptionGroup.__weakref__"), Value.none]) #[])
noncomputable def hd.o_136 : Params → Obj := fun P => (Obj.mk (Value.type "super") (none : Option Nat) (Data.fields #[(Value.ref (91 : Nat)), (Value.ref (91 : Nat)), (Value.ref (91 : Nat))]) #[])
noncomputable def hd.o_137 : Params → Obj := fun P => (Obj.mk (Value.type "builtin_function_or_method") (none : Option Nat) (Data.fields #[(Value.builtin "object.__init_subclass__"), (Value.ref (91 : Nat))]) #[])
noncomputable def hd.tree_137 : Params → W.BT := fun P => (W.BT.node (W.boot_o_0 P) (W.BT.node (W.boot_o_1 P) (W.BT.node (hd.o_87 P) (W.BT.node (W.boot_o_7 P) (W.BT.node (hd.o_52 P) (W.BT.node (hd.o_71 P) (W.BT.node (hd.o_105 P) W.BT.nil W.BT.nil) (W.BT.node (hd.o_137 P) W.BT.nil W.BT.nil)) (W.BT.node (hd.o_89 P) (W.BT.node (hd.o_121 P) W.BT.nil W.BT.nil) W.BT.nil)) (W.BT.node (hd.o_60 P) (W.BT.node (hd.o_79 P) (W.BT.node (hd.o_113 P) W.BT.nil W.BT.nil) W.BT.nil) (W.BT.node (hd.o_97 P) (W.BT.node (hd.o_129 P) W.BT.nil W.BT.nil) W.BT.nil))) (W.BT.node (hd.o_43 P) (W.BT.node (hd.o_56 P) (W.BT.node (hd.o_75 P) (W.BT.node (hd.o_109 P) W.BT.nil W.BT.nil) W.BT.nil) (W.BT.node (hd.o_93 P) (W.BT.node (hd.o_125 P) W.BT.nil W.BT.nil) W.BT.nil)) (W.BT.node (hd.o_64 P) (W.BT.node (hd.o_83 P) (W.BT.node (hd.o_117 P) W.BT.nil W.BT.nil) W.BT.nil) (W.BT.node (hd.o_101 P) (W.BT.node (hd.o_133 P) W.BT.nil W.BT.nil) W.BT.nil)))) (W.BT.node (W.boot_o_5 P) (W.BT.node (W.boot_o_9 P) (W.BT.node (hd.o_54 P) (W.BT.node (hd.o_73 P) (W.BT.node (hd.o_107 P) W.BT.nil W.BT.nil) W.BT.nil) (W.BT.node (hd.o_91 P) (W.BT.node (hd.o_123 P) W.BT.nil W.BT.nil) W.BT.nil)) (W.BT.node (hd.o_62 P) (W.BT.node (hd.o_81 P) (W.BT.node (hd.o_115 P) W.BT.nil W.BT.nil) W.BT.nil) (W.BT.node (hd.o_99 P) (W.BT.node (hd.o_131 P) W.BT.nil W.BT.nil) W.BT.nil))) (W.BT.node (hd.o_45 P) (W.BT.node (hd.o_58 P) (W.BT.node (hd.o_77 P) (W.BT.node (hd.o_111 P) W.BT.nil W.BT.nil) W.BT.nil) (W.BT.node (hd.o_95 P) (W.BT.node (hd.o_127 P) W.BT.nil W.BT.nil) W.BT.nil)) (W.BT.node (hd.o_69 P) (W.BT.node (hd.o_85 P) (W.BT.node (hd.o_119 P) W.BT.nil W.BT.nil) W.BT.nil) (W.BT.node (hd.o_103 P) (W.BT.node (hd.o_135 P) W.BT.nil W.BT.nil) W.BT.nil))))) (W.BT.node (hd.o_49 P) (W.BT.node (W.boot_o_4 P) (W.BT.node (W.boot_o_8 P) (W.BT.node (hd.o_53 P) (W.BT.node (hd.o_72 P) (W.BT.node (hd.o_106 P) W.BT.nil W.BT.nil) W.BT.nil) (W.BT.node (hd.o_90 P) (W.BT.node (hd.o_122 P) W.BT.nil W.BT.nil) W.BT.nil)) (W.BT.node (hd.o_67 P) (W.BT.node (hd.o_80 P) (W.BT.node (hd.o_114 P) W.BT.nil W.BT.nil) W.BT.nil) (W.BT.node (hd.o_98 P) (W.BT.node (hd.o_130 P) W.BT.nil W.BT.nil) W.BT.nil))) (W.BT.node (hd.o_88 P) (W.BT.node (hd.o_57 P) (W.BT.node (hd.o_76 P) (W.BT.node (hd.o_110 P) W.BT.nil W.BT.nil) W.BT.nil) (W.BT.node (hd.o_94 P) (W.BT.node (hd.o_126 P) W.BT.nil W.BT.nil) W.BT.nil)) (W.BT.node (hd.o_68 P) (W.BT.node (hd.o_84 P) (W.BT.node (hd.o_118 P) W.BT.nil W.BT.nil) W.BT.nil) (W.BT.node (hd.o_102 P) (W.BT.node (hd.o_134 P) W.BT.nil W.BT.nil) W.BT.nil)))) (W.BT.node (W.boot_o_6 P) (W.BT.node (W.boot_o_10 P) (W.BT.node (hd.o_55 P) (W.BT.node (hd.o_74 P) (W.BT.node (hd.o_108 P) W.BT.nil W.BT.nil) W.BT.nil) (W.BT.node (hd.o_92 P) (W.BT.node (hd.o_124 P) W.BT.nil W.BT.nil) W.BT.nil)) (W.BT.node (hd.o_63 P) (W.BT.node (hd.o_82 P) (W.BT.node (hd.o_116 P) W.BT.nil W.BT.nil) W.BT.nil) (W.BT.node (hd.o_100 P) (W.BT.node (hd.o_132 P) W.BT.nil W.BT.nil) W.BT.nil))) (W.BT.node (hd.o_46 P) (W.BT.node (hd.o_59 P) (W.BT.node (hd.o_78 P) (W.BT.node (hd.o_112 P) W.BT.nil W.BT.nil) W.BT.nil) (W.BT.node (hd.o_96 P) (W.BT.node (hd.o_128 P) W.BT.nil W.BT.nil) W.BT.nil)) (W.BT.node (hd.o_70 P) (W.BT.node (hd.o_86 P) (W.BT.node (hd.o_120 P) W.BT.nil W.BT.nil) W.BT.nil) (W.BT.node (hd.o_104 P) (W.BT.node (hd.o_136 P) W.BT.nil W.BT.nil) W.BT.nil))))))
noncomputable def hd.o_138 : Params → Obj := by
  refine (?F : ∀ (ld : String) (_ : ∀ P, ldOf (W.boot_o_3 P) = some ld), Params → Obj) _ (fun _ => rfl)
  exact fun ld _ P => (Obj.mk (Value.type "dict") (none : Option Nat) (Data.dict #[(DictEntry.mk (PyData.keyHash P (Str.ofString "__name__")) (Value.str (Str.ofString "__name__") (165 : Nat)) (Value.str (Str.ofString "moduleyard.bytesio") (236 : Nat))), (DictEntry.mk (PyData.keyHash P (Str.ofString "__doc__")) (Value.str (Str.ofString "__doc__") (166 : Nat)) Value.none), (DictEntry.mk (PyData.keyHash P (Str.ofString "__package__")) (Value.str (Str.ofString "__package__") (167 : Nat)) Value.none), (DictEntry.mk (PyData.keyHash P (Str.ofString "__loader__")) (Value.str (Str.ofString "__loader__") (168 : Nat)) (Value.builtin ld)), (DictEntry.mk (PyData.keyHash P (Str.ofString "__spec__")) (Value.str (Str.ofString "__spec__") (169 : Nat)) Value.none), (DictEntry.mk (PyData.keyHash P (Str.ofString "__annotations__")) (Value.str (Str.ofString "__annotations__") (170 : Nat)) (Value.ref (6 : Nat))), (DictEntry.mk (PyData.keyHash P (Str.ofString "__builtins__")) (Value.str (Str.ofString "__builtins__") (171 : Nat)) (Value.ref (4 : Nat))), (DictEntry.mk (PyData.keyHash P (Str.ofString "__file__")) (Value.str (Str.ofString "__file__") (173 : Nat)) (Value.str (Str.ofString "/claim/cut.py") (172 : Nat))), (DictEntry.mk (PyData.keyHash P (Str.ofString "__cached__")) (Value.str (Str.ofString "__cached__") (174 : Nat)) Value.none), (DictEntry.mk (PyData.keyHash P (Str.ofString "YardError")) (Value.str (Str.ofString "YardError") (208 : Nat)) (Value.ref (24 : Nat))), (DictEntry.mk (PyData.keyHash P (Str.ofString "FormatError")) (Value.str (Str.ofString "FormatError") (235 : Nat)) (Value.ref (44 : Nat))), (DictEntry.mk (PyData.keyHash P (Str.ofString "MOST_CODE")) (Value.str (Str.ofString "MOST_CODE") (239 : Nat)) (Value.int 1114111 (238 : Nat))), (DictEntry.mk (PyData.keyHash P (Str.ofString "ByteWriter")) (Value.str (Str.ofString "ByteWriter") (302 : Nat)) (Value.ref (91 : Nat))), (DictEntry.mk (PyData.keyHash P (Str.ofString "ByteReader")) (Value.str (Str.ofString "ByteReader") (389 : Nat)) (Value.ref (159 : Nat)))] (14 : Nat)) #[])
noncomputable def hd.o_139 : Params → Obj := fun P => (Obj.mk Value.none (none : Option Nat) (Data.fields #[(Value.int 2 (0 : Nat)), (Value.int 0 (0 : Nat)), (Value.ref (20 : Nat)), (Value.int 4 (0 : Nat)), (Value.int 0 (0 : Nat)), (Value.ref (33 : Nat)), (Value.int 11 (0 : Nat)), (Value.int 0 (0 : Nat)), (Value.ref (52 : Nat)), (Value.int 35 (0 : Nat)), (Value.int 0 (0 : Nat)), (Value.ref (101 : Nat))]) #[])
noncomputable def hd.o_140 : Params → Obj := fun P => (Obj.mk (Value.type "tuple") (none : Option Nat) (Data.seq #[] (0 : Nat)) #[])
noncomputable def hd.o_141 : Params → Obj := fun P => (Obj.mk (Value.type "builtin_function_or_method") (none : Option Nat) (Data.fields #[(Value.builtin "type.__prepare__"), (Value.type "type")]) #[])
noncomputable def hd.o_142 : Params → Obj := fun P => (Obj.mk (Value.type "dict") (none : Option Nat) (Data.dict #[(DictEntry.mk (PyData.keyHash P (Str.ofString "__module__")) (Value.str (Str.ofString "__module__") (310 : Nat)) (Value.str (Str.ofString "moduleyard.bytesio") (236 : Nat))), (DictEntry.mk (PyData.keyHash P (Str.ofString "__qualname__")) (Value.str (Str.ofString "__qualname__") (312 : Nat)) (Value.str (Str.ofString "ByteReader") (311 : Nat))), (DictEntry.mk (PyData.keyHash P (Str.ofString "__firstlineno__")) (Value.str (Str.ofString "__firstlineno__") (314 : Nat)) (Value.int 35 (313 : Nat))), (DictEntry.mk (PyData.keyHash P (Str.ofString "__init__")) (Value.str (Str.ofString "__init__") (322 : Nat)) (Value.ref (109 : Nat))), (DictEntry.mk (PyData.keyHash P (Str.ofString "fail")) (Value.str (Str.ofString "fail") (330 : Nat)) (Value.ref (116 : Nat))), (DictEntry.mk (PyData.keyHash P (Str.ofString "done")) (Value.str (Str.ofString "done") (337 : Nat)) (Value.ref (123 : Nat))), (DictEntry.mk (PyData.keyHash P (Str.ofString "byte")) (Value.str (Str.ofString "byte") (345 : Nat)) (Value.ref (130 : Nat))), (DictEntry.mk (PyData.keyHash P (Str.ofString "number")) (Value.str (Str.ofString "number") (355 : Nat)) (Value.ref (137 : Nat))), (DictEntry.mk (PyData.keyHash P (Str.ofString "count")) (Value.str (Str.ofString "count") (363 : Nat)) (Value.ref (144 : Nat))), (DictEntry.mk (PyData.keyHash P (Str.ofString "text")) (Value.str (Str.ofString "text") (373 : Nat)) (Value.ref (151 : Nat))), (DictEntry.mk (PyData.keyHash P (Str.ofString "numbers")) (Value.str (Str.ofString "numbers") (379 : Nat)) (Value.ref (156 : Nat))), (DictEntry.mk (PyData.keyHash P (Str.ofString "__static_attributes__")) (Value.str (Str.ofString "__static_attributes__") (382 : Nat)) (Value.ref (157 : Nat)))] (12 : Nat)) #[])
noncomputable def hd.o_143 : Params → Obj := fun P => (Obj.mk (Value.type "tuple") (none : Option Nat) (Data.seq #[] (0 : Nat)) #[])
noncomputable def hd.o_144 : Params → Obj := fun P => (Obj.mk Value.none (none : Option Nat) (Data.fields #[(Value.int 37 (0 : Nat)), (Value.int 4 (0 : Nat)), (Value.ref (108 : Nat)), (Value.int 41 (0 : Nat)), (Value.int 4 (0 : Nat)), (Value.ref (115 : Nat)), (Value.int 44 (0 : Nat)), (Value.int 4 (0 : Nat)), (Value.ref (122 : Nat)), (Value.int 47 (0 : Nat)), (Value.int 4 (0 : Nat)), (Value.ref (129 : Nat)), (Value.int 56 (0 : Nat)), (Value.int 4 (0 : Nat)), (Value.ref (136 : Nat)), (Value.int 71 (0 : Nat)), (Value.int 4 (0 : Nat)), (Value.ref (143 : Nat)), (Value.int 77 (0 : Nat)), (Value.int 4 (0 : Nat)), (Value.ref (150 : Nat)), (Value.int 86 (0 : Nat)), (Value.int 4 (0 : Nat)), (Value.ref (155 : Nat))]) #[])
noncomputable def hd.o_145 : Params → Obj := fun P => (Obj.mk (Value.type "code") (none : Option Nat) (Data.fields #[(Value.str (Str.ofString "ByteReader") (305 : Nat)), (Value.str (Str.ofString "ByteReader") (306 : Nat)), (Value.str (Str.ofString "/claim/cut.py") (307 : Nat)), (Value.int 35 (0 : Nat)), (Value.int 0 (0 : Nat)), (Value.int 0 (0 : Nat)), (Value.int 0 (0 : Nat)), (Value.int 0 (0 : Nat)), (Value.ref (99 : Nat)), (Value.bool Bool.false), (Value.int 181 (0 : Nat)), (Value.ref (100 : Nat)), Value.none, Value.none, Value.none, Value.none, (Value.int 308 (0 : Nat)), (Value.int 35 (0 : Nat)), (Value.str (Str.ofString "/claim/cut.py") (309 : Nat))]) #[])
noncomputable def hd.o_146 : Params → Obj := fun P => (Obj.mk (Value.type "frame") (none : Option Nat) Data.plain #[(some (Value.ref (101 : Nat))), (some (Value.ref (3 : Nat))), (some (Value.ref (98 : Nat))), none, (some (Value.str (Str.ofString "moduleyard.bytesio") (236 : Nat))), none, (some (Value.ref (0 : Nat)))])
noncomputable def hd.o_147 : Params → Obj := fun P => (Obj.mk (Value.type "tuple") (none : Option Nat) (Data.seq #[] (0 : Nat)) #[])
noncomputable def hd.o_148 : Params → Obj := fun P => (Obj.mk Value.none (none : Option Nat) (Data.fields #[]) #[])
noncomputable def hd.o_149 : Params → Obj := fun P => (Obj.mk (Value.type "tuple") (none : Option Nat) (Data.seq #[(Value.str (Str.ofString "self") (318 : Nat)), (Value.str (Str.ofString "data") (319 : Nat))] (0 : Nat)) #[])
noncomputable def hd.o_150 : Params → Obj := fun P => (Obj.mk (Value.type "tuple") (none : Option Nat) (Data.seq #[] (0 : Nat)) #[])
noncomputable def hd.o_151 : Params → Obj := by
  refine (?F : ∀ (p : Arguments) (b : List Stmt) (s : Scope) (_ : fnIn (inCls (stm 6) 0) = some (p, b, s)), Params → Obj) _ _ _ rfl
  exact fun p b s _ P => (Obj.mk Value.none (none : Option Nat) (Data.func (FuncData.mk (Str.ofString "__init__") (Str.ofString "ByteReader.__init__") p (FuncBody.stmts b) s (0 : Nat) ([] : List (Str × Nat)) Value.none Value.none Value.none Value.none (none : Option Nat) Value.none Value.none (0 : Nat))) #[])
noncomputable def hd.o_152 : Params → Obj := fun P => (Obj.mk (Value.type "code") (none : Option Nat) (Data.fields #[(Value.str (Str.ofString "__init__") (315 : Nat)), (Value.str (Str.ofString "ByteReader.__init__") (316 : Nat)), (Value.str (Str.ofString "/claim/cut.py") (317 : Nat)), (Value.int 37 (0 : Nat)), (Value.int 2 (0 : Nat)), (Value.int 0 (0 : Nat)), (Value.int 0 (0 : Nat)), (Value.int 3 (0 : Nat)), (Value.ref (103 : Nat)), (Value.bool Bool.true), (Value.int 181 (0 : Nat)), (Value.ref (104 : Nat)), Value.none, (Value.ref (105 : Nat)), (Value.ref (106 : Nat)), (Value.ref (107 : Nat)), (Value.int 320 (0 : Nat)), (Value.int 37 (0 : Nat)), (Value.str (Str.ofString "/claim/cut.py") (321 : Nat))]) #[])
noncomputable def hd.o_153 : Params → Obj := by
  refine (?F : ∀ (p : Arguments) (b : List Stmt) (s : Scope) (_ : fnIn (inCls (stm 6) 0) = some (p, b, s)), Params → Obj) _ _ _ rfl
  exact fun p b s _ P => (Obj.mk (Value.type "function") (none : Option Nat) (Data.func (FuncData.mk (Str.ofString "__init__") (Str.ofString "ByteReader.__init__") p (FuncBody.stmts b) s (3 : Nat) ([] : List (Str × Nat)) Value.none Value.none Value.none (Value.str (Str.ofString "moduleyard.bytesio") (236 : Nat)) (none : Option Nat) (Value.ref (108 : Nat)) Value.none (0 : Nat))) #[])
noncomputable def hd.o_154 : Params → Obj := fun P => (Obj.mk (Value.type "tuple") (none : Option Nat) (Data.seq #[] (0 : Nat)) #[])
noncomputable def hd.o_155 : Params → Obj := fun P => (Obj.mk Value.none (none : Option Nat) (Data.fields #[]) #[])
noncomputable def hd.o_156 : Params → Obj := fun P => (Obj.mk (Value.type "tuple") (none : Option Nat) (Data.seq #[(Value.str (Str.ofString "self") (326 : Nat)), (Value.str (Str.ofString "what") (327 : Nat))] (0 : Nat)) #[])
noncomputable def hd.o_157 : Params → Obj := fun P => (Obj.mk (Value.type "tuple") (none : Option Nat) (Data.seq #[] (0 : Nat)) #[])
noncomputable def hd.o_158 : Params → Obj := by
  refine (?F : ∀ (p : Arguments) (b : List Stmt) (s : Scope) (_ : fnIn (inCls (stm 6) 1) = some (p, b, s)), Params → Obj) _ _ _ rfl
  exact fun p b s _ P => (Obj.mk Value.none (none : Option Nat) (Data.func (FuncData.mk (Str.ofString "fail") (Str.ofString "ByteReader.fail") p (FuncBody.stmts b) s (0 : Nat) ([] : List (Str × Nat)) Value.none Value.none Value.none Value.none (none : Option Nat) Value.none Value.none (0 : Nat))) #[])
noncomputable def hd.o_159 : Params → Obj := fun P => (Obj.mk (Value.type "code") (none : Option Nat) (Data.fields #[(Value.str (Str.ofString "fail") (323 : Nat)), (Value.str (Str.ofString "ByteReader.fail") (324 : Nat)), (Value.str (Str.ofString "/claim/cut.py") (325 : Nat)), (Value.int 41 (0 : Nat)), (Value.int 2 (0 : Nat)), (Value.int 0 (0 : Nat)), (Value.int 0 (0 : Nat)), (Value.int 3 (0 : Nat)), (Value.ref (110 : Nat)), (Value.bool Bool.true), (Value.int 181 (0 : Nat)), (Value.ref (111 : Nat)), Value.none, (Value.ref (112 : Nat)), (Value.ref (113 : Nat)), (Value.ref (114 : Nat)), (Value.int 328 (0 : Nat)), (Value.int 41 (0 : Nat)), (Value.str (Str.ofString "/claim/cut.py") (329 : Nat))]) #[])
noncomputable def hd.o_160 : Params → Obj := by
  refine (?F : ∀ (p : Arguments) (b : List Stmt) (s : Scope) (_ : fnIn (inCls (stm 6) 1) = some (p, b, s)), Params → Obj) _ _ _ rfl
  exact fun p b s _ P => (Obj.mk (Value.type "function") (none : Option Nat) (Data.func (FuncData.mk (Str.ofString "fail") (Str.ofString "ByteReader.fail") p (FuncBody.stmts b) s (3 : Nat) ([] : List (Str × Nat)) Value.none Value.none Value.none (Value.str (Str.ofString "moduleyard.bytesio") (236 : Nat)) (none : Option Nat) (Value.ref (115 : Nat)) Value.none (0 : Nat))) #[])
noncomputable def hd.o_161 : Params → Obj := fun P => (Obj.mk (Value.type "tuple") (none : Option Nat) (Data.seq #[] (0 : Nat)) #[])
noncomputable def hd.o_162 : Params → Obj := fun P => (Obj.mk Value.none (none : Option Nat) (Data.fields #[]) #[])
noncomputable def hd.o_163 : Params → Obj := fun P => (Obj.mk (Value.type "tuple") (none : Option Nat) (Data.seq #[(Value.str (Str.ofString "self") (334 : Nat))] (0 : Nat)) #[])
noncomputable def hd.o_164 : Params → Obj := fun P => (Obj.mk (Value.type "tuple") (none : Option Nat) (Data.seq #[] (0 : Nat)) #[])
noncomputable def hd.o_165 : Params → Obj := by
  refine (?F : ∀ (p : Arguments) (b : List Stmt) (s : Scope) (_ : fnIn (inCls (stm 6) 2) = some (p, b, s)), Params → Obj) _ _ _ rfl
  exact fun p b s _ P => (Obj.mk Value.none (none : Option Nat) (Data.func (FuncData.mk (Str.ofString "done") (Str.ofString "ByteReader.done") p (FuncBody.stmts b) s (0 : Nat) ([] : List (Str × Nat)) Value.none Value.none Value.none Value.none (none : Option Nat) Value.none Value.none (0 : Nat))) #[])
noncomputable def hd.o_166 : Params → Obj := fun P => (Obj.mk (Value.type "code") (none : Option Nat) (Data.fields #[(Value.str (Str.ofString "done") (331 : Nat)), (Value.str (Str.ofString "ByteReader.done") (332 : Nat)), (Value.str (Str.ofString "/claim/cut.py") (333 : Nat)), (Value.int 44 (0 : Nat)), (Value.int 1 (0 : Nat)), (Value.int 0 (0 : Nat)), (Value.int 0 (0 : Nat)), (Value.int 3 (0 : Nat)), (Value.ref (117 : Nat)), (Value.bool Bool.true), (Value.int 181 (0 : Nat)), (Value.ref (118 : Nat)), Value.none, (Value.ref (119 : Nat)), (Value.ref (120 : Nat)), (Value.ref (121 : Nat)), (Value.int 335 (0 : Nat)), (Value.int 44 (0 : Nat)), (Value.str (Str.ofString "/claim/cut.py") (336 : Nat))]) #[])
noncomputable def hd.o_167 : Params → Obj := by
  refine (?F : ∀ (p : Arguments) (b : List Stmt) (s : Scope) (_ : fnIn (inCls (stm 6) 2) = some (p, b, s)), Params → Obj) _ _ _ rfl
  exact fun p b s _ P => (Obj.mk (Value.type "function") (none : Option Nat) (Data.func (FuncData.mk (Str.ofString "done") (Str.ofString "ByteReader.done") p (FuncBody.stmts b) s (3 : Nat) ([] : List (Str × Nat)) Value.none Value.none Value.none (Value.str (Str.ofString "moduleyard.bytesio") (236 : Nat)) (none : Option Nat) (Value.ref (122 : Nat)) Value.none (0 : Nat))) #[])
noncomputable def hd.o_168 : Params → Obj := fun P => (Obj.mk (Value.type "tuple") (none : Option Nat) (Data.seq #[] (0 : Nat)) #[])
noncomputable def hd.o_169 : Params → Obj := fun P => (Obj.mk Value.none (none : Option Nat) (Data.fields #[]) #[])
noncomputable def hd.o_170 : Params → Obj := fun P => (Obj.mk (Value.type "tuple") (none : Option Nat) (Data.seq #[(Value.str (Str.ofString "self") (341 : Nat)), (Value.str (Str.ofString "value") (342 : Nat))] (0 : Nat)) #[])
noncomputable def hd.o_171 : Params → Obj := fun P => (Obj.mk (Value.type "tuple") (none : Option Nat) (Data.seq #[] (0 : Nat)) #[])
noncomputable def hd.o_172 : Params → Obj := by
  refine (?F : ∀ (p : Arguments) (b : List Stmt) (s : Scope) (_ : fnIn (inCls (stm 6) 3) = some (p, b, s)), Params → Obj) _ _ _ rfl
  exact fun p b s _ P => (Obj.mk Value.none (none : Option Nat) (Data.func (FuncData.mk (Str.ofString "byte") (Str.ofString "ByteReader.byte") p (FuncBody.stmts b) s (0 : Nat) ([] : List (Str × Nat)) Value.none Value.none Value.none Value.none (none : Option Nat) Value.none Value.none (0 : Nat))) #[])
noncomputable def hd.o_173 : Params → Obj := fun P => (Obj.mk (Value.type "code") (none : Option Nat) (Data.fields #[(Value.str (Str.ofString "byte") (338 : Nat)), (Value.str (Str.ofString "ByteReader.byte") (339 : Nat)), (Value.str (Str.ofString "/claim/cut.py") (340 : Nat)), (Value.int 47 (0 : Nat)), (Value.int 1 (0 : Nat)), (Value.int 0 (0 : Nat)), (Value.int 0 (0 : Nat)), (Value.int 3 (0 : Nat)), (Value.ref (124 : Nat)), (Value.bool Bool.true), (Value.int 181 (0 : Nat)), (Value.ref (125 : Nat)), Value.none, (Value.ref (126 : Nat)), (Value.ref (127 : Nat)), (Value.ref (128 : Nat)), (Value.int 343 (0 : Nat)), (Value.int 47 (0 : Nat)), (Value.str (Str.ofString "/claim/cut.py") (344 : Nat))]) #[])
noncomputable def hd.o_174 : Params → Obj := by
  refine (?F : ∀ (p : Arguments) (b : List Stmt) (s : Scope) (_ : fnIn (inCls (stm 6) 3) = some (p, b, s)), Params → Obj) _ _ _ rfl
  exact fun p b s _ P => (Obj.mk (Value.type "function") (none : Option Nat) (Data.func (FuncData.mk (Str.ofString "byte") (Str.ofString "ByteReader.byte") p (FuncBody.stmts b) s (3 : Nat) ([] : List (Str × Nat)) Value.none Value.none Value.none (Value.str (Str.ofString "moduleyard.bytesio") (236 : Nat)) (none : Option Nat) (Value.ref (129 : Nat)) Value.none (0 : Nat))) #[])
noncomputable def hd.o_175 : Params → Obj := fun P => (Obj.mk (Value.type "tuple") (none : Option Nat) (Data.seq #[] (0 : Nat)) #[])
noncomputable def hd.o_176 : Params → Obj := fun P => (Obj.mk Value.none (none : Option Nat) (Data.fields #[]) #[])
noncomputable def hd.o_177 : Params → Obj := fun P => (Obj.mk (Value.type "tuple") (none : Option Nat) (Data.seq #[(Value.str (Str.ofString "self") (349 : Nat)), (Value.str (Str.ofString "total") (350 : Nat)), (Value.str (Str.ofString "weight") (351 : Nat)), (Value.str (Str.ofString "group") (352 : Nat))] (0 : Nat)) #[])
noncomputable def hd.o_178 : Params → Obj := fun P => (Obj.mk (Value.type "tuple") (none : Option Nat) (Data.seq #[] (0 : Nat)) #[])
noncomputable def hd.o_179 : Params → Obj := by
  refine (?F : ∀ (p : Arguments) (b : List Stmt) (s : Scope) (_ : fnIn (inCls (stm 6) 4) = some (p, b, s)), Params → Obj) _ _ _ rfl
  exact fun p b s _ P => (Obj.mk Value.none (none : Option Nat) (Data.func (FuncData.mk (Str.ofString "number") (Str.ofString "ByteReader.number") p (FuncBody.stmts b) s (0 : Nat) ([] : List (Str × Nat)) Value.none Value.none Value.none Value.none (none : Option Nat) Value.none Value.none (0 : Nat))) #[])
noncomputable def hd.o_180 : Params → Obj := fun P => (Obj.mk (Value.type "code") (none : Option Nat) (Data.fields #[(Value.str (Str.ofString "number") (346 : Nat)), (Value.str (Str.ofString "ByteReader.number") (347 : Nat)), (Value.str (Str.ofString "/claim/cut.py") (348 : Nat)), (Value.int 56 (0 : Nat)), (Value.int 1 (0 : Nat)), (Value.int 0 (0 : Nat)), (Value.int 0 (0 : Nat)), (Value.int 3 (0 : Nat)), (Value.ref (131 : Nat)), (Value.bool Bool.true), (Value.int 181 (0 : Nat)), (Value.ref (132 : Nat)), Value.none, (Value.ref (133 : Nat)), (Value.ref (134 : Nat)), (Value.ref (135 : Nat)), (Value.int 353 (0 : Nat)), (Value.int 56 (0 : Nat)), (Value.str (Str.ofString "/claim/cut.py") (354 : Nat))]) #[])
noncomputable def hd.o_181 : Params → Obj := by
  refine (?F : ∀ (p : Arguments) (b : List Stmt) (s : Scope) (_ : fnIn (inCls (stm 6) 4) = some (p, b, s)), Params → Obj) _ _ _ rfl
  exact fun p b s _ P => (Obj.mk (Value.type "function") (none : Option Nat) (Data.func (FuncData.mk (Str.ofString "number") (Str.ofString "ByteReader.number") p (FuncBody.stmts b) s (3 : Nat) ([] : List (Str × Nat)) Value.none Value.none Value.none (Value.str (Str.ofString "moduleyard.bytesio") (236 : Nat)) (none : Option Nat) (Value.ref (136 : Nat)) Value.none (0 : Nat))) #[])
noncomputable def hd.o_182 : Params → Obj := fun P => (Obj.mk (Value.type "tuple") (none : Option Nat) (Data.seq #[] (0 : Nat)) #[])
noncomputable def hd.o_183 : Params → Obj := fun P => (Obj.mk Value.none (none : Option Nat) (Data.fields #[]) #[])
noncomputable def hd.o_184 : Params → Obj := fun P => (Obj.mk (Value.type "tuple") (none : Option Nat) (Data.seq #[(Value.str (Str.ofString "self") (359 : Nat)), (Value.str (Str.ofString "n") (360 : Nat))] (0 : Nat)) #[])
noncomputable def hd.o_185 : Params → Obj := fun P => (Obj.mk (Value.type "tuple") (none : Option Nat) (Data.seq #[] (0 : Nat)) #[])
noncomputable def hd.o_186 : Params → Obj := by
  refine (?F : ∀ (p : Arguments) (b : List Stmt) (s : Scope) (_ : fnIn (inCls (stm 6) 5) = some (p, b, s)), Params → Obj) _ _ _ rfl
  exact fun p b s _ P => (Obj.mk Value.none (none : Option Nat) (Data.func (FuncData.mk (Str.ofString "count") (Str.ofString "ByteReader.count") p (FuncBody.stmts b) s (0 : Nat) ([] : List (Str × Nat)) Value.none Value.none Value.none Value.none (none : Option Nat) Value.none Value.none (0 : Nat))) #[])
noncomputable def hd.o_187 : Params → Obj := fun P => (Obj.mk (Value.type "code") (none : Option Nat) (Data.fields #[(Value.str (Str.ofString "count") (356 : Nat)), (Value.str (Str.ofString "ByteReader.count") (357 : Nat)), (Value.str (Str.ofString "/claim/cut.py") (358 : Nat)), (Value.int 71 (0 : Nat)), (Value.int 1 (0 : Nat)), (Value.int 0 (0 : Nat)), (Value.int 0 (0 : Nat)), (Value.int 3 (0 : Nat)), (Value.ref (138 : Nat)), (Value.bool Bool.true), (Value.int 181 (0 : Nat)), (Value.ref (139 : Nat)), Value.none, (Value.ref (140 : Nat)), (Value.ref (141 : Nat)), (Value.ref (142 : Nat)), (Value.int 361 (0 : Nat)), (Value.int 71 (0 : Nat)), (Value.str (Str.ofString "/claim/cut.py") (362 : Nat))]) #[])
noncomputable def hd.o_188 : Params → Obj := by
  refine (?F : ∀ (p : Arguments) (b : List Stmt) (s : Scope) (_ : fnIn (inCls (stm 6) 5) = some (p, b, s)), Params → Obj) _ _ _ rfl
  exact fun p b s _ P => (Obj.mk (Value.type "function") (none : Option Nat) (Data.func (FuncData.mk (Str.ofString "count") (Str.ofString "ByteReader.count") p (FuncBody.stmts b) s (3 : Nat) ([] : List (Str × Nat)) Value.none Value.none Value.none (Value.str (Str.ofString "moduleyard.bytesio") (236 : Nat)) (none : Option Nat) (Value.ref (143 : Nat)) Value.none (0 : Nat))) #[])
noncomputable def hd.o_189 : Params → Obj := fun P => (Obj.mk (Value.type "tuple") (none : Option Nat) (Data.seq #[] (0 : Nat)) #[])
noncomputable def hd.o_190 : Params → Obj := fun P => (Obj.mk Value.none (none : Option Nat) (Data.fields #[]) #[])
noncomputable def hd.o_191 : Params → Obj := fun P => (Obj.mk (Value.type "tuple") (none : Option Nat) (Data.seq #[(Value.str (Str.ofString "self") (367 : Nat)), (Value.str (Str.ofString "letters") (368 : Nat)), (Value.str (Str.ofString "place") (369 : Nat)), (Value.str (Str.ofString "code") (370 : Nat))] (0 : Nat)) #[])
noncomputable def hd.o_192 : Params → Obj := fun P => (Obj.mk (Value.type "tuple") (none : Option Nat) (Data.seq #[] (0 : Nat)) #[])
noncomputable def hd.o_193 : Params → Obj := by
  refine (?F : ∀ (p : Arguments) (b : List Stmt) (s : Scope) (_ : fnIn (inCls (stm 6) 6) = some (p, b, s)), Params → Obj) _ _ _ rfl
  exact fun p b s _ P => (Obj.mk Value.none (none : Option Nat) (Data.func (FuncData.mk (Str.ofString "text") (Str.ofString "ByteReader.text") p (FuncBody.stmts b) s (0 : Nat) ([] : List (Str × Nat)) Value.none Value.none Value.none Value.none (none : Option Nat) Value.none Value.none (0 : Nat))) #[])
noncomputable def hd.o_194 : Params → Obj := fun P => (Obj.mk (Value.type "code") (none : Option Nat) (Data.fields #[(Value.str (Str.ofString "text") (364 : Nat)), (Value.str (Str.ofString "ByteReader.text") (365 : Nat)), (Value.str (Str.ofString "/claim/cut.py") (366 : Nat)), (Value.int 77 (0 : Nat)), (Value.int 1 (0 : Nat)), (Value.int 0 (0 : Nat)), (Value.int 0 (0 : Nat)), (Value.int 3 (0 : Nat)), (Value.ref (145 : Nat)), (Value.bool Bool.true), (Value.int 181 (0 : Nat)), (Value.ref (146 : Nat)), Value.none, (Value.ref (147 : Nat)), (Value.ref (148 : Nat)), (Value.ref (149 : Nat)), (Value.int 371 (0 : Nat)), (Value.int 77 (0 : Nat)), (Value.str (Str.ofString "/claim/cut.py") (372 : Nat))]) #[])
noncomputable def hd.o_195 : Params → Obj := by
  refine (?F : ∀ (p : Arguments) (b : List Stmt) (s : Scope) (_ : fnIn (inCls (stm 6) 6) = some (p, b, s)), Params → Obj) _ _ _ rfl
  exact fun p b s _ P => (Obj.mk (Value.type "function") (none : Option Nat) (Data.func (FuncData.mk (Str.ofString "text") (Str.ofString "ByteReader.text") p (FuncBody.stmts b) s (3 : Nat) ([] : List (Str × Nat)) Value.none Value.none Value.none (Value.str (Str.ofString "moduleyard.bytesio") (236 : Nat)) (none : Option Nat) (Value.ref (150 : Nat)) Value.none (0 : Nat))) #[])
noncomputable def hd.o_196 : Params → Obj := fun P => (Obj.mk (Value.type "tuple") (none : Option Nat) (Data.seq #[] (0 : Nat)) #[])
noncomputable def hd.o_197 : Params → Obj := fun P => (Obj.mk Value.none (none : Option Nat) (Data.fields #[]) #[])
noncomputable def hd.o_198 : Params → Obj := by
  refine (?F : ∀ (p : Arguments) (b : List Stmt) (s : Scope) (_ : fnIn (inCls (stm 6) 7) = some (p, b, s)), Params → Obj) _ _ _ rfl
  exact fun p b s _ P => (Obj.mk Value.none (none : Option Nat) (Data.func (FuncData.mk (Str.ofString "numbers") (Str.ofString "ByteReader.numbers") p (FuncBody.stmts b) s (0 : Nat) ([] : List (Str × Nat)) Value.none Value.none Value.none Value.none (none : Option Nat) Value.none Value.none (0 : Nat))) #[])
noncomputable def hd.o_199 : Params → Obj := fun P => (Obj.mk (Value.type "code") (none : Option Nat) (Data.fields #[(Value.str (Str.ofString "numbers") (374 : Nat)), (Value.str (Str.ofString "ByteReader.numbers") (375 : Nat)), (Value.str (Str.ofString "/claim/cut.py") (376 : Nat)), (Value.int 86 (0 : Nat)), (Value.int 1 (0 : Nat)), (Value.int 0 (0 : Nat)), (Value.int 0 (0 : Nat)), (Value.int 3 (0 : Nat)), (Value.ref (152 : Nat)), (Value.bool Bool.true), (Value.int 181 (0 : Nat)), (Value.ref (153 : Nat)), Value.none, Value.none, Value.none, (Value.ref (154 : Nat)), (Value.int 377 (0 : Nat)), (Value.int 86 (0 : Nat)), (Value.str (Str.ofString "/claim/cut.py") (378 : Nat))]) #[])
noncomputable def hd.o_200 : Params → Obj := by
  refine (?F : ∀ (p : Arguments) (b : List Stmt) (s : Scope) (_ : fnIn (inCls (stm 6) 7) = some (p, b, s)), Params → Obj) _ _ _ rfl
  exact fun p b s _ P => (Obj.mk (Value.type "function") (none : Option Nat) (Data.func (FuncData.mk (Str.ofString "numbers") (Str.ofString "ByteReader.numbers") p (FuncBody.stmts b) s (3 : Nat) ([] : List (Str × Nat)) Value.none Value.none Value.none (Value.str (Str.ofString "moduleyard.bytesio") (236 : Nat)) (none : Option Nat) (Value.ref (155 : Nat)) Value.none (0 : Nat))) #[])
noncomputable def hd.o_201 : Params → Obj := fun P => (Obj.mk (Value.type "tuple") (none : Option Nat) (Data.seq #[(Value.str (Str.ofString "at") (380 : Nat)), (Value.str (Str.ofString "data") (381 : Nat))] (0 : Nat)) #[])
noncomputable def hd.o_202 : Params → Obj := fun P => (Obj.mk (Value.type "dict") (none : Option Nat) (Data.dict #[(DictEntry.mk (PyData.keyHash P (Str.ofString "__module__")) (Value.str (Str.ofString "__module__") (310 : Nat)) (Value.str (Str.ofString "moduleyard.bytesio") (236 : Nat))), (DictEntry.mk (PyData.keyHash P (Str.ofString "__firstlineno__")) (Value.str (Str.ofString "__firstlineno__") (314 : Nat)) (Value.int 35 (313 : Nat))), (DictEntry.mk (PyData.keyHash P (Str.ofString "__init__")) (Value.str (Str.ofString "__init__") (322 : Nat)) (Value.ref (109 : Nat))), (DictEntry.mk (PyData.keyHash P (Str.ofString "fail")) (Value.str (Str.ofString "fail") (330 : Nat)) (Value.ref (116 : Nat))), (DictEntry.mk (PyData.keyHash P (Str.ofString "done")) (Value.str (Str.ofString "done") (337 : Nat)) (Value.ref (123 : Nat))), (DictEntry.mk (PyData.keyHash P (Str.ofString "byte")) (Value.str (Str.ofString "byte") (345 : Nat)) (Value.ref (130 : Nat))), (DictEntry.mk (PyData.keyHash P (Str.ofString "number")) (Value.str (Str.ofString "number") (355 : Nat)) (Value.ref (137 : Nat))), (DictEntry.mk (PyData.keyHash P (Str.ofString "count")) (Value.str (Str.ofString "count") (363 : Nat)) (Value.ref (144 : Nat))), (DictEntry.mk (PyData.keyHash P (Str.ofString "text")) (Value.str (Str.ofString "text") (373 : Nat)) (Value.ref (151 : Nat))), (DictEntry.mk (PyData.keyHash P (Str.ofString "numbers")) (Value.str (Str.ofString "numbers") (379 : Nat)) (Value.ref (156 : Nat))), (DictEntry.mk (PyData.keyHash P (Str.ofString "__static_attributes__")) (Value.str (Str.ofString "__static_attributes__") (382 : Nat)) (Value.ref (157 : Nat))), (DictEntry.mk (PyData.keyHash P (Str.ofString "__dict__")) (Value.str (Str.ofString "__dict__") (384 : Nat)) (Value.ref (160 : Nat))), (DictEntry.mk (PyData.keyHash P (Str.ofString "__weakref__")) (Value.str (Str.ofString "__weakref__") (386 : Nat)) (Value.ref (161 : Nat))), (DictEntry.mk (PyData.keyHash P (Str.ofString "__doc__")) (Value.str (Str.ofString "__doc__") (387 : Nat)) Value.none)] (4 : Nat)) #[])
noncomputable def hd.o_203 : Params → Obj := fun P => (Obj.mk (Value.type "type") (none : Option Nat) (Data.cls (ClassData.mk (Str.ofString "ByteReader") [(Value.type "object")] [(Value.ref (159 : Nat)), (Value.type "object")] (158 : Nat) (Str.ofString "ByteReader") Bool.true [] [] Bool.false none Bool.false)) #[none, none, (some (Value.str (Str.ofString "ByteReader") (303 : Nat))), (some (Value.str (Str.ofString "ByteReader") (311 : Nat))), (some (Value.builtin "object.__new__")), (some (Value.bool Bool.true))])
noncomputable def hd.o_204 : Params → Obj := fun P => (Obj.mk (Value.type "getset_descriptor") (none : Option Nat) (Data.fields #[(Value.str (Str.ofString "__dict__") (383 : Nat)), (Value.ref (159 : Nat)), (Value.builtin "function.__dict__"), (Value.builtin "function.__dict__#set")]) #[])
noncomputable def hd.o_205 : Params → Obj := fun P => (Obj.mk (Value.type "getset_descriptor") (none : Option Nat) (Data.fields #[(Value.str (Str.ofString "__weakref__") (385 : Nat)), (Value.ref (159 : Nat)), (Value.builtin "ExceptionGroup.__weakref__"), Value.none]) #[])
noncomputable def hd.o_206 : Params → Obj := fun P => (Obj.mk (Value.type "super") (none : Option Nat) (Data.fields #[(Value.ref (159 : Nat)), (Value.ref (159 : Nat)), (Value.ref (159 : Nat))]) #[])
noncomputable def hd.o_207 : Params → Obj := fun P => (Obj.mk (Value.type "builtin_function_or_method") (none : Option Nat) (Data.fields #[(Value.builtin "object.__init_subclass__"), (Value.ref (159 : Nat))]) #[])
noncomputable def hd.tree_207 : Params → W.BT := fun P => (W.BT.node (W.boot_o_0 P) (W.BT.node (W.boot_o_1 P) (W.BT.node (hd.o_138 P) (W.BT.node (W.boot_o_7 P) (W.BT.node (hd.o_52 P) (W.BT.node (hd.o_71 P) (W.BT.node (hd.o_105 P) (W.BT.node (hd.o_171 P) W.BT.nil W.BT.nil) W.BT.nil) (W.BT.node (hd.o_137 P) (W.BT.node (hd.o_203 P) W.BT.nil W.BT.nil) W.BT.nil)) (W.BT.node (hd.o_89 P) (W.BT.node (hd.o_121 P) (W.BT.node (hd.o_187 P) W.BT.nil W.BT.nil) W.BT.nil) (W.BT.node (hd.o_155 P) W.BT.nil W.BT.nil))) (W.BT.node (hd.o_60 P) (W.BT.node (hd.o_79 P) (W.BT.node (hd.o_113 P) (W.BT.node (hd.o_179 P) W.BT.nil W.BT.nil) W.BT.nil) (W.BT.node (hd.o_147 P) W.BT.nil W.BT.nil)) (W.BT.node (hd.o_97 P) (W.BT.node (hd.o_129 P) (W.BT.node (hd.o_195 P) W.BT.nil W.BT.nil) W.BT.nil) (W.BT.node (hd.o_163 P) W.BT.nil W.BT.nil)))) (W.BT.node (hd.o_43 P) (W.BT.node (hd.o_56 P) (W.BT.node (hd.o_75 P) (W.BT.node (hd.o_109 P) (W.BT.node (hd.o_175 P) W.BT.nil W.BT.nil) W.BT.nil) (W.BT.node (hd.o_143 P) (W.BT.node (hd.o_207 P) W.BT.nil W.BT.nil) W.BT.nil)) (W.BT.node (hd.o_93 P) (W.BT.node (hd.o_125 P) (W.BT.node (hd.o_191 P) W.BT.nil W.BT.nil) W.BT.nil) (W.BT.node (hd.o_159 P) W.BT.nil W.BT.nil))) (W.BT.node (hd.o_64 P) (W.BT.node (hd.o_83 P) (W.BT.node (hd.o_117 P) (W.BT.node (hd.o_183 P) W.BT.nil W.BT.nil) W.BT.nil) (W.BT.node (hd.o_151 P) W.BT.nil W.BT.nil)) (W.BT.node (hd.o_101 P) (W.BT.node (hd.o_133 P) (W.BT.node (hd.o_199 P) W.BT.nil W.BT.nil) W.BT.nil) (W.BT.node (hd.o_167 P) W.BT.nil W.BT.nil))))) (W.BT.node (W.boot_o_5 P) (W.BT.node (W.boot_o_9 P) (W.BT.node (hd.o_54 P) (W.BT.node (hd.o_73 P) (W.BT.node (hd.o_107 P) (W.BT.node (hd.o_173 P) W.BT.nil W.BT.nil) W.BT.nil) (W.BT.node (hd.o_141 P) (W.BT.node (hd.o_205 P) W.BT.nil W.BT.nil) W.BT.nil)) (W.BT.node (hd.o_91 P) (W.BT.node (hd.o_123 P) (W.BT.node (hd.o_189 P) W.BT.nil W.BT.nil) W.BT.nil) (W.BT.node (hd.o_157 P) W.BT.nil W.BT.nil))) (W.BT.node (hd.o_62 P) (W.BT.node (hd.o_81 P) (W.BT.node (hd.o_115 P) (W.BT.node (hd.o_181 P) W.BT.nil W.BT.nil) W.BT.nil) (W.BT.node (hd.o_149 P) W.BT.nil W.BT.nil)) (W.BT.node (hd.o_99 P) (W.BT.node (hd.o_131 P) (W.BT.node (hd.o_197 P) W.BT.nil W.BT.nil) W.BT.nil) (W.BT.node (hd.o_165 P) W.BT.nil W.BT.nil)))) (W.BT.node (hd.o_45 P) (W.BT.node (hd.o_58 P) (W.BT.node (hd.o_77 P) (W.BT.node (hd.o_111 P) (W.BT.node (hd.o_177 P) W.BT.nil W.BT.nil) W.BT.nil) (W.BT.node (hd.o_145 P) W.BT.nil W.BT.nil)) (W.BT.node (hd.o_95 P) (W.BT.node (hd.o_127 P) (W.BT.node (hd.o_193 P) W.BT.nil W.BT.nil) W.BT.nil) (W.BT.node (hd.o_161 P) W.BT.nil W.BT.nil))) (W.BT.node (hd.o_69 P) (W.BT.node (hd.o_85 P) (W.BT.node (hd.o_119 P) (W.BT.node (hd.o_185 P) W.BT.nil W.BT.nil) W.BT.nil) (W.BT.node (hd.o_153 P) W.BT.nil W.BT.nil)) (W.BT.node (hd.o_103 P) (W.BT.node (hd.o_135 P) (W.BT.node (hd.o_201 P) W.BT.nil W.BT.nil) W.BT.nil) (W.BT.node (hd.o_169 P) W.BT.nil W.BT.nil)))))) (W.BT.node (hd.o_49 P) (W.BT.node (W.boot_o_4 P) (W.BT.node (W.boot_o_8 P) (W.BT.node (hd.o_53 P) (W.BT.node (hd.o_72 P) (W.BT.node (hd.o_106 P) (W.BT.node (hd.o_172 P) W.BT.nil W.BT.nil) W.BT.nil) (W.BT.node (hd.o_140 P) (W.BT.node (hd.o_204 P) W.BT.nil W.BT.nil) W.BT.nil)) (W.BT.node (hd.o_90 P) (W.BT.node (hd.o_122 P) (W.BT.node (hd.o_188 P) W.BT.nil W.BT.nil) W.BT.nil) (W.BT.node (hd.o_156 P) W.BT.nil W.BT.nil))) (W.BT.node (hd.o_67 P) (W.BT.node (hd.o_80 P) (W.BT.node (hd.o_114 P) (W.BT.node (hd.o_180 P) W.BT.nil W.BT.nil) W.BT.nil) (W.BT.node (hd.o_148 P) W.BT.nil W.BT.nil)) (W.BT.node (hd.o_98 P) (W.BT.node (hd.o_130 P) (W.BT.node (hd.o_196 P) W.BT.nil W.BT.nil) W.BT.nil) (W.BT.node (hd.o_164 P) W.BT.nil W.BT.nil)))) (W.BT.node (hd.o_139 P) (W.BT.node (hd.o_57 P) (W.BT.node (hd.o_76 P) (W.BT.node (hd.o_110 P) (W.BT.node (hd.o_176 P) W.BT.nil W.BT.nil) W.BT.nil) (W.BT.node (hd.o_144 P) W.BT.nil W.BT.nil)) (W.BT.node (hd.o_94 P) (W.BT.node (hd.o_126 P) (W.BT.node (hd.o_192 P) W.BT.nil W.BT.nil) W.BT.nil) (W.BT.node (hd.o_160 P) W.BT.nil W.BT.nil))) (W.BT.node (hd.o_68 P) (W.BT.node (hd.o_84 P) (W.BT.node (hd.o_118 P) (W.BT.node (hd.o_184 P) W.BT.nil W.BT.nil) W.BT.nil) (W.BT.node (hd.o_152 P) W.BT.nil W.BT.nil)) (W.BT.node (hd.o_102 P) (W.BT.node (hd.o_134 P) (W.BT.node (hd.o_200 P) W.BT.nil W.BT.nil) W.BT.nil) (W.BT.node (hd.o_168 P) W.BT.nil W.BT.nil))))) (W.BT.node (W.boot_o_6 P) (W.BT.node (W.boot_o_10 P) (W.BT.node (hd.o_55 P) (W.BT.node (hd.o_74 P) (W.BT.node (hd.o_108 P) (W.BT.node (hd.o_174 P) W.BT.nil W.BT.nil) W.BT.nil) (W.BT.node (hd.o_142 P) (W.BT.node (hd.o_206 P) W.BT.nil W.BT.nil) W.BT.nil)) (W.BT.node (hd.o_92 P) (W.BT.node (hd.o_124 P) (W.BT.node (hd.o_190 P) W.BT.nil W.BT.nil) W.BT.nil) (W.BT.node (hd.o_158 P) W.BT.nil W.BT.nil))) (W.BT.node (hd.o_63 P) (W.BT.node (hd.o_82 P) (W.BT.node (hd.o_116 P) (W.BT.node (hd.o_182 P) W.BT.nil W.BT.nil) W.BT.nil) (W.BT.node (hd.o_150 P) W.BT.nil W.BT.nil)) (W.BT.node (hd.o_100 P) (W.BT.node (hd.o_132 P) (W.BT.node (hd.o_198 P) W.BT.nil W.BT.nil) W.BT.nil) (W.BT.node (hd.o_166 P) W.BT.nil W.BT.nil)))) (W.BT.node (hd.o_46 P) (W.BT.node (hd.o_59 P) (W.BT.node (hd.o_78 P) (W.BT.node (hd.o_112 P) (W.BT.node (hd.o_178 P) W.BT.nil W.BT.nil) W.BT.nil) (W.BT.node (hd.o_146 P) W.BT.nil W.BT.nil)) (W.BT.node (hd.o_96 P) (W.BT.node (hd.o_128 P) (W.BT.node (hd.o_194 P) W.BT.nil W.BT.nil) W.BT.nil) (W.BT.node (hd.o_162 P) W.BT.nil W.BT.nil))) (W.BT.node (hd.o_70 P) (W.BT.node (hd.o_86 P) (W.BT.node (hd.o_120 P) (W.BT.node (hd.o_186 P) W.BT.nil W.BT.nil) W.BT.nil) (W.BT.node (hd.o_154 P) W.BT.nil W.BT.nil)) (W.BT.node (hd.o_104 P) (W.BT.node (hd.o_136 P) (W.BT.node (hd.o_202 P) W.BT.nil W.BT.nil) W.BT.nil) (W.BT.node (hd.o_170 P) W.BT.nil W.BT.nil)))))))
noncomputable def hd.o_208 : Params → Obj := by
  refine (?F : ∀ (ld : String) (_ : ∀ P, ldOf (W.boot_o_3 P) = some ld), Params → Obj) _ (fun _ => rfl)
  exact fun ld _ P => (Obj.mk (Value.type "dict") (none : Option Nat) (Data.dict #[(DictEntry.mk (PyData.keyHash P (Str.ofString "__name__")) (Value.str (Str.ofString "__name__") (165 : Nat)) (Value.str (Str.ofString "law_nu0313_01") (390 : Nat))), (DictEntry.mk (PyData.keyHash P (Str.ofString "__doc__")) (Value.str (Str.ofString "__doc__") (166 : Nat)) Value.none), (DictEntry.mk (PyData.keyHash P (Str.ofString "__package__")) (Value.str (Str.ofString "__package__") (167 : Nat)) Value.none), (DictEntry.mk (PyData.keyHash P (Str.ofString "__loader__")) (Value.str (Str.ofString "__loader__") (168 : Nat)) (Value.builtin ld)), (DictEntry.mk (PyData.keyHash P (Str.ofString "__spec__")) (Value.str (Str.ofString "__spec__") (169 : Nat)) Value.none), (DictEntry.mk (PyData.keyHash P (Str.ofString "__annotations__")) (Value.str (Str.ofString "__annotations__") (170 : Nat)) (Value.ref (6 : Nat))), (DictEntry.mk (PyData.keyHash P (Str.ofString "__builtins__")) (Value.str (Str.ofString "__builtins__") (171 : Nat)) (Value.ref (4 : Nat))), (DictEntry.mk (PyData.keyHash P (Str.ofString "__file__")) (Value.str (Str.ofString "__file__") (173 : Nat)) (Value.str (Str.ofString "/claim/cut.py") (172 : Nat))), (DictEntry.mk (PyData.keyHash P (Str.ofString "__cached__")) (Value.str (Str.ofString "__cached__") (174 : Nat)) Value.none), (DictEntry.mk (PyData.keyHash P (Str.ofString "YardError")) (Value.str (Str.ofString "YardError") (208 : Nat)) (Value.ref (24 : Nat))), (DictEntry.mk (PyData.keyHash P (Str.ofString "FormatError")) (Value.str (Str.ofString "FormatError") (235 : Nat)) (Value.ref (44 : Nat))), (DictEntry.mk (PyData.keyHash P (Str.ofString "MOST_CODE")) (Value.str (Str.ofString "MOST_CODE") (239 : Nat)) (Value.int 1114111 (238 : Nat))), (DictEntry.mk (PyData.keyHash P (Str.ofString "ByteWriter")) (Value.str (Str.ofString "ByteWriter") (302 : Nat)) (Value.ref (91 : Nat))), (DictEntry.mk (PyData.keyHash P (Str.ofString "ByteReader")) (Value.str (Str.ofString "ByteReader") (389 : Nat)) (Value.ref (159 : Nat))), (DictEntry.mk (PyData.keyHash P (Str.ofString "_law_pick")) (Value.str (Str.ofString "_law_pick") (401 : Nat)) (Value.ref (170 : Nat))), (DictEntry.mk (PyData.keyHash P (Str.ofString "_law_groups")) (Value.str (Str.ofString "_law_groups") (410 : Nat)) (Value.ref (177 : Nat))), (DictEntry.mk (PyData.keyHash P (Str.ofString "_law_figure")) (Value.str (Str.ofString "_law_figure") (419 : Nat)) (Value.ref (184 : Nat))), (DictEntry.mk (PyData.keyHash P (Str.ofString "_law_word")) (Value.str (Str.ofString "_law_word") (425 : Nat)) (Value.ref (189 : Nat))), (DictEntry.mk (PyData.keyHash P (Str.ofString "_law_read")) (Value.str (Str.ofString "_law_read") (437 : Nat)) (Value.ref (196 : Nat))), (DictEntry.mk (PyData.keyHash P (Str.ofString "law")) (Value.str (Str.ofString "law") (443 : Nat)) (Value.ref (201 : Nat)))] (20 : Nat)) #[])
noncomputable def hd.o_209 : Params → Obj := fun P => (Obj.mk Value.none (none : Option Nat) (Data.fields #[(Value.int 2 (0 : Nat)), (Value.int 0 (0 : Nat)), (Value.ref (20 : Nat)), (Value.int 4 (0 : Nat)), (Value.int 0 (0 : Nat)), (Value.ref (33 : Nat)), (Value.int 11 (0 : Nat)), (Value.int 0 (0 : Nat)), (Value.ref (52 : Nat)), (Value.int 35 (0 : Nat)), (Value.int 0 (0 : Nat)), (Value.ref (101 : Nat)), (Value.int 89 (0 : Nat)), (Value.int 0 (0 : Nat)), (Value.ref (169 : Nat)), (Value.int 100 (0 : Nat)), (Value.int 0 (0 : Nat)), (Value.ref (176 : Nat)), (Value.int 107 (0 : Nat)), (Value.int 0 (0 : Nat)), (Value.ref (183 : Nat)), (Value.int 111 (0 : Nat)), (Value.int 0 (0 : Nat)), (Value.ref (188 : Nat)), (Value.int 113 (0 : Nat)), (Value.int 0 (0 : Nat)), (Value.ref (195 : Nat)), (Value.int 122 (0 : Nat)), (Value.int 0 (0 : Nat)), (Value.ref (200 : Nat))]) #[])
noncomputable def hd.o_210 : Params → Obj := fun P => (Obj.mk (Value.type "tuple") (none : Option Nat) (Data.seq #[] (0 : Nat)) #[])
noncomputable def hd.o_211 : Params → Obj := fun P => (Obj.mk Value.none (none : Option Nat) (Data.fields #[]) #[])
noncomputable def hd.o_212 : Params → Obj := fun P => (Obj.mk (Value.type "tuple") (none : Option Nat) (Data.seq #[(Value.str (Str.ofString "hand") (395 : Nat)), (Value.str (Str.ofString "limit") (396 : Nat)), (Value.str (Str.ofString "figure") (397 : Nat)), (Value.str (Str.ofString "digit") (398 : Nat))] (0 : Nat)) #[])
noncomputable def hd.o_213 : Params → Obj := fun P => (Obj.mk (Value.type "tuple") (none : Option Nat) (Data.seq #[] (0 : Nat)) #[])
noncomputable def hd.o_214 : Params → Obj := by
  refine (?F : ∀ (p : Arguments) (b : List Stmt) (s : Scope) (_ : fnIn (stm 8) = some (p, b, s)), Params → Obj) _ _ _ rfl
  exact fun p b s _ P => (Obj.mk Value.none (none : Option Nat) (Data.func (FuncData.mk (Str.ofString "_law_pick") (Str.ofString "_law_pick") p (FuncBody.stmts b) s (0 : Nat) ([] : List (Str × Nat)) Value.none Value.none Value.none Value.none (none : Option Nat) Value.none Value.none (0 : Nat))) #[])
noncomputable def hd.o_215 : Params → Obj := fun P => (Obj.mk (Value.type "code") (none : Option Nat) (Data.fields #[(Value.str (Str.ofString "_law_pick") (392 : Nat)), (Value.str (Str.ofString "_law_pick") (393 : Nat)), (Value.str (Str.ofString "/claim/cut.py") (394 : Nat)), (Value.int 89 (0 : Nat)), (Value.int 2 (0 : Nat)), (Value.int 0 (0 : Nat)), (Value.int 0 (0 : Nat)), (Value.int 3 (0 : Nat)), (Value.ref (164 : Nat)), (Value.bool Bool.true), (Value.int 181 (0 : Nat)), (Value.ref (165 : Nat)), Value.none, (Value.ref (166 : Nat)), (Value.ref (167 : Nat)), (Value.ref (168 : Nat)), (Value.int 399 (0 : Nat)), (Value.int 89 (0 : Nat)), (Value.str (Str.ofString "/claim/cut.py") (400 : Nat))]) #[])
noncomputable def hd.o_216 : Params → Obj := by
  refine (?F : ∀ (p : Arguments) (b : List Stmt) (s : Scope) (_ : fnIn (stm 8) = some (p, b, s)), Params → Obj) _ _ _ rfl
  exact fun p b s _ P => (Obj.mk (Value.type "function") (none : Option Nat) (Data.func (FuncData.mk (Str.ofString "_law_pick") (Str.ofString "_law_pick") p (FuncBody.stmts b) s (3 : Nat) ([] : List (Str × Nat)) Value.none Value.none Value.none (Value.str (Str.ofString "law_nu0313_01") (390 : Nat)) (none : Option Nat) (Value.ref (169 : Nat)) Value.none (0 : Nat))) #[])
noncomputable def hd.o_217 : Params → Obj := fun P => (Obj.mk (Value.type "tuple") (none : Option Nat) (Data.seq #[] (0 : Nat)) #[])
noncomputable def hd.o_218 : Params → Obj := fun P => (Obj.mk Value.none (none : Option Nat) (Data.fields #[]) #[])
noncomputable def hd.o_219 : Params → Obj := fun P => (Obj.mk (Value.type "tuple") (none : Option Nat) (Data.seq #[(Value.str (Str.ofString "value") (405 : Nat)), (Value.str (Str.ofString "rest") (406 : Nat)), (Value.str (Str.ofString "found") (407 : Nat))] (0 : Nat)) #[])
noncomputable def hd.o_220 : Params → Obj := fun P => (Obj.mk (Value.type "tuple") (none : Option Nat) (Data.seq #[] (0 : Nat)) #[])
noncomputable def hd.o_221 : Params → Obj := by
  refine (?F : ∀ (p : Arguments) (b : List Stmt) (s : Scope) (_ : fnIn (stm 9) = some (p, b, s)), Params → Obj) _ _ _ rfl
  exact fun p b s _ P => (Obj.mk Value.none (none : Option Nat) (Data.func (FuncData.mk (Str.ofString "_law_groups") (Str.ofString "_law_groups") p (FuncBody.stmts b) s (0 : Nat) ([] : List (Str × Nat)) Value.none Value.none Value.none Value.none (none : Option Nat) Value.none Value.none (0 : Nat))) #[])
noncomputable def hd.o_222 : Params → Obj := fun P => (Obj.mk (Value.type "code") (none : Option Nat) (Data.fields #[(Value.str (Str.ofString "_law_groups") (402 : Nat)), (Value.str (Str.ofString "_law_groups") (403 : Nat)), (Value.str (Str.ofString "/claim/cut.py") (404 : Nat)), (Value.int 100 (0 : Nat)), (Value.int 1 (0 : Nat)), (Value.int 0 (0 : Nat)), (Value.int 0 (0 : Nat)), (Value.int 3 (0 : Nat)), (Value.ref (171 : Nat)), (Value.bool Bool.true), (Value.int 181 (0 : Nat)), (Value.ref (172 : Nat)), Value.none, (Value.ref (173 : Nat)), (Value.ref (174 : Nat)), (Value.ref (175 : Nat)), (Value.int 408 (0 : Nat)), (Value.int 100 (0 : Nat)), (Value.str (Str.ofString "/claim/cut.py") (409 : Nat))]) #[])
noncomputable def hd.o_223 : Params → Obj := by
  refine (?F : ∀ (p : Arguments) (b : List Stmt) (s : Scope) (_ : fnIn (stm 9) = some (p, b, s)), Params → Obj) _ _ _ rfl
  exact fun p b s _ P => (Obj.mk (Value.type "function") (none : Option Nat) (Data.func (FuncData.mk (Str.ofString "_law_groups") (Str.ofString "_law_groups") p (FuncBody.stmts b) s (3 : Nat) ([] : List (Str × Nat)) Value.none Value.none Value.none (Value.str (Str.ofString "law_nu0313_01") (390 : Nat)) (none : Option Nat) (Value.ref (176 : Nat)) Value.none (0 : Nat))) #[])
noncomputable def hd.o_224 : Params → Obj := fun P => (Obj.mk (Value.type "tuple") (none : Option Nat) (Data.seq #[] (0 : Nat)) #[])
noncomputable def hd.o_225 : Params → Obj := fun P => (Obj.mk Value.none (none : Option Nat) (Data.fields #[]) #[])
noncomputable def hd.o_226 : Params → Obj := fun P => (Obj.mk (Value.type "tuple") (none : Option Nat) (Data.seq #[(Value.str (Str.ofString "hand") (414 : Nat)), (Value.str (Str.ofString "form") (415 : Nat)), (Value.str (Str.ofString "value") (416 : Nat))] (0 : Nat)) #[])
noncomputable def hd.o_227 : Params → Obj := fun P => (Obj.mk (Value.type "tuple") (none : Option Nat) (Data.seq #[] (0 : Nat)) #[])
noncomputable def hd.o_228 : Params → Obj := by
  refine (?F : ∀ (p : Arguments) (b : List Stmt) (s : Scope) (_ : fnIn (stm 10) = some (p, b, s)), Params → Obj) _ _ _ rfl
  exact fun p b s _ P => (Obj.mk Value.none (none : Option Nat) (Data.func (FuncData.mk (Str.ofString "_law_figure") (Str.ofString "_law_figure") p (FuncBody.stmts b) s (0 : Nat) ([] : List (Str × Nat)) Value.none Value.none Value.none Value.none (none : Option Nat) Value.none Value.none (0 : Nat))) #[])
noncomputable def hd.o_229 : Params → Obj := fun P => (Obj.mk (Value.type "code") (none : Option Nat) (Data.fields #[(Value.str (Str.ofString "_law_figure") (411 : Nat)), (Value.str (Str.ofString "_law_figure") (412 : Nat)), (Value.str (Str.ofString "/claim/cut.py") (413 : Nat)), (Value.int 107 (0 : Nat)), (Value.int 1 (0 : Nat)), (Value.int 0 (0 : Nat)), (Value.int 0 (0 : Nat)), (Value.int 3 (0 : Nat)), (Value.ref (178 : Nat)), (Value.bool Bool.true), (Value.int 181 (0 : Nat)), (Value.ref (179 : Nat)), Value.none, (Value.ref (180 : Nat)), (Value.ref (181 : Nat)), (Value.ref (182 : Nat)), (Value.int 417 (0 : Nat)), (Value.int 107 (0 : Nat)), (Value.str (Str.ofString "/claim/cut.py") (418 : Nat))]) #[])
noncomputable def hd.o_230 : Params → Obj := by
  refine (?F : ∀ (p : Arguments) (b : List Stmt) (s : Scope) (_ : fnIn (stm 10) = some (p, b, s)), Params → Obj) _ _ _ rfl
  exact fun p b s _ P => (Obj.mk (Value.type "function") (none : Option Nat) (Data.func (FuncData.mk (Str.ofString "_law_figure") (Str.ofString "_law_figure") p (FuncBody.stmts b) s (3 : Nat) ([] : List (Str × Nat)) Value.none Value.none Value.none (Value.str (Str.ofString "law_nu0313_01") (390 : Nat)) (none : Option Nat) (Value.ref (183 : Nat)) Value.none (0 : Nat))) #[])
noncomputable def hd.o_231 : Params → Obj := fun P => (Obj.mk (Value.type "tuple") (none : Option Nat) (Data.seq #[] (0 : Nat)) #[])
noncomputable def hd.o_232 : Params → Obj := fun P => (Obj.mk Value.none (none : Option Nat) (Data.fields #[]) #[])
noncomputable def hd.o_233 : Params → Obj := by
  refine (?F : ∀ (p : Arguments) (b : List Stmt) (s : Scope) (_ : fnIn (stm 11) = some (p, b, s)), Params → Obj) _ _ _ rfl
  exact fun p b s _ P => (Obj.mk Value.none (none : Option Nat) (Data.func (FuncData.mk (Str.ofString "_law_word") (Str.ofString "_law_word") p (FuncBody.stmts b) s (0 : Nat) ([] : List (Str × Nat)) Value.none Value.none Value.none Value.none (none : Option Nat) Value.none Value.none (0 : Nat))) #[])
noncomputable def hd.o_234 : Params → Obj := fun P => (Obj.mk (Value.type "code") (none : Option Nat) (Data.fields #[(Value.str (Str.ofString "_law_word") (420 : Nat)), (Value.str (Str.ofString "_law_word") (421 : Nat)), (Value.str (Str.ofString "/claim/cut.py") (422 : Nat)), (Value.int 111 (0 : Nat)), (Value.int 1 (0 : Nat)), (Value.int 0 (0 : Nat)), (Value.int 0 (0 : Nat)), (Value.int 3 (0 : Nat)), (Value.ref (185 : Nat)), (Value.bool Bool.true), (Value.int 181 (0 : Nat)), (Value.ref (186 : Nat)), Value.none, Value.none, Value.none, (Value.ref (187 : Nat)), (Value.int 423 (0 : Nat)), (Value.int 111 (0 : Nat)), (Value.str (Str.ofString "/claim/cut.py") (424 : Nat))]) #[])
noncomputable def hd.o_235 : Params → Obj := by
  refine (?F : ∀ (p : Arguments) (b : List Stmt) (s : Scope) (_ : fnIn (stm 11) = some (p, b, s)), Params → Obj) _ _ _ rfl
  exact fun p b s _ P => (Obj.mk (Value.type "function") (none : Option Nat) (Data.func (FuncData.mk (Str.ofString "_law_word") (Str.ofString "_law_word") p (FuncBody.stmts b) s (3 : Nat) ([] : List (Str × Nat)) Value.none Value.none Value.none (Value.str (Str.ofString "law_nu0313_01") (390 : Nat)) (none : Option Nat) (Value.ref (188 : Nat)) Value.none (0 : Nat))) #[])
noncomputable def hd.o_236 : Params → Obj := fun P => (Obj.mk (Value.type "tuple") (none : Option Nat) (Data.seq #[] (0 : Nat)) #[])
noncomputable def hd.o_237 : Params → Obj := fun P => (Obj.mk Value.none (none : Option Nat) (Data.fields #[]) #[])
noncomputable def hd.o_238 : Params → Obj := fun P => (Obj.mk (Value.type "tuple") (none : Option Nat) (Data.seq #[(Value.str (Str.ofString "data") (429 : Nat)), (Value.str (Str.ofString "kinds") (430 : Nat)), (Value.str (Str.ofString "reader") (431 : Nat)), (Value.str (Str.ofString "found") (432 : Nat)), (Value.str (Str.ofString "kind") (433 : Nat)), (Value.str (Str.ofString "error") (434 : Nat))] (0 : Nat)) #[])
noncomputable def hd.o_239 : Params → Obj := fun P => (Obj.mk (Value.type "tuple") (none : Option Nat) (Data.seq #[] (0 : Nat)) #[])
noncomputable def hd.o_240 : Params → Obj := by
  refine (?F : ∀ (p : Arguments) (b : List Stmt) (s : Scope) (_ : fnIn (stm 12) = some (p, b, s)), Params → Obj) _ _ _ rfl
  exact fun p b s _ P => (Obj.mk Value.none (none : Option Nat) (Data.func (FuncData.mk (Str.ofString "_law_read") (Str.ofString "_law_read") p (FuncBody.stmts b) s (0 : Nat) ([] : List (Str × Nat)) Value.none Value.none Value.none Value.none (none : Option Nat) Value.none Value.none (0 : Nat))) #[])
noncomputable def hd.o_241 : Params → Obj := fun P => (Obj.mk (Value.type "code") (none : Option Nat) (Data.fields #[(Value.str (Str.ofString "_law_read") (426 : Nat)), (Value.str (Str.ofString "_law_read") (427 : Nat)), (Value.str (Str.ofString "/claim/cut.py") (428 : Nat)), (Value.int 113 (0 : Nat)), (Value.int 2 (0 : Nat)), (Value.int 0 (0 : Nat)), (Value.int 0 (0 : Nat)), (Value.int 3 (0 : Nat)), (Value.ref (190 : Nat)), (Value.bool Bool.true), (Value.int 181 (0 : Nat)), (Value.ref (191 : Nat)), Value.none, (Value.ref (192 : Nat)), (Value.ref (193 : Nat)), (Value.ref (194 : Nat)), (Value.int 435 (0 : Nat)), (Value.int 113 (0 : Nat)), (Value.str (Str.ofString "/claim/cut.py") (436 : Nat))]) #[])
noncomputable def hd.o_242 : Params → Obj := by
  refine (?F : ∀ (p : Arguments) (b : List Stmt) (s : Scope) (_ : fnIn (stm 12) = some (p, b, s)), Params → Obj) _ _ _ rfl
  exact fun p b s _ P => (Obj.mk (Value.type "function") (none : Option Nat) (Data.func (FuncData.mk (Str.ofString "_law_read") (Str.ofString "_law_read") p (FuncBody.stmts b) s (3 : Nat) ([] : List (Str × Nat)) Value.none Value.none Value.none (Value.str (Str.ofString "law_nu0313_01") (390 : Nat)) (none : Option Nat) (Value.ref (195 : Nat)) Value.none (0 : Nat))) #[])
noncomputable def hd.o_243 : Params → Obj := fun P => (Obj.mk (Value.type "tuple") (none : Option Nat) (Data.seq #[] (0 : Nat)) #[])
noncomputable def hd.o_244 : Params → Obj := fun P => (Obj.mk Value.none (none : Option Nat) (Data.fields #[]) #[])
noncomputable def hd.o_245 : Params → Obj := by
  refine (?F : ∀ (p : Arguments) (b : List Stmt) (s : Scope) (_ : fnIn (stm 13) = some (p, b, s)), Params → Obj) _ _ _ rfl
  exact fun p b s _ P => (Obj.mk Value.none (none : Option Nat) (Data.func (FuncData.mk (Str.ofString "law") (Str.ofString "law") p (FuncBody.stmts b) s (0 : Nat) ([] : List (Str × Nat)) Value.none Value.none Value.none Value.none (none : Option Nat) Value.none Value.none (0 : Nat))) #[])
noncomputable def hd.o_246 : Params → Obj := fun P => (Obj.mk (Value.type "code") (none : Option Nat) (Data.fields #[(Value.str (Str.ofString "law") (438 : Nat)), (Value.str (Str.ofString "law") (439 : Nat)), (Value.str (Str.ofString "/claim/cut.py") (440 : Nat)), (Value.int 122 (0 : Nat)), (Value.int 1 (0 : Nat)), (Value.int 0 (0 : Nat)), (Value.int 0 (0 : Nat)), (Value.int 3 (0 : Nat)), (Value.ref (197 : Nat)), (Value.bool Bool.true), (Value.int 181 (0 : Nat)), (Value.ref (198 : Nat)), Value.none, Value.none, Value.none, (Value.ref (199 : Nat)), (Value.int 441 (0 : Nat)), (Value.int 122 (0 : Nat)), (Value.str (Str.ofString "/claim/cut.py") (442 : Nat))]) #[])
noncomputable def hd.o_247 : Params → Obj := by
  refine (?F : ∀ (p : Arguments) (b : List Stmt) (s : Scope) (_ : fnIn (stm 13) = some (p, b, s)), Params → Obj) _ _ _ rfl
  exact fun p b s _ P => (Obj.mk (Value.type "function") (none : Option Nat) (Data.func (FuncData.mk (Str.ofString "law") (Str.ofString "law") p (FuncBody.stmts b) s (3 : Nat) ([] : List (Str × Nat)) Value.none Value.none Value.none (Value.str (Str.ofString "law_nu0313_01") (390 : Nat)) (none : Option Nat) (Value.ref (200 : Nat)) Value.none (0 : Nat))) #[])
noncomputable def hd.tree_247 : Params → W.BT := fun P => (W.BT.node (W.boot_o_0 P) (W.BT.node (W.boot_o_1 P) (W.BT.node (hd.o_208 P) (W.BT.node (W.boot_o_7 P) (W.BT.node (hd.o_52 P) (W.BT.node (hd.o_71 P) (W.BT.node (hd.o_105 P) (W.BT.node (hd.o_171 P) W.BT.nil W.BT.nil) (W.BT.node (hd.o_237 P) W.BT.nil W.BT.nil)) (W.BT.node (hd.o_137 P) (W.BT.node (hd.o_203 P) W.BT.nil W.BT.nil) W.BT.nil)) (W.BT.node (hd.o_89 P) (W.BT.node (hd.o_121 P) (W.BT.node (hd.o_187 P) W.BT.nil W.BT.nil) W.BT.nil) (W.BT.node (hd.o_155 P) (W.BT.node (hd.o_221 P) W.BT.nil W.BT.nil) W.BT.nil))) (W.BT.node (hd.o_60 P) (W.BT.node (hd.o_79 P) (W.BT.node (hd.o_113 P) (W.BT.node (hd.o_179 P) W.BT.nil W.BT.nil) (W.BT.node (hd.o_245 P) W.BT.nil W.BT.nil)) (W.BT.node (hd.o_147 P) (W.BT.node (hd.o_213 P) W.BT.nil W.BT.nil) W.BT.nil)) (W.BT.node (hd.o_97 P) (W.BT.node (hd.o_129 P) (W.BT.node (hd.o_195 P) W.BT.nil W.BT.nil) W.BT.nil) (W.BT.node (hd.o_163 P) (W.BT.node (hd.o_229 P) W.BT.nil W.BT.nil) W.BT.nil)))) (W.BT.node (hd.o_43 P) (W.BT.node (hd.o_56 P) (W.BT.node (hd.o_75 P) (W.BT.node (hd.o_109 P) (W.BT.node (hd.o_175 P) W.BT.nil W.BT.nil) (W.BT.node (hd.o_241 P) W.BT.nil W.BT.nil)) (W.BT.node (hd.o_143 P) (W.BT.node (hd.o_207 P) W.BT.nil W.BT.nil) W.BT.nil)) (W.BT.node (hd.o_93 P) (W.BT.node (hd.o_125 P) (W.BT.node (hd.o_191 P) W.BT.nil W.BT.nil) W.BT.nil) (W.BT.node (hd.o_159 P) (W.BT.node (hd.o_225 P) W.BT.nil W.BT.nil) W.BT.nil))) (W.BT.node (hd.o_64 P) (W.BT.node (hd.o_83 P) (W.BT.node (hd.o_117 P) (W.BT.node (hd.o_183 P) W.BT.nil W.BT.nil) W.BT.nil) (W.BT.node (hd.o_151 P) (W.BT.node (hd.o_217 P) W.BT.nil W.BT.nil) W.BT.nil)) (W.BT.node (hd.o_101 P) (W.BT.node (hd.o_133 P) (W.BT.node (hd.o_199 P) W.BT.nil W.BT.nil) W.BT.nil) (W.BT.node (hd.o_167 P) (W.BT.node (hd.o_233 P) W.BT.nil W.BT.nil) W.BT.nil))))) (W.BT.node (W.boot_o_5 P) (W.BT.node (W.boot_o_9 P) (W.BT.node (hd.o_54 P) (W.BT.node (hd.o_73 P) (W.BT.node (hd.o_107 P) (W.BT.node (hd.o_173 P) W.BT.nil W.BT.nil) (W.BT.node (hd.o_239 P) W.BT.nil W.BT.nil)) (W.BT.node (hd.o_141 P) (W.BT.node (hd.o_205 P) W.BT.nil W.BT.nil) W.BT.nil)) (W.BT.node (hd.o_91 P) (W.BT.node (hd.o_123 P) (W.BT.node (hd.o_189 P) W.BT.nil W.BT.nil) W.BT.nil) (W.BT.node (hd.o_157 P) (W.BT.node (hd.o_223 P) W.BT.nil W.BT.nil) W.BT.nil))) (W.BT.node (hd.o_62 P) (W.BT.node (hd.o_81 P) (W.BT.node (hd.o_115 P) (W.BT.node (hd.o_181 P) W.BT.nil W.BT.nil) (W.BT.node (hd.o_247 P) W.BT.nil W.BT.nil)) (W.BT.node (hd.o_149 P) (W.BT.node (hd.o_215 P) W.BT.nil W.BT.nil) W.BT.nil)) (W.BT.node (hd.o_99 P) (W.BT.node (hd.o_131 P) (W.BT.node (hd.o_197 P) W.BT.nil W.BT.nil) W.BT.nil) (W.BT.node (hd.o_165 P) (W.BT.node (hd.o_231 P) W.BT.nil W.BT.nil) W.BT.nil)))) (W.BT.node (hd.o_45 P) (W.BT.node (hd.o_58 P) (W.BT.node (hd.o_77 P) (W.BT.node (hd.o_111 P) (W.BT.node (hd.o_177 P) W.BT.nil W.BT.nil) (W.BT.node (hd.o_243 P) W.BT.nil W.BT.nil)) (W.BT.node (hd.o_145 P) (W.BT.node (hd.o_211 P) W.BT.nil W.BT.nil) W.BT.nil)) (W.BT.node (hd.o_95 P) (W.BT.node (hd.o_127 P) (W.BT.node (hd.o_193 P) W.BT.nil W.BT.nil) W.BT.nil) (W.BT.node (hd.o_161 P) (W.BT.node (hd.o_227 P) W.BT.nil W.BT.nil) W.BT.nil))) (W.BT.node (hd.o_69 P) (W.BT.node (hd.o_85 P) (W.BT.node (hd.o_119 P) (W.BT.node (hd.o_185 P) W.BT.nil W.BT.nil) W.BT.nil) (W.BT.node (hd.o_153 P) (W.BT.node (hd.o_219 P) W.BT.nil W.BT.nil) W.BT.nil)) (W.BT.node (hd.o_103 P) (W.BT.node (hd.o_135 P) (W.BT.node (hd.o_201 P) W.BT.nil W.BT.nil) W.BT.nil) (W.BT.node (hd.o_169 P) (W.BT.node (hd.o_235 P) W.BT.nil W.BT.nil) W.BT.nil)))))) (W.BT.node (hd.o_49 P) (W.BT.node (W.boot_o_4 P) (W.BT.node (W.boot_o_8 P) (W.BT.node (hd.o_53 P) (W.BT.node (hd.o_72 P) (W.BT.node (hd.o_106 P) (W.BT.node (hd.o_172 P) W.BT.nil W.BT.nil) (W.BT.node (hd.o_238 P) W.BT.nil W.BT.nil)) (W.BT.node (hd.o_140 P) (W.BT.node (hd.o_204 P) W.BT.nil W.BT.nil) W.BT.nil)) (W.BT.node (hd.o_90 P) (W.BT.node (hd.o_122 P) (W.BT.node (hd.o_188 P) W.BT.nil W.BT.nil) W.BT.nil) (W.BT.node (hd.o_156 P) (W.BT.node (hd.o_222 P) W.BT.nil W.BT.nil) W.BT.nil))) (W.BT.node (hd.o_67 P) (W.BT.node (hd.o_80 P) (W.BT.node (hd.o_114 P) (W.BT.node (hd.o_180 P) W.BT.nil W.BT.nil) (W.BT.node (hd.o_246 P) W.BT.nil W.BT.nil)) (W.BT.node (hd.o_148 P) (W.BT.node (hd.o_214 P) W.BT.nil W.BT.nil) W.BT.nil)) (W.BT.node (hd.o_98 P) (W.BT.node (hd.o_130 P) (W.BT.node (hd.o_196 P) W.BT.nil W.BT.nil) W.BT.nil) (W.BT.node (hd.o_164 P) (W.BT.node (hd.o_230 P) W.BT.nil W.BT.nil) W.BT.nil)))) (W.BT.node (hd.o_209 P) (W.BT.node (hd.o_57 P) (W.BT.node (hd.o_76 P) (W.BT.node (hd.o_110 P) (W.BT.node (hd.o_176 P) W.BT.nil W.BT.nil) (W.BT.node (hd.o_242 P) W.BT.nil W.BT.nil)) (W.BT.node (hd.o_144 P) (W.BT.node (hd.o_210 P) W.BT.nil W.BT.nil) W.BT.nil)) (W.BT.node (hd.o_94 P) (W.BT.node (hd.o_126 P) (W.BT.node (hd.o_192 P) W.BT.nil W.BT.nil) W.BT.nil) (W.BT.node (hd.o_160 P) (W.BT.node (hd.o_226 P) W.BT.nil W.BT.nil) W.BT.nil))) (W.BT.node (hd.o_68 P) (W.BT.node (hd.o_84 P) (W.BT.node (hd.o_118 P) (W.BT.node (hd.o_184 P) W.BT.nil W.BT.nil) W.BT.nil) (W.BT.node (hd.o_152 P) (W.BT.node (hd.o_218 P) W.BT.nil W.BT.nil) W.BT.nil)) (W.BT.node (hd.o_102 P) (W.BT.node (hd.o_134 P) (W.BT.node (hd.o_200 P) W.BT.nil W.BT.nil) W.BT.nil) (W.BT.node (hd.o_168 P) (W.BT.node (hd.o_234 P) W.BT.nil W.BT.nil) W.BT.nil))))) (W.BT.node (W.boot_o_6 P) (W.BT.node (W.boot_o_10 P) (W.BT.node (hd.o_55 P) (W.BT.node (hd.o_74 P) (W.BT.node (hd.o_108 P) (W.BT.node (hd.o_174 P) W.BT.nil W.BT.nil) (W.BT.node (hd.o_240 P) W.BT.nil W.BT.nil)) (W.BT.node (hd.o_142 P) (W.BT.node (hd.o_206 P) W.BT.nil W.BT.nil) W.BT.nil)) (W.BT.node (hd.o_92 P) (W.BT.node (hd.o_124 P) (W.BT.node (hd.o_190 P) W.BT.nil W.BT.nil) W.BT.nil) (W.BT.node (hd.o_158 P) (W.BT.node (hd.o_224 P) W.BT.nil W.BT.nil) W.BT.nil))) (W.BT.node (hd.o_63 P) (W.BT.node (hd.o_82 P) (W.BT.node (hd.o_116 P) (W.BT.node (hd.o_182 P) W.BT.nil W.BT.nil) W.BT.nil) (W.BT.node (hd.o_150 P) (W.BT.node (hd.o_216 P) W.BT.nil W.BT.nil) W.BT.nil)) (W.BT.node (hd.o_100 P) (W.BT.node (hd.o_132 P) (W.BT.node (hd.o_198 P) W.BT.nil W.BT.nil) W.BT.nil) (W.BT.node (hd.o_166 P) (W.BT.node (hd.o_232 P) W.BT.nil W.BT.nil) W.BT.nil)))) (W.BT.node (hd.o_46 P) (W.BT.node (hd.o_59 P) (W.BT.node (hd.o_78 P) (W.BT.node (hd.o_112 P) (W.BT.node (hd.o_178 P) W.BT.nil W.BT.nil) (W.BT.node (hd.o_244 P) W.BT.nil W.BT.nil)) (W.BT.node (hd.o_146 P) (W.BT.node (hd.o_212 P) W.BT.nil W.BT.nil) W.BT.nil)) (W.BT.node (hd.o_96 P) (W.BT.node (hd.o_128 P) (W.BT.node (hd.o_194 P) W.BT.nil W.BT.nil) W.BT.nil) (W.BT.node (hd.o_162 P) (W.BT.node (hd.o_228 P) W.BT.nil W.BT.nil) W.BT.nil))) (W.BT.node (hd.o_70 P) (W.BT.node (hd.o_86 P) (W.BT.node (hd.o_120 P) (W.BT.node (hd.o_186 P) W.BT.nil W.BT.nil) W.BT.nil) (W.BT.node (hd.o_154 P) (W.BT.node (hd.o_220 P) W.BT.nil W.BT.nil) W.BT.nil)) (W.BT.node (hd.o_104 P) (W.BT.node (hd.o_136 P) (W.BT.node (hd.o_202 P) W.BT.nil W.BT.nil) W.BT.nil) (W.BT.node (hd.o_170 P) (W.BT.node (hd.o_236 P) W.BT.nil W.BT.nil) W.BT.nil)))))))
noncomputable def hd.heap_248 : Params → Heap := fun P => (Heap.mk (Array.mk ((W.boot_o_0 P) :: (W.boot_o_1 P) :: (hd.o_49 P) :: (hd.o_208 P) :: (W.boot_o_4 P) :: (W.boot_o_5 P) :: (W.boot_o_6 P) :: (W.boot_o_7 P) :: (W.boot_o_8 P) :: (W.boot_o_9 P) :: (W.boot_o_10 P) :: (hd.o_43 P) :: (hd.o_209 P) :: (hd.o_45 P) :: (hd.o_46 P) :: (hd.o_52 P) :: (hd.o_53 P) :: (hd.o_54 P) :: (hd.o_55 P) :: (hd.o_56 P) :: (hd.o_57 P) :: (hd.o_58 P) :: (hd.o_59 P) :: (hd.o_60 P) :: (hd.o_67 P) :: (hd.o_62 P) :: (hd.o_63 P) :: (hd.o_64 P) :: (hd.o_68 P) :: (hd.o_69 P) :: (hd.o_70 P) :: (hd.o_71 P) :: (hd.o_72 P) :: (hd.o_73 P) :: (hd.o_74 P) :: (hd.o_75 P) :: (hd.o_76 P) :: (hd.o_77 P) :: (hd.o_78 P) :: (hd.o_79 P) :: (hd.o_80 P) :: (hd.o_81 P) :: (hd.o_82 P) :: (hd.o_83 P) :: (hd.o_84 P) :: (hd.o_85 P) :: (hd.o_86 P) :: (hd.o_89 P) :: (hd.o_90 P) :: (hd.o_91 P) :: (hd.o_92 P) :: (hd.o_93 P) :: (hd.o_94 P) :: (hd.o_95 P) :: (hd.o_96 P) :: (hd.o_97 P) :: (hd.o_98 P) :: (hd.o_99 P) :: (hd.o_100 P) :: (hd.o_101 P) :: (hd.o_102 P) :: (hd.o_103 P) :: (hd.o_104 P) :: (hd.o_105 P) :: (hd.o_106 P) :: (hd.o_107 P) :: (hd.o_108 P) :: (hd.o_109 P) :: (hd.o_110 P) :: (hd.o_111 P) :: (hd.o_112 P) :: (hd.o_113 P) :: (hd.o_114 P) :: (hd.o_115 P) :: (hd.o_116 P) :: (hd.o_117 P) :: (hd.o_118 P) :: (hd.o_119 P) :: (hd.o_120 P) :: (hd.o_121 P) :: (hd.o_122 P) :: (hd.o_123 P) :: (hd.o_124 P) :: (hd.o_125 P) :: (hd.o_126 P) :: (hd.o_127 P) :: (hd.o_128 P) :: (hd.o_129 P) :: (hd.o_130 P) :: (hd.o_131 P) :: (hd.o_132 P) :: (hd.o_133 P) :: (hd.o_134 P) :: (hd.o_135 P) :: (hd.o_136 P) :: (hd.o_137 P) :: (hd.o_140 P) :: (hd.o_141 P) :: (hd.o_142 P) :: (hd.o_143 P) :: (hd.o_144 P) :: (hd.o_145 P) :: (hd.o_146 P) :: (hd.o_147 P) :: (hd.o_148 P) :: (hd.o_149 P) :: (hd.o_150 P) :: (hd.o_151 P) :: (hd.o_152 P) :: (hd.o_153 P) :: (hd.o_154 P) :: (hd.o_155 P) :: (hd.o_156 P) :: (hd.o_157 P) :: (hd.o_158 P) :: (hd.o_159 P) :: (hd.o_160 P) :: (hd.o_161 P) :: (hd.o_162 P) :: (hd.o_163 P) :: (hd.o_164 P) :: (hd.o_165 P) :: (hd.o_166 P) :: (hd.o_167 P) :: (hd.o_168 P) :: (hd.o_169 P) :: (hd.o_170 P) :: (hd.o_171 P) :: (hd.o_172 P) :: (hd.o_173 P) :: (hd.o_174 P) :: (hd.o_175 P) :: (hd.o_176 P) :: (hd.o_177 P) :: (hd.o_178 P) :: (hd.o_179 P) :: (hd.o_180 P) :: (hd.o_181 P) :: (hd.o_182 P) :: (hd.o_183 P) :: (hd.o_184 P) :: (hd.o_185 P) :: (hd.o_186 P) :: (hd.o_187 P) :: (hd.o_188 P) :: (hd.o_189 P) :: (hd.o_190 P) :: (hd.o_191 P) :: (hd.o_192 P) :: (hd.o_193 P) :: (hd.o_194 P) :: (hd.o_195 P) :: (hd.o_196 P) :: (hd.o_197 P) :: (hd.o_198 P) :: (hd.o_199 P) :: (hd.o_200 P) :: (hd.o_201 P) :: (hd.o_202 P) :: (hd.o_203 P) :: (hd.o_204 P) :: (hd.o_205 P) :: (hd.o_206 P) :: (hd.o_207 P) :: (hd.o_210 P) :: (hd.o_211 P) :: (hd.o_212 P) :: (hd.o_213 P) :: (hd.o_214 P) :: (hd.o_215 P) :: (hd.o_216 P) :: (hd.o_217 P) :: (hd.o_218 P) :: (hd.o_219 P) :: (hd.o_220 P) :: (hd.o_221 P) :: (hd.o_222 P) :: (hd.o_223 P) :: (hd.o_224 P) :: (hd.o_225 P) :: (hd.o_226 P) :: (hd.o_227 P) :: (hd.o_228 P) :: (hd.o_229 P) :: (hd.o_230 P) :: (hd.o_231 P) :: (hd.o_232 P) :: (hd.o_233 P) :: (hd.o_234 P) :: (hd.o_235 P) :: (hd.o_236 P) :: (hd.o_237 P) :: (hd.o_238 P) :: (hd.o_239 P) :: (hd.o_240 P) :: (hd.o_241 P) :: (hd.o_242 P) :: (hd.o_243 P) :: (hd.o_244 P) :: (hd.o_245 P) :: (hd.o_246 P) :: (hd.o_247 P) :: [])) ({} : Life))
end
section
open PySem PySem.W PyProof.Rows
noncomputable def hd.view_39 : Program := view PySem.Challenge.pw_nu0313_01 [1, 2, 4, 5, 6, 8, 9, 10, 11, 12, 13]
theorem hd.law (h : PySem.Challenge.rw_nu0313_01.row.wellSaid = true → PySem.Challenge.rw_nu0313_01.row.Holds) : PySem.Challenge.rw_nu0313_01.Holds := by
  o_law
  exact h (by assumption)
noncomputable def hd.at : List Addr := 2 :: 3 :: 15 :: 22 :: 23 :: 24 :: 25 :: 28 :: 35 :: 37 :: 38 :: 40 :: 41 :: 42 :: 43 :: 44 :: 54 :: 56 :: 57 :: 59 :: 60 :: 61 :: 63 :: 64 :: 66 :: 67 :: 68 :: 70 :: 71 :: 73 :: 74 :: 75 :: 77 :: 78 :: 80 :: 81 :: 82 :: 84 :: 85 :: 87 :: 88 :: 89 :: 90 :: 91 :: 92 :: 93 :: 103 :: 105 :: 106 :: 108 :: 109 :: 110 :: 112 :: 113 :: 115 :: 116 :: 117 :: 119 :: 120 :: 122 :: 123 :: 124 :: 126 :: 127 :: 129 :: 130 :: 131 :: 133 :: 134 :: 136 :: 137 :: 138 :: 140 :: 141 :: 143 :: 144 :: 145 :: 147 :: 148 :: 150 :: 151 :: 152 :: 155 :: 156 :: 157 :: 158 :: 159 :: 160 :: 161 :: 164 :: 166 :: 167 :: 169 :: 170 :: 171 :: 173 :: 174 :: 176 :: 177 :: 178 :: 180 :: 181 :: 183 :: 184 :: 185 :: 188 :: 189 :: 190 :: 192 :: 193 :: 195 :: 196 :: 197 :: 200 :: 201 :: []
theorem hd.at_ok (P : Params) : hd.at = (hd.heap_39 P).map (·.1) := by kernel_rfl
noncomputable def hd.xt (s : Shared) : Bool := xlAt hd.view_39 [] s && recOk [] s
noncomputable def hd.envP (p : Program) : Env := { scope := p.main.scope, locals := mainNs, globals := mainNs, cells := [], code := .ref 13, frame := some 14 }
noncomputable def hd.cdP (p : Program) : Code := .body (behindTheImports p) (hd.envP p)
noncomputable def hd.stsP (p : Program) (a n : Nat) : List Stmt := ((behindTheImports p).drop a).take n
noncomputable def hd.stT (t : Params → BT) (n k : Nat) (w : World) (os : OsState) : SharedT := ⟨t w.params, n, {}, #[], {}, k, os⟩
/-- a piece of the top: some of its statements, run by the kernel (the twins, the library's and the program's own that o_law lays, make it quick) -/
def hd.Piece (p : Program) (a n steps : Nat) (t t' : Params → BT) (n₁ k₁ n₂ k₂ : Nat) (q q' : Pos) : Prop :=
  ∀ (w : World) (os : OsState), segRunT treeTable p w 11 (some (.ref 6)) 1 steps (hd.stT t n₁ k₁ w os) (piecesOf (hd.stsP p a n) (hd.envP p) (hd.cdP p) q [topFrame ⟨0, 0, 0, 0⟩]) = some (.next, hd.stT t' n₂ k₂ w os, hd.cdP p, q')
theorem hd.piece1 : hd.Piece PySem.Challenge.pw_nu0313_01 0 2 206 hd.tree_47 hd.tree_64 15 187 28 209 ⟨0, 0, 0, 0⟩ ⟨2, 0, 3, 8⟩ := by
  unfold hd.Piece
  rw [PySem.W.Fast.te11453896905961931382, PySem.W.Fast.te10110043849684766642, PySem.W.Fast.te14364793385576792824]
  intro w os
  kernel_rfl
theorem hd.piece2 : hd.Piece PySem.Challenge.pw_nu0313_01 2 3 266 hd.tree_64 hd.tree_86 28 209 47 240 ⟨2, 0, 3, 8⟩ ⟨10, 0, 10, 9⟩ := by
  unfold hd.Piece
  rw [PySem.W.Fast.te11453896905961931382, PySem.W.Fast.te10110043849684766642, PySem.W.Fast.te14364793385576792824]
  intro w os
  kernel_rfl
theorem hd.piece3 : hd.Piece PySem.Challenge.pw_nu0313_01 5 1 353 hd.tree_86 hd.tree_137 47 240 96 303 ⟨10, 0, 10, 9⟩ ⟨11, 0, 34, 26⟩ := by
  unfold hd.Piece
  rw [PySem.W.Fast.te11453896905961931382, PySem.W.Fast.te10110043849684766642, PySem.W.Fast.te14364793385576792824]
  intro w os
  kernel_rfl
theorem hd.piece4 : hd.Piece PySem.Challenge.pw_nu0313_01 6 1 447 hd.tree_137 hd.tree_207 96 303 164 390 ⟨11, 0, 34, 26⟩ ⟨35, 0, 87, 63⟩ := by
  unfold hd.Piece
  rw [PySem.W.Fast.te11453896905961931382, PySem.W.Fast.te10110043849684766642, PySem.W.Fast.te14364793385576792824]
  intro w os
  kernel_rfl
theorem hd.piece5 : hd.Piece PySem.Challenge.pw_nu0313_01 7 7 190 hd.tree_207 hd.tree_247 164 390 202 444 ⟨35, 0, 87, 63⟩ ⟨122, 0, 163, 41⟩ := by
  unfold hd.Piece
  rw [PySem.W.Fast.te11453896905961931382, PySem.W.Fast.te10110043849684766642, PySem.W.Fast.te14364793385576792824]
  intro w os
  kernel_rfl
theorem hd.pre : ∀ (w : World) (os : OsState), topGo treeTable PySem.Challenge.pw_nu0313_01 w 11 (some (.ref 6)) 12 ⟨boot_heap w.params, #[], boot_drawn, boot_toks, os⟩ (topStub PySem.Challenge.pw_nu0313_01) =
    some (⟨hd.heap_46 w.params, #[], {}, 187, os⟩, ⟨denote treeTable (hd.cdP PySem.Challenge.pw_nu0313_01), hd.cdP PySem.Challenge.pw_nu0313_01, ⟨0, 0, 0, 0⟩, [topFrame ⟨0, 0, 0, 0⟩]⟩) := by
  rw [PySem.W.Fast.te11453896905961931382, PySem.W.Fast.te15667345088766844465, PySem.W.Fast.te11892475500146522536, PySem.W.Fast.te14364793385576792824]
  intro w os
  kernel_rfl
theorem hd.block : ∀ (w : World) (os : OsState), segRun treeTable PySem.Challenge.pw_nu0313_01 w 11 (some (.ref 6)) 1 1 ⟨hd.heap_46 w.params, #[], {}, 187, os⟩ (blockOf (behindTheImports PySem.Challenge.pw_nu0313_01) (hd.envP PySem.Challenge.pw_nu0313_01) (hd.cdP PySem.Challenge.pw_nu0313_01) ⟨0, 0, 0, 0⟩ [topFrame ⟨0, 0, 0, 0⟩]) =
    some (.next, (hd.stT hd.tree_47 15 187 w os).abs, hd.cdP PySem.Challenge.pw_nu0313_01, ⟨0, 0, 0, 0⟩) := by
  rw [PySem.W.Fast.te11453896905961931382, PySem.W.Fast.te14374325043358763698, PySem.W.Fast.te14364793385576792824]
  intro w os
  kernel_rfl
theorem hd.fin : ∀ (w : World) (os : OsState), topRun treeTable PySem.Challenge.pw_nu0313_01 w 11 (some (.ref 6)) 2 (hd.stT hd.tree_247 202 444 w os).abs (restOf [] (hd.envP PySem.Challenge.pw_nu0313_01) (hd.cdP PySem.Challenge.pw_nu0313_01) ⟨122, 0, 163, 41⟩ [topFrame ⟨0, 0, 0, 0⟩]) =
    some ⟨hd.heap_248 w.params, #[], {}, 444, os⟩ := by
  rw [PySem.W.Fast.te11453896905961931382, PySem.W.Fast.te14082659384304107361, PySem.W.Fast.te14364793385576792824]
  intro w os
  kernel_rfl
theorem hd.cat : behindTheImports PySem.Challenge.pw_nu0313_01 = hd.stsP PySem.Challenge.pw_nu0313_01 0 2 ++ (hd.stsP PySem.Challenge.pw_nu0313_01 2 3 ++ (hd.stsP PySem.Challenge.pw_nu0313_01 5 1 ++ (hd.stsP PySem.Challenge.pw_nu0313_01 6 1 ++ (hd.stsP PySem.Challenge.pw_nu0313_01 7 7 ++ [])))) := by kernel_rfl
theorem hd.run (w : World) (os : OsState) : topRun treeTable PySem.Challenge.pw_nu0313_01 w 11 (some (.ref 6)) (12 + (1 + (206 + (266 + (353 + (447 + (190 + 2))))))) ⟨boot_heap w.params, #[], boot_drawn, boot_toks, os⟩ (topStub PySem.Challenge.pw_nu0313_01) = some ⟨hd.heap_248 w.params, #[], {}, 444, os⟩ := by
  refine go_top (hd.pre w os) (piece_block (b := behindTheImports PySem.Challenge.pw_nu0313_01) (env := hd.envP PySem.Challenge.pw_nu0313_01) (hd.block w os) ?_)
  rw [show restOf (behindTheImports PySem.Challenge.pw_nu0313_01) (hd.envP PySem.Challenge.pw_nu0313_01) (hd.cdP PySem.Challenge.pw_nu0313_01) ⟨0, 0, 0, 0⟩ [topFrame ⟨0, 0, 0, 0⟩] = _ from congrArg (fun l => restOf l (hd.envP PySem.Challenge.pw_nu0313_01) (hd.cdP PySem.Challenge.pw_nu0313_01) ⟨0, 0, 0, 0⟩ [topFrame ⟨0, 0, 0, 0⟩]) hd.cat]
  exact (piece_app (segRun_of (hd.piece1 w os)) (piece_app (segRun_of (hd.piece2 w os)) (piece_app (segRun_of (hd.piece3 w os)) (piece_app (segRun_of (hd.piece4 w os)) (piece_app (segRun_of (hd.piece5 w os)) (hd.fin w os))))))
noncomputable def hd.endS (w : World) (os : OsState) : Shared := ⟨hd.heap_248 w.params, #[], {}, 444, os⟩
theorem hd.looks1 : ∀ (w : World) (os : OsState), (staticsOk [] (boot_heap w.params) (hd.heap_248 w.params) && namesBound PySem.Challenge.pw_nu0313_01 (hd.heap_248 w.params) && gensDone (hd.endS w os) && laidKept (boot_heap w.params) (hd.heap_248 w.params)) = true := by
  rw [PySem.W.Fast.te11453896905961931382]
  intro w os
  kernel_rfl
theorem hd.looks2 : ∀ (w : World) (os : OsState), openSeen hd.view_39 [] [] hd.xt true (hd.endS w os) = openGood hd.view_39 [] := by
  unfold hd.xt hd.view_39
  rw [PySem.W.Fast.te11453896905961931382, PySem.W.Fast.te4187177175401517315]
  intro w os
  kernel_rfl
theorem hd.looks3 : ∀ (w : World) (os : OsState), hd.at.map (hd.endS w os).heap.get? = (hd.heap_39 w.params).map fun p => some p.2 := by
  intro w os
  kernel_rfl
theorem hd.opens : opening PySem.Challenge.pw_nu0313_01 = plainProg PySem.Challenge.pw_nu0313_01.main.scope.names := by kernel_rfl
theorem hd.size (w : World) : ((boot_heap w.params).isNs mainGlobals && (#[] : Array GenState).size == 0, (boot_heap w.params).objs.size, (boot_heap w.params).nsMap mainGlobals (Str.ofString "__annotations__")) = (true, 11, some (.ref 6)) := by kernel_rfl
theorem hd.left : LeftO PySem.Challenge.pw_nu0313_01 hd.view_39 [] hd.xt (Hook.obs (kHook hd.heap_39 hd.at hd.at_ok)) (Hook.val (kHook hd.heap_39 hd.at hd.at_ok)) 3040 := by
  refine LeftO.of_pieces (H₀ := boot_heap) (H₁ := hd.heap_248) (gs₀ := #[]) (gs₁ := #[]) (boot_open hd.opens rfl (fun s => rfl)) hd.size hd.run rfl fun w => funext fun os => ?_
  have e := congr (congrArg Prod.mk (hd.looks1 w os)) (congr (congrArg Prod.mk (hd.looks2 w os)) (hd.looks3 w os))
  exact e
/-- the law's def, as it stands in the text -/
noncomputable def lawRec : DefRec := by
  refine (?F : ∀ (d : DefRec) (k : List (Str × Expr)), defOf hd.view_39 (Str.ofString "law") = some (d, k) → DefRec) _ _ rfl
  exact fun d _ _ => d
theorem hd (walk : WalkO hd.view_39 [] (XL hd.view_39 []) (Hook.says (kHook hd.heap_39 hd.at hd.at_ok)) PySem.Challenge.rw_nu0313_01.row.toRowW lawRec [] fun f vs => PySem.call f vs) : PySem.Challenge.rw_nu0313_01.Holds :=
  hd.law fun said => PySem.W.holds_open (r := PySem.Challenge.rw_nu0313_01.row) (q := hd.view_39) (loose := []) (d := lawRec) (kwd := []) (N := 3040) hd.left (kHook hd.heap_39 hd.at hd.at_ok).of (kHook hd.heap_39 hd.at hd.at_ok).keeps
    (fun s e => xl_of s (Bool.and_eq_true_iff.mp e).1) XL.keeps rfl rfl rfl (fun s e => recFacts_of (Bool.and_eq_true_iff.mp e).2) rfl said (by decide +kernel) ⟨rfl, rfl, rfl, rfl, rfl, by decide +kernel⟩ (by w_witness2) walk
end
end Mine

open PySem PySem.W PyProof.Rows PySem.Calls
set_option Elab.async false
set_option maxRecDepth 100000
set_option maxHeartbeats 8000000
namespace Mine

/-- everything off the list of addresses stands as it stood -/
def Keep (mod : List Addr) (h h' : Heap) : Prop := ∀ b o, b ∉ mod → h.get? b = some o → h'.get? b = some o
theorem Keep.refl {mod : List Addr} {h : Heap} : Keep mod h h := fun _ _ _ e => e
theorem Keep.trans {mod : List Addr} {h h' h'' : Heap} (a : Keep mod h h') (b : Keep mod h' h'') : Keep mod h h'' := fun x o hx e => b x o hx (a x o hx e)
theorem Keep.mono {mod mod' : List Addr} {h h' : Heap} (a : Keep mod h h') (s : ∀ b, b ∈ mod → b ∈ mod') : Keep mod' h h' := fun x o hx e => a x o (fun q => hx (s x q)) e
theorem Keep.list {mod : List Addr} {h h' : Heap} {l : Addr} {its : Array Value} (a : Keep mod h h') (hl : l ∉ mod) (x : h.IsList l its) : h'.IsList l its := let ⟨o, ho, r⟩ := x; ⟨o, a l o hl ho, r⟩

/-- what a call hands back: the entries stand, each at an address of the old footing or at a new one -/
def Foot (h h' : Heap) (mod : List Addr) (foot' : List (Addr × Obj)) : Prop := ∀ p ∈ foot', h'.get? p.1 = some p.2 ∧ (p.1 ∈ mod ∨ h.get? p.1 = none)

section
variable {h₀ h h' : Heap} {L : Addr} {m : Str → Option Value} {foot foot' rest news : List (Addr × Obj)}
theorem News.sub (N : News h₀ L h news) (s : ∀ p ∈ foot, p ∈ news) : News h₀ L h foot := fun p hp => N p (s p hp)
theorem Fr.keepBy (F : Fr h₀ L h m) (N : News h₀ L h foot) (k : Keep (foot.map (·.1)) h h') : Fr h₀ L h' m := by
  obtain ⟨o, es, ep, ho, r⟩ := F.ns
  refine ⟨⟨o, es, ep, k L o (fun q => ?_) ho, r⟩, fun b o e => k b o (fun q => ?_) (F.keep b o e), F.above⟩
  · obtain ⟨p, hp, e⟩ := List.mem_map.mp q
    exact (N p hp).2.1 e
  · obtain ⟨p, hp, rfl⟩ := List.mem_map.mp q
    rw [(N p hp).2.2] at e; cases e
theorem News.keepBy (F : Fr h₀ L h m) (N : News h₀ L h foot) (N' : News h₀ L h rest) (k : Keep (foot.map (·.1)) h h') (f : Foot h h' (foot.map (·.1)) foot')
    (ap : ∀ p ∈ rest, ∀ q ∈ foot, p.1 ≠ q.1) : News h₀ L h' (foot' ++ rest) := by
  intro p hp
  rcases List.mem_append.mp hp with hp | hp
  · obtain ⟨a, b⟩ := f p hp
    refine ⟨a, ?_, ?_⟩
    · rcases b with b | b
      · obtain ⟨q, hq, e⟩ := List.mem_map.mp b
        exact e ▸ (N q hq).2.1
      · intro e
        obtain ⟨o, _, _, ho, _⟩ := F.ns
        rw [e, ho] at b; cases b
    · rcases b with b | b
      · obtain ⟨q, hq, e⟩ := List.mem_map.mp b
        exact e ▸ (N q hq).2.2
      · cases e : h₀.get? p.1 with
        | none => rfl
        | some o => rw [F.keep _ _ e] at b; cases b
  · refine ⟨k _ _ (fun q => ?_) (N' p hp).1, (N' p hp).2⟩
    obtain ⟨q, hq, e⟩ := List.mem_map.mp q
    exact ap p hp q hq e.symm
end

section
variable {prog : Program} {w : World} {A₀ A : Around} {s : Shared} {base h₀ : Heap} {outer : List Env} {L : Addr} {m mg mb : Str → Option Value} {env : Env} {foot : List (Addr × Obj)} {K : Frag}
  {p : Program} {loose : List Str} {mean : ExcName → Option Value}
  {R : Result → Shared → Prop} {name qual : Str} {params : Arguments} {body : List Stmt} {scope : Scope} {dV kV doc pm cdv ct oc : Value} {an od : Option Addr} {osl : Array (Option Value)} {f : Addr} {args : Args} {binds : List (Str × Value)}

/-- the ground of a callee: all but the footing -/
theorem ground (B : Below A₀ base outer h₀) (F : Fr h₀ L s.heap m) (N : News h₀ L s.heap foot) (hA : A.frames = some (env :: outer)) (hf : env.frame = some L) (hke : env.scope.kind = .function) :
    Below A base (env :: outer) (hideAll s.heap (foot.map (·.1))) ∧ h₀.StaysIn (hideAll s.heap (foot.map (·.1))) := by
  obtain ⟨_, B', st, _⟩ := groundX (R := fun _ _ => True) (A := A) B F N hA hf hke
  exact ⟨B', st⟩

theorem enter_plain (B : Below A₀ base outer h₀) (F : Fr h₀ L s.heap m) (X₀ : K.In h₀) (N : News h₀ L s.heap foot) (T : Top p loose mean mg mb h₀) (hA : A.frames = some (env :: outer)) (hf : env.frame = some L) (hke : env.scope.kind = .function)
    (ho : K.lookup f = some ⟨oc, od, .func (fnOf name qual params body scope dV kV doc pm an cdv ct), osl⟩) (hcd : codeIn K cdv qual = true) (hroom : A.depth < recursionLimit)
    (hbind : BindsTo s (fnOf name qual params body scope dV kV doc pm an cdv ct) args binds) (hloc : ∀ y ∈ binds, scope.names.lookup y.1 = some .local)
    (h : ∀ g L' h₁, Fr g L' h₁ (fun y => binds.reverse.lookup y) → News g L' h₁ foot → Below A base (env :: outer) g → K.In g → Top p loose mean mg mb g →
      (∀ b o, b ∉ foot.map (·.1) → s.heap.get? b = some o → g.get? b = some o) → (∀ b o, g.get? b = some o → s.heap.get? b = some o) → s.heap.objs.size = L' →
      wpAny (model prog w) (A.deeper (envOf qual scope L' f cdv)) (execs body (envOf qual scope L' f cdv))
        (fun fl s' => R (.ok (.ret (match fl with | .ret v => v | _ => .none))) s')
        (fun e s' => wpAny (model prog w) (A.deeper (envOf qual scope L' f cdv)) (leaving (envOf qual scope L' f cdv) e) (fun _ s'' => R (.error e) s'') (fun e' s'' => R (.error e') s'') s')
        { s with heap := h₁, toks := s.toks + binds.length })
    (hcell : ∀ x ∈ scope.names, x.2 ≠ .cell) (hco : scope.isCoroutine = false) (hgen : scope.isGenerator = false) (hk : scope.kind = .function) : codeAny (model prog w) A (.call (.ref f) args) R s := by
  obtain ⟨BG, st⟩ := ground (A := A) B F N hA hf hke
  have Xs := X₀.keeps F.keep
  refine codeAny_call_def (fd := fnOf name qual params body scope dV kV doc pm an cdv ct) (body := body) (binds := binds) hroom (Xs _ _ ho) rfl (T.nolimit.keeps F.keep) (codeRec_of Xs hcd) rfl hbind hcell hloc (fun h₁ hns hk₁ => ?_) hco hgen hk
  exact h _ s.heap.objs.size h₁ ⟨hns, fun b o e => hk₁ b o (of_hideAll _ e), Nat.le_of_eq (hideAll_size _ _)⟩
    (fun p hp => ⟨hk₁ _ _ (N p hp).1, Nat.ne_of_lt (Heap.lt_size (N p hp).1), hideAll_none _ (List.mem_map_of_mem hp)⟩) BG (X₀.keeps st) (T.keeps st) (fun b o hb e => hideAll_get _ e hb) (fun b o e => of_hideAll _ e) rfl
end

theorem room0 {dp a R : Nat} (h : dp + a < R) : dp < R := Nat.lt_of_le_of_lt (Nat.le_add_right _ _) h
theorem room1 {dp a b R : Nat} (h : dp + a < R) (hb : b + 1 ≤ a) : dp + 1 + b < R := Nat.lt_of_le_of_lt (by rw [Nat.add_assoc, Nat.add_comm 1 b]; exact Nat.add_le_add_left hb dp) h
theorem room3 {un a b R : Nat} (h : un + a < R) (hb : b + 3 ≤ a) : un + 3 + b < R := Nat.lt_of_le_of_lt (by rw [Nat.add_assoc, Nat.add_comm 3 b]; exact Nat.add_le_add_left hb un) h
theorem lf1 {k i : Nat} {d : Int} (h : k = i) (hl : i < (1 + d).toNat) (h1 : d < 6) : k ≤ 10 := by omega
theorem lf2 {a i : Nat} {d : Int} (h : a ≤ 100 * i) (hl : i < (1 + d).toNat) (h1 : d < 6) : a ≤ 1000 := by omega
theorem lf3 {a : Nat} {d : Int} (h : a ≤ 100 * (1 + d).toNat) (h1 : d < 6) : a ≤ 600 := by omega
theorem lf4 {a : Nat} {d : Int} (h : (1 + d).toNat ≤ a) (h0 : 0 ≤ d) : 1 ≤ a := by omega
theorem lf5 {a : Nat} {d : Int} (h : a = (1 + d).toNat) (h1 : d < 6) : a ≤ 6 := by omega
theorem lf6 {a b i : Nat} (h : b ≤ 100) (h' : a ≤ 100 * i) : a + b ≤ 100 * (i + 1) := by omega
theorem lf7 {a b i : Nat} (h : 1 ≤ b) (h' : i ≤ a) : i + 1 ≤ a + b := by omega
theorem lf8 {d : Int} (h : 0 ≤ d) : -2 ^ 62 ≤ 1 + d := by omega
theorem lf9 {d : Int} (h : d < 6) : 1 + d < 2 ^ 62 := by omega
theorem lf10 {d : Int} (h : 0 ≤ d) : -2 ^ 62 ≤ d := by omega
theorem lf11 {d : Int} (h : d < 4) : d < 2 ^ 62 := by omega
theorem lf12 {d : Int} (h : d < 4) : d.toNat ≤ 4 := by omega
theorem lf13 {k : Nat} {d : Int} (h : k = d.toNat) (h1 : d < 4) : k ≤ 3 := by omega
theorem rt1 {a b : Nat} (h : b < a) : a - b = (a - b - 1) + 1 := by omega
theorem rt2 {a b : Nat} (h : b < a) : a - b = (a - (b + 1)) + 1 := by omega
theorem rt3 {k i : Nat} {v : Int} (h : k = i) (hl : i < v.toNat) (hv : v ≤ 100000) : k ≤ 100000 := by omega
theorem rt5 {v : Int} (h : v ≤ 100000) : v < 2 ^ 62 := by omega
theorem rt6 {v : Int} (h : v ≤ 100000) : v.toNat ≤ 100000 := by omega
theorem lw1 {a b : Nat} (h : a ≤ 1000) (h' : b ≤ 100) : a + b ≤ 100000 := by omega
/-- a halt: the walk leaves this goal to me -/
def Halt (P : Prop) : Prop := P
theorem halt {P : Prop} (h : Halt P) : P := h
theorem Halt.go {P : Prop} (h : P) : Halt P := h

/-- a frame's names, written out -/
abbrev mp (l : List (Str × Value)) : Str → Option Value := fun y => l.lookup y
theorem mp_filter (x : Str) : ∀ (l : List (Str × Value)) (y : Str), y ≠ x → (l.filter fun q => !(q.1 == x)).lookup y = l.lookup y
  | [], _, _ => rfl
  | (k, v) :: r, y, h => by
    rw [List.filter_cons]
    by_cases e : k = x
    · subst e
      have hy : (y == k) = false := by simpa using h
      simp only [beq_self_eq_true, Bool.not_true, Bool.false_eq_true, if_false, List.lookup_cons, hy]
      exact mp_filter k r y h
    · have hk : (k == x) = false := by simpa using e
      simp only [hk, Bool.not_false, if_true, List.lookup_cons]
      rw [mp_filter x r y h]
theorem mp_set {l l' : List (Str × Value)} {x : Str} {v : Value} (h : (x, v) :: (l.filter fun q => !(q.1 == x)) = l') : (fun y => if y = x then some v else mp l y) = mp l' := by
  subst h
  funext y
  by_cases e : y = x
  · subst e; simp [mp]
  · have hy : (y == x) = false := by simpa using e
    simp only [mp, if_neg e, List.lookup_cons, hy]
    exact (mp_filter x l y e).symm
theorem Fr.as {h₀ h : Heap} {L : Addr} {m m' : Str → Option Value} (F : Fr h₀ L h m) (e : m = m') : Fr h₀ L h m' := e ▸ F
theorem mp_ext {l l' : List (Str × Value)} (h : ∀ k ∈ l.map (·.1) ++ l'.map (·.1), mp l k = mp l' k) : mp l = mp l' := by
  have none_of : ∀ (l : List (Str × Value)) (y : Str), y ∉ l.map (·.1) → l.lookup y = none := by
    intro l y hy
    induction l with
    | nil => rfl
    | cons q r ih =>
      simp only [List.map_cons, List.mem_cons, not_or] at hy
      have : (y == q.1) = false := by simpa using hy.1
      rw [List.lookup_cons, this]
      exact ih hy.2
  funext y
  by_cases hy : y ∈ l.map (·.1) ++ l'.map (·.1)
  · exact h y hy
  · rw [List.mem_append, not_or] at hy
    show l.lookup y = l'.lookup y
    rw [none_of l y hy.1, none_of l' y hy.2]
theorem il_push {vs : List Value} {x : Value} {n : Nat} : listOf (vs.toArray.push x) n = listOf (vs ++ [x]).toArray n := by rw [List.push_toArray]
theorem ints_one {n k : Int} {t : Tok} (e : n = k) : IntsAre [.int n t] [k] := e ▸ .cons _ _ .nil
theorem new_of {h g : Heap} {mod : List Addr} {b : Addr} (up : ∀ b o, b ∉ mod → h.get? b = some o → g.get? b = some o) (e : g.get? b = none) (hb : b ∉ mod) : h.get? b = none := by
  cases q : h.get? b with
  | none => rfl
  | some o => rw [up b o hb q] at e; cases e
theorem after1 {h₀ h h' : Heap} {L x : Addr} {m : Str → Option Value} {o o' : Obj} {rest : List (Addr × Obj)} (F : Fr h₀ L h m) (N : News h₀ L h ((x, o) :: rest)) (k : Keep [x] h h') (e : h'.get? x = some o')
    (ap : ∀ p ∈ rest, p.1 ≠ x) : Fr h₀ L h' m ∧ News h₀ L h' ((x, o') :: rest) := by
  have N1 : News h₀ L h [(x, o)] := fun p hp => N p (by rcases List.mem_cons.mp hp with e | e; exact e ▸ .head _; cases e)
  refine ⟨Fr.keepBy F N1 k, News.keepBy (foot' := [(x, o')]) F N1 (fun p hp => N p (.tail _ hp)) k (fun p hp => ?_) fun p hp q hq => ?_⟩
  · rcases List.mem_cons.mp hp with q | q
    · subst q; exact ⟨e, .inl (.head _)⟩
    · cases q
  · rcases List.mem_cons.mp hq with r | r
    · subst r; exact ap p hp
    · cases r
theorem onlyN {h₀ h : Heap} {L x : Addr} {o : Obj} {news : List (Addr × Obj)} (N : News h₀ L h news) (hm : (x, o) ∈ news) : News h₀ L h [(x, o)] := fun p hp => by
  rcases List.mem_cons.mp hp with e | e
  · exact e ▸ N _ hm
  · cases e
theorem keep3 {h h' : Heap} {x y z : Addr} {ox oy : Obj} (k : Keep [x, y, z] h h') (a : h.get? x = some ox) (a' : h'.get? x = some ox) (b : h.get? y = some oy) (b' : h'.get? y = some oy) : Keep [z] h h' := by
  intro c o hc e
  by_cases e1 : c = x
  · rw [e1, a] at e; rw [e1, a', e]
  · by_cases e2 : c = y
    · rw [e2, b] at e; rw [e2, b', e]
    · refine k c o (fun q => ?_) e
      simp only [List.mem_cons, List.not_mem_nil, or_false] at q hc
      rcases q with q | q | q
      · exact e1 q
      · exact e2 q
      · exact hc q
/-- a list of ints, as an object -/
def IL (ns : List Int) (o : Obj) : Prop := ∃ (vs : List Value) (n : Nat), o = listOf vs.toArray n ∧ IntsAre vs ns
end Mine

open PySem PySem.W PyProof.Rows PySem.Calls
set_option Elab.async false
set_option maxRecDepth 100000
set_option maxHeartbeats 8000000
namespace Mine
example : (Mine.hd.heap_39 = Mine.hd.heap_39) ∧ PySem.Challenge.rw_nu0313_01 = PySem.Challenge.rw_nu0313_01 := by w_top off; k_fill; exact ⟨rfl, rfl⟩

section

theorem fm_lo {a b : Int} (h : 0 < b) : 0 ≤ a.fmod b := by rw [Int.fmod_eq_emod_of_nonneg _ (by omega)]; exact Int.emod_nonneg _ (by omega)
theorem fm_hi {a b : Int} (h : 0 < b) : a.fmod b < b := by rw [Int.fmod_eq_emod_of_nonneg _ (by omega)]; exact Int.emod_lt_of_pos _ h
theorem fd_lo {a b : Int} (ha : 0 ≤ a) (h : 0 < b) : 0 ≤ a.fdiv b := by rw [Int.fdiv_eq_ediv_of_nonneg _ (by omega)]; exact Int.ediv_nonneg ha (by omega)

/-- the hand: the list of the cells, the place, the rest, the seed -/
def HandO (cells : Addr) (len : Int) (n : Nat) (o : Obj) : Prop :=
  ∃ (i r sd : Int) (t1 t2 t3 : Tok), o = listOf #[.ref cells, .int i t1, .int r t2, .int sd t3] n ∧ 0 ≤ i ∧ i ≤ len ∧ 0 ≤ r ∧ 0 ≤ sd ∧ sd < 2 ^ 62
/-- the cells: a list of ints -/
def CellsAt (h : Heap) (cells : Addr) (ns : List Int) : Prop := ∃ vs : List Value, h.IsList cells vs.toArray ∧ IntsAre vs ns ∧ ns.length ≤ 63
theorem CellsAt.keep {h h' : Heap} {cells : Addr} {ns : List Int} {mod : List Addr} (c : CellsAt h cells ns) (k : Keep mod h h') (hm : cells ∉ mod) : CellsAt h' cells ns :=
  let ⟨vs, a, b, d⟩ := c; ⟨vs, k.list hm a, b, d⟩

theorem CellsAt.of {g h : Heap} {L cells : Addr} {m : Str → Option Value} {ns : List Int} (c : CellsAt g cells ns) (F : Fr g L h m) : CellsAt h cells ns :=
  let ⟨vs, ⟨o, ho, r⟩, b, d⟩ := c; ⟨vs, ⟨o, F.keep _ _ ho, r⟩, b, d⟩
theorem pick_ok {prog : Program} {w : World} {p : Program} {loose : List Str} {mean : ExcName → Option Value} {mg mb : Str → Option Value}
    {dp un : Nat} {gd : Option (List Code)} {cn : Str} {cs : Scope} {a : Addr} {ccd : Value} {cl : List (Str × Addr)} {outer : List Env} {A₀ : Around} {base h₀ : Heap} {L : Addr} {m : Str → Option Value} {s : Shared} {Q E : Value → Shared → Prop}
    {hand cells : Addr} {o : Obj} {lim : Int} {t4 : Tok} {n : Nat} {ns : List Int}
    (B : Below A₀ base outer h₀) (F : Fr h₀ L s.heap m) (X : (hd.heap_39 w.params).In h₀) (T : Top p loose mean mg mb h₀) (hk : cs.kind = .function)
        (N : News h₀ L s.heap [(hand, o)])
        (hroom : dp + 10 < recursionLimit) (hun : un + 10 * 10 < cLine)
    (C : CellsAt s.heap cells ns) (hcn : cells ≠ hand) (ho : HandO cells ns.length n o) (hl : 0 < lim) (hl2 : lim.natAbs.log2 < 9000)
    (ret : ∀ d td h' tk' o', 0 ≤ d → d < lim → HandO cells ns.length n o' → Keep [hand] s.heap h' → h'.get? hand = some o' → Q (.int d td) { s with heap := h', toks := tk' }) :
    wpAny (model prog w) (ktrTop dp un gd cn cs L a ccd cl outer) (call (.ref 170) [.ref hand, .int lim t4]) Q E s := by
  obtain ⟨i, r, sd, t1, t2, t3, rfl, hi0, hi1, hr, hs0, hs1⟩ := ho
  obtain ⟨vs, hcl, hi, hlen⟩ := C
  refine wpAny_call ?_
  k_dflt (refine' enter_plain (binds := [(Str.ofString "hand", .ref hand), (Str.ofString "limit", .int lim t4)]) ?k1 ?k2 ?k3 ?k4 ?k5 ?kA ?kF ?kK ?k6 ?k7 ?k8 ?k9 ?kB ?_ ?c5 ?c2 ?c3 ?c4; (case kA => exact rfl); (case kF => exact rfl); (case kK => assumption); (case k1 => k_asm); (case k2 => k_asm); (case k3 => k_asm); (case k4 => k_asm); (case k5 => k_asm); (case k6 => k_is); (case k7 => k_is); (case k8 => first | exact room0 hroom | ktr_room); (case k9 => exact BindsTo.of_eq rfl); (case c5 => decide); (case kB => exact locs rfl); (case c2 => exact rfl); (case c3 => exact rfl); (case c4 => exact rfl); k_whole; intro g' L' h' F' N' B' X' T' up' dn' sz'; (try dsimp only); (try k_fold))
  have hcl' : g'.IsList cells vs.toArray := by
    obtain ⟨o, ho, r⟩ := hcl
    exact ⟨o, up' _ _ (by simpa using hcn) ho, r⟩
  k_with_none
  k_with "binaryOp FloorDiv int int" => refine floordiv_int (by omega) ?_ (Or.inl (PyProof.noPylong_of_log2 hl2))
  k_steps
  all_goals ((rename Fr _ _ _ _ => Fz); (rename News _ _ _ _ => Nz))
  all_goals (try simp only [decide_eq_true_eq, decide_eq_false_iff_not, beq_iff_eq, beq_eq_false_iff_ne] at *)
  all_goals (refine ret _ _ _ _ _ (fm_lo hl) (fm_hi hl) ⟨_, _, _, _, _, _, rfl, ?_, ?_, ?_, ?_, ?_⟩ (fun b o hb e => Fz.keep b o (up' b o hb e)) (Nz _ (by k_mem)).1)
  all_goals (first | omega | exact fd_lo (by omega) hl | exact fm_lo (by decide) | exact Int.lt_trans (fm_hi (by decide)) (by decide))
end

section
example : (Mine.hd.heap_39 = Mine.hd.heap_39) ∧ PySem.Challenge.rw_nu0313_01 = PySem.Challenge.rw_nu0313_01 := by w_top off; k_fill; exact ⟨rfl, rfl⟩
local macro_rules | `(tactic| walk_at $k:str) => if ["exec While Compare cons nil", "call ref", "exec For", "exec For Name Call cons nil", "exec For Name Name cons nil", "exec For Name Subscript cons nil"].contains k.getString then `(tactic| with_reducible refine halt ?_) else Lean.Macro.throwUnsupported

theorem groups_ok {prog : Program} {w : World} {p : Program} {loose : List Str} {mean : ExcName → Option Value} {mg mb : Str → Option Value}
    {dp un : Nat} {gd : Option (List Code)} {cn : Str} {cs : Scope} {a : Addr} {ccd : Value} {cl : List (Str × Addr)} {outer : List Env} {A₀ : Around} {base h₀ : Heap} {L : Addr} {m : Str → Option Value} {s : Shared} {Q E : Value → Shared → Prop}
    {v : Int} {tv : Tok}
    (B : Below A₀ base outer h₀) (F : Fr h₀ L s.heap m) (X : (hd.heap_39 w.params).In h₀) (T : Top p loose mean mg mb h₀) (hk : cs.kind = .function)
        (N : News h₀ L s.heap [])
        (hroom : dp + 10 < recursionLimit) (hun : un + 10 * 10 < cLine)
    (hg : (gr (zig v)).length ≤ 1000)
    (ret : ∀ l h' tk' o, IL (gr (zig v)) o → Keep [] s.heap h' → h'.get? l = some o → s.heap.get? l = none → Q (.ref l) { s with heap := h', toks := tk' }) :
    wpAny (model prog w) (ktrTop dp un gd cn cs L a ccd cl outer) (call (.ref 177) [.int v tv]) Q E s := by
  refine wpAny_call ?_
  k_dflt (refine' enter_plain (binds := [(Str.ofString "value", .int v tv)]) ?k1 ?k2 ?k3 ?k4 ?k5 ?kA ?kF ?kK ?k6 ?k7 ?k8 ?k9 ?kB ?_ ?c5 ?c2 ?c3 ?c4; (case kA => exact rfl); (case kF => exact rfl); (case kK => assumption); (case k1 => k_asm); (case k2 => k_asm); (case k3 => k_asm); (case k4 => k_asm); (case k5 => k_asm); (case k6 => k_is); (case k7 => k_is); (case k8 => first | exact room0 hroom | ktr_room); (case k9 => exact BindsTo.of_eq rfl); (case c5 => decide); (case kB => exact locs rfl); (case c2 => exact rfl); (case c3 => exact rfl); (case c4 => exact rfl); k_whole; intro g' L' h' F' N' B' X' T' up' dn' sz'; (try dsimp only); (try k_fold))
  k_with_none
  k_steps
  all_goals
    refine Halt.go ?_
    rename Fr _ _ _ _ => Fa
    rename News _ _ _ _ => Na
    obtain ⟨J, hJJ⟩ : ∃ J : Nat → (Str → Option Value) → List (Addr × Obj) → Prop, ∀ n m news, J n m news ↔ (∃ (r : Int) (t : Tok) (l : Addr) (acc : List Int) (o : Obj), m = mp [(Str.ofString "rest", .int r t), (Str.ofString "found", .ref l), (Str.ofString "value", .int v tv)] ∧ r = n ∧ news = [(l, o)] ∧ IL acc o ∧ acc ++ gr n = gr (zig v)) := ⟨_, fun _ _ _ => Iff.rfl⟩
    refine While_inv J (n₀ := zig v) Fa Na ?start ?turn
    case start =>
      refine' (hJJ _ _ _).mpr ⟨_, _, _, [], _, ?_, ?_, rfl, ⟨[], 0, rfl, .nil⟩, rfl⟩
      rotate_left 2
      · (funext y; (by_cases h1 : y = Str.ofString "rest"); (case pos => (subst h1; with_unfolding_all rfl)); (have b1 := beq_false_of_ne h1); (by_cases h2 : y = Str.ofString "found"); (case pos => (subst h2; with_unfolding_all rfl)); (have b2 := beq_false_of_ne h2); (by_cases h3 : y = Str.ofString "value"); (case pos => (subst h3; with_unfolding_all rfl)); (have b3 := beq_false_of_ne h3); simp [mp, List.lookup_cons, List.lookup_nil, h1, b1, h2, b2, h3, b3])
      · unfold zig; split <;> omega
    case turn =>
      rintro n m₁ news₁ h₁ tk₁ F₁ N₁ hJi
      obtain ⟨r, t, l, acc, o, rfl, rfl, rfl, ⟨vs, ep, rfl, hi⟩, ha⟩ := (hJJ _ _ _).mp hJi
      clear Fa Na
      have hal : acc.length ≤ 1000 := by have := congrArg List.length ha; rw [List.length_append] at this; omega
      have hvl : vs.length ≤ 1000 := by rw [hi.length]; exact hal
      k_steps
      · rename Fr _ _ _ _ => Fz
        rename News _ _ _ _ => Nz
        have hn : 127 < n := by omega
        refine' WhileStep.intro (n' := n / 128) Fz Nz (by omega) ((hJJ _ _ _).mpr ⟨_, _, l, acc ++ [((n % 128 + 128 : Nat) : Int)], _, ?_, ?_, rfl, ⟨_, _, il_push, hi.append (ints_one ?_)⟩, ?_⟩)
        rotate_left 2
        · (funext y; (by_cases h1 : y = Str.ofString "rest"); (case pos => (subst h1; with_unfolding_all rfl)); (have b1 := beq_false_of_ne h1); (by_cases h2 : y = Str.ofString "found"); (case pos => (subst h2; with_unfolding_all rfl)); (have b2 := beq_false_of_ne h2); (by_cases h3 : y = Str.ofString "value"); (case pos => (subst h3; with_unfolding_all rfl)); (have b3 := beq_false_of_ne h3); simp [mp, List.lookup_cons, List.lookup_nil, h1, b1, h2, b2, h3, b3])
        · rw [Int.fdiv_eq_ediv_of_nonneg _ (by omega)]; omega
        · rw [Int.fmod_eq_emod_of_nonneg _ (by omega)]; omega
        · rw [← ha, gr_big hn, List.append_assoc]; rfl
      · rename Fr _ _ _ _ => Fz
        rename News _ _ _ _ => Nz
        have hn : ¬ 127 < n := by omega
        rename IntsAre _ (acc ++ [_]) => hz
        rw [gr_small hn] at ha
        rw [ha] at hz
        refine ret _ _ _ _ ⟨_, _, rfl, hz⟩ (fun b o hb e => Fz.keep b o (up' b o hb e)) (Nz _ (by k_mem)).1 (new_of up' (Nz _ (by k_mem)).2.2 (by simp))
end

section
example : (Mine.hd.heap_39 = Mine.hd.heap_39) ∧ PySem.Challenge.rw_nu0313_01 = PySem.Challenge.rw_nu0313_01 := by w_top off; k_fill; exact ⟨rfl, rfl⟩
local macro_rules | `(tactic| walk_at $k:str) => if ["exec While Compare cons nil", "call ref", "exec For", "exec For Name Call cons nil", "exec For Name Name cons nil", "exec For Name Subscript cons nil"].contains k.getString then `(tactic| with_reducible refine halt ?_) else Lean.Macro.throwUnsupported

theorem menu_ok {d : Int} (h0 : 0 ≤ d) (h1 : d < 4) : 0 < ([8, 300, 70000, 2 ^ Int.toNat 200] : List Int).getD d.toNat 0 ∧ ([8, 300, 70000, 2 ^ Int.toNat 200] : List Int).getD d.toNat 0 ≤ 2 ^ 200 ∧ (([8, 300, 70000, 2 ^ Int.toNat 200] : List Int).getD d.toNat 0).natAbs.log2 < 9000 := by
  have : d = 0 ∨ d = 1 ∨ d = 2 ∨ d = 3 := by omega
  rcases this with rfl | rfl | rfl | rfl <;> exact ⟨by decide +kernel, by decide +kernel, by decide +kernel⟩
theorem figure_ok {prog : Program} {w : World} {p : Program} {loose : List Str} {mean : ExcName → Option Value} {mg mb : Str → Option Value}
    {dp un : Nat} {gd : Option (List Code)} {cn : Str} {cs : Scope} {a : Addr} {ccd : Value} {cl : List (Str × Addr)} {outer : List Env} {A₀ : Around} {base h₀ : Heap} {L : Addr} {m : Str → Option Value} {s : Shared} {Q E : Value → Shared → Prop}
    {hand cells : Addr} {o : Obj} {n : Nat} {ns : List Int}
    (B : Below A₀ base outer h₀) (F : Fr h₀ L s.heap m) (X : (hd.heap_39 w.params).In h₀) (T : Top p loose mean mg mb h₀) (hk : cs.kind = .function)
        (N : News h₀ L s.heap [(hand, o)])
        (hroom : dp + 20 < recursionLimit) (hun : un + 10 * 20 < cLine)
    (C : CellsAt s.heap cells ns) (hcn : cells ≠ hand) (ho : HandO cells ns.length n o)
    (ret : ∀ d td h' tk' o', -(2 ^ 200) < d → d < 2 ^ 200 → HandO cells ns.length n o' → Keep [hand] s.heap h' → h'.get? hand = some o' → Q (.int d td) { s with heap := h', toks := tk' }) :
    wpAny (model prog w) (ktrTop dp un gd cn cs L a ccd cl outer) (call (.ref 184) [.ref hand]) Q E s := by
  refine wpAny_call ?_
  k_dflt (refine' enter_plain (binds := [(Str.ofString "hand", .ref hand)]) ?k1 ?k2 ?k3 ?k4 ?k5 ?kA ?kF ?kK ?k6 ?k7 ?k8 ?k9 ?kB ?_ ?c5 ?c2 ?c3 ?c4; (case kA => exact rfl); (case kF => exact rfl); (case kK => assumption); (case k1 => k_asm); (case k2 => k_asm); (case k3 => k_asm); (case k4 => k_asm); (case k5 => k_asm); (case k6 => k_is); (case k7 => k_is); (case k8 => first | exact room0 hroom | ktr_room); (case k9 => exact BindsTo.of_eq rfl); (case c5 => decide); (case kB => exact locs rfl); (case c2 => exact rfl); (case c3 => exact rfl); (case c4 => exact rfl); k_whole; intro g' L' h' F' N' B' X' T' up' dn' sz'; (try dsimp only); (try k_fold))
  have Cg : CellsAt g' cells ns := C.keep (mod := [hand]) up' (by simpa using hcn)
  k_with_none
  k_steps
  with_reducible refine Halt.go ?_
  rename Fr _ _ _ _ => Fa
  rename News _ _ _ _ => Na
  have Ns := Na
  refine' pick_ok B' Fa X' T' rfl Ns (room1 hroom (by decide)) (room3 hun (by decide)) (Cg.of Fa) hcn ho ?_ ?_ ?_
  rotate_left 2
  intro d td h1 tk1 o1 hd0 hd1 ho1 k1 e1
  obtain ⟨Fb, Nb⟩ := after1 Fa Ns k1 e1 (fun _ h => nomatch h)
  clear Fa Na Ns ho
  have ho := ho1
  clear ho1 k1 e1
  · k_steps
    obtain ⟨m0, m1, m2⟩ := menu_ok hd0 hd1
    generalize ([8, 300, 70000, 2 ^ Int.toNat 200] : List Int).getD d.toNat 0 = lim at *
    clear hd0 hd1
    with_reducible refine Halt.go ?_
    rename Fr _ _ _ _ => Fa
    rename News _ _ _ _ => Na
    have Ns := onlyN (x := hand) Na (by k_mem)
    refine' pick_ok B' Fa X' T' rfl Ns (room1 hroom (by decide)) (room3 hun (by decide)) (Cg.of Fa) hcn ho ?_ ?_ ?_
    rotate_left 2
    intro d td h1 tk1 o1 hd0 hd1 ho1 k1 e1
    obtain ⟨Fb, Nb⟩ := after1 Fa Ns k1 e1 (fun _ h => nomatch h)
    clear Fa Na Ns ho
    have ho := ho1
    clear ho1 k1 e1
    · have q0 := hd0
      have q1 := hd1
      k_steps
      with_reducible refine Halt.go ?_
      rename Fr _ _ _ _ => Fa
      rename News _ _ _ _ => Na
      have Ns := Na
      refine' pick_ok B' Fa X' T' rfl Ns (room1 hroom (by decide)) (room3 hun (by decide)) (Cg.of Fa) hcn ho ?_ ?_ ?_
      rotate_left 2
      intro d td h1 tk1 o1 hd0 hd1 ho1 k1 e1
      obtain ⟨Fb, Nb⟩ := after1 Fa Ns k1 e1 (fun _ h => nomatch h)
      clear Fa Na Ns ho
      have ho := ho1
      clear ho1 k1 e1
      · k_steps
        all_goals (refine ret _ _ _ _ _ ?_ ?_ ho (fun b o hb e => Fb.keep b o (up' b o hb e)) (Nb _ (by k_mem)).1)
        all_goals omega
      · decide
      · decide +kernel
    · exact m0
    · exact m2
  · decide
  · decide +kernel
end

section
example : (Mine.hd.heap_39 = Mine.hd.heap_39) ∧ PySem.Challenge.rw_nu0313_01 = PySem.Challenge.rw_nu0313_01 := by w_top off; k_fill; exact ⟨rfl, rfl⟩
local macro_rules | `(tactic| walk_at $k:str) => if ["exec While Compare cons nil", "call ref", "exec For", "exec For Name Call cons nil", "exec For Name Name cons nil", "exec For Name Subscript cons nil"].contains k.getString then `(tactic| with_reducible refine halt ?_) else Lean.Macro.throwUnsupported

theorem wnumber_ok {prog : Program} {w : World} {p : Program} {loose : List Str} {mean : ExcName → Option Value} {mg mb : Str → Option Value}
    {dp un : Nat} {gd : Option (List Code)} {cn : Str} {cs : Scope} {a : Addr} {ccd : Value} {cl : List (Str × Addr)} {outer : List Env} {A₀ : Around} {base h₀ : Heap} {L : Addr} {m : Str → Option Value} {s : Shared} {Q E : Value → Shared → Prop}
    {x dx l : Addr} {hs : Int} {tn : Tok} {k : Nat} {o : Obj} {acc : List Int} {v : Int} {tv : Tok}
    (B : Below A₀ base outer h₀) (F : Fr h₀ L s.heap m) (X : (hd.heap_39 w.params).In h₀) (T : Top p loose mean mg mb h₀) (hk : cs.kind = .function)
        (N : News h₀ L s.heap [(x, instObj 91 dx), (dx, dictOf [⟨hs, .str (Str.ofString "out") tn, .ref l⟩] k), (l, o)])
        (hroom : dp + 10 < recursionLimit) (hun : un + 10 * 10 < cLine)
    (hxd : x ≠ dx) (hxl : x ≠ l) (hdl : dx ≠ l) (ho : IL acc o) (hg : acc.length + (gr (zig v)).length ≤ 100000)
    (ret : ∀ h' tk' o', IL (acc ++ gr (zig v)) o' → Keep [l] s.heap h' → h'.get? l = some o' → Q .none { s with heap := h', toks := tk' }) :
    wpAny (model prog w) (ktrTop dp un gd cn cs L a ccd cl outer) (call (.ref 74) [.ref x, .int v tv]) Q E s := by
  obtain ⟨vs0, ep0, rfl, hi0⟩ := ho
  refine wpAny_call ?_
  k_dflt (refine' enter_plain (binds := [(Str.ofString "self", .ref x), (Str.ofString "n", .int v tv)]) ?k1 ?k2 ?k3 ?k4 ?k5 ?kA ?kF ?kK ?k6 ?k7 ?k8 ?k9 ?kB ?_ ?c5 ?c2 ?c3 ?c4; (case kA => exact rfl); (case kF => exact rfl); (case kK => assumption); (case k1 => k_asm); (case k2 => k_asm); (case k3 => k_asm); (case k4 => k_asm); (case k5 => k_asm); (case k6 => k_is); (case k7 => k_is); (case k8 => first | exact room0 hroom | ktr_room); (case k9 => exact BindsTo.of_eq rfl); (case c5 => decide); (case kB => exact locs rfl); (case c2 => exact rfl); (case c3 => exact rfl); (case c4 => exact rfl); k_whole; intro g' L' h' F' N' B' X' T' up' dn' sz'; (try dsimp only); (try k_fold))
  k_with_none
  k_steps
  all_goals
    refine Halt.go ?_
    rename Fr _ _ _ _ => Fa
    rename News _ _ _ _ => Na
    obtain ⟨J, hJJ⟩ : ∃ J : Nat → (Str → Option Value) → List (Addr × Obj) → Prop, ∀ n m news, J n m news ↔ (∃ (r : Int) (t : Tok) (done : List Int) (o : Obj), m = mp [(Str.ofString "rest", .int r t), (Str.ofString "self", .ref x), (Str.ofString "n", .int v tv)] ∧ r = n ∧ news = [(x, instObj 91 dx), (dx, dictOf [⟨hs, .str (Str.ofString "out") tn, .ref l⟩] k), (l, o)] ∧ IL (acc ++ done) o ∧ done ++ gr n = gr (zig v)) := ⟨_, fun _ _ _ => Iff.rfl⟩
    refine While_inv J (n₀ := zig v) Fa Na ?start ?turn
    case start =>
      refine' (hJJ _ _ _).mpr ⟨_, _, [], _, ?_, ?_, rfl, ⟨vs0, ep0, rfl, by simpa using hi0⟩, rfl⟩
      rotate_left 2
      · (funext y; (by_cases h1 : y = Str.ofString "rest"); (case pos => (subst h1; with_unfolding_all rfl)); (have b1 := beq_false_of_ne h1); (by_cases h2 : y = Str.ofString "self"); (case pos => (subst h2; with_unfolding_all rfl)); (have b2 := beq_false_of_ne h2); (by_cases h3 : y = Str.ofString "n"); (case pos => (subst h3; with_unfolding_all rfl)); (have b3 := beq_false_of_ne h3); simp [mp, List.lookup_cons, List.lookup_nil, h1, b1, h2, b2, h3, b3])
      · unfold zig; split <;> omega
    case turn =>
      rintro n m₁ news₁ h₁ tk₁ F₁ N₁ hJi
      obtain ⟨r, t, done, o, rfl, rfl, rfl, ⟨vs, ep, rfl, hi⟩, ha⟩ := (hJJ _ _ _).mp hJi
      clear Fa Na
      have hal : done.length + (gr n).length ≤ (gr (zig v)).length := by rw [← ha, List.length_append]; exact Nat.le_refl _
      have hvl : vs.length ≤ 100000 := by rw [hi.length, List.length_append]; omega
      k_steps
      · rename Fr _ _ _ _ => Fz
        rename News _ _ _ _ => Nz
        have hn : 127 < n := by omega
        refine' WhileStep.intro (n' := n / 128) Fz Nz (by omega) ((hJJ _ _ _).mpr ⟨_, _, done ++ [((n % 128 + 128 : Nat) : Int)], _, ?_, ?_, rfl, ⟨_, _, il_push, (List.append_assoc acc _ _) ▸ hi.append (ints_one ?_)⟩, ?_⟩)
        rotate_left 2
        · (funext y; (by_cases h1 : y = Str.ofString "rest"); (case pos => (subst h1; with_unfolding_all rfl)); (have b1 := beq_false_of_ne h1); (by_cases h2 : y = Str.ofString "self"); (case pos => (subst h2; with_unfolding_all rfl)); (have b2 := beq_false_of_ne h2); (by_cases h3 : y = Str.ofString "n"); (case pos => (subst h3; with_unfolding_all rfl)); (have b3 := beq_false_of_ne h3); simp [mp, List.lookup_cons, List.lookup_nil, h1, b1, h2, b2, h3, b3])
        · rw [Int.fdiv_eq_ediv_of_nonneg _ (by omega)]; omega
        · rw [Int.fmod_eq_emod_of_nonneg _ (by omega)]; omega
        · rw [← ha, gr_big hn, List.append_assoc]; rfl
      · rename Fr _ _ _ _ => Fz
        rename News _ _ _ _ => Nz
        have hn : ¬ 127 < n := by omega
        rw [gr_small hn] at ha
        refine ret _ _ _ ⟨_, _, il_push, ?_⟩ (keep3 (fun b o hb e => Fz.keep b o (up' b o hb e)) (N _ (.head _)).1 (Nz _ (.head _)).1 (N _ (.tail _ (.head _))).1 (Nz _ (.tail _ (.head _))).1) (Nz _ (.tail _ (.tail _ (.head _)))).1
        rw [← ha, ← List.append_assoc]
        exact hi.append (ints_one rfl)
end

end Mine

open PySem PySem.W PyProof.Rows PySem.Calls
set_option Elab.async false
set_option maxRecDepth 100000
set_option maxHeartbeats 8000000
namespace Mine
abbrev bmE : List Value := [.type "Exception", .type "BaseException", .type "object"]
theorem cls44 {P : Params} {h : Heap} (X : (hd.heap_39 P).In h) : ∃ nm q bs sn sub ab col dd k0 k1 k2 k3 k5,
    h.get? 44 = some (excClassObj nm q 44 43 bs (.ref 24 :: bmE) true sn sub ab col dd k0 k1 k2 k3 k5 "Exception.__new__") :=
  ⟨_, _, _, _, _, _, _, _, _, _, _, _, _, X 44 _ rfl⟩
theorem tail44 {P : Params} {h : Heap} (X : (hd.heap_39 P).In h) : OwnTail h bmE (.ref 24 :: bmE) := tail_of_in X (by with_unfolding_all rfl)

section
variable {prog : Program} {w : World} {A : Around} {E : Value → Shared → Prop} {h : Heap} {g : Array GenState} {d : Drawn} {t : Nat} {os : OsState}
theorem exc_call {rest : List Value} {Q : Value → Shared → Prop} (X : (hd.heap_39 w.params).In h)
    (hq : ∀ h' e, Heap.MadeExcOf h h' e (.ref 44) rest →
      wpAny (model prog w) (A.under (.builtin "type.__call__" ⟨.ref 44 :: rest, []⟩)) (call (.ref 41) (.ref e :: rest)) (fun r s' => r = .none ∧ Q (.ref e) s') E ⟨h', g, d, t, os⟩) (hrest : rest.length ≤ sizeLine) :
    wpAny (model prog w) A (call (.ref 44) rest) Q E ⟨h, g, d, t, os⟩ := by
  have f1 := tc_lookup
  have f2 := tc_bind (.ref 44)
  obtain ⟨nm, q, bs, sn, sub, ab, col, dd, k0, k1, k2, k3, k5, hC⟩ := cls44 X
  have hT : (⟨h, g, d, t, os⟩ : Shared).TypeIs (.ref 44) "type" := ⟨_, hC, rfl⟩
  have T := tail44 X
  have F := PySem.F.excBase_Exception
  refine wpAny_call (codeAny_of_tree ?_)
  show wpAny _ _ (callAny (.ref 44) _) _ _ _
  repeat (any_goals (first | assumption | with_reducible refine wpAny_loadPart_at hC ?_ | wp_step))
  refine ⟨rfl, ?_⟩
  refine codeAny_call_builtin_at (Code.quiet_builtin _ (by decide +kernel)) entry_typeCall (wpAny_check_type_call_sub hC ?_)
  repeat (first | with_reducible refine wpAny_loadPart_at hC ?_ | with_reducible refine wpAny_madeBy_exc hC ?_ | wp_step)
  refine codeAny_call_builtin_code (Code.quiet_builtin _ F.quiet) (wpAny_check_new_subT F T hC ?_)
  refine codeAny_exc_new_subT F T hC ?_ hrest
  show wpAny _ _ _ _ _ _
  have hget : ((h.push { cls := .type "tuple", data := .seq rest.toArray }).push
      { cls := .ref 44, data := .fields #[.ref h.objs.size, .none, .none, .none, .bool false, .none] }).get? (h.objs.size + 1) = some
      { cls := .ref 44, data := .fields #[.ref h.objs.size, .none, .none, .none, .bool false, .none] } := by heap_get
  have k : ∀ b o, h.get? b = some o → ((h.push { cls := .type "tuple", data := .seq rest.toArray }).push
      { cls := .ref 44, data := .fields #[.ref h.objs.size, .none, .none, .none, .bool false, .none] }).get? b = some o := fun b o hb => Heap.get?_push_of_some _ (Heap.get?_push_of_some _ hb)
  have X₁ := X.keeps k
  have hC₁ := k _ _ hC
  have hcC : (Value.ref 44 :: .ref 24 :: bmE).contains (.ref 44) = true := by simp
  have hi : findIn (hd.heap_39 w.params) (.ref 44) "__init__" = some (some (.ref 41)) := by with_unfolding_all rfl
  have hf : typeIn (hd.heap_39 w.params) (.ref 41) = some (.type "function") := by with_unfolding_all rfl
  unfold isInstance
  repeat (first | with_reducible refine wpAny_loadPart_at hget ?_ | (with_reducible refine wpAny_isSubtype_exc hC₁ ?_; rw [hcC]) | wp_step)
  refine wpAny_isSubtype_exc hC₁ ?_
  rw [hcC]
  repeat (first | with_reducible refine wpAny_loadPart_at hget ?_ | wp_step)
  show wpAny _ _ (typeLookup (.ref 44) _) _ _ _
  refine (looks_findIn X₁ hi).here ?_
  refine wpAny_holding (wpAny_bind ((bind_fn X₁ _ hf).here ?_))
  refine wpAny_bind (wpAny_mono (hq _ (h.objs.size + 1) ⟨k, Heap.get?_none_of_le (Nat.le_succ _), h.objs.size, hget, Heap.get?_none_of_le (Nat.le_refl _), Heap.get?_push_of_some _ (Heap.get?_push_at rfl rfl)⟩) (fun r s' hr => ?_) fun _ _ x => x)
  obtain ⟨rfl, hQ⟩ := hr
  wp_walk
  exact hQ

theorem exc_refuse (self : Value) : refuseLoop self "__setattr__" (.ref 44 :: .ref 24 :: bmE) = pure () := by
  rw [refuseLoop_ref, refuseLoop_ref]; exact PySem.F.store_Exception.passes self
theorem exc_set {s : Shared} {x : Addr} {ox : Obj} {od : Option Obj} {name : Str} {v : Value} {Q : Unit → Shared → Prop} (X : (hd.heap_39 w.params).In s.heap) (I : InstAt s.heap x ox 44 od)
    (hn : findIn (hd.heap_39 w.params) (.ref 44) name = some none)
    (h : wpAny (model prog w) A.in1 (Builtin.ObjectAttr.storeInOwnDict (.ref x) (.ref 44) (.str name s.toks) name v false) (fun fin s' => match fin with | .done (.ret _) => Q () s' | _ => False) E { s with toks := s.toks + 1 }) :
    wpAny (model prog w) A (setAttr (.ref x) name v) Q E s := by
  have hs : findIn (hd.heap_39 w.params) (.ref 44) "__setattr__" = some (some (.builtin "object.__setattr__")) := by with_unfolding_all rfl
  have hm : mroIn (hd.heap_39 w.params) 44 (.type "object") = some true := by with_unfolding_all rfl
  have hc : (clsIn (hd.heap_39 w.params) 44).map (·.mro) = some (.ref 44 :: .ref 24 :: bmE) := by with_unfolding_all rfl
  obtain ⟨cd, hc, hmro⟩ := Option.map_eq_some_iff.mp hc
  refine set_plain X I hs ?_
  have SF := PySem.F.store_object
  have X' : (hd.heap_39 w.params).In ({ s with toks := s.toks + 1 } : Shared).heap := X
  have I' : InstAt ({ s with toks := s.toks + 1 } : Shared).heap x ox 44 od := I
  have sub : Looks (model prog w) ({ s with toks := s.toks + 1 } : Shared).heap (isInstance (.ref x) (.type "object")) true := I'.type.andThen (looks_mroIn X hm)
  refine codeAny_call_builtin SF.slot.plain SF.entry (@check_slot (model prog w) _ _ { s with toks := s.toks + 1 } "object.__setattr__" "object" "__setattr__" (.ref x) [.str name s.toks, v] [] _ SF.kind SF.split sub (SF.args (.ref x) (.str name s.toks) v) ?_)
  have hmm : Looks (model prog w) ({ s with toks := s.toks + 1 } : Shared).heap (mroOf (.ref 44)) (.ref 44 :: .ref 24 :: bmE) := hmro ▸ (looks_clsIn (K := hd.heap_39 w.params) X hc).andThen .now
  rw [osa_eq, refuse_eq]
  refine wpAny_bind (wpAny_bind (I'.type.here (wpAny_bind (hmm.here ?_))))
  rw [exc_refuse]
  refine wpAny_pure (wpAny_bind (I'.type.here (wpAny_bind ((looks_findIn X' hn).here (wpAny_bind (wpAny_pure ?_))))))
  refine wpAny_mono h (fun fin s' z => ?_) fun _ _ z => z
  rcases fin with (_ | _ | _ | _) | _ <;> first | exact z | exact z.elim

theorem exc_nsSet {s : Shared} {D : Addr} {es : List DictEntry} {n : Nat} {name : Str} {v : Value} {Q : Fin → Shared → Prop} {tk : Tok} (hD : s.heap.get? D = some (dictOf es n))
    (hn : es.any (fun e => e.key.isStr name || e.refKey) = false) (hz : es.length ≤ 1000)
    (h : ∀ h', h'.get? D = some (dictOf (es ++ [⟨PyData.keyHash w.params name, .str name s.toks, v⟩]) (n + 1)) → Keep [D] s.heap h' → Q (.done (.ret .none)) { s with heap := h', toks := s.toks + 1 }) :
    wpAny (model prog w) A (Builtin.ObjectAttr.storeInDict D (.str name tk) name v) Q E s := by
  have e1 : ∀ e ∈ es, e.key.isStr name = false := fun e he => by
    have := List.any_eq_false.mp hn e he
    simp only [Bool.or_eq_true, not_or, Bool.not_eq_true] at this; exact this.1
  have e2 : ∀ e ∈ es, e.refKey = false := fun e he => by
    have := List.any_eq_false.mp hn e he
    simp only [Bool.or_eq_true, not_or, Bool.not_eq_true] at this; exact this.2
  have hp : Obj.putName name (PyData.keyHash w.params name) (.str name s.toks) v (dictOf es n) = dictOf (es ++ [⟨PyData.keyHash w.params name, .str name s.toks, v⟩]) (n + 1) := by
    have e0 : es.toArray.findIdx? (fun e => e.key.isStr name) = none := by
      rw [Array.findIdx?_eq_none_iff]
      intro x hx
      exact e1 x (by simpa using hx)
    rw [Obj.putName_eq]
    simp only [Obj.putNameByArray, e0, List.push_toArray]
  refine wpAny_bind (wpAny_pure (wpAny_bind ?_))
  unfold nsSet
  refine wpAny_bind (wpAny_bind (wpAny_askSetting (wpAny_pure (wpAny_bind (wpAny_mkText (wpAny_bind (wpAny_loadPart hD ?_)))))))
  dsimp only
  have c : (!es.toArray.any (·.key.isStr name) && es.toArray.any (·.refKey)) = false := by
    rw [Bool.and_eq_false_iff]
    right
    rw [← Array.any_toList]
    exact List.any_eq_false.mpr fun e he => by rw [e2 e he]; decide
  rw [aRefKeyMayBeTheName_at, c]
  refine wpAny_updatePart hD ?_
  have hD' : (s.heap.update D (Obj.putName name (PyData.keyHash w.params name) (.str name s.toks) v)).get? D = some (dictOf (es ++ [⟨PyData.keyHash w.params name, .str name s.toks, v⟩]) (n + 1)) := by
    rw [Heap.get?_update_self _ hD (by rw [hp]; rfl), hp]
  refine wpAny_bind (wpAny_lookBehind hD' (pastItsLine_dict (by rw [List.size_toArray, List.length_append, sizeLine_eq]; simp only [List.length_cons, List.length_nil]; omega)) ?_)
  refine wpAny_pure (h _ hD' fun b o hb e => ?_)
  rw [Heap.get?_update_ne _ _ _ _ (by simpa using hb)]
  exact e

theorem exc_set1 {s : Shared} {x D : Addr} {ox : Obj} {es : List DictEntry} {n : Nat} {name : Str} {v : Value} {Q : Unit → Shared → Prop} (X : (hd.heap_39 w.params).In s.heap)
    (hx : s.heap.get? x = some ox) (hc : ox.cls = .ref 44) (hd' : ox.dict = some D) (hf : notCls ox = true) (hD : s.heap.get? D = some (dictOf es n))
    (hname : findIn (hd.heap_39 w.params) (.ref 44) name = some none) (hn : es.any (fun e => e.key.isStr name || e.refKey) = false) (hz : es.length ≤ 1000)
    (h : ∀ h' tk, h'.get? D = some (dictOf (es ++ [⟨PyData.keyHash w.params name, .str name tk, v⟩]) (n + 1)) → Keep [D] s.heap h' → Q () { s with heap := h', toks := tk + 1 }) :
    wpAny (model prog w) A (setAttr (.ref x) name v) Q E s := by
  have hh : (clsIn (hd.heap_39 w.params) 44).map (·.hasDict) = some true := by with_unfolding_all rfl
  obtain ⟨cd, hcd, hdict⟩ := Option.map_eq_some_iff.mp hh
  refine exc_set X ⟨hx, hc, hf, (by rw [hd']; exact hD : match ox.dict, some (dictOf es n) with | some dx, some o => s.heap.get? dx = some o | none, none => True | _, _ => False)⟩ hname ?_
  have X' : (Mine.hd.heap_39 w.params).In ({ s with toks := s.toks + 1 } : Shared).heap := X
  obtain ⟨oc, odi, oda, osl⟩ := ox
  dsimp only at hc hd'
  subst hc hd'
  refine wpAny_bind (wpAny_pure (wpAny_bind (wpAny_bind (wpAny_loadPart hx (wpAny_bind ((looks_clsIn X' hcd).here ?_))))))
  rw [hdict]
  refine wpAny_pure (a := some D) ?_
  refine exc_nsSet (s := { s with toks := s.toks + 1 }) hD hn hz fun h' a b => ?_
  exact h h' _ a b

theorem exc_set0 {s : Shared} {x : Addr} {vs : Array Value} {sl : Array (Option Value)} {name : Str} {v : Value} {Q : Unit → Shared → Prop} (X : (hd.heap_39 w.params).In s.heap)
    (hx : s.heap.get? x = some ⟨.ref 44, none, .fields vs, sl⟩)
    (hname : findIn (hd.heap_39 w.params) (.ref 44) name = some none)
    (h : ∀ h' D tk, h'.get? x = some ⟨.ref 44, some D, .fields vs, sl⟩ → h'.get? D = some (dictOf [⟨PyData.keyHash w.params name, .str name tk, v⟩] 1) → s.heap.get? D = none → Keep [x] s.heap h' → Q () { s with heap := h', toks := tk + 1 }) :
    wpAny (model prog w) A (setAttr (.ref x) name v) Q E s := by
  have hh : (clsIn (hd.heap_39 w.params) 44).map (·.hasDict) = some true := by with_unfolding_all rfl
  obtain ⟨cd, hcd, hdict⟩ := Option.map_eq_some_iff.mp hh
  refine exc_set (od := none) X ⟨hx, rfl, rfl, trivial⟩ hname ?_
  have X' : (Mine.hd.heap_39 w.params).In ({ s with toks := s.toks + 1 } : Shared).heap := X
  refine wpAny_bind (wpAny_pure (wpAny_bind (wpAny_bind (wpAny_loadPart hx (wpAny_bind ((looks_clsIn X' hcd).here ?_))))))
  rw [hdict]
  obtain ⟨hp, g, d, tk, os⟩ := s
  dsimp only at hx X' ⊢
  have hx₁ : (hp.push { cls := .type "dict", data := .dict #[] }).get? x = some ⟨.ref 44, none, .fields vs, sl⟩ := Heap.get?_push_of_some _ hx
  have hxs : x ≠ hp.objs.size := Nat.ne_of_lt (Heap.lt_size hx)
  refine wpAny_bind (wpAny_alloc' ?_)
  refine wpAny_bind (wpAny_update' hx₁ ?_)
  refine wpAny_pure ?_
  have hgd : ((hp.push { cls := .type "dict", data := .dict #[] }).update x fun o => { o with dict := some hp.objs.size }).get? hp.objs.size
      = some (dictOf [] 0) :=
    (Heap.get?_update_ne _ _ _ _ hxs.symm).trans (Heap.get?_push_at rfl rfl)
  have hx₂ : ((hp.push { cls := .type "dict", data := .dict #[] }).update x fun o => { o with dict := some hp.objs.size }).get? x = some ⟨.ref 44, some hp.objs.size, .fields vs, sl⟩ :=
    Heap.get?_update_self _ hx₁ rfl
  refine exc_nsSet (es := []) hgd rfl (by decide) fun h' a b => ?_
  refine h h' hp.objs.size _ (b _ _ (by simpa using hxs) hx₂) a (Heap.get?_none_of_le (Nat.le_refl _)) fun y o hy e => ?_
  refine b _ _ (by simpa using Nat.ne_of_lt (Heap.lt_size e)) ?_
  exact (Heap.get?_update_ne _ _ _ _ (by simpa using hy)).trans (Heap.get?_push_of_some _ e)

def Rais (w : World) (E : Value → Shared → Prop) (v : Value) (s₁ : Shared) : Prop :=
  ∃ a ob vs, v = .ref a ∧ s₁.heap.get? a = some ob ∧ ob.cls = .ref 44 ∧ ob.data = .fields vs ∧ vs[1]? = some .none ∧ (hd.heap_39 w.params).In s₁.heap ∧ E (.ref a) s₁
theorem raise_fmt {e : Expr} {pos : Pos} {s : Shared} {env : Env} {Q : Flow → Shared → Prop} (hh : A.handled = none)
    (h : wpAny (model prog w) A (eval e env) (Rais w E) E s) : wpAny (model prog w) A (exec (.Raise (some e) none pos) env) Q E s := by
  show wpAny (model prog w) A (do standAt pos; raiseStmt env (some (do let v ← eval e env; standAt pos; pure v)) none) Q E s
  refine wpAny_bind (wpAny_standAt ?_)
  unfold raiseStmt
  dsimp only
  refine wpAny_bind (wpAny_bind (wpAny_mono h (fun v s₁ h₁ => wpAny_bind (wpAny_standAt (wpAny_pure ?_))) fun _ _ x => x))
  obtain ⟨a, ob, vs, rfl, ha, hcls, hd', h1, X, hE⟩ := h₁
  have hnt : ∀ {Q' : Bool → Shared → Prop}, Q' false s₁ → wpAny (model prog w) A (isType (.ref a)) Q' E s₁ := by
    intro Q' hq
    simp only [isType, loadHead]
    refine wpAny_bind (wpAny_loadPart ha ?_)
    rw [hd']; exact wpAny_pure hq
  have hm : mroIn (hd.heap_39 w.params) 44 (.type "BaseException") = some true := by with_unfolding_all rfl
  have ht : typeIn (hd.heap_39 w.params) (.ref 44) = some (.type "type") := by with_unfolding_all rfl
  have L1 : Looks (model prog w) s₁.heap (typeOf (.ref a)) (.ref 44) := hcls ▸ (Looks.ld ha).andThen .now
  have L2 : Looks (model prog w) s₁.heap (isInstance (.ref a) (.type "BaseException")) true := L1.andThen (looks_mroIn X hm)
  have L3 : Looks (model prog w) s₁.heap (typeOf (.ref 44)) (.type "type") := looks_typeIn X ht
  refine wpAny_bind (wpAny_pure ?_)
  dsimp only
  refine wpAny_bind (wpAny_holding ?_)
  unfold excFromValue isExcClass
  refine wpAny_bind (wpAny_bind (hnt ?_))
  simp only [Bool.false_eq_true, if_false]
  refine wpAny_pure ?_
  simp only [Bool.false_eq_true, if_false]
  refine wpAny_bind (L2.here ?_)
  simp only [if_true]
  refine wpAny_pure ?_
  refine wpAny_bind (hnt ?_)
  simp only [Bool.false_eq_true, if_false]
  unfold raisedInstance
  refine wpAny_bind (wpAny_bind (L1.here (wpAny_bind (L3.here ?_))))
  rw [if_pos (by decide)]
  refine wpAny_pure ?_
  unfold setFlight
  refine wpAny_bind (wpAny_bind (wpAny_field ha hd' h1 ?_))
  rw [if_neg (by decide)]
  refine wpAny_pure ?_
  exact wpAny_raiseNew_none hh hE

/-- a field of the exception, out of its own dict -/
theorem exc_get {s : Shared} {x : Addr} {ox od : Obj} {name : Str} {v : Value} {expr : Bool} {Q : Value → Shared → Prop} (X : (hd.heap_39 w.params).In s.heap) (I : InstAt s.heap x ox 44 (some od))
    (hf : findObj (hd.heap_39 w.params) 44 (some od) name = some (.value v)) (hh : handedIn v = true) (hq : Q v { s with toks := s.toks + 1 }) : wpAny (model prog w) A (getAttr (.ref x) name expr) Q E s := by
  have hga : findIn (hd.heap_39 w.params) (.ref 44) "__getattribute__" = some (some (.builtin "BaseException.__getattribute__")) := by with_unfolding_all rfl
  have hgm : findIn (hd.heap_39 w.params) (.ref 44) "__getattr__" = some none := by with_unfolding_all rfl
  have hm : mroIn (hd.heap_39 w.params) 44 (.type "BaseException") = some true := by with_unfolding_all rfl
  have FB := PySem.F.attrBase_Exception
  obtain ⟨hp, g, d, tk, os⟩ := s
  have L0 := I.type (M := model prog w)
  have L1 := looks_findIn (M := model prog w) X hga
  have L2 := looks_findIn (M := model prog w) X hgm
  have L3 := looks_find (M := model prog w) X I hf
  have L4 : Looks (model prog w) hp (isInstance (.ref x) (.type "BaseException")) true := L0.andThen (looks_mroIn X hm)
  have hx0 : (expr && onTheHeap (Value.builtin "BaseException.__getattribute__")) = false := by cases expr <;> rfl
  have hx2 : (Value.builtin "BaseException.__getattribute__" == Value.builtin "object.__getattribute__") = false := by decide +kernel
  have hx1 : (onTheHeap (Value.ref 44) && Value.builtin "BaseException.__getattribute__" == Value.builtin "object.__getattribute__") = false := by rw [hx2]; rfl
  have hk : builtinKind "BaseException.__getattribute__" = some .slot := by decide +kernel
  have hsplit : splitId "BaseException.__getattribute__" = some ("BaseException", "__getattribute__") := by decide +kernel
  unfold getAttr getAttrBy
  refine wpAny_bind (wpAny_mkText (wpAny_holding (wpAny_bind (L0.at (wpAny_bind (L1.at ?_))))))
  dsimp only
  rw [hx1]
  simp only [Bool.false_eq_true, if_false]
  unfold getAttrByItsOwn hookBefore
  refine wpAny_bind ?_
  rw [if_pos (by rfl)]
  refine L2.at ?_
  refine wpAny_bind (wpAny_attempt (wpAny_holding ?_))
  unfold callGetattribute
  rw [hx0]
  simp only [Bool.false_eq_true, if_false]
  unfold boundAndCalled
  rw [FB.ga.bind]
  refine wpAny_bind (wpAny_pure (wpAny_call ?_))
  refine codeAny_call_builtin FB.ga.plain PySem.F.entry_bexc_ga (@check_slot (model prog w) _ _ ⟨hp, g, d, tk + 1, os⟩ "BaseException.__getattribute__" "BaseException" "__getattribute__" (.ref x) [.str name tk] [] _ hk hsplit L4 (PySem.F.args_bexc_ga (.ref x) (.str name tk)) ?_)
  unfold Builtin.«object.__getattribute__»
  refine wpAny_bind (wpAny_pure (wpAny_bind (wpAny_pure (wpAny_bind (L0.at (wpAny_bind (L3.at ?_)))))))
  refine wpAny_pure ?_
  show wpAny _ _ (handedOut v) _ _ _
  rw [handedOut_of hh]
  exact wpAny_pure hq
end
end Mine

open PySem PySem.W PyProof.Rows PySem.Calls
set_option Elab.async false
set_option maxRecDepth 100000
set_option maxHeartbeats 8000000
namespace Mine
theorem after1N {h₀ h h' : Heap} {L x : Addr} {m : Str → Option Value} {o o' : Obj} {rest add : List (Addr × Obj)} (F : Fr h₀ L h m) (N : News h₀ L h ((x, o) :: rest)) (k : Keep [x] h h') (e : h'.get? x = some o')
    (ap : ∀ p ∈ rest, p.1 ≠ x) (ad : ∀ p ∈ add, h.get? p.1 = none ∧ h'.get? p.1 = some p.2) : Fr h₀ L h' m ∧ News h₀ L h' ((x, o') :: (add ++ rest)) := by
  have N1 : News h₀ L h [(x, o)] := onlyN N (.head _)
  refine ⟨Fr.keepBy F N1 k, News.keepBy (foot' := (x, o') :: add) F N1 (fun p hp => N p (.tail _ hp)) k (fun p hp => ?_) fun p hp q hq => ?_⟩
  · rcases List.mem_cons.mp hp with q | q
    · subst q; exact ⟨e, .inl (.head _)⟩
    · exact ⟨(ad p q).2, .inr (ad p q).1⟩
  · rcases List.mem_cons.mp hq with r | r
    · subst r; exact ap p hp
    · cases r
/-- the ledger behind a change at one address -/
noncomputable def Aft (x : Addr) (o' : Obj) (news : List (Addr × Obj)) : List (Addr × Obj) → Prop
  | [] => True
  | p :: r => (p = (x, o') ∨ (p ∈ news ∧ @Ne Nat p.1 x)) ∧ Aft x o' news r
theorem Aft.mem {x : Addr} {o' : Obj} {news : List (Addr × Obj)} : ∀ {l : List (Addr × Obj)}, Aft x o' news l → ∀ p ∈ l, p = (x, o') ∨ (p ∈ news ∧ p.1 ≠ x)
  | [], _, _, h => nomatch h
  | _ :: _, a, p, h => by
    rcases List.mem_cons.mp h with rfl | h
    · exact a.1
    · exact Aft.mem a.2 p h
theorem afterK {h₀ h h' : Heap} {L x : Addr} {m : Str → Option Value} {o o' : Obj} {news : List (Addr × Obj)} (news' : List (Addr × Obj)) (F : Fr h₀ L h m) (N : News h₀ L h news) (k : Keep [x] h h') (e : h'.get? x = some o')
    (hx : (x, o) ∈ news) (a : Aft x o' news news') : Fr h₀ L h' m ∧ News h₀ L h' news' := by
  refine ⟨Fr.keepBy F (onlyN N hx) k, fun p hp => ?_⟩
  rcases a.mem p hp with rfl | ⟨hm, hn⟩
  · exact ⟨e, (N _ hx).2⟩
  · exact ⟨k _ _ (by simpa using hn) (N p hm).1, (N p hm).2⟩
theorem keep_drop {foot : List (Addr × Obj)} {mod : List Addr} {h h' : Heap} (k : Keep (foot.map (·.1)) h h') (same : ∀ p ∈ foot, p.1 ∈ mod ∨ (h.get? p.1 = some p.2 ∧ h'.get? p.1 = some p.2)) : Keep mod h h' := by
  intro b o hb e
  by_cases q : b ∈ foot.map (·.1)
  · obtain ⟨p, hp, rfl⟩ := List.mem_map.mp q
    rcases same p hp with z | ⟨z1, z2⟩
    · exact absurd z hb
    · rw [z1] at e; cases e; exact z2
  · exact k b o q e
theorem afterAll {h₀ h h' : Heap} {L : Addr} {m : Str → Option Value} {news : List (Addr × Obj)} (F : Fr h₀ L h m) (N : News h₀ L h news) (k : Keep [] h h') : Fr h₀ L h' m ∧ News h₀ L h' news :=
  ⟨Fr.keepBy (foot := []) F (fun _ h => nomatch h) k, fun p hp => ⟨k _ _ (by simp) (N p hp).1, (N p hp).2⟩⟩
/-- the exception in flight: its class, its dict, its trace -/
def Tr (h B : Heap) (e D : Addr) (fl : Value) : Prop :=
  ∃ oe vs T oT ts, h.get? e = some oe ∧ (oe.cls = .ref 44 ∧ oe.dict = some D) ∧ oe.data = .fields vs ∧ vs[1]? = some (.ref T) ∧ B.get? T = none ∧ T ≠ e ∧ h.get? T = some oT ∧ oT.data = .fields ts ∧ ts[3]? = some fl
def Fly (B : Heap) (l : List Env) (e D : Addr) (fl : Value) (h : Heap) : Prop := B.StaysIn h ∧ B.get? e = none ∧ h.FunFrames B l ∧ Tr h B e D fl
theorem mapFields_dict (o : Obj) (f : Array Value → Array Value) : (Obj.mapFields f o).dict = o.dict := by
  obtain ⟨_, _, dt, _⟩ := o
  cases dt <;> rfl

section
variable {M : Model} {A : Around} {E : Value → Shared → Prop} {s : Shared}
theorem fly_entry {B : Heap} {env : Env} {outer : List Env} {L e D : Addr} {oe : Obj} {vs : Array Value} {head : Value} {hadNext : Bool} {Q : Unit → Shared → Prop}
    (hfr : A.frames = some (env :: outer)) (hl : s.heap.FunFrames B (env :: outer)) (hf : env.frame = some L)
    (he : s.heap.get? e = some oe) (hkb : B.StaysIn s.heap) (hen : B.get? e = none) (hc : oe.cls = .ref 44) (hD : oe.dict = some D) (hd : oe.data = .fields vs) (hsz : 1 < vs.size)
    (h : ∀ h', Fly B (env :: outer) e D (rawInt L) h' → s.heap.UpToSlots h' → Q () { s with heap := h' }) :
    wpAny M A (do let a ← frameOf env; let pl ← entryPlaceOf L hadNext; let b ← EntryCells.newEntry head a .none (rawInt L) .none pl; setField (.ref e) 1 b) Q E s := by
  have hene : e ∉ (env :: outer).filterMap (·.frame) := fun hm => by
    obtain ⟨_, o, ho, hnf⟩ := hl.mem hm
    rw [he] at ho; injection ho with ho; subst ho; exact hnf vs hd
  refine wpAny_bind (wpAny_frameOf_fun hfr hl hf fun h₁ hs₁ => ?_)
  refine wpAny_bind (wpAny_entryPlaceOf fun pl hpl => ?_)
  unfold EntryCells.newEntry newFields
  refine wpAny_bind (wpAny_newObj_type ?_ (hpl.sizeOk5 _ _ _ _ _))
  have he₁ : h₁.get? e = some oe := (hs₁.2.1 e hene).trans he
  have kb₁ : B.StaysIn h₁ := fun b o hbo => (hs₁.2.1 b fun hm => by rw [(hl.mem hm).1] at hbo; cases hbo).trans (hkb b o hbo)
  generalize hob : ({ cls := .type "traceback", dict := none, data := .fields ([head, .ref L, .none, rawInt L, .none] ++ (if pl.isEmpty then List.replicate 6 Value.none else pl)).toArray } : Obj) = tb
  have htb : ∃ ts, tb.data = .fields ts ∧ ts[3]? = some (rawInt L) := by
    subst hob
    exact ⟨_, rfl, by first | (simp; done) | (rcases hpl with rfl | ⟨_, _, _, _, _, _, _, rfl⟩ <;> simp)⟩
  obtain ⟨ts, hts, h3⟩ := htb
  have hnf : tb.isFreed = false := by obtain ⟨_, _, _, _⟩ := tb; cases hts; rfl
  have he₂ := Heap.get?_push_of_some (h := h₁) tb he₁
  refine wpAny_setField he₂ hd hsz (h _ ?_ ?_)
  all_goals
    have hTe : h₁.objs.size ≠ e := Nat.ne_of_gt (Heap.lt_size he₁)
    have noRecord : ∀ b o, s.heap.get? b = some o → (∀ vs, o.data ≠ .fields vs) → b ≠ e := fun b o hb hnf q => by
      rw [q, he] at hb; injection hb with hb; subst hb; exact hnf vs hd
    have keep : ∀ b o, b ≠ e → h₁.get? b = some o → ((h₁.push tb).update e (Obj.mapFields (·.setIfInBounds 1 (Value.ref h₁.objs.size)))).get? b = some o :=
      fun b o hbe hb => by
        rw [Heap.get?_update_other _ _ (Ne.symm hbe)]
        exact Heap.get?_push_of_some _ hb
  · have hd₃ := Obj.data_mapFields hd (·.setIfInBounds 1 (Value.ref h₁.objs.size))
    have he₃ := Heap.get?_update_self (Obj.mapFields (·.setIfInBounds 1 (Value.ref h₁.objs.size))) he₂ (Obj.isFreed_of_fields hd₃)
    have hT₃ := (Heap.get?_update_other (h₁.push tb) (Obj.mapFields (·.setIfInBounds 1 (Value.ref h₁.objs.size))) (Ne.symm hTe)).trans (Heap.get?_push_size h₁ hnf)
    refine ⟨fun b o hbo => keep b o (fun q => by rw [q, hen] at hbo; cases hbo) (kb₁ b o hbo), hen, hl.of_keeps fun b o hb hnf => ?_, ?_⟩
    · obtain ⟨sl, hs⟩ := hs₁.2.2 b o hb
      exact ⟨_, keep b _ (noRecord b o hb hnf) hs, rfl⟩
    · exact ⟨_, _, h₁.objs.size, _, _, he₃, ⟨(Obj.cls_mapFields _ _).trans hc, (mapFields_dict _ _).trans hD⟩, hd₃, by simp [hsz], kb₁.fresh, hTe, hT₃, hts, h3⟩
  · intro b o hb hnf
    obtain ⟨sl, hs⟩ := hs₁.2.2 b o hb
    exact ⟨sl, keep b _ (noRecord b o hb hnf) hs⟩

theorem fly_set {B : Heap} {l : List Env} {e D : Addr} {fl : Value} (fr : Option Addr) {Q : Unit → Shared → Prop} (hh : Fly B l e D fl s.heap)
    (h : ∀ h' fl', Fly B l e D fl' h' → s.heap.UpToSlots h' → Q () { s with heap := h' }) : wpAny M A (setFlight (.ref e) fr) Q E s := by
  obtain ⟨hkb, hen, hl, oe, vs, T, oT, ts, he, hcls, hd, h1, hnT, hTe, hT, hdT, h3⟩ := hh
  have hsz3 : 3 < ts.size := (Array.getElem?_eq_some_iff.mp h3).1
  have other : ∀ b, b ≠ T → (s.heap.update T (Obj.mapFields (·.setIfInBounds 3 (fr.elim Value.none fun f => rawInt f)))).get? b = s.heap.get? b :=
    fun b hb => Heap.get?_update_other _ _ (Ne.symm hb)
  have noRecord : ∀ b o, s.heap.get? b = some o → (∀ vs, o.data ≠ .fields vs) → b ≠ T := fun b o hb hnf q => by
    rw [q, hT] at hb; injection hb with hb; subst hb; exact hnf ts hdT
  unfold setFlight
  refine wpAny_bind (wpAny_field he hd h1 ?_)
  rw [if_pos (show (Value.ref T != Value.none) = true from by simp)]
  refine wpAny_setField hT hdT hsz3 (h _ (fr.elim Value.none fun f => rawInt f) ⟨fun b o hbo => (other b fun q => by rw [q, hnT] at hbo; cases hbo).trans (hkb b o hbo), hen,
    hl.of_keeps fun b o hb hnf => ⟨o, (other b (noRecord b o hb hnf)).trans hb, rfl⟩, ?_⟩ fun b o hb hnf => ⟨o.slots, (other b (noRecord b o hb hnf)).trans hb⟩)
  exact ⟨oe, vs, T, _, _, (other e (Ne.symm hTe)).trans he, hcls, hd, h1, hnT, hTe, Heap.get?_update_self _ hT (Obj.isFreed_of_fields (Obj.data_mapFields hdT _)), Obj.data_mapFields hdT _, by simp [hsz3]⟩

/-- the frame's own note of an exception that comes from below -/
theorem fly_looks {B : Heap} {env env' : Env} {outer : List Env} {L e D : Addr} {fl : Value} {Q : Unit → Shared → Prop}
    (hfr : A.frames = some (env :: outer)) (hf : env.frame = some L) (hf' : env'.frame = some L) (hfl : Fly B (env :: outer) e D fl s.heap)
    (h : ∀ h' fl', Fly B (env :: outer) e D fl' h' → s.heap.UpToSlots h' → Q () { s with heap := h' }) : wpAny M A (noteFrame (.ref e) env') Q E s := by
  have hfl0 := hfl
  obtain ⟨hkb, hen, hl, oe, vs, T, oT, ts, he, ⟨hcls, hD⟩, hd, h1, hnT, hTe, hT, hdT, h3⟩ := hfl
  have hfo : PySem.frameOf env' = PySem.frameOf env := by unfold PySem.frameOf; rw [hf, hf']
  unfold noteFrame
  simp only [hf', hfo]
  refine wpAny_bind (wpAny_field he hd h1 ?_)
  rw [if_pos (show (Value.ref T != Value.none) = true from by simp)]
  refine wpAny_bind (wpAny_field hT hdT h3 ?_)
  by_cases hq : (fl == rawInt L) = true
  · rw [if_pos hq]
    exact wpAny_pure (h _ _ hfl0 (Heap.UpToSlots.refl _))
  rw [if_neg hq]
  refine wpAny_bind (wpAny_setField hT hdT (Array.getElem?_eq_some_iff.mp h3).1 ?_)
  have other : ∀ b, b ≠ T → (s.heap.update T (Obj.mapFields (·.setIfInBounds 3 Value.none))).get? b = s.heap.get? b := fun b hb => Heap.get?_update_other _ _ (Ne.symm hb)
  have noRecord : ∀ b o, s.heap.get? b = some o → (∀ vs, o.data ≠ .fields vs) → b ≠ T := fun b o hb hnf q => by
    rw [q, hT] at hb; injection hb with hb; subst hb; exact hnf ts hdT
  refine fly_entry hfr (hl.of_keeps fun b o hb hnf => ⟨o, (other b (noRecord b o hb hnf)).trans hb, rfl⟩) hf ((other e (Ne.symm hTe)).trans he)
    (fun b o hbo => (other b fun q => by rw [q, hnT] at hbo; cases hbo).trans (hkb b o hbo)) hen hcls hD hd (Array.getElem?_eq_some_iff.mp h1).1 fun h' x up => h h' _ x fun b o hb hnf => ?_
  exact up b o ((other b (noRecord b o hb hnf)).trans hb) hnf

theorem fly_tail {B h : Heap} {env : Env} {outer : List Env} {e D : Addr} {fl : Value} (x : Fly B (env :: outer) e D fl h) : Fly B outer e D fl h :=
  ⟨x.1, x.2.1, x.2.2.1.2.2, x.2.2.2⟩

theorem fly_leaves {B : Heap} {env : Env} {outer : List Env} {L e D : Addr} {fl : Value} {Q : Unit → Shared → Prop}
    (hfr : A.frames = some (env :: outer)) (hf : env.frame = some L) (hfl : Fly B (env :: outer) e D fl s.heap)
    (h : ∀ h' fl', Fly B outer e D fl' h' → s.heap.UpToSlots h' → Q () { s with heap := h' }) : wpAny M A (leaving env (.ref e)) Q E s := by
  unfold leaving
  refine wpAny_bind (fly_looks hfr hf hf hfl fun h₁ fl₁ x₁ u₁ => ?_)
  exact fly_set none x₁ fun h₂ fl₂ x₂ u₂ => h h₂ fl₂ (fly_tail x₂) (u₁.trans u₂)

/-- the first leave: no trace yet -/
theorem fly_first {B : Heap} {env : Env} {outer : List Env} {L e D : Addr} {oe : Obj} {vs : Array Value} {Q : Unit → Shared → Prop}
    (hfr : A.frames = some (env :: outer)) (hl : s.heap.FunFrames B (env :: outer)) (hf : env.frame = some L)
    (he : s.heap.get? e = some oe) (hkb : B.StaysIn s.heap) (hen : B.get? e = none) (hc : oe.cls = .ref 44) (hD : oe.dict = some D) (hd : oe.data = .fields vs) (h1 : vs[1]? = some .none)
    (h : ∀ h' fl', Fly B outer e D fl' h' → s.heap.UpToSlots h' → Q () { s with heap := h' }) : wpAny M A (leaving env (.ref e)) Q E s := by
  unfold leaving noteFrame
  simp only [hf]
  refine wpAny_bind (wpAny_bind (wpAny_field he hd h1 ?_))
  rw [if_neg (by decide)]
  refine fly_entry hfr hl hf he hkb hen hc hD hd (Array.getElem?_eq_some_iff.mp h1).1 fun h₁ x₁ u₁ => ?_
  exact fly_set none x₁ fun h₂ fl₂ x₂ u₂ => h h₂ fl₂ (fly_tail x₂) (u₁.trans u₂)
end

/-- what a call leaves that ends in the format's exception -/
structure Raised (P : Params) (h : Heap) (mod : List Addr) (l : List Env) (what : Str) (pos : Int) (e : Addr) (h' : Heap) : Prop where
  ex : ∃ B D fl n t1 t2 t3 t4, Fly B l e D fl h' ∧
    B.get? D = some (dictOf [⟨PyData.keyHash P (Str.ofString "what"), .str (Str.ofString "what") t1, .str what t2⟩, ⟨PyData.keyHash P (Str.ofString "at"), .str (Str.ofString "at") t3, .int pos t4⟩] n) ∧
    (∀ b o, b ∉ mod → b ∉ l.filterMap (·.frame) → h.get? b = some o → B.get? b = some o) ∧ ∀ o, h.get? D = some o → D ∈ mod
  up : ∀ b o, b ∉ mod → h.get? b = some o → (∀ vs, o.data ≠ .fields vs) → ∃ sl, h'.get? b = some { o with slots := sl }

theorem frame_mem {env : Env} {outer : List Env} {L b : Addr} (hf : env.frame = some L) (hm : b ∈ (env :: outer).filterMap (·.frame)) : b = L ∨ b ∈ outer.filterMap (·.frame) := by
  obtain ⟨e, he, hb⟩ := List.mem_filterMap.mp hm
  rcases List.mem_cons.mp he with rfl | he
  · exact .inl (Option.some.inj (hb.symm.trans hf))
  · exact .inr (List.mem_filterMap.mpr ⟨e, he, hb⟩)

section
variable {M : Model} {A : Around} {E : Value → Shared → Prop} {s' : Shared} {P : Params} {g h h₀ base : Heap} {mod mod' : List Addr} {env : Env} {outer : List Env} {L e : Addr} {m : Str → Option Value} {what : Str} {pos : Int} {Q : Unit → Shared → Prop}
theorem Raised.leave0 (R : Raised P h mod' (env :: outer) what pos e s'.heap) (hfr : A.frames = some (env :: outer)) (hf : env.frame = some L)
    (up' : ∀ b o, b ∉ mod → h₀.get? b = some o → g.get? b = some o) (kg : ∀ b o, g.get? b = some o → h.get? b = some o) (hL : g.get? L = none) (hm : ∀ b ∈ mod', g.get? b = none)
    (hQ : ∀ h'', Raised P h₀ mod outer what pos e h'' → Q () { s' with heap := h'' }) : wpAny M A (leaving env (.ref e)) Q E s' := by
  obtain ⟨⟨B, D, fl, n, t1, t2, t3, t4, hfl, hD, low, nD⟩, up⟩ := R
  have hg : ∀ b o, g.get? b = some o → b ∉ mod' := fun b o e q => by rw [hm b q] at e; cases e
  refine fly_leaves hfr hf hfl fun h'' fl' x u => hQ h'' ⟨⟨B, D, fl', n, t1, t2, t3, t4, x, hD, fun b o hb hl e => ?_, fun o q => ?_⟩, fun b o hb e hn => ?_⟩
  · have e1 := up' b o hb e
    refine low b o (hg b o e1) (fun q => ?_) (kg b o e1)
    rcases frame_mem hf q with rfl | q
    · rw [hL] at e1; cases e1
    · exact hl q
  · by_cases hb : D ∈ mod
    · exact hb
    · have e1 := up' D o hb q
      exact absurd (nD o (kg D o e1)) (hg D o e1)
  · have e1 := up' b o hb e
    obtain ⟨sl, hs⟩ := up b o (hg b o e1) (kg b o e1) hn
    obtain ⟨sl', hs'⟩ := u b _ hs hn
    exact ⟨sl', hs'⟩
theorem Raised.leave (R : Raised P h mod' (env :: outer) what pos e s'.heap) (hfr : A.frames = some (env :: outer)) (hf : env.frame = some L)
    (up' : ∀ b o, b ∉ mod → h₀.get? b = some o → g.get? b = some o) (F : Fr g L h m) (hm : ∀ b ∈ mod', g.get? b = none)
    (hQ : ∀ h'', Raised P h₀ mod outer what pos e h'' → Q () { s' with heap := h'' }) : wpAny M A (leaving env (.ref e)) Q E s' :=
  R.leave0 hfr hf up' F.keep (Heap.get?_none_of_le F.above) hm hQ

/-- the first leave, out of the frame that raises -/
theorem raised_first {D : Addr} {n : Nat} {t1 t2 t3 t4 : Tok} {hp : Heap} {vs : Array Value} {sl : Array (Option Value)} (hfr : A.frames = some (env :: outer)) (hf : env.frame = some L) (hk : env.scope.kind = .function)
    (K : Below A base (env :: outer) hp)
    (he : hp.get? e = some ⟨.ref 44, some D, .fields vs, sl⟩) (h1 : vs[1]? = some .none) (hs' : s'.heap = hp)
    (hD : hp.get? D = some (dictOf [⟨PyData.keyHash P (Str.ofString "what"), .str (Str.ofString "what") t1, .str what t2⟩, ⟨PyData.keyHash P (Str.ofString "at"), .str (Str.ofString "at") t3, .int pos t4⟩] n))
    (hDf : D ∉ (env :: outer).filterMap (·.frame)) (hDn : ∀ o, h₀.get? D = some o → D ∈ mod)
    (low : ∀ b o, b ∉ mod → h₀.get? b = some o → hp.get? b = some o) (hLn : h₀.get? L = none) (hen : h₀.get? e = none)
    (hQ : ∀ h'', Raised P h₀ mod outer what pos e h'' → Q () { s' with heap := h'' }) : wpAny M A (leaving env (.ref e)) Q E s' := by
  subst hs'
  have hDe : D ≠ e := fun q => by
    subst q
    rw [he] at hD; cases hD
  have hB : ∀ b o, (hideAll s'.heap (e :: (env :: outer).filterMap (·.frame))).get? b = some o → s'.heap.get? b = some o := fun b o q => of_hideAll _ q
  have FF := funFrames_hide (as := e :: (env :: outer).filterMap (·.frame)) K.frames fun env' he' b hb => .tail _ (List.mem_filterMap.mpr ⟨env', he', hb⟩)
  refine fly_first hfr FF hf he hB (hideAll_none _ (.head _)) rfl rfl rfl h1 fun h'' fl x u => hQ h'' ⟨⟨_, D, fl, n, t1, t2, t3, t4, x, hideAll_get _ hD ?_, fun b o hb hl q => ?_, hDn⟩, fun b o hb q hn => ?_⟩
  · intro q
    rcases List.mem_cons.mp q with q | q
    · exact hDe q
    · exact hDf q
  · refine hideAll_get _ (low b o hb q) fun z => ?_
    rcases List.mem_cons.mp z with rfl | z
    · rw [hen] at q; cases q
    · rcases frame_mem hf z with rfl | z
      · rw [hLn] at q; cases q
      · exact hl z
  · exact u b o (low b o hb q) hn
end
end Mine

open PySem PySem.W PyProof.Rows PySem.Calls
set_option Elab.async false
set_option maxRecDepth 100000
set_option maxHeartbeats 8000000
namespace Mine
example : (Mine.hd.heap_39 = Mine.hd.heap_39) ∧ PySem.Challenge.rw_nu0313_01 = PySem.Challenge.rw_nu0313_01 := by w_top off; k_fill; exact ⟨rfl, rfl⟩

section
local macro_rules | `(tactic| walk_at "no such key") => `(tactic| skip)
local macro_rules | `(tactic| walk_at $k:str) => if ["exec While Compare cons nil", "call ref", "exec For", "exec For Name Call cons nil", "exec For Name Name cons nil", "exec For Name Subscript cons nil", "setAttr ref", "exec Raise some none"].contains k.getString then `(tactic| with_reducible refine halt ?_) else Lean.Macro.throwUnsupported
theorem init_ok {prog : Program} {w : World} {p : Program} {loose : List Str} {mean : ExcName → Option Value} {mg mb : Str → Option Value}
    {dp un : Nat} {gd : Option (List Code)} {cn : Str} {cs : Scope} {a : Addr} {ccd : Value} {cl : List (Str × Addr)} {outer : List Env} {A₀ : Around} {base h₀ : Heap} {L : Addr} {m : Str → Option Value} {s : Shared} {Q E : Value → Shared → Prop}
    {x : Addr} {t3 t4 : Tok} {at_ : Int} {what : Str} {vs : Array Value} {sl : Array (Option Value)} {rest : List Value}
    (B : Below A₀ base outer h₀) (F : Fr h₀ L s.heap m) (X : (hd.heap_39 w.params).In h₀) (T : Top p loose mean mg mb h₀) (hk : cs.kind = .function)
        (N : News h₀ L s.heap [(x, ⟨.ref 44, none, .fields vs, sl⟩)])
        (hroom : dp + 10 < recursionLimit) (hun : un + 10 * 10 < cLine)
    (ret : ∀ h' tk' D n t1 t2, Keep [x] s.heap h' → h'.get? x = some ⟨.ref 44, some D, .fields vs, sl⟩ → s.heap.get? D = none →
      h'.get? D = some (dictOf [⟨PyData.keyHash w.params (Str.ofString "what"), .str (Str.ofString "what") t1, .str what t4⟩, ⟨PyData.keyHash w.params (Str.ofString "at"), .str (Str.ofString "at") t2, .int at_ t3⟩] n) → Q .none { s with heap := h', toks := tk' })
     :
    wpAny (model prog w) ((ktrTop dp un gd cn cs L a ccd cl outer).under (.builtin "type.__call__" ⟨.ref 44 :: rest, []⟩)) (call (.ref 41) [.ref x, .str what t4, .int at_ t3]) Q E s := by
  refine wpAny_call ?_
  k_dflt (refine' enter_plain (binds := [(Str.ofString "self", .ref x), (Str.ofString "what", .str what t4), (Str.ofString "at", .int at_ t3)]) ?k1 ?k2 ?k3 ?k4 ?k5 ?kA ?kF ?kK ?k6 ?k7 ?k8 ?k9 ?kB ?_ ?c5 ?c2 ?c3 ?c4; (case kA => exact rfl); (case kF => exact rfl); (case kK => assumption); (case k1 => k_asm); (case k2 => k_asm); (case k3 => k_asm); (case k4 => k_asm); (case k5 => k_asm); (case k6 => k_is); (case k7 => k_is); (case k8 => first | exact room0 hroom | ktr_room); (case k9 => exact BindsTo.of_eq rfl); (case c5 => decide); (case kB => exact locs rfl); (case c2 => exact rfl); (case c3 => exact rfl); (case c4 => exact rfl); k_whole; intro g' L' h' F' N' B' X' T' up' dn' sz'; (try dsimp only); (try k_fold))
  k_with_none
  k_steps
  with_reducible refine Halt.go ?_
  rename Fr _ _ _ _ => Fa
  rename News _ _ _ _ => Na
  have Xa := X'.keeps Fa.keep
  refine exc_set0 Xa (Na _ (.head _)).1 (by with_unfolding_all rfl) fun h1 D t1 e1 e2 e3 k1 => ?_
  obtain ⟨Fb, Nb⟩ := after1N (add := [(D, _)]) Fa Na k1 e1 (fun _ h => nomatch h) (fun p hp => by
    rcases List.mem_cons.mp hp with r | r
    · subst r; exact ⟨e3, e2⟩
    · cases r)
  have hDx : D ≠ x := fun q => by
    subst q
    have := (Na _ (.head _)).1
    rw [e3] at this; cases this
  have hxh : s.heap.get? x = some ⟨.ref 44, none, .fields vs, sl⟩ := (N _ (.head _)).1
  dsimp only
  clear Fa Na
  k_steps
  with_reducible refine Halt.go ?_
  rename Fr _ _ _ _ => Fa
  rename News _ _ _ _ => Na
  have Xa2 := X'.keeps Fa.keep
  refine exc_set1 Xa2 (Na _ (.head _)).1 rfl rfl rfl (Na _ (.tail _ (.head _))).1 (by with_unfolding_all rfl) (by with_unfolding_all rfl) (by simp) fun h2 t2 e4 k2 => ?_
  have hx2 := k2 _ _ (by simpa using Ne.symm hDx) (Na _ (.head _)).1
  obtain ⟨Fc, Nc⟩ := after1 Fa (fun p hp => Na p (by rcases List.mem_cons.mp hp with r | r; exact r ▸ .tail _ (.head _); rcases List.mem_cons.mp r with r | r; exact r ▸ .head _; cases r)) k2 e4 (rest := [(x, _)]) (fun p hp => by
    rcases List.mem_cons.mp hp with r | r
    · subst r; exact Ne.symm hDx
    · cases r)
  clear Fa Na
  dsimp only
  k_steps
  rename Fr _ _ _ _ => Fz
  rename News _ _ _ _ => Nz
  have hDs : s.heap.get? D = none := new_of up' (Nz _ (.head _)).2.2 (by simpa using hDx)
  exact ret _ _ D _ _ _ (fun b o hb e => Fz.keep b o (up' b o hb e)) (Nz _ (.tail _ (.head _))).1 hDs (Nz _ (.head _)).1
theorem fail_ok {prog : Program} {w : World} {p : Program} {loose : List Str} {mean : ExcName → Option Value} {mg mb : Str → Option Value}
    {dp un : Nat} {gd : Option (List Code)} {cn : Str} {cs : Scope} {a : Addr} {ccd : Value} {cl : List (Str × Addr)} {outer : List Env} {A₀ : Around} {base h₀ : Heap} {L : Addr} {m : Str → Option Value} {s : Shared} {Q E : Value → Shared → Prop}
    {x dx data : Addr} {h1 h2 : Int} {k : Nat} {t1 t2 t3 t4 : Tok} {at_ : Int} {what : Str}
    (B : Below A₀ base outer h₀) (F : Fr h₀ L s.heap m) (X : (hd.heap_39 w.params).In h₀) (T : Top p loose mean mg mb h₀) (hk : cs.kind = .function)
        (N : News h₀ L s.heap [(x, instObj 159 dx), (dx, dictOf [⟨h1, .str (Str.ofString "data") t1, .ref data⟩, ⟨h2, .str (Str.ofString "at") t2, .int at_ t3⟩] k)])
        (hroom : dp + 20 < recursionLimit) (hun : un + 10 * 20 < cLine)
    (exc : ∀ e h' tk', Raised w.params s.heap [x, dx] (envX cn cs L a ccd cl :: outer) what at_ e h' → E (.ref e) { s with heap := h', toks := tk' }) :
    wpAny (model prog w) (ktrTop dp un gd cn cs L a ccd cl outer) (call (.ref 116) [.ref x, .str what t4]) Q E s := by
  refine wpAny_call ?_
  k_dflt (refine' enter_plain (binds := [(Str.ofString "self", .ref x), (Str.ofString "what", .str what t4)]) ?k1 ?k2 ?k3 ?k4 ?k5 ?kA ?kF ?kK ?k6 ?k7 ?k8 ?k9 ?kB ?_ ?c5 ?c2 ?c3 ?c4; (case kA => exact rfl); (case kF => exact rfl); (case kK => assumption); (case k1 => k_asm); (case k2 => k_asm); (case k3 => k_asm); (case k4 => k_asm); (case k5 => k_asm); (case k6 => k_is); (case k7 => k_is); (case k8 => first | exact room0 hroom | ktr_room); (case k9 => exact BindsTo.of_eq rfl); (case c5 => decide); (case kB => exact locs rfl); (case c2 => exact rfl); (case c3 => exact rfl); (case c4 => exact rfl); k_whole; intro g' L' h' F' N' B' X' T' up' dn' sz'; (try dsimp only); (try k_fold))
  k_with_none
  k_steps
  refine Halt.go ?_
  refine raise_fmt rfl ?_
  k_steps
  with_reducible refine Halt.go ?_
  rename Fr _ _ _ _ => Fa
  rename News _ _ _ _ => Na
  refine exc_call (X'.keeps Fa.keep) (fun h1 e M => ?_) (by rw [sizeLine_eq]; simp)
  obtain ⟨tt, he, htn, ht⟩ := M.there
  have Fb : Fr g' L' h1 _ := ⟨Fa.ns.keeps M.keeps, fun b o q => M.keeps b o (Fa.keep b o q), Fa.above⟩
  have hne : e ≠ L' := fun q => by
    obtain ⟨o, es, ep, ho, _⟩ := Fa.ns
    have := M.new
    rw [q, ho] at this; cases this
  have hng : g'.get? e = none := by
    cases q : g'.get? e with
    | none => rfl
    | some o => have := M.new; rw [Fa.keep _ _ q] at this; cases this
  have Nb : News g' L' h1 [(e, _)] := fun p hp => by
    rcases List.mem_cons.mp hp with r | r
    · subst r; exact ⟨he, hne, hng⟩
    · cases r
  refine init_ok B' Fb X' T' rfl Nb (room1 hroom (by decide)) (room3 hun (by decide)) fun h2 tk2 D n t1 t2 k1 e1 e2 e3 => ?_
  have hge : ∀ b o, g'.get? b = some o → b ≠ e := fun b o q z => by rw [z, hng] at q; cases q
  have k12 : ∀ b o, g'.get? b = some o → h2.get? b = some o := fun b o q => k1 b o (by simpa using hge b o q) (Fb.keep b o q)
  have Fc : Fr g' L' h2 _ := Fr.keepBy Fb Nb k1
  have hD1 : h1.get? D = none := e2
  refine ⟨rfl, e, _, _, rfl, e1, rfl, rfl, rfl, X'.keeps k12, ?_⟩
  refine raised_first (P := w.params) (mod := [x, dx]) (h₀ := s.heap) (Around.frames_deeper rfl) rfl rfl (pushX B' Fc ?kf ?kk) e1 rfl rfl e3 (fun hm => ?_) (fun o q => ?_) (fun b o hb q => k12 b o (up' b o hb q)) ?_ ?_ fun h'' R => exc _ _ _ R
  case kf => rfl
  case kk => rfl
  · rcases frame_mem rfl hm with q | q
    · obtain ⟨o, es, ep, ho, _⟩ := Fb.ns
      rw [← q, hD1] at ho; cases ho
    · obtain ⟨_, o, ho, _⟩ := B'.frames.mem q
      rw [Fb.keep _ _ ho] at hD1; cases hD1
  · by_cases hb : D ∈ [x, dx]
    · exact hb
    · rw [Fb.keep _ _ (up' D o hb q)] at hD1; cases hD1
  · exact Heap.get?_none_of_le (Nat.le_of_eq sz')
  · refine new_of up' hng ?_
    intro q
    have hn := M.new
    simp only [List.map_cons, List.map_nil, List.mem_cons, List.not_mem_nil, or_false] at q
    rcases q with rfl | rfl
    · rw [(Na _ (.head _)).1] at hn; cases hn
    · rw [(Na _ (.tail _ (.head _))).1] at hn; cases hn
end

section
example : (Mine.hd.heap_39 = Mine.hd.heap_39) ∧ PySem.Challenge.rw_nu0313_01 = PySem.Challenge.rw_nu0313_01 := by w_top off; k_fill; exact ⟨rfl, rfl⟩
local macro_rules | `(tactic| walk_at $k:str) => if ["exec While Compare cons nil", "call ref", "exec For", "exec For Name Call cons nil", "exec For Name Name cons nil", "exec For Name Subscript cons nil"].contains k.getString then `(tactic| with_reducible refine halt ?_) else Lean.Macro.throwUnsupported
/-- the bytes: a list of ints -/
def DataAt (h : Heap) (data : Addr) (ds : List Int) : Prop := ∃ vs : List Value, h.IsList data vs.toArray ∧ IntsAre vs ds ∧ ds.length ≤ 100000
theorem DataAt.keep {h h' : Heap} {data : Addr} {ds : List Int} {mod : List Addr} (c : DataAt h data ds) (k : Keep mod h h') (hm : data ∉ mod) : DataAt h' data ds :=
  let ⟨vs, a, b, d⟩ := c; ⟨vs, k.list hm a, b, d⟩
theorem DataAt.of {g h : Heap} {L data : Addr} {m : Str → Option Value} {ds : List Int} (c : DataAt g data ds) (F : Fr g L h m) : DataAt h data ds :=
  let ⟨vs, ⟨o, ho, r⟩, b, d⟩ := c; ⟨vs, ⟨o, F.keep _ _ ho, r⟩, b, d⟩
/-- the reader's dict -/
def RdD (data : Addr) (h1 h2 : Int) (t1 t2 : Tok) (i : Nat) (o : Obj) : Prop :=
  ∃ t3, o = dictOf [⟨h1, .str (Str.ofString "data") t1, .ref data⟩, ⟨h2, .str (Str.ofString "at") t2, .int (i : Int) t3⟩] 2
theorem done_ok {prog : Program} {w : World} {p : Program} {loose : List Str} {mean : ExcName → Option Value} {mg mb : Str → Option Value}
    {dp un : Nat} {gd : Option (List Code)} {cn : Str} {cs : Scope} {a : Addr} {ccd : Value} {cl : List (Str × Addr)} {outer : List Env} {A₀ : Around} {base h₀ : Heap} {L : Addr} {m : Str → Option Value} {s : Shared} {Q E : Value → Shared → Prop} {x dx data : Addr} {h1 h2 : Int} {t1 t2 : Tok} {i : Nat} {o : Obj} {ds : List Int}
    (B : Below A₀ base outer h₀) (F : Fr h₀ L s.heap m) (X : (hd.heap_39 w.params).In h₀) (T : Top p loose mean mg mb h₀) (hk : cs.kind = .function)
        (N : News h₀ L s.heap [(x, instObj 159 dx), (dx, o)])
        (hroom : dp + 10 < recursionLimit) (hun : un + 10 * 10 < cLine)
    (Dt : DataAt s.heap data ds) (hdx : data ≠ dx) (hdX : data ≠ x) (hxd : x ≠ dx) (ho : RdD data h1 h2 t1 t2 i o) (hi : i ≤ ds.length)
    (ret : ∀ h' tk', Keep [] s.heap h' → Q (.bool (decide (ds.length ≤ i))) { s with heap := h', toks := tk' }) :
    wpAny (model prog w) (ktrTop dp un gd cn cs L a ccd cl outer) (call (.ref 123) [.ref x]) Q E s := by
  obtain ⟨t3, rfl⟩ := ho
  refine wpAny_call ?_
  k_dflt (refine' enter_plain (binds := [(Str.ofString "self", .ref x)]) ?k1 ?k2 ?k3 ?k4 ?k5 ?kA ?kF ?kK ?k6 ?k7 ?k8 ?k9 ?kB ?_ ?c5 ?c2 ?c3 ?c4; (case kA => exact rfl); (case kF => exact rfl); (case kK => assumption); (case k1 => k_asm); (case k2 => k_asm); (case k3 => k_asm); (case k4 => k_asm); (case k5 => k_asm); (case k6 => k_is); (case k7 => k_is); (case k8 => first | exact room0 hroom | ktr_room); (case k9 => exact BindsTo.of_eq rfl); (case c5 => decide); (case kB => exact locs rfl); (case c2 => exact rfl); (case c3 => exact rfl); (case c4 => exact rfl); k_whole; intro g' L' h' F' N' B' X' T' up' dn' sz'; (try dsimp only); (try k_fold))
  have Dg := Dt.keep (mod := [x, dx]) up' (by simp [hdx, hdX])
  obtain ⟨vs, hl, hii, hlen⟩ := Dg
  k_with_none
  k_steps
  rename Fr _ _ _ _ => Fz
  rename News _ _ _ _ => Nz
  rw [show decide ((ds.length : Int) ≤ (i : Int)) = decide (ds.length ≤ i) from by simp]
  exact ret _ _ (keep_drop (foot := [(x, instObj 159 dx), (dx, dictOf [⟨h1, .str (Str.ofString "data") t1, .ref data⟩, ⟨h2, .str (Str.ofString "at") t2, .int (i : Int) t3⟩] 2)]) (fun b o hb e => Fz.keep b o (up' b o hb e)) fun p hp => .inr ⟨(N p hp).1, (Nz p hp).1⟩)
theorem none_two {h₀ h : Heap} {L x dx b : Addr} {news : List (Addr × Obj)} {o1 o2 : Obj} (N : News h₀ L h news) (h1 : (x, o1) ∈ news) (h2 : (dx, o2) ∈ news) (hb : b ∈ [x, dx]) : h₀.get? b = none := by
  simp only [List.mem_cons, List.not_mem_nil, or_false] at hb
  rcases hb with rfl | rfl
  · exact (N _ h1).2.2
  · exact (N _ h2).2.2
theorem none_ne {h₀ h : Heap} {L x dx b : Addr} {news : List (Addr × Obj)} {o1 o2 : Obj} (N : News h₀ L h news) (h1 : (x, o1) ∈ news) (h2 : (dx, o2) ∈ news) (hb : b ∈ [x, dx]) : b ≠ L := by
  simp only [List.mem_cons, List.not_mem_nil, or_false] at hb
  rcases hb with rfl | rfl
  · exact (N _ h1).2.1
  · exact (N _ h2).2.1
theorem subN {h₀ h : Heap} {L x dx : Addr} {news : List (Addr × Obj)} {o1 o2 : Obj} (N : News h₀ L h news) (h1 : (x, o1) ∈ news) (h2 : (dx, o2) ∈ news) : News h₀ L h [(x, o1), (dx, o2)] := fun p hp => by
  simp only [List.mem_cons, List.not_mem_nil, or_false] at hp
  rcases hp with rfl | rfl
  · exact N _ h1
  · exact N _ h2
theorem keep_two {g h h' : Heap} {L x dx : Addr} {m : Str → Option Value} {ox : Obj} (N : (h.get? x = some ox)) (Nx : h'.get? x = some ox) (F : Fr g L h' m) (up' : ∀ b o, b ∉ [x, dx] → h.get? b = some o → g.get? b = some o) : Keep [dx] h h' := by
  intro b o hb e
  by_cases q : b = x
  · subst q; rw [N] at e; cases e; exact Nx
  · exact F.keep b o (up' b o (by simp only [List.mem_cons, List.not_mem_nil, or_false] at hb ⊢; exact fun z => z.elim q hb) e)
theorem swap2 {α : Type} {a b p : α} (h : p ∈ [b, a]) : p ∈ [a, b] := by simp only [List.mem_cons, List.not_mem_nil, or_false] at h ⊢; exact h.symm
theorem drop_at {ds : List Int} {i : Nat} (h : i < ds.length) : ds.drop i = ds.getD (i : Int).toNat 0 :: ds.drop (i + 1) := by
  rw [List.drop_eq_getElem_cons h]
  simp [List.getD, h]
theorem byte_ok {prog : Program} {w : World} {p : Program} {loose : List Str} {mean : ExcName → Option Value} {mg mb : Str → Option Value}
    {dp un : Nat} {gd : Option (List Code)} {cn : Str} {cs : Scope} {a : Addr} {ccd : Value} {cl : List (Str × Addr)} {outer : List Env} {A₀ : Around} {base h₀ : Heap} {L : Addr} {m : Str → Option Value} {s : Shared} {Q E : Value → Shared → Prop} {x dx data : Addr} {h1 h2 : Int} {t1 t2 : Tok} {i : Nat} {o : Obj} {ds : List Int}
    (B : Below A₀ base outer h₀) (F : Fr h₀ L s.heap m) (X : (hd.heap_39 w.params).In h₀) (T : Top p loose mean mg mb h₀) (hk : cs.kind = .function)
        (N : News h₀ L s.heap [(x, instObj 159 dx), (dx, o)])
        (hroom : dp + 30 < recursionLimit) (hun : un + 10 * 30 < cLine)
    (Dt : DataAt s.heap data ds) (hdx : data ≠ dx) (hdX : data ≠ x) (hxd : x ≠ dx) (ho : RdD data h1 h2 t1 t2 i o) (hi : i ≤ ds.length)
    (ret : ∀ v tv h' tk' o', rbyte (ds.drop i) = .ok v (ds.drop (i + 1)) → i < ds.length → RdD data h1 h2 t1 t2 (i + 1) o' → Keep [dx] s.heap h' → h'.get? dx = some o' → Q (.int v tv) { s with heap := h', toks := tk' })
    (exc : ∀ what e h' tk', rbyte (ds.drop i) = .bad what (ds.drop i) → Raised w.params s.heap [x, dx] (envX cn cs L a ccd cl :: outer) (Str.ofString what) (i : Int) e h' → E (.ref e) { s with heap := h', toks := tk' }) :
    wpAny (model prog w) (ktrTop dp un gd cn cs L a ccd cl outer) (call (.ref 130) [.ref x]) Q E s := by
  obtain ⟨t3, rfl⟩ := ho
  refine wpAny_call ?_
  k_dflt (refine' enter_plain (binds := [(Str.ofString "self", .ref x)]) ?k1 ?k2 ?k3 ?k4 ?k5 ?kA ?kF ?kK ?k6 ?k7 ?k8 ?k9 ?kB ?_ ?c5 ?c2 ?c3 ?c4; (case kA => exact rfl); (case kF => exact rfl); (case kK => assumption); (case k1 => k_asm); (case k2 => k_asm); (case k3 => k_asm); (case k4 => k_asm); (case k5 => k_asm); (case k6 => k_is); (case k7 => k_is); (case k8 => first | exact room0 hroom | ktr_room); (case k9 => exact BindsTo.of_eq rfl); (case c5 => decide); (case kB => exact locs rfl); (case c2 => exact rfl); (case c3 => exact rfl); (case c4 => exact rfl); k_whole; intro g' L' h' F' N' B' X' T' up' dn' sz'; (try dsimp only); (try k_fold))
  have Dg := Dt.keep (mod := [x, dx]) up' (by simp [hdx, hdX])
  k_with_none
  k_steps
  with_reducible refine Halt.go ?_
  rename Fr _ _ _ _ => Fa
  rename News _ _ _ _ => Na
  refine done_ok B' Fa X' T' rfl Na (room1 hroom (by decide)) (room3 hun (by decide)) (Dg.of Fa) hdx hdX hxd ⟨_, rfl⟩ hi fun h1 tk1 k1 => ?_
  obtain ⟨Fb, Nb⟩ := afterAll Fa Na k1
  clear Fa Na
  by_cases hlt : ds.length ≤ i
  · rw [decide_eq_true hlt]
    have hie : i = ds.length := Nat.le_antisymm hi hlt
    k_steps
    with_reducible refine Halt.go ?_
    rename Fr _ _ _ _ => Fa
    rename News _ _ _ _ => Na
    refine fail_ok B' Fa X' T' rfl Na (room1 hroom (by decide)) (room3 hun (by decide)) fun e h3 tk3 R => ?_
    refine R.leave (h₀ := s.heap) (mod := [x, dx]) (Around.frames_deeper rfl) rfl up' Fa (fun b hb => none_two Na (by k_mem) (by k_mem) hb) fun h4 R4 => ?_
    refine exc _ _ _ _ ?_ R4
    rw [hie, List.drop_length]; rfl
  · rw [decide_eq_false hlt]
    obtain ⟨vs, hl, hii, hlen⟩ := Dg
    have hlt' : (i : Int) < (vs.length : Int) := by rw [hii.length]; omega
    k_steps
    all_goals try
      with_reducible refine Halt.go ?_
      rename Fr _ _ _ _ => Fa
      rename News _ _ _ _ => Na
      refine fail_ok B' Fa X' T' rfl Na (room1 hroom (by decide)) (room3 hun (by decide)) fun e h3 tk3 R => ?_
      refine R.leave (h₀ := s.heap) (mod := [x, dx]) (Around.frames_deeper rfl) rfl up' Fa (fun b hb => none_two Na (by k_mem) (by k_mem) hb) fun h4 R4 => ?_
      refine exc _ _ _ _ ?_ R4
      rw [drop_at (Nat.not_le.mp hlt), rbyte, if_pos (by omega)]
    rename Fr _ _ _ _ => Fz
    rename News _ _ _ _ => Nz
    have hxs := (N _ (.head _)).1
    refine ret _ _ _ _ _ ?_ (Nat.not_le.mp hlt) ⟨_, rfl⟩ (keep_two hxs (Nz _ (.head _)).1 Fz up') (Nz _ (.tail _ (.head _))).1
    rw [drop_at (Nat.not_le.mp hlt), rbyte, if_neg (by omega)]
end

section
example : (Mine.hd.heap_39 = Mine.hd.heap_39) ∧ PySem.Challenge.rw_nu0313_01 = PySem.Challenge.rw_nu0313_01 := by w_top off; k_fill; exact ⟨rfl, rfl⟩
local macro_rules | `(tactic| walk_at $k:str) => if ["exec While Compare cons nil", "call ref", "exec For", "exec For Name Call cons nil", "exec For Name Name cons nil", "exec For Name Subscript cons nil"].contains k.getString then `(tactic| with_reducible refine halt ?_) else Lean.Macro.throwUnsupported
theorem num_ok {prog : Program} {w : World} {p : Program} {loose : List Str} {mean : ExcName → Option Value} {mg mb : Str → Option Value}
    {dp un : Nat} {gd : Option (List Code)} {cn : Str} {cs : Scope} {a : Addr} {ccd : Value} {cl : List (Str × Addr)} {outer : List Env} {A₀ : Around} {base h₀ : Heap} {L : Addr} {m : Str → Option Value} {s : Shared} {Q E : Value → Shared → Prop} {x dx data : Addr} {h1 h2 : Int} {t1 t2 : Tok} {i : Nat} {o : Obj} {ds : List Int}
    (B : Below A₀ base outer h₀) (F : Fr h₀ L s.heap m) (X : (hd.heap_39 w.params).In h₀) (T : Top p loose mean mg mb h₀) (hk : cs.kind = .function)
        (N : News h₀ L s.heap [(x, instObj 159 dx), (dx, o)])
        (hroom : dp + 40 < recursionLimit) (hun : un + 10 * 40 < cLine)
    (Dt : DataAt s.heap data ds) (hdx : data ≠ dx) (hdX : data ≠ x) (hxd : x ≠ dx) (ho : RdD data h1 h2 t1 t2 i o) (hi : i ≤ ds.length)
    (ret : ∀ v r i' tv h' tk' o', rnum (ds.drop i) = .ok v r → ds.drop i' = r → i' ≤ ds.length → i < i' → RdD data h1 h2 t1 t2 i' o' → Keep [dx] s.heap h' → h'.get? dx = some o' → Q (.int v tv) { s with heap := h', toks := tk' })
    (exc : ∀ what r i' e h' tk', rnum (ds.drop i) = .bad what r → ds.drop i' = r → i' ≤ ds.length → Raised w.params s.heap [x, dx] (envX cn cs L a ccd cl :: outer) (Str.ofString what) (i' : Int) e h' → E (.ref e) { s with heap := h', toks := tk' }) :
    wpAny (model prog w) (ktrTop dp un gd cn cs L a ccd cl outer) (call (.ref 137) [.ref x]) Q E s := by
  have ho0 := ho
  obtain ⟨t3, rfl⟩ := ho0
  refine wpAny_call ?_
  k_dflt (refine' enter_plain (binds := [(Str.ofString "self", .ref x)]) ?k1 ?k2 ?k3 ?k4 ?k5 ?kA ?kF ?kK ?k6 ?k7 ?k8 ?k9 ?kB ?_ ?c5 ?c2 ?c3 ?c4; (case kA => exact rfl); (case kF => exact rfl); (case kK => assumption); (case k1 => k_asm); (case k2 => k_asm); (case k3 => k_asm); (case k4 => k_asm); (case k5 => k_asm); (case k6 => k_is); (case k7 => k_is); (case k8 => first | exact room0 hroom | ktr_room); (case k9 => exact BindsTo.of_eq rfl); (case c5 => decide); (case kB => exact locs rfl); (case c2 => exact rfl); (case c3 => exact rfl); (case c4 => exact rfl); k_whole; intro g' L' h' F' N' B' X' T' up' dn' sz'; (try dsimp only); (try k_fold))
  have Dg := Dt.keep (mod := [x, dx]) up' (by simp [hdx, hdX])
  k_with_none
  k_steps
  with_reducible refine Halt.go ?_
  rename Fr _ _ _ _ => Fa
  rename News _ _ _ _ => Na
  refine byte_ok B' Fa X' T' rfl Na (room1 hroom (by decide)) (room3 hun (by decide)) (Dg.of Fa) hdx hdX hxd ho hi ?ret1 ?exc1
  case exc1 =>
    intro what e h3 tk3 hb R
    refine R.leave (h₀ := s.heap) (mod := [x, dx]) (Around.frames_deeper rfl) rfl up' Fa (fun b hb => none_two Na (by k_mem) (by k_mem) hb) fun h4 R4 => ?_
    refine exc _ _ i _ _ _ ?_ rfl hi R4
    rw [rnum, hb]; rfl
  case ret1 =>
    intro v tv h3 tk3 o1 hb hlt ho1 k1 e1
    obtain ⟨Fb, Nb⟩ := after1 Fa (fun p hp => Na p (swap2 hp)) k1 e1 (rest := [(x, _)]) (by intro p hp; cases hp with | head => exact hxd | tail _ q => cases q)
    clear Fa Na
    k_steps
    with_reducible refine Halt.go ?_
    rename Fr _ _ _ _ => Fa
    rename News _ _ _ _ => Na
    obtain ⟨J, hJJ⟩ : ∃ J : Nat → (Str → Option Value) → List (Addr × Obj) → Prop, ∀ n m news, J n m news ↔ (∃ (t w g : Int) (tt tw tg : Tok) (j : Nat) (o : Obj), m = mp [(Str.ofString "group", .int g tg), (Str.ofString "weight", .int w tw), (Str.ofString "total", .int t tt), (Str.ofString "self", .ref x)] ∧ news = [(x, instObj 159 dx), (dx, o)] ∧ RdD data h1 h2 t1 t2 j o ∧ j ≤ ds.length ∧ i < j ∧ n = ds.length - j ∧ 0 ≤ g ∧ g ≤ 255 ∧ rgo t w g (ds.drop j) = rnum (ds.drop i)) := ⟨_, fun _ _ _ => Iff.rfl⟩
    refine While_inv J (n₀ := ds.length - (i + 1)) Fa (fun p hp => Na p (swap2 hp)) ?start ?turn
    case start =>
      refine' (hJJ _ _ _).mpr ⟨0, 1, v, _, _, _, i + 1, o1, ?_, rfl, ho1, hlt, Nat.lt_succ_self _, rfl, (rbyte_ok hb).2.1, (rbyte_ok hb).2.2, ?_⟩
      rotate_left 3
      · (funext y; (by_cases h1 : y = Str.ofString "group"); (case pos => (subst h1; with_unfolding_all rfl)); (have b1 := beq_false_of_ne h1); (by_cases h2 : y = Str.ofString "weight"); (case pos => (subst h2; with_unfolding_all rfl)); (have b2 := beq_false_of_ne h2); (by_cases h3 : y = Str.ofString "total"); (case pos => (subst h3; with_unfolding_all rfl)); (have b3 := beq_false_of_ne h3); (by_cases h4 : y = Str.ofString "self"); (case pos => (subst h4; with_unfolding_all rfl)); (have b4 := beq_false_of_ne h4); simp [mp, List.lookup_cons, List.lookup_nil, h1, b1, h2, b2, h3, b3, h4, b4])
      · rw [rnum, hb]; rfl
    case turn =>
      rintro n m₁ news₁ h₁ tk₁ F₁ N₁ hJi
      obtain ⟨t, w_, g, tt, tw, tg, j, o2, rfl, rfl, ho2, hj, hij, rfl, hg0, hg1, hr⟩ := (hJJ _ _ _).mp hJi
      clear Fa Na
      have ho2' := ho2
      obtain ⟨t4, rfl⟩ := ho2'
      k_steps
      · with_reducible refine Halt.go ?_
        rename Fr _ _ _ _ => Fa
        rename News _ _ _ _ => Na
        refine byte_ok B' Fa X' T' rfl Na (room1 hroom (by decide)) (room3 hun (by decide)) (Dg.of Fa) hdx hdX hxd ho2 hj ?ret2 ?exc2
        case exc2 =>
          intro what e h3 tk3 hb3 R
          refine R.leave (h₀ := s.heap) (mod := [x, dx]) (Around.frames_deeper rfl) rfl up' Fa (fun b hb => none_two Na (by k_mem) (by k_mem) hb) fun h4 R4 => ?_
          refine exc _ _ j _ _ _ ?_ rfl hj R4
          rw [← hr, rgo_big (by omega), hb3]; rfl
        case ret2 =>
          intro v3 tv3 h4 tk4 o4 hb4 hlt4 ho4 k4 e4
          have Na' : News g' L' _ [(dx, _), (x, _)] := fun p hp => Na p (swap2 hp)
          obtain ⟨Fb, Nb⟩ := after1 Fa Na' k4 e4 (by intro p hp; cases hp with | head => exact hxd | tail _ q => cases q)
          clear Fa Na Na'
          k_steps
          rename Fr _ _ _ _ => Fz
          rename News _ _ _ _ => Nz
          refine' WhileStep.intro (n' := ds.length - (j + 1)) Fz (fun p hp => Nz p (swap2 hp)) (by omega) ((hJJ _ _ _).mpr ⟨t + (g - 128) * w_, w_ * 128, v3, _, _, _, j + 1, o4, ?_, rfl, ho4, hlt4, by omega, rfl, (rbyte_ok hb4).2.1, (rbyte_ok hb4).2.2, ?_⟩)
          rotate_left 3
          · (funext y; (by_cases h1 : y = Str.ofString "group"); (case pos => (subst h1; with_unfolding_all rfl)); (have b1 := beq_false_of_ne h1); (by_cases h2 : y = Str.ofString "weight"); (case pos => (subst h2; with_unfolding_all rfl)); (have b2 := beq_false_of_ne h2); (by_cases h3 : y = Str.ofString "total"); (case pos => (subst h3; with_unfolding_all rfl)); (have b3 := beq_false_of_ne h3); (by_cases h4 : y = Str.ofString "self"); (case pos => (subst h4; with_unfolding_all rfl)); (have b4 := beq_false_of_ne h4); simp [mp, List.lookup_cons, List.lookup_nil, h1, b1, h2, b2, h3, b3, h4, b4])
          · rw [← hr, rgo_big (t := t) (w := w_) (g := g) (by omega), hb4]; rfl
      · with_reducible refine Halt.go ?_
        rename Fr _ _ _ _ => Fa
        rename News _ _ _ _ => Na
        refine fail_ok B' Fa X' T' rfl Na (room1 hroom (by decide)) (room3 hun (by decide)) fun e h3 tk3 R => ?_
        refine R.leave (h₀ := s.heap) (mod := [x, dx]) (Around.frames_deeper rfl) rfl up' Fa (fun b hb => none_two Na (by k_mem) (by k_mem) hb) fun h4 R4 => ?_
        refine exc _ _ j _ _ _ ?_ rfl hj R4
        rw [← hr, rgo_long (by omega) (by omega)]
      all_goals
        rename Fr _ _ _ _ => Fz
        rename News _ _ _ _ => Nz
        refine ret _ (ds.drop j) j _ _ _ _ ?_ rfl hj hij ⟨_, rfl⟩ (keep_two (N _ (.head _)).1 (Nz _ (.head _)).1 Fz up') (Nz _ (.tail _ (.head _))).1
        rw [← hr, rgo_end (by omega) (by omega)]
        refine congrArg (fun v => Rd.ok v _) ?_
        unfold unzig
        generalize t + g * w_ = T at *
        simp only [Int.fmod_eq_emod_of_nonneg _ (show (0 : Int) ≤ 2 by decide), Int.fdiv_eq_ediv_of_nonneg _ (show (0 : Int) ≤ 2 by decide)] at *
        split <;> omega
end

section
example : (Mine.hd.heap_39 = Mine.hd.heap_39) ∧ PySem.Challenge.rw_nu0313_01 = PySem.Challenge.rw_nu0313_01 := by w_top off; k_fill; exact ⟨rfl, rfl⟩
local macro_rules | `(tactic| walk_at $k:str) => if ["exec While Compare cons nil", "call ref", "exec For", "exec For Name Call cons nil", "exec For Name Name cons nil", "exec For Name Subscript cons nil"].contains k.getString then `(tactic| with_reducible refine halt ?_) else Lean.Macro.throwUnsupported
theorem count_ok {prog : Program} {w : World} {p : Program} {loose : List Str} {mean : ExcName → Option Value} {mg mb : Str → Option Value}
    {dp un : Nat} {gd : Option (List Code)} {cn : Str} {cs : Scope} {a : Addr} {ccd : Value} {cl : List (Str × Addr)} {outer : List Env} {A₀ : Around} {base h₀ : Heap} {L : Addr} {m : Str → Option Value} {s : Shared} {Q E : Value → Shared → Prop} {x dx data : Addr} {h1 h2 : Int} {t1 t2 : Tok} {i : Nat} {o : Obj} {ds : List Int}
    (B : Below A₀ base outer h₀) (F : Fr h₀ L s.heap m) (X : (hd.heap_39 w.params).In h₀) (T : Top p loose mean mg mb h₀) (hk : cs.kind = .function)
        (N : News h₀ L s.heap [(x, instObj 159 dx), (dx, o)])
        (hroom : dp + 50 < recursionLimit) (hun : un + 10 * 50 < cLine)
    (Dt : DataAt s.heap data ds) (hdx : data ≠ dx) (hdX : data ≠ x) (hxd : x ≠ dx) (ho : RdD data h1 h2 t1 t2 i o) (hi : i ≤ ds.length)
    (ret : ∀ v r i' tv h' tk' o', rcount (ds.drop i) = .ok v r → 0 ≤ v → ds.drop i' = r → i' ≤ ds.length → i < i' → RdD data h1 h2 t1 t2 i' o' → Keep [dx] s.heap h' → h'.get? dx = some o' → Q (.int v tv) { s with heap := h', toks := tk' })
    (exc : ∀ what r i' e h' tk', rcount (ds.drop i) = .bad what r → ds.drop i' = r → i' ≤ ds.length → Raised w.params s.heap [x, dx] (envX cn cs L a ccd cl :: outer) (Str.ofString what) (i' : Int) e h' → E (.ref e) { s with heap := h', toks := tk' }) :
    wpAny (model prog w) (ktrTop dp un gd cn cs L a ccd cl outer) (call (.ref 144) [.ref x]) Q E s := by
  have ho0 := ho
  obtain ⟨t3, rfl⟩ := ho0
  refine wpAny_call ?_
  k_dflt (refine' enter_plain (binds := [(Str.ofString "self", .ref x)]) ?k1 ?k2 ?k3 ?k4 ?k5 ?kA ?kF ?kK ?k6 ?k7 ?k8 ?k9 ?kB ?_ ?c5 ?c2 ?c3 ?c4; (case kA => exact rfl); (case kF => exact rfl); (case kK => assumption); (case k1 => k_asm); (case k2 => k_asm); (case k3 => k_asm); (case k4 => k_asm); (case k5 => k_asm); (case k6 => k_is); (case k7 => k_is); (case k8 => first | exact room0 hroom | ktr_room); (case k9 => exact BindsTo.of_eq rfl); (case c5 => decide); (case kB => exact locs rfl); (case c2 => exact rfl); (case c3 => exact rfl); (case c4 => exact rfl); k_whole; intro g' L' h' F' N' B' X' T' up' dn' sz'; (try dsimp only); (try k_fold))
  have Dg := Dt.keep (mod := [x, dx]) up' (by simp [hdx, hdX])
  k_with_none
  k_steps
  with_reducible refine Halt.go ?_
  rename Fr _ _ _ _ => Fa
  rename News _ _ _ _ => Na
  refine num_ok B' Fa X' T' rfl Na (room1 hroom (by decide)) (room3 hun (by decide)) (Dg.of Fa) hdx hdX hxd ho hi ?ret1 ?exc1
  case exc1 =>
    intro what r i' e h3 tk3 hb hr hi' R
    refine R.leave (h₀ := s.heap) (mod := [x, dx]) (Around.frames_deeper rfl) rfl up' Fa (fun b hb => none_two Na (by k_mem) (by k_mem) hb) fun h4 R4 => ?_
    refine exc _ r i' _ _ _ ?_ hr hi' R4
    rw [rcount, hb]; rfl
  case ret1 =>
    intro v r j tv h3 tk3 o1 hb hr hj hij ho1 k1 e1
    obtain ⟨Fb, Nb⟩ := after1 Fa (fun p hp => Na p (swap2 hp)) k1 e1 (rest := [(x, _)]) (by intro p hp; cases hp with | head => exact hxd | tail _ q => cases q)
    clear Fa Na
    have ho1' := ho1
    obtain ⟨t4, rfl⟩ := ho1'
    obtain ⟨vs, hl, hii, hlen⟩ := Dg
    have hrl : r.length = ds.length - j := by rw [← hr, List.length_drop]
    k_steps
    all_goals try
      with_reducible refine Halt.go ?_
      rename Fr _ _ _ _ => Fa
      rename News _ _ _ _ => Na
      refine fail_ok B' Fa X' T' rfl (fun p hp => Na p (swap2 hp)) (room1 hroom (by decide)) (room3 hun (by decide)) fun e h3 tk3 R => ?_
      refine R.leave (h₀ := s.heap) (mod := [x, dx]) (Around.frames_deeper rfl) rfl up' Fa (fun b hb => none_two Na (by k_mem) (by k_mem) hb) fun h4 R4 => ?_
      refine exc _ r j _ _ _ ?_ hr hj R4
      rw [rcount, hb, Rd.bind, if_pos (by omega)]
    rename Fr _ _ _ _ => Fz
    rename News _ _ _ _ => Nz
    refine ret _ r j _ _ _ _ ?_ (by omega) hr hj hij ⟨_, rfl⟩ (keep_two (N _ (.head _)).1 (Nz _ (.tail _ (.head _))).1 Fz up') (Nz _ (.head _)).1
    rw [rcount, hb, Rd.bind, if_neg (by omega)]
end

end Mine

open PySem PySem.W PyProof.Rows PySem.Calls
set_option Elab.async false
set_option maxRecDepth 100000
set_option maxHeartbeats 8000000
namespace Mine
theorem funFrames_but {B h h' : Heap} {C : Addr} : ∀ {l : List Env}, h.FunFrames B l → (∀ env ∈ l, env.frame ≠ some C) → (∀ b, b ≠ C → h'.get? b = h.get? b) → h'.FunFrames (hideAll B [C]) l
  | [], _, _, _ => trivial
  | env :: r, ⟨hk, ⟨L, o, hf, hn, ho, hd⟩, hr⟩, hne, k => by
    refine ⟨hk, ⟨L, o, hf, ?_, ?_, hd⟩, funFrames_but hr (fun e he => hne e (.tail _ he)) k⟩
    · cases q : (hideAll B [C]).get? L with
      | none => rfl
      | some o' => have := of_hideAll _ q; rw [hn] at this; cases this
    · rw [k L fun q => hne env (.head _) (by rw [hf, q])]; exact ho

section
variable {M : Model} {A : Around} {E : Value → Shared → Prop} {s' : Shared} {P : Params} {h h₀ : Heap} {mod : List Addr} {env : Env} {outer : List Env} {L e C : Addr} {what : Str} {pos : Int}
/-- a change at one own dict that no frame is -/
theorem Raised.but {h1 h2 : Heap} {oC : Obj} (R : Raised P h mod (env :: outer) what pos e h1) (hC : h.get? C = some oC) (hCd : ∀ vs, oC.data ≠ .fields vs) (hCm : C ∉ mod) (hfr : ∀ env' ∈ env :: outer, env'.frame ≠ some C)
    (k : ∀ b, b ≠ C → h2.get? b = h1.get? b) (up₀ : ∀ b o, h₀.get? b = some o → h.get? b = some o) (hC₀ : h₀.get? C = none) (hm : ∀ b ∈ mod, h₀.get? b = none) :
    Raised P h₀ [] (env :: outer) what pos e h2 := by
  obtain ⟨⟨B, D, fl, n, t1, t2, t3, t4, ⟨hkb, hen, hl, oe, vs, T, oT, ts, he, hcls, hd, hv1, hnT, hTe, hT, hdT, h3⟩, hD, low, nD⟩, up⟩ := R
  obtain ⟨sl, hCs⟩ := up C oC hCm hC hCd
  have hDC : D ≠ C := fun q => by subst q; exact hCm (nD oC hC)
  have heC : e ≠ C := fun q => by
    subst q; rw [hCs] at he; cases he; exact hCd vs hd
  have hTC : T ≠ C := fun q => by
    subst q; rw [hCs] at hT; cases hT; exact hCd ts hdT
  have hg : ∀ b o, h₀.get? b = some o → b ∉ mod := fun b o e q => by rw [hm b q] at e; cases e
  have hnb : ∀ b o, h₀.get? b = some o → b ≠ C := fun b o e q => by rw [q, hC₀] at e; cases e
  refine ⟨⟨hideAll B [C], D, fl, n, t1, t2, t3, t4, ⟨fun b o q => ?_, ?_, funFrames_but hl hfr k, oe, vs, T, oT, ts, (k e heC).trans he, hcls, hd, hv1, ?_, hTe, (k T hTC).trans hT, hdT, h3⟩, hideAll_get _ hD (by simpa using hDC), fun b o _ hb q => ?_, fun o q => ?_⟩, fun b o _ q hn => ?_⟩
  · have hbC : b ≠ C := fun z => by subst z; rw [hideAll_none _ (.head _)] at q; cases q
    exact (k b hbC).trans (hkb b o (of_hideAll _ q))
  · cases q : (hideAll B [C]).get? e with
    | none => rfl
    | some o' => have := of_hideAll _ q; rw [hen] at this; cases this
  · cases q : (hideAll B [C]).get? T with
    | none => rfl
    | some o' => have := of_hideAll _ q; rw [hnT] at this; cases this
  · exact hideAll_get _ (low b o (hg b o q) hb (up₀ b o q)) (by simpa using hnb b o q)
  · exact absurd (nD o (up₀ D o q)) (hg D o q)
  · obtain ⟨sl, hs⟩ := up b o (hg b o q) (up₀ b o q) hn
    exact ⟨sl, (k b (hnb b o q)).trans hs⟩

/-- the frame's own note keeps it -/
theorem Raised.noted {env' : Env} {Q : Unit → Shared → Prop} (R : Raised P h mod (env :: outer) what pos e s'.heap) (hfr : A.frames = some (env :: outer)) (hf : env.frame = some L) (hf' : env'.frame = some L)
    (hQ : ∀ h'', Raised P h mod (env :: outer) what pos e h'' → Q () { s' with heap := h'' }) : wpAny M A (noteFrame (.ref e) env') Q E s' := by
  obtain ⟨⟨B, D, fl, n, t1, t2, t3, t4, hfl, hD, low, nD⟩, up⟩ := R
  refine fly_looks hfr hf hf' hfl fun h'' fl' x u => hQ h'' ⟨⟨B, D, fl', n, t1, t2, t3, t4, x, hD, low, nD⟩, fun b o hb q hn => ?_⟩
  obtain ⟨sl, hs⟩ := up b o hb q hn
  obtain ⟨sl', hs'⟩ := u b _ hs hn
  exact ⟨sl', hs'⟩
theorem Raised.passed {α : Type} {what' : String} {env' : Env} {l : List Env} {Q : α → Shared → Prop} (R : Raised P h mod l what pos e s'.heap)
    (hQ : ∀ h'', Raised P h mod l what pos e h'' → E (.ref e) { s' with heap := h'' }) : wpAny M A (PySem.passOn what' (.ref e) env' : Sem α) Q E s' := by
  obtain ⟨⟨B, D, fl, n, t1, t2, t3, t4, hfl, hD, low, nD⟩, up⟩ := R
  have hfl0 := hfl
  obtain ⟨hkb, hen, hl, oe, vs, T, oT, ts, he, hcls, hd, hv1, _⟩ := hfl
  unfold PySem.passOn
  refine wpAny_bind (wpAny_field he hd hv1 ?_)
  rw [if_neg (show ¬ ((Value.ref T == Value.none) = true) from by simp)]
  refine wpAny_bind (fly_set _ hfl0 fun h'' fl' x u => wpAny_throw (hQ h'' ⟨⟨B, D, fl', n, t1, t2, t3, t4, x, hD, low, nD⟩, fun b o hb q hn => ?_⟩))
  obtain ⟨sl, hs⟩ := up b o hb q hn
  obtain ⟨sl', hs'⟩ := u b _ hs hn
  exact ⟨sl', hs'⟩
end

open PyProof.Rows.LCg in
/-- what an element ends in that raises -/
def EltRaises (P : Params) (h₀ : Heap) (l : List Env) (Err : String → Int → Prop) (s₁ : Shared) (h : Heap) (C : Addr) (e : Value) (s' : Shared) : Prop :=
  ∃ a mod what pos, e = .ref a ∧ (∀ b ∈ mod, h₀.get? b = none ∧ b ≠ C) ∧ Raised P h mod l (Str.ofString what) pos a s'.heap ∧ Err what pos ∧ s' = { s₁ with heap := s'.heap, toks := s'.toks }

section
open PyProof.Rows.LCg
variable {prog : Program} {w : World} {A : Around} {E : Value → Shared → Prop} {s : Shared} {h₀ : Heap} {L : Addr} {m : Str → Option Value} {env : Env} {outer : List Env}
theorem comp_block {elt iter : Expr} {x : Str} {px : Pos} {scope : Scope} {cl : List (Str × Addr)} {pos : Pos} {s₂ : Shared} {I : Addr} {a₀ : Int} {n : Nat} {news : List (Addr × Obj)}
    {J : Nat → List Value → List (Addr × Obj) → Prop} {Err : String → Int → Prop} {Q : Value → Shared → Prop}
    (hh : A.handled = none) (hfr : A.frames = some (env :: outer)) (hf : env.frame = some L) (hof : ∀ e' ∈ outer, ∃ L', e'.frame = some L' ∧ h₀.get? L' ≠ none)
    (hsz : n ≤ sizeLine)
    (hcell : ∀ y ∈ scope.names, y.2 ≠ .cell) (hkind : scope.kind = .function) (hx : scope.names.lookup x = some .local) (hst : IsRangeIter s₂.heap I (a₀ + ((0 : Nat) : Int) * 1) ((n : Int) - ((0 : Nat) : Int)) 1) (hfp : I < s₂.heap.objs.size)
    (F : Fr h₀ L s₂.heap m) (N : News h₀ L s₂.heap news) (hIL : L ≠ I) (hI₀ : h₀.get? I = none) (off : ∀ p ∈ news, p.1 ≠ I)
    (hJ : J 0 [] news)
    (turn : ∀ i v t ys news I oI C oC D m₂ h tk, i < n → J i ys news → v = .int (a₀ + (i : Int)) t → NsObj oC m₂ → m₂ x = some v → Fr h₀ L h m → News h₀ L h ((I, oI) :: (C, oC) :: (D, lst ys) :: news) → Off3 I C D news → ((@Ne Nat I C) ∧ (@Ne Nat I D) ∧ (@Ne Nat C D)) →
      wpAny (model prog w) A (eval elt (compEnvC scope cl C env)) (CompEnd h₀ L m { s₂ with heap := h, toks := tk } I oI C oC D (lst ys) (fun _ => True) (fun y news' => J (i + 1) (ys ++ [y]) news')) (EltRaises w.params h₀ (env :: outer) Err s₂ h C) { s₂ with heap := h, toks := tk })
    (fin : ∀ ys news D h tk, J n ys news → Fr h₀ L h m → News h₀ L h ((D, lst ys) :: news) → Off1 D news → Q (.ref D) { s₂ with heap := h, toks := tk })
    (hE : ∀ a what pos h tk, Raised w.params h₀ [] (env :: outer) (Str.ofString what) pos a h → Err what pos → E (.ref a) { s₂ with heap := h, toks := tk }) :
    wpAny (model prog w) A (newList []) (fun acc s₃ => wpAny (model prog w) A (newFunctionEnv scope env.globals cl [] env.qual none .none (some env)) (fun cenv s₄ =>
      codeAny (model prog w) A (.compStart (.ListComp elt [⟨.Name x px, iter, [], 0⟩] scope pos) 0 (.ref I) acc { cenv with scope := relabel scope env }) (compPost (model prog w) A E none Q acc cenv.locals) s₄) E s₃) E s₂ := by
  have W := range_walks (prog := prog) (w := w) (A := A) (I := I) hh a₀ n
  refine wpAny_newObj_type (wpAny_newFunctionEnv hcell (by intro y hy; simp at hy) (fun h₁ hns₁ hsb₁ => ?_) hkind)
  dsimp only at hns₁ hsb₁ ⊢
  generalize hH2 : s₂.heap.push { cls := .type "list", dict := none, data := .seq ([] : List Value).toArray } = H2 at hns₁ hsb₁ ⊢
  have hC : H2.objs.size = s₂.heap.objs.size + 1 := by rw [← hH2, Heap.size_push]
  have hDC : s₂.heap.objs.size ≠ H2.objs.size := by rw [hC]; exact Nat.ne_of_lt (Nat.lt_succ_self _)
  have below : ∀ b, b < s₂.heap.objs.size → b ≠ H2.objs.size ∧ b ≠ s₂.heap.objs.size := fun b hb => ⟨by rw [hC]; exact Nat.ne_of_lt (Nat.lt_succ_of_lt hb), Nat.ne_of_lt hb⟩
  have old : ∀ b o, s₂.heap.get? b = some o → h₁.get? b = some o := fun b o e => hsb₁.extBut b o (below b (Heap.lt_size e)).1 (Heap.get?_push_of_some _ (hH2 ▸ Heap.get?_push_of_some _ e))
  have hacc : h₁.get? s₂.heap.objs.size = some (lst []) := hsb₁.extBut _ _ hDC (Heap.get?_push_of_some _ (hH2 ▸ Heap.get?_push_size _ rfl))
  have hst₁ : IsRangeIter h₁ I (a₀ + ((0 : Nat) : Int) * 1) ((n : Int) - ((0 : Nat) : Int)) 1 := W.frame 0 _ _ hst fun b _ o e => old b o e
  have fresh : ∀ a, s₂.heap.objs.size ≤ a → s₂.heap.get? a = none := fun a ha => by
    cases e : s₂.heap.get? a with
    | none => rfl
    | some o' => exact absurd (Heap.lt_size e) (Nat.not_lt.mpr ha)
  have fresh₀ : ∀ a, s₂.heap.objs.size ≤ a → h₀.get? a = none := fun a ha => by
    cases e : h₀.get? a with
    | none => rfl
    | some o' => have := F.keep a o' e; rw [fresh a ha] at this; cases this
  have hD₀ : h₀.get? s₂.heap.objs.size = none := fresh₀ _ (Nat.le_refl _)
  have hC₀ : h₀.get? H2.objs.size = none := fresh₀ _ (by rw [hC]; exact Nat.le_succ _)
  have hLlt : L < s₂.heap.objs.size := F.ns.lt
  have hDL : s₂.heap.objs.size ≠ L := Ne.symm (below L hLlt).2
  have hCL : H2.objs.size ≠ L := Ne.symm (below L hLlt).1
  have hCI : I ≠ H2.objs.size := (below I hfp).1
  have hDI : I ≠ s₂.heap.objs.size := (below I hfp).2
  have off₀ : Off3 I H2.objs.size s₂.heap.objs.size news := Off3.of fun p hp => ⟨off p hp, (below _ (Heap.lt_size (N p hp).1)).1, (below _ (Heap.lt_size (N p hp).1)).2⟩
  have hDf : s₂.heap.objs.size ∉ [I] := by simpa using Ne.symm hDI
  have hCf : H2.objs.size ∉ [I] := by simpa using Ne.symm hCI
  have hfrC : ∀ env' ∈ env :: outer, env'.frame ≠ some H2.objs.size := fun env' he q => by
    rcases List.mem_cons.mp he with rfl | he
    · rw [hf] at q; exact hCL (Option.some.inj q).symm
    · obtain ⟨L', e1, e2⟩ := hof env' he
      rw [e1] at q
      exact e2 (Option.some.inj q ▸ hC₀)
  have loop : ∀ s₃ : Shared, s₃ = { s₂ with heap := h₁, toks := s₂.toks + ([] : List (Str × Value)).length } →
      codeAny (model prog w) A (.compLoop (.ListComp elt [⟨.Name x px, iter, [], 0⟩] scope pos) 0 (.ref I) (.ref s₂.heap.objs.size) (compEnvC scope cl H2.objs.size env))
        (compPost (model prog w) A E none Q (.ref s₂.heap.objs.size) H2.objs.size) s₃ := by
    rintro s₃ rfl
    refine codeAny_compLoop_list
      (fun k s' => ∃ h' tk i ys m' news', s' = { s₂ with heap := h', toks := tk } ∧ i ≤ n ∧ k = n + 1 - i ∧ ys.length = i ∧ IsRangeIter h' I (a₀ + (i : Nat) * 1) ((n : Int) - (i : Nat)) 1 ∧ Fr h₀ L h' m ∧ h'.Ns H2.objs.size m' ∧ News h₀ L h' ((s₂.heap.objs.size, lst ys) :: news') ∧
        Off3 I H2.objs.size s₂.heap.objs.size news' ∧ J i ys news') ?_ (n + 1)
      ⟨h₁, _, 0, [], _, news, rfl, Nat.zero_le _, rfl, rfl, hst₁, F.keeps old, hns₁, fun p hp => ?_, off₀, hJ⟩
    · rintro k s' ⟨h', tk, i, ys, m', news', rfl, hi, rfl, hyl, hst', F', hn', N', off', hJ'⟩
      by_cases hlt : i < n
      · refine W.item i _ _ _ hlt hst' fun v h₂ tk₂ hPv hst₂ hk₂ => ?_
        obtain ⟨tv, hv⟩ := hPv
        refine wpAny_assign_Name (wpAny_storeName_local (lookup_relabel_local hx) (hn'.at' fun o e => hk₂ _ o (by simpa using Ne.symm hCI) e) (fun h₃ hn₃ hs₃ => ?_) (by simp [compEnvC, relabel, hkind]))
        have hst₃ : IsRangeIter h₃ I (a₀ + ((i + 1 : Nat) : Int) * 1) ((n : Int) - ((i + 1 : Nat) : Int)) 1 := W.frame (i + 1) _ _ hst₂ fun b hb o e => hs₃.extBut b o (fun q => hCf (by have q' : b = H2.objs.size := q; rw [← q']; exact hb)) e
        have heI := hst₃
        unfold IsRangeIter at heI
        obtain ⟨oC, heC, hoC⟩ := ns_obj hn₃
        have F₃ : Fr h₀ L h₃ m := (fr_but F' hk₂ hIL hI₀).change hs₃ hCL hC₀
        have off3 := off'.mem
        have N₂ : News h₀ L h₂ ((s₂.heap.objs.size, lst ys) :: news') := news_but N' hk₂ fun p hp => by
          rcases List.mem_cons.mp hp with rfl | hp
          · exact Ne.symm hDI
          · exact (off3 p hp).1
        have N₃ : News h₀ L h₃ ((I, _) :: (H2.objs.size, oC) :: (s₂.heap.objs.size, lst ys) :: news') := fun p hp => by
          rcases List.mem_cons.mp hp with rfl | hp
          · exact ⟨heI, Ne.symm hIL, hI₀⟩
          · rcases List.mem_cons.mp hp with rfl | hp
            · exact ⟨heC, hCL, hC₀⟩
            · have z := N₂ p hp
              refine ⟨hs₃.extBut _ _ ?_ z.1, z.2⟩
              rcases List.mem_cons.mp hp with rfl | hp
              · exact hDC
              · exact (off3 p hp).2.1
        refine wpAny_mono (turn i v tv ys news' I _ H2.objs.size oC s₂.heap.objs.size _ h₃ _ hlt hJ' hv hoC (by simp) F₃ N₃ off' ⟨hCI, hDI, Ne.symm hDC⟩) (fun y s₄ h₄ => ?_) fun e s₄ h₄ => ?_
        · obtain ⟨h₄, tk₄, news₄, rfl, F₄, N₄, off₄, -, R₄⟩ := h₄
          have zI := (N₄ (I, _) List.mem_cons_self).1
          have zC := (N₄ (H2.objs.size, oC) (List.mem_cons_of_mem _ List.mem_cons_self)).1
          have zD := (N₄ (s₂.heap.objs.size, lst ys) (List.mem_cons_of_mem _ (List.mem_cons_of_mem _ List.mem_cons_self))).1
          have N₄' : News h₀ L h₄ news₄ := fun p hp => N₄ p (List.mem_cons_of_mem _ (List.mem_cons_of_mem _ (List.mem_cons_of_mem _ hp)))
          have hst₄ : IsRangeIter h₄ I (a₀ + ((i + 1 : Nat) : Int) * 1) ((n : Int) - ((i + 1 : Nat) : Int)) 1 := zI
          refine append_at (hsz := by show ys.toArray.size ≤ sizeLine; rw [List.size_toArray, hyl]; exact Nat.le_trans hi hsz) zD fun h₅ hs₅ hD₅ => ?_
          have off4 := off₄.mem
          refine ⟨n + 1 - (i + 1), by omega, h₅, tk₄, i + 1, ys ++ [y], _, news₄, rfl, hlt, rfl, by rw [List.length_append, List.length_singleton, hyl], W.frame (i + 1) _ _ hst₄ fun b hb o e => hs₅.extBut b o (fun q => hDf (q ▸ hb)) e, F₄.change hs₅ hDL hD₀,
            (hoC.ns zC).sameBut hs₅ (Ne.symm hDC), fun p hp => ?_, off₄, R₄⟩
          rcases List.mem_cons.mp hp with rfl | hp
          · exact ⟨hD₅.trans (congrArg some (lst_snoc ys y)), hDL, hD₀⟩
          · exact ⟨hs₅.extBut _ _ (off4 p hp).2.2 (N₄' p hp).1, (N₄' p hp).2⟩
        · obtain ⟨a, mod, what, ps, rfl, hm, R, herr, hs4⟩ := h₄
          rw [hs4]
          refine Raised.noted (s' := { s₂ with heap := s₄.heap, toks := s₄.toks }) R hfr hf hf fun h₅ R₅ => ?_
          obtain ⟨es, ep, hdC, hkC, hfC⟩ := hoC
          have hCd : ∀ vs, oC.data ≠ .fields vs := fun vs q => by rw [hdC] at q; cases q
          have hCm : H2.objs.size ∉ mod := fun q => (hm _ q).2 rfl
          obtain ⟨sl, hCs⟩ := R₅.up _ _ hCm heC hCd
          refine ⟨_, (⟨_, es, ep, hCs, hdC, hkC, hfC⟩ : h₅.Ns H2.objs.size _), fun h₆ hs₆ cenv _ => ?_⟩
          have R₆ := Raised.but (h2 := h₆) R₅ heC hCd hCm hfrC (fun b hb => hs₆.2 b hb) F₃.keep hC₀ fun b hb => (hm b hb).1
          exact Raised.passed (s' := { s₂ with heap := h₆, toks := s₄.toks }) R₆ fun h₇ R₇ => hE _ _ _ _ _ R₇ herr
      · obtain rfl : i = n := Nat.le_antisymm hi (Nat.not_lt.mp hlt)
        refine W.done _ _ _ hst' fun h₂ tk₂ hk₂ => ?_
        have off3 := off'.mem
        have F₂ := fr_but F' hk₂ hIL hI₀
        have N₂ := news_but N' hk₂ fun p hp => by
          rcases List.mem_cons.mp hp with rfl | hp
          · exact Ne.symm hDI
          · exact (off3 p hp).1
        refine ⟨_, hn'.at' fun o e => hk₂ _ o (by simpa using Ne.symm hCI) e, fun h'' hs'' => fin ys news' _ h'' tk₂ hJ' (F₂.change hs'' hCL hC₀) (fun p hp => ?_) off'.one⟩
        refine ⟨hs''.extBut _ _ ?_ (N₂ p hp).1, (N₂ p hp).2⟩
        rcases List.mem_cons.mp hp with rfl | hp
        · exact hDC
        · exact (off3 p hp).2.1
    · rcases List.mem_cons.mp hp with rfl | hp
      · exact ⟨hacc, hDL, hD₀⟩
      · exact ⟨old _ _ (N p hp).1, (N p hp).2⟩
  exact codeAny_compStart_list (loop _ rfl) (W.self 0 _ _ _ hst₁ (loop _ rfl))

/-- where the range is read: what is left of a comprehension -/
def CompR (prog : Program) (w : World) (A : Around) (h₀ : Heap) (L : Addr) (m : Str → Option Value) (env : Env) (outer : List Env) (elt : Expr) (x : Str) (scope : Scope) (cl : List (Str × Addr)) (Q E : Value → Shared → Prop) (xv : Value) (s₁ : Shared) : Prop :=
  ∃ r a b t u v n news, xv = .ref r ∧ Fr h₀ L s₁.heap m ∧ News h₀ L s₁.heap news ∧ IsRange s₁.heap r a b 1 t u v ∧ Builtin.Range.small a b 1 = true ∧ Builtin.Range.rangeSize a b 1 = ((n : Nat) : Int) ∧ n ≤ sizeLine ∧
    ∃ (J : Nat → List Value → List (Addr × Obj) → Prop) (Err : String → Int → Prop), J 0 [] news ∧
    (∀ i v t ys news I oI C oC D m₂ h tk, i < n → J i ys news → v = .int (a + (i : Int)) t → NsObj oC m₂ → m₂ x = some v → Fr h₀ L h m → News h₀ L h ((I, oI) :: (C, oC) :: (D, lst ys) :: news) → Off3 I C D news → ((@Ne Nat I C) ∧ (@Ne Nat I D) ∧ (@Ne Nat C D)) →
      wpAny (model prog w) A (eval elt (compEnvC scope cl C env)) (CompEnd h₀ L m { s₁ with heap := h, toks := tk } I oI C oC D (lst ys) (fun _ => True) (fun y news' => J (i + 1) (ys ++ [y]) news')) (EltRaises w.params h₀ (env :: outer) Err s₁ h C) { s₁ with heap := h, toks := tk }) ∧
    (∀ ys news D h tk, J n ys news → Fr h₀ L h m → News h₀ L h ((D, lst ys) :: news) → Off1 D news → Q (.ref D) { s₁ with heap := h, toks := tk }) ∧
    (∀ a what pos h tk, Raised w.params h₀ [] (env :: outer) (Str.ofString what) pos a h → Err what pos → E (.ref a) { s₁ with heap := h, toks := tk })
theorem listComp_R {elt iter : Expr} {x : Str} {px : Pos} {scope : Scope} {cl : List (Str × Addr)} {pos : Pos} {Q : Value → Shared → Prop}
    (hh : A.handled = none) (hfr : A.frames = some (env :: outer)) (hf : env.frame = some L) {A₁ : Around} {base : Heap} (B : Below A₁ base outer h₀)
    (hclos : closureFor scope env = pure cl) (hcell : ∀ y ∈ scope.names, y.2 ≠ .cell) (hkind : scope.kind = .function)
    (hnames : ∀ y ∈ scope.names, y.2 = .local → scope.names.lookup y.1 = some .local) (hx : scope.names.lookup x = some .local)
    (h : wpAny (model prog w) A (eval iter env) (CompR prog w A h₀ L m env outer elt x scope cl Q E) E s)
    (hs : ∀ x, foldedSetIterable iter env x = pure x := by intro _; rfl) :
    wpAny (model prog w) A (eval (.ListComp elt [⟨.Name x px, iter, [], 0⟩] scope pos) env) Q E s := by
  have hof : ∀ e' ∈ outer, ∃ L', e'.frame = some L' ∧ h₀.get? L' ≠ none := fun e' he => by
    obtain ⟨L', o, hf', ho⟩ := funFrames_in B.frames e' he
    exact ⟨L', hf', by rw [ho]; simp⟩
  rw [eval_ListComp]
  refine wpAny_comprehension_free (use := none) rfl hs hclos hkind hnames (wpAny_mono h (fun xv s₁ h₁ => ?_) fun _ _ e => e)
  obtain ⟨r, a, b, t, u, v, n, news, rfl, F, N, hr, hsm, hn, hsz, J, Err, hJ, turn, fin, hE⟩ := h₁
  refine wpAny_pyIter_range hr hsm ?_
  refine comp_block (a₀ := a) (n := n) (news := news) (J := J) (Err := Err) hh hfr hf hof hsz hcell hkind hx (by show IsRangeIter _ _ _ _ _; rw [hn]; simpa using Heap.get?_push_size _ rfl) (by show s₁.heap.objs.size < (s₁.heap.push _).objs.size; rw [Heap.size_push]; exact Nat.lt_succ_self _)
    (F.keeps fun _ _ e => Heap.get?_push_of_some _ e) (N.grown fun _ _ e => Heap.get?_push_of_some _ e) (Nat.ne_of_lt F.ns.lt) (next_is_new F) (fun p hp => Nat.ne_of_lt (Heap.lt_size (N p hp).1)) hJ turn fin hE
end

section
variable {prog : Program} {w : World} {A₀ A : Around} {s : Shared} {base h₀ : Heap} {outer : List Env} {L : Addr} {m mg mb : Str → Option Value} {env : Env} {foot : List (Addr × Obj)} {K : Frag}
  {p : Program} {loose : List Str} {mean : ExcName → Option Value}
  {R : Result → Shared → Prop} {name qual : Str} {params : Arguments} {body : List Stmt} {scope : Scope} {dV kV doc pm cdv ct oc : Value} {an od : Option Addr} {osl : Array (Option Value)} {f : Addr} {args : Args} {binds : List (Str × Value)}
/-- a call of a def with cells: the ground hides the footing alone -/
theorem enter_cells (B : Below A₀ base outer h₀) (F : Fr h₀ L s.heap m) (X₀ : K.In h₀) (N : News h₀ L s.heap foot) (T : Top p loose mean mg mb h₀) (hA : A.frames = some (env :: outer)) (hf : env.frame = some L) (hke : env.scope.kind = .function)
    (ho : K.lookup f = some ⟨oc, od, .func (fnOf name qual params body scope dV kV doc pm an cdv ct), osl⟩) (hcd : codeIn K cdv qual = true) (hroom : A.depth < recursionLimit)
    (hbind : BindsTo s (fnOf name qual params body scope dV kV doc pm an cdv ct) args binds) (hkind : (binds.all fun y => scope.names.lookup y.1 == some .local || scope.names.lookup y.1 == some .cell) = true)
    (hnd : ((cellsFrom 0 scope.names []).map (·.1)).Nodup)
    (h : ∀ g L' h₁ tk cells, Fr g L' h₁ (bindL (envOfC qual scope L' f cdv).kindOf binds fun _ => none) → News g L' h₁ (cells ++ foot) →
      CellsAre (bindC (envOfC qual scope L' f cdv).kindOf binds fun _ => none) (cellsFrom (L' + 1) scope.names []) cells → Below A base (env :: outer) g → K.In g → Top p loose mean mg mb g →
      (∀ b o, b ∉ foot.map (·.1) → s.heap.get? b = some o → g.get? b = some o) → (∀ b o, g.get? b = some o → s.heap.get? b = some o) → s.heap.objs.size = L' →
      (∀ q ∈ cells, L' < q.1) →
      wpAny (model prog w) (A.deeper (envOfC qual scope L' f cdv)) (execs body (envOfC qual scope L' f cdv))
        (fun fl s' => R (.ok (.ret (match fl with | .ret v => v | _ => .none))) s')
        (fun e s' => wpAny (model prog w) (A.deeper (envOfC qual scope L' f cdv)) (leaving (envOfC qual scope L' f cdv) e) (fun _ s'' => R (.error e) s'') (fun e' s'' => R (.error e') s'') s')
        { s with heap := h₁, toks := tk })
    (hco : scope.isCoroutine = false) (hgen : scope.isGenerator = false) (hk : scope.kind = .function) : codeAny (model prog w) A (.call (.ref f) args) R s := by
  obtain ⟨BG, st⟩ := ground (A := A) B F N hA hf hke
  have Xs := X₀.keeps F.keep
  refine codeAny_call_function hroom (Xs _ _ ho) rfl hco hgen rfl (codeRec_of Xs hcd) (hbind _ _ _ _ ?_)
  refine wpAny_newFunctionEnv_cells hk (kindsX hkind _) fun env' he s' x => ?_
  subst he
  refine ⟨(T.nolimit.keeps F.keep).keeps x.toInCall.keep, codeAny_func ?_⟩
  obtain ⟨h₁, tk, rfl, _⟩ := x.done
  have hk₁ := x.toInCall.keep
  obtain ⟨cells, NC, Y⟩ := Cl.news (h₀ := s.heap) (Nat.le_refl _) fun n c hm => ⟨x.cell n c (lookup_of_mem_nodup (cellsFrom_names scope.names 0 (s.heap.objs.size + 1) [] [] rfl ▸ hnd) hm), x.above n c hm⟩
  have hab : ∀ {cs : List (Str × Addr)} {cells : List (Addr × Obj)} {cm : Str → Option Value}, CellsAre cm cs cells → (∀ n c, (n, c) ∈ cs → s.heap.objs.size < c) → ∀ q ∈ cells, s.heap.objs.size < q.1 := by
    intro cs cells cm Y
    induction Y with
    | nil => intro _ q hq; cases hq
    | cons hd _ ih =>
      intro hc q hq
      rcases List.mem_cons.mp hq with rfl | hq
      · exact hc _ _ (.head _)
      · exact ih (fun n c hm => hc n c (.tail _ hm)) q hq
  refine h _ s.heap.objs.size h₁ tk cells ⟨x.toInCall.ns, fun b o e => hk₁ b o (of_hideAll _ e), Nat.le_of_eq (hideAll_size _ _)⟩ (fun p hp => ?_) Y BG (X₀.keeps st) (T.keeps st) (fun b o hb e => hideAll_get _ e hb) (fun b o e => of_hideAll _ e) rfl (hab Y x.above)
  rcases List.mem_append.mp hp with hp | hp
  · refine ⟨(NC p hp).1, (NC p hp).2.1, ?_⟩
    cases q : (hideAll s.heap (foot.map (·.1))).get? p.1 with
    | none => rfl
    | some o => have := of_hideAll _ q; rw [(NC p hp).2.2] at this; cases this
  · exact ⟨hk₁ _ _ (N p hp).1, Nat.ne_of_lt (Heap.lt_size (N p hp).1), hideAll_none _ (List.mem_map_of_mem hp)⟩
end
end Mine

open PySem PySem.W PyProof.Rows PySem.Calls
set_option Elab.async false
set_option maxRecDepth 100000
set_option maxHeartbeats 8000000
namespace Mine
example : (Mine.hd.heap_39 = Mine.hd.heap_39) ∧ PySem.Challenge.rw_nu0313_01 = PySem.Challenge.rw_nu0313_01 := by w_top off; k_fill; exact ⟨rfl, rfl⟩

section
local macro_rules | `(tactic| walk_at "no such key") => `(tactic| skip)
local macro_rules | `(tactic| walk_at $k:str) => if ["exec While Compare cons nil", "call ref", "exec For", "exec For Name Call cons nil", "exec For Name Name cons nil", "exec For Name Subscript cons nil", "eval ListComp"].contains k.getString then `(tactic| with_reducible refine halt ?_) else Lean.Macro.throwUnsupported
theorem rnums_ok {prog : Program} {w : World} {p : Program} {loose : List Str} {mean : ExcName → Option Value} {mg mb : Str → Option Value}
    {dp un : Nat} {gd : Option (List Code)} {cn : Str} {cs : Scope} {a : Addr} {ccd : Value} {cl : List (Str × Addr)} {outer : List Env} {A₀ : Around} {base h₀ : Heap} {L : Addr} {m : Str → Option Value} {s : Shared} {Q E : Value → Shared → Prop} {x dx data : Addr} {h1 h2 : Int} {t1 t2 : Tok} {i : Nat} {o : Obj} {ds : List Int}
    (B : Below A₀ base outer h₀) (F : Fr h₀ L s.heap m) (X : (hd.heap_39 w.params).In h₀) (T : Top p loose mean mg mb h₀) (hk : cs.kind = .function)
        (N : News h₀ L s.heap [(x, instObj 159 dx), (dx, o)])
        (hroom : dp + 60 < recursionLimit) (hun : un + 10 * 60 < cLine)
    (Dt : DataAt s.heap data ds) (hdx : data ≠ dx) (hdX : data ≠ x) (hxd : x ≠ dx) (ho : RdD data h1 h2 t1 t2 i o) (hi : i ≤ ds.length)
    (ret : ∀ l vs r i' ol h' tk' o', rnums (ds.drop i) = .ok vs r → ds.drop i' = r → i' ≤ ds.length → RdD data h1 h2 t1 t2 i' o' → Keep [dx] s.heap h' → h'.get? dx = some o' → IL vs ol → h'.get? l = some ol → s.heap.get? l = none → Q (.ref l) { s with heap := h', toks := tk' })
    (exc : ∀ what r i' e h' tk', rnums (ds.drop i) = .bad what r → ds.drop i' = r → i' ≤ ds.length → Raised w.params s.heap [x, dx] (envX cn cs L a ccd cl :: outer) (Str.ofString what) (i' : Int) e h' → E (.ref e) { s with heap := h', toks := tk' }) :
    wpAny (model prog w) (ktrTop dp un gd cn cs L a ccd cl outer) (call (.ref 156) [.ref x]) Q E s := by
  have ho0 := ho
  have N_ := N
  obtain ⟨t3, rfl⟩ := ho0
  refine wpAny_call ?_
  k_dflt (refine' enter_cells (binds := [(Str.ofString "self", .ref x)]) ?k1 ?k2 ?k3 ?k4 ?k5 ?kA ?kF ?kK ?k6 ?k7 ?k8 ?k9 ?kB ?kD ?_ ?c2 ?c3 ?c4; (case kA => exact rfl); (case kF => exact rfl); (case kK => assumption); (case k1 => k_asm); (case k2 => k_asm); (case k3 => k_asm); (case k4 => k_asm); (case k5 => k_asm); (case k6 => k_is); (case k7 => k_is); (case k8 => first | exact room0 hroom | ktr_room); (case k9 => exact BindsTo.of_eq rfl); (case kB => exact rfl); (case kD => decide +kernel); (case c2 => exact rfl); (case c3 => exact rfl); (case c4 => exact rfl); k_whole; intro g' L' h' tk' cells' F' N' Y' B' X' T' up' dn' sz' lt'; (obtain ⟨oc, hE', dc⟩ := CellsAre.one Y'); (subst hE'); (clear Y'); (try simp only [List.cons_append, List.nil_append] at N'); (try dsimp only); (try k_fold))
  have Dg := Dt.keep (mod := [x, dx]) up' (by simp [hdx, hdX])
  replace dc : oc.data = .cell (some (.ref x)) := dc
  replace F' : Fr g' L' h' (mp []) := Fr.as F' (by funext y; rfl)
  have hxL : @LT.lt Nat _ x L' := sz' ▸ Heap.lt_size (N _ (.head _)).1
  have hdL : @LT.lt Nat _ dx L' := sz' ▸ Heap.lt_size (N _ (.tail _ (.head _))).1
  k_with_none
  k_steps
  refine Halt.go ?_
  refine listComp_R (m := mp []) (outer := envX cn cs L a ccd cl :: outer) rfl rfl rfl B' (by rfl) (by decide) (by rfl) (by decide) (by rfl) ?_
  k_steps
  with_reducible refine Halt.go ?_
  rename Fr _ _ _ _ => Fa
  rename News _ _ _ _ => Na
  refine count_ok B' Fa X' T' rfl (fun p hp => Na p (.tail _ hp)) (room1 hroom (by decide)) (room3 hun (by decide)) (Dg.of Fa) hdx hdX hxd ho hi ?ret1 ?exc1
  case exc1 =>
    intro what r i' e h3 tk3 hb hr hi' R
    refine R.leave (h₀ := s.heap) (mod := [x, dx]) (Around.frames_deeper rfl) rfl up' Fa (fun b hb => none_two Na (by k_mem) (by k_mem) hb) fun h4 R4 => ?_
    refine exc _ r i' _ _ _ ?_ hr hi' R4
    rw [rnums, hb]; rfl
  case ret1 =>
    intro v r j tv h3 tk3 o1 hb hv hr hj hij ho1 k1 e1
    obtain ⟨Fb, Nb⟩ := afterK [(L' + 1, oc), (x, instObj 159 dx), (dx, o1)] Fa Na k1 e1 (by k_mem) ⟨.inr ⟨by k_mem, by dsimp only; omega⟩, .inr ⟨by k_mem, hxd⟩, .inl rfl, trivial⟩
    clear Fa Na
    have hvb : v ≤ 100000 := by
      obtain ⟨vs, hl, hii, hlen⟩ := Dg
      have := rcount_le hb
      rw [← hr, List.length_drop] at this
      omega
    k_steps
    rename IsRange _ _ _ _ _ _ _ _ => hrg
    rename Fr _ _ _ _ => Fa
    rename News _ _ _ _ => Na
    obtain ⟨J, hJJ⟩ : ∃ J : Nat → List Value → List (Addr × Obj) → Prop, ∀ i' ys nw, J i' ys nw ↔ (∃ (j' : Nat) (o' : Obj) (done : List Int), nw = [(L' + 1, oc), (x, instObj 159 dx), (dx, o')] ∧ RdD data h1 h2 t1 t2 j' o' ∧ j' ≤ ds.length ∧ IntsAre ys done ∧ i < j' ∧ pre done (rmany rnum (v.toNat - i') (ds.drop j')) = rnums (ds.drop i)) := ⟨_, fun _ _ _ => Iff.rfl⟩
    refine ⟨_, 0, v, _, _, _, v.toNat, _, rfl, Fa, Na, hrg, small_one (by decide) (by decide) (lf10 hv) (rt5 hvb), by rw [rangeSize_nat]; simp, by rw [sizeLine_eq]; exact Nat.le_trans (rt6 hvb) (by decide),
      J,
      fun what pos => ∃ r i', rnums (ds.drop i) = .bad what r ∧ ds.drop i' = r ∧ i' ≤ ds.length ∧ pos = (i' : Int), ?J0, ?turn, ?fin, ?hE⟩
    case J0 =>
      refine (hJJ _ _ _).mpr ⟨j, o1, [], rfl, ho1, hj, .nil, hij, ?_⟩
      rw [pre_nil, rnums, hb, hr]; rfl
    case hE =>
      rintro a what pos h tk R ⟨r', i', hbad, hr', hi', rfl⟩
      refine R.leave0 (h₀ := s.heap) (mod := [x, dx]) (Around.frames_deeper rfl) rfl up' (fun _ _ e => e) ?_ (fun b hb => nomatch hb) fun h4 R4 => ?_
      · exact Heap.get?_none_of_le Fa.above
      · exact exc _ _ _ _ _ _ hbad hr' hi' R4
    case turn =>
      rintro i' v' t' ys nw I oI C oC D m₂ h tk hlt hJi rfl hC hx F N off ne
      obtain ⟨j', o', done, rfl, ho', hj', hys, hij', heq⟩ := (hJJ _ _ _).mp hJi
      clear Fa Na
      have ho2 := ho'
      obtain ⟨t5, rfl⟩ := ho2
      k_steps
      refine Halt.go ?_
      rename Fr _ _ _ _ => Fa
      rename News _ _ _ _ => Na
      have Ns : News g' L' _ [(x, instObj 159 dx), (dx, _)] := fun p hp => Na p (.tail _ (.tail _ (.tail _ (.tail _ hp))))
      obtain ⟨nIC, nID, nCD⟩ := ne
      obtain ⟨-, ⟨nxI, nxC, nxD⟩, ⟨ndI, ndC, ndD⟩, -⟩ := id off
      refine num_ok B' Fa X' T' rfl Ns (room1 hroom (by decide)) (room3 hun (by decide)) (Dg.of Fa) hdx hdX hxd ho' hj' ?ret2 ?exc2
      case exc2 =>
        intro what r2 i2 e h3 tk3 hb2 hr2 hi2 R
        refine ⟨e, [x, dx], what, i2, rfl, fun b hb => ⟨none_two Ns (by k_mem) (by k_mem) hb, ?_⟩, R, ⟨r2, i2, ?_, hr2, hi2, rfl⟩, rfl⟩
        · simp only [List.mem_cons, List.not_mem_nil, or_false] at hb
          rcases hb with rfl | rfl
          · exact nxC
          · exact ndC
        · rw [← heq, show v.toNat - i' = (v.toNat - i' - 1) + 1 from rt1 hlt, pre_bad hb2]
      case ret2 =>
        intro v2 r2 i2 tv2 h3 tk3 o3 hb2 hr2 hi2 hi2' ho3 k3 e3
        obtain ⟨Fb, Nb⟩ := afterK [(I, oI), (C, oC), (D, LCg.lst ys), (L' + 1, oc), (x, instObj 159 dx), (dx, o3)] Fa Na k3 e3 (by k_mem)
          ⟨.inr ⟨by k_mem, Ne.symm ndI⟩, .inr ⟨by k_mem, Ne.symm ndC⟩, .inr ⟨by k_mem, Ne.symm ndD⟩, .inr ⟨by k_mem, by dsimp only; omega⟩, .inr ⟨by k_mem, hxd⟩, .inl rfl, trivial⟩
        refine LCg.CompEnd.intro Fb Nb [(L' + 1, oc), (x, instObj 159 dx), (dx, o3)] (fun p hp => hp) off trivial ((hJJ _ _ _).mpr ⟨i2, o3, done ++ [v2], rfl, ho3, hi2, hys.append (.cons v2 tv2 .nil), by omega, ?_⟩)
        rw [← heq, show v.toNat - i' = (v.toNat - (i' + 1)) + 1 from rt2 hlt, pre_succ hb2, ← hr2]
    case fin =>
      rintro ys nw D h tk hJi F N off
      obtain ⟨j', o', done, rfl, ho', hj', hys, hij', heq⟩ := (hJJ _ _ _).mp hJi
      rw [Nat.sub_self, pre_zero] at heq
      obtain ⟨-, nx, nd, -⟩ := id off
      exact ret D done _ j' _ _ _ _ heq.symm rfl hj' ho' (keep_two (N_ _ (.head _)).1 (N _ (.tail _ (.tail _ (.head _)))).1 F up') (N _ (.tail _ (.tail _ (.tail _ (.head _))))).1 ⟨ys, _, rfl, hys⟩ (N _ (.head _)).1
        (new_of up' (N _ (.head _)).2.2 (by simp only [List.map_cons, List.map_nil, List.mem_cons, List.not_mem_nil, or_false]; exact fun z => z.elim (fun z => nx z.symm) (fun z => nd z.symm)))
end

end Mine

open PySem PySem.W PyProof.Rows PySem.Calls
set_option Elab.async false
set_option maxRecDepth 100000
set_option maxHeartbeats 8000000
namespace Mine
/-- what a turn of a loop ends in -/
def ForTurn (h₀ : Heap) (L I : Addr) (oI : Obj) (J : (Str → Option Value) → List (Addr × Obj) → Prop) (s₁ : Shared) (Q : Flow → Shared → Prop) (f : Flow) (s₂ : Shared) : Prop :=
  match f with
  | .ret v => Q (.ret v) s₂
  | .brk => Q .next s₂
  | _ => ∃ h' tk m' nw, s₂ = { s₁ with heap := h', toks := tk } ∧ Fr h₀ L h' m' ∧ News h₀ L h' ((I, oI) :: nw) ∧ (∀ p ∈ nw, p.1 ≠ I) ∧ J m' nw
theorem ForTurn.intro {h₀ : Heap} {L I : Addr} {oI : Obj} {J : (Str → Option Value) → List (Addr × Obj) → Prop} {s₁ : Shared} {Q : Flow → Shared → Prop} {h' : Heap} {tk : Nat} {m' : Str → Option Value} {all : List (Addr × Obj)}
    (F : Fr h₀ L h' m') (N : News h₀ L h' all) (nw : List (Addr × Obj)) (sub : ∀ p ∈ (I, oI) :: nw, p ∈ all) (off : ∀ p ∈ nw, p.1 ≠ I) (hJ : J m' nw) : ForTurn h₀ L I oI J s₁ Q .next { s₁ with heap := h', toks := tk } :=
  ⟨h', tk, m', nw, rfl, F, fun p hp => N p (sub p hp), off, hJ⟩
section
variable {prog : Program} {w : World} {A : Around} {E : Value → Shared → Prop} {s : Shared} {h₀ : Heap} {m : Str → Option Value} {env : Env}
theorem for_walk {R : Result → Shared → Prop} {x : Str} {px : Pos} {body : List Stmt} {I : Addr} {fp : List Addr} {n : Nat} {P : Nat → Value → Prop} {St : Nat → Heap → Prop} {news : List (Addr × Obj)}
    {J : Nat → (Str → Option Value) → List (Addr × Obj) → Prop} {Q : Flow → Shared → Prop}
    (W : Walks prog w A I fp [I] n P St) (hIo : ∀ i h, St i h → ∃ o, h.get? I = some o)
    (hSt : ∀ i h h' o m nw, St (i + 1) h → h.get? I = some o → h'.get? I = some o → (∀ b o, h₀.get? b = some o → h'.get? b = some o) → News h₀ env.locals h' nw → J (i + 1) m nw → St (i + 1) h')
    (hx : env.kindOf x = some .local) (hp : (env.scope.kind == .class || (env.scope.kind == .module && env.locals != env.globals)) = false)
    (hIL : env.locals ≠ I) (hLf : env.locals ∉ fp) (hI₀ : h₀.get? I = none) (off : ∀ p ∈ news, p.1 ≠ I) (hst : St 0 s.heap) (F : Fr h₀ env.locals s.heap m) (N : News h₀ env.locals s.heap news) (hJ : J 0 m news)
    (turn : ∀ i v m₁ nw oI h tk, i < n → P i v → J i m₁ nw → (∀ p ∈ nw, p.1 ≠ I) → Fr h₀ env.locals h (fun y => if y = x then some v else m₁ y) → News h₀ env.locals h ((I, oI) :: nw) →
      wpAny (model prog w) A (execs body env) (ForTurn h₀ env.locals I oI (J (i + 1)) { s with heap := h, toks := tk } Q) (notedBy (model prog w) A env fun e s' => R (.error e) s') { s with heap := h, toks := tk })
    (hQ : ∀ f s', Q f s' → R (.ok f) s') (fin : ∀ m' nw h tk, J n m' nw → Fr h₀ env.locals h m' → News h₀ env.locals h nw → Q .next { s with heap := h, toks := tk }) :
    codeAny (model prog w) A (.forLoop (.Name x px) (.ref I) body [] env) R s := by
  refine codeAny_forLoop
    (fun k s' => ∃ h' tk m' nw i, s' = { s with heap := h', toks := tk } ∧ St i h' ∧ Fr h₀ env.locals h' m' ∧ News h₀ env.locals h' nw ∧ (∀ p ∈ nw, p.1 ≠ I) ∧ J i m' nw ∧ i ≤ n ∧ k = n + 1 - i) ?_ (n + 1)
    ⟨s.heap, s.toks, m, news, 0, rfl, hst, F, N, off, hJ, Nat.zero_le _, rfl⟩
  rintro k s' ⟨h', tk, m', nw, i, rfl, hst', F', N', off', hJ', hi, rfl⟩
  have next : ∀ h₁ : Heap, (∀ b o, b ∉ [I] → h'.get? b = some o → h₁.get? b = some o) → Fr h₀ env.locals h₁ m' ∧ News h₀ env.locals h₁ nw := fun h₁ hk₁ =>
    ⟨LCg.fr_but F' hk₁ hIL hI₀, LCg.news_but N' hk₁ off'⟩
  by_cases hlt : i < n
  · refine W.item i _ _ _ hlt hst' fun v h₁ tk₁ hP hst₁ hk₁ => ?_
    obtain ⟨F₁, N₁⟩ := next h₁ hk₁
    refine wpAny_assign_Name (wpAny_storeName_local hx F₁.ns (fun h₂ hn₂ hs₂ => ?_) hp)
    have F₂ := F₁.set hn₂ hs₂
    have hst₂ : St (i + 1) h₂ := W.frame _ _ _ hst₁ fun b hb o e => (hs₂.2 b fun q => hLf (q ▸ hb)).trans e
    obtain ⟨oI, hI⟩ := hIo _ _ hst₂
    have N₂ : News h₀ env.locals h₂ ((I, oI) :: nw) := fun p hp => by
      rcases List.mem_cons.mp hp with rfl | hp
      · exact ⟨hI, Ne.symm hIL, hI₀⟩
      · exact (N₁.set hs₂) p hp
    refine wpAny_mono (turn i v m' nw oI h₂ _ hlt hP hJ' off' F₂ N₂) (fun f s₃ h₃ => ?_) fun _ _ e => e
    have again : ForTurn h₀ env.locals I oI (J (i + 1)) { s with heap := h₂, toks := tk₁ + 1 } Q .next s₃ → ∃ k', k' < n + 1 - i ∧ ∃ h' tk m' nw i, s₃ = { s with heap := h', toks := tk } ∧ St i h' ∧ Fr h₀ env.locals h' m' ∧ News h₀ env.locals h' nw ∧ (∀ p ∈ nw, p.1 ≠ I) ∧ J i m' nw ∧ i ≤ n ∧ k' = n + 1 - i := by
      rintro ⟨h₃', tk₃, m₂, nw₂, rfl, F₃, N₃, ha₃, hJ₃⟩
      have hI₃ := (N₃ _ (.head _)).1
      exact ⟨n + 1 - (i + 1), by omega, h₃', tk₃, m₂, nw₂, i + 1, rfl, hSt i h₂ h₃' oI m₂ nw₂ hst₂ hI hI₃ F₃.keep (fun p hp => N₃ p (.tail _ hp)) hJ₃, F₃, fun p hp => N₃ p (.tail _ hp), ha₃, hJ₃, hlt, rfl⟩
    cases f with
    | ret v => exact hQ _ _ h₃
    | brk => exact hQ _ _ h₃
    | cont => exact again h₃
    | next => exact again h₃
  · have hin : i = n := by omega
    subst hin
    refine W.done _ _ _ hst' fun h₁ tk₁ hk₁ => wpAny_execs_nil ?_
    obtain ⟨F₁, N₁⟩ := next h₁ hk₁
    exact hQ _ _ (fin m' nw h₁ tk₁ hJ' F₁ N₁)

/-- a loop over a range: what is left where the range is read -/
def ForR (prog : Program) (w : World) (A : Around) (h₀ : Heap) (env : Env) (x : Str) (body : List Stmt) (Q : Flow → Shared → Prop) (E : Value → Shared → Prop) (xv : Value) (s₁ : Shared) : Prop :=
  ∃ r a b t u v n m news, xv = .ref r ∧ Fr h₀ env.locals s₁.heap m ∧ News h₀ env.locals s₁.heap news ∧ IsRange s₁.heap r a b 1 t u v ∧ Builtin.Range.small a b 1 = true ∧ Builtin.Range.rangeSize a b 1 = ((n : Nat) : Int) ∧
    ∃ J : Nat → (Str → Option Value) → List (Addr × Obj) → Prop, J 0 m news ∧
    (∀ i t m₁ nw I oI h tk, i < n → J i m₁ nw → (∀ p ∈ nw, p.1 ≠ I) → Fr h₀ env.locals h (fun y => if y = x then some (.int (a + (i : Int)) t) else m₁ y) → News h₀ env.locals h ((I, oI) :: nw) →
      wpAny (model prog w) A (execs body env) (ForTurn h₀ env.locals I oI (J (i + 1)) { s₁ with heap := h, toks := tk } Q) E { s₁ with heap := h, toks := tk }) ∧
    ∀ m' nw h tk, J n m' nw → Fr h₀ env.locals h m' → News h₀ env.locals h nw → Q .next { s₁ with heap := h, toks := tk }
theorem for_range {x : Str} {px pos : Pos} {iter : Expr} {body : List Stmt} {Q : Flow → Shared → Prop} (h₀ : Heap) (hh : A.handled = none) (hx : env.kindOf x = some .local)
    (hp : (env.scope.kind == .class || (env.scope.kind == .module && env.locals != env.globals)) = false)
    (h : wpAny (model prog w) A (eval iter env) (ForR prog w A h₀ env x body Q E) E s)
    (hE : PassesOwn (model prog w) A env E) (hs : ∀ x, foldedSetIterable iter env x = pure x := by intro _; rfl) :
    wpAny (model prog w) A (exec (.For (.Name x px) iter body [] pos) env) Q E s := by
  refine wpAny_For (wpAny_mono h (fun xv s₁ h₁ => ?_) fun _ _ e => e) hs
  obtain ⟨r, a, b, t, u, v, n, m, news, rfl, F, N, hr, hsm, hn, J, hJ, turn, fin⟩ := h₁
  refine wpAny_pyIter_range hr hsm ?_
  have W := LCg.range_walks (prog := prog) (w := w) (A := A) (I := s₁.heap.objs.size) hh a n
  refine for_walk (R := fun r s' => match r with | .ok f => Q f s' | .error e => cameBackBy (model prog w) A env E e s') (h₀ := h₀) (m := m) (news := news) (J := J) (Q := Q) W (fun i h st => ⟨_, st⟩)
    (fun i h h' o m nw st e e' _ _ _ => ?_) hx hp (Nat.ne_of_lt F.ns.lt) (by simpa using Nat.ne_of_lt F.ns.lt) (next_is_new F) (fun p hp => Nat.ne_of_lt (Heap.lt_size (N p hp).1)) (by show IsRangeIter _ _ _ _ _; rw [hn]; simpa using Heap.get?_push_size _ rfl)
    (F.keeps fun _ _ e => Heap.get?_push_of_some _ e) (N.grown fun _ _ e => Heap.get?_push_of_some _ e) hJ ?_ (fun f s' h => h) fun m' nw h tk => fin m' nw h tk
  · have st' : h.get? s₁.heap.objs.size = some _ := st
    show h'.get? s₁.heap.objs.size = some _
    rw [e', ← e]; exact st'
  · rintro i v m₁ nw oI h tk hi ⟨t, rfl⟩ hJ' off F₁ N₁
    exact wpAny_passesOwn hE (turn i t m₁ nw _ oI h tk hi hJ' off F₁ N₁)

/-- a loop over a list that no turn changes -/
def ForL (prog : Program) (w : World) (A : Around) (h₀ : Heap) (env : Env) (x : Str) (body : List Stmt) (Q : Flow → Shared → Prop) (E : Value → Shared → Prop) (xv : Value) (s₁ : Shared) : Prop :=
  ∃ ax its m news, xv = .ref ax ∧ Fr h₀ env.locals s₁.heap m ∧ News h₀ env.locals s₁.heap news ∧
    ∃ J : Nat → (Str → Option Value) → List (Addr × Obj) → Prop, J 0 m news ∧ (∀ i m nw, J i m nw → LCg.SrcAt h₀ ax its nw) ∧
    (∀ i v m₁ nw I oI h tk, its[i]? = some v → J i m₁ nw → (∀ p ∈ nw, p.1 ≠ I) → Fr h₀ env.locals h (fun y => if y = x then some v else m₁ y) → News h₀ env.locals h ((I, oI) :: nw) →
      wpAny (model prog w) A (execs body env) (ForTurn h₀ env.locals I oI (J (i + 1)) { s₁ with heap := h, toks := tk } Q) E { s₁ with heap := h, toks := tk }) ∧
    ∀ m' nw h tk, J its.size m' nw → Fr h₀ env.locals h m' → News h₀ env.locals h nw → Q .next { s₁ with heap := h, toks := tk }
theorem for_list {x : Str} {px pos : Pos} {iter : Expr} {body : List Stmt} {Q : Flow → Shared → Prop} (h₀ : Heap) (hh : A.handled = none) (hx : env.kindOf x = some .local)
    (hp : (env.scope.kind == .class || (env.scope.kind == .module && env.locals != env.globals)) = false)
    (h : wpAny (model prog w) A (eval iter env) (ForL prog w A h₀ env x body Q E) E s)
    (hE : PassesOwn (model prog w) A env E) (hs : ∀ x, foldedSetIterable iter env x = pure x := by intro _; rfl) :
    wpAny (model prog w) A (exec (.For (.Name x px) iter body [] pos) env) Q E s := by
  refine wpAny_For (wpAny_mono h (fun xv s₁ h₁ => ?_) fun _ _ e => e) hs
  obtain ⟨ax, its, m, news, rfl, F, N, J, hJ, hsrc, turn, fin⟩ := h₁
  have hl := (hsrc _ _ _ hJ).list F.keep N
  have hlt : ax < s₁.heap.objs.size := by obtain ⟨_, e, _⟩ := hl; exact Heap.lt_size e
  have haL : env.locals ≠ ax := fun q => by
    obtain ⟨o, es, ep, ho, hd, _⟩ := F.ns
    obtain ⟨o', ho', hc', n, hd'⟩ := hl
    rw [q, ho'] at ho; cases ho; rw [hd] at hd'; cases hd'
  refine wpAny_pyIter_list hl ?_
  have W := Walks.list (prog := prog) (w := w) (A := A) hh s₁.heap.objs.size ax (Nat.ne_of_lt hlt) its
  refine for_walk (R := fun r s' => match r with | .ok f => Q f s' | .error e => cameBackBy (model prog w) A env E e s') (h₀ := h₀) (m := m) (news := news) (J := J) (Q := Q) W (fun i h st => by obtain ⟨o, e, _⟩ := st.1; exact ⟨o, e⟩)
    (fun i h h' o m nw st e e' k N' hJ' => ⟨by obtain ⟨o', q, r⟩ := st.1; rw [e] at q; cases q; exact ⟨o, e', r⟩, (hsrc _ _ _ hJ').list k N'⟩) hx hp (Nat.ne_of_lt F.ns.lt) (fun q => ?_) (next_is_new F) (fun p hp => Nat.ne_of_lt (Heap.lt_size (N p hp).1))
    ⟨⟨_, Heap.get?_push_size _ rfl, rfl, rfl⟩, hl.push _⟩ (F.keeps fun _ _ e => Heap.get?_push_of_some _ e) (N.grown fun _ _ e => Heap.get?_push_of_some _ e) hJ ?_ (fun f s' h => h) fun m' nw h tk => fin m' nw h tk
  · rcases List.mem_cons.mp q with q | q
    · exact Nat.ne_of_lt F.ns.lt q
    · exact haL (List.mem_singleton.mp q)
  · rintro i v m₁ nw oI h tk hi hv hJ' off F₁ N₁
    exact wpAny_passesOwn hE (turn i v m₁ nw _ oI h tk hv hJ' off F₁ N₁)

/-- a loop over a text's signs -/
def ForS (prog : Program) (w : World) (A : Around) (h₀ : Heap) (env : Env) (x : Str) (body : List Stmt) (Q : Flow → Shared → Prop) (E : Value → Shared → Prop) (xv : Value) (s₁ : Shared) : Prop :=
  ∃ tx t m news, xv = .str tx t ∧ Fr h₀ env.locals s₁.heap m ∧ News h₀ env.locals s₁.heap news ∧
    ∃ J : Nat → (Str → Option Value) → List (Addr × Obj) → Prop, J 0 m news ∧
    (∀ i c t m₁ nw I oI h tk, tx.cps[i]? = some c → J i m₁ nw → (∀ p ∈ nw, p.1 ≠ I) → Fr h₀ env.locals h (fun y => if y = x then some (.str ⟨#[c]⟩ t) else m₁ y) → News h₀ env.locals h ((I, oI) :: nw) →
      wpAny (model prog w) A (execs body env) (ForTurn h₀ env.locals I oI (J (i + 1)) { s₁ with heap := h, toks := tk } Q) E { s₁ with heap := h, toks := tk }) ∧
    ∀ m' nw h tk, J tx.cps.size m' nw → Fr h₀ env.locals h m' → News h₀ env.locals h nw → Q .next { s₁ with heap := h, toks := tk }
theorem for_str {x : Str} {px pos : Pos} {iter : Expr} {body : List Stmt} {Q : Flow → Shared → Prop} (h₀ : Heap) (hh : A.handled = none) (hx : env.kindOf x = some .local)
    (hp : (env.scope.kind == .class || (env.scope.kind == .module && env.locals != env.globals)) = false)
    (h : wpAny (model prog w) A (eval iter env) (ForS prog w A h₀ env x body Q E) E s)
    (hE : PassesOwn (model prog w) A env E) (hs : ∀ x, foldedSetIterable iter env x = pure x := by intro _; rfl) :
    wpAny (model prog w) A (exec (.For (.Name x px) iter body [] pos) env) Q E s := by
  refine wpAny_For (wpAny_mono h (fun xv s₁ h₁ => ?_) fun _ _ e => e) hs
  obtain ⟨tx, t, m, news, rfl, F, N, J, hJ, turn, fin⟩ := h₁
  have go : ∀ (T : String) (o : Obj), Walks prog w A s₁.heap.objs.size [s₁.heap.objs.size] [s₁.heap.objs.size] tx.cps.size (SignAt tx) (fun i h => h.IsStrIter s₁.heap.objs.size T tx t i) →
      (s₁.heap.push o).IsStrIter s₁.heap.objs.size T tx t 0 → codeAny (model prog w) A (.forLoop (.Name x px) (.ref s₁.heap.objs.size) body [] env) (fun r s' => match r with | .ok f => Q f s' | .error e => cameBackBy (model prog w) A env E e s') { s₁ with heap := s₁.heap.push o } := by
    intro T o W hst
    refine for_walk (R := fun r s' => match r with | .ok f => Q f s' | .error e => cameBackBy (model prog w) A env E e s') (h₀ := h₀) (m := m) (news := news) (J := J) (Q := Q) W (fun i h st => by obtain ⟨o, e, _⟩ := st; exact ⟨o, e⟩)
      (fun i h h' o m nw st e e' k N' hJ' => by obtain ⟨o', q, r⟩ := st; rw [e] at q; cases q; exact ⟨o, e', r⟩) hx hp (Nat.ne_of_lt F.ns.lt) (by simpa using Nat.ne_of_lt F.ns.lt) (next_is_new F) (fun p hp => Nat.ne_of_lt (Heap.lt_size (N p hp).1))
      hst (F.keeps fun _ _ e => Heap.get?_push_of_some _ e) (N.grown fun _ _ e => Heap.get?_push_of_some _ e) hJ ?_ (fun f s' h => h) fun m' nw h tk => fin m' nw h tk
    rintro i v m₁ nw oI h tk hi ⟨c, u, hc, rfl⟩ hJ' off F₁ N₁
    exact wpAny_passesOwn hE (turn i c u m₁ nw _ oI h tk hc hJ' off F₁ N₁)
  cases ha : tx.cps.all (· < 128)
  · exact wpAny_pyIter_wide ha (go "str_iterator" _ (Walks.strWide hh _ tx t) ⟨_, Heap.get?_push_size _ rfl, rfl, rfl⟩)
  · exact wpAny_pyIter_ascii ha (go "str_ascii_iterator" _ (Walks.strAscii hh _ tx t) ⟨_, Heap.get?_push_size _ rfl, rfl, rfl⟩)
end
end Mine

open PySem PySem.W PyProof.Rows PySem.Calls
set_option Elab.async false
set_option maxRecDepth 100000
set_option maxHeartbeats 8000000
namespace Mine
example : (Mine.hd.heap_39 = Mine.hd.heap_39) ∧ PySem.Challenge.rw_nu0313_01 = PySem.Challenge.rw_nu0313_01 := by w_top off; k_fill; exact ⟨rfl, rfl⟩

section
local macro_rules | `(tactic| walk_at $k:str) => if ["exec While Compare cons nil", "call ref", "exec For", "exec For Name Call cons nil", "exec For Name Name cons nil", "exec For Name Subscript cons nil"].contains k.getString then `(tactic| with_reducible refine halt ?_) else Lean.Macro.throwUnsupported
abbrev one (c : Int) : Str := ⟨#[c.toNat]⟩
theorem join_one : ∀ cs : List Int, Txt.join (Str.ofString "") (cs.map one) = KStt.txt cs := by
  intro cs
  have he : (Str.ofString "") = Str.empty := by decide +kernel
  show PySem.Builtin.Str.glued (Str.ofString "") (cs.map one) = _
  rw [StrLaws.glued_eq_join, he]
  induction cs with
  | nil => rfl
  | cons c r ih =>
    cases r with
    | nil => rfl
    | cons d r =>
      show one c ++ Str.empty ++ Str.join Str.empty ((d :: r).map one) = _
      rw [ih, Str.append_empty]
      refine Str.ext' (Array.toList_inj.mp ?_)
      rw [Str.cps_append, Array.toList_append]
      simp [KStt.txt]
theorem ones_len : ∀ cs : List Int, ((cs.map one).map (·.length)).sum = cs.length := by
  intro cs
  induction cs with
  | nil => rfl
  | cons c r ih =>
    rw [List.map_cons, List.map_cons, List.sum_cons, ih, List.length_cons]
    show 1 + _ = _
    omega
theorem rtext_ok {prog : Program} {w : World} {p : Program} {loose : List Str} {mean : ExcName → Option Value} {mg mb : Str → Option Value}
    {dp un : Nat} {gd : Option (List Code)} {cn : Str} {cs : Scope} {a : Addr} {ccd : Value} {cl : List (Str × Addr)} {outer : List Env} {A₀ : Around} {base h₀ : Heap} {L : Addr} {m : Str → Option Value} {s : Shared} {Q E : Value → Shared → Prop} {x dx data : Addr} {h1 h2 : Int} {t1 t2 : Tok} {i : Nat} {o : Obj} {ds : List Int}
    (B : Below A₀ base outer h₀) (F : Fr h₀ L s.heap m) (X : (hd.heap_39 w.params).In h₀) (T : Top p loose mean mg mb h₀) (hk : cs.kind = .function)
        (N : News h₀ L s.heap [(x, instObj 159 dx), (dx, o)])
        (hroom : dp + 60 < recursionLimit) (hun : un + 10 * 60 < cLine)
    (Dt : DataAt s.heap data ds) (hdx : data ≠ dx) (hdX : data ≠ x) (hxd : x ≠ dx) (ho : RdD data h1 h2 t1 t2 i o) (hi : i ≤ ds.length)
    (ret : ∀ cs tv r i' h' tk' o', rtext (ds.drop i) = .ok cs r → (∀ c ∈ cs, 0 ≤ c ∧ c ≤ 1114111) → ds.drop i' = r → i' ≤ ds.length → RdD data h1 h2 t1 t2 i' o' → Keep [dx] s.heap h' → h'.get? dx = some o' → Q (.str (KStt.txt cs) tv) { s with heap := h', toks := tk' })
    (exc : ∀ what r i' e h' tk', rtext (ds.drop i) = .bad what r → ds.drop i' = r → i' ≤ ds.length → Raised w.params s.heap [x, dx] (envX cn cs L a ccd cl :: outer) (Str.ofString what) (i' : Int) e h' → E (.ref e) { s with heap := h', toks := tk' }) :
    wpAny (model prog w) (ktrTop dp un gd cn cs L a ccd cl outer) (call (.ref 151) [.ref x]) Q E s := by
  have ho0 := ho
  obtain ⟨t3, rfl⟩ := ho0
  have N_ := N
  refine wpAny_call ?_
  k_dflt (refine' enter_plain (binds := [(Str.ofString "self", .ref x)]) ?k1 ?k2 ?k3 ?k4 ?k5 ?kA ?kF ?kK ?k6 ?k7 ?k8 ?k9 ?kB ?_ ?c5 ?c2 ?c3 ?c4; (case kA => exact rfl); (case kF => exact rfl); (case kK => assumption); (case k1 => k_asm); (case k2 => k_asm); (case k3 => k_asm); (case k4 => k_asm); (case k5 => k_asm); (case k6 => k_is); (case k7 => k_is); (case k8 => first | exact room0 hroom | ktr_room); (case k9 => exact BindsTo.of_eq rfl); (case c5 => decide); (case kB => exact locs rfl); (case c2 => exact rfl); (case c3 => exact rfl); (case c4 => exact rfl); k_whole; intro g' L' h' F' N' B' X' T' up' dn' sz'; (try dsimp only); (try k_fold))
  have hxL : @LT.lt Nat _ x L' := sz' ▸ Heap.lt_size (N _ (.head _)).1
  have hdL : @LT.lt Nat _ dx L' := sz' ▸ Heap.lt_size (N _ (.tail _ (.head _))).1
  have Dg := Dt.keep (mod := [x, dx]) up' (by simp [hdx, hdX])
  k_with_none
  k_steps
  with_reducible refine Halt.go ?_
  rename Fr _ _ _ _ => Fa
  rename News _ _ _ _ => Na
  rename_i ll ha l1 hb
  obtain ⟨l1x, l1d⟩ := l1
  replace Fa : Fr g' L' _ (fun y => if y = Str.ofString "code" then none else if y = Str.ofString "place" then none else mp [(Str.ofString "letters", .ref ll), (Str.ofString "self", .ref x)] y) := Fr.as Fa (by
    funext y
    by_cases h1 : y = Str.ofString "code"
    · subst h1; with_unfolding_all rfl
    by_cases h2 : y = Str.ofString "place"
    · subst h2; with_unfolding_all rfl
    by_cases h3 : y = Str.ofString "letters"
    · subst h3; with_unfolding_all rfl
    by_cases h4 : y = Str.ofString "self"
    · subst h4; with_unfolding_all rfl
    have b3 := beq_false_of_ne h3
    have b4 := beq_false_of_ne h4
    simp [mp, List.lookup_cons, List.lookup_nil, h1, h2, h3, b3, h4, b4])
  refine for_range g' rfl (by rfl) (by rfl) ?_ (by passes_own)
  k_steps
  with_reducible refine Halt.go ?_
  rename Fr _ _ _ _ => Fa
  rename News _ _ _ _ => Na
  have Ns : News g' L' _ [(x, instObj 159 dx), (dx, _)] := fun p hp => Na p (.tail _ hp)
  refine count_ok B' Fa X' T' rfl Ns (room1 hroom (by decide)) (room3 hun (by decide)) (Dg.of Fa) hdx hdX hxd ho hi ?ret1 ?exc1
  case exc1 =>
    intro what r i' e h3 tk3 hb hr hi' R
    refine R.leave (h₀ := s.heap) (mod := [x, dx]) (Around.frames_deeper rfl) rfl up' Fa (fun b hb => none_two Na (by k_mem) (by k_mem) hb) fun h4 R4 => ?_
    refine exc _ r i' _ _ _ ?_ hr hi' R4
    rw [rtext, hb]; rfl
  case ret1 =>
    intro v r j tv h3 tk3 o1 hb hv hr hj hij ho1 k1 e1
    have hvb : v ≤ 100000 := by
      obtain ⟨vs, hl, hii, hlen⟩ := Dg
      have := rcount_le hb
      rw [← hr, List.length_drop] at this
      omega
    obtain ⟨Fb, Nb⟩ := afterK [(ll, listOf #[] 0), (x, instObj 159 dx), (dx, o1)] Fa Na k1 e1 (by k_mem) ⟨.inr ⟨by k_mem, by dsimp only; omega⟩, .inr ⟨by k_mem, hxd⟩, .inl rfl, trivial⟩
    clear Fa Na Ns
    k_steps
    rename IsRange _ _ _ _ _ _ _ _ => hrg
    rename Fr _ _ _ _ => Fa
    rename News _ _ _ _ => Na
    obtain ⟨J, hJJ⟩ : ∃ J : Nat → (Str → Option Value) → List (Addr × Obj) → Prop, ∀ i' m nw, J i' m nw ↔ (∃ (j' : Nat) (o' : Obj) (us : List Value) (n : Nat) (done : List Int) (uc up : Option Value), m = (fun y => if y = Str.ofString "code" then uc else if y = Str.ofString "place" then up else mp [(Str.ofString "letters", .ref ll), (Str.ofString "self", .ref x)] y) ∧ nw = [(ll, listOf us.toArray n), (x, instObj 159 dx), (dx, o')] ∧ RdD data h1 h2 t1 t2 j' o' ∧ j' ≤ ds.length ∧ StrsAre us (done.map one) ∧ (∀ c ∈ done, 0 ≤ c ∧ c ≤ 1114111) ∧ done.length = i' ∧ i' ≤ v.toNat ∧ i < j' ∧ pre done (rmany rchar (v.toNat - i') (ds.drop j')) = rtext (ds.drop i)) := ⟨_, fun _ _ _ => Iff.rfl⟩
    refine ⟨_, 0, v, _, _, _, v.toNat, _, _, rfl, Fa, Na, hrg, small_one (by decide) (by decide) (lf10 hv) (rt5 hvb), by rw [rangeSize_nat]; simp,
      J, ?J0, ?turn, ?fin⟩
    case J0 =>
      refine (hJJ _ _ _).mpr ⟨j, o1, [], 0, [], none, none, rfl, rfl, ho1, hj, .nil, (fun _ h => nomatch h), rfl, Nat.zero_le _, hij, ?_⟩
      rw [pre_nil, rtext, hb, hr]; rfl
    case turn =>
      rintro i' t' m₁ nw I oI h tk hlt hJi off F N
      obtain ⟨j', o', us, n, done, uc, up, rfl, rfl, ho', hj', hus, hdn, hdl, hiv, hij', heq⟩ := (hJJ _ _ _).mp hJi
      clear Fa Na
      have nlI : @Ne Nat ll I := off _ (.head _)
      have nxI : @Ne Nat x I := off _ (.tail _ (.head _))
      have ndI : @Ne Nat dx I := off _ (.tail _ (.tail _ (.head _)))
      have ho2 := ho'
      obtain ⟨t5, rfl⟩ := ho2
      have hul : us.length ≤ 100000 := by rw [hus.length, List.length_map]; exact rt3 hdl hlt hvb
      k_steps
      refine Halt.go ?_
      rename Fr _ _ _ _ => Fa
      rename News _ _ _ _ => Na
      have Ns : News g' L' _ [(x, instObj 159 dx), (dx, _)] := fun p hp => Na p (.tail _ (.tail _ hp))
      refine num_ok B' Fa X' T' rfl Ns (room1 hroom (by decide)) (room3 hun (by decide)) (Dg.of Fa) hdx hdX hxd ho' hj' ?ret2 ?exc2
      case exc2 =>
        intro what r2 i2 e h3 tk3 hb2 hr2 hi2 R
        refine R.leave (h₀ := s.heap) (mod := [x, dx]) (Around.frames_deeper rfl) rfl up' Fa (fun b hb => none_two Na (by k_mem) (by k_mem) hb) fun h4 R4 => ?_
        refine exc _ r2 i2 _ _ _ ?_ hr2 hi2 R4
        rw [← heq, show v.toNat - i' = (v.toNat - i' - 1) + 1 from rt1 hlt]
        exact pre_bad (by rw [rchar, hb2]; rfl) _
      case ret2 =>
        intro v2 r2 i2 tv2 h3 tk3 o3 hb2 hr2 hi2 hi2' ho3 k3 e3
        obtain ⟨Fb, Nb⟩ := afterK [(I, oI), (ll, listOf us.toArray n), (x, instObj 159 dx), (dx, o3)] Fa Na k3 e3 (by k_mem)
          ⟨.inr ⟨by k_mem, Ne.symm ndI⟩, .inr ⟨by k_mem, by dsimp only; omega⟩, .inr ⟨by k_mem, hxd⟩, .inl rfl, trivial⟩
        clear Fa Na Ns F N
        have ho4 := ho3
        obtain ⟨t6, rfl⟩ := ho4
        k_steps
        all_goals try
          with_reducible refine Halt.go ?_
          rename Fr _ _ _ _ => Fa
          rename News _ _ _ _ => Na
          refine fail_ok B' Fa X' T' rfl (fun p hp => Na p (.tail _ (.tail _ hp))) (room1 hroom (by decide)) (room3 hun (by decide)) fun e h3 tk3 R => ?_
          refine R.leave (h₀ := s.heap) (mod := [x, dx]) (Around.frames_deeper rfl) rfl up' Fa (fun b hb => none_two Na (by k_mem) (by k_mem) hb) fun h4 R4 => ?_
          refine exc _ r2 i2 _ _ _ ?_ hr2 hi2 R4
          rw [← heq, show v.toNat - i' = (v.toNat - i' - 1) + 1 from rt1 hlt]
          exact pre_bad (by rw [rchar, hb2, Rd.bind, if_pos (by omega)]) _
        rename Fr _ _ _ _ => Fz
        rename News _ _ _ _ => Nz
        rw [List.push_toArray] at Nz
        refine ForTurn.intro (Fr.as (m' := fun y => if y = Str.ofString "code" then some (.int v2 tv2) else if y = Str.ofString "place" then some (.int (0 + (i' : Int)) t') else mp [(Str.ofString "letters", .ref ll), (Str.ofString "self", .ref x)] y) Fz ?m) Nz [(ll, _), (x, _), (dx, _)] (fun p hp => hp) ?off
          ((hJJ _ _ _).mpr ⟨i2, _, _, _, done ++ [v2], _, _, rfl, rfl, ho3, hi2, ?st, ?dn, ?dl, by omega, by omega, ?eq⟩)
        case m =>
          funext y
          by_cases h1 : y = Str.ofString "code"
          · subst h1; with_unfolding_all rfl
          by_cases h2 : y = Str.ofString "place"
          · subst h2; with_unfolding_all rfl
          simp only [if_neg h1, if_neg h2]
        case off =>
          intro p hp
          simp only [List.mem_cons, List.not_mem_nil, or_false] at hp
          rcases hp with rfl | rfl | rfl
          · exact nlI
          · exact nxI
          · exact ndI
        case st => rw [List.map_append]; exact hus.append' (.cons _ _ .nil)
        case dn =>
          intro c hc
          rcases List.mem_append.mp hc with hc | hc
          · exact hdn c hc
          · rw [List.mem_singleton.mp hc]; omega
        case dl => rw [List.length_append, hdl]; rfl
        case eq =>
          rw [← heq, show v.toNat - i' = (v.toNat - (i' + 1)) + 1 from rt2 hlt, pre_succ (r := r2) (v := v2) (by rw [rchar, hb2, Rd.bind, if_neg (by omega)]), ← hr2]
    case fin =>
      rintro m' nw h tk hJi F N
      obtain ⟨j', o', us, n, done, uc, up, rfl, rfl, ho', hj', hus, hdn, hdl, hiv, hij', heq⟩ := (hJJ _ _ _).mp hJi
      clear Fa Na
      rw [Nat.sub_self, pre_zero] at heq
      k_steps
      refine join_list (News.isList N (.head _)) (by simpa using hus) ?_ fun t' kk => ?_
      · rw [ones_len, List.length_map, hdl]
        show _ + _ * 0 ≤ _
        omega
      · rw [join_one]
        exact ret done t' _ j' _ _ _ heq.symm hdn rfl hj' ho' (keep_two (N_ _ (.head _)).1 (N _ (.tail _ (.head _))).1 F up') (N _ (.tail _ (.tail _ (.head _)))).1
end

end Mine

open PySem PySem.W PyProof.Rows PySem.Calls
set_option Elab.async false
set_option maxRecDepth 100000
set_option maxHeartbeats 8000000
namespace Mine
section
variable {M : Model} {A : Around} {E : Value → Shared → Prop} {s' : Shared} {P : Params} {h g base h₂ : Heap} {mod : List Addr} {env : Env} {outer : List Env} {L e : Addr} {m : Str → Option Value} {what : Str} {pos : Int} {A₀ : Around}
theorem Raised.lands {l : List Env} {fr : Option Addr} {Q : Unit → Shared → Prop} (R : Raised P h mod l what pos e s'.heap)
    (hQ : ∀ h'', Raised P h mod l what pos e h'' → Q () { s' with heap := h'' }) : wpAny M A (setFlight (.ref e) fr) Q E s' := by
  obtain ⟨⟨B, D, fl, n, t1, t2, t3, t4, hfl, hD, low, nD⟩, up⟩ := R
  refine fly_set fr hfl fun h'' fl' x u => hQ h'' ⟨⟨B, D, fl', n, t1, t2, t3, t4, x, hD, low, nD⟩, fun b o hb q hn => ?_⟩
  obtain ⟨sl, hs⟩ := up b o hb q hn
  obtain ⟨sl', hs'⟩ := u b _ hs hn
  exact ⟨sl', hs'⟩
/-- the caught exception, its dict -/
def Caught (P : Params) (what : Str) (pos : Int) (e D : Addr) (oe od : Obj) : Prop :=
  oe.cls = .ref 44 ∧ oe.dict = some D ∧ notCls oe = true ∧ ∃ n t1 t2 t3 t4, od = dictOf [⟨PyData.keyHash P (Str.ofString "what"), .str (Str.ofString "what") t1, .str what t2⟩, ⟨PyData.keyHash P (Str.ofString "at"), .str (Str.ofString "at") t3, .int pos t4⟩] n
/-- the frame's ground behind a raise: the outer frames' slots have turned -/
theorem Raised.ground (R : Raised P h mod (env :: outer) what pos e h₂) (K : Below A₀ base outer g) (F : Fr g L h m) (hf : env.frame = some L) (hm : ∀ b ∈ mod, g.get? b = none) (hLm : L ∉ mod) :
    ∃ g' D oe od, KtsTurn (outer.filterMap (·.frame)) g g' ∧ Fr g' L h₂ m ∧ Below A₀ base outer g' ∧ News g' L h₂ [(e, oe), (D, od)] ∧ Caught P what pos e D oe od := by
  obtain ⟨⟨B, D, fl, n, t1, t2, t3, t4, ⟨hkb, hen, hl, oe, vs, T, oT, ts, he, hcls, hd, hv1, hnT, hTe, hT, hdT, h3⟩, hD, low, nD⟩, up⟩ := R
  have hg : ∀ b o, g.get? b = some o → b ∉ mod := fun b o e q => by rw [hm b q] at e; cases e
  have hLg : g.get? L = none := Heap.get?_none_of_le F.above
  have hlow : ∀ b o, g.get? b = some o → b ∉ outer.filterMap (·.frame) → B.get? b = some o := fun b o q nm => low b o (hg b o q) (fun z => by
    rcases frame_mem hf z with rfl | z
    · rw [hLg] at q; cases q
    · exact nm z) (F.keep b o q)
  obtain ⟨T', S⟩ := kts_turn_at (h := h₂) (fs := outer.filterMap (·.frame)) (g := g)
    (fun b hb => by
      obtain ⟨_, o, ho, _⟩ := K.frames.mem hb
      exact ⟨o, ho⟩)
    (fun b o e nm => hkb b o (hlow b o e nm))
    (fun b o e hb => by
      obtain ⟨_, o', ho', hdn⟩ := K.frames.mem hb
      rw [e] at ho'
      cases ho'
      exact up b o (hg b o e) (F.keep b o e) hdn)
  have hns : h₂.Ns L m := by
    obtain ⟨o, es, ep, ho, hod, r⟩ := F.ns
    obtain ⟨sl, hs⟩ := up L o hLm ho (fun vs q => by rw [hod] at q; cases q)
    exact ⟨_, es, ep, hs, hod, r⟩
  have hBe : ∀ o, g.get? e = some o → False := fun o q => by
    by_cases hb : e ∈ outer.filterMap (·.frame)
    · obtain ⟨_, o', ho', hdn⟩ := (hl.2.2 : h₂.FunFrames B outer).mem hb
      rw [he] at ho'; cases ho'
      exact hdn vs hd
    · have := hlow e o q hb
      rw [hen] at this; cases this
  have hDe : D ≠ e := fun q => by rw [q, hen] at hD; cases hD
  have hLo : ∃ o, h₂.get? L = some o ∧ ∀ vs, o.data ≠ .fields vs := by
    obtain ⟨o, es, ep, ho, hod, r⟩ := hns
    exact ⟨o, ho, fun vs q => by rw [hod] at q; cases q⟩
  have hLB : B.get? L = none := by
    obtain ⟨_, ⟨L', _, hf', hn', _⟩, _⟩ := hl
    rw [hf] at hf'
    obtain rfl : L = L' := Option.some.inj hf'
    exact hn'
  have hnone : ∀ b, (∀ o, g.get? b = some o → False) → g.get? b = none := fun b hb => by
    cases q : g.get? b with
    | none => rfl
    | some o => exact (hb o q).elim
  refine ⟨_, D, oe, _, T', ⟨hns, S, by rw [T'.size]; exact F.above⟩, ⟨K.stack, fun b o e => T'.other b o (K.stays b o e) (fun hb => by
    rw [(K.frames.mem hb).1] at e
    cases e), K.frames.of_keeps fun b o e _ => ?_⟩, fun p hp => ?_, hcls.1, hcls.2, by unfold notCls; rw [hd], n, t1, t2, t3, t4, rfl⟩
  · obtain ⟨sl, hs⟩ := T'.up e
    exact ⟨_, hs, rfl⟩
  · rcases List.mem_cons.mp hp with rfl | hp
    · refine ⟨he, fun q => ?_, T'.none_ _ (hnone _ hBe)⟩
      obtain ⟨o, ho, hdn⟩ := hLo
      dsimp only at q
      rw [← q, he] at ho; cases ho
      exact hdn vs hd
    · rcases List.mem_cons.mp hp with rfl | hp
      · refine ⟨hkb _ _ hD, fun q => ?_, T'.none_ _ (hnone _ fun o q => ?_)⟩
        · dsimp only at q
          rw [q, hLB] at hD; cases hD
        · exact hg D o q (nD o (F.keep D o q))
      · cases hp
end

section
variable {prog : Program} {w : World} {A A₀ : Around} {E : Value → Shared → Prop} {s' : Shared} {h g base : Heap} {mod : List Addr} {outer : List Env} {L a e : Addr} {m mg mb : Str → Option Value} {what : Str} {pos : Int} {name n : Str} {scope : Scope} {cd : Value}
  {b₀ : Stmt} {suite : List Stmt} {ps np : Pos} {rest : List ExceptHandler} {Q : Flow → Shared → Prop} {p : Program} {loose : List Str} {mean : ExcName → Option Value}
theorem catch_fmt (R : Raised w.params h mod (envOf name scope L a cd :: outer) what pos e s'.heap) (hA : A.frames = some (envOf name scope L a cd :: outer)) (K : Below A₀ base outer g) (F : Fr g L h m) (hm : ∀ b ∈ mod, g.get? b = none) (hLm : L ∉ mod)
    (XB : (hd.heap_39 w.params).In base) (TB : Top p loose mean mg mb base)
    (k : ∀ h' g' tk D oe od E', KtsTurn (outer.filterMap (·.frame)) g g' → Fr g' L h' (fun y => if y = n then some (.ref e) else m y) → News g' L h' [(e, oe), (D, od)] → Caught w.params what pos e D oe od → Below A₀ base outer g' → (hd.heap_39 w.params).In g' → Top p loose mean mg mb g' →
      wpAny (model prog w) (A.mark (some (.ref e))) (execs (b₀ :: suite) (envOf name scope L a cd))
        (fun f s₄ => wpAny (model prog w) A (do bindName (envOf name scope L a cd) n .none; unbindBehindTheSuite (envOf name scope L a cd) n ps) (fun _ s₅ => Q f s₅) E s₄) E' { s' with heap := h', toks := tk })
    (hk : scope.kind = .function := by rfl) (hlo : (envOf name scope L a cd).kindOf n = some .local := by rfl) (hx : (envOf name scope L a cd).kindOf (Str.ofString "FormatError") = some .globalImplicit := by rfl) :
    wpAny (model prog w) A (noteFrame (.ref e) (envOf name scope L a cd))
      (fun _ s₂ => wpAny (model prog w) A (setFlight (.ref e) none) (fun _ s₃ =>
        wpAny (model prog w) A (handleBy (.ref e) (envOf name scope L a cd) (.ExceptHandler (some (.Name (Str.ofString "FormatError") np)) (some n) (b₀ :: suite) ps :: rest)) Q E s₃) E s₂) E s' := by
  have hAm : (A.mark (some (.ref e))).frames = some (envOf name scope L a cd :: outer) := hA
  refine R.noted hA rfl rfl fun h₁ R₁ => ?_
  refine Raised.lands (s' := { s' with heap := h₁ }) R₁ fun h₂ R₂ => ?_
  obtain ⟨g₂, D, oe, od, T₂, F₂, K₂, N₂, C₂⟩ := R₂.ground K F rfl hm hLm
  have X₂ : (hd.heap_39 w.params).In g₂ := XB.keeps K₂.stays
  have P₂ : TopRead p loose mg mb g₂ := topRead_of (TB.keeps K₂.stays)
  refine wpAny_handleBy_cons (codeAny_handlers_test (name_K F₂ X₂ P₂ (v := .ref 44) (by with_unfolding_all rfl) ?_ hk hx)) (by intro q; cases q)
  obtain ⟨nm, q, bs, sn, sub, ab, col, dd, k0, k1, k2, k3, k5, hC⟩ := cls44 (X₂.keeps F₂.keep)
  refine wpAny_excMatches_sub_self hC (N₂ _ (.head _)).1 C₂.1 ((tail44 X₂).hasType PySem.F.excBase_Exception.hasBase) (codeAny_handlers_suite_as ?_)
  refine Raised.lands (s' := { s' with heap := h₂ }) R₂ fun h₃ R₃ => ?_
  obtain ⟨g₃, D, oe, od, T₃, F₃, K₃, N₃, C₃⟩ := R₃.ground K F rfl hm hLm
  refine stN F₃ N₃ (fun h₄ F₄ N₄ => ?_) hk hlo
  exact k h₄ g₃ _ D oe od _ T₃ F₄ N₄ C₃ K₃ (XB.keeps K₃.stays) (TB.keeps K₃.stays)
end

/-- a flight within a frame: of what kind and place it is -/
def Flies (P : Params) (g : Heap) (L : Addr) (l : List Env) (Err : String → Int → Prop) (s : Shared) (e : Value) (s' : Shared) : Prop :=
  ∃ a mod what pos h m, e = .ref a ∧ (∀ b ∈ mod, g.get? b = none ∧ b ≠ L) ∧ Fr g L h m ∧ Raised P h mod l (Str.ofString what) pos a s'.heap ∧ Err what pos ∧ s' = { s with heap := s'.heap, toks := s'.toks }
theorem wpAny_E {α : Type} {M : Model} {A : Around} {E P : Value → Shared → Prop} {s : Shared} {t : Sem α} {Q : α → Shared → Prop} (h1 : ∀ e s', P e s' → E e s') (h2 : wpAny M A t Q P s) : wpAny M A t Q E s :=
  wpAny_mono h2 (fun _ _ x => x) h1
theorem Flies.moved {P : Params} {g : Heap} {L : Addr} {l : List Env} {Err : String → Int → Prop} {s s' s'' : Shared} {e : Value} (x : Flies P g L l Err s e s') (h : ∃ h tk, s'' = { s' with heap := h, toks := tk }) (k : ∀ h mod what pos a, Raised P h mod l what pos a s'.heap → Raised P h mod l what pos a s''.heap) : Flies P g L l Err s e s'' := by
  obtain ⟨a, mod, what, pos, h', m, rfl, hm, F, R, he, hs⟩ := x
  obtain ⟨h2, tk2, rfl⟩ := h
  exact ⟨a, mod, what, pos, h', m, rfl, hm, F, k _ _ _ _ _ R, he, by rw [hs]⟩
theorem flies_passes {M : Model} {A : Around} {P : Params} {g : Heap} {L : Addr} {env : Env} {outer : List Env} {Err : String → Int → Prop} {s : Shared} (hfr : A.frames = some (env :: outer)) (hf : env.frame = some L) :
    PassesOwn M A env (Flies P g L (env :: outer) Err s) := by
  rintro e s' ⟨a, mod, what, pos, h, m, rfl, hm, F, R, he, hs⟩
  refine Raised.noted R hfr hf hf fun h₁ R₁ => ?_
  obtain ⟨⟨B, D, fl, n, t1, t2, t3, t4, hfl, hD, low, nD⟩, up⟩ := id R₁
  obtain ⟨hkb, hen, hl, oe, vs, T, oT, ts, hx, hcls, hd, hv1, _⟩ := hfl
  unfold cameBackBy
  refine wpAny_bind (wpAny_field hx hd hv1 ?_)
  rw [if_neg (show ¬ ((Value.ref T == Value.none) = true) from by simp)]
  refine Raised.lands (s' := { s' with heap := h₁ }) R₁ fun h₂ R₂ => ?_
  exact ⟨a, mod, what, pos, h, m, rfl, hm, F, R₂, he, by rw [hs]⟩

section
variable {prog : Program} {w : World} {A A₀ : Around} {E : Value → Shared → Prop} {s : Shared} {g base : Heap} {outer : List Env} {L a : Addr} {mg mb : Str → Option Value} {name n : Str} {scope : Scope} {cd : Value}
  {b₀ : Stmt} {suite body orelse : List Stmt} {ps np pos : Pos} {rest : List ExceptHandler} {Q : Flow → Shared → Prop} {p : Program} {loose : List Str} {mean : ExcName → Option Value} {Err : String → Int → Prop}
theorem try_fmt (hA : A.frames = some (envOf name scope L a cd :: outer)) (K : Below A₀ base outer g)
    (XB : (hd.heap_39 w.params).In base) (TB : Top p loose mean mg mb base)
    (h : wpAny (model prog w) A (execs body (envOf name scope L a cd)) (fun f s₁ => match f with | .next => wpAny (model prog w) A (execs orelse (envOf name scope L a cd)) Q E s₁ | f => Q f s₁) (Flies w.params g L (envOf name scope L a cd :: outer) Err s) s)
    (k : ∀ (e : Addr) (what : String) (ps' : Int) (h' g' : Heap) (tk : Nat) (D : Addr) (oe od : Obj) (m : Str → Option Value) (E' : Value → Shared → Prop), Err what ps' → KtsTurn (outer.filterMap (·.frame)) g g' → Fr g' L h' (fun y => if y = n then some (.ref e) else m y) → News g' L h' [(e, oe), (D, od)] → Caught w.params (Str.ofString what) ps' e D oe od → Below A₀ base outer g' → (hd.heap_39 w.params).In g' → Top p loose mean mg mb g' →
      wpAny (model prog w) (A.mark (some (.ref e))) (execs (b₀ :: suite) (envOf name scope L a cd))
        (fun f s₄ => wpAny (model prog w) A (do bindName (envOf name scope L a cd) n .none; unbindBehindTheSuite (envOf name scope L a cd) n ps) (fun _ s₅ => Q f s₅) E s₄) E' { s with heap := h', toks := tk })
    (hk : scope.kind = .function := by rfl) (hlo : (envOf name scope L a cd).kindOf n = some .local := by rfl) (hx : (envOf name scope L a cd).kindOf (Str.ofString "FormatError") = some .globalImplicit := by rfl) :
    wpAny (model prog w) A (exec (.Try body (.ExceptHandler (some (.Name (Str.ofString "FormatError") np)) (some n) (b₀ :: suite) ps :: rest) orelse [] pos) (envOf name scope L a cd)) Q E s := by
  refine wpAny_Try_except (wpAny_E (fun e s' x => ?_) h)
  obtain ⟨x, mod, what, pos, hh, m, rfl, hm, F, R, he, hs⟩ := x
  refine catch_fmt R hA K F (fun b hb => (hm b hb).1) (fun q => (hm L q).2 rfl) XB TB (fun h' g' tk D oe od E' T' F' N' C' K' X' P' => ?_) hk hlo hx
  have := k x what pos h' g' tk D oe od m E' he T' F' N' C' K' X' P'
  rw [hs]
  exact this
end

/-- an append to the list of what is found, behind a reading -/
theorem app_turn {prog : Program} {w : World} {A : Around} {E Q : Value → Shared → Prop} {s : Shared} {h₀ h h3 : Heap} {L I lf x d : Addr} {m : Str → Option Value} {oI ox od od' : Obj} {vs : List Value} {n : Nat} {extra : List (Addr × Obj)} {v : Value}
    (F : Fr h₀ L h m) (N1 : News h₀ L h [(I, oI), (lf, listOf vs.toArray n), (x, ox), (d, od)]) (Nx : ∀ p ∈ extra, h.get? p.1 = some p.2 ∧ p.1 ≠ L ∧ h₀.get? p.1 = none)
    (hex : ∀ p ∈ extra, p.1 ≠ I ∧ p.1 ≠ lf ∧ p.1 ≠ x ∧ p.1 ≠ d) (k : Keep [d] h h3) (e : h3.get? d = some od') (add : List (Addr × Obj)) (ha : ∀ p ∈ add, h3.get? p.1 = some p.2 ∧ h.get? p.1 = none)
    (n1 : I ≠ lf) (n2 : x ≠ lf) (n3 : d ≠ lf) (n4 : I ≠ d) (n5 : x ≠ d) (hs : s.heap = h3) (hz : vs.length ≤ 100000)
    (hQ : ∀ h4, Fr h₀ L h4 m → News h₀ L h4 ((I, oI) :: (lf, listOf (vs ++ [v]).toArray (n + 1)) :: (x, ox) :: (d, od') :: (add ++ extra)) → (∀ p ∈ add ++ extra, p.1 ≠ I ∧ p.1 ≠ lf ∧ p.1 ≠ x ∧ p.1 ≠ d) → Q .none { s with heap := h4 }) :
    wpAny (model prog w) A (call (.builtin "list.append") [.ref lf, v]) Q E s := by
  have hI := N1 (I, oI) (.head _)
  have hl := N1 (lf, _) (.tail _ (.head _))
  have hx := N1 (x, ox) (.tail _ (.tail _ (.head _)))
  have hd := N1 (d, od) (.tail _ (.tail _ (.tail _ (.head _))))
  dsimp only at hI hl hx hd
  have F3 : Fr h₀ L h3 m := Fr.keepBy F (onlyN N1 (.tail _ (.tail _ (.tail _ (.head _))))) k
  have new_ : ∀ b o, h.get? b = some o → ∀ p ∈ add, p.1 ≠ b := fun b o q p hp z => by
    have := (ha p hp).2
    rw [z, q] at this; cases this
  have hLh : ∃ o, h.get? L = some o := let ⟨o, _, _, ho, _⟩ := F.ns; ⟨o, ho⟩
  refine append_at (hsz := by rw [List.size_toArray, sizeLine_eq]; omega) (hs ▸ k _ _ (by simpa using Ne.symm n3) hl.1) fun h4 hs4 e4 => ?_
  have k4 : ∀ b o, b ≠ lf → h3.get? b = some o → h4.get? b = some o := fun b o hb q => (hs4.2 b hb).trans (hs ▸ q)
  refine hQ h4 ⟨F3.ns.at' fun o q => k4 _ o (Ne.symm hl.2.1) q, fun b o q => k4 b o (fun z => by rw [z, hl.2.2] at q; cases q) (F3.keep b o q), F3.above⟩ (fun p hp => ?_) fun p hp => ?_
  · rcases List.mem_cons.mp hp with rfl | hp
    · exact ⟨k4 _ _ n1 (k _ _ (by simpa using n4) hI.1), hI.2⟩
    · rcases List.mem_cons.mp hp with rfl | hp
      · refine ⟨?_, hl.2⟩
        rw [← List.push_toArray]; exact e4
      · rcases List.mem_cons.mp hp with rfl | hp
        · exact ⟨k4 _ _ n2 (k _ _ (by simpa using n5) hx.1), hx.2⟩
        · rcases List.mem_cons.mp hp with rfl | hp
          · exact ⟨k4 _ _ n3 e, hd.2⟩
          · rcases List.mem_append.mp hp with hp | hp
            · obtain ⟨a1, a2⟩ := ha p hp
              obtain ⟨oL, hoL⟩ := hLh
              refine ⟨k4 _ _ (new_ _ _ hl.1 p hp) a1, new_ _ _ hoL p hp, ?_⟩
              cases q : h₀.get? p.1 with
              | none => rfl
              | some o => rw [F.keep _ _ q] at a2; cases a2
            · obtain ⟨b1, b2, b3, b4⟩ := hex p hp
              exact ⟨k4 _ _ b2 (k _ _ (by simpa using b4) (Nx p hp).1), (Nx p hp).2⟩
  · rcases List.mem_append.mp hp with hp | hp
    · exact ⟨new_ _ _ hI.1 p hp, new_ _ _ hl.1 p hp, new_ _ _ hx.1 p hp, new_ _ _ hd.1 p hp⟩
    · exact hex p hp
end Mine

open PySem PySem.W PyProof.Rows PySem.Calls
set_option Elab.async false
set_option maxRecDepth 100000
set_option maxHeartbeats 8000000
namespace Mine
example : (Mine.hd.heap_39 = Mine.hd.heap_39) ∧ PySem.Challenge.rw_nu0313_01 = PySem.Challenge.rw_nu0313_01 := by w_top off; k_fill; exact ⟨rfl, rfl⟩

section
local macro_rules | `(tactic| walk_at "no such key") => `(tactic| skip)
local macro_rules | `(tactic| walk_at $k:str) => if ["exec While Compare cons nil", "call ref", "exec For", "exec For Name Call cons nil", "exec For Name Name cons nil", "exec For Name Subscript cons nil", "call builtin:list.append", "eval IfExp", "newTuple", "exec Try"].contains k.getString then `(tactic| with_reducible refine halt ?_) else Lean.Macro.throwUnsupported
/-- a value as a datum -/
def toDat : Val → Dat
  | .num v => .int v
  | .text cs => .str (KStt.txt cs)
  | .nums vs => .list (vs.map .int)
theorem datAll_ints {nw : List (Addr × Obj)} : ∀ {us : List Value} {vs : List Int}, IntsAre us vs → DatAll nw us (vs.map .int)
  | _, _, .nil => .nil
  | _, _, .cons n t r => .cons (.int n t) (datAll_ints r)
theorem datIn_il {nw : List (Addr × Obj)} {l : Addr} {vs : List Int} {o : Obj} (h : IL vs o) (hm : (l, o) ∈ nw) : DatIn nw (.ref l) (toDat (.nums vs)) := by
  obtain ⟨us, n, rfl, hi⟩ := h
  exact .list hm (datAll_ints hi)
/-- what the reading of one kind leaves -/
def KindPost (s : Shared) (data d' : Addr) (h1 h2 : Int) (t1 t2 : Tok) (ds : List Int) (kk : Int) (j : Nat) (v : Value) (s' : Shared) : Prop :=
  ∃ (val : Val) (add : List (Addr × Obj)) (i3 : Nat) (o3 : Obj) (h3 : Heap) (tk3 : Nat) (r3 : List Int), s' = { s with heap := h3, toks := tk3 } ∧ rkind kk (ds.drop j) = .ok val r3 ∧ ds.drop i3 = r3 ∧ i3 ≤ ds.length ∧ RdD data h1 h2 t1 t2 i3 o3 ∧
    Keep [d'] s.heap h3 ∧ h3.get? d' = some o3 ∧ (∀ p ∈ add, h3.get? p.1 = some p.2 ∧ s.heap.get? p.1 = none) ∧ DatIn add v (toDat val)
theorem mono_at {α : Type} {M : Model} {A : Around} {t : Sem α} {Q : α → Shared → Prop} {E : Value → Shared → Prop} {s : Shared} {P : Shared → α → Shared → Prop} (h : wpAny M A t (P s) E s) (hQ : ∀ v s', P s v s' → Q v s') : wpAny M A t Q E s := wpAny_mono h hQ fun _ _ x => x
theorem rk0 {kk : Int} (h : kk = 0) (l : List Int) : rkind kk l = (rnum l).map .num := by rw [rkind, if_pos h]
theorem rk1 {kk : Int} (h0 : kk ≠ 0) (h : kk = 1) (l : List Int) : rkind kk l = (rtext l).map .text := by rw [rkind, if_neg h0, if_pos h]
theorem rk2 {kk : Int} (h0 : kk ≠ 0) (h1 : kk ≠ 1) (h : kk = 2) (l : List Int) : rkind kk l = (rnums l).map .nums := by rw [rkind, if_neg h0, if_neg h1, if_pos h]
theorem rk3 {kk : Int} (h0 : kk ≠ 0) (h1 : kk ≠ 1) (h2 : kk ≠ 2) (l : List Int) : rkind kk l = (rbyte l).map .num := by rw [rkind, if_neg h0, if_neg h1, if_neg h2]
theorem read_ok {prog : Program} {w : World} {p : Program} {loose : List Str} {mean : ExcName → Option Value} {mg mb : Str → Option Value}
    {dp un : Nat} {gd : Option (List Code)} {cn : Str} {cs : Scope} {a : Addr} {ccd : Value} {cl : List (Str × Addr)} {outer : List Env} {A₀ : Around} {base h₀ : Heap} {L : Addr} {m : Str → Option Value} {s : Shared} {Q E : Value → Shared → Prop}
    {data kinds : Addr} {ds ks : List Int}
    (B : Below A₀ base outer h₀) (F : Fr h₀ L s.heap m) (X : (hd.heap_39 w.params).In h₀) (T : Top p loose mean mg mb h₀) (hk : cs.kind = .function)
        (N : News h₀ L s.heap [])
        (hroom : dp + 80 < recursionLimit) (hun : un + 10 * 80 < cLine)
    (Dt : DataAt s.heap data ds) (Kt : DataAt s.heap kinds ks) (XB : (hd.heap_39 w.params).In base) (TB : Top p loose mean mg mb base)
    (ret : ∀ t lf h' tk' vals r (i' : Nat) u1 n n2 vs extra, rall ks ds = .ok vals r → ds.drop i' = r → i' ≤ ds.length → DatAll extra vs (vals.map toDat) →
      (∀ q ∈ (t, ({ cls := .type "tuple", data := .seq #[.ref lf, .int (i' : Int) u1, .bool (decide (ds.length ≤ i'))] n2 } : Obj)) :: (lf, listOf vs.toArray n) :: extra, h'.get? q.1 = some q.2 ∧ s.heap.get? q.1 = none) → Keep [] s.heap h' → Q (.ref t) { s with heap := h', toks := tk' })
    (bad : ∀ t h' tk' what r (i' : Nat) u2 u4 n, rall ks ds = .bad what r → ds.drop i' = r → i' ≤ ds.length → h'.get? t = some { cls := .type "tuple", data := .seq #[.str (Str.ofString what) u2, .int (i' : Int) u4] n } → s.heap.get? t = none →
      (∀ b o, b ∉ (envX cn cs L a ccd cl :: outer).filterMap (·.frame) → s.heap.get? b = some o → h'.get? b = some o) → (∀ b o, b ∈ (envX cn cs L a ccd cl :: outer).filterMap (·.frame) → s.heap.get? b = some o → ∃ sl, h'.get? b = some { o with slots := sl }) →
      Q (.ref t) { s with heap := h', toks := tk' }) :
    wpAny (model prog w) (ktrTop dp un gd cn cs L a ccd cl outer) (call (.ref 196) [.ref data, .ref kinds]) Q E s := by
  refine wpAny_call ?_
  k_dflt (refine' enter_plain (binds := [(Str.ofString "data", .ref data), (Str.ofString "kinds", .ref kinds)]) ?k1 ?k2 ?k3 ?k4 ?k5 ?kA ?kF ?kK ?k6 ?k7 ?k8 ?k9 ?kB ?_ ?c5 ?c2 ?c3 ?c4; (case kA => exact rfl); (case kF => exact rfl); (case kK => assumption); (case k1 => k_asm); (case k2 => k_asm); (case k3 => k_asm); (case k4 => k_asm); (case k5 => k_asm); (case k6 => k_is); (case k7 => k_is); (case k8 => first | exact room0 hroom | ktr_room); (case k9 => exact BindsTo.of_eq rfl); (case c5 => decide); (case kB => exact locs rfl); (case c2 => exact rfl); (case c3 => exact rfl); (case c4 => exact rfl); k_whole; intro g' L' h' F' N' B' X' T' up' dn' sz'; (try dsimp only); (try k_fold))
  have B0 := B'
  have X0 := X'
  have T0 := T'
  have Dg := Dt.keep (mod := []) up' (by simp)
  have Kg := Kt.keep (mod := []) up' (by simp)
  k_with_none
  k_steps
  refine Halt.go ?_
  k_dflt (refine' call_cls ?k1 ?k2 ?k3 ?k4 ?k5 ?k6 ?_; (case k1 => k_asm); (case k2 => k_asm); (case k3 => k_asm); (case k4 => k_is); (case k5 => k_is); (case k6 => k_is); k_whole; intro x' d' h' F' N' l1 l2; (try k_lt l1); (try k_lt2 l2); (try k_sweep)); k_dflt (refine' code_def ?k1 ?k2 ?k3 ?k4 ?k5 ?kA ?kF ?kK ?k6 ?k7 ?k8 ?k9 ?kB ?_ ?c2 ?c3 ?c4 ?c5; (case kA => exact rfl); (case kF => exact rfl); (case kK => exact rfl); (case k1 => k_asm); (case k2 => k_asm); (case k3 => k_asm); (case k4 => k_asm); (case k5 => k_asm); (case k6 => k_is); (case k7 => k_is); (case k8 => first | exact room0 hroom | ktr_room); (case k9 => exact BindsTo.of_eq rfl); (case c5 => decide); (case kB => exact locs rfl); (case c2 => exact rfl); (case c3 => exact rfl); (case c4 => exact rfl); k_whole; intro g9' L9' h9' FG9' F9' N9' B9' X9' T9'; (try dsimp only); (try k_fold))
  k_steps
  refine Halt.go ?_
  rename Fr _ _ _ _ => Fa
  rename News _ _ _ _ => Na
  rename_i lf ha l1 hb
  obtain ⟨l1x, l1d⟩ := l1
  replace Fa := Fr.as (m' := fun y => if y = Str.ofString "kind" then none else mp [(Str.ofString "found", .ref lf), (Str.ofString "reader", .ref x'), (Str.ofString "data", .ref data), (Str.ofString "kinds", .ref kinds)] y) Fa (by
    funext y
    by_cases h1 : y = Str.ofString "kind"
    · subst h1; with_unfolding_all rfl
    by_cases h2 : y = Str.ofString "found"
    · subst h2; with_unfolding_all rfl
    by_cases h3 : y = Str.ofString "reader"
    · subst h3; with_unfolding_all rfl
    by_cases h4 : y = Str.ofString "data"
    · subst h4; with_unfolding_all rfl
    by_cases h5 : y = Str.ofString "kinds"
    · subst h5; with_unfolding_all rfl
    have b2 := beq_false_of_ne h2
    have b3 := beq_false_of_ne h3
    have b4 := beq_false_of_ne h4
    have b5 := beq_false_of_ne h5
    simp [mp, List.lookup_cons, List.lookup_nil, h1, h2, h3, b3, h4, b4, b2, h5, b5])
  refine try_fmt (Err := fun what pos => ∃ r i', rall ks ds = .bad what r ∧ ds.drop i' = r ∧ i' ≤ ds.length ∧ pos = (i' : Int)) rfl B0 XB TB ?body ?suite
  case body =>
    k_steps
    refine Halt.go ?_
    refine for_list g' rfl (by rfl) (by rfl) ?_ (flies_passes rfl rfl)
    k_steps
    obtain ⟨kvs, hkl, hki, hkn⟩ := Kg
    obtain ⟨h1, h2, t1, t2, t3, Na⟩ : ∃ h1 h2 t1 t2 t3, News g' L' hb [(lf, listOf #[] 0), (x', instObj 159 d'), (d', dictOf [⟨h1, .str (Str.ofString "data") t1, .ref data⟩, ⟨h2, .str (Str.ofString "at") t2, .int ((0 : Nat) : Int) t3⟩] 2)] := ⟨_, _, _, _, _, Na⟩
    have hdx : data ≠ d' := fun q => by
      obtain ⟨vs, ⟨o, ho, _⟩, _⟩ := Dg
      have := (Na _ (.tail _ (.tail _ (.head _)))).2.2
      dsimp only at this
      rw [← q, ho] at this; cases this
    have hdX : data ≠ x' := fun q => by
      obtain ⟨vs, ⟨o, ho, _⟩, _⟩ := Dg
      have := (Na _ (.tail _ (.head _))).2.2
      dsimp only at this
      rw [← q, ho] at this; cases this
    have hxd : x' ≠ d' := fun q => by
      have : @LT.lt Nat _ d' x' := l2
      rw [q] at this; exact Nat.lt_irrefl _ this
    obtain ⟨J, hJJ⟩ : ∃ J : Nat → (Str → Option Value) → List (Addr × Obj) → Prop, ∀ i m nw, J i m nw ↔ (∃ (j : Nat) (o' : Obj) (vs : List Value) (n : Nat) (vals : List Val) (extra : List (Addr × Obj)) (uk : Option Value), m = (fun y => if y = Str.ofString "kind" then uk else mp [(Str.ofString "found", .ref lf), (Str.ofString "reader", .ref x'), (Str.ofString "data", .ref data), (Str.ofString "kinds", .ref kinds)] y) ∧ nw = (lf, listOf vs.toArray n) :: (x', instObj 159 d') :: (d', o') :: extra ∧ (∀ p ∈ extra, p.1 ≠ lf ∧ p.1 ≠ x' ∧ p.1 ≠ d') ∧ RdD data h1 h2 t1 t2 j o' ∧ j ≤ ds.length ∧ DatAll extra vs (vals.map toDat) ∧ vals.length = i ∧ i ≤ ks.length ∧ pre vals (rall (ks.drop i) (ds.drop j)) = rall ks ds) := ⟨_, fun _ _ _ => Iff.rfl⟩
    refine ⟨kinds, kvs.toArray, _, _, rfl, Fa, Na, J, ?J0, fun i m nw hJ => .inl hkl, ?turn, ?fin⟩
    case J0 =>
      refine (hJJ _ _ _).mpr ⟨0, _, [], 0, [], [], none, rfl, rfl, (fun _ h => nomatch h), ⟨_, rfl⟩, Nat.zero_le _, .nil, rfl, Nat.zero_le _, ?_⟩
      rw [pre_nil]; rfl
    case turn =>
      rintro i v m₁ nw I oI h tk hv hJi off F N
      obtain ⟨j, o', vs, n, vals, extra, uk, rfl, rfl, hex, ho', hj, hda, hvl, hil, heq⟩ := (hJJ _ _ _).mp hJi
      clear Fa Na
      obtain ⟨kk, kt, hkk, rfl⟩ : ∃ kk kt, ks[i]? = some kk ∧ v = .int kk kt := by
        obtain ⟨k, t, e, hk⟩ := IntsAre.at hki i v (by simpa using hv)
        exact ⟨k, t, hk, e⟩
      have ho2 := ho'
      obtain ⟨t5, rfl⟩ := ho2
      have nlI : @Ne Nat lf I := off _ (.head _)
      have nxI : @Ne Nat x' I := off _ (.tail _ (.head _))
      have ndI : @Ne Nat d' I := off _ (.tail _ (.tail _ (.head _)))
      have N1 : News g' L' h [(I, oI), (lf, listOf vs.toArray n), (x', instObj 159 d'), (d', _)] := fun p hp => N p (by
        simp only [List.mem_cons, List.not_mem_nil, or_false] at hp ⊢
        rcases hp with h | h | h | h
        · exact .inl h
        · exact .inr (.inl h)
        · exact .inr (.inr (.inl h))
        · exact .inr (.inr (.inr (.inl h))))
      have Nx : ∀ p ∈ extra, h.get? p.1 = some p.2 ∧ p.1 ≠ L' ∧ g'.get? p.1 = none := fun p hp => N p (.tail _ (.tail _ (.tail _ (.tail _ hp))))
      have hexI : ∀ p ∈ extra, p.1 ≠ I ∧ p.1 ≠ lf ∧ p.1 ≠ x' ∧ p.1 ≠ d' := fun p hp => ⟨off p (.tail _ (.tail _ (.tail _ hp))), hex p hp⟩
      have hilt : i < ks.length := by
        rcases Nat.lt_or_ge i ks.length with h | h
        · exact h
        · rw [List.getElem?_eq_none h] at hkk; cases hkk
      have hdrop : ks.drop i = kk :: ks.drop (i + 1) := by
        rw [List.drop_eq_getElem_cons hilt]
        rw [List.getElem?_eq_getElem hilt] at hkk
        rw [Option.some.inj hkk]
      have hvz : vs.length ≤ 100000 := by rw [hda.length, List.length_map, hvl]; omega
      clear N
      k_steps
      refine Halt.go ?_
      refine mono_at (P := fun s0 => KindPost s0 data d' h1 h2 t1 t2 ds kk j) ?read fun v3 s3 hpost => ?go
      case read =>
        refine wpAny_IfExp ?_
        k_steps
        · with_reducible refine Halt.go ?_
          refine num_ok B0 F X0 T0 rfl (subN N1 (by k_mem) (by k_mem)) (room1 hroom (by decide)) (room3 hun (by decide)) (Dg.of F) hdx hdX hxd ho' hj ?_ ?_
          · intro v3 r3 i3 tv3 h3 tk3 o3 hb3 hr3 hi3 hi3' ho3 k3 e3
            exact ⟨.num v3, [], i3, o3, h3, tk3, r3, rfl, by rw [rk0 (by assumption), hb3]; rfl, hr3, hi3, ho3, k3, e3, (fun _ h => nomatch h), .int v3 tv3⟩
          · intro what r3 i3 e h3 tk3 hb3 hr3 hi3 R
            have hkind : rkind kk (ds.drop j) = .bad what r3 := by rw [rk0 (by assumption), hb3]; rfl
            refine ⟨e, [x', d'], what, i3, _, _, rfl, fun b hb => ⟨none_two N1 (by k_mem) (by k_mem) hb, none_ne N1 (by k_mem) (by k_mem) hb⟩, F, R, ⟨r3, i3, ?_, hr3, hi3, rfl⟩, rfl⟩
            rw [← heq, hdrop, prea_bad hkind]
        · refine Halt.go ?_
          refine wpAny_IfExp ?_
          k_steps
          · with_reducible refine Halt.go ?_
            refine rtext_ok B0 F X0 T0 rfl (subN N1 (by k_mem) (by k_mem)) (room1 hroom (by decide)) (room3 hun (by decide)) (Dg.of F) hdx hdX hxd ho' hj ?_ ?_
            · intro v3 tv3 r3 i3 h3 tk3 o3 hb3 hdn3 hr3 hi3 ho3 k3 e3
              exact ⟨.text v3, [], i3, o3, h3, tk3, r3, rfl, by rw [rk1 (by assumption) (by assumption), hb3]; rfl, hr3, hi3, ho3, k3, e3, (fun _ h => nomatch h), .str (KStt.txt v3) tv3⟩
            · intro what r3 i3 e h3 tk3 hb3 hr3 hi3 R
              have hkind : rkind kk (ds.drop j) = .bad what r3 := by rw [rk1 (by assumption) (by assumption), hb3]; rfl
              refine ⟨e, [x', d'], what, i3, _, _, rfl, fun b hb => ⟨none_two N1 (by k_mem) (by k_mem) hb, none_ne N1 (by k_mem) (by k_mem) hb⟩, F, R, ⟨r3, i3, ?_, hr3, hi3, rfl⟩, rfl⟩
              rw [← heq, hdrop, prea_bad hkind]
          · refine Halt.go ?_
            refine wpAny_IfExp ?_
            k_steps
            · with_reducible refine Halt.go ?_
              refine rnums_ok B0 F X0 T0 rfl (subN N1 (by k_mem) (by k_mem)) (room1 hroom (by decide)) (room3 hun (by decide)) (Dg.of F) hdx hdX hxd ho' hj ?_ ?_
              · intro l3 v3 r3 i3 ol h3 tk3 o3 hb3 hr3 hi3 ho3 k3 e3 hil3 el3 nl3
                exact ⟨.nums v3, [(l3, ol)], i3, o3, h3, tk3, r3, rfl, by rw [rk2 (by assumption) (by assumption) (by assumption), hb3]; rfl, hr3, hi3, ho3, k3, e3, (fun p hp => List.mem_singleton.mp hp ▸ ⟨el3, nl3⟩), datIn_il hil3 (.head _)⟩
              · intro what r3 i3 e h3 tk3 hb3 hr3 hi3 R
                have hkind : rkind kk (ds.drop j) = .bad what r3 := by rw [rk2 (by assumption) (by assumption) (by assumption), hb3]; rfl
                refine ⟨e, [x', d'], what, i3, _, _, rfl, fun b hb => ⟨none_two N1 (by k_mem) (by k_mem) hb, none_ne N1 (by k_mem) (by k_mem) hb⟩, F, R, ⟨r3, i3, ?_, hr3, hi3, rfl⟩, rfl⟩
                rw [← heq, hdrop, prea_bad hkind]
            · with_reducible refine Halt.go ?_
              refine byte_ok B0 F X0 T0 rfl (subN N1 (by k_mem) (by k_mem)) (room1 hroom (by decide)) (room3 hun (by decide)) (Dg.of F) hdx hdX hxd ho' hj ?_ ?_
              · intro v3 tv3 h3 tk3 o3 hb3 hlt3 ho3 k3 e3
                exact ⟨.num v3, [], j + 1, o3, h3, tk3, _, rfl, by rw [rk3 (by assumption) (by assumption) (by assumption), hb3]; rfl, rfl, hlt3, ho3, k3, e3, (fun _ h => nomatch h), .int v3 tv3⟩
              · intro what e h3 tk3 hb3 R
                obtain ⟨i3, hi3e⟩ : ∃ i, i = j := ⟨_, rfl⟩
                obtain ⟨r3, hr3⟩ : ∃ r, ds.drop i3 = r := ⟨_, rfl⟩
                have hi3 : i3 ≤ ds.length := by rw [hi3e]; exact hj
                have hkind : rkind kk (ds.drop j) = .bad what r3 := by rw [rk3 (by assumption) (by assumption) (by assumption), hb3, ← hi3e, hr3]; rfl
                subst hi3e
                refine ⟨e, [x', d'], what, i3, _, _, rfl, fun b hb => ⟨none_two N1 (by k_mem) (by k_mem) hb, none_ne N1 (by k_mem) (by k_mem) hb⟩, F, R, ⟨r3, i3, ?_, hr3, hi3, rfl⟩, rfl⟩
                rw [← heq, hdrop, prea_bad hkind]
      case go =>
        obtain ⟨val, add, i3, o3, h3, tk3, r3, rfl, hkind, hr3, hi3, ho3, k3, e3, hadd, hdat⟩ := hpost
        k_steps
        with_reducible refine Halt.go ?_
        refine app_turn F N1 Nx hexI k3 e3 add hadd (Ne.symm nlI) (Nat.ne_of_lt l1x) (Nat.ne_of_lt l1d) (Ne.symm ndI) hxd rfl hvz fun h4 F4 N4 hx4 => ?_
        k_steps
        refine ForTurn.intro (Fr.as (m' := fun y => if y = Str.ofString "kind" then some (.int kk kt) else mp [(Str.ofString "found", .ref lf), (Str.ofString "reader", .ref x'), (Str.ofString "data", .ref data), (Str.ofString "kinds", .ref kinds)] y) F4 (by funext y; by_cases h1 : y = Str.ofString "kind"; (case pos => subst h1; with_unfolding_all rfl); simp only [if_neg h1])) N4 _ (fun p hp => hp) (fun p hp => ?_)
          ((hJJ _ _ _).mpr ⟨i3, o3, vs ++ [_], n + 1, vals ++ [val], add ++ extra, _, rfl, rfl, fun p hp => (hx4 p hp).2, ho3, hi3, ?_, by rw [List.length_append, hvl]; rfl, by omega, ?_⟩)
        · rcases List.mem_cons.mp hp with rfl | hp
          · exact nlI
          · rcases List.mem_cons.mp hp with rfl | hp
            · exact nxI
            · rcases List.mem_cons.mp hp with rfl | hp
              · exact ndI
              · exact (hx4 p hp).1
        · rw [List.map_append]
          exact (hda.mono (fun p hp => List.mem_append.mpr (.inr hp))).append (.one (hdat.mono (fun p hp => List.mem_append.mpr (.inl hp))))
        · rw [← heq, hdrop, prea_succ hkind, ← hr3]
    case fin =>
      rintro m' nw h tk hJi F N
      obtain ⟨j, o', vs, n, vals, extra, uk, rfl, rfl, hex, ho', hj, hda, hvl, hil, heq⟩ := (hJJ _ _ _).mp hJi
      clear Fa Na
      have ho2 := ho'
      obtain ⟨t5, rfl⟩ := ho2
      have hks : kvs.toArray.size = ks.length := by rw [List.size_toArray, hki.length]
      rw [hks, List.drop_length, prea_zero] at heq
      have N1 : News g' L' h [(lf, listOf vs.toArray n), (x', instObj 159 d'), (d', _)] := fun p hp => N p (by
        simp only [List.mem_cons, List.not_mem_nil, or_false] at hp ⊢
        rcases hp with h | h | h
        · exact .inl h
        · exact .inr (.inl h)
        · exact .inr (.inr (.inl h)))
      have Nx : ∀ p ∈ extra, h.get? p.1 = some p.2 ∧ p.1 ≠ L' ∧ g'.get? p.1 = none := fun p hp => N p (.tail _ (.tail _ (.tail _ hp)))
      have Na := N
      clear N
      k_steps
      with_reducible refine Halt.go ?_
      refine done_ok B0 F X0 T0 rfl (subN N1 (by k_mem) (by k_mem)) (room1 hroom (by decide)) (room3 hun (by decide)) (Dg.of F) hdx hdX hxd ho' hj fun h5 tk5 k5 => ?_
      obtain ⟨F5, N5⟩ := afterAll F N1 k5
      clear N1
      k_steps
      with_reducible refine Halt.go ?_
      refine wpAny_newTuple ?_ (by rw [sizeLine_eq]; simp)
      have kp : ∀ b o, h5.get? b = some o → (h5.push { cls := .type "tuple", data := .seq [Value.ref lf, .int (j : Int) t5, .bool (decide (ds.length ≤ j))].toArray }).get? b = some o := fun b o e => Heap.get?_push_of_some _ e
      have hnew : ∀ b, g'.get? b = none → s.heap.get? b = none := fun b e => new_of up' e (by simp)
      have hg5 : g'.get? h5.objs.size = none := next_is_new F5
      refine ret h5.objs.size lf _ _ vals _ j t5 n 0 vs extra heq.symm rfl hj hda (fun q hq => ?_) fun b o _ e => kp b o (F5.keep b o (up' b o (by simp) e))
      rcases List.mem_cons.mp hq with rfl | hq
      · exact ⟨Heap.get?_push_at rfl rfl, hnew _ hg5⟩
      · rcases List.mem_cons.mp hq with rfl | hq
        · exact ⟨kp _ _ (N5 _ (.head _)).1, hnew _ (N5 _ (.head _)).2.2⟩
        · exact ⟨kp _ _ (k5 _ _ (by simp) (Nx _ hq).1), hnew _ (Nx _ hq).2.2⟩
  case suite =>
    rintro e what ps' h4 g4 tk4 D oe od m4 E4 ⟨r, i', hbad, hr, hi', rfl⟩ T4 F4 N4 C4 K4 X4 P4
    obtain ⟨c1, c2, c3, n, u1, u2, u3, u4, rfl⟩ := C4
    clear Fa Na
    have I4 : InstAt h4 e oe 44 (some _) := ⟨(N4 _ (.head _)).1, c1, c3, by rw [c2]; exact (N4 _ (.tail _ (.head _))).1⟩
    have Xh := X4.keeps F4.keep
    k_steps
    refine exc_get Xh I4 (v := .str (Str.ofString what) u2) (by with_unfolding_all rfl) rfl ?_
    k_steps
    refine exc_get Xh I4 (v := .int (i' : Int) u4) (by with_unfolding_all rfl) rfl ?_
    k_steps
    with_reducible refine Halt.go ?_
    refine newTuple_N F4 N4 (fun h5 F5 N5 => ?_) (by rw [sizeLine_eq]; simp)
    clear F4 N4
    k_steps
    rename Fr _ _ _ _ => Fz
    rename News _ _ _ _ => Nz
    refine bad _ _ _ what r i' u2 u4 _ hbad hr hi' (Nz _ (.head _)).1 ?_ (fun b o hb e => ?_) fun b o hb e => ?_
    · cases q : s.heap.get? _ with
      | none => rfl
      | some o =>
        obtain ⟨sl, hs⟩ := T4.up (up' _ _ (by simp) q)
        rw [(Nz _ (.head _)).2.2] at hs; cases hs
    · exact Fz.keep _ _ (T4.other _ _ (up' _ _ (by simp) e) hb)
    · obtain ⟨sl, hs⟩ := T4.frame _ _ (up' _ _ (by simp) e) hb
      exact ⟨sl, Fz.keep _ _ hs⟩
end

section
example : (Mine.hd.heap_39 = Mine.hd.heap_39) ∧ PySem.Challenge.rw_nu0313_01 = PySem.Challenge.rw_nu0313_01 := by w_top off; k_fill; exact ⟨rfl, rfl⟩
local macro_rules | `(tactic| walk_at $k:str) => if ["exec While Compare cons nil", "call ref", "exec For", "exec For Name Call cons nil", "exec For Name Name cons nil", "exec For Name Subscript cons nil"].contains k.getString then `(tactic| with_reducible refine halt ?_) else Lean.Macro.throwUnsupported
theorem code_at {s : Str} {i c : Nat} (h : s.cps[i]? = some c) : (KStt.codes s)[i]? = some (c : Int) := KStt.code_at h
theorem wtext_ok {prog : Program} {w : World} {p : Program} {loose : List Str} {mean : ExcName → Option Value} {mg mb : Str → Option Value}
    {dp un : Nat} {gd : Option (List Code)} {cn : Str} {cs : Scope} {a : Addr} {ccd : Value} {cl : List (Str × Addr)} {outer : List Env} {A₀ : Around} {base h₀ : Heap} {L : Addr} {m : Str → Option Value} {s : Shared} {Q E : Value → Shared → Prop}
    {x dx l : Addr} {hs : Int} {tn : Tok} {k : Nat} {o : Obj} {acc : List Int} {v : Str} {tv : Tok}
    (B : Below A₀ base outer h₀) (F : Fr h₀ L s.heap m) (X : (hd.heap_39 w.params).In h₀) (T : Top p loose mean mg mb h₀) (hk : cs.kind = .function)
        (N : News h₀ L s.heap [(x, instObj 91 dx), (dx, dictOf [⟨hs, .str (Str.ofString "out") tn, .ref l⟩] k), (l, o)])
        (hroom : dp + 20 < recursionLimit) (hun : un + 10 * 20 < cLine)
    (hvl : v.length ≤ 1000) (hxd : x ≠ dx) (hxl : x ≠ l) (hdl : dx ≠ l) (ho : IL acc o) (hg : acc.length + (wtextL (KStt.codes v)).length ≤ 100000)
    (ret : ∀ h' tk' o', IL (acc ++ wtextL (KStt.codes v)) o' → Keep [l] s.heap h' → h'.get? l = some o' → Q .none { s with heap := h', toks := tk' }) :
    wpAny (model prog w) (ktrTop dp un gd cn cs L a ccd cl outer) (call (.ref 81) [.ref x, .str v tv]) Q E s := by
  have N_ := N
  have hcl : (KStt.codes v).length = v.length := KStt.codes_length v
  rw [wtextL, List.length_append] at hg
  refine wpAny_call ?_
  k_dflt (refine' enter_plain (binds := [(Str.ofString "self", .ref x), (Str.ofString "s", .str v tv)]) ?k1 ?k2 ?k3 ?k4 ?k5 ?kA ?kF ?kK ?k6 ?k7 ?k8 ?k9 ?kB ?_ ?c5 ?c2 ?c3 ?c4; (case kA => exact rfl); (case kF => exact rfl); (case kK => assumption); (case k1 => k_asm); (case k2 => k_asm); (case k3 => k_asm); (case k4 => k_asm); (case k5 => k_asm); (case k6 => k_is); (case k7 => k_is); (case k8 => first | exact room0 hroom | ktr_room); (case k9 => exact BindsTo.of_eq rfl); (case c5 => decide); (case kB => exact locs rfl); (case c2 => exact rfl); (case c3 => exact rfl); (case c4 => exact rfl); k_whole; intro g' L' h' F' N' B' X' T' up' dn' sz'; (try dsimp only); (try k_fold))
  k_with_none
  k_steps
  with_reducible refine Halt.go ?_
  rename Fr _ _ _ _ => Fa
  rename News _ _ _ _ => Na
  refine wnumber_ok B' Fa X' T' rfl Na (room1 hroom (by decide)) (room3 hun (by decide)) hxd hxl hdl ho ?_ fun h1 tk1 o1 ho1 k1 e1 => ?_
  · rw [← hcl]; omega
  obtain ⟨Fb, Nb⟩ := afterK [(x, instObj 91 dx), (dx, dictOf [⟨hs, .str (Str.ofString "out") tn, .ref l⟩] k), (l, o1)] Fa Na k1 e1 (by k_mem) ⟨.inr ⟨by k_mem, hxl⟩, .inr ⟨by k_mem, hdl⟩, .inl rfl, trivial⟩
  clear Fa Na
  rw [← hcl] at ho1
  k_steps
  with_reducible refine Halt.go ?_
  rename Fr _ _ _ _ => Fb
  rename News _ _ _ _ => Nb
  replace Fb := Fr.as (m' := fun y => if y = Str.ofString "char" then none else mp [(Str.ofString "self", .ref x), (Str.ofString "s", .str v tv)] y) Fb (by
    funext y
    by_cases h1 : y = Str.ofString "char"
    · subst h1; with_unfolding_all rfl
    by_cases h2 : y = Str.ofString "self"
    · subst h2; with_unfolding_all rfl
    by_cases h3 : y = Str.ofString "s"
    · subst h3; with_unfolding_all rfl
    have b2 := beq_false_of_ne h2
    have b3 := beq_false_of_ne h3
    simp [mp, List.lookup_cons, List.lookup_nil, h1, h2, h3, b3, b2])
  refine for_str g' rfl (by rfl) (by rfl) ?_ (by passes_own)
  k_steps
  obtain ⟨J, hJJ⟩ : ∃ J : Nat → (Str → Option Value) → List (Addr × Obj) → Prop, ∀ i m nw, J i m nw ↔ (∃ (o' : Obj) (uc : Option Value), m = (fun y => if y = Str.ofString "char" then uc else mp [(Str.ofString "self", .ref x), (Str.ofString "s", .str v tv)] y) ∧ nw = [(x, instObj 91 dx), (dx, dictOf [⟨hs, .str (Str.ofString "out") tn, .ref l⟩] k), (l, o')] ∧ i ≤ v.length ∧ IL (acc ++ gr (zig ((KStt.codes v).length : Int)) ++ grs ((KStt.codes v).take i)) o') := ⟨_, fun _ _ _ => Iff.rfl⟩
  refine ⟨v, tv, _, _, rfl, Fb, Nb, J, ?J0, ?turn, ?fin⟩
  case J0 => exact (hJJ _ _ _).mpr ⟨o1, none, rfl, rfl, Nat.zero_le _, by simpa [grs_nil] using ho1⟩
  case turn =>
    rintro i c t m₁ nw I oI h tk hc hJi off F N
    obtain ⟨o', uc, rfl, rfl, hiv, hil⟩ := (hJJ _ _ _).mp hJi
    clear Fb Nb
    have hci := code_at hc
    have nxI : @Ne Nat x I := off _ (.head _)
    have ndI : @Ne Nat dx I := off _ (.tail _ (.head _))
    have nlI : @Ne Nat l I := off _ (.tail _ (.tail _ (.head _)))
    have htk := take_at hci
    have hgt := grs_take (KStt.codes v) (i + 1)
    rw [htk, grs_snoc, List.length_append] at hgt
    have hilt : i < v.length := by
      have := (Array.getElem?_eq_some_iff.mp hc).1
      exact this
    k_steps
    with_reducible refine Halt.go ?_
    rename Fr _ _ _ _ => Fa
    rename News _ _ _ _ => Na
    refine wnumber_ok B' Fa X' T' rfl (v := (c : Int)) (fun p hp => Na p (.tail _ hp)) (room1 hroom (by decide)) (room3 hun (by decide)) hxd hxl hdl hil (by simp only [List.length_append]; omega) fun h3 tk3 o3 ho3 k3 e3 => ?_
    obtain ⟨Fc, Nc⟩ := afterK [(I, oI), (x, instObj 91 dx), (dx, dictOf [⟨hs, .str (Str.ofString "out") tn, .ref l⟩] k), (l, o3)] Fa Na k3 e3 (by k_mem) ⟨.inr ⟨by k_mem, Ne.symm nlI⟩, .inr ⟨by k_mem, hxl⟩, .inr ⟨by k_mem, hdl⟩, .inl rfl, trivial⟩
    clear Fa Na
    k_steps
    refine ForTurn.intro (Fr.as (m' := fun y => if y = Str.ofString "char" then some (.str ⟨#[c]⟩ t) else mp [(Str.ofString "self", .ref x), (Str.ofString "s", .str v tv)] y) Fc (by funext y; by_cases h1 : y = Str.ofString "char"; (case pos => subst h1; with_unfolding_all rfl); simp only [if_neg h1])) Nc _ (fun p hp => hp) (fun p hp => ?_)
      ((hJJ _ _ _).mpr ⟨o3, _, rfl, rfl, hilt, by rw [htk, grs_snoc, ← List.append_assoc]; exact ho3⟩)
    simp only [List.mem_cons, List.not_mem_nil, or_false] at hp
    rcases hp with rfl | rfl | rfl
    · exact nxI
    · exact ndI
    · exact nlI
  case fin =>
    rintro m' nw h tk hJi F N
    obtain ⟨o', uc, rfl, rfl, hiv, hil⟩ := (hJJ _ _ _).mp hJi
    clear Fb Nb
    k_steps
    rw [show v.cps.size = (KStt.codes v).length from hcl.symm, List.take_length] at hil
    refine ret _ _ o' (by rw [wtextL, ← List.append_assoc]; exact hil) (keep_drop (foot := [(x, instObj 91 dx), (dx, dictOf [⟨hs, .str (Str.ofString "out") tn, .ref l⟩] k), (l, o)]) (fun b o hb e => F.keep b o (up' b o hb e)) fun p hp => ?_) (N _ (.tail _ (.tail _ (.head _)))).1
    have hN := N_ p hp
    simp only [List.mem_cons, List.not_mem_nil, or_false] at hp
    rcases hp with rfl | rfl | rfl
    · exact .inr ⟨hN.1, (N _ (.head _)).1⟩
    · exact .inr ⟨hN.1, (N _ (.tail _ (.head _))).1⟩
    · exact .inl (.head _)
end

section
example : (Mine.hd.heap_39 = Mine.hd.heap_39) ∧ PySem.Challenge.rw_nu0313_01 = PySem.Challenge.rw_nu0313_01 := by w_top off; k_fill; exact ⟨rfl, rfl⟩
local macro_rules | `(tactic| walk_at $k:str) => if ["exec While Compare cons nil", "call ref", "exec For", "exec For Name Call cons nil", "exec For Name Name cons nil", "exec For Name Subscript cons nil"].contains k.getString then `(tactic| with_reducible refine halt ?_) else Lean.Macro.throwUnsupported
theorem wnums_ok {prog : Program} {w : World} {p : Program} {loose : List Str} {mean : ExcName → Option Value} {mg mb : Str → Option Value}
    {dp un : Nat} {gd : Option (List Code)} {cn : Str} {cs : Scope} {a : Addr} {ccd : Value} {cl : List (Str × Addr)} {outer : List Env} {A₀ : Around} {base h₀ : Heap} {L : Addr} {m : Str → Option Value} {s : Shared} {Q E : Value → Shared → Prop}
    {x dx l : Addr} {hs : Int} {tn : Tok} {k : Nat} {o : Obj} {acc : List Int} {row : Addr} {vs : List Int}
    (B : Below A₀ base outer h₀) (F : Fr h₀ L s.heap m) (X : (hd.heap_39 w.params).In h₀) (T : Top p loose mean mg mb h₀) (hk : cs.kind = .function)
        (N : News h₀ L s.heap [(x, instObj 91 dx), (dx, dictOf [⟨hs, .str (Str.ofString "out") tn, .ref l⟩] k), (l, o)])
        (hroom : dp + 20 < recursionLimit) (hun : un + 10 * 20 < cLine)
    (Rt : DataAt s.heap row vs) (hrx : row ≠ x) (hrd : row ≠ dx) (hrl : row ≠ l) (hxd : x ≠ dx) (hxl : x ≠ l) (hdl : dx ≠ l) (ho : IL acc o) (hg : acc.length + (wnumsL vs).length ≤ 100000)
    (ret : ∀ h' tk' o', IL (acc ++ wnumsL vs) o' → Keep [l] s.heap h' → h'.get? l = some o' → Q .none { s with heap := h', toks := tk' }) :
    wpAny (model prog w) (ktrTop dp un gd cn cs L a ccd cl outer) (call (.ref 88) [.ref x, .ref row]) Q E s := by
  have N_ := N
  rw [wnumsL, List.length_append] at hg
  refine wpAny_call ?_
  k_dflt (refine' enter_plain (binds := [(Str.ofString "self", .ref x), (Str.ofString "row", .ref row)]) ?k1 ?k2 ?k3 ?k4 ?k5 ?kA ?kF ?kK ?k6 ?k7 ?k8 ?k9 ?kB ?_ ?c5 ?c2 ?c3 ?c4; (case kA => exact rfl); (case kF => exact rfl); (case kK => assumption); (case k1 => k_asm); (case k2 => k_asm); (case k3 => k_asm); (case k4 => k_asm); (case k5 => k_asm); (case k6 => k_is); (case k7 => k_is); (case k8 => first | exact room0 hroom | ktr_room); (case k9 => exact BindsTo.of_eq rfl); (case c5 => decide); (case kB => exact locs rfl); (case c2 => exact rfl); (case c3 => exact rfl); (case c4 => exact rfl); k_whole; intro g' L' h' F' N' B' X' T' up' dn' sz'; (try dsimp only); (try k_fold))
  have Rg := Rt.keep (mod := [x, dx, l]) up' (by simp [hrx, hrd, hrl])
  obtain ⟨rvs, hrl', hri, hrn⟩ := Rg
  k_with_none
  k_steps
  with_reducible refine Halt.go ?_
  rename Fr _ _ _ _ => Fa
  rename News _ _ _ _ => Na
  refine wnumber_ok B' Fa X' T' rfl Na (room1 hroom (by decide)) (room3 hun (by decide)) hxd hxl hdl ho ?_ fun h1 tk1 o1 ho1 k1 e1 => ?_
  · omega
  obtain ⟨Fb, Nb⟩ := afterK [(x, instObj 91 dx), (dx, dictOf [⟨hs, .str (Str.ofString "out") tn, .ref l⟩] k), (l, o1)] Fa Na k1 e1 (by k_mem) ⟨.inr ⟨by k_mem, hxl⟩, .inr ⟨by k_mem, hdl⟩, .inl rfl, trivial⟩
  clear Fa Na
  k_steps
  with_reducible refine Halt.go ?_
  rename Fr _ _ _ _ => Fb
  rename News _ _ _ _ => Nb
  replace Fb := Fr.as (m' := fun y => if y = Str.ofString "n" then none else mp [(Str.ofString "self", .ref x), (Str.ofString "row", .ref row)] y) Fb (by
    funext y
    by_cases h1 : y = Str.ofString "n"
    · subst h1; with_unfolding_all rfl
    by_cases h2 : y = Str.ofString "self"
    · subst h2; with_unfolding_all rfl
    by_cases h3 : y = Str.ofString "row"
    · subst h3; with_unfolding_all rfl
    have b2 := beq_false_of_ne h2
    have b3 := beq_false_of_ne h3
    simp [mp, List.lookup_cons, List.lookup_nil, h1, h2, h3, b3, b2])
  refine for_list g' rfl (by rfl) (by rfl) ?_ (by passes_own)
  k_steps
  obtain ⟨J, hJJ⟩ : ∃ J : Nat → (Str → Option Value) → List (Addr × Obj) → Prop, ∀ i m nw, J i m nw ↔ (∃ (o' : Obj) (uc : Option Value), m = (fun y => if y = Str.ofString "n" then uc else mp [(Str.ofString "self", .ref x), (Str.ofString "row", .ref row)] y) ∧ nw = [(x, instObj 91 dx), (dx, dictOf [⟨hs, .str (Str.ofString "out") tn, .ref l⟩] k), (l, o')] ∧ i ≤ vs.length ∧ IL (acc ++ gr (zig (vs.length : Int)) ++ grs (vs.take i)) o') := ⟨_, fun _ _ _ => Iff.rfl⟩
  refine ⟨row, rvs.toArray, _, _, rfl, Fb, Nb, J, ?J0, fun i m nw hJ => .inl hrl', ?turn, ?fin⟩
  case J0 => exact (hJJ _ _ _).mpr ⟨o1, none, rfl, rfl, Nat.zero_le _, by simpa [grs_nil] using ho1⟩
  case turn =>
    rintro i v' m₁ nw I oI h tk hc hJi off F N
    obtain ⟨o', uc, rfl, rfl, hiv, hil⟩ := (hJJ _ _ _).mp hJi
    clear Fb Nb
    obtain ⟨c, t, hci, rfl⟩ : ∃ kk kt, vs[i]? = some kk ∧ v' = .int kk kt := by
      obtain ⟨k, t, e, hk⟩ := IntsAre.at hri i v' (by simpa using hc)
      exact ⟨k, t, hk, e⟩
    have nxI : @Ne Nat x I := off _ (.head _)
    have ndI : @Ne Nat dx I := off _ (.tail _ (.head _))
    have nlI : @Ne Nat l I := off _ (.tail _ (.tail _ (.head _)))
    have htk := take_at hci
    have hgt := grs_take vs (i + 1)
    rw [htk, grs_snoc, List.length_append] at hgt
    have hilt : i < vs.length := (List.getElem?_eq_some_iff.mp hci).1
    k_steps
    with_reducible refine Halt.go ?_
    rename Fr _ _ _ _ => Fa
    rename News _ _ _ _ => Na
    refine wnumber_ok B' Fa X' T' rfl (v := c) (fun p hp => Na p (.tail _ hp)) (room1 hroom (by decide)) (room3 hun (by decide)) hxd hxl hdl hil (by simp only [List.length_append]; omega) fun h3 tk3 o3 ho3 k3 e3 => ?_
    obtain ⟨Fc, Nc⟩ := afterK [(I, oI), (x, instObj 91 dx), (dx, dictOf [⟨hs, .str (Str.ofString "out") tn, .ref l⟩] k), (l, o3)] Fa Na k3 e3 (by k_mem) ⟨.inr ⟨by k_mem, Ne.symm nlI⟩, .inr ⟨by k_mem, hxl⟩, .inr ⟨by k_mem, hdl⟩, .inl rfl, trivial⟩
    clear Fa Na
    k_steps
    refine ForTurn.intro (Fr.as (m' := fun y => if y = Str.ofString "n" then some (.int c t) else mp [(Str.ofString "self", .ref x), (Str.ofString "row", .ref row)] y) Fc (by funext y; by_cases h1 : y = Str.ofString "n"; (case pos => subst h1; with_unfolding_all rfl); simp only [if_neg h1])) Nc _ (fun p hp => hp) (fun p hp => ?_)
      ((hJJ _ _ _).mpr ⟨o3, _, rfl, rfl, hilt, by rw [htk, grs_snoc, ← List.append_assoc]; exact ho3⟩)
    simp only [List.mem_cons, List.not_mem_nil, or_false] at hp
    rcases hp with rfl | rfl | rfl
    · exact nxI
    · exact ndI
    · exact nlI
  case fin =>
    rintro m' nw h tk hJi F N
    obtain ⟨o', uc, rfl, rfl, hiv, hil⟩ := (hJJ _ _ _).mp hJi
    clear Fb Nb
    k_steps
    rw [show rvs.toArray.size = vs.length from by rw [List.size_toArray, hri.length], List.take_length] at hil
    refine ret _ _ o' (by rw [wnumsL, ← List.append_assoc]; exact hil) (keep_drop (foot := [(x, instObj 91 dx), (dx, dictOf [⟨hs, .str (Str.ofString "out") tn, .ref l⟩] k), (l, o)]) (fun b o hb e => F.keep b o (up' b o hb e)) fun p hp => ?_) (N _ (.tail _ (.tail _ (.head _)))).1
    have hN := N_ p hp
    simp only [List.mem_cons, List.not_mem_nil, or_false] at hp
    rcases hp with rfl | rfl | rfl
    · exact .inr ⟨hN.1, (N _ (.head _)).1⟩
    · exact .inr ⟨hN.1, (N _ (.tail _ (.head _))).1⟩
    · exact .inl (.head _)
end

section
example : (Mine.hd.heap_39 = Mine.hd.heap_39) ∧ PySem.Challenge.rw_nu0313_01 = PySem.Challenge.rw_nu0313_01 := by w_top off; k_fill; exact ⟨rfl, rfl⟩
local macro_rules | `(tactic| walk_at "no such key") => `(tactic| skip)
local macro_rules | `(tactic| walk_at $k:str) => if ["exec While Compare cons nil", "call ref", "exec For", "exec For Name Call cons nil", "exec For Name Name cons nil", "exec For Name Subscript cons nil", "eval ListComp", "CompEnd"].contains k.getString then `(tactic| with_reducible refine halt ?_) else Lean.Macro.throwUnsupported
abbrev signs : List Int := [97, 233, 8364, 48, 1114111, 90]
theorem sign_ok {x : Str} {c : Int} {t : Tok} {ys : List Value} {cs : List Int} (e : x = one c) (h : StrsAre ys (cs.map one)) : StrsAre (ys ++ [.str x t]) ((cs ++ [c]).map one) := by
  rw [List.map_append, e]
  exact h.append' (.cons _ _ .nil)
theorem mem_snoc {c : Int} {cs l : List Int} (h : ∀ d ∈ cs, d ∈ l) (hc : c ∈ l) : ∀ d ∈ cs ++ [c], d ∈ l := fun d hd => by
  rcases List.mem_append.mp hd with hd | hd
  · exact h d hd
  · exact List.mem_singleton.mp hd ▸ hc
theorem word_ok {prog : Program} {w : World} {p : Program} {loose : List Str} {mean : ExcName → Option Value} {mg mb : Str → Option Value}
    {dp un : Nat} {gd : Option (List Code)} {cn : Str} {cs : Scope} {a : Addr} {ccd : Value} {cl : List (Str × Addr)} {outer : List Env} {A₀ : Around} {base h₀ : Heap} {L : Addr} {m : Str → Option Value} {s : Shared} {Q E : Value → Shared → Prop}
    {hand cells : Addr} {o : Obj} {n : Nat} {ns : List Int}
    (B : Below A₀ base outer h₀) (F : Fr h₀ L s.heap m) (X : (hd.heap_39 w.params).In h₀) (T : Top p loose mean mg mb h₀) (hk : cs.kind = .function)
        (N : News h₀ L s.heap [(hand, o)])
        (hroom : dp + 30 < recursionLimit) (hun : un + 10 * 30 < cLine)
    (C : CellsAt s.heap cells ns) (hcn : cells ≠ hand) (ho : HandO cells ns.length n o)
    (ret : ∀ cs tv h' tk' o', cs.length ≤ 3 → (∀ c ∈ cs, c ∈ signs) → HandO cells ns.length n o' → Keep [hand] s.heap h' → h'.get? hand = some o' → Q (.str (KStt.txt cs) tv) { s with heap := h', toks := tk' }) :
    wpAny (model prog w) (ktrTop dp un gd cn cs L a ccd cl outer) (call (.ref 189) [.ref hand]) Q E s := by
  have N_ := N
  refine wpAny_call ?_
  k_dflt (refine' enter_cells (binds := [(Str.ofString "hand", .ref hand)]) ?k1 ?k2 ?k3 ?k4 ?k5 ?kA ?kF ?kK ?k6 ?k7 ?k8 ?k9 ?kB ?kD ?_ ?c2 ?c3 ?c4; (case kA => exact rfl); (case kF => exact rfl); (case kK => assumption); (case k1 => k_asm); (case k2 => k_asm); (case k3 => k_asm); (case k4 => k_asm); (case k5 => k_asm); (case k6 => k_is); (case k7 => k_is); (case k8 => first | exact room0 hroom | ktr_room); (case k9 => exact BindsTo.of_eq rfl); (case kB => exact rfl); (case kD => decide +kernel); (case c2 => exact rfl); (case c3 => exact rfl); (case c4 => exact rfl); k_whole; intro g' L' h' tk' cells' F' N' Y' B' X' T' up' dn' sz' lt'; (obtain ⟨oc, hE', dc⟩ := CellsAre.one Y'); (subst hE'); (clear Y'); (try simp only [List.cons_append, List.nil_append] at N'); (try dsimp only); (try k_fold))
  have Cg : CellsAt g' cells ns := C.keep (mod := [hand]) up' (by simpa using hcn)
  replace dc : oc.data = .cell (some (.ref hand)) := dc
  replace F' : Fr g' L' h' (mp []) := Fr.as F' (by funext y; rfl)
  have hhL : @LT.lt Nat _ hand L' := sz' ▸ Heap.lt_size (N _ (.head _)).1
  k_with_none
  k_steps
  refine Halt.go ?_
  refine listComp_R (m := mp []) (outer := envX cn cs L a ccd cl :: outer) rfl rfl rfl B' (by rfl) (by decide) (by rfl) (by decide) (by rfl) ?_
  k_steps
  with_reducible refine Halt.go ?_
  rename Fr _ _ _ _ => Fa
  rename News _ _ _ _ => Na
  refine pick_ok B' Fa X' T' rfl (onlyN Na (by k_mem)) (room1 hroom (by decide)) (room3 hun (by decide)) (Cg.of Fa) hcn ho (by decide) (by decide +kernel) fun d td h1 tk1 o1 hd0 hd1 ho1 k1 e1 => ?_
  obtain ⟨Fb, Nb⟩ := afterK [(L' + 1, oc), (hand, o1)] Fa Na k1 e1 (by k_mem) ⟨.inr ⟨by k_mem, by dsimp only; omega⟩, .inl rfl, trivial⟩
  clear Fa Na
  k_steps
  rename IsRange _ _ _ _ _ _ _ _ => hrg
  rename Fr _ _ _ _ => Fa
  rename News _ _ _ _ => Na
  obtain ⟨J, hJJ⟩ : ∃ J : Nat → List Value → List (Addr × Obj) → Prop, ∀ i' ys nw, J i' ys nw ↔ (∃ (o' : Obj) (cs : List Int), nw = [(L' + 1, oc), (hand, o')] ∧ HandO cells ns.length n o' ∧ StrsAre ys (cs.map one) ∧ cs.length = i' ∧ (∀ c ∈ cs, c ∈ signs)) := ⟨_, fun _ _ _ => Iff.rfl⟩
  refine ⟨_, 0, d, _, _, _, d.toNat, _, rfl, Fa, Na, hrg, small_one (by decide) (by decide) (lf10 hd0) (lf11 hd1), by rw [rangeSize_nat]; simp, by rw [sizeLine_eq]; exact Nat.le_trans (lf12 hd1) (by decide),
    J, fun _ _ => False, ?J0, ?turn, ?fin, fun _ _ _ _ _ _ h => h.elim⟩
  case J0 => exact (hJJ _ _ _).mpr ⟨o1, [], rfl, ho1, .nil, rfl, fun _ h => nomatch h⟩
  case turn =>
    rintro i' v' t' ys nw I oI C oC D m₂ h tk hlt hJi rfl hC hx F N off ne
    obtain ⟨o', cs', rfl, ho', hys, hcl, hcs⟩ := (hJJ _ _ _).mp hJi
    clear Fa Na
    obtain ⟨nIC, nID, nCD⟩ := ne
    obtain ⟨⟨ncI, ncC, ncD⟩, ⟨nhI, nhC, nhD⟩, -⟩ := id off
    k_steps
    with_reducible refine Halt.go ?_
    rename Fr _ _ _ _ => Fa
    rename News _ _ _ _ => Na
    rename_i lm hm l1 ce
    obtain ⟨lI, lC, lD, lc, lh⟩ := l1
    refine pick_ok B' Fa X' T' rfl (onlyN Na (by k_mem)) (room1 hroom (by decide)) (room3 hun (by decide)) (Cg.of Fa) hcn ho' (by decide) (by decide +kernel) fun d2 td2 h2 tk2 o2 hd20 hd21 ho2 k2 e2 => ?_
    obtain ⟨Fb, Nb⟩ := afterK [(lm, _), (I, oI), (C, oC), (D, LCg.lst ys), (L' + 1, oc), (hand, o2)] Fa Na k2 e2 (by k_mem)
      ⟨.inr ⟨by k_mem, Ne.symm (Nat.ne_of_lt lh)⟩, .inr ⟨by k_mem, Ne.symm nhI⟩, .inr ⟨by k_mem, Ne.symm nhC⟩, .inr ⟨by k_mem, Ne.symm nhD⟩, .inr ⟨by k_mem, by dsimp only; omega⟩, .inl rfl, trivial⟩
    clear Fa Na
    have hd2 : d2 = 0 ∨ d2 = 1 ∨ d2 = 2 ∨ d2 = 3 ∨ d2 = 4 ∨ d2 = 5 := by omega
    rcases hd2 with rfl | rfl | rfl | rfl | rfl | rfl
    · k_steps
      refine Halt.go ?_
      rename Fr _ _ _ _ => Fz
      rename News _ _ _ _ => Nz
      exact LCg.CompEnd.intro Fz Nz [(L' + 1, oc), (hand, o2)] (fun p hp => .tail _ hp) off trivial ((hJJ _ _ _).mpr ⟨o2, cs' ++ [97], rfl, ho2, sign_ok (by decide +kernel) hys, by rw [List.length_append, hcl]; rfl, mem_snoc hcs (by decide)⟩)
    · k_steps
      refine Halt.go ?_
      rename Fr _ _ _ _ => Fz
      rename News _ _ _ _ => Nz
      exact LCg.CompEnd.intro Fz Nz [(L' + 1, oc), (hand, o2)] (fun p hp => .tail _ hp) off trivial ((hJJ _ _ _).mpr ⟨o2, cs' ++ [233], rfl, ho2, sign_ok (by decide +kernel) hys, by rw [List.length_append, hcl]; rfl, mem_snoc hcs (by decide)⟩)
    · k_steps
      refine Halt.go ?_
      rename Fr _ _ _ _ => Fz
      rename News _ _ _ _ => Nz
      exact LCg.CompEnd.intro Fz Nz [(L' + 1, oc), (hand, o2)] (fun p hp => .tail _ hp) off trivial ((hJJ _ _ _).mpr ⟨o2, cs' ++ [8364], rfl, ho2, sign_ok (by decide +kernel) hys, by rw [List.length_append, hcl]; rfl, mem_snoc hcs (by decide)⟩)
    · k_steps
      refine Halt.go ?_
      rename Fr _ _ _ _ => Fz
      rename News _ _ _ _ => Nz
      exact LCg.CompEnd.intro Fz Nz [(L' + 1, oc), (hand, o2)] (fun p hp => .tail _ hp) off trivial ((hJJ _ _ _).mpr ⟨o2, cs' ++ [48], rfl, ho2, sign_ok (by decide +kernel) hys, by rw [List.length_append, hcl]; rfl, mem_snoc hcs (by decide)⟩)
    · k_steps
      refine Halt.go ?_
      rename Fr _ _ _ _ => Fz
      rename News _ _ _ _ => Nz
      exact LCg.CompEnd.intro Fz Nz [(L' + 1, oc), (hand, o2)] (fun p hp => .tail _ hp) off trivial ((hJJ _ _ _).mpr ⟨o2, cs' ++ [1114111], rfl, ho2, sign_ok (by decide +kernel) hys, by rw [List.length_append, hcl]; rfl, mem_snoc hcs (by decide)⟩)
    · k_steps
      refine Halt.go ?_
      rename Fr _ _ _ _ => Fz
      rename News _ _ _ _ => Nz
      exact LCg.CompEnd.intro Fz Nz [(L' + 1, oc), (hand, o2)] (fun p hp => .tail _ hp) off trivial ((hJJ _ _ _).mpr ⟨o2, cs' ++ [90], rfl, ho2, sign_ok (by decide +kernel) hys, by rw [List.length_append, hcl]; rfl, mem_snoc hcs (by decide)⟩)
  case fin =>
    rintro ys nw D h tk hJi F N off
    obtain ⟨o', cs', rfl, ho', hys, hcl, hcs⟩ := (hJJ _ _ _).mp hJi
    clear Fa Na
    k_steps
    refine join_list (News.isList N (.head _)) (by simpa using hys) ?_ fun t' kk => ?_
    · rw [ones_len, List.length_map, hcl]
      show _ + _ * 0 ≤ _
      omega
    · rw [join_one]
      exact ret cs' t' _ _ o' (by omega) hcs ho' (fun b o hb e => F.keep b o (up' b o hb e)) (N _ (.tail _ (.tail _ (.head _)))).1
end

end Mine

open PySem PySem.W PyProof.Rows PySem.Calls
set_option Elab.async false
set_option maxRecDepth 100000
set_option maxHeartbeats 8000000
namespace Mine
theorem seqI_list : seqSlot? (.type "list") (dunderI "add") = pure (some (.builtin "list.__iadd__")) := PySem.seqSlot_of F.slot_list_iadd.lookup (by decide +kernel)
theorem mapSeq_more (its xs : Array Value) (n : Nat) : ∃ k, Obj.mapSeq (· ++ xs) { cls := .type "list", data := .seq its n } = { cls := .type "list", data := .seq (its ++ xs) k } := ⟨_, rfl⟩
theorem iadd_at {prog : Program} {w : World} {A : Around} {E Q : Value → Shared → Prop} {s : Shared} {D l : Addr} {its xs : Array Value} {n m : Nat}
    (hD : s.heap.get? D = some { cls := .type "list", data := .seq its n }) (hl : s.heap.get? l = some { cls := .type "list", data := .seq xs m })
    (h : ∀ h' k, Heap.SameBut D s.heap h' → h'.get? D = some { cls := .type "list", data := .seq (its ++ xs) k } → Q (.ref D) { s with heap := h' })
    (hz : its.size + xs.size ≤ 1000000) : wpAny (model prog w) A (inplaceOp .Add (.ref D) (.ref l)) Q E s := by
  have ha : s.TypeIs (.ref D) "list" := ⟨_, hD, rfl⟩
  have hb : s.TypeIs (.ref l) "list" := ⟨_, hl, rfl⟩
  have hfi : fillsInplaceSlot (.type "list") "add" (Operator.Add == .Add) = pure false := by
    unfold fillsInplaceSlot
    show (typeLookup (.type "list") (dunderI "add") >>= fun fi => pure (fi.isSome && !isSeqSlot fi)) = pure false
    rw [F.slot_list_iadd.lookup]; rfl
  unfold inplaceOp
  refine wpAny_holding ?_
  refine wpAny_bind (wpAny_typeOf ha (wpAny_bind (wpAny_of_eq hfi ?_)))
  show wpAny _ A (if false = true then _ else _) Q E s
  rw [if_neg Bool.false_ne_true]
  refine wpAny_bind (wpAny_binaryOp1_none (nm := "add") ha hb noFill_list_add ?_)
  refine wpAny_bind (wpAny_of_eq seqI_list ?_)
  refine wpAny_bind (wpAny_rule ?_)
  refine wpAny_call_entry F.slot_list_iadd ha F.entry_list_iadd ?_ (F.args_list_iadd_2 _ _)
  show wpAny _ A.in1 (Builtin.List.listExtendWith (.ref D) (.ref l) (.ref D)) _ _ s
  unfold Builtin.List.listExtendWith
  refine wpAny_bind (wpAny_typeOf hb ?_)
  have h1 : (Builtin.List.listSameRef (.ref D) (.ref l) || Value.type "list" == Value.type "list" || Value.type "list" == Value.type "tuple") = true := by simp
  simp only [h1, if_true]
  refine wpAny_bind ?_
  unfold Builtin.List.listItems
  refine wpAny_bind (wpAny_seqItems hl rfl (wpAny_pure ?_))
  refine wpAny_bind ?_
  refine wpAny_bind (wpAny_seqItems hD rfl (wpAny_pure ?_))
  have h2 : (!its.isEmpty && Builtin.List.listTooLong (its.size + xs.size)) = false := by
    rw [Bool.and_eq_false_iff]
    exact .inr (decide_eq_false (by rw [sizeLine_eq]; omega))
  simp only [h2]
  show wpAny _ A.in1 (updateSeq D (· ++ xs) >>= fun _ => ret (.ref D)) _ _ s
  refine wpAny_bind (wpAny_updateSeq hD rfl ?_ (by rw [sizeLine_eq]; omega) (by rw [sizeLine_eq, Array.size_append]; omega))
  obtain ⟨k, hk⟩ := mapSeq_more its xs n
  refine wpAny_pure ⟨.ref D, rfl, h _ k (Heap.SameBut.update ..) ?_⟩
  rw [Heap.get?_update_self _ hD (by rw [hk]; rfl), hk]
/-- the list that is due, longer by the list l -/
theorem iadd_N {prog : Program} {w : World} {A : Around} {E Q : Value → Shared → Prop} {s : Shared} {h₀ : Heap} {L D l : Addr} {m : Str → Option Value} {o ol : Obj} {news : List (Addr × Obj)} {g : Obj → List (Addr × Obj)} {a b : List Int}
    (F : Fr h₀ L s.heap m) (N : News h₀ L s.heap news) (U : UpdF D o news g) (hl : (l, ol) ∈ news) (ia : IL a o) (ib : IL b ol) (hz : a.length + b.length ≤ 100000)
    (h : ∀ h' o', IL (a ++ b) o' → Fr h₀ L h' m → News h₀ L h' (g o') → Q (.ref D) { s with heap := h' }) : wpAny (model prog w) A (inplaceOp .Add (.ref D) (.ref l)) Q E s := by
  obtain ⟨us, n, rfl, hu⟩ := ia
  obtain ⟨ws, k, rfl, hw⟩ := ib
  obtain ⟨pre, post, rfl, hg, p1, p2⟩ := U.split
  have hD := N (D, _) (List.mem_append.mpr (.inr (.head _)))
  have hL := N _ hl
  dsimp only at hD hL
  refine iadd_at hD.1 hL.1 (fun h' c hs e => ?_) (by rw [List.size_toArray, List.size_toArray, hu.length, hw.length]; omega)
  have e' : h'.get? D = some (listOf (us ++ ws).toArray c) := by rw [e]; simp [W.listOf]
  have k' : Keep [D] s.heap h' := fun b o hb q => (hs.2 b (by simpa using hb)).trans q
  refine h h' _ ⟨us ++ ws, c, rfl, hu.append hw⟩ (Fr.keepBy F (onlyN N (List.mem_append.mpr (.inr (.head _)))) k') ?_
  rw [hg]
  intro p hp
  rcases List.mem_append.mp hp with hp | hp
  · have := N p (List.mem_append.mpr (.inl hp))
    exact ⟨k' _ _ (by simpa using p1 p hp) this.1, this.2⟩
  · rcases List.mem_cons.mp hp with rfl | hp
    · exact ⟨e', hD.2⟩
    · have := N p (List.mem_append.mpr (.inr (.tail _ hp)))
      exact ⟨k' _ _ (by simpa using p2 p hp) this.1, this.2⟩
theorem iadd_NV {prog : Program} {w : World} {A : Around} {E Q : Value → Shared → Prop} {s : Shared} {h₀ : Heap} {L D l : Addr} {m : Str → Option Value} {news : List (Addr × Obj)} {g : Obj → List (Addr × Obj)} {us ws : List Value} {n k : Nat}
    (F : Fr h₀ L s.heap m) (N : News h₀ L s.heap news) (U : UpdF D (W.listOf us.toArray n) news g) (hl : (l, W.listOf ws.toArray k) ∈ news) (hz : us.length + ws.length ≤ 100000)
    (h : ∀ h' c, Fr h₀ L h' m → News h₀ L h' (g (W.listOf (us ++ ws).toArray c)) → Q (.ref D) { s with heap := h' }) : wpAny (model prog w) A (inplaceOp .Add (.ref D) (.ref l)) Q E s := by
  obtain ⟨pre, post, rfl, hg, p1, p2⟩ := U.split
  have hD := N (D, _) (List.mem_append.mpr (.inr (.head _)))
  have hL := N _ hl
  dsimp only at hD hL
  refine iadd_at hD.1 hL.1 (fun h' c hs e => ?_) (by rw [List.size_toArray, List.size_toArray]; omega)
  have e' : h'.get? D = some (W.listOf (us ++ ws).toArray c) := by rw [e]; simp [W.listOf]
  have k' : Keep [D] s.heap h' := fun b o hb q => (hs.2 b (by simpa using hb)).trans q
  refine h h' c (Fr.keepBy F (onlyN N (List.mem_append.mpr (.inr (.head _)))) k') ?_
  rw [hg]
  intro p hp
  rcases List.mem_append.mp hp with hp | hp
  · have := N p (List.mem_append.mpr (.inl hp))
    exact ⟨k' _ _ (by simpa using p1 p hp) this.1, this.2⟩
  · rcases List.mem_cons.mp hp with rfl | hp
    · exact ⟨e', hD.2⟩
    · have := N p (List.mem_append.mpr (.inr (.tail _ hp)))
      exact ⟨k' _ _ (by simpa using p2 p hp) this.1, this.2⟩
end Mine

open PySem PySem.W PyProof.Rows PySem.Calls
set_option Elab.async false
set_option maxRecDepth 100000
set_option maxHeartbeats 8000000
namespace Mine
/-- the law's own record, read off the head -/
noncomputable def behind6 : List Stmt → List Stmt | _ :: _ :: _ :: _ :: _ :: _ :: r => r | _ => []
noncomputable def behind1 : List Stmt → List Stmt | _ :: r => r | _ => []
noncomputable def headS : List Stmt → Stmt | x :: _ => x | _ => .Pass ⟨0, 0, 0, 0⟩
noncomputable def forBody : Stmt → List Stmt | .For _ _ b _ _ => b | _ => []
noncomputable def ifThen : Stmt → List Stmt | .If _ b _ _ => b | _ => []
noncomputable def ifElse : Stmt → List Stmt | .If _ _ b _ => b | _ => []
noncomputable def lawFor : Stmt := headS (behind6 lawRec.body)
noncomputable def lawTail : List Stmt := behind1 (behind6 lawRec.body)
noncomputable def lawIf : Stmt := headS (behind1 (behind1 (forBody lawFor)))
noncomputable def lawB0 : List Stmt := ifThen lawIf
noncomputable def lawB1 : List Stmt := ifThen (headS (ifElse lawIf))
noncomputable def lawB2 : List Stmt := ifThen (headS (ifElse (headS (ifElse lawIf))))
noncomputable def lawB3 : List Stmt := ifElse (headS (ifElse (headS (ifElse lawIf))))
example : lawRec.name = Str.ofString "law" := rfl
/-- the law's frame: its fixed names -/
abbrev lm0 (ld lv lk x cells : Addr) (mr : Str → Option Value) : Str → Option Value := fun y =>
  if y = Str.ofString "due" then some (.ref ld) else if y = Str.ofString "values" then some (.ref lv) else if y = Str.ofString "kinds" then some (.ref lk) else if y = Str.ofString "writer" then some (.ref x) else if y = Str.ofString "cells" then some (.ref cells) else mr y
abbrev lm (u1 u2 u3 u4 : Option Value) (ld lv lk x cells : Addr) (mr : Str → Option Value) : Str → Option Value := fun y =>
  if y = Str.ofString "value" then u1 else if y = Str.ofString "char" then u2 else if y = Str.ofString "kind" then u3 else if y = Str.ofString "_" then u4 else lm0 ld lv lk x cells mr y
theorem lm_of (ld lv lk x cells : Addr) (mr : Str → Option Value) : ∃ u1 u2 u3 u4, lm0 ld lv lk x cells mr = lm u1 u2 u3 u4 ld lv lk x cells mr := by
  refine ⟨lm0 ld lv lk x cells mr (Str.ofString "value"), lm0 ld lv lk x cells mr (Str.ofString "char"), lm0 ld lv lk x cells mr (Str.ofString "kind"), lm0 ld lv lk x cells mr (Str.ofString "_"), ?_⟩
  funext y
  by_cases h1 : y = Str.ofString "value"
  · subst h1; simp only [lm, if_true]
  by_cases h2 : y = Str.ofString "char"
  · subst h2; simp only [lm, if_neg h1, if_true]
  by_cases h3 : y = Str.ofString "kind"
  · subst h3; simp only [lm, if_neg h1, if_neg h2, if_true]
  by_cases h4 : y = Str.ofString "_"
  · subst h4; simp only [lm, if_neg h1, if_neg h2, if_neg h3, if_true]
  simp only [lm, if_neg h1, if_neg h2, if_neg h3, if_neg h4]
/-- the law's ledger -/
abbrev led (ld lv lk lo x dx hand cells ch : Addr) (D V K W H dct cs oc : Obj) (extra : List (Addr × Obj)) : List (Addr × Obj) :=
  (ld, D) :: (lv, V) :: (lk, K) :: (lo, W) :: (x, instObj 91 dx) :: (dx, dct) :: (hand, H) :: (cells, cs) :: (ch, oc) :: extra
/-- the law's addresses, in the order in which they were made -/
structure Order (ld lv lk lo x dx hand cells ch : Addr) : Prop where
  q2 : @LT.lt Nat _ ch cells
  q3 : @LT.lt Nat _ cells hand
  q4 : @LT.lt Nat _ hand dx
  q5 : @LT.lt Nat _ dx x
  q6 : @LT.lt Nat _ x lo
  q7 : @LT.lt Nat _ lo lk
  q8 : @LT.lt Nat _ lk lv
  q9 : @LT.lt Nat _ lv ld
abbrev wdict (hh : Int) (ht : Tok) (lo : Addr) : Obj := dictOf [⟨hh, .str (Str.ofString "out") ht, .ref lo⟩] 1
theorem toDat_ok {k : Int} : ∀ v : Val, Good k v → kqdOk 8 (toDat v) = true := by
  intro v h
  cases v with
  | num v => rfl
  | text cs =>
    obtain ⟨_, h⟩ := h
    simp only [toDat, kqdOk, PyData.strOk, KStt.txt, List.all_toArray, List.all_map, List.all_eq_true, Function.comp_apply, decide_eq_true_eq]
    intro c hc
    have := h c hc
    omega
  | nums vs => simp [toDat, kqdOk]
theorem afterU {h₀ h h' : Heap} {L x : Addr} {m : Str → Option Value} {o o' : Obj} {news news' : List (Addr × Obj)} (F : Fr h₀ L h m) (N : News h₀ L h news) (k : Keep [x] h h') (e : h'.get? x = some o')
    (U : Upd x o o' news news') : Fr h₀ L h' m ∧ News h₀ L h' news' := by
  obtain ⟨pre, post, rfl, rfl, a, b⟩ := U.split
  have hx : (x, o) ∈ pre ++ (x, o) :: post := List.mem_append.mpr (.inr (.head _))
  refine ⟨Fr.keepBy F (onlyN N hx) k, fun p hp => ?_⟩
  rcases List.mem_append.mp hp with hp | hp
  · have := N p (List.mem_append.mpr (.inl hp))
    exact ⟨k _ _ (by simpa using a p hp) this.1, this.2⟩
  · rcases List.mem_cons.mp hp with rfl | hp
    · exact ⟨e, (N _ hx).2⟩
    · have := N p (List.mem_append.mpr (.inr (.tail _ hp)))
      exact ⟨k _ _ (by simpa using b p hp) this.1, this.2⟩
theorem led_off {ld lv lk lo x dx hand cells ch I : Addr} {D V K W H dct cs oc : Obj} {extra : List (Addr × Obj)} (h : ∀ p ∈ led ld lv lk lo x dx hand cells ch D V K W H dct cs oc extra, p.1 ≠ I) :
    (@Ne Nat ld I ∧ @Ne Nat lv I ∧ @Ne Nat lk I ∧ @Ne Nat lo I ∧ @Ne Nat x I ∧ @Ne Nat dx I ∧ @Ne Nat hand I ∧ @Ne Nat cells I ∧ @Ne Nat ch I) ∧ ∀ {l : List Addr}, OwnOff extra l → OwnOff extra (I :: l) := by
  refine ⟨⟨h _ (.head _), h _ (.tail _ (.head _)), h _ (.tail _ (.tail _ (.head _))), h _ (.tail _ (.tail _ (.tail _ (.head _)))), h _ (.tail _ (.tail _ (.tail _ (.tail _ (.head _))))), h _ (.tail _ (.tail _ (.tail _ (.tail _ (.tail _ (.head _)))))),
    h _ (.tail _ (.tail _ (.tail _ (.tail _ (.tail _ (.tail _ (.head _))))))), h _ (.tail _ (.tail _ (.tail _ (.tail _ (.tail _ (.tail _ (.tail _ (.head _)))))))), h _ (.tail _ (.tail _ (.tail _ (.tail _ (.tail _ (.tail _ (.tail _ (.tail _ (.head _)))))))))⟩, fun hl p hp b hb => ?_⟩
  rcases List.mem_cons.mp hb with rfl | hb
  case inr => exact hl p hp b hb
  exact h p (.tail _ (.tail _ (.tail _ (.tail _ (.tail _ (.tail _ (.tail _ (.tail _ (.tail _ hp)))))))))
theorem gr_len_le : ∀ (k n : Nat), n < 128 ^ (k + 1) → (gr n).length ≤ k + 1
  | 0, n, h => by
    rw [gr_small (by omega)]; exact Nat.le_refl _
  | k + 1, n, h => by
    by_cases q : 127 < n
    · rw [gr_big q, List.length_cons]
      exact Nat.succ_le_succ (gr_len_le k (n / 128) (by rw [Nat.div_lt_iff_lt_mul (by decide)]; exact h))
    · rw [gr_small q]; exact Nat.succ_le_succ (Nat.zero_le _)
theorem fig_len {d : Int} (h0 : -(2 ^ 200) < d) (h1 : d < 2 ^ 200) : (gr (zig d)).length ≤ 29 := by
  refine gr_len_le 28 _ (Nat.lt_of_lt_of_le (m := 2 ^ 202) ?_ (by decide))
  unfold zig; split <;> omega
theorem sub3 {h₀ h : Heap} {L : Addr} {news : List (Addr × Obj)} {a b c : Addr × Obj} (N : News h₀ L h news) (h1 : a ∈ news) (h2 : b ∈ news) (h3 : c ∈ news) : News h₀ L h [a, b, c] := fun p hp => by
  simp only [List.mem_cons, List.not_mem_nil, or_false] at hp
  rcases hp with rfl | rfl | rfl
  · exact N _ h1
  · exact N _ h2
  · exact N _ h3
/-- a new object goes onto the ledger -/
theorem afterNew {h₀ h h' : Heap} {L l : Addr} {m : Str → Option Value} {o : Obj} {news : List (Addr × Obj)} (F : Fr h₀ L h m) (N : News h₀ L h news) (k : Keep [] h h') (e : h'.get? l = some o) (nl : h.get? l = none) :
    Fr h₀ L h' m ∧ News h₀ L h' ((l, o) :: news) ∧ ∀ p ∈ news, p.1 ≠ l := by
  obtain ⟨F', N'⟩ := afterAll F N k
  obtain ⟨oL, es, ep, hL, r⟩ := id F.ns
  have off : ∀ p ∈ news, p.1 ≠ l := fun p hp q => by
    have := (N p hp).1
    rw [q, nl] at this; cases this
  refine ⟨F', fun p hp => ?_, off⟩
  rcases List.mem_cons.mp hp with rfl | hp
  · refine ⟨e, fun q => ?_, ?_⟩
    · dsimp only at q
      rw [q, hL] at nl; cases nl
    · cases q : h₀.get? l with
      | none => rfl
      | some o' => rw [F.keep _ _ q] at nl; cases nl
  · exact N' p hp
theorem ldnX {M : Model} {A : Around} {E : Value → Shared → Prop} {s : Shared} {h₀ : Heap} {L a : Addr} {m : Str → Option Value} {name : Str} {scope : Scope} {cd : Value} {cl : List (Str × Addr)} {x : Str} {v : Value} {Q : Value → Shared → Prop} (F : Fr h₀ L s.heap m) (hv : m x = some v) (h : Q v s)
    (hk : scope.kind = .function := by rfl) (hl : (envX name scope L a cd cl).kindOf x = some .local := by rfl) :
    wpAny M A (loadName (envX name scope L a cd cl) x) Q E s := wpAny_loadName_local hk hl F.ns hv h
theorem lm_due (u1 u2 u3 u4 : Option Value) (ld lv lk x cells : Addr) (mr : Str → Option Value) : (fun y => if y = Str.ofString "due" then some (.ref ld) else lm u1 u2 u3 u4 ld lv lk x cells mr y) = lm u1 u2 u3 u4 ld lv lk x cells mr := by
  funext y
  by_cases h : y = Str.ofString "due"
  · subst h; with_unfolding_all rfl
  · rw [if_neg h]
theorem lm_value (u1 u2 u3 u4 v : Option Value) (ld lv lk x cells : Addr) (mr : Str → Option Value) : (fun y => if y = Str.ofString "value" then v else lm u1 u2 u3 u4 ld lv lk x cells mr y) = lm v u2 u3 u4 ld lv lk x cells mr := by
  funext y
  by_cases h : y = Str.ofString "value"
  · subst h; with_unfolding_all rfl
  · rw [if_neg h]; simp only [lm, if_neg h]
theorem lm_char (u1 u2 u3 u4 v : Option Value) (ld lv lk x cells : Addr) (mr : Str → Option Value) : (fun y => if y = Str.ofString "char" then v else lm u1 u2 u3 u4 ld lv lk x cells mr y) = lm u1 v u3 u4 ld lv lk x cells mr := by
  funext y
  by_cases h : y = Str.ofString "char"
  · subst h; with_unfolding_all rfl
  · rw [if_neg h]; simp only [lm, if_neg h]
theorem lm_kind (u1 u2 u3 u4 v : Option Value) (ld lv lk x cells : Addr) (mr : Str → Option Value) : (fun y => if y = Str.ofString "kind" then v else lm u1 u2 u3 u4 ld lv lk x cells mr y) = lm u1 u2 v u4 ld lv lk x cells mr := by
  funext y
  by_cases h : y = Str.ofString "kind"
  · subst h; with_unfolding_all rfl
  · rw [if_neg h]; simp only [lm, if_neg h]
theorem lm_turn (u1 u2 u3 u4 v : Option Value) (ld lv lk x cells : Addr) (mr : Str → Option Value) : (fun y => if y = Str.ofString "_" then v else lm u1 u2 u3 u4 ld lv lk x cells mr y) = lm u1 u2 u3 v ld lv lk x cells mr := by
  funext y
  by_cases h : y = Str.ofString "_"
  · subst h; with_unfolding_all rfl
  · rw [if_neg h]; simp only [lm, if_neg h]
theorem push_list (vs : List Value) (v : Value) (n : Nat) : W.listOf (vs.toArray.push v) n = W.listOf (vs ++ [v]).toArray n := by rw [List.push_toArray]
theorem last_item {prog : Program} {w : World} {A : Around} {E : Value → Shared → Prop} {s : Shared} {h₀ : Heap} {L l : Addr} {news : List (Addr × Obj)} {vs : List Value} {v : Value} {n : Nat} {value slice : Expr} {t : Tok} {Q : Value → Shared → Prop} (N : News h₀ L s.heap news)
    (hm : (l, listOf (vs.toArray.push v) n) ∈ news) (h : Q v s) (hs : subscripted slice false (.ref l) (.int (-1) t) = operate [.ref l, .int (-1) t] (getItem (.ref l) (.int (-1) t)) := by with_unfolding_all rfl) :
    wpAny (model prog w) A (subscriptTail value slice (.ref l) (.int (-1) t)) Q E s := by
  have hl : s.heap.IsList l (vs.toArray.push v) := ⟨_, (N _ hm).1, rfl, n, rfl⟩
  refine tail_any hl.typeIs slot_list_getitem.lookup (wpAny_getItem_list_neg (x := v) hl (by decide) ?_ (by decide) ?_ h) hs
  · rw [Array.size_push]; omega
  · rw [Array.size_push, show ((-1 : Int) + ((vs.toArray.size + 1 : Nat) : Int)).toNat = vs.toArray.size from by omega, Array.getElem?_push_size]
theorem led_ne {ld lv lk lo x dx hand cells ch I : Addr} {D V K W H dct cs oc : Obj} {extra : List (Addr × Obj)} (a : @Ne Nat ld I ∧ @Ne Nat lv I ∧ @Ne Nat lk I ∧ @Ne Nat lo I ∧ @Ne Nat x I ∧ @Ne Nat dx I ∧ @Ne Nat hand I ∧ @Ne Nat cells I ∧ @Ne Nat ch I) (b : ∀ p ∈ extra, p.1 ≠ I) :
    ∀ p ∈ led ld lv lk lo x dx hand cells ch D V K W H dct cs oc extra, p.1 ≠ I := by
  obtain ⟨a1, a2, a3, a4, a5, a6, a7, a8, a9⟩ := a
  intro p hp
  simp only [List.mem_cons] at hp
  rcases hp with rfl | rfl | rfl | rfl | rfl | rfl | rfl | rfl | rfl | hp
  · exact a1
  · exact a2
  · exact a3
  · exact a4
  · exact a5
  · exact a6
  · exact a7
  · exact a8
  · exact a9
  · exact b p hp
theorem led_same {i : Addr × Obj} {ld lv lk lo x dx hand cells ch I : Addr} {D V K W H D' V' K' W' H' dct cs oc : Obj} {extra : List (Addr × Obj)} (h : ∀ p ∈ i :: led ld lv lk lo x dx hand cells ch D V K W H dct cs oc extra, p.1 ≠ I) : ∀ p ∈ i :: led ld lv lk lo x dx hand cells ch D' V' K' W' H' dct cs oc extra, p.1 ≠ I := by
  intro p hp
  rcases List.mem_cons.mp hp with rfl | hp
  · exact h _ (.head _)
  · exact led_ne (led_off fun p hp => h p (.tail _ hp)).1 (fun p hp => h p (.tail _ (.tail _ (.tail _ (.tail _ (.tail _ (.tail _ (.tail _ (.tail _ (.tail _ (.tail _ hp))))))))))) p hp
theorem off_cons {a : Addr × Obj} {l : Addr} {r : List (Addr × Obj)} (h1 : @Ne Nat a.1 l) (h : ∀ p ∈ r, p.1 ≠ l) : ∀ p ∈ a :: r, p.1 ≠ l := by
  intro p hp
  rcases List.mem_cons.mp hp with rfl | hp
  · exact h1
  · exact h p hp
theorem upd_hand {ld lv lk lo x dx hand cells ch : Addr} {D V K W H H' dct cs oc : Obj} {extra : List (Addr × Obj)} (O : Order ld lv lk lo x dx hand cells ch) (h : ∀ p ∈ extra, p.1 ≠ hand) :
    Upd hand H H' (led ld lv lk lo x dx hand cells ch D V K W H dct cs oc extra) (led ld lv lk lo x dx hand cells ch D V K W H' dct cs oc extra) := by
  exact .tail (Nat.ne_of_gt (Nat.lt_trans (Nat.lt_trans (Nat.lt_trans (Nat.lt_trans (Nat.lt_trans O.q4 O.q5) O.q6) O.q7) O.q8) O.q9)) (.tail (Nat.ne_of_gt (Nat.lt_trans (Nat.lt_trans (Nat.lt_trans (Nat.lt_trans O.q4 O.q5) O.q6) O.q7) O.q8)) (.tail (Nat.ne_of_gt (Nat.lt_trans (Nat.lt_trans (Nat.lt_trans O.q4 O.q5) O.q6) O.q7)) (.tail (Nat.ne_of_gt (Nat.lt_trans (Nat.lt_trans O.q4 O.q5) O.q6)) (.tail (Nat.ne_of_gt (Nat.lt_trans O.q4 O.q5)) (.tail (Nat.ne_of_gt O.q4) (.head (off_cons (Nat.ne_of_lt O.q3) (off_cons (Nat.ne_of_lt (Nat.lt_trans O.q2 O.q3)) h))))))))
theorem upd_lo {ld lv lk lo x dx hand cells ch : Addr} {D V K W H W' dct cs oc : Obj} {extra : List (Addr × Obj)} (O : Order ld lv lk lo x dx hand cells ch) (h : ∀ p ∈ extra, p.1 ≠ lo) :
    Upd lo W W' (led ld lv lk lo x dx hand cells ch D V K W H dct cs oc extra) (led ld lv lk lo x dx hand cells ch D V K W' H dct cs oc extra) := by
  exact .tail (Nat.ne_of_gt (Nat.lt_trans (Nat.lt_trans O.q7 O.q8) O.q9)) (.tail (Nat.ne_of_gt (Nat.lt_trans O.q7 O.q8)) (.tail (Nat.ne_of_gt O.q7) (.head (off_cons (Nat.ne_of_lt O.q6) (off_cons (Nat.ne_of_lt (Nat.lt_trans O.q5 O.q6)) (off_cons (Nat.ne_of_lt (Nat.lt_trans (Nat.lt_trans O.q4 O.q5) O.q6)) (off_cons (Nat.ne_of_lt (Nat.lt_trans (Nat.lt_trans (Nat.lt_trans O.q3 O.q4) O.q5) O.q6)) (off_cons (Nat.ne_of_lt (Nat.lt_trans (Nat.lt_trans (Nat.lt_trans (Nat.lt_trans O.q2 O.q3) O.q4) O.q5) O.q6)) h))))))))
theorem upd_val {ld lv lk lo x dx hand cells ch : Addr} {D V K W H V' dct cs oc : Obj} {extra : List (Addr × Obj)} (O : Order ld lv lk lo x dx hand cells ch) (h : ∀ p ∈ extra, p.1 ≠ lv) :
    Upd lv V V' (led ld lv lk lo x dx hand cells ch D V K W H dct cs oc extra) (led ld lv lk lo x dx hand cells ch D V' K W H dct cs oc extra) := by
  exact .tail (Nat.ne_of_gt O.q9) (.head (off_cons (Nat.ne_of_lt O.q8) (off_cons (Nat.ne_of_lt (Nat.lt_trans O.q7 O.q8)) (off_cons (Nat.ne_of_lt (Nat.lt_trans (Nat.lt_trans O.q6 O.q7) O.q8)) (off_cons (Nat.ne_of_lt (Nat.lt_trans (Nat.lt_trans (Nat.lt_trans O.q5 O.q6) O.q7) O.q8)) (off_cons (Nat.ne_of_lt (Nat.lt_trans (Nat.lt_trans (Nat.lt_trans (Nat.lt_trans O.q4 O.q5) O.q6) O.q7) O.q8)) (off_cons (Nat.ne_of_lt (Nat.lt_trans (Nat.lt_trans (Nat.lt_trans (Nat.lt_trans (Nat.lt_trans O.q3 O.q4) O.q5) O.q6) O.q7) O.q8)) (off_cons (Nat.ne_of_lt (Nat.lt_trans (Nat.lt_trans (Nat.lt_trans (Nat.lt_trans (Nat.lt_trans (Nat.lt_trans O.q2 O.q3) O.q4) O.q5) O.q6) O.q7) O.q8)) h))))))))
theorem upd_kinds {ld lv lk lo x dx hand cells ch : Addr} {D V K W H K' dct cs oc : Obj} {extra : List (Addr × Obj)} (O : Order ld lv lk lo x dx hand cells ch) (h : ∀ p ∈ extra, p.1 ≠ lk) :
    Upd lk K K' (led ld lv lk lo x dx hand cells ch D V K W H dct cs oc extra) (led ld lv lk lo x dx hand cells ch D V K' W H dct cs oc extra) := by
  exact .tail (Nat.ne_of_gt (Nat.lt_trans O.q8 O.q9)) (.tail (Nat.ne_of_gt O.q8) (.head (off_cons (Nat.ne_of_lt O.q7) (off_cons (Nat.ne_of_lt (Nat.lt_trans O.q6 O.q7)) (off_cons (Nat.ne_of_lt (Nat.lt_trans (Nat.lt_trans O.q5 O.q6) O.q7)) (off_cons (Nat.ne_of_lt (Nat.lt_trans (Nat.lt_trans (Nat.lt_trans O.q4 O.q5) O.q6) O.q7)) (off_cons (Nat.ne_of_lt (Nat.lt_trans (Nat.lt_trans (Nat.lt_trans (Nat.lt_trans O.q3 O.q4) O.q5) O.q6) O.q7)) (off_cons (Nat.ne_of_lt (Nat.lt_trans (Nat.lt_trans (Nat.lt_trans (Nat.lt_trans (Nat.lt_trans O.q2 O.q3) O.q4) O.q5) O.q6) O.q7)) h))))))))
theorem upd_due' {ld lv lk lo x dx hand cells ch : Addr} {D V K W H D' dct cs oc : Obj} {extra : List (Addr × Obj)} (O : Order ld lv lk lo x dx hand cells ch) (h : ∀ p ∈ extra, p.1 ≠ ld) :
    Upd ld D D' (led ld lv lk lo x dx hand cells ch D V K W H dct cs oc extra) (led ld lv lk lo x dx hand cells ch D' V K W H dct cs oc extra) := by
  exact .head (off_cons (Nat.ne_of_lt O.q9) (off_cons (Nat.ne_of_lt (Nat.lt_trans O.q8 O.q9)) (off_cons (Nat.ne_of_lt (Nat.lt_trans (Nat.lt_trans O.q7 O.q8) O.q9)) (off_cons (Nat.ne_of_lt (Nat.lt_trans (Nat.lt_trans (Nat.lt_trans O.q6 O.q7) O.q8) O.q9)) (off_cons (Nat.ne_of_lt (Nat.lt_trans (Nat.lt_trans (Nat.lt_trans (Nat.lt_trans O.q5 O.q6) O.q7) O.q8) O.q9)) (off_cons (Nat.ne_of_lt (Nat.lt_trans (Nat.lt_trans (Nat.lt_trans (Nat.lt_trans (Nat.lt_trans O.q4 O.q5) O.q6) O.q7) O.q8) O.q9)) (off_cons (Nat.ne_of_lt (Nat.lt_trans (Nat.lt_trans (Nat.lt_trans (Nat.lt_trans (Nat.lt_trans (Nat.lt_trans O.q3 O.q4) O.q5) O.q6) O.q7) O.q8) O.q9)) (off_cons (Nat.ne_of_lt (Nat.lt_trans (Nat.lt_trans (Nat.lt_trans (Nat.lt_trans (Nat.lt_trans (Nat.lt_trans (Nat.lt_trans O.q2 O.q3) O.q4) O.q5) O.q6) O.q7) O.q8) O.q9)) h))))))))
theorem upd_due {ld lv lk lo x dx hand cells ch : Addr} {D V K W H dct cs oc : Obj} {extra : List (Addr × Obj)} (O : Order ld lv lk lo x dx hand cells ch) (h : ∀ p ∈ extra, p.1 ≠ ld) :
    UpdF ld D (led ld lv lk lo x dx hand cells ch D V K W H dct cs oc extra) (fun D' => led ld lv lk lo x dx hand cells ch D' V K W H dct cs oc extra) := by
  exact .head (off_cons (Nat.ne_of_lt O.q9) (off_cons (Nat.ne_of_lt (Nat.lt_trans O.q8 O.q9)) (off_cons (Nat.ne_of_lt (Nat.lt_trans (Nat.lt_trans O.q7 O.q8) O.q9)) (off_cons (Nat.ne_of_lt (Nat.lt_trans (Nat.lt_trans (Nat.lt_trans O.q6 O.q7) O.q8) O.q9)) (off_cons (Nat.ne_of_lt (Nat.lt_trans (Nat.lt_trans (Nat.lt_trans (Nat.lt_trans O.q5 O.q6) O.q7) O.q8) O.q9)) (off_cons (Nat.ne_of_lt (Nat.lt_trans (Nat.lt_trans (Nat.lt_trans (Nat.lt_trans (Nat.lt_trans O.q4 O.q5) O.q6) O.q7) O.q8) O.q9)) (off_cons (Nat.ne_of_lt (Nat.lt_trans (Nat.lt_trans (Nat.lt_trans (Nat.lt_trans (Nat.lt_trans (Nat.lt_trans O.q3 O.q4) O.q5) O.q6) O.q7) O.q8) O.q9)) (off_cons (Nat.ne_of_lt (Nat.lt_trans (Nat.lt_trans (Nat.lt_trans (Nat.lt_trans (Nat.lt_trans (Nat.lt_trans (Nat.lt_trans O.q2 O.q3) O.q4) O.q5) O.q6) O.q7) O.q8) O.q9)) h))))))))
theorem append_N {prog : Program} {w : World} {A : Around} {E Q : Value → Shared → Prop} {s : Shared} {h₀ : Heap} {L l : Addr} {m : Str → Option Value} {news news' : List (Addr × Obj)} {vs : List Value} {n : Nat} {v : Value} (F : Fr h₀ L s.heap m) (N : News h₀ L s.heap news)
    (U : Upd l (listOf vs.toArray n) (listOf (vs.toArray.push v) (n + 1)) news news') (hz : vs.length ≤ 100000) (h : ∀ h', Fr h₀ L h' m → News h₀ L h' news' → Q .none { s with heap := h' }) :
    wpAny (model prog w) A (call (.builtin "list.append") [.ref l, v]) Q E s := by
  obtain ⟨pre, post, rfl, rfl, a, b⟩ := U.split
  have hl := N (l, _) (List.mem_append.mpr (.inr (.head _)))
  dsimp only at hl
  refine append_at (hsz := by rw [List.size_toArray, sizeLine_eq]; omega) hl.1 fun h4 hs4 e4 => ?_
  have U' : Upd l (listOf vs.toArray n) (listOf (vs.toArray.push v) (n + 1)) (pre ++ (l, listOf vs.toArray n) :: post) (pre ++ (l, listOf (vs.toArray.push v) (n + 1)) :: post) := U
  obtain ⟨F4, N4⟩ := afterU F N (fun b o hb q => (hs4.2 b (by simpa using hb)).trans q) e4 U'
  exact h h4 F4 N4
theorem room_le {dp a b R : Nat} (h : dp + a < R) (hb : b ≤ a) : dp + b < R := Nat.lt_of_le_of_lt (Nat.add_le_add_left hb dp) h
theorem cellsN {h₀ h : Heap} {L cells : Addr} {news : List (Addr × Obj)} {cvs : List Value} {ns : List Int} (N : News h₀ L h news) (hm : (cells, listOf cvs.toArray 0) ∈ news) (hns : IntsAre cvs ns) (hnl : ns.length ≤ 63) : CellsAt h cells ns :=
  ⟨cvs, ⟨_, (N _ hm).1, rfl, 0, rfl⟩, hns, hnl⟩
end Mine

open PySem PySem.W PyProof.Rows PySem.Calls
set_option Elab.async false
set_option maxRecDepth 100000
set_option maxHeartbeats 8000000
namespace Mine
example : (Mine.hd.heap_39 = Mine.hd.heap_39) ∧ PySem.Challenge.rw_nu0313_01 = PySem.Challenge.rw_nu0313_01 := by w_top off; k_fill; exact ⟨rfl, rfl⟩

section
local macro_rules | `(tactic| walk_at $k:str) => if ["exec While Compare cons nil", "call ref", "exec For", "exec For Name Call cons nil", "exec For Name Name cons nil", "exec For Name Subscript cons nil"].contains k.getString then `(tactic| with_reducible refine halt ?_) else Lean.Macro.throwUnsupported
theorem wbyte_ok {prog : Program} {w : World} {p : Program} {loose : List Str} {mean : ExcName → Option Value} {mg mb : Str → Option Value}
    {dp un : Nat} {gd : Option (List Code)} {cn : Str} {cs : Scope} {a : Addr} {ccd : Value} {cl : List (Str × Addr)} {outer : List Env} {A₀ : Around} {base h₀ : Heap} {L : Addr} {m : Str → Option Value} {s : Shared} {Q E : Value → Shared → Prop}
    {x dx l : Addr} {hs : Int} {tn : Tok} {k : Nat} {o : Obj} {acc : List Int} {v : Int} {tv : Tok}
    (B : Below A₀ base outer h₀) (F : Fr h₀ L s.heap m) (X : (hd.heap_39 w.params).In h₀) (T : Top p loose mean mg mb h₀) (hk : cs.kind = .function)
        (N : News h₀ L s.heap [(x, instObj 91 dx), (dx, dictOf [⟨hs, .str (Str.ofString "out") tn, .ref l⟩] k), (l, o)])
        (hroom : dp + 10 < recursionLimit) (hun : un + 10 * 10 < cLine)
    (hxd : x ≠ dx) (hxl : x ≠ l) (hdl : dx ≠ l) (ho : IL acc o) (hg : acc.length ≤ 100000)
    (ret : ∀ h' tk' o', IL (acc ++ [v]) o' → Keep [l] s.heap h' → h'.get? l = some o' → Q .none { s with heap := h', toks := tk' }) :
    wpAny (model prog w) (ktrTop dp un gd cn cs L a ccd cl outer) (call (.ref 67) [.ref x, .int v tv]) Q E s := by
  obtain ⟨vs0, ep0, rfl, hi0⟩ := ho
  have hvl : vs0.length ≤ 100000 := by rw [hi0.length]; exact hg
  refine wpAny_call ?_
  k_dflt (refine' enter_plain (binds := [(Str.ofString "self", .ref x), (Str.ofString "value", .int v tv)]) ?k1 ?k2 ?k3 ?k4 ?k5 ?kA ?kF ?kK ?k6 ?k7 ?k8 ?k9 ?kB ?_ ?c5 ?c2 ?c3 ?c4; (case kA => exact rfl); (case kF => exact rfl); (case kK => assumption); (case k1 => k_asm); (case k2 => k_asm); (case k3 => k_asm); (case k4 => k_asm); (case k5 => k_asm); (case k6 => k_is); (case k7 => k_is); (case k8 => first | exact room0 hroom | ktr_room); (case k9 => exact BindsTo.of_eq rfl); (case c5 => decide); (case kB => exact locs rfl); (case c2 => exact rfl); (case c3 => exact rfl); (case c4 => exact rfl); k_whole; intro g' L' h' F' N' B' X' T' up' dn' sz'; (try dsimp only); (try k_fold))
  k_with_none
  k_steps
  rename Fr _ _ _ _ => Fz
  rename News _ _ _ _ => Nz
  exact ret _ _ _ ⟨_, _, il_push, hi0.append (ints_one rfl)⟩ (keep3 (fun b o hb e => Fz.keep b o (up' b o hb e)) (N _ (.head _)).1 (Nz _ (.head _)).1 (N _ (.tail _ (.head _))).1 (Nz _ (.tail _ (.head _))).1) (Nz _ (.tail _ (.tail _ (.head _)))).1
end

end Mine

open PySem PySem.W PyProof.Rows PySem.Calls
set_option Elab.async false
set_option maxRecDepth 100000
set_option maxHeartbeats 8000000
namespace Mine
example : (Mine.hd.heap_39 = Mine.hd.heap_39) ∧ PySem.Challenge.rw_nu0313_01 = PySem.Challenge.rw_nu0313_01 := by w_top off; k_fill; exact ⟨rfl, rfl⟩
local macro_rules | `(tactic| walk_at "loadName") => `(tactic| (k_here; k_dflt (refine' ldnX ?k1 ?k2 ?_; (case k1 => k_asm); (case k2 => exact rfl); k_whole)))
local macro_rules | `(tactic| walk_at "subscriptTail Name UnaryOp ref int") => `(tactic| (k_here; (with_reducible show wpAny _ _ (subscriptTail _ _ (Value.ref _) (Value.int _ _)) _ _ _); (with_unfolding_all refine' last_item ?N ?m ?_ ?hs; (case N => k_asm); (case m => k_mem); (case hs => with_unfolding_all rfl); k_whole)))

section
local macro_rules | `(tactic| walk_at $k:str) => if ["exec While Compare cons nil", "call ref", "exec For", "exec For Name Call cons nil", "exec For Name Name cons nil", "exec For Name Subscript cons nil", "call builtin:list.append", "inplaceOp Add ref ref", "inplaceOp Add ref"].contains k.getString then `(tactic| with_reducible refine halt ?_) else Lean.Macro.throwUnsupported
theorem b0_ok {prog : Program} {w : World} {p : Program} {loose : List Str} {mean : ExcName → Option Value} {mg mb : Str → Option Value}
    {dp un : Nat} {gd : Option (List Code)} {a : Addr} {ccd : Value} {A₀ : Around} {h₀ : Heap} {L : Addr} {s : Shared} {Q : Flow → Shared → Prop} {E : Value → Shared → Prop}
    {ld lv lk lo x dx hand cells ch : Addr} {mr : Str → Option Value} {oc : Obj} {cvs : List Value} {ns : List Int} {hh : Int} {ht : Tok} {u1 u2 u4 : Option Value} {kt : Tok} {I : Addr} {oI D K W H : Obj} {vs : List Value} {n : Nat} {extra : List (Addr × Obj)} {acc : List Int} {ds : List Dat}
    (B : Below A₀ h₀ [] h₀) (X : (hd.heap_39 w.params).In h₀) (T : Top p loose mean mg mb h₀)
        (hroom : dp + 100 < recursionLimit) (hun : un + 1000 < cLine)
        (hdc : oc.data = .cell (some (.ref hand))) (O : Order ld lv lk lo x dx hand cells ch)
        (hns : IntsAre cvs ns) (hnl : ns.length ≤ 63)
    (F : Fr h₀ L s.heap (lm u1 u2 (some (.int 0 kt)) u4 ld lv lk x cells mr))
    (N : News h₀ L s.heap ((I, oI) :: led ld lv lk lo x dx hand cells ch D (listOf vs.toArray n) K W H (wdict hh ht lo) (listOf cvs.toArray 0) oc extra))
    (hI : ∀ p ∈ led ld lv lk lo x dx hand cells ch D (listOf vs.toArray n) K W H (wdict hh ht lo) (listOf cvs.toArray 0) oc extra, p.1 ≠ I) (hex : OwnOff extra [ld, lv, lk, lo, x, dx, hand, cells, ch])
    (hD : IL acc D) (hW : IL acc W) (hH : HandO cells ns.length 0 H) (hda : DatAll extra vs ds) (hal : acc.length ≤ 1000) (hvl : vs.length ≤ 10)
    (next : ∀ h' tk' u1 u2 u3 u4 vs' n' D' W' H' extra' v, Fr h₀ L h' (lm u1 u2 u3 u4 ld lv lk x cells mr) → News h₀ L h' ((I, oI) :: led ld lv lk lo x dx hand cells ch D' (listOf vs'.toArray n') K W' H' (wdict hh ht lo) (listOf cvs.toArray 0) oc extra') →
      (∀ p ∈ extra', p.1 ≠ I) → OwnOff extra' [ld, lv, lk, lo, x, dx, hand, cells, ch] → IL (acc ++ enc v 0) D' → IL (acc ++ enc v 0) W' → HandO cells ns.length 0 H' → DatAll extra' vs' (ds ++ [toDat v]) → Good 0 v → (enc v 0).length ≤ 100 → 1 ≤ (enc v 0).length →
      Q .next { s with heap := h', toks := tk' }) :
    wpAny (model prog w) (ktrTop dp un gd (Str.ofString "law") lawRec.scope L a ccd [(Str.ofString "hand", ch)] []) (execs lawB0 (envX (Str.ofString "law") lawRec.scope L a ccd [(Str.ofString "hand", ch)])) Q E s := by
  dsimp only [lawB0, lawB1, lawB2, lawB3, lawIf, lawFor, lawTail, lawRec, behind6, behind1, headS, forBody, ifThen, ifElse]
  k_with_none
  have O' := O
  have hxd : x ≠ dx := Nat.ne_of_gt O.q5
  have hxl : x ≠ lo := Nat.ne_of_lt O.q6
  have hdl : dx ≠ lo := Nat.ne_of_lt (Nat.lt_trans O.q5 O.q6)
  obtain ⟨q2, q3, q4, q5, q6, q7, q8, q9⟩ := O
  obtain ⟨⟨nI1, nI2, nI3, nI4, nI5, nI6, nI7, nI8, nI9⟩, hexI⟩ := led_off hI
  replace hex := hexI hex
  clear hexI
  k_steps
  with_reducible refine Halt.go ?_
  rename Fr _ _ _ _ => Fa
  rename News _ _ _ _ => Na
  refine figure_ok B Fa X T rfl (onlyN Na (by k_mem)) (room_le hroom (by decide)) (room_le hun (by decide)) (cellsN Na (by k_mem) hns hnl) (Nat.ne_of_lt q3) hH fun d td h1 tk1 H1 hd0 hd1 hH1 k1 e1 => ?_
  obtain ⟨Fb, Nb⟩ := afterU Fa Na k1 e1 (.tail (Ne.symm nI7) (upd_hand O' (hex.ne (by k_mem))))
  clear Fa Na hH
  have hg := fig_len hd0 hd1
  k_steps
  with_reducible refine Halt.go ?_
  rename Fr _ _ _ _ => Fa
  rename News _ _ _ _ => Na
  refine append_N Fa Na (.tail (Ne.symm nI2) (upd_val O' (hex.ne (by k_mem)))) (Nat.le_trans hvl (by decide)) fun hA Fb Nb => ?_
  clear Fa Na
  k_steps
  with_reducible refine Halt.go ?_
  rename Fr _ _ _ _ => Fa
  rename News _ _ _ _ => Na
  refine wnumber_ok B Fa X T rfl (sub3 Na (by k_mem) (by k_mem) (by k_mem)) (room_le hroom (by decide)) (room_le hun (by decide)) hxd hxl hdl hW (lw1 hal (Nat.le_trans hg (by decide))) fun h2 tk2 W2 hW2 k2 e2 => ?_
  obtain ⟨Fb, Nb⟩ := afterU Fa Na k2 e2 (.tail (Ne.symm nI4) (upd_lo O' (hex.ne (by k_mem))))
  clear Fa Na hW
  k_steps
  with_reducible refine Halt.go ?_
  rename Fr _ _ _ _ => Fa
  rename News _ _ _ _ => Na
  refine groups_ok B Fa X T rfl (fun _ h => nomatch h) (room_le hroom (by decide)) (room_le hun (by decide)) (by first | exact Nat.le_trans hg (by decide) | exact Nat.le_trans g1 (by decide) | omega) fun l3 h3 tk3 o3 ho3 k3 e3 nl3 => ?_
  obtain ⟨Fb, Nb, off3⟩ := afterNew Fa Na k3 e3 nl3
  clear Fa Na
  have m1 : @Ne Nat ld l3 := off3 _ (.tail _ (.head _))
  clear off3 k3 e3 nl3
  k_steps
  with_reducible refine Halt.go ?_
  refine iadd_N Fb Nb (.tail (Ne.symm m1) (.tail (Ne.symm nI1) (upd_due O' (hex.ne (by k_mem))))) (by k_mem) hD ho3 (by first | exact lw1 hal (Nat.le_trans hg (by decide)) | exact lw1 hal (Nat.le_trans g1 (by decide)) | omega | (simp only [List.length_append]; omega)) fun h4 D4 hD4 Fc Nc => ?_
  clear Fb Nb hD m1 ho3
  k_steps
  rename Fr _ _ _ _ => Fz
  rename News _ _ _ _ => Nz
  rw [lm_due] at Fz
  rw [push_list] at Nz
  refine next _ _ _ _ _ _ _ _ D4 W2 H1 extra (.num d) Fz (fun p hp => Nz p (.tail _ hp)) (fun p hp => hI p (.tail _ (.tail _ (.tail _ (.tail _ (.tail _ (.tail _ (.tail _ (.tail _ (.tail _ hp)))))))))) (fun p hp b hb => hex p hp b (.tail _ hb)) hD4 hW2 hH1 (hda.append (.one (.int d _))) (.inl rfl) (Nat.le_trans hg (by decide)) (gr_len_pos _)
end

section
example : (Mine.hd.heap_39 = Mine.hd.heap_39) ∧ PySem.Challenge.rw_nu0313_01 = PySem.Challenge.rw_nu0313_01 := by w_top off; k_fill; exact ⟨rfl, rfl⟩
local macro_rules | `(tactic| walk_at $k:str) => if ["exec While Compare cons nil", "call ref", "exec For", "exec For Name Call cons nil", "exec For Name Name cons nil", "exec For Name Subscript cons nil", "call builtin:list.append", "inplaceOp Add ref ref", "inplaceOp Add ref"].contains k.getString then `(tactic| with_reducible refine halt ?_) else Lean.Macro.throwUnsupported
theorem b3_ok {prog : Program} {w : World} {p : Program} {loose : List Str} {mean : ExcName → Option Value} {mg mb : Str → Option Value}
    {dp un : Nat} {gd : Option (List Code)} {a : Addr} {ccd : Value} {A₀ : Around} {h₀ : Heap} {L : Addr} {s : Shared} {Q : Flow → Shared → Prop} {E : Value → Shared → Prop}
    {ld lv lk lo x dx hand cells ch : Addr} {mr : Str → Option Value} {oc : Obj} {cvs : List Value} {ns : List Int} {hh : Int} {ht : Tok} {u1 u2 u4 : Option Value} {kt : Tok} {I : Addr} {oI D K W H : Obj} {vs : List Value} {n : Nat} {extra : List (Addr × Obj)} {acc : List Int} {ds : List Dat}
    (B : Below A₀ h₀ [] h₀) (X : (hd.heap_39 w.params).In h₀) (T : Top p loose mean mg mb h₀)
        (hroom : dp + 100 < recursionLimit) (hun : un + 1000 < cLine)
        (hdc : oc.data = .cell (some (.ref hand))) (O : Order ld lv lk lo x dx hand cells ch)
        (hns : IntsAre cvs ns) (hnl : ns.length ≤ 63)
    (F : Fr h₀ L s.heap (lm u1 u2 (some (.int 3 kt)) u4 ld lv lk x cells mr))
    (N : News h₀ L s.heap ((I, oI) :: led ld lv lk lo x dx hand cells ch D (listOf vs.toArray n) K W H (wdict hh ht lo) (listOf cvs.toArray 0) oc extra))
    (hI : ∀ p ∈ led ld lv lk lo x dx hand cells ch D (listOf vs.toArray n) K W H (wdict hh ht lo) (listOf cvs.toArray 0) oc extra, p.1 ≠ I) (hex : OwnOff extra [ld, lv, lk, lo, x, dx, hand, cells, ch])
    (hD : IL acc D) (hW : IL acc W) (hH : HandO cells ns.length 0 H) (hda : DatAll extra vs ds) (hal : acc.length ≤ 1000) (hvl : vs.length ≤ 10)
    (next : ∀ h' tk' u1 u2 u3 u4 vs' n' D' W' H' extra' v, Fr h₀ L h' (lm u1 u2 u3 u4 ld lv lk x cells mr) → News h₀ L h' ((I, oI) :: led ld lv lk lo x dx hand cells ch D' (listOf vs'.toArray n') K W' H' (wdict hh ht lo) (listOf cvs.toArray 0) oc extra') →
      (∀ p ∈ extra', p.1 ≠ I) → OwnOff extra' [ld, lv, lk, lo, x, dx, hand, cells, ch] → IL (acc ++ enc v 3) D' → IL (acc ++ enc v 3) W' → HandO cells ns.length 0 H' → DatAll extra' vs' (ds ++ [toDat v]) → Good 3 v → (enc v 3).length ≤ 100 → 1 ≤ (enc v 3).length →
      Q .next { s with heap := h', toks := tk' }) :
    wpAny (model prog w) (ktrTop dp un gd (Str.ofString "law") lawRec.scope L a ccd [(Str.ofString "hand", ch)] []) (execs lawB3 (envX (Str.ofString "law") lawRec.scope L a ccd [(Str.ofString "hand", ch)])) Q E s := by
  dsimp only [lawB0, lawB1, lawB2, lawB3, lawIf, lawFor, lawTail, lawRec, behind6, behind1, headS, forBody, ifThen, ifElse]
  k_with_none
  have O' := O
  have hxd : x ≠ dx := Nat.ne_of_gt O.q5
  have hxl : x ≠ lo := Nat.ne_of_lt O.q6
  have hdl : dx ≠ lo := Nat.ne_of_lt (Nat.lt_trans O.q5 O.q6)
  obtain ⟨q2, q3, q4, q5, q6, q7, q8, q9⟩ := O
  obtain ⟨⟨nI1, nI2, nI3, nI4, nI5, nI6, nI7, nI8, nI9⟩, hexI⟩ := led_off hI
  replace hex := hexI hex
  clear hexI
  k_steps
  with_reducible refine Halt.go ?_
  rename Fr _ _ _ _ => Fa
  rename News _ _ _ _ => Na
  refine pick_ok B Fa X T rfl (onlyN Na (by k_mem)) (room_le hroom (by decide)) (room_le hun (by decide)) (cellsN Na (by k_mem) hns hnl) (Nat.ne_of_lt q3) hH (by decide) (by decide +kernel) fun d td h1 tk1 H1 hd0 hd1 hH1 k1 e1 => ?_
  obtain ⟨Fb, Nb⟩ := afterU Fa Na k1 e1 (.tail (Ne.symm nI7) (upd_hand O' (hex.ne (by k_mem))))
  clear Fa Na hH
  k_steps
  with_reducible refine Halt.go ?_
  rename Fr _ _ _ _ => Fa
  rename News _ _ _ _ => Na
  refine append_N Fa Na (.tail (Ne.symm nI2) (upd_val O' (hex.ne (by k_mem)))) (Nat.le_trans hvl (by decide)) fun hA Fb Nb => ?_
  clear Fa Na
  k_steps
  with_reducible refine Halt.go ?_
  rename Fr _ _ _ _ => Fa
  rename News _ _ _ _ => Na
  refine wbyte_ok B Fa X T rfl (sub3 Na (by k_mem) (by k_mem) (by k_mem)) (room_le hroom (by decide)) (room_le hun (by decide)) hxd hxl hdl hW (by omega) fun h2 tk2 W2 hW2 k2 e2 => ?_
  obtain ⟨Fb, Nb⟩ := afterU Fa Na k2 e2 (.tail (Ne.symm nI4) (upd_lo O' (hex.ne (by k_mem))))
  clear Fa Na hW
  obtain ⟨dvs, dn, rfl, hdi⟩ := hD
  have hdl : dvs.length ≤ 1000 := by rw [hdi.length]; exact hal
  k_steps
  with_reducible refine Halt.go ?_
  rename Fr _ _ _ _ => Fa
  rename News _ _ _ _ => Na
  refine append_N Fa Na (.tail (Ne.symm nI1) (upd_due' O' (hex.ne (by k_mem)))) (Nat.le_trans hdl (by decide)) fun hA Fb Nb => ?_
  clear Fa Na
  k_steps
  rename Fr _ _ _ _ => Fz
  rename News _ _ _ _ => Nz
  rw [push_list vs] at Nz
  refine next _ _ _ _ _ _ _ _ _ W2 H1 extra (.num d) Fz Nz (fun p hp => hI p (.tail _ (.tail _ (.tail _ (.tail _ (.tail _ (.tail _ (.tail _ (.tail _ (.tail _ hp)))))))))) (fun p hp b hb => hex p hp b (.tail _ hb)) ⟨_, _, il_push, hdi.append (ints_one rfl)⟩ hW2 hH1 (hda.append (.one (.int d _))) (.inr ⟨rfl, hd0, by omega⟩) (show (1 : Nat) ≤ 100 by decide) (Nat.le_refl 1)
end

section
example : (Mine.hd.heap_39 = Mine.hd.heap_39) ∧ PySem.Challenge.rw_nu0313_01 = PySem.Challenge.rw_nu0313_01 := by w_top off; k_fill; exact ⟨rfl, rfl⟩
local macro_rules | `(tactic| walk_at $k:str) => if ["exec While Compare cons nil", "call ref", "exec For", "exec For Name Call cons nil", "exec For Name Name cons nil", "exec For Name Subscript cons nil", "call builtin:list.append", "inplaceOp Add ref ref", "inplaceOp Add ref"].contains k.getString then `(tactic| with_reducible refine halt ?_) else Lean.Macro.throwUnsupported
theorem codes_txt {cs : List Int} (h : ∀ c ∈ cs, 0 ≤ c) : KStt.codes (KStt.txt cs) = cs := by
  unfold KStt.codes KStt.txt
  rw [List.toList_toArray, List.map_map]
  conv => rhs; rw [← List.map_id cs]
  refine List.map_congr_left fun c hc => ?_
  have := h c hc
  show ((c.toNat : Nat) : Int) = c
  omega
theorem sign_range {c : Int} (h : c ∈ signs) : 0 ≤ c ∧ c ≤ 1114111 := by
  simp only [signs, List.mem_cons, List.not_mem_nil, or_false] at h
  omega
theorem grs_len_le {k : Nat} : ∀ vs : List Int, (∀ v ∈ vs, (gr (zig v)).length ≤ k) → (grs vs).length ≤ k * vs.length
  | [], _ => by simp [grs]
  | v :: vs, h => by
    rw [grs_cons, List.length_append, List.length_cons, Nat.mul_succ]
    have := h v (.head _)
    have := grs_len_le vs fun u hu => h u (.tail _ hu)
    omega
theorem sign_len {c : Int} (h : 0 ≤ c ∧ c ≤ 1114111) : (gr (zig c)).length ≤ 4 := by
  refine gr_len_le 3 _ (Nat.lt_of_lt_of_le (m := 2228223) ?_ (by decide))
  unfold zig; split <;> omega
theorem count_len {n : Nat} (h : n ≤ 3) : (gr (zig (n : Int))).length ≤ 1 := by
  refine gr_len_le 0 _ ?_
  unfold zig; split <;> omega
theorem b1_ok {prog : Program} {w : World} {p : Program} {loose : List Str} {mean : ExcName → Option Value} {mg mb : Str → Option Value}
    {dp un : Nat} {gd : Option (List Code)} {a : Addr} {ccd : Value} {A₀ : Around} {h₀ : Heap} {L : Addr} {s : Shared} {Q : Flow → Shared → Prop} {E : Value → Shared → Prop}
    {ld lv lk lo x dx hand cells ch : Addr} {mr : Str → Option Value} {oc : Obj} {cvs : List Value} {ns : List Int} {hh : Int} {ht : Tok} {u1 u2 u4 : Option Value} {kt : Tok} {I : Addr} {oI D K W H : Obj} {vs : List Value} {n : Nat} {extra : List (Addr × Obj)} {acc : List Int} {ds : List Dat}
    (B : Below A₀ h₀ [] h₀) (X : (hd.heap_39 w.params).In h₀) (T : Top p loose mean mg mb h₀)
        (hroom : dp + 100 < recursionLimit) (hun : un + 1000 < cLine)
        (hdc : oc.data = .cell (some (.ref hand))) (O : Order ld lv lk lo x dx hand cells ch)
        (hns : IntsAre cvs ns) (hnl : ns.length ≤ 63)
    (hE : PassesOwn (model prog w) (ktrTop dp un gd (Str.ofString "law") lawRec.scope L a ccd [(Str.ofString "hand", ch)] []) (envX (Str.ofString "law") lawRec.scope L a ccd [(Str.ofString "hand", ch)]) E)
    (F : Fr h₀ L s.heap (lm u1 u2 (some (.int 1 kt)) u4 ld lv lk x cells mr))
    (N : News h₀ L s.heap ((I, oI) :: led ld lv lk lo x dx hand cells ch D (listOf vs.toArray n) K W H (wdict hh ht lo) (listOf cvs.toArray 0) oc extra))
    (hI : ∀ p ∈ led ld lv lk lo x dx hand cells ch D (listOf vs.toArray n) K W H (wdict hh ht lo) (listOf cvs.toArray 0) oc extra, p.1 ≠ I) (hex : OwnOff extra [ld, lv, lk, lo, x, dx, hand, cells, ch])
    (hD : IL acc D) (hW : IL acc W) (hH : HandO cells ns.length 0 H) (hda : DatAll extra vs ds) (hal : acc.length ≤ 1000) (hvl : vs.length ≤ 10)
    (next : ∀ h' tk' u1 u2 u3 u4 vs' n' D' W' H' extra' v, Fr h₀ L h' (lm u1 u2 u3 u4 ld lv lk x cells mr) → News h₀ L h' ((I, oI) :: led ld lv lk lo x dx hand cells ch D' (listOf vs'.toArray n') K W' H' (wdict hh ht lo) (listOf cvs.toArray 0) oc extra') →
      (∀ p ∈ extra', p.1 ≠ I) → OwnOff extra' [ld, lv, lk, lo, x, dx, hand, cells, ch] → IL (acc ++ enc v 1) D' → IL (acc ++ enc v 1) W' → HandO cells ns.length 0 H' → DatAll extra' vs' (ds ++ [toDat v]) → Good 1 v → (enc v 1).length ≤ 100 → 1 ≤ (enc v 1).length →
      Q .next { s with heap := h', toks := tk' }) :
    wpAny (model prog w) (ktrTop dp un gd (Str.ofString "law") lawRec.scope L a ccd [(Str.ofString "hand", ch)] []) (execs lawB1 (envX (Str.ofString "law") lawRec.scope L a ccd [(Str.ofString "hand", ch)])) Q E s := by
  dsimp only [lawB0, lawB1, lawB2, lawB3, lawIf, lawFor, lawTail, lawRec, behind6, behind1, headS, forBody, ifThen, ifElse]
  k_with_none
  have O' := O
  have hxd : x ≠ dx := Nat.ne_of_gt O.q5
  have hxl : x ≠ lo := Nat.ne_of_lt O.q6
  have hdl : dx ≠ lo := Nat.ne_of_lt (Nat.lt_trans O.q5 O.q6)
  obtain ⟨q2, q3, q4, q5, q6, q7, q8, q9⟩ := O
  obtain ⟨⟨nI1, nI2, nI3, nI4, nI5, nI6, nI7, nI8, nI9⟩, hexI⟩ := led_off hI
  replace hex := hexI hex
  clear hexI
  k_steps
  with_reducible refine Halt.go ?_
  rename Fr _ _ _ _ => Fa
  rename News _ _ _ _ => Na
  refine word_ok B Fa X T rfl (onlyN Na (by k_mem)) (room_le hroom (by decide)) (room_le hun (by decide)) (cellsN Na (by k_mem) hns hnl) (Nat.ne_of_lt q3) hH fun cs td h1 tk1 H1 hcl hcs hH1 k1 e1 => ?_
  obtain ⟨Fb, Nb⟩ := afterU Fa Na k1 e1 (.tail (Ne.symm nI7) (upd_hand O' (hex.ne (by k_mem))))
  clear Fa Na hH
  have hsr : ∀ c ∈ cs, 0 ≤ c ∧ c ≤ 1114111 := fun c hc => sign_range (hcs c hc)
  have hct := codes_txt (cs := cs) fun c hc => (hsr c hc).1
  have hlt : (KStt.txt cs).length = cs.length := by rw [← KStt.codes_length, hct]
  have g1 := count_len hcl
  have g2 := grs_len_le cs fun c hc => sign_len (hsr c hc)
  have g3 : (wtextL cs).length ≤ 13 := by rw [wtextL, List.length_append]; omega
  k_steps
  with_reducible refine Halt.go ?_
  rename Fr _ _ _ _ => Fa
  rename News _ _ _ _ => Na
  refine append_N Fa Na (.tail (Ne.symm nI2) (upd_val O' (hex.ne (by k_mem)))) (Nat.le_trans hvl (by decide)) fun hA Fb Nb => ?_
  clear Fa Na
  k_steps
  with_reducible refine Halt.go ?_
  rename Fr _ _ _ _ => Fa
  rename News _ _ _ _ => Na
  refine wtext_ok B Fa X T rfl (sub3 Na (by k_mem) (by k_mem) (by k_mem)) (room_le hroom (by decide)) (room_le hun (by decide)) (by rw [hlt]; omega) hxd hxl hdl hW (by rw [hct]; omega) fun h2 tk2 W2 hW2 k2 e2 => ?_
  obtain ⟨Fb, Nb⟩ := afterU Fa Na k2 e2 (.tail (Ne.symm nI4) (upd_lo O' (hex.ne (by k_mem))))
  clear Fa Na hW
  rw [hct] at hW2
  k_steps
  rw [hlt]
  with_reducible refine Halt.go ?_
  rename Fr _ _ _ _ => Fa
  rename News _ _ _ _ => Na
  refine groups_ok B Fa X T rfl (fun _ h => nomatch h) (room_le hroom (by decide)) (room_le hun (by decide)) (by first | exact Nat.le_trans hg (by decide) | exact Nat.le_trans g1 (by decide) | omega) fun l3 h3 tk3 o3 ho3 k3 e3 nl3 => ?_
  obtain ⟨Fb, Nb, off3⟩ := afterNew Fa Na k3 e3 nl3
  clear Fa Na
  have m1 : @Ne Nat ld l3 := off3 _ (.tail _ (.head _))
  clear off3 k3 e3 nl3
  k_steps
  with_reducible refine Halt.go ?_
  refine iadd_N Fb Nb (.tail (Ne.symm m1) (.tail (Ne.symm nI1) (upd_due O' (hex.ne (by k_mem))))) (by k_mem) hD ho3 (by first | exact lw1 hal (Nat.le_trans hg (by decide)) | exact lw1 hal (Nat.le_trans g1 (by decide)) | omega | (simp only [List.length_append]; omega)) fun h4 D4 hD4 Fc Nc => ?_
  clear Fb Nb hD m1 ho3
  k_steps
  with_reducible refine Halt.go ?_
  rename Fr _ _ _ _ => Fa
  rename News _ _ _ _ => Na
  rw [lm_due] at Fa
  replace Na := fun p hp => Na p (.tail _ hp)
  refine for_str h₀ rfl (by rfl) (by rfl) ?_ hE
  k_steps
  obtain ⟨J, hJJ⟩ : ∃ J : Nat → (Str → Option Value) → List (Addr × Obj) → Prop, ∀ i m nw, J i m nw ↔ (∃ (D' : Obj) (uc : Option Value), m = lm u1 uc (some (.int 1 kt)) u4 ld lv lk x cells mr ∧ nw = (I, oI) :: led ld lv lk lo x dx hand cells ch D' (listOf (vs.toArray.push (.str (KStt.txt cs) td)) (n + 1)) K W2 H1 (wdict hh ht lo) (listOf cvs.toArray 0) oc extra ∧ i ≤ cs.length ∧ IL (acc ++ gr (zig (cs.length : Int)) ++ grs (cs.take i)) D') := ⟨_, fun _ _ _ => Iff.rfl⟩
  refine ⟨KStt.txt cs, td, _, _, rfl, Fa, Na, J, ?J0, ?turn, ?fin⟩
  case J0 => exact (hJJ _ _ _).mpr ⟨D4, u2, rfl, rfl, Nat.zero_le _, by simpa [grs_nil] using hD4⟩
  case turn =>
    rintro i c t m₁ nw I2 oI2 h tk hc hJi off F N
    obtain ⟨D', uc, rfl, rfl, hiv, hD⟩ := (hJJ _ _ _).mp hJi
    clear Fa Na
    have hci := code_at hc
    rw [hct] at hci
    have hc4 := sign_len (hsr _ (List.mem_of_getElem? hci))
    have htk := take_at hci
    have hgt := grs_take cs (i + 1)
    have hilt : i < cs.length := (List.getElem?_eq_some_iff.mp hci).1
    rw [lm_char] at F
    have p1 : @Ne Nat ld I2 := off _ (.tail _ (.head _))
    have hD4l : ((acc ++ gr (zig (cs.length : Int)) ++ grs (cs.take i)).length) ≤ 2000 := by
      have := grs_take cs i
      simp only [List.length_append]; omega
    k_steps
    with_reducible refine Halt.go ?_
    rename Fr _ _ _ _ => Fa
    rename News _ _ _ _ => Na
    refine groups_ok B Fa X T rfl (fun _ h => nomatch h) (room_le hroom (by decide)) (room_le hun (by decide)) (Nat.le_trans hc4 (by decide)) fun l3 h3 tk3 o3 ho3 k3 e3 nl3 => ?_
    obtain ⟨Fb, Nb, off3⟩ := afterNew Fa Na k3 e3 nl3
    clear Fa Na
    have m1 : @Ne Nat ld l3 := off3 _ (.tail _ (.tail _ (.head _)))
    clear off3 k3 e3 nl3
    k_steps
    with_reducible refine Halt.go ?_
    refine iadd_N Fb Nb (.tail (Ne.symm m1) (.tail (Ne.symm p1) (.tail (Ne.symm nI1) (upd_due O' (hex.ne (by k_mem)))))) (by k_mem) hD ho3 (by first | omega | (simp only [List.length_append]; omega)) fun h4 D4 hD4 Fc Nc => ?_
    clear Fb Nb hD m1 ho3
    k_steps
    rename Fr _ _ _ _ => Fz
    rename News _ _ _ _ => Nz
    rw [lm_due] at Fz
    refine ForTurn.intro Fz Nz _ (fun p hp => .tail _ hp) (led_same off) ((hJJ _ _ _).mpr ⟨_, _, rfl, rfl, hilt, by rw [htk, grs_snoc, ← List.append_assoc]; exact hD4⟩)
  case fin =>
    rintro m' nw h tk hJi F N
    obtain ⟨D', uc, rfl, rfl, hiv, hD⟩ := (hJJ _ _ _).mp hJi
    clear Fa Na
    k_steps
    rw [show (KStt.txt cs).cps.size = cs.length from hlt, List.take_length] at hD
    rw [push_list] at N
    refine next _ _ _ _ _ _ _ _ D' W2 H1 extra (.text cs) F N (fun p hp => hI p (.tail _ (.tail _ (.tail _ (.tail _ (.tail _ (.tail _ (.tail _ (.tail _ (.tail _ hp)))))))))) (fun p hp b hb => hex p hp b (.tail _ hb)) (by rw [enc, wtextL, ← List.append_assoc]; exact hD) hW2 hH1 (hda.append (.one (.str _ td))) ⟨rfl, hsr⟩ (Nat.le_trans g3 (by decide)) ?_
    rw [enc, wtextL, List.length_append]
    have := gr_len_pos (zig (cs.length : Int))
    omega
end

section
example : (Mine.hd.heap_39 = Mine.hd.heap_39) ∧ PySem.Challenge.rw_nu0313_01 = PySem.Challenge.rw_nu0313_01 := by w_top off; k_fill; exact ⟨rfl, rfl⟩
local macro_rules | `(tactic| walk_at "no such key") => `(tactic| skip)
local macro_rules | `(tactic| walk_at $k:str) => if ["exec While Compare cons nil", "call ref", "exec For", "exec For Name Call cons nil", "exec For Name Name cons nil", "exec For Name Subscript cons nil", "call builtin:list.append", "inplaceOp Add ref ref", "inplaceOp Add ref", "eval ListComp", "CompEnd"].contains k.getString then `(tactic| with_reducible refine halt ?_) else Lean.Macro.throwUnsupported
theorem lst_at {D : Addr} {ys : List Value} {vals : List Int} {h : Heap} (e : h.get? D = some (LCg.lst ys)) (hi : IntsAre ys vals) (hl : vals.length ≤ 3) : DataAt h D vals :=
  ⟨ys, ⟨_, e, rfl, ys.length, rfl⟩, hi, by omega⟩
theorem off1_mem {D : Addr} : ∀ {l : List (Addr × Obj)}, LCg.Off1 D l → ∀ p ∈ l, p.1 ≠ D
  | [], _, _, h => nomatch h
  | _ :: _, x, p, h => by
    rcases List.mem_cons.mp h with rfl | h
    · exact x.1
    · exact off1_mem x.2 p h
theorem led_swap {ld lv lk lo x dx hand cells ch : Addr} {D V K W H dct cs oc : Obj} {extra : List (Addr × Obj)} {i z : Addr × Obj} : ∀ p ∈ i :: led ld lv lk lo x dx hand cells ch D V K W H dct cs oc (z :: extra), p ∈ z :: i :: led ld lv lk lo x dx hand cells ch D V K W H dct cs oc extra := by
  intro p hp
  simp only [List.mem_cons] at hp ⊢
  rcases hp with h | h | h | h | h | h | h | h | h | h | h | h <;> simp [h]
theorem own_cons {D : Addr} {o : Obj} {extra : List (Addr × Obj)} {l : List Addr} (h : OwnOff extra l) (hD : ∀ b ∈ l, @Ne Nat b D) : OwnOff ((D, o) :: extra) l := fun p hp b hb => by
  rcases List.mem_cons.mp hp with rfl | hp
  · exact Ne.symm (hD b hb)
  · exact h p hp b hb
theorem ten_ne {I ld lv lk lo x dx hand cells ch D : Addr} (z : @Ne Nat I D) (a : @Ne Nat ld D ∧ @Ne Nat lv D ∧ @Ne Nat lk D ∧ @Ne Nat lo D ∧ @Ne Nat x D ∧ @Ne Nat dx D ∧ @Ne Nat hand D ∧ @Ne Nat cells D ∧ @Ne Nat ch D) : ∀ b ∈ [I, ld, lv, lk, lo, x, dx, hand, cells, ch], @Ne Nat b D := by
  obtain ⟨a1, a2, a3, a4, a5, a6, a7, a8, a9⟩ := a
  intro b hb
  simp only [List.mem_cons, List.not_mem_nil, or_false] at hb
  rcases hb with rfl | rfl | rfl | rfl | rfl | rfl | rfl | rfl | rfl | rfl
  · exact z
  · exact a1
  · exact a2
  · exact a3
  · exact a4
  · exact a5
  · exact a6
  · exact a7
  · exact a8
  · exact a9
theorem b2_ok {prog : Program} {w : World} {p : Program} {loose : List Str} {mean : ExcName → Option Value} {mg mb : Str → Option Value}
    {dp un : Nat} {gd : Option (List Code)} {a : Addr} {ccd : Value} {A₀ : Around} {h₀ : Heap} {L : Addr} {s : Shared} {Q : Flow → Shared → Prop} {E : Value → Shared → Prop}
    {ld lv lk lo x dx hand cells ch : Addr} {mr : Str → Option Value} {oc : Obj} {cvs : List Value} {ns : List Int} {hh : Int} {ht : Tok} {u1 u2 u4 : Option Value} {kt : Tok} {I : Addr} {oI D K W H : Obj} {vs : List Value} {n : Nat} {extra : List (Addr × Obj)} {acc : List Int} {ds : List Dat}
    (B : Below A₀ h₀ [] h₀) (X : (hd.heap_39 w.params).In h₀) (T : Top p loose mean mg mb h₀)
        (hroom : dp + 100 < recursionLimit) (hun : un + 1000 < cLine)
        (hdc : oc.data = .cell (some (.ref hand))) (O : Order ld lv lk lo x dx hand cells ch)
        (hns : IntsAre cvs ns) (hnl : ns.length ≤ 63)
    (hE : PassesOwn (model prog w) (ktrTop dp un gd (Str.ofString "law") lawRec.scope L a ccd [(Str.ofString "hand", ch)] []) (envX (Str.ofString "law") lawRec.scope L a ccd [(Str.ofString "hand", ch)]) E)
    (F : Fr h₀ L s.heap (lm u1 u2 (some (.int 2 kt)) u4 ld lv lk x cells mr))
    (N : News h₀ L s.heap ((I, oI) :: led ld lv lk lo x dx hand cells ch D (listOf vs.toArray n) K W H (wdict hh ht lo) (listOf cvs.toArray 0) oc extra))
    (hI : ∀ p ∈ led ld lv lk lo x dx hand cells ch D (listOf vs.toArray n) K W H (wdict hh ht lo) (listOf cvs.toArray 0) oc extra, p.1 ≠ I) (hex : OwnOff extra [ld, lv, lk, lo, x, dx, hand, cells, ch])
    (hD : IL acc D) (hW : IL acc W) (hH : HandO cells ns.length 0 H) (hda : DatAll extra vs ds) (hal : acc.length ≤ 1000) (hvl : vs.length ≤ 10)
    (next : ∀ h' tk' u1 u2 u3 u4 vs' n' D' W' H' extra' v, Fr h₀ L h' (lm u1 u2 u3 u4 ld lv lk x cells mr) → News h₀ L h' ((I, oI) :: led ld lv lk lo x dx hand cells ch D' (listOf vs'.toArray n') K W' H' (wdict hh ht lo) (listOf cvs.toArray 0) oc extra') →
      (∀ p ∈ extra', p.1 ≠ I) → OwnOff extra' [ld, lv, lk, lo, x, dx, hand, cells, ch] → IL (acc ++ enc v 2) D' → IL (acc ++ enc v 2) W' → HandO cells ns.length 0 H' → DatAll extra' vs' (ds ++ [toDat v]) → Good 2 v → (enc v 2).length ≤ 100 → 1 ≤ (enc v 2).length →
      Q .next { s with heap := h', toks := tk' }) :
    wpAny (model prog w) (ktrTop dp un gd (Str.ofString "law") lawRec.scope L a ccd [(Str.ofString "hand", ch)] []) (execs lawB2 (envX (Str.ofString "law") lawRec.scope L a ccd [(Str.ofString "hand", ch)])) Q E s := by
  dsimp only [lawB0, lawB1, lawB2, lawB3, lawIf, lawFor, lawTail, lawRec, behind6, behind1, headS, forBody, ifThen, ifElse]
  k_with_none
  have O' := O
  have hxd : x ≠ dx := Nat.ne_of_gt O.q5
  have hxl : x ≠ lo := Nat.ne_of_lt O.q6
  have hdl : dx ≠ lo := Nat.ne_of_lt (Nat.lt_trans O.q5 O.q6)
  obtain ⟨q2, q3, q4, q5, q6, q7, q8, q9⟩ := O
  obtain ⟨⟨nI1, nI2, nI3, nI4, nI5, nI6, nI7, nI8, nI9⟩, hexI⟩ := led_off hI
  replace hex := hexI hex
  clear hexI
  k_steps
  refine Halt.go ?_
  refine listComp_R (m := lm u1 u2 (some (.int 2 kt)) u4 ld lv lk x cells mr) (outer := []) rfl rfl rfl B (by rfl) (by decide) (by rfl) (by decide) (by rfl) ?_
  k_steps
  with_reducible refine Halt.go ?_
  rename Fr _ _ _ _ => Fa
  rename News _ _ _ _ => Na
  refine pick_ok B Fa X T rfl (onlyN Na (by k_mem)) (room_le hroom (by decide)) (room_le hun (by decide)) (cellsN Na (by k_mem) hns hnl) (Nat.ne_of_lt q3) hH (by decide) (by decide +kernel) fun d td h1 tk1 H1 hd0 hd1 hH1 k1 e1 => ?_
  obtain ⟨Fb, Nb⟩ := afterU Fa Na k1 e1 (.tail (Ne.symm nI7) (upd_hand O' (hex.ne (by k_mem))))
  clear Fa Na hH
  k_steps
  rename IsRange _ _ _ _ _ _ _ _ => hrg
  rename Fr _ _ _ _ => Fa
  rename News _ _ _ _ => Na
  obtain ⟨J, hJJ⟩ : ∃ J : Nat → List Value → List (Addr × Obj) → Prop, ∀ i' ys nw, J i' ys nw ↔ (∃ (H' : Obj) (vals : List Int), nw = (I, oI) :: led ld lv lk lo x dx hand cells ch D (listOf vs.toArray n) K W H' (wdict hh ht lo) (listOf cvs.toArray 0) oc extra ∧ HandO cells ns.length 0 H' ∧ IntsAre ys vals ∧ vals.length = i' ∧ (∀ v ∈ vals, (gr (zig v)).length ≤ 29)) := ⟨_, fun _ _ _ => Iff.rfl⟩
  refine ⟨_, 0, d, _, _, _, d.toNat, _, rfl, Fa, Na, hrg, small_one (by decide) (by decide) (lf10 hd0) (lf11 hd1), by rw [rangeSize_nat]; simp, by rw [sizeLine_eq]; exact Nat.le_trans (lf12 hd1) (by decide),
    J, fun _ _ => False, ?J0, ?turn, ?fin, fun _ _ _ _ _ _ h => h.elim⟩
  case J0 => exact (hJJ _ _ _).mpr ⟨H1, [], rfl, hH1, .nil, rfl, fun _ h => nomatch h⟩
  case turn =>
    rintro i' v' t' ys nw I3 oI3 C oC D3 m₂ h tk hlt hJi rfl hC hx F N off ne
    obtain ⟨H', vals, rfl, hH, hys, hvl', hvb⟩ := (hJJ _ _ _).mp hJi
    clear Fa Na
    obtain ⟨nIC, nID, nCD⟩ := ne
    have om := off.mem
    obtain ⟨z01, z02, z03⟩ := om (hand, H') (by k_mem)
    clear om
    k_steps
    with_reducible refine Halt.go ?_
    rename Fr _ _ _ _ => Fa
    rename News _ _ _ _ => Na
    refine figure_ok B Fa X T rfl (onlyN Na (by k_mem)) (room_le hroom (by decide)) (room_le hun (by decide)) (cellsN Na (by k_mem) hns hnl) (Nat.ne_of_lt q3) hH fun d2 td2 h2 tk2 H2 hd20 hd21 hH2 k2 e2 => ?_
    obtain ⟨Fb, Nb⟩ := afterU Fa Na k2 e2 (.tail (Ne.symm z01) (.tail (Ne.symm z02) (.tail (Ne.symm z03) (.tail (Ne.symm nI7) (upd_hand O' (hex.ne (by k_mem)))))))
    clear Fa Na hH
    refine LCg.CompEnd.intro Fb Nb ((I, oI) :: led ld lv lk lo x dx hand cells ch D (listOf vs.toArray n) K W H2 (wdict hh ht lo) (listOf cvs.toArray 0) oc extra) (fun p hp => hp) off trivial ((hJJ _ _ _).mpr ⟨H2, vals ++ [d2], rfl, hH2, hys.append (.cons d2 td2 .nil), by rw [List.length_append, hvl']; rfl, fun v hv => ?_⟩)
    rcases List.mem_append.mp hv with hv | hv
    · exact hvb v hv
    · rw [List.mem_singleton.mp hv]; exact fig_len hd20 hd21
  case fin =>
    rintro ys nw D3 h tk hJi F N off
    obtain ⟨H', vals, rfl, hH, hys, hvl', hvb⟩ := (hJJ _ _ _).mp hJi
    clear Fa Na
    have om := off1_mem off
    have z0 : @Ne Nat I D3 := om _ (.head _)
    obtain ⟨⟨c1, c2, c3, c4, c5, c6, c7, c8, c9⟩, -⟩ := led_off (fun p hp => om p (.tail _ hp))
    have hexD : OwnOff ((D3, listOf ys.toArray ys.length) :: extra) _ := own_cons hex (ten_ne z0 ⟨c1, c2, c3, c4, c5, c6, c7, c8, c9⟩)
    have Na : News h₀ L h ((I, oI) :: led ld lv lk lo x dx hand cells ch D (listOf vs.toArray n) K W H' (wdict hh ht lo) (listOf cvs.toArray 0) oc ((D3, listOf ys.toArray ys.length) :: extra)) := News.sub N led_swap
    clear N om off
    have hcl : vals.length ≤ 3 := lf13 hvl' hd1
    have g1 := count_len hcl
    have g2 := grs_len_le vals hvb
    have g3 : (wnumsL vals).length ≤ 88 := by rw [wnumsL, List.length_append]; omega
    k_steps
    with_reducible refine Halt.go ?_
    rename Fr _ _ _ _ => Fa
    rename News _ _ _ _ => Na
    refine append_N Fa Na (.tail (Ne.symm nI2) (upd_val O' (hexD.ne (by k_mem)))) (Nat.le_trans hvl (by decide)) fun hA Fb Nb => ?_
    clear Fa Na
    k_steps
    with_reducible refine Halt.go ?_
    rename Fr _ _ _ _ => Fa
    rename News _ _ _ _ => Na
    refine wnums_ok B Fa X T rfl (sub3 Na (by k_mem) (by k_mem) (by k_mem)) (room_le hroom (by decide)) (room_le hun (by decide)) (lst_at (Na (D3, _) (by k_mem)).1 hys hcl) (Ne.symm c5) (Ne.symm c6) (Ne.symm c4) hxd hxl hdl hW (lw1 hal (Nat.le_trans g3 (by decide))) fun h2 tk2 W2 hW2 k2 e2 => ?_
    replace hex := hexD
    obtain ⟨Fb, Nb⟩ := afterU Fa Na k2 e2 (.tail (Ne.symm nI4) (upd_lo O' (hex.ne (by k_mem))))
    clear Fa Na hW
    have hyl : ys.toArray.size = vals.length := by rw [List.size_toArray, hys.length]
    k_steps
    with_reducible refine Halt.go ?_
    rename Fr _ _ _ _ => Fa
    rename News _ _ _ _ => Na
    refine groups_ok B Fa X T rfl (fun _ h => nomatch h) (room_le hroom (by decide)) (room_le hun (by decide)) (by first | exact Nat.le_trans hg (by decide) | exact Nat.le_trans g1 (by decide) | omega) fun l3 h3 tk3 o3 ho3 k3 e3 nl3 => ?_
    obtain ⟨Fb, Nb, off3⟩ := afterNew Fa Na k3 e3 nl3
    clear Fa Na
    have m1 : @Ne Nat ld l3 := off3 _ (.tail _ (.head _))
    clear off3 k3 e3 nl3
    k_steps
    with_reducible refine Halt.go ?_
    refine iadd_N Fb Nb (.tail (Ne.symm m1) (.tail (Ne.symm nI1) (upd_due O' (hex.ne (by k_mem))))) (by k_mem) hD ho3 (by first | exact lw1 hal (Nat.le_trans hg (by decide)) | exact lw1 hal (Nat.le_trans g1 (by decide)) | omega | (simp only [List.length_append]; omega)) fun h4 D4 hD4 Fc Nc => ?_
    clear Fb Nb hD m1 ho3
    k_steps
    with_reducible refine Halt.go ?_
    rename Fr _ _ _ _ => Fa
    rename News _ _ _ _ => Na
    rw [lm_due] at Fa
    replace Na := fun p hp => Na p (.tail _ hp)
    refine for_list h₀ rfl (by rfl) (by rfl) ?_ hE
    k_steps
    obtain ⟨JB, hJB⟩ : ∃ JB : Nat → (Str → Option Value) → List (Addr × Obj) → Prop, ∀ i m nw, JB i m nw ↔ (∃ (D' : Obj) (uc : Option Value), m = lm uc u2 (some (.int 2 kt)) u4 ld lv lk x cells mr ∧ nw = (I, oI) :: led ld lv lk lo x dx hand cells ch D' (listOf (vs.toArray.push (.ref D3)) (n + 1)) K W2 H' (wdict hh ht lo) (listOf cvs.toArray 0) oc ((D3, listOf ys.toArray ys.length) :: extra) ∧ i ≤ vals.length ∧ IL (acc ++ gr (zig (vals.length : Int)) ++ grs (vals.take i)) D') := ⟨_, fun _ _ _ => Iff.rfl⟩
    refine ⟨D3, ys.toArray, _, _, rfl, Fa, Na, JB, ?J1, fun i m nw hJ => ?src, ?turn1, ?fin1⟩
    case J1 => exact (hJB _ _ _).mpr ⟨D4, u1, rfl, rfl, Nat.zero_le _, by simpa [grs_nil] using hD4⟩
    case src =>
      obtain ⟨D', uc, rfl, rfl, hiv, hD⟩ := (hJB _ _ _).mp hJ
      exact .inr ⟨_, by k_mem, rfl, _, rfl⟩
    case turn1 =>
      rintro i v' m₁ nw I2 oI2 h tk hc hJi off F N
      obtain ⟨D', uc, rfl, rfl, hiv, hD⟩ := (hJB _ _ _).mp hJi
      clear Fa Na
      obtain ⟨c, t, hci, rfl⟩ : ∃ kk kt, vals[i]? = some kk ∧ v' = .int kk kt := by
        obtain ⟨k, t, e, hk⟩ := IntsAre.at hys i v' (by simpa using hc)
        exact ⟨k, t, hk, e⟩
      have hc4 := hvb _ (List.mem_of_getElem? hci)
      have htk := take_at hci
      have hgt := grs_take vals (i + 1)
      have hilt : i < vals.length := (List.getElem?_eq_some_iff.mp hci).1
      rw [lm_value] at F
      have p1 : @Ne Nat ld I2 := off _ (.tail _ (.head _))
      have hD4l : ((acc ++ gr (zig (vals.length : Int)) ++ grs (vals.take i)).length) ≤ 2000 := by
        have := grs_take vals i
        simp only [List.length_append]; omega
      k_steps
      with_reducible refine Halt.go ?_
      rename Fr _ _ _ _ => Fa
      rename News _ _ _ _ => Na
      refine groups_ok B Fa X T rfl (fun _ h => nomatch h) (room_le hroom (by decide)) (room_le hun (by decide)) (Nat.le_trans hc4 (by decide)) fun l3 h3 tk3 o3 ho3 k3 e3 nl3 => ?_
      obtain ⟨Fb, Nb, off3⟩ := afterNew Fa Na k3 e3 nl3
      clear Fa Na
      have m1 : @Ne Nat ld l3 := off3 _ (.tail _ (.tail _ (.head _)))
      clear off3 k3 e3 nl3
      k_steps
      with_reducible refine Halt.go ?_
      refine iadd_N Fb Nb (.tail (Ne.symm m1) (.tail (Ne.symm p1) (.tail (Ne.symm nI1) (upd_due O' (hex.ne (by k_mem)))))) (by k_mem) hD ho3 (by first | omega | (simp only [List.length_append]; omega)) fun h4 D4 hD4 Fc Nc => ?_
      clear Fb Nb hD m1 ho3
      k_steps
      rename Fr _ _ _ _ => Fz
      rename News _ _ _ _ => Nz
      rw [lm_due] at Fz
      refine ForTurn.intro Fz Nz _ (fun p hp => .tail _ hp) (led_same off) ((hJB _ _ _).mpr ⟨_, _, rfl, rfl, hilt, by rw [htk, grs_snoc, ← List.append_assoc]; exact hD4⟩)
    case fin1 =>
      rintro m' nw h tk hJi F N
      obtain ⟨D', uc, rfl, rfl, hiv, hD⟩ := (hJB _ _ _).mp hJi
      clear Fa Na
      k_steps
      rw [hyl, List.take_length] at hD
      rw [push_list vs] at N
      refine next _ _ _ _ _ _ _ _ D' W2 H' ((D3, listOf ys.toArray ys.length) :: extra) (.nums vals) F N (fun p hp => ?_) (fun p hp b hb => hexD p hp b (.tail _ hb)) (by rw [enc, wnumsL, ← List.append_assoc]; exact hD) hW2 hH ((hda.mono fun p hp => .tail _ hp).append (.one (.list (.head _) (datAll_ints hys)))) rfl (Nat.le_trans g3 (by decide)) ?_
      · rcases List.mem_cons.mp hp with rfl | hp
        · exact Ne.symm z0
        · exact hI p (.tail _ (.tail _ (.tail _ (.tail _ (.tail _ (.tail _ (.tail _ (.tail _ (.tail _ hp)))))))))
      · rw [enc, wnumsL, List.length_append]
        have := gr_len_pos (zig (vals.length : Int))
        omega
end

end Mine

open PySem PySem.W PyProof.Rows PySem.Calls
set_option Elab.async false
set_option maxRecDepth 100000
set_option maxHeartbeats 8000000
namespace Mine
example : (Mine.hd.heap_39 = Mine.hd.heap_39) ∧ PySem.Challenge.rw_nu0313_01 = PySem.Challenge.rw_nu0313_01 := by w_top off; k_fill; exact ⟨rfl, rfl⟩
local macro_rules | `(tactic| walk_at "loadName") => `(tactic| (k_here; k_dflt (refine' ldnX ?k1 ?k2 ?_; (case k1 => k_asm); (case k2 => exact rfl); k_whole)))
local macro_rules | `(tactic| walk_at "subscriptTail Name UnaryOp ref int") => `(tactic| (k_here; (with_reducible show wpAny _ _ (subscriptTail _ _ (Value.ref _) (Value.int _ _)) _ _ _); (with_unfolding_all refine' last_item ?N ?m ?_ ?hs; (case N => k_asm); (case m => k_mem); (case hs => with_unfolding_all rfl); k_whole)))
local macro_rules | `(tactic| walk_at "execs cons") => `(tactic| ((with_reducible show wpAny _ _ (execs (Stmt.Expr _ _ :: _) _) _ _ _); with_reducible refine halt ?_))

section
local macro_rules | `(tactic| walk_at "no such key") => `(tactic| skip)
local macro_rules | `(tactic| walk_at $k:str) => if ["exec While Compare cons nil", "call ref", "exec For", "exec For Name Call cons nil", "exec For Name Name cons nil", "exec For Name Subscript cons nil", "call builtin:list.append", "inplaceOp Add ref ref", "inplaceOp Add ref"].contains k.getString then `(tactic| with_reducible refine halt ?_) else Lean.Macro.throwUnsupported
theorem if_ok {prog : Program} {w : World} {p : Program} {loose : List Str} {mean : ExcName → Option Value} {mg mb : Str → Option Value}
    {dp un : Nat} {gd : Option (List Code)} {a : Addr} {ccd : Value} {A₀ : Around} {h₀ : Heap} {L : Addr} {s : Shared} {Q : Flow → Shared → Prop} {E : Value → Shared → Prop}
    {ld lv lk lo x dx hand cells ch : Addr} {mr : Str → Option Value} {oc : Obj} {cvs : List Value} {ns : List Int} {hh : Int} {ht : Tok} {u1 u2 u4 : Option Value} {kt : Tok} {I : Addr} {oI D K W H : Obj} {vs : List Value} {n : Nat} {extra : List (Addr × Obj)} {acc : List Int} {ds : List Dat} {d : Int}
    (B : Below A₀ h₀ [] h₀) (X : (hd.heap_39 w.params).In h₀) (T : Top p loose mean mg mb h₀)
        (hroom : dp + 100 < recursionLimit) (hun : un + 1000 < cLine)
        (hdc : oc.data = .cell (some (.ref hand))) (O : Order ld lv lk lo x dx hand cells ch)
        (hns : IntsAre cvs ns) (hnl : ns.length ≤ 63)
    (hE : PassesOwn (model prog w) (ktrTop dp un gd (Str.ofString "law") lawRec.scope L a ccd [(Str.ofString "hand", ch)] []) (envX (Str.ofString "law") lawRec.scope L a ccd [(Str.ofString "hand", ch)]) E) (hd0 : 0 ≤ d) (hd1 : d < 4)
    (F : Fr h₀ L s.heap (lm u1 u2 (some (.int d kt)) u4 ld lv lk x cells mr))
    (N : News h₀ L s.heap ((I, oI) :: led ld lv lk lo x dx hand cells ch D (listOf vs.toArray n) K W H (wdict hh ht lo) (listOf cvs.toArray 0) oc extra))
    (hI : ∀ p ∈ led ld lv lk lo x dx hand cells ch D (listOf vs.toArray n) K W H (wdict hh ht lo) (listOf cvs.toArray 0) oc extra, p.1 ≠ I) (hex : OwnOff extra [ld, lv, lk, lo, x, dx, hand, cells, ch])
    (hD : IL acc D) (hW : IL acc W) (hH : HandO cells ns.length 0 H) (hda : DatAll extra vs ds) (hal : acc.length ≤ 1000) (hvl : vs.length ≤ 10)
    (next : ∀ h' tk' u1 u2 u3 u4 vs' n' D' W' H' extra' v, Fr h₀ L h' (lm u1 u2 u3 u4 ld lv lk x cells mr) → News h₀ L h' ((I, oI) :: led ld lv lk lo x dx hand cells ch D' (listOf vs'.toArray n') K W' H' (wdict hh ht lo) (listOf cvs.toArray 0) oc extra') →
      (∀ p ∈ extra', p.1 ≠ I) → OwnOff extra' [ld, lv, lk, lo, x, dx, hand, cells, ch] → IL (acc ++ enc v d) D' → IL (acc ++ enc v d) W' → HandO cells ns.length 0 H' → DatAll extra' vs' (ds ++ [toDat v]) → Good d v → (enc v d).length ≤ 100 → 1 ≤ (enc v d).length →
      Q .next { s with heap := h', toks := tk' }) :
    wpAny (model prog w) (ktrTop dp un gd (Str.ofString "law") lawRec.scope L a ccd [(Str.ofString "hand", ch)] []) (exec lawIf (envX (Str.ofString "law") lawRec.scope L a ccd [(Str.ofString "hand", ch)])) Q E s := by
  have hd : d = 0 ∨ d = 1 ∨ d = 2 ∨ d = 3 := by omega
  rcases hd with rfl | rfl | rfl | rfl
  · dsimp only [lawB0, lawB1, lawB2, lawB3, lawIf, lawFor, lawTail, lawRec, behind6, behind1, headS, forBody, ifThen, ifElse]
    k_with_none
    k_steps
    refine Halt.go ?_
    refine b0_ok B X T hroom hun hdc O hns hnl F N hI hex hD hW hH hda hal hvl fun h' tk' a1 a2 a3 a4 vs' n' D' W' H' extra' v F' N' z1 z2 z3 z4 z5 z6 z7 z8 z9 => ?_
    k_steps
    exact next _ _ a1 a2 a3 a4 vs' n' D' W' H' extra' v F' N' z1 z2 z3 z4 z5 z6 z7 z8 z9
  · dsimp only [lawB0, lawB1, lawB2, lawB3, lawIf, lawFor, lawTail, lawRec, behind6, behind1, headS, forBody, ifThen, ifElse]
    k_with_none
    k_steps
    refine Halt.go ?_
    refine b1_ok B X T hroom hun hdc O hns hnl hE F N hI hex hD hW hH hda hal hvl fun h' tk' a1 a2 a3 a4 vs' n' D' W' H' extra' v F' N' z1 z2 z3 z4 z5 z6 z7 z8 z9 => ?_
    k_steps
    exact next _ _ a1 a2 a3 a4 vs' n' D' W' H' extra' v F' N' z1 z2 z3 z4 z5 z6 z7 z8 z9
  · dsimp only [lawB0, lawB1, lawB2, lawB3, lawIf, lawFor, lawTail, lawRec, behind6, behind1, headS, forBody, ifThen, ifElse]
    k_with_none
    k_steps
    refine Halt.go ?_
    refine b2_ok B X T hroom hun hdc O hns hnl hE F N hI hex hD hW hH hda hal hvl fun h' tk' a1 a2 a3 a4 vs' n' D' W' H' extra' v F' N' z1 z2 z3 z4 z5 z6 z7 z8 z9 => ?_
    k_steps
    exact next _ _ a1 a2 a3 a4 vs' n' D' W' H' extra' v F' N' z1 z2 z3 z4 z5 z6 z7 z8 z9
  · dsimp only [lawB0, lawB1, lawB2, lawB3, lawIf, lawFor, lawTail, lawRec, behind6, behind1, headS, forBody, ifThen, ifElse]
    k_with_none
    k_steps
    refine Halt.go ?_
    refine b3_ok B X T hroom hun hdc O hns hnl F N hI hex hD hW hH hda hal hvl fun h' tk' a1 a2 a3 a4 vs' n' D' W' H' extra' v F' N' z1 z2 z3 z4 z5 z6 z7 z8 z9 => ?_
    k_steps
    exact next _ _ a1 a2 a3 a4 vs' n' D' W' H' extra' v F' N' z1 z2 z3 z4 z5 z6 z7 z8 z9
end

end Mine

open PySem PySem.W PyProof.Rows PySem.Calls
set_option Elab.async false
set_option maxRecDepth 100000
set_option maxHeartbeats 8000000
namespace Mine
example : (Mine.hd.heap_39 = Mine.hd.heap_39) ∧ PySem.Challenge.rw_nu0313_01 = PySem.Challenge.rw_nu0313_01 := by w_top off; k_fill; exact ⟨rfl, rfl⟩

section
local macro_rules | `(tactic| walk_at $k:str) => if ["exec While Compare cons nil", "call ref", "exec For", "exec For Name Call cons nil", "exec For Name Name cons nil", "exec For Name Subscript cons nil", "call builtin:list.append", "exec If"].contains k.getString then `(tactic| with_reducible refine halt ?_) else Lean.Macro.throwUnsupported
theorem law_for {prog : Program} {w : World} {p : Program} {loose : List Str} {mean : ExcName → Option Value} {mg mb : Str → Option Value}
    {dp un : Nat} {gd : Option (List Code)} {a : Addr} {ccd : Value} {A₀ : Around} {h₀ : Heap} {L : Addr} {s : Shared} {Q : Flow → Shared → Prop} {E : Value → Shared → Prop}
    {ld lv lk lo x dx hand cells ch : Addr} {mr : Str → Option Value} {oc : Obj} {cvs : List Value} {ns : List Int} {hh : Int} {ht : Tok} {h1 : Obj}
    (B : Below A₀ h₀ [] h₀) (X : (hd.heap_39 w.params).In h₀) (T : Top p loose mean mg mb h₀)
        (hroom : dp + 100 < recursionLimit) (hun : un + 1000 < cLine)
        (hdc : oc.data = .cell (some (.ref hand))) (O : Order ld lv lk lo x dx hand cells ch)
        (hns : IntsAre cvs ns) (hnl : ns.length ≤ 63)
    (hE : PassesOwn (model prog w) (ktrTop dp un gd (Str.ofString "law") lawRec.scope L a ccd [(Str.ofString "hand", ch)] []) (envX (Str.ofString "law") lawRec.scope L a ccd [(Str.ofString "hand", ch)]) E)
    (F : Fr h₀ L s.heap (lm0 ld lv lk x cells mr))
    (N : News h₀ L s.heap (led ld lv lk lo x dx hand cells ch (listOf #[] 0) (listOf #[] 0) (listOf #[] 0) (listOf #[] 0) h1 (wdict hh ht lo) (listOf cvs.toArray 0) oc []))
    (hH : HandO cells ns.length 0 h1)
    (done : ∀ h' tk' u1 u2 u3 u4 kv vs n D K W H extra, Fr h₀ L h' (lm u1 u2 u3 u4 ld lv lk x cells mr) → News h₀ L h' (led ld lv lk lo x dx hand cells ch D (listOf vs.toArray n) K W H (wdict hh ht lo) (listOf cvs.toArray 0) oc extra) →
      OwnOff extra [ld, lv, lk, lo, x, dx, hand, cells, ch] → IL (encs kv) D → IL (kv.map (·.1)) K → IL (encs kv) W → HandO cells ns.length 0 H → DatAll extra vs (kv.map fun p => toDat p.2) → (∀ p ∈ kv, Good p.1 p.2) → (encs kv).length ≤ 600 → 1 ≤ (encs kv).length → kv.length ≤ 6 →
      Q .next { s with heap := h', toks := tk' }) :
    wpAny (model prog w) (ktrTop dp un gd (Str.ofString "law") lawRec.scope L a ccd [(Str.ofString "hand", ch)] []) (exec lawFor (envX (Str.ofString "law") lawRec.scope L a ccd [(Str.ofString "hand", ch)])) Q E s := by
  have O' := O
  obtain ⟨q2, q3, q4, q5, q6, q7, q8, q9⟩ := O
  obtain ⟨u1, u2, u3, u4, hu⟩ := lm_of ld lv lk x cells mr
  rw [hu] at F
  clear hu
  dsimp only [lawB0, lawB1, lawB2, lawB3, lawIf, lawFor, lawTail, lawRec, behind6, behind1, headS, forBody, ifThen, ifElse]
  refine for_range h₀ rfl (by rfl) (by rfl) ?_ hE
  k_with_none
  k_steps
  with_reducible refine Halt.go ?_
  refine pick_ok B F X T rfl (onlyN N (by k_mem)) (room_le hroom (by decide)) (room_le hun (by decide)) (cellsN N (by k_mem) hns hnl) (Nat.ne_of_lt q3) hH (by decide) (by decide +kernel) fun d0 td0 h1 tk1 H1 hd00 hd01 hH1 k1 e1 => ?_
  obtain ⟨Fb, Nb⟩ := afterU F N k1 e1 (upd_hand O' (fun _ h => nomatch h))
  clear F N hH
  k_steps
  rename IsRange _ _ _ _ _ _ _ _ => hrg
  rename Fr _ _ _ _ => Fa
  rename News _ _ _ _ => Na
  obtain ⟨J, hJJ⟩ : ∃ J : Nat → (Str → Option Value) → List (Addr × Obj) → Prop, ∀ i m nw, J i m nw ↔ (∃ u1 u2 u3 u4 kv vs n D K W H extra, m = lm u1 u2 u3 u4 ld lv lk x cells mr ∧ nw = led ld lv lk lo x dx hand cells ch D (listOf vs.toArray n) K W H (wdict hh ht lo) (listOf cvs.toArray 0) oc extra ∧ OwnOff extra [ld, lv, lk, lo, x, dx, hand, cells, ch] ∧ IL (encs kv) D ∧ IL (kv.map (·.1)) K ∧ IL (encs kv) W ∧ HandO cells ns.length 0 H ∧ DatAll extra vs (kv.map fun p => toDat p.2) ∧ (∀ p ∈ kv, Good p.1 p.2) ∧ (encs kv).length ≤ 100 * i ∧ i ≤ (encs kv).length ∧ kv.length = i) := ⟨_, fun _ _ _ => Iff.rfl⟩
  refine ⟨_, 0, 1 + d0, _, _, _, (1 + d0).toNat, _, _, rfl, Fa, Na, hrg, small_one (by decide) (by decide) (lf8 hd00) (lf9 hd01), by rw [rangeSize_nat]; simp,
    J, ?J0, ?turn, ?fin⟩
  case J0 =>
    exact (hJJ _ _ _).mpr ⟨u1, u2, u3, u4, [], [], 0, _, _, _, _, [], rfl, rfl, (fun _ h => nomatch h), ⟨[], 0, rfl, .nil⟩, ⟨[], 0, rfl, .nil⟩, ⟨[], 0, rfl, .nil⟩, hH1, .nil, (fun _ h => nomatch h), Nat.zero_le _, Nat.zero_le _, rfl⟩
  case turn =>
    rintro i t m₁ nw I oI h tk hlt hJi hI F N
    obtain ⟨u1, u2, u3, u4, kv, vs, n, D, K, W, H, extra, rfl, rfl, hex, hD, hK, hW, hH, hda, hgd, hl1, hl2, hkl⟩ := (hJJ _ _ _).mp hJi
    clear Fa Na
    rw [lm_turn] at F
    have hex' := hex
    have hD' := hD
    obtain ⟨⟨nI1, nI2, nI3, nI4, nI5, nI6, nI7, nI8, nI9⟩, hexI⟩ := led_off hI
    replace hex := hexI hex
    clear hexI
    obtain ⟨kvs, kn, rfl, hki⟩ := hK
    have hkl2 : kvs.length ≤ 10 := by rw [hki.length, List.length_map]; exact lf1 hkl hlt hd01
    k_steps
    with_reducible refine Halt.go ?_
    refine pick_ok B F X T rfl (onlyN N (by k_mem)) (room_le hroom (by decide)) (room_le hun (by decide)) (cellsN N (by k_mem) hns hnl) (Nat.ne_of_lt q3) hH (by decide) (by decide +kernel) fun d td h1 tk1 H1 hd0 hd1 hH1 k1 e1 => ?_
    obtain ⟨Fb, Nb⟩ := afterU F N k1 e1 (.tail (Ne.symm nI7) (upd_hand O' (hex.ne (by k_mem))))
    clear F N hH
    k_steps
    with_reducible refine Halt.go ?_
    rename Fr _ _ _ _ => Fa
    rename News _ _ _ _ => Na
    refine append_N Fa Na (.tail (Ne.symm nI3) (upd_kinds O' (hex.ne (by k_mem)))) (Nat.le_trans hkl2 (by decide)) fun hA Fb Nb => ?_
    clear Fa Na
    k_steps
    with_reducible refine Halt.go ?_
    rename Fr _ _ _ _ => Fa
    rename News _ _ _ _ => Na
    rw [lm_kind] at Fa
    have hvl : vs.length ≤ 10 := by rw [hda.length, List.length_map]; exact lf1 hkl hlt hd01
    refine if_ok B X T hroom hun hdc O' hns hnl hE hd0 hd1 Fa Na (led_ne ⟨nI1, nI2, nI3, nI4, nI5, nI6, nI7, nI8, nI9⟩ (fun p hp => hex p hp I (.head _))) hex' hD hW hH1 hda (lf2 hl1 hlt hd01) hvl fun h' tk' a1 a2 a3 a4 vs' n' D' W' H' extra' v F' N' z1 z2 z3 z4 z5 z6 z7 z8 z9 => ?_
    k_steps
    refine ForTurn.intro F' N' _ (fun p hp => hp) (led_ne ⟨nI1, nI2, nI3, nI4, nI5, nI6, nI7, nI8, nI9⟩ z1) ((hJJ _ _ _).mpr ⟨a1, a2, a3, a4, kv ++ [(d, v)], vs', n', D', _, W', H', extra', rfl, rfl, z2, ?_, ?_, ?_, z5, ?_, ?_, ?_, ?_, ?_⟩)
    · rw [encs_snoc]; exact z3
    · rw [List.map_append]; exact ⟨_, _, il_push, hki.append (ints_one rfl)⟩
    · rw [encs_snoc]; exact z4
    · rw [List.map_append]; exact z6
    · intro p hp
      rcases List.mem_append.mp hp with hp | hp
      · exact hgd p hp
      · rw [List.mem_singleton.mp hp]; exact z7
    · rw [encs_snoc, List.length_append]
      have : (enc (d, v).2 (d, v).1).length ≤ 100 := z8
      exact lf6 this hl1
    · rw [encs_snoc, List.length_append]
      have : 1 ≤ (enc (d, v).2 (d, v).1).length := z9
      exact lf7 this hl2
    · rw [List.length_append, hkl]; rfl
  case fin =>
    rintro m' nw h tk hJi F N
    obtain ⟨u1, u2, u3, u4, kv, vs, n, D, K, W, H, extra, rfl, rfl, hex, hD, hK, hW, hH, hda, hgd, hl1, hl2, hkl⟩ := (hJJ _ _ _).mp hJi
    refine done _ _ u1 u2 u3 u4 kv vs n D K W H extra F N hex hD hK hW hH hda hgd (lf3 hl1 hd01) (lf4 hl2 hd00) (lf5 hkl hd01)
end

section
example : (Mine.hd.heap_39 = Mine.hd.heap_39) ∧ PySem.Challenge.rw_nu0313_01 = PySem.Challenge.rw_nu0313_01 := by w_top off; k_fill; exact ⟨rfl, rfl⟩
local macro_rules | `(tactic| walk_at "no such key") => `(tactic| skip)
local macro_rules | `(tactic| walk_at $k:str) => if ["exec While Compare cons nil", "call ref", "exec For", "exec For Name Call cons nil", "exec For Name Name cons nil", "exec For Name Subscript cons nil", "compareOp NotEq ref ref"].contains k.getString then `(tactic| with_reducible refine halt ?_) else Lean.Macro.throwUnsupported
noncomputable def lawT0 : Stmt := headS lawTail
noncomputable def lawT1 : List Stmt := behind1 lawTail
theorem afterNews {h₀ h h' : Heap} {L : Addr} {m : Str → Option Value} {news add : List (Addr × Obj)} (F : Fr h₀ L h m) (N : News h₀ L h news) (k : Keep [] h h') (ad : ∀ q ∈ add, h'.get? q.1 = some q.2 ∧ h.get? q.1 = none) :
    Fr h₀ L h' m ∧ (∀ p, p ∈ news ∨ p ∈ add → h'.get? p.1 = some p.2 ∧ p.1 ≠ L ∧ h₀.get? p.1 = none) ∧ ∀ p ∈ news, ∀ q ∈ add, p.1 ≠ q.1 := by
  obtain ⟨F', N'⟩ := afterAll F N k
  obtain ⟨oL, es, ep, hL, r⟩ := id F.ns
  refine ⟨F', fun p hp => ?_, fun p hp q hq e => ?_⟩
  · rcases hp with hp | hp
    · exact N' p hp
    · obtain ⟨a1, a2⟩ := ad p hp
      refine ⟨a1, fun q => ?_, ?_⟩
      · rw [q, hL] at a2; cases a2
      · cases q : h₀.get? p.1 with
        | none => rfl
        | some o' => rw [F.keep _ _ q] at a2; cases a2
  · have a2 := (ad q hq).2
    rw [← e, (N p hp).1] at a2; cases a2
/-- two lists of the same ints -/
theorem ints_ne {prog : Program} {w : World} {A : Around} {E Q : Value → Shared → Prop} {s : Shared} {h₀ : Heap} {L a b : Addr} {news : List (Addr × Obj)} {oa ob : Obj} {vs : List Int} (N : News h₀ L s.heap news) (ma : (a, oa) ∈ news) (mb : (b, ob) ∈ news) (ia : IL vs oa) (ib : IL vs ob)
    (hu : A.units + 64 < cLine) (h : Q (.bool false) s) : wpAny (model prog w) A (compareOp .NotEq (.ref a) (.ref b)) Q E s := by
  obtain ⟨us, n, rfl, hu1⟩ := ia
  obtain ⟨ws, k, rfl, hu2⟩ := ib
  have ok : ∀ d ∈ vs.map Dat.int, kqdOk 8 d = true := fun d hd => by
    obtain ⟨x, _, rfl⟩ := List.mem_map.mp hd
    rfl
  exact kqd_ne N ma rfl rfl (datAll_ints (nw := news) hu1) (fun _ h => h) mb rfl rfl (datAll_ints (nw := news) hu2) (fun _ h => h) ok ok hu (by simpa using h)
/-- what is read and what is asked, compared: the same -/
theorem read_ne {prog : Program} {w : World} {A : Around} {E Q : Value → Shared → Prop} {s : Shared} {h₀ : Heap} {L t t2 lf lv : Addr} {news e1 e2 : List (Addr × Obj)} {ws vs : List Value} {ds : List Dat} {i : Int} {u1 u2 : Tok} {b : Bool} {n1 n2 n3 n4 : Nat} (N : News h₀ L s.heap news)
    (mt : (t, ({ cls := .type "tuple", data := .seq #[.ref lf, .int i u1, .bool b] n2 } : Obj)) ∈ news) (mf : (lf, listOf ws.toArray n1) ∈ news) (D1 : DatAll e1 ws ds) (s1 : ∀ p ∈ e1, p ∈ news)
    (md : (t2, ({ cls := .type "tuple", data := .seq #[.ref lv, .int i u2, .bool b] n4 } : Obj)) ∈ news) (mv : (lv, listOf vs.toArray n3) ∈ news) (D2 : DatAll e2 vs ds) (s2 : ∀ p ∈ e2, p ∈ news)
    (ok : ∀ d ∈ ds, kqdOk 8 d = true) (hu : A.units + 64 < cLine) (h : Q (.bool false) s) : wpAny (model prog w) A (compareOp .NotEq (.ref t) (.ref t2)) Q E s := by
  obtain ⟨as, ra⟩ := kqd_all N 8 (D1.mono s1) ok
  obtain ⟨bs, rb⟩ := kqd_all N 8 (D2.mono s2) ok
  have la := kqd_lay 9 (.list ds) (by simpa [kqdOk] using ok)
  rw [kqdP] at la
  have q := kqd_eqv 9 (.list ds) (.list ds) 9 (by simpa [kqdOk] using ok) (by simpa [kqdOk] using ok)
  rw [kqdP] at q
  have q := q.mpr rfl
  have sh : SeqAt.shaped (.tuple [.list (kqdPs ds), .int i, .bool b]) = true := by
    unfold SeqAt.shaped
    have l := kqd_layL ok
    have l2 := l.2
    rw [Bool.and_eq_true]
    refine ⟨by simp [PyData.canLay0, PyData.canLayAll0, l.1], decide_eq_true ?_⟩
    simp only [PyData.depth, PyData.depthAll]
    omega
  refine ne_dataH (reads_tuple_at (N.get mt) rfl rfl (.cons (reads_list_at (N.get mf) rfl rfl (by simpa using ra)) (.cons (.int i u1) (.cons (.bool b) .nil)))) (reads_tuple_at (N.get md) rfl rfl (.cons (reads_list_at (N.get mv) rfl rfl (by simpa using rb)) (.cons (.int i u2) (.cons (.bool b) .nil)))) sh sh hu ?_
  have e : PyData.eqv (.tuple [.list (kqdPs ds), .int i, .bool b]) (.tuple [.list (kqdPs ds), .int i, .bool b]) = true := by
    simp only [PyData.eqv, PyData.eqvAll, Bool.and_true, beq_self_eq_true, Bool.and_eq_true] at q ⊢
    exact q
  rw [e]
  exact h
theorem il_data {h₀ h : Heap} {L l : Addr} {news : List (Addr × Obj)} {o : Obj} {vs : List Int} (N : News h₀ L h news) (hm : (l, o) ∈ news) (hi : IL vs o) (hl : vs.length ≤ 100000) : DataAt h l vs := by
  obtain ⟨us, n, rfl, hu⟩ := hi
  exact ⟨us, ⟨_, (N _ hm).1, rfl, n, rfl⟩, hu, hl⟩
theorem t0_ok {prog : Program} {w : World} {p : Program} {loose : List Str} {mean : ExcName → Option Value} {mg mb : Str → Option Value}
    {dp un : Nat} {gd : Option (List Code)} {a : Addr} {ccd : Value} {A₀ : Around} {h₀ : Heap} {L : Addr} {s : Shared} {Q : Flow → Shared → Prop} {E : Value → Shared → Prop}
    {ld lv lk lo x dx hand cells ch : Addr} {mr : Str → Option Value} {oc : Obj} {cvs : List Value} {ns : List Int} {hh : Int} {ht : Tok} {u1 u2 u3 u4 : Option Value} {kv : List (Int × Val)} {vs : List Value} {n : Nat} {D K W H : Obj} {extra : List (Addr × Obj)}
    (B : Below A₀ h₀ [] h₀) (X : (hd.heap_39 w.params).In h₀) (T : Top p loose mean mg mb h₀)
        (hroom : dp + 100 < recursionLimit) (hun : un + 1000 < cLine)
        (hdc : oc.data = .cell (some (.ref hand))) (O : Order ld lv lk lo x dx hand cells ch)
        (hns : IntsAre cvs ns) (hnl : ns.length ≤ 63)
    (F : Fr h₀ L s.heap (lm u1 u2 u3 u4 ld lv lk x cells mr))
    (N : News h₀ L s.heap (led ld lv lk lo x dx hand cells ch D (listOf vs.toArray n) K W H (wdict hh ht lo) (listOf cvs.toArray 0) oc extra))
    (hD : IL (encs kv) D) (hK : IL (kv.map (·.1)) K) (hW : IL (encs kv) W) (hda : DatAll extra vs (kv.map fun p => toDat p.2)) (hgd : ∀ p ∈ kv, Good p.1 p.2) (hel : (encs kv).length ≤ 600) (hkl : kv.length ≤ 6)
    (next : ∀ h' tk', Fr h₀ L h' (lm u1 u2 u3 u4 ld lv lk x cells mr) → News h₀ L h' (led ld lv lk lo x dx hand cells ch D (listOf vs.toArray n) K W H (wdict hh ht lo) (listOf cvs.toArray 0) oc extra) → Q .next { s with heap := h', toks := tk' }) :
    wpAny (model prog w) (ktrTop dp un gd (Str.ofString "law") lawRec.scope L a ccd [(Str.ofString "hand", ch)] []) (exec lawT0 (envX (Str.ofString "law") lawRec.scope L a ccd [(Str.ofString "hand", ch)])) Q E s := by
  have O' := O
  obtain ⟨q2, q3, q4, q5, q6, q7, q8, q9⟩ := O
  dsimp only [lawT0]
  dsimp only [lawB0, lawB1, lawB2, lawB3, lawIf, lawFor, lawTail, lawRec, behind6, behind1, headS, forBody, ifThen, ifElse]
  k_with_none
  k_steps
  refine Halt.go ?_
  refine ints_ne N (by k_mem) (by k_mem) hW hD (by ktr_units) ?_
  k_steps
  with_reducible refine Halt.go ?_
  refine read_ok B F X T rfl (fun _ h => nomatch h) (room_le hroom (by decide)) (room_le hun (by decide)) (il_data N (by k_mem) hD (by omega)) (il_data N (by k_mem) hK (by rw [List.length_map]; omega)) X T ?ret ?bad
  case bad =>
    intro t h1 tk1 what r i' t2 t4 n hbad
    rw [rall_whole hgd] at hbad; cases hbad
  case ret =>
    intro t lf h1 tk1 vals r i' t1 n1 n2 ws extra' hok hr hi' hda' had k1
    rw [rall_whole hgd] at hok
    cases hok
    obtain rfl : i' = (encs kv).length := by
      have := congrArg List.length hr
      rw [List.length_drop] at this
      simp only [List.length_nil] at this
      omega
    obtain ⟨Fb, Nall, -⟩ := afterNews F N k1 had
    have Nb : News h₀ L h1 ((t, ({ cls := .type "tuple", data := .seq #[.ref lf, .int ((encs kv).length : Int) t1, .bool (decide ((encs kv).length ≤ (encs kv).length))] n2 } : Obj)) :: (lf, listOf ws.toArray n1) :: led ld lv lk lo x dx hand cells ch D (listOf vs.toArray n) K W H (wdict hh ht lo) (listOf cvs.toArray 0) oc (extra ++ extra')) := fun p hp => Nall p (by
      simp only [List.mem_cons, List.mem_append] at hp ⊢
      rcases hp with h | h | h | h | h | h | h | h | h | h | h | h | h <;> simp [h])
    obtain ⟨dvs, dn, rfl, hdi⟩ := hD
    have hdz : dvs.toArray.size = (encs kv).length := by rw [List.size_toArray, hdi.length]
    clear F N Nall had
    k_steps
    with_reducible refine Halt.go ?_
    rename News _ _ _ _ => Nz
    rename Fr _ _ _ _ => Fz
    rw [List.map_map] at hda'
    refine read_ne (i := ((encs kv).length : Int)) (b := true) (ds := kv.map fun p => toDat p.2) (n4 := 0) Nz (by rw [decide_eq_true (Nat.le_refl _)]; k_mem) (by k_mem) hda' (fun p hp => ?_) (by k_mem) (by k_mem) hda (fun p hp => ?_) (fun d hd => ?_) (by ktr_units) ?_
    · simp only [List.mem_cons, List.mem_append]; simp [hp]
    · simp only [List.mem_cons, List.mem_append]; simp [hp]
    · obtain ⟨p, hp, rfl⟩ := List.mem_map.mp hd
      exact toDat_ok _ (hgd p hp)
    k_steps
    refine next _ _ (by rename Fr _ _ _ _ => Fy; exact Fy) fun p hp => Nz p ?_
    simp only [List.mem_cons, List.mem_append] at hp ⊢
    rcases hp with h | h | h | h | h | h | h | h | h | h <;> simp [h]
end

end Mine

open PySem PySem.W PyProof.Rows PySem.Calls
set_option Elab.async false
set_option maxRecDepth 100000
set_option maxHeartbeats 8000000
namespace Mine
example : (Mine.hd.heap_39 = Mine.hd.heap_39) ∧ PySem.Challenge.rw_nu0313_01 = PySem.Challenge.rw_nu0313_01 := by w_top off; k_fill; exact ⟨rfl, rfl⟩
local macro_rules | `(tactic| walk_at "execs cons") => `(tactic| ((with_reducible show wpAny _ _ (execs (Stmt.Assign [Expr.Name (Str.ofString "figure") _] _ _ :: _) _) _ _ _); with_reducible refine halt ?_))

section
local macro_rules | `(tactic| walk_at "no such key") => `(tactic| skip)
local macro_rules | `(tactic| walk_at $k:str) => if ["exec While Compare cons nil", "call ref", "exec For", "exec For Name Call cons nil", "exec For Name Name cons nil", "exec For Name Subscript cons nil"].contains k.getString then `(tactic| with_reducible refine halt ?_) else Lean.Macro.throwUnsupported
noncomputable def lawT2 : List Stmt := behind1 (behind1 (behind1 lawT1))
/-- behind a reading that was refused: the frame's own slots have turned -/
theorem afterBad {h₀ h h' : Heap} {L : Addr} {m : Str → Option Value} {news : List (Addr × Obj)} {fs : List Addr} (F : Fr h₀ L h m) (N : News h₀ L h news) (hfs : fs = [L])
    (k1 : ∀ b o, b ∉ fs → h.get? b = some o → h'.get? b = some o) (k2 : ∀ b o, b ∈ fs → h.get? b = some o → ∃ sl, h'.get? b = some { o with slots := sl }) : Fr h₀ L h' m ∧ News h₀ L h' news := by
  subst hfs
  have hL : h₀.get? L = none := Heap.get?_none_of_le F.above
  refine ⟨⟨?_, fun b o e => k1 b o (fun q => ?_) (F.keep b o e), F.above⟩, fun p hp => ⟨k1 _ _ (fun q => (N p hp).2.1 (List.mem_singleton.mp q)) (N p hp).1, (N p hp).2⟩⟩
  · obtain ⟨o, es, ep, ho, hod, r⟩ := F.ns
    obtain ⟨sl, hs⟩ := k2 L o (.head _) ho
    exact ⟨_, es, ep, hs, hod, r⟩
  · rw [List.mem_singleton.mp q, hL] at e; cases e
theorem t1_ok {prog : Program} {w : World} {p : Program} {loose : List Str} {mean : ExcName → Option Value} {mg mb : Str → Option Value}
    {dp un : Nat} {gd : Option (List Code)} {a : Addr} {ccd : Value} {A₀ : Around} {h₀ : Heap} {L : Addr} {s : Shared} {Q : Flow → Shared → Prop} {E : Value → Shared → Prop}
    {ld lv lk lo x dx hand cells ch : Addr} {mr : Str → Option Value} {oc : Obj} {cvs : List Value} {ns : List Int} {hh : Int} {ht : Tok} {u1 u2 u3 u4 : Option Value} {kv : List (Int × Val)} {vs : List Value} {n : Nat} {D K W H : Obj} {extra : List (Addr × Obj)}
    (B : Below A₀ h₀ [] h₀) (X : (hd.heap_39 w.params).In h₀) (T : Top p loose mean mg mb h₀)
        (hroom : dp + 100 < recursionLimit) (hun : un + 1000 < cLine)
        (hdc : oc.data = .cell (some (.ref hand))) (O : Order ld lv lk lo x dx hand cells ch)
        (hns : IntsAre cvs ns) (hnl : ns.length ≤ 63)
    (F : Fr h₀ L s.heap (lm u1 u2 u3 u4 ld lv lk x cells mr))
    (N : News h₀ L s.heap (led ld lv lk lo x dx hand cells ch D (listOf vs.toArray n) K W H (wdict hh ht lo) (listOf cvs.toArray 0) oc extra))
    (hex : OwnOff extra [ld, lv, lk, lo, x, dx, hand, cells, ch])
    (hD : IL (encs kv) D) (hK : IL (kv.map (·.1)) K) (hH : HandO cells ns.length 0 H) (hgd : ∀ p ∈ kv, Good p.1 p.2) (hel : (encs kv).length ≤ 600) (he1 : 1 ≤ (encs kv).length) (hkl : kv.length ≤ 6)
    (next : ∀ h' tk' m' H', Fr h₀ L h' m' → News h₀ L h' [(hand, H'), (cells, listOf cvs.toArray 0), (ch, oc)] → HandO cells ns.length 0 H' → wpAny (model prog w) (ktrTop dp un gd (Str.ofString "law") lawRec.scope L a ccd [(Str.ofString "hand", ch)] []) (execs lawT2 (envX (Str.ofString "law") lawRec.scope L a ccd [(Str.ofString "hand", ch)])) Q E { s with heap := h', toks := tk' }) :
    wpAny (model prog w) (ktrTop dp un gd (Str.ofString "law") lawRec.scope L a ccd [(Str.ofString "hand", ch)] []) (execs lawT1 (envX (Str.ofString "law") lawRec.scope L a ccd [(Str.ofString "hand", ch)])) Q E s := by
  have O' := O
  obtain ⟨q2, q3, q4, q5, q6, q7, q8, q9⟩ := O
  obtain ⟨dvs, dn, rfl, hdi⟩ := hD
  have hdz : dvs.toArray.size = (encs kv).length := by rw [List.size_toArray, hdi.length]
  dsimp only [lawT1]
  dsimp only [lawB0, lawB1, lawB2, lawB3, lawIf, lawFor, lawTail, lawRec, behind6, behind1, headS, forBody, ifThen, ifElse]
  k_with_none
  k_steps
  with_reducible refine Halt.go ?_
  rename Fr _ _ _ _ => Fa
  rename News _ _ _ _ => Na
  refine pick_ok B Fa X T rfl (onlyN Na (by k_mem)) (room_le hroom (by decide)) (room_le hun (by decide)) (cellsN Na (by k_mem) hns hnl) (Nat.ne_of_lt q3) hH (by omega) (Nat.lt_of_le_of_lt (Nat.log2_le_self _) (by omega)) fun d td h1 tk1 H1 hd0 hd1 hH1 k1 e1 => ?_
  obtain ⟨Fb, Nb⟩ := afterU Fa Na k1 e1 (upd_hand O' (hex.ne (by k_mem)))
  clear Fa Na hH
  k_steps
  with_reducible refine Halt.go ?_
  rename Fr _ _ _ _ => Fa
  rename News _ _ _ _ => Na
  rename IntsAre _ (List.take _ _) => hti
  rename List.length (List.take _ _) = _ => htl
  have hcut := rall_cut hgd (k := d.toNat) (by omega)
  refine read_ok B Fa X T rfl (fun _ h => nomatch h) (room_le hroom (by decide)) (room_le hun (by decide)) (il_data Na (.head _) ⟨_, _, rfl, hti⟩ (by omega)) (il_data Na (by k_mem) hK (by rw [List.length_map]; omega)) X T ?ret ?bad
  case ret =>
    intro t lf h1 tk1 vals r i' t1 n1 n2 ws extra' hok
    obtain ⟨w0, r0, hc, -⟩ := hcut
    rw [hok] at hc; cases hc
  case bad =>
    intro t h2 tk2 what r i' t2 t4 n2 hbad hr hi' et nt k2 k3
    obtain ⟨w0, r0, hc, hwh⟩ := hcut
    rw [hbad] at hc
    obtain ⟨rfl, rfl⟩ : what = w0 ∧ r = r0 := by cases hc; exact ⟨rfl, rfl⟩
    clear hc hbad
    have hid : i' ≤ d.toNat := by omega
    obtain ⟨Fb, Nb⟩ := afterBad Fa Na (by rfl) k2 k3
    have Nc : News h₀ L h2 [(t, ({ cls := .type "tuple", data := .seq #[.str (Str.ofString what) t2, .int (i' : Int) t4] n2 } : Obj)), (hand, H1), (cells, listOf cvs.toArray 0), (ch, oc)] := fun p hp => by
      rcases List.mem_cons.mp hp with rfl | hp
      · refine ⟨et, fun q => ?_, ?_⟩
        · obtain ⟨oL, es, ep, hL, _⟩ := Fa.ns
          dsimp only at q
          rw [q, hL] at nt; cases nt
        · cases q : h₀.get? t with
          | none => rfl
          | some o' => rw [Fa.keep _ _ q] at nt; cases nt
      · refine Nb p ?_
        simp only [List.mem_cons, List.not_mem_nil, or_false] at hp ⊢
        rcases hp with h | h | h <;> simp [h]
    clear Fa Na Nb k2 k3 et nt
    rcases hwh with rfl | rfl
    · k_steps
      with_reducible refine Halt.go ?_
      rename Fr _ _ _ _ => Fa
      rename News _ _ _ _ => Na
      exact next _ _ _ H1 Fa (sub3 Na (by k_mem) (by k_mem) (by k_mem)) hH1
    · k_steps
      with_reducible refine Halt.go ?_
      rename Fr _ _ _ _ => Fa
      rename News _ _ _ _ => Na
      exact next _ _ _ H1 Fa (sub3 Na (by k_mem) (by k_mem) (by k_mem)) hH1
end

end Mine

open PySem PySem.W PyProof.Rows PySem.Calls
set_option Elab.async false
set_option maxRecDepth 100000
set_option maxHeartbeats 8000000
namespace Mine
example : (Mine.hd.heap_39 = Mine.hd.heap_39) ∧ PySem.Challenge.rw_nu0313_01 = PySem.Challenge.rw_nu0313_01 := by w_top off; k_fill; exact ⟨rfl, rfl⟩
theorem ints_snoc {g : Int} : ∀ {gs : List Int} {us : List Value}, IntsAre us (gs ++ [g]) → ∃ ws t, us = ws ++ [.int g t] ∧ IntsAre ws gs
  | [], _, h => by
    cases h with
    | cons n t r => cases r; exact ⟨[], t, rfl, .nil⟩
  | _ :: gs, _, h => by
    cases h with
    | cons n t r =>
      obtain ⟨ws, t', rfl, hw⟩ := ints_snoc (gs := gs) r
      exact ⟨.int _ t :: ws, t', rfl, .cons _ _ hw⟩
theorem gr_snoc (n : Nat) : ∃ gs g, gr n = gs ++ [g] := by
  have h : gr n ≠ [] := fun q => by
    have := gr_len_pos n
    rw [q] at this; exact absurd this (Nat.lt_irrefl _)
  exact ⟨(gr n).dropLast, (gr n).getLast h, (List.dropLast_concat_getLast h).symm⟩
theorem last_itemA {prog : Program} {w : World} {A : Around} {E : Value → Shared → Prop} {s : Shared} {h₀ : Heap} {L l : Addr} {news : List (Addr × Obj)} {vs : List Value} {v : Value} {n : Nat} {value slice : PySem.Expr} {t : Tok} {Q : Value → Shared → Prop} (N : News h₀ L s.heap news)
    (hm : (l, listOf (vs ++ [v]).toArray n) ∈ news) (h : Q v s) (hs : subscripted slice false (.ref l) (.int (-1) t) = operate [.ref l, .int (-1) t] (getItem (.ref l) (.int (-1) t)) := by with_unfolding_all rfl) :
    wpAny (model prog w) A (subscriptTail value slice (.ref l) (.int (-1) t)) Q E s := last_item N (by rw [push_list]; exact hm) h hs
theorem rall_ex0 : rall [0] [128, 0] = .bad "long_number" (List.drop 2 [128, 0]) := by rfl
theorem rall_ex2 : rall [3] [256] = .bad "bad_byte" (List.drop 0 [256]) := by rfl
theorem rall_ex3 : rall [0] [-1] = .bad "bad_byte" (List.drop 0 [-1]) := by rfl
theorem rall_ex4 : rall [1] [1] = .bad "bad_count" (List.drop 1 [1]) := by rfl
theorem rall_ex5 : rall [2] [4, 0] = .bad "bad_count" (List.drop 1 [4, 0]) := by rfl
theorem rall_ex6 : rall [1] [2, 128, 128, 136, 1] = .bad "bad_char" (List.drop 5 [2, 128, 128, 136, 1]) := by rfl
theorem rall_ex7 : rall [1] [2, 1] = .bad "bad_char" (List.drop 2 [2, 1]) := by rfl
theorem rall_ex8 : rall [3] [] = .bad "cut_off" (List.drop 0 []) := by rfl
theorem read_bad {prog : Program} {w : World} {p : Program} {loose : List Str} {mean : ExcName → Option Value} {mg mb : Str → Option Value}
    {dp un : Nat} {gd : Option (List Code)} {a : Addr} {ccd : Value} {A₀ : Around} {h₀ : Heap} {L ch : Addr} {s : Shared} {Q : Value → Shared → Prop} {E : Value → Shared → Prop}
    {m : Str → Option Value} {news : List (Addr × Obj)} {row ord : Addr} {rvs ovs : List Value} {n1 n2 : Nat} {ds ks : List Int} {what : String} {i : Nat}
    (B : Below A₀ h₀ [] h₀) (X : (hd.heap_39 w.params).In h₀) (T : Top p loose mean mg mb h₀) (hroom : dp + 100 < recursionLimit) (hun : un + 1000 < cLine)
    (F : Fr h₀ L s.heap m) (N : News h₀ L s.heap news) (mr : (row, listOf rvs.toArray n1) ∈ news) (mo : (ord, listOf ovs.toArray n2) ∈ news) (ir : IntsAre rvs ds) (io : IntsAre ovs ks) (hl : ds.length ≤ 100) (hk : ks.length ≤ 100)
    (hbad : rall ks ds = .bad what (ds.drop i)) (hi : i ≤ ds.length)
    (ret : ∀ t h' tk' t1 t2 n, Fr h₀ L h' m → News h₀ L h' ((t, ({ cls := .type "tuple", data := .seq #[.str (Str.ofString what) t1, .int (i : Int) t2] n } : Obj)) :: news) → Q (.ref t) { s with heap := h', toks := tk' }) :
    wpAny (model prog w) (ktrTop dp un gd (Str.ofString "law") lawRec.scope L a ccd [(Str.ofString "hand", ch)] []) (call (.ref 196) [.ref row, .ref ord]) Q E s := by
  refine read_ok B F X T rfl (fun _ h => nomatch h) (room_le hroom (by decide)) (room_le hun (by decide)) (il_data N mr ⟨_, _, rfl, ir⟩ (by omega)) (il_data N mo ⟨_, _, rfl, io⟩ (by omega)) X T ?ret ?bad
  case ret =>
    intro t lf h1 tk1 vals r i' t1 n1 n2 ws extra' hok
    rw [hbad] at hok; cases hok
  case bad =>
    intro t h2 tk2 what' r i' t2 t4 n2 hb hr hi' et nt k2 k3
    rw [hbad] at hb
    obtain ⟨rfl, hre⟩ : what = what' ∧ ds.drop i = r := by cases hb; exact ⟨rfl, rfl⟩
    obtain rfl : i' = i := by
      have := congrArg List.length (hr.trans hre.symm)
      rw [List.length_drop, List.length_drop] at this
      omega
    obtain ⟨Fb, Nb⟩ := afterBad F N (by rfl) k2 k3
    refine ret t h2 tk2 t2 t4 n2 Fb fun p hp => ?_
    rcases List.mem_cons.mp hp with rfl | hp
    · refine ⟨et, fun q => ?_, ?_⟩
      · obtain ⟨oL, es, ep, hL, _⟩ := F.ns
        dsimp only at q
        rw [q, hL] at nt; cases nt
      · cases q : h₀.get? t with
        | none => rfl
        | some o' => rw [F.keep _ _ q] at nt; cases nt
    · exact Nb p hp
theorem tup_eq {prog : Program} {w : World} {A : Around} {E Q : Value → Shared → Prop} {s : Shared} {h₀ : Heap} {L t u : Addr} {news : List (Addr × Obj)} {x : Str} {i j : Int} {t1 t2 t3 t4 : Tok} {n1 n2 : Nat} (N : News h₀ L s.heap news)
    (mt : (t, ({ cls := .type "tuple", data := .seq #[.str x t1, .int i t2] n1 } : Obj)) ∈ news) (mu : (u, ({ cls := .type "tuple", data := .seq #[.str x t3, .int j t4] n2 } : Obj)) ∈ news) (hij : i = j) (hx : PyData.strOk x = true)
    (hu : A.units + 64 < cLine) (h : Q (.bool true) s) : wpAny (model prog w) A (compareOp .Eq (.ref t) (.ref u)) Q E s := by
  subst hij
  have sh : SeqAt.shaped (.tuple [.str x, .int i]) = true := by
    unfold SeqAt.shaped
    rw [Bool.and_eq_true]
    exact ⟨by simp [PyData.canLay0, PyData.canLayAll0, hx], decide_eq_true (by simp [PyData.depth, PyData.depthAll])⟩
  refine eq_dataH (reads_tuple_at (N.get mt) rfl rfl (.cons (.str x t1) (.cons (.int i t2) .nil))) (reads_tuple_at (N.get mu) rfl rfl (.cons (.str x t3) (.cons (.int i t4) .nil))) sh sh hu ?_
  have e : PyData.eqv (.tuple [.str x, .int i]) (.tuple [.str x, .int i]) = true := by simp [PyData.eqv, PyData.eqvAll]
  rw [e]
  exact h
theorem rall_ex1 {gs : List Int} {g : Int} (h : rnum ((gs ++ [g]).dropLast ++ [(gs ++ [g]).getLastD 0 + 128, 0]) = .bad "long_number" []) : rall [0] (gs ++ [g + 128, 0]) = .bad "long_number" (List.drop (gs.length + 2) (gs ++ [g + 128, 0])) := by
  have e1 : (gs ++ [g]).dropLast = gs := List.dropLast_concat
  have e2 : (gs ++ [g]).getLastD 0 = g := by simp
  rw [e1, e2] at h
  rw [List.drop_of_length_le (by simp), rall, rkind, if_pos rfl, h]
  rfl
theorem take_last (gs : List Int) (g : Int) : List.take ((gs ++ [g]).length - 1) (gs ++ [g]) = gs := by simp
/-- a row of the menu: what is read, by what orders, what is told -/
def MenuRow (news : List (Addr × Obj)) (a : Addr) : Prop :=
  ∃ (row ord told : Addr) (n0 n1 n2 n3 : Nat) (rvs ovs : List Value) (ds ks : List Int) (what : String) (i : Nat) (j : Int) (t1 t2 : Tok),
    (a, ({ cls := .type "tuple", data := .seq #[.ref row, .ref ord, .ref told] n0 } : Obj)) ∈ news ∧ (row, listOf rvs.toArray n1) ∈ news ∧ (ord, listOf ovs.toArray n2) ∈ news ∧
    (told, ({ cls := .type "tuple", data := .seq #[.str (Str.ofString what) t1, .int j t2] n3 } : Obj)) ∈ news ∧ IntsAre rvs ds ∧ IntsAre ovs ks ∧ ds.length ≤ 100 ∧ ks.length ≤ 100 ∧
    rall ks ds = .bad what (ds.drop i) ∧ i ≤ ds.length ∧ (i : Int) = j ∧ PyData.strOk (Str.ofString what) = true
/-- what a row of the menu is made of: tuples, and lists of ints -/
def IsRow (o : Obj) : Prop := o.cls = .type "tuple" ∨ ∃ (rvs : List Value) (n : Nat) (ds : List Int), o = listOf rvs.toArray n ∧ IntsAre rvs ds
open Classical in
noncomputable def rowsOf (news : List (Addr × Obj)) : List (Addr × Obj) := news.filter fun p => decide (IsRow p.2)
open Classical in
theorem rowsOf_mem {news : List (Addr × Obj)} {p : Addr × Obj} : p ∈ rowsOf news ↔ p ∈ news ∧ IsRow p.2 := by
  simp [rowsOf]
theorem MenuRow.sub {news : List (Addr × Obj)} {a : Addr} (h : MenuRow news a) : MenuRow (rowsOf news) a := by
  obtain ⟨row, ord, told, m0, m1, m2, m3, rvs, ovs, ds, ks, what, i, j, t1, t2, r1, r2, r3, r4, r5, r6, r⟩ := h
  exact ⟨row, ord, told, m0, m1, m2, m3, rvs, ovs, ds, ks, what, i, j, t1, t2, rowsOf_mem.mpr ⟨r1, .inl rfl⟩, rowsOf_mem.mpr ⟨r2, .inr ⟨_, _, _, rfl, r5⟩⟩, rowsOf_mem.mpr ⟨r3, .inr ⟨_, _, _, rfl, r6⟩⟩, rowsOf_mem.mpr ⟨r4, .inl rfl⟩, r5, r6, r⟩
theorem MenuRow.mono {news news' : List (Addr × Obj)} {a : Addr} (h : MenuRow news a) (s : ∀ p ∈ news, p ∈ news') : MenuRow news' a := by
  obtain ⟨row, ord, told, m0, m1, m2, m3, rvs, ovs, ds, ks, what, i, j, t1, t2, r1, r2, r3, r4, r⟩ := h
  exact ⟨row, ord, told, m0, m1, m2, m3, rvs, ovs, ds, ks, what, i, j, t1, t2, s _ r1, s _ r2, s _ r3, s _ r4, r⟩
/-- a list of objects is no row: no row lies at its address -/
theorem row_off {h₀ h : Heap} {L l b : Addr} {news : List (Addr × Obj)} {us : List Value} {n : Nat} (N : News h₀ L h news) (hm : (l, listOf (Value.ref b :: us).toArray n) ∈ news) : ∀ p ∈ rowsOf news, p.1 ≠ l := by
  intro p hp e
  obtain ⟨h1, h2⟩ := rowsOf_mem.mp hp
  have q := (N p h1).1
  have q' := (N _ hm).1
  dsimp only at q'
  rw [e, q'] at q
  have q := Option.some.inj q
  rcases h2 with h2 | ⟨rvs, k, ds, h2, hi⟩
  · rw [← q] at h2
    injection h2 with h2
    exact absurd h2 (by decide)
  · rw [← q] at h2
    have h3 := congrArg Obj.data h2
    injection h3 with h3
    have h4 : Value.ref b :: us = rvs := congrArg Array.toList h3
    rw [← h4] at hi
    cases hi
/-- the menu's second half goes behind its first; the rows stand -/
theorem menu_iadd {prog : Program} {w : World} {A : Around} {E Q : Value → Shared → Prop} {s : Shared} {h₀ : Heap} {L D l hand cells ch b : Addr} {m : Str → Option Value} {news : List (Addr × Obj)} {us ws cvs : List Value} {n k c0 : Nat} {H oc : Obj} {ln : Int}
    (F : Fr h₀ L s.heap m) (N : News h₀ L s.heap news) (hD : (D, listOf (Value.ref b :: us).toArray n) ∈ news) (hl : (l, listOf ws.toArray k) ∈ news) (hh : (hand, H) ∈ news) (hc : (cells, listOf cvs.toArray c0) ∈ news) (hch : (ch, oc) ∈ news)
    (hz : (Value.ref b :: us).length + ws.length ≤ 100000) (nh : @Ne Nat hand D) (nc : @Ne Nat cells D) (nch : @Ne Nat ch D) (nl : @Ne Nat l D) (rows : ∀ x ∈ (Value.ref b :: us) ++ ws, ∃ a, x = .ref a ∧ MenuRow news a) (hH : HandO cells ln 0 H)
    (h : ∀ h' c extra, Fr h₀ L h' m → News h₀ L h' ((D, listOf ((Value.ref b :: us) ++ ws).toArray c) :: (hand, H) :: (cells, listOf cvs.toArray c0) :: (ch, oc) :: extra) → (∀ p ∈ extra, p.1 ≠ D ∧ p.1 ≠ hand) →
      (∀ x ∈ (Value.ref b :: us) ++ ws, ∃ a, x = .ref a ∧ MenuRow extra a) → Q (.ref D) { s with heap := h' }) : wpAny (model prog w) A (inplaceOp .Add (.ref D) (.ref l)) Q E s := by
  have oD := row_off N hD
  have oH : ∀ p ∈ rowsOf news, p.1 ≠ hand := by
    obtain ⟨i, r, sd, t1, t2, t3, rfl, _⟩ := hH
    exact row_off N hh
  refine iadd_NV (us := Value.ref b :: us) (ws := ws) (n := n) (k := k) (news := (D, listOf (Value.ref b :: us).toArray n) :: (l, listOf ws.toArray k) :: (hand, H) :: (cells, listOf cvs.toArray c0) :: (ch, oc) :: rowsOf news) F (fun p hp => ?n0) (.head fun p hp => ?n1) (.tail _ (.head _)) hz
    fun h' c F' N' => h h' c (rowsOf news) F' (fun p hp => N' p ?n2) (fun p hp => ⟨oD p hp, oH p hp⟩) fun x hx => ?n3
  case n0 =>
    simp only [List.mem_cons] at hp
    rcases hp with rfl | rfl | rfl | rfl | rfl | hp
    · exact N _ hD
    · exact N _ hl
    · exact N _ hh
    · exact N _ hc
    · exact N _ hch
    · exact N _ (rowsOf_mem.mp hp).1
  case n1 =>
    simp only [List.mem_cons] at hp
    rcases hp with rfl | rfl | rfl | rfl | hp
    · exact nl
    · exact nh
    · exact nc
    · exact nch
    · exact oD p hp
  case n2 =>
    rcases List.mem_cons.mp hp with rfl | hp
    · exact .head _
    · exact .tail _ (.tail _ hp)
  case n3 =>
    obtain ⟨a, ha, hr⟩ := rows x hx
    exact ⟨a, ha, hr.sub⟩
/-- a row of the menu is made: its parts go to the rows -/
theorem row_new {M : Model} {A : Around} {E Q : Value → Shared → Prop} {s : Shared} {h₀ : Heap} {L row ord told : Addr} {m : Str → Option Value} {news extra : List (Addr × Obj)} {b1 b2 b3 b4 b5 : Addr × Obj} {n1 n2 n3 : Nat} {rvs ovs : List Value} {ds ks : List Int} {j : Int} {t1 t2 : Tok} (what : String) (i : Nat)
    (F : Fr h₀ L s.heap m) (N : News h₀ L s.heap news) (h1 : b1 ∈ news) (h2 : b2 ∈ news) (h3 : b3 ∈ news) (h4 : b4 ∈ news) (h5 : b5 ∈ news) (he : ∀ p ∈ extra, p ∈ news)
    (r2 : (row, listOf rvs.toArray n1) ∈ news) (r3 : (ord, listOf ovs.toArray n2) ∈ news) (r4 : (told, ({ cls := .type "tuple", data := .seq #[.str (Str.ofString what) t1, .int j t2] n3 } : Obj)) ∈ news)
    (ir : IntsAre rvs ds) (io : IntsAre ovs ks) (hl : ds.length ≤ 100) (hk : ks.length ≤ 100) (hb : rall ks ds = .bad what (ds.drop i)) (hi : i ≤ ds.length) (hj : (i : Int) = j) (hs : PyData.strOk (Str.ofString what) = true)
    (k : ∀ h' a extra', Fr h₀ L h' m → News h₀ L h' (b1 :: b2 :: b3 :: b4 :: b5 :: extra') → (∀ p ∈ extra, p ∈ extra') → MenuRow extra' a → Q (.ref a) { s with heap := h' }) :
    wpAny M A (newTuple [.ref row, .ref ord, .ref told]) Q E s := by
  refine newTuple_N F N (fun h' F' N' => ?_) (by rw [sizeLine_eq]; simp)
  refine k h' _ ((s.heap.objs.size, ({ cls := .type "tuple", data := .seq [Value.ref row, .ref ord, .ref told].toArray } : Obj)) :: (row, listOf rvs.toArray n1) :: (ord, listOf ovs.toArray n2) :: (told, ({ cls := .type "tuple", data := .seq #[.str (Str.ofString what) t1, .int j t2] n3 } : Obj)) :: extra) F' (fun p hp => ?_) (fun p hp => .tail _ (.tail _ (.tail _ (.tail _ hp))))
    ⟨row, ord, told, _, n1, n2, n3, rvs, ovs, ds, ks, what, i, j, t1, t2, .head _, .tail _ (.head _), .tail _ (.tail _ (.head _)), .tail _ (.tail _ (.tail _ (.head _))), ir, io, hl, hk, hb, hi, hj, hs⟩
  simp only [List.mem_cons] at hp
  rcases hp with rfl | rfl | rfl | rfl | rfl | rfl | rfl | rfl | rfl | hp
  · exact N' _ (.tail _ h1)
  · exact N' _ (.tail _ h2)
  · exact N' _ (.tail _ h3)
  · exact N' _ (.tail _ h4)
  · exact N' _ (.tail _ h5)
  · exact N' _ (.head _)
  · exact N' _ (.tail _ r2)
  · exact N' _ (.tail _ r3)
  · exact N' _ (.tail _ r4)
  · exact N' _ (.tail _ (he p hp))
theorem off_two {a b : Addr × Obj} {l : Addr} {extra : List (Addr × Obj)} (h1 : @Ne Nat a.1 l) (h2 : @Ne Nat b.1 l) (h3 : ∀ p ∈ extra, p.1 ≠ l) : ∀ p ∈ a :: b :: extra, p.1 ≠ l := by
  intro p hp
  rcases List.mem_cons.mp hp with rfl | hp
  · exact h1
  · rcases List.mem_cons.mp hp with rfl | hp
    · exact h2
    · exact h3 p hp
theorem menu_split {prog : Program} {w : World} {A : Around} {E Q : Value → Shared → Prop} {s : Shared} {h₀ : Heap} {L l : Addr} {news : List (Addr × Obj)} {us : List Value} {c : Nat} {d : Int} {t : Tok} {value slice : PySem.Expr} (N : News h₀ L s.heap news)
    (hm : (l, listOf us.toArray c) ∈ news) (h0 : 0 ≤ d) (h1 : d < (us.length : Int)) (h2 : us.length ≤ 9) {extra : List (Addr × Obj)} (rows : ∀ x ∈ us, ∃ a, x = .ref a ∧ MenuRow extra a) (sub : ∀ p ∈ extra, p ∈ news) (k : ∀ a, MenuRow news a → Q (.ref a) s)
    (hs : subscripted slice false (.ref l) (.int d t) = operate [.ref l, .int d t] (getItem (.ref l) (.int d t)) := by with_unfolding_all rfl) :
    wpAny (model prog w) A (subscriptTail value slice (.ref l) (.int d t)) Q E s := by
  have hl : s.heap.IsList l us.toArray := ⟨_, (N _ hm).1, rfl, c, rfl⟩
  have hk : d.toNat < us.length := by omega
  obtain ⟨a, ha, hr⟩ := rows (us[d.toNat]) (List.getElem_mem hk)
  refine tail_any hl.typeIs slot_list_getitem.lookup (wpAny_getItem_list (x := us[d.toNat]) hl h0 (by omega) ?_ (ha ▸ k a (hr.mono sub))) hs
  simp [List.getElem?_eq_getElem hk]
theorem four {h₀ h : Heap} {L : Addr} {news : List (Addr × Obj)} {a b c d : Addr × Obj} (N : News h₀ L h news) (h1 : a ∈ news) (h2 : b ∈ news) (h3 : c ∈ news) (h4 : d ∈ news) : News h₀ L h [a, b, c, d] := fun p hp => by
  simp only [List.mem_cons, List.not_mem_nil, or_false] at hp
  rcases hp with rfl | rfl | rfl | rfl
  · exact N _ h1
  · exact N _ h2
  · exact N _ h3
  · exact N _ h4
end Mine

open PySem PySem.W PyProof.Rows PySem.Calls
set_option Elab.async false
set_option maxRecDepth 100000
set_option maxHeartbeats 8000000
namespace Mine
example : (Mine.hd.heap_39 = Mine.hd.heap_39) ∧ PySem.Challenge.rw_nu0313_01 = PySem.Challenge.rw_nu0313_01 := by w_top off; k_fill; exact ⟨rfl, rfl⟩
local macro_rules | `(tactic| walk_at "subscriptTail Name UnaryOp ref int") => `(tactic| (k_here; (with_reducible show wpAny _ _ (subscriptTail _ _ (Value.ref _) (Value.int _ _)) _ _ _); (with_unfolding_all refine' last_itemA ?N ?m ?_ ?hs; (case N => k_asm); (case m => with_reducible k_mem); (case hs => with_unfolding_all rfl); k_whole)))

section
local macro_rules | `(tactic| walk_at $k:str) => if ["exec While Compare cons nil", "call ref", "exec For", "exec For Name Call cons nil", "exec For Name Name cons nil", "exec For Name Subscript cons nil", "compareOp Eq ref ref", "subscriptTail Name Call ref int", "loadName", "newTuple", "inplaceOp Add ref", "inplaceOp Add ref ref"].contains k.getString then `(tactic| with_reducible refine halt ?_) else Lean.Macro.throwUnsupported
theorem name_of {h₀ h : Heap} {L b : Addr} {m : Str → Option Value} {x : Str} {P : Prop} (_ : Fr h₀ L h (fun y => if y = x then some (.ref b) else m y)) (k : ∀ b', b' = b → P) : P := k b rfl
theorem t2_ok {prog : Program} {w : World} {p : Program} {loose : List Str} {mean : ExcName → Option Value} {mg mb : Str → Option Value}
    {dp un : Nat} {gd : Option (List Code)} {a : Addr} {ccd : Value} {A₀ : Around} {h₀ : Heap} {L : Addr} {s : Shared} {Q : Flow → Shared → Prop} {E : Value → Shared → Prop}
    {ld lv lk lo x dx hand cells ch : Addr} {mr : Str → Option Value} {oc : Obj} {cvs : List Value} {ns : List Int} {hh : Int} {ht : Tok} {m : Str → Option Value} {H : Obj}
    (B : Below A₀ h₀ [] h₀) (X : (hd.heap_39 w.params).In h₀) (T : Top p loose mean mg mb h₀)
        (hroom : dp + 100 < recursionLimit) (hun : un + 1000 < cLine)
        (hdc : oc.data = .cell (some (.ref hand))) (O : Order ld lv lk lo x dx hand cells ch)
        (hns : IntsAre cvs ns) (hnl : ns.length ≤ 63)
    (F : Fr h₀ L s.heap m)
    (N : News h₀ L s.heap [(hand, H), (cells, listOf cvs.toArray 0), (ch, oc)])
    (hH : HandO cells ns.length 0 H)
    (ret : ∀ h' m' tk', Fr h₀ L h' m' → Q (.ret (.bool true)) { s with heap := h', toks := tk' }) :
    wpAny (model prog w) (ktrTop dp un gd (Str.ofString "law") lawRec.scope L a ccd [(Str.ofString "hand", ch)] []) (execs lawT2 (envX (Str.ofString "law") lawRec.scope L a ccd [(Str.ofString "hand", ch)])) Q E s := by
  obtain ⟨q2, q3, -, -, -, -, -, -⟩ := O
  dsimp only [lawT2, lawT1]
  dsimp only [lawB0, lawB1, lawB2, lawB3, lawIf, lawFor, lawTail, lawRec, behind6, behind1, headS, forBody, ifThen, ifElse]
  k_with_none
  k_steps
  with_reducible refine Halt.go ?_
  rename Fr _ _ _ _ => Fa
  rename News _ _ _ _ => Na
  refine figure_ok B Fa X T rfl (onlyN Na (by k_mem)) (room_le hroom (by decide)) (room_le hun (by decide)) (cellsN Na (by k_mem) hns hnl) (Nat.ne_of_lt q3) hH fun d td h1 tk1 H1 hd0 hd1 hH1 k1 e1 => ?_
  obtain ⟨Fb, Nb⟩ := afterU (news' := [(hand, H1), (cells, listOf cvs.toArray 0), (ch, oc)]) Fa Na k1 e1 (by k_upd)
  clear Fa Na hH
  have hgl := fig_len hd0 hd1
  k_steps
  with_reducible refine Halt.go ?_
  rename Fr _ _ _ _ => Fa
  rename News _ _ _ _ => Na
  refine groups_ok B Fa X T rfl (fun _ h => nomatch h) (room_le hroom (by decide)) (room_le hun (by decide)) (by omega) fun lg h3 tk3 og hog k3 e3 nl3 => ?_
  obtain ⟨Fb, Nb, off3⟩ := afterNew Fa Na k3 e3 nl3
  clear Fa Na
  have m1 : @Ne Nat hand lg := off3 _ (.head _)
  clear off3 k3 e3 nl3
  obtain ⟨gvs, gn, rfl, hgi⟩ := hog
  obtain ⟨gs, g, hgs⟩ := gr_snoc (zig d)
  have hlong := rnum_long d
  rw [hgs] at hgi hgl hlong
  obtain ⟨gus, gt, rfl, hgu⟩ := ints_snoc hgi
  have hgl2 : gs.length + 1 ≤ 29 := by rw [List.length_append] at hgl; exact hgl
  have hgz : (gus ++ [Value.int g gt]).toArray.size = gs.length + 1 := by rw [List.size_toArray, hgi.length, List.length_append]; rfl
  k_steps
  with_reducible refine Halt.go ?_
  rename Fr _ _ _ _ => Fa
  rename News _ _ _ _ => Na
  try dsimp only
  refine newTuple_N Fa Na (fun hT Fb Nb => ?_) (by rw [sizeLine_eq]; simp)
  clear Fa Na
  k_steps
  with_reducible refine Halt.go ?_
  rename Fr _ _ _ _ => Fa
  rename News _ _ _ _ => Na
  try dsimp only
  refine row_new "long_number" 2 (extra := []) (b1 := (lg, _)) (b2 := (hand, H1)) (b3 := (cells, _)) (b4 := (ch, _)) (b5 := (ch, _)) Fa Na (by k_mem) (by k_mem) (by k_mem) (by k_mem) (by k_mem) (fun _ h => nomatch h) (by k_mem) (by k_mem) (by k_mem) (.cons _ _ (.cons _ _ .nil)) (.cons _ _ .nil) (by decide) (by decide) rall_ex0 (by decide) rfl (by decide +kernel) fun hR0 a0 x0 Fb Nb s0 r0 => ?_
  clear Fa Na
  k_steps
  with_reducible refine Halt.go ?_
  rename Fr _ _ _ _ => Fa
  rename News _ _ _ _ => Na
  try dsimp only
  refine newTuple_N Fa Na (fun hT Fb Nb => ?_) (by rw [sizeLine_eq]; simp)
  clear Fa Na
  k_steps
  with_reducible refine Halt.go ?_
  rename Fr _ _ _ _ => Fa
  rename News _ _ _ _ => Na
  try dsimp only
  rename IntsAre _ (_ ++ [_ + 128, 0]) => hrow1
  rw [take_last] at hrow1
  refine row_new "long_number" (gs.length + 2) (extra := x0) (b1 := (lg, _)) (b2 := (hand, H1)) (b3 := (cells, _)) (b4 := (ch, _)) (b5 := (ch, _)) Fa Na (by k_mem) (by k_mem) (by k_mem) (by k_mem) (by k_mem) (by intro p hp; repeat (first | exact hp | refine List.Mem.tail _ ?_)) (by k_mem) (by k_mem) (by k_mem) hrow1 (.cons _ _ .nil) (by rw [List.length_append]; show _ + 2 ≤ _; omega) (by decide) (rall_ex1 hlong) (by rw [List.length_append]; exact Nat.le_refl _) (by omega) (by decide +kernel) fun hR1 a1 x1 Fb Nb s1 r1 => ?_
  clear Fa Na
  k_steps
  with_reducible refine Halt.go ?_
  rename Fr _ _ _ _ => Fa
  rename News _ _ _ _ => Na
  try dsimp only
  refine newTuple_N Fa Na (fun hT Fb Nb => ?_) (by rw [sizeLine_eq]; simp)
  clear Fa Na
  k_steps
  with_reducible refine Halt.go ?_
  rename Fr _ _ _ _ => Fa
  rename News _ _ _ _ => Na
  try dsimp only
  refine row_new "bad_byte" 0 (extra := x1) (b1 := (lg, _)) (b2 := (hand, H1)) (b3 := (cells, _)) (b4 := (ch, _)) (b5 := (ch, _)) Fa Na (by k_mem) (by k_mem) (by k_mem) (by k_mem) (by k_mem) (by intro p hp; repeat (first | exact hp | refine List.Mem.tail _ ?_)) (by k_mem) (by k_mem) (by k_mem) (.cons _ _ .nil) (.cons _ _ .nil) (by decide) (by decide) rall_ex2 (by decide) rfl (by decide +kernel) fun hR2 a2 x2 Fb Nb s2 r2 => ?_
  clear Fa Na
  k_steps
  with_reducible refine Halt.go ?_
  rename Fr _ _ _ _ => Fa
  rename News _ _ _ _ => Na
  try dsimp only
  refine newTuple_N Fa Na (fun hT Fb Nb => ?_) (by rw [sizeLine_eq]; simp)
  clear Fa Na
  k_steps
  with_reducible refine Halt.go ?_
  rename Fr _ _ _ _ => Fa
  rename News _ _ _ _ => Na
  try dsimp only
  refine row_new "bad_byte" 0 (extra := x2) (b1 := (lg, _)) (b2 := (hand, H1)) (b3 := (cells, _)) (b4 := (ch, _)) (b5 := (ch, _)) Fa Na (by k_mem) (by k_mem) (by k_mem) (by k_mem) (by k_mem) (by intro p hp; repeat (first | exact hp | refine List.Mem.tail _ ?_)) (by k_mem) (by k_mem) (by k_mem) (.cons _ _ .nil) (.cons _ _ .nil) (by decide) (by decide) rall_ex3 (by decide) rfl (by decide +kernel) fun hR3 a3 x3 Fb Nb s3 r3 => ?_
  clear Fa Na
  k_steps
  with_reducible refine Halt.go ?_
  rename Fr _ _ _ _ => Fa
  rename News _ _ _ _ => Na
  refine name_of Fa fun lb hlb => ?_
  subst hlb
  have nlh : @Ne Nat hand lb := by k_ne
  have nlc : @Ne Nat cells lb := by k_ne
  have nlch : @Ne Nat ch lb := by k_ne
  refine ldnX Fa rfl ?_
  k_steps
  with_reducible refine Halt.go ?_
  rename Fr _ _ _ _ => Fa
  rename News _ _ _ _ => Na
  try dsimp only
  refine newTuple_N Fa Na (fun hT Fb Nb => ?_) (by rw [sizeLine_eq]; simp)
  clear Fa Na
  k_steps
  with_reducible refine Halt.go ?_
  rename Fr _ _ _ _ => Fa
  rename News _ _ _ _ => Na
  try dsimp only
  refine row_new "bad_count" 1 (extra := x3) (b1 := (lb, _)) (b2 := (hand, H1)) (b3 := (cells, _)) (b4 := (ch, _)) (b5 := (ch, _)) Fa Na (by k_mem) (by k_mem) (by k_mem) (by k_mem) (by k_mem) (by intro p hp; repeat (first | exact hp | refine List.Mem.tail _ ?_)) (by k_mem) (by k_mem) (by k_mem) (.cons _ _ .nil) (.cons _ _ .nil) (by decide) (by decide) rall_ex4 (by decide) rfl (by decide +kernel) fun hR4 a4 x4 Fb Nb s4 r4 => ?_
  clear Fa Na
  k_steps
  with_reducible refine Halt.go ?_
  rename Fr _ _ _ _ => Fa
  rename News _ _ _ _ => Na
  try dsimp only
  refine newTuple_N Fa Na (fun hT Fb Nb => ?_) (by rw [sizeLine_eq]; simp)
  clear Fa Na
  k_steps
  with_reducible refine Halt.go ?_
  rename Fr _ _ _ _ => Fa
  rename News _ _ _ _ => Na
  try dsimp only
  refine row_new "bad_count" 1 (extra := x4) (b1 := (lb, _)) (b2 := (hand, H1)) (b3 := (cells, _)) (b4 := (ch, _)) (b5 := (ch, _)) Fa Na (by k_mem) (by k_mem) (by k_mem) (by k_mem) (by k_mem) (by intro p hp; repeat (first | exact hp | refine List.Mem.tail _ ?_)) (by k_mem) (by k_mem) (by k_mem) (.cons _ _ (.cons _ _ .nil)) (.cons _ _ .nil) (by decide) (by decide) rall_ex5 (by decide) rfl (by decide +kernel) fun hR5 a5 x5 Fb Nb s5 r5 => ?_
  clear Fa Na
  k_steps
  with_reducible refine Halt.go ?_
  rename Fr _ _ _ _ => Fa
  rename News _ _ _ _ => Na
  have hz4 : (gr (zig 1114112)).length = 4 := by decide +kernel
  refine groups_ok B Fa X T rfl (fun _ h => nomatch h) (room_le hroom (by decide)) (room_le hun (by decide)) (by omega) fun lg2 h4 tk4 og2 hog2 k4 e4 nl4 => ?_
  obtain ⟨Fb, Nb, off4⟩ := afterNew Fa Na k4 e4 nl4
  clear Fa Na k4 e4 nl4 off4
  obtain ⟨hvs, hn, rfl, hhi⟩ := hog2
  rw [show gr (zig 1114112) = [128, 128, 136, 1] from by decide +kernel] at hhi
  k_steps
  with_reducible refine Halt.go ?_
  rename Fr _ _ _ _ => Fa
  rename News _ _ _ _ => Na
  try dsimp only
  refine newTuple_N Fa Na (fun hT Fb Nb => ?_) (by rw [sizeLine_eq]; simp)
  clear Fa Na
  k_steps
  with_reducible refine Halt.go ?_
  rename Fr _ _ _ _ => Fa
  rename News _ _ _ _ => Na
  try dsimp only
  rename IntsAre _ ([2] ++ _) => hrow6
  refine row_new (ds := [2, 128, 128, 136, 1]) "bad_char" 5 (extra := x5) (b1 := (lb, _)) (b2 := (hand, H1)) (b3 := (cells, _)) (b4 := (ch, _)) (b5 := (ch, _)) Fa Na (by k_mem) (by k_mem) (by k_mem) (by k_mem) (by k_mem) (by intro p hp; repeat (first | exact hp | refine List.Mem.tail _ ?_)) (by k_mem) (by k_mem) (by k_mem) hrow6 (.cons _ _ .nil) (by decide) (by decide) rall_ex6 (by decide) rfl (by decide +kernel) fun hR6 a6 x6 Fb Nb s6 r6 => ?_
  clear Fa Na
  k_steps
  with_reducible refine Halt.go ?_
  rename Fr _ _ _ _ => Fa
  rename News _ _ _ _ => Na
  try dsimp only
  refine newTuple_N Fa Na (fun hT Fb Nb => ?_) (by rw [sizeLine_eq]; simp)
  clear Fa Na
  k_steps
  with_reducible refine Halt.go ?_
  rename Fr _ _ _ _ => Fa
  rename News _ _ _ _ => Na
  try dsimp only
  refine row_new "bad_char" 2 (extra := x6) (b1 := (lb, _)) (b2 := (hand, H1)) (b3 := (cells, _)) (b4 := (ch, _)) (b5 := (ch, _)) Fa Na (by k_mem) (by k_mem) (by k_mem) (by k_mem) (by k_mem) (by intro p hp; repeat (first | exact hp | refine List.Mem.tail _ ?_)) (by k_mem) (by k_mem) (by k_mem) (.cons _ _ (.cons _ _ .nil)) (.cons _ _ .nil) (by decide) (by decide) rall_ex7 (by decide) rfl (by decide +kernel) fun hR7 a7 x7 Fb Nb s7 r7 => ?_
  clear Fa Na
  k_steps
  with_reducible refine Halt.go ?_
  rename Fr _ _ _ _ => Fa
  rename News _ _ _ _ => Na
  try dsimp only
  refine newTuple_N Fa Na (fun hT Fb Nb => ?_) (by rw [sizeLine_eq]; simp)
  clear Fa Na
  k_steps
  with_reducible refine Halt.go ?_
  rename Fr _ _ _ _ => Fa
  rename News _ _ _ _ => Na
  try dsimp only
  refine row_new "cut_off" 0 (extra := x7) (b1 := (lb, _)) (b2 := (hand, H1)) (b3 := (cells, _)) (b4 := (ch, _)) (b5 := (ch, _)) Fa Na (by k_mem) (by k_mem) (by k_mem) (by k_mem) (by k_mem) (by intro p hp; repeat (first | exact hp | refine List.Mem.tail _ ?_)) (by k_mem) (by k_mem) (by k_mem) .nil (.cons _ _ .nil) (by decide) (by decide) rall_ex8 (by decide) rfl (by decide +kernel) fun hR8 a8 x8 Fb Nb s8 r8 => ?_
  clear Fa Na
  k_steps
  with_reducible refine Halt.go ?_
  rename Fr _ _ _ _ => Fa
  rename News _ _ _ _ => Na
  refine menu_iadd Fa Na (by k_mem) (by k_mem) (by k_mem) (by k_mem) (by k_mem) (by show 4 + 5 ≤ 100000; decide) nlh nlc nlch (by k_ne) (fun y hy => ?rows) hH1 fun h5 c5 extra Fb Nb ho1 hm => ?_
  case rows =>
    simp only [List.cons_append, List.nil_append, List.mem_cons, List.not_mem_nil, or_false] at hy
    rcases hy with rfl | rfl | rfl | rfl | rfl | rfl | rfl | rfl | rfl
    · exact ⟨_, rfl, r0.mono fun p hp => .tail _ (.tail _ (.tail _ (.tail _ (.tail _ (.tail _ (s8 p (s7 p (s6 p (s5 p (s4 p (s3 p (s2 p (s1 p hp)))))))))))))⟩
    · exact ⟨_, rfl, r1.mono fun p hp => .tail _ (.tail _ (.tail _ (.tail _ (.tail _ (.tail _ (s8 p (s7 p (s6 p (s5 p (s4 p (s3 p (s2 p hp))))))))))))⟩
    · exact ⟨_, rfl, r2.mono fun p hp => .tail _ (.tail _ (.tail _ (.tail _ (.tail _ (.tail _ (s8 p (s7 p (s6 p (s5 p (s4 p (s3 p hp)))))))))))⟩
    · exact ⟨_, rfl, r3.mono fun p hp => .tail _ (.tail _ (.tail _ (.tail _ (.tail _ (.tail _ (s8 p (s7 p (s6 p (s5 p (s4 p hp))))))))))⟩
    · exact ⟨_, rfl, r4.mono fun p hp => .tail _ (.tail _ (.tail _ (.tail _ (.tail _ (.tail _ (s8 p (s7 p (s6 p (s5 p hp)))))))))⟩
    · exact ⟨_, rfl, r5.mono fun p hp => .tail _ (.tail _ (.tail _ (.tail _ (.tail _ (.tail _ (s8 p (s7 p (s6 p hp))))))))⟩
    · exact ⟨_, rfl, r6.mono fun p hp => .tail _ (.tail _ (.tail _ (.tail _ (.tail _ (.tail _ (s8 p (s7 p hp)))))))⟩
    · exact ⟨_, rfl, r7.mono fun p hp => .tail _ (.tail _ (.tail _ (.tail _ (.tail _ (.tail _ (s8 p hp))))))⟩
    · exact ⟨_, rfl, r8.mono fun p hp => .tail _ (.tail _ (.tail _ (.tail _ (.tail _ (.tail _ (hp))))))⟩
  clear Fa Na hrow1 hrow6 hhi hgi hgu hlong hgs m1 r0 r1 r2 r3 r4 r5 r6 r7 r8 s0 s1 s2 s3 s4 s5 s6 s7 s8
  k_steps
  with_reducible refine Halt.go ?_
  rename Fr _ _ _ _ => Fa
  rename News _ _ _ _ => Na
  refine pick_ok B Fa X T rfl (onlyN Na (by k_mem)) (room_le hroom (by decide)) (room_le hun (by decide)) (cellsN Na (by k_mem) hns hnl) (Nat.ne_of_lt q3) hH1 (by decide) (by decide +kernel) fun d6 td6 h6 tk6 H6 hd60 hd61 hH6 k6 e6 => ?_
  obtain ⟨Fb, Nb⟩ := afterU Fa Na k6 e6 (.tail (Ne.symm nlh) (.head (off_two (Nat.ne_of_lt q3) (Nat.ne_of_lt (Nat.lt_trans q2 q3)) fun p hp => (ho1 p hp).2)))
  clear Fa Na k6 e6
  k_steps
  with_reducible refine Halt.go ?_
  rename Fr _ _ _ _ => Fa
  rename News _ _ _ _ => Na
  refine menu_split Na (by k_mem) hd60 (by exact hd61) (by exact Nat.le_refl 9) hm (fun p hp => .tail _ (.tail _ (.tail _ (.tail _ hp)))) fun a ha => ?_
  obtain ⟨row, ord, told, n0, n1, n2, n3, rvs, ovs, ds, ks, what, i, j, t1, t2, r1, r2, r3, r4, r5, r6, r7, r8, r9, r10, r11, r12⟩ := ha
  replace Na := four Na r1 r2 r3 r4
  clear hd60 hd61 hH6 hgz hgl hgl2 r1 r2 r3 r4
  k_steps
  with_reducible refine Halt.go ?_
  rename Fr _ _ _ _ => Fa
  rename News _ _ _ _ => Na
  refine read_bad (what := what) (i := i) B X T hroom hun Fa Na (by k_mem) (by k_mem) r5 r6 r7 r8 r9 r10 fun t7 h7 tk7 t71 t72 n7 Fb Nb => ?_
  clear Fa Na
  k_steps
  with_reducible refine Halt.go ?_
  rename Fr _ _ _ _ => Fa
  rename News _ _ _ _ => Na
  refine tup_eq Na (by k_mem) (by k_mem) r11 r12 (by ktr_units) ?_
  k_steps
  exact ret _ _ _ Fa
end

end Mine

open PySem PySem.W PyProof.Rows PySem.Calls
set_option Elab.async false
set_option maxRecDepth 100000
set_option maxHeartbeats 8000000
namespace Mine
example : (Mine.hd.heap_39 = Mine.hd.heap_39) ∧ PySem.Challenge.rw_nu0313_01 = PySem.Challenge.rw_nu0313_01 := by w_top off; k_fill; exact ⟨rfl, rfl⟩

section
local macro_rules | `(tactic| walk_at $k:str) => if ["exec While Compare cons nil", "call ref", "exec For", "exec For Name Call cons nil", "exec For Name Name cons nil", "exec For Name Subscript cons nil"].contains k.getString then `(tactic| with_reducible refine halt ?_) else Lean.Macro.throwUnsupported
theorem law_rest {prog : Program} {w : World} {p : Program} {loose : List Str} {mean : ExcName → Option Value} {mg mb : Str → Option Value}
    {dp un : Nat} {gd : Option (List Code)} {a : Addr} {ccd : Value} {A₀ : Around} {h₀ : Heap} {L : Addr} {s : Shared} {Q : Flow → Shared → Prop} {E : Value → Shared → Prop}
    {ld lv lk lo x dx hand cells ch : Addr} {mr : Str → Option Value} {oc : Obj} {cvs : List Value} {ns : List Int} {hh : Int} {ht : Tok} {h1 : Obj}
    (B : Below A₀ h₀ [] h₀) (X : (hd.heap_39 w.params).In h₀) (T : Top p loose mean mg mb h₀)
        (hroom : dp + 100 < recursionLimit) (hun : un + 1000 < cLine)
        (hdc : oc.data = .cell (some (.ref hand))) (O : Order ld lv lk lo x dx hand cells ch)
        (hns : IntsAre cvs ns) (hnl : ns.length ≤ 63)
    (hE : PassesOwn (model prog w) (ktrTop dp un gd (Str.ofString "law") lawRec.scope L a ccd [(Str.ofString "hand", ch)] []) (envX (Str.ofString "law") lawRec.scope L a ccd [(Str.ofString "hand", ch)]) E)
    (F : Fr h₀ L s.heap (lm0 ld lv lk x cells mr))
    (N : News h₀ L s.heap (led ld lv lk lo x dx hand cells ch (listOf #[] 0) (listOf #[] 0) (listOf #[] 0) (listOf #[] 0) h1 (wdict hh ht lo) (listOf cvs.toArray 0) oc []))
    (hH : HandO cells ns.length 0 h1)
    (ret : ∀ h' m' tk', Fr h₀ L h' m' → Q (.ret (.bool true)) { s with heap := h', toks := tk' }) :
    wpAny (model prog w) (ktrTop dp un gd (Str.ofString "law") lawRec.scope L a ccd [(Str.ofString "hand", ch)] []) (exec lawFor (envX (Str.ofString "law") lawRec.scope L a ccd [(Str.ofString "hand", ch)]))
      (fun f s' => match f with
        | .next => wpAny (model prog w) (ktrTop dp un gd (Str.ofString "law") lawRec.scope L a ccd [(Str.ofString "hand", ch)] []) (execs lawTail (envX (Str.ofString "law") lawRec.scope L a ccd [(Str.ofString "hand", ch)])) Q E s'
        | f => Q f s') E s := by
  refine law_for B X T hroom hun hdc O hns hnl hE F N hH fun h' tk' u1 u2 u3 u4 kv vs n D K W H extra F' N' hex hD hK hW hH hda hgd hl1 hl2 hkl => ?_
  show wpAny (model prog w) (ktrTop dp un gd (Str.ofString "law") lawRec.scope L a ccd [(Str.ofString "hand", ch)] []) (execs (lawT0 :: lawT1) (envX (Str.ofString "law") lawRec.scope L a ccd [(Str.ofString "hand", ch)])) Q E _
  refine wpAny_execs_cons ?_
  refine t0_ok B X T hroom hun hdc O hns hnl F' N' hD hK hW hda hgd hl1 hkl fun h2 tk2 F2 N2 => ?_
  refine t1_ok B X T hroom hun hdc O hns hnl F2 N2 hex hD hK hH hgd hl1 hl2 hkl fun h3 tk3 m3 H3 F3 N3 hH3 => ?_
  exact t2_ok (mr := mr) (hh := hh) (ht := ht) B X T hroom hun hdc O hns hnl F3 N3 hH3 ret
theorem law_holds : PySem.Challenge.rw_nu0313_01.Holds := by
  refine hd ?_
  delta lawRec
  k_go0
  (all_goals try k_fold)
  k_steps
  refine Halt.go ?_
  k_dflt (refine' call_cls ?k1 ?k2 ?k3 ?k4 ?k5 ?k6 ?_; (case k1 => k_asm); (case k2 => k_asm); (case k3 => k_asm); (case k4 => k_is); (case k5 => k_is); (case k6 => k_is); k_whole; intro x' d' h' F' N' l1 l2; (try k_lt l1); (try k_lt2 l2); (try k_sweep); k_enter)
  k_steps
  with_reducible refine Halt.go ?_
  rename Fr _ _ _ _ => Fa
  rename News _ _ _ _ => Na
  rename Frag.In _ _ => X1
  rename Below _ _ _ _ => Bx
  clear Bx
  rename Below _ _ _ _ => B1
  rename Top _ _ _ _ _ _ => Tx
  clear Tx
  rename Top _ _ _ _ _ _ => T1
  rename IntsAre _ _ => hiC
  rename List.length (List.take _ _) = _ => hlC
  refine law_rest (dp := _) (un := _) (gd := _) (a := _) (ccd := _) (mr := _) (hh := _) (ht := _) (ns := _) (cvs := _) (oc := _) B1 X1 T1 (by decide) (by decide) (by assumption) ⟨by omega, by omega, by omega, by omega, by omega, by omega, by omega, by omega⟩ hiC (by omega) (by passes_own) Fa Na ⟨_, _, _, _, _, _, rfl, ?_, ?_, ?_, ?_, ?_⟩ fun h' m' tk' F' => ?_
  · exact Int.le_refl _
  · exact Int.natCast_nonneg _
  · exact Int.le_refl _
  · exact Int.mul_nonneg (fm_lo (by decide)) (by decide)
  · exact Int.lt_trans (Int.mul_lt_mul_of_pos_right (fm_hi (by decide)) (by decide)) (by decide)
  k_steps
end

end Mine

set_option maxHeartbeats 8000000 in
theorem PySem.Challenge.cw_nu0313_01_holds : PySem.Challenge.rw_nu0313_01.Holds := by
  exact Mine.law_holds
