import PyProof.Rows.All
import Wide.All
import OpenK.AllK
import Wide.FinOn
import PySem.Challenge.RW_quickbythen_k08_whole_kept_to_a_slope
import HandS.ForMost
import HandS.Wide
import HandS.Gcd
import HandS.Lambda
import HandS.Style
import HandS.Deep
import HandS.IsInst
import HandS.Zip
import KE.SortKeyHeap
import KE.KSortKey
import HandS.DictComp
import HandS.Conv
import HandS.Star
import HandS.ListItems
import HandS.TryMany
import HandS.ExcField
import HandS.ExcInit
import HandS.WordsExc
import HandS.CallLocal
import HandS.Dict
import PyProof.ReprRoads
import PyProof.CallFns
import HandS.EndTab
import KE.KNestM
set_option Elab.async false
set_option linter.all false
set_option maxRecDepth 100000
namespace Qk
abbrev Cn := Rat × Rat
def steep (a b : Cn) : Rat := (b.2 - a.2) / (b.1 - a.1)
def sl0 (a : Cn) (r : List Cn) (s : Rat) : Rat := match r with
  | [] => s
  | b :: _ => steep a b
def slopes : List Cn → Rat → List Rat
  | [], _ => []
  | a :: r, s => sl0 a r s :: slopes r s
/-- strictly rising moments -/
def Up : List Cn → Prop
  | [] => True
  | [_] => True
  | a :: b :: r => a.1 < b.1 ∧ Up (b :: r)
def val : List Cn → Rat → Rat → Rat
  | [], _, _ => 0
  | [a], s, t => a.2 + s * (t - a.1)
  | a :: b :: r, s, t => if t < b.1 then a.2 + steep a b * (t - a.1) else val (b :: r) s t
def slp : List Cn → Rat → Rat → Rat
  | [], s, _ => s
  | [_], s, _ => s
  | a :: b :: r, s, t => if t < b.1 then steep a b else slp (b :: r) s t
/-- without the corners at which nothing bends; the slope ahead -/
def nrm : Option Rat → List Cn → Rat → List Cn
  | _, [], _ => []
  | p, a :: r, s => if p = some (sl0 a r s) then nrm (some (sl0 a r s)) r s else a :: nrm (some (sl0 a r s)) r s

theorem rlt {a b c : Rat} (h : a < b) (k : b < c) : a < c := by grind
theorem nrm_cons {p : Option Rat} {a : Cn} {r : List Cn} {s : Rat} : nrm p (a :: r) s = if p = some (sl0 a r s) then nrm (some (sl0 a r s)) r s else a :: nrm (some (sl0 a r s)) r s := rfl
theorem Up.tail {a : Cn} {r : List Cn} (h : Up (a :: r)) : Up r := by
  cases r with
  | nil => trivial
  | cons b r => exact h.2
theorem Up.skip {a b : Cn} {r : List Cn} (h : Up (a :: b :: r)) : Up (a :: r) := by
  cases r with
  | nil => trivial
  | cons c r => exact ⟨rlt h.1 h.2.1, h.2.2⟩
theorem div_eq {x y k : Rat} (hy : y ≠ 0) (h : x = k * y) : x / y = k := by grind
theorem steep_eq {a b : Cn} {k : Rat} (h : a.1 < b.1) (e : b.2 = a.2 + k * (b.1 - a.1)) : steep a b = k := by
  unfold steep
  exact div_eq (by grind) (by grind)
theorem steep_mul {a b : Cn} (h : a.1 < b.1) : b.2 = a.2 + steep a b * (b.1 - a.1) := by
  unfold steep
  grind
/-- a corner at which nothing bends may be left out -/
theorem steep_skip {a b c : Cn} (h1 : a.1 < b.1) (h2 : b.1 < c.1) (e : steep a b = steep b c) : steep a c = steep a b := by
  have x := steep_mul h1
  have y := steep_mul h2
  refine steep_eq (rlt h1 h2) ?_
  rw [← e] at y
  grind
theorem sl0_skip {a b : Cn} {r : List Cn} {s : Rat} (h : Up (a :: b :: r)) (e : steep a b = sl0 b r s) : sl0 a r s = steep a b := by
  cases r with
  | nil => exact e.symm
  | cons c r => exact steep_skip h.1 h.2.1 e
theorem val_skip {a b : Cn} {r : List Cn} {s t : Rat} (h : Up (a :: b :: r)) (e : steep a b = sl0 b r s) : val (a :: r) s t = val (a :: b :: r) s t ∧ slp (a :: r) s t = slp (a :: b :: r) s t := by
  have x := steep_mul h.1
  cases r with
  | nil =>
    have e : steep a b = s := e
    unfold val slp
    subst e
    by_cases q : t < b.1
    · rw [if_pos q, if_pos q]
      exact ⟨rfl, rfl⟩
    · rw [if_neg q, if_neg q]
      unfold val slp
      refine ⟨?_, rfl⟩
      grind
  | cons c r =>
    have h2 : b.1 < c.1 := h.2.1
    have e : steep a b = steep b c := e
    have y := steep_skip h.1 h2 e
    by_cases q : t < b.1
    · have q2 : t < c.1 := by grind
      simp only [val, slp, if_pos q, if_pos q2, y, and_self]
    · by_cases q2 : t < c.1
      · simp only [val, slp, if_neg q, if_pos q2, y, ← e, and_true]
        grind
      · simp only [val, slp, if_neg q, if_neg q2, and_self]
theorem nrm_two {s : Rat} : ∀ (r : List Cn) (a : Cn), Up (a :: r) → sl0 a (nrm (some (sl0 a r s)) r s) s = sl0 a r s ∧ nrm (some (sl0 a r s)) (nrm (some (sl0 a r s)) r s) s = nrm (some (sl0 a r s)) r s ∧
    Up (a :: nrm (some (sl0 a r s)) r s) ∧ ∀ t, val (a :: nrm (some (sl0 a r s)) r s) s t = val (a :: r) s t ∧ slp (a :: nrm (some (sl0 a r s)) r s) s t = slp (a :: r) s t
  | [], a, _ => ⟨rfl, rfl, trivial, fun _ => ⟨rfl, rfl⟩⟩
  | b :: r, a, h => by
    show sl0 a (nrm (some (steep a b)) (b :: r) s) s = steep a b ∧ nrm (some (steep a b)) (nrm (some (steep a b)) (b :: r) s) s = nrm (some (steep a b)) (b :: r) s ∧ Up (a :: nrm (some (steep a b)) (b :: r) s) ∧
      ∀ t, val (a :: nrm (some (steep a b)) (b :: r) s) s t = val (a :: b :: r) s t ∧ slp (a :: nrm (some (steep a b)) (b :: r) s) s t = slp (a :: b :: r) s t
    rw [nrm_cons]
    by_cases q : some (steep a b) = some (sl0 b r s)
    · rw [if_pos q]
      have e : steep a b = sl0 b r s := Option.some.inj q
      have e2 := sl0_skip h e
      obtain ⟨i1, i2, i3, i4⟩ := nrm_two r a h.skip
      rw [e2] at i1 i2 i3 i4
      rw [← e]
      refine ⟨i1, i2, i3, fun t => ?_⟩
      obtain ⟨v1, v2⟩ := val_skip (t := t) h e
      exact ⟨(i4 t).1.trans v1, (i4 t).2.trans v2⟩
    · rw [if_neg q]
      obtain ⟨i1, i2, i3, i4⟩ := nrm_two r b h.2
      refine ⟨rfl, ?_, ⟨h.1, i3⟩, fun t => ?_⟩
      · rw [nrm_cons, i1, if_neg q, i2]
      · simp only [val, slp]
        by_cases q : t < b.1
        · simp only [if_pos q, and_self]
        · simp only [if_neg q]
          exact i4 t
/-- what is told: same worths, same slopes, and told it stays -/
theorem nrm_all {cs : List Cn} {s : Rat} (h : Up cs) (ne : cs ≠ []) : Up (nrm none cs s) ∧ (nrm none cs s).head? = cs.head? ∧ nrm none (nrm none cs s) s = nrm none cs s ∧
    ∀ t, val (nrm none cs s) s t = val cs s t ∧ slp (nrm none cs s) s t = slp cs s t := by
  cases cs with
  | nil => exact absurd rfl ne
  | cons a r =>
    obtain ⟨i1, i2, i3, i4⟩ := nrm_two (s := s) r a h
    have e : nrm none (a :: r) s = a :: nrm (some (sl0 a r s)) r s := by
      show (if none = some _ then _ else _) = _
      rw [if_neg (by intro z; cases z)]
    rw [e]
    refine ⟨i3, rfl, ?_, i4⟩
    show (if none = some _ then _ else _) = _
    rw [if_neg (by intro z; cases z), i1, i2]
theorem nrm_sub : ∀ (cs : List Cn) (p : Option Rat) (s : Rat), ∀ c ∈ nrm p cs s, c ∈ cs
  | [], _, _, c, h => by cases h
  | a :: r, p, s, c, h => by
    unfold nrm at h
    split at h
    · exact List.mem_cons_of_mem _ (nrm_sub r _ s c h)
    · rcases List.mem_cons.mp h with e | h
      · rw [e]
        exact List.mem_cons_self
      · exact List.mem_cons_of_mem _ (nrm_sub r _ s c h)
end Qk
namespace Qk
/-- the moments of corners -/
def moms (cs : List Cn) : List Rat := cs.map (·.1)
theorem Up.lt {a : Cn} : ∀ {r : List Cn}, Up (a :: r) → ∀ c ∈ r, a.1 < c.1
  | [], _, c, h => by cases h
  | b :: r, hu, c, h => by
    rcases List.mem_cons.mp h with e | h
    · rw [e]
      exact hu.1
    · exact rlt hu.1 (Up.lt hu.2 c h)
/-- behind all corners -/
theorem val_last {s : Rat} : ∀ {cs : List Cn} {a : Rat}, cs ≠ [] → Up cs → (∀ c ∈ cs, c.1 ≤ a) → ∀ t, a ≤ t → val cs s t = val cs s a + s * (t - a) ∧ slp cs s t = s
  | [], _, ne, _, _, _, _ => absurd rfl ne
  | [c], a, _, _, h, t, ht => by
    simp only [val, slp, and_true]
    grind
  | c :: d :: r, a, _, hu, h, t, ht => by
    have hd : d.1 ≤ a := h d (by simp)
    have q1 : ¬ a < d.1 := by grind
    have q2 : ¬ t < d.1 := by grind
    simp only [val, slp, if_neg q1, if_neg q2]
    exact val_last (by simp) hu.2 (fun e he => h e (List.mem_cons_of_mem _ he)) t ht
/-- between two moments without a corner between them -/
theorem val_seg {s : Rat} : ∀ {cs : List Cn} {a b : Rat}, cs ≠ [] → Up cs → (∀ c, cs.head? = some c → c.1 ≤ a) → a < b → (∀ c ∈ cs, c.1 ≤ a ∨ b ≤ c.1) →
    ∀ t, a ≤ t → (t ≤ b → val cs s t = val cs s a + slp cs s a * (t - a)) ∧ (t < b → slp cs s t = slp cs s a)
  | [], _, _, ne, _, _, _, _, _, _ => absurd rfl ne
  | [c], a, b, _, _, _, _, _, t, _ => by
    simp only [val, slp]
    refine ⟨fun _ => ?_, fun _ => trivial⟩
    grind
  | c :: d :: r, a, b, _, hu, h0, hab, hb, t, ht => by
    have hd := hb d (by simp)
    have hc : c.1 ≤ a := h0 c rfl
    by_cases q1 : a < d.1
    · have hbd : b ≤ d.1 := by grind
      refine ⟨fun h2 => ?_, fun h2 => ?_⟩
      · by_cases q2 : t < d.1
        · simp only [val, slp, if_pos q1, if_pos q2]
          grind
        · have e : t = d.1 := by grind
          subst e
          have x := steep_mul hu.1
          have y : val (d :: r) s d.1 = d.2 := by
            cases r with
            | nil =>
              simp only [val]
              grind
            | cons f r =>
              have z : d.1 < f.1 := hu.2.1
              simp only [val, if_pos z]
              grind
          simp only [val, slp, if_pos q1, if_neg q2]
          rw [y, x]
          grind
      · have q2 : t < d.1 := by grind
        simp only [slp, if_pos q1, if_pos q2]
    · have q2 : ¬ t < d.1 := by grind
      simp only [val, slp, if_neg q1, if_neg q2]
      exact val_seg (by simp) hu.2 (fun e he => by
        have e' : d = e := Option.some.inj he
        rw [← e']
        grind) hab (fun e he => hb e (List.mem_cons_of_mem _ he)) t ht
theorem val_head {a : Cn} {r : List Cn} {s : Rat} (h : Up (a :: r)) : val (a :: r) s a.1 = a.2 := by
  cases r with
  | nil =>
    simp only [val]
    grind
  | cons b r =>
    have z : a.1 < b.1 := h.1
    simp only [val, if_pos z]
    grind

/-- strictly rising -/
def Asc : List Rat → Prop
  | [] => True
  | [_] => True
  | a :: b :: r => a < b ∧ Asc (b :: r)
theorem Asc.tail {a : Rat} {r : List Rat} (h : Asc (a :: r)) : Asc r := by
  cases r with
  | nil => trivial
  | cons b r => exact h.2
theorem Asc.lt {a : Rat} : ∀ {r : List Rat}, Asc (a :: r) → ∀ c ∈ r, a < c
  | [], _, c, h => by cases h
  | b :: r, hu, c, h => by
    rcases List.mem_cons.mp h with e | h
    · rw [e]
      exact hu.1
    · exact rlt hu.1 (Asc.lt hu.2 c h)
/-- straight between neighbours of a list of moments, and behind the last one: worths F, slopes G -/
def PL (F G : Rat → Rat) : List Rat → Prop
  | [] => True
  | [a] => ∀ t, a ≤ t → F t = F a + G a * (t - a) ∧ G t = G a
  | a :: b :: r => (∀ t, a ≤ t → (t ≤ b → F t = F a + G a * (t - a)) ∧ (t < b → G t = G a)) ∧ PL F G (b :: r)
theorem PL.tail {F G : Rat → Rat} {a : Rat} {r : List Rat} (h : PL F G (a :: r)) : PL F G r := by
  cases r with
  | nil => trivial
  | cons b r => exact h.2
theorem pl_of {cs : List Cn} {s : Rat} (ne : cs ≠ []) (hu : Up cs) : ∀ (ms : List Rat), Asc ms → (∀ m ∈ ms, ∀ c, cs.head? = some c → c.1 ≤ m) → (∀ a r, ms = a :: r → ∀ c ∈ cs, c.1 ≤ a ∨ c.1 ∈ r) → PL (val cs s) (slp cs s) ms
  | [], _, _, _ => trivial
  | [a], ha, h0, hm => by
    have q : ∀ c ∈ cs, c.1 ≤ a := fun c hc => (hm a [] rfl c hc).elim id fun z => by cases z
    intro t ht
    have x := val_last (s := s) ne hu q t ht
    have y := val_last (s := s) ne hu q a (by grind)
    rw [y.2]
    exact x
  | a :: b :: r, ha, h0, hm => by
    have hr := fun c hc => hm a (b :: r) rfl c hc
    refine ⟨fun t ht => val_seg ne hu (h0 a (by simp)) ha.1 (fun c hc => ?_) t ht, pl_of ne hu (b :: r) ha.2 (fun m hm => h0 m (List.mem_cons_of_mem _ hm)) fun a' r' e c hc => ?_⟩
    · rcases hr c hc with z | z
      · exact .inl z
      · rcases List.mem_cons.mp z with z | z
        · exact .inr (by grind)
        · have := Asc.lt ha.2 _ z
          exact .inr (by grind)
    · cases e
      rcases hr c hc with z | z
      · have := ha.1
        exact .inl (by grind)
      · rcases List.mem_cons.mp z with z | z
        · exact .inl (by grind)
        · exact .inr z
theorem PL.comb {F G F' G' : Rat → Rat} (k l : Rat) : ∀ {ms : List Rat}, PL F G ms → PL F' G' ms → PL (fun t => k * F t + l * F' t) (fun t => k * G t + l * G' t) ms
  | [], _, _ => trivial
  | [a], h, h' => fun t ht => by
    obtain ⟨x1, x2⟩ := h t ht
    obtain ⟨y1, y2⟩ := h' t ht
    constructor <;> grind
  | a :: b :: r, h, h' => by
    refine ⟨fun t ht => ?_, PL.comb k l h.2 h'.2⟩
    obtain ⟨x1, x2⟩ := h.1 t ht
    obtain ⟨y1, y2⟩ := h'.1 t ht
    constructor <;> intro q
    · have := x1 q
      have := y1 q
      grind
    · have := x2 q
      have := y2 q
      grind
theorem up_map {F : Rat → Rat} : ∀ {ms : List Rat}, Asc ms → Up (ms.map fun m => (m, F m))
  | [], _ => trivial
  | [_], _ => trivial
  | a :: b :: r, h => ⟨h.1, up_map (ms := b :: r) h.2⟩
/-- a curve through the worths at the moments is the same -/
theorem pl_val {F G : Rat → Rat} {s : Rat} : ∀ {ms : List Rat} {a : Rat} {r : List Rat}, ms = a :: r → Asc ms → PL F G ms → (∀ z, ms.getLast? = some z → G z = s) →
    ∀ t, a ≤ t → val (ms.map fun m => (m, F m)) s t = F t ∧ slp (ms.map fun m => (m, F m)) s t = G t
  | [], _, _, e, _, _, _ => nomatch e
  | [a], _, _, e, _, h, hs => by
    cases e
    intro t ht
    obtain ⟨x1, x2⟩ := h t ht
    have e := hs a rfl
    show F a + s * (t - a) = F t ∧ s = G t
    grind
  | a :: b :: r, _, _, e, ha, h, hs => by
    cases e
    intro t ht
    obtain ⟨x1, x2⟩ := h.1 t ht
    have ab := ha.1
    by_cases q : t < b
    · have z1 := (h.1 b (by grind)).1 (by grind)
      have z2 : steep (a, F a) (b, F b) = G a := steep_eq ab z1
      show (if t < b then F a + steep (a, F a) (b, F b) * (t - a) else _) = F t ∧ (if t < b then steep (a, F a) (b, F b) else _) = G t
      rw [if_pos q, if_pos q, z2]
      have := x1 (by grind)
      have := x2 q
      grind
    · have i := pl_val (ms := b :: r) rfl ha.2 h.2 (fun z hz => hs z (by rw [List.getLast?_cons_cons]; exact hz)) t (by grind)
      show (if t < b then _ else val ((b :: r).map fun m => (m, F m)) s t) = F t ∧ (if t < b then _ else slp ((b :: r).map fun m => (m, F m)) s t) = G t
      rw [if_neg q, if_neg q]
      exact i
end Qk
namespace Qk
def rmax (p q : Rat) : Rat := if p < q then q else p
def fits (met : Rat) (r : List Cn) : Prop := match r with
  | [] => True
  | b :: _ => met < b.1
instance (met : Rat) (r : List Cn) : Decidable (fits met r) := by
  unfold fits
  split <;> infer_instance
def metAt (T : Rat) (a : Cn) (k : Rat) : Rat := a.1 + (T - a.2) / k
def nfX (T : Rat) (a : Cn) (r : List Cn) (s : Rat) : Bool := decide (0 < sl0 a r s ∧ a.2 ≠ T ∧ fits (metAt T a (sl0 a r s)) r)
def nfC (T : Rat) (a : Cn) (r : List Cn) (s : Rat) : List Cn := (a.1, T) :: if nfX T a r s then [(metAt T a (sl0 a r s), T)] else []
def nfL (T : Rat) (a : Cn) (r : List Cn) (s : Rat) : Rat := if nfX T a r s ∨ (0 < sl0 a r s ∧ a.2 = T) then sl0 a r s else 0
def nf (top : Rat) : List Cn → Rat → List Cn
  | [], _ => []
  | a :: r, s => nfC (rmax top a.2) a r s ++ nf (rmax top a.2) r s
def nfLast (top l : Rat) : List Cn → Rat → Rat
  | [], _ => l
  | a :: r, s => nfLast (rmax top a.2) (nfL (rmax top a.2) a r s) r s
theorem le_rmax (p q : Rat) : p ≤ rmax p q ∧ q ≤ rmax p q := by
  unfold rmax
  split <;> constructor <;> grind
theorem rmax_or (p q : Rat) : rmax p q = p ∨ rmax p q = q := by
  unfold rmax
  split <;> simp
theorem div_pos' {x k : Rat} (hx : 0 < x) (hk : 0 < k) : 0 < x / k := by
  rw [Rat.div_def]
  exact Rat.mul_pos hx (Rat.inv_pos.mpr hk)
theorem mul_div' {x k : Rat} (hk : k ≠ 0) : k * (x / k) = x := by grind
theorem mul_lt' {k x y : Rat} (hk : 0 < k) (h : x < y) : k * x < k * y := Rat.mul_lt_mul_of_pos_left h hk
theorem mul_le' {k x y : Rat} (hk : 0 ≤ k) (h : x ≤ y) : k * x ≤ k * y := Rat.mul_le_mul_of_nonneg_left h hk
theorem val2 {a b : Cn} {r : List Cn} {s t : Rat} : val (a :: b :: r) s t = if t < b.1 then a.2 + steep a b * (t - a.1) else val (b :: r) s t := rfl
theorem slp2 {a b : Cn} {r : List Cn} {s t : Rat} : slp (a :: b :: r) s t = if t < b.1 then steep a b else slp (b :: r) s t := rfl
theorem steep_flat {x y T : Rat} : steep (x, T) (y, T) = 0 := by
  unfold steep
  grind

/-- what a told curve f is to another one c from a moment on -/
def RisenAt (f c : List Cn) (L s : Rat) (t : Rat) : Prop := 0 ≤ slp f L t ∧ val c s t ≤ val f L t ∧ (slp f L t ≠ 0 → val f L t = val c s t)
theorem nfC_no {T : Rat} {a : Cn} {r : List Cn} {s : Rat} (h : nfX T a r s = false) : nfC T a r s = [(a.1, T)] := by
  unfold nfC
  rw [h]
  rfl
theorem nfC_yes {T : Rat} {a : Cn} {r : List Cn} {s : Rat} (h : nfX T a r s = true) : nfC T a r s = [(a.1, T), (metAt T a (sl0 a r s), T)] := by
  unfold nfC
  rw [h]
  rfl
/-- the moment at which a rising line comes to the top -/
theorem met_at {T x w k : Rat} (hk : 0 < k) (h : w < T) : x < metAt T (x, w) k ∧ k * (metAt T (x, w) k - x) = T - w := by
  have h1 : 0 < (T - w) / k := div_pos' (by grind) hk
  have h2 : k * ((T - w) / k) = T - w := mul_div' (by grind)
  unfold metAt
  dsimp only
  generalize (T - w) / k = z at *
  exact ⟨by grind, by grind⟩
theorem nf_ok {s : Rat} : ∀ (r : List Cn) (a : Cn) (top l : Rat), Up (a :: r) → (∃ fs, nf top (a :: r) s = (a.1, rmax top a.2) :: fs) ∧ Up (nf top (a :: r) s) ∧ nfLast top l (a :: r) s = (if s ≤ 0 then 0 else s) ∧
    ∀ t, a.1 ≤ t → RisenAt (nf top (a :: r) s) (a :: r) (nfLast top l (a :: r) s) s t
  | [], (x, w), top, l, _ => by
    have hT := le_rmax top w
    show (∃ fs, nfC (rmax top w) (x, w) [] s ++ [] = (x, rmax top w) :: fs) ∧ Up (nfC (rmax top w) (x, w) [] s ++ []) ∧ nfL (rmax top w) (x, w) [] s = (if s ≤ 0 then 0 else s) ∧
      ∀ t, x ≤ t → RisenAt (nfC (rmax top w) (x, w) [] s ++ []) [(x, w)] (nfL (rmax top w) (x, w) [] s) s t
    generalize rmax top w = T at hT ⊢
    rw [List.append_nil]
    have hk : sl0 (x, w) [] s = s := rfl
    by_cases hs : 0 < s
    · rw [if_neg (show ¬ s ≤ 0 by grind)]
      by_cases hw : w = T
      · have hx : nfX T (x, w) [] s = false := by simp [nfX, hw]
        have hl : nfL T (x, w) [] s = s := by
          unfold nfL
          rw [if_pos (.inr ⟨by rw [hk]; exact hs, hw⟩), hk]
        rw [nfC_no hx, hl]
        refine ⟨⟨_, rfl⟩, trivial, rfl, fun t ht => ?_⟩
        simp only [RisenAt, val, slp]
        refine ⟨?_, ?_, ?_⟩ <;> grind
      · have hx : nfX T (x, w) [] s = true := by simp [nfX, hw, hk, hs, fits]
        have hl : nfL T (x, w) [] s = s := by simp [nfL, hx, hk]
        obtain ⟨h1, h2⟩ := met_at (x := x) hs (show w < T by grind)
        rw [nfC_yes hx, hl, hk]
        generalize metAt T (x, w) s = met at h1 h2 ⊢
        refine ⟨⟨_, rfl⟩, ⟨h1, trivial⟩, rfl, fun t ht => ?_⟩
        unfold RisenAt
        rw [val2, slp2, steep_flat]
        simp only [val, slp]
        by_cases q : t < met
        · have := mul_lt' (x := t - x) (y := met - x) hs (by grind)
          simp only [if_pos q]
          refine ⟨?_, ?_, ?_⟩ <;> grind
        · simp only [if_neg q]
          refine ⟨?_, ?_, ?_⟩ <;> grind
    · have hs0 : s ≤ 0 := by grind
      rw [if_pos hs0]
      have hx : nfX T (x, w) [] s = false := by simp [nfX, hk, hs]
      have hl : nfL T (x, w) [] s = 0 := by simp [nfL, hx, hk, hs]
      rw [nfC_no hx, hl]
      refine ⟨⟨_, rfl⟩, trivial, rfl, fun t ht => ?_⟩
      simp only [RisenAt, val, slp]
      have := mul_le' (k := -s) (x := 0) (y := t - x) (by grind) (by grind)
      refine ⟨?_, ?_, ?_⟩ <;> grind
  | b :: r, (x, w), top, l, hu => by
    have hT := le_rmax top w
    have hst := steep_mul hu.1
    have hab : x < b.1 := hu.1
    have hu2 := hu.2
    clear hu
    have e1 : nf top ((x, w) :: b :: r) s = nfC (rmax top w) (x, w) (b :: r) s ++ nf (rmax top w) (b :: r) s := rfl
    have e2 : nfLast top l ((x, w) :: b :: r) s = nfLast (rmax top w) (nfL (rmax top w) (x, w) (b :: r) s) (b :: r) s := rfl
    rw [e1, e2]
    show (∃ fs, nfC (rmax top w) (x, w) (b :: r) s ++ nf (rmax top w) (b :: r) s = (x, rmax top w) :: fs) ∧ _
    have ev : ∀ t, val ((x, w) :: b :: r) s t = if t < b.1 then w + steep (x, w) b * (t - x) else val (b :: r) s t := fun t => rfl
    generalize rmax top w = T at *
    have hk : sl0 (x, w) (b :: r) s = steep (x, w) b := rfl
    obtain ⟨⟨fs, i1⟩, i2, i3, i4⟩ := nf_ok r b T (nfL T (x, w) (b :: r) s) hu2
    rw [i1] at i2 i4 ⊢
    have hst : b.2 = w + steep (x, w) b * (b.1 - x) := hst
    generalize nfLast T (nfL T (x, w) (b :: r) s) (b :: r) s = L at *
    have hm := le_rmax T b.2
    have ho := rmax_or T b.2
    by_cases hx : nfX T (x, w) (b :: r) s = true
    · -- a corner where it comes up to the top again
      have hx' : 0 < steep (x, w) b ∧ w ≠ T ∧ metAt T (x, w) (steep (x, w) b) < b.1 := of_decide_eq_true hx
      obtain ⟨k0, hw, hf⟩ := hx'
      rw [nfC_yes hx, hk]
      clear hx hk e1 e2 i1
      generalize steep (x, w) b = k at *
      obtain ⟨h1, h2⟩ := met_at (x := x) k0 (show w < T by grind)
      generalize metAt T (x, w) k = met at *
      have hb2 := mul_lt' (x := met - x) (y := b.1 - x) k0 (by grind)
      have hbT : rmax T b.2 = b.2 := by
        unfold rmax
        rw [if_pos (by grind)]
      rw [hbT] at i2 i4 ⊢
      have est : steep (met, T) (b.1, b.2) = k := steep_eq hf (by grind)
      refine ⟨⟨_, rfl⟩, ⟨h1, hf, i2⟩, i3, fun t ht => ?_⟩
      unfold RisenAt
      rw [ev]
      show 0 ≤ slp ((x, T) :: (met, T) :: (b.1, b.2) :: fs) L t ∧ _ ≤ val ((x, T) :: (met, T) :: (b.1, b.2) :: fs) L t ∧ (slp ((x, T) :: (met, T) :: (b.1, b.2) :: fs) L t ≠ 0 → val ((x, T) :: (met, T) :: (b.1, b.2) :: fs) L t = _)
      rw [val2, val2, slp2, slp2, steep_flat, est]
      by_cases q : t < met
      · have := mul_lt' (x := t - x) (y := met - x) k0 (by grind)
        have q2 : t < b.1 := by grind
        simp only [if_pos q, if_pos q2]
        refine ⟨?_, ?_, ?_⟩ <;> grind
      · by_cases q2 : t < b.1
        · simp only [if_neg q, if_pos q2]
          refine ⟨?_, ?_, ?_⟩ <;> grind
        · simp only [if_neg q, if_neg q2]
          exact i4 t (by grind)
    · have hx0 : nfX T (x, w) (b :: r) s = false := by simpa using hx
      have hx' : ¬ (0 < steep (x, w) b ∧ w ≠ T ∧ metAt T (x, w) (steep (x, w) b) < b.1) := fun z => hx (decide_eq_true z)
      rw [nfC_no hx0]
      clear hx hx0 hk e1 e2 i1
      generalize steep (x, w) b = k at *
      refine ⟨⟨_, rfl⟩, ⟨hab, i2⟩, i3, fun t ht => ?_⟩
      unfold RisenAt
      rw [ev]
      show 0 ≤ slp ((x, T) :: (b.1, rmax T b.2) :: fs) L t ∧ _ ≤ val ((x, T) :: (b.1, rmax T b.2) :: fs) L t ∧ (slp ((x, T) :: (b.1, rmax T b.2) :: fs) L t ≠ 0 → val ((x, T) :: (b.1, rmax T b.2) :: fs) L t = _)
      rw [val2, slp2]
      by_cases q2 : t < b.1
      · simp only [if_pos q2]
        by_cases kw : 0 < k ∧ w = T
        · obtain ⟨k0, hw⟩ := kw
          have hb2 := mul_lt' (x := 0) (y := b.1 - x) k0 (by grind)
          have hbT : rmax T b.2 = b.2 := by
            unfold rmax
            rw [if_pos (by grind)]
          have est : steep (x, T) (b.1, b.2) = k := steep_eq hab (by grind)
          rw [hbT, est]
          refine ⟨?_, ?_, ?_⟩ <;> grind
        · -- flat: the top is above all of it
          have hflat : b.2 ≤ T ∧ w + k * (t - x) ≤ T := by
            by_cases k0 : 0 < k
            · have hw : w ≠ T := fun z => kw ⟨k0, z⟩
              obtain ⟨h1, h2⟩ := met_at (x := x) k0 (show w < T by grind)
              have h3 : ¬ metAt T (x, w) k < b.1 := fun z => hx' ⟨k0, hw, z⟩
              generalize metAt T (x, w) k = met at *
              have y1 := mul_le' (x := b.1 - x) (y := met - x) (Rat.le_of_lt k0) (by grind)
              have y2 := mul_le' (x := t - x) (y := met - x) (Rat.le_of_lt k0) (by grind)
              constructor <;> grind
            · have y1 := mul_le' (k := -k) (x := 0) (y := b.1 - x) (by grind) (by grind)
              have y2 := mul_le' (k := -k) (x := 0) (y := t - x) (by grind) (by grind)
              constructor <;> grind
          have hbT : rmax T b.2 = T := by
            unfold rmax
            rw [if_neg (by grind)]
          rw [hbT, steep_flat]
          refine ⟨?_, ?_, ?_⟩ <;> grind
      · simp only [if_neg q2]
        exact i4 t (by grind)
end Qk
namespace Qk
/-- the greatest worths from each corner on: corners, the top -/
def lt : List Cn → Rat → List Cn × Rat
  | [], _ => ([], 0)
  | [a], _ => ([(a.1, a.2)], a.2)
  | a :: b :: r, s =>
    ((a.1, rmax (lt (b :: r) s).2 a.2) :: ((if steep a b < 0 ∧ (lt (b :: r) s).2 < a.2 ∧ metAt (lt (b :: r) s).2 a (steep a b) < b.1 then [(metAt (lt (b :: r) s).2 a (steep a b), (lt (b :: r) s).2)] else []) ++ (lt (b :: r) s).1),
      rmax (lt (b :: r) s).2 a.2)
/-- the moment at which a falling line comes down to a top -/
theorem met_dn {T x w k : Rat} (hk : k < 0) (h : T < w) : x < metAt T (x, w) k ∧ k * (metAt T (x, w) k - x) = T - w := by
  have h0 : (T - w) / k = (w - T) / (-k) := by grind
  have h1 : 0 < (w - T) / (-k) := div_pos' (by grind) (by grind)
  have h2 : -k * ((w - T) / (-k)) = w - T := mul_div' (by grind)
  unfold metAt
  dsimp only
  rw [h0]
  generalize (w - T) / (-k) = z at *
  exact ⟨by grind, by grind⟩
/-- what a told curve f is to another one c from a moment on, falling -/
def LateAt (f c : List Cn) (s : Rat) (t : Rat) : Prop := slp f s t ≤ 0 ∧ val c s t ≤ val f s t ∧ (slp f s t ≠ 0 → val f s t = val c s t)
theorem lt_ok {s : Rat} (hs : s ≤ 0) : ∀ (r : List Cn) (a : Cn), Up (a :: r) → (∃ fs, (lt (a :: r) s).1 = (a.1, (lt (a :: r) s).2) :: fs) ∧ a.2 ≤ (lt (a :: r) s).2 ∧ Up (lt (a :: r) s).1 ∧
    (∀ t, a.1 ≤ t → LateAt (lt (a :: r) s).1 (a :: r) s t) ∧ ∀ t, (∀ c ∈ a :: r, c.1 ≤ t) → val (lt (a :: r) s).1 s t = val (a :: r) s t
  | [], (x, w), _ => by
    simp only [lt]
    refine ⟨⟨_, rfl⟩, by grind, trivial, fun t ht => ?_, by simp⟩
    simp only [LateAt, val, slp]
    refine ⟨hs, by grind, by simp⟩
  | b :: r, (x, w), hu => by
    have hst := steep_mul hu.1
    have hab : x < b.1 := hu.1
    have hu2 := hu.2
    clear hu
    obtain ⟨⟨fs, i1⟩, i2, i3, i4, i5⟩ := lt_ok hs r b hu2
    have ev : ∀ t, val ((x, w) :: b :: r) s t = if t < b.1 then w + steep (x, w) b * (t - x) else val (b :: r) s t := fun t => rfl
    have hst : b.2 = w + steep (x, w) b * (b.1 - x) := hst
    have e1 : (lt ((x, w) :: b :: r) s).2 = rmax (lt (b :: r) s).2 w := rfl
    have e2 : (lt ((x, w) :: b :: r) s).1 = (x, rmax (lt (b :: r) s).2 w) :: ((if steep (x, w) b < 0 ∧ (lt (b :: r) s).2 < w ∧ metAt (lt (b :: r) s).2 (x, w) (steep (x, w) b) < b.1 then [(metAt (lt (b :: r) s).2 (x, w) (steep (x, w) b), (lt (b :: r) s).2)] else []) ++ (lt (b :: r) s).1) := rfl
    rw [e1, e2]
    clear e1 e2
    rw [i1] at i3 i4 i5 ⊢
    show (∃ gs, _ = (x, _) :: gs) ∧ w ≤ _ ∧ _
    have eb : ∀ t, (∀ c ∈ (x, w) :: b :: r, c.1 ≤ t) → b.1 ≤ t ∧ ∀ c ∈ b :: r, c.1 ≤ t := fun t h => ⟨h b (by simp), fun c hc => h c (List.mem_cons_of_mem _ hc)⟩
    generalize (lt (b :: r) s).2 = T at *
    generalize steep (x, w) b = k at *
    have hm := le_rmax T w
    refine ⟨⟨_, rfl⟩, hm.2, ?_⟩
    by_cases hx : k < 0 ∧ T < w ∧ metAt T (x, w) k < b.1
    · rw [if_pos hx]
      obtain ⟨k0, hw, hf⟩ := hx
      obtain ⟨h1, h2⟩ := met_dn (x := x) k0 hw
      generalize metAt T (x, w) k = met at *
      have hT : rmax T w = w := by
        unfold rmax
        rw [if_pos hw]
      rw [hT]
      have est : steep (x, w) (met, T) = k := steep_eq h1 (by grind)
      have v1 : ∀ t, val ((x, w) :: ([(met, T)] ++ (b.1, T) :: fs)) s t = if t < met then w + k * (t - x) else if t < b.1 then T + 0 * (t - met) else val ((b.1, T) :: fs) s t := fun t => by
        show val ((x, w) :: (met, T) :: (b.1, T) :: fs) s t = _
        rw [val2, val2, est, steep_flat]
      have v2 : ∀ t, slp ((x, w) :: ([(met, T)] ++ (b.1, T) :: fs)) s t = if t < met then k else if t < b.1 then 0 else slp ((b.1, T) :: fs) s t := fun t => by
        show slp ((x, w) :: (met, T) :: (b.1, T) :: fs) s t = _
        rw [slp2, slp2, est, steep_flat]
      refine ⟨⟨h1, hf, i3⟩, fun t ht => ?_, fun t h => ?_⟩
      · unfold LateAt
        rw [ev, v1, v2]
        by_cases q : t < met
        · have q2 : t < b.1 := by grind
          simp only [if_pos q, if_pos q2]
          refine ⟨?_, ?_, ?_⟩ <;> grind
        · by_cases q2 : t < b.1
          · have := mul_le' (k := -k) (x := met - x) (y := t - x) (by grind) (by grind)
            simp only [if_neg q, if_pos q2]
            refine ⟨?_, ?_, ?_⟩ <;> grind
          · simp only [if_neg q, if_neg q2]
            exact i4 t (by grind)
      · obtain ⟨g1, g2⟩ := eb t h
        rw [ev, v1, if_neg (by grind), if_neg (by grind), if_neg (by grind)]
        exact i5 t g2
    · rw [if_neg hx]
      show Up ((x, rmax T w) :: (b.1, T) :: fs) ∧ (∀ t, x ≤ t → LateAt ((x, rmax T w) :: (b.1, T) :: fs) ((x, w) :: b :: r) s t) ∧ ∀ t, (∀ c ∈ (x, w) :: b :: r, c.1 ≤ t) → val ((x, rmax T w) :: (b.1, T) :: fs) s t = val ((x, w) :: b :: r) s t
      refine ⟨⟨hab, i3⟩, fun t ht => ?_, fun t h => ?_⟩
      · unfold LateAt
        rw [ev, val2, slp2]
        by_cases q2 : t < b.1
        · simp only [if_pos q2]
          by_cases kw : k < 0 ∧ T < w
          · -- it comes down to the top just at the next corner
            obtain ⟨k0, hw⟩ := kw
            obtain ⟨h1, h2⟩ := met_dn (x := x) k0 hw
            have h3 : ¬ metAt T (x, w) k < b.1 := fun z => hx ⟨k0, hw, z⟩
            generalize metAt T (x, w) k = met at *
            have y1 := mul_le' (k := -k) (x := b.1 - x) (y := met - x) (by grind) (by grind)
            have hT : rmax T w = w := by
              unfold rmax
              rw [if_pos hw]
            have est : steep (x, w) (b.1, T) = k := steep_eq hab (by grind)
            rw [hT, est]
            refine ⟨?_, ?_, ?_⟩ <;> grind
          · have hflat : rmax T w = T ∧ w + k * (t - x) ≤ T := by
              by_cases k0 : k < 0
              · have hw : ¬ T < w := fun z => kw ⟨k0, z⟩
                have y1 := mul_le' (k := -k) (x := 0) (y := t - x) (by grind) (by grind)
                refine ⟨?_, by grind⟩
                unfold rmax
                rw [if_neg hw]
              · have y1 := mul_le' (k := k) (x := t - x) (y := b.1 - x) (by grind) (by grind)
                have y2 := mul_le' (k := k) (x := 0) (y := b.1 - x) (by grind) (by grind)
                refine ⟨?_, by grind⟩
                unfold rmax
                rw [if_neg (by grind)]
            rw [hflat.1, steep_flat]
            refine ⟨?_, ?_, ?_⟩ <;> grind
        · simp only [if_neg q2]
          exact i4 t (by grind)
      · obtain ⟨g1, g2⟩ := eb t h
        rw [ev, val2, if_neg (by grind), if_neg (by grind)]
        exact i5 t g2
end Qk
namespace Qk
def ins (q : Rat) : List Rat → List Rat
  | [] => [q]
  | a :: r => if q < a then q :: a :: r else if q = a then a :: r else a :: ins q r
/-- unlike ones by their size -/
def srt : List Rat → List Rat
  | [] => []
  | a :: r => ins a (srt r)
theorem mem_ins {q x : Rat} : ∀ {l : List Rat}, x ∈ ins q l ↔ x = q ∨ x ∈ l
  | [] => by simp [ins]
  | a :: r => by
    unfold ins
    split
    · simp
    · split
      · rename_i h
        subst h
        simp
      · simp only [List.mem_cons, mem_ins (l := r)]
        grind
theorem asc_ins {q : Rat} : ∀ {l : List Rat}, Asc l → Asc (ins q l)
  | [], _ => trivial
  | [a], _ => by
    unfold ins
    split
    · rename_i h
      exact ⟨h, trivial⟩
    · split
      · trivial
      · exact ⟨by grind, trivial⟩
  | a :: b :: r, h => by
    have i := asc_ins (q := q) h.2
    unfold ins
    split
    · rename_i z
      exact ⟨z, h⟩
    · split
      · exact h
      · unfold ins at i ⊢
        split at i
        · rename_i z
          rw [if_pos z]
          exact ⟨by grind, i⟩
        · rename_i z
          rw [if_neg z]
          split at i
          · rename_i z2
            rw [if_pos z2]
            exact ⟨h.1, i⟩
          · rename_i z2
            rw [if_neg z2]
            exact ⟨h.1, i⟩
theorem asc_srt : ∀ l : List Rat, Asc (srt l)
  | [] => trivial
  | a :: r => asc_ins (asc_srt r)
theorem mem_srt {x : Rat} : ∀ {l : List Rat}, x ∈ srt l ↔ x ∈ l
  | [] => by simp [srt]
  | a :: r => by
    unfold srt
    rw [mem_ins, mem_srt (l := r), List.mem_cons]
/-- there is just one list in order of the same moments -/
theorem asc_one : ∀ {l m : List Rat}, Asc l → Asc m → (∀ x, x ∈ l ↔ x ∈ m) → l = m
  | [], [], _, _, _ => rfl
  | [], b :: s, _, _, h => by
    have := (h b).mpr (by simp)
    simp at this
  | a :: r, [], _, _, h => by
    have := (h a).mp (by simp)
    simp at this
  | a :: r, b :: s, hl, hm, h => by
    have e : a = b := by
      rcases List.mem_cons.mp ((h a).mp (by simp)) with z | z
      · exact z
      · rcases List.mem_cons.mp ((h b).mpr (by simp)) with y | y
        · exact y.symm
        · have := Asc.lt hl b y
          have := Asc.lt hm a z
          grind
    subst e
    congr 1
    refine asc_one hl.tail hm.tail fun x => ⟨fun hx => ?_, fun hx => ?_⟩
    · rcases List.mem_cons.mp ((h x).mp (List.mem_cons_of_mem _ hx)) with z | z
      · have := Asc.lt hl x hx
        grind
      · exact z
    · rcases List.mem_cons.mp ((h x).mpr (List.mem_cons_of_mem _ hx)) with z | z
      · have := Asc.lt hm x hx
        grind
      · exact z

/-! ### curves -/
abbrev Cv := List Cn × Rat
abbrev vl (c : Cv) (t : Rat) : Rat := val c.1 c.2 t
abbrev sp (c : Cv) (t : Rat) : Rat := slp c.1 c.2 t
structure WF (c : Cv) : Prop where
  ne : c.1 ≠ []
  up : Up c.1
  h0 : ∀ a, c.1.head? = some a → a.1 = 0
def normal (cs : List Cn) (s : Rat) : Cv := (nrm none cs s, s)
def Plain (c : Cv) : Prop := nrm none c.1 c.2 = c.1
theorem head_ne {α : Type} {l m : List α} (h : l.head? = m.head?) (ne : m ≠ []) : l ≠ [] := fun e => by
  subst e
  cases m with
  | nil => exact ne rfl
  | cons => simp at h
theorem normal_ok {cs : List Cn} {s : Rat} (h : WF (cs, s)) : WF (normal cs s) ∧ Plain (normal cs s) ∧ (∀ t, vl (normal cs s) t = val cs s t ∧ sp (normal cs s) t = slp cs s t) ∧ (normal cs s).1.head? = cs.head? := by
  obtain ⟨h1, h2, h3, h4⟩ := nrm_all (s := s) h.up h.ne
  exact ⟨⟨head_ne h2 h.ne, h1, fun a ha => h.h0 a (by rw [← h2]; exact ha)⟩, h3, h4, h2⟩
/-- the moments of several curves -/
def momsOf (l : List Cv) : List Rat := srt (l.flatMap fun c => moms c.1)
def line (m : Rat) : Cv := ([(0, 0)], m)
theorem wf_line (m : Rat) : WF (line m) := ⟨by simp [line], trivial, fun a h => by
  have e : (0, 0) = a := Option.some.inj h
  rw [← e]⟩
theorem vl_line (m t : Rat) : vl (line m) t = m * t ∧ sp (line m) t = m := by
  simp only [vl, sp, line, val, slp, and_true]
  grind
def summed (x y : Cv) : Cv := normal ((momsOf [x, y, line 0]).map fun m => (m, vl x m + vl y m)) (x.2 + y.2)
def many (f : Rat) (c : Cv) : Cv := normal (c.1.map fun a => (a.1, f * a.2)) (f * c.2)
def apart (x y : Cv) : Cv := summed x (many (-1) y)
def neverFalling (c : Cv) : Cv := normal (nf ((c.1.head?.getD (0, 0)).2) c.1 c.2) (nfLast ((c.1.head?.getD (0, 0)).2) 0 c.1 c.2)
def laterTops (c : Cv) : Cv := normal (lt c.1 c.2).1 c.2
def back (c : Cv) (m : Rat) : Cv := apart (line m) (neverFalling (apart (line m) c))
def ahead (c : Cv) (m : Rat) : Option Cv := if m < c.2 then none else some (summed (line m) (laterTops (apart c (line m))))

theorem up_scale {f : Rat} : ∀ {cs : List Cn}, Up cs → Up (cs.map fun a => (a.1, f * a.2))
  | [], _ => trivial
  | [_], _ => trivial
  | a :: b :: r, h => ⟨h.1, up_scale (cs := b :: r) h.2⟩
theorem val_scale {f s : Rat} : ∀ {cs : List Cn} {t : Rat}, Up cs → val (cs.map fun a => (a.1, f * a.2)) (f * s) t = f * val cs s t ∧ (cs ≠ [] → slp (cs.map fun a => (a.1, f * a.2)) (f * s) t = f * slp cs s t)
  | [], t, _ => ⟨by simp [val], fun h => absurd rfl h⟩
  | [a], t, _ => by
    refine ⟨?_, fun _ => rfl⟩
    simp only [List.map, val]
    grind
  | a :: b :: r, t, h => by
    have i := val_scale (f := f) (s := s) (cs := b :: r) (t := t) h.2
    have e : steep (a.1, f * a.2) (b.1, f * b.2) = f * steep a b := by
      have := steep_mul h.1
      refine steep_eq h.1 ?_
      dsimp only
      rw [this]
      grind
    show (if t < b.1 then f * a.2 + steep (a.1, f * a.2) (b.1, f * b.2) * (t - a.1) else val ((b :: r).map fun a => (a.1, f * a.2)) (f * s) t) = f * (if t < b.1 then _ else _) ∧
      (_ → (if t < b.1 then steep (a.1, f * a.2) (b.1, f * b.2) else slp ((b :: r).map fun a => (a.1, f * a.2)) (f * s) t) = f * (if t < b.1 then _ else _))
    rw [e, i.1, i.2 (by simp)]
    by_cases q : t < b.1
    · rw [if_pos q, if_pos q, if_pos q, if_pos q]
      exact ⟨by grind, fun _ => rfl⟩
    · rw [if_neg q, if_neg q, if_neg q, if_neg q]
      exact ⟨rfl, fun _ => rfl⟩
theorem many_ok {f : Rat} {c : Cv} (h : WF c) : WF (many f c) ∧ Plain (many f c) ∧ (∀ t, vl (many f c) t = f * vl c t ∧ sp (many f c) t = f * sp c t) ∧ (∀ m ∈ moms (many f c).1, m ∈ moms c.1) := by
  have w : WF (c.1.map (fun a => (a.1, f * a.2)), f * c.2) := ⟨by simpa using h.ne, up_scale h.up, fun a ha => by
    cases e : c.1 with
    | nil => exact absurd e h.ne
    | cons b r =>
      have e2 : (b.1, f * b.2) = a := by
        have z : (c.1.map (fun a => (a.1, f * a.2))).head? = some a := ha
        rw [e] at z
        exact Option.some.inj z
      rw [← e2]
      exact h.h0 b (by rw [e]; rfl)⟩
  obtain ⟨n1, n2, n3, n4⟩ := normal_ok w
  refine ⟨n1, n2, fun t => ?_, fun m hm => ?_⟩
  · have v := val_scale (f := f) (s := c.2) (t := t) h.up
    exact ⟨(n3 t).1.trans v.1, (n3 t).2.trans (v.2 h.ne)⟩
  · obtain ⟨a, ha, e⟩ := List.mem_map.mp hm
    obtain ⟨b, hb, e2⟩ := List.mem_map.mp (nrm_sub _ _ _ a ha)
    refine List.mem_map.mpr ⟨b, hb, ?_⟩
    rw [← e, ← e2]
theorem wf_ge {c : Cv} (h : WF c) : ∀ a ∈ c.1, 0 ≤ a.1 := fun a ha => by
  cases e : c.1 with
  | nil =>
    rw [e] at ha
    cases ha
  | cons b r =>
    have hb := h.h0 b (by rw [e]; rfl)
    have hu := h.up
    rw [e] at ha hu
    rcases List.mem_cons.mp ha with z | z
    · rw [z, hb]
      exact Rat.le_refl
    · have := Up.lt hu a z
      grind
theorem wf_zero {c : Cv} (h : WF c) : (0 : Rat) ∈ moms c.1 := by
  cases e : c.1 with
  | nil => exact absurd e h.ne
  | cons b r =>
    have hb := h.h0 b (by rw [e]; rfl)
    rw [← hb]
    exact List.mem_map.mpr ⟨b, by simp, rfl⟩
/-- a list of moments that holds a curve's, from 0 on -/
structure Grid (ms : List Rat) (c : Cv) : Prop where
  asc : Asc ms
  pos : ∀ m ∈ ms, 0 ≤ m
  all : ∀ m ∈ moms c.1, m ∈ ms
theorem Grid.pl {ms : List Rat} {c : Cv} (g : Grid ms c) (h : WF c) : PL (vl c) (sp c) ms :=
  pl_of h.ne h.up ms g.asc (fun m hm a ha => by rw [h.h0 a ha]; exact g.pos m hm) fun a r e b hb => by
    have := g.all b.1 (List.mem_map.mpr ⟨b, hb, rfl⟩)
    rw [e] at this
    rcases List.mem_cons.mp this with z | z
    · exact .inl (by grind)
    · exact .inr z
theorem Grid.last {ms : List Rat} {c : Cv} (g : Grid ms c) (h : WF c) {z : Rat} (hz : ms.getLast? = some z) : sp c z = c.2 := by
  refine (val_last h.ne h.up (a := z) (fun a ha => ?_) z (by grind)).2
  have hm := g.all a.1 (List.mem_map.mpr ⟨a, ha, rfl⟩)
  have : ∀ {l : List Rat}, Asc l → l.getLast? = some z → ∀ x ∈ l, x ≤ z := by
    intro l
    induction l with
    | nil => intro _ h; simp at h
    | cons b r ih =>
      intro ha hl x hx
      cases r with
      | nil =>
        have e : b = z := Option.some.inj hl
        have : x = b := by simpa using hx
        grind
      | cons d r =>
        rw [List.getLast?_cons_cons] at hl
        have i := ih ha.2 hl
        rcases List.mem_cons.mp hx with e | hx
        · have := i d (by simp)
          have := ha.1
          grind
        · exact i x hx
  exact this g.asc hz a.1 hm
theorem mem_momsOf {l : List Cv} {m : Rat} : m ∈ momsOf l ↔ ∃ c ∈ l, m ∈ moms c.1 := by
  unfold momsOf
  rw [mem_srt, List.mem_flatMap]
theorem grid_of {l : List Cv} (h : ∀ c ∈ l, WF c) {c : Cv} (hc : c ∈ l) : Grid (momsOf l) c :=
  ⟨asc_srt _, fun m hm => by
    obtain ⟨d, hd, e⟩ := mem_momsOf.mp hm
    obtain ⟨a, ha, e2⟩ := List.mem_map.mp e
    rw [← e2]
    exact wf_ge (h d hd) a ha, fun m hm => mem_momsOf.mpr ⟨c, hc, hm⟩⟩
theorem asc_head {ms : List Rat} (ha : Asc ms) (hp : ∀ m ∈ ms, 0 ≤ m) (h0 : (0 : Rat) ∈ ms) : ∃ r, ms = 0 :: r := by
  cases ms with
  | nil => cases h0
  | cons a r =>
    rcases List.mem_cons.mp h0 with e | e
    · exact ⟨r, by rw [← e]⟩
    · have := Asc.lt ha 0 e
      have := hp a (by simp)
      grind
theorem summed_ok {x y : Cv} (hx : WF x) (hy : WF y) : WF (summed x y) ∧ Plain (summed x y) ∧ (∀ t, 0 ≤ t → vl (summed x y) t = vl x t + vl y t ∧ sp (summed x y) t = sp x t + sp y t) ∧ (∀ m ∈ moms (summed x y).1, m ∈ moms x.1 ∨ m ∈ moms y.1) := by
  have hw : ∀ c ∈ [x, y, line 0], WF c := by
    intro c hc
    simp only [List.mem_cons, List.not_mem_nil, or_false] at hc
    rcases hc with e | e | e
    · rw [e]; exact hx
    · rw [e]; exact hy
    · rw [e]; exact wf_line 0
  have gx := grid_of hw (c := x) (by simp)
  have gy := grid_of hw (c := y) (by simp)
  have g0 := grid_of hw (c := line 0) (by simp)
  have hms : ∀ m ∈ momsOf [x, y, line 0], m ∈ moms x.1 ∨ m ∈ moms y.1 := fun m hm => by
    obtain ⟨c, hc, e⟩ := mem_momsOf.mp hm
    simp only [List.mem_cons, List.not_mem_nil, or_false] at hc
    rcases hc with z | z | z
    · exact .inl (z ▸ e)
    · exact .inr (z ▸ e)
    · have e0 : m = 0 := by
        rw [z] at e
        simpa [moms, line] using e
      rw [e0]
      exact .inl (wf_zero hx)
  obtain ⟨r, hr⟩ := asc_head gx.asc gx.pos (gx.all 0 (wf_zero hx))
  have px := gx.pl hx
  have py := gy.pl hy
  have pp := PL.comb 1 1 px py
  have e1 : (fun t => (1 : Rat) * vl x t + 1 * vl y t) = fun t => vl x t + vl y t := by
    funext t
    grind
  have e2 : (fun t => (1 : Rat) * sp x t + 1 * sp y t) = fun t => sp x t + sp y t := by
    funext t
    grind
  rw [e1, e2] at pp
  have v := pl_val (s := x.2 + y.2) hr gx.asc pp fun z hz => by
    show sp x z + sp y z = _
    rw [gx.last hx hz, gy.last hy hz]
  have w : WF ((momsOf [x, y, line 0]).map (fun m => (m, vl x m + vl y m)), x.2 + y.2) := by
    refine ⟨?_, up_map gx.asc, fun a ha => ?_⟩
    · rw [hr]
      simp
    · have ha : ((momsOf [x, y, line 0]).map (fun m => (m, vl x m + vl y m))).head? = some a := ha
      rw [hr] at ha
      have e : (0, vl x 0 + vl y 0) = a := Option.some.inj ha
      rw [← e]
  obtain ⟨n1, n2, n3, n4⟩ := normal_ok w
  refine ⟨n1, n2, fun t ht => ⟨(n3 t).1.trans (v t ht).1, (n3 t).2.trans (v t ht).2⟩, fun m hm => ?_⟩
  obtain ⟨a, ha, e⟩ := List.mem_map.mp hm
  obtain ⟨b, hb, e2⟩ := List.mem_map.mp (nrm_sub _ _ _ a ha)
  refine hms m ?_
  rw [← e, ← e2]
  exact hb
theorem apart_ok {x y : Cv} (hx : WF x) (hy : WF y) : WF (apart x y) ∧ Plain (apart x y) ∧ (∀ t, 0 ≤ t → vl (apart x y) t = vl x t - vl y t ∧ sp (apart x y) t = sp x t - sp y t) ∧ (∀ m ∈ moms (apart x y).1, m ∈ moms x.1 ∨ m ∈ moms y.1) ∧ (apart x y).2 = x.2 - y.2 := by
  obtain ⟨m1, m2, m3, m4⟩ := many_ok (f := -1) hy
  obtain ⟨s1, s2, s3, s4⟩ := summed_ok hx m1
  refine ⟨s1, s2, fun t ht => ?_, fun m hm => (s4 m hm).imp id (m4 m), ?_⟩
  · rw [show vl (apart x y) t = _ from (s3 t ht).1, show sp (apart x y) t = _ from (s3 t ht).2, (m3 t).1, (m3 t).2]
    constructor <;> grind
  · show x.2 + (-1) * y.2 = _
    grind
end Qk
namespace Qk
theorem cons_of {c : Cv} (h : WF c) : ∃ w r, c.1 = (0, w) :: r := by
  cases e : c.1 with
  | nil => exact absurd e h.ne
  | cons a r =>
    have := h.h0 a (by rw [e]; rfl)
    exact ⟨a.2, r, by rw [← this]⟩
theorem vl_zero {c : Cv} (h : WF c) {w : Rat} {r : List Cn} (e : c.1 = (0, w) :: r) : vl c 0 = w := by
  have hu := h.up
  unfold vl
  rw [e] at hu ⊢
  exact val_head hu
structure Risen (f c : Cv) : Prop where
  at_ : ∀ t, 0 ≤ t → 0 ≤ sp f t ∧ vl c t ≤ vl f t ∧ (sp f t ≠ 0 → vl f t = vl c t)
  zero : vl f 0 = vl c 0
  last : f.2 = if c.2 ≤ 0 then 0 else c.2
theorem risen_ok {c : Cv} (h : WF c) : WF (neverFalling c) ∧ Plain (neverFalling c) ∧ Risen (neverFalling c) c := by
  obtain ⟨w, r, e⟩ := cons_of h
  have hu := h.up
  rw [e] at hu
  obtain ⟨⟨fs, h1⟩, h2, h3, h4⟩ := nf_ok (s := c.2) r (0, w) w 0 hu
  have e1 : neverFalling c = normal (nf w ((0, w) :: r) c.2) (nfLast w 0 ((0, w) :: r) c.2) := by
    unfold neverFalling
    rw [e]
    rfl
  have hr : rmax w w = w := by
    unfold rmax
    split <;> rfl
  have h1 : nf w ((0, w) :: r) c.2 = (0, rmax w w) :: fs := h1
  rw [hr] at h1
  rw [e1]
  have wf : WF (nf w ((0, w) :: r) c.2, nfLast w 0 ((0, w) :: r) c.2) := ⟨by rw [h1]; simp, h2, fun a ha => by
    have ha : (nf w ((0, w) :: r) c.2).head? = some a := ha
    rw [h1] at ha
    have e : (0, w) = a := Option.some.inj ha
    rw [← e]⟩
  obtain ⟨n1, n2, n3, n4⟩ := normal_ok wf
  refine ⟨n1, n2, ⟨fun t ht => ?_, ?_, h3⟩⟩
  · have x := h4 t ht
    unfold RisenAt at x
    rw [(n3 t).1, (n3 t).2]
    show _ ∧ val c.1 c.2 t ≤ _ ∧ (_ → _ = val c.1 c.2 t)
    rw [e]
    exact x
  · rw [vl_zero h e, (n3 0).1, h1]
    rw [h1] at h2
    exact val_head h2
structure Late (f c : Cv) : Prop where
  at_ : ∀ t, 0 ≤ t → sp f t ≤ 0 ∧ vl c t ≤ vl f t ∧ (sp f t ≠ 0 → vl f t = vl c t)
  far : ∀ t, (∀ m ∈ moms c.1, m ≤ t) → vl f t = vl c t
theorem late_ok {c : Cv} (h : WF c) (hs : c.2 ≤ 0) : WF (laterTops c) ∧ Plain (laterTops c) ∧ Late (laterTops c) c := by
  obtain ⟨w, r, e⟩ := cons_of h
  have hu := h.up
  rw [e] at hu
  obtain ⟨⟨fs, h1⟩, h2, h3, h4, h5⟩ := lt_ok hs r (0, w) hu
  have e1 : laterTops c = normal (lt ((0, w) :: r) c.2).1 c.2 := by
    unfold laterTops
    rw [e]
  rw [e1]
  have wf : WF ((lt ((0, w) :: r) c.2).1, c.2) := ⟨by rw [h1]; simp, h3, fun a ha => by
    have ha : (lt ((0, w) :: r) c.2).1.head? = some a := ha
    rw [h1] at ha
    have e : ((0 : Rat), _) = a := Option.some.inj ha
    rw [← e]⟩
  obtain ⟨n1, n2, n3, n4⟩ := normal_ok wf
  refine ⟨n1, n2, ⟨fun t ht => ?_, fun t ht => ?_⟩⟩
  · have x := h4 t ht
    unfold LateAt at x
    rw [(n3 t).1, (n3 t).2]
    show _ ∧ val c.1 c.2 t ≤ _ ∧ (_ → _ = val c.1 c.2 t)
    rw [e]
    exact x
  · rw [(n3 t).1]
    show _ = val c.1 c.2 t
    rw [e] at ht ⊢
    exact h5 t fun a ha => ht a.1 (List.mem_map.mpr ⟨a, ha, rfl⟩)
/-- f is c held back by m -/
structure Held (f c : Cv) (m : Rat) : Prop where
  at_ : ∀ t, 0 ≤ t → sp f t ≤ m ∧ vl f t ≤ vl c t ∧ (sp f t ≠ m → vl f t = vl c t)
  zero : vl f 0 = vl c 0
  last : f.2 = if c.2 < m then c.2 else m
theorem back_ok {c : Cv} {m : Rat} (h : WF c) : WF (back c m) ∧ Plain (back c m) ∧ Held (back c m) c m := by
  obtain ⟨a1, a2, a3, a4, a5⟩ := apart_ok (wf_line m) h
  obtain ⟨r1, r2, r3⟩ := risen_ok a1
  obtain ⟨b1, b2, b3, b4, b5⟩ := apart_ok (wf_line m) r1
  refine ⟨b1, b2, ⟨fun t ht => ?_, ?_, ?_⟩⟩
  · obtain ⟨x1, x2, x3⟩ := r3.at_ t ht
    have l := vl_line m t
    rw [(a3 t ht).1] at x2 x3
    rw [show vl (back c m) t = _ from (b3 t ht).1, show sp (back c m) t = _ from (b3 t ht).2, l.1, l.2]
    rw [l.1] at x2 x3
    refine ⟨by grind, by grind, fun z => ?_⟩
    have := x3 (by grind)
    grind
  · have z : (0 : Rat) ≤ 0 := Rat.le_refl
    rw [show vl (back c m) 0 = _ from (b3 0 z).1, r3.zero, (a3 0 z).1]
    grind
  · show (apart (line m) (neverFalling (apart (line m) c))).2 = _
    rw [b5, r3.last, a5]
    show m - (if m - c.2 ≤ 0 then 0 else m - c.2) = _
    split <;> split <;> grind
/-- f is c pushed ahead by m -/
structure Pushed (f c : Cv) (m : Rat) : Prop where
  at_ : ∀ t, 0 ≤ t → sp f t ≤ m ∧ vl c t ≤ vl f t ∧ (sp f t ≠ m → vl f t = vl c t)
  far : ∀ t, 0 ≤ t → (∀ a ∈ moms c.1, a ≤ t) → vl f t = vl c t
  last : f.2 = c.2
theorem ahead_ok {c : Cv} {m : Rat} (h : WF c) (hm : ¬ m < c.2) : ∃ f, ahead c m = some f ∧ WF f ∧ Plain f ∧ Pushed f c m := by
  obtain ⟨a1, a2, a3, a4, a5⟩ := apart_ok h (wf_line m)
  have hs : (apart c (line m)).2 ≤ 0 := by
    rw [a5]
    show c.2 - m ≤ 0
    grind
  obtain ⟨r1, r2, r3⟩ := late_ok a1 hs
  obtain ⟨b1, b2, b3, b4⟩ := summed_ok (wf_line m) r1
  refine ⟨_, if_neg hm, b1, b2, ⟨fun t ht => ?_, fun t ht hf => ?_, ?_⟩⟩
  · obtain ⟨x1, x2, x3⟩ := r3.at_ t ht
    have l := vl_line m t
    rw [(a3 t ht).1, l.1] at x2 x3
    rw [(b3 t ht).1, (b3 t ht).2, l.1, l.2]
    refine ⟨by grind, by grind, fun z => ?_⟩
    have := x3 (by grind)
    grind
  · have l := vl_line m t
    rw [(b3 t ht).1, l.1, r3.far t fun x hx => ?_, (a3 t ht).1, l.1]
    · grind
    · rcases a4 x hx with z | z
      · exact hf x z
      · have e : x = 0 := by simpa [moms, line] using z
        rw [e]
        exact ht
  · show m + (laterTops (apart c (line m))).2 = c.2
    show m + (apart c (line m)).2 = c.2
    rw [a5]
    show m + (c.2 - m) = c.2
    grind

/-! ### the law's own look: stretches -/
abbrev Row := Rat × Rat × Rat
def rows (f c : Cv) : List Rat → List Row
  | [] => []
  | [a] => [(vl c a - vl f a, vl c (a + 1) - vl f (a + 1), sp f a)]
  | a :: b :: r => (vl c a - vl f a, vl c b - vl f b, sp f a) :: rows f c (b :: r)
/-- a row between two moments with nothing between them -/
structure Stretch (f c : Cv) (w : Row) : Prop where
  ex : ∃ a b : Rat, 0 ≤ a ∧ a < b ∧ w = (vl c a - vl f a, vl c b - vl f b, sp f a) ∧
    (∀ t, a ≤ t → t ≤ b → vl f t = vl f a + sp f a * (t - a) ∧ vl c t = vl c a + sp c a * (t - a)) ∧ (∀ t, a ≤ t → t < b → sp f t = sp f a ∧ sp c t = sp c a)
theorem rows_all {f c : Cv} : ∀ {ms : List Rat}, Asc ms → (∀ m ∈ ms, 0 ≤ m) → PL (vl f) (sp f) ms → PL (vl c) (sp c) ms → ∀ w ∈ rows f c ms, Stretch f c w
  | [], _, _, _, _, w, hw => by cases hw
  | [a], ha, hp, hf, hc, w, hw => by
    have e : w = (vl c a - vl f a, vl c (a + 1) - vl f (a + 1), sp f a) := by simpa [rows] using hw
    refine ⟨a, a + 1, hp a (by simp), by grind, e, fun t h1 h2 => ⟨(hf t h1).1, (hc t h1).1⟩, fun t h1 h2 => ⟨(hf t h1).2, (hc t h1).2⟩⟩
  | a :: b :: r, ha, hp, hf, hc, w, hw => by
    rcases List.mem_cons.mp hw with e | hw
    · refine ⟨a, b, hp a (by simp), ha.1, e, fun t h1 h2 => ⟨(hf.1 t h1).1 h2, (hc.1 t h1).1 h2⟩, fun t h1 h2 => ⟨(hf.1 t h1).2 h2, (hc.1 t h1).2 h2⟩⟩
    · exact rows_all ha.2 (fun m hm => hp m (List.mem_cons_of_mem _ hm)) hf.2 hc.2 w hw
theorem stretches {f c : Cv} (hf : WF f) (hc : WF c) : ∀ w ∈ rows f c (momsOf [f, c]), Stretch f c w := by
  have hw : ∀ d ∈ [f, c], WF d := by
    intro d hd
    simp only [List.mem_cons, List.not_mem_nil, or_false] at hd
    rcases hd with e | e
    · rw [e]; exact hf
    · rw [e]; exact hc
  have gf := grid_of hw (c := f) (by simp)
  have gc := grid_of hw (c := c) (by simp)
  exact rows_all gf.asc gf.pos (gf.pl hf) (gc.pl hc)
/-- where the slope is another one than k on a stretch, both are alike at its ends -/
theorem Stretch.touch {f c : Cv} {w : Row} (h : Stretch f c w) {k : Rat} (p : ∀ t, 0 ≤ t → sp f t ≠ k → vl f t = vl c t) (hk : w.2.2 ≠ k) : w.1 = 0 ∧ w.2.1 = 0 := by
  obtain ⟨a, b, h0, hab, rfl, hv, hs⟩ := h.ex
  have hk : sp f a ≠ k := hk
  have mid : a ≤ (a + b) / 2 ∧ (a + b) / 2 < b := by constructor <;> grind
  have pa := p a h0 hk
  have pm := p ((a + b) / 2) (by grind) (by rw [(hs _ mid.1 mid.2).1]; exact hk)
  have vm := hv ((a + b) / 2) mid.1 (by grind)
  have vb := hv b (by grind) (by grind)
  show vl c a - vl f a = 0 ∧ vl c b - vl f b = 0
  have : (sp f a - sp c a) * (b - a) = 0 := by grind
  constructor <;> grind
theorem held_rows {f c : Cv} {m : Rat} (hf : WF f) (hc : WF c) (h : Held f c m) : ∀ w ∈ rows f c (momsOf [f, c]), ¬ m < w.2.2 ∧ ¬ w.1 < 0 ∧ ¬ w.2.1 < 0 ∧ (w.2.2 ≠ m → w.1 = 0 ∧ w.2.1 = 0) := fun w hw => by
  have st := stretches hf hc w hw
  have tc := fun z => st.touch (k := m) (fun t ht => (h.at_ t ht).2.2) z
  obtain ⟨a, b, h0, hab, rfl, hv, hs⟩ := st.ex
  have x := h.at_ a h0
  have y := h.at_ b (by grind)
  exact ⟨by show ¬ m < sp f a; grind, by show ¬ vl c a - vl f a < 0; grind, by show ¬ vl c b - vl f b < 0; grind, tc⟩
theorem pushed_rows {f c : Cv} {m : Rat} (hf : WF f) (hc : WF c) (h : Pushed f c m) : ∀ w ∈ rows f c (momsOf [f, c]), ¬ m < w.2.2 ∧ ¬ 0 < w.1 ∧ ¬ 0 < w.2.1 ∧ (w.2.2 ≠ m → w.1 = 0 ∧ w.2.1 = 0) := fun w hw => by
  have st := stretches hf hc w hw
  have tc := fun z => st.touch (k := m) (fun t ht => (h.at_ t ht).2.2) z
  obtain ⟨a, b, h0, hab, rfl, hv, hs⟩ := st.ex
  have x := h.at_ a h0
  have y := h.at_ b (by grind)
  exact ⟨by show ¬ m < sp f a; grind, by show ¬ 0 < vl c a - vl f a; grind, by show ¬ 0 < vl c b - vl f b; grind, tc⟩
theorem risen_rows {f c : Cv} (hf : WF f) (hc : WF c) (h : Risen f c) : ∀ w ∈ rows f c (momsOf [f, c]), ¬ w.2.2 < 0 ∧ ¬ 0 < w.1 ∧ ¬ 0 < w.2.1 ∧ (w.2.2 ≠ 0 → w.1 = 0 ∧ w.2.1 = 0) := fun w hw => by
  have st := stretches hf hc w hw
  have tc := fun z => st.touch (k := 0) (fun t ht => (h.at_ t ht).2.2) z
  obtain ⟨a, b, h0, hab, rfl, hv, hs⟩ := st.ex
  have x := h.at_ a h0
  have y := h.at_ b (by grind)
  exact ⟨by show ¬ sp f a < 0; grind, by show ¬ 0 < vl c a - vl f a; grind, by show ¬ 0 < vl c b - vl f b; grind, tc⟩
theorem rows_last {f c : Cv} : ∀ {ms : List Rat} {z : Rat}, ms.getLast? = some z → (rows f c ms).getLast? = some (vl c z - vl f z, vl c (z + 1) - vl f (z + 1), sp f z)
  | [], z, h => by simp at h
  | [a], z, h => by
    have e : a = z := Option.some.inj h
    rw [e]
    rfl
  | a :: b :: r, z, h => by
    rw [List.getLast?_cons_cons] at h
    have i := rows_last (f := f) (c := c) h
    show ((_, _, _) :: rows f c (b :: r)).getLast? = _
    cases e : rows f c (b :: r) with
    | nil =>
      rw [e] at i
      simp at i
    | cons x y =>
      rw [List.getLast?_cons_cons, ← e]
      exact i
theorem asc_le_last {z : Rat} : ∀ {l : List Rat}, Asc l → l.getLast? = some z → ∀ x ∈ l, x ≤ z
  | [], _, h, _, _ => by simp at h
  | [b], _, h, x, hx => by
    have e : b = z := Option.some.inj h
    have : x = b := by simpa using hx
    grind
  | b :: d :: r, ha, h, x, hx => by
    rw [List.getLast?_cons_cons] at h
    have i := asc_le_last ha.2 h
    rcases List.mem_cons.mp hx with e | hx
    · have := i d (by simp)
      have := ha.1
      grind
    · exact i x hx
theorem pushed_last {f c g : Cv} {m : Rat} (hf : WF f) (hc : WF c) (h : Pushed f g m) (hg : ∀ t, 0 ≤ t → vl g t = vl c t ∧ sp g t = sp c t) (h2 : g.2 = c.2) : ∀ w, (rows f c (momsOf [f, c])).getLast? = some w → w.1 = 0 ∧ w.2.1 = 0 := fun w hw => by
  have hws : ∀ d ∈ [f, c], WF d := by
    intro d hd
    simp only [List.mem_cons, List.not_mem_nil, or_false] at hd
    rcases hd with e | e
    · rw [e]; exact hf
    · rw [e]; exact hc
  have gf := grid_of hws (c := f) (by simp)
  have gc := grid_of hws (c := c) (by simp)
  cases e : (momsOf [f, c]).getLast? with
  | none =>
    have := gf.all 0 (wf_zero hf)
    rw [List.getLast?_eq_none_iff.mp e] at this
    cases this
  | some z =>
    rw [rows_last e] at hw
    have e2 := Option.some.inj hw
    rw [← e2]
    dsimp only
    have hz : 0 ≤ z := gf.pos z (List.mem_of_getLast? e)
    have lf : ∀ t, z ≤ t → vl f t = vl f z + f.2 * (t - z) := fun t ht => (val_last hf.ne hf.up (a := z) (fun a ha => asc_le_last gf.asc e a.1 (gf.all a.1 (List.mem_map.mpr ⟨a, ha, rfl⟩))) t ht).1
    have lc : ∀ t, z ≤ t → vl c t = vl c z + c.2 * (t - z) := fun t ht => (val_last hc.ne hc.up (a := z) (fun a ha => asc_le_last gc.asc e a.1 (gc.all a.1 (List.mem_map.mpr ⟨a, ha, rfl⟩))) t ht).1
    -- a moment behind all corners of g
    obtain ⟨y, hy1, hy2⟩ : ∃ y, z ≤ y ∧ ∀ a ∈ moms g.1, a ≤ y := by
      have : ∀ l : List Rat, ∃ y, z ≤ y ∧ ∀ a ∈ l, a ≤ y := by
        intro l
        induction l with
        | nil => exact ⟨z, Rat.le_refl, fun a h => by cases h⟩
        | cons b r ih =>
          obtain ⟨y, h1, h2⟩ := ih
          refine ⟨rmax y b, ?_, fun a ha => ?_⟩
          · have := le_rmax y b
            grind
          · have := le_rmax y b
            rcases List.mem_cons.mp ha with e | ha
            · grind
            · have := h2 a ha
              grind
      exact this _
    have x := h.far y (by grind) hy2
    have x2 := (hg y (by grind)).1
    have x3 := lf y hy1
    have x4 := lc y hy1
    have x5 := lf (z + 1) (by grind)
    have x6 := lc (z + 1) (by grind)
    have x7 := h.last
    have : f.2 * (y - z) = c.2 * (y - z) := by rw [x7, h2]
    constructor <;> grind
theorem Held.of {f c g : Cv} {m : Rat} (h : Held f g m) (hg : ∀ t, 0 ≤ t → vl g t = vl c t ∧ sp g t = sp c t) (h2 : g.2 = c.2) : Held f c m :=
  ⟨fun t ht => by rw [← (hg t ht).1]; exact h.at_ t ht, by rw [h.zero, (hg 0 Rat.le_refl).1], by rw [h.last, h2]⟩
theorem Risen.of {f c g : Cv} (h : Risen f g) (hg : ∀ t, 0 ≤ t → vl g t = vl c t ∧ sp g t = sp c t) (h2 : g.2 = c.2) : Risen f c :=
  ⟨fun t ht => by rw [← (hg t ht).1]; exact h.at_ t ht, by rw [h.zero, (hg 0 Rat.le_refl).1], by rw [h.last, h2]⟩
theorem Pushed.of {f c g : Cv} {m : Rat} (hf : WF f) (h : Pushed f g m) (hg : ∀ t, 0 ≤ t → vl g t = vl c t ∧ sp g t = sp c t) : ∀ t, 0 ≤ t → sp f t ≤ m ∧ vl c t ≤ vl f t ∧ (sp f t ≠ m → vl f t = vl c t) := fun t ht => by
  rw [← (hg t ht).1]
  exact h.at_ t ht
/-- held back by two -/
theorem held_two {f1 f2 c : Cv} {m1 m2 : Rat} (w1 : WF f1) (w2 : WF f2) (h1 : Held f1 c m1) (h2 : Held f2 f1 m2) : Held f2 c (if m2 < m1 then m2 else m1) := by
  have hz : vl f2 0 = vl c 0 := h2.zero.trans h1.zero
  by_cases q : m2 < m1 ∨ m2 = m1
  · have e : (if m2 < m1 then m2 else m1) = m2 := by
      split
      · rfl
      · grind
    rw [e]
    refine ⟨fun t ht => ?_, hz, ?_⟩
    · obtain ⟨a1, a2, a3⟩ := h1.at_ t ht
      obtain ⟨b1, b2, b3⟩ := h2.at_ t ht
      refine ⟨b1, by grind, fun z => ?_⟩
      -- f2 is f1 on a stretch behind t, so their slopes are alike
      have hw : ∀ d ∈ [f2, f1, ([((0 : Rat), (0 : Rat)), (t, 0)], (0 : Rat))], d.1 ≠ [] := by
        intro d hd
        simp only [List.mem_cons, List.not_mem_nil, or_false] at hd
        rcases hd with e | e | e
        · rw [e]; exact w2.ne
        · rw [e]; exact w1.ne
        · rw [e]; simp
      obtain ⟨b, hb, hb1, hb2⟩ : ∃ b, t < b ∧ (∀ a ∈ f1.1, a.1 ≤ t ∨ b ≤ a.1) ∧ (∀ a ∈ f2.1, a.1 ≤ t ∨ b ≤ a.1) := by
        have : ∀ l : List Rat, ∃ b, t < b ∧ ∀ a ∈ l, a ≤ t ∨ b ≤ a := by
          intro l
          induction l with
          | nil => exact ⟨t + 1, by grind, fun a h => by cases h⟩
          | cons x r ih =>
            obtain ⟨b, i1, i2⟩ := ih
            by_cases hx : x ≤ t
            · exact ⟨b, i1, fun a ha => by
                rcases List.mem_cons.mp ha with e | ha
                · rw [e]; exact .inl hx
                · exact i2 a ha⟩
            · by_cases hxb : x < b
              · exact ⟨x, by grind, fun a ha => by
                  rcases List.mem_cons.mp ha with e | ha
                  · rw [e]; exact .inr Rat.le_refl
                  · rcases i2 a ha with z | z
                    · exact .inl z
                    · exact .inr (by grind)⟩
              · exact ⟨b, i1, fun a ha => by
                  rcases List.mem_cons.mp ha with e | ha
                  · rw [e]; exact .inr (by grind)
                  · exact i2 a ha⟩
        obtain ⟨b, i1, i2⟩ := this (moms f1.1 ++ moms f2.1)
        exact ⟨b, i1, fun a ha => i2 a.1 (List.mem_append_left _ (List.mem_map.mpr ⟨a, ha, rfl⟩)), fun a ha => i2 a.1 (List.mem_append_right _ (List.mem_map.mpr ⟨a, ha, rfl⟩))⟩
      have s1 := fun u hu => val_seg (s := f1.2) w1.ne w1.up (fun a ha => by rw [w1.h0 a ha]; exact ht) hb hb1 u hu
      have s2 := fun u hu => val_seg (s := f2.2) w2.ne w2.up (fun a ha => by rw [w2.h0 a ha]; exact ht) hb hb2 u hu
      have mid : t ≤ (t + b) / 2 ∧ (t + b) / 2 < b ∧ t < (t + b) / 2 := by refine ⟨?_, ?_, ?_⟩ <;> grind
      have u1 := (s1 _ mid.1).1 (by grind)
      have u2 := (s2 _ mid.1).1 (by grind)
      have u3 := (s2 _ mid.1).2 mid.2.1
      have et := b3 z
      have em := (h2.at_ ((t + b) / 2) (by grind)).2.2 (by show slp f2.1 f2.2 _ ≠ m2; rw [u3]; exact z)
      have es : slp f2.1 f2.2 t = slp f1.1 f1.2 t := by
        have : (slp f2.1 f2.2 t - slp f1.1 f1.2 t) * ((t + b) / 2 - t) = 0 := by
          simp only [vl] at et em
          grind
        rcases Rat.mul_eq_zero.mp this with y | y <;> grind
      have := a3 (by show slp f1.1 f1.2 t ≠ m1; rw [← es]; show sp f2 t ≠ m1; grind)
      rw [et, this]
    · rw [h2.last, h1.last]
      grind
  · have e : (if m2 < m1 then m2 else m1) = m1 := if_neg fun z => q (.inl z)
    have hlt : m1 < m2 := by grind
    rw [e]
    -- f2 is f1
    have hws : ∀ d ∈ [f2, f1], WF d := by
      intro d hd
      simp only [List.mem_cons, List.not_mem_nil, or_false] at hd
      rcases hd with e | e
      · rw [e]; exact w2
      · rw [e]; exact w1
    have g1 := grid_of hws (c := f1) (by simp)
    have g2 := grid_of hws (c := f2) (by simp)
    have p1 := g1.pl w1
    have p2 := g2.pl w2
    have key : ∀ {ms : List Rat} {a : Rat} {r : List Rat}, ms = a :: r → Asc ms → 0 ≤ a → PL (vl f1) (sp f1) ms → PL (vl f2) (sp f2) ms → vl f1 a = vl f2 a → ∀ t, a ≤ t → vl f1 t = vl f2 t ∧ sp f1 t = sp f2 t := by
      -- on one stretch
      have one : ∀ (a b : Rat), 0 ≤ a → a < b → vl f1 a = vl f2 a → (∀ t, a ≤ t → t ≤ b → vl f1 t = vl f1 a + sp f1 a * (t - a) ∧ vl f2 t = vl f2 a + sp f2 a * (t - a)) → (∀ t, a ≤ t → t < b → sp f1 t = sp f1 a ∧ sp f2 t = sp f2 a) → sp f1 a = sp f2 a := by
        intro a b h0 hab e0 hv hs
        have mid : a ≤ (a + b) / 2 ∧ (a + b) / 2 < b ∧ a < (a + b) / 2 := by refine ⟨?_, ?_, ?_⟩ <;> grind
        obtain ⟨v1, v2⟩ := hv _ mid.1 (by grind)
        obtain ⟨z1, z2⟩ := hs _ mid.1 mid.2.1
        obtain ⟨b1, b2, b3⟩ := h2.at_ ((a + b) / 2) (by grind)
        obtain ⟨a1, a2, a3⟩ := h1.at_ a h0
        by_cases hm : sp f2 a = m2
        · have := mul_lt' (k := (a + b) / 2 - a) (x := sp f1 a) (y := sp f2 a) (by grind) (by grind)
          grind
        · have := b3 (by rw [z2]; exact hm)
          have : ((a + b) / 2 - a) * (sp f1 a - sp f2 a) = 0 := by grind
          rcases Rat.mul_eq_zero.mp this with y | y <;> grind
      intro ms
      induction ms with
      | nil => intro a r e; cases e
      | cons x xs ih =>
        intro a r e ha h0 q1 q2 e0 t ht
        obtain ⟨rfl, rfl⟩ := List.cons.inj e
        clear e
        cases xs with
        | nil =>
          have s := one x (x + 1) h0 (by grind) e0 (fun u h _ => ⟨(q1 u h).1, (q2 u h).1⟩) (fun u h _ => ⟨(q1 u h).2, (q2 u h).2⟩)
          rw [(q1 t ht).1, (q1 t ht).2, (q2 t ht).1, (q2 t ht).2, e0, s]
          exact ⟨rfl, rfl⟩
        | cons b r =>
          have s := one x b h0 ha.1 e0 (fun u h h' => ⟨(q1.1 u h).1 h', (q2.1 u h).1 h'⟩) (fun u h h' => ⟨(q1.1 u h).2 h', (q2.1 u h).2 h'⟩)
          by_cases hb : t < b
          · rw [(q1.1 t ht).1 (by grind), (q1.1 t ht).2 hb, (q2.1 t ht).1 (by grind), (q2.1 t ht).2 hb, e0, s]
            exact ⟨rfl, rfl⟩
          · have hab := ha.1
            refine ih rfl ha.2 (by grind) q1.2 q2.2 ?_ t (by grind)
            rw [(q1.1 b (by grind)).1 (by grind), (q2.1 b (by grind)).1 (by grind), e0, s]
    obtain ⟨r, hr⟩ := asc_head g1.asc g1.pos (g1.all 0 (wf_zero w1))
    have same := key hr g1.asc Rat.le_refl p1 p2 h2.zero.symm
    refine ⟨fun t ht => ?_, hz, ?_⟩
    · rw [← (same t ht).1, ← (same t ht).2]
      exact h1.at_ t ht
    · rw [h2.last, h1.last]
      grind
end Qk
namespace Qk
theorem low_num {n d : Int} (h : 0 < d) : n / ((Nat.gcd n.natAbs d.natAbs : Nat) : Int) = (Rat.divInt n d).num := by
  rw [Rat.num_divInt, Int.sign_eq_one_of_pos h, Int.one_mul, Int.gcd_eq_natAbs_gcd_natAbs, Nat.gcd_comm]
theorem low_den {n d : Int} (h : 0 < d) : d / ((Nat.gcd n.natAbs d.natAbs : Nat) : Int) = ((Rat.divInt n d).den : Int) := by
  rw [Rat.den_divInt, if_neg (by omega), Int.gcd_eq_natAbs_gcd_natAbs, Nat.gcd_comm d.natAbs]
  have e : d = ((d.natAbs : Nat) : Int) := by omega
  rw [Int.natCast_ediv, ← e]
/-- by a divisor below 0 -/
theorem low_numN {n d : Int} (h : d < 0) : n.fdiv (0 - ((Nat.gcd n.natAbs d.natAbs : Nat) : Int)) = (Rat.divInt n d).num ∧ d.fdiv (0 - ((Nat.gcd n.natAbs d.natAbs : Nat) : Int)) = ((Rat.divInt n d).den : Int) := by
  have e : Rat.divInt n d = Rat.divInt (-n) (-d) := (Rat.neg_divInt_neg n d).symm
  have h1 := low_num (n := -n) (d := -d) (by omega)
  have h2 := low_den (n := -n) (d := -d) (by omega)
  rw [Int.natAbs_neg, Int.natAbs_neg] at h1 h2
  rw [e, ← h1, ← h2]
  have gp : 0 < ((Nat.gcd n.natAbs d.natAbs : Nat) : Int) := by
    have := Nat.gcd_pos_of_pos_right n.natAbs (show 0 < d.natAbs by omega)
    omega
  have key : ∀ x : Int, ((Nat.gcd n.natAbs d.natAbs : Nat) : Int) ∣ x → x.fdiv (0 - ((Nat.gcd n.natAbs d.natAbs : Nat) : Int)) = (-x) / ((Nat.gcd n.natAbs d.natAbs : Nat) : Int) := by
    generalize ((Nat.gcd n.natAbs d.natAbs : Nat) : Int) = g at gp
    rintro x ⟨k, rfl⟩
    rw [show 0 - g = -g by omega, ← Int.neg_fdiv_neg, Int.neg_neg, Int.fdiv_eq_ediv_of_nonneg _ (by omega)]
  refine ⟨key n ?_, key d ?_⟩
  · exact Int.ofNat_dvd_left.mpr (Nat.gcd_dvd_left _ _)
  · exact Int.ofNat_dvd_left.mpr (Nat.gcd_dvd_right _ _)
theorem q_den_pos (q : Rat) : (0 : Int) < (q.den : Int) := by
  have := q.den_pos
  omega
theorem q_add (p q : Rat) : p + q = Rat.divInt (p.num * (q.den : Int) + q.num * (p.den : Int)) ((p.den : Int) * (q.den : Int)) := by
  rw [Rat.add_def', ← Int.natCast_mul, Rat.divInt_ofNat]
theorem q_sub (p q : Rat) : p - q = Rat.divInt (p.num * (q.den : Int) - q.num * (p.den : Int)) ((p.den : Int) * (q.den : Int)) := by
  have h := Rat.divInt_sub_divInt p.num q.num (d₁ := (p.den : Int)) (d₂ := (q.den : Int)) (by have := q_den_pos p; omega) (by have := q_den_pos q; omega)
  rw [Rat.num_divInt_den, Rat.num_divInt_den] at h
  exact h
theorem q_mul (p q : Rat) : p * q = Rat.divInt (p.num * q.num) ((p.den : Int) * (q.den : Int)) := by
  rw [Rat.mul_def', ← Int.natCast_mul, Rat.divInt_ofNat]
theorem q_div (p q : Rat) : p / q = Rat.divInt (p.num * (q.den : Int)) ((p.den : Int) * q.num) := by
  have h := Rat.divInt_mul_divInt p.num (q.den : Int) (d₁ := (p.den : Int)) (d₂ := q.num)
  rw [Rat.num_divInt_den, ← Rat.inv_def, ← Rat.div_def] at h
  exact h
theorem q_lt (p q : Rat) : p < q ↔ p.num * (q.den : Int) < q.num * (p.den : Int) := Rat.lt_iff p q
theorem q_den_mul (p q : Rat) : (0 : Int) < (p.den : Int) * (q.den : Int) := Int.mul_pos (q_den_pos p) (q_den_pos q)
theorem q_num_pos {q : Rat} : 0 < q.num ↔ 0 < q := by
  rw [q_lt 0 q]
  simp
theorem q_num_neg {q : Rat} : q.num < 0 ↔ q < 0 := by
  have h := q_lt q 0
  rw [h]
  simp
theorem q_num_zero {q : Rat} : q.num = 0 ↔ q = 0 := Rat.num_eq_zero

/-! ### sizes -/
/-- top and bottom below 2 ^ n -/
structure Sz (n : Nat) (q : Rat) : Prop where
  one : q.num.natAbs < 2 ^ n
  two : q.den < 2 ^ n
theorem Sz.mono {n m : Nat} {q : Rat} (h : Sz n q) (e : n ≤ m) : Sz m q := by
  have := Nat.pow_le_pow_right (show 0 < 2 by decide) e
  exact ⟨Nat.lt_of_lt_of_le h.one this, Nat.lt_of_lt_of_le h.two this⟩
theorem sz_divInt {a b : Int} {n : Nat} (ha : a.natAbs < 2 ^ n) (hb : b.natAbs < 2 ^ n) (h0 : b ≠ 0) : Sz n (Rat.divInt a b) := by
  have key : ∀ {a b : Int}, a.natAbs < 2 ^ n → b.natAbs < 2 ^ n → 0 < b → Sz n (Rat.divInt a b) := fun {a b} ha hb h0 => by
    constructor
    · rw [← low_num h0]
      refine Nat.lt_of_le_of_lt ?_ ha
      exact Int.natAbs_ediv_le_natAbs _ _
    · rw [Rat.den_divInt, if_neg (by omega)]
      exact Nat.lt_of_le_of_lt (Nat.div_le_self _ _) hb
  by_cases h : 0 < b
  · exact key ha hb h
  · rw [← Rat.neg_divInt_neg]
    exact key (by rw [Int.natAbs_neg]; exact ha) (by rw [Int.natAbs_neg]; exact hb) (by omega)
theorem mul_lt2 {a b : Int} {n m : Nat} (ha : a.natAbs < 2 ^ n) (hb : b.natAbs < 2 ^ m) : (a * b).natAbs < 2 ^ (n + m) := by
  rw [Int.natAbs_mul, Nat.pow_add]
  exact Nat.mul_lt_mul'' ha hb
theorem Sz.den {n : Nat} {q : Rat} (h : Sz n q) : (q.den : Int).natAbs < 2 ^ n := by
  rw [Int.natAbs_natCast]
  exact h.two
theorem Sz.add {n m : Nat} {p q : Rat} (hp : Sz n p) (hq : Sz m q) : Sz (n + m + 1) (p + q) := by
  rw [q_add]
  have h1 := mul_lt2 hp.one hq.den
  have h2 := mul_lt2 hq.one hp.den
  have h3 := mul_lt2 hp.den hq.den
  rw [Nat.add_comm m n] at h2
  have e : 2 ^ (n + m + 1) = 2 ^ (n + m) * 2 := Nat.pow_succ ..
  refine sz_divInt ?_ ?_ (by have := q_den_mul p q; omega)
  · have := Int.natAbs_add_le (p.num * (q.den : Int)) (q.num * (p.den : Int))
    omega
  · omega
theorem Sz.neg {n : Nat} {q : Rat} (h : Sz n q) : Sz n (-q) := by
  constructor
  · rw [Rat.neg_num, Int.natAbs_neg]
    exact h.one
  · rw [Rat.neg_den]
    exact h.two
theorem Sz.sub {n m : Nat} {p q : Rat} (hp : Sz n p) (hq : Sz m q) : Sz (n + m + 1) (p - q) := by
  rw [Rat.sub_eq_add_neg]
  exact hp.add hq.neg
theorem Sz.mul {n m : Nat} {p q : Rat} (hp : Sz n p) (hq : Sz m q) : Sz (n + m) (p * q) := by
  rw [q_mul]
  exact sz_divInt (mul_lt2 hp.one hq.one) (mul_lt2 hp.den hq.den) (by have := q_den_mul p q; omega)
theorem Sz.div {n m : Nat} {p q : Rat} (hp : Sz n p) (hq : Sz m q) (h0 : q ≠ 0) : Sz (n + m) (p / q) := by
  rw [q_div]
  refine sz_divInt (mul_lt2 hp.one hq.den) (mul_lt2 hp.den hq.one) ?_
  exact Int.mul_ne_zero (by have := q_den_pos p; omega) (fun z => h0 (q_num_zero.mp z))
theorem sz_zero : Sz 1 0 := ⟨by decide, by decide⟩
theorem sz_one : Sz 1 1 := ⟨by decide, by decide⟩
/-- what the arithmetic of two fractions asks -/
def SzP (p q : Rat) : Prop := ∃ n m, Sz n p ∧ Sz m q ∧ n + m ≤ 9000
theorem SzP.symm {p q : Rat} (h : SzP p q) : SzP q p := by
  obtain ⟨n, m, h1, h2, h3⟩ := h
  exact ⟨m, n, h2, h1, by omega⟩
end Qk
namespace Qk
/-- neighbours -/
def nbs (cs : List Cn) : List (Cn × Cn) := cs.zip (cs.drop 1)
/-- what the reckoning of a slope asks -/
def StOk (a b : Cn) : Prop := SzP b.2 a.2 ∧ SzP b.1 a.1 ∧ SzP (b.2 - a.2) (b.1 - a.1) ∧ a.1 < b.1
structure SlOk (cs : List Cn) : Prop where
  ne : cs ≠ []
  st : ∀ p ∈ nbs cs, StOk p.1 p.2
  len : cs.length ≤ 1000
theorem up_nbs : ∀ {cs : List Cn}, Up cs → ∀ p ∈ nbs cs, p.1.1 < p.2.1 ∧ p.1 ∈ cs ∧ p.2 ∈ cs
  | [], _, p, h => by simp [nbs] at h
  | [a], _, p, h => by simp [nbs] at h
  | a :: b :: r, hu, p, h => by
    rcases List.mem_cons.mp (show p ∈ (a, b) :: nbs (b :: r) from h) with e | h
    · rw [e]
      exact ⟨hu.1, by simp, by simp⟩
    · obtain ⟨h1, h2, h3⟩ := up_nbs hu.2 p h
      exact ⟨h1, List.mem_cons_of_mem _ h2, List.mem_cons_of_mem _ h3⟩
/-- a curve with sizes: moments, worths, slopes -/
structure Cs (a b s : Nat) (c : Cv) : Prop where
  ne : c.1 ≠ []
  up : Up c.1
  len : c.1.length ≤ 1000
  mo : ∀ x ∈ c.1, Sz a x.1
  wo : ∀ x ∈ c.1, Sz b x.2
  sl : ∀ k ∈ slopes c.1 c.2, Sz s k
abbrev Fine (c : Cv) : Prop := Cs 1500 2100 200 c
theorem Cs.mono {a b s a' b' s' : Nat} {c : Cv} (h : Cs a b s c) (h1 : a ≤ a') (h2 : b ≤ b') (h3 : s ≤ s') : Cs a' b' s' c :=
  ⟨h.ne, h.up, h.len, fun x hx => (h.mo x hx).mono h1, fun x hx => (h.wo x hx).mono h2, fun k hk => (h.sl k hk).mono h3⟩
theorem slOk_of {cs : List Cn} (ne : cs ≠ []) (up : Up cs) (len : cs.length ≤ 1000) (mo : ∀ x ∈ cs, Sz 1500 x.1) (wo : ∀ x ∈ cs, Sz 2100 x.2) : SlOk cs :=
  ⟨ne, fun p hp => by
    obtain ⟨h1, h2, h3⟩ := up_nbs up p hp
    exact ⟨⟨2100, 2100, wo _ h3, wo _ h2, by decide⟩, ⟨1500, 1500, mo _ h3, mo _ h2, by decide⟩, ⟨4201, 3001, (wo _ h3).sub (wo _ h2), (mo _ h3).sub (mo _ h2), by decide⟩, h1⟩, len⟩
theorem Cs.slOk {c : Cv} (h : Fine c) : SlOk c.1 := slOk_of h.ne h.up h.len h.mo h.wo
/-- the index of the corner whose line tells the worth -/
def pl : List Cn → Rat → Nat
  | [], _ => 0
  | [_], _ => 0
  | a :: b :: r, m => if m < b.1 then 0 else pl (b :: r) m + 1
theorem pl_at : ∀ {cs : List Cn} {s m : Rat}, cs ≠ [] → ∃ a, cs[pl cs m]? = some a ∧ (slopes cs s)[pl cs m]? = some (slp cs s m) ∧ val cs s m = a.2 + slp cs s m * (m - a.1)
  | [], _, _, h => absurd rfl h
  | [a], s, m, _ => ⟨a, rfl, rfl, rfl⟩
  | a :: b :: r, s, m, _ => by
    by_cases q : m < b.1
    · refine ⟨a, ?_, ?_, ?_⟩
      · simp only [pl, if_pos q]
        rfl
      · simp only [pl, slp, if_pos q]
        rfl
      · simp only [val, slp, if_pos q]
    · obtain ⟨c, h1, h2, h3⟩ := pl_at (cs := b :: r) (s := s) (m := m) (by simp)
      refine ⟨c, ?_, ?_, ?_⟩
      · simp only [pl, if_neg q]
        exact h1
      · simp only [pl, slp, if_neg q]
        exact h2
      · simp only [val, slp, if_neg q]
        exact h3
/-- the last index, from k on, of a corner that is not behind m, else f -/
def lastIx (m : Rat) (k f : Nat) : List Cn → Nat
  | [] => f
  | a :: r => lastIx m (k + 1) (if m < a.1 then f else k) r
theorem lastIx_far {m : Rat} : ∀ {r : List Cn} {k f : Nat}, (∀ a ∈ r, m < a.1) → lastIx m k f r = f
  | [], _, _, _ => rfl
  | a :: r, k, f, h => by
    unfold lastIx
    rw [if_pos (h a (by simp))]
    exact lastIx_far fun b hb => h b (List.mem_cons_of_mem _ hb)
theorem lastIx_up {m : Rat} : ∀ {r : List Cn} {a : Cn} {k f : Nat}, Up (a :: r) → ¬ m < a.1 → lastIx m k f (a :: r) = k + pl (a :: r) m
  | [], a, k, f, _, h => by
    unfold lastIx
    rw [if_neg h]
    rfl
  | b :: r, a, k, f, hu, h => by
    unfold lastIx
    rw [if_neg h]
    by_cases q : m < b.1
    · rw [lastIx_far fun c hc => ?_]
      · simp only [pl, if_pos q]
        rfl
      · rcases List.mem_cons.mp hc with e | hc
        · rw [e]; exact q
        · exact rlt q (Up.lt hu.2 c hc)
    · rw [lastIx_up hu.2 q]
      simp only [pl, if_neg q]
      omega
theorem lastIx_pl {m : Rat} {cs : List Cn} (hu : Up cs) : lastIx m 0 0 cs = pl cs m := by
  cases cs with
  | nil => rfl
  | cons a r =>
    by_cases q : m < a.1
    · rw [lastIx_far fun c hc => ?_]
      · cases r with
        | nil => rfl
        | cons b r =>
          have := rlt q hu.1
          simp only [pl, if_pos this]
      · rcases List.mem_cons.mp hc with e | hc
        · rw [e]; exact q
        · exact rlt q (Up.lt hu c hc)
    · rw [lastIx_up hu q]
      omega
theorem lastIx_snoc {m : Rat} : ∀ {cs : List Cn} {i : Nat} {a : Cn} {k f : Nat}, cs[i]? = some a → lastIx m k f (cs.take (i + 1)) = if m < a.1 then lastIx m k f (cs.take i) else k + i
  | [], _, _, _, _, h => by simp at h
  | b :: r, 0, a, k, f, h => by
    have e : b = a := Option.some.inj h
    subst e
    show lastIx m (k + 1) (if m < b.1 then f else k) [] = if m < b.1 then f else k + 0
    rfl
  | b :: r, i + 1, a, k, f, h => by
    have x := lastIx_snoc (m := m) (cs := r) (i := i) (a := a) (k := k + 1) (f := if m < b.1 then f else k) (by simpa using h)
    show lastIx m (k + 1) (if m < b.1 then f else k) (r.take (i + 1)) = if m < a.1 then lastIx m (k + 1) (if m < b.1 then f else k) (r.take i) else k + (i + 1)
    rw [x]
    split
    · rfl
    · omega
end Qk
namespace Qk
/-! ### the common bottom, order by it -/
def lcmS (C d : Int) : Int := C * d / ((Nat.gcd C.natAbs d.natAbs : Nat) : Int)
theorem lcmS_ok {C d : Int} (hC : 0 < C) (hd : 0 < d) : 0 < lcmS C d ∧ C ∣ lcmS C d ∧ d ∣ lcmS C d ∧ lcmS C d ≤ C * d := by
  have gp : 0 < Nat.gcd C.natAbs d.natAbs := Nat.gcd_pos_of_pos_right _ (by omega)
  obtain ⟨k, hk⟩ : ((Nat.gcd C.natAbs d.natAbs : Nat) : Int) ∣ d := Int.ofNat_dvd_left.mpr (Nat.gcd_dvd_right _ _)
  obtain ⟨m, hm⟩ : ((Nat.gcd C.natAbs d.natAbs : Nat) : Int) ∣ C := Int.ofNat_dvd_left.mpr (Nat.gcd_dvd_left _ _)
  unfold lcmS
  have g0 : (0 : Int) < ((Nat.gcd C.natAbs d.natAbs : Nat) : Int) := by omega
  generalize ((Nat.gcd C.natAbs d.natAbs : Nat) : Int) = g at *
  have e : C * d / g = C * k := by
    rw [hk, Int.mul_left_comm]
    exact Int.mul_ediv_cancel_left _ (by omega)
  rw [e]
  have kp : 0 < k := by
    rcases Int.lt_trichotomy 0 k with h | h | h
    · exact h
    · subst h; simp at hk; omega
    · have := Int.mul_neg_of_pos_of_neg g0 h
      omega
  refine ⟨Int.mul_pos hC kp, ⟨k, rfl⟩, ⟨m, ?_⟩, ?_⟩
  · rw [hm, hk, Int.mul_assoc, Int.mul_assoc, Int.mul_comm k m]
  · refine Int.mul_le_mul_of_nonneg_left ?_ (by omega)
    rw [hk]
    have h1 : 1 * k ≤ g * k := Int.mul_le_mul_of_nonneg_right (by omega) (by omega)
    omega
def keyQ (C : Int) (q : Rat) : Int := q.num * (C / (q.den : Int))
theorem keyQ_rat {C : Int} {q : Rat} (h : (q.den : Int) ∣ C) : ((keyQ C q : Int) : Rat) = q * (C : Rat) := by
  obtain ⟨k, hk⟩ := h
  have hd := q_den_pos q
  unfold keyQ
  rw [hk, Int.mul_ediv_cancel_left _ (by omega), Rat.intCast_mul, Rat.intCast_mul, ← Rat.mul_assoc]
  congr 1
  have h1 : q = (q.num : Rat) / (q.den : Rat) := by
    have := Rat.divInt_eq_div q.num (q.den : Int)
    rw [Rat.num_divInt_den] at this
    exact this
  have h2 : (q.den : Rat) ≠ 0 := by
    have := q.den_pos
    intro e
    have : q.den = 0 := by exact_mod_cast e
    omega
  have h3 : ((q.den : Int) : Rat) = (q.den : Rat) := rfl
  rw [h3]
  generalize (q.num : Rat) = a at *
  generalize (q.den : Rat) = b at *
  rw [h1]
  grind
theorem keyQ_le {C : Int} {p q : Rat} (hC : 0 < C) (hp : (p.den : Int) ∣ C) (hq : (q.den : Int) ∣ C) (h : keyQ C p ≤ keyQ C q) : p ≤ q := by
  have h1 : ((keyQ C p : Int) : Rat) ≤ ((keyQ C q : Int) : Rat) := Rat.intCast_le_intCast.mpr h
  rw [keyQ_rat hp, keyQ_rat hq] at h1
  have h2 : (0 : Rat) < (C : Rat) := by
    have := Rat.intCast_lt_intCast.mpr hC
    simpa using this
  exact Rat.le_of_mul_le_mul_right h1 h2
theorem asc_of {ps : List Rat} : ∀ (_ : ps.Nodup) (_ : ps.Pairwise (fun a b => a ≤ b)), Asc ps := by
  induction ps with
  | nil => intro _ _; trivial
  | cons a r ih =>
    intro h1 h2
    cases r with
    | nil => trivial
    | cons b r =>
      rw [List.nodup_cons] at h1
      rw [List.pairwise_cons] at h2
      refine ⟨?_, ih h1.2 h2.2⟩
      have := h2.1 b (by simp)
      have ne : a ≠ b := fun e => h1.1 (by rw [e]; simp)
      grind
theorem srt_of {C : Int} {ps qs : List Rat} (hC : 0 < C) (hd : ∀ q ∈ qs, (q.den : Int) ∣ C) (hn : qs.Nodup) (hp : ps.Perm qs) (hw : ps.Pairwise (fun a b => keyQ C a ≤ keyQ C b)) : ps = srt qs := by
  refine asc_one (asc_of (hp.nodup_iff.mpr hn) ?_) (asc_srt _) fun x => by rw [mem_srt]; exact hp.mem_iff
  refine List.Pairwise.imp_of_mem (fun {a b} ha hb h => ?_) hw
  exact keyQ_le hC (hd a (hp.mem_iff.mp ha)) (hd b (hp.mem_iff.mp hb)) h
end Qk
namespace Qk
/-- a count of twelfths, at most B of them -/
def Tw (B : Nat) (q : Rat) : Prop := ∃ i : Int, q = (i : Rat) / 12 ∧ i.natAbs ≤ B
theorem Tw.up {B C : Nat} {q : Rat} (h : Tw B q) (l : B ≤ C) : Tw C q := by
  obtain ⟨i, e, b⟩ := h
  exact ⟨i, e, Nat.le_trans b l⟩
theorem Tw.add {B C : Nat} {p q : Rat} (h : Tw B p) (k : Tw C q) : Tw (B + C) (p + q) := by
  obtain ⟨i, e, b⟩ := h
  obtain ⟨j, f, c⟩ := k
  refine ⟨i + j, ?_, by omega⟩
  rw [e, f]
  push_cast
  grind
theorem Tw.zero : Tw 0 0 := ⟨0, by grind, by decide⟩
theorem Tw.neg {B : Nat} {p : Rat} (h : Tw B p) : Tw B (-p) := by
  obtain ⟨i, e, b⟩ := h
  refine ⟨-i, ?_, by omega⟩
  rw [e]
  push_cast
  grind
theorem tw_div {n d : Int} (hd : d = 1 ∨ d = 2 ∨ d = 3 ∨ d = 4 ∨ d = 6) : Tw (12 * n.natAbs) (Rat.divInt n d) := by
  rw [Rat.divInt_eq_div]
  rcases hd with h | h | h | h | h <;> subst h
  · exact ⟨12 * n, by push_cast; grind, by omega⟩
  · exact ⟨6 * n, by push_cast; grind, by omega⟩
  · exact ⟨4 * n, by push_cast; grind, by omega⟩
  · exact ⟨3 * n, by push_cast; grind, by omega⟩
  · exact ⟨2 * n, by push_cast; grind, by omega⟩
theorem Tw.sz {B n : Nat} {q : Rat} (h : Tw B q) (l : B < 2 ^ n) (h4 : 4 ≤ n) : Sz n q := by
  obtain ⟨i, e, b⟩ := h
  have e2 : q = Rat.divInt i 12 := by
    rw [e, Rat.divInt_eq_div]
    rfl
  rw [e2]
  have h16 : 2 ^ 4 ≤ 2 ^ n := Nat.pow_le_pow_right (by decide) h4
  exact sz_divInt (by omega) (by omega) (by decide)
/-- corners as they are drawn: from moment 0 on, ever later, in twelfths -/
structure Dn (k B C : Nat) (cs : List Cn) : Prop where
  up : Up cs
  h0 : ∀ a, cs.head? = some a → a.1 = 0
  len : cs.length = k
  mo : ∀ x ∈ cs, Tw B x.1
  wo : ∀ x ∈ cs, Tw C x.2
theorem up_snoc : ∀ {cs : List Cn} {a : Cn}, Up cs → (∀ x ∈ cs, x.1 < a.1) → Up (cs ++ [a])
  | [], a, _, _ => trivial
  | [b], a, _, h => ⟨h b (by simp), trivial⟩
  | b :: c :: r, a, hu, h => ⟨hu.1, up_snoc (cs := c :: r) hu.2 fun x hx => h x (List.mem_cons_of_mem _ hx)⟩
end Qk
namespace Qk
/-! ### sizes of curves made of curves -/
theorem slp_mem : ∀ {cs : List Cn} {s t : Rat}, cs ≠ [] → slp cs s t ∈ slopes cs s
  | [], _, _, h => absurd rfl h
  | [a], s, t, _ => by simp [slp, slopes, sl0]
  | a :: b :: r, s, t, _ => by
    by_cases q : t < b.1
    · simp only [slp, if_pos q]
      exact List.mem_cons_self
    · simp only [slp, if_neg q]
      exact List.mem_cons_of_mem _ (slp_mem (by simp))
theorem up_ge {b : Cn} {r : List Cn} (hu : Up (b :: r)) {x : Cn} (h : x ∈ b :: r) : ¬ x.1 < b.1 := by
  rcases List.mem_cons.mp h with e | h
  · rw [e]; grind
  · have := Up.lt hu x h
    grind
theorem slopes_slp : ∀ {cs : List Cn} {s : Rat}, Up cs → ∀ k ∈ slopes cs s, ∃ x ∈ cs, slp cs s x.1 = k
  | [], _, _, k, h => by cases h
  | [a], s, _, k, h => ⟨a, by simp, by simp [slopes, sl0] at h; rw [h]; rfl⟩
  | a :: b :: r, s, hu, k, h => by
    rcases List.mem_cons.mp (show k ∈ steep a b :: slopes (b :: r) s from h) with e | h
    · refine ⟨a, by simp, ?_⟩
      have := hu.1
      simp only [slp, if_pos this]
      exact e.symm
    · obtain ⟨x, hx, e⟩ := slopes_slp hu.2 k h
      refine ⟨x, List.mem_cons_of_mem _ hx, ?_⟩
      simp only [slp, if_neg (up_ge hu.2 hx)]
      exact e
theorem val_own : ∀ {cs : List Cn} {s : Rat}, Up cs → ∀ x ∈ cs, val cs s x.1 = x.2
  | [], _, _, x, h => by cases h
  | [a], s, _, x, h => by
    have e : x = a := by simpa using h
    rw [e]
    simp only [val]
    grind
  | a :: b :: r, s, hu, x, h => by
    rcases List.mem_cons.mp h with e | h
    · rw [e]
      have := hu.1
      simp only [val, if_pos this]
      grind
    · simp only [val, if_neg (up_ge hu.2 h)]
      exact val_own hu.2 x h
theorem last_slope : ∀ {cs : List Cn} {s : Rat}, cs ≠ [] → s ∈ slopes cs s
  | [], _, h => absurd rfl h
  | [a], s, _ => by simp [slopes, sl0]
  | a :: b :: r, s, _ => List.mem_cons_of_mem _ (last_slope (cs := b :: r) (by simp))
structure Tr (a b s L : Nat) (c : Cv) : Prop where
  w : WF c
  len : c.1.length ≤ L
  mo : ∀ x ∈ c.1, Sz a x.1
  wo : ∀ x ∈ c.1, Sz b x.2
  sl : ∀ t, 0 ≤ t → Sz s (sp c t)
section
variable {a b s L k n : Nat} {c x y f g : Cv} {m t : Rat}
theorem Tr.slopes (h : Tr a b s L c) : ∀ k ∈ slopes c.1 c.2, Sz s k := fun k hk => by
  obtain ⟨x, hx, e⟩ := slopes_slp h.w.up k hk
  rw [← e]
  exact h.sl x.1 (wf_ge h.w x hx)
theorem Tr.cs (h : Tr a b s L c) (l : L ≤ 1000) : Cs a b s c := ⟨h.w.ne, h.w.up, Nat.le_trans h.len l, h.mo, h.wo, h.slopes⟩
theorem Tr.s2 (h : Tr a b s L c) : Sz s c.2 := h.slopes _ (last_slope h.w.ne)
theorem Tr.mono {a' b' s' L' : Nat} (h : Tr a b s L c) (h1 : a ≤ a') (h2 : b ≤ b') (h3 : s ≤ s') (h4 : L ≤ L') : Tr a' b' s' L' c :=
  ⟨h.w, Nat.le_trans h.len h4, fun x hx => (h.mo x hx).mono h1, fun x hx => (h.wo x hx).mono h2, fun t ht => (h.sl t ht).mono h3⟩
theorem Tr.vl (h : Tr a b s L c) (h0 : 0 ≤ t) (hz : Sz n t) : Sz (b + (s + (n + a + 1)) + 1) (vl c t) := by
  obtain ⟨p, h1, h2, h3⟩ := pl_at (cs := c.1) (s := c.2) (m := t) h.w.ne
  have hp := List.mem_of_getElem? h1
  show Sz _ (val c.1 c.2 t)
  rw [h3]
  exact (h.wo p hp).add ((h.sl t h0).mul (hz.sub (h.mo p hp)))
theorem nrm_len : ∀ (cs : List Cn) (p : Option Rat) (s : Rat), (nrm p cs s).length ≤ cs.length
  | [], _, _ => Nat.le_refl _
  | a :: r, p, s => by
    have := nrm_len r (some (sl0 a r s)) s
    unfold nrm
    split
    · simp only [List.length_cons]
      omega
    · simp only [List.length_cons]
      omega
theorem ins_len' (q : Rat) : ∀ l : List Rat, (ins q l).length ≤ l.length + 1
  | [] => Nat.le_refl _
  | a :: r => by
    have := ins_len' q r
    unfold ins
    repeat' split
    all_goals simp only [List.length_cons] at *
    all_goals omega
theorem srt_len' : ∀ l : List Rat, (srt l).length ≤ l.length
  | [] => Nat.le_refl _
  | a :: r => by
    have h1 := srt_len' r
    have h2 := ins_len' a (srt r)
    show (ins a (srt r)).length ≤ r.length + 1
    omega
theorem moms_len (cs : List Cn) : (moms cs).length = cs.length := by simp [moms]
theorem momsOf_len3 : (momsOf [x, y, line 0]).length ≤ x.1.length + y.1.length + 1 := by
  have h := srt_len' ([x, y, line 0].flatMap fun c => moms c.1)
  have e : ([x, y, line 0].flatMap fun c => moms c.1).length = x.1.length + (y.1.length + 1) := by
    simp [List.flatMap, moms, line]
  unfold momsOf
  omega
theorem summed_tr (hx : WF x) (hy : WF y) (hm : ∀ m ∈ momsOf [x, y, line 0], Sz a m ∧ Sz b (Qk.vl x m + Qk.vl y m)) (hs : ∀ t, 0 ≤ t → Sz s (sp x t + sp y t)) (hl : x.1.length + y.1.length + 1 ≤ L) : Tr a b s L (summed x y) := by
  obtain ⟨h1, h2, h3, h4⟩ := summed_ok hx hy
  have key : ∀ z ∈ (summed x y).1, Sz a z.1 ∧ Sz b z.2 := fun z hz => by
    obtain ⟨m, hm2, e⟩ := List.mem_map.mp (nrm_sub _ _ _ z hz)
    rw [← e]
    exact hm m hm2
  refine ⟨h1, ?_, fun z hz => (key z hz).1, fun z hz => (key z hz).2, fun t ht => ?_⟩
  · have := nrm_len ((momsOf [x, y, line 0]).map fun m => (m, Qk.vl x m + Qk.vl y m)) none (x.2 + y.2)
    rw [List.length_map] at this
    have := momsOf_len3 (x := x) (y := y)
    show (nrm none _ _).length ≤ L
    omega
  · rw [show sp (summed x y) t = _ from (h3 t ht).2]
    exact hs t ht
theorem many_tr (h : Tr a b s L c) : Tr a b s L (many (-1) c) := by
  obtain ⟨h1, h2, h3, h4⟩ := many_ok (f := -1) h.w
  have neg1 : ∀ q : Rat, (-1) * q = -q := fun q => by grind
  refine ⟨h1, ?_, fun z hz => ?_, fun z hz => ?_, fun t ht => ?_⟩
  · have := nrm_len (c.1.map fun a => (a.1, (-1) * a.2)) none ((-1) * c.2)
    rw [List.length_map] at this
    exact Nat.le_trans this h.len
  · obtain ⟨u, hu, e⟩ := List.mem_map.mp (nrm_sub _ _ _ z hz)
    rw [← e]
    exact h.mo u hu
  · obtain ⟨u, hu, e⟩ := List.mem_map.mp (nrm_sub _ _ _ z hz)
    rw [← e]
    show Sz b ((-1) * u.2)
    rw [neg1]
    exact (h.wo u hu).neg
  · rw [show sp (many (-1) c) t = _ from (h3 t).2, neg1]
    exact (h.sl t ht).neg
theorem sz_z {n : Nat} (h : 1 ≤ n) : Sz n 0 := sz_zero.mono h
theorem line_tr (h : Sz k m) : Tr 1 1 k 1 (line m) := by
  refine ⟨wf_line m, Nat.le_refl _, fun x hx => ?_, fun x hx => ?_, fun t _ => ?_⟩
  · have e : x = (0, 0) := by simpa [line] using hx
    rw [e]
    exact sz_zero
  · have e : x = (0, 0) := by simpa [line] using hx
    rw [e]
    exact sz_zero
  · rw [(vl_line m t).2]
    exact h
theorem many_line : many (-1) (line m) = line (-m) := by
  have e1 : (-1) * m = -m := by grind
  have e2 : ((-1) * 0 : Rat) = 0 := by grind
  unfold many normal line
  simp only [List.map, e1, e2]
  rfl
/-- a line and a curve: the curve's moments -/
theorem line_grid (hy : Tr a b s L y) (hk : Sz k m) : ∀ z, (z ∈ momsOf [line m, y, line 0] ∨ z ∈ momsOf [y, line m, line 0]) → Sz a z ∧ Sz (k + a) (Qk.vl (line m) z) ∧ Sz b (Qk.vl y z) := fun z hz => by
  have hm : z ∈ moms y.1 := by
    have l0 : ∀ q : Rat, z ∈ moms (line q).1 → z ∈ moms y.1 := fun q h => by
      have e : z = 0 := by simpa [moms, line] using h
      rw [e]
      exact wf_zero hy.w
    rcases hz with hz | hz
    · obtain ⟨c, hc, e⟩ := mem_momsOf.mp hz
      simp only [List.mem_cons, List.not_mem_nil, or_false] at hc
      rcases hc with q | q | q <;> subst q
      · exact l0 _ e
      · exact e
      · exact l0 _ e
    · obtain ⟨c, hc, e⟩ := mem_momsOf.mp hz
      simp only [List.mem_cons, List.not_mem_nil, or_false] at hc
      rcases hc with q | q | q <;> subst q
      · exact e
      · exact l0 _ e
      · exact l0 _ e
  obtain ⟨u, hu, e⟩ := List.mem_map.mp hm
  have e : u.1 = z := e
  refine ⟨e ▸ hy.mo u hu, ?_, ?_⟩
  · rw [(vl_line m z).1, ← e]
    exact hk.mul (hy.mo u hu)
  · rw [← e, show Qk.vl y u.1 = u.2 from val_own hy.w.up u hu]
    exact hy.wo u hu
theorem sumL_tr (hy : Tr a b s L y) (hk : Sz k m) : Tr a (k + a + b + 1) (k + s + 1) (L + 2) (summed (line m) y) := by
  refine summed_tr (wf_line m) hy.w (fun z hz => ?_) (fun t ht => ?_) ?_
  · obtain ⟨h1, h2, h3⟩ := line_grid hy hk z (.inl hz)
    exact ⟨h1, h2.add h3⟩
  · rw [(vl_line m t).2]
    exact hk.add (hy.sl t ht)
  · have := hy.len
    show 1 + y.1.length + 1 ≤ L + 2
    omega
theorem sumR_tr (hy : Tr a b s L y) (hk : Sz k m) : Tr a (k + a + b + 1) (k + s + 1) (L + 2) (summed y (line m)) := by
  refine summed_tr hy.w (wf_line m) (fun z hz => ?_) (fun t ht => ?_) ?_
  · obtain ⟨h1, h2, h3⟩ := line_grid hy hk z (.inr hz)
    exact ⟨h1, (h3.add h2).mono (by omega)⟩
  · rw [(vl_line m t).2]
    exact ((hy.sl t ht).add hk).mono (by omega)
  · have := hy.len
    show y.1.length + 1 + 1 ≤ L + 2
    omega
theorem apartL_tr (hy : Tr a b s L y) (hk : Sz k m) : Tr a (k + a + b + 1) (k + s + 1) (L + 2) (apart (line m) y) := sumL_tr (many_tr hy) hk
theorem apartR_tr (hy : Tr a b s L y) (hk : Sz k m) : Tr a (k + a + b + 1) (k + s + 1) (L + 2) (apart y (line m)) := by
  unfold apart
  rw [many_line]
  exact sumR_tr hy hk.neg
/-! slopes: a told one, or the curve's -/
theorem free_after (t : Rat) : ∀ l : List Rat, ∃ b, t < b ∧ ∀ a ∈ l, a ≤ t ∨ b ≤ a := by
  intro l
  induction l with
  | nil => exact ⟨t + 1, by grind, fun a h => by cases h⟩
  | cons x r ih =>
    obtain ⟨b, i1, i2⟩ := ih
    by_cases hx : x ≤ t
    · exact ⟨b, i1, fun a ha => by
        rcases List.mem_cons.mp ha with e | ha
        · rw [e]; exact .inl hx
        · exact i2 a ha⟩
    · by_cases hxb : x < b
      · exact ⟨x, by grind, fun a ha => by
          rcases List.mem_cons.mp ha with e | ha
          · rw [e]; exact .inr Rat.le_refl
          · rcases i2 a ha with z | z
            · exact .inl z
            · exact .inr (by grind)⟩
      · exact ⟨b, i1, fun a ha => by
          rcases List.mem_cons.mp ha with e | ha
          · rw [e]; exact .inr (by grind)
          · exact i2 a ha⟩
theorem slope_or {k : Rat} (hf : WF f) (hg : WF g) (h0 : 0 ≤ t) (p : ∀ u, 0 ≤ u → sp f u ≠ k → Qk.vl f u = Qk.vl g u) : sp f t = k ∨ sp f t = sp g t := by
  by_cases hk : sp f t = k
  · exact .inl hk
  · right
    obtain ⟨b, hb, hfree⟩ := free_after t (moms f.1 ++ moms g.1)
    have sf := fun u h1 => val_seg (s := f.2) hf.ne hf.up (fun c hc => by rw [hf.h0 c hc]; exact h0) hb (fun c hc => hfree c.1 (List.mem_append.mpr (.inl (List.mem_map.mpr ⟨c, hc, rfl⟩)))) u h1
    have sg := fun u h1 => val_seg (s := g.2) hg.ne hg.up (fun c hc => by rw [hg.h0 c hc]; exact h0) hb (fun c hc => hfree c.1 (List.mem_append.mpr (.inr (List.mem_map.mpr ⟨c, hc, rfl⟩)))) u h1
    have mid : t ≤ (t + b) / 2 ∧ (t + b) / 2 < b := by constructor <;> grind
    have e1 : Qk.vl f t = Qk.vl g t := p t h0 hk
    have e2 : Qk.vl f ((t + b) / 2) = Qk.vl g ((t + b) / 2) := p _ (by grind) (by
      rw [show sp f ((t + b) / 2) = _ from (sf _ mid.1).2 mid.2]
      exact hk)
    have v1 : Qk.vl f ((t + b) / 2) = Qk.vl f t + sp f t * ((t + b) / 2 - t) := (sf _ mid.1).1 (by grind)
    have v2 : Qk.vl g ((t + b) / 2) = Qk.vl g t + sp g t * ((t + b) / 2 - t) := (sg _ mid.1).1 (by grind)
    have : (sp f t - sp g t) * ((t + b) / 2 - t) = 0 := by grind
    have : (t + b) / 2 - t ≠ 0 := by grind
    grind
/-! never falling, later tops -/
theorem met_sz {T : Rat} {p : Cn} {q : Rat} (hT : Sz b T) (h1 : Sz a p.1) (h2 : Sz b p.2) (h3 : Sz s q) (h0 : q ≠ 0) : Sz (a + (b + b + 1 + s) + 1) (metAt T p q) := h1.add ((hT.sub h2).div h3 h0)
theorem sz_max {p q : Rat} (hp : Sz n p) (hq : Sz n q) : Sz n (rmax p q) := by
  unfold rmax
  split
  · exact hq
  · exact hp
theorem nf_sz {S : Rat} : ∀ {cs : List Cn} {top : Rat}, Sz b top → (∀ x ∈ cs, Sz a x.1 ∧ Sz b x.2) → (∀ k ∈ slopes cs S, Sz s k) → ∀ x ∈ nf top cs S, Sz (a + (b + b + 1 + s) + 1) x.1 ∧ Sz b x.2
  | [], _, _, _, _, x, h => by cases h
  | p :: r, top, ht, hc, hs, x, h => by
    have hp := hc p (by simp)
    have hT : Sz b (rmax top p.2) := sz_max ht hp.2
    rcases List.mem_append.mp (show x ∈ nfC (rmax top p.2) p r S ++ nf (rmax top p.2) r S from h) with h | h
    · cases q : nfX (rmax top p.2) p r S with
      | false =>
        rw [nfC_no q] at h
        have e : x = (p.1, rmax top p.2) := by simpa using h
        rw [e]
        exact ⟨hp.1.mono (by omega), hT⟩
      | true =>
        rw [nfC_yes q] at h
        have hq := of_decide_eq_true q
        have hk : Sz s (sl0 p r S) := hs _ (by simp [slopes])
        simp only [List.mem_cons, List.not_mem_nil, or_false] at h
        rcases h with e | e
        · rw [e]
          exact ⟨hp.1.mono (by omega), hT⟩
        · rw [e]
          exact ⟨met_sz hT hp.1 hp.2 hk (by have := hq.1; grind), hT⟩
    · exact nf_sz hT (fun z hz => hc z (List.mem_cons_of_mem _ hz)) (fun k hk => hs k (List.mem_cons_of_mem _ hk)) x h
theorem nf_length {S : Rat} : ∀ (cs : List Cn) (top : Rat), (nf top cs S).length ≤ 2 * cs.length
  | [], _ => Nat.le_refl _
  | p :: r, top => by
    have i := nf_length (S := S) r (rmax top p.2)
    have e : nf top (p :: r) S = nfC (rmax top p.2) p r S ++ nf (rmax top p.2) r S := rfl
    rw [e, List.length_append, List.length_cons]
    have : (nfC (rmax top p.2) p r S).length ≤ 2 := by
      cases q : nfX (rmax top p.2) p r S with
      | false => rw [nfC_no q]; simp
      | true => rw [nfC_yes q]; simp
    omega
theorem lt_top {S : Rat} : ∀ {cs : List Cn}, (∀ x ∈ cs, Sz b x.2) → cs ≠ [] → Sz b (lt cs S).2
  | [], _, h => absurd rfl h
  | [p], h, _ => h p (by simp)
  | p :: q :: r, h, _ => sz_max (lt_top (cs := q :: r) (fun x hx => h x (List.mem_cons_of_mem _ hx)) (by simp)) (h p (by simp))
theorem lt_szs {S : Rat} : ∀ {cs : List Cn}, (∀ x ∈ cs, Sz a x.1 ∧ Sz b x.2) → (∀ k ∈ slopes cs S, Sz s k) → ∀ x ∈ (lt cs S).1, Sz (a + (b + b + 1 + s) + 1) x.1 ∧ Sz b x.2
  | [], _, _, x, h => by cases h
  | [p], hc, _, x, h => by
    have e : x = (p.1, p.2) := by simpa [lt] using h
    rw [e]
    have := hc p (by simp)
    exact ⟨this.1.mono (by omega), this.2⟩
  | p :: q :: r, hc, hs, x, h => by
    have hp := hc p (by simp)
    have hT : Sz b (lt (q :: r) S).2 := lt_top (fun z hz => (hc z (List.mem_cons_of_mem _ hz)).2) (by simp)
    rcases List.mem_cons.mp h with e | h
    · rw [e]
      exact ⟨hp.1.mono (by omega), sz_max hT hp.2⟩
    · rcases List.mem_append.mp h with h | h
      · split at h
        · rename_i hq
          have e := List.mem_singleton.mp h
          rw [e]
          have hk : Sz s (steep p q) := hs _ (by simp [slopes, sl0])
          exact ⟨met_sz hT hp.1 hp.2 hk (by have := hq.1; grind), hT⟩
        · cases h
      · exact lt_szs (fun z hz => hc z (List.mem_cons_of_mem _ hz)) (fun k hk => hs k (List.mem_cons_of_mem _ hk)) x h
theorem lt_length {S : Rat} : ∀ l : List Cn, (lt l S).1.length ≤ 2 * l.length
  | [] => Nat.le_refl _
  | [p] => by simp [lt]
  | p :: q :: r => by
    have i := lt_length (S := S) (q :: r)
    simp only [lt, List.length_cons, List.length_append] at *
    split <;> simp only [List.length_cons, List.length_nil] <;> omega
abbrev mA (a b s : Nat) : Nat := a + (b + b + 1 + s) + 1
theorem nf_tr (h : Tr a b s L g) (hs : 1 ≤ s) : Tr (mA a b s) b s (2 * L) (neverFalling g) ∧ (∀ x ∈ nf ((g.1.head?.getD (0, 0)).2) g.1 g.2, Sz (mA a b s) x.1 ∧ Sz b x.2) ∧ (nf ((g.1.head?.getD (0, 0)).2) g.1 g.2).length ≤ 2 * L ∧
    nf ((g.1.head?.getD (0, 0)).2) g.1 g.2 ≠ [] ∧ Up (nf ((g.1.head?.getD (0, 0)).2) g.1 g.2) := by
  obtain ⟨h1, h2, h3⟩ := risen_ok h.w
  have htop : Sz b ((g.1.head?.getD (0, 0)).2) := by
    cases e : g.1 with
    | nil => exact absurd e h.w.ne
    | cons p r => exact h.wo p (by rw [e]; simp)
  have key := nf_sz (a := a) (b := b) (s := s) (S := g.2) htop (fun x hx => ⟨h.mo x hx, h.wo x hx⟩) h.slopes
  have hl := nf_length (S := g.2) g.1 ((g.1.head?.getD (0, 0)).2)
  have hl2 := h.len
  have hne : nf ((g.1.head?.getD (0, 0)).2) g.1 g.2 ≠ [] ∧ Up (nf ((g.1.head?.getD (0, 0)).2) g.1 g.2) := by
    cases e : g.1 with
    | nil => exact absurd e h.w.ne
    | cons p r =>
      have hu := h.w.up
      rw [e] at hu
      obtain ⟨⟨fs, q1⟩, q2, _⟩ := nf_ok (s := g.2) r p (((p :: r).head?.getD (0, 0)).2) 0 hu
      exact ⟨by rw [q1]; simp, q2⟩
  refine ⟨⟨h1, ?_, fun x hx => (key x (nrm_sub _ _ _ x hx)).1, fun x hx => (key x (nrm_sub _ _ _ x hx)).2, fun t ht => ?_⟩, key, by omega, hne.1, hne.2⟩
  · have := nrm_len (nf ((g.1.head?.getD (0, 0)).2) g.1 g.2) none (nfLast ((g.1.head?.getD (0, 0)).2) 0 g.1 g.2)
    show (nrm none _ _).length ≤ 2 * L
    omega
  · rcases slope_or (k := 0) h1 h.w ht (fun u hu => (h3.at_ u hu).2.2) with e | e
    · rw [e]
      exact sz_z hs
    · rw [e]
      exact h.sl t ht
theorem lt_tr (h : Tr a b s L g) (hs : 1 ≤ s) (h0 : g.2 ≤ 0) : Tr (mA a b s) b s (2 * L) (laterTops g) ∧ (∀ x ∈ (lt g.1 g.2).1, Sz (mA a b s) x.1 ∧ Sz b x.2) ∧ (lt g.1 g.2).1.length ≤ 2 * L ∧ (lt g.1 g.2).1 ≠ [] ∧ Up (lt g.1 g.2).1 := by
  obtain ⟨h1, h2, h3⟩ := late_ok h.w h0
  have key := lt_szs (a := a) (b := b) (s := s) (S := g.2) (fun x hx => ⟨h.mo x hx, h.wo x hx⟩) h.slopes
  have hl := lt_length (S := g.2) g.1
  have hl2 := h.len
  have hne : (lt g.1 g.2).1 ≠ [] ∧ Up (lt g.1 g.2).1 := by
    cases e : g.1 with
    | nil => exact absurd e h.w.ne
    | cons p r =>
      have hu := h.w.up
      rw [e] at hu
      obtain ⟨⟨fs, q1⟩, q2, q3, _⟩ := lt_ok h0 r p hu
      exact ⟨by rw [q1]; simp, q3⟩
  refine ⟨⟨h1, ?_, fun x hx => (key x (nrm_sub _ _ _ x hx)).1, fun x hx => (key x (nrm_sub _ _ _ x hx)).2, fun t ht => ?_⟩, key, by omega, hne.1, hne.2⟩
  · have := nrm_len (lt g.1 g.2).1 none g.2
    show (nrm none _ _).length ≤ 2 * L
    omega
  · rcases slope_or (k := 0) h1 h.w ht (fun u hu => (h3.at_ u hu).2.2) with e | e
    · rw [e]
      exact sz_z hs
    · rw [e]
      exact h.sl t ht
/-! back, ahead -/
abbrev bB (a b k : Nat) : Nat := k + a + b + 1
abbrev bS (s k : Nat) : Nat := k + s + 1
abbrev bA (a b s k : Nat) : Nat := mA a (bB a b k) (bS s k)
theorem back_tr (h : Tr a b s L c) (hk : Sz k m) (h1 : k ≤ n) (h2 : s ≤ n) : Tr (bA a b s k) (bB (bA a b s k) (bB a b k) k) n (2 * (L + 2) + 2) (back c m) := by
  have t1 := apartL_tr h hk
  have t2 := (nf_tr t1 (by omega)).1
  have t3 := apartL_tr t2 hk
  obtain ⟨w, p, hd⟩ := back_ok (m := m) h.w
  refine ⟨w, t3.len, t3.mo, t3.wo, fun t ht => ?_⟩
  rcases slope_or (k := m) w h.w ht (fun u hu => (hd.at_ u hu).2.2) with e | e
  · rw [e]
    exact hk.mono h1
  · rw [e]
    exact (h.sl t ht).mono h2
theorem ahead_tr (h : Tr a b s L c) (hk : Sz k m) (hm : ¬ m < c.2) (h1 : k ≤ n) (h2 : s ≤ n) : Tr (bA a b s k) (bB (bA a b s k) (bB a b k) k) n (2 * (L + 2) + 2) (summed (line m) (laterTops (apart c (line m)))) := by
  have t1 := apartR_tr h hk
  have e2 := (apart_ok h.w (wf_line m)).2.2.2.2
  have t2 := (lt_tr t1 (by omega) (by rw [e2]; show c.2 - m ≤ 0; grind)).1
  have t3 := sumL_tr t2 hk
  obtain ⟨f, e, w, p, hd⟩ := ahead_ok (m := m) h.w hm
  have e : some (summed (line m) (laterTops (apart c (line m)))) = some f := by
    rw [← e]
    unfold ahead
    rw [if_neg hm]
  cases e
  refine ⟨w, t3.len, t3.mo, t3.wo, fun t ht => ?_⟩
  rcases slope_or (k := m) w h.w ht (fun u hu => (hd.at_ u hu).2.2) with e | e
  · rw [e]
    exact hk.mono h1
  · rw [e]
    exact (h.sl t ht).mono h2
end
end Qk
namespace Qk
/-! ### corners at which nothing bends, put in -/
theorem head_drop {α : Type} {l : List α} {i : Nat} : (l.drop i).head? = l[i]? := by
  rw [List.head?_drop]
theorem val_in {s t : Rat} : ∀ {cs : List Cn} {i : Nat} {a : Cn}, Up cs → cs[i]? = some a → a.1 ≤ t → (∀ b, cs[i + 1]? = some b → t < b.1) → val cs s t = a.2 + sl0 a (cs.drop (i + 1)) s * (t - a.1)
  | [], _, _, _, h, _, _ => by simp at h
  | [p], 0, a, _, h, _, _ => by
    have e : p = a := Option.some.inj h
    rw [e]
    rfl
  | [p], i + 1, a, _, h, _, _ => by simp at h
  | p :: q :: r, 0, a, _, h, _, h2 => by
    have e : p = a := Option.some.inj h
    subst e
    have := h2 q rfl
    simp only [val, if_pos this]
    rfl
  | p :: q :: r, i + 1, a, hu, h, h1, h2 => by
    have h : (q :: r)[i]? = some a := by simpa using h
    have hg := up_ge hu.2 (List.mem_of_getElem? h)
    have hq : ¬ t < q.1 := by grind
    simp only [val, if_neg hq]
    exact val_in hu.2 h h1 fun b hb => h2 b (by simpa using hb)
/-- points on the line from a corner on, ahead of the next corner -/
structure Ins (s : Rat) (a : Cn) (r : List Cn) (ins : List Cn) : Prop where
  on : ∀ x ∈ ins, x.2 = a.2 + sl0 a r s * (x.1 - a.1)
  up : Up (a :: ins)
  lt : ∀ b, r.head? = some b → ∀ x ∈ ins, x.1 < b.1
inductive More (s : Rat) : List Cn → List Cn → Prop
  | nil : More s [] []
  | cons {a : Cn} {r ins r' : List Cn} : Ins s a r ins → More s r r' → More s (a :: r) (a :: (ins ++ r'))
theorem ins_nrm {s k : Rat} {a : Cn} {r r' : List Cn} (hk : sl0 a r s = k) (hr : ∀ b, r.head? = some b → a.1 < b.1) (hh : r'.head? = r.head?) : ∀ (ins : List Cn) (q : Cn), q.2 = a.2 + k * (q.1 - a.1) → (∀ b, r.head? = some b → q.1 < b.1) → (∀ x ∈ ins, x.2 = a.2 + k * (x.1 - a.1)) → Up (q :: ins) → (∀ b, r.head? = some b → ∀ x ∈ ins, x.1 < b.1) →
    sl0 q (ins ++ r') s = k ∧ nrm (some k) (ins ++ r') s = nrm (some k) r' s
  | [], q, hq, hqb, _, _, _ => by
    refine ⟨?_, rfl⟩
    cases r with
    | nil =>
      cases r' with
      | nil => exact hk
      | cons => simp at hh
    | cons b r =>
      cases r' with
      | nil => simp at hh
      | cons b' r' =>
        have e : b' = b := Option.some.inj hh
        subst e
        have h1 := hr b' rfl
        have h2 := hqb b' rfl
        have h3 := steep_mul h1
        have h4 : steep a b' = k := hk
        show steep q b' = k
        refine steep_eq h2 ?_
        rw [h4] at h3
        grind
  | x :: ins, q, hq, hqb, hon, hu, hlt => by
    have hx := hon x (by simp)
    obtain ⟨i1, i2⟩ := ins_nrm hk hr hh ins x hx (fun b hb => hlt b hb x (by simp)) (fun z hz => hon z (List.mem_cons_of_mem _ hz)) hu.2 (fun b hb z hz => hlt b hb z (List.mem_cons_of_mem _ hz))
    have h1 : q.1 < x.1 := hu.1
    refine ⟨?_, ?_⟩
    · show steep q x = k
      exact steep_eq h1 (by grind)
    · show nrm (some k) (x :: (ins ++ r')) s = _
      rw [nrm_cons, i1, if_pos rfl, i2]
theorem up_app : ∀ {as bs : List Cn}, Up as → Up bs → (∀ b, bs.head? = some b → ∀ x ∈ as, x.1 < b.1) → Up (as ++ bs)
  | [], bs, _, h, _ => h
  | [a], [], _, _, _ => trivial
  | [a], b :: r, _, h, hl => ⟨hl b rfl a (by simp), h⟩
  | a :: c :: r, bs, hu, h, hl => ⟨hu.1, up_app (as := c :: r) hu.2 h fun b hb x hx => hl b hb x (List.mem_cons_of_mem _ hx)⟩
theorem more_nrm {s : Rat} {cs cs' : List Cn} (hu : Up cs) (h : More s cs cs') : (∀ p, nrm p cs' s = nrm p cs s) ∧ cs'.head? = cs.head? ∧ Up cs' := by
  induction h with
  | nil => exact ⟨fun _ => rfl, rfl, trivial⟩
  | @cons a r ins r' hi hm ih =>
    obtain ⟨i1, i2, i3⟩ := ih hu.tail
    have hr : ∀ b, r.head? = some b → a.1 < b.1 := fun b hb => by
      cases r with
      | nil => cases hb
      | cons c r =>
        have e : c = b := Option.some.inj hb
        rw [← e]
        exact hu.1
    obtain ⟨j1, j2⟩ := ins_nrm (a := a) (r := r) (r' := r') rfl hr i2 ins a (by grind) hr hi.on hi.up hi.lt
    refine ⟨fun p => ?_, rfl, ?_⟩
    · rw [nrm_cons, nrm_cons, j1, j2, i1]
    · refine up_app (as := a :: ins) hi.up i3 fun b hb x hx => ?_
      rw [i2] at hb
      rcases List.mem_cons.mp hx with e | hx
      · rw [e]
        exact hr b hb
      · exact hi.lt b hb x hx
/-- what is passed: the same curve -/
theorem more_normal {c : Cv} {cs' : List Cn} (hw : WF c) (hp : Plain c) (h : More c.2 c.1 cs') : normal cs' c.2 = c ∧ cs' ≠ [] ∧ Up cs' ∧ (∀ a, cs'.head? = some a → a.1 = 0) := by
  obtain ⟨h1, h2, h3⟩ := more_nrm hw.up h
  refine ⟨?_, head_ne h2 hw.ne, h3, fun a ha => hw.h0 a (by rw [← h2]; exact ha)⟩
  unfold normal
  rw [h1, show nrm none c.1 c.2 = c.1 from hp]
/-- the moments between a corner and the next one (or two later) -/
structure Btw (a : Cn) (l : Rat) (ms : List Rat) : Prop where
  as : Asc ms
  lo : ∀ m ∈ ms, a.1 < m
  hi : ∀ m ∈ ms, m < l
theorem btw_half {a : Cn} {l : Rat} (h : a.1 < l) : Btw a l [a.1 + (l - a.1) * (1 / 2)] := ⟨trivial, fun m hm => by
    have e : m = a.1 + (l - a.1) * (1 / 2) := by simpa using hm
    grind, fun m hm => by
    have e : m = a.1 + (l - a.1) * (1 / 2) := by simpa using hm
    grind⟩
theorem btw_thirds {a : Cn} {l : Rat} (h : a.1 < l) : Btw a l [a.1 + (l - a.1) * (1 / 3), a.1 + (l - a.1) * (2 / 3)] := ⟨⟨by grind, trivial⟩, fun m hm => by
    simp only [List.mem_cons, List.not_mem_nil, or_false] at hm
    rcases hm with e | e <;> grind, fun m hm => by
    simp only [List.mem_cons, List.not_mem_nil, or_false] at hm
    rcases hm with e | e <;> grind⟩
theorem btw_mid {a : Cn} {l : Rat} (h : a.1 < l) : Btw a l [(a.1 + l) * (1 / 2)] := ⟨trivial, fun m hm => by
    have e : m = (a.1 + l) * (1 / 2) := by simpa using hm
    grind, fun m hm => by
    have e : m = (a.1 + l) * (1 / 2) := by simpa using hm
    grind⟩
theorem up_ms {F : Rat → Rat} : ∀ {ms : List Rat}, Asc ms → Up (ms.map fun m => (m, F m))
  | [], _ => trivial
  | [a], _ => trivial
  | a :: b :: r, h => ⟨h.1, up_ms (ms := b :: r) h.2⟩
theorem up_cons {a : Cn} : ∀ {r : List Cn}, (∀ x ∈ r, a.1 < x.1) → Up r → Up (a :: r)
  | [], _, _ => trivial
  | b :: r, h, hu => ⟨h b (by simp), hu⟩
theorem ins_of {c : Cv} {i : Nat} {a : Cn} {l : Rat} {ms : List Rat} (hw : WF c) (ha : c.1[i]? = some a) (hl : ∀ b, c.1[i + 1]? = some b → l = b.1) (h : Btw a l ms) : Ins c.2 a (c.1.drop (i + 1)) (ms.map fun m => (m, vl c m)) := by
  refine ⟨fun x hx => ?_, ?_, fun b hb x hx => ?_⟩
  · obtain ⟨m, hm, e⟩ := List.mem_map.mp hx
    rw [← e]
    exact val_in hw.up ha (by have := h.lo m hm; grind) fun b hb => by
      rw [← hl b hb]
      exact h.hi m hm
  · refine up_cons (fun x hx => ?_) (up_ms h.as)
    obtain ⟨m, hm, e⟩ := List.mem_map.mp hx
    rw [← e]
    exact h.lo m hm
  · obtain ⟨m, hm, e⟩ := List.mem_map.mp hx
    rw [head_drop] at hb
    rw [← e, ← hl b hb]
    exact h.hi m hm
theorem ins_nil {s : Rat} {a : Cn} {r : List Cn} : Ins s a r [] := ⟨fun x h => (by cases h), trivial, fun b hb x h => (by cases h)⟩
theorem more_step {s : Rat} {cs out ins : List Cn} {i : Nat} {a : Cn} (ha : cs[i]? = some a) (hi : Ins s a (cs.drop (i + 1)) ins) (h : ∀ r', More s (cs.drop i) r' → More s cs (out ++ r')) : ∀ r', More s (cs.drop (i + 1)) r' → More s cs ((out ++ [a] ++ ins) ++ r') := fun r' hr => by
  have e : cs.drop i = a :: cs.drop (i + 1) := by
    have hlt := (List.getElem?_eq_some_iff.mp ha).1
    rw [List.drop_eq_getElem_cons hlt]
    congr 1
    exact (List.getElem?_eq_some_iff.mp ha).2
  have := h _ (by rw [e]; exact .cons hi hr)
  simpa using this
/-- drawn corners: slopes -/
theorem tw_steep {B C n : Nat} {a b : Cn} (ha : Tw B a.1) (hb : Tw B b.1) (ha2 : Tw C a.2) (hb2 : Tw C b.2) (h : a.1 < b.1) (l1 : 2 * B < 2 ^ n) (l2 : 2 * C < 2 ^ n) : Sz n (steep a b) := by
  obtain ⟨i, e1, h1⟩ := ha
  obtain ⟨j, e2, h2⟩ := hb
  obtain ⟨k, e3, h3⟩ := ha2
  obtain ⟨l, e4, h4⟩ := hb2
  have hne : j - i ≠ 0 := fun z => by
    have : i = j := by omega
    rw [e1, e2, this] at h
    grind
  have e : steep a b = Rat.divInt (l - k) (j - i) := by
    rw [Rat.divInt_eq_div]
    unfold steep
    rw [e1, e2, e3, e4]
    have hq : ((j - i : Int) : Rat) ≠ 0 := by exact_mod_cast hne
    push_cast at hq ⊢
    grind
  rw [e]
  exact sz_divInt (by omega) (by omega) hne
/-- what the law draws: a curve told, with its sizes -/
structure Drawn (c : Cv) : Prop where
  t : Tr 14 14 15 12 c
  p : Plain c
theorem dn_up {k B C : Nat} {cs : List Cn} (h : Dn k B C cs) (h0 : 0 < k) {s : Rat} : WF (cs, s) := ⟨fun e => by
  have := h.len
  have e : cs = [] := e
  rw [e] at this
  simp at this
  omega, h.up, h.h0⟩
theorem dn_slOk {k : Nat} {cs : List Cn} (h : Dn k 8000 8000 cs) (h0 : 0 < k) (hl : k ≤ 12) : SlOk cs :=
  slOk_of (dn_up h h0 (s := 0)).ne h.up (by rw [h.len]; omega) (fun x hx => ((h.mo x hx).sz (n := 14) (by decide) (by decide)).mono (by decide)) (fun x hx => ((h.wo x hx).sz (n := 14) (by decide) (by decide)).mono (by decide))
theorem slopes_each {P : Rat → Prop} {s : Rat} : ∀ {cs : List Cn}, P s → (∀ p ∈ nbs cs, P (steep p.1 p.2)) → ∀ k ∈ slopes cs s, P k
  | [], _, _, k, h => by cases h
  | [a], hs, _, k, h => by
    have e : k = s := by simpa [slopes, sl0] using h
    rw [e]
    exact hs
  | a :: b :: r, hs, hp, k, h => by
    rcases List.mem_cons.mp (show k ∈ steep a b :: slopes (b :: r) s from h) with e | h
    · rw [e]
      exact hp (a, b) (show (a, b) ∈ (a, b) :: nbs (b :: r) from List.mem_cons_self)
    · exact slopes_each (cs := b :: r) hs (fun p hq => hp p (show p ∈ (a, b) :: nbs (b :: r) from List.mem_cons_of_mem _ hq)) k h
theorem dn_drawn {k : Nat} {cs : List Cn} {s : Rat} (h : Dn k 8000 8000 cs) (h0 : 0 < k) (hl : k ≤ 12) (hs : Sz 15 s) : Drawn (normal cs s) := by
  have w := dn_up h h0 (s := s)
  obtain ⟨n1, n2, n3, n4⟩ := normal_ok w
  refine ⟨⟨n1, ?_, fun x hx => (h.mo x (nrm_sub _ _ _ x hx)).sz (by decide) (by decide), fun x hx => (h.wo x (nrm_sub _ _ _ x hx)).sz (by decide) (by decide), fun t _ => ?_⟩, n2⟩
  · have h1 := nrm_len cs none s
    have h2 := h.len
    show (nrm none cs s).length ≤ 12
    omega
  · rw [(n3 t).2]
    refine slopes_each (P := Sz 15) hs (fun p hp => ?_) _ (slp_mem w.ne)
    obtain ⟨u1, u2, u3⟩ := up_nbs h.up p hp
    exact tw_steep (h.mo _ u2) (h.mo _ u3) (h.wo _ u2) (h.wo _ u3) u1 (by decide) (by decide)
end Qk
namespace Qw
open PySem PySem.Spec PyProof.Rows L2 LamX

/-! ### heaps -/
/-- a clean part of a heap: what is known of the data, no tables -/
def Cl (G H : Hp) : Prop := ∀ b o, G b = some o → H b = some o ∧ ∀ ps, o ≠ .tbl ps
/-- from (G, H) on: all that stood stands (but tables, that are kept right); the clean part has grown by what is new -/
structure Step (T : List (Addr × Str)) (G H G' H' : Hp) : Prop where
  x : ExtN H H'
  t : Tabs T H'
  g : Same G G'
  s : Cl G' H'
  f0 : ∀ b o, H b = some o → (∀ ps, o ≠ .tbl ps) → (∀ xs, o ≠ .tup xs) → G' b = G b
section
variable {T : List (Addr × Str)} {G H G1 H1 G2 H2 G3 H3 G' H' : Hp} {p : Addr} {o : HO} {K : PySem.W.Frag}
theorem lst_tbl {xs : List V} (ps : Array Value) : HO.lst xs ≠ .tbl ps := fun z => by cases z
theorem tup_tbl {xs : List V} (ps : Array Value) : HO.tup xs ≠ .tbl ps := fun z => by cases z
theorem Cl.ext (c : Cl G H) (e : ExtN H H') : Cl G H' := fun b o h => ⟨e b o (c b o h).1 (c b o h).2, (c b o h).2⟩
theorem lst_tup {xs : List V} (ys : List V) : HO.lst xs ≠ .tup ys := fun z => by cases z
theorem Step.f (s : Step T G H G' H') (b : Addr) (l : List V) (h : H b = some (.lst l)) : G' b = G b := s.f0 b _ h lst_tbl lst_tup
theorem Step.refl (ht : Tabs T H) (c : Cl G H) : Step T G H G H := ⟨ExtN.refl H, ht, Same.refl G, c, fun _ _ _ _ _ => rfl⟩
theorem Step.trans (a : Step T G H G1 H1) (b : Step T G1 H1 G2 H2) : Step T G H G2 H2 :=
  ⟨a.x.trans b.x, b.t, a.g.trans b.g, b.s, fun c l h n1 n2 => (b.f0 c l (a.x c _ h n1) n1 n2).trans (a.f0 c l h n1 n2)⟩
theorem Same.trans' (a : Same G G1) (b : Same G1 G2) : Same G G2 := a.trans b
/-- the same from a larger clean part -/
theorem Step.lift (b : Step T G H G3 H3) (e : Same G G2) (c : Cl G2 H) : ∃ Gm, Step T G2 H Gm H3 ∧ Same G3 Gm := by
  refine ⟨fun c => match G3 c with | some o => some o | none => G2 c, ⟨b.x, b.t, fun a o h => ?_, fun a o h => ?_, fun a l h n1 n2 => ?_⟩, fun a o h => ?_⟩
  · show (match G3 a with | some o => some o | none => G2 a) = some o
    cases q : G3 a with
    | none => exact h
    | some u =>
      have h1 := c a o h
      have h2 := b.x a o h1.1 h1.2
      exact (b.s a u q).1.symm.trans h2
  · have h : (match G3 a with | some o => some o | none => G2 a) = some o := h
    cases q : G3 a with
    | none =>
      rw [q] at h
      have h1 := c a o h
      exact ⟨b.x a o h1.1 h1.2, h1.2⟩
    | some u =>
      rw [q] at h
      cases h
      exact b.s a _ q
  · show (match G3 a with | some o => some o | none => G2 a) = G2 a
    have h1 := b.f0 a l h n1 n2
    cases q : G3 a with
    | none => rfl
    | some u =>
      rw [h1] at q
      exact (e a u q).symm
  · show (match G3 a with | some o => some o | none => G2 a) = some o
    rw [h]
theorem Step.new (ht : Tabs T H) (c : Cl G H) (h : H p = none) (ho : ∀ ps, o ≠ .tbl ps) : Step T G H (upd G p o) (upd H p o) := by
  have e : ∀ b u, H b = some u → upd H p o b = some u := fun b u z => by
    rw [upd_ne (ne_of_none z h)]
    exact z
  refine ⟨ExtN.of e, ht.ext e, fun b u z => ?_, fun b u z => ?_, fun b l z _ _ => ?_⟩
  · rw [upd_ne (ne_of_none (c b u z).1 h)]
    exact z
  · by_cases hb : b = p
    · subst hb
      rw [upd_same] at z ⊢
      cases z
      exact ⟨rfl, ho⟩
    · rw [upd_ne hb] at z ⊢
      exact c b u z
  · rw [upd_ne (ne_of_none z h)]
/-- new, not taken among the clean -/
theorem Step.newH (ht : Tabs T H) (c : Cl G H) (h : H p = none) : Step T G H G (upd H p o) := by
  have e : ∀ b u, H b = some u → upd H p o b = some u := fun b u z => by
    rw [upd_ne (ne_of_none z h)]
    exact z
  exact ⟨ExtN.of e, ht.ext e, Same.refl G, fun b u z => ⟨e b u (c b u z).1, (c b u z).2⟩, fun b l z _ _ => rfl⟩
theorem clean_none (c : Cl G H) (h : H p = none) : G p = none := by
  cases q : G p with
  | none => rfl
  | some u =>
    have := (c p u q).1
    rw [h] at this
    cases this
theorem tabs_mut {xs ys : List V} (ht : Tabs T H) (hl : H p = some (.lst xs)) : Tabs T (upd H p (.lst ys)) := fun q hq => by
  obtain ⟨ps, h1, h2, h3⟩ := ht q hq
  refine ⟨ps, ?_, h2, fun pos cv hc => ?_⟩
  · rw [upd_ne (ne_of h1 hl (by intro z; cases z))]
    exact h1
  · obtain ⟨c, e1, e2⟩ := h3 pos cv hc
    refine ⟨c, e1, ?_⟩
    rw [upd_ne (ne_of e2 hl (by intro z; unfold CodeO at z; cases z))]
    exact e2
/-- nothing stands there, or a table -/
def Nw (H : Hp) (p : Addr) : Prop := ∀ u, H p = some u → ∃ ps, u = .tbl ps
theorem Nw.of (h : H p = none) : Nw H p := fun u z => by
  rw [h] at z
  cases z
theorem Nw.ne (h : Nw H p) {b : Addr} {u : HO} (z : H b = some u) (n : ∀ ps, u ≠ .tbl ps) : b ≠ p := fun e => by
  rw [e] at z
  obtain ⟨ps, e2⟩ := h u z
  exact n ps e2
theorem Step.nw (s : Step T G H G1 H1) (h : Nw H1 p) : Nw H p := fun u z => by
  by_cases q : ∃ ps, u = .tbl ps
  · exact q
  · exact h u (s.x p u z fun ps e => q ⟨ps, e⟩)
/-- a list of the def's own changes -/
theorem Step.mut {xs ys : List V} (a : Step T G H G1 H1) (h : Nw H p) (hg : G1 p = none) (hl : H1 p = some (.lst xs)) : Step T G H G1 (upd H1 p (.lst ys)) :=
  ⟨fun b u z n => by
    rw [upd_ne (h.ne z n)]
    exact a.x b u z n, tabs_mut a.t hl, a.g, fun b u z => by
    rw [upd_ne (ne_of_none z hg)]
    exact a.s b u z, a.f0⟩
/-- .. and is taken among the clean at last -/
theorem Step.take {xs : List V} (a : Step T G H G1 H1) (h : Nw H p) (hg : G1 p = none) (hl : H1 p = some (.lst xs)) : Step T G H (upd G1 p (.lst xs)) H1 :=
  ⟨a.x, a.t, fun b u z => by
    rw [upd_ne (ne_of_none (a.g b u z) hg)]
    exact a.g b u z, fun b u z => by
    by_cases hb : b = p
    · subst hb
      rw [upd_same] at z
      cases z
      exact ⟨hl, lst_tbl⟩
    · rw [upd_ne hb] at z
      exact a.s b u z, fun b l z n1 n2 => by
    rw [upd_ne (h.ne z n1)]
    exact a.f0 b l z n1 n2⟩
theorem Cl.lst {a : Addr} {xs : List V} (c : Cl G H) (h : G a = some (.lst xs)) : SqL K H a xs := .inl (.inl (c _ _ h).1)
theorem Cl.tup {a : Addr} {xs : List V} (c : Cl G H) (h : G a = some (.tup xs)) : SqT K H a xs := .inl (.inl (c _ _ h).1)
end
/-! ### data -/
/-! told by what is tracked; an empty dict; a function (by its address) -/
mutual
inductive Dp (K : PySem.W.Frag) (H : Hp) : V → PyData → Prop
  | non : Dp K H .non .none
  | bl (b : Bool) : Dp K H (.bl b) (.bool b)
  | int (i : Int) : Dp K H (.int i) (.int i)
  | str (x : Str) : Dp K H (.str x) (.str x)
  | lst {a : Addr} {xs : List V} {ds : List PyData} : H a = some (.lst xs) → DpAll K H xs ds → Dp K H (.ref a) (.list ds)
  | tup {a : Addr} {xs : List V} {ds : List PyData} : H a = some (.tup xs) → DpAll K H xs ds → Dp K H (.ref a) (.tuple ds)
  | dct {a : Addr} : H a = some (.dK []) → Dp K H (.ref a) (.dict [])
  | fn {a : Addr} : PySem.W.keepIn K (.ref a) = true → PySem.W.typeIn K (.ref a) = some (.type "function") → Dp K H (.ref a) (.dict [(.int (a : Nat), .none)])
inductive DpAll (K : PySem.W.Frag) (H : Hp) : List V → List PyData → Prop
  | nil : DpAll K H [] []
  | cons {v : V} {vs : List V} {d : PyData} {ds : List PyData} : Dp K H v d → DpAll K H vs ds → DpAll K H (v :: vs) (d :: ds)
end
mutual
theorem dp_mono {K : PySem.W.Frag} {H H' : Hp} (l : ∀ a o, H a = some o → H' a = some o) : ∀ (d : PyData) (v : V), Dp K H v d → Dp K H' v d
  | .none, _, h => by cases h; exact .non
  | .bool b, _, h => by cases h; exact .bl b
  | .int i, _, h => by cases h; exact .int i
  | .str x, _, h => by cases h; exact .str x
  | .list ds, _, h => by
    cases h with
    | lst hs ha => exact .lst (l _ _ hs) (dpAll_mono l ds _ ha)
  | .tuple ds, _, h => by
    cases h with
    | tup hs ha => exact .tup (l _ _ hs) (dpAll_mono l ds _ ha)
  | .dict _, _, h => by
    cases h with
    | dct hs => exact .dct (l _ _ hs)
    | fn h1 h2 => exact .fn h1 h2
theorem dpAll_mono {K : PySem.W.Frag} {H H' : Hp} (l : ∀ a o, H a = some o → H' a = some o) : ∀ (ds : List PyData) (vs : List V), DpAll K H vs ds → DpAll K H' vs ds
  | [], _, h => by cases h; exact .nil
  | d :: ds, _, h => by
    cases h with
    | cons h1 h2 => exact .cons (dp_mono l d _ h1) (dpAll_mono l ds _ h2)
end
/-! data that the model can compare and print -/
mutual
def seqs : PyData → Bool
  | .tuple ds => seqsAll ds
  | .list ds => seqsAll ds
  | .dict _ => false
  | _ => true
def seqsAll : List PyData → Bool
  | [] => true
  | d :: ds => seqs d && seqsAll ds
end
mutual
theorem dp_up {K : PySem.W.Frag} {H : Hp} : ∀ (d : PyData) (v : V), seqs d = true → Dp K H v d → L2.Dp K H v d
  | .none, _, _, h => by cases h; exact .non
  | .bool b, _, _, h => by cases h; exact .bl b
  | .int i, _, _, h => by cases h; exact .int i
  | .str x, _, _, h => by cases h; exact .str x
  | .list ds, _, f, h => by
    cases h with
    | lst hs ha => exact .lst (.inl (.inl hs)) (dpAll_up ds _ f ha)
  | .tuple ds, _, f, h => by
    cases h with
    | tup hs ha => exact .tup (.inl (.inl hs)) (dpAll_up ds _ f ha)
  | .dict _, _, f, h => by cases f
theorem dpAll_up {K : PySem.W.Frag} {H : Hp} : ∀ (ds : List PyData) (vs : List V), seqsAll ds = true → DpAll K H vs ds → L2.DpAll K H vs ds
  | [], _, _, h => by cases h; exact .nil
  | d :: ds, _, f, h => by
    cases h with
    | cons h1 h2 =>
      have f := Bool.and_eq_true_iff.mp (show (seqs d && seqsAll ds) = true from f)
      exact .cons (dp_up d _ f.1 h1) (dpAll_up ds _ f.2 h2)
end
mutual
theorem seqs_lay : ∀ d : PyData, d.canLay0 = true → seqs d = true
  | .none, _ => rfl
  | .bool _, _ => rfl
  | .int _, _ => rfl
  | .str _, _ => rfl
  | .list ds, h => seqsAll_lay ds h
  | .tuple ds, h => seqsAll_lay ds h
  | .dict _, h => by cases h
theorem seqsAll_lay : ∀ ds : List PyData, PyData.canLayAll0 ds = true → seqsAll ds = true
  | [], _ => rfl
  | d :: ds, h => by
    have f := Bool.and_eq_true_iff.mp (show (d.canLay0 && PyData.canLayAll0 ds) = true from h)
    show (seqs d && seqsAll ds) = true
    rw [seqs_lay d f.1, seqsAll_lay ds f.2]
    rfl
end
theorem seqs_shaped {d : PyData} (h : SeqAt.shaped d = true) : seqs d = true := seqs_lay d (SeqAt.canLay_of_shaped h)
section
variable {T : List (Addr × Str)} {H H1 H2 H' : Hp} {K : PySem.W.Frag}
theorem sdp (e : Same H H') {v : V} {d : PyData} (h : Dp K H v d) : Dp K H' v d := dp_mono e d v h
theorem sdpAll (e : Same H H') {vs : List V} {ds : List PyData} (h : DpAll K H vs ds) : DpAll K H' vs ds := dpAll_mono e ds vs h
theorem Cl.dp (e : Cl H H') {v : V} {d : PyData} (h : Dp K H v d) : Dp K H' v d := dp_mono (fun a o z => (e a o z).1) d v h
theorem Cl.dpAll (e : Cl H H') {vs : List V} {ds : List PyData} (h : DpAll K H vs ds) : DpAll K H' vs ds := dpAll_mono (fun a o z => (e a o z).1) ds vs h
theorem dpAll_len : ∀ {vs : List V} {ds : List PyData}, DpAll K H vs ds → vs.length = ds.length
  | _, _, .nil => rfl
  | _, _, .cons _ t => congrArg (· + 1) (dpAll_len t)
theorem dpAll_get : ∀ {vs : List V} {ds : List PyData}, DpAll K H vs ds → ∀ {i : Nat} {d : PyData}, ds[i]? = some d → ∃ v, vs[i]? = some v ∧ Dp K H v d
  | _, _, .nil, i, d, h => by simp at h
  | _, _, .cons h t, 0, d, e => by
    have e := Option.some.inj e
    subst e
    exact ⟨_, rfl, h⟩
  | _, _, .cons h t, i + 1, d, e => dpAll_get t (i := i) (by simpa using e)
theorem dpAll_get' : ∀ {vs : List V} {ds : List PyData}, DpAll K H vs ds → ∀ {i : Nat} {v : V}, vs[i]? = some v → ∃ d, ds[i]? = some d ∧ Dp K H v d
  | _, _, .nil, i, d, h => by simp at h
  | _, _, .cons h t, 0, d, e => by
    have e := Option.some.inj e
    subst e
    exact ⟨_, rfl, h⟩
  | _, _, .cons h t, i + 1, d, e => dpAll_get' t (i := i) (by simpa using e)
theorem dpAll_app : ∀ {vs ws : List V} {ds es : List PyData}, DpAll K H vs ds → DpAll K H ws es → DpAll K H (vs ++ ws) (ds ++ es)
  | _, _, _, _, .nil, h => h
  | _, _, _, _, .cons h t, h' => .cons h (dpAll_app t h')
end

/-! ### fractions, corners, curves -/
def dq (q : Rat) : PyData := .tuple [.int q.num, .int (q.den : Int)]
def dc (c : Qk.Cn) : PyData := .tuple [dq c.1, dq c.2]
def dv (c : Qk.Cv) : PyData := .tuple [.list (c.1.map dc), dq c.2]
/-! ### what is evaluated -/
abbrev Rp := Hp → V → Prop
class Mn (R : Rp) : Prop where
  mn : ∀ G G' v, Same G G' → R G v → R G' v
/-- it is the datum d -/
def IsD (K : PySem.W.Frag) (d : PyData) : Rp := fun G v => Dp K G v d
/-- it is the value x -/
def IsV (x : V) : Rp := fun _ v => v = x
instance (K : PySem.W.Frag) (d : PyData) : Mn (IsD K d) := ⟨fun _ _ _ e h => sdp e h⟩
/-- it is a list of its own, of these data -/
def IsL (K : PySem.W.Frag) (ds : List PyData) : Rp := fun G v => ∃ a xs, v = .ref a ∧ G a = some (.lst xs) ∧ DpAll K G xs ds
/-- it is a curve whose list of corners G0 does not know -/
def IsVc (K : PySem.W.Frag) (G0 : Hp) (c : Qk.Cv) : Rp := fun G v => ∃ p l s xs, v = .ref p ∧ G p = some (.tup [.ref l, s]) ∧ G0 l = none ∧ G l = some (.lst xs) ∧ DpAll K G xs (c.1.map dc) ∧ Dp K G s (dq c.2)
instance (K : PySem.W.Frag) (ds : List PyData) : Mn (IsL K ds) := ⟨fun _ _ _ e ⟨a, xs, h1, h2, h3⟩ => ⟨a, xs, h1, e _ _ h2, sdpAll e h3⟩⟩
instance (K : PySem.W.Frag) (G0 : Hp) (c : Qk.Cv) : Mn (IsVc K G0 c) := ⟨fun _ _ _ e ⟨p, l, s, xs, h1, h2, h0, h3, h4, h5⟩ => ⟨p, l, s, xs, h1, e _ _ h2, h0, e _ _ h3, sdpAll e h4, sdp e h5⟩⟩
theorem IsL.d {K : PySem.W.Frag} {ds : List PyData} {G : Hp} {v : V} (h : IsL K ds G v) : IsD K (.list ds) G v := by
  obtain ⟨a, xs, rfl, h2, h3⟩ := h
  exact .lst h2 h3
theorem IsVc.d {K : PySem.W.Frag} {G0 : Hp} {c : Qk.Cv} {G : Hp} {v : V} (h : IsVc K G0 c G v) : IsD K (dv c) G v := by
  obtain ⟨p, l, s, xs, rfl, h2, _, h3, h4, h5⟩ := h
  exact .tup h2 (.cons (.lst h3 h4) (.cons h5 .nil))
instance (x : V) : Mn (IsV x) := ⟨fun _ _ _ _ h => h⟩
def Rv (T : List (Addr × Str)) (te : TE) (σ : L2.St) (G : Hp) (R : Rp) : Prop := ∀ H, Tabs T H → Cl G H → ∀ Q : VK, (∀ v G2 H2, Step T G H G2 H2 → R G2 v → Q v H2) → te σ H Q
def Rt (T : List (Addr × Str)) (tt : TT) (σ : L2.St) (G : Hp) (b : Bool) : Prop := ∀ H, Tabs T H → Cl G H → ∀ Q : Bool → Hp → Prop, (∀ G2 H2, Step T G H G2 H2 → Q b H2) → tt σ H Q
def Ra (T : List (Addr × Str)) (K : PySem.W.Frag) (ta : TA) (σ : L2.St) (G : Hp) (ds : List PyData) : Prop := ∀ H, Tabs T H → Cl G H → ∀ Q : List V → Hp → Prop, (∀ vs G2 H2, Step T G H G2 H2 → DpAll K G2 vs ds → Q vs H2) → ta σ H Q
section
variable {T : List (Addr × Str)} {K : PySem.W.Frag} {σ : L2.St} {G G' H H' : Hp} {ta tb tc te tl tx : TE} {tt tu : TT} {v x : V} {r : R2} {R Ra' Rb : Rp} {i j : Nat} {d e : PyData} {ds es : List PyData} {aa : TA}
theorem cl_same (e : Same G G') (c : Cl G' H) : Cl G H := fun b o z => c b o (e b o z)
theorem Rv.mono [m : Mn R] (e : Same G G') (h : Rv T te σ G R) : Rv T te σ G' R := fun H t c Q q =>
  h H t (cl_same e c) Q fun v G2 H2 st r =>
    let ⟨Gm, s1, s2⟩ := st.lift e c
    q v Gm H2 s1 (m.mn _ _ _ s2 r)
theorem Rt.mono {b : Bool} (e : Same G G') (h : Rt T tt σ G b) : Rt T tt σ G' b := fun H t c Q q =>
  h H t (cl_same e c) Q fun G2 H2 st =>
    let ⟨Gm, s1, s2⟩ := st.lift e c
    q Gm H2 s1
theorem Ra.mono (e : Same G G') (h : Ra T K aa σ G ds) : Ra T K aa σ G' ds := fun H t c Q q =>
  h H t (cl_same e c) Q fun v G2 H2 st r =>
    let ⟨Gm, s1, s2⟩ := st.lift e c
    q v Gm H2 s1 (sdpAll s2 r)
theorem Rv.imp {R' : Rp} (h : Rv T te σ G R) (f : ∀ H1 v, R H1 v → R' H1 v) : Rv T te σ G R' := fun H t c Q q => h H t c Q fun v G2 H2 st r => q v G2 H2 st (f G2 v r)
theorem Rt.to {a b : Bool} (h : Rt T tt σ G a) (e : a = b) : Rt T tt σ G b := e ▸ h
theorem Rv.to (h : Rv T te σ G (IsD K d)) (z : d = e) : Rv T te σ G (IsD K e) := z ▸ h
theorem rv_var (h : σ[i]? = some (some v)) (r : R G v) : Rv T (tVar i) σ G R := fun H t c Q q => ⟨v, h, q v G H (Step.refl t c) r⟩
theorem rv_i {n : Int} : Rv T (tC (.int n)) σ G (IsD K (.int n)) := fun H t c Q q => q _ G H (Step.refl t c) (.int n)
theorem rv_b {n : Bool} : Rv T (tC (.bl n)) σ G (IsD K (.bool n)) := fun H t c Q q => q _ G H (Step.refl t c) (.bl n)
theorem rv_n : Rv T (tC .non) σ G (IsD K .none) := fun H t c Q q => q _ G H (Step.refl t c) .non
theorem rv_s {n : Str} : Rv T (tC (.str n)) σ G (IsD K (.str n)) := fun H t c Q q => q _ G H (Step.refl t c) (.str n)
theorem rv_cv : Rv T (tC x) σ G (IsV x) := fun H t c Q q => q _ G H (Step.refl t c) rfl
/-- a two-place operation -/
theorem rv_op [m : Mn Ra'] [Mn Rb] (ha : Rv T ta σ G Ra') (hb : Rv T tb σ G Rb) (hr : ∀ G1 H1 x y, Tabs T H1 → Cl G1 H1 → Ra' G1 x → Rb G1 y → ∀ Q : VK, (∀ v G2 H2, Step T G1 H1 G2 H2 → R G2 v → Q v H2) → r x y H1 Q) : Rv T (tOp r ta tb) σ G R := fun H t c Q q =>
  ha H t c _ fun x G2 H2 s2 rx => (hb.mono s2.g) H2 s2.t s2.s _ fun y G3 H3 s3 ry => hr G3 H3 x y s3.t s3.s (m.mn _ _ _ s3.g rx) ry Q fun v G4 H4 s4 rv => q v G4 H4 ((s2.trans s3).trans s4) rv
theorem rv_un {r : V → Hp → VK → Prop} (ha : Rv T ta σ G Ra') (hr : ∀ G1 H1 x, Tabs T H1 → Cl G1 H1 → Ra' G1 x → ∀ Q : VK, (∀ v G2 H2, Step T G1 H1 G2 H2 → R G2 v → Q v H2) → r x H1 Q) : Rv T (tUn r ta) σ G R := fun H t c Q q =>
  ha H t c _ fun x G2 H2 s2 rx => hr G2 H2 x s2.t s2.s rx Q fun v G4 H4 s4 rv => q v G4 H4 (s2.trans s4) rv
theorem dp_int {n : Int} (h : Dp K G v (.int n)) : v = .int n := by cases h; rfl
theorem dp_bl {n : Bool} (h : Dp K G v (.bool n)) : v = .bl n := by cases h; rfl
theorem dp_str {n : Str} (h : Dp K G v (.str n)) : v = .str n := by cases h; rfl
theorem dp_non (h : Dp K G v .none) : v = .non := by cases h; rfl
theorem dp_tup (h : Dp K G v (.tuple ds)) : ∃ a xs, v = .ref a ∧ G a = some (.tup xs) ∧ DpAll K G xs ds := by
  cases h with
  | tup hs ha => exact ⟨_, _, rfl, hs, ha⟩
theorem dp_lst (h : Dp K G v (.list ds)) : ∃ a xs, v = .ref a ∧ G a = some (.lst xs) ∧ DpAll K G xs ds := by
  cases h with
  | lst hs ha => exact ⟨_, _, rfl, hs, ha⟩
variable {n m : Int}
theorem rv_add (ha : Rv T ta σ G (IsD K (.int n))) (hb : Rv T tb σ G (IsD K (.int m))) : Rv T (tOp (rI0 fun i j => .int (i + j)) ta tb) σ G (IsD K (.int (n + m))) :=
  rv_op ha hb fun G1 H1 x y t c hx hy Q q => ⟨n, m, dp_int hx, dp_int hy, q _ G1 H1 (Step.refl t c) (.int _)⟩
theorem rv_sub (ha : Rv T ta σ G (IsD K (.int n))) (hb : Rv T tb σ G (IsD K (.int m))) : Rv T (tOp (rI0 fun i j => .int (i - j)) ta tb) σ G (IsD K (.int (n - m))) :=
  rv_op ha hb fun G1 H1 x y t c hx hy Q q => ⟨n, m, dp_int hx, dp_int hy, q _ G1 H1 (Step.refl t c) (.int _)⟩
theorem rv_rI {C : Int → Int → Prop} {g : Int → Int → Int} (ha : Rv T ta σ G (IsD K (.int n))) (hb : Rv T tb σ G (IsD K (.int m))) (hc : C n m) : Rv T (tOp (rI C fun i j => .int (g i j)) ta tb) σ G (IsD K (.int (g n m))) :=
  rv_op ha hb fun G1 H1 x y t c hx hy Q q => ⟨n, m, dp_int hx, dp_int hy, hc, q _ G1 H1 (Step.refl t c) (.int _)⟩
theorem rv_mul (ha : Rv T ta σ G (IsD K (.int n))) (hb : Rv T tb σ G (IsD K (.int m))) (hc : CMulW n m) : Rv T (tOp (rI CMulW fun i j => .int (i * j)) ta tb) σ G (IsD K (.int (n * m))) := rv_rI ha hb hc
theorem rv_div (ha : Rv T ta σ G (IsD K (.int n))) (hb : Rv T tb σ G (IsD K (.int m))) (hc : CDivW n m) : Rv T (tOp (rI CDivW fun i j => .int (i / j)) ta tb) σ G (IsD K (.int (n / m))) := rv_rI ha hb hc
theorem rv_mod (ha : Rv T ta σ G (IsD K (.int n))) (hb : Rv T tb σ G (IsD K (.int m))) (hc : 0 < m) : Rv T (tOp (rI (fun _ j => 0 < j) fun i j => .int (i % j)) ta tb) σ G (IsD K (.int (n % m))) := rv_rI ha hb hc
theorem rv_pow (ha : Rv T ta σ G (IsD K (.int n))) (hb : Rv T tb σ G (IsD K (.int m))) (hc : CPow n m) : Rv T (tOp (rI CPow fun i j => .int (i ^ j.toNat)) ta tb) σ G (IsD K (.int (n ^ m.toNat))) := rv_rI ha hb hc
theorem rv_rB {g : Int → Int → Bool} (ha : Rv T ta σ G (IsD K (.int n))) (hb : Rv T tb σ G (IsD K (.int m))) : Rv T (tOp (rI0 fun i j => .bl (g i j)) ta tb) σ G (IsD K (.bool (g n m))) :=
  rv_op ha hb fun G1 H1 x y t c hx hy Q q => ⟨n, m, dp_int hx, dp_int hy, q _ G1 H1 (Step.refl t c) (.bl _)⟩
theorem rv_lt (ha : Rv T ta σ G (IsD K (.int n))) (hb : Rv T tb σ G (IsD K (.int m))) : Rv T (tOp (rI0 fun i j => .bl (decide (i < j))) ta tb) σ G (IsD K (.bool (decide (n < m)))) := rv_rB ha hb
theorem rv_gt (ha : Rv T ta σ G (IsD K (.int n))) (hb : Rv T tb σ G (IsD K (.int m))) : Rv T (tOp (rI0 fun i j => .bl (decide (j < i))) ta tb) σ G (IsD K (.bool (decide (m < n)))) := rv_rB ha hb
theorem rv_ge (ha : Rv T ta σ G (IsD K (.int n))) (hb : Rv T tb σ G (IsD K (.int m))) : Rv T (tOp (rI0 fun i j => .bl (decide (j ≤ i))) ta tb) σ G (IsD K (.bool (decide (m ≤ n)))) := rv_rB ha hb
theorem rv_le (ha : Rv T ta σ G (IsD K (.int n))) (hb : Rv T tb σ G (IsD K (.int m))) : Rv T (tOp (rI0 fun i j => .bl (decide (i ≤ j))) ta tb) σ G (IsD K (.bool (decide (n ≤ m)))) := rv_rB ha hb
theorem rv_neg (ha : Rv T ta σ G (IsD K (.int n))) : Rv T (tUn (rU fun i => .int (-i)) ta) σ G (IsD K (.int (-n))) :=
  rv_un ha fun G1 H1 x t c hx Q q => ⟨n, dp_int hx, q _ G1 H1 (Step.refl t c) (.int _)⟩
/-- == and != of ints, bools -/
theorem rv_eqI (ha : Rv T ta σ G (IsD K (.int n))) (hb : Rv T tb σ G (IsD K (.int m))) : Rv T (tOp rEq ta tb) σ G (IsD K (.bool (decide (n = m)))) :=
  rv_op ha hb fun G1 H1 x y t c hx hy Q q => by
    rw [dp_int hx, dp_int hy]
    refine ⟨rfl, ?_⟩
    rw [show decide (V.int n = V.int m) = decide (n = m) from by simp]
    exact q _ G1 H1 (Step.refl t c) (.bl _)
theorem rv_neI (ha : Rv T ta σ G (IsD K (.int n))) (hb : Rv T tb σ G (IsD K (.int m))) : Rv T (tOp rNe ta tb) σ G (IsD K (.bool (!decide (n = m)))) :=
  rv_op ha hb fun G1 H1 x y t c hx hy Q q => by
    rw [dp_int hx, dp_int hy]
    refine ⟨rfl, ?_⟩
    rw [show decide (V.int n = V.int m) = decide (n = m) from by simp]
    exact q _ G1 H1 (Step.refl t c) (.bl _)
theorem rv_neB {a b : Bool} (ha : Rv T ta σ G (IsD K (.bool a))) (hb : Rv T tb σ G (IsD K (.bool b))) : Rv T (tOp rNe ta tb) σ G (IsD K (.bool (!decide (a = b)))) :=
  rv_op ha hb fun G1 H1 x y t c hx hy Q q => by
    rw [dp_bl hx, dp_bl hy]
    refine ⟨rfl, ?_⟩
    rw [show decide (V.bl a = V.bl b) = decide (a = b) from by simp]
    exact q _ G1 H1 (Step.refl t c) (.bl _)
/-- == and != of data -/
theorem rv_eqD (ha : Rv T ta σ G (IsD K d)) (hb : Rv T tb σ G (IsD K e)) (hd : SeqAt.shaped d = true) (he : SeqAt.shaped e = true) : Rv T (tOp (rEqD K) ta tb) σ G (IsD K (.bool (PyData.eqv d e))) :=
  rv_op ha hb fun G1 H1 x y t c hx hy Q q => ⟨d, e, dp_up _ _ (seqs_shaped hd) (c.dp hx), dp_up _ _ (seqs_shaped he) (c.dp hy), hd, he, q _ G1 H1 (Step.refl t c) (.bl _)⟩
theorem rv_neD (ha : Rv T ta σ G (IsD K d)) (hb : Rv T tb σ G (IsD K e)) (hd : SeqAt.shaped d = true) (he : SeqAt.shaped e = true) : Rv T (tOp (rNeD K) ta tb) σ G (IsD K (.bool (!PyData.eqv d e))) :=
  rv_op ha hb fun G1 H1 x y t c hx hy Q q => ⟨d, e, dp_up _ _ (seqs_shaped hd) (c.dp hx), dp_up _ _ (seqs_shaped he) (c.dp hy), hd, he, q _ G1 H1 (Step.refl t c) (.bl _)⟩
/-- is None -/
def isNon : PyData → Bool
  | .none => true
  | _ => false
def qIsN : R2 := fun x y H Q => y = .non ∧ Q (.bl (decide (x = .non))) H
def qNotN : R2 := fun x y H Q => y = .non ∧ Q (.bl (!decide (x = .non))) H
theorem op_isNq {X : Cx} : OpR X (compareOp .Is) qIsN := op_isN
theorem op_notNq {X : Cx} : OpR X (compareOp .IsNot) qNotN := op_notN
theorem rv_isN (ha : Rv T ta σ G (IsD K d)) : Rv T (tOp qIsN ta (tC .non)) σ G (IsD K (.bool (isNon d))) := fun H t c Q q =>
  ha H t c _ fun x G2 H2 s2 hx => ⟨rfl, by
    have : decide (x = V.non) = isNon d := by
      cases hx <;> rfl
    rw [this]
    exact q _ G2 H2 s2 (.bl _)⟩
theorem rv_notN (ha : Rv T ta σ G (IsD K d)) : Rv T (tOp qNotN ta (tC .non)) σ G (IsD K (.bool (!isNon d))) := fun H t c Q q =>
  ha H t c _ fun x G2 H2 s2 hx => ⟨rfl, by
    have : (!decide (x = V.non)) = !isNon d := by
      cases hx <;> rfl
    rw [this]
    exact q _ G2 H2 s2 (.bl _)⟩
/-- an item -/
theorem at_dp {xs : List V} (hd : DpAll K G xs ds) (hn : atI ds n = some d) : ∃ v, atI xs n = some v ∧ Dp K G v d := by
  obtain ⟨j, h1, h2, h3, h4, h5⟩ := atI_get hn
  obtain ⟨v, hv, dv⟩ := dpAll_get hd h2
  refine ⟨v, ?_, dv⟩
  unfold atI at hn ⊢
  rw [dpAll_len hd]
  cases hix : ixN ds.length n with
  | none =>
    rw [hix] at hn
    cases hn
  | some k =>
    have hk := (ixN_seq hix).1
    rw [h1] at hk
    cases hk
    exact hv
theorem rv_ixT (ha : Rv T ta σ G (IsD K (.tuple ds))) (hb : Rv T tb σ G (IsD K (.int n))) (hn : atI ds n = some d) : Rv T (tOp (rIxT K) ta tb) σ G (IsD K d) :=
  rv_op ha hb fun G1 H1 x y t c hx hy Q q => by
    obtain ⟨a, xs, rfl, hs, hd⟩ := dp_tup hx
    obtain ⟨v, hv, dv⟩ := at_dp hd hn
    exact ⟨a, xs, n, v, rfl, dp_int hy, c.tup hs, hv, q v G1 H1 (Step.refl t c) dv⟩
theorem rv_ixL (ha : Rv T ta σ G (IsD K (.list ds))) (hb : Rv T tb σ G (IsD K (.int n))) (hn : atI ds n = some d) : Rv T (tOp (rIxL K) ta tb) σ G (IsD K d) :=
  rv_op ha hb fun G1 H1 x y t c hx hy Q q => by
    obtain ⟨a, xs, rfl, hs, hd⟩ := dp_lst hx
    obtain ⟨v, hv, dv⟩ := at_dp hd hn
    exact ⟨a, xs, n, v, rfl, dp_int hy, c.lst hs, hv, q v G1 H1 (Step.refl t c) dv⟩
/-! tests -/
theorem rt_test {b : Bool} (h : Rv T te σ G (IsD K (.bool b))) : Rt T (tTest te) σ G b := fun H t c Q q => h H t c _ fun v G2 H2 s2 hv => ⟨b, dp_bl hv, q G2 H2 s2⟩
theorem rt_B {b : Bool} (h : Rv T te σ G (IsD K (.bool b))) : Rt T (tB te) σ G b := fun H t c Q q => h H t c _ fun v G2 H2 s2 hv => ⟨b, dp_bl hv, q G2 H2 s2⟩
theorem rt_and {a b : Bool} (h1 : Rt T tt σ G a) (h2 : a = true → Rt T tu σ G b) : Rt T (tAnd tt tu) σ G (a && b) := fun H t c Q q => h1 H t c _ fun G2 H2 s2 => by
  cases a with
  | true => exact iteT (((h2 rfl).mono s2.g) H2 s2.t s2.s Q fun G3 H3 s3 => q G3 H3 (s2.trans s3))
  | false => exact iteF (q G2 H2 s2)
theorem rt_or {a b : Bool} (h1 : Rt T tt σ G a) (h2 : a = false → Rt T tu σ G b) : Rt T (tOr tt tu) σ G (a || b) := fun H t c Q q => h1 H t c _ fun G2 H2 s2 => by
  cases a with
  | true => exact iteT (q G2 H2 s2)
  | false => exact iteF (((h2 rfl).mono s2.g) H2 s2.t s2.s Q fun G3 H3 s3 => q G3 H3 (s2.trans s3))
theorem rt_not {a : Bool} (h1 : Rt T tt σ G a) : Rt T (tNot tt) σ G (!a) := fun H t c Q q => h1 H t c _ fun G2 H2 s2 => q G2 H2 s2
theorem rv_and {a b : Bool} (h1 : Rv T ta σ G (IsD K (.bool a))) (h2 : a = true → Rv T tb σ G (IsD K (.bool b))) : Rv T (tAndV ta tb) σ G (IsD K (.bool (a && b))) := fun H t c Q q => h1 H t c _ fun v G2 H2 s2 hv => ⟨a, dp_bl hv, by
  cases a with
  | true => exact iteT (((h2 rfl).mono s2.g) H2 s2.t s2.s Q fun v G3 H3 s3 => q v G3 H3 (s2.trans s3))
  | false => exact iteF (q _ G2 H2 s2 (.bl _))⟩
theorem rv_or {a b : Bool} (h1 : Rv T ta σ G (IsD K (.bool a))) (h2 : a = false → Rv T tb σ G (IsD K (.bool b))) : Rv T (tOrV ta tb) σ G (IsD K (.bool (a || b))) := fun H t c Q q => h1 H t c _ fun v G2 H2 s2 hv => ⟨a, dp_bl hv, by
  cases a with
  | true => exact iteT (q _ G2 H2 s2 (.bl _))
  | false => exact iteF (((h2 rfl).mono s2.g) H2 s2.t s2.s Q fun v G3 H3 s3 => q v G3 H3 (s2.trans s3))⟩
theorem rv_not {a : Bool} (h1 : Rv T ta σ G (IsD K (.bool a))) : Rv T (tNotV ta) σ G (IsD K (.bool (!a))) := fun H t c Q q => h1 H t c _ fun v G2 H2 s2 hv => ⟨a, dp_bl hv, q _ G2 H2 s2 (.bl _)⟩
theorem rv_if [Mn R] {b : Bool} (h : Rt T tt σ G b) (h1 : b = true → Rv T ta σ G R) (h2 : b = false → Rv T tb σ G R) : Rv T (tIf tt ta tb) σ G R := fun H t c Q q => h H t c _ fun G2 H2 s2 => by
  cases b with
  | true => exact iteT (((h1 rfl).mono s2.g) H2 s2.t s2.s Q fun v G3 H3 s3 => q v G3 H3 (s2.trans s3))
  | false => exact iteF (((h2 rfl).mono s2.g) H2 s2.t s2.s Q fun v G3 H3 s3 => q v G3 H3 (s2.trans s3))
/-! argument lists, displays -/
theorem ra_nil : Ra T K tNil σ G [] := fun H t c Q q => q [] G H (Step.refl t c) .nil
theorem ra_cons (h : Rv T ta σ G (IsD K d)) (hr : Ra T K aa σ G ds) : Ra T K (tCons ta aa) σ G (d :: ds) := fun H t c Q q =>
  h H t c _ fun v G2 H2 s2 hv => (hr.mono s2.g) H2 s2.t s2.s _ fun vs G3 H3 s3 hvs => q (v :: vs) G3 H3 (s2.trans s3) (.cons (sdp s3.g hv) hvs)
theorem small_line {n : Nat} (h : n ≤ 100000) : n ≤ sizeLine := Nat.le_trans h (by decide)
theorem small_lt {n : Nat} (h : n < 100000) : n < sizeLine := Nat.lt_of_lt_of_le h (by decide)
theorem rv_tup (h : Ra T K aa σ G ds) (hl : ds.length ≤ 100000) : Rv T (tTup aa) σ G (IsD K (.tuple ds)) := fun H t c Q q =>
  h H t c _ fun vs G2 H2 s2 hv => ⟨small_line (by rw [dpAll_len hv]; exact hl), fun p hp =>
    have s3 : Step T G2 H2 (upd G2 p (.tup vs)) (upd H2 p (.tup vs)) := Step.new s2.t s2.s hp tup_tbl
    q _ _ _ (s2.trans s3) (.tup upd_same (sdpAll s3.g hv))⟩
theorem Rv.ld (h : Rv T te σ G (IsL K ds)) : Rv T te σ G (IsD K (.list ds)) := h.imp fun _ _ h => h.d
theorem Rv.vd {G0 : Hp} {c : Qk.Cv} (h : Rv T te σ G (IsVc K G0 c)) : Rv T te σ G (IsD K (dv c)) := h.imp fun _ _ h => h.d
theorem rv_lst (h : Ra T K aa σ G ds) (hl : ds.length ≤ 100000) : Rv T (tLst aa) σ G (IsL K ds) := fun H t c Q q =>
  h H t c _ fun vs G2 H2 s2 hv => ⟨small_line (by rw [dpAll_len hv]; exact hl), fun p hp =>
    have s3 : Step T G2 H2 (upd G2 p (.lst vs)) (upd H2 p (.lst vs)) := Step.new s2.t s2.s hp lst_tbl
    q _ _ _ (s2.trans s3) ⟨p, vs, rfl, upd_same, sdpAll s3.g hv⟩⟩
/-! ### promises over data -/
/-- what a def is to hand back from (G, H): a datum out of what is clean; all that stood stands -/
def Hands (T : List (Addr × Str)) (G H : Hp) (R : Rp) (Q : VK) : Prop := ∀ v G' H', Step T G H G' H' → R G' v → Q v H'
theorem Hands.of {G1 H1 : Hp} (k : Hands T G H R (Q := Q)) (s : Step T G H G1 H1) : Hands T G1 H1 R Q := fun v G' H' s2 r => k v G' H' (s.trans s2) r
def Sp1 (T : List (Addr × Str)) (K : PySem.W.Frag) {α : Type} (d1 : α → PyData) (pre : α → Prop) (out : α → Rp) : Sp := fun vs H Q _ => ∃ (G : Hp) (a : α), Cl G H ∧ Tabs T H ∧ DpAll K G vs [d1 a] ∧ pre a ∧ Hands T G H (out a) Q
def Sp2 (T : List (Addr × Str)) (K : PySem.W.Frag) {α β : Type} (d1 : α → PyData) (d2 : β → PyData) (pre : α → β → Prop) (out : α → β → Rp) : Sp := fun vs H Q _ => ∃ (G : Hp) (a : α) (b : β), Cl G H ∧ Tabs T H ∧ DpAll K G vs [d1 a, d2 b] ∧ pre a b ∧ Hands T G H (out a b) Q
def Sp3 (T : List (Addr × Str)) (K : PySem.W.Frag) {α β γ : Type} (d1 : α → PyData) (d2 : β → PyData) (d3 : γ → PyData) (pre : α → β → γ → Prop) (out : α → β → γ → Rp) : Sp := fun vs H Q _ => ∃ (G : Hp) (a : α) (b : β) (c : γ), Cl G H ∧ Tabs T H ∧ DpAll K G vs [d1 a, d2 b, d3 c] ∧ pre a b c ∧ Hands T G H (out a b c) Q
theorem rv_call1 {α : Type} {d1 : α → PyData} {pre : α → Prop} {out : α → Rp} {E : XK} {a : α} (h : Ra T K aa σ G [d1 a]) (hp : pre a) : Rv T (tCall (Sp1 T K d1 pre out) [] E aa) σ G (out a) := fun H t c Q q =>
  h H t c _ fun vs G2 H2 s2 hv => ⟨G2, a, s2.s, s2.t, by rw [List.append_nil]; exact hv, hp, fun v G3 H3 s3 hd => q v G3 H3 (s2.trans s3) hd⟩
theorem rv_call2 {α β : Type} {d1 : α → PyData} {d2 : β → PyData} {pre : α → β → Prop} {out : α → β → Rp} {E : XK} {a : α} {b : β} (h : Ra T K aa σ G [d1 a, d2 b]) (hp : pre a b) : Rv T (tCall (Sp2 T K d1 d2 pre out) [] E aa) σ G (out a b) := fun H t c Q q =>
  h H t c _ fun vs G2 H2 s2 hv => ⟨G2, a, b, s2.s, s2.t, by rw [List.append_nil]; exact hv, hp, fun v G3 H3 s3 hd => q v G3 H3 (s2.trans s3) hd⟩
theorem rv_call3 {α β γ : Type} {d1 : α → PyData} {d2 : β → PyData} {d3 : γ → PyData} {pre : α → β → γ → Prop} {out : α → β → γ → Rp} {E : XK} {a : α} {b : β} {c : γ} (h : Ra T K aa σ G [d1 a, d2 b, d3 c]) (hp : pre a b c) : Rv T (tCall (Sp3 T K d1 d2 d3 pre out) [] E aa) σ G (out a b c) := fun H t c0 Q q =>
  h H t c0 _ fun vs G2 H2 s2 hv => ⟨G2, a, b, c, s2.s, s2.t, by rw [List.append_nil]; exact hv, hp, fun v G3 H3 s3 hd => q v G3 H3 (s2.trans s3) hd⟩
/-- promises of curves -/
def SpV1 (T : List (Addr × Str)) (K : PySem.W.Frag) {α : Type} (d1 : α → PyData) (pre : α → Prop) (out : α → Qk.Cv) : Sp := fun vs H Q _ => ∃ (G : Hp) (a : α), Cl G H ∧ Tabs T H ∧ DpAll K G vs [d1 a] ∧ pre a ∧ Hands T G H (IsVc K G (out a)) Q
def SpV2 (T : List (Addr × Str)) (K : PySem.W.Frag) {α β : Type} (d1 : α → PyData) (d2 : β → PyData) (pre : α → β → Prop) (out : α → β → Qk.Cv) : Sp := fun vs H Q _ => ∃ (G : Hp) (a : α) (b : β), Cl G H ∧ Tabs T H ∧ DpAll K G vs [d1 a, d2 b] ∧ pre a b ∧ Hands T G H (IsVc K G (out a b)) Q
theorem same_none {p : Addr} (e : Same G G') (h : G' p = none) : G p = none := by
  cases q : G p with
  | none => rfl
  | some u =>
    rw [e p u q] at h
    cases h
theorem IsVc.back {G0 G1 : Hp} {c : Qk.Cv} (e : Same G0 G1) (h : IsVc K G1 c G v) : IsVc K G0 c G v := by
  obtain ⟨p, l, s, xs, h1, h2, h0, h3⟩ := h
  exact ⟨p, l, s, xs, h1, h2, same_none e h0, h3⟩
theorem rv_callV1 {α : Type} {d1 : α → PyData} {pre : α → Prop} {out : α → Qk.Cv} {E : XK} {a : α} (h : Ra T K aa σ G [d1 a]) (hp : pre a) : Rv T (tCall (SpV1 T K d1 pre out) [] E aa) σ G (IsVc K G (out a)) := fun H t c Q q =>
  h H t c _ fun vs G2 H2 s2 hv => ⟨G2, a, s2.s, s2.t, by rw [List.append_nil]; exact hv, hp, fun v G3 H3 s3 hd => q v G3 H3 (s2.trans s3) (hd.back s2.g)⟩
theorem rv_callV2 {α β : Type} {d1 : α → PyData} {d2 : β → PyData} {pre : α → β → Prop} {out : α → β → Qk.Cv} {E : XK} {a : α} {b : β} (h : Ra T K aa σ G [d1 a, d2 b]) (hp : pre a b) : Rv T (tCall (SpV2 T K d1 d2 pre out) [] E aa) σ G (IsVc K G (out a b)) := fun H t c Q q =>
  h H t c _ fun vs G2 H2 s2 hv => ⟨G2, a, b, s2.s, s2.t, by rw [List.append_nil]; exact hv, hp, fun v G3 H3 s3 hd => q v G3 H3 (s2.trans s3) (hd.back s2.g)⟩
/-- a built-in's call -/
theorem rv_cb {r : List V → Hp → VK → Prop} (h : Ra T K aa σ G ds) (hr : ∀ G1 H1 vs, Tabs T H1 → Cl G1 H1 → DpAll K G1 vs ds → ∀ Q : VK, (∀ v G2 H2, Step T G1 H1 G2 H2 → R G2 v → Q v H2) → r vs H1 Q) : Rv T (tCB r aa) σ G R := fun H t c Q q =>
  h H t c _ fun vs G2 H2 s2 hv => hr G2 H2 vs s2.t s2.s hv Q fun v G3 H3 s3 hd => q v G3 H3 (s2.trans s3) hd
/-! ### statements -/
variable {D : Ends} {t1 t2 tz : TS}
theorem s_ret (h : Rv T te σ G R) (ht : Tabs T H) (c : Cl G H) (k : Hands T G H R D.rt) : tRet te D σ H := h H ht c _ k
theorem s_set (h : Rv T te σ G R) (ht : Tabs T H) (c : Cl G H) (k : ∀ v G' H', Step T G H G' H' → R G' v → D.nx (σ.set i (some v)) H') : tAsg te (gName i) D σ H := h H ht c _ k
theorem q_set (h : Rv T te σ G R) (ht : Tabs T H) (c : Cl G H) (k : ∀ v G' H', Step T G H G' H' → R G' v → tz D (σ.set i (some v)) H') : tSeq (tAsg te (gName i)) tz D σ H := h H ht c _ k
theorem s_if {b : Bool} (h : Rt T tt σ G b) (ht : Tabs T H) (c : Cl G H) (h1 : b = true → ∀ G' H', Step T G H G' H' → t1 D σ H') (h2 : b = false → ∀ G' H', Step T G H G' H' → t2 D σ H') : tIfS tt t1 t2 D σ H := h H ht c _ fun G' H' s => by
  cases b with
  | true => exact iteT (h1 rfl G' H' s)
  | false => exact iteF (h2 rfl G' H' s)
theorem q_if {b : Bool} (h : Rt T tt σ G b) (ht : Tabs T H) (c : Cl G H) (h1 : b = true → ∀ G' H', Step T G H G' H' → t1 { D with nx := tz D } σ H') (h2 : b = false → ∀ G' H', Step T G H G' H' → t2 { D with nx := tz D } σ H') : tSeq (tIfS tt t1 t2) tz D σ H := s_if (D := { D with nx := tz D }) h ht c h1 h2
/-- a, b = a pair -/
theorem s_pair {d1 d2 : PyData} (h : Rv T te σ G (IsD K (.tuple [d1, d2]))) (ht : Tabs T H) (c : Cl G H) (k : ∀ y z G' H', Step T G H G' H' → Dp K G' y d1 → Dp K G' z d2 → D.nx ((σ.set i (some y)).set j (some z)) H') : tAsg te (gTup K 2 (gCons (gName i) (gCons (gName j) gNil))) D σ H :=
  h H ht c _ fun v G' H' s hv => by
    obtain ⟨a, xs, rfl, hs, hd⟩ := dp_tup hv
    cases hd with
    | cons h1 t1 =>
      cases t1 with
      | cons h2 t2 =>
        cases t2
        exact ⟨a, _, rfl, s.s.tup hs, rfl, _, _, rfl, _, _, rfl, rfl, k _ _ G' H' s h1 h2⟩
theorem q_pair {d1 d2 : PyData} (h : Rv T te σ G (IsD K (.tuple [d1, d2]))) (ht : Tabs T H) (c : Cl G H) (k : ∀ y z G' H', Step T G H G' H' → Dp K G' y d1 → Dp K G' z d2 → tz D ((σ.set i (some y)).set j (some z)) H') : tSeq (tAsg te (gTup K 2 (gCons (gName i) (gCons (gName j) gNil)))) tz D σ H :=
  s_pair (D := { D with nx := tz D }) h ht c k
/-- a, b, c = e, [], constant -/
theorem q_par3L {l : Nat} [Mn R] (h : Rv T te σ G R) (ht : Tabs T H) (c : Cl G H) (k : ∀ v o G' H', Step T G H G' H' → Nw H o → G' o = none → H' o = some (.lst []) → R G' v → tz D (((σ.set i (some v)).set j (some (.ref o))).set l (some x)) H') :
    tSeq (tPar3 i j l (tCons te (tCons (tLst tNil) (tCons (tC x) tNil)))) tz D σ H :=
  h H ht c _ fun v G' H' s hv => ⟨Nat.zero_le _, fun o no => ⟨_, _, _, rfl, k v o G' _ (s.trans (Step.newH s.t s.s no)) (s.nw (Nw.of no)) (clean_none s.s no) upd_same hv⟩⟩
/-- a, b, c by their data -/
theorem q_par3 {l : Nat} {d1 d2 d3 : PyData} (h : Ra T K aa σ G [d1, d2, d3]) (ht : Tabs T H) (c : Cl G H) (k : ∀ u v w G' H', Step T G H G' H' → Dp K G' u d1 → Dp K G' v d2 → Dp K G' w d3 → tz D (((σ.set i (some u)).set j (some v)).set l (some w)) H') : tSeq (tPar3 i j l aa) tz D σ H :=
  h H ht c _ fun vs G' H' s hv => by
    cases hv with
    | cons h1 t1 =>
      cases t1 with
      | cons h2 t2 =>
        cases t2 with
        | cons h3 t3 =>
          cases t3
          exact ⟨_, _, _, rfl, k _ _ _ G' H' s h1 h2 h3⟩
theorem q_par {d1 d2 : PyData} (h : Ra T K aa σ G [d1, d2]) (ht : Tabs T H) (c : Cl G H) (k : ∀ u v G' H', Step T G H G' H' → Dp K G' u d1 → Dp K G' v d2 → tz D ((σ.set i (some u)).set j (some v)) H') : tSeq (tPar i j aa) tz D σ H :=
  h H ht c _ fun vs G' H' s hv => by
    cases hv with
    | cons h1 t1 =>
      cases t1 with
      | cons h2 t2 =>
        cases t2
        exact ⟨_, _, rfl, k _ _ G' H' s h1 h2⟩
/-- a, b = [], constant -/
theorem q_parL (ht : Tabs T H) (c : Cl G H) (k : ∀ o H', Step T G H G H' → Nw H o → G o = none → H' o = some (.lst []) → tz D ((σ.set i (some (.ref o))).set j (some x)) H') : tSeq (tPar i j (tCons (tLst tNil) (tCons (tC x) tNil))) tz D σ H :=
  ⟨Nat.zero_le _, fun o no => ⟨_, _, rfl, k o _ (Step.newH ht c no) (Nw.of no) (clean_none c no) upd_same⟩⟩
/-- a = [] -/
theorem q_setL (ht : Tabs T H) (c : Cl G H) (k : ∀ o H', Step T G H G H' → Nw H o → G o = none → H' o = some (.lst []) → tz D (σ.set i (some (.ref o))) H') : tSeq (tAsg (tLst tNil) (gName i)) tz D σ H :=
  ⟨Nat.zero_le _, fun o no => k o _ (Step.newH ht c no) (Nw.of no) (clean_none c no) upd_same⟩
/-- arguments told -/
theorem dp1 {d : PyData} {vs : List V} (h : DpAll K H vs [d]) : ∃ x, vs = [x] ∧ Dp K H x d := by
  cases h with
  | cons h t => cases t; exact ⟨_, rfl, h⟩
theorem dp2 {d e : PyData} {vs : List V} (h : DpAll K H vs [d, e]) : ∃ x y, vs = [x, y] ∧ Dp K H x d ∧ Dp K H y e := by
  cases h with
  | cons h t => obtain ⟨y, rfl, hy⟩ := dp1 t; exact ⟨_, _, rfl, h, hy⟩
theorem dp3 {d e f : PyData} {vs : List V} (h : DpAll K H vs [d, e, f]) : ∃ x y z, vs = [x, y, z] ∧ Dp K H x d ∧ Dp K H y e ∧ Dp K H z f := by
  cases h with
  | cons h t => obtain ⟨y, z, rfl, hy, hz⟩ := dp2 t; exact ⟨_, _, _, rfl, h, hy, hz⟩
theorem sp1_len {α : Type} {d1 : α → PyData} {pre : α → Prop} {out : α → Rp} {vs : List V} {Q : VK} {E : XK} (h : Sp1 T K d1 pre out vs H Q E) : vs.length = 1 := by
  obtain ⟨G, a, _, _, h, _⟩ := h
  exact dpAll_len h
theorem spv1_len {α : Type} {d1 : α → PyData} {pre : α → Prop} {out : α → Qk.Cv} {vs : List V} {Q : VK} {E : XK} (h : SpV1 T K d1 pre out vs H Q E) : vs.length = 1 := by
  obtain ⟨G, a, _, _, h, _⟩ := h
  exact dpAll_len h
theorem spv2_len {α β : Type} {d1 : α → PyData} {d2 : β → PyData} {pre : α → β → Prop} {out : α → β → Qk.Cv} {vs : List V} {Q : VK} {E : XK} (h : SpV2 T K d1 d2 pre out vs H Q E) : vs.length = 2 := by
  obtain ⟨G, a, b, _, _, h, _⟩ := h
  exact dpAll_len h
theorem sp2_len {α β : Type} {d1 : α → PyData} {d2 : β → PyData} {pre : α → β → Prop} {out : α → β → Rp} {vs : List V} {Q : VK} {E : XK} (h : Sp2 T K d1 d2 pre out vs H Q E) : vs.length = 2 := by
  obtain ⟨G, a, b, _, _, h, _⟩ := h
  exact dpAll_len h
theorem sp3_len {α β γ : Type} {d1 : α → PyData} {d2 : β → PyData} {d3 : γ → PyData} {pre : α → β → γ → Prop} {out : α → β → γ → Rp} {vs : List V} {Q : VK} {E : XK} (h : Sp3 T K d1 d2 d3 pre out vs H Q E) : vs.length = 3 := by
  obtain ⟨G, a, b, c, _, _, h, _⟩ := h
  exact dpAll_len h
end
end Qw
namespace Qw
open PySem PySem.Spec PyProof.Rows L2 LamX
/-! ### walks -/
/-- the iterator yields these data, wherever the clean part G0 stands -/
structure Yl (T : List (Addr × Str)) (K : PySem.W.Frag) (J : It) (G0 : Hp) (ds : List PyData) : Prop where
  go : ∀ i G' H', Same G0 G' → Cl G' H' → i < ds.length → J.go i H'
  stop : ∀ i G' H', Same G0 G' → Cl G' H' → ds.length ≤ i → J.stop i H'
  yld : ∀ i G' H' x H'' d, Same G0 G' → Cl G' H' → Tabs T H' → ds[i]? = some d → J.yld i H' x H'' → ∃ G'', Step T G' H' G'' H'' ∧ Dp K G'' x d
def Ri (T : List (Addr × Str)) (K : PySem.W.Frag) (wi : TI) (σ : L2.St) (G : Hp) (ds : List PyData) : Prop := ∀ H, Tabs T H → Cl G H → ∀ R : It → Hp → Prop, (∀ J G2 H2, Step T G H G2 H2 → Yl T K J G2 ds → R J H2) → wi σ H R
section
variable {T : List (Addr × Str)} {K : PySem.W.Frag} {σ : L2.St} {G G' H H' : Hp} {ta tb tc te tl tx : TE} {tt tu : TT} {v x : V} {r : R2} {R Ra' Rb : Rp} {i j : Nat} {d e : PyData} {ds es : List PyData} {aa : TA} {wi : TI} {g : TG}
theorem ri_list (h : Rv T tl σ G (IsD K (.list ds))) : Ri T K (iList K tl) σ G ds := fun H t c R q =>
  h H t c _ fun v G2 H2 s2 hv => by
    obtain ⟨a, xs, rfl, hs, hd⟩ := dp_lst hv
    have at_ : ∀ G' H', Same G2 G' → Cl G' H' → SqL K H' a xs := fun G' H' e c' => c'.lst (e _ _ hs)
    refine ⟨a, rfl, ⟨xs, s2.s.lst hs⟩, q _ G2 H2 s2 ⟨fun i G' H' e c' hi => ?_, fun i G' H' e c' hi => ⟨xs, at_ G' H' e c', by rw [dpAll_len hd]; exact hi⟩, fun i G' H' x H'' d e c' t' hd' hy => ?_⟩⟩
    · obtain ⟨v, hv, _⟩ := dpAll_get hd (List.getElem?_eq_getElem hi)
      exact ⟨xs, v, at_ G' H' e c', hv⟩
    · obtain ⟨hH, hx⟩ := hy
      rw [hH]
      obtain ⟨v, hv, dv⟩ := dpAll_get hd hd'
      have := hx xs (at_ G' H' e c')
      rw [hv] at this
      cases this
      exact ⟨G', Step.refl t' c', sdp e dv⟩
theorem ri_tup (h : Rv T tl σ G (IsD K (.tuple ds))) : Ri T K (iTup K tl) σ G ds := fun H t c R q =>
  h H t c _ fun v G2 H2 s2 hv => by
    obtain ⟨a, xs, rfl, hs, hd⟩ := dp_tup hv
    have at_ : ∀ G' H', Same G2 G' → Cl G' H' → SqT K H' a xs := fun G' H' e c' => c'.tup (e _ _ hs)
    refine ⟨a, rfl, ⟨xs, s2.s.tup hs⟩, q _ G2 H2 s2 ⟨fun i G' H' e c' hi => ?_, fun i G' H' e c' hi => ⟨xs, at_ G' H' e c', by rw [dpAll_len hd]; exact hi⟩, fun i G' H' x H'' d e c' t' hd' hy => ?_⟩⟩
    · obtain ⟨v, hv, _⟩ := dpAll_get hd (List.getElem?_eq_getElem hi)
      exact ⟨xs, v, at_ G' H' e c', hv⟩
    · obtain ⟨hH, hx⟩ := hy
      rw [hH]
      obtain ⟨v, hv, dv⟩ := dpAll_get hd hd'
      have := hx xs (at_ G' H' e c')
      rw [hv] at this
      cases this
      exact ⟨G', Step.refl t' c', sdp e dv⟩
theorem ri_zip (h : Ra T K aa σ G [.list ds, .list es]) : Ri T K (iZip K aa) σ G (List.zipWith (fun d e => .tuple [d, e]) ds es) := fun H t c R q =>
  h H t c _ fun vs G2 H2 s2 hv => by
    obtain ⟨x, y, rfl, hx, hy⟩ := dp2 hv
    obtain ⟨a, xs, rfl, hs, hd⟩ := dp_lst hx
    obtain ⟨b, ys, rfl, hs', hd'⟩ := dp_lst hy
    have at1 : ∀ G' H', Same G2 G' → Cl G' H' → SqL K H' a xs := fun G' H' e c' => c'.lst (e _ _ hs)
    have at2 : ∀ G' H', Same G2 G' → Cl G' H' → SqL K H' b ys := fun G' H' e c' => c'.lst (e _ _ hs')
    have hl1 := dpAll_len hd
    have hl2 := dpAll_len hd'
    refine ⟨a, b, xs, ys, rfl, s2.s.lst hs, s2.s.lst hs', q _ G2 H2 s2 ⟨fun i G' H' e c' hi => ?_, fun i G' H' e c' hi => ⟨xs, ys, at1 G' H' e c', at2 G' H' e c', ?_⟩, fun i G' H' x H'' d e c' t' hdd hyy => ?_⟩⟩
    · rw [List.length_zipWith] at hi
      have i1 : i < ds.length := by omega
      have i2 : i < es.length := by omega
      obtain ⟨v, hv, _⟩ := dpAll_get hd (List.getElem?_eq_getElem i1)
      obtain ⟨w', hw, _⟩ := dpAll_get hd' (List.getElem?_eq_getElem i2)
      exact ⟨xs, ys, v, w', at1 G' H' e c', at2 G' H' e c', hv, hw⟩
    · rw [List.length_zipWith] at hi
      omega
    · obtain ⟨T', x1, x2, rfl, nT, rfl, f1, f2⟩ := hyy
      rw [List.getElem?_zipWith] at hdd
      have g1 := f1 _ (at1 G' H' e c')
      have g2 := f2 _ (at2 G' H' e c')
      obtain ⟨d1, e1, dd1⟩ := dpAll_get' hd g1
      obtain ⟨d2, e2, dd2⟩ := dpAll_get' hd' g2
      rw [e1, e2] at hdd
      have hdd := Option.some.inj hdd
      subst hdd
      have st : Step T G' H' (upd G' T' (.tup [x1, x2])) (upd H' T' (.tup [x1, x2])) := Step.new t' c' nT tup_tbl
      exact ⟨_, st, .tup upd_same (.cons (sdp st.g (sdp e dd1)) (.cons (sdp st.g (sdp e dd2)) .nil))⟩
def enumD (ds : List PyData) : List PyData := ds.mapIdx fun i d => .tuple [.int (i : Nat), d]
theorem enumD_get {d : PyData} (h : ds[i]? = some d) : (enumD ds)[i]? = some (.tuple [.int (i : Nat), d]) := by
  unfold enumD
  rw [List.getElem?_mapIdx, h]
  rfl
theorem ri_enum (h : Rv T tl σ G (IsD K (.list ds))) : Ri T K (iEnum K (tCons tl tNil)) σ G (enumD ds) := fun H t c R q =>
  h H t c _ fun v G2 H2 s2 hv => by
    obtain ⟨a, xs, rfl, hs, hd⟩ := dp_lst hv
    have at_ : ∀ G' H', Same G2 G' → Cl G' H' → SqL K H' a xs := fun G' H' e c' => c'.lst (e _ _ hs)
    have hl := dpAll_len hd
    have hln : (enumD ds).length = ds.length := by
      unfold enumD
      rw [List.length_mapIdx]
    refine ⟨a, xs, rfl, s2.s.lst hs, q _ G2 H2 s2 ⟨fun i G' H' e c' hi => ?_, fun i G' H' e c' hi => ⟨xs, at_ G' H' e c', by omega⟩, fun i G' H' x H'' d e c' t' hd' hy => ?_⟩⟩
    · rw [hln] at hi
      obtain ⟨v, hv, _⟩ := dpAll_get hd (List.getElem?_eq_getElem hi)
      exact ⟨xs, v, at_ G' H' e c', hv⟩
    · obtain ⟨T', x1, rfl, nT, rfl, f1⟩ := hy
      have g1 := f1 _ (at_ G' H' e c')
      obtain ⟨d1, e1, dd1⟩ := dpAll_get' hd g1
      rw [enumD_get e1] at hd'
      have hd' := Option.some.inj hd'
      subst hd'
      have st : Step T G' H' (upd G' T' (.tup [.int (i : Nat), x1])) (upd H' T' (.tup [.int (i : Nat), x1])) := Step.new t' c' nT tup_tbl
      exact ⟨_, st, .tup upd_same (.cons (.int _) (.cons (sdp st.g (sdp e dd1)) .nil))⟩
theorem yl_range {lo : Int} {n : Nat} : Yl T K (Itr lo n) G ((List.range n).map fun i => .int (lo + (i : Nat))) :=
  ⟨fun i G' H' _ _ hi => (show i < n by simpa using hi), fun i G' H' _ _ hi => (show n ≤ i by simpa using hi), fun i G' H' x H'' d e c t' hd hy => by
    obtain ⟨rfl, rfl⟩ := hy
    rw [List.getElem?_map] at hd
    cases q : (List.range n)[i]? with
    | none =>
      rw [q] at hd
      cases hd
    | some k =>
      rw [q] at hd
      have hd := Option.some.inj hd
      obtain ⟨h1, h2⟩ := List.getElem?_eq_some_iff.mp q
      rw [List.getElem_range] at h2
      subst h2
      subst hd
      exact ⟨G', Step.refl t' c, .int _⟩⟩
theorem ri_range1 {n : Nat} (h : Ra T K aa σ G [.int (n : Int)]) (hn : n < 4611686018427387904) : Ri T K (iRng1 aa) σ G ((List.range n).map fun i => .int (0 + (i : Nat))) := fun H t c R q =>
  h H t c _ fun vs G2 H2 s2 hv => by
    obtain ⟨x, rfl, hx⟩ := dp1 hv
    rw [dp_int hx]
    exact ⟨(n : Int), rfl, by omega, by omega, q _ G2 H2 s2 yl_range⟩
/-! ### targets -/
theorem g_tup {n : Nat} {t : TGs} {Q : L2.St → Hp → Prop} (c : Cl G H) (hx : Dp K G x (.tuple ds)) (hn : ds.length = n) (k : ∀ xs, DpAll K G xs ds → t xs σ H Q) : gTup K n t x σ H Q := by
  obtain ⟨a, xs, rfl, hs, hd⟩ := dp_tup hx
  exact ⟨a, xs, rfl, c.tup hs, (dpAll_len hd).trans hn, k xs hd⟩
/-- a, b -/
theorem g_pair {i j : Nat} {d1 d2 : PyData} {Q : L2.St → Hp → Prop} (c : Cl G H) (hx : Dp K G x (.tuple [d1, d2])) (k : ∀ y z, Dp K G y d1 → Dp K G z d2 → Q ((σ.set i (some y)).set j (some z)) H) : gTup K 2 (gCons (gName i) (gCons (gName j) gNil)) x σ H Q :=
  g_tup c hx rfl fun xs h => by
    obtain ⟨y, z, rfl, hy, hz⟩ := dp2 h
    exact ⟨y, [z], rfl, z, [], rfl, rfl, k y z hy hz⟩
/-- a, (b, c) -/
theorem g_pair2 {i j l : Nat} {d1 d2 d3 : PyData} {Q : L2.St → Hp → Prop} (c : Cl G H) (hx : Dp K G x (.tuple [d1, .tuple [d2, d3]])) (k : ∀ y z u, Dp K G y d1 → Dp K G z d2 → Dp K G u d3 → Q (((σ.set i (some y)).set j (some z)).set l (some u)) H) :
    gTup K 2 (gCons (gName i) (gCons (gTup K 2 (gCons (gName j) (gCons (gName l) gNil))) gNil)) x σ H Q :=
  g_tup c hx rfl fun xs h => by
    obtain ⟨y, z, rfl, hy, hz⟩ := dp2 h
    exact ⟨y, [z], rfl, z, [], rfl, g_pair c hz fun u v hu hv => ⟨rfl, k y u v hy hu hv⟩⟩
/-- a, b, c -/
theorem g_three {i j l : Nat} {d1 d2 d3 : PyData} {Q : L2.St → Hp → Prop} (c : Cl G H) (hx : Dp K G x (.tuple [d1, d2, d3])) (k : ∀ y z u, Dp K G y d1 → Dp K G z d2 → Dp K G u d3 → Q (((σ.set i (some y)).set j (some z)).set l (some u)) H) :
    gTup K 3 (gCons (gName i) (gCons (gName j) (gCons (gName l) gNil))) x σ H Q :=
  g_tup c hx rfl fun xs h => by
    obtain ⟨y, z, u, rfl, hy, hz, hu⟩ := dp3 h
    exact ⟨y, [z, u], rfl, z, [u], rfl, u, [], rfl, rfl, k y z u hy hz hu⟩
/-! ### comprehensions -/
/-- [e for target in walked if p] -/
theorem rv_lcF {α : Type} {A B : α → PyData} {p : α → Bool} {xs : List α} {vs : List Nat} (hi : Ri T K wi σ G (xs.map A)) (hz : xs.length ≤ 100000)
    (hg : ∀ a ∈ xs, ∀ x G1 H1, Same G G1 → Cl G1 H1 → Tabs T H1 → Dp K G1 x (A a) → ∀ Q : L2.St → Hp → Prop, (∀ σ2, wipe σ2 vs = wipe σ vs → Rt T tt σ2 G1 (p a) → (p a = true → Rv T te σ2 G1 (IsD K (B a))) → Q σ2 H1) → g x (wipe σ vs) H1 Q) :
    Rv T (tLc wi g tt te vs) σ G (IsL K ((xs.filter p).map B)) := fun H t c Q q =>
  hi H t c _ fun J G2 H2 s2 yl => fun Dl hD => by
    have c0 : G2 Dl = none := clean_none s2.s hD
    refine ⟨fun i m H' => m = xs.length - i ∧ i ≤ xs.length ∧ ∃ Gi acc, Step T G2 H2 Gi H' ∧ Gi Dl = none ∧ H' Dl = some (.lst acc) ∧ DpAll K Gi acc (((xs.take i).filter p).map B),
      ⟨xs.length, by simp, Nat.zero_le _, G2, [], Step.newH s2.t s2.s hD, c0, upd_same, .nil⟩, fun i m H' hW => ?_⟩
    obtain ⟨rfl, hle, Gi, acc, st, gD, hDl, hacc⟩ := hW
    by_cases hlt : i < xs.length
    · refine .inr ⟨yl.go i Gi H' st.g st.s (by simpa using hlt), fun H'' => i + 1 ≤ xs.length ∧ ∃ Gi acc, Step T G2 H2 Gi H'' ∧ Gi Dl = none ∧ H'' Dl = some (.lst acc) ∧ DpAll K Gi acc (((xs.take (i + 1)).filter p).map B), fun H'' hN => ⟨xs.length - (i + 1), by omega, rfl, hN.1, hN.2⟩, fun x H'' hy => ?_⟩
      have ha : (xs.map A)[i]? = some (A xs[i]) := by
        rw [List.getElem?_map, List.getElem?_eq_getElem hlt]
        rfl
      obtain ⟨G3, s3, dx⟩ := yl.yld i Gi H' x H'' _ st.g st.s st.t ha hy
      have et : xs.take (i + 1) = xs.take i ++ [xs[i]] := by
        rw [List.take_add_one, List.getElem?_eq_getElem hlt]
        rfl
      have st3 := st.trans s3
      refine hg xs[i] (List.getElem_mem hlt) x G3 H'' (s2.g.trans st3.g) s3.s s3.t dx _ fun σ2 hw ht he => ⟨hw, ht H'' s3.t s3.s _ fun G4 H4 s4 => ?_⟩
      have gD3 : G3 Dl = none := (s3.f Dl _ hDl).trans gD
      have hD3 : H'' Dl = some (.lst acc) := s3.x Dl _ hDl lst_tbl
      have gD4 : G4 Dl = none := (s4.f Dl _ hD3).trans gD3
      have hD4 : H4 Dl = some (.lst acc) := s4.x Dl _ hD3 lst_tbl
      have st4 := st3.trans s4
      cases hp : p xs[i] with
      | true =>
        refine iteT (((he hp).mono s4.g) H4 s4.t s4.s _ fun v G5 H5 s5 hv => ?_)
        have gD5 : G5 Dl = none := (s5.f Dl _ hD4).trans gD4
        have hD5 : H5 Dl = some (.lst acc) := s5.x Dl _ hD4 lst_tbl
        have st5 := st4.trans s5
        have hal := dpAll_len hacc
        have hfl := List.length_filter_le p (xs.take i)
        rw [List.length_take] at hfl
        rw [List.length_map] at hal
        refine ⟨acc, hD5, small_lt (by omega), hlt, G5, acc ++ [v], st5.mut (Nw.of hD) gD5 hD5, gD5, upd_same, ?_⟩
        rw [et, List.filter_append, List.map_append, show [xs[i]].filter p = [xs[i]] by simp [hp]]
        exact dpAll_app (sdpAll ((s3.g.trans s4.g).trans s5.g) hacc) (.cons hv .nil)
      | false =>
        refine iteF ⟨hlt, G4, acc, st4, gD4, hD4, ?_⟩
        rw [et, List.filter_append, List.map_append, show [xs[i]].filter p = [] by simp [hp], List.map_nil, List.append_nil]
        exact sdpAll (s3.g.trans s4.g) hacc
    · have ei : xs.take i = xs := List.take_of_length_le (by omega)
      rw [ei] at hacc
      have st2 := st.take (Nw.of hD) gD hDl
      refine .inl ⟨yl.stop i Gi H' st.g st.s (by simpa using Nat.le_of_not_lt hlt), q _ _ H' (s2.trans st2) ⟨Dl, acc, rfl, upd_same, ?_⟩⟩
      refine sdpAll (fun b o z => ?_) hacc
      rw [upd_ne (ne_of_none z gD)]
      exact z
theorem rt_yes : Rt T tYes σ G true := fun H t c Q q => q G H (Step.refl t c)
/-- [e for target in walked] -/
theorem rv_lc {α : Type} {A B : α → PyData} {xs : List α} {vs : List Nat} (hi : Ri T K wi σ G (xs.map A)) (hz : xs.length ≤ 100000)
    (hg : ∀ a ∈ xs, ∀ x G1 H1, Same G G1 → Cl G1 H1 → Tabs T H1 → Dp K G1 x (A a) → ∀ Q : L2.St → Hp → Prop, (∀ σ2, wipe σ2 vs = wipe σ vs → Rv T te σ2 G1 (IsD K (B a)) → Q σ2 H1) → g x (wipe σ vs) H1 Q) :
    Rv T (tLc wi g tYes te vs) σ G (IsL K (xs.map B)) := by
  have h := rv_lcF (T := T) (K := K) (σ := σ) (G := G) (wi := wi) (g := g) (tt := tYes) (te := te) (A := A) (B := B) (p := fun _ => true) (xs := xs) (vs := vs) hi hz fun a ha x G1 H1 e c t hx Q k => hg a ha x G1 H1 e c t hx Q fun σ2 hw he => k σ2 hw rt_yes fun _ => he
  rw [List.filter_eq_self.mpr (fun _ _ => rfl)] at h
  exact h
/-- the target a name -/
theorem rv_lcN {α : Type} {A B : α → PyData} {xs : List α} {vs : List Nat} {j : Nat} (hi : Ri T K wi σ G (xs.map A)) (hz : xs.length ≤ 100000) (hw : ∀ x, wipe ((wipe σ vs).set j (some x)) vs = wipe σ vs)
    (he : ∀ a ∈ xs, ∀ x G1, Same G G1 → Dp K G1 x (A a) → Rv T te ((wipe σ vs).set j (some x)) G1 (IsD K (B a))) : Rv T (tLc wi (gName j) tYes te vs) σ G (IsL K (xs.map B)) :=
  rv_lc hi hz fun a ha x G1 H1 e c t hx Q k => k _ (hw x) (he a ha x G1 e hx)
/-- the target a pair -/
theorem rv_lcP {α : Type} {A1 A2 B : α → PyData} {xs : List α} {vs : List Nat} {i j : Nat} (hi : Ri T K wi σ G (xs.map fun a => .tuple [A1 a, A2 a])) (hz : xs.length ≤ 100000) (hw : ∀ x y, wipe (((wipe σ vs).set i (some x)).set j (some y)) vs = wipe σ vs)
    (he : ∀ a ∈ xs, ∀ x y G1, Same G G1 → Dp K G1 x (A1 a) → Dp K G1 y (A2 a) → Rv T te (((wipe σ vs).set i (some x)).set j (some y)) G1 (IsD K (B a))) : Rv T (tLc wi (gTup K 2 (gCons (gName i) (gCons (gName j) gNil))) tYes te vs) σ G (IsL K (xs.map B)) :=
  rv_lc hi hz fun a ha x G1 H1 e c t hx Q k => g_pair c hx fun y z hy hz => k _ (hw y z) (he a ha y z G1 e hy hz)
/-! ### lists -/
theorem rv_cat (ha : Rv T ta σ G (IsL K ds)) (hb : Rv T tb σ G (IsL K es)) (hl : ds.length + es.length ≤ 100000) : Rv T (tOp rCat ta tb) σ G (IsL K (ds ++ es)) :=
  rv_op ha hb fun G1 H1 x y t c hx hy Q q => by
    obtain ⟨a, xs, rfl, h1, d1⟩ := hx
    obtain ⟨b, ys, rfl, h2, d2⟩ := hy
    refine ⟨a, b, xs, ys, rfl, rfl, (c _ _ h1).1, (c _ _ h2).1, small_line (by rw [dpAll_len d1, dpAll_len d2]; exact hl), fun p hp => ?_⟩
    have st : Step T G1 H1 (upd G1 p (.lst (xs ++ ys))) (upd H1 p (.lst (xs ++ ys))) := Step.new t c hp lst_tbl
    exact q _ _ _ st ⟨p, _, rfl, upd_same, dpAll_app (sdpAll st.g d1) (sdpAll st.g d2)⟩
theorem dpAll_drop : ∀ {vs : List V} {ds : List PyData} (k : Nat), DpAll K G vs ds → DpAll K G (vs.drop k) (ds.drop k)
  | _, _, 0, h => h
  | _, _, k + 1, .nil => .nil
  | _, _, k + 1, .cons _ t => dpAll_drop k t
theorem dpAll_take : ∀ {vs : List V} {ds : List PyData} (k : Nat), DpAll K G vs ds → DpAll K G (vs.take k) (ds.take k)
  | _, _, 0, h => .nil
  | _, _, k + 1, .nil => .nil
  | _, _, k + 1, .cons h t => .cons h (dpAll_take k t)
theorem cutV_from (xs : List V) (k : Nat) : cutV xs (some (k : Int)) none = xs.drop k := by
  unfold cutV
  rw [HT.sIx_nat, HT.sIx_none]
  by_cases h : k ≤ xs.length
  · rw [Nat.min_eq_left h]
    exact List.take_of_length_le (by rw [List.length_drop]; omega)
  · rw [Nat.min_eq_right (by omega), List.drop_eq_nil_of_le (Nat.le_refl _), List.drop_eq_nil_of_le (by omega), List.take_nil]
theorem rv_from {k : Nat} (h : Rv T te σ G (IsD K (.list ds))) : Rv T (tSl (rSlL K) te (tPart (tC (.int (k : Int)))) tNoPart) σ G (IsL K (ds.drop k)) := fun H t c Q q =>
  h H t c _ fun v G2 H2 s2 hv => by
    obtain ⟨a, xs, rfl, hs, hd⟩ := dp_lst hv
    refine ⟨(k : Int), rfl, a, xs, rfl, s2.s.lst hs, fun p hp => ?_⟩
    rw [cutV_from]
    have st : Step T G2 H2 (upd G2 p (.lst (xs.drop k))) (upd H2 p (.lst (xs.drop k))) := Step.new s2.t s2.s hp lst_tbl
    exact q _ _ _ (s2.trans st) ⟨p, _, rfl, upd_same, dpAll_drop k (sdpAll st.g hd)⟩
theorem dpAll_rev : ∀ {vs : List V} {ds : List PyData}, DpAll K G vs ds → DpAll K G vs.reverse ds.reverse
  | _, _, .nil => .nil
  | _, _, .cons h t => by
    rw [List.reverse_cons, List.reverse_cons]
    exact dpAll_app (dpAll_rev t) (.cons h .nil)
theorem rv_rev (h : Rv T te σ G (IsD K (.list ds))) : Rv T (tRevL K te) σ G (IsL K ds.reverse) := fun H t c Q q =>
  h H t c _ fun v G2 H2 s2 hv => by
    obtain ⟨a, xs, rfl, hs, hd⟩ := dp_lst hv
    refine ⟨a, xs, rfl, s2.s.lst hs, fun p hp => ?_⟩
    have st : Step T G2 H2 (upd G2 p (.lst xs.reverse)) (upd H2 p (.lst xs.reverse)) := Step.new s2.t s2.s hp lst_tbl
    exact q _ _ _ (s2.trans st) ⟨p, _, rfl, upd_same, dpAll_rev (sdpAll st.g hd)⟩
/-- len, all, max -/
theorem rv_len (h : Rv T te σ G (IsD K (.list ds))) : Rv T (tCB (fun xs H Q => ∃ p ys, xs = [.ref p] ∧ (SqL K H p ys ∨ SqT K H p ys) ∧ Q (.int ys.length) H) (tCons te tNil)) σ G (IsD K (.int ds.length)) := fun H t c Q q =>
  h H t c _ fun v G2 H2 s2 hv => by
    obtain ⟨a, xs, rfl, hs, hd⟩ := dp_lst hv
    refine ⟨a, xs, rfl, .inl (s2.s.lst hs), ?_⟩
    rw [dpAll_len hd]
    exact q _ G2 H2 s2 (.int _)
theorem rv_lenT (h : Rv T te σ G (IsD K (.tuple ds))) : Rv T (tCB (fun xs H Q => ∃ p ys, xs = [.ref p] ∧ (SqL K H p ys ∨ SqT K H p ys) ∧ Q (.int ys.length) H) (tCons te tNil)) σ G (IsD K (.int ds.length)) := fun H t c Q q =>
  h H t c _ fun v G2 H2 s2 hv => by
    obtain ⟨a, xs, rfl, hs, hd⟩ := dp_tup hv
    refine ⟨a, xs, rfl, .inr (s2.s.tup hs), ?_⟩
    rw [dpAll_len hd]
    exact q _ G2 H2 s2 (.int _)
theorem dp_bools : ∀ {bs : List Bool} {vs : List V}, DpAll K G vs (bs.map .bool) → vs = bs.map V.bl
  | [], _, h => by cases h; rfl
  | b :: bs, _, h => by
    cases h with
    | cons h t =>
      rw [dp_bl h, dp_bools t]
      rfl
theorem dp_ints : ∀ {ns : List Int} {vs : List V}, DpAll K G vs (ns.map .int) → vs = ns.map V.int
  | [], _, h => by cases h; rfl
  | b :: bs, _, h => by
    cases h with
    | cons h t =>
      rw [dp_int h, dp_ints t]
      rfl
theorem rv_all {bs : List Bool} (h : Rv T te σ G (IsD K (.list (bs.map .bool)))) : Rv T (tCB (rAll K) (tCons te tNil)) σ G (IsD K (.bool (bs.all id))) := fun H t c Q q =>
  h H t c _ fun v G2 H2 s2 hv => by
    obtain ⟨a, xs, rfl, hs, hd⟩ := dp_lst hv
    refine ⟨a, bs, rfl, ?_, q _ G2 H2 s2 (.bl _)⟩
    rw [← dp_bools hd]
    exact s2.s.lst hs
/-! ### for -/
theorem s_for {D : Ends} {tbd : TS} (hi : Ri T K wi σ G ds) (ht : Tabs T H) (c : Cl G H)
    (k : ∀ G1 H1, Step T G H G1 H1 → ∃ P : Nat → L2.St → Hp → Hp → Prop, P 0 σ G1 H1 ∧ (∀ i σ' G' H', P i σ' G' H' → Same G1 G' ∧ Cl G' H' ∧ Tabs T H') ∧
      (∀ i d x σ' G' H' G'' H'', ds[i]? = some d → P i σ' G' H' → Step T G' H' G'' H'' → Dp K G'' x d →
        g x σ' H'' fun σ2 H2 => tbd { D with nx := fun σ H => ∃ G, P (i + 1) σ G H, ct := fun σ H => ∃ G, P (i + 1) σ G H, bk := D.nx } σ2 H2) ∧
      ∀ σ' G' H', P ds.length σ' G' H' → D.nx σ' H') : tFor wi g tbd D σ H :=
  hi H ht c _ fun J G1 H1 s1 yl => by
    obtain ⟨P, h0, hP, hs, hd⟩ := k G1 H1 s1
    refine ⟨fun i m σ' H' => m = ds.length - i ∧ i ≤ ds.length ∧ ∃ G', P i σ' G' H', ⟨ds.length, by simp, Nat.zero_le _, G1, h0⟩, fun i m σ' H' hW => ?_⟩
    obtain ⟨rfl, hle, G', p⟩ := hW
    obtain ⟨e, c', t'⟩ := hP _ _ _ _ p
    by_cases hlt : i < ds.length
    · refine .inr ⟨yl.go i G' H' e c' hlt, fun σ H => ∃ G, P (i + 1) σ G H, fun σ2 H2 hN => ⟨ds.length - (i + 1), by omega, rfl, hlt, hN⟩, fun x H'' hy => ?_⟩
      obtain ⟨G'', s2, dx⟩ := yl.yld i G' H' x H'' _ e c' t' (List.getElem?_eq_getElem hlt) hy
      exact hs i _ x σ' G' H' G'' H'' (List.getElem?_eq_getElem hlt) p s2 dx
    · have ei : i = ds.length := by omega
      subst ei
      exact .inl ⟨yl.stop _ G' H' e c' (Nat.le_refl _), hd σ' G' H' p⟩
theorem q_for {D : Ends} {tbd tz : TS} (hi : Ri T K wi σ G ds) (ht : Tabs T H) (c : Cl G H)
    (k : ∀ G1 H1, Step T G H G1 H1 → ∃ P : Nat → L2.St → Hp → Hp → Prop, P 0 σ G1 H1 ∧ (∀ i σ' G' H', P i σ' G' H' → Same G1 G' ∧ Cl G' H' ∧ Tabs T H') ∧
      (∀ i d x σ' G' H' G'' H'', ds[i]? = some d → P i σ' G' H' → Step T G' H' G'' H'' → Dp K G'' x d →
        g x σ' H'' fun σ2 H2 => tbd { D with nx := fun σ H => ∃ G, P (i + 1) σ G H, ct := fun σ H => ∃ G, P (i + 1) σ G H, bk := tz D } σ2 H2) ∧
      ∀ σ' G' H', P ds.length σ' G' H' → tz D σ' H') : tSeq (tFor wi g tbd) tz D σ H :=
  s_for (D := { D with nx := tz D }) hi ht c k
/-- xs.append(e) -/
theorem s_app {D : Ends} {l : Addr} {xs : List V} (hl : ∀ G1 H1, Step T G H G1 H1 → H1 l = some (.lst xs)) (ha : Rv T ta σ G (IsV (.ref l))) (h : Rv T te σ G R) [Mn R] (ht : Tabs T H) (c : Cl G H) (hz : xs.length < 100000)
    (k : ∀ v G1 H1, Step T G H G1 H1 → R G1 v → D.nx σ (upd H1 l (.lst (xs ++ [v])))) : tDrop (tBM K "list" rAppend ta (tCons te tNil)) D σ H :=
  ha H ht c _ fun v G1 H1 s1 hv => by
    have hv : v = .ref l := hv
    subst hv
    refine ⟨.inl ⟨rfl, xs, .inl (.inl (hl G1 H1 s1))⟩, (h.mono s1.g) H1 s1.t s1.s _ fun y G2 H2 s2 hy => ?_⟩
    exact ⟨l, xs, y, rfl, rfl, hl G2 H2 (s1.trans s2), small_lt hz, k y G2 H2 (s1.trans s2) hy⟩
/-- out.append(e), out a list of the def's own: the state (G0, H0) is the def's entry -/
theorem s_out {D : Ends} {G0 H0 : Hp} {o : Addr} {acc : List V} [Mn R] (ho : σ[i]? = some (some (.ref o))) (st : Step T G0 H0 G H) (n0 : Nw H0 o) (gn : G o = none) (hl : H o = some (.lst acc)) (h : Rv T te σ G R) (hz : acc.length < 100000)
    (k : ∀ v G1 H1, Step T G0 H0 G1 H1 → Same G G1 → G1 o = none → H1 o = some (.lst (acc ++ [v])) → R G1 v → D.nx σ H1) : tDrop (tBM K "list" rAppend (tVar i) (tCons te tNil)) D σ H :=
  s_app (fun G1 H1 s => s.x o _ hl lst_tbl) (rv_var ho rfl) h st.t st.s hz fun v G1 H1 s1 hv =>
    have gn1 : G1 o = none := (s1.f o _ hl).trans gn
    have hl1 : H1 o = some (.lst acc) := s1.x o _ hl lst_tbl
    k v G1 _ ((st.trans s1).mut n0 gn1 hl1) s1.g gn1 upd_same hv
theorem q_out {D : Ends} {tz : TS} {G0 H0 : Hp} {o : Addr} {acc : List V} [Mn R] (ho : σ[i]? = some (some (.ref o))) (st : Step T G0 H0 G H) (n0 : Nw H0 o) (gn : G o = none) (hl : H o = some (.lst acc)) (h : Rv T te σ G R) (hz : acc.length < 100000)
    (k : ∀ v G1 H1, Step T G0 H0 G1 H1 → Same G G1 → G1 o = none → H1 o = some (.lst (acc ++ [v])) → R G1 v → tz D σ H1) : tSeq (tDrop (tBM K "list" rAppend (tVar i) (tCons te tNil))) tz D σ H :=
  s_out (D := { D with nx := tz D }) ho st n0 gn hl h hz k
/-- return (out, e): a curve of the list out -/
theorem s_retV {D : Ends} {G0 H0 : Hp} {o : Addr} {acc : List V} {cs : List Qk.Cn} {s : Rat} {j : Nat} {y : V} (ho : σ[i]? = some (some (.ref o))) (hy : σ[j]? = some (some y)) (st : Step T G0 H0 G H) (n0 : Nw H0 o) (gn : G o = none) (hl : H o = some (.lst acc)) (ha : DpAll K G acc (cs.map dc)) (hs : Dp K G y (dq s)) (k : Hands T G0 H0 (IsVc K G0 (cs, s)) D.rt) : tRet (tTup (tCons (tVar i) (tCons (tVar j) tNil))) D σ H := by
  refine ⟨_, ho, _, hy, by show 2 ≤ sizeLine; decide, fun p hp => ?_⟩
  have s1 := st.take n0 gn hl
  have sg : Same G (upd G o (.lst acc)) := fun b u z => by
    rw [upd_ne (ne_of_none z gn)]
    exact z
  have s2 : Step T (upd G o (.lst acc)) H (upd (upd G o (.lst acc)) p (.tup [.ref o, y])) (upd H p (.tup [.ref o, y])) := Step.new st.t s1.s hp tup_tbl
  have op : o ≠ p := ne_of_none hl hp
  refine k _ _ _ (s1.trans s2) ⟨p, o, y, acc, rfl, upd_same, same_none st.g gn, ?_, sdpAll (Same.trans sg s2.g) ha, sdp (Same.trans sg s2.g) hs⟩
  rw [upd_ne op, upd_same]
end
end Qw
namespace Qw
open PySem PySem.Spec PyProof.Rows L2 LamX
/-! ### what the slots hold -/
inductive Slot where
  | no
  | d (d : PyData)
  | v (x : V)
def SlotOk (K : PySem.W.Frag) (G : Hp) : Slot → Option V → Prop
  | .no, _ => True
  | .d d, o => ∃ v, o = some v ∧ Dp K G v d
  | .v x, o => o = some x
structure Sl (K : PySem.W.Frag) (G : Hp) (σ : L2.St) (ss : List Slot) : Prop where
  len : σ.length = ss.length
  at_ : ∀ (i : Nat) (s : Slot), ss[i]? = some s → ∃ o : Option V, σ[i]? = some o ∧ SlotOk K G s o
def wipeS (ss : List Slot) : List Nat → List Slot
  | [] => ss
  | i :: r => (wipeS ss r).set i .no
section
variable {T : List (Addr × Str)} {K : PySem.W.Frag} {σ : L2.St} {G G' H H' : Hp} {ta tb tc te tl tx : TE} {tt tu : TT} {v x : V} {r : R2} {R Ra' Rb : Rp} {i j l : Nat} {d e d1 d2 d3 : PyData} {ds es : List PyData} {aa : TA} {wi : TI} {g : TG} {ss : List Slot} {D : Ends} {t1 t2 tz : TS}
theorem SlotOk.mono {s : Slot} {o : Option V} (e : Same G G') (h : SlotOk K G s o) : SlotOk K G' s o := by
  cases s with
  | no => trivial
  | d d => obtain ⟨v, h1, h2⟩ := h; exact ⟨v, h1, sdp e h2⟩
  | v x => exact h
theorem Sl.mono (e : Same G G') (h : Sl K G σ ss) : Sl K G' σ ss := ⟨h.len, fun i s hs => let ⟨o, h1, h2⟩ := h.at_ i s hs; ⟨o, h1, h2.mono e⟩⟩
theorem Sl.put (h : Sl K G σ ss) {s : Slot} (hs : SlotOk K G s (some v)) : Sl K G (σ.set i (some v)) (ss.set i s) := by
  refine ⟨by rw [List.length_set, List.length_set]; exact h.len, fun j s' hs' => ?_⟩
  by_cases hj : i = j
  · subst hj
    rw [List.getElem?_set] at hs' ⊢
    rw [if_pos rfl] at hs' ⊢
    rw [h.len]
    by_cases hl : i < ss.length
    · rw [if_pos hl] at hs' ⊢
      cases hs'
      exact ⟨_, rfl, hs⟩
    · rw [if_neg hl] at hs'
      cases hs'
  · rw [List.getElem?_set_ne hj] at hs' ⊢
    exact h.at_ j s' hs'
theorem Sl.set (h : Sl K G σ ss) (hv : Dp K G v d) : Sl K G (σ.set i (some v)) (ss.set i (.d d)) := h.put ⟨v, rfl, hv⟩
theorem Sl.setV (h : Sl K G σ ss) : Sl K G (σ.set i (some v)) (ss.set i (.v v)) := h.put rfl
theorem Sl.get (h : Sl K G σ ss) (e : ss[i]? = some (.d d)) : ∃ v, σ[i]? = some (some v) ∧ Dp K G v d := by
  obtain ⟨o, h1, v, rfl, h2⟩ := h.at_ i _ e
  exact ⟨v, h1, h2⟩
theorem Sl.getV (h : Sl K G σ ss) (e : ss[i]? = some (.v x)) : σ[i]? = some (some x) := by
  obtain ⟨o, h1, h2⟩ := h.at_ i _ e
  rw [h1, show o = some x from h2]
/-- a slot's value known as a datum -/
theorem Sl.vd (h : Sl K G σ ss) (e : ss[i]? = some (.v x)) (hd : Dp K G x d) : Sl K G σ (ss.set i (.d d)) := by
  have h1 := h.put (v := x) (i := i) (s := .d d) ⟨x, rfl, hd⟩
  have e2 : σ.set i (some x) = σ := by
    apply List.ext_getElem?
    intro k
    by_cases q : i = k
    · subst q
      rw [List.getElem?_set, if_pos rfl, h.getV e]
      have hl := (List.getElem?_eq_some_iff.mp (h.getV e)).1
      rw [if_pos hl]
    · rw [List.getElem?_set_ne q]
  rw [e2] at h1
  exact h1
theorem dpAll_get2 : ∀ {vs : List V} {ds : List PyData}, DpAll K G vs ds → ∀ (i : Nat), (∃ v d, vs[i]? = some v ∧ ds[i]? = some d ∧ Dp K G v d) ∨ (vs[i]? = none ∧ ds[i]? = none)
  | _, _, .nil, i => .inr ⟨by simp, by simp⟩
  | _, _, .cons h t, 0 => .inl ⟨_, _, rfl, rfl, h⟩
  | _, _, .cons h t, i + 1 => dpAll_get2 t i
theorem sl_start {N : List Str} {vs : List V} (h : DpAll K G vs ds) (hn : ds.length ≤ N.length) : Sl K G (L2.start N vs) (ds.map Slot.d ++ List.replicate (N.length - ds.length) Slot.no) := by
  have hl := dpAll_len h
  refine ⟨by simp [L2.start, hl], fun i s hs => ?_⟩
  unfold L2.start
  by_cases hi : i < ds.length
  · rw [List.getElem?_append_left (by simpa using hi)] at hs
    rw [List.getElem?_append_left (by simpa [hl] using hi)]
    rw [List.getElem?_map] at hs ⊢
    rcases dpAll_get2 h i with ⟨v, d, h1, h2, h3⟩ | ⟨h1, h2⟩
    · rw [h2] at hs
      rw [h1]
      cases hs
      exact ⟨_, rfl, v, rfl, h3⟩
    · rw [h2] at hs
      cases hs
  · rw [List.getElem?_append_right (by simpa using Nat.le_of_not_lt hi)] at hs
    rw [List.getElem?_append_right (by simpa [hl] using Nat.le_of_not_lt hi)]
    rw [List.getElem?_replicate] at hs ⊢
    simp only [List.length_map, hl] at hs ⊢
    split at hs
    · rename_i q
      cases hs
      rw [if_pos q]
      exact ⟨none, rfl, trivial⟩
    · cases hs
theorem Sl.wipe (h : Sl K G σ ss) : ∀ vs : List Nat, Sl K G (L2.wipe σ vs) (wipeS ss vs)
  | [] => h
  | i :: r => by
    have w := h.wipe r
    show Sl K G ((L2.wipe σ r).set i none) ((wipeS ss r).set i .no)
    refine ⟨by rw [List.length_set, List.length_set]; exact w.len, fun j s' hs' => ?_⟩
    by_cases hj : i = j
    · subst hj
      rw [List.getElem?_set] at hs' ⊢
      rw [if_pos rfl] at hs' ⊢
      rw [w.len]
      by_cases hl : i < (wipeS ss r).length
      · rw [if_pos hl] at hs' ⊢
        cases hs'
        exact ⟨_, rfl, trivial⟩
      · rw [if_neg hl] at hs'
        cases hs'
    · rw [List.getElem?_set_ne hj] at hs' ⊢
      exact w.at_ j s' hs'
/-- reading a slot -/
theorem rv_sl (h : Sl K G σ ss) (e : ss[i]? = some (.d d)) : Rv T (tVar i) σ G (IsD K d) :=
  let ⟨_, h1, h2⟩ := h.get e
  rv_var h1 h2
theorem rv_sv (h : Sl K G σ ss) (e : ss[i]? = some (.v x)) : Rv T (tVar i) σ G (IsV x) := rv_var (h.getV e) rfl
/-! statements by slots -/
theorem q_setS (sl : Sl K G σ ss) (h : Rv T te σ G (IsD K d)) (ht : Tabs T H) (c : Cl G H) (k : ∀ σ' G' H', Step T G H G' H' → Sl K G' σ' (ss.set i (.d d)) → tz D σ' H') : tSeq (tAsg te (gName i)) tz D σ H :=
  q_set h ht c fun v G' H' s hv => k _ G' H' s ((sl.mono s.g).set hv)
theorem s_setS (sl : Sl K G σ ss) (h : Rv T te σ G (IsD K d)) (ht : Tabs T H) (c : Cl G H) (k : ∀ σ' G' H', Step T G H G' H' → Sl K G' σ' (ss.set i (.d d)) → D.nx σ' H') : tAsg te (gName i) D σ H :=
  s_set h ht c fun v G' H' s hv => k _ G' H' s ((sl.mono s.g).set hv)
theorem q_pairS (sl : Sl K G σ ss) (h : Rv T te σ G (IsD K (.tuple [d1, d2]))) (ht : Tabs T H) (c : Cl G H) (k : ∀ σ' G' H', Step T G H G' H' → Sl K G' σ' ((ss.set i (.d d1)).set j (.d d2)) → tz D σ' H') : tSeq (tAsg te (gTup K 2 (gCons (gName i) (gCons (gName j) gNil)))) tz D σ H :=
  q_pair h ht c fun y z G' H' s hy hz => k _ G' H' s (((sl.mono s.g).set hy).set hz)
theorem q_parS (sl : Sl K G σ ss) (h : Ra T K aa σ G [d1, d2]) (ht : Tabs T H) (c : Cl G H) (k : ∀ σ' G' H', Step T G H G' H' → Sl K G' σ' ((ss.set i (.d d1)).set j (.d d2)) → tz D σ' H') : tSeq (tPar i j aa) tz D σ H :=
  q_par h ht c fun u v G' H' s hu hv => k _ G' H' s (((sl.mono s.g).set hu).set hv)
theorem q_par3S (sl : Sl K G σ ss) (h : Ra T K aa σ G [d1, d2, d3]) (ht : Tabs T H) (c : Cl G H) (k : ∀ σ' G' H', Step T G H G' H' → Sl K G' σ' (((ss.set i (.d d1)).set j (.d d2)).set l (.d d3)) → tz D σ' H') : tSeq (tPar3 i j l aa) tz D σ H :=
  q_par3 h ht c fun u v w G' H' s hu hv hw => k _ G' H' s ((((sl.mono s.g).set hu).set hv).set hw)
/-- an own list: at o, of these data so far -/
structure Own (T : List (Addr × Str)) (K : PySem.W.Frag) (G0 H0 G H : Hp) (o : Addr) (ds : List PyData) : Prop where
  st : Step T G0 H0 G H
  nw : Nw H0 o
  gn : G o = none
  ex : ∃ acc, H o = some (.lst acc) ∧ DpAll K G acc ds
theorem Own.step {G0 H0 G1 H1 : Hp} {o : Addr} (w : Own T K G0 H0 G H o ds) (s : Step T G H G1 H1) : Own T K G0 H0 G1 H1 o ds := by
  obtain ⟨acc, h1, h2⟩ := w.ex
  exact ⟨w.st.trans s, w.nw, (s.f o _ h1).trans w.gn, acc, s.x o _ h1 lst_tbl, sdpAll s.g h2⟩
theorem q_setLS {G0 H0 : Hp} (sl : Sl K G σ ss) (st : Step T G0 H0 G H) (k : ∀ o σ' H', Own T K G0 H0 G H' o [] → Step T G H G H' → Sl K G σ' (ss.set i (.v (.ref o))) → tz D σ' H') : tSeq (tAsg (tLst tNil) (gName i)) tz D σ H :=
  q_setL st.t st.s fun o H' s n g l => k o _ H' ⟨st.trans s, st.nw n, g, [], l, .nil⟩ s sl.setV
/-- a, b, c = e, [], constant -/
theorem q_par3LS {G0 H0 : Hp} (sl : Sl K G σ ss) (st : Step T G0 H0 G H) (h : Rv T te σ G (IsD K d)) (k : ∀ o σ' G' H', Own T K G0 H0 G' H' o [] → Step T G H G' H' → Sl K G' σ' (((ss.set i (.d d)).set j (.v (.ref o))).set l (.v x)) → tz D σ' H') :
    tSeq (tPar3 i j l (tCons te (tCons (tLst tNil) (tCons (tC x) tNil)))) tz D σ H :=
  q_par3L h st.t st.s fun v o G' H' s n g l hv => k o _ G' H' ⟨st.trans s, st.nw n, g, [], l, .nil⟩ s ((((sl.mono s.g).set hv).setV).setV)
/-- a, b, c = [], e, f -/
theorem q_par3FS {G0 H0 : Hp} (sl : Sl K G σ ss) (st : Step T G0 H0 G H) (h : Ra T K aa σ G [d2, d3]) (k : ∀ o σ' G' H', Own T K G0 H0 G' H' o [] → Step T G H G' H' → Sl K G' σ' (((ss.set i (.v (.ref o))).set j (.d d2)).set l (.d d3)) → tz D σ' H') :
    tSeq (tPar3 i j l (tCons (tLst tNil) aa)) tz D σ H :=
  ⟨Nat.zero_le _, fun o no => by
    have s0 : Step T G H G (upd H o (.lst [])) := Step.newH st.t st.s no
    refine h _ s0.t s0.s _ fun vs G' H' s hv => ?_
    obtain ⟨y, z, rfl, hy, hz⟩ := dp2 hv
    refine ⟨_, _, _, rfl, k o _ G' H' ?_ (s0.trans s) ((((sl.mono s.g).setV).set hy).set hz)⟩
    have w : Own T K G0 H0 G (upd H o (.lst [])) o [] := ⟨st.trans s0, st.nw (Nw.of no), clean_none st.s no, [], upd_same, .nil⟩
    exact w.step s⟩
/-- a, b = e, [] and a, b = [], e -/
theorem q_parLS {G0 H0 : Hp} (sl : Sl K G σ ss) (st : Step T G0 H0 G H) (h : Rv T te σ G (IsD K d)) (k : ∀ o σ' G' H', Own T K G0 H0 G' H' o [] → Step T G H G' H' → Sl K G' σ' ((ss.set i (.d d)).set j (.v (.ref o))) → tz D σ' H') :
    tSeq (tPar i j (tCons te (tCons (tLst tNil) tNil))) tz D σ H :=
  h H st.t st.s _ fun v G' H' s hv => ⟨Nat.zero_le _, fun o no => ⟨_, _, rfl, k o _ G' _ ⟨(st.trans s).trans (Step.newH s.t s.s no), (st.trans s).nw (Nw.of no), clean_none s.s no, [], upd_same, .nil⟩ (s.trans (Step.newH s.t s.s no)) (((sl.mono s.g).set hv).setV)⟩⟩
theorem q_parFS {G0 H0 : Hp} (sl : Sl K G σ ss) (st : Step T G0 H0 G H) (h : Rv T te σ G (IsD K d)) (k : ∀ o σ' G' H', Own T K G0 H0 G' H' o [] → Step T G H G' H' → Sl K G' σ' ((ss.set i (.v (.ref o))).set j (.d d)) → tz D σ' H') :
    tSeq (tPar i j (tCons (tLst tNil) (tCons te tNil))) tz D σ H :=
  ⟨Nat.zero_le _, fun o no => by
    have s0 : Step T G H G (upd H o (.lst [])) := Step.newH st.t st.s no
    refine h _ s0.t s0.s _ fun v G' H' s hv => ?_
    refine ⟨_, _, rfl, k o _ G' H' ?_ (s0.trans s) (((sl.mono s.g).setV).set hv)⟩
    have w : Own T K G0 H0 G (upd H o (.lst [])) o [] := ⟨st.trans s0, st.nw (Nw.of no), clean_none st.s no, [], upd_same, .nil⟩
    exact w.step s⟩
/-- out.append(e) -/
theorem s_outS {G0 H0 : Hp} {o : Addr} (sl : Sl K G σ ss) (w : Own T K G0 H0 G H o ds) (ho : ss[i]? = some (.v (.ref o))) (h : Rv T te σ G (IsD K d)) (hz : ds.length < 100000)
    (k : ∀ G' H', Own T K G0 H0 G' H' o (ds ++ [d]) → Same G G' → Sl K G' σ ss → D.nx σ H') : tDrop (tBM K "list" rAppend (tVar i) (tCons te tNil)) D σ H := by
  obtain ⟨acc, h1, h2⟩ := w.ex
  exact s_out (R := IsD K d) (sl.getV ho) w.st w.nw w.gn h1 h (by rw [dpAll_len h2]; exact hz) fun v G' H' s e gn hl hv => k G' H' ⟨s, w.nw, gn, _, hl, dpAll_app (sdpAll e h2) (.cons hv .nil)⟩ e (sl.mono e)
theorem q_outS {G0 H0 : Hp} {o : Addr} (sl : Sl K G σ ss) (w : Own T K G0 H0 G H o ds) (ho : ss[i]? = some (.v (.ref o))) (h : Rv T te σ G (IsD K d)) (hz : ds.length < 100000)
    (k : ∀ G' H', Own T K G0 H0 G' H' o (ds ++ [d]) → Same G G' → Sl K G' σ ss → tz D σ H') : tSeq (tDrop (tBM K "list" rAppend (tVar i) (tCons te tNil))) tz D σ H :=
  s_outS (D := { D with nx := tz D }) sl w ho h hz k
/-- out.extend(e), e a list of its own -/
theorem s_extS {G0 H0 : Hp} {o : Addr} (sl : Sl K G σ ss) (w : Own T K G0 H0 G H o ds) (ho : ss[i]? = some (.v (.ref o))) (h : Rv T te σ G (IsL K es)) (hz : ds.length + es.length ≤ 100000)
    (k : ∀ G' H', Own T K G0 H0 G' H' o (ds ++ es) → Same G G' → Sl K G' σ ss → D.nx σ H') : tDrop (tBM K "list" rExtend (tVar i) (tCons te tNil)) D σ H := by
  obtain ⟨acc, h1, h2⟩ := w.ex
  refine ⟨.ref o, sl.getV ho, .inl ⟨rfl, acc, .inl (.inl h1)⟩, h H w.st.t w.st.s _ fun v G' H' s hv => ?_⟩
  obtain ⟨b, ys, rfl, hb, hd⟩ := hv
  have w1 := w.step s
  have hl1 : H' o = some (.lst acc) := s.x o _ h1 lst_tbl
  refine ⟨o, b, acc, ys, rfl, rfl, hl1, (s.s b _ hb).1, small_line (by rw [dpAll_len h2, dpAll_len hd]; exact hz), k G' _ ⟨w1.st.mut w.nw w1.gn hl1, w.nw, w1.gn, _, upd_same, dpAll_app (sdpAll s.g h2) hd⟩ s.g (sl.mono s.g)⟩
theorem q_extS {G0 H0 : Hp} {o : Addr} (sl : Sl K G σ ss) (w : Own T K G0 H0 G H o ds) (ho : ss[i]? = some (.v (.ref o))) (h : Rv T te σ G (IsL K es)) (hz : ds.length + es.length ≤ 100000)
    (k : ∀ G' H', Own T K G0 H0 G' H' o (ds ++ es) → Same G G' → Sl K G' σ ss → tz D σ H') : tSeq (tDrop (tBM K "list" rExtend (tVar i) (tCons te tNil))) tz D σ H :=
  s_extS (D := { D with nx := tz D }) sl w ho h hz k
/-- the own list is taken among the data -/
theorem Own.take {G0 H0 : Hp} {o : Addr} (w : Own T K G0 H0 G H o ds) : ∃ G', Step T G0 H0 G' H ∧ Same G G' ∧ IsL K ds G' (.ref o) := by
  obtain ⟨acc, h1, h2⟩ := w.ex
  have s := w.st.take w.nw w.gn h1
  have e : Same G (upd G o (.lst acc)) := fun b u z => by
    rw [upd_ne (ne_of_none z w.gn)]
    exact z
  exact ⟨_, s, e, o, acc, rfl, upd_same, sdpAll e h2⟩
theorem s_retVS {G0 H0 : Hp} {o : Addr} {cs : List Qk.Cn} {s : Rat} (sl : Sl K G σ ss) (w : Own T K G0 H0 G H o (cs.map dc)) (ho : ss[i]? = some (.v (.ref o))) (hy : ss[j]? = some (.d (dq s))) (k : Hands T G0 H0 (IsVc K G0 (cs, s)) D.rt) : tRet (tTup (tCons (tVar i) (tCons (tVar j) tNil))) D σ H := by
  obtain ⟨acc, h1, h2⟩ := w.ex
  obtain ⟨y, e1, e2⟩ := sl.get hy
  exact s_retV (sl.getV ho) e1 w.st w.nw w.gn h1 h2 e2 k
/-- return ([..], e): a curve of a list just made -/
theorem s_retVL {cs : List Qk.Cn} {s : Rat} (ht : Tabs T H) (c : Cl G H) (h : Ra T K aa σ G (cs.map dc)) (h2 : Rv T te σ G (IsD K (dq s))) (hl : cs.length ≤ 100000) (k : Hands T G H (IsVc K G (cs, s)) D.rt) : tRet (tTup (tCons (tLst aa) (tCons te tNil))) D σ H :=
  h H ht c _ fun vs G1 H1 s1 hv => ⟨small_line (by rw [dpAll_len hv, List.length_map]; exact hl), fun o no => by
    have s2 : Step T G1 H1 G1 (upd H1 o (.lst vs)) := Step.newH s1.t s1.s no
    have w : Own T K G H G1 (upd H1 o (.lst vs)) o (cs.map dc) := ⟨s1.trans s2, s1.nw (Nw.of no), clean_none s1.s no, vs, upd_same, hv⟩
    refine (h2.mono s1.g) _ s2.t s2.s _ fun y G3 H3 s3 hy => ?_
    have w3 := w.step s3
    refine ⟨by show 2 ≤ sizeLine; decide, fun p hp => ?_⟩
    obtain ⟨acc, h3, h4⟩ := w3.ex
    have s4 := w3.st.take w3.nw w3.gn h3
    have sg : Same G3 (upd G3 o (.lst acc)) := fun b u z => by
      rw [upd_ne (ne_of_none z w3.gn)]
      exact z
    have s5 : Step T (upd G3 o (.lst acc)) H3 (upd (upd G3 o (.lst acc)) p (.tup [.ref o, y])) (upd H3 p (.tup [.ref o, y])) := Step.new s4.t s4.s hp tup_tbl
    have op : o ≠ p := ne_of_none h3 hp
    refine k _ _ _ (s4.trans s5) ⟨p, o, y, acc, rfl, upd_same, same_none w3.st.g w3.gn, ?_, sdpAll (Same.trans sg s5.g) h4, sdp (Same.trans sg s5.g) hy⟩
    rw [upd_ne op, upd_same]⟩
/-- a, b, c, d = e, [], f, g -/
theorem q_four {G0 H0 : Hp} {a b e f : Nat} {tf tg : TE} {da df dg : PyData} (sl : Sl K G σ ss) (st : Step T G0 H0 G H) (ha : Rv T ta σ G (IsD K da)) (hf : Rv T tf σ G (IsD K df)) (hg : Rv T tg σ G (IsD K dg))
    (k : ∀ o σ' G' H', Own T K G0 H0 G' H' o [] → Step T G H G' H' → Sl K G' σ' ((((ss.set a (.d da)).set b (.v (.ref o))).set e (.d df)).set f (.d dg)) → tz D σ' H') :
    tSeq (tAsg (tTup (tCons ta (tCons (tLst tNil) (tCons tf (tCons tg tNil))))) (gTup K 4 (gCons (gName a) (gCons (gName b) (gCons (gName e) (gCons (gName f) gNil)))))) tz D σ H :=
  ha H st.t st.s _ fun va G1 H1 s1 hva => ⟨Nat.zero_le _, fun o no => by
    have s2 : Step T G1 H1 G1 (upd H1 o (.lst [])) := Step.newH s1.t s1.s no
    have w2 : Own T K G0 H0 G1 (upd H1 o (.lst [])) o [] := ⟨(st.trans s1).trans s2, (st.trans s1).nw (Nw.of no), clean_none s1.s no, [], upd_same, .nil⟩
    refine (hf.mono s1.g) _ s2.t s2.s _ fun vf G3 H3 s3 hvf => ?_
    refine (hg.mono (Same.trans s1.g s3.g)) _ s3.t s3.s _ fun vg G4 H4 s4 hvg => ?_
    refine ⟨by show 4 ≤ sizeLine; decide, fun p np => ?_⟩
    have s5 : Step T G4 H4 G4 (upd H4 p (.tup [va, .ref o, vf, vg])) := Step.newH s4.t s4.s np
    have w5 := ((w2.step s3).step s4).step s5
    have eg : Same G G4 := Same.trans (Same.trans s1.g s3.g) s4.g
    exact ⟨p, _, rfl, .inl (.inl upd_same), rfl, _, _, rfl, _, _, rfl, _, _, rfl, _, _, rfl, rfl, k o _ G4 _ w5 ((((s1.trans s2).trans s3).trans s4).trans s5) ((((((sl.mono eg).set (sdp (Same.trans s3.g s4.g) hva)).setV).set (sdp s4.g hvf)).set hvg))⟩⟩
/-! range with a step -/
theorem yl_rangeC {lo c0 : Int} {n : Nat} : Yl T K (Itc lo c0 n) G ((List.range n).map fun i => .int (lo + (i : Nat) * c0)) :=
  ⟨fun i G' H' _ _ hi => (show i < n by simpa using hi), fun i G' H' _ _ hi => (show n ≤ i by simpa using hi), fun i G' H' x H'' d e c t' hd hy => by
    obtain ⟨rfl, rfl⟩ := hy
    rw [List.getElem?_map] at hd
    cases q : (List.range n)[i]? with
    | none =>
      rw [q] at hd
      cases hd
    | some k =>
      rw [q] at hd
      have hd := Option.some.inj hd
      obtain ⟨h1, h2⟩ := List.getElem?_eq_some_iff.mp q
      rw [List.getElem_range] at h2
      subst h2
      subst hd
      exact ⟨G', Step.refl t' c, .int _⟩⟩
/-- n - 1, n - 2, .., 0 -/
theorem ri_down {n : Nat} (h : Ra T K aa σ G [.int ((n : Int) - 1), .int (-1), .int (-1)]) (hn : n < 100000) : Ri T K (iRng3 aa) σ G ((List.range n).map fun i => .int ((n : Int) - 1 + (i : Nat) * (-1))) := fun H t c R q =>
  h H t c _ fun vs G2 H2 s2 hv => by
    obtain ⟨x, y, z, rfl, hx, hy, hz⟩ := dp3 hv
    rw [dp_int hx, dp_int hy, dp_int hz]
    have r : RgC ((n : Int) - 1) (-1) (-1) n := by
      have h := RgC.neg (i := (n : Int) - 1) (j := -1) (by omega) (by omega) (by decide) (by decide)
      have e : ((n : Int) - 1 - -1).toNat = n := by omega
      rw [e] at h
      exact h
    exact ⟨_, _, _, n, rfl, r, q _ G2 H2 s2 yl_rangeC⟩
/-! comprehensions by slots -/
theorem wipe_get (σ : L2.St) : ∀ (vs : List Nat) (k : Nat), (L2.wipe σ vs)[k]? = if k ∈ vs then σ[k]?.map (fun _ => none) else σ[k]?
  | [], k => by
    have h : ¬ k ∈ ([] : List Nat) := by simp
    rw [if_neg h]
    rfl
  | i :: r, k => by
    show ((L2.wipe σ r).set i none)[k]? = _
    have ih := wipe_get σ r k
    by_cases h : i = k
    · subst h
      have hl : (L2.wipe σ r).length = σ.length := L2.wipe_length σ r
      have hm : i ∈ i :: r := List.mem_cons_self
      rw [if_pos hm, List.getElem?_set, if_pos rfl, hl]
      by_cases q : i < σ.length
      · rw [if_pos q, List.getElem?_eq_getElem q]
        rfl
      · rw [if_neg q, List.getElem?_eq_none (by omega)]
        rfl
    · rw [List.getElem?_set_ne h, ih]
      simp [Ne.symm h]
theorem wipe_set {vs : List Nat} (hj : j ∈ vs) (x : Option V) : L2.wipe ((L2.wipe σ vs).set j x) vs = L2.wipe σ vs := by
  apply List.ext_getElem?
  intro k
  rw [wipe_get, wipe_get]
  by_cases h : k ∈ vs
  · rw [if_pos h, if_pos h]
    by_cases q : j = k
    · subst q
      rw [List.getElem?_set, if_pos rfl, L2.wipe_length]
      by_cases q : j < σ.length
      · rw [if_pos q, List.getElem?_eq_getElem q]
        rfl
      · rw [if_neg q, List.getElem?_eq_none (by omega)]
    · rw [List.getElem?_set_ne q, wipe_get, if_pos h]
      cases σ[k]? <;> rfl
  · rw [if_neg h, if_neg h]
    have q : j ≠ k := fun e => h (e ▸ hj)
    rw [List.getElem?_set_ne q, wipe_get, if_neg h]
theorem wipe_set2 {vs : List Nat} (hi : i ∈ vs) (hj : j ∈ vs) (x y : Option V) : L2.wipe (((L2.wipe σ vs).set i x).set j y) vs = L2.wipe σ vs := by
  have e : ∀ (l : L2.St), L2.wipe (l.set j y) vs = L2.wipe l vs := fun l => by
    apply List.ext_getElem?
    intro k
    rw [wipe_get, wipe_get]
    by_cases h : k ∈ vs
    · rw [if_pos h, if_pos h]
      by_cases q : j = k
      · subst q
        rw [List.getElem?_set, if_pos rfl]
        by_cases q : j < l.length
        · rw [if_pos q, List.getElem?_eq_getElem q]
          rfl
        · rw [if_neg q, List.getElem?_eq_none (by omega)]
      · rw [List.getElem?_set_ne q]
    · rw [if_neg h, if_neg h]
      have q : j ≠ k := fun e => h (e ▸ hj)
      rw [List.getElem?_set_ne q]
  rw [e, wipe_set hi]
theorem rv_lcNS {α : Type} {A B : α → PyData} {xs : List α} {vs : List Nat} (sl : Sl K G σ ss) (hi : Ri T K wi σ G (xs.map A)) (hz : xs.length ≤ 100000) (hj : j ∈ vs)
    (he : ∀ a ∈ xs, ∀ σ' G1, Same G G1 → Sl K G1 σ' ((wipeS ss vs).set j (.d (A a))) → Rv T te σ' G1 (IsD K (B a))) : Rv T (tLc wi (gName j) tYes te vs) σ G (IsL K (xs.map B)) :=
  rv_lcN hi hz (fun x => wipe_set hj _) fun a ha x G1 e hx => he a ha _ G1 e (((sl.mono e).wipe vs).set hx)
theorem rv_lcPS {α : Type} {A1 A2 B : α → PyData} {xs : List α} {vs : List Nat} (sl : Sl K G σ ss) (hi : Ri T K wi σ G (xs.map fun a => .tuple [A1 a, A2 a])) (hz : xs.length ≤ 100000) (hij : i ∈ vs ∧ j ∈ vs)
    (he : ∀ a ∈ xs, ∀ σ' G1, Same G G1 → Sl K G1 σ' (((wipeS ss vs).set i (.d (A1 a))).set j (.d (A2 a))) → Rv T te σ' G1 (IsD K (B a))) : Rv T (tLc wi (gTup K 2 (gCons (gName i) (gCons (gName j) gNil))) tYes te vs) σ G (IsL K (xs.map B)) :=
  rv_lcP hi hz (fun x y => wipe_set2 hij.1 hij.2 _ _) fun a ha x y G1 e hx hy => he a ha _ G1 e ((((sl.mono e).wipe vs).set hx).set hy)
theorem rv_lcFS {α : Type} {A B : α → PyData} {p : α → Bool} {xs : List α} {vs : List Nat} (sl : Sl K G σ ss) (hi : Ri T K wi σ G (xs.map A)) (hz : xs.length ≤ 100000) (hj : j ∈ vs)
    (hp : ∀ a ∈ xs, ∀ σ' G1, Same G G1 → Sl K G1 σ' ((wipeS ss vs).set j (.d (A a))) → Rt T tt σ' G1 (p a))
    (he : ∀ a ∈ xs, p a = true → ∀ σ' G1, Same G G1 → Sl K G1 σ' ((wipeS ss vs).set j (.d (A a))) → Rv T te σ' G1 (IsD K (B a))) : Rv T (tLc wi (gName j) tt te vs) σ G (IsL K ((xs.filter p).map B)) :=
  rv_lcF hi hz fun a ha x G1 H1 e c t hx Q k =>
    have s2 := ((sl.mono e).wipe vs).set (i := j) hx
    k _ (wipe_set hj _) (hp a ha _ G1 e s2) fun h => he a ha h _ G1 e s2
end
end Qw
namespace Qw
open PySem PySem.Spec PyProof.Rows L2 LamX
/-! ### a def whose code object is known -/
structure FunC (K : PySem.W.Frag) (x qual : Str) (st : Stmt) (f : Addr) (fd : FuncData) (c : Addr) : Prop where
  ex : ∃ (oc : Value) (od : Option Addr) (kV doc pm : Value) (an : Option Addr) (ct : Value) (osl : Array (Option Value)),
    fd = PySem.W.fnOf x qual (defArgs st) (defBody st) (defScope st) .none kV doc pm an (.ref c) ct ∧ K.lookup f = some ⟨oc, od, .func fd, osl⟩ ∧ PySem.W.codeIn K (.ref c) qual = true
theorem FunC.ok {P : Program} {w : World} {K : PySem.W.Frag} {mg : Str → Option Value} {base : Heap} {x qual : Str} {st : Stmt} {f : Addr} {fd : FuncData} {c : Addr} {N ps : List Str} {k : Nat} {sp : Sp} (F : FunC K x qual st f fd c) (S : FnScope N ps (defScope st)) (len : ∀ vs H Q E, sp vs H Q E → vs.length = ps.length)
    (hbody : ∀ (A : Around) (outer : List Env) (s : Shared) (H : Hp) (vs : List V) (Q : VK) (E : XK), Room k (A.deeper (envOfC qual (defScope st) s.heap.objs.size f (.ref c))) → sp vs H Q E →
      ∃ t, PSs (cxOf CX0 P w K mg base N qual (defScope st) f (.ref c) A outer s H E).nox (defBody st) t ∧ t { nx := fun _ H' => Q .non H', rt := Q } (start N vs) H) : FnOk P w K mg base CX0 (k + 1) f fd ps sp := by
  obtain ⟨oc, od, kV, doc, pm, an, ct, osl, rfl, lk, hcd⟩ := F.ex
  refine fn_of lk hcd S len fun A outer s H vs Q E hr hsp => ?_
  obtain ⟨t, h, q⟩ := hbody A outer s H vs Q E hr hsp
  exact ⟨t, h.nox, q⟩
/-! ### the key of a fraction: thing[0] * (common // thing[1]) -/
section
variable {P : Program} {w : World} {A : Around} {s : Shared} {env : Env} {m : Str → Option Value} {t cc : Addr} {n d C : Int} {t1 t2 t3 : Tok} {th cm : Str} {E : Value → Shared → Prop} {p1 p2 p3 p4 p5 p6 p7 p8 p9 : Pos} {j1 j2 : Nat}
theorem ev_item {Q : Value → Shared → Prop} {i : Int} {k : Nat} {x : Value} {j : Nat} (hk : env.scope.kind = .function) (hl : env.kindOf th = some .local) (hn : s.heap.Ns env.locals m) (hv : m th = some (.ref t)) (ht : IsTup s.heap t #[.int n t1, .int d t2]) (hi : seqIndex? i 2 = some k) (hlo : -(2 ^ 63) ≤ i) (hhi : i < 2 ^ 63) (hx : (#[Value.int n t1, Value.int d t2])[k]? = some x) (h : Q x { s with toks := s.toks + 1 }) (hd : (th == ("__debug__" : Str)) = false) :
    wpAny (model P w) A (eval (.Subscript (.Name th p1) (.Constant (.int i) j p2) p3) env) Q E s := by
  refine Subscript_ (wpAny_Name (wpAny_loadName_local hk hl hn hv ?_) hd)
  refine wpAny_Constant_int ?_
  exact subscriptTail_builtinR (x := x) (IsTup.typeIs (s := { s with toks := s.toks + 1 }) ht) slot_tuple_getitem.lookup (getItem_tuple (s := { s with toks := s.toks + 1 }) (j := k) (Q := fun r s' => r = x ∧ Q r s') ht hlo hhi hi hx ⟨rfl, h⟩)
theorem ev_key {Q : Value → Shared → Prop} (hk : env.scope.kind = .function) (hl : env.kindOf th = some .local) (hn : s.heap.Ns env.locals m) (hv : m th = some (.ref t)) (ht : IsTup s.heap t #[.int n t1, .int d t2]) (hf : env.kindOf cm = some .free) (hc : env.cells.lookup cm = some cc) (hcell : s.heap.IsCell cc (some (.int C t3)))
    (h1 : CDivW C d) (h2 : CMulW n (C / d)) (h : ∀ tk t, Q (.int (n * (C / d)) t) { s with toks := tk }) (hd : (th == ("__debug__" : Str)) = false) (hd2 : (cm == ("__debug__" : Str)) = false) (hcd : (cm == ("__classdict__" : Str)) = false) :
    wpAny (model P w) A (eval (.BinOp (.Subscript (.Name th p1) (.Constant (.int 0) j1 p2) p3) .Mult (.BinOp (.Name cm p4) .FloorDiv (.Subscript (.Name th p5) (.Constant (.int 1) j2 p6) p7) p8) p9) env) Q E s := by
  refine wpAny_BinOp (ev_item (i := 0) (k := 0) hk hl hn hv ht rfl (by decide) (by decide) rfl ?_ hd)
  refine wpAny_BinOp (wpAny_Name (wpAny_loadName_free hk hf hc hcell ?_ hcd) hd2)
  refine ev_item (i := 1) (k := 1) (m := m) hk hl hn hv ht rfl (by decide) (by decide) rfl ?_ hd
  have h1p : (0 : Int) < d := h1.1
  refine floordiv_int (by omega) ?_ (.inl (PyProof.noPylong_of_log2 h1.2))
  rw [Int.fdiv_eq_ediv_of_nonneg C (by omega)]
  exact mul_int (h _ _) h2.ok
end
/-! ### the key's lambda called -/
structure LamK (sc scope : Scope) (th cm : Str) : Prop where
  kind : scope.kind = .function
  co : scope.isCoroutine = false
  gen : scope.isGenerator = false
  own : scope.names.lookup th = some .local
  fr : scope.names.lookup cm = some .free
  cel : sc.names.lookup cm = some .cell
  noc : ∀ y ∈ scope.names, y.2 ≠ .cell
  free : ∀ y ∈ scope.names, y.2 = .free → sc.names.lookup y.1 = some .cell ∨ sc.names.lookup y.1 = some .free
def lamKB (sc scope : Scope) (th cm : Str) : Bool :=
  decide (scope.kind = .function) && !scope.isCoroutine && !scope.isGenerator && decide (scope.names.lookup th = some .local) && decide (scope.names.lookup cm = some .free) && decide (sc.names.lookup cm = some .cell) && scope.names.all fun y => !decide (y.2 = .cell) && (!decide (y.2 = .free) || decide (sc.names.lookup y.1 = some .cell) || decide (sc.names.lookup y.1 = some .free))
theorem lamK_by {sc scope : Scope} {th cm : Str} (h : lamKB sc scope th cm = true) : LamK sc scope th cm := by
  unfold lamKB at h
  simp only [Bool.and_eq_true, Bool.or_eq_true, Bool.not_eq_true', decide_eq_true_eq, decide_eq_false_iff_not, List.all_eq_true] at h
  obtain ⟨⟨⟨⟨⟨⟨h1, h2⟩, h3⟩, h4⟩, h5⟩, h6⟩, h7⟩ := h
  refine ⟨h1, h2, h3, h4, h5, h6, fun y hy => (h7 y hy).1, fun y hy e => ?_⟩
  rcases (h7 y hy).2 with (z | z) | z
  · exact absurd e z
  · exact .inl z
  · exact .inr z
section
variable {X : Cx} {pins : List (Addr × Obj)} {σ : L2.St} {H : Hp} {s : Shared} {th cm : Str} {scope : Scope} {f c' cc : Addr} {params : Arguments} {pm ctv : Value} {p1 p2 p3 p4 p5 p6 p7 p8 p9 : Pos} {j1 j2 : Nat} {t : Addr} {n d C : Int} {t1 t2 t3 : Tok} {A : Around} {h : Heap} {tk : Nat}
abbrev keyE (th cm : Str) (p1 p2 p3 p4 p5 p6 p7 p8 p9 : Pos) (j1 j2 : Nat) : Expr := .BinOp (.Subscript (.Name th p1) (.Constant (.int 0) j1 p2) p3) .Mult (.BinOp (.Name cm p4) .FloorDiv (.Subscript (.Name th p5) (.Constant (.int 1) j2 p6) p7) p8) p9
theorem key_call (I : Inv X pins σ H s) (L : LamK X.env.scope scope th cm) (hf : s.heap.get? f = some (PySem.W.kla_obj "<lambda>" (X.env.qual ++ "<lambda>") params (keyE th cm p1 p2 p3 p4 p5 p6 p7 p8 p9 j1 j2) scope (cloFrom X.env.cells scope.names []) pm c' ctv)) (hco : H c' = some (CodeO c' (X.env.qual ++ "<lambda>")))
    (hbind : ∀ (q : Str) (cl : List (Str × Addr)) (pm cv ctv u : Value), bindArgs (PySem.W.kla_fn "<lambda>" q params (keyE th cm p1 p2 p3 p4 p5 p6 p7 p8 p9 j1 j2) scope cl pm cv ctv) ⟨[u], []⟩ = pure [(th, u)])
    (hdep : A.depth < recursionLimit) (hcc : X.env.cells.lookup cm = some cc) (hcell : s.heap.IsCell cc (some (.int C t3))) (ht : IsTup s.heap t #[.int n t1, .int d t2]) (h1 : CDivW C d) (h2 : CMulW n (C / d))
    (hd : (th == ("__debug__" : Str)) = false) (hd2 : (cm == ("__debug__" : Str)) = false) (hcd : (cm == ("__classdict__" : Str)) = false) (kp : ∀ b o, s.heap.get? b = some o → h.get? b = some o) :
    wpAny (model X.prog X.w) A (call (.ref f) [.ref t]) (PySem.W.KeyPure (.int (n * (C / d))) { s with heap := h, toks := tk }) (fun _ _ => False) { s with heap := h, toks := tk } := by
  obtain ⟨⟨oc, vs, tt, hoc, hdc, hvc⟩, _, _⟩ := I.hok c' _ hco
  have I2 : Inv X pins σ H { s with heap := h, toks := tk } := I.kept kp
  have cl : (cloFrom X.env.cells scope.names []).lookup cm = some cc := by
    obtain ⟨c2, h2⟩ := L2.mem_lookup (cloFrom_has (cells := X.env.cells) (acc := []) (PySem.mem_of_lookup L.fr))
    rcases cloFrom_mem (PySem.mem_of_lookup h2) with hm | ⟨_, e⟩
    · cases hm
    · rw [hcc] at e
      rw [h2]
      exact congrArg some e
  have rc : codeAny (model X.prog X.w) A (.call (.ref f) ⟨[.ref t], []⟩) (fun r s' => match r with
      | .ok (.ret v) => PySem.W.KeyPure (.int (n * (C / d))) { s with heap := h, toks := tk } v s'
      | .ok _ => False
      | .error e => False) { s with heap := h, toks := tk } := by
    refine PySem.W.kla_callFunE (s := { s with heap := h, toks := tk }) hdep (kp _ _ hf) rfl L.co L.gen rfl ⟨c', oc, vs, tt, rfl, kp _ _ hoc, hdc, hvc⟩ ?_
    rw [hbind]
    refine wpAny_pure (wpAny_newFunctionEnv (fun y hy => L.noc y hy) (fun y hy => ?_) (fun h₁ hns hsb => ⟨I2.nolimit.fresh _ hsb, ?_⟩) L.kind)
    · simp only [List.mem_cons, List.not_mem_nil, or_false] at hy
      rw [hy]
      exact L.own
    have kp1 : ∀ b o, h.get? b = some o → h₁.get? b = some o := fun b o e => hsb.extBut b o (Nat.ne_of_lt (Heap.lt_size e)) (Heap.get?_push_of_some _ e)
    refine PySem.W.kla_codeExpr ?_
    refine ev_key (t3 := t3) (cc := cc) (t := t) (n := n) (d := d) (C := C) L.kind L.own hns (by simp) (ht.keeps fun b o e => kp1 b o (kp b o e)) L.fr cl ?_ h1 h2 (fun tk2 t => ?_) hd hd2 hcd
    · obtain ⟨o, ho, hdd⟩ := hcell
      exact ⟨o, kp1 _ _ (kp _ _ ho), hdd⟩
    · exact ⟨h₁, tk2, rfl, kp1, .int _ _⟩
  refine wpAny_call (codeAny_mono rc fun r s' hq => ?_)
  cases r with
  | error e => exact (show False from hq).elim
  | ok fl =>
    cases fl with
    | ret u => exact hq
    | next => exact False.elim hq
    | brk => exact False.elim hq
    | cont => exact False.elim hq
end
/-! ### sorted(xs, key=lambda thing: thing[0] * (common // thing[1])) -/
def keyQ (C : Int) (q : Rat) : Int := q.num * (C / (q.den : Int))
/-- the sorted fractions, the common denominator in the j-th slot -/
def tSortL (T : List (Addr × Str)) (K : PySem.W.Frag) (j : Nat) (te : TE) : TE := fun σ H Q => te σ H fun v H1 => Tabs T H1 ∧ ∃ (l : Addr) (bs : List (V × Rat)) (C : Int), v = .ref l ∧ SqL K H1 l (bs.map (·.1)) ∧ σ[j]? = some (some (.int C)) ∧
  (∀ b ∈ bs, ∃ p, b.1 = .ref p ∧ SqT K H1 p [.int b.2.num, .int (b.2.den : Int)] ∧ CDivW C (b.2.den : Int) ∧ CMulW b.2.num (C / (b.2.den : Int))) ∧ bs.length ≤ sizeLine ∧
  ∀ (H2 : Hp) (p : Addr) (cs : List (V × Rat)), ExtN H1 H2 → Tabs T H2 → H2 p = none → cs.Perm bs → cs.Pairwise (fun a b => keyQ C a.2 ≤ keyQ C b.2) → Q (.ref p) (upd H2 p (.lst (cs.map (·.1))))
theorem eachIs_zip {us : List Value} : ∀ {bs : List (V × Rat)}, Vals (bs.map (·.1)) us → PySem.W.EachIs (fun (v : Value) (b : V × Rat) => RelV b.1 v) us bs
  | [], h => by cases h; exact .nil
  | b :: bs, h => by
    cases h with
    | cons r t => exact .cons r (eachIs_zip t)
theorem vals_each {us : List Value} : ∀ {bs : List (V × Rat)}, PySem.W.EachIs (fun (v : Value) (b : V × Rat) => RelV b.1 v) us bs → Vals (bs.map (·.1)) us
  | [], h => by cases h; exact .nil
  | b :: bs, h => by
    cases h with
    | cons r t => exact .cons r (vals_each t)
section
variable {X : Cx} {th cm : Str} {scope : Scope} {c P : Addr} {params : Arguments} {p1 p2 p3 p4 p5 p6 p7 p8 p9 : Pos} {j1 j2 j : Nat} {T : List (Addr × Str)} {e : Expr} {te : TE} {p pos lpos kpos : Pos}
theorem pe_sortL {k : Nat} (hr : Room (k + 1) X.A) (hg : Gl X "sorted") (hm : X.mg "sorted" = none) (hp : PE X e te) (TB : TabB X.base X.mg c P) (hcode : X.env.code = .ref c) (hmT : (P, X.env.qual ++ "<lambda>") ∈ T) (hu : ∀ p ∈ T, p.1 = P → p.2 = X.env.qual ++ "<lambda>")
    (L : LamK X.env.scope scope th cm) (hdef : defaultsOf params X.env = ([], []))
    (hbind : ∀ (q : Str) (cl : List (Str × Addr)) (pm cv ctv u : Value), bindArgs (PySem.W.kla_fn "<lambda>" q params (keyE th cm p1 p2 p3 p4 p5 p6 p7 p8 p9 j1 j2) scope cl pm cv ctv) ⟨[u], []⟩ = pure [(th, u)])
    (hN : X.N[j]? = some cm) (hd : (th == ("__debug__" : Str)) = false := by decide) (hd2 : (cm == ("__debug__" : Str)) = false := by decide) (hcd : (cm == ("__classdict__" : Str)) = false := by decide)
    (he : backTo pos (starEach [e] X.env) = (false, eval e X.env) :: backTo pos (starEach [] X.env) := by rfl) (hpl : (backTo pos (starEach [e] X.env)).any (·.1) = false := by rfl) :
    PE X (.Call (.Name "sorted" p) [e] [⟨some "key", .Lambda params (keyE th cm p1 p2 p3 p4 p5 p6 p7 p8 p9 j1 j2) scope lpos, kpos⟩] pos) (tSortL T X.K j te) := by
  refine ⟨fun pins s σ H Q I h => ?_⟩
  refine wpAny_Call_Name_kw (ld_blt I hg hm (by rfl) ?_)
  refine PyProof.Rows.callWith_kw ?_ he hpl (by rfl) (by rfl)
  rw [he]
  refine Calls.spliced_cons (thn (hp.run pins s σ H _ I h) fun u s1 ⟨v, H1, I1, r1, hT, l, bs, C, ev, hs, hC, hb, hz, q1⟩ => ?_)
  subst ev
  obtain rfl : u = Value.ref l := r1
  refine Calls.spliced_nil ?_
  refine wpAny_evalAll_cons ?_
  have hfree : ∀ y ∈ scope.names, y.2 = .free → ∃ c, X.env.cells.lookup y.1 = some c := fun y hy e => by
    rcases L.free y hy e with k | k
    · exact I1.ok.has _ (.inl k)
    · exact I1.ok.has _ (.inr k)
  show wpAny _ _ (do
    let v ← eval (Expr.Lambda params (keyE th cm p1 p2 p3 p4 p5 p6 p7 p8 p9 j1 j2) scope lpos) X.env
    standAt pos
    pure v) _ _ _
  refine wpAny_bind (lam_make2 I1 TB hcode hmT hu hT hdef hfree fun f c' pm ctv H2 s2 I2 eN T2 hf hfn hfr hco => wpAny_bind (wpAny_standAt (wpAny_pure ?_)))
  refine wpAny_evalAll_nil ?_
  have hs2 : SqL X.K H2 l (bs.map (·.1)) := by
    rcases hs with (h | ⟨o, h⟩) | h
    · exact .inl (.inl (eN _ _ h fun ps z => by cases z))
    · exact .inl (.inr ⟨o, eN _ _ h fun ps z => by cases z⟩)
    · exact .inr h
  obtain ⟨its, rv, hl, hzz⟩ := I2.list hs2
  obtain ⟨m, hn, hlo⟩ := I2.loc
  obtain ⟨u, ru, lk⟩ := hlo j cm _ hN hC (.inr (.inl L.cel))
  obtain ⟨cc, hcc, hcell⟩ : ∃ cc, X.env.cells.lookup cm = some cc ∧ s2.heap.IsCell cc (some u) := by
    rcases lk with ⟨hk, _⟩ | ⟨_, h⟩
    · have hk : X.env.scope.names.lookup cm = some .local := hk
      rw [L.cel] at hk
      cases hk
    · exact h
  obtain ⟨t3, rfl⟩ : ∃ t, u = Value.int C t := ru
  have hev : PySem.W.EachIs (fun (v : Value) (b : V × Rat) => RelV b.1 v) its bs := eachIs_zip rv
  show wpAny _ _ (call (.builtin "sorted") [.ref l] [(Str.ofString "key", .ref f)]) _ _ _
  refine PySem.W.sorted_key_data (b := false) (fun b : V × Rat => .int (keyQ C b.2)) hl.isList hev (PySem.W.AllAlike.of fun _ _ => by simp [PySem.W.alike]) (PySem.W.Sortable.others fun _ => ⟨by simp, by simp⟩) hz (fun b _ => ?_) (PyProof.Rows.ksk_s1 _ _) (fun _ => PyProof.Rows.ksk_l1 _ _) (fun _ => PyProof.Rows.ksk_t1 _ _) (fun v b hR hbm h tk kp => ?_) fun out c2 h' tk kp hfresh hD hlen eo => ?_
  · have := hr.un
    show X.A.units + 2 + 0 < cLine
    omega
  · obtain ⟨t, e1, ht, h1, h2⟩ := hb b hbm
    rw [e1] at hR
    obtain rfl : v = Value.ref t := hR
    have ht2 : SqT X.K H2 t [.int b.2.num, .int (b.2.den : Int)] := by
      rcases ht with (h | ⟨o, h⟩) | h
      · exact .inl (.inl (eN _ _ h fun ps z => by cases z))
      · exact .inl (.inr ⟨o, eN _ _ h fun ps z => by cases z⟩)
      · exact .inr h
    obtain ⟨its2, rv2, htp, _⟩ := I2.tuple ht2
    obtain ⟨u1, u2, rfl, hu1, hu2⟩ := vals2 rv2
    obtain ⟨t1, rfl⟩ : ∃ t, u1 = Value.int b.2.num t := hu1
    obtain ⟨t2, rfl⟩ : ∃ t, u2 = Value.int (b.2.den : Int) t := hu2
    exact key_call I2 L hf hco hbind (by have := hr.dp; show X.A.depth < _; omega) hcc hcell htp h1 h2 hd hd2 hcd kp
  · have hpm : (bs.mergeSort (PySem.W.dataLe false fun b : V × Rat => .int (keyQ C b.2))).Perm bs := List.mergeSort_perm _ _
    have hle := PySem.W.dataLe_int (fun b : V × Rat => keyQ C b.2)
    rw [hle] at eo hpm
    have hvo := vals_each eo
    have hlen2 : ((bs.mergeSort fun a b => decide (keyQ C a.2 ≤ keyQ C b.2)).map (·.1)).length ≤ sizeLine := by
      rw [List.length_map, hpm.length_eq]
      exact hz
    have hpw : (bs.mergeSort fun a b => decide (keyQ C a.2 ≤ keyQ C b.2)).Pairwise (fun a b => keyQ C a.2 ≤ keyQ C b.2) := by
      have := List.pairwise_mergeSort (le := fun (a b : V × Rat) => decide (keyQ C a.2 ≤ keyQ C b.2)) (fun a b c h1 h2 => by simp only [decide_eq_true_eq] at *; omega) (fun a b => by simp only [Bool.or_eq_true, decide_eq_true_eq]; omega) bs
      exact this.imp fun h => of_decide_eq_true h
    refine ⟨.ref (s2.heap.objs.size + 1), upd H2 (s2.heap.objs.size + 1) (.lst ((bs.mergeSort fun a b => decide (keyQ C a.2 ≤ keyQ C b.2)).map (·.1))), I2.laid kp (Nat.le_succ _) ⟨hlen2, out, c2, hvo, hD⟩, rfl, q1 H2 _ _ eN T2 (I2.hok.fresh (Nat.le_succ _)) hpm hpw⟩
end
end Qw
namespace Qw
open PySem PySem.Spec PyProof.Rows L2 LamX
/-! ### a dict comprehension whose keys are tuples -/
/-- D[k] = v by a comprehension, k a tuple -/
theorem dt_dictSet {X : Cx} {pins : List (Addr × Obj)} {σ : L2.St} {H : Hp} {s : Shared} {A : Around} {E : Value → Shared → Prop} {D b : Addr} {kvs : List (List Key × V)} {k : List Key} {v : V} {r : Value} {Q : Unit → Shared → Prop} (hu : A.units < cLine) (I : Inv X pins σ H s) (hD : H D = some (.dT kvs)) (hb : H b = some (.tup (k.map kV))) (hz : kvs.length < sizeLine)
    (rv : RelV v r) (h : ∀ s', Inv X pins σ (upd H D (.dT (putK kvs k v))) s' → Q () s') : wpAny (model X.prog X.w) A (dictSet D (.ref b) r) Q E s := by
  obtain ⟨z, hd, xs, rel, dd⟩ := dt_of I.hok hD
  have hl1 : xs.length ≤ sizeLine := by rw [← Paired.length rel]; exact z
  have hl2 : (putK kvs k v).length ≤ sizeLine := by have := length_putK kvs k v; omega
  refine wpAny_dictSet_heap (hsz := hl1) hu (key_of I.hok hb) dd fun h' dd' hs => h _ ?_
  obtain ⟨q, es, ep, hq, h2, h3, h4, _, h5⟩ := dd'
  refine d_write I (by rw [hD]; exact True.intro) hs ⟨q, hq⟩ ⟨hl2, hd, _, (rel.put k hb rv).keeps fun c ys ec => ?_, q, es, ep, hq, h2, h3, h4, h5⟩
  rw [upd_ne (ne_of ec hD (fun z => nomatch z))]
  exact ec
section
variable {X : Cx}
/-- {k: v for target in iter}: D the new dict, its keys tuples -/
def tDcT (wi : TI) (g : TG) (tk tv : TE) (vs : List Nat) : TE := fun σ H Q => wi σ H fun J H1 => ∀ D, H1 D = none → ∃ W : Nat → Nat → Hp → Prop, (∃ m, W 0 m (upd H1 D (.dT []))) ∧ ∀ i m H, W i m H →
  (J.stop i H ∧ Q (.ref D) H) ∨ (J.go i H ∧ ∃ Nx : Hp → Prop, (∀ H', Nx H' → ∃ m', m' < m ∧ W (i + 1) m' H') ∧ ∀ x H', J.yld i H x H' → g x (wipe σ vs) H' fun σ2 H2 => wipe σ2 vs = wipe σ vs ∧
    tk σ2 H2 fun y H4 => tv σ2 H4 fun z H5 => ∃ kvs b k, y = .ref b ∧ H5 b = some (.tup (List.map kV k)) ∧ H5 D = some (.dT kvs) ∧ kvs.length < sizeLine ∧ Nx (upd H5 D (.dT (putK kvs k z))))
/-- the context of the comprehension's block -/
abbrev blkX (X : Cx) (s : Shared) (H : Hp) (scope : Scope) (C : Addr) (cl : List (Str × Addr)) (fp : List Addr) : Cx := X.blk s H scope (compEnvC scope cl C X.env) fp
theorem pe_dcT {kx vx tg iter : Expr} {scope : Scope} {own : List (Str × Nat)} {pos : Pos} {wi : TI} {g : TG} {tk tv : TE} (hu : X.A.units < cLine) (hc : X.calm = true) (hN : X.N.Nodup) (hi : PI X tg iter wi) (ok : BlkOk X.N X.env.scope scope own)
    (hg : ∀ s H C cl fp, PG (blkX X s H scope C cl fp) tg g) (hk : ∀ s H C cl fp, PE (blkX X s H scope C cl fp) kx tk) (he : ∀ s H C cl fp, PE (blkX X s H scope C cl fp) vx tv) (hs : ∀ x, foldedSetIterable iter X.env x = pure x := by intro _; rfl) :
    PE X (.DictComp kx vx [⟨tg, iter, [], 0⟩] scope pos) (tDcT wi g tk tv (own.map (·.2))) := by
  refine ⟨fun pins s σ H Q I h => ?_⟩
  rw [arm_eval_DictComp]
  have hfree : ∀ y ∈ scope.names, y.2 = .free → ∃ c, X.env.cells.lookup y.1 = some c := fun y hy e => by
    rcases ok.free y hy e with k | k
    · exact I.ok.has _ (.inl k)
    · exact I.ok.has _ (.inr k)
  refine wpAny_comprehension_free (use := none) rfl hs (closure_ok hfree) ok.kind (fun y hy e => by rw [ok.uniq y hy, e])
    (thn (hi.run pins s σ H _ I h) fun xv s1 hx => thn hx fun itv s2 h2 => ?_)
  obtain ⟨it, fp, tn, J, H2, e, I2, T, st2, f2, q⟩ := h2
  subst e
  refine wpAny_newObj_type (newEnv_comp ?_)
  -- the dict is new at D
  obtain ⟨D, hD⟩ : ∃ D, D = s2.heap.objs.size := ⟨_, rfl⟩
  rw [← hD]
  obtain ⟨W, ⟨m0, w0⟩, turn⟩ := q D (I2.hok.fresh (Nat.le_of_eq hD.symm))
  obtain ⟨s3, hs3⟩ : ∃ s3 : Shared, s3 = { s2 with heap := s2.heap.push { cls := .type "dict", data := .dict #[] } } := ⟨_, rfl⟩
  have h3 : s3.heap = s2.heap.push { cls := .type "dict", data := .dict #[] } := by rw [hs3]
  have I3 : Inv X pins σ (upd H2 D (.dT [])) s3 := by
    rw [hs3]
    refine I2.laid (t' := s2.toks) (fun b o e => Heap.get?_push_of_some _ e) (Nat.le_of_eq hD.symm) ?_
    rw [hD]
    exact dt_empty s2.heap I2.big
  have f3 : ∀ b ∈ fp, FpOk X pins (upd H2 D (.dT [])) b ∧ b < s3.heap.objs.size := fun b hb => by
    obtain ⟨o, e, _⟩ := T.obj _ _ st2 b hb
    have hlt := Heap.lt_size e
    refine ⟨⟨?_, (f2 b hb).2⟩, by rw [h3, Heap.size_push]; exact Nat.lt_succ_of_lt hlt⟩
    rw [upd_ne (by rw [hD]; exact Nat.ne_of_lt hlt)]
    exact (f2 b hb).1
  have st3 : tn 0 s3.heap := T.keep _ _ _ st2 fun b _ o e => by rw [h3]; exact Heap.get?_push_of_some _ e
  rw [← hs3]
  obtain ⟨H3, hH3⟩ : ∃ H3, H3 = upd H2 D (.dT []) := ⟨_, rfl⟩
  rw [← hH3] at I3 f3 w0
  obtain ⟨cl, hcl⟩ : ∃ cl, cl = cellsFrom (s3.heap.objs.size + 1) scope.names (cloFrom X.env.cells scope.names []) := ⟨_, rfl⟩
  have I4 := block_start I3 ok hN f3
  have pg := hg s3 H3 s3.heap.objs.size cl fp
  have pk := hk s3 H3 s3.heap.objs.size cl fp
  have pv := he s3 H3 s3.heap.objs.size cl fp
  rw [← hcl] at I4
  rw [← hcl]
  show codeAny _ _ (.compStart (.DictComp kx vx [⟨tg, iter, [], 0⟩] scope pos) 0 (.ref it) (.ref D) (compEnvC scope cl s3.heap.objs.size X.env)) _ { s3 with heap := pushCells (s3.heap.push { cls := .type "dict", data := .dict #[] }) scope.names }
  obtain ⟨s4, hs4⟩ : ∃ s4 : Shared, s4 = { s3 with heap := pushCells (s3.heap.push { cls := .type "dict", data := .dict #[] }) scope.names } := ⟨_, rfl⟩
  rw [← hs4]
  rw [← hs4] at I4
  have st4 : tn 0 s4.heap := T.keep _ _ _ st3 fun b _ o e => by rw [hs4]; exact pushCells_keeps _ _ _ _ (Heap.get?_push_of_some _ e)
  have stat : ∀ {σ' : L2.St} {H' : Hp} {s' : Shared}, Inv (blkX X s3 H3 scope s3.heap.objs.size cl fp) [] σ' H' s' → (∀ b ∈ fp, H' b = none) → ∀ b ∈ fp, FpOk (blkX X s3 H3 scope s3.heap.objs.size cl fp) [] H' b := fun {σ' H' s'} I' hn b hb =>
    ⟨hn b hb, (I'.ok.exf b hb).1, I'.ok.exfs b hb, .inl hb, fun x c e => (I'.ok.exf b hb).2 x c e, fun p hp => absurd (show p ∈ ([] : List (Addr × Obj)) ++ [] from hp) (by simp)⟩
  have nfp : ∀ b ∈ fp, H3 b = none := fun b hb => (f3 b hb).1.1
  have loop : codeAny (model X.prog X.w) X.A (.compLoop (.DictComp kx vx [⟨tg, iter, [], 0⟩] scope pos) 0 (.ref it) (.ref D) (compEnvC scope cl s3.heap.objs.size X.env)) (compPost (model X.prog X.w) X.A X.xe none (EP X pins σ Q) (.ref D) s3.heap.objs.size) s4 := by
    refine compLoop_anyD (fun n s' => ∃ i H', Inv (blkX X s3 H3 scope s3.heap.objs.size cl fp) [] (wipe σ (own.map (·.2))) H' s' ∧ tn i s'.heap ∧ (∀ b ∈ fp, H' b = none) ∧ W i n H') ?_ m0 ⟨0, H3, I4, st4, nfp, w0⟩
    rintro n s5 ⟨i, H5, I5, st5, n5, w5⟩
    rcases turn i n H5 w5 with ⟨stop, qq⟩ | ⟨go, Nx, hNx, step⟩
    · refine thnF (T.done (blkX X s3 H3 scope s3.heap.objs.size cl fp) rfl rfl rfl hc i [] s5 _ H5 (fun _ _ => False) I5 (stat I5 n5) st5 stop) fun r s6 ⟨hr, I6⟩ => ?_
      subst hr
      have I7 : Inv X pins σ H5 s6 := I3.call' (ch := fp) I6.os I6.base I6.hok I6.bare fun b hb => ⟨(f3 b hb).1.2.2.2.1, (f3 b hb).1.2.1, (f3 b hb).1.2.2.2.2.1, (f3 b hb).1.2.2.2.2.2⟩
      have nC : H5 s3.heap.objs.size = none := I6.free
      obtain ⟨m, hn, _⟩ := I6.loc
      refine ⟨m, hn, fun h'' sb => ?_⟩
      obtain ⟨f0, f1, f2, f3, f4, f5⟩ := I3.fpOk (Nat.le_refl s3.heap.objs.size) nC
      exact ⟨.ref D, H5, I7.turned (t' := s6.toks) (fun b o hb e => (sb.2 b hb).trans e) f0 f1 f3 f4 f5, rfl, qq⟩
    · refine thnF (T.item (blkX X s3 H3 scope s3.heap.objs.size cl fp) rfl rfl rfl hc i [] s5 _ H5 (fun _ _ => False) I5 (stat I5 n5) st5 go) fun r s6 ⟨u, hr, h6⟩ => ?_
      subst hr
      refine thnF h6 fun _ s7 ⟨x, H7, I7, r7, y7, st7, n7⟩ => ?_
      refine thnF (pg.run _ s7 _ H7 x u _ (I7.pinned (stat I7 n7) (T.obj _ _ st7)) r7 (step x H7 y7)) fun _ s8 ⟨σ8, H8, I8, hw8, q8⟩ => ?_
      refine wpAny_pure ?_
      rw [if_pos rfl]
      refine thnF (pk.run _ s8 σ8 H8 _ I8 q8) fun z s10 ⟨yk, H10, I10, r10, q10⟩ => ?_
      refine thnF (pv.run _ s10 σ8 H10 _ I10 q10) fun z2 s11 ⟨yv, H11, I11, r11, kvs, b, k, ek, hb11, hD11, hz11, nx⟩ => ?_
      subst ek
      obtain rfl : z = Value.ref b := r10
      refine dt_dictSet (X := blkX X s3 H3 scope s3.heap.objs.size cl fp) hu I11 hD11 hb11 hz11 r11 fun s12 I12 => ?_
      obtain ⟨m', hm, w'⟩ := hNx _ nx
      have pin' : ∀ b ∈ fp, ∀ o, s7.heap.get? b = some o → s12.heap.get? b = some o ∧ (upd H11 D (.dT (putK kvs k yv))) b = none := fun b hb o e =>
        let z := I12.pin (b, o) (List.mem_append_right _ (List.mem_append_right _ (mem_pinsAt hb e)))
        ⟨z.1, z.2.1⟩
      have hl : (wipe σ (own.map (·.2))).length = σ8.length := by rw [← hw8, wipe_length]
      refine ⟨m', hm, i + 1, _, (I12.unpinned (pins := [])).weak hl (fun j v e => ?_), T.keep _ _ _ st7 fun b hb o e => (pin' b hb o e).1, fun b hb => ?_, w'⟩
      · rw [← hw8] at e
        exact (wipe_some e).1
      · obtain ⟨o, e, _⟩ := T.obj _ _ st7 b hb
        exact (pin' b hb o e).2
  exact codeAny_compStart_dict loop (T.self X.A 0 _ _ _ st4 loop)
end
/-! ### each once -/
/-- each of them once, where it first stands -/
def nub (qs : List Rat) : List Rat := qs.foldl (fun acc q => if q ∈ acc then acc else acc ++ [q]) []
def kq (q : Rat) : List Key := [.inl q.num, .inl (q.den : Int)]
theorem kq_map (q : Rat) : (kq q).map kV = [V.int q.num, V.int (q.den : Int)] := rfl
theorem kq_inj {p q : Rat} (h : kq p = kq q) : p = q := by
  have h1 : p.num = q.num := Sum.inl.inj (List.cons.inj h).1
  have h2 : (p.den : Int) = (q.den : Int) := Sum.inl.inj (List.cons.inj (List.cons.inj h).2).1
  exact Rat.ext h1 (by omega)
def kvsOf (qs : List Rat) : List (List Key × V) := qs.map fun q => (kq q, .bl true)
theorem putK_kvs (qs : List Rat) (q : Rat) : putK (kvsOf qs) (kq q) (.bl true) = kvsOf (if q ∈ qs then qs else qs ++ [q]) := by
  have e : ((kvsOf qs).any fun kv => decide (kv.1 = kq q)) = decide (q ∈ qs) := by
    unfold kvsOf
    rw [List.any_map, Bool.eq_iff_iff, List.any_eq_true, decide_eq_true_eq]
    constructor
    · rintro ⟨p, hp, h⟩
      have h : kq p = kq q := by simpa using h
      rw [← kq_inj h]
      exact hp
    · intro h
      exact ⟨q, h, by simp⟩
  unfold putK
  rw [e]
  by_cases h : q ∈ qs
  · rw [if_pos (by simpa using h), if_pos h]
    unfold kvsOf
    rw [List.map_map]
    refine List.map_congr_left fun p _ => ?_
    show (if kq p = kq q then (kq p, V.bl true) else (kq p, V.bl true)) = _
    split <;> rfl
  · rw [if_neg (by simpa using h), if_neg h]
    unfold kvsOf
    rw [List.map_append]
    rfl
theorem nub_snoc (qs : List Rat) (q : Rat) : nub (qs ++ [q]) = if q ∈ nub qs then nub qs else nub qs ++ [q] := by
  unfold nub
  rw [List.foldl_append]
  rfl
theorem mem_nubF {x : Rat} : ∀ {qs acc : List Rat}, x ∈ qs.foldl (fun acc q => if q ∈ acc then acc else acc ++ [q]) acc ↔ x ∈ acc ∨ x ∈ qs
  | [], acc => by simp
  | q :: qs, acc => by
    rw [List.foldl_cons, mem_nubF (qs := qs)]
    by_cases h : q ∈ acc
    · rw [if_pos h]
      constructor
      · rintro (h | h)
        · exact .inl h
        · exact .inr (List.mem_cons_of_mem _ h)
      · rintro (z | z)
        · exact .inl z
        · rcases List.mem_cons.mp z with e | z
          · rw [e]
            exact .inl h
          · exact .inr z
    · rw [if_neg h, List.mem_append]
      simp only [List.mem_cons, List.not_mem_nil, or_false]
      constructor
      · rintro ((z | z) | z)
        · exact .inl z
        · exact .inr (.inl z)
        · exact .inr (.inr z)
      · rintro (z | z | z)
        · exact .inl (.inl z)
        · exact .inl (.inr z)
        · exact .inr z
theorem mem_nub {x : Rat} {qs : List Rat} : x ∈ nub qs ↔ x ∈ qs := by
  unfold nub
  rw [mem_nubF]
  simp
theorem nodup_nubF : ∀ {qs acc : List Rat}, acc.Nodup → (qs.foldl (fun acc q => if q ∈ acc then acc else acc ++ [q]) acc).Nodup
  | [], acc, h => h
  | q :: qs, acc, h => by
    rw [List.foldl_cons]
    refine nodup_nubF ?_
    split
    · exact h
    · rename_i z
      rw [List.nodup_append]
      refine ⟨h, by simp, fun a ha b hb e => ?_⟩
      have hb : b = q := by simpa using hb
      rw [e, hb] at ha
      exact z ha
theorem nodup_nub (qs : List Rat) : (nub qs).Nodup := nodup_nubF List.nodup_nil
theorem len_nubF : ∀ {qs acc : List Rat}, (qs.foldl (fun acc q => if q ∈ acc then acc else acc ++ [q]) acc).length ≤ acc.length + qs.length
  | [], acc => by simp
  | q :: qs, acc => by
    rw [List.foldl_cons]
    refine Nat.le_trans len_nubF ?_
    split
    · simp only [List.length_cons]
      omega
    · simp only [List.length_append, List.length_cons, List.length_nil]
      omega
theorem len_nub (qs : List Rat) : (nub qs).length ≤ qs.length := by
  have := len_nubF (qs := qs) (acc := [])
  unfold nub
  simpa using this
section
variable {T : List (Addr × Str)} {K : PySem.W.Frag} {σ : L2.St} {G G' G1 H H1 H' : Hp} {te : TE} {j : Nat} {wi : TI} {qs : List Rat} {p : Addr} {ss : List Slot}
theorem tbl_ne_dT {kvs : List (List Key × V)} (ps : Array Value) : HO.dT kvs ≠ .tbl ps := fun z => by cases z
theorem Step.mutD {kvs kvs' : List (List Key × V)} (a : Step T G H G1 H1) (h : Nw H p) (hg : G1 p = none) (hl : H1 p = some (.dT kvs)) : Step T G H G1 (upd H1 p (.dT kvs')) :=
  ⟨fun b u z n => by
    rw [upd_ne (h.ne z n)]
    exact a.x b u z n, fun q hq => by
    obtain ⟨ps, h1, h2, h3⟩ := a.t q hq
    refine ⟨ps, ?_, h2, fun pos cv hc => ?_⟩
    · rw [upd_ne (ne_of h1 hl (by intro z; cases z))]
      exact h1
    · obtain ⟨c, e1, e2⟩ := h3 pos cv hc
      refine ⟨c, e1, ?_⟩
      rw [upd_ne (ne_of e2 hl (by intro z; unfold CodeO at z; cases z))]
      exact e2, a.g, fun b u z => by
    rw [upd_ne (ne_of_none z hg)]
    exact a.s b u z, a.f0⟩
theorem Step.takeD {kvs : List (List Key × V)} (a : Step T G H G1 H1) (h : Nw H p) (hg : G1 p = none) (hl : H1 p = some (.dT kvs)) : Step T G H (upd G1 p (.dT kvs)) H1 :=
  ⟨a.x, a.t, fun b u z => by
    rw [upd_ne (ne_of_none (a.g b u z) hg)]
    exact a.g b u z, fun b u z => by
    by_cases hb : b = p
    · subst hb
      rw [upd_same] at z
      cases z
      exact ⟨hl, tbl_ne_dT⟩
    · rw [upd_ne hb] at z
      exact a.s b u z, fun b l z n1 n2 => by
    rw [upd_ne (h.ne z n1)]
    exact a.f0 b l z n1 n2⟩
/-- tuples that stand are taken among the clean -/
theorem Step.gain {bs : List Addr} (a : Step T G H G1 H1) (hb : ∀ b ∈ bs, ∃ xs, H1 b = some (.tup xs)) : ∃ G2, Step T G H G2 H1 ∧ Same G1 G2 ∧ ∀ b ∈ bs, G2 b = H1 b := by
  refine ⟨fun b => if b ∈ bs then H1 b else G1 b, ⟨a.x, a.t, fun b o z => ?_, fun b o z => ?_, fun b l z n1 n2 => ?_⟩, fun b o z => ?_, fun b h => if_pos h⟩
  · show (if b ∈ bs then H1 b else G1 b) = some o
    split
    · exact (a.s b o (a.g b o z)).1
    · exact a.g b o z
  · have z : (if b ∈ bs then H1 b else G1 b) = some o := z
    by_cases h : b ∈ bs
    · rw [if_pos h] at z
      obtain ⟨xs, e⟩ := hb b h
      rw [e] at z
      cases z
      exact ⟨e, tup_tbl⟩
    · rw [if_neg h] at z
      exact a.s b o z
  · show (if b ∈ bs then H1 b else G1 b) = G b
    by_cases h : b ∈ bs
    · obtain ⟨xs, e⟩ := hb b h
      rw [a.x b _ z n1] at e
      exact absurd (Option.some.inj e) (n2 xs)
    · rw [if_neg h]
      exact a.f0 b l z n1 n2
  · show (if b ∈ bs then H1 b else G1 b) = some o
    split
    · exact (a.s b o z).1
    · exact z
def IsDt (kvs : List (List Key × V)) : Rp := fun G v => ∃ d, v = .ref d ∧ G d = some (.dT kvs)
instance (kvs : List (List Key × V)) : Mn (IsDt kvs) := ⟨fun _ _ _ e ⟨d, h1, h2⟩ => ⟨d, h1, e _ _ h2⟩⟩
theorem rv_dcT {vs : List Nat} (hi : Ri T K wi σ G (qs.map dq)) (hz : qs.length ≤ 100000) (hj : j ∈ vs) (hl : j < σ.length) : Rv T (tDcT wi (gName j) (tVar j) (tC (.bl true)) vs) σ G (IsDt (kvsOf (nub qs))) := fun H t c Q q =>
  hi H t c _ fun J G2 H2 s2 yl => fun D hD => by
    have c0 : G2 D = none := clean_none s2.s hD
    refine ⟨fun i m H' => m = qs.length - i ∧ i ≤ qs.length ∧ ∃ Gi, Step T G2 H2 Gi H' ∧ Gi D = none ∧ H' D = some (.dT (kvsOf (nub (qs.take i)))), ⟨qs.length, by simp, Nat.zero_le _, G2, Step.newH s2.t s2.s hD, c0, upd_same⟩, fun i m H' hW => ?_⟩
    obtain ⟨rfl, hle, Gi, st, gD, hDl⟩ := hW
    by_cases hlt : i < qs.length
    · refine .inr ⟨yl.go i Gi H' st.g st.s (by simpa using hlt), fun H'' => i + 1 ≤ qs.length ∧ ∃ Gi, Step T G2 H2 Gi H'' ∧ Gi D = none ∧ H'' D = some (.dT (kvsOf (nub (qs.take (i + 1))))), fun H'' hN => ⟨qs.length - (i + 1), by omega, rfl, hN.1, hN.2⟩, fun x H'' hy => ?_⟩
      have ha : (qs.map dq)[i]? = some (dq qs[i]) := by
        rw [List.getElem?_map, List.getElem?_eq_getElem hlt]
        rfl
      obtain ⟨G3, s3, dx⟩ := yl.yld i Gi H' x H'' _ st.g st.s st.t ha hy
      have et : qs.take (i + 1) = qs.take i ++ [qs[i]] := by
        rw [List.take_add_one, List.getElem?_eq_getElem hlt]
        rfl
      have st3 := st.trans s3
      -- D is no list: it stays where it is
      have hD3 : H'' D = some (.dT (kvsOf (nub (qs.take i)))) := s3.x D _ hDl tbl_ne_dT
      obtain ⟨a, xs, rfl, hs, hd⟩ := dp_tup dx
      obtain ⟨y1, y2, rfl, h1, h2⟩ := dp2 hd
      rw [dp_int h1, dp_int h2] at hs
      have gD3 : G3 D = none := (s3.f0 D _ hDl tbl_ne_dT (fun xs z => by cases z)).trans gD
      have hjl : j < (wipe σ vs).length := by
        rw [wipe_length]
        exact hl
      have hHa : H'' a = some (.tup ((kq qs[i]).map kV)) := (s3.s a _ hs).1
      have hln : (kvsOf (nub (qs.take i))).length < sizeLine := by
        unfold kvsOf
        rw [List.length_map]
        have h1 := len_nub (qs.take i)
        rw [List.length_take] at h1
        exact small_lt (by omega)
      refine ⟨wipe_set hj _, .ref a, by rw [List.getElem?_set, if_pos rfl, if_pos hjl], _, a, kq qs[i], rfl, hHa, hD3, hln, hlt, G3, st3.mutD (Nw.of hD) gD3 hD3, gD3, ?_⟩
      rw [upd_same, putK_kvs, et, nub_snoc]
    · have ei : qs.take i = qs := List.take_of_length_le (by omega)
      rw [ei] at hDl
      have st2 := st.takeD (Nw.of hD) gD hDl
      exact .inl ⟨yl.stop i Gi H' st.g st.s (by simpa using Nat.le_of_not_lt hlt), q _ _ H' (s2.trans st2) ⟨D, rfl, upd_same⟩⟩
theorem keys_dp : ∀ {qs : List Rat} {bs : List Addr}, IsKeys H (kvsOf qs) bs → (∀ b ∈ bs, G b = H b) → DpAll K G (bs.map V.ref) (qs.map dq)
  | [], _, h, _ => by
    cases h
    exact .nil
  | q :: qs, _, h, e => by
    cases h with
    | cons r t =>
      rename_i b bs
      refine .cons ?_ (keys_dp t fun b hb => e b (List.mem_cons_of_mem _ hb))
      have r : H b = some (.tup [V.int q.num, V.int (q.den : Int)]) := r
      rw [← e b (by simp)] at r
      exact .tup r (.cons (.int _) (.cons (.int _) .nil))
/-- list(d) -/
theorem rv_listD (h : Rv T te σ G (IsDt (kvsOf qs))) : Rv T (tCB (fun xs H Q => ∃ d kvs, xs = [V.ref d] ∧ L2.Rd H d (.dT kvs) ∧ ∀ p bs, H p = none → IsKeys H kvs bs → Q (.ref p) (upd H p (.lst (bs.map V.ref)))) (tCons te tNil)) σ G (IsL K (qs.map dq)) := fun H t c Q q =>
  h H t c _ fun v G2 H2 s2 hv => by
    obtain ⟨d, rfl, hd⟩ := hv
    refine ⟨d, _, rfl, .inl (s2.s _ _ hd).1, fun p bs hp hk => ?_⟩
    have hb : ∀ b ∈ bs, ∃ xs, H2 b = some (.tup xs) := by
      have : ∀ {kvs : List (List Key × V)} {bs : List Addr}, IsKeys H2 kvs bs → ∀ b ∈ bs, ∃ xs, H2 b = some (.tup xs) := by
        intro kvs bs h
        induction h with
        | nil => intro b hb; cases hb
        | cons r t ih =>
          intro b hb
          rcases List.mem_cons.mp hb with e | hb
          · rw [e]
            exact ⟨_, r⟩
          · exact ih b hb
      exact this hk
    obtain ⟨G3, s3, e3, k3⟩ := (Step.refl (T := T) s2.t s2.s).gain hb
    have s4 : Step T G3 H2 (upd G3 p (.lst (bs.map V.ref))) (upd H2 p (.lst (bs.map V.ref))) := Step.new s3.t s3.s hp lst_tbl
    exact q _ _ _ ((s2.trans s3).trans s4) ⟨p, _, rfl, upd_same, sdpAll s4.g (keys_dp hk k3)⟩
/-- sorted by the common denominator -/
theorem rv_sortL {C : Int} (sl : Sl K G σ ss) (ej : ss[j]? = some (.d (.int C))) (h : Rv T te σ G (IsD K (.list (qs.map dq)))) (hq : ∀ q ∈ qs, CDivW C (q.den : Int) ∧ CMulW q.num (C / (q.den : Int))) (hz : qs.length ≤ 100000) :
    Rv T (tSortL T K j te) σ G (fun G' v => ∃ ps : List Rat, ps.Perm qs ∧ ps.Pairwise (fun a b => keyQ C a ≤ keyQ C b) ∧ IsL K (ps.map dq) G' v) := fun H t c Q q =>
  h H t c _ fun v G2 H2 s2 hv => by
    obtain ⟨l, xs, rfl, hs, hd⟩ := dp_lst hv
    obtain ⟨y, hy, dy⟩ := sl.get ej
    rw [dp_int dy] at hy
    have hlen := dpAll_len hd
    rw [List.length_map] at hlen
    have hzip : ∀ b ∈ xs.zip qs, b.2 ∈ qs ∧ Dp K G2 b.1 (dq b.2) := by
      have : ∀ {xs : List V} {qs : List Rat}, DpAll K G2 xs (qs.map dq) → ∀ b ∈ xs.zip qs, b.2 ∈ qs ∧ Dp K G2 b.1 (dq b.2) := by
        intro xs qs
        induction qs generalizing xs with
        | nil => intro _ b hb; simp at hb
        | cons q qs ih =>
          intro h b hb
          cases h with
          | cons h1 h2 =>
            rcases List.mem_cons.mp hb with e | hb
            · rw [e]
              exact ⟨by simp, h1⟩
            · obtain ⟨a1, a2⟩ := ih h2 b hb
              exact ⟨List.mem_cons_of_mem _ a1, a2⟩
      exact this hd
    have hfst : (xs.zip qs).map (·.1) = xs := List.map_fst_zip (by omega)
    have hsnd : (xs.zip qs).map (·.2) = qs := List.map_snd_zip (by omega)
    refine ⟨s2.t, l, xs.zip qs, C, rfl, by rw [hfst]; exact s2.s.lst hs, hy, fun b hb => ?_, by rw [List.length_zip]; exact small_line (by omega), fun H3 p cs eN t3 hp hpm hpw => ?_⟩
    · obtain ⟨a1, a2⟩ := hzip b hb
      obtain ⟨a, ys, e, ha, hda⟩ := dp_tup a2
      obtain ⟨y1, y2, rfl, h1, h2⟩ := dp2 hda
      rw [dp_int h1, dp_int h2] at ha
      exact ⟨a, e, s2.s.tup ha, (hq _ a1).1, (hq _ a1).2⟩
    · have c3 : Cl G2 H3 := s2.s.ext eN
      have s3 : Step T G2 H2 G2 H3 := ⟨eN, t3, Same.refl _, c3, fun _ _ _ _ _ => rfl⟩
      have s4 : Step T G2 H3 (upd G2 p (.lst (cs.map (·.1)))) (upd H3 p (.lst (cs.map (·.1)))) := Step.new t3 c3 hp lst_tbl
      refine q _ _ _ ((s2.trans s3).trans s4) ⟨cs.map (·.2), ?_, ?_, p, _, rfl, upd_same, ?_⟩
      · have := hpm.map (·.2)
        rw [hsnd] at this
        exact this
      · rw [List.pairwise_map]
        exact hpw
      · have : ∀ {cs : List (V × Rat)}, (∀ b ∈ cs, b ∈ xs.zip qs) → DpAll K G2 (cs.map (·.1)) ((cs.map (·.2)).map dq) := by
          intro cs
          induction cs with
          | nil => intro _; exact .nil
          | cons b cs ih =>
            intro h
            exact .cons (hzip b (h b (by simp))).2 (ih fun b hb => h b (List.mem_cons_of_mem _ hb))
        exact sdpAll s4.g (this fun b hb => hpm.mem_iff.mp hb)
end
end Qw
namespace Qw
open PySem PySem.Spec PyProof.Rows L2 LamX
theorem tyes {σ : L2.St} {H : Hp} {Q : Bool → Hp → Prop} (h : Q true H) : tYes σ H Q := h
section
variable {T : List (Addr × Str)} {K : PySem.W.Frag} {σ : L2.St} {G G' H H' : Hp} {te : TE} {wi wi1 : TI} {g : TG} {aa : TA} {i j l : Nat} {d : PyData} {ds es : List PyData} {ss : List Slot} {v : V}
/-- f(*xs, ..), [*xs, ..] -/
theorem ra_star (h : Rv T te σ G (IsD K (.list ds))) (hr : Ra T K aa σ G es) : Ra T K (StX.tStar K te aa) σ G (ds ++ es) := fun H t c Q q =>
  h H t c _ fun v G2 H2 s2 hv => by
    obtain ⟨a, xs, rfl, hs, hd⟩ := dp_lst hv
    refine ⟨a, xs, rfl, .inr (s2.s.lst hs), (hr.mono s2.g) H2 s2.t s2.s _ fun vs G3 H3 s3 hvs => q _ G3 H3 (s2.trans s3) (dpAll_app (sdpAll s3.g hd) hvs)⟩
/-- math.gcd -/
theorem rv_gcd {n m : Int} {r : List V → Hp → VK → Prop} (hr : ∀ a b H Q, Q (V.int ((Nat.gcd a.natAbs b.natAbs : Nat) : Int)) H → r [.int a, .int b] H Q) (h : Ra T K aa σ G [.int n, .int m]) : Rv T (tCB r aa) σ G (IsD K (.int ((Nat.gcd n.natAbs m.natAbs : Nat) : Int))) :=
  rv_cb h fun G1 H1 vs t1 c1 hv Q q => by
    obtain ⟨a, b, rfl, ha, hb⟩ := dp2 hv
    rw [dp_int ha, dp_int hb]
    exact hr n m H1 Q (q _ G1 H1 (Step.refl t1 c1) (.int _))
theorem Own.start {D : Addr} (s : Step T G H G H) (hD : H D = none) : Own T K G H G (upd H D (.lst [])) D [] := ⟨Step.newH s.t s.s hD, Nw.of hD, clean_none s.s hD, [], upd_same, .nil⟩
theorem Own.add {G0 H0 : Hp} {o : Addr} {acc : List V} (w : Own T K G0 H0 G H o ds) (hl : H o = some (.lst acc)) (hv : Dp K G v d) : Own T K G0 H0 G (upd H o (.lst (acc ++ [v]))) o (ds ++ [d]) := by
  obtain ⟨acc', h1, h2⟩ := w.ex
  rw [hl] at h1
  have h1 := Option.some.inj h1
  injection h1 with h1
  subst h1
  exact ⟨w.st.mut w.nw w.gn hl, w.nw, w.gn, _, upd_same, dpAll_app h2 (.cons hv .nil)⟩
/-- [e for x in xs for a, b in ..] -/
theorem rv_lc2 {α β : Type} {A : α → PyData} {B1 B2 C : β → PyData} {inn : α → List β} {xs : List α} {vs vs1 : List Nat} (sl : Sl K G σ ss) (hi : Ri T K wi σ G (xs.map A)) (hz : (xs.flatMap inn).length ≤ 90000) (hj : j ∈ vs) (h1 : i ∈ vs1) (h2 : l ∈ vs1)
    (hw : ∀ a ∈ xs, ∀ σ' G1, Same G G1 → Sl K G1 σ' ((wipeS ss vs).set j (.d (A a))) → Ri T K wi1 σ' G1 ((inn a).map fun b => .tuple [B1 b, B2 b]))
    (he : ∀ a ∈ xs, ∀ b ∈ inn a, ∀ σ' G1, Same G G1 → Sl K G1 σ' (((wipeS ((wipeS ss vs).set j (.d (A a))) vs1).set i (.d (B1 b))).set l (.d (B2 b))) → Rv T te σ' G1 (IsD K (C b))) :
    Rv T (tLc2 wi (gName j) tYes wi1 (gTup K 2 (gCons (gName i) (gCons (gName l) gNil))) tYes te vs vs1) σ G (IsL K ((xs.flatMap inn).map C)) := fun H t c Q q =>
  hi H t c _ fun J G2 H2 s2 yl => fun D hD => by
    have hlen : ∀ k, ((xs.take k).flatMap inn).length ≤ 90000 := fun k => by
      refine Nat.le_trans ?_ hz
      have e : xs = xs.take k ++ xs.drop k := (List.take_append_drop k xs).symm
      have e2 : xs.flatMap inn = (xs.take k).flatMap inn ++ (xs.drop k).flatMap inn := by
        rw [← List.flatMap_append, ← e]
      rw [e2, List.length_append]
      omega
    refine ⟨fun k m H' => m = xs.length - k ∧ k ≤ xs.length ∧ ∃ Gi, Own T K G2 H2 Gi H' D (((xs.take k).flatMap inn).map C), ⟨xs.length, by simp, Nat.zero_le _, G2, Own.start (Step.refl s2.t s2.s) hD⟩, fun k m H' hW => ?_⟩
    obtain ⟨rfl, hle, Gi, ow⟩ := hW
    by_cases hlt : k < xs.length
    · refine .inr ⟨yl.go k Gi H' ow.st.g ow.st.s (by simpa using hlt), fun H'' => k + 1 ≤ xs.length ∧ ∃ Gi, Own T K G2 H2 Gi H'' D (((xs.take (k + 1)).flatMap inn).map C), fun H'' hN => ⟨xs.length - (k + 1), by omega, rfl, hN.1, hN.2⟩, fun x H'' hy => ?_⟩
      have ha : (xs.map A)[k]? = some (A xs[k]) := by
        rw [List.getElem?_map, List.getElem?_eq_getElem hlt]
        rfl
      obtain ⟨G3, s3, dx⟩ := yl.yld k Gi H' x H'' _ ow.st.g ow.st.s ow.st.t ha hy
      have et : (xs.take (k + 1)).flatMap inn = (xs.take k).flatMap inn ++ inn xs[k] := by
        rw [List.take_add_one, List.getElem?_eq_getElem hlt, List.flatMap_append]
        simp
      have ow3 := ow.step s3
      have e3 : Same G G3 := Same.trans s2.g ow3.st.g
      have slA := ((sl.mono e3).wipe vs).set (i := j) dx
      refine ⟨wipe_set hj _, tyes (iteT ?_)⟩
      refine (hw xs[k] (List.getElem_mem hlt) _ G3 e3 slA) H'' ow3.st.t ow3.st.s _ fun J1 G4 H4 s4 yl1 => ?_
      have hl1 : ((xs.take k).flatMap inn).length + (inn xs[k]).length ≤ 90000 := by
        have := hlen (k + 1)
        rw [et, List.length_append] at this
        exact this
      refine ⟨fun n m H' => m = (inn xs[k]).length - n ∧ n ≤ (inn xs[k]).length ∧ ∃ Gi, Same G4 Gi ∧ Own T K G2 H2 Gi H' D (((xs.take k).flatMap inn ++ (inn xs[k]).take n).map C), ⟨(inn xs[k]).length, by simp, Nat.zero_le _, G4, Same.refl _, by
        rw [List.take_zero, List.append_nil]
        exact ow3.step s4⟩, fun n m H5 hW => ?_⟩
      obtain ⟨rfl, hle1, Gj, e5, ow5⟩ := hW
      by_cases hlt1 : n < (inn xs[k]).length
      · refine .inr ⟨yl1.go n Gj H5 e5 ow5.st.s (by simpa using hlt1), fun H'' => n + 1 ≤ (inn xs[k]).length ∧ ∃ Gi, Same G4 Gi ∧ Own T K G2 H2 Gi H'' D (((xs.take k).flatMap inn ++ (inn xs[k]).take (n + 1)).map C), fun H'' hN => ⟨(inn xs[k]).length - (n + 1), by omega, rfl, hN.1, hN.2⟩, fun x1 H6 hy1 => ?_⟩
        have hb : ((inn xs[k]).map fun b => PyData.tuple [B1 b, B2 b])[n]? = some (.tuple [B1 (inn xs[k])[n], B2 (inn xs[k])[n]]) := by
          rw [List.getElem?_map, List.getElem?_eq_getElem hlt1]
          rfl
        obtain ⟨G6, s6, dx1⟩ := yl1.yld n Gj H5 x1 H6 _ e5 ow5.st.s ow5.st.t hb hy1
        have ow6 := ow5.step s6
        have e36 : Same G3 G6 := Same.trans (Same.trans s4.g e5) s6.g
        refine g_pair s6.s dx1 fun y z hy hz => ⟨wipe_set2 h1 h2 _ _, tyes (iteT ?_)⟩
        have slB := ((((slA.mono e36).wipe vs1).set (i := i) hy).set (i := l) hz)
        refine (he xs[k] (List.getElem_mem hlt) _ (List.getElem_mem hlt1) _ G6 (Same.trans e3 e36) slB) H6 ow6.st.t ow6.st.s _ fun v G7 H7 s7 hv => ?_
        have ow7 := ow6.step s7
        obtain ⟨acc, a1, a2⟩ := ow7.ex
        have ha := dpAll_len a2
        refine ⟨acc, a1, small_lt (by
          rw [ha, List.length_map, List.length_append, List.length_take]
          omega), hlt1, G7, Same.trans (Same.trans e5 s6.g) s7.g, ?_⟩
        have w8 := ow7.add a1 hv
        have en : (inn xs[k]).take (n + 1) = (inn xs[k]).take n ++ [(inn xs[k])[n]] := by
          rw [List.take_add_one, List.getElem?_eq_getElem hlt1]
          rfl
        rw [en, ← List.append_assoc, List.map_append (f := C)]
        exact w8
      · have ei : (inn xs[k]).take n = inn xs[k] := List.take_of_length_le (by omega)
        rw [ei, ← et] at ow5
        exact .inl ⟨yl1.stop n Gj H5 e5 ow5.st.s (by simpa using Nat.le_of_not_lt hlt1), hlt, Gj, ow5⟩
    · have ei : xs.take k = xs := List.take_of_length_le (by omega)
      rw [ei] at ow
      obtain ⟨G3, st3, e3, il⟩ := ow.take
      exact .inl ⟨yl.stop k Gi H' ow.st.g ow.st.s (by simpa using Nat.le_of_not_lt hlt), q _ _ H' (s2.trans st3) il⟩
end
end Qw
namespace Qw
open PySem PySem.Spec PyProof.Rows L2 LamX
open Sem (wp)
/-! ### isinstance of a function -/
theorem slot_fun_ga : PySem.Slot "function" "__getattribute__" "object.__getattribute__" :=
  .of (owner := "object") (n := "__getattribute__") (by rw [typeLookup_type, builtinLookup_eq_fast]; kernel_rfl) (by decide +kernel) (by decide +kernel) (by decide +kernel)
    (by first | exact .inl (by decide +kernel) | exact .inr (by decide +kernel)) (by rw [isSubtype_type]; kernel_rfl)
theorem lk_fun_class : typeLookup (.type "function") "__class__" = pure (some (.builtin "object.__class__")) := by rw [typeLookup_type, builtinLookup_eq_fast]; kernel_rfl
theorem sub_fun_owner : isSubtype (.type "function") (.type (".".intercalate ("object.__class__".cutAt '.').dropLast)) = pure true := by
  rw [F.owner_object_class, isSubtype_type]; kernel_rfl
section
variable {prog : Program} {w : World} {A : Around} {E : Value → Shared → Prop} {h : Heap} {g : Array GenState} {d : Drawn} {t : Nat} {os : OsState} {a : Addr} {o : Obj}
theorem cls_get_fun {R : Result → Shared → Prop} (hx : h.get? a = some o) (hc : o.cls = .type "function") (hq : R (.ok (.ret (.type "function"))) ⟨h, g, d, t, os⟩) :
    codeAny (model prog w) A (.call (.builtin "getset_descriptor.__get__") ⟨[.builtin "object.__class__", .ref a, .type "function"], []⟩) R ⟨h, g, d, t, os⟩ := by
  have hT : (⟨h, g, d, t, os⟩ : Shared).TypeIs (.ref a) "function" := ⟨_, hx, hc⟩
  have hT5 : (⟨h, g, d, t, os⟩ : Shared).TypeIs (.builtin "object.__class__") "getset_descriptor" := F.typeOf_object_class
  have f8 := sub_fun_owner
  refine codeAny_call_builtin F.slot_gs_get.plain F.entry_gs_get (F.slot_gs_get.check _ _ _ _ _ _ _ _ hT5 (F.args_gs_get _ _ _) ?_)
  repeat (any_goals (first | assumption | wp_step))
  refine ⟨Code.quiet_builtin _ (by decide +kernel), codeAny_builtin F.entry_object_class ?_⟩
  repeat (any_goals (first | assumption | wp_step))
theorem cls_entry_fun {tk : Tok} {Q : Fin → Shared → Prop} (hx : h.get? a = some o) (hc : o.cls = .type "function") (hq : Q (.done (.ret (.type "function"))) ⟨h, g, d, t, os⟩) :
    wpAny (model prog w) A (Builtin.«object.__getattribute__» ⟨[.ref a, .str "__class__" tk], []⟩) Q E ⟨h, g, d, t, os⟩ := by
  have hT : (⟨h, g, d, t, os⟩ : Shared).TypeIs (.ref a) "function" := ⟨_, hx, hc⟩
  have hT5 : (⟨h, g, d, t, os⟩ : Shared).TypeIs (.builtin "object.__class__") "getset_descriptor" := F.typeOf_object_class
  have f4 := lk_fun_class
  have f5 := F.typeOf_object_class
  have f6 := F.slot_gs_get.lookup
  have f7 := F.slot_gs_set.lookup
  repeat (any_goals (first | assumption | wp_step))
  refine cls_get_fun hx hc ?_
  repeat (any_goals (first | assumption | wp_step))
theorem cls_call_fun {tk : Tok} {R : Result → Shared → Prop} (hx : h.get? a = some o) (hc : o.cls = .type "function") (hq : R (.ok (.ret (.type "function"))) ⟨h, g, d, t, os⟩) :
    codeAny (model prog w) A (.call (.builtin "object.__getattribute__") ⟨[.ref a, .str "__class__" tk], []⟩) R ⟨h, g, d, t, os⟩ :=
  codeAny_call_builtin slot_fun_ga.plain F.entry_object_getattribute (slot_fun_ga.check _ _ _ _ _ _ _ _ (show (⟨h, g, d, t, os⟩ : Shared).TypeIs (.ref a) "function" from ⟨_, hx, hc⟩) (F.args_object_getattribute_2 _ _) (cls_entry_fun hx hc hq))
theorem cls_by_fun {tk : Tok} {Q : Value → Shared → Prop} (hx : h.get? a = some o) (hc : o.cls = .type "function") (hq : Q (.type "function") ⟨h, g, d, t, os⟩) : wpAny (model prog w) A (getAttrBy (.ref a) (.str "__class__" tk) false) Q E ⟨h, g, d, t, os⟩ := by
  have hT : (⟨h, g, d, t, os⟩ : Shared).TypeIs (.ref a) "function" := ⟨_, hx, hc⟩
  have f2 := slot_fun_ga.lookup
  have f3 := slot_fun_ga.bind (.ref a)
  repeat (any_goals (first | assumption | wp_step))
  refine cls_call_fun hx hc ?_
  repeat (any_goals (first | assumption | wp_step))
theorem cls_attr_fun {Q : Option Value → Shared → Prop} (hx : h.get? a = some o) (hc : o.cls = .type "function") (hq : Q (some (.type "function")) ⟨h, g, d, t + 1, os⟩) : wpAny (model prog w) A (getAttr? (.ref a) "__class__") Q E ⟨h, g, d, t, os⟩ := by
  unfold getAttr? getAttrBy?
  repeat (any_goals (first | assumption | with_reducible apply cls_by_fun hx hc | wp_step))
end
theorem kitx_fun {K : PySem.W.Frag} {a : Addr} : PySem.W.KitX K (.ref a) (.type "function") (PySem.W.KitAt a "function") := PySem.W.kitx_of PySem.W.kitAt_ty (fun {_ _ _ _ _ s} p k => by
  obtain ⟨h, g, d, t, os⟩ := s
  obtain ⟨o, h1, h2⟩ := p
  exact cls_attr_fun h1 h2 k)
/-! ### the types of data -/
def tyD : PyData → String
  | .none => "NoneType"
  | .bool _ => "bool"
  | .int _ => "int"
  | .str _ => "str"
  | .list _ => "list"
  | .tuple _ => "tuple"
  | .dict [] => "dict"
  | .dict _ => "function"
theorem kit_dp {X : Cx} {pins : List (Addr × Obj)} {σ : L2.St} {H : Hp} {s : Shared} {x : V} {u : Value} {d : PyData} (I : Inv X pins σ H s) (rx : RelV x u) (h : Dp X.K H x d) : ∃ P : Heap → Prop, PySem.W.KitX X.K u (.type (tyD d)) P ∧ P s.heap ∧ u ≠ .builtin "__main__.__loader__#opaque" := by
  cases h with
  | non => exact kit_of I rx (.base .non)
  | bl b => exact kit_of I rx (.base (.bl b))
  | int i => exact kit_of I rx (.base (.int i))
  | str y => exact kit_of I rx (.base (.str y))
  | lst e _ => exact kit_of I rx (.base (.lst e))
  | tup e _ => exact kit_of I rx (.base (.tup e))
  | dct e => exact kit_of I rx (.base (.dK e))
  | @fn a h1 h2 =>
    obtain rfl : u = Value.ref a := rx
    obtain ⟨o, ho, hc⟩ := Option.map_eq_some_iff.mp (show (X.K.lookup a).map (·.cls) = some (.type "function") from h2)
    exact ⟨_, kitx_fun, ⟨o, I.kIn _ _ ho, hc⟩, fun z => nomatch z⟩
/-- isinstance(x, T), isinstance(x, (T, ..)), x a datum -/
def rIsD (K : PySem.W.Frag) : List V → Hp → VK → Prop := fun xs H Q => ∃ (x : V) (n : String) (d : PyData) (b : Bool), xs = [x, .ty n] ∧ Dp K H x d ∧ kitB (tyD d) n = some b ∧ Q (.bl b) H
def rIsDT (K : PySem.W.Frag) : List V → Hp → VK → Prop := fun xs H Q => ∃ (x : V) (tp : Addr) (ns : List String) (d : PyData) (b : Bool), xs = [x, .ref tp] ∧ H tp = some (.tup (ns.map V.ty)) ∧ Dp K H x d ∧ PySem.W.kitAny K (.type (tyD d)) (ns.map Value.type) = some b ∧ Q (.bl b) H
section
variable {X : Cx}
theorem call_isD : CallR X (.builtin "isinstance") (rIsD X.K) := by
  intro pins s σ H xs us Q I r h
  obtain ⟨x, n, d, b, rfl, hd, e, q⟩ := h
  obtain ⟨u1, u2, rfl, r1, r2⟩ := vals2 r
  cases (show u2 = Value.type n from r2)
  obtain ⟨P, Z, p, hx⟩ := kit_dp I r1 hd
  exact PySem.W.kia_one Z I.kIn p (kit_ty e) hx fun tk => ⟨.bl b, H, I.tok tk, rfl, q⟩
theorem vals_ty : ∀ {ns : List String} {us : List Value}, Vals (ns.map V.ty) us → us = ns.map Value.type
  | [], _, h => by cases h; rfl
  | n :: ns, _, h => by
    cases h with
    | cons r t =>
      rw [vals_ty t]
      exact congrArg (· :: _) r
theorem call_isDT : CallR X (.builtin "isinstance") (rIsDT X.K) := by
  intro pins s σ H xs us Q I r h
  obtain ⟨x, tp, ns, d, b, rfl, hT, hd, e, q⟩ := h
  obtain ⟨u1, u2, rfl, r1, r2⟩ := vals2 r
  cases (show u2 = Value.ref tp from r2)
  obtain ⟨P, Z, p, hx⟩ := kit_dp I r1 hd
  obtain ⟨_, its, rv, o, h1, h2, n, h3⟩ := (show ObjOk X.prog X.w H s.heap tp (.tup (ns.map V.ty)) from I.hok tp _ hT)
  have e3 := vals_ty rv
  subst e3
  obtain ⟨oc, od, dt, sl⟩ := o
  simp only at h2 h3
  subst h2 h3
  exact PySem.W.kia_tup Z I.kIn p h1 e hx fun tk => ⟨.bl b, H, I.tok tk, rfl, q⟩
end
theorem call_isDK (K : PySem.W.Frag) {X : Cx} (h : X.K = K) : CallR X (.builtin "isinstance") (rIsD K) := h ▸ call_isD
theorem call_isDTK (K : PySem.W.Frag) {X : Cx} (h : X.K = K) : CallR X (.builtin "isinstance") (rIsDT K) := h ▸ call_isDT
def isLst : PyData → Bool
  | .list _ => true
  | _ => false
def isTupD : PyData → Bool
  | .tuple _ => true
  | _ => false
def isIntD : PyData → Bool
  | .int _ => true
  | .bool _ => true
  | _ => false
def isBolD : PyData → Bool
  | .bool _ => true
  | _ => false
def isDct : PyData → Bool
  | .dict [] => true
  | _ => false
theorem kit_list : ∀ d, kitB (tyD d) "list" = some (isLst d)
  | .none | .bool _ | .int _ | .str _ | .list _ | .tuple _ | .dict [] | .dict (_ :: _) => by first | exact (by decide +kernel : kitB "NoneType" "list" = some false) | exact (by decide +kernel : kitB "bool" "list" = some false) | exact (by decide +kernel : kitB "int" "list" = some false) | exact (by decide +kernel : kitB "str" "list" = some false) | exact (by decide +kernel : kitB "list" "list" = some true) | exact (by decide +kernel : kitB "tuple" "list" = some false) | exact (by decide +kernel : kitB "dict" "list" = some false) | exact (by decide +kernel : kitB "function" "list" = some false)
theorem kit_tuple : ∀ d, kitB (tyD d) "tuple" = some (isTupD d)
  | .none | .bool _ | .int _ | .str _ | .list _ | .tuple _ | .dict [] | .dict (_ :: _) => by first | exact (by decide +kernel : kitB "NoneType" "tuple" = some false) | exact (by decide +kernel : kitB "bool" "tuple" = some false) | exact (by decide +kernel : kitB "int" "tuple" = some false) | exact (by decide +kernel : kitB "str" "tuple" = some false) | exact (by decide +kernel : kitB "list" "tuple" = some false) | exact (by decide +kernel : kitB "tuple" "tuple" = some true) | exact (by decide +kernel : kitB "dict" "tuple" = some false) | exact (by decide +kernel : kitB "function" "tuple" = some false)
theorem kit_int : ∀ d, kitB (tyD d) "int" = some (isIntD d)
  | .none | .bool _ | .int _ | .str _ | .list _ | .tuple _ | .dict [] | .dict (_ :: _) => by first | exact (by decide +kernel : kitB "NoneType" "int" = some false) | exact (by decide +kernel : kitB "bool" "int" = some true) | exact (by decide +kernel : kitB "int" "int" = some true) | exact (by decide +kernel : kitB "str" "int" = some false) | exact (by decide +kernel : kitB "list" "int" = some false) | exact (by decide +kernel : kitB "tuple" "int" = some false) | exact (by decide +kernel : kitB "dict" "int" = some false) | exact (by decide +kernel : kitB "function" "int" = some false)
theorem kit_bool : ∀ d, kitB (tyD d) "bool" = some (isBolD d)
  | .none | .bool _ | .int _ | .str _ | .list _ | .tuple _ | .dict [] | .dict (_ :: _) => by first | exact (by decide +kernel : kitB "NoneType" "bool" = some false) | exact (by decide +kernel : kitB "bool" "bool" = some true) | exact (by decide +kernel : kitB "int" "bool" = some false) | exact (by decide +kernel : kitB "str" "bool" = some false) | exact (by decide +kernel : kitB "list" "bool" = some false) | exact (by decide +kernel : kitB "tuple" "bool" = some false) | exact (by decide +kernel : kitB "dict" "bool" = some false) | exact (by decide +kernel : kitB "function" "bool" = some false)
theorem kit_dict : ∀ d, kitB (tyD d) "dict" = some (isDct d)
  | .none | .bool _ | .int _ | .str _ | .list _ | .tuple _ | .dict [] | .dict (_ :: _) => by first | exact (by decide +kernel : kitB "NoneType" "dict" = some false) | exact (by decide +kernel : kitB "bool" "dict" = some false) | exact (by decide +kernel : kitB "int" "dict" = some false) | exact (by decide +kernel : kitB "str" "dict" = some false) | exact (by decide +kernel : kitB "list" "dict" = some false) | exact (by decide +kernel : kitB "tuple" "dict" = some false) | exact (by decide +kernel : kitB "dict" "dict" = some true) | exact (by decide +kernel : kitB "function" "dict" = some false)
theorem kitAny2 {K : PySem.W.Frag} {t a b : String} {p q : Bool} (h1 : kitB t a = some p) (h2 : kitB t b = some q) : PySem.W.kitAny K (.type t) [.type a, .type b] = some (p || q) :=
  kitAny_cons (kit_ty h1) (fun e => by
    subst e
    rw [Bool.false_or]
    refine kitAny_cons (kit_ty h2) (fun e => ?_) fun e => e
    rw [e]
    exact kitAny_nil) fun e => by rw [e]; rfl
theorem kitAny3 {K : PySem.W.Frag} {t a b c : String} {p q r : Bool} (h1 : kitB t a = some p) (h2 : kitB t b = some q) (h3 : kitB t c = some r) : PySem.W.kitAny K (.type t) [.type a, .type b, .type c] = some (p || (q || r)) :=
  kitAny_cons (kit_ty h1) (fun e => by
    rw [e, Bool.false_or]
    exact kitAny2 h2 h3) fun e => by rw [e]; rfl
section
variable {T : List (Addr × Str)} {K : PySem.W.Frag} {σ : L2.St} {G : Hp} {te : TE} {d : PyData}
theorem rv_isi {n : String} {b : Bool} (h : Rv T te σ G (IsD K d)) (e : kitB (tyD d) n = some b) : Rv T (tCB (rIsD K) (tCons te (tCons (tC (.ty n)) tNil))) σ G (IsD K (.bool b)) := fun H t c Q q =>
  h H t c _ fun v G2 H2 s2 hv => ⟨v, n, d, b, rfl, s2.s.dp hv, e, q _ G2 H2 s2 (.bl _)⟩
theorem rv_isi2 {n1 n2 : String} {b1 b2 : Bool} (h : Rv T te σ G (IsD K d)) (e1 : kitB (tyD d) n1 = some b1) (e2 : kitB (tyD d) n2 = some b2) : Rv T (tCB (rIsDT K) (tCons te (tCons (tTup (tCons (tC (.ty n1)) (tCons (tC (.ty n2)) tNil))) tNil))) σ G (IsD K (.bool (b1 || b2))) := fun H t c Q q =>
  h H t c _ fun v G2 H2 s2 hv => ⟨small_line (Nat.le_of_ble_eq_true rfl), fun p hp => by
    have s3 : Step T G2 H2 G2 (upd H2 p (.tup [.ty n1, .ty n2])) := Step.newH s2.t s2.s hp
    exact ⟨v, p, [n1, n2], d, _, rfl, upd_same, s3.s.dp hv, kitAny2 e1 e2, q _ G2 _ (s2.trans s3) (.bl _)⟩⟩
theorem rv_isi3 {n1 n2 n3 : String} {b1 b2 b3 : Bool} (h : Rv T te σ G (IsD K d)) (e1 : kitB (tyD d) n1 = some b1) (e2 : kitB (tyD d) n2 = some b2) (e3 : kitB (tyD d) n3 = some b3) : Rv T (tCB (rIsDT K) (tCons te (tCons (tTup (tCons (tC (.ty n1)) (tCons (tC (.ty n2)) (tCons (tC (.ty n3)) tNil)))) tNil))) σ G (IsD K (.bool (b1 || (b2 || b3)))) := fun H t c Q q =>
  h H t c _ fun v G2 H2 s2 hv => ⟨small_line (Nat.le_of_ble_eq_true rfl), fun p hp => by
    have s3 : Step T G2 H2 G2 (upd H2 p (.tup [.ty n1, .ty n2, .ty n3])) := Step.newH s2.t s2.s hp
    exact ⟨v, p, [n1, n2, n3], d, _, rfl, upd_same, s3.s.dp hv, kitAny3 e1 e2 e3, q _ G2 _ (s2.trans s3) (.bl _)⟩⟩
/-! lists or tuples -/
def isSeq : PyData → Bool
  | .list _ => true
  | .tuple _ => true
  | _ => false
def itemsD : PyData → List PyData
  | .list ds => ds
  | .tuple ds => ds
  | _ => []
theorem isSeq_or (d : PyData) : (isLst d || isTupD d) = isSeq d := by
  cases d <;> rfl
theorem dp_seq {v : V} (h : Dp K G v d) (hs : isSeq d = true) : ∃ a xs, v = .ref a ∧ (G a = some (.lst xs) ∨ G a = some (.tup xs)) ∧ DpAll K G xs (itemsD d) := by
  cases h with
  | lst e h => exact ⟨_, _, rfl, .inl e, h⟩
  | tup e h => exact ⟨_, _, rfl, .inr e, h⟩
  | _ => cases hs
theorem rv_len2 (h : Rv T te σ G (IsD K d)) (hs : isSeq d = true) : Rv T (tCB (fun xs H Q => ∃ p ys, xs = [.ref p] ∧ (SqL K H p ys ∨ SqT K H p ys) ∧ Q (.int ys.length) H) (tCons te tNil)) σ G (IsD K (.int (itemsD d).length)) := fun H t c Q q =>
  h H t c _ fun v G2 H2 s2 hv => by
    obtain ⟨a, xs, rfl, he, hd⟩ := dp_seq hv hs
    refine ⟨a, xs, rfl, he.elim (fun e => .inl (s2.s.lst e)) (fun e => .inr (s2.s.tup e)), ?_⟩
    rw [dpAll_len hd]
    exact q _ G2 H2 s2 (.int _)
def rIxZ (K : PySem.W.Frag) : R2 := fun x y H Q => rIxL K x y H Q ∨ rIxT K x y H Q
theorem ix_seq {X : Cx} : IxR X (rIxZ X.K) := IxR.or ix_list ix_tup
def rSlZ (K : PySem.W.Frag) : V → Option Int → Option Int → Hp → VK → Prop := fun x lo hi H Q => rSlL K x lo hi H Q ∨ rSlT K x lo hi H Q
theorem sl_seq {X : Cx} : SlR X (rSlZ X.K) := SlR.or sl_list sl_tup
/-! in a comprehension's block -/
theorem ixK_seq (K : PySem.W.Frag) {X : Cx} (h : X.K = K) : IxR X (rIxZ K) := h ▸ ix_seq
theorem ixK_tup (K : PySem.W.Frag) {X : Cx} (h : X.K = K) : IxR X (rIxT K) := h ▸ ix_tup
theorem ixK_list (K : PySem.W.Frag) {X : Cx} (h : X.K = K) : IxR X (rIxL K) := h ▸ ix_list
theorem rv_ix2 {tb : TE} {n : Int} {e : PyData} (ha : Rv T te σ G (IsD K d)) (hs : isSeq d = true) (hb : Rv T tb σ G (IsD K (.int n))) (hn : atI (itemsD d) n = some e) : Rv T (tOp (rIxZ K) te tb) σ G (IsD K e) :=
  rv_op ha hb fun G1 H1 x y t c hx hy Q q => by
    obtain ⟨a, xs, rfl, he, hd⟩ := dp_seq hx hs
    obtain ⟨v, hv, dv⟩ := at_dp hd hn
    rcases he with h | h
    · exact .inl ⟨a, xs, n, v, rfl, dp_int hy, c.lst h, hv, q v G1 H1 (Step.refl t c) dv⟩
    · exact .inr ⟨a, xs, n, v, rfl, dp_int hy, c.tup h, hv, q v G1 H1 (Step.refl t c) dv⟩
theorem ri_or1 {w1 w2 : TI} {ds : List PyData} (h : Ri T K w1 σ G ds) : Ri T K (fun σ H R => w1 σ H R ∨ w2 σ H R) σ G ds := fun H t c R q => .inl (h H t c R q)
theorem ri_or2 {w1 w2 : TI} {ds : List PyData} (h : Ri T K w2 σ G ds) : Ri T K (fun σ H R => w1 σ H R ∨ w2 σ H R) σ G ds := fun H t c R q => .inr (h H t c R q)
theorem ri_seq {tl : TE} (h : Rv T tl σ G (IsD K d)) (hs : isSeq d = true) : Ri T K (fun σ H R => iList K tl σ H R ∨ iTup K tl σ H R) σ G (itemsD d) := by
  cases d with
  | list ds => exact ri_or1 (ri_list h)
  | tuple ds => exact ri_or2 (ri_tup h)
  | _ => cases hs
/-- zip of two lists, of two tuples -/
theorem ri_zipT {aa : TA} {ds es : List PyData} (h : Ra T K aa σ G [.tuple ds, .tuple es]) : Ri T K (RZ.iZipA K aa) σ G (List.zipWith (fun d e => .tuple [d, e]) ds es) := fun H t c R q =>
  h H t c _ fun vs G2 H2 s2 hv => by
    obtain ⟨x, y, rfl, hx, hy⟩ := dp2 hv
    obtain ⟨a, xs, rfl, hs, hd⟩ := dp_tup hx
    obtain ⟨b, ys, rfl, hs', hd'⟩ := dp_tup hy
    have at1 : ∀ G' H', Same G2 G' → Cl G' H' → SqT K H' a xs := fun G' H' e c' => c'.tup (e _ _ hs)
    have at2 : ∀ G' H', Same G2 G' → Cl G' H' → SqT K H' b ys := fun G' H' e c' => c'.tup (e _ _ hs')
    have hl1 := dpAll_len hd
    have hl2 := dpAll_len hd'
    refine ⟨a, b, xs, ys, rfl, .inr ⟨s2.s.tup hs, s2.s.tup hs', q _ G2 H2 s2 ⟨fun i G' H' e c' hi => ?_, fun i G' H' e c' hi => ⟨xs, ys, at1 G' H' e c', at2 G' H' e c', ?_⟩, fun i G' H' x H'' d e c' t' hdd hyy => ?_⟩⟩⟩
    · rw [List.length_zipWith] at hi
      have i1 : i < ds.length := by omega
      have i2 : i < es.length := by omega
      obtain ⟨v, hv, _⟩ := dpAll_get hd (List.getElem?_eq_getElem i1)
      obtain ⟨w', hw, _⟩ := dpAll_get hd' (List.getElem?_eq_getElem i2)
      exact ⟨xs, ys, v, w', at1 G' H' e c', at2 G' H' e c', hv, hw⟩
    · rw [List.length_zipWith] at hi
      omega
    · obtain ⟨T', x1, x2, rfl, nT, rfl, f1, f2⟩ := hyy
      rw [List.getElem?_zipWith] at hdd
      have g1 := f1 _ (at1 G' H' e c')
      have g2 := f2 _ (at2 G' H' e c')
      obtain ⟨d1, e1, dd1⟩ := dpAll_get' hd g1
      obtain ⟨d2, e2, dd2⟩ := dpAll_get' hd' g2
      rw [e1, e2] at hdd
      have hdd := Option.some.inj hdd
      subst hdd
      have st : Step T G' H' (upd G' T' (.tup [x1, x2])) (upd H' T' (.tup [x1, x2])) := Step.new t' c' nT tup_tbl
      exact ⟨_, st, .tup upd_same (.cons (sdp st.g (sdp e dd1)) (.cons (sdp st.g (sdp e dd2)) .nil))⟩
theorem ri_zipL {aa : TA} {ds es : List PyData} (h : Ra T K aa σ G [.list ds, .list es]) : Ri T K (RZ.iZipA K aa) σ G (List.zipWith (fun d e => .tuple [d, e]) ds es) := fun H t c R q =>
  h H t c _ fun vs G2 H2 s2 hv => by
    obtain ⟨x, y, rfl, hx, hy⟩ := dp2 hv
    obtain ⟨a, xs, rfl, hs, hd⟩ := dp_lst hx
    obtain ⟨b, ys, rfl, hs', hd'⟩ := dp_lst hy
    have at1 : ∀ G' H', Same G2 G' → Cl G' H' → SqL K H' a xs := fun G' H' e c' => c'.lst (e _ _ hs)
    have at2 : ∀ G' H', Same G2 G' → Cl G' H' → SqL K H' b ys := fun G' H' e c' => c'.lst (e _ _ hs')
    have hl1 := dpAll_len hd
    have hl2 := dpAll_len hd'
    refine ⟨a, b, xs, ys, rfl, .inl ⟨s2.s.lst hs, s2.s.lst hs', q _ G2 H2 s2 ⟨fun i G' H' e c' hi => ?_, fun i G' H' e c' hi => ⟨xs, ys, at1 G' H' e c', at2 G' H' e c', ?_⟩, fun i G' H' x H'' d e c' t' hdd hyy => ?_⟩⟩⟩
    · rw [List.length_zipWith] at hi
      have i1 : i < ds.length := by omega
      have i2 : i < es.length := by omega
      obtain ⟨v, hv, _⟩ := dpAll_get hd (List.getElem?_eq_getElem i1)
      obtain ⟨w', hw, _⟩ := dpAll_get hd' (List.getElem?_eq_getElem i2)
      exact ⟨xs, ys, v, w', at1 G' H' e c', at2 G' H' e c', hv, hw⟩
    · rw [List.length_zipWith] at hi
      omega
    · obtain ⟨T', x1, x2, rfl, nT, rfl, f1, f2⟩ := hyy
      rw [List.getElem?_zipWith] at hdd
      have g1 := f1 _ (at1 G' H' e c')
      have g2 := f2 _ (at2 G' H' e c')
      obtain ⟨d1, e1, dd1⟩ := dpAll_get' hd g1
      obtain ⟨d2, e2, dd2⟩ := dpAll_get' hd' g2
      rw [e1, e2] at hdd
      have hdd := Option.some.inj hdd
      subst hdd
      have st : Step T G' H' (upd G' T' (.tup [x1, x2])) (upd H' T' (.tup [x1, x2])) := Step.new t' c' nT tup_tbl
      exact ⟨_, st, .tup upd_same (.cons (sdp st.g (sdp e dd1)) (.cons (sdp st.g (sdp e dd2)) .nil))⟩
end
section
variable {X : Cx}
theorem pi_or {tg iter : Expr} {w1 w2 : TI} (h1 : PI X tg iter w1) (h2 : PI X tg iter w2) : PI X tg iter (fun σ H R => w1 σ H R ∨ w2 σ H R) := ⟨fun pins s σ H R I h => h.elim (h1.run pins s σ H R I) (h2.run pins s σ H R I)⟩
theorem pg_or {tg : Expr} {g1 g2 : TG} (h1 : PG X tg g1) (h2 : PG X tg g2) : PG X tg (fun v σ H Q => g1 v σ H Q ∨ g2 v σ H Q) := ⟨fun pins s σ H v u Q I r h => h.elim (h1.run pins s σ H v u Q I r) (h2.run pins s σ H v u Q I r)⟩
end
end Qw
namespace Qw
open PySem PySem.Spec PyProof.Rows L2 LamX
/-! ### raw fractions, corners, curves -/
def nthD (d : PyData) (i : Nat) : PyData := (itemsD d)[i]?.getD .none
def wholeB : PyData → Bool
  | .int _ => true
  | _ => false
def posB : PyData → Bool
  | .int n => decide (1 ≤ n)
  | _ => false
def numD : PyData → Int
  | .int n => n
  | _ => 0
def fracB (d : PyData) : Bool := isSeq d && (decide (((itemsD d).length : Int) = 2) && (wholeB (nthD d 0) && posB (nthD d 1)))
def cornB (d : PyData) : Bool := isSeq d && (decide (((itemsD d).length : Int) = 2) && (fracB (nthD d 0) && fracB (nthD d 1)))
def belowB (x y : PyData) : Bool := decide (numD (nthD x 0) * numD (nthD y 1) < numD (nthD y 0) * numD (nthD x 1))
def noCurve1 (d : PyData) : Bool := !isSeq d || (!decide (((itemsD d).length : Int) = 2) || (!isSeq (nthD d 0) || !fracB (nthD d 1)))
def noCurve2 (d : PyData) : Bool := decide (((itemsD (nthD d 0)).length : Int) = 0) || (!(((itemsD (nthD d 0)).map cornB).all id) || !PyData.eqv (nthD (nthD (nthD (nthD d 0) 0) 0) 0) (.int 0))
def lastB (d : PyData) : Bool := (List.zipWith (fun a b => belowB (nthD a 0) (nthD b 0)) (itemsD (nthD d 0)) ((itemsD (nthD d 0)).drop 1)).all id
def curvB (d : PyData) : Bool := if noCurve1 d then false else if noCurve2 d then false else lastB d
mutual
def smallD : PyData → Bool
  | .int n => decide (n.natAbs < 2 ^ 200)
  | .list ds => smallAll ds
  | .tuple ds => smallAll ds
  | _ => true
def smallAll : List PyData → Bool
  | [] => true
  | d :: ds => smallD d && smallAll ds
end
theorem smallAll_get : ∀ {ds : List PyData}, smallAll ds = true → ∀ d ∈ ds, smallD d = true
  | [], _, d, h => by cases h
  | a :: ds, hs, d, h => by
    have f := Bool.and_eq_true_iff.mp (show (smallD a && smallAll ds) = true from hs)
    rcases List.mem_cons.mp h with e | h
    · rw [e]
      exact f.1
    · exact smallAll_get f.2 d h
theorem small_items {d : PyData} (h : smallD d = true) : ∀ e ∈ itemsD d, smallD e = true := by
  cases d with
  | list ds => exact smallAll_get h
  | tuple ds => exact smallAll_get h
  | _ => intro e he; cases he
theorem small_nth {d : PyData} (h : smallD d = true) (i : Nat) : smallD (nthD d i) = true := by
  unfold nthD
  cases e : (itemsD d)[i]? with
  | none => rfl
  | some x => exact small_items h x (List.mem_of_getElem? e)
theorem small_num {d : PyData} (h : smallD d = true) : (numD d).natAbs < 2 ^ 200 := by
  cases d with
  | int n => exact of_decide_eq_true h
  | _ => exact (by decide : (0 : Int).natAbs < 2 ^ 200)
theorem whole_is {d : PyData} (h : wholeB d = true) : d = .int (numD d) := by
  cases d <;> first | rfl | cases h
theorem pos_is {d : PyData} (h : posB d = true) : d = .int (numD d) ∧ 1 ≤ numD d := by
  cases d with
  | int n => exact ⟨rfl, of_decide_eq_true h⟩
  | _ => cases h
theorem len_nth {d : PyData} (i : Nat) (h : i < (itemsD d).length) : atI (itemsD d) (i : Int) = some (nthD d i) := by
  have e : (itemsD d)[i]? = some (itemsD d)[i] := List.getElem?_eq_getElem h
  unfold nthD
  rw [e]
  exact atI_nat (j := i) e
/-- a fraction as it is passed -/
structure FracIs (d : PyData) : Prop where
  s : isSeq d = true
  l : (itemsD d).length = 2
  n : nthD d 0 = .int (numD (nthD d 0))
  m : nthD d 1 = .int (numD (nthD d 1))
  p : 1 ≤ numD (nthD d 1)
theorem frac_is {d : PyData} (h : fracB d = true) : FracIs d := by
  unfold fracB at h
  simp only [Bool.and_eq_true, decide_eq_true_eq] at h
  obtain ⟨h1, h2, h3, h4⟩ := h
  exact ⟨h1, by omega, whole_is h3, (pos_is h4).1, (pos_is h4).2⟩
structure CornIs (d : PyData) : Prop where
  s : isSeq d = true
  l : (itemsD d).length = 2
  a : fracB (nthD d 0) = true
  b : fracB (nthD d 1) = true
theorem corn_is {d : PyData} (h : cornB d = true) : CornIs d := by
  unfold cornB at h
  simp only [Bool.and_eq_true, decide_eq_true_eq] at h
  obtain ⟨h1, h2, h3, h4⟩ := h
  exact ⟨h1, by omega, h3, h4⟩
def restD : PyData → PyData
  | .list ds => .list (ds.drop 1)
  | d => .tuple ((itemsD d).drop 1)
section
variable {T : List (Addr × Str)} {K : PySem.W.Frag} {σ : L2.St} {G : Hp} {te : TE} {d : PyData}
abbrev tIx (K : PySem.W.Frag) (te ti : TE) : TE := tOp (rIxZ K) te ti
theorem rv_nth {i : Nat} (h : Rv T te σ G (IsD K d)) (hs : isSeq d = true) (hl : i < (itemsD d).length) : Rv T (tIx K te (tC (.int (i : Int)))) σ G (IsD K (nthD d i)) := rv_ix2 h hs rv_i (len_nth i hl)
theorem rv_nth0 (h : Rv T te σ G (IsD K d)) (hs : isSeq d = true) (hl : 0 < (itemsD d).length) : Rv T (tIx K te (tC (.int 0))) σ G (IsD K (nthD d 0)) := rv_nth (i := 0) h hs hl
theorem rv_nth1 (h : Rv T te σ G (IsD K d)) (hs : isSeq d = true) (hl : 1 < (itemsD d).length) : Rv T (tIx K te (tC (.int 1))) σ G (IsD K (nthD d 1)) := rv_nth (i := 1) h hs hl
/-- xs[1:] of a list, of a tuple that is not empty -/
theorem rv_rest (h : Rv T te σ G (IsD K d)) (hs : isSeq d = true) (hl : 0 < (itemsD d).length) : Rv T (tSl (rSlZ K) te (tPart (tC (.int 1))) tNoPart) σ G (IsD K (restD d)) := fun H t c Q q =>
  h H t c _ fun v G2 H2 s2 hv => ⟨1, rfl, by
    cases hv with
    | @lst a xs ds he hd =>
      refine .inl ⟨a, xs, rfl, s2.s.lst he, fun p hp => ?_⟩
      have e : cutV xs (some 1) none = xs.drop 1 := cutV_from xs 1
      rw [e]
      have st : Step T G2 H2 (upd G2 p (.lst (xs.drop 1))) (upd H2 p (.lst (xs.drop 1))) := Step.new s2.t s2.s hp lst_tbl
      exact q _ _ _ (s2.trans st) (.lst upd_same (dpAll_drop 1 (sdpAll st.g hd)))
    | @tup a xs ds he hd =>
      have hl : 0 < ds.length := hl
      have hxl := dpAll_len hd
      refine .inr ⟨a, xs, rfl, s2.s.tup he, fun z => ?_, fun p hp => ?_⟩
      · have z1 : HT.sIx xs.length 0 (some ((1 : Nat) : Int)) = 0 := z.1
        rw [HT.sIx_nat] at z1
        omega
      · have e : cutV xs (some 1) none = xs.drop 1 := cutV_from xs 1
        rw [e]
        have st : Step T G2 H2 (upd G2 p (.tup (xs.drop 1))) (upd H2 p (.tup (xs.drop 1))) := Step.new s2.t s2.s hp tup_tbl
        exact q _ _ _ (s2.trans st) (.tup upd_same (dpAll_drop 1 (sdpAll st.g hd)))
    | _ => cases hs⟩
theorem ri_pairs {ta tb : TE} (h : Rv T ta σ G (IsD K d)) (hs : isSeq d = true) (h2 : Rv T tb σ G (IsD K (restD d))) : Ri T K (RZ.iZipA K (tCons ta (tCons tb tNil))) σ G (List.zipWith (fun d e => .tuple [d, e]) (itemsD d) ((itemsD d).drop 1)) := by
  cases d with
  | list ds => exact ri_zipL (ra_cons h (ra_cons h2 ra_nil))
  | tuple ds => exact ri_zipT (ra_cons h (ra_cons h2 ra_nil))
  | _ => cases hs
end
end Qw
namespace Qw
open PySem PySem.Spec PyProof.Rows L2 LamX
open Sem (wp)
/-! ### a function is what it is -/
theorem slot_fun_eq : PySem.Slot "function" "__eq__" "object.__eq__" :=
  .of (owner := "object") (n := "__eq__") (by rw [typeLookup_type, builtinLookup_eq_fast]; kernel_rfl) (by decide +kernel) (by decide +kernel) (by decide +kernel)
    (by first | exact .inl (by decide +kernel) | exact .inr (by decide +kernel)) (by rw [isSubtype_type]; kernel_rfl)
section
variable {prog : Program} {w : World} {A : Around} {E : Value → Shared → Prop} {h : Heap} {g : Array GenState} {d : Drawn} {t : Nat} {os : OsState} {a : Addr} {o : Obj}
theorem try_fun {Q : Option Value → Shared → Prop} (hx : h.get? a = some o) (hc : o.cls = .type "function") (hq : Q (some (.bool true)) ⟨h, g, d, t, os⟩) :
    wpAny (model prog w) A (tryCompare (.ref a) "__eq__" (.ref a)) Q E ⟨h, g, d, t, os⟩ := by
  simp only [tryCompare]
  have hT : (⟨h, g, d, t, os⟩ : Shared).TypeIs (.ref a) "function" := ⟨_, hx, hc⟩
  exact wpAny_bind (wpAny_callSpecialIfBound?_slot hT slot_fun_eq (wpAny_call_entry slot_fun_eq hT F.cmpEntry_eq (objEq_entry_same ⟨_, rfl, wpAny_pure hq⟩) (F.cmpArgs_eq _ _)))
theorem rich_fun {Q : Value → Shared → Prop} (hx : h.get? a = some o) (hc : o.cls = .type "function") (hu : A.units < cLine) (hq : Q (.bool true) ⟨h, g, d, t, os⟩) :
    wpAny (model prog w) A (richCompare .Eq (.ref a) (.ref a)) Q E ⟨h, g, d, t, os⟩ := by
  have hT : (⟨h, g, d, t, os⟩ : Shared).TypeIs (.ref a) "function" := ⟨_, hx, hc⟩
  simp only [richCompare, cmpInfo_Eq, oneThing_ref]
  repeat (first | with_reducible refine wpAny_cRoomFor hu ?_ | (with_reducible refine wpAny_loadPart_at hx ?_; rw [hc]) | with_reducible refine try_fun hx hc ?_ | wp_step)
  exact hq
end
/-- == of data, of a function with itself -/
def rEqA (K : PySem.W.Frag) : R2 := fun x y H Q => rEqD K x y H Q ∨ ∃ a, x = .ref a ∧ y = .ref a ∧ PySem.W.typeIn K (.ref a) = some (.type "function") ∧ Q (.bl true) H
theorem op_eqA {X : Cx} (hu : X.A.units + 64 < cLine) : OpR X (compareOp .Eq) (rEqA X.K) := by
  intro pins s σ H x y v u Q I rx ry h
  rcases h with h | ⟨a, rfl, rfl, ht, q⟩
  · exact op_eqD hu pins s σ H x y v u Q I rx ry h
  · obtain rfl : v = Value.ref a := rx
    obtain rfl : u = Value.ref a := ry
    obtain ⟨o, ho, hc⟩ := Option.map_eq_some_iff.mp (show (X.K.lookup a).map (·.cls) = some (.type "function") from ht)
    obtain ⟨hp, g, d, t, os⟩ := s
    exact rich_fun (I.kIn _ _ ho) hc (by omega) ⟨.bl true, H, I, rfl, q⟩
/-- what is compared with itself at last -/
def atomOk : PyData → Bool
  | .none => true
  | .int _ => true
  | .bool _ => true
  | .str x => PyData.canLay0 (.str x)
  | .dict (_ :: _) => true
  | _ => false
section
variable {T : List (Addr × Str)} {K : PySem.W.Frag} {σ : L2.St} {G : Hp} {ta tb te : TE} {d : PyData}
theorem rv_eqSelf (ha : Rv T ta σ G (IsD K d)) (hb : Rv T tb σ G (IsD K d)) (hd : atomOk d = true) : Rv T (tOp (rEqA K) ta tb) σ G (IsD K (.bool true)) :=
  rv_op ha hb fun G1 H1 x y t c hx hy Q q => by
    have sh : SeqAt.shaped d = true → PyData.canLay0 d = true → ∃ d' e', L2.Dp K H1 x d' ∧ L2.Dp K H1 y e' ∧ SeqAt.shaped d' = true ∧ SeqAt.shaped e' = true ∧ Q (.bl (PyData.eqv d' e')) H1 := fun h1 h2 =>
      ⟨d, d, dp_up _ _ (seqs_shaped h1) (c.dp hx), dp_up _ _ (seqs_shaped h1) (c.dp hy), h1, h1, by rw [SeqAt.eqv_refl d h2]; exact q _ G1 H1 (Step.refl t c) (.bl _)⟩
    cases d with
    | none => exact .inl (sh rfl rfl)
    | int i => exact .inl (sh rfl rfl)
    | bool b => exact .inl (sh rfl rfl)
    | str z =>
      have e : PyData.canLay0 (.str z) = true := hd
      refine .inl (sh ?_ e)
      unfold SeqAt.shaped
      rw [e]
      rfl
    | list ds => cases hd
    | tuple ds => cases hd
    | dict l =>
      cases hx with
      | dct _ => cases hd
      | fn h1 h2 =>
        cases hy with
        | @fn a2 _ _ =>
          exact .inr ⟨_, rfl, rfl, h2, q _ G1 H1 (Step.refl t c) (.bl _)⟩
/-- list(d.items()), d empty -/
theorem rv_noItems (h : Rv T te σ G (IsD K (.dict []))) : Rv T (LiI.tListItems te) σ G (IsD K (.list [])) := fun H t c Q q =>
  h H t c _ fun v G2 H2 s2 hv => by
    cases hv with
    | @dct a he =>
      refine ⟨a, [], rfl, (s2.s a _ he).1, fun H' p ts hk hp ht hpn hl hpr => ?_⟩
      cases hpr
      have st : Step T G2 H2 (upd G2 p (.lst [])) H' := by
        refine ⟨ExtN.of hk, s2.t.ext hk, fun b u z => ?_, fun b u z => ?_, fun b l z _ _ => ?_⟩
        · rw [upd_ne (ne_of_none (s2.s b u z).1 hp)]
          exact z
        · by_cases hb : b = p
          · rw [hb, upd_same] at z
            cases z
            rw [hb]
            exact ⟨hl, lst_tbl⟩
          · rw [upd_ne hb] at z
            exact ⟨hk _ _ (s2.s b u z).1, (s2.s b u z).2⟩
        · rw [upd_ne (ne_of_none z hp)]
      exact q _ _ _ (s2.trans st) (.lst upd_same .nil)
end
end Qw
namespace Qw
open PySem PySem.Spec PyProof.Rows L2 LamX
/-! ### try with several clauses that name their error -/
/-- what one named clause wishes of an exception of the body: slot i is its name's -/
def wAs2 (K : PySem.W.Frag) (c : Value) (i : Nat) (ts : Addr → Value → Option Addr → TS) (Wout : WX) (D : Ends) : WX := fun cls d σ H =>
  ∃ b, PySem.W.exmOne K cls c = some b ∧ (b = true → ∀ a, H a = none → i < σ.length → ts a cls d { nx := fun σ' H' => D.nx (σ'.set i none) H', rt := D.rt, bk := fun σ' H' => D.bk (σ'.set i none) H', ct := fun σ' H' => D.ct (σ'.set i none) H' } (σ.set i (some (.ref a))) H) ∧
    (b = false → Wout cls d σ H)
/-- the wishes of the clauses, one after the other -/
def wManyAs (K : PySem.W.Frag) (Wout : WX) (D : Ends) : List (Value × Nat × (Addr → Value → Option Addr → TS)) → WX
  | [] => Wout
  | (c, i, ts) :: r => wAs2 K c i ts (wManyAs K Wout D r) D
inductive HdsAs (X : Cx) : List ExceptHandler → List (Value × Nat × (Addr → Value → Option Addr → TS)) → Prop
  | nil : HdsAs X [] []
  | cons {x n : Str} {c : Value} {i : Nat} {ts : Addr → Value → Option Addr → TS} {b₀ : Stmt} {suite : List Stmt} {np pos' : Pos} {hds : List ExceptHandler} {l : List (Value × Nat × (Addr → Value → Option Addr → TS))} (hi : X.N[i]? = some n) (hln : X.env.kindOf n = some .local) (hc : Names X x c)
      (hsu : ∀ (a : Addr) (oe : Obj) (cls : Value) (d : Option Addr) (pn : List (Addr × Obj)), Zc cls d oe → (∃ vs, oe.data = .fields vs) → PSs (X.suite a ((a, oe) :: pn)) (b₀ :: suite) (ts a cls d)) (r : HdsAs X hds l) :
      HdsAs X (.ExceptHandler (some (.Name x np)) (some n) (b₀ :: suite) pos' :: hds) ((c, i, ts) :: l)
section
variable {X : Cx} {body : List Stmt} {h₀ : ExceptHandler} {hds : List ExceptHandler} {l : List (Value × Nat × (Addr → Value → Option Addr → TS))} {pos : Pos} {tb : WX → TS} {Wout : WX}
theorem ps_try_manyAs (hs : X.stack = X.env :: X.outer) (hf : X.env.frame = some X.env.locals) (hN : X.N.Nodup) (tk : Takes X Wout)
    (hb : ∀ (W : WX) (pn : List (Addr × Obj)) (xe : Value → Shared → Prop), Takes (X.tr pn xe) W → PassesOwn (model X.prog X.w) X.A X.env xe → PSs (X.tr pn xe) body (tb W))
    (hh : HdsAs X (h₀ :: hds) l) : PS X (.Try body (h₀ :: hds) [] [] pos) (fun D σ H => tb (wManyAs X.K Wout D l) D σ H) := by
  refine ⟨fun pins s σ H D I h => ?_⟩
  have ok := I.ok
  have hfr : X.A.frames = some (X.env :: X.outer) := by rw [ok.frames, hs]
  refine wpAny_Try_except ?_
  refine wpAny_mono ((hb (wManyAs X.K Wout D l) (X.pn ++ pins) (fun e s₁ => wpAny (model X.prog X.w) X.A (noteFrame e X.env) (fun _ s₂ => wpAny (model X.prog X.w) X.A (setFlight e none) (fun _ s₃ =>
    wpAny (model X.prog X.w) X.A (handleBy e X.env (h₀ :: hds)) (SP X pins D) X.xe s₃) X.xe s₂) X.xe s₁) (fun u s' xx => ?_) PassesOwn.looking).run [] s σ H D (I.toTry _) h) (fun f s1 hsp => ?_) (fun e s1 he => he)
  · obtain ⟨a, B, sI, pins', σ', H', cls, d, rfl, J', nb, up, sky, na, os, ag, w⟩ := xx
    have J : Inv X pins σ' H' sI := J'.ofTry ok
    have sky' : Sky B (X.env :: X.outer) a (Zc cls d) X.env.locals s'.heap := by rw [← hs]; exact sky
    show wpAny (model X.prog X.w) X.A (noteFrame (.ref a) X.env) _ _ _
    refine Sky.land Zc.steady hfr hf sky' fun h3 fl3 up3 => ?_
    have J3 : Inv X pins σ' H' { s' with heap := h3 } := J.landed nb fl3.1 (up.trans up3) os ag
    obtain ⟨oe3, vs3, he3, hz3, hd3⟩ := fl3.there
    have nfr : a ∉ frs (X.env :: X.outer) := fun hm => by
      obtain ⟨_, o', e', hnf⟩ := fl3.2.2.1.mem hm
      rw [he3] at e'
      cases e'
      exact hnf _ hd3
    have nL : a ≠ X.env.locals := fun z => nfr (List.mem_filterMap.mpr ⟨X.env, List.mem_cons_self, by rw [hf, z]⟩)
    have nF : a ∉ X.fs := fun hm => by
      obtain ⟨e, he, q⟩ := List.mem_filterMap.mp hm
      exact nfr (List.mem_filterMap.mpr ⟨e, List.mem_cons_of_mem _ he, q⟩)
    have S3 := J3.suite he3 hd3 na nL nF
    have go : ∀ {hds' : List ExceptHandler} {l' : List (Value × Nat × (Addr → Value → Option Addr → TS))}, HdsAs X hds' l' → wManyAs X.K Wout D l' cls d σ' H' →
        wpAny (model X.prog X.w) X.A (handleBy (.ref a) X.env hds') (SP X pins D) X.xe { s' with heap := h3 } := by
      intro hds' l' hk
      induction hk with
      | nil =>
        intro w
        refine wpAny_handleBy_nil ?_
        obtain ⟨k1, k2, k3, oe, vs, T, oT, ts', he, hz, hd, h1, hr⟩ := id fl3
        unfold PySem.passOn
        refine wpAny_bind (wpAny_field he hd h1 ?_)
        rw [if_neg (show ¬ ((Value.ref T == Value.none) = true) from by simp)]
        have fin : wpAny (model X.prog X.w) X.A (setFlight (.ref a) X.env.frame) (fun _ s4 => wpAny (model X.prog X.w) X.A (throw (.ref a) : Sem Flow) (SP X pins D) X.xe s4) X.xe { s' with heap := h3 } := by
          rw [hf]
          refine HandSPX.setFlight_upZ fl3 fun h4 hh4 up4 => wpAny_throw (tk _ _ ?_)
          exact ⟨a, B, sI, pins, σ', H', cls, d, rfl, J, nb, (up.trans up3).trans up4, .inr (.inr (by rw [hs]; exact hh4)), na, os, ag, w⟩
        first
          | exact wpAny_bind (wpAny_pure (wpAny_bind fin))
          | exact wpAny_bind fin
      | @cons x n c i ts b₀ suite np pos' hds2 l2 hi hln hc hsu r ih =>
        intro w
        obtain ⟨b, hb1, hyes, hno⟩ := w
        refine wpAny_handleBy_cons (codeAny_handlers_test ?_) (by intro q; cases q)
        have LT : PySem.W.Looks (model X.prog X.w) h3 (typeOf (.ref a)) cls := fun A Q E s k q => wpAny_typeOf_ref (k _ _ he3) (by rw [hz3.1]; exact q)
        have LM := PySem.W.exm_one (M := model X.prog X.w) (J3.kIn) LT hb1
        have test : ∀ {Q : Value → Shared → Prop} {E : Value → Shared → Prop}, Q c { s' with heap := h3 } → wpAny (model X.prog X.w) (X.A.mark (some (.ref a))) (eval (.Name x np) X.env) Q E { s' with heap := h3 } := fun {Q E} q => by
          obtain ⟨hg, hdbg, hm | ⟨hm, hv, hnn⟩⟩ := hc
          · exact ld_glob (X := X.suite a ((a, oe3) :: (X.pn ++ pins))) S3 hg hm q hdbg
          · exact ld_blt (X := X.suite a ((a, oe3) :: (X.pn ++ pins))) S3 hg hm hv q hnn hdbg
        refine test (LM.here ?_)
        cases b with
        | true =>
          refine codeAny_handlers_suite_as ?_
          refine HandSPX.lands_againZ fl3 fun h4 fl4 up4 => ?_
          have J4 : Inv X pins σ' H' { s' with heap := h4 } := J.landed nb fl4.1 ((up.trans up3).trans up4) os ag
          obtain ⟨oe4, vs4, he4, hz4, hd4⟩ := fl4.there
          have S4 := J4.suite he4 hd4 na nL nF
          refine store_ok (X := X.suite a ((a, oe4) :: (X.pn ++ pins))) (v := .ref a) S4 hN hi (.inl hln) rfl (fun s5 S5 => ?_) (.inr hln)
          refine wpAny_mono ((hsu a oe4 cls d (X.pn ++ pins) hz4 ⟨_, hd4⟩).run [] s5 _ H' _ S5 (hyes rfl a na (by rw [J.len]; exact (List.getElem?_eq_some_iff.mp hi).1))) (fun f s6 hsp => ?_) (fun _ _ z => False.elim z)
          have end_ : ∀ {σ6 : L2.St} {H6 : Hp} {Q : Shared → Prop}, Inv (X.suite a ((a, oe4) :: (X.pn ++ pins))) [] σ6 H6 s6 → (∀ s7, Inv X pins (σ6.set i none) H6 s7 → Q s7) →
              wpAny (model X.prog X.w) X.A (do bindName X.env n .none; unbindBehindTheSuite X.env n pos') (fun _ s7 => Q s7) X.xe s6 := fun {σ6 H6 Q} S6 hq => gone_ok (S6.unsuite ok) hN hi hln hq
          cases f with
          | next =>
            obtain ⟨σ6, H6, S6, q6⟩ := hsp
            exact end_ S6 fun s7 J7 => ⟨_, _, J7, q6⟩
          | brk =>
            obtain ⟨σ6, H6, S6, q6⟩ := hsp
            exact end_ S6 fun s7 J7 => ⟨_, _, J7, q6⟩
          | cont =>
            obtain ⟨σ6, H6, S6, q6⟩ := hsp
            exact end_ S6 fun s7 J7 => ⟨_, _, J7, q6⟩
          | ret u =>
            obtain ⟨v6, σ6, H6, S6, r6, q6⟩ := hsp
            exact end_ S6 fun s7 J7 => ⟨_, _, _, J7, r6, q6⟩
        | false =>
          show wpAny _ X.A (handleBy (.ref a) X.env hds2) _ _ _
          exact ih (hno rfl)
    exact go hh w
  · cases f with
    | next =>
      obtain ⟨σ', H', J', q⟩ := hsp
      exact wpAny_execs_nil ⟨σ', H', J'.ofTry ok, q⟩
    | brk =>
      obtain ⟨σ', H', J', q⟩ := hsp
      exact ⟨σ', H', J'.ofTry ok, q⟩
    | cont =>
      obtain ⟨σ', H', J', q⟩ := hsp
      exact ⟨σ', H', J'.ofTry ok, q⟩
    | ret u =>
      obtain ⟨v, σ', H', J', r, q⟩ := hsp
      exact ⟨v, σ', H', J'.ofTry ok, r, q⟩
end
end Qw
namespace Qw
open PySem PySem.Spec PyProof.Rows L2 LamX

/-! ### the text -/
def topS (i : Nat) : Stmt := PySem.Challenge.pw_quickbythen_k08_whole_kept_to_a_slope.main.body.getD i (.Pass ⟨0, 0, 0, 0⟩)
/-- a def of the text -/
structure Df (K : PySem.W.Frag) (mg : Str → Option Value) (x : Str) (st : Stmt) (ps : List Str) where
  a : Addr
  fd : FuncData
  F : Fun K x x st a fd
  g : mg x = some (.ref a)
  b : Binds K fd ps []
/-- an own exception class with a field -/
structure Xc (K : PySem.W.Frag) (mg : Str → Option Value) (x q : Str) (st : Stmt) where
  C : Addr
  g : mg x = some (.ref C)
  o : OexC K C
  no : PySem.W.findIn K (.ref C) "thing" = some none
  ia : Addr
  fd : FuncData
  i : PySem.W.findIn K (.ref C) "__init__" = some (some (.ref ia))
  ti : PySem.W.typeIn K (.ref ia) = some (.type "function")
  F : Fun K "__init__" q st ia fd
  b : Binds K fd ["self", "thing"] []
  xf : XfC K C
  ee : PySem.W.exmOne K (.ref C) (.ref C) = some true
/-- what the top leaves -/
structure Tx (K : PySem.W.Frag) (mg : Str → Option Value) (base : Heap) where
  f_is_list : Df K mg "is_list" (topS 5) ["thing"]
  f_is_whole : Df K mg "is_whole" (topS 6) ["thing"]
  f_is_positive : Df K mg "is_positive" (topS 7) ["thing"]
  f_lowest : Df K mg "lowest" (topS 8) ["top", "bottom"]
  f_is_fraction : Df K mg "is_fraction" (topS 9) ["thing"]
  f_told : Df K mg "told" (topS 10) ["thing"]
  f_checked_fraction : Df K mg "checked_fraction" (topS 11) ["thing"]
  f_plus : Df K mg "plus" (topS 12) ["one", "other"]
  f_less : Df K mg "less" (topS 13) ["one", "other"]
  f_times : Df K mg "times" (topS 14) ["one", "other"]
  f_parted : Df K mg "parted" (topS 15) ["one", "other"]
  f_is_below : Df K mg "is_below" (topS 16) ["one", "other"]
  f_greatest : Df K mg "greatest" (topS 17) ["things"]
  f_in_order : Df K mg "in_order" (topS 18) ["things"]
  f_is_corner : Df K mg "is_corner" (topS 20) ["thing"]
  f_is_curve_thing : Df K mg "is_curve_thing" (topS 21) ["thing"]
  f_steepness : Df K mg "steepness" (topS 22) ["one", "other"]
  f_slopes_of : Df K mg "slopes_of" (topS 23) ["curve"]
  f_normal : Df K mg "normal" (topS 24) ["corners", "slope"]
  f_as_told : Df K mg "as_told" (topS 25) ["curve"]
  f_place_at : Df K mg "place_at" (topS 26) ["curve", "moment"]
  f_worth_of : Df K mg "worth_of" (topS 27) ["curve", "moment"]
  f_each_once : Df K mg "each_once" (topS 28) ["moments"]
  f_moments_of : Df K mg "moments_of" (topS 29) ["curves"]
  f_summed : Df K mg "summed" (topS 30) ["curves"]
  f_many_times : Df K mg "many_times" (topS 31) ["curve", "factor"]
  f_apart_by : Df K mg "apart_by" (topS 32) ["one", "other"]
  f_checked_curve : Df K mg "checked_curve" (topS 36) ["thing"]
  f_never_falling : Df K mg "never_falling" (topS 38) ["curve"]
  f_later_tops : Df K mg "later_tops" (topS 39) ["curve"]
  f_line_of : Df K mg "line_of" (topS 40) ["slope"]
  f_back_by : Df K mg "back_by" (topS 41) ["curve", "most"]
  f_ahead_by : Df K mg "ahead_by" (topS 42) ["curve", "most"]
  f_risen : Df K mg "risen" (topS 43) ["curve"]
  f_held_back : Df K mg "held_back" (topS 44) ["curve", "most"]
  f_pushed_ahead : Df K mg "pushed_ahead" (topS 45) ["curve", "most"]
  f__law_stream : Df K mg "_law_stream" (topS 47) ["_law_script"]
  f__law_draw : Df K mg "_law_draw" (topS 48) ["_law_stream_here", "_law_many"]
  f__law_pick : Df K mg "_law_pick" (topS 49) ["_law_stream_here", "_law_things"]
  f__law_same : Df K mg "_law_same" (topS 50) ["_law_found", "_law_due"]
  f__law_loose : Df K mg "_law_loose" (topS 51) ["_law_stream_here", "_law_thing"]
  f__law_common : Df K mg "_law_common" (topS 52) ["_law_one", "_law_other"]
  f__law_low : Df K mg "_law_low" (topS 53) ["_law_top", "_law_bottom"]
  f__law_plus : Df K mg "_law_plus" (topS 54) ["_law_one", "_law_other"]
  f__law_less : Df K mg "_law_less" (topS 55) ["_law_one", "_law_other"]
  f__law_times : Df K mg "_law_times" (topS 56) ["_law_one", "_law_other"]
  f__law_by : Df K mg "_law_by" (topS 57) ["_law_one", "_law_other"]
  f__law_is_below : Df K mg "_law_is_below" (topS 58) ["_law_one", "_law_other"]
  f__law_least : Df K mg "_law_least" (topS 59) ["_law_things"]
  f__law_raw : Df K mg "_law_raw" (topS 60) ["_law_stream_here", "_law_thing"]
  f__law_unlike : Df K mg "_law_unlike" (topS 61) ["_law_things"]
  f__law_by_size : Df K mg "_law_by_size" (topS 62) ["_law_things"]
  f__law_is_told : Df K mg "_law_is_told" (topS 63) ["_law_thing"]
  f__law_middle : Df K mg "_law_middle" (topS 64) ["_law_one", "_law_other"]
  f__law_c_at : Df K mg "_law_c_at" (topS 65) ["_law_curve", "_law_moment"]
  f__law_c_slopes : Df K mg "_law_c_slopes" (topS 66) ["_law_curve"]
  f__law_c_slope : Df K mg "_law_c_slope" (topS 67) ["_law_curve", "_law_moment"]
  f__law_c_worth : Df K mg "_law_c_worth" (topS 68) ["_law_curve", "_law_moment"]
  f__law_c_plain : Df K mg "_law_c_plain" (topS 69) ["_law_corners", "_law_slope"]
  f__law_c_is_told : Df K mg "_law_c_is_told" (topS 70) ["_law_thing"]
  f__law_c_drawn : Df K mg "_law_c_drawn" (topS 71) ["_law_stream_here", "_law_most"]
  f__law_c_more : Df K mg "_law_c_more" (topS 72) ["_law_stream_here", "_law_curve"]
  f__law_c_raw : Df K mg "_law_c_raw" (topS 73) ["_law_stream_here", "_law_curve"]
  f__law_c_passed : Df K mg "_law_c_passed" (topS 74) ["_law_stream_here", "_law_curve"]
  f__law_c_moments : Df K mg "_law_c_moments" (topS 75) ["_law_curves"]
  f__law_odd : Df K mg "_law_odd" (topS 76) ["_law_stream_here"]
  f__law_tried : Df K mg "_law_tried" (topS 77) ["_law_ask"]
  f__law_stretches : Df K mg "_law_stretches" (topS 78) ["_law_found", "_law_curve"]
  f__law_risen_right : Df K mg "_law_risen_right" (topS 79) ["_law_found", "_law_curve"]
  f__law_held_right : Df K mg "_law_held_right" (topS 80) ["_law_found", "_law_curve", "_law_most"]
  f__law_pushed_right : Df K mg "_law_pushed_right" (topS 81) ["_law_found", "_law_curve", "_law_most"]
  f__law_kept_right : Df K mg "_law_kept_right" (topS 82) ["_law_stream_here", "_law_curve"]
  f__law_c_long : Df K mg "_law_c_long" (topS 83) ["_law_stream_here"]
  f_law : Df K mg "law" (topS 84) ["_law_script"]
  z_len : mg "len" = none
  z_abs : mg "abs" = none
  z_int : mg "int" = none
  z_bool : mg "bool" = none
  z_max : mg "max" = none
  z_all : mg "all" = none
  z_repr : mg "repr" = none
  z_list : mg "list" = none
  z_tuple : mg "tuple" = none
  z_dict : mg "dict" = none
  z_isinstance : mg "isinstance" = none
  z_zip : mg "zip" = none
  z_enumerate : mg "enumerate" = none
  z_range : mg "range" = none
  z_sorted : mg "sorted" = none
  g_gcd : mg "gcd" = some (.builtin "math.gcd")
  xF : Xc K mg "BadFraction" "BadFraction.__init__" (inClass (topS 3) 0)
  xC : Xc K mg "BadCurve" "BadCurve.__init__" (inClass (topS 34) 0)
  eFC : PySem.W.exmOne K (.ref xF.C) (.ref xC.C) = some false
  fn_odd : PySem.W.typeIn K (.ref f__law_odd.a) = some (.type "function")
  T : List (Addr × Str)
  c1 : Addr
  p1 : Addr
  o1 : FunC K "in_order" "in_order" (topS 18) f_in_order.a f_in_order.fd c1
  b1 : TabB base mg c1 p1
  t1 : (p1, (("in_order" : Str) ++ ".<locals>.") ++ "<lambda>") ∈ T
  u1 : ∀ p ∈ T, p.1 = p1 → p.2 = (("in_order" : Str) ++ ".<locals>.") ++ "<lambda>"
  c2 : Addr
  p2 : Addr
  o2 : FunC K "_law_by_size" "_law_by_size" (topS 62) f__law_by_size.a f__law_by_size.fd c2
  b2 : TabB base mg c2 p2
  t2 : (p2, (("_law_by_size" : Str) ++ ".<locals>.") ++ "<lambda>") ∈ T
  u2 : ∀ p ∈ T, p.1 = p2 → p.2 = (("_law_by_size" : Str) ++ ".<locals>.") ++ "<lambda>"
theorem pcall {X : Cx} {x : Str} {st : Stmt} {ps : List Str} {k : Nat} {sp : Sp} {e : Expr} {es : List Expr} {t : TA} {p pos : Pos} (D : Df X.K X.mg x st ps) (F : FnOk X.prog X.w X.K X.mg X.base CX0 k D.a D.fd ps sp) (hr : Room k X.A) (ha : PA X (e :: es) t) (hg : Gl X x := by rfl)
    (hdb : (x == ("__debug__" : Str)) = false := by decide) (he : starEach (e :: es) X.env = (false, eval e X.env) :: starEach es X.env := by rfl) (hpl : (backTo pos (starEach es X.env)).any (·.1) = false := by rfl) :
    PE X (.Call (.Name x p) (e :: es) [] pos) (tCall sp [] E0 t) := pe_call F hr hg D.g D.F.kp D.b .nil pass0 ha hdb he hpl
end Qw
namespace Qw
open PySem PySem.Spec PyProof.Rows L2 LamX Qk
section
variable {P : Program} {w : World} {K : PySem.W.Frag} {mg : Str → Option Value} {base : Heap}
/-! ### lowest -/
abbrev s_lowest : Stmt := topS 8
theorem sc_lowest : FnScope ["top", "bottom", "common"] ["top", "bottom"] (defScope s_lowest) := ⟨rfl, rfl, rfl, by decide +kernel, rfl, by decide +kernel, by decide +kernel⟩
theorem ok_lowest (Y : Tx K mg base) : FnOk P w K mg base CX0 1 Y.f_lowest.a Y.f_lowest.fd ["top", "bottom"] (Sp2 Y.T K PyData.int PyData.int (fun n d => 0 < d ∧ d.natAbs < 2 ^ 9000) fun n d => IsD K (dq (Rat.divInt n d))) := by
  refine Y.f_lowest.F.ok sc_lowest (fun vs H Q E h => sp2_len h) (fun cdv A outer s H vs Q E hr h => ?_)
  obtain ⟨G, n, d, c, ht, h, ⟨h0, hz⟩, k⟩ := h
  obtain ⟨x, y, rfl, hx, hy⟩ := dp2 h
  have gp : 0 < Nat.gcd n.natAbs d.natAbs := Nat.gcd_pos_of_pos_right _ (by have : 0 < d := h0; omega)
  have gl : Nat.gcd n.natAbs d.natAbs ≤ d.natAbs := Nat.gcd_le_right _ (by have : 0 < d := h0; omega)
  have cd : ∀ z : Int, CDivW z ((Nat.gcd n.natAbs d.natAbs : Nat) : Int) := fun z => wide_div (b := 9000) (by omega) (by rw [Int.natAbs_natCast]; exact Nat.lt_of_le_of_lt gl hz) (by decide) (Nat.le_refl _)
  refine ⟨_, (pss_cons (ps_set (i := 2) sc_lowest.nd rfl (Or.inl rfl) (pe_callBfun cr_gcd (by rfl) Y.g_gcd (pa_cons (pv 0) (pa_cons (pv 1) pa_nil))))
      (pss_one (ps_ret (pe_tup (pa_cons (pe_op op_fdivW (pv 0) (pv 2)) (pa_cons (pe_op op_fdivW (pv 1) (pv 2)) pa_nil)))))), ?_⟩
  refine q_set (T := Y.T) (R := IsD K (.int ((Nat.gcd n.natAbs d.natAbs : Nat) : Int))) (rv_cb (ra_cons (rv_var rfl hx) (ra_cons (rv_var rfl hy) ra_nil)) fun G1 H1 vs t1 c1 hv Q q => ?_) ht c fun v G1 H1 s1 hv => ?_
  · obtain ⟨a, b, rfl, ha, hb⟩ := dp2 hv
    rw [dp_int ha, dp_int hb]
    exact ⟨n, d, rfl, q _ G1 H1 (Step.refl t1 c1) (.int _)⟩
  · refine s_ret (rv_tup (ra_cons (rv_div (rv_var rfl (sdp s1.g hx)) (rv_var rfl hv) (cd n)) (ra_cons (rv_div (rv_var rfl (sdp s1.g hy)) (rv_var rfl hv) (cd d)) ra_nil)) (Nat.le_of_ble_eq_true rfl)) s1.t s1.s fun v G2 H2 s2 r => k v G2 H2 (s1.trans s2) ?_
    show Dp K G2 v (.tuple [_, _])
    rw [← low_num h0, ← low_den h0]
    exact r
/-! ### plus, less, times, parted, is_below -/
theorem szp_mul {p q : Rat} (h : SzP p q) : CMulW p.num (q.den : Int) ∧ CMulW q.num (p.den : Int) ∧ CMulW (p.den : Int) (q.den : Int) ∧ CMulW p.num q.num ∧ CMulW (p.den : Int) q.num ∧ ((p.den : Int) * (q.den : Int)).natAbs < 2 ^ 9000 ∧ ((p.den : Int) * q.num).natAbs < 2 ^ 9000 := by
  obtain ⟨n, m, h1, h2, h3⟩ := h
  have a : ∀ {x y : Int}, x.natAbs < 2 ^ n → y.natAbs < 2 ^ m → CMulW x y := fun {x y} a b => wide_mul (a := n + 1) (b := m + 1) (Nat.lt_of_lt_of_le a (Nat.pow_le_pow_right (by decide) (by omega))) (Nat.lt_of_lt_of_le b (Nat.pow_le_pow_right (by decide) (by omega))) (by omega) (by omega) (by omega)
  have b : ∀ {x y : Int}, x.natAbs < 2 ^ m → y.natAbs < 2 ^ n → CMulW x y := fun {x y} a b => wide_mul (a := m + 1) (b := n + 1) (Nat.lt_of_lt_of_le a (Nat.pow_le_pow_right (by decide) (by omega))) (Nat.lt_of_lt_of_le b (Nat.pow_le_pow_right (by decide) (by omega))) (by omega) (by omega) (by omega)
  have c : ∀ {x y : Int}, x.natAbs < 2 ^ n → y.natAbs < 2 ^ m → (x * y).natAbs < 2 ^ 9000 := fun {x y} a b => Nat.lt_of_lt_of_le (mul_lt2 a b) (Nat.pow_le_pow_right (by decide) h3)
  exact ⟨a h1.one h2.den, b h2.one h1.den, a h1.den h2.den, a h1.one h2.one, a h1.den h2.one, c h1.den h2.den, c h1.den h2.one⟩
abbrev SpQ2 (T : List (Addr × Str)) (K : PySem.W.Frag) (f : Rat → Rat → Rat) (pre : Rat → Rat → Prop) : Sp := Sp2 T K dq dq pre fun p q => IsD K (dq (f p q))
section
variable {T : List (Addr × Str)} {σ : L2.St} {H : Hp} {te : TE} {q : Rat}
theorem rv_num (h : Rv T te σ H (IsD K (dq q))) : Rv T (tOp (rIxT K) te (tC (.int 0))) σ H (IsD K (.int q.num)) := rv_ixT h rv_i rfl
theorem rv_den (h : Rv T te σ H (IsD K (dq q))) : Rv T (tOp (rIxT K) te (tC (.int 1))) σ H (IsD K (.int (q.den : Int))) := rv_ixT h rv_i rfl
end
abbrev s_plus : Stmt := topS 12
theorem sc_plus : FnScope ["one", "other"] ["one", "other"] (defScope s_plus) := ⟨rfl, rfl, rfl, by decide +kernel, rfl, by decide +kernel, by decide +kernel⟩
theorem ok_plus (Y : Tx K mg base) : FnOk P w K mg base CX0 2 Y.f_plus.a Y.f_plus.fd ["one", "other"] (SpQ2 Y.T K (fun p q => p + q) SzP) := by
  refine Y.f_plus.F.ok sc_plus (fun vs H Q E h => sp2_len h) (fun cdv A outer s H vs Q E hr h => ?_)
  obtain ⟨G, p, q, c, ht, h, hz, k⟩ := h
  obtain ⟨x, y, rfl, hx, hy⟩ := dp2 h
  obtain ⟨z1, z2, z3, z4, z5, z6, z7⟩ := szp_mul hz
  refine ⟨_, (pss_one (ps_ret (pe_call (ok_lowest Y) (hr.mono (by decide)) (by rfl) Y.f_lowest.g Y.f_lowest.F.kp Y.f_lowest.b .nil pass0 (pa_cons (pe_op op_add (pe_op op_mulW (pe_ix ix_tup (pv 0) pe_int (fun _ _ => rfl)) (pe_ix ix_tup (pv 1) pe_int (fun _ _ => rfl))) (pe_op op_mulW (pe_ix ix_tup (pv 1) pe_int (fun _ _ => rfl)) (pe_ix ix_tup (pv 0) pe_int (fun _ _ => rfl)))) (pa_cons (pe_op op_mulW (pe_ix ix_tup (pv 0) pe_int (fun _ _ => rfl)) (pe_ix ix_tup (pv 1) pe_int (fun _ _ => rfl))) pa_nil))))), ?_⟩
  refine s_ret (T := Y.T) (rv_call2 (ra_cons (rv_add (rv_mul (rv_num (rv_var rfl hx)) (rv_den (rv_var rfl hy)) z1) (rv_mul (rv_num (rv_var rfl hy)) (rv_den (rv_var rfl hx)) z2)) (ra_cons (rv_mul (rv_den (rv_var rfl hx)) (rv_den (rv_var rfl hy)) z3) ra_nil)) ⟨q_den_mul p q, z6⟩) ht c fun v G2 H2 s2 r => k v G2 H2 s2 ?_
  show Dp K G2 v (dq (p + q))
  rw [q_add]
  exact r
abbrev s_less : Stmt := topS 13
theorem sc_less : FnScope ["one", "other"] ["one", "other"] (defScope s_less) := ⟨rfl, rfl, rfl, by decide +kernel, rfl, by decide +kernel, by decide +kernel⟩
theorem ok_less (Y : Tx K mg base) : FnOk P w K mg base CX0 2 Y.f_less.a Y.f_less.fd ["one", "other"] (SpQ2 Y.T K (fun p q => p - q) SzP) := by
  refine Y.f_less.F.ok sc_less (fun vs H Q E h => sp2_len h) (fun cdv A outer s H vs Q E hr h => ?_)
  obtain ⟨G, p, q, c, ht, h, hz, k⟩ := h
  obtain ⟨x, y, rfl, hx, hy⟩ := dp2 h
  obtain ⟨z1, z2, z3, z4, z5, z6, z7⟩ := szp_mul hz
  refine ⟨_, (pss_one (ps_ret (pe_call (ok_lowest Y) (hr.mono (by decide)) (by rfl) Y.f_lowest.g Y.f_lowest.F.kp Y.f_lowest.b .nil pass0 (pa_cons (pe_op op_sub (pe_op op_mulW (pe_ix ix_tup (pv 0) pe_int (fun _ _ => rfl)) (pe_ix ix_tup (pv 1) pe_int (fun _ _ => rfl))) (pe_op op_mulW (pe_ix ix_tup (pv 1) pe_int (fun _ _ => rfl)) (pe_ix ix_tup (pv 0) pe_int (fun _ _ => rfl)))) (pa_cons (pe_op op_mulW (pe_ix ix_tup (pv 0) pe_int (fun _ _ => rfl)) (pe_ix ix_tup (pv 1) pe_int (fun _ _ => rfl))) pa_nil))))), ?_⟩
  refine s_ret (T := Y.T) (rv_call2 (ra_cons (rv_sub (rv_mul (rv_num (rv_var rfl hx)) (rv_den (rv_var rfl hy)) z1) (rv_mul (rv_num (rv_var rfl hy)) (rv_den (rv_var rfl hx)) z2)) (ra_cons (rv_mul (rv_den (rv_var rfl hx)) (rv_den (rv_var rfl hy)) z3) ra_nil)) ⟨q_den_mul p q, z6⟩) ht c fun v G2 H2 s2 r => k v G2 H2 s2 ?_
  show Dp K G2 v (dq (p - q))
  rw [q_sub]
  exact r
abbrev s_times : Stmt := topS 14
theorem sc_times : FnScope ["one", "other"] ["one", "other"] (defScope s_times) := ⟨rfl, rfl, rfl, by decide +kernel, rfl, by decide +kernel, by decide +kernel⟩
theorem ok_times (Y : Tx K mg base) : FnOk P w K mg base CX0 2 Y.f_times.a Y.f_times.fd ["one", "other"] (SpQ2 Y.T K (fun p q => p * q) SzP) := by
  refine Y.f_times.F.ok sc_times (fun vs H Q E h => sp2_len h) (fun cdv A outer s H vs Q E hr h => ?_)
  obtain ⟨G, p, q, c, ht, h, hz, k⟩ := h
  obtain ⟨x, y, rfl, hx, hy⟩ := dp2 h
  obtain ⟨z1, z2, z3, z4, z5, z6, z7⟩ := szp_mul hz
  refine ⟨_, (pss_one (ps_ret (pe_call (ok_lowest Y) (hr.mono (by decide)) (by rfl) Y.f_lowest.g Y.f_lowest.F.kp Y.f_lowest.b .nil pass0 (pa_cons (pe_op op_mulW (pe_ix ix_tup (pv 0) pe_int (fun _ _ => rfl)) (pe_ix ix_tup (pv 1) pe_int (fun _ _ => rfl))) (pa_cons (pe_op op_mulW (pe_ix ix_tup (pv 0) pe_int (fun _ _ => rfl)) (pe_ix ix_tup (pv 1) pe_int (fun _ _ => rfl))) pa_nil))))), ?_⟩
  refine s_ret (T := Y.T) (rv_call2 (ra_cons (rv_mul (rv_num (rv_var rfl hx)) (rv_num (rv_var rfl hy)) z4) (ra_cons (rv_mul (rv_den (rv_var rfl hx)) (rv_den (rv_var rfl hy)) z3) ra_nil)) ⟨q_den_mul p q, z6⟩) ht c fun v G2 H2 s2 r => k v G2 H2 s2 ?_
  show Dp K G2 v (dq (p * q))
  rw [q_mul]
  exact r
abbrev s_parted : Stmt := topS 15
theorem sc_parted : FnScope ["one", "other"] ["one", "other"] (defScope s_parted) := ⟨rfl, rfl, rfl, by decide +kernel, rfl, by decide +kernel, by decide +kernel⟩
theorem ok_parted (Y : Tx K mg base) : FnOk P w K mg base CX0 2 Y.f_parted.a Y.f_parted.fd ["one", "other"] (SpQ2 Y.T K (fun p q => p / q) fun p q => SzP p q ∧ q ≠ 0) := by
  refine Y.f_parted.F.ok sc_parted (fun vs H Q E h => sp2_len h) (fun cdv A outer s H vs Q E hr h => ?_)
  obtain ⟨G, p, q, c, ht, h, ⟨hz, h0⟩, k⟩ := h
  obtain ⟨x, y, rfl, hx, hy⟩ := dp2 h
  obtain ⟨z1, z2, z3, z4, z5, z6, z7⟩ := szp_mul hz
  refine ⟨_, (pss_cons (ps_if (pt_cmpR op_lt (pe_ix ix_tup (pv 1) pe_int (fun _ _ => rfl)) pe_int (nomark _)) (pss_one (ps_ret (pe_call (ok_lowest Y) (hr.mono (by decide)) (by rfl) Y.f_lowest.g Y.f_lowest.F.kp Y.f_lowest.b .nil pass0 (pa_cons (pe_op op_sub pe_int (pe_op op_mulW (pe_ix ix_tup (pv 0) pe_int (fun _ _ => rfl)) (pe_ix ix_tup (pv 1) pe_int (fun _ _ => rfl)))) (pa_cons (pe_op op_sub pe_int (pe_op op_mulW (pe_ix ix_tup (pv 0) pe_int (fun _ _ => rfl)) (pe_ix ix_tup (pv 1) pe_int (fun _ _ => rfl)))) pa_nil))))) pss_nil)
      (pss_one (ps_ret (pe_call (ok_lowest Y) (hr.mono (by decide)) (by rfl) Y.f_lowest.g Y.f_lowest.F.kp Y.f_lowest.b .nil pass0 (pa_cons (pe_op op_mulW (pe_ix ix_tup (pv 0) pe_int (fun _ _ => rfl)) (pe_ix ix_tup (pv 1) pe_int (fun _ _ => rfl))) (pa_cons (pe_op op_mulW (pe_ix ix_tup (pv 0) pe_int (fun _ _ => rfl)) (pe_ix ix_tup (pv 1) pe_int (fun _ _ => rfl))) pa_nil)))))), ?_⟩
  have h0' : q.num ≠ 0 := fun z => h0 (q_num_zero.mp z)
  refine q_if (T := Y.T) (rt_test (rv_lt (rv_num (rv_var rfl hy)) rv_i)) ht c (fun hb G1 H1 s1 => ?_) (fun hb G1 H1 s1 => ?_)
  · have hn : q.num < 0 := of_decide_eq_true hb
    have e : ∀ z : Int, 0 - z = -z := fun z => by omega
    refine s_ret (T := Y.T) (rv_call2 (ra_cons (rv_sub rv_i (rv_mul (rv_num (rv_var rfl (sdp s1.g hx))) (rv_den (rv_var rfl (sdp s1.g hy))) z1)) (ra_cons (rv_sub rv_i (rv_mul (rv_den (rv_var rfl (sdp s1.g hx))) (rv_num (rv_var rfl (sdp s1.g hy))) z5)) ra_nil)) ⟨?_, ?_⟩) s1.t s1.s fun v G2 H2 s2 r => k v G2 H2 (s1.trans s2) ?_
    · rw [e]
      have := Int.mul_neg_of_pos_of_neg (q_den_pos p) hn
      omega
    · rw [e, Int.natAbs_neg]
      exact z7
    · show Dp K G2 v (dq (p / q))
      rw [q_div, ← Rat.neg_divInt_neg]
      rw [e, e] at r
      exact r
  · have hn : ¬ q.num < 0 := of_decide_eq_false hb
    refine s_ret (T := Y.T) (rv_call2 (ra_cons (rv_mul (rv_num (rv_var rfl (sdp s1.g hx))) (rv_den (rv_var rfl (sdp s1.g hy))) z1) (ra_cons (rv_mul (rv_den (rv_var rfl (sdp s1.g hx))) (rv_num (rv_var rfl (sdp s1.g hy))) z5) ra_nil)) ⟨Int.mul_pos (q_den_pos p) (by omega), z7⟩) s1.t s1.s fun v G2 H2 s2 r => k v G2 H2 (s1.trans s2) ?_
    show Dp K G2 v (dq (p / q))
    rw [q_div]
    exact r
abbrev s_is_below : Stmt := topS 16
theorem sc_is_below : FnScope ["one", "other"] ["one", "other"] (defScope s_is_below) := ⟨rfl, rfl, rfl, by decide +kernel, rfl, by decide +kernel, by decide +kernel⟩
theorem ok_is_below (Y : Tx K mg base) : FnOk P w K mg base CX0 1 Y.f_is_below.a Y.f_is_below.fd ["one", "other"] (Sp2 Y.T K dq dq SzP fun p q => IsD K (.bool (decide (p < q)))) := by
  refine Y.f_is_below.F.ok sc_is_below (fun vs H Q E h => sp2_len h) (fun cdv A outer s H vs Q E hr h => ?_)
  obtain ⟨G, p, q, c, ht, h, hz, k⟩ := h
  obtain ⟨x, y, rfl, hx, hy⟩ := dp2 h
  obtain ⟨z1, z2, z3, z4, z5, z6, z7⟩ := szp_mul hz
  refine ⟨_, (pss_one (ps_ret (pe_cmpR op_lt (pe_op op_mulW (pe_ix ix_tup (pv 0) pe_int (fun _ _ => rfl)) (pe_ix ix_tup (pv 1) pe_int (fun _ _ => rfl))) (pe_op op_mulW (pe_ix ix_tup (pv 1) pe_int (fun _ _ => rfl)) (pe_ix ix_tup (pv 0) pe_int (fun _ _ => rfl))) (nomark _)))), ?_⟩
  refine s_ret (T := Y.T) (rv_lt (rv_mul (rv_num (rv_var rfl hx)) (rv_den (rv_var rfl hy)) z1) (rv_mul (rv_num (rv_var rfl hy)) (rv_den (rv_var rfl hx)) z2)) ht c fun v G2 H2 s2 r => k v G2 H2 s2 ?_
  show Dp K G2 v (.bool (decide (p < q)))
  rw [show decide (p < q) = decide (p.num * (q.den : Int) < q.num * (p.den : Int)) from decide_eq_decide.mpr (q_lt p q)]
  exact r
end
end Qw
namespace Qw
open PySem PySem.Spec PyProof.Rows L2 LamX Qk
/-! ### lists of data -/
theorem map_get {α : Type} {f : α → PyData} {xs : List α} {i : Nat} {d : PyData} (h : (xs.map f)[i]? = some d) : ∃ a, xs[i]? = some a ∧ d = f a := by
  rw [List.getElem?_map] at h
  cases q : xs[i]? with
  | none =>
    rw [q] at h
    cases h
  | some a =>
    rw [q] at h
    exact ⟨a, rfl, (Option.some.inj h).symm⟩
theorem take_snoc {α : Type} {xs : List α} {i : Nat} {a : α} (h : xs[i]? = some a) : xs.take (i + 1) = xs.take i ++ [a] := by
  rw [List.take_add_one, h]
  rfl
theorem fold_snoc {α β : Type} {f : β → α → β} {b : β} {xs : List α} {i : Nat} {a : α} (h : xs[i]? = some a) : (xs.take (i + 1)).foldl f b = f ((xs.take i).foldl f b) a := by
  rw [take_snoc h, List.foldl_append]
  rfl
theorem fold_all {α β : Type} {f : β → α → β} {b : β} {xs : List α} {g : α → PyData} : (xs.take (xs.map g).length).foldl f b = xs.foldl f b := by
  rw [List.length_map, List.take_length]
theorem rmax_lt {p q : Rat} (h : p < q) : rmax p q = q := if_pos h
theorem rmax_nlt {p q : Rat} (h : ¬ p < q) : rmax p q = p := if_neg h
theorem sz_self {p q : Rat} (hp : Sz 4500 p) (hq : Sz 4500 q) : SzP p q := ⟨4500, 4500, hp, hq, by decide⟩
section
variable {P : Program} {w : World} {K : PySem.W.Frag} {mg : Str → Option Value} {base : Heap}
/-! ### greatest -/
abbrev s_greatest : Stmt := topS 17
theorem sc_greatest : FnScope ["things", "found", "thing"] ["things"] (defScope s_greatest) := ⟨rfl, rfl, rfl, by decide +kernel, rfl, by decide +kernel, by decide +kernel⟩
theorem ok_greatest (Y : Tx K mg base) : FnOk P w K mg base CX0 2 Y.f_greatest.a Y.f_greatest.fd ["things"] (Sp1 Y.T K (fun qs : List Rat => .list (qs.map dq)) (fun qs => qs ≠ [] ∧ ∀ q ∈ qs, Sz 4500 q) fun qs => IsD K (dq (qs.foldl rmax (qs.headD 0)))) := by
  refine Y.f_greatest.F.ok sc_greatest (fun vs H Q E h => sp1_len h) (fun cdv A outer s H vs Q E hr h => ?_)
  obtain ⟨G, qs, c, ht, h, ⟨hne, hz⟩, k⟩ := h
  obtain ⟨x, rfl, hx⟩ := dp1 h
  refine ⟨_, (pss_cons (ps_set (i := 1) sc_greatest.nd rfl (Or.inl rfl) (pe_ix ix_list (pv 0) pe_int (fun _ _ => rfl)))
      (pss_cons (ps_for PassesOwn.never rfl (pi_list (pv 0)) (pg_name (i := 2) sc_greatest.nd rfl (Or.inl rfl)) (pss_one (ps_set (i := 1) sc_greatest.nd rfl (Or.inl rfl) (pe_ifExp (pt_val (pe_call (ok_is_below Y) (hr.mono (by decide)) (by rfl) Y.f_is_below.g Y.f_is_below.F.kp Y.f_is_below.b .nil pass0 (pa_cons (pv 1) (pa_cons (pv 2) pa_nil)))) (pv 2) (pv 1)))))
      (pss_one (ps_ret (pv 1))))), ?_⟩
  have h0 : atI (qs.map dq) 0 = some (dq (qs.headD 0)) := by
    cases qs with
    | nil => exact absurd rfl hne
    | cons a r => exact atI_nat (j := 0) rfl
  have z0 : Sz 4500 (qs.headD 0) := by
    cases qs with
    | nil => exact absurd rfl hne
    | cons a r => exact hz a (by simp)
  refine q_set (T := Y.T) (rv_ixL (rv_var rfl hx) rv_i h0) ht c fun v0 G0 H0 s0 hv0 => ?_
  refine q_for (T := Y.T) (ri_list (rv_var rfl (sdp s0.g hx))) s0.t s0.s fun G1 H1 s1 => ⟨fun i σ' G' H' => ∃ y v, σ' = [some x, some v, y] ∧ Step Y.T G H G' H' ∧ Same G1 G' ∧ Dp K G' v (dq ((qs.take i).foldl rmax (qs.headD 0))) ∧ Sz 4500 ((qs.take i).foldl rmax (qs.headD 0)),
    ⟨none, v0, rfl, s0.trans s1, Same.refl _, sdp s1.g hv0, z0⟩, fun i σ' G' H' ⟨y, v, _, st, e, _⟩ => ⟨e, st.s, st.t⟩, fun i d y' σ' G' H' G'' H'' hd hP s2 hy => ?_, fun σ' G' H' hP => ?_⟩
  · obtain ⟨y, v, rfl, st, e, hv, hzv⟩ := hP
    obtain ⟨q, hq, rfl⟩ := map_get hd
    have zq := hz q (List.mem_of_getElem? hq)
    have e1 := fold_snoc (f := rmax) (b := qs.headD 0) hq
    refine s_set (T := Y.T) (R := IsD K (dq ((qs.take (i + 1)).foldl rmax (qs.headD 0)))) (rv_if (rt_B (rv_call2 (ra_cons (rv_var rfl (sdp s2.g hv)) (ra_cons (rv_var rfl hy) ra_nil)) (sz_self hzv zq))) (fun hb => ?_) fun hb => ?_) s2.t s2.s fun v3 G3 H3 s3 hv3 => ⟨G3, _, v3, rfl, (st.trans s2).trans s3, Same.trans (Same.trans e s2.g) s3.g, hv3, ?_⟩
    · rw [e1, rmax_lt (of_decide_eq_true hb)]
      exact rv_var rfl hy
    · rw [e1, rmax_nlt (of_decide_eq_false hb)]
      exact rv_var rfl (sdp s2.g hv)
    · rw [e1]
      rcases rmax_or ((qs.take i).foldl rmax (qs.headD 0)) q with z | z <;> rw [z]
      · exact hzv
      · exact zq
  · obtain ⟨y, v, rfl, st, e, hv, hzv⟩ := hP
    rw [fold_all] at hv
    exact s_ret (T := Y.T) (rv_var rfl hv) st.t st.s (k.of st)
/-! ### steepness, slopes_of, normal -/
theorem rv_c0 {T : List (Addr × Str)} {σ : L2.St} {G : Hp} {te : TE} {a : Cn} (h : Rv T te σ G (IsD K (dc a))) : Rv T (tOp (rIxT K) te (tC (.int 0))) σ G (IsD K (dq a.1)) := rv_ixT h rv_i rfl
theorem rv_c1 {T : List (Addr × Str)} {σ : L2.St} {G : Hp} {te : TE} {a : Cn} (h : Rv T te σ G (IsD K (dc a))) : Rv T (tOp (rIxT K) te (tC (.int 1))) σ G (IsD K (dq a.2)) := rv_ixT h rv_i rfl
theorem rv_v0 {T : List (Addr × Str)} {σ : L2.St} {G : Hp} {te : TE} {a : Cv} (h : Rv T te σ G (IsD K (dv a))) : Rv T (tOp (rIxT K) te (tC (.int 0))) σ G (IsD K (.list (a.1.map dc))) := rv_ixT h rv_i rfl
theorem rv_v1 {T : List (Addr × Str)} {σ : L2.St} {G : Hp} {te : TE} {a : Cv} (h : Rv T te σ G (IsD K (dv a))) : Rv T (tOp (rIxT K) te (tC (.int 1))) σ G (IsD K (dq a.2)) := rv_ixT h rv_i rfl
theorem sub_ne {p q : Rat} (h : p < q) : q - p ≠ 0 := by grind
abbrev s_steepness : Stmt := topS 22
theorem sc_steepness : FnScope ["one", "other"] ["one", "other"] (defScope s_steepness) := ⟨rfl, rfl, rfl, by decide +kernel, rfl, by decide +kernel, by decide +kernel⟩
theorem ok_steepness (Y : Tx K mg base) : FnOk P w K mg base CX0 3 Y.f_steepness.a Y.f_steepness.fd ["one", "other"] (Sp2 Y.T K dc dc StOk fun a b => IsD K (dq (steep a b))) := by
  refine Y.f_steepness.F.ok sc_steepness (fun vs H Q E h => sp2_len h) (fun cdv A outer s H vs Q E hr h => ?_)
  obtain ⟨G, a, b, c, ht, h, ⟨h1, h2, h3, h4⟩, k⟩ := h
  obtain ⟨x, y, rfl, hx, hy⟩ := dp2 h
  refine ⟨_, (pss_one (ps_ret (pe_call (ok_parted Y) (hr.mono (by decide)) (by rfl) Y.f_parted.g Y.f_parted.F.kp Y.f_parted.b .nil pass0 (pa_cons (pe_call (ok_less Y) (hr.mono (by decide)) (by rfl) Y.f_less.g Y.f_less.F.kp Y.f_less.b .nil pass0 (pa_cons (pe_ix ix_tup (pv 1) pe_int (fun _ _ => rfl)) (pa_cons (pe_ix ix_tup (pv 0) pe_int (fun _ _ => rfl)) pa_nil))) (pa_cons (pe_call (ok_less Y) (hr.mono (by decide)) (by rfl) Y.f_less.g Y.f_less.F.kp Y.f_less.b .nil pass0 (pa_cons (pe_ix ix_tup (pv 1) pe_int (fun _ _ => rfl)) (pa_cons (pe_ix ix_tup (pv 0) pe_int (fun _ _ => rfl)) pa_nil))) pa_nil))))), ?_⟩
  exact s_ret (T := Y.T) (rv_call2 (ra_cons (rv_call2 (ra_cons (rv_c1 (rv_var rfl hy)) (ra_cons (rv_c1 (rv_var rfl hx)) ra_nil)) h1) (ra_cons (rv_call2 (ra_cons (rv_c0 (rv_var rfl hy)) (ra_cons (rv_c0 (rv_var rfl hx)) ra_nil)) h2) ra_nil)) ⟨h3, sub_ne h4⟩) ht c k
theorem slopes_nbs : ∀ {cs : List Cn} {s : Rat}, cs ≠ [] → slopes cs s = (nbs cs).map (fun p => steep p.1 p.2) ++ [s]
  | [], _, h => absurd rfl h
  | [a], s, _ => rfl
  | a :: b :: r, s, _ => by
    have i := slopes_nbs (cs := b :: r) (s := s) (by simp)
    show steep a b :: slopes (b :: r) s = steep a b :: ((nbs (b :: r)).map (fun p => steep p.1 p.2) ++ [s])
    rw [i]
theorem zip_dc : ∀ (cs ds : List Cn), List.zipWith (fun d e => PyData.tuple [d, e]) (cs.map dc) (ds.map dc) = (cs.zip ds).map fun p => .tuple [dc p.1, dc p.2]
  | [], _ => by simp
  | _ :: _, [] => by simp
  | a :: r, b :: s => by
    show _ :: List.zipWith (fun d e => PyData.tuple [d, e]) (r.map dc) (s.map dc) = _ :: (r.zip s).map _
    rw [zip_dc r s]
theorem nbs_len (cs : List Cn) : (nbs cs).length ≤ cs.length := by
  unfold nbs
  rw [List.length_zip]
  omega
theorem slopes_len : ∀ (cs : List Cn) (s : Rat), (slopes cs s).length = cs.length
  | [], _ => rfl
  | a :: r, s => congrArg (· + 1) (slopes_len r s)
abbrev s_slopes_of : Stmt := topS 23
theorem sc_slopes_of : FnScope ["curve", "corners", "slope", "one", "other"] ["curve"] (defScope s_slopes_of) := ⟨rfl, rfl, rfl, by decide +kernel, rfl, by decide +kernel, by decide +kernel⟩
theorem ok_slopes_of (Y : Tx K mg base) : FnOk P w K mg base CX0 4 Y.f_slopes_of.a Y.f_slopes_of.fd ["curve"] (Sp1 Y.T K dv (fun c => SlOk c.1) fun c => IsL K ((slopes c.1 c.2).map dq)) := by
  refine Y.f_slopes_of.F.ok sc_slopes_of (fun vs H Q E h => sp1_len h) (fun cdv A outer s H vs Q E hr h => ?_)
  obtain ⟨G, cu, c, ht, h, hok, k⟩ := h
  obtain ⟨x, rfl, hx⟩ := dp1 h
  refine ⟨_, (pss_cons (ps_asg (pv 0) (pg_tup rfl (pgs_cons (pg_name (i := 1) sc_slopes_of.nd rfl (Or.inl rfl)) (pgs_cons (pg_name (i := 2) sc_slopes_of.nd rfl (Or.inl rfl)) pgs_nil))))
      (pss_one (ps_ret (pe_op op_cat (pe_lc (own := [("one", 3), ("other", 4)]) (g := (gTup K 2 (gCons (gName 3) (gCons (gName 4) gNil)))) rfl sc_slopes_of.nd (pi_zip (by rfl) Y.z_zip (pa_cons (pv 1) (pa_cons (pe_slice sl_list (pv 1) (po_some pe_int) po_none) pa_nil))) (blkOk_by (N := ["curve", "corners", "slope", "one", "other"]) (sc := defScope s_slopes_of) (own := [("one", 3), ("other", 4)]) (by decide +kernel)) (fun _ _ _ _ _ => (pg_tup rfl (pgs_cons (pg_name (i := 3) sc_slopes_of.nd rfl (Or.inl rfl)) (pgs_cons (pg_name (i := 4) sc_slopes_of.nd rfl (Or.inl rfl)) pgs_nil)))) (fun _ _ _ _ _ => pts_nil) (fun _ _ _ _ _ => (pe_call (ok_steepness Y) (hr.mono (by decide)) (by rfl) Y.f_steepness.g Y.f_steepness.F.kp Y.f_steepness.b .nil pass0 (pa_cons (pv 3) (pa_cons (pv 4) pa_nil))))) (pe_lst (pa_cons (pv 2) pa_nil)))))), ?_⟩
  refine q_pair (T := Y.T) (rv_var rfl hx) ht c fun y z G1 H1 s1 hy hz => ?_
  have hzip : Ri Y.T K (iZip K (tCons (tVar 1) (tCons (tSl (rSlL K) (tVar 1) (tPart (tC (.int 1))) tNoPart) tNil))) [some x, some y, some z, none, none] G1 ((nbs cu.1).map fun p => .tuple [dc p.1, dc p.2]) := by
    have h1 := ri_zip (T := Y.T) (K := K) (σ := [some x, some y, some z, none, none]) (G := G1) (ra_cons (rv_var (i := 1) rfl hy) (ra_cons (rv_from (k := 1) (rv_var (i := 1) rfl hy)).ld ra_nil))
    rw [← List.map_drop, zip_dc] at h1
    exact h1
  refine s_ret (T := Y.T) (rv_cat (rv_lcP (xs := nbs cu.1) (A1 := fun p : Cn × Cn => dc p.1) (A2 := fun p : Cn × Cn => dc p.2) (B := fun p : Cn × Cn => dq (steep p.1 p.2)) hzip (by have := nbs_len cu.1; have := hok.len; omega) (fun _ _ => rfl)
    fun a ha x1 y1 G2 e h1 h2 => rv_call2 (ra_cons (rv_var rfl h1) (ra_cons (rv_var rfl h2) ra_nil)) (hok.st a ha)) (rv_lst (ra_cons (rv_var rfl hz) ra_nil) (Nat.le_of_ble_eq_true rfl)) ?_) s1.t s1.s fun v G2 H2 s2 r => k v G2 H2 (s1.trans s2) ?_
  · rw [List.length_map]
    have := nbs_len cu.1
    have := hok.len
    show (nbs cu.1).length + 1 ≤ 100000
    omega
  · show IsL K ((slopes cu.1 cu.2).map dq) G2 v
    rw [slopes_nbs hok.ne, List.map_append, List.map_map]
    exact r
/-! ### data that are compared -/
theorem shaped_dq (q : Rat) : SeqAt.shaped (dq q) = true := rfl
theorem eqv_dq (p q : Rat) : PyData.eqv (dq p) (dq q) = decide (p = q) := by
  have e : PyData.eqv (dq p) (dq q) = ((p.num == q.num) && (((p.den : Int) == (q.den : Int)) && true)) := rfl
  rw [e]
  by_cases h : p = q
  · subst h
    simp
  · rw [decide_eq_false h]
    by_cases h1 : p.num = q.num
    · have h2 : p.den ≠ q.den := fun z => h (Rat.ext h1 z)
      have h3 : ((p.den : Int) == (q.den : Int)) = false := by
        rw [beq_eq_false_iff_ne]
        omega
      simp [h3]
    · simp [h1]
def optD : Option Rat → PyData
  | none => .none
  | some q => dq q
theorem shaped_opt (o : Option Rat) : SeqAt.shaped (optD o) = true := by
  cases o <;> rfl
theorem opt_test (o : Option Rat) (l : Rat) : (isNon (optD o) || !PyData.eqv (dq l) (optD o)) = !decide (o = some l) := by
  cases o with
  | none => rfl
  | some p =>
    show (false || !PyData.eqv (dq l) (dq p)) = _
    rw [eqv_dq, Bool.false_or]
    congr 1
    exact decide_eq_decide.mpr ⟨fun h => by rw [h], fun h => (Option.some.inj h).symm⟩
theorem zip_dcq : ∀ (cs : List Cn) (ds : List Rat), List.zipWith (fun d e => PyData.tuple [d, e]) (cs.map dc) (ds.map dq) = (cs.zip ds).map fun p => .tuple [dc p.1, dq p.2]
  | [], _ => by simp
  | _ :: _, [] => by simp
  | a :: r, b :: s => by
    show _ :: List.zipWith (fun d e => PyData.tuple [d, e]) (r.map dc) (s.map dq) = _ :: (r.zip s).map _
    rw [zip_dcq r s]
theorem slopes_get : ∀ {cs : List Cn} {s : Rat} {i : Nat} {a : Cn} {l : Rat}, (cs.zip (slopes cs s))[i]? = some (a, l) → cs.drop i = a :: cs.drop (i + 1) ∧ l = sl0 a (cs.drop (i + 1)) s
  | [], _, _, _, _, h => by simp at h
  | b :: r, s, 0, a, l, h => by
    have h := Option.some.inj (show some (b, sl0 b r s) = some (a, l) from h)
    cases h
    exact ⟨rfl, rfl⟩
  | b :: r, s, i + 1, a, l, h => slopes_get (cs := r) (i := i) h
theorem zip_slopes_len (cs : List Cn) (s : Rat) : (cs.zip (slopes cs s)).length = cs.length := by
  rw [List.length_zip, slopes_len, Nat.min_self]
abbrev s_normal : Stmt := topS 24
theorem sc_normal : FnScope ["corners", "slope", "slopes", "found", "ahead", "corner", "later"] ["corners", "slope"] (defScope s_normal) := ⟨rfl, rfl, rfl, by decide +kernel, rfl, by decide +kernel, by decide +kernel⟩
theorem ok_normal (Y : Tx K mg base) : FnOk P w K mg base CX0 5 Y.f_normal.a Y.f_normal.fd ["corners", "slope"] (SpV2 Y.T K (fun cs : List Cn => .list (cs.map dc)) dq (fun cs _ => SlOk cs) fun cs s => Qk.normal cs s) := by
  refine Y.f_normal.F.ok sc_normal (fun vs H Q E h => spv2_len h) (fun cdv A outer s H vs Q E hr h => ?_)
  obtain ⟨G, cs, sl, c, ht, h, hok, k⟩ := h
  obtain ⟨x, y, rfl, hx, hy⟩ := dp2 h
  refine ⟨_, (pss_cons (ps_par3 (i := 2) (j := 3) (l := 4) (by rfl) sc_normal.nd rfl rfl rfl (by decide) (by decide) (by decide) rfl rfl rfl (pa_cons (pe_call (ok_slopes_of Y) (hr.mono (by decide)) (by rfl) Y.f_slopes_of.g Y.f_slopes_of.F.kp Y.f_slopes_of.b .nil pass0 (pa_cons (pe_tup (pa_cons (pv 0) (pa_cons (pv 1) pa_nil))) pa_nil)) (pa_cons (pe_lst pa_nil) (pa_cons pe_non pa_nil))) (by rfl))
      (pss_cons (ps_for PassesOwn.never rfl (pi_zip (by rfl) Y.z_zip (pa_cons (pv 0) (pa_cons (pv 2) pa_nil))) (pg_tup rfl (pgs_cons (pg_name (i := 5) sc_normal.nd rfl (Or.inl rfl)) (pgs_cons (pg_name (i := 6) sc_normal.nd rfl (Or.inl rfl)) pgs_nil))) (pss_cons (ps_if (PW.pt (pw_or (pt_cmpR op_isNq (pv 4) pe_non (nomark _)) (pw_or1 (pt_cmpR (op_neD hr.units) (pv 6) (pv 4) (nomark _))))) (pss_one (ps_expr (pe_bm PySem.F.plainAttrs_list PySem.F.slot_list_append PySem.F.type_list_append mt_append (pv 3) (pa_cons (pv 5) pa_nil)))) pss_nil)
      (pss_one (ps_set (i := 4) sc_normal.nd rfl (Or.inl rfl) (pv 6)))))
      (pss_one (ps_ret (pe_tup (pa_cons (pv 3) (pa_cons (pv 1) pa_nil))))))), ?_⟩
  refine q_par3L (T := Y.T) (rv_call1 (a := (cs, sl)) (ra_cons (rv_tup (ra_cons (rv_var rfl hx) (ra_cons (rv_var rfl hy) ra_nil)) (Nat.le_of_ble_eq_true rfl)) ra_nil) hok) ht c fun v o G0 H0 s0 n0 g0 l0 hv => ?_
  have hzip : Ri Y.T K (iZip K (tCons (tVar 0) (tCons (tVar 2) tNil))) [some x, some y, some v, some (.ref o), some .non, none, none] G0 ((cs.zip (slopes cs sl)).map fun p => .tuple [dc p.1, dq p.2]) := by
    have h1 := ri_zip (T := Y.T) (K := K) (σ := [some x, some y, some v, some (.ref o), some .non, none, none]) (G := G0) (ra_cons (rv_var (i := 0) rfl (sdp s0.g hx)) (ra_cons (rv_var (i := 2) rfl hv.d) ra_nil))
    rw [zip_dcq] at h1
    exact h1
  have hlen : ((cs.zip (slopes cs sl)).map fun p => PyData.tuple [dc p.1, dq p.2]).length = cs.length := by rw [List.length_map, zip_slopes_len]
  refine q_for (T := Y.T) hzip s0.t s0.s fun G1 H1 s1 => ⟨fun i σ' G' H' => ∃ (y5 y6 : Option V) (va : V) (acc : List V) (fi : List Cn) (oa : Option Rat), σ' = [some x, some y, some v, some (.ref o), some va, y5, y6] ∧ Step Y.T G H G' H' ∧ Same G1 G' ∧ G' o = none ∧ H' o = some (.lst acc) ∧ DpAll K G' acc (fi.map dc) ∧ Dp K G' va (optD oa) ∧ fi.length ≤ i ∧ i ≤ cs.length ∧ fi ++ nrm oa (cs.drop i) sl = nrm none cs sl,
    ⟨none, none, .non, [], [], none, rfl, s0.trans s1, Same.refl _, (s1.f o _ l0).trans g0, s1.x o _ l0 lst_tbl, .nil, .non, Nat.le_refl _, Nat.zero_le _, rfl⟩, fun i σ' G' H' ⟨_, _, _, _, _, _, _, st, e, _⟩ => ⟨e, st.s, st.t⟩, fun i d xx σ' G' H' G'' H'' hd hP s2 hxx => ?_, fun σ' G' H' hP => ?_⟩
  · obtain ⟨y5, y6, va, acc, fi, oa, rfl, st, e, gn, hl, hacc, hva, hfl, hil, hinv⟩ := hP
    obtain ⟨⟨a, l⟩, hal, rfl⟩ := map_get hd
    obtain ⟨hdr, hsl⟩ := slopes_get hal
    have hlt : i < cs.length := by
      have := (List.getElem?_eq_some_iff.mp hal).1
      rw [zip_slopes_len] at this
      exact this
    refine g_pair s2.s hxx fun z5 z6 h5 h6 => ?_
    have st2 := st.trans s2
    have gn2 : G'' o = none := (s2.f o _ hl).trans gn
    have hl2 : H'' o = some (.lst acc) := s2.x o _ hl lst_tbl
    have hva2 := sdp s2.g hva
    have hnew : nrm oa (cs.drop i) sl = if oa = some l then nrm (some l) (cs.drop (i + 1)) sl else a :: nrm (some l) (cs.drop (i + 1)) sl := by
      rw [hdr, nrm_cons, ← hsl]
    refine q_if (T := Y.T) (b := !decide (oa = some l)) ((rt_or (rt_test (rv_isN (rv_var rfl hva2))) fun _ => rt_test (rv_neD (rv_var rfl h6) (rv_var rfl hva2) (shaped_dq l) (shaped_opt oa))).to (opt_test oa l)) s2.t s2.s (fun hb G3 H3 s3 => ?_) (fun hb G3 H3 s3 => ?_)
    · have hne : ¬ oa = some l := by simpa using hb
      rw [if_neg hne] at hnew
      have gn3 : G3 o = none := (s3.f o _ hl2).trans gn2
      have hl3 : H3 o = some (.lst acc) := s3.x o _ hl2 lst_tbl
      refine s_out (T := Y.T) (R := IsD K (dc a)) rfl (st2.trans s3) n0 gn3 hl3 (rv_var rfl (sdp s3.g h5)) ?_ fun v4 G4 H4 st4 e4 gn4 hl4 hv4 => ?_
      · have := dpAll_len hacc
        rw [List.length_map] at this
        have := hok.len
        omega
      · refine s_set (T := Y.T) (R := IsD K (dq l)) (rv_var rfl (sdp (Same.trans s3.g e4) h6)) st4.t st4.s fun v5 G5 H5 s5 hv5 => ⟨G5, some z5, some z6, v5, acc ++ [v4], fi ++ [a], some l, rfl, st4.trans s5, Same.trans (Same.trans (Same.trans (Same.trans e s2.g) s3.g) e4) s5.g, (s5.f o _ hl4).trans gn4, s5.x o _ hl4 lst_tbl, ?_, hv5, ?_, hlt, ?_⟩
        · rw [List.map_append]
          exact dpAll_app (sdpAll (Same.trans (Same.trans (Same.trans s2.g s3.g) e4) s5.g) hacc) (.cons (sdp s5.g hv4) .nil)
        · rw [List.length_append]
          show fi.length + 1 ≤ i + 1
          omega
        · rw [List.append_assoc]
          show fi ++ (a :: nrm (some l) (cs.drop (i + 1)) sl) = _
          rw [← hnew]
          exact hinv
    · have heq : oa = some l := by simpa using hb
      rw [if_pos heq] at hnew
      refine s_set (T := Y.T) (R := IsD K (dq l)) (rv_var rfl (sdp s3.g h6)) s3.t s3.s fun v5 G5 H5 s5 hv5 => ⟨G5, some z5, some z6, v5, acc, fi, some l, rfl, (st2.trans s3).trans s5, Same.trans (Same.trans (Same.trans e s2.g) s3.g) s5.g, ?_, ?_, ?_, hv5, by omega, hlt, ?_⟩
      · exact (s5.f o _ (s3.x o _ hl2 lst_tbl)).trans ((s3.f o _ hl2).trans gn2)
      · exact s5.x o _ (s3.x o _ hl2 lst_tbl) lst_tbl
      · exact sdpAll (Same.trans (Same.trans s2.g s3.g) s5.g) hacc
      · rw [← hnew]
        exact hinv
  · obtain ⟨y5, y6, va, acc, fi, oa, rfl, st, e, gn, hl, hacc, hva, hfl, hil, hinv⟩ := hP
    rw [hlen, List.drop_length] at hinv
    have hfi : fi = nrm none cs sl := by
      rw [← hinv]
      show fi = fi ++ []
      rw [List.append_nil]
    subst hfi
    exact s_retV (T := Y.T) (cs := nrm none cs sl) (s := sl) rfl rfl st n0 gn hl hacc (sdp st.g hy) k
end
end Qw
namespace Qw
open PySem PySem.Spec PyProof.Rows L2 LamX Qk
theorem enum_get {α : Type} {f : α → PyData} {xs : List α} {i : Nat} {d : PyData} (h : (enumD (xs.map f))[i]? = some d) : ∃ a, xs[i]? = some a ∧ d = .tuple [.int (i : Nat), f a] := by
  unfold enumD at h
  rw [List.getElem?_mapIdx, List.getElem?_map] at h
  cases q : xs[i]? with
  | none =>
    rw [q] at h
    cases h
  | some a =>
    rw [q] at h
    exact ⟨a, rfl, (Option.some.inj h).symm⟩
theorem enum_len {α : Type} {f : α → PyData} {xs : List α} : (enumD (xs.map f)).length = xs.length := by
  unfold enumD
  rw [List.length_mapIdx, List.length_map]
theorem at_map {α : Type} {f : α → PyData} {xs : List α} {i : Nat} {a : α} (h : xs[i]? = some a) : atI (xs.map f) (i : Int) = some (f a) := atI_nat (by rw [List.getElem?_map, h]; rfl)
section
variable {P : Program} {w : World} {K : PySem.W.Frag} {mg : Str → Option Value} {base : Heap}
/-! ### place_at -/
abbrev s_place_at : Stmt := topS 26
theorem sc_place_at : FnScope ["curve", "moment", "found", "at", "corner"] ["curve", "moment"] (defScope s_place_at) := ⟨rfl, rfl, rfl, by decide +kernel, rfl, by decide +kernel, by decide +kernel⟩
theorem ok_place_at (Y : Tx K mg base) : FnOk P w K mg base CX0 2 Y.f_place_at.a Y.f_place_at.fd ["curve", "moment"] (Sp2 Y.T K dv dq (fun c m => ∀ a ∈ c.1, SzP m a.1) fun c m => IsD K (.int (lastIx m 0 0 c.1 : Nat))) := by
  refine Y.f_place_at.F.ok sc_place_at (fun vs H Q E h => sp2_len h) (fun cdv A outer s H vs Q E hr h => ?_)
  obtain ⟨G, cu, m, c, ht, h, hz, k⟩ := h
  have sl := sl_start (N := ["curve", "moment", "found", "at", "corner"]) h (Nat.le_of_ble_eq_true rfl)
  refine ⟨_, (pss_cons (ps_set (i := 2) sc_place_at.nd rfl (Or.inl rfl) pe_int)
      (pss_cons (ps_for PassesOwn.never rfl (pi_enum (by rfl) Y.z_enumerate (pa_cons (pe_ix ix_tup (pv 0) pe_int (fun _ _ => rfl)) pa_nil)) (pg_tup rfl (pgs_cons (pg_name (i := 3) sc_place_at.nd rfl (Or.inl rfl)) (pgs_cons (pg_name (i := 4) sc_place_at.nd rfl (Or.inl rfl)) pgs_nil))) (pss_one (ps_if (pt_not (pt_val (pe_call (ok_is_below Y) (hr.mono (by decide)) (by rfl) Y.f_is_below.g Y.f_is_below.F.kp Y.f_is_below.b .nil pass0 (pa_cons (pv 1) (pa_cons (pe_ix ix_tup (pv 4) pe_int (fun _ _ => rfl)) pa_nil))))) (pss_one (ps_set (i := 2) sc_place_at.nd rfl (Or.inl rfl) (pv 3))) pss_nil)))
      (pss_one (ps_ret (pv 2))))), ?_⟩
  refine q_setS (T := Y.T) (d := .int ((0 : Nat) : Int)) sl rv_i ht c fun σ1 G1 H1 s1 sl1 => ?_
  refine q_for (T := Y.T) (ri_enum (rv_v0 (a := cu) (rv_sl sl1 rfl))) s1.t s1.s fun G2 H2 s2 => ⟨fun i σ' G' H' => ∃ sa sb, Step Y.T G H G' H' ∧ Same G2 G' ∧ Sl K G' σ' [.d (dv cu), .d (dq m), .d (.int (lastIx m 0 0 (cu.1.take i) : Nat)), sa, sb],
    ⟨.no, .no, s1.trans s2, Same.refl _, sl1.mono s2.g⟩, fun i σ' G' H' ⟨_, _, st, e, _⟩ => ⟨e, st.s, st.t⟩, fun i d x σ' G' H' G'' H'' hd hP s3 hx => ?_, fun σ' G' H' hP => ?_⟩
  · obtain ⟨sa, sb, st, e, sl2⟩ := hP
    obtain ⟨a, ha, rfl⟩ := enum_get hd
    refine g_pair s3.s hx fun y z hy hz' => ?_
    have sl3 := ((sl2.mono s3.g).set (i := 3) hy).set (i := 4) hz'
    have st3 := st.trans s3
    have e1 := lastIx_snoc (m := m) (k := 0) (f := 0) ha
    refine s_if (T := Y.T) (rt_not (rt_B (rv_call2 (a := m) (b := a.1) (ra_cons (rv_sl sl3 rfl) (ra_cons (rv_c0 (a := a) (rv_sl sl3 rfl)) ra_nil)) (hz a (List.mem_of_getElem? ha))))) s3.t s3.s (fun hb G4 H4 s4 => ?_) (fun hb G4 H4 s4 => ?_)
    · have hb : ¬ m < a.1 := by simpa using hb
      refine s_setS (T := Y.T) (sl3.mono s4.g) (rv_sl (sl3.mono s4.g) rfl) s4.t s4.s fun σ5 G5 H5 s5 sl5 => ⟨G5, .d (.int (i : Nat)), .d (dc a), (st3.trans s4).trans s5, Same.trans (Same.trans (Same.trans e s3.g) s4.g) s5.g, ?_⟩
      rw [e1, if_neg hb, Nat.zero_add]
      exact sl5
    · have hb : m < a.1 := by simpa using hb
      refine ⟨G4, .d (.int (i : Nat)), .d (dc a), st3.trans s4, Same.trans (Same.trans e s3.g) s4.g, ?_⟩
      rw [e1, if_pos hb]
      exact sl3.mono s4.g
  · obtain ⟨sa, sb, st, e, sl2⟩ := hP
    rw [enum_len, List.take_length] at sl2
    exact s_ret (T := Y.T) (rv_sl sl2 rfl) st.t st.s (k.of st)
/-! ### worth_of -/
abbrev s_worth_of : Stmt := topS 27
theorem sc_worth_of : FnScope ["curve", "moment", "at", "begin", "worth"] ["curve", "moment"] (defScope s_worth_of) := ⟨rfl, rfl, rfl, by decide +kernel, rfl, by decide +kernel, by decide +kernel⟩
theorem ok_worth_of (Y : Tx K mg base) : FnOk P w K mg base CX0 5 Y.f_worth_of.a Y.f_worth_of.fd ["curve", "moment"] (Sp2 Y.T K dv dq (fun c m => Fine c ∧ Sz 1500 m) fun c m => IsD K (dq (vl c m))) := by
  refine Y.f_worth_of.F.ok sc_worth_of (fun vs H Q E h => sp2_len h) (fun cdv A outer s H vs Q E hr h => ?_)
  obtain ⟨G, cu, m, c, ht, h, ⟨hf, hm⟩, k⟩ := h
  have sl := sl_start (N := ["curve", "moment", "at", "begin", "worth"]) h (Nat.le_of_ble_eq_true rfl)
  obtain ⟨a, ha1, ha2, ha3⟩ := pl_at (cs := cu.1) (s := cu.2) (m := m) hf.ne
  have ham := List.mem_of_getElem? ha1
  refine ⟨_, (pss_cons (ps_set (i := 2) sc_worth_of.nd rfl (Or.inl rfl) (pe_call (ok_place_at Y) (hr.mono (by decide)) (by rfl) Y.f_place_at.g Y.f_place_at.F.kp Y.f_place_at.b .nil pass0 (pa_cons (pv 0) (pa_cons (pv 1) pa_nil))))
      (pss_cons (ps_asg (pe_ix ix_list (pe_ix ix_tup (pv 0) pe_int (fun _ _ => rfl)) (pv 2) (fun _ _ => rfl)) (pg_tup rfl (pgs_cons (pg_name (i := 3) sc_worth_of.nd rfl (Or.inl rfl)) (pgs_cons (pg_name (i := 4) sc_worth_of.nd rfl (Or.inl rfl)) pgs_nil))))
      (pss_one (ps_ret (pe_call (ok_plus Y) (hr.mono (by decide)) (by rfl) Y.f_plus.g Y.f_plus.F.kp Y.f_plus.b .nil pass0 (pa_cons (pv 4) (pa_cons (pe_call (ok_times Y) (hr.mono (by decide)) (by rfl) Y.f_times.g Y.f_times.F.kp Y.f_times.b .nil pass0 (pa_cons (pe_ix ix_list (pe_call (ok_slopes_of Y) (hr.mono (by decide)) (by rfl) Y.f_slopes_of.g Y.f_slopes_of.F.kp Y.f_slopes_of.b .nil pass0 (pa_cons (pv 0) pa_nil)) (pv 2) (fun _ _ => rfl)) (pa_cons (pe_call (ok_less Y) (hr.mono (by decide)) (by rfl) Y.f_less.g Y.f_less.F.kp Y.f_less.b .nil pass0 (pa_cons (pv 1) (pa_cons (pv 3) pa_nil))) pa_nil))) pa_nil))))))), ?_⟩
  refine q_setS (T := Y.T) sl (rv_call2 (a := cu) (b := m) (ra_cons (rv_sl sl rfl) (ra_cons (rv_sl sl rfl) ra_nil)) fun x hx => ⟨1500, 1500, hm, hf.mo x hx, by decide⟩) ht c fun σ1 G1 H1 s1 sl1 => ?_
  rw [lastIx_pl hf.up] at sl1
  refine q_pairS (T := Y.T) (d1 := dq a.1) (d2 := dq a.2) sl1 (rv_ixL (rv_v0 (a := cu) (rv_sl sl1 rfl)) (rv_sl sl1 rfl) (at_map (f := dc) ha1)) s1.t s1.s fun σ2 G2 H2 s2 sl2 => ?_
  refine s_ret (T := Y.T) (rv_call2 (ra_cons (rv_sl sl2 rfl) (ra_cons (rv_call2 (ra_cons (rv_ixL (rv_call1 (a := cu) (ra_cons (rv_sl sl2 rfl) ra_nil) hf.slOk).ld (rv_sl sl2 rfl) (at_map (f := dq) ha2)) (ra_cons (rv_call2 (ra_cons (rv_sl sl2 rfl) (ra_cons (rv_sl sl2 rfl) ra_nil)) ⟨1500, 1500, hm, hf.mo a ham, by decide⟩) ra_nil)) ⟨200, 3001, hf.sl _ (List.mem_of_getElem? ha2), hm.sub (hf.mo a ham), by decide⟩) ra_nil)) ⟨2100, 3201, hf.wo a ham, (hf.sl _ (List.mem_of_getElem? ha2)).mul (hm.sub (hf.mo a ham)), by decide⟩) s2.t s2.s fun v G3 H3 s3 r => k v G3 H3 ((s1.trans s2).trans s3) ?_
  show Dp K G3 v (dq (val cu.1 cu.2 m))
  rw [ha3]
  exact r
/-! ### line_of, many_times -/
theorem dq_zero : dq 0 = .tuple [.int 0, .int 1] := rfl
theorem dq_one : dq 1 = .tuple [.int 1, .int 1] := rfl
theorem rv_zero {T : List (Addr × Str)} {σ : L2.St} {G : Hp} : Rv T (tTup (tCons (tC (.int 0)) (tCons (tC (.int 1)) tNil))) σ G (IsD K (dq 0)) := rv_tup (ra_cons rv_i (ra_cons rv_i ra_nil)) (Nat.le_of_ble_eq_true rfl)
abbrev s_line_of : Stmt := topS 40
theorem sc_line_of : FnScope ["slope"] ["slope"] (defScope s_line_of) := ⟨rfl, rfl, rfl, by decide +kernel, rfl, by decide +kernel, by decide +kernel⟩
theorem ok_line_of (Y : Tx K mg base) : FnOk P w K mg base CX0 1 Y.f_line_of.a Y.f_line_of.fd ["slope"] (SpV1 Y.T K dq (fun _ => True) fun m => line m) := by
  refine Y.f_line_of.F.ok sc_line_of (fun vs H Q E h => spv1_len h) (fun cdv A outer s H vs Q E hr h => ?_)
  obtain ⟨G, m, c, ht, h, _, k⟩ := h
  obtain ⟨x, rfl, hx⟩ := dp1 h
  refine ⟨_, (pss_one (ps_ret (pe_tup (pa_cons (pe_lst (pa_cons (pe_tup (pa_cons (pe_tup (pa_cons pe_int (pa_cons pe_int pa_nil))) (pa_cons (pe_tup (pa_cons pe_int (pa_cons pe_int pa_nil))) pa_nil))) pa_nil)) (pa_cons (pv 0) pa_nil))))), ?_⟩
  exact s_retVL (T := Y.T) (cs := [(0, 0)]) (s := m) ht c (ra_cons (rv_tup (ra_cons rv_zero (ra_cons rv_zero ra_nil)) (Nat.le_of_ble_eq_true rfl)) ra_nil) (rv_var rfl hx) (Nat.le_of_ble_eq_true rfl) k
end
end Qw
namespace Qw
open PySem PySem.Spec PyProof.Rows L2 LamX Qk
section
variable {P : Program} {w : World} {K : PySem.W.Frag} {mg : Str → Option Value} {base : Heap}
/-! ### many_times -/
theorem len_ok {α β : Type} {f : α → β} {cs : List α} (h : cs.length ≤ 1000) : (cs.map f).length ≤ 100000 := by
  rw [List.length_map]
  omega
theorem map_dc (cs : List Cn) : cs.map dc = cs.map fun a => .tuple [dq a.1, dq a.2] := rfl
abbrev s_many_times : Stmt := topS 31
theorem sc_many_times : FnScope ["curve", "factor", "moment", "worth"] ["curve", "factor"] (defScope s_many_times) := ⟨rfl, rfl, rfl, by decide +kernel, rfl, by decide +kernel, by decide +kernel⟩
theorem ok_many_times (Y : Tx K mg base) : FnOk P w K mg base CX0 6 Y.f_many_times.a Y.f_many_times.fd ["curve", "factor"] (SpV2 Y.T K dv dq (fun c f => SlOk (c.1.map fun a => (a.1, f * a.2)) ∧ (∀ a ∈ c.1, SzP f a.2) ∧ SzP f c.2) fun c f => many f c) := by
  refine Y.f_many_times.F.ok sc_many_times (fun vs H Q E h => spv2_len h) (fun cdv A outer s H vs Q E hr h => ?_)
  obtain ⟨G, cu, f, c, ht, h, ⟨hok, h1, h2⟩, k⟩ := h
  have sl := sl_start (N := ["curve", "factor", "moment", "worth"]) h (Nat.le_of_ble_eq_true rfl)
  have hlen : cu.1.length ≤ 1000 := by
    have := hok.len
    rw [List.length_map] at this
    exact this
  refine ⟨_, (pss_one (ps_ret (pe_call (ok_normal Y) (hr.mono (by decide)) (by rfl) Y.f_normal.g Y.f_normal.F.kp Y.f_normal.b .nil pass0 (pa_cons (pe_lc (own := [("moment", 2), ("worth", 3)]) (g := (gTup K 2 (gCons (gName 2) (gCons (gName 3) gNil)))) rfl sc_many_times.nd (pi_list (pe_ix ix_tup (pv 0) pe_int (fun _ _ => rfl))) (blkOk_by (N := ["curve", "factor", "moment", "worth"]) (sc := defScope s_many_times) (own := [("moment", 2), ("worth", 3)]) (by decide +kernel)) (fun _ _ _ _ _ => (pg_tup rfl (pgs_cons (pg_name (i := 2) sc_many_times.nd rfl (Or.inl rfl)) (pgs_cons (pg_name (i := 3) sc_many_times.nd rfl (Or.inl rfl)) pgs_nil)))) (fun _ _ _ _ _ => pts_nil) (fun _ _ _ _ _ => (pe_tup (pa_cons (pv 2) (pa_cons (pe_call (ok_times Y) (hr.mono (by decide)) (by rfl) Y.f_times.g Y.f_times.F.kp Y.f_times.b .nil pass0 (pa_cons (pv 1) (pa_cons (pv 3) pa_nil))) pa_nil))))) (pa_cons (pe_call (ok_times Y) (hr.mono (by decide)) (by rfl) Y.f_times.g Y.f_times.F.kp Y.f_times.b .nil pass0 (pa_cons (pv 1) (pa_cons (pe_ix ix_tup (pv 0) pe_int (fun _ _ => rfl)) pa_nil))) pa_nil))))), ?_⟩
  refine s_ret (T := Y.T) (rv_callV2 (a := cu.1.map fun a => (a.1, f * a.2)) (b := f * cu.2) (ra_cons ?_ (ra_cons (rv_call2 (ra_cons (rv_sl sl rfl) (ra_cons (rv_v1 (a := cu) (rv_sl sl rfl)) ra_nil)) h2) ra_nil)) hok) ht c k
  rw [show (cu.1.map fun a => (a.1, f * a.2)).map dc = cu.1.map (fun a : Cn => dc (a.1, f * a.2)) by rw [List.map_map]; rfl]
  refine Rv.ld ?_
  exact rv_lcPS (A1 := fun a : Cn => dq a.1) (A2 := fun a : Cn => dq a.2) (B := fun a : Cn => dc (a.1, f * a.2)) sl (ri_list (rv_v0 (a := cu) (rv_sl sl rfl))) (Nat.le_trans hlen (by decide)) (by decide)
    fun a ha σ' G1 e sl1 => rv_tup (ra_cons (rv_sl sl1 rfl) (ra_cons (rv_call2 (ra_cons (rv_sl sl1 rfl) (ra_cons (rv_sl sl1 rfl) ra_nil)) (h1 a ha)) ra_nil)) (Nat.le_of_ble_eq_true rfl)
/-! ### never_falling -/
theorem rmax_self (p : Rat) : rmax p p = p := by
  unfold rmax
  split <;> rfl
theorem rmax_sz {n : Nat} {p q : Rat} (hp : Sz n p) (hq : Sz n q) : Sz n (rmax p q) := by
  rcases rmax_or p q with z | z <;> rw [z] <;> assumption
theorem drop_get : ∀ {cs : List Cn} {s : Rat} {i : Nat} {a : Cn}, cs[i]? = some a → cs.drop i = a :: cs.drop (i + 1) ∧ (slopes cs s)[i]? = some (sl0 a (cs.drop (i + 1)) s)
  | [], _, _, _, h => by simp at h
  | b :: r, s, 0, a, h => by
    have e : b = a := Option.some.inj h
    subst e
    exact ⟨rfl, rfl⟩
  | b :: r, s, i + 1, a, h => drop_get (cs := r) (i := i) h
/-- the curve's last corner, or the next one -/
theorem next_get {cs : List Cn} {i : Nat} {a : Cn} (h : cs[i]? = some a) : ((i : Int) + 1 = (cs.length : Int) ∧ cs.drop (i + 1) = []) ∨ (¬ (i : Int) + 1 = (cs.length : Int) ∧ ∃ n r, cs[i + 1]? = some n ∧ cs.drop (i + 1) = n :: r) := by
  have hl := (List.getElem?_eq_some_iff.mp h).1
  by_cases q : i + 1 = cs.length
  · exact .inl ⟨by omega, List.drop_eq_nil_of_le (by omega)⟩
  · have h2 : i + 1 < cs.length := by omega
    exact .inr ⟨by omega, cs[i + 1], cs.drop (i + 2), List.getElem?_eq_getElem h2, List.drop_eq_getElem_cons h2⟩
abbrev s_never_falling : Stmt := topS 38
theorem sc_never_falling : FnScope ["curve", "slopes", "found", "top", "last", "at", "moment", "worth", "met"] ["curve"] (defScope s_never_falling) := ⟨rfl, rfl, rfl, by decide +kernel, rfl, by decide +kernel, by decide +kernel⟩
theorem ok_never_falling (Y : Tx K mg base) : FnOk P w K mg base CX0 6 Y.f_never_falling.a Y.f_never_falling.fd ["curve"] (SpV1 Y.T K dv (fun c => Fine c ∧ SlOk (nf ((c.1.head?.getD (0, 0)).2) c.1 c.2)) fun c => neverFalling c) := by
  refine Y.f_never_falling.F.ok sc_never_falling (fun vs H Q E h => spv1_len h) (fun cdv A outer s H vs Q E hr h => ?_)
  obtain ⟨G, cu, c, ht, h, ⟨hf, hok⟩, k⟩ := h
  have sl := sl_start (N := ["curve", "slopes", "found", "top", "last", "at", "moment", "worth", "met"]) h (Nat.le_of_ble_eq_true rfl)
  obtain ⟨a0, r0, ha0⟩ : ∃ a0 r0, cu.1 = a0 :: r0 := by
    cases e : cu.1 with
    | nil => exact absurd e hf.ne
    | cons a r => exact ⟨a, r, rfl⟩
  have hw0 : (cu.1.head?.getD (0, 0)).2 = a0.2 := by rw [ha0]; rfl
  have hlen := hf.len
  refine ⟨_, (pss_cons (ps_asg (pe_tup (pa_cons (pe_call (ok_slopes_of Y) (hr.mono (by decide)) (by rfl) Y.f_slopes_of.g Y.f_slopes_of.F.kp Y.f_slopes_of.b .nil pass0 (pa_cons (pv 0) pa_nil)) (pa_cons (pe_lst pa_nil) (pa_cons (pe_ix ix_tup (pe_ix ix_list (pe_ix ix_tup (pv 0) pe_int (fun _ _ => rfl)) pe_int (fun _ _ => rfl)) pe_int (fun _ _ => rfl)) (pa_cons (pe_tup (pa_cons pe_int (pa_cons pe_int pa_nil))) pa_nil))))) (pg_tup rfl (pgs_cons (pg_name (i := 1) sc_never_falling.nd rfl (Or.inl rfl)) (pgs_cons (pg_name (i := 2) sc_never_falling.nd rfl (Or.inl rfl)) (pgs_cons (pg_name (i := 3) sc_never_falling.nd rfl (Or.inl rfl)) (pgs_cons (pg_name (i := 4) sc_never_falling.nd rfl (Or.inl rfl)) pgs_nil))))))
      (pss_cons (ps_for PassesOwn.never rfl (pi_enum (by rfl) Y.z_enumerate (pa_cons (pe_ix ix_tup (pv 0) pe_int (fun _ _ => rfl)) pa_nil)) (pg_tup rfl (pgs_cons (pg_name (i := 5) sc_never_falling.nd rfl (Or.inl rfl)) (pgs_cons (pg_tup rfl (pgs_cons (pg_name (i := 6) sc_never_falling.nd rfl (Or.inl rfl)) (pgs_cons (pg_name (i := 7) sc_never_falling.nd rfl (Or.inl rfl)) pgs_nil))) pgs_nil))) (pss_cons (ps_set (i := 3) sc_never_falling.nd rfl (Or.inl rfl) (pe_call (ok_greatest Y) (hr.mono (by decide)) (by rfl) Y.f_greatest.g Y.f_greatest.F.kp Y.f_greatest.b .nil pass0 (pa_cons (pe_lst (pa_cons (pv 3) (pa_cons (pv 7) pa_nil))) pa_nil)))
      (pss_cons (ps_expr (pe_bm PySem.F.plainAttrs_list PySem.F.slot_list_append PySem.F.type_list_append mt_append (pv 2) (pa_cons (pe_tup (pa_cons (pv 6) (pa_cons (pv 3) pa_nil))) pa_nil)))
      (pss_cons (ps_set (i := 4) sc_never_falling.nd rfl (Or.inl rfl) (pe_ifExp (PW.pt (pw_and (pt_cmpR op_gt (pe_ix ix_tup (pe_ix ix_list (pv 1) (pv 5) (fun _ _ => rfl)) pe_int (fun _ _ => rfl)) pe_int (nomark _)) (pw_and1 (pt_cmpR (op_eqD hr.units) (pv 7) (pv 3) (nomark _))))) (pe_ix ix_list (pv 1) (pv 5) (fun _ _ => rfl)) (pe_tup (pa_cons pe_int (pa_cons pe_int pa_nil)))))
      (pss_one (ps_if (PW.pt (pw_and (pt_cmpR op_gt (pe_ix ix_tup (pe_ix ix_list (pv 1) (pv 5) (fun _ _ => rfl)) pe_int (fun _ _ => rfl)) pe_int (nomark _)) (pw_and1 (pt_cmpR (op_neD hr.units) (pv 7) (pv 3) (nomark _))))) (pss_cons (ps_set (i := 8) sc_never_falling.nd rfl (Or.inl rfl) (pe_call (ok_plus Y) (hr.mono (by decide)) (by rfl) Y.f_plus.g Y.f_plus.F.kp Y.f_plus.b .nil pass0 (pa_cons (pv 6) (pa_cons (pe_call (ok_parted Y) (hr.mono (by decide)) (by rfl) Y.f_parted.g Y.f_parted.F.kp Y.f_parted.b .nil pass0 (pa_cons (pe_call (ok_less Y) (hr.mono (by decide)) (by rfl) Y.f_less.g Y.f_less.F.kp Y.f_less.b .nil pass0 (pa_cons (pv 3) (pa_cons (pv 7) pa_nil))) (pa_cons (pe_ix ix_list (pv 1) (pv 5) (fun _ _ => rfl)) pa_nil))) pa_nil))))
      (pss_one (ps_if (PW.pt (pw_or (pt_cmpR op_eq (pe_op op_add (pv 5) pe_int) (pe_callB call_len_seq (by rfl) Y.z_len PySem.boot_len (pa_cons (pe_ix ix_tup (pv 0) pe_int (fun _ _ => rfl)) pa_nil)) (nomark _)) (pw_or1 (pt_val (pe_call (ok_is_below Y) (hr.mono (by decide)) (by rfl) Y.f_is_below.g Y.f_is_below.F.kp Y.f_is_below.b .nil pass0 (pa_cons (pv 8) (pa_cons (pe_ix ix_tup (pe_ix ix_list (pe_ix ix_tup (pv 0) pe_int (fun _ _ => rfl)) (pe_op op_add (pv 5) pe_int) (fun _ _ => rfl)) pe_int (fun _ _ => rfl)) pa_nil))))))) (pss_cons (ps_expr (pe_bm PySem.F.plainAttrs_list PySem.F.slot_list_append PySem.F.type_list_append mt_append (pv 2) (pa_cons (pe_tup (pa_cons (pv 8) (pa_cons (pv 3) pa_nil))) pa_nil)))
      (pss_one (ps_set (i := 4) sc_never_falling.nd rfl (Or.inl rfl) (pe_ix ix_list (pv 1) (pv 5) (fun _ _ => rfl))))) pss_nil))) pss_nil))))))
      (pss_one (ps_ret (pe_call (ok_normal Y) (hr.mono (by decide)) (by rfl) Y.f_normal.g Y.f_normal.F.kp Y.f_normal.b .nil pass0 (pa_cons (pv 2) (pa_cons (pv 4) pa_nil))))))), ?_⟩
  refine q_four (T := Y.T) (da := .list ((slopes cu.1 cu.2).map dq)) (df := dq a0.2) (dg := dq 0) sl (Step.refl ht c) (Rv.ld (rv_call1 (a := cu) (ra_cons (rv_sl sl rfl) ra_nil) hf.slOk)) (rv_c1 (a := a0) (rv_ixL (rv_v0 (a := cu) (rv_sl sl rfl)) rv_i (by rw [ha0]; exact atI_nat (j := 0) rfl))) rv_zero fun o σ1 G1 H1 w1 s1 sl1 => ?_
  refine q_for (T := Y.T) (ri_enum (rv_v0 (a := cu) (rv_sl sl1 rfl))) s1.t s1.s fun G2 H2 s2 => ⟨fun i σ' G' H' => ∃ (fi : List Cn) (tp la : Rat) (sa sb sc sd : Slot), Own Y.T K G H G' H' o (fi.map dc) ∧ Same G2 G' ∧ Sl K G' σ' [.d (dv cu), .d (.list ((slopes cu.1 cu.2).map dq)), .v (.ref o), .d (dq tp), .d (dq la), sa, sb, sc, sd] ∧ Sz 2100 tp ∧ fi.length ≤ 2 * i ∧ i ≤ cu.1.length ∧ fi ++ nf tp (cu.1.drop i) cu.2 = nf a0.2 cu.1 cu.2 ∧ nfLast tp la (cu.1.drop i) cu.2 = nfLast a0.2 0 cu.1 cu.2,
    ⟨[], a0.2, 0, .no, .no, .no, .no, w1.step s2, Same.refl _, sl1.mono s2.g, hf.wo a0 (by rw [ha0]; simp), Nat.le_refl _, Nat.zero_le _, rfl, rfl⟩, fun i σ' G' H' ⟨_, _, _, _, _, _, _, ow, e, _⟩ => ⟨e, ow.st.s, ow.st.t⟩, fun i d x σ' G' H' G'' H'' hd hP s3 hx => ?_, fun σ' G' H' hP => ?_⟩
  · obtain ⟨fi, tp, la, sa, sb, sc, sd, ow, e, sl2, hz, hfl, hil, hin, hla⟩ := hP
    obtain ⟨a, ha, rfl⟩ := enum_get hd
    have ham := List.mem_of_getElem? ha
    obtain ⟨hdr, hk⟩ := drop_get (s := cu.2) ha
    have hlt := (List.getElem?_eq_some_iff.mp ha).1
    have hksz := hf.sl _ (List.mem_of_getElem? hk)
    rw [hdr] at hin hla
    have hin : fi ++ (nfC (rmax tp a.2) a (cu.1.drop (i + 1)) cu.2 ++ nf (rmax tp a.2) (cu.1.drop (i + 1)) cu.2) = nf a0.2 cu.1 cu.2 := hin
    have hla : nfLast (rmax tp a.2) (nfL (rmax tp a.2) a (cu.1.drop (i + 1)) cu.2) (cu.1.drop (i + 1)) cu.2 = nfLast a0.2 0 cu.1 cu.2 := hla
    have zT : Sz 2100 (rmax tp a.2) := rmax_sz hz (hf.wo a ham)
    have e1 : rmax tp a.2 = rmax (rmax tp tp) a.2 := by rw [rmax_self]
    refine g_pair2 s3.s hx fun y1 y2 y3 h1 h2 h3 => ?_
    have ow3 := ow.step s3
    have sl3 := (((sl2.mono s3.g).set (i := 5) h1).set (i := 6) h2).set (i := 7) h3
    -- top = greatest([top, worth])
    refine q_setS (T := Y.T) (d := dq (rmax tp a.2)) sl3 (by
      rw [e1]
      exact rv_call1 (a := [tp, a.2]) (ra_cons (Rv.ld (rv_lst (ra_cons (rv_sl sl3 rfl) (ra_cons (rv_sl sl3 rfl) ra_nil)) (Nat.le_of_ble_eq_true rfl))) ra_nil) ⟨by simp, fun q hq => by
        simp only [List.mem_cons, List.not_mem_nil, or_false] at hq
        rcases hq with z | z <;> rw [z]
        · exact hz.mono (by decide)
        · exact (hf.wo a ham).mono (by decide)⟩) s3.t s3.s fun σ4 G4 H4 s4 sl4 => ?_
    clear e1
    generalize hT : rmax tp a.2 = tq at *
    -- found.append((moment, top))
    refine q_outS (T := Y.T) (d := dc (a.1, tq)) sl4 (ow3.step s4) rfl (rv_tup (ra_cons (rv_sl sl4 rfl) (ra_cons (rv_sl sl4 rfl) ra_nil)) (Nat.le_of_ble_eq_true rfl)) (by rw [List.length_map]; omega) fun G5 H5 ow5 e5 sl5 => ?_
    have hki : atI ((slopes cu.1 cu.2).map dq) (i : Int) = some (dq (sl0 a (cu.1.drop (i + 1)) cu.2)) := at_map (f := dq) hk
    have hnx := next_get ha
    have hX : nfX tq a (cu.1.drop (i + 1)) cu.2 = decide (0 < sl0 a (cu.1.drop (i + 1)) cu.2 ∧ a.2 ≠ tq ∧ fits (metAt tq a (sl0 a (cu.1.drop (i + 1)) cu.2)) (cu.1.drop (i + 1))) := rfl
    have hL : nfL tq a (cu.1.drop (i + 1)) cu.2 = if nfX tq a (cu.1.drop (i + 1)) cu.2 ∨ (0 < sl0 a (cu.1.drop (i + 1)) cu.2 ∧ a.2 = tq) then sl0 a (cu.1.drop (i + 1)) cu.2 else 0 := rfl
    have hC : nfC tq a (cu.1.drop (i + 1)) cu.2 = (a.1, tq) :: if nfX tq a (cu.1.drop (i + 1)) cu.2 then [(metAt tq a (sl0 a (cu.1.drop (i + 1)) cu.2), tq)] else [] := rfl
    generalize hkk : sl0 a (cu.1.drop (i + 1)) cu.2 = kk at *
    have t1 : ∀ {σ : L2.St} {G : Hp} {ss : List Slot}, Sl K G σ ss → ss[1]? = some (.d (.list ((slopes cu.1 cu.2).map dq))) → ss[5]? = some (.d (.int (i : Nat))) → Rt Y.T (tTest (tOp (rI0 fun i j => .bl (decide (j < i))) (tOp (rIxT K) (tOp (rIxL K) (tVar 1) (tVar 5)) (tC (.int 0))) (tC (.int 0)))) σ G (decide (0 < kk)) := fun {σ G ss} sl e1 e2 =>
      (rt_test (rv_gt (rv_num (q := kk) (rv_ixL (rv_sl sl e1) (rv_sl sl e2) hki)) rv_i)).to (decide_eq_decide.mpr q_num_pos)
    -- last = ..
    refine q_setS (T := Y.T) (d := dq (if 0 < kk ∧ a.2 = tq then kk else 0)) sl5 (rv_if (b := decide (0 < kk) && decide (a.2 = tq)) (rt_and (t1 sl5 rfl rfl) fun _ => (rt_test (rv_eqD (rv_sl sl5 rfl) (rv_sl sl5 rfl) (shaped_dq a.2) (shaped_dq tq))).to (eqv_dq a.2 tq)) (fun hb => ?_) (fun hb => ?_)) ow5.st.t ow5.st.s fun σ6 G6 H6 s6 sl6 => ?_
    · rw [if_pos (by simpa using hb)]
      exact rv_ixL (rv_sl sl5 rfl) (rv_sl sl5 rfl) hki
    · rw [if_neg (by simpa using hb)]
      exact rv_zero
    have ow6 := ow5.step s6
    have eall : Same G2 G6 := Same.trans (Same.trans (Same.trans (Same.trans e s3.g) s4.g) e5) s6.g
    -- if slopes[at][0] > 0 and worth != top
    refine s_if (T := Y.T) (b := decide (0 < kk) && !decide (a.2 = tq)) (rt_and (t1 sl6 rfl rfl) fun _ => (rt_test (rv_neD (rv_sl sl6 rfl) (rv_sl sl6 rfl) (shaped_dq a.2) (shaped_dq tq))).to (by rw [eqv_dq])) s6.t s6.s (fun hb G7 H7 s7 => ?_) (fun hb G7 H7 s7 => ?_)
    · have hb : 0 < kk ∧ ¬ a.2 = tq := by simpa using hb
      have zd : Sz 4201 (tq - a.2) := zT.sub (hf.wo a ham)
      have zq : Sz 4401 ((tq - a.2) / kk) := zd.div hksz (by grind)
      have zm : Sz 5902 (metAt tq a kk) := (hf.mo a ham).add zq
      have sl7 := sl6.mono s7.g
      refine q_setS (T := Y.T) (d := dq (metAt tq a kk)) sl7 (rv_call2 (a := a.1) (b := (tq - a.2) / kk) (ra_cons (rv_sl sl7 rfl) (ra_cons (rv_call2 (a := tq - a.2) (b := kk) (ra_cons (rv_call2 (a := tq) (b := a.2) (ra_cons (rv_sl sl7 rfl) (ra_cons (rv_sl sl7 rfl) ra_nil)) ⟨2100, 2100, zT, hf.wo a ham, by decide⟩) (ra_cons (rv_ixL (rv_sl sl7 rfl) (rv_sl sl7 rfl) hki) ra_nil)) ⟨⟨4201, 200, zd, hksz, by decide⟩, by grind⟩) ra_nil)) ⟨1500, 4401, hf.mo a ham, zq, by decide⟩) s7.t s7.s fun σ8 G8 H8 s8 sl8 => ?_
      have ow8 := (ow6.step s7).step s8
      have e8 : Same G2 G8 := Same.trans (Same.trans eall s7.g) s8.g
      refine s_if (T := Y.T) (b := decide (fits (metAt tq a kk) (cu.1.drop (i + 1)))) ?_ s8.t s8.s (fun hb2 G9 H9 s9 => ?_) (fun hb2 G9 H9 s9 => ?_)
      · rcases hnx with ⟨n1, n2⟩ | ⟨n1, nn, nr, n2, n3⟩
        · refine (rt_or (b := false) (rt_test (rv_eqI (rv_add (rv_sl sl8 rfl) rv_i) (rv_len (rv_v0 (a := cu) (rv_sl sl8 rfl))))) fun h => ?_).to ?_
          · rw [List.length_map, decide_eq_true n1] at h
            cases h
          · rw [List.length_map, decide_eq_true n1, n2]
            rfl
        · refine (rt_or (rt_test (rv_eqI (rv_add (rv_sl sl8 rfl) rv_i) (rv_len (rv_v0 (a := cu) (rv_sl sl8 rfl))))) fun h => rt_B (rv_call2 (a := metAt tq a kk) (b := nn.1) (ra_cons (rv_sl sl8 rfl) (ra_cons (rv_c0 (a := nn) (rv_ixL (rv_v0 (a := cu) (rv_sl sl8 rfl)) (rv_add (rv_sl sl8 rfl) rv_i) (at_map (f := dc) n2))) ra_nil)) ⟨5902, 1500, zm, hf.mo nn (List.mem_of_getElem? n2), by decide⟩)).to ?_
          rw [List.length_map, decide_eq_false n1, n3]
          rfl
      · have hft : fits (metAt tq a kk) (cu.1.drop (i + 1)) := of_decide_eq_true hb2
        have hXt : nfX tq a (cu.1.drop (i + 1)) cu.2 = true := by
          rw [hX]
          exact decide_eq_true ⟨hb.1, hb.2, hft⟩
        rw [hXt] at hL hC
        rw [if_pos (.inl rfl)] at hL
        rw [if_pos rfl] at hC
        rw [hL] at hla
        rw [hC] at hin
        have sl9 := sl8.mono s9.g
        refine q_outS (T := Y.T) (d := dc (metAt tq a kk, tq)) sl9 (ow8.step s9) rfl (rv_tup (ra_cons (rv_sl sl9 rfl) (ra_cons (rv_sl sl9 rfl) ra_nil)) (Nat.le_of_ble_eq_true rfl)) (by rw [List.length_append, List.length_map]; show fi.length + 1 < 100000; omega) fun G10 H10 ow10 e10 sl10 => ?_
        refine s_setS (T := Y.T) (d := dq kk) sl10 (rv_ixL (rv_sl sl10 rfl) (rv_sl sl10 rfl) hki) ow10.st.t ow10.st.s fun σ11 G11 H11 s11 sl11 => ⟨G11, fi ++ [(a.1, tq)] ++ [(metAt tq a kk, tq)], tq, kk, .d (.int (i : Nat)), .d (dq a.1), .d (dq a.2), .d (dq (metAt tq a kk)), ?_, Same.trans (Same.trans (Same.trans e8 s9.g) e10) s11.g, sl11, zT, ?_, hlt, ?_, hla⟩
        · have := ow10.step s11
          rw [List.map_append, List.map_append]
          exact this
        · rw [List.length_append, List.length_append]
          show fi.length + 1 + 1 ≤ 2 * (i + 1)
          omega
        · rw [← hin, List.append_assoc, List.append_assoc]
          first | done | rfl
      · have hft : ¬ fits (metAt tq a kk) (cu.1.drop (i + 1)) := of_decide_eq_false hb2
        have hXt : nfX tq a (cu.1.drop (i + 1)) cu.2 = false := by
          rw [hX]
          exact decide_eq_false fun z => hft z.2.2
        rw [hXt] at hL hC
        rw [if_neg (fun z => z.elim (by simp) fun z => hb.2 z.2)] at hL
        rw [if_neg (by simp)] at hC
        rw [hL] at hla
        rw [hC] at hin
        refine ⟨G9, fi ++ [(a.1, tq)], tq, 0, .d (.int (i : Nat)), .d (dq a.1), .d (dq a.2), .d (dq (metAt tq a kk)), ?_, Same.trans e8 s9.g, ?_, zT, ?_, hlt, ?_, hla⟩
        · have := ow8.step s9
          rw [List.map_append]
          exact this
        · have := sl8.mono s9.g
          rw [if_neg (fun z => hb.2 z.2)] at this
          exact this
        · rw [List.length_append]
          show fi.length + 1 ≤ 2 * (i + 1)
          omega
        · rw [← hin, List.append_assoc]
          first | done | rfl
    · have hb : ¬ (0 < kk ∧ ¬ a.2 = tq) := by simpa using hb
      have hXt : nfX tq a (cu.1.drop (i + 1)) cu.2 = false := by
        rw [hX]
        exact decide_eq_false fun z => hb ⟨z.1, z.2.1⟩
      rw [hXt] at hL hC
      rw [if_neg (by simp)] at hC
      have hL2 : nfL tq a (cu.1.drop (i + 1)) cu.2 = if 0 < kk ∧ a.2 = tq then kk else 0 := by
        rw [hL]
        simp
      rw [hL2] at hla
      rw [hC] at hin
      refine ⟨G7, fi ++ [(a.1, tq)], tq, _, .d (.int (i : Nat)), .d (dq a.1), .d (dq a.2), sd, ?_, Same.trans eall s7.g, sl6.mono s7.g, zT, ?_, hlt, ?_, hla⟩
      · have := ow6.step s7
        rw [List.map_append]
        exact this
      · rw [List.length_append]
        show fi.length + 1 ≤ 2 * (i + 1)
        omega
      · rw [← hin, List.append_assoc]
        first | done | rfl
  · obtain ⟨fi, tp, la, sa, sb, sc, sd, ow, e, sl2, hz, hfl, hil, hin, hla⟩ := hP
    rw [enum_len, List.drop_length] at hin hla
    have hin : fi = nf a0.2 cu.1 cu.2 := by
      rw [← hin]
      show fi = fi ++ []
      rw [List.append_nil]
    have hla : la = nfLast a0.2 0 cu.1 cu.2 := hla
    subst hin
    obtain ⟨G3, st3, e3, il⟩ := ow.take
    refine s_ret (T := Y.T) (G := G3) (R := IsVc K G3 (neverFalling cu)) ?_ st3.t st3.s fun v G4 H4 s4 r => k v G4 H4 (st3.trans s4) (r.back st3.g)
    have hn : neverFalling cu = Qk.normal (nf a0.2 cu.1 cu.2) (nfLast a0.2 0 cu.1 cu.2) := by
      unfold neverFalling
      rw [hw0]
    rw [hn]
    rw [hw0] at hok
    have sl3 := sl2.mono e3
    exact rv_callV2 (a := nf a0.2 cu.1 cu.2) (b := nfLast a0.2 0 cu.1 cu.2) (ra_cons (rv_var (sl3.getV rfl) il.d) (ra_cons (by rw [← hla]; exact rv_sl sl3 rfl) ra_nil)) hok
end
end Qw
namespace Qw
open PySem PySem.Spec PyProof.Rows L2 LamX Qk
section
variable {P : Program} {w : World} {K : PySem.W.Frag} {mg : Str → Option Value} {base : Heap}
/-! ### later_tops -/
/-- the top so far, none at the start -/
def topO (l : List Cn) (s : Rat) : Option Rat := match l with
  | [] => none
  | _ :: _ => some (lt l s).2
theorem lt_sz {n : Nat} {s : Rat} : ∀ {l : List Cn}, (∀ x ∈ l, Sz n x.2) → l ≠ [] → Sz n (lt l s).2
  | [], _, h => absurd rfl h
  | [a], h, _ => h a (by simp)
  | a :: b :: r, h, _ => by
    have i := lt_sz (s := s) (l := b :: r) (fun x hx => h x (List.mem_cons_of_mem _ hx)) (by simp)
    exact rmax_sz i (h a (by simp))
theorem lt_len {s : Rat} : ∀ l : List Cn, (lt l s).1.length ≤ 2 * l.length
  | [] => Nat.le_refl _
  | [a] => by simp [lt]
  | a :: b :: r => by
    have i := lt_len (s := s) (b :: r)
    simp only [lt, List.length_cons, List.length_append]
    split
    · simp only [List.length_cons, List.length_nil]
      simp only [List.length_cons] at i
      omega
    · simp only [List.length_nil]
      simp only [List.length_cons] at i
      omega
abbrev s_later_tops : Stmt := topS 39
theorem sc_later_tops : FnScope ["curve", "slopes", "found", "top", "at", "moment", "worth", "met"] ["curve"] (defScope s_later_tops) := ⟨rfl, rfl, rfl, by decide +kernel, rfl, by decide +kernel, by decide +kernel⟩
theorem ok_later_tops (Y : Tx K mg base) : FnOk P w K mg base CX0 6 Y.f_later_tops.a Y.f_later_tops.fd ["curve"] (SpV1 Y.T K dv (fun c => Fine c ∧ SlOk (lt c.1 c.2).1) fun c => laterTops c) := by
  refine Y.f_later_tops.F.ok sc_later_tops (fun vs H Q E h => spv1_len h) (fun cdv A outer s H vs Q E hr h => ?_)
  obtain ⟨G, cu, c, ht, h, ⟨hf, hok⟩, k⟩ := h
  have sl := sl_start (N := ["curve", "slopes", "found", "top", "at", "moment", "worth", "met"]) h (Nat.le_of_ble_eq_true rfl)
  have hlen := hf.len
  have hN : ((cu.1.map dc).length : Int) = (cu.1.length : Int) := by rw [List.length_map]
  refine ⟨_, (pss_cons (ps_par3 (i := 1) (j := 2) (l := 3) (by rfl) sc_later_tops.nd rfl rfl rfl (by decide) (by decide) (by decide) rfl rfl rfl (pa_cons (pe_call (ok_slopes_of Y) (hr.mono (by decide)) (by rfl) Y.f_slopes_of.g Y.f_slopes_of.F.kp Y.f_slopes_of.b .nil pass0 (pa_cons (pv 0) pa_nil)) (pa_cons (pe_lst pa_nil) (pa_cons pe_non pa_nil))) (by rfl))
      (pss_cons (ps_for PassesOwn.never rfl (pi_range3 (by rfl) Y.z_range (pa_cons (pe_op op_sub (pe_callB call_len_seq (by rfl) Y.z_len PySem.boot_len (pa_cons (pe_ix ix_tup (pv 0) pe_int (fun _ _ => rfl)) pa_nil)) pe_int) (pa_cons (pe_un un_neg pe_int) (pa_cons (pe_un un_neg pe_int) pa_nil)))) (pg_name (i := 4) sc_later_tops.nd rfl (Or.inl rfl)) (pss_cons (ps_asg (pe_ix ix_list (pe_ix ix_tup (pv 0) pe_int (fun _ _ => rfl)) (pv 4) (fun _ _ => rfl)) (pg_tup rfl (pgs_cons (pg_name (i := 5) sc_later_tops.nd rfl (Or.inl rfl)) (pgs_cons (pg_name (i := 6) sc_later_tops.nd rfl (Or.inl rfl)) pgs_nil))))
      (pss_cons (ps_if (PW.pt (pw_and (pt_cmpR op_notNq (pv 3) pe_non (nomark _)) (pw_and (pt_cmpR op_lt (pe_ix ix_tup (pe_ix ix_list (pv 1) (pv 4) (fun _ _ => rfl)) pe_int (fun _ _ => rfl)) pe_int (nomark _)) (pw_and1 (pt_val (pe_call (ok_is_below Y) (hr.mono (by decide)) (by rfl) Y.f_is_below.g Y.f_is_below.F.kp Y.f_is_below.b .nil pass0 (pa_cons (pv 3) (pa_cons (pv 6) pa_nil)))))))) (pss_cons (ps_set (i := 7) sc_later_tops.nd rfl (Or.inl rfl) (pe_call (ok_plus Y) (hr.mono (by decide)) (by rfl) Y.f_plus.g Y.f_plus.F.kp Y.f_plus.b .nil pass0 (pa_cons (pv 5) (pa_cons (pe_call (ok_parted Y) (hr.mono (by decide)) (by rfl) Y.f_parted.g Y.f_parted.F.kp Y.f_parted.b .nil pass0 (pa_cons (pe_call (ok_less Y) (hr.mono (by decide)) (by rfl) Y.f_less.g Y.f_less.F.kp Y.f_less.b .nil pass0 (pa_cons (pv 3) (pa_cons (pv 6) pa_nil))) (pa_cons (pe_ix ix_list (pv 1) (pv 4) (fun _ _ => rfl)) pa_nil))) pa_nil))))
      (pss_one (ps_if (pt_val (pe_call (ok_is_below Y) (hr.mono (by decide)) (by rfl) Y.f_is_below.g Y.f_is_below.F.kp Y.f_is_below.b .nil pass0 (pa_cons (pv 7) (pa_cons (pe_ix ix_tup (pe_ix ix_list (pe_ix ix_tup (pv 0) pe_int (fun _ _ => rfl)) (pe_op op_add (pv 4) pe_int) (fun _ _ => rfl)) pe_int (fun _ _ => rfl)) pa_nil)))) (pss_one (ps_expr (pe_bm PySem.F.plainAttrs_list PySem.F.slot_list_append PySem.F.type_list_append mt_append (pv 2) (pa_cons (pe_tup (pa_cons (pv 7) (pa_cons (pv 3) pa_nil))) pa_nil)))) pss_nil))) pss_nil)
      (pss_cons (ps_set (i := 3) sc_later_tops.nd rfl (Or.inl rfl) (pe_ifExp (pt_cmpR op_isNq (pv 3) pe_non (nomark _)) (pv 6) (pe_call (ok_greatest Y) (hr.mono (by decide)) (by rfl) Y.f_greatest.g Y.f_greatest.F.kp Y.f_greatest.b .nil pass0 (pa_cons (pe_lst (pa_cons (pv 3) (pa_cons (pv 6) pa_nil))) pa_nil))))
      (pss_one (ps_expr (pe_bm PySem.F.plainAttrs_list PySem.F.slot_list_append PySem.F.type_list_append mt_append (pv 2) (pa_cons (pe_tup (pa_cons (pv 5) (pa_cons (pv 3) pa_nil))) pa_nil))))))))
      (pss_one (ps_ret (pe_call (ok_normal Y) (hr.mono (by decide)) (by rfl) Y.f_normal.g Y.f_normal.F.kp Y.f_normal.b .nil pass0 (pa_cons (pe_revL (pv 2)) (pa_cons (pe_ix ix_tup (pv 0) pe_int (fun _ _ => rfl)) pa_nil))))))), ?_⟩
  refine q_par3LS (T := Y.T) (d := .list ((slopes cu.1 cu.2).map dq)) sl (Step.refl ht c) (Rv.ld (rv_call1 (a := cu) (ra_cons (rv_sl sl rfl) ra_nil) hf.slOk)) fun o σ1 G1 H1 w1 s1 sl1 => ?_
  refine q_for (T := Y.T) (ri_down (n := cu.1.length) (ra_cons (by
    rw [← hN]
    exact rv_sub (rv_len (rv_v0 (a := cu) (rv_sl sl1 rfl))) rv_i) (ra_cons (rv_neg rv_i) (ra_cons (rv_neg rv_i) ra_nil))) (by omega)) s1.t s1.s fun G2 H2 s2 => ⟨fun t σ' G' H' => ∃ (sa sb sc sd : Slot), Own Y.T K G H G' H' o (((lt (cu.1.drop (cu.1.length - t)) cu.2).1.reverse).map dc) ∧ Same G2 G' ∧ Sl K G' σ' [.d (dv cu), .d (.list ((slopes cu.1 cu.2).map dq)), .v (.ref o), .d (optD (topO (cu.1.drop (cu.1.length - t)) cu.2)), sa, sb, sc, sd] ∧ t ≤ cu.1.length,
    ⟨.no, .no, .no, .no, by
      rw [Nat.sub_zero, List.drop_length]
      exact w1.step s2, Same.refl _, by
      rw [Nat.sub_zero, List.drop_length]
      exact (sl1.mono s2.g).vd (i := 3) rfl .non, Nat.zero_le _⟩, fun i σ' G' H' ⟨_, _, _, _, ow, e, _⟩ => ⟨e, ow.st.s, ow.st.t⟩, fun i d x σ' G' H' G'' H'' hd hP s3 hx => ?_, fun σ' G' H' hP => ?_⟩
  · obtain ⟨sa, sb, sc, sd, ow, e, sl2, hti⟩ := hP
    have hlt : i < cu.1.length := by
      have := (List.getElem?_eq_some_iff.mp hd).1
      simpa using this
    obtain ⟨m, hm⟩ : ∃ m, m = cu.1.length - 1 - i := ⟨_, rfl⟩
    have hd2 : d = .int (m : Int) := by
      rw [List.getElem?_map, List.getElem?_range hlt] at hd
      have hd := Option.some.inj hd
      rw [← hd]
      show PyData.int ((cu.1.length : Int) - 1 + (i : Nat) * (-1)) = PyData.int (m : Nat)
      congr 1
      omega
    subst hd2
    have em : cu.1.length - i = m + 1 := by omega
    have em2 : cu.1.length - (i + 1) = m := by omega
    rw [em] at ow sl2
    obtain ⟨a, ha⟩ : ∃ a, cu.1[m]? = some a := ⟨_, List.getElem?_eq_getElem (show m < cu.1.length by omega)⟩
    have ham := List.mem_of_getElem? ha
    obtain ⟨hdr, hk⟩ := drop_get (s := cu.2) ha
    have hksz := hf.sl _ (List.mem_of_getElem? hk)
    have hki : atI ((slopes cu.1 cu.2).map dq) (m : Int) = some (dq (sl0 a (cu.1.drop (m + 1)) cu.2)) := at_map (f := dq) hk
    have hwo : ∀ x ∈ cu.1.drop (m + 1), Sz 2100 x.2 := fun x hx => hf.wo x (List.mem_of_mem_drop hx)
    have ow3 := ow.step s3
    have sl3 := (sl2.mono s3.g).set (i := 4) hx
    refine q_pairS (T := Y.T) (d1 := dq a.1) (d2 := dq a.2) sl3 (rv_ixL (rv_v0 (a := cu) (rv_sl sl3 rfl)) (rv_sl sl3 rfl) (at_map (f := dc) ha)) s3.t s3.s fun σ4 G4 H4 s4 sl4 => ?_
    have ow4 := ow3.step s4
    have e4 : Same G2 G4 := Same.trans (Same.trans e s3.g) s4.g
    have hfound : ∀ l : List Cn, (lt l cu.2).1.length ≤ 2 * l.length := fun l => lt_len l
    have hl4 : (lt (cu.1.drop (m + 1)) cu.2).1.length ≤ 2000 := by
      have := hfound (cu.1.drop (m + 1))
      rw [List.length_drop] at this
      omega
    -- the corners added, and the top
    obtain ⟨ex, tq, hex1, hex2, hex3⟩ : ∃ (ex : List Cn) (tq : Rat), (lt (a :: cu.1.drop (m + 1)) cu.2).1 = (a.1, tq) :: (ex ++ (lt (cu.1.drop (m + 1)) cu.2).1) ∧ (lt (a :: cu.1.drop (m + 1)) cu.2).2 = tq ∧
        (match cu.1.drop (m + 1) with
          | [] => ex = [] ∧ tq = a.2
          | b :: r => tq = rmax (lt (b :: r) cu.2).2 a.2 ∧ ex = if steep a b < 0 ∧ (lt (b :: r) cu.2).2 < a.2 ∧ metAt (lt (b :: r) cu.2).2 a (steep a b) < b.1 then [(metAt (lt (b :: r) cu.2).2 a (steep a b), (lt (b :: r) cu.2).2)] else []) := by
      cases cu.1.drop (m + 1) with
      | nil => exact ⟨[], a.2, rfl, rfl, rfl, rfl⟩
      | cons b r => exact ⟨_, _, rfl, rfl, rfl, rfl⟩
    have goal : ∀ {σ5 : L2.St} {G5 H5 : Hp} {sd' : Slot}, Own Y.T K G H G5 H5 o ((((lt (cu.1.drop (m + 1)) cu.2).1.reverse ++ ex)).map dc) → Same G2 G5 → Sl K G5 σ5 [.d (dv cu), .d (.list ((slopes cu.1 cu.2).map dq)), .v (.ref o), .d (optD (topO (cu.1.drop (m + 1)) cu.2)), .d (.int (m : Nat)), .d (dq a.1), .d (dq a.2), sd'] → ex.length ≤ 1 →
        tSeq (tAsg (tIf (tTest (tOp qIsN (tVar 3) (tC .non))) (tVar 6) (tCall (Sp1 Y.T K (fun qs : List Rat => .list (qs.map dq)) (fun qs => qs ≠ [] ∧ ∀ q ∈ qs, Sz 4500 q) fun qs => IsD K (dq (qs.foldl rmax (qs.headD 0)))) [] E0 (tCons (tLst (tCons (tVar 3) (tCons (tVar 6) tNil))) tNil))) (gName 3)) (tDrop (tBM K "list" rAppend (tVar 2) (tCons (tTup (tCons (tVar 5) (tCons (tVar 3) tNil))) tNil))) { nx := fun σ H_1 => ∃ G_1, ∃ (sa sb sc sd : Slot), Own Y.T K G H G_1 H_1 o ((lt (cu.1.drop (cu.1.length - (i + 1))) cu.2).1.reverse.map dc) ∧ Same G2 G_1 ∧ Sl K G_1 σ [.d (dv cu), .d (.list ((slopes cu.1 cu.2).map dq)), .v (.ref o), .d (optD (topO (cu.1.drop (cu.1.length - (i + 1))) cu.2)), sa, sb, sc, sd] ∧ i + 1 ≤ cu.1.length, rt := Q } σ5 H5 := by
      intro σ5 G5 H5 sd' ow5 e5 sl5 hex
      refine q_setS (T := Y.T) (d := dq tq) sl5 ?_ ow5.st.t ow5.st.s fun σ6 G6 H6 s6 sl6 => ?_
      · cases hrest : cu.1.drop (m + 1) with
        | nil =>
          rw [hrest] at sl5 hex3
          refine rv_if (b := true) (rt_test (rv_isN (d := .none) (rv_sl sl5 rfl))) (fun _ => ?_) (fun hb => nomatch hb)
          rw [hex3.2]
          exact rv_sl sl5 rfl
        | cons b r =>
          rw [hrest] at sl5 hex3 hwo
          have zT : Sz 2100 (lt (b :: r) cu.2).2 := lt_sz hwo (by simp)
          refine rv_if (b := false) (rt_test (rv_isN (d := dq (lt (b :: r) cu.2).2) (rv_sl sl5 rfl))) (fun hb => nomatch hb) (fun _ => ?_)
          rw [hex3.1, show rmax (lt (b :: r) cu.2).2 a.2 = rmax (rmax (lt (b :: r) cu.2).2 (lt (b :: r) cu.2).2) a.2 by rw [rmax_self]]
          exact rv_call1 (a := [(lt (b :: r) cu.2).2, a.2]) (ra_cons (Rv.ld (rv_lst (ra_cons (rv_sl sl5 rfl) (ra_cons (rv_sl sl5 rfl) ra_nil)) (Nat.le_of_ble_eq_true rfl))) ra_nil) ⟨by simp, fun q hq => by
            simp only [List.mem_cons, List.not_mem_nil, or_false] at hq
            rcases hq with z | z <;> rw [z]
            · exact zT.mono (by decide)
            · exact (hf.wo a ham).mono (by decide)⟩
      · refine s_outS (T := Y.T) (d := dc (a.1, tq)) sl6 (ow5.step s6) rfl (rv_tup (ra_cons (rv_sl sl6 rfl) (ra_cons (rv_sl sl6 rfl) ra_nil)) (Nat.le_of_ble_eq_true rfl)) (by
          rw [List.length_map, List.length_append, List.length_reverse]
          omega) fun G7 H7 ow7 e7 sl7 => ⟨G7, .d (.int (m : Nat)), .d (dq a.1), .d (dq a.2), sd', ?_, Same.trans (Same.trans e5 s6.g) e7, ?_, hlt⟩
        · have er : (lt (a :: cu.1.drop (m + 1)) cu.2).1.reverse.map dc = (((lt (cu.1.drop (m + 1)) cu.2).1.reverse ++ ex).map dc) ++ [dc (a.1, tq)] := by
            rw [hex1, List.reverse_cons, List.reverse_append, List.map_append]
            have : ex.reverse = ex := by
              match ex, hex with
              | [], _ => rfl
              | [_], _ => rfl
            rw [this]
            rfl
          rw [em2, hdr, er]
          exact ow7
        · have et : topO (a :: cu.1.drop (m + 1)) cu.2 = some tq := by
            show some _ = some tq
            rw [hex2]
          rw [em2, hdr, et]
          exact sl7
    -- the corner between
    refine q_if (T := Y.T) (b := match cu.1.drop (m + 1) with | [] => false | b :: r => decide (steep a b < 0) && decide ((lt (b :: r) cu.2).2 < a.2)) ?_ s4.t s4.s (fun hb G5 H5 s5 => ?_) (fun hb G5 H5 s5 => ?_)
    · cases hrest : cu.1.drop (m + 1) with
      | nil =>
        rw [hrest] at sl4
        exact rt_and (a := false) (b := false) (rt_test (rv_notN (d := .none) (rv_sl sl4 rfl))) (fun hb => nomatch hb)
      | cons b r =>
        rw [hrest] at sl4 hki hwo
        have zT : Sz 2100 (lt (b :: r) cu.2).2 := lt_sz hwo (by simp)
        refine rt_and (a := true) (rt_test (rv_notN (d := dq (lt (b :: r) cu.2).2) (rv_sl sl4 rfl))) fun _ => rt_and ((rt_test (rv_lt (rv_num (q := steep a b) (rv_ixL (rv_sl sl4 rfl) (rv_sl sl4 rfl) hki)) rv_i)).to (decide_eq_decide.mpr q_num_neg)) fun _ => rt_B (rv_call2 (a := (lt (b :: r) cu.2).2) (b := a.2) (ra_cons (rv_sl sl4 rfl) (ra_cons (rv_sl sl4 rfl) ra_nil)) ⟨2100, 2100, zT, hf.wo a ham, by decide⟩)
    · cases hrest : cu.1.drop (m + 1) with
      | nil =>
        rw [hrest] at hb
        cases hb
      | cons b r =>
        rw [hrest] at hb hex3 hwo
        have hex3 : tq = rmax (lt (b :: r) cu.2).2 a.2 ∧ ex = (if steep a b < 0 ∧ (lt (b :: r) cu.2).2 < a.2 ∧ metAt (lt (b :: r) cu.2).2 a (steep a b) < b.1 then [(metAt (lt (b :: r) cu.2).2 a (steep a b), (lt (b :: r) cu.2).2)] else []) := hex3
        have hbb : steep a b < 0 ∧ (lt (b :: r) cu.2).2 < a.2 := by simpa using hb
        have sl5 := sl4.mono s5.g
        have ow5 := ow4.step s5
        have e5 := Same.trans e4 s5.g
        have zT : Sz 2100 (lt (b :: r) cu.2).2 := lt_sz hwo (by simp)
        have hki2 := hki
        rw [hrest] at hki2 hksz
        have hksz : Sz 200 (steep a b) := hksz
        have zd : Sz 4201 ((lt (b :: r) cu.2).2 - a.2) := zT.sub (hf.wo a ham)
        have zq : Sz 4401 (((lt (b :: r) cu.2).2 - a.2) / steep a b) := zd.div hksz (by grind)
        have zm : Sz 5902 (metAt (lt (b :: r) cu.2).2 a (steep a b)) := (hf.mo a ham).add zq
        have hnb : cu.1[m + 1]? = some b := by
          have := congrArg List.head? hrest
          rw [List.head?_drop] at this
          exact this
        rw [hrest] at sl5
        refine q_setS (T := Y.T) (d := dq (metAt (lt (b :: r) cu.2).2 a (steep a b))) sl5 (rv_call2 (a := a.1) (b := ((lt (b :: r) cu.2).2 - a.2) / steep a b) (ra_cons (rv_sl sl5 rfl) (ra_cons (rv_call2 (a := (lt (b :: r) cu.2).2 - a.2) (b := steep a b) (ra_cons (rv_call2 (a := (lt (b :: r) cu.2).2) (b := a.2) (ra_cons (rv_sl sl5 rfl) (ra_cons (rv_sl sl5 rfl) ra_nil)) ⟨2100, 2100, zT, hf.wo a ham, by decide⟩) (ra_cons (rv_ixL (rv_sl sl5 rfl) (rv_sl sl5 rfl) hki2) ra_nil)) ⟨⟨4201, 200, zd, hksz, by decide⟩, by grind⟩) ra_nil)) ⟨1500, 4401, hf.mo a ham, zq, by decide⟩) s5.t s5.s fun σ6 G6 H6 s6 sl6 => ?_
        have ow6 := ow5.step s6
        have e6 := Same.trans e5 s6.g
        refine s_if (T := Y.T) (rt_B (rv_call2 (a := metAt (lt (b :: r) cu.2).2 a (steep a b)) (b := b.1) (ra_cons (rv_sl sl6 rfl) (ra_cons (rv_c0 (a := b) (rv_ixL (rv_v0 (a := cu) (rv_sl sl6 rfl)) (rv_add (rv_sl sl6 rfl) rv_i) (at_map (f := dc) hnb))) ra_nil)) ⟨5902, 1500, zm, hf.mo b (List.mem_of_getElem? hnb), by decide⟩)) s6.t s6.s (fun hb2 G7 H7 s7 => ?_) (fun hb2 G7 H7 s7 => ?_)
        · have hb2 := of_decide_eq_true hb2
          rw [if_pos ⟨hbb.1, hbb.2, hb2⟩] at hex3
          have sl7 := sl6.mono s7.g
          refine s_outS (T := Y.T) (d := dc (metAt (lt (b :: r) cu.2).2 a (steep a b), (lt (b :: r) cu.2).2)) sl7 (ow6.step s7) rfl (rv_tup (ra_cons (rv_sl sl7 rfl) (ra_cons (rv_sl sl7 rfl) ra_nil)) (Nat.le_of_ble_eq_true rfl)) (by
            rw [List.length_map, List.length_reverse]
            omega) fun G8 H8 ow8 e8 sl8 => ?_
          refine goal ?_ (Same.trans (Same.trans e6 s7.g) e8) (by rw [hrest]; exact sl8) (by rw [hex3.2]; exact Nat.le_refl _)
          rw [hex3.2, List.map_append]
          exact ow8
        · have hb2 := of_decide_eq_false hb2
          rw [if_neg (fun z => hb2 z.2.2)] at hex3
          refine goal ?_ (Same.trans e6 s7.g) (by rw [hrest]; exact sl6.mono s7.g) (by rw [hex3.2]; exact Nat.zero_le _)
          rw [hex3.2, List.append_nil]
          exact ow6.step s7
    · have hex0 : ex = [] := by
        cases hrest : cu.1.drop (m + 1) with
        | nil =>
          rw [hrest] at hex3
          exact hex3.1
        | cons b r =>
          rw [hrest] at hex3 hb
          have hex3 : tq = rmax (lt (b :: r) cu.2).2 a.2 ∧ ex = (if steep a b < 0 ∧ (lt (b :: r) cu.2).2 < a.2 ∧ metAt (lt (b :: r) cu.2).2 a (steep a b) < b.1 then [(metAt (lt (b :: r) cu.2).2 a (steep a b), (lt (b :: r) cu.2).2)] else []) := hex3
          have hbb : ¬ (steep a b < 0 ∧ (lt (b :: r) cu.2).2 < a.2) := by simpa using hb
          rw [hex3.2, if_neg (fun z => hbb ⟨z.1, z.2.1⟩)]
      refine goal ?_ (Same.trans e4 s5.g) (sl4.mono s5.g) (by rw [hex0]; exact Nat.zero_le _)
      rw [hex0, List.append_nil]
      exact ow4.step s5
  · obtain ⟨sa, sb, sc, sd, ow, e, sl2, hti⟩ := hP
    have en : cu.1.length - ((List.range cu.1.length).map fun i => PyData.int ((cu.1.length : Int) - 1 + (i : Nat) * (-1))).length = 0 := by
      rw [List.length_map, List.length_range, Nat.sub_self]
    rw [en, List.drop_zero] at ow
    obtain ⟨G3, st3, e3, il⟩ := ow.take
    have sl3 := sl2.mono e3
    refine s_ret (T := Y.T) (G := G3) (R := IsVc K G3 (laterTops cu)) ?_ st3.t st3.s fun v G4 H4 s4 r => k v G4 H4 (st3.trans s4) (r.back st3.g)
    refine rv_callV2 (a := (lt cu.1 cu.2).1) (b := cu.2) (ra_cons ?_ (ra_cons (rv_v1 (a := cu) (rv_sl sl3 rfl)) ra_nil)) hok
    have h1 := rv_rev (T := Y.T) (rv_var (sl3.getV (i := 2) (x := .ref o) rfl) il.d)
    rw [← List.map_reverse, List.reverse_reverse] at h1
    exact Rv.ld h1
end
end Qw
namespace Qw
open PySem PySem.Spec PyProof.Rows L2 LamX Qk
section
variable {P : Program} {w : World} {K : PySem.W.Frag} {mg : Str → Option Value} {base : Heap}
/-! ### in_order -/
/-- what the order asks: few, no two alike, not large -/
structure FewQ (qs : List Rat) : Prop where
  few : qs.length ≤ 400
  sz : ∀ q ∈ qs, Sz 1500 q
theorem pow_mono {a b : Nat} (h : a ≤ b) : 2 ^ a ≤ 2 ^ b := Nat.pow_le_pow_right (by decide) h
abbrev s_in_order : Stmt := topS 18
theorem sc_in_order : FnScope ["things", "common", "thing"] ["things"] (defScope s_in_order) := ⟨rfl, rfl, rfl, by decide +kernel, rfl, by decide +kernel, by decide +kernel⟩
theorem ok_in_order (Y : Tx K mg base) : FnOk P w K mg base CX0 2 Y.f_in_order.a Y.f_in_order.fd ["things"] (Sp1 Y.T K (fun qs : List Rat => .list (qs.map dq)) (fun qs => qs.Nodup ∧ FewQ qs) fun qs => IsL K ((srt qs).map dq)) := by
  refine Y.o1.ok sc_in_order (fun vs H Q E h => sp1_len h) (fun A outer s H vs Q E hr h => ?_)
  obtain ⟨G, qs, c, ht, h, ⟨hn, hf⟩, k⟩ := h
  have sl := sl_start (N := ["things", "common", "thing"]) h (Nat.le_of_ble_eq_true rfl)
  refine ⟨_, (pss_cons (ps_set (i := 1) sc_in_order.nd rfl (Or.inr rfl) pe_int)
      (pss_cons (ps_for PassesOwn.never rfl (pi_list (pv 0)) (pg_name (i := 2) sc_in_order.nd rfl (Or.inl rfl)) (pss_one (ps_set (i := 1) sc_in_order.nd rfl (Or.inr rfl) (pe_op op_fdivW (pe_op op_mulW (pv 1) (pe_ix ix_tup (pv 2) pe_int (fun _ _ => rfl))) (pe_callBfun cr_gcd (by rfl) Y.g_gcd (pa_cons (pv 1) (pa_cons (pe_ix ix_tup (pv 2) pe_int (fun _ _ => rfl)) pa_nil)))))))
      (pss_one (ps_ret (pe_sortL (k := 0) (j := 1) (th := "thing") (cm := "common") (hr.mono (by decide)) (by rfl) Y.z_sorted (pv 0) Y.b1 rfl Y.t1 Y.u1 (show LamK (defScope s_in_order) _ _ _ from lamK_by (by decide +kernel)) rfl (fun _ _ _ _ _ _ => rfl) rfl))))), ?_⟩
  refine q_setS (T := Y.T) (d := .int 1) sl rv_i ht c fun σ1 G1 H1 s1 sl1 => ?_
  refine q_for (T := Y.T) (ri_list (rv_sl sl1 rfl)) s1.t s1.s fun G2 H2 s2 => ⟨fun i σ' G' H' => ∃ (C : Int) (sa : Slot), Step Y.T G H G' H' ∧ Same G2 G' ∧ Sl K G' σ' [.d (.list (qs.map dq)), .d (.int C), sa] ∧ 0 < C ∧ C.natAbs < 2 ^ (1500 * i + 1) ∧ ∀ q ∈ qs.take i, (q.den : Int) ∣ C,
    ⟨1, .no, s1.trans s2, Same.refl _, sl1.mono s2.g, by decide, by decide, by simp⟩, fun i σ' G' H' ⟨_, _, st, e, _⟩ => ⟨e, st.s, st.t⟩, fun i d x σ' G' H' G'' H'' hd hP s3 hx => ?_, fun σ' G' H' hP => ?_⟩
  · obtain ⟨C, sa, st, e, sl2, h0, hz, hdv⟩ := hP
    have hlt : i < qs.length := by
      have := (List.getElem?_eq_some_iff.mp hd).1
      simpa using this
    have hfew := hf.few
    obtain ⟨q, hq, rfl⟩ : ∃ q, qs[i]? = some q ∧ d = dq q := by
      rw [List.getElem?_map] at hd
      cases e : qs[i]? with
      | none =>
        rw [e] at hd
        cases hd
      | some q =>
        rw [e] at hd
        exact ⟨q, rfl, (Option.some.inj hd).symm⟩
    have hqm := List.mem_of_getElem? hq
    have zq := hf.sz q hqm
    have hdp := q_den_pos q
    have sl3 := (sl2.mono s3.g).set (i := 2) hx
    obtain ⟨l1, l2, l3, l4⟩ := lcmS_ok h0 hdp
    have hb : (C * (q.den : Int)).natAbs < 2 ^ (1500 * (i + 1) + 1) := by
      have := mul_lt2 hz zq.den
      rw [show 1500 * (i + 1) + 1 = 1500 * i + 1 + 1500 by omega]
      exact this
    refine s_setS (T := Y.T) (d := .int (lcmS C (q.den : Int))) sl3 (rv_div (rv_mul (rv_sl sl3 rfl) (rv_den (rv_sl sl3 rfl)) ?_) (rv_gcd (fun a b H Q h => ⟨a, b, rfl, h⟩) (ra_cons (rv_sl sl3 rfl) (ra_cons (rv_den (rv_sl sl3 rfl)) ra_nil))) ?_) s3.t s3.s fun σ4 G4 H4 s4 sl4 => ⟨G4, lcmS C (q.den : Int), _, (st.trans s3).trans s4, Same.trans (Same.trans e s3.g) s4.g, sl4, l1, ?_, fun p hp => ?_⟩
    · exact wide_mul (a := 1500 * i + 1) (b := 1500) hz zq.den (by omega) (by decide) (by omega)
    · have gp : 0 < Nat.gcd C.natAbs (q.den : Int).natAbs := Nat.gcd_pos_of_pos_right _ (by omega)
      refine wide_div (b := 1500) (by omega) ?_ (by decide) (by decide)
      rw [Int.natAbs_natCast]
      exact Nat.lt_of_le_of_lt (Nat.gcd_le_right _ (by omega)) zq.den
    · refine Nat.lt_of_le_of_lt ?_ hb
      omega
    · rw [List.take_add_one, hq] at hp
      rcases List.mem_append.mp hp with z | z
      · exact Int.dvd_trans (hdv p z) l2
      · have z : p = q := by simpa using z
        rw [z]
        exact l3
  · obtain ⟨C, sa, st, e, sl2, h0, hz, hdv⟩ := hP
    rw [List.length_map] at hz hdv
    rw [List.take_length] at hdv
    have hfew := hf.few
    have hc : ∀ q ∈ qs, CDivW C (q.den : Int) ∧ CMulW q.num (C / (q.den : Int)) := fun q hq => by
      have zq := hf.sz q hq
      have hdp := q_den_pos q
      refine ⟨wide_div (b := 1500) hdp zq.den (by decide) (by decide), wide_mul (a := 1500) (b := 1500 * qs.length + 1) zq.one ?_ (by decide) (by omega) (by omega)⟩
      exact Nat.lt_of_le_of_lt (Int.natAbs_ediv_le_natAbs _ _) hz
    refine s_ret (T := Y.T) (rv_sortL (C := C) (j := 1) sl2 rfl (rv_sl sl2 rfl) hc (by omega)) st.t st.s fun v G3 H3 s3 ⟨ps, h1, h2, h3⟩ => k v G3 H3 (st.trans s3) ?_
    have := srt_of h0 hdv hn h1 h2
    rw [this] at h3
    exact h3
theorem srt_nub (qs : List Rat) : srt (nub qs) = srt qs := asc_one (asc_srt _) (asc_srt _) fun x => by rw [mem_srt, mem_srt, mem_nub]
abbrev s_each_once : Stmt := topS 28
theorem sc_each_once : FnScope ["moments", "moment"] ["moments"] (defScope s_each_once) := ⟨rfl, rfl, rfl, by decide +kernel, rfl, by decide +kernel, by decide +kernel⟩
theorem ok_each_once (Y : Tx K mg base) : FnOk P w K mg base CX0 3 Y.f_each_once.a Y.f_each_once.fd ["moments"] (Sp1 Y.T K (fun qs : List Rat => .list (qs.map dq)) FewQ fun qs => IsL K ((srt qs).map dq)) := by
  refine Y.f_each_once.F.ok sc_each_once (fun vs H Q E h => sp1_len h) (fun cdv A outer s H vs Q E hr h => ?_)
  obtain ⟨G, qs, c, ht, h, hf, k⟩ := h
  have sl := sl_start (N := ["moments", "moment"]) h (Nat.le_of_ble_eq_true rfl)
  have hfew := hf.few
  refine ⟨_, (pss_one (ps_ret (pe_call (ok_in_order Y) (hr.mono (by decide)) (by rfl) Y.f_in_order.g Y.f_in_order.F.kp Y.f_in_order.b .nil pass0 (pa_cons (pe_callTy (call_list_dT rfl) (by rfl) Y.z_list (by decide +kernel) (pa_cons (pe_dcT (own := [("moment", 1)]) (g := (gName 1)) hr.units0 rfl sc_each_once.nd (pi_list (pv 0)) (blkOk_by (N := ["moments", "moment"]) (sc := defScope s_each_once) (own := [("moment", 1)]) (by decide +kernel)) (fun _ _ _ _ _ => (pg_name (i := 1) sc_each_once.nd rfl (Or.inl rfl))) (fun _ _ _ _ _ => (pv 1)) (fun _ _ _ _ _ => pe_bl)) pa_nil)) pa_nil)))), ?_⟩
  refine s_ret (T := Y.T) (R := IsL K ((srt qs).map dq)) ?_ ht c k
  rw [← srt_nub]
  exact rv_call1 (a := nub qs) (ra_cons (rv_listD (rv_dcT (ri_list (rv_sl sl rfl)) (by omega) (by decide) (by rw [sl.len]; exact Nat.le_of_ble_eq_true rfl))).ld ra_nil) ⟨nodup_nub qs, ⟨Nat.le_trans (len_nub qs) hfew, fun q hq => hf.sz q (mem_nub.mp hq)⟩⟩
end
end Qw
namespace Qw
open PySem PySem.Spec PyProof.Rows L2 LamX Qk
section
variable {P : Program} {w : World} {K : PySem.W.Frag} {mg : Str → Option Value} {base : Heap}
/-! ### moments_of -/
abbrev allMo (cs : List Cv) : List Rat := cs.flatMap fun c => moms c.1
abbrev s_moments_of : Stmt := topS 29
theorem sc_moments_of : FnScope ["curves", "curve", "moment", "worth"] ["curves"] (defScope s_moments_of) := ⟨rfl, rfl, rfl, by decide +kernel, rfl, by decide +kernel, by decide +kernel⟩
theorem ok_moments_of (Y : Tx K mg base) : FnOk P w K mg base CX0 4 Y.f_moments_of.a Y.f_moments_of.fd ["curves"] (Sp1 Y.T K (fun cs : List Cv => .list (cs.map dv)) (fun cs => FewQ (allMo cs)) fun cs => IsL K ((momsOf cs).map dq)) := by
  refine Y.f_moments_of.F.ok sc_moments_of (fun vs H Q E h => sp1_len h) (fun cdv A outer s H vs Q E hr h => ?_)
  obtain ⟨G, cs, c, ht, h, hf, k⟩ := h
  have sl := sl_start (N := ["curves", "curve", "moment", "worth"]) h (Nat.le_of_ble_eq_true rfl)
  have hfew := hf.few
  have hl : (cs.flatMap fun c => c.1).length ≤ 90000 := by
    have e : (allMo cs).length = (cs.flatMap fun c => c.1).length := by
      unfold allMo moms
      rw [List.length_flatMap, List.length_flatMap]
      simp
    omega
  refine ⟨_, (pss_one (ps_ret (pe_call (ok_each_once Y) (hr.mono (by decide)) (by rfl) Y.f_each_once.g Y.f_each_once.F.kp Y.f_each_once.b .nil pass0 (pa_cons (pe_lc2 (own := [("curve", 1), ("moment", 2), ("worth", 3)]) (g := (gName 1)) (g1 := (gTup K 2 (gCons (gName 2) (gCons (gName 3) gNil)))) (vs1 := [2, 3]) (wi1 := iList K (tOp (rIxT K) (tVar 1) (tC (.int 0)))) rfl sc_moments_of.nd (pi_list (pv 0)) (blkOk_by (N := ["curves", "curve", "moment", "worth"]) (sc := defScope s_moments_of) (own := [("curve", 1), ("moment", 2), ("worth", 3)]) (by decide +kernel)) (by decide) (fun _ _ _ _ _ => (pg_name (i := 1) sc_moments_of.nd rfl (Or.inl rfl))) (fun _ _ _ _ _ => pts_nil) (fun _ _ _ _ _ => (pi_list (pe_ix ix_tup (pv 1) pe_int (fun _ _ => rfl)))) (fun _ _ _ _ _ => (pg_tup rfl (pgs_cons (pg_name (i := 2) sc_moments_of.nd rfl (Or.inl rfl)) (pgs_cons (pg_name (i := 3) sc_moments_of.nd rfl (Or.inl rfl)) pgs_nil)))) (fun _ _ _ _ _ => pts_nil) (fun _ _ _ _ _ => (pv 2))) pa_nil)))), ?_⟩
  refine s_ret (T := Y.T) (R := IsL K ((momsOf cs).map dq)) ?_ ht c k
  refine rv_call1 (a := allMo cs) (ra_cons (Rv.ld ?_) ra_nil) hf
  have e : (allMo cs).map dq = (cs.flatMap fun c : Cv => c.1).map (fun a : Cn => dq a.1) := by
    unfold allMo moms
    rw [List.map_flatMap, List.map_flatMap]
    simp only [List.map_map]
    rfl
  rw [e]
  exact rv_lc2 (A := dv) (B1 := fun a : Cn => dq a.1) (B2 := fun a : Cn => dq a.2) (C := fun a : Cn => dq a.1) (inn := fun c : Cv => c.1) sl (ri_list (rv_sl sl rfl)) hl (by decide) (by decide) (by decide) (fun a ha σ' G1 e sl1 => ri_list (rv_v0 (a := a) (rv_sl sl1 rfl))) fun a ha b hb σ' G1 e sl1 => rv_sl sl1 rfl
/-! ### summed -/
/-- what the sum of two curves asks -/
structure SumOk (x y : Cv) : Prop where
  fx : Fine x
  fy : Fine y
  few : FewQ (allMo [x, y, line 0])
  vals : ∀ m ∈ momsOf [x, y, line 0], Sz 4000 (vl x m) ∧ Sz 4000 (vl y m)
  sx : Sz 4000 x.2
  sy : Sz 4000 y.2
  ok : SlOk ((momsOf [x, y, line 0]).map fun m => (m, vl x m + vl y m))
theorem momsOf_sz {l : List Cv} {n : Nat} (h : ∀ q ∈ allMo l, Sz n q) : ∀ m ∈ momsOf l, Sz n m := fun m hm => h m (mem_srt.mp hm)
theorem rv_line0 {T : List (Addr × Str)} {σ : L2.St} {G : Hp} : Rv T (tTup (tCons (tLst (tCons (tTup (tCons (tTup (tCons (tC (.int 0)) (tCons (tC (.int 1)) tNil))) (tCons (tTup (tCons (tC (.int 0)) (tCons (tC (.int 1)) tNil))) tNil))) tNil)) (tCons (tTup (tCons (tC (.int 0)) (tCons (tC (.int 1)) tNil))) tNil))) σ G (IsD K (dv (line 0))) :=
  rv_tup (ra_cons (Rv.ld (rv_lst (ra_cons (rv_tup (ra_cons rv_zero (ra_cons rv_zero ra_nil)) (Nat.le_of_ble_eq_true rfl)) ra_nil) (Nat.le_of_ble_eq_true rfl))) (ra_cons rv_zero ra_nil)) (Nat.le_of_ble_eq_true rfl)
/-- a sum so far -/
def sumTo (a b : Rat) : Nat → Rat
  | 0 => 0
  | 1 => a
  | _ => a + b
theorem two_get {α : Type} {x y : α} {f : α → PyData} {i : Nat} {d : PyData} (h : [f x, f y][i]? = some d) : (i = 0 ∧ d = f x) ∨ (i = 1 ∧ d = f y) := by
  match i, h with
  | 0, h => exact .inl ⟨rfl, (Option.some.inj h).symm⟩
  | 1, h => exact .inr ⟨rfl, (Option.some.inj h).symm⟩
  | i + 2, h => simp at h
abbrev s_summed : Stmt := topS 30
theorem sc_summed : FnScope ["curves", "moments", "corners", "slope", "moment", "worth", "curve"] ["curves"] (defScope s_summed) := ⟨rfl, rfl, rfl, by decide +kernel, rfl, by decide +kernel, by decide +kernel⟩
theorem ok_summed (Y : Tx K mg base) : FnOk P w K mg base CX0 6 Y.f_summed.a Y.f_summed.fd ["curves"] (SpV1 Y.T K (fun p : Cv × Cv => .list [dv p.1, dv p.2]) (fun p => SumOk p.1 p.2) fun p => summed p.1 p.2) := by
  refine Y.f_summed.F.ok sc_summed (fun vs H Q E h => spv1_len h) (fun cdv A outer s H vs Q E hr h => ?_)
  obtain ⟨G, ⟨x, y⟩, c, ht, h, hs, k⟩ := h
  have sl := sl_start (N := ["curves", "moments", "corners", "slope", "moment", "worth", "curve"]) h (Nat.le_of_ble_eq_true rfl)
  have hmz : ∀ m ∈ momsOf [x, y, line 0], Sz 1500 m := momsOf_sz hs.few.sz
  obtain ⟨ms, hms⟩ : ∃ ms, ms = momsOf [x, y, line 0] := ⟨_, rfl⟩
  have hml : ms.length ≤ 1000 := by
    have := hs.ok.len
    rw [List.length_map, ← hms] at this
    exact this
  refine ⟨_, (pss_cons (ps_set (i := 1) sc_summed.nd rfl (Or.inl rfl) (pe_call (ok_moments_of Y) (hr.mono (by decide)) (by rfl) Y.f_moments_of.g Y.f_moments_of.F.kp Y.f_moments_of.b .nil pass0 (pa_cons (pe_lst (StX.pa_star (pv 0) (pa_cons (pe_tup (pa_cons (pe_lst (pa_cons (pe_tup (pa_cons (pe_tup (pa_cons pe_int (pa_cons pe_int pa_nil))) (pa_cons (pe_tup (pa_cons pe_int (pa_cons pe_int pa_nil))) pa_nil))) pa_nil)) (pa_cons (pe_tup (pa_cons pe_int (pa_cons pe_int pa_nil))) pa_nil))) pa_nil))) pa_nil)))
      (pss_cons (ps_par (i := 2) (j := 3) (by rfl) sc_summed.nd rfl rfl (by decide) rfl rfl (pa_cons (pe_lst pa_nil) (pa_cons (pe_tup (pa_cons pe_int (pa_cons pe_int pa_nil))) pa_nil)) (by rfl))
      (pss_cons (ps_for PassesOwn.never rfl (pi_list (pv 1)) (pg_name (i := 4) sc_summed.nd rfl (Or.inl rfl)) (pss_cons (ps_set (i := 5) sc_summed.nd rfl (Or.inl rfl) (pe_tup (pa_cons pe_int (pa_cons pe_int pa_nil))))
      (pss_cons (ps_for PassesOwn.never rfl (pi_list (pv 0)) (pg_name (i := 6) sc_summed.nd rfl (Or.inl rfl)) (pss_one (ps_set (i := 5) sc_summed.nd rfl (Or.inl rfl) (pe_call (ok_plus Y) (hr.mono (by decide)) (by rfl) Y.f_plus.g Y.f_plus.F.kp Y.f_plus.b .nil pass0 (pa_cons (pv 5) (pa_cons (pe_call (ok_worth_of Y) (hr.mono (by decide)) (by rfl) Y.f_worth_of.g Y.f_worth_of.F.kp Y.f_worth_of.b .nil pass0 (pa_cons (pv 6) (pa_cons (pv 4) pa_nil))) pa_nil))))))
      (pss_one (ps_expr (pe_bm PySem.F.plainAttrs_list PySem.F.slot_list_append PySem.F.type_list_append mt_append (pv 2) (pa_cons (pe_tup (pa_cons (pv 4) (pa_cons (pv 5) pa_nil))) pa_nil)))))))
      (pss_cons (ps_for PassesOwn.never rfl (pi_list (pv 0)) (pg_name (i := 6) sc_summed.nd rfl (Or.inl rfl)) (pss_one (ps_set (i := 3) sc_summed.nd rfl (Or.inl rfl) (pe_call (ok_plus Y) (hr.mono (by decide)) (by rfl) Y.f_plus.g Y.f_plus.F.kp Y.f_plus.b .nil pass0 (pa_cons (pv 3) (pa_cons (pe_ix ix_tup (pv 6) pe_int (fun _ _ => rfl)) pa_nil))))))
      (pss_one (ps_ret (pe_call (ok_normal Y) (hr.mono (by decide)) (by rfl) Y.f_normal.g Y.f_normal.F.kp Y.f_normal.b .nil pass0 (pa_cons (pv 2) (pa_cons (pv 3) pa_nil))))))))), ?_⟩
  refine q_setS (T := Y.T) (d := .list (ms.map dq)) sl (by
    rw [hms]
    exact Rv.ld (rv_call1 (a := [x, y, line 0]) (ra_cons (Rv.ld (rv_lst (ra_star (ds := [dv x, dv y]) (es := [dv (line 0)]) (rv_sl sl rfl) (ra_cons rv_line0 ra_nil)) (Nat.le_of_ble_eq_true rfl))) ra_nil) hs.few)) ht c fun σ1 G1 H1 s1 sl1 => ?_
  refine q_parFS (T := Y.T) (d := dq 0) sl1 s1 rv_zero fun o σ2 G2 H2 w2 s2 sl2 => ?_
  refine q_for (T := Y.T) (ri_list (rv_sl sl2 rfl)) s2.t s2.s fun G3 H3 s3 => ⟨fun i σ' G' H' => ∃ (sa sb sc : Slot), Own Y.T K G H G' H' o ((ms.take i).map fun m => dc (m, vl x m + vl y m)) ∧ Same G3 G' ∧ Sl K G' σ' [.d (.list [dv x, dv y]), .d (.list (ms.map dq)), .v (.ref o), .d (dq 0), sa, sb, sc],
    ⟨.no, .no, .no, w2.step s3, Same.refl _, sl2.mono s3.g⟩, fun i σ' G' H' ⟨_, _, _, ow, e, _⟩ => ⟨e, ow.st.s, ow.st.t⟩, fun i d x1 σ' G' H' G'' H'' hd hP s4 hx => ?_, fun σ' G' H' hP => ?_⟩
  · obtain ⟨sa, sb, sc, ow, e, sl3⟩ := hP
    have hlt : i < ms.length := by
      have := (List.getElem?_eq_some_iff.mp hd).1
      simpa using this
    obtain ⟨m, hm, rfl⟩ : ∃ m, ms[i]? = some m ∧ d = dq m := by
      rw [List.getElem?_map] at hd
      cases e : ms[i]? with
      | none =>
        rw [e] at hd
        cases hd
      | some q =>
        rw [e] at hd
        exact ⟨q, rfl, (Option.some.inj hd).symm⟩
    have hmm : m ∈ momsOf [x, y, line 0] := by
      rw [← hms]
      exact List.mem_of_getElem? hm
    obtain ⟨zx, zy⟩ := hs.vals m hmm
    have sl4 := (sl3.mono s4.g).set (i := 4) hx
    refine q_setS (T := Y.T) (d := dq 0) sl4 rv_zero s4.t s4.s fun σ5 G5 H5 s5 sl5 => ?_
    have ow5 := (ow.step s4).step s5
    have e5 := Same.trans (Same.trans e s4.g) s5.g
    refine q_for (T := Y.T) (ri_list (rv_sl sl5 rfl)) s5.t s5.s fun G6 H6 s6 => ⟨fun n σ' G' H' => ∃ sc, Own Y.T K G H G' H' o ((ms.take i).map fun m => dc (m, vl x m + vl y m)) ∧ Same G6 G' ∧ Sl K G' σ' [.d (.list [dv x, dv y]), .d (.list (ms.map dq)), .v (.ref o), .d (dq 0), .d (dq m), .d (dq (sumTo (vl x m) (vl y m) n)), sc],
      ⟨sc, ow5.step s6, Same.refl _, sl5.mono s6.g⟩, fun n σ' G' H' ⟨_, ow, e, _⟩ => ⟨e, ow.st.s, ow.st.t⟩, fun n d2 x2 σ' G' H' G'' H'' hd2 hP2 s7 hx2 => ?_, fun σ' G' H' hP2 => ?_⟩
    · obtain ⟨sc2, ow6, e6, sl6⟩ := hP2
      rcases two_get hd2 with ⟨rfl, rfl⟩ | ⟨rfl, rfl⟩
      · have sl7 := (sl6.mono s7.g).set (i := 6) hx2
        refine s_setS (T := Y.T) (d := dq (vl x m)) sl7 ?_ s7.t s7.s fun σ8 G8 H8 s8 sl8 => ⟨G8, _, (ow6.step s7).step s8, Same.trans (Same.trans e6 s7.g) s8.g, sl8⟩
        have := rv_call2 (T := Y.T) (E := E0) (out := fun p q : Rat => IsD K (dq (p + q))) (pre := SzP) (d1 := dq) (d2 := dq) (a := 0) (b := vl x m) (ra_cons (rv_sl (T := Y.T) sl7 (i := 5) rfl) (ra_cons (rv_call2 (T := Y.T) (E := E0) (d1 := dv) (d2 := dq) (out := fun c m => IsD K (dq (vl c m))) (pre := fun c m => Fine c ∧ Sz 1500 m) (a := x) (b := m) (ra_cons (rv_sl sl7 (i := 6) rfl) (ra_cons (rv_sl sl7 (i := 4) rfl) ra_nil)) ⟨hs.fx, hmz m hmm⟩) ra_nil)) ⟨1, 4000, sz_zero, zx, by decide⟩
        rw [Rat.zero_add] at this
        exact this
      · have sl7 := (sl6.mono s7.g).set (i := 6) hx2
        exact s_setS (T := Y.T) (d := dq (vl x m + vl y m)) sl7 (rv_call2 (a := vl x m) (b := vl y m) (ra_cons (rv_sl sl7 rfl) (ra_cons (rv_call2 (a := y) (b := m) (ra_cons (rv_sl sl7 rfl) (ra_cons (rv_sl sl7 rfl) ra_nil)) ⟨hs.fy, hmz m hmm⟩) ra_nil)) ⟨4000, 4000, zx, zy, by decide⟩) s7.t s7.s fun σ8 G8 H8 s8 sl8 => ⟨G8, _, (ow6.step s7).step s8, Same.trans (Same.trans e6 s7.g) s8.g, sl8⟩
    · obtain ⟨sc2, ow6, e6, sl6⟩ := hP2
      have sl6 : Sl K G' σ' [.d (.list [dv x, dv y]), .d (.list (ms.map dq)), .v (.ref o), .d (dq 0), .d (dq m), .d (dq (vl x m + vl y m)), sc2] := sl6
      refine s_outS (T := Y.T) (d := dc (m, vl x m + vl y m)) sl6 ow6 rfl (rv_tup (ra_cons (rv_sl sl6 rfl) (ra_cons (rv_sl sl6 rfl) ra_nil)) (Nat.le_of_ble_eq_true rfl)) (by
        rw [List.length_map, List.length_take]
        omega) fun G8 H8 ow8 e8 sl8 => ⟨G8, _, _, _, ?_, Same.trans (Same.trans (Same.trans e5 s6.g) e6) e8, sl8⟩
      have et : ms.take (i + 1) = ms.take i ++ [m] := by
        rw [List.take_add_one, hm]
        rfl
      rw [et, List.map_append]
      exact ow8
  · obtain ⟨sa, sb, sc, ow, e, sl3⟩ := hP
    rw [List.length_map, List.take_length] at ow
    refine q_for (T := Y.T) (ri_list (rv_sl sl3 rfl)) ow.st.t ow.st.s fun G6 H6 s6 => ⟨fun n σ' G' H' => ∃ sa sb sc, Own Y.T K G H G' H' o (ms.map fun m => dc (m, vl x m + vl y m)) ∧ Same G6 G' ∧ Sl K G' σ' [.d (.list [dv x, dv y]), .d (.list (ms.map dq)), .v (.ref o), .d (dq (sumTo x.2 y.2 n)), sa, sb, sc],
      ⟨sa, sb, sc, ow.step s6, Same.refl _, sl3.mono s6.g⟩, fun n σ' G' H' ⟨_, _, _, ow, e, _⟩ => ⟨e, ow.st.s, ow.st.t⟩, fun n d2 x2 σ' G' H' G'' H'' hd2 hP2 s7 hx2 => ?_, fun σ' G' H' hP2 => ?_⟩
    · obtain ⟨sa2, sb2, sc2, ow6, e6, sl6⟩ := hP2
      rcases two_get hd2 with ⟨rfl, rfl⟩ | ⟨rfl, rfl⟩
      · have sl7 := (sl6.mono s7.g).set (i := 6) hx2
        refine s_setS (T := Y.T) (d := dq x.2) sl7 ?_ s7.t s7.s fun σ8 G8 H8 s8 sl8 => ⟨G8, _, _, _, (ow6.step s7).step s8, Same.trans (Same.trans e6 s7.g) s8.g, sl8⟩
        have := rv_call2 (T := Y.T) (E := E0) (out := fun p q : Rat => IsD K (dq (p + q))) (pre := SzP) (d1 := dq) (d2 := dq) (a := 0) (b := x.2) (ra_cons (rv_sl (T := Y.T) sl7 (i := 3) rfl) (ra_cons (rv_v1 (a := x) (rv_sl sl7 (i := 6) rfl)) ra_nil)) ⟨1, 4000, sz_zero, hs.sx, by decide⟩
        rw [Rat.zero_add] at this
        exact this
      · have sl7 := (sl6.mono s7.g).set (i := 6) hx2
        exact s_setS (T := Y.T) (d := dq (x.2 + y.2)) sl7 (rv_call2 (a := x.2) (b := y.2) (ra_cons (rv_sl sl7 rfl) (ra_cons (rv_v1 (a := y) (rv_sl sl7 rfl)) ra_nil)) ⟨4000, 4000, hs.sx, hs.sy, by decide⟩) s7.t s7.s fun σ8 G8 H8 s8 sl8 => ⟨G8, _, _, _, (ow6.step s7).step s8, Same.trans (Same.trans e6 s7.g) s8.g, sl8⟩
    · obtain ⟨sa2, sb2, sc2, ow6, e6, sl6⟩ := hP2
      have sl6 : Sl K G' σ' [.d (.list [dv x, dv y]), .d (.list (ms.map dq)), .v (.ref o), .d (dq (x.2 + y.2)), sa2, sb2, sc2] := sl6
      obtain ⟨G8, st8, e8, il⟩ := ow6.take
      have sl8 := sl6.mono e8
      refine s_ret (T := Y.T) (G := G8) (R := IsVc K G8 (summed x y)) ?_ st8.t st8.s fun v G9 H9 s9 r => k v G9 H9 (st8.trans s9) (r.back st8.g)
      unfold summed
      rw [← hms]
      have hok := hs.ok
      rw [← hms] at hok
      refine rv_callV2 (a := ms.map fun m => (m, vl x m + vl y m)) (b := x.2 + y.2) (ra_cons ?_ (ra_cons (rv_sl sl8 rfl) ra_nil)) hok
      have e2 : (ms.map fun m => (m, vl x m + vl y m)).map dc = ms.map fun m => dc (m, vl x m + vl y m) := by
        rw [List.map_map]
        rfl
      rw [e2]
      exact rv_var (sl8.getV (i := 2) (x := .ref o) rfl) il.d
end
end Qw
namespace Qw
open PySem PySem.Spec PyProof.Rows L2 LamX Qk
/-- a curve or None -/
def IsOc (K : PySem.W.Frag) (G0 : Hp) : Option Cv → Rp
  | none => IsD K .none
  | some c => IsVc K G0 c
instance (K : PySem.W.Frag) (G0 : Hp) (o : Option Cv) : Mn (IsOc K G0 o) := ⟨fun G G' v e h => by
  cases o with
  | none => exact sdp e h
  | some c =>
    have m : Mn (IsVc K G0 c) := inferInstance
    exact m.mn G G' v e h⟩
def dov : Option Cv → PyData
  | none => .none
  | some c => dv c
theorem IsOc.d {K : PySem.W.Frag} {G0 G : Hp} {o : Option Cv} {v : V} (h : IsOc K G0 o G v) : IsD K (dov o) G v := by
  cases o with
  | none => exact h
  | some c => exact IsVc.d h
theorem IsOc.back {K : PySem.W.Frag} {G0 G1 G : Hp} {o : Option Cv} {v : V} (e : Same G0 G1) (h : IsOc K G1 o G v) : IsOc K G0 o G v := by
  cases o with
  | none => exact h
  | some c => exact IsVc.back e h
def SpO2 (T : List (Addr × Str)) (K : PySem.W.Frag) {α β : Type} (d1 : α → PyData) (d2 : β → PyData) (pre : α → β → Prop) (out : α → β → Option Cv) : Sp := fun vs H Q _ => ∃ (G : Hp) (a : α) (b : β), Cl G H ∧ Tabs T H ∧ DpAll K G vs [d1 a, d2 b] ∧ pre a b ∧ Hands T G H (IsOc K G (out a b)) Q
section
variable {T : List (Addr × Str)} {K : PySem.W.Frag} {σ : L2.St} {G : Hp} {H : Hp} {aa : TA}
theorem spo2_len {α β : Type} {d1 : α → PyData} {d2 : β → PyData} {pre : α → β → Prop} {out : α → β → Option Cv} {vs : List V} {Q : VK} {E : XK} (h : SpO2 T K d1 d2 pre out vs H Q E) : vs.length = 2 := by
  obtain ⟨G, a, b, _, _, h, _⟩ := h
  exact dpAll_len h
theorem rv_callO2 {α β : Type} {d1 : α → PyData} {d2 : β → PyData} {pre : α → β → Prop} {out : α → β → Option Cv} {E : XK} {a : α} {b : β} (h : Ra T K aa σ G [d1 a, d2 b]) (hp : pre a b) : Rv T (tCall (SpO2 T K d1 d2 pre out) [] E aa) σ G (IsOc K G (out a b)) := fun H t c Q q =>
  h H t c _ fun vs G2 H2 s2 hv => ⟨G2, a, b, s2.s, s2.t, by rw [List.append_nil]; exact hv, hp, fun v G3 H3 s3 hd => q v G3 H3 (s2.trans s3) (hd.back s2.g)⟩
end
section
variable {P : Program} {w : World} {K : PySem.W.Frag} {mg : Str → Option Value} {base : Heap}
theorem t_next {D : Ends} {σ : L2.St} {H : Hp} (h : D.nx σ H) : tNext D σ H := h
/-- what a curve taken -1 times asks -/
structure ManyOk (f : Rat) (c : Cv) : Prop where
  ok : SlOk (c.1.map fun a => (a.1, f * a.2))
  wo : ∀ a ∈ c.1, SzP f a.2
  sl : SzP f c.2
structure ApartOk (x y : Cv) : Prop where
  m : ManyOk (-1) y
  s : SumOk x (many (-1) y)
structure BackOk (c : Cv) (m : Rat) : Prop where
  a : ApartOk (line m) c
  f : Fine (apart (line m) c)
  n : SlOk (nf (((apart (line m) c).1.head?.getD (0, 0)).2) (apart (line m) c).1 (apart (line m) c).2)
  b : ApartOk (line m) (neverFalling (apart (line m) c))
structure AheadOk (c : Cv) (m : Rat) : Prop where
  z : SzP m c.2
  a : ¬ m < c.2 → ApartOk c (line m)
  f : ¬ m < c.2 → Fine (apart c (line m))
  n : ¬ m < c.2 → SlOk (lt (apart c (line m)).1 (apart c (line m)).2).1
  b : ¬ m < c.2 → SumOk (line m) (laterTops (apart c (line m)))
theorem rv_minus {T : List (Addr × Str)} {σ : L2.St} {G : Hp} : Rv T (tTup (tCons (tUn (rU fun i => .int (-i)) (tC (.int 1))) (tCons (tC (.int 1)) tNil))) σ G (IsD K (dq (-1))) := rv_tup (ra_cons (rv_neg rv_i) (ra_cons rv_i ra_nil)) (Nat.le_of_ble_eq_true rfl)
abbrev s_apart_by : Stmt := topS 32
theorem sc_apart_by : FnScope ["one", "other"] ["one", "other"] (defScope s_apart_by) := ⟨rfl, rfl, rfl, by decide +kernel, rfl, by decide +kernel, by decide +kernel⟩
theorem ok_apart_by (Y : Tx K mg base) : FnOk P w K mg base CX0 7 Y.f_apart_by.a Y.f_apart_by.fd ["one", "other"] (SpV2 Y.T K dv dv ApartOk apart) := by
  refine Y.f_apart_by.F.ok sc_apart_by (fun vs H Q E h => spv2_len h) (fun cdv A outer s H vs Q E hr h => ?_)
  obtain ⟨G, x, y, c, ht, h, ho, k⟩ := h
  have sl := sl_start (N := ["one", "other"]) h (Nat.le_of_ble_eq_true rfl)
  refine ⟨_, (pss_one (ps_ret (pe_call (ok_summed Y) (hr.mono (by decide)) (by rfl) Y.f_summed.g Y.f_summed.F.kp Y.f_summed.b .nil pass0 (pa_cons (pe_lst (pa_cons (pv 0) (pa_cons (pe_call (ok_many_times Y) (hr.mono (by decide)) (by rfl) Y.f_many_times.g Y.f_many_times.F.kp Y.f_many_times.b .nil pass0 (pa_cons (pv 1) (pa_cons (pe_tup (pa_cons (pe_un un_neg pe_int) (pa_cons pe_int pa_nil))) pa_nil))) pa_nil))) pa_nil)))), ?_⟩
  refine s_ret (T := Y.T) (R := IsVc K G (apart x y)) ?_ ht c k
  exact rv_callV1 (a := (x, many (-1) y)) (ra_cons (Rv.ld (rv_lst (ra_cons (rv_sl sl rfl) (ra_cons (Rv.vd (rv_callV2 (a := y) (b := (-1 : Rat)) (ra_cons (rv_sl sl rfl) (ra_cons rv_minus ra_nil)) ⟨ho.m.ok, ho.m.wo, ho.m.sl⟩)) ra_nil)) (Nat.le_of_ble_eq_true rfl))) ra_nil) ho.s
abbrev s_back_by : Stmt := topS 41
theorem sc_back_by : FnScope ["curve", "most", "apart"] ["curve", "most"] (defScope s_back_by) := ⟨rfl, rfl, rfl, by decide +kernel, rfl, by decide +kernel, by decide +kernel⟩
theorem ok_back_by (Y : Tx K mg base) : FnOk P w K mg base CX0 8 Y.f_back_by.a Y.f_back_by.fd ["curve", "most"] (SpV2 Y.T K dv dq BackOk back) := by
  refine Y.f_back_by.F.ok sc_back_by (fun vs H Q E h => spv2_len h) (fun cdv A outer s H vs Q E hr h => ?_)
  obtain ⟨G, cu, m, c, ht, h, ho, k⟩ := h
  have sl := sl_start (N := ["curve", "most", "apart"]) h (Nat.le_of_ble_eq_true rfl)
  refine ⟨_, (pss_cons (ps_set (i := 2) sc_back_by.nd rfl (Or.inl rfl) (pe_call (ok_apart_by Y) (hr.mono (by decide)) (by rfl) Y.f_apart_by.g Y.f_apart_by.F.kp Y.f_apart_by.b .nil pass0 (pa_cons (pe_call (ok_line_of Y) (hr.mono (by decide)) (by rfl) Y.f_line_of.g Y.f_line_of.F.kp Y.f_line_of.b .nil pass0 (pa_cons (pv 1) pa_nil)) (pa_cons (pv 0) pa_nil))))
      (pss_one (ps_ret (pe_call (ok_apart_by Y) (hr.mono (by decide)) (by rfl) Y.f_apart_by.g Y.f_apart_by.F.kp Y.f_apart_by.b .nil pass0 (pa_cons (pe_call (ok_line_of Y) (hr.mono (by decide)) (by rfl) Y.f_line_of.g Y.f_line_of.F.kp Y.f_line_of.b .nil pass0 (pa_cons (pv 1) pa_nil)) (pa_cons (pe_call (ok_never_falling Y) (hr.mono (by decide)) (by rfl) Y.f_never_falling.g Y.f_never_falling.F.kp Y.f_never_falling.b .nil pass0 (pa_cons (pv 2) pa_nil)) pa_nil)))))), ?_⟩
  refine q_setS (T := Y.T) (d := dv (apart (line m) cu)) sl (Rv.vd (rv_callV2 (a := line m) (b := cu) (ra_cons (Rv.vd (rv_callV1 (a := m) (ra_cons (rv_sl sl rfl) ra_nil) trivial)) (ra_cons (rv_sl sl rfl) ra_nil)) ho.a)) ht c fun σ1 G1 H1 s1 sl1 => ?_
  refine s_ret (T := Y.T) (R := IsVc K G1 (back cu m)) ?_ s1.t s1.s fun v G2 H2 s2 r => k v G2 H2 (s1.trans s2) (r.back s1.g)
  exact rv_callV2 (a := line m) (b := neverFalling (apart (line m) cu)) (ra_cons (Rv.vd (rv_callV1 (a := m) (ra_cons (rv_sl sl1 rfl) ra_nil) trivial)) (ra_cons (Rv.vd (rv_callV1 (a := apart (line m) cu) (ra_cons (rv_sl sl1 rfl) ra_nil) ⟨ho.f, ho.n⟩)) ra_nil)) ho.b
abbrev s_ahead_by : Stmt := topS 42
theorem sc_ahead_by : FnScope ["curve", "most"] ["curve", "most"] (defScope s_ahead_by) := ⟨rfl, rfl, rfl, by decide +kernel, rfl, by decide +kernel, by decide +kernel⟩
theorem ok_ahead_by (Y : Tx K mg base) : FnOk P w K mg base CX0 8 Y.f_ahead_by.a Y.f_ahead_by.fd ["curve", "most"] (SpO2 Y.T K dv dq AheadOk Qk.ahead) := by
  refine Y.f_ahead_by.F.ok sc_ahead_by (fun vs H Q E h => spo2_len h) (fun cdv A outer s H vs Q E hr h => ?_)
  obtain ⟨G, cu, m, c, ht, h, ho, k⟩ := h
  have sl := sl_start (N := ["curve", "most"]) h (Nat.le_of_ble_eq_true rfl)
  obtain ⟨n1, n2, z1, z2, z3⟩ := ho.z
  refine ⟨_, (pss_cons (ps_if (pt_val (pe_call (ok_is_below Y) (hr.mono (by decide)) (by rfl) Y.f_is_below.g Y.f_is_below.F.kp Y.f_is_below.b .nil pass0 (pa_cons (pv 1) (pa_cons (pe_ix ix_tup (pv 0) pe_int (fun _ _ => rfl)) pa_nil)))) (pss_one (ps_ret pe_non)) pss_nil)
      (pss_one (ps_ret (pe_call (ok_summed Y) (hr.mono (by decide)) (by rfl) Y.f_summed.g Y.f_summed.F.kp Y.f_summed.b .nil pass0 (pa_cons (pe_lst (pa_cons (pe_call (ok_line_of Y) (hr.mono (by decide)) (by rfl) Y.f_line_of.g Y.f_line_of.F.kp Y.f_line_of.b .nil pass0 (pa_cons (pv 1) pa_nil)) (pa_cons (pe_call (ok_later_tops Y) (hr.mono (by decide)) (by rfl) Y.f_later_tops.g Y.f_later_tops.F.kp Y.f_later_tops.b .nil pass0 (pa_cons (pe_call (ok_apart_by Y) (hr.mono (by decide)) (by rfl) Y.f_apart_by.g Y.f_apart_by.F.kp Y.f_apart_by.b .nil pass0 (pa_cons (pv 0) (pa_cons (pe_call (ok_line_of Y) (hr.mono (by decide)) (by rfl) Y.f_line_of.g Y.f_line_of.F.kp Y.f_line_of.b .nil pass0 (pa_cons (pv 1) pa_nil)) pa_nil))) pa_nil)) pa_nil))) pa_nil))))), ?_⟩
  refine q_if (T := Y.T) (b := decide (m < cu.2)) (rt_B (rv_call2 (a := m) (b := cu.2) (ra_cons (rv_sl sl rfl) (ra_cons (rv_v1 (a := cu) (rv_sl sl rfl)) ra_nil)) ⟨n1, n2, z1, z2, z3⟩)) ht c (fun hb G1 H1 s1 => ?_) (fun hb G1 H1 s1 => ?_)
  · have hb : m < cu.2 := of_decide_eq_true hb
    refine s_ret (T := Y.T) (R := IsD K .none) rv_n s1.t s1.s ?_
    intro v G2 H2 s2 r
    refine k v G2 H2 (s1.trans s2) ?_
    show IsOc K G (Qk.ahead cu m) G2 v
    unfold Qk.ahead
    rw [if_pos hb]
    exact r
  · have hb : ¬ m < cu.2 := of_decide_eq_false hb
    have sl1 := sl.mono s1.g
    refine t_next ?_
    dsimp only
    refine s_ret (T := Y.T) (R := IsVc K G1 (summed (line m) (laterTops (apart cu (line m))))) ?_ s1.t s1.s ?_
    · exact rv_callV1 (a := (line m, laterTops (apart cu (line m)))) (ra_cons (Rv.ld (rv_lst (ra_cons (Rv.vd (rv_callV1 (a := m) (ra_cons (rv_sl sl1 rfl) ra_nil) trivial)) (ra_cons (Rv.vd (rv_callV1 (a := apart cu (line m)) (ra_cons (Rv.vd (rv_callV2 (a := cu) (b := line m) (ra_cons (rv_sl sl1 rfl) (ra_cons (Rv.vd (rv_callV1 (a := m) (ra_cons (rv_sl sl1 rfl) ra_nil) trivial)) ra_nil)) (ho.a hb))) ra_nil) ⟨ho.f hb, ho.n hb⟩)) ra_nil)) (Nat.le_of_ble_eq_true rfl))) ra_nil) (ho.b hb)
    · intro v G2 H2 s2 r
      refine k v G2 H2 (s1.trans s2) ?_
      show IsOc K G (if m < cu.2 then none else some (summed (line m) (laterTops (apart cu (line m))))) G2 v
      rw [if_neg hb]
      exact r.back s1.g
end
end Qw
namespace Qw
open PySem PySem.Spec PyProof.Rows L2 LamX Qk
section
variable {P : Program} {w : World} {K : PySem.W.Frag} {mg : Str → Option Value} {base : Heap}
/-! ### is_list .. is_corner -/
abbrev SpB (T : List (Addr × Str)) (K : PySem.W.Frag) (pre : PyData → Prop) (b : PyData → Bool) : Sp := Sp1 T K (fun d : PyData => d) pre fun d => IsD K (.bool (b d))
abbrev s_is_list : Stmt := topS 5
theorem sc_is_list : FnScope ["thing"] ["thing"] (defScope s_is_list) := ⟨rfl, rfl, rfl, by decide +kernel, rfl, by decide +kernel, by decide +kernel⟩
theorem ok_is_list (Y : Tx K mg base) : FnOk P w K mg base CX0 1 Y.f_is_list.a Y.f_is_list.fd ["thing"] (SpB Y.T K (fun _ => True) isSeq) := by
  refine Y.f_is_list.F.ok sc_is_list (fun vs H Q E h => sp1_len h) (fun cdv A outer s H vs Q E hr h => ?_)
  obtain ⟨G, d, c, ht, h, _, k⟩ := h
  obtain ⟨x, rfl, hx⟩ := dp1 h
  refine ⟨_, (pss_one (ps_ret (pe_callB call_isDT (by rfl) Y.z_isinstance (by decide +kernel) (pa_cons (pv 0) (pa_cons (pe_tup (pa_cons (pe_bltn (v := .ty "list") (u := .type "list") (by rfl) Y.z_list (by decide +kernel) rfl) (pa_cons (pe_bltn (v := .ty "tuple") (u := .type "tuple") (by rfl) Y.z_tuple (by decide +kernel) rfl) pa_nil))) pa_nil))))), ?_⟩
  exact s_ret (T := Y.T) ((rv_isi2 (d := d) (rv_var rfl hx) (kit_list d) (kit_tuple d)).to (congrArg PyData.bool (isSeq_or d))) ht c k
theorem whole_of (d : PyData) : (isIntD d && !isBolD d) = wholeB d := by cases d <;> rfl
abbrev s_is_whole : Stmt := topS 6
theorem sc_is_whole : FnScope ["thing"] ["thing"] (defScope s_is_whole) := ⟨rfl, rfl, rfl, by decide +kernel, rfl, by decide +kernel, by decide +kernel⟩
theorem ok_is_whole (Y : Tx K mg base) : FnOk P w K mg base CX0 1 Y.f_is_whole.a Y.f_is_whole.fd ["thing"] (SpB Y.T K (fun _ => True) wholeB) := by
  refine Y.f_is_whole.F.ok sc_is_whole (fun vs H Q E h => sp1_len h) (fun cdv A outer s H vs Q E hr h => ?_)
  obtain ⟨G, d, c, ht, h, _, k⟩ := h
  obtain ⟨x, rfl, hx⟩ := dp1 h
  refine ⟨_, (pss_one (ps_ret (pe_and (pe_callB call_isD (by rfl) Y.z_isinstance (by decide +kernel) (pa_cons (pv 0) (pa_cons (pe_bltn (v := .ty "int") (u := .type "int") (by rfl) Y.z_int (by decide +kernel) rfl) pa_nil))) (pe_one (pe_not (pe_callB call_isD (by rfl) Y.z_isinstance (by decide +kernel) (pa_cons (pv 0) (pa_cons (pe_bltn (v := .ty "bool") (u := .type "bool") (by rfl) Y.z_bool (by decide +kernel) rfl) pa_nil)))))))), ?_⟩
  refine s_ret (T := Y.T) ((rv_and (rv_isi (d := d) (rv_var rfl hx) (kit_int d)) fun _ => rv_not (rv_isi (d := d) (rv_var rfl hx) (kit_bool d))).to (congrArg PyData.bool (whole_of d))) ht c k
theorem pos_of (d : PyData) : (wholeB d && decide (1 ≤ numD d)) = posB d := by cases d <;> rfl
abbrev s_is_positive : Stmt := topS 7
theorem sc_is_positive : FnScope ["thing"] ["thing"] (defScope s_is_positive) := ⟨rfl, rfl, rfl, by decide +kernel, rfl, by decide +kernel, by decide +kernel⟩
theorem ok_is_positive (Y : Tx K mg base) : FnOk P w K mg base CX0 2 Y.f_is_positive.a Y.f_is_positive.fd ["thing"] (SpB Y.T K (fun _ => True) posB) := by
  refine Y.f_is_positive.F.ok sc_is_positive (fun vs H Q E h => sp1_len h) (fun cdv A outer s H vs Q E hr h => ?_)
  obtain ⟨G, d, c, ht, h, _, k⟩ := h
  obtain ⟨x, rfl, hx⟩ := dp1 h
  refine ⟨_, (pss_one (ps_ret (pe_and (pe_call (ok_is_whole Y) (hr.mono (by decide)) (by rfl) Y.f_is_whole.g Y.f_is_whole.F.kp Y.f_is_whole.b .nil pass0 (pa_cons (pv 0) pa_nil)) (pe_one (pe_cmpR op_ge (pv 0) pe_int (nomark _)))))), ?_⟩
  refine s_ret (T := Y.T) (R := IsD K (.bool (posB d))) ?_ ht c k
  rw [← pos_of]
  exact rv_and (rv_call1 (a := d) (ra_cons (rv_var rfl hx) ra_nil) trivial) fun hw => rv_ge (n := numD d) (by
    rw [← whole_is hw]
    exact rv_var rfl hx) rv_i
abbrev s_is_fraction : Stmt := topS 9
theorem sc_is_fraction : FnScope ["thing"] ["thing"] (defScope s_is_fraction) := ⟨rfl, rfl, rfl, by decide +kernel, rfl, by decide +kernel, by decide +kernel⟩
theorem ok_is_fraction (Y : Tx K mg base) : FnOk P w K mg base CX0 3 Y.f_is_fraction.a Y.f_is_fraction.fd ["thing"] (SpB Y.T K (fun _ => True) fracB) := by
  refine Y.f_is_fraction.F.ok sc_is_fraction (fun vs H Q E h => sp1_len h) (fun cdv A outer s H vs Q E hr h => ?_)
  obtain ⟨G, d, c, ht, h, _, k⟩ := h
  obtain ⟨x, rfl, hx⟩ := dp1 h
  refine ⟨_, (pss_one (ps_ret (pe_and (pe_call (ok_is_list Y) (hr.mono (by decide)) (by rfl) Y.f_is_list.g Y.f_is_list.F.kp Y.f_is_list.b .nil pass0 (pa_cons (pv 0) pa_nil)) (pe_and (pe_cmpR op_eq (pe_callB call_len_seq (by rfl) Y.z_len PySem.boot_len (pa_cons (pv 0) pa_nil)) pe_int (nomark _)) (pe_and (pe_call (ok_is_whole Y) (hr.mono (by decide)) (by rfl) Y.f_is_whole.g Y.f_is_whole.F.kp Y.f_is_whole.b .nil pass0 (pa_cons (pe_ix ix_seq (pv 0) pe_int (fun _ _ => rfl)) pa_nil)) (pe_one (pe_call (ok_is_positive Y) (hr.mono (by decide)) (by rfl) Y.f_is_positive.g Y.f_is_positive.F.kp Y.f_is_positive.b .nil pass0 (pa_cons (pe_ix ix_seq (pv 0) pe_int (fun _ _ => rfl)) pa_nil)))))))), ?_⟩
  refine s_ret (T := Y.T) (R := IsD K (.bool (fracB d))) ?_ ht c k
  unfold fracB
  refine rv_and (rv_call1 (a := d) (ra_cons (rv_var rfl hx) ra_nil) trivial) fun hs => rv_and (rv_eqI (rv_len2 (rv_var rfl hx) hs) rv_i) fun hl => ?_
  have hl : (itemsD d).length = 2 := by
    have := of_decide_eq_true hl
    omega
  exact rv_and (rv_call1 (a := nthD d 0) (ra_cons (rv_nth0 (rv_var rfl hx) hs (by omega)) ra_nil) trivial) fun _ => rv_call1 (a := nthD d 1) (ra_cons (rv_nth1 (rv_var rfl hx) hs (by omega)) ra_nil) trivial
abbrev s_is_corner : Stmt := topS 20
theorem sc_is_corner : FnScope ["thing"] ["thing"] (defScope s_is_corner) := ⟨rfl, rfl, rfl, by decide +kernel, rfl, by decide +kernel, by decide +kernel⟩
theorem ok_is_corner (Y : Tx K mg base) : FnOk P w K mg base CX0 4 Y.f_is_corner.a Y.f_is_corner.fd ["thing"] (SpB Y.T K (fun _ => True) cornB) := by
  refine Y.f_is_corner.F.ok sc_is_corner (fun vs H Q E h => sp1_len h) (fun cdv A outer s H vs Q E hr h => ?_)
  obtain ⟨G, d, c, ht, h, _, k⟩ := h
  obtain ⟨x, rfl, hx⟩ := dp1 h
  refine ⟨_, (pss_one (ps_ret (pe_and (pe_call (ok_is_list Y) (hr.mono (by decide)) (by rfl) Y.f_is_list.g Y.f_is_list.F.kp Y.f_is_list.b .nil pass0 (pa_cons (pv 0) pa_nil)) (pe_and (pe_cmpR op_eq (pe_callB call_len_seq (by rfl) Y.z_len PySem.boot_len (pa_cons (pv 0) pa_nil)) pe_int (nomark _)) (pe_and (pe_call (ok_is_fraction Y) (hr.mono (by decide)) (by rfl) Y.f_is_fraction.g Y.f_is_fraction.F.kp Y.f_is_fraction.b .nil pass0 (pa_cons (pe_ix ix_seq (pv 0) pe_int (fun _ _ => rfl)) pa_nil)) (pe_one (pe_call (ok_is_fraction Y) (hr.mono (by decide)) (by rfl) Y.f_is_fraction.g Y.f_is_fraction.F.kp Y.f_is_fraction.b .nil pass0 (pa_cons (pe_ix ix_seq (pv 0) pe_int (fun _ _ => rfl)) pa_nil)))))))), ?_⟩
  refine s_ret (T := Y.T) (R := IsD K (.bool (cornB d))) ?_ ht c k
  unfold cornB
  refine rv_and (rv_call1 (a := d) (ra_cons (rv_var rfl hx) ra_nil) trivial) fun hs => rv_and (rv_eqI (rv_len2 (rv_var rfl hx) hs) rv_i) fun hl => ?_
  have hl : (itemsD d).length = 2 := by
    have := of_decide_eq_true hl
    omega
  exact rv_and (rv_call1 (a := nthD d 0) (ra_cons (rv_nth0 (rv_var rfl hx) hs (by omega)) ra_nil) trivial) fun _ => rv_call1 (a := nthD d 1) (ra_cons (rv_nth1 (rv_var rfl hx) hs (by omega)) ra_nil) trivial
/-! ### told, is_below of what is passed -/
theorem mul_small {a b : Int} (ha : a.natAbs < 2 ^ 200) (hb : b.natAbs < 2 ^ 200) : CMulW a b := wide_mul (a := 200) (b := 200) ha hb (by decide) (by decide) (by decide)
theorem ok_is_below_r (Y : Tx K mg base) : FnOk P w K mg base CX0 1 Y.f_is_below.a Y.f_is_below.fd ["one", "other"] (Sp2 Y.T K (fun d : PyData => d) (fun d : PyData => d) (fun x y => FracIs x ∧ FracIs y ∧ smallD x = true ∧ smallD y = true) fun x y => IsD K (.bool (belowB x y))) := by
  refine Y.f_is_below.F.ok sc_is_below (fun vs H Q E h => sp2_len h) (fun cdv A outer s H vs Q E hr h => ?_)
  obtain ⟨G, p, q, c, ht, h, ⟨fp, fq, zp, zq⟩, k⟩ := h
  obtain ⟨x, y, rfl, hx, hy⟩ := dp2 h
  refine ⟨_, (pss_one (ps_ret (pe_cmpR op_lt (pe_op op_mulW (pe_ix ix_seq (pv 0) pe_int (fun _ _ => rfl)) (pe_ix ix_seq (pv 1) pe_int (fun _ _ => rfl))) (pe_op op_mulW (pe_ix ix_seq (pv 1) pe_int (fun _ _ => rfl)) (pe_ix ix_seq (pv 0) pe_int (fun _ _ => rfl))) (nomark _)))), ?_⟩
  have p0 : Rv Y.T (tIx K (tVar 0) (tC (.int 0))) (L2.start ["one", "other"] [x, y]) G (IsD K (.int (numD (nthD p 0)))) := (rv_nth0 (rv_var rfl hx) fp.s (by rw [fp.l]; decide)).to fp.n
  have p1 : Rv Y.T (tIx K (tVar 0) (tC (.int 1))) (L2.start ["one", "other"] [x, y]) G (IsD K (.int (numD (nthD p 1)))) := (rv_nth1 (rv_var rfl hx) fp.s (by rw [fp.l]; decide)).to fp.m
  have q0 : Rv Y.T (tIx K (tVar 1) (tC (.int 0))) (L2.start ["one", "other"] [x, y]) G (IsD K (.int (numD (nthD q 0)))) := (rv_nth0 (rv_var rfl hy) fq.s (by rw [fq.l]; decide)).to fq.n
  have q1 : Rv Y.T (tIx K (tVar 1) (tC (.int 1))) (L2.start ["one", "other"] [x, y]) G (IsD K (.int (numD (nthD q 1)))) := (rv_nth1 (rv_var rfl hy) fq.s (by rw [fq.l]; decide)).to fq.m
  have z : ∀ {d : PyData}, smallD d = true → ∀ i, (numD (nthD d i)).natAbs < 2 ^ 200 := fun h i => small_num (small_nth h i)
  exact s_ret (T := Y.T) (rv_lt (rv_mul p0 q1 (mul_small (z zp 0) (z zq 1))) (rv_mul q0 p1 (mul_small (z zq 0) (z zp 1)))) ht c k
def toldQ (d : PyData) : Rat := Rat.divInt (numD (nthD d 0)) (numD (nthD d 1))
def toldC (d : PyData) : Cn := (toldQ (nthD d 0), toldQ (nthD d 1))
abbrev s_told : Stmt := topS 10
theorem sc_told : FnScope ["thing"] ["thing"] (defScope s_told) := ⟨rfl, rfl, rfl, by decide +kernel, rfl, by decide +kernel, by decide +kernel⟩
theorem ok_told (Y : Tx K mg base) : FnOk P w K mg base CX0 2 Y.f_told.a Y.f_told.fd ["thing"] (Sp1 Y.T K (fun d : PyData => d) (fun d => FracIs d ∧ smallD d = true) fun d => IsD K (dq (toldQ d))) := by
  refine Y.f_told.F.ok sc_told (fun vs H Q E h => sp1_len h) (fun cdv A outer s H vs Q E hr h => ?_)
  obtain ⟨G, p, c, ht, h, ⟨fp, zp⟩, k⟩ := h
  obtain ⟨x, rfl, hx⟩ := dp1 h
  refine ⟨_, (pss_one (ps_ret (pe_call (ok_lowest Y) (hr.mono (by decide)) (by rfl) Y.f_lowest.g Y.f_lowest.F.kp Y.f_lowest.b .nil pass0 (pa_cons (pe_ix ix_seq (pv 0) pe_int (fun _ _ => rfl)) (pa_cons (pe_ix ix_seq (pv 0) pe_int (fun _ _ => rfl)) pa_nil))))), ?_⟩
  have hp := fp.p
  exact s_ret (T := Y.T) (rv_call2 (a := numD (nthD p 0)) (b := numD (nthD p 1)) (ra_cons ((rv_nth0 (rv_var rfl hx) fp.s (by rw [fp.l]; decide)).to fp.n) (ra_cons ((rv_nth1 (rv_var rfl hx) fp.s (by rw [fp.l]; decide)).to fp.m) ra_nil)) ⟨by omega, Nat.lt_of_lt_of_le (small_num (small_nth zp 1)) (pow_mono (by decide))⟩) ht c k
end
end Qw
namespace Qw
open PySem PySem.Spec PyProof.Rows L2 LamX Qk
section
variable {T : List (Addr × Str)} {K : PySem.W.Frag} {σ : L2.St} {G H : Hp} {te : TE} {wi : TI} {i j : Nat} {ss : List Slot}
/-- a, b = a pair, a list or a tuple -/
theorem g_seq2 {x : V} {d : PyData} {Q : L2.St → Hp → Prop} (c : Cl G H) (hx : Dp K G x d) (hs : isSeq d = true) (hl : (itemsD d).length = 2) (k : ∀ y z, Dp K G y (nthD d 0) → Dp K G z (nthD d 1) → Q ((σ.set i (some y)).set j (some z)) H) :
    gTup K 2 (gCons (gName i) (gCons (gName j) gNil)) x σ H Q ∨ gLst K 2 (gCons (gName i) (gCons (gName j) gNil)) x σ H Q := by
  have two : ∀ {xs : List V} {ds : List PyData}, ds.length = 2 → DpAll K G xs ds → ∃ y z, xs = [y, z] ∧ Dp K G y (ds[0]?.getD .none) ∧ Dp K G z (ds[1]?.getD .none) := by
    intro xs ds hl h
    match ds, hl with
    | [a, b], _ =>
      obtain ⟨y, z, e, hy, hz⟩ := dp2 h
      exact ⟨y, z, e, hy, hz⟩
  cases hx with
  | @lst a xs ds he hd =>
    obtain ⟨y, z, rfl, hy, hz⟩ := two hl hd
    exact .inr ⟨a, _, rfl, c.lst he, rfl, y, [z], rfl, z, [], rfl, rfl, k y z hy hz⟩
  | @tup a xs ds he hd =>
    obtain ⟨y, z, rfl, hy, hz⟩ := two hl hd
    exact .inl ⟨a, _, rfl, c.tup he, rfl, y, [z], rfl, z, [], rfl, rfl, k y z hy hz⟩
  | _ => cases hs
theorem rv_lcZS {B : PyData → PyData} {xs : List PyData} {vs : List Nat} (sl : Sl K G σ ss) (hi : Ri T K wi σ G xs) (hz : xs.length ≤ 100000) (hij : i ∈ vs ∧ j ∈ vs) (hx : ∀ d ∈ xs, isSeq d = true ∧ (itemsD d).length = 2)
    (he : ∀ a ∈ xs, ∀ σ' G1, Same G G1 → Sl K G1 σ' (((wipeS ss vs).set i (.d (nthD a 0))).set j (.d (nthD a 1))) → Rv T te σ' G1 (IsD K (B a))) : Rv T (tLc wi (fun v σ H Q => gTup K 2 (gCons (gName i) (gCons (gName j) gNil)) v σ H Q ∨ gLst K 2 (gCons (gName i) (gCons (gName j) gNil)) v σ H Q) tYes te vs) σ G (IsL K (xs.map B)) :=
  rv_lc (A := fun d : PyData => d) (by rw [List.map_id']; exact hi) hz fun a ha x G1 H1 e c t hxd Q k => g_seq2 c hxd (hx a ha).1 (hx a ha).2 fun y z hy hz => k _ (wipe_set2 hij.1 hij.2 _ _) (he a ha _ G1 e ((((sl.mono e).wipe vs).set hy).set hz))
end
/-! ### is_curve_thing -/
structure CurvIs (d : PyData) : Prop where
  s : isSeq d = true
  l : (itemsD d).length = 2
  a : isSeq (nthD d 0) = true
  b : fracB (nthD d 1) = true
  ne : (itemsD (nthD d 0)).length ≠ 0
  cs : ∀ e ∈ itemsD (nthD d 0), cornB e = true
theorem noCurve1_no {d : PyData} (h : noCurve1 d = false) : isSeq d = true ∧ (itemsD d).length = 2 ∧ isSeq (nthD d 0) = true ∧ fracB (nthD d 1) = true := by
  unfold noCurve1 at h
  simp only [Bool.or_eq_false_iff, Bool.not_eq_false', decide_eq_true_eq] at h
  obtain ⟨h1, h2, h3, h4⟩ := h
  exact ⟨h1, by omega, h3, h4⟩
theorem curv_is {d : PyData} (h : curvB d = true) : CurvIs d := by
  unfold curvB at h
  cases h1 : noCurve1 d with
  | true =>
    rw [h1] at h
    cases h
  | false =>
    rw [h1] at h
    cases h2 : noCurve2 d with
    | true =>
      rw [h2] at h
      cases h
    | false =>
      obtain ⟨a1, a2, a3, a4⟩ := noCurve1_no h1
      unfold noCurve2 at h2
      simp only [Bool.or_eq_false_iff, Bool.not_eq_false', decide_eq_false_iff_not] at h2
      obtain ⟨b1, b2, b3⟩ := h2
      refine ⟨a1, a2, a3, a4, by omega, fun e he => ?_⟩
      have := List.all_eq_true.mp b2 (cornB e) (List.mem_map.mpr ⟨e, he, rfl⟩)
      exact this
section
variable {P : Program} {w : World} {K : PySem.W.Frag} {mg : Str → Option Value} {base : Heap}
/-- what is passed: not large, not long -/
structure Mild (d : PyData) : Prop where
  z : smallD d = true
  l : (itemsD (nthD d 0)).length ≤ 1000
abbrev s_is_curve_thing : Stmt := topS 21
theorem sc_is_curve_thing : FnScope ["thing", "one", "other", "corner"] ["thing"] (defScope s_is_curve_thing) := ⟨rfl, rfl, rfl, by decide +kernel, rfl, by decide +kernel, by decide +kernel⟩
theorem ok_is_curve_thing (Y : Tx K mg base) : FnOk P w K mg base CX0 5 Y.f_is_curve_thing.a Y.f_is_curve_thing.fd ["thing"] (SpB Y.T K Mild curvB) := by
  refine Y.f_is_curve_thing.F.ok sc_is_curve_thing (fun vs H Q E h => sp1_len h) (fun cdv A outer s H vs Q E hr h => ?_)
  obtain ⟨G, d, c, ht, h, hm, k⟩ := h
  have sl := sl_start (N := ["thing", "one", "other", "corner"]) h (Nat.le_of_ble_eq_true rfl)
  have hlen := hm.l
  refine ⟨_, (pss_cons (ps_if (PW.pt (pw_or (pt_not (pt_val (pe_call (ok_is_list Y) (hr.mono (by decide)) (by rfl) Y.f_is_list.g Y.f_is_list.F.kp Y.f_is_list.b .nil pass0 (pa_cons (pv 0) pa_nil)))) (pw_or (pt_cmpR op_ne (pe_callB call_len_seq (by rfl) Y.z_len PySem.boot_len (pa_cons (pv 0) pa_nil)) pe_int (nomark _)) (pw_or (pt_not (pt_val (pe_call (ok_is_list Y) (hr.mono (by decide)) (by rfl) Y.f_is_list.g Y.f_is_list.F.kp Y.f_is_list.b .nil pass0 (pa_cons (pe_ix ix_seq (pv 0) pe_int (fun _ _ => rfl)) pa_nil)))) (pw_or1 (pt_not (pt_val (pe_call (ok_is_fraction Y) (hr.mono (by decide)) (by rfl) Y.f_is_fraction.g Y.f_is_fraction.F.kp Y.f_is_fraction.b .nil pass0 (pa_cons (pe_ix ix_seq (pv 0) pe_int (fun _ _ => rfl)) pa_nil))))))))) (pss_one (ps_ret pe_bl)) pss_nil)
      (pss_cons (ps_if (PW.pt (pw_or (pt_cmpR op_eq (pe_callB call_len_seq (by rfl) Y.z_len PySem.boot_len (pa_cons (pe_ix ix_seq (pv 0) pe_int (fun _ _ => rfl)) pa_nil)) pe_int (nomark _)) (pw_or (pt_not (pt_val (pe_callB (cr_all rfl) (by rfl) Y.z_all (by decide +kernel) (pa_cons (pe_lc (own := [("corner", 3)]) (g := (gName 3)) rfl sc_is_curve_thing.nd (pi_or (pi_list (pe_ix ix_seq (pv 0) pe_int (fun _ _ => rfl))) (pi_tup (pe_ix ix_seq (pv 0) pe_int (fun _ _ => rfl)))) (blkOk_by (N := ["thing", "one", "other", "corner"]) (sc := defScope s_is_curve_thing) (own := [("corner", 3)]) (by decide +kernel)) (fun _ _ _ _ _ => (pg_name (i := 3) sc_is_curve_thing.nd rfl (Or.inl rfl))) (fun _ _ _ _ _ => pts_nil) (fun _ _ _ _ _ => (pe_call (ok_is_corner Y) (hr.mono (by decide)) (by rfl) Y.f_is_corner.g Y.f_is_corner.F.kp Y.f_is_corner.b .nil pass0 (pa_cons (pv 3) pa_nil)))) pa_nil)))) (pw_or1 (pt_cmpR (op_neD hr.units) (pe_ix ix_seq (pe_ix ix_seq (pe_ix ix_seq (pe_ix ix_seq (pv 0) pe_int (fun _ _ => rfl)) pe_int (fun _ _ => rfl)) pe_int (fun _ _ => rfl)) pe_int (fun _ _ => rfl)) pe_int (nomark _)))))) (pss_one (ps_ret pe_bl)) pss_nil)
      (pss_one (ps_ret (pe_callB (cr_all rfl) (by rfl) Y.z_all (by decide +kernel) (pa_cons (pe_lc (own := [("one", 1), ("other", 2)]) (g := (gTup K 2 (gCons (gName 1) (gCons (gName 2) gNil)))) rfl sc_is_curve_thing.nd (RZ.pi_zipA (by rfl) Y.z_zip (pa_cons (pe_ix ix_seq (pv 0) pe_int (fun _ _ => rfl)) (pa_cons (pe_slice sl_seq (pe_ix ix_seq (pv 0) pe_int (fun _ _ => rfl)) (po_some pe_int) po_none) pa_nil))) (blkOk_by (N := ["thing", "one", "other", "corner"]) (sc := defScope s_is_curve_thing) (own := [("one", 1), ("other", 2)]) (by decide +kernel)) (fun _ _ _ _ _ => (pg_tup rfl (pgs_cons (pg_name (i := 1) sc_is_curve_thing.nd rfl (Or.inl rfl)) (pgs_cons (pg_name (i := 2) sc_is_curve_thing.nd rfl (Or.inl rfl)) pgs_nil)))) (fun _ _ _ _ _ => pts_nil) (fun _ _ _ _ _ => (pe_call (ok_is_below_r Y) (hr.mono (by decide)) (by rfl) Y.f_is_below.g Y.f_is_below.F.kp Y.f_is_below.b .nil pass0 (pa_cons (pe_ix (ixK_seq K rfl) (pv 1) pe_int (fun _ _ => rfl)) (pa_cons (pe_ix (ixK_seq K rfl) (pv 2) pe_int (fun _ _ => rfl)) pa_nil))))) pa_nil)))))), ?_⟩
  refine q_if (T := Y.T) (b := noCurve1 d) (rt_or (rt_not (rt_B (rv_call1 (a := d) (ra_cons (rv_sl sl rfl) ra_nil) trivial))) fun h1 => rt_or (rt_test (rv_neI (rv_len2 (d := d) (rv_sl sl rfl) (by simpa using h1)) rv_i)) fun h2 => ?_) ht c (fun hb G1 H1 s1 => ?_) (fun hb G1 H1 s1 => ?_)
  · have h1 : isSeq d = true := by simpa using h1
    have h2 : (itemsD d).length = 2 := by
      have : ((itemsD d).length : Int) = 2 := by simpa using h2
      omega
    exact rt_or (rt_not (rt_B (rv_call1 (a := nthD d 0) (ra_cons (rv_nth0 (rv_sl sl rfl) h1 (by omega)) ra_nil) trivial))) fun _ => rt_not (rt_B (rv_call1 (a := nthD d 1) (ra_cons (rv_nth1 (rv_sl sl rfl) h1 (by omega)) ra_nil) trivial))
  · refine s_ret (T := Y.T) (R := IsD K (.bool (curvB d))) ?_ s1.t s1.s ?_
    · unfold curvB
      rw [hb]
      exact rv_b
    · intro v G2 H2 s2 r
      exact k v G2 H2 (s1.trans s2) r
  refine t_next ?_
  dsimp only
  obtain ⟨a1, a2, a3, a4⟩ := noCurve1_no hb
  have sl1 := sl.mono s1.g
  have r0 : ∀ {σ : L2.St} {G : Hp} {ss : List Slot}, Sl K G σ ss → ss[0]? = some (.d d) → Rv Y.T (tIx K (tVar 0) (tC (.int 0))) σ G (IsD K (nthD d 0)) := fun sl e => rv_nth0 (rv_sl sl e) a1 (by omega)
  refine q_if (T := Y.T) (b := noCurve2 d) (rt_or (rt_test (rv_eqI (rv_len2 (r0 sl1 rfl) a3) rv_i)) fun h1 => ?_) s1.t s1.s (fun hb2 G2 H2 s2 => ?_) (fun hb2 G2 H2 s2 => ?_)
  · have h1 : (itemsD (nthD d 0)).length ≠ 0 := by
      have : ¬ ((itemsD (nthD d 0)).length : Int) = 0 := of_decide_eq_false h1
      omega
    refine rt_or (rt_not (rt_B (rv_all (bs := (itemsD (nthD d 0)).map cornB) ?_))) fun h2 => ?_
    · rw [List.map_map]
      refine Rv.ld (rv_lcNS (A := fun e : PyData => e) (B := fun e : PyData => .bool (cornB e)) sl1 (by rw [List.map_id']; exact ri_seq (r0 sl1 rfl) a3) (by omega) (by decide) fun e he σ' G3 e3 sl3 => rv_call1 (a := e) (ra_cons (rv_sl sl3 rfl) ra_nil) trivial)
    · have h2 : ∀ e ∈ itemsD (nthD d 0), cornB e = true := fun e he => by
        have h2 : ((itemsD (nthD d 0)).map cornB).all id = true := by simpa using h2
        exact List.all_eq_true.mp h2 (cornB e) (List.mem_map.mpr ⟨e, he, rfl⟩)
      have hc0 : cornB (nthD (nthD d 0) 0) = true := by
        refine h2 _ ?_
        have hl : 0 < (itemsD (nthD d 0)).length := by omega
        have e : (itemsD (nthD d 0))[0]? = some (itemsD (nthD d 0))[0] := List.getElem?_eq_getElem hl
        show ((itemsD (nthD d 0))[0]?.getD .none) ∈ _
        rw [e]
        exact List.getElem_mem hl
      have ci := corn_is hc0
      have fi := frac_is ci.a
      have r1 := rv_nth0 (r0 sl1 rfl) a3 (by omega)
      have r2 := rv_nth0 r1 ci.s (by rw [ci.l]; decide)
      have r3 := rv_nth0 r2 fi.s (by rw [fi.l]; decide)
      refine rt_test (rv_neD r3 rv_i ?_ rfl)
      rw [fi.n]
      rfl
  · refine s_ret (T := Y.T) (R := IsD K (.bool (curvB d))) ?_ s2.t s2.s ?_
    · unfold curvB
      rw [hb, hb2]
      exact rv_b
    · intro v G3 H3 s3 r
      exact k v G3 H3 ((s1.trans s2).trans s3) r
  refine t_next ?_
  dsimp only
  have sl2 := sl1.mono s2.g
  have hcu : CurvIs d := by
    unfold noCurve2 at hb2
    simp only [Bool.or_eq_false_iff, Bool.not_eq_false', decide_eq_false_iff_not] at hb2
    obtain ⟨b1, b2, b3⟩ := hb2
    refine ⟨a1, a2, a3, a4, by omega, fun e he => ?_⟩
    exact List.all_eq_true.mp b2 (cornB e) (List.mem_map.mpr ⟨e, he, rfl⟩)
  have hne := hcu.ne
  refine s_ret (T := Y.T) (R := IsD K (.bool (curvB d))) ?_ s2.t s2.s ?_
  · have e : curvB d = lastB d := by
      unfold curvB
      rw [hb, hb2]
      rfl
    rw [e]
    unfold lastB
    refine rv_all ?_
    have e2 : (List.zipWith (fun a b => belowB (nthD a 0) (nthD b 0)) (itemsD (nthD d 0)) ((itemsD (nthD d 0)).drop 1)).map PyData.bool = ((itemsD (nthD d 0)).zip ((itemsD (nthD d 0)).drop 1)).map fun p : PyData × PyData => .bool (belowB (nthD p.1 0) (nthD p.2 0)) := by
      rw [List.map_zipWith]
      show _ = (List.zipWith Prod.mk _ _).map _
      rw [List.map_zipWith]
    rw [e2]
    refine Rv.ld (rv_lcPS (A1 := fun p : PyData × PyData => p.1) (A2 := fun p : PyData × PyData => p.2) sl2 ?_ ?_ (by decide) fun p hp σ' G3 e3 sl3 => ?_)
    · have e3 : ((itemsD (nthD d 0)).zip ((itemsD (nthD d 0)).drop 1)).map (fun p : PyData × PyData => PyData.tuple [p.1, p.2]) = List.zipWith (fun d e => .tuple [d, e]) (itemsD (nthD d 0)) ((itemsD (nthD d 0)).drop 1) := List.map_zipWith
      rw [e3]
      exact ri_pairs (r0 sl2 rfl) a3 (rv_rest (r0 sl2 rfl) a3 (by omega))
    · rw [List.length_zip]
      omega
    · have m1 := (List.of_mem_zip hp).1
      have m2 := List.mem_of_mem_drop (List.of_mem_zip hp).2
      have c1 := corn_is (hcu.cs _ m1)
      have c2 := corn_is (hcu.cs _ m2)
      have z : ∀ e ∈ itemsD (nthD d 0), smallD (nthD e 0) = true := fun e he => small_nth (small_items (small_nth hm.z 0) e he) 0
      exact rv_call2 (a := nthD p.1 0) (b := nthD p.2 0) (ra_cons (rv_nth0 (rv_sl sl3 rfl) c1.s (by rw [c1.l]; decide)) (ra_cons (rv_nth0 (rv_sl sl3 rfl) c2.s (by rw [c2.l]; decide)) ra_nil)) ⟨frac_is c1.a, frac_is c2.a, z _ m1, z _ m2⟩
  · intro v G3 H3 s3 r
    exact k v G3 H3 ((s1.trans s2).trans s3) r
/-! ### as_told -/
def toldV (d : PyData) : Cv := ((itemsD (nthD d 0)).map toldC, toldQ (nthD d 1))
abbrev s_as_told : Stmt := topS 25
theorem sc_as_told : FnScope ["curve", "moment", "worth"] ["curve"] (defScope s_as_told) := ⟨rfl, rfl, rfl, by decide +kernel, rfl, by decide +kernel, by decide +kernel⟩
theorem ok_as_told (Y : Tx K mg base) : FnOk P w K mg base CX0 6 Y.f_as_told.a Y.f_as_told.fd ["curve"] (SpV1 Y.T K (fun d : PyData => d) (fun d => curvB d = true ∧ Mild d ∧ SlOk (toldV d).1) fun d => Qk.normal (toldV d).1 (toldV d).2) := by
  refine Y.f_as_told.F.ok sc_as_told (fun vs H Q E h => spv1_len h) (fun cdv A outer s H vs Q E hr h => ?_)
  obtain ⟨G, d, c, ht, h, ⟨hc, hm, hok⟩, k⟩ := h
  have sl := sl_start (N := ["curve", "moment", "worth"]) h (Nat.le_of_ble_eq_true rfl)
  have hlen := hm.l
  have hcu := curv_is hc
  have hl := hcu.l
  refine ⟨_, (pss_one (ps_ret (pe_call (ok_normal Y) (hr.mono (by decide)) (by rfl) Y.f_normal.g Y.f_normal.F.kp Y.f_normal.b .nil pass0 (pa_cons (pe_lc (own := [("moment", 1), ("worth", 2)]) (g := (fun v σ H Q => gTup K 2 (gCons (gName 1) (gCons (gName 2) gNil)) v σ H Q ∨ gLst K 2 (gCons (gName 1) (gCons (gName 2) gNil)) v σ H Q)) rfl sc_as_told.nd (pi_or (pi_list (pe_ix ix_seq (pv 0) pe_int (fun _ _ => rfl))) (pi_tup (pe_ix ix_seq (pv 0) pe_int (fun _ _ => rfl)))) (blkOk_by (N := ["curve", "moment", "worth"]) (sc := defScope s_as_told) (own := [("moment", 1), ("worth", 2)]) (by decide +kernel)) (fun _ _ _ _ _ => (pg_or (pg_tup rfl (pgs_cons (pg_name (i := 1) sc_as_told.nd rfl (Or.inl rfl)) (pgs_cons (pg_name (i := 2) sc_as_told.nd rfl (Or.inl rfl)) pgs_nil))) (pg_lst rfl (pgs_cons (pg_name (i := 1) sc_as_told.nd rfl (Or.inl rfl)) (pgs_cons (pg_name (i := 2) sc_as_told.nd rfl (Or.inl rfl)) pgs_nil))))) (fun _ _ _ _ _ => pts_nil) (fun _ _ _ _ _ => (pe_tup (pa_cons (pe_call (ok_told Y) (hr.mono (by decide)) (by rfl) Y.f_told.g Y.f_told.F.kp Y.f_told.b .nil pass0 (pa_cons (pv 1) pa_nil)) (pa_cons (pe_call (ok_told Y) (hr.mono (by decide)) (by rfl) Y.f_told.g Y.f_told.F.kp Y.f_told.b .nil pass0 (pa_cons (pv 2) pa_nil)) pa_nil))))) (pa_cons (pe_call (ok_told Y) (hr.mono (by decide)) (by rfl) Y.f_told.g Y.f_told.F.kp Y.f_told.b .nil pass0 (pa_cons (pe_ix ix_seq (pv 0) pe_int (fun _ _ => rfl)) pa_nil)) pa_nil))))), ?_⟩
  refine s_ret (T := Y.T) (R := IsVc K G (Qk.normal (toldV d).1 (toldV d).2)) ?_ ht c k
  refine rv_callV2 (a := (toldV d).1) (b := (toldV d).2) (ra_cons ?_ (ra_cons (rv_call1 (a := nthD d 1) (ra_cons (rv_nth1 (rv_sl sl rfl) hcu.s (by omega)) ra_nil) ⟨frac_is hcu.b, small_nth hm.z 1⟩) ra_nil)) hok
  show Rv Y.T _ _ G (IsD K (.list (((itemsD (nthD d 0)).map toldC).map dc)))
  rw [List.map_map]
  refine Rv.ld (rv_lcZS (B := fun e => dc (toldC e)) sl (ri_seq (rv_nth0 (rv_sl sl rfl) hcu.s (by omega)) hcu.a) (by omega) (by decide) (fun e he => ⟨(corn_is (hcu.cs e he)).s, (corn_is (hcu.cs e he)).l⟩) fun e he σ' G1 e1 sl1 => ?_)
  have ci := corn_is (hcu.cs e he)
  have z : ∀ i, smallD (nthD e i) = true := fun i => small_nth (small_items (small_nth hm.z 0) e he) i
  exact rv_tup (ra_cons (rv_call1 (a := nthD e 0) (ra_cons (rv_sl sl1 rfl) ra_nil) ⟨frac_is ci.a, z 0⟩) (ra_cons (rv_call1 (a := nthD e 1) (ra_cons (rv_sl sl1 rfl) ra_nil) ⟨frac_is ci.b, z 1⟩) ra_nil)) (Nat.le_of_ble_eq_true rfl)
end
end Qw
namespace Qw
open PySem PySem.Spec PyProof.Rows L2 LamX Qk
/-! ### errors -/
theorem passX0 {X : Cx} : Passes (L2.CX X.prog X.w) X E0 := fun _ _ _ _ _ _ _ ⟨_, _, _, _, _, _, _, _, _, _, _, _, h⟩ => h.elim
/-- an error of the class at C that bears the value u -/
def Raised (T : List (Addr × Str)) (G H : Hp) (C : Addr) (u : V) (E : XK) : Prop := ∀ G' H' dx, Step T G H G' H' → H' dx = some (.xd [("thing", u)]) → E (.ref C) (some dx) H'
theorem Raised.of {T : List (Addr × Str)} {G H G1 H1 : Hp} {C : Addr} {u : V} {E : XK} (h : Raised T G H C u E) (s : Step T G H G1 H1) : Raised T G1 H1 C u E := fun G' H' dx s2 e => h G' H' dx (s.trans s2) e
/-- what may raise, of one argument -/
def SpX1 (T : List (Addr × Str)) (K : PySem.W.Frag) (C : Addr) (pre : PyData → Prop) (good : PyData → Bool) (okp : PyData → Prop) (out : Hp → PyData → Rp) : Sp := fun vs H Q E => ∃ (G : Hp) (d : PyData) (u : V), vs = [u] ∧ Cl G H ∧ Tabs T H ∧ DpAll K G vs [d] ∧ pre d ∧ (good d = true → okp d ∧ Hands T G H (out G d) Q) ∧ (good d = false → Raised T G H C u E)
section
variable {T : List (Addr × Str)} {K : PySem.W.Frag} {σ : L2.St} {G H : Hp} {aa : TA} {C : Addr} {pre : PyData → Prop} {good : PyData → Bool} {okp : PyData → Prop} {out : Hp → PyData → Rp} {d : PyData} {u : V} {i : Nat} {E : XK}
theorem spx1_len {vs : List V} {Q : VK} (h : SpX1 T K C pre good okp out vs H Q E) : vs.length = 1 := by
  obtain ⟨G, d, u, rfl, _⟩ := h
  rfl
/-- the good way -/
theorem rv_callX (back : ∀ G1 G2 v, Same G G1 → out G1 d G2 v → out G d G2 v) (h : Ra T K aa σ G [d]) (hp : pre d) (hg : good d = true) (ho : okp d) : Rv T (tCall (SpX1 T K C pre good okp out) [] E aa) σ G (out G d) := fun H t c Q q =>
  h H t c _ fun vs G2 H2 s2 hv => by
    cases hv with
    | @cons u _ _ _ h1 h2 =>
      cases h2
      exact ⟨G2, d, u, rfl, s2.s, s2.t, .cons h1 .nil, hp, fun _ => ⟨ho, fun v G3 H3 s3 r => q v G3 H3 (s2.trans s3) (back G2 G3 v s2.g r)⟩, fun z => by rw [hg] at z; cases z⟩
/-- the other one: the argument is a name -/
theorem rx_callX {Q : VK} (hσ : σ[i]? = some (some u)) (h : Dp K G u d) (ht : Tabs T H) (c : Cl G H) (hp : pre d) (hg : good d = false) (r : Raised T G H C u E) : tCall (SpX1 T K C pre good okp out) [] E (tCons (tVar i) tNil) σ H Q :=
  ⟨u, hσ, G, d, u, rfl, c, ht, .cons h .nil, hp, (fun z => by rw [hg] at z; cases z), fun _ => r⟩
end
section
variable {P : Program} {w : World} {K : PySem.W.Frag} {mg : Str → Option Value} {base : Heap}
/-- self.thing = thing -/
def spInit (C : Addr) : Sp := fun vs H Q _ => ∃ (a : Addr) (y : V), vs = [.ref a, y] ∧ H a = some (exo a C none) ∧ ∀ dx, H dx = none → dx ≠ a → Q .non (upd (upd H dx (exd dx [("thing", y)])) a (exo a C (some dx)))
abbrev s_init_F : Stmt := inClass (topS 3) 0
abbrev s_init_C : Stmt := inClass (topS 34) 0
theorem sc_init_F : FnScope ["self", "thing"] ["self", "thing"] (defScope s_init_F) := ⟨rfl, rfl, rfl, by decide +kernel, rfl, by decide +kernel, by decide +kernel⟩
theorem sc_init_C : FnScope ["self", "thing"] ["self", "thing"] (defScope s_init_C) := ⟨rfl, rfl, rfl, by decide +kernel, rfl, by decide +kernel, by decide +kernel⟩
theorem ok_init_F (Y : Tx K mg base) : FnOk P w K mg base CX0 1 Y.xF.ia Y.xF.fd ["self", "thing"] (spInit Y.xF.C) := by
  refine Y.xF.F.ok sc_init_F (fun vs H Q E h => ?_) (fun cdv A outer s H vs Q E hr h => ?_)
  · obtain ⟨a, y, rfl, _⟩ := h
    rfl
  · obtain ⟨a, y, rfl, ha, k⟩ := h
    refine ⟨_, pss_one (ps_ost (pv 0) (pv 1)), ?_⟩
    exact ⟨y, rfl, .ref a, rfl, a, Y.xF.C, rfl, Y.xF.o, Y.xF.no, .inl ⟨ha, fun dx h1 h2 => k dx h1 h2⟩⟩
theorem ok_init_C (Y : Tx K mg base) : FnOk P w K mg base CX0 1 Y.xC.ia Y.xC.fd ["self", "thing"] (spInit Y.xC.C) := by
  refine Y.xC.F.ok sc_init_C (fun vs H Q E h => ?_) (fun cdv A outer s H vs Q E hr h => ?_)
  · obtain ⟨a, y, rfl, _⟩ := h
    rfl
  · obtain ⟨a, y, rfl, ha, k⟩ := h
    refine ⟨_, pss_one (ps_ost (pv 0) (pv 1)), ?_⟩
    exact ⟨y, rfl, .ref a, rfl, a, Y.xC.C, rfl, Y.xC.o, Y.xC.no, .inl ⟨ha, fun dx h1 h2 => k dx h1 h2⟩⟩
/-- raise C(thing) -/
theorem tk_raise {T : List (Addr × Str)} {σ : L2.St} {G H : Hp} {C : Addr} {i : Nat} {v : V} {E : XK} (hσ : σ[i]? = some (some v)) (ht : Tabs T H) (c : Cl G H) (r : Raised T G H C v E) : tMkO C (spInit C) [] (tCons (tVar i) tNil) σ H E :=
  ⟨v, hσ, by show 1 ≤ 1000; decide, fun a na => ⟨a, v, rfl, upd_same, fun dx hdx hne => by
    have hd2 : H dx = none := by
      rw [upd_ne hne] at hdx
      exact hdx
    refine ⟨rfl, dx, [("thing", v)], upd_same, ?_, hd2, ?_⟩
    · rw [upd_ne hne, upd_same]
    · have e : upd (del (upd (upd (upd H a (exo a C none)) dx (exd dx [("thing", v)])) a (exo a C (some dx))) a) dx (.xd [("thing", v)]) = upd H dx (.xd [("thing", v)]) := by
        funext b
        by_cases h1 : b = dx
        · rw [h1, upd_same, upd_same]
        · rw [upd_ne h1, upd_ne h1]
          by_cases h2 : b = a
          · rw [h2, del_same, na]
          · rw [del_ne h2, upd_ne h2, upd_ne h1, upd_ne h2]
      rw [e]
      exact r G _ dx (Step.newH ht c hd2) upd_same⟩⟩
abbrev SpF (T : List (Addr × Str)) (K : PySem.W.Frag) (C : Addr) : Sp := SpX1 T K C (fun d => smallD d = true) fracB (fun _ => True) fun _ d => IsD K (dq (toldQ d))
abbrev SpC (T : List (Addr × Str)) (K : PySem.W.Frag) (C : Addr) : Sp := SpX1 T K C Mild curvB (fun d => SlOk (toldV d).1) fun G d => IsVc K G (Qk.normal (toldV d).1 (toldV d).2)
abbrev s_checked_fraction : Stmt := topS 11
theorem sc_checked_fraction : FnScope ["thing"] ["thing"] (defScope s_checked_fraction) := ⟨rfl, rfl, rfl, by decide +kernel, rfl, by decide +kernel, by decide +kernel⟩
theorem ok_checked_fraction (Y : Tx K mg base) : FnOk P w K mg base (L2.CX P w) 4 Y.f_checked_fraction.a Y.f_checked_fraction.fd ["thing"] (SpF Y.T K Y.xF.C) := by
  refine Y.f_checked_fraction.F.okX sc_checked_fraction (fun vs H Q E h => spx1_len h) (fun cdv A outer s H vs Q E hr h => ?_)
  obtain ⟨G, d, u, rfl, c, ht, h, hz, hg, hb⟩ := h
  have sl := sl_start (N := ["thing"]) h (Nat.le_of_ble_eq_true rfl)
  refine ⟨_, (pss_cons (ps_if (pt_not (pt_val (pe_call (ok_is_fraction Y) (hr.mono (by decide)) (by rfl) Y.f_is_fraction.g Y.f_is_fraction.F.kp Y.f_is_fraction.b .nil pass0 (pa_cons (pv 0) pa_nil)))) (pss_one (ps_raise rfl (takes_of rfl rfl rfl rfl) (pmk_oex Y.xF.o Y.xF.i Y.xF.ti (ok_init_F Y) (hr.mono (by decide)) Y.xF.b .nil pass0 (by rfl) Y.xF.g (pa_cons (pv 0) pa_nil)))) pss_nil)
      (pss_one (ps_ret (pe_call (ok_told Y) (hr.mono (by decide)) (by rfl) Y.f_told.g Y.f_told.F.kp Y.f_told.b .nil pass0 (pa_cons (pv 0) pa_nil))))), ?_⟩
  refine q_if (T := Y.T) (b := !fracB d) (rt_not (rt_B (rv_call1 (a := d) (ra_cons (rv_sl sl rfl) ra_nil) trivial))) ht c (fun hb1 G1 H1 s1 => ?_) (fun hb1 G1 H1 s1 => ?_)
  · have hb1 : fracB d = false := by simpa using hb1
    exact tk_raise (T := Y.T) (v := u) rfl s1.t s1.s ((hb hb1).of s1)
  · have hb1 : fracB d = true := by simpa using hb1
    obtain ⟨_, k⟩ := hg hb1
    refine t_next ?_
    dsimp only
    refine s_ret (T := Y.T) (R := IsD K (dq (toldQ d))) (rv_call1 (a := d) (ra_cons (rv_sl (sl.mono s1.g) rfl) ra_nil) ⟨frac_is hb1, hz⟩) s1.t s1.s ?_
    intro v G2 H2 s2 r
    exact k v G2 H2 (s1.trans s2) r
end
end Qw
namespace Qw
open PySem PySem.Spec PyProof.Rows L2 LamX Qk
/-- the curve that is told of what is passed -/
def tv (d : PyData) : Cv := Qk.normal (toldV d).1 (toldV d).2
def SpX2 (T : List (Addr × Str)) (K : PySem.W.Frag) (CC CF : Addr) (okp : PyData → PyData → Prop) (out : Hp → PyData → PyData → Rp) : Sp := fun vs H Q E => ∃ (G : Hp) (d e : PyData) (u v : V), vs = [u, v] ∧ Cl G H ∧ Tabs T H ∧ DpAll K G vs [d, e] ∧ Mild d ∧ smallD e = true ∧ (curvB d = true → SlOk (toldV d).1) ∧
  (curvB d = true → fracB e = true → okp d e ∧ Hands T G H (out G d e) Q) ∧ (curvB d = false → Raised T G H CC u E) ∧ (curvB d = true → fracB e = false → Raised T G H CF v E)
section
theorem dpAll_one {K : PySem.W.Frag} {G : Hp} {u : V} {d : PyData} (h : DpAll K G [u] [d]) : Dp K G u d := by
  cases h with
  | cons h1 _ => exact h1
theorem dpAll_two {K : PySem.W.Frag} {G : Hp} {u v : V} {d e : PyData} (h : DpAll K G [u, v] [d, e]) : Dp K G u d ∧ Dp K G v e := by
  cases h with
  | cons h1 h2 => exact ⟨h1, dpAll_one h2⟩
variable {T : List (Addr × Str)} {K : PySem.W.Frag} {σ : L2.St} {G H : Hp} {aa : TA} {CC CF : Addr} {okp : PyData → PyData → Prop} {out : Hp → PyData → PyData → Rp} {d e : PyData} {E : XK}
theorem spx2_len {vs : List V} {Q : VK} (h : SpX2 T K CC CF okp out vs H Q E) : vs.length = 2 := by
  obtain ⟨G, d, e, u, v, rfl, _⟩ := h
  rfl
theorem rv_callX2 (back : ∀ G1 G2 v, Same G G1 → out G1 d e G2 v → out G d e G2 v) (h : Ra T K aa σ G [d, e]) (hp : Mild d) (he : smallD e = true) (hc : curvB d = true) (hk : SlOk (toldV d).1) (hf : fracB e = true) (ho : okp d e) : Rv T (tCall (SpX2 T K CC CF okp out) [] E aa) σ G (out G d e) := fun H t c Q q =>
  h H t c _ fun vs G2 H2 s2 hv => by
    cases hv with
    | @cons u _ _ _ h1 h2 =>
      cases h2 with
      | @cons u2 _ _ _ h2 h3 =>
        cases h3
        exact ⟨G2, d, e, u, u2, rfl, s2.s, s2.t, .cons h1 (.cons h2 .nil), hp, he, fun _ => hk, fun _ _ => ⟨ho, fun v G3 H3 s3 r => q v G3 H3 (s2.trans s3) (back G2 G3 v s2.g r)⟩, (fun z => by rw [hc] at z; cases z), fun _ z => by rw [hf] at z; cases z⟩
end
section
variable {P : Program} {w : World} {K : PySem.W.Frag} {mg : Str → Option Value} {base : Heap}
abbrev s_checked_curve : Stmt := topS 36
theorem sc_checked_curve : FnScope ["thing"] ["thing"] (defScope s_checked_curve) := ⟨rfl, rfl, rfl, by decide +kernel, rfl, by decide +kernel, by decide +kernel⟩
theorem ok_checked_curve (Y : Tx K mg base) : FnOk P w K mg base (L2.CX P w) 7 Y.f_checked_curve.a Y.f_checked_curve.fd ["thing"] (SpC Y.T K Y.xC.C) := by
  refine Y.f_checked_curve.F.okX sc_checked_curve (fun vs H Q E h => spx1_len h) (fun cdv A outer s H vs Q E hr h => ?_)
  obtain ⟨G, d, u, rfl, c, ht, h, hm, hg, hb⟩ := h
  have sl := sl_start (N := ["thing"]) h (Nat.le_of_ble_eq_true rfl)
  refine ⟨_, (pss_cons (ps_if (pt_not (pt_val (pe_call (ok_is_curve_thing Y) (hr.mono (by decide)) (by rfl) Y.f_is_curve_thing.g Y.f_is_curve_thing.F.kp Y.f_is_curve_thing.b .nil pass0 (pa_cons (pv 0) pa_nil)))) (pss_one (ps_raise rfl (takes_of rfl rfl rfl rfl) (pmk_oex Y.xC.o Y.xC.i Y.xC.ti (ok_init_C Y) (hr.mono (by decide)) Y.xC.b .nil pass0 (by rfl) Y.xC.g (pa_cons (pv 0) pa_nil)))) pss_nil)
      (pss_one (ps_ret (pe_call (ok_as_told Y) (hr.mono (by decide)) (by rfl) Y.f_as_told.g Y.f_as_told.F.kp Y.f_as_told.b .nil pass0 (pa_cons (pv 0) pa_nil))))), ?_⟩
  refine q_if (T := Y.T) (b := !curvB d) (rt_not (rt_B (rv_call1 (a := d) (ra_cons (rv_sl sl rfl) ra_nil) hm))) ht c (fun hb1 G1 H1 s1 => ?_) (fun hb1 G1 H1 s1 => ?_)
  · have hb1 : curvB d = false := by simpa using hb1
    exact tk_raise (T := Y.T) (v := u) rfl s1.t s1.s ((hb hb1).of s1)
  · have hb1 : curvB d = true := by simpa using hb1
    obtain ⟨ho, k⟩ := hg hb1
    refine t_next ?_
    dsimp only
    refine s_ret (T := Y.T) (R := IsVc K G1 (tv d)) (rv_callV1 (a := d) (ra_cons (rv_sl (sl.mono s1.g) rfl) ra_nil) ⟨hb1, hm, ho⟩) s1.t s1.s ?_
    intro v G2 H2 s2 r
    exact k v G2 H2 (s1.trans s2) (r.back s1.g)
structure RisenOk (d : PyData) : Prop where
  s : SlOk (toldV d).1
  f : Fine (tv d)
  n : SlOk (nf (((tv d).1.head?.getD (0, 0)).2) (tv d).1 (tv d).2)
abbrev SpR (T : List (Addr × Str)) (K : PySem.W.Frag) (C : Addr) : Sp := SpX1 T K C (fun d => Mild d ∧ (curvB d = true → RisenOk d)) curvB (fun _ => True) fun G d => IsVc K G (neverFalling (tv d))
abbrev s_risen : Stmt := topS 43
theorem sc_risen : FnScope ["curve"] ["curve"] (defScope s_risen) := ⟨rfl, rfl, rfl, by decide +kernel, rfl, by decide +kernel, by decide +kernel⟩
theorem ok_risen (Y : Tx K mg base) : FnOk P w K mg base (L2.CX P w) 8 Y.f_risen.a Y.f_risen.fd ["curve"] (SpR Y.T K Y.xC.C) := by
  refine Y.f_risen.F.okX sc_risen (fun vs H Q E h => spx1_len h) (fun cdv A outer s H vs Q E hr h => ?_)
  obtain ⟨G, d, u, rfl, c, ht, h, ⟨hm, hk⟩, hg, hb⟩ := h
  have sl := sl_start (N := ["curve"]) h (Nat.le_of_ble_eq_true rfl)
  refine ⟨_, (pss_one (ps_ret (pe_call (ok_never_falling Y) (hr.mono (by decide)) (by rfl) Y.f_never_falling.g Y.f_never_falling.F.kp Y.f_never_falling.b .nil pass0 (pa_cons (pe_call (ok_checked_curve Y) (hr.mono (by decide)) (by rfl) Y.f_checked_curve.g Y.f_checked_curve.F.kp Y.f_checked_curve.b .nil (passes_call (takes_of rfl rfl rfl rfl) (fun _ _ _ _ h => h)) (pa_cons (pv 0) pa_nil)) pa_nil)))), ?_⟩
  cases hc : curvB d with
  | true =>
    have ro := hk hc
    exact s_ret (T := Y.T) (R := IsVc K G (neverFalling (tv d))) (rv_callV1 (a := tv d) (ra_cons (Rv.vd (rv_callX (fun G1 G2 v e r => r.back e) (ra_cons (rv_sl sl rfl) ra_nil) hm hc ro.s)) ra_nil) ⟨ro.f, ro.n⟩) ht c (hg hc).2
  | false => exact rx_callX (u := u) rfl (dpAll_one h) ht c hm hc (hb hc)
abbrev s_held_back : Stmt := topS 44
theorem sc_held_back : FnScope ["curve", "most", "known"] ["curve", "most"] (defScope s_held_back) := ⟨rfl, rfl, rfl, by decide +kernel, rfl, by decide +kernel, by decide +kernel⟩
theorem ok_held_back (Y : Tx K mg base) : FnOk P w K mg base (L2.CX P w) 9 Y.f_held_back.a Y.f_held_back.fd ["curve", "most"] (SpX2 Y.T K Y.xC.C Y.xF.C (fun d e => BackOk (tv d) (toldQ e)) fun G d e => IsVc K G (back (tv d) (toldQ e))) := by
  refine Y.f_held_back.F.okX sc_held_back (fun vs H Q E h => spx2_len h) (fun cdv A outer s H vs Q E hr h => ?_)
  obtain ⟨G, d, e, u, w, rfl, c, ht, h, hm, hz, hs, hg, hb1, hb2⟩ := h
  obtain ⟨hd1, hd2⟩ := dpAll_two h
  have sl := sl_start (N := ["curve", "most", "known"]) h (Nat.le_of_ble_eq_true rfl)
  refine ⟨_, (pss_cons (ps_set (i := 2) sc_held_back.nd rfl (Or.inl rfl) (pe_call (ok_checked_curve Y) (hr.mono (by decide)) (by rfl) Y.f_checked_curve.g Y.f_checked_curve.F.kp Y.f_checked_curve.b .nil (passes_call (takes_of rfl rfl rfl rfl) (fun _ _ _ _ h => h)) (pa_cons (pv 0) pa_nil)))
      (pss_one (ps_ret (pe_call (ok_back_by Y) (hr.mono (by decide)) (by rfl) Y.f_back_by.g Y.f_back_by.F.kp Y.f_back_by.b .nil pass0 (pa_cons (pv 2) (pa_cons (pe_call (ok_checked_fraction Y) (hr.mono (by decide)) (by rfl) Y.f_checked_fraction.g Y.f_checked_fraction.F.kp Y.f_checked_fraction.b .nil (passes_call (takes_of rfl rfl rfl rfl) (fun _ _ _ _ h => h)) (pa_cons (pv 1) pa_nil)) pa_nil)))))), ?_⟩
  cases hc : curvB d with
  | false => exact rx_callX (u := u) rfl hd1 ht c hm hc (hb1 hc)
  | true =>
    refine q_set (T := Y.T) (R := IsD K (dv (tv d))) (Rv.vd (rv_callX (fun G1 G2 v e r => r.back e) (ra_cons (rv_sl sl rfl) ra_nil) hm hc (hs hc))) ht c fun kv G1 H1 s1 hkv => ?_
    have sl1 := (sl.mono s1.g).set (i := 2) hkv
    cases hf : fracB e with
    | true =>
      obtain ⟨ho, k⟩ := hg hc hf
      refine s_ret (T := Y.T) (R := IsVc K G1 (back (tv d) (toldQ e))) (rv_callV2 (a := tv d) (b := toldQ e) (ra_cons (rv_sl sl1 rfl) (ra_cons (rv_callX (fun G1 G2 v e r => r) (ra_cons (rv_sl sl1 rfl) ra_nil) hz hf trivial) ra_nil)) ho) s1.t s1.s ?_
      intro v G2 H2 s2 r
      exact k v G2 H2 (s1.trans s2) (r.back s1.g)
    | false =>
      refine ⟨kv, rfl, ?_⟩
      exact rx_callX (u := w) rfl (sdp s1.g hd2) s1.t s1.s hz hf ((hb2 hc hf).of s1)
abbrev s_pushed_ahead : Stmt := topS 45
theorem sc_pushed_ahead : FnScope ["curve", "most", "known"] ["curve", "most"] (defScope s_pushed_ahead) := ⟨rfl, rfl, rfl, by decide +kernel, rfl, by decide +kernel, by decide +kernel⟩
theorem ok_pushed_ahead (Y : Tx K mg base) : FnOk P w K mg base (L2.CX P w) 9 Y.f_pushed_ahead.a Y.f_pushed_ahead.fd ["curve", "most"] (SpX2 Y.T K Y.xC.C Y.xF.C (fun d e => AheadOk (tv d) (toldQ e)) fun G d e => IsOc K G (Qk.ahead (tv d) (toldQ e))) := by
  refine Y.f_pushed_ahead.F.okX sc_pushed_ahead (fun vs H Q E h => spx2_len h) (fun cdv A outer s H vs Q E hr h => ?_)
  obtain ⟨G, d, e, u, w, rfl, c, ht, h, hm, hz, hs, hg, hb1, hb2⟩ := h
  obtain ⟨hd1, hd2⟩ := dpAll_two h
  have sl := sl_start (N := ["curve", "most", "known"]) h (Nat.le_of_ble_eq_true rfl)
  refine ⟨_, (pss_cons (ps_set (i := 2) sc_pushed_ahead.nd rfl (Or.inl rfl) (pe_call (ok_checked_curve Y) (hr.mono (by decide)) (by rfl) Y.f_checked_curve.g Y.f_checked_curve.F.kp Y.f_checked_curve.b .nil (passes_call (takes_of rfl rfl rfl rfl) (fun _ _ _ _ h => h)) (pa_cons (pv 0) pa_nil)))
      (pss_one (ps_ret (pe_call (ok_ahead_by Y) (hr.mono (by decide)) (by rfl) Y.f_ahead_by.g Y.f_ahead_by.F.kp Y.f_ahead_by.b .nil pass0 (pa_cons (pv 2) (pa_cons (pe_call (ok_checked_fraction Y) (hr.mono (by decide)) (by rfl) Y.f_checked_fraction.g Y.f_checked_fraction.F.kp Y.f_checked_fraction.b .nil (passes_call (takes_of rfl rfl rfl rfl) (fun _ _ _ _ h => h)) (pa_cons (pv 1) pa_nil)) pa_nil)))))), ?_⟩
  cases hc : curvB d with
  | false => exact rx_callX (u := u) rfl hd1 ht c hm hc (hb1 hc)
  | true =>
    refine q_set (T := Y.T) (R := IsD K (dv (tv d))) (Rv.vd (rv_callX (fun G1 G2 v e r => r.back e) (ra_cons (rv_sl sl rfl) ra_nil) hm hc (hs hc))) ht c fun kv G1 H1 s1 hkv => ?_
    have sl1 := (sl.mono s1.g).set (i := 2) hkv
    cases hf : fracB e with
    | true =>
      obtain ⟨ho, k⟩ := hg hc hf
      refine s_ret (T := Y.T) (R := IsOc K G1 (Qk.ahead (tv d) (toldQ e))) (rv_callO2 (a := tv d) (b := toldQ e) (ra_cons (rv_sl sl1 rfl) (ra_cons (rv_callX (fun G1 G2 v e r => r) (ra_cons (rv_sl sl1 rfl) ra_nil) hz hf trivial) ra_nil)) ho) s1.t s1.s ?_
      intro v G2 H2 s2 r
      exact k v G2 H2 (s1.trans s2) (r.back s1.g)
    | false =>
      refine ⟨kv, rfl, ?_⟩
      exact rx_callX (u := w) rfl (sdp s1.g hd2) s1.t s1.s hz hf ((hb2 hc hf).of s1)
end
end Qw
namespace Qw
open PySem PySem.Spec PyProof.Rows L2 LamX Qk
theorem room65 {k : Nat} {A : Around} (r : Room k A) : A.units + 65 < cLine := by
  have := r.un
  omega
/-! ### // by a divisor below 0 -/
def CDivN (_ j : Int) : Prop := j ≠ 0 ∧ j.natAbs < 2 ^ 9000
theorem op_fdivN {X : Cx} : OpR X (binaryOp .FloorDiv) (rI CDivN fun i j => .int (i.fdiv j)) := opI fun i j _ _ _ _ _ hc q =>
  floordiv_int hc.1 q (.inl (PyProof.noPylong_of_log2 (PySem.Flt.log2_lt_of (by decide) hc.2)))
section
variable {T : List (Addr × Str)} {K : PySem.W.Frag} {σ : L2.St} {G H : Hp} {ta tb te : TE} {n m : Int}
theorem rv_fdivN (ha : Rv T ta σ G (IsD K (.int n))) (hb : Rv T tb σ G (IsD K (.int m))) (hc : CDivN n m) : Rv T (tOp (rI CDivN fun i j => .int (i.fdiv j)) ta tb) σ G (IsD K (.int (n.fdiv m))) := rv_rI ha hb hc
/-- abs -/
theorem rv_abs (h : Rv T te σ G (IsD K (.int n))) : Rv T (tCB (fun xs H Q => ∃ i, xs = [.int i] ∧ Q (.int (if i < 0 then -i else i)) H) (tCons te tNil)) σ G (IsD K (.int (n.natAbs : Int))) := fun H t c Q q =>
  h H t c _ fun v G2 H2 s2 hv => ⟨n, by rw [dp_int hv], by
    have e : (if n < 0 then -n else n) = (n.natAbs : Int) := by split <;> omega
    rw [e]
    exact q _ G2 H2 s2 (.int _)⟩
theorem s_parS {aa : TA} {D : Ends} {i j : Nat} {d1 d2 : PyData} {ss : List Slot} (sl : Sl K G σ ss) (h : Ra T K aa σ G [d1, d2]) (ht : Tabs T H) (c : Cl G H) (k : ∀ σ' G' H', Step T G H G' H' → Sl K G' σ' ((ss.set i (.d d1)).set j (.d d2)) → D.nx σ' H') : tPar i j aa D σ H :=
  h H ht c _ fun vs G' H' s hv => by
    obtain ⟨u, v, rfl, hu, hv⟩ := dp2 hv
    exact ⟨_, _, rfl, k _ G' H' s (((sl.mono s.g).set hu).set hv)⟩
/-- while -/
theorem q_while {tt : TT} {tbd tz : TS} {D : Ends} (P : Nat → L2.St → Hp → Hp → Prop) {m0 : Nat} (h0 : P m0 σ G H) (hP : ∀ m σ' G' H', P m σ' G' H' → Cl G' H' ∧ Tabs T H')
    (b : Nat → L2.St → Hp → Hp → Bool) (ht : ∀ m σ' G' H', P m σ' G' H' → Rt T tt σ' G' (b m σ' G' H'))
    (hs : ∀ m σ' G' H' G'' H'', P m σ' G' H' → b m σ' G' H' = true → Step T G' H' G'' H'' → tbd { D with nx := fun σ2 H2 => ∃ m', m' < m ∧ ∃ G2, P m' σ2 G2 H2, ct := fun σ2 H2 => ∃ m', m' < m ∧ ∃ G2, P m' σ2 G2 H2, bk := tz D } σ' H'')
    (he : ∀ m σ' G' H' G'' H'', P m σ' G' H' → b m σ' G' H' = false → Step T G' H' G'' H'' → tz D σ' H'') : tSeq (tWhile tt tbd) tz D σ H := by
  refine ⟨fun m σ' H' => ∃ G', P m σ' G' H', ⟨m0, G, h0⟩, fun m σ' H' hW => ?_⟩
  obtain ⟨G', p⟩ := hW
  obtain ⟨c, t⟩ := hP _ _ _ _ p
  refine ht m σ' G' H' p H' t c _ fun G2 H2 s2 => ?_
  cases hb : b m σ' G' H' with
  | true => exact iteT ⟨fun σ2 H2 => ∃ m', m' < m ∧ ∃ G2, P m' σ2 G2 H2, fun σ2 H2 z => z, hs m σ' G' H' G2 H2 p hb s2⟩
  | false => exact iteF (he m σ' G' H' G2 H2 p hb s2)
end
section
variable {P : Program} {w : World} {K : PySem.W.Frag} {mg : Str → Option Value} {base : Heap}
abbrev s__law_common : Stmt := topS 52
theorem sc__law_common : FnScope ["_law_one", "_law_other"] ["_law_one", "_law_other"] (defScope s__law_common) := ⟨rfl, rfl, rfl, by decide +kernel, rfl, by decide +kernel, by decide +kernel⟩
theorem ok__law_common (Y : Tx K mg base) : FnOk P w K mg base CX0 1 Y.f__law_common.a Y.f__law_common.fd ["_law_one", "_law_other"] (Sp2 Y.T K PyData.int PyData.int (fun _ _ => True) fun n d => IsD K (.int ((Nat.gcd n.natAbs d.natAbs : Nat) : Int))) := by
  refine Y.f__law_common.F.ok sc__law_common (fun vs H Q E h => sp2_len h) (fun cdv A outer s H vs Q E hr h => ?_)
  obtain ⟨G, n, d, c, ht, h, _, k⟩ := h
  have sl := sl_start (N := ["_law_one", "_law_other"]) h (Nat.le_of_ble_eq_true rfl)
  refine ⟨_, (pss_cons (ps_par (i := 0) (j := 1) (by rfl) sc__law_common.nd rfl rfl (by decide) rfl rfl (pa_cons (pe_callB call_abs (by rfl) Y.z_abs (by decide +kernel) (pa_cons (pv 0) pa_nil)) (pa_cons (pe_callB call_abs (by rfl) Y.z_abs (by decide +kernel) (pa_cons (pv 1) pa_nil)) pa_nil)) (by rfl))
      (pss_cons (ps_while PassesOwn.never (pt_cmpR op_gt (pv 1) pe_int (nomark _)) (pss_one (ps_par (i := 0) (j := 1) (by rfl) sc__law_common.nd rfl rfl (by decide) rfl rfl (pa_cons (pv 1) (pa_cons (pe_op op_mod (pv 0) (pv 1)) pa_nil)) (by rfl))))
      (pss_one (ps_ret (pv 0))))), ?_⟩
  refine q_parS (T := Y.T) (d1 := .int (n.natAbs : Int)) (d2 := .int (d.natAbs : Int)) sl (ra_cons (rv_abs (rv_sl sl rfl)) (ra_cons (rv_abs (rv_sl sl rfl)) ra_nil)) ht c fun σ1 G1 H1 s1 sl1 => ?_
  refine q_while (T := Y.T) (G := G1) (fun m σ' G' H' => ∃ x : Nat, Step Y.T G H G' H' ∧ Sl K G' σ' [.d (.int (x : Int)), .d (.int (m : Int))] ∧ Nat.gcd x m = Nat.gcd n.natAbs d.natAbs) (m0 := d.natAbs) ⟨n.natAbs, s1, sl1, rfl⟩
    (fun m σ' G' H' ⟨_, st, _⟩ => ⟨st.s, st.t⟩) (fun m _ _ _ => decide (0 < (m : Int))) (fun m σ' G' H' ⟨x, st, sl2, _⟩ => rt_test (rv_gt (rv_sl sl2 rfl) rv_i)) (fun m σ' G' H' G'' H'' ⟨x, st, sl2, hg⟩ hb s2 => ?_) (fun m σ' G' H' G'' H'' ⟨x, st, sl2, hg⟩ hb s2 => ?_)
  · have hb : 0 < (m : Int) := of_decide_eq_true hb
    have sl3 := sl2.mono s2.g
    have lt : x % m < m := Nat.mod_lt _ (by omega)
    refine s_parS (T := Y.T) (d1 := .int (m : Int)) (d2 := .int ((x % m : Nat) : Int)) sl3 (ra_cons (rv_sl sl3 rfl) (ra_cons ((rv_mod (n := (x : Int)) (m := (m : Int)) (rv_sl sl3 rfl) (rv_sl sl3 rfl) hb).to (congrArg PyData.int (Int.natCast_emod x m).symm)) ra_nil)) s2.t s2.s fun σ4 G4 H4 s4 sl4 => ?_
    refine ⟨x % m, lt, G4, m, (st.trans s2).trans s4, sl4, ?_⟩
    rw [← hg, Nat.gcd_comm x m]
    exact (Nat.gcd_rec m x).symm ▸ (Nat.gcd_comm m (x % m))
  · have hb : ¬ 0 < (m : Int) := of_decide_eq_false hb
    have hm : m = 0 := by omega
    subst hm
    rw [Nat.gcd_zero_right] at hg
    subst hg
    exact s_ret (T := Y.T) (rv_sl (sl2.mono s2.g) rfl) (st.trans s2).t (st.trans s2).s (k.of (st.trans s2))
/-! ### _law_low, plus, less, times, by, is_below -/
theorem fdiv_pos {a b : Int} (h : 0 < b) : a.fdiv b = a / b := Int.fdiv_eq_ediv_of_nonneg a (by omega)
abbrev s__law_low : Stmt := topS 53
theorem sc__law_low : FnScope ["_law_top", "_law_bottom", "_law_common_here"] ["_law_top", "_law_bottom"] (defScope s__law_low) := ⟨rfl, rfl, rfl, by decide +kernel, rfl, by decide +kernel, by decide +kernel⟩
theorem ok__law_low (Y : Tx K mg base) : FnOk P w K mg base CX0 2 Y.f__law_low.a Y.f__law_low.fd ["_law_top", "_law_bottom"] (Sp2 Y.T K PyData.int PyData.int (fun _ d => d ≠ 0 ∧ d.natAbs < 2 ^ 9000) fun n d => IsD K (dq (Rat.divInt n d))) := by
  refine Y.f__law_low.F.ok sc__law_low (fun vs H Q E h => sp2_len h) (fun cdv A outer s H vs Q E hr h => ?_)
  obtain ⟨G, n, d, c, ht, h, ⟨h0, hz⟩, k⟩ := h
  have h0 : d ≠ 0 := h0
  have sl := sl_start (N := ["_law_top", "_law_bottom", "_law_common_here"]) h (Nat.le_of_ble_eq_true rfl)
  have gp : 0 < Nat.gcd n.natAbs d.natAbs := Nat.gcd_pos_of_pos_right _ (by omega)
  have gl : Nat.gcd n.natAbs d.natAbs ≤ d.natAbs := Nat.gcd_le_right _ (by omega)
  have gz : Nat.gcd n.natAbs d.natAbs < 2 ^ 9000 := Nat.lt_of_le_of_lt gl hz
  refine ⟨_, (pss_cons (ps_set (i := 2) sc__law_low.nd rfl (Or.inl rfl) (pe_ifExp (pt_cmpR op_gt (pv 1) pe_int (nomark _)) (pe_call (ok__law_common Y) (hr.mono (by decide)) (by rfl) Y.f__law_common.g Y.f__law_common.F.kp Y.f__law_common.b .nil pass0 (pa_cons (pv 0) (pa_cons (pv 1) pa_nil))) (pe_op op_sub pe_int (pe_call (ok__law_common Y) (hr.mono (by decide)) (by rfl) Y.f__law_common.g Y.f__law_common.F.kp Y.f__law_common.b .nil pass0 (pa_cons (pv 0) (pa_cons (pv 1) pa_nil))))))
      (pss_one (ps_ret (pe_tup (pa_cons (pe_op op_fdivN (pv 0) (pv 2)) (pa_cons (pe_op op_fdivN (pv 1) (pv 2)) pa_nil)))))), ?_⟩
  by_cases hp : 0 < d
  · refine q_setS (T := Y.T) (d := .int ((Nat.gcd n.natAbs d.natAbs : Nat) : Int)) sl (rv_if (b := decide (0 < d)) (rt_test (rv_gt (rv_sl sl rfl) rv_i)) (fun _ => rv_call2 (a := n) (b := d) (ra_cons (rv_sl sl rfl) (ra_cons (rv_sl sl rfl) ra_nil)) trivial) fun hb => absurd hp (of_decide_eq_false hb)) ht c fun σ1 G1 H1 s1 sl1 => ?_
    have hc : ∀ z : Int, CDivN z ((Nat.gcd n.natAbs d.natAbs : Nat) : Int) := fun z => ⟨by omega, by rw [Int.natAbs_natCast]; exact gz⟩
    refine s_ret (T := Y.T) (R := IsD K (dq (Rat.divInt n d))) ((rv_tup (ra_cons (rv_fdivN (rv_sl sl1 rfl) (rv_sl sl1 rfl) (hc n)) (ra_cons (rv_fdivN (rv_sl sl1 rfl) (rv_sl sl1 rfl) (hc d)) ra_nil)) (Nat.le_of_ble_eq_true rfl)).to ?_) s1.t s1.s (k.of s1)
    rw [fdiv_pos (by omega), fdiv_pos (by omega), low_num hp, low_den hp]
    rfl
  · refine q_setS (T := Y.T) (d := .int (0 - ((Nat.gcd n.natAbs d.natAbs : Nat) : Int))) sl (rv_if (b := decide (0 < d)) (rt_test (rv_gt (rv_sl sl rfl) rv_i)) (fun hb => absurd (of_decide_eq_true hb) hp) fun _ => rv_sub rv_i (rv_call2 (a := n) (b := d) (ra_cons (rv_sl sl rfl) (ra_cons (rv_sl sl rfl) ra_nil)) trivial)) ht c fun σ1 G1 H1 s1 sl1 => ?_
    have hc : ∀ z : Int, CDivN z (0 - ((Nat.gcd n.natAbs d.natAbs : Nat) : Int)) := fun z => ⟨by omega, by
      have e : (0 - ((Nat.gcd n.natAbs d.natAbs : Nat) : Int)).natAbs = Nat.gcd n.natAbs d.natAbs := by omega
      rw [e]
      exact gz⟩
    obtain ⟨e1, e2⟩ := low_numN (n := n) (d := d) (by omega)
    refine s_ret (T := Y.T) (R := IsD K (dq (Rat.divInt n d))) ((rv_tup (ra_cons (rv_fdivN (rv_sl sl1 rfl) (rv_sl sl1 rfl) (hc n)) (ra_cons (rv_fdivN (rv_sl sl1 rfl) (rv_sl sl1 rfl) (hc d)) ra_nil)) (Nat.le_of_ble_eq_true rfl)).to ?_) s1.t s1.s (k.of s1)
    rw [e1, e2]
    rfl
abbrev s__law_plus : Stmt := topS 54
theorem sc__law_plus : FnScope ["_law_one", "_law_other"] ["_law_one", "_law_other"] (defScope s__law_plus) := ⟨rfl, rfl, rfl, by decide +kernel, rfl, by decide +kernel, by decide +kernel⟩
theorem ok__law_plus (Y : Tx K mg base) : FnOk P w K mg base CX0 3 Y.f__law_plus.a Y.f__law_plus.fd ["_law_one", "_law_other"] (SpQ2 Y.T K (fun p q => p + q) SzP) := by
  refine Y.f__law_plus.F.ok sc__law_plus (fun vs H Q E h => sp2_len h) (fun cdv A outer s H vs Q E hr h => ?_)
  obtain ⟨G, p, q, c, ht, h, hz, k⟩ := h
  obtain ⟨x, y, rfl, hx, hy⟩ := dp2 h
  obtain ⟨z1, z2, z3, z4, z5, z6, z7⟩ := szp_mul hz
  have dm := q_den_mul p q
  refine ⟨_, (pss_one (ps_ret (pe_call (ok__law_low Y) (hr.mono (by decide)) (by rfl) Y.f__law_low.g Y.f__law_low.F.kp Y.f__law_low.b .nil pass0 (pa_cons (pe_op op_add (pe_op op_mulW (pe_ix ix_tup (pv 0) pe_int (fun _ _ => rfl)) (pe_ix ix_tup (pv 1) pe_int (fun _ _ => rfl))) (pe_op op_mulW (pe_ix ix_tup (pv 1) pe_int (fun _ _ => rfl)) (pe_ix ix_tup (pv 0) pe_int (fun _ _ => rfl)))) (pa_cons (pe_op op_mulW (pe_ix ix_tup (pv 0) pe_int (fun _ _ => rfl)) (pe_ix ix_tup (pv 1) pe_int (fun _ _ => rfl))) pa_nil))))), ?_⟩
  refine s_ret (T := Y.T) (rv_call2 (ra_cons (rv_add (rv_mul (rv_num (rv_var rfl hx)) (rv_den (rv_var rfl hy)) z1) (rv_mul (rv_num (rv_var rfl hy)) (rv_den (rv_var rfl hx)) z2)) (ra_cons (rv_mul (rv_den (rv_var rfl hx)) (rv_den (rv_var rfl hy)) z3) ra_nil)) ⟨by omega, z6⟩) ht c fun v G2 H2 s2 r => k v G2 H2 s2 ?_
  show Dp K G2 v (dq (p + q))
  rw [q_add]
  exact r
abbrev s__law_less : Stmt := topS 55
theorem sc__law_less : FnScope ["_law_one", "_law_other"] ["_law_one", "_law_other"] (defScope s__law_less) := ⟨rfl, rfl, rfl, by decide +kernel, rfl, by decide +kernel, by decide +kernel⟩
theorem ok__law_less (Y : Tx K mg base) : FnOk P w K mg base CX0 3 Y.f__law_less.a Y.f__law_less.fd ["_law_one", "_law_other"] (SpQ2 Y.T K (fun p q => p - q) SzP) := by
  refine Y.f__law_less.F.ok sc__law_less (fun vs H Q E h => sp2_len h) (fun cdv A outer s H vs Q E hr h => ?_)
  obtain ⟨G, p, q, c, ht, h, hz, k⟩ := h
  obtain ⟨x, y, rfl, hx, hy⟩ := dp2 h
  obtain ⟨z1, z2, z3, z4, z5, z6, z7⟩ := szp_mul hz
  have dm := q_den_mul p q
  refine ⟨_, (pss_one (ps_ret (pe_call (ok__law_low Y) (hr.mono (by decide)) (by rfl) Y.f__law_low.g Y.f__law_low.F.kp Y.f__law_low.b .nil pass0 (pa_cons (pe_op op_sub (pe_op op_mulW (pe_ix ix_tup (pv 0) pe_int (fun _ _ => rfl)) (pe_ix ix_tup (pv 1) pe_int (fun _ _ => rfl))) (pe_op op_mulW (pe_ix ix_tup (pv 1) pe_int (fun _ _ => rfl)) (pe_ix ix_tup (pv 0) pe_int (fun _ _ => rfl)))) (pa_cons (pe_op op_mulW (pe_ix ix_tup (pv 0) pe_int (fun _ _ => rfl)) (pe_ix ix_tup (pv 1) pe_int (fun _ _ => rfl))) pa_nil))))), ?_⟩
  refine s_ret (T := Y.T) (rv_call2 (ra_cons (rv_sub (rv_mul (rv_num (rv_var rfl hx)) (rv_den (rv_var rfl hy)) z1) (rv_mul (rv_num (rv_var rfl hy)) (rv_den (rv_var rfl hx)) z2)) (ra_cons (rv_mul (rv_den (rv_var rfl hx)) (rv_den (rv_var rfl hy)) z3) ra_nil)) ⟨by omega, z6⟩) ht c fun v G2 H2 s2 r => k v G2 H2 s2 ?_
  show Dp K G2 v (dq (p - q))
  rw [q_sub]
  exact r
abbrev s__law_times : Stmt := topS 56
theorem sc__law_times : FnScope ["_law_one", "_law_other"] ["_law_one", "_law_other"] (defScope s__law_times) := ⟨rfl, rfl, rfl, by decide +kernel, rfl, by decide +kernel, by decide +kernel⟩
theorem ok__law_times (Y : Tx K mg base) : FnOk P w K mg base CX0 3 Y.f__law_times.a Y.f__law_times.fd ["_law_one", "_law_other"] (SpQ2 Y.T K (fun p q => p * q) SzP) := by
  refine Y.f__law_times.F.ok sc__law_times (fun vs H Q E h => sp2_len h) (fun cdv A outer s H vs Q E hr h => ?_)
  obtain ⟨G, p, q, c, ht, h, hz, k⟩ := h
  obtain ⟨x, y, rfl, hx, hy⟩ := dp2 h
  obtain ⟨z1, z2, z3, z4, z5, z6, z7⟩ := szp_mul hz
  have dm := q_den_mul p q
  refine ⟨_, (pss_one (ps_ret (pe_call (ok__law_low Y) (hr.mono (by decide)) (by rfl) Y.f__law_low.g Y.f__law_low.F.kp Y.f__law_low.b .nil pass0 (pa_cons (pe_op op_mulW (pe_ix ix_tup (pv 0) pe_int (fun _ _ => rfl)) (pe_ix ix_tup (pv 1) pe_int (fun _ _ => rfl))) (pa_cons (pe_op op_mulW (pe_ix ix_tup (pv 0) pe_int (fun _ _ => rfl)) (pe_ix ix_tup (pv 1) pe_int (fun _ _ => rfl))) pa_nil))))), ?_⟩
  refine s_ret (T := Y.T) (rv_call2 (ra_cons (rv_mul (rv_num (rv_var rfl hx)) (rv_num (rv_var rfl hy)) z4) (ra_cons (rv_mul (rv_den (rv_var rfl hx)) (rv_den (rv_var rfl hy)) z3) ra_nil)) ⟨by omega, z6⟩) ht c fun v G2 H2 s2 r => k v G2 H2 s2 ?_
  show Dp K G2 v (dq (p * q))
  rw [q_mul]
  exact r
abbrev s__law_by : Stmt := topS 57
theorem sc__law_by : FnScope ["_law_one", "_law_other"] ["_law_one", "_law_other"] (defScope s__law_by) := ⟨rfl, rfl, rfl, by decide +kernel, rfl, by decide +kernel, by decide +kernel⟩
theorem ok__law_by (Y : Tx K mg base) : FnOk P w K mg base CX0 3 Y.f__law_by.a Y.f__law_by.fd ["_law_one", "_law_other"] (SpQ2 Y.T K (fun p q => p / q) fun p q => SzP p q ∧ q ≠ 0) := by
  refine Y.f__law_by.F.ok sc__law_by (fun vs H Q E h => sp2_len h) (fun cdv A outer s H vs Q E hr h => ?_)
  obtain ⟨G, p, q, c, ht, h, hz, k⟩ := h
  obtain ⟨x, y, rfl, hx, hy⟩ := dp2 h
  obtain ⟨hz, hq⟩ := hz
  obtain ⟨z1, z2, z3, z4, z5, z6, z7⟩ := szp_mul hz
  have dm := q_den_mul p q
  refine ⟨_, (pss_one (ps_ret (pe_call (ok__law_low Y) (hr.mono (by decide)) (by rfl) Y.f__law_low.g Y.f__law_low.F.kp Y.f__law_low.b .nil pass0 (pa_cons (pe_op op_mulW (pe_ix ix_tup (pv 0) pe_int (fun _ _ => rfl)) (pe_ix ix_tup (pv 1) pe_int (fun _ _ => rfl))) (pa_cons (pe_op op_mulW (pe_ix ix_tup (pv 0) pe_int (fun _ _ => rfl)) (pe_ix ix_tup (pv 1) pe_int (fun _ _ => rfl))) pa_nil))))), ?_⟩
  refine s_ret (T := Y.T) (rv_call2 (ra_cons (rv_mul (rv_num (rv_var rfl hx)) (rv_den (rv_var rfl hy)) z1) (ra_cons (rv_mul (rv_den (rv_var rfl hx)) (rv_num (rv_var rfl hy)) z5) ra_nil)) ⟨Int.mul_ne_zero (by have := q_den_pos p; omega) (fun z => hq (q_num_zero.mp z)), z7⟩) ht c fun v G2 H2 s2 r => k v G2 H2 s2 ?_
  show Dp K G2 v (dq (p / q))
  rw [q_div]
  exact r
abbrev s__law_is_below : Stmt := topS 58
theorem sc__law_is_below : FnScope ["_law_one", "_law_other"] ["_law_one", "_law_other"] (defScope s__law_is_below) := ⟨rfl, rfl, rfl, by decide +kernel, rfl, by decide +kernel, by decide +kernel⟩
theorem ok__law_is_below (Y : Tx K mg base) : FnOk P w K mg base CX0 1 Y.f__law_is_below.a Y.f__law_is_below.fd ["_law_one", "_law_other"] (Sp2 Y.T K dq dq SzP fun p q => IsD K (.bool (decide (p < q)))) := by
  refine Y.f__law_is_below.F.ok sc__law_is_below (fun vs H Q E h => sp2_len h) (fun cdv A outer s H vs Q E hr h => ?_)
  obtain ⟨G, p, q, c, ht, h, hz, k⟩ := h
  obtain ⟨x, y, rfl, hx, hy⟩ := dp2 h
  obtain ⟨z1, z2, z3, z4, z5, z6, z7⟩ := szp_mul hz
  refine ⟨_, (pss_one (ps_ret (pe_cmpR op_lt (pe_op op_mulW (pe_ix ix_tup (pv 0) pe_int (fun _ _ => rfl)) (pe_ix ix_tup (pv 1) pe_int (fun _ _ => rfl))) (pe_op op_mulW (pe_ix ix_tup (pv 1) pe_int (fun _ _ => rfl)) (pe_ix ix_tup (pv 0) pe_int (fun _ _ => rfl))) (nomark _)))), ?_⟩
  refine s_ret (T := Y.T) ((rv_lt (rv_mul (rv_num (rv_var rfl hx)) (rv_den (rv_var rfl hy)) z1) (rv_mul (rv_num (rv_var rfl hy)) (rv_den (rv_var rfl hx)) z2)).to ?_) ht c k
  congr 1
  exact decide_eq_decide.mpr (q_lt p q).symm
end
end Qw
namespace Qw
open PySem PySem.Spec PyProof.Rows L2 LamX Qk
/-! ### data that are compared -/
theorem lay_dqs : ∀ qs : List Rat, PyData.canLayAll0 (qs.map dq) = true ∧ PyData.depthAll (qs.map dq) ≤ 1
  | [] => ⟨rfl, Nat.zero_le _⟩
  | q :: qs => by
    obtain ⟨h1, h2⟩ := lay_dqs qs
    have e1 : PyData.canLayAll0 ((q :: qs).map dq) = (PyData.canLay0 (dq q) && PyData.canLayAll0 (qs.map dq)) := rfl
    have e2 : PyData.depthAll ((q :: qs).map dq) = max (PyData.depth (dq q)) (PyData.depthAll (qs.map dq)) := rfl
    have e3 : PyData.depth (dq q) = 1 := rfl
    refine ⟨by rw [e1, h1]; rfl, ?_⟩
    rw [e2, e3]
    omega
theorem shaped_dqs (qs : List Rat) : SeqAt.shaped (.list (qs.map dq)) = true := by
  obtain ⟨h1, h2⟩ := lay_dqs qs
  have e1 : PyData.canLay0 (.list (qs.map dq)) = PyData.canLayAll0 (qs.map dq) := rfl
  have e2 : PyData.depth (.list (qs.map dq)) = PyData.depthAll (qs.map dq) + 1 := by first | rfl | exact Nat.add_comm _ _
  unfold SeqAt.shaped
  rw [e1, h1, e2, Bool.true_and]
  exact decide_eq_true (by omega)
theorem any_eqv (qs : List Rat) (q : Rat) : ((qs.map dq).any fun z => PyData.eqv z (dq q)) = decide (q ∈ qs) := by
  rw [List.any_map, Bool.eq_iff_iff, List.any_eq_true, decide_eq_true_eq]
  constructor
  · rintro ⟨p, hp, h⟩
    have h : PyData.eqv (dq p) (dq q) = true := h
    rw [eqv_dq] at h
    rw [← of_decide_eq_true h]
    exact hp
  · intro h
    refine ⟨q, h, ?_⟩
    show PyData.eqv (dq q) (dq q) = true
    rw [eqv_dq]
    exact decide_eq_true rfl
section
variable {T : List (Addr × Str)} {K : PySem.W.Frag} {σ : L2.St} {G H G0 H0 : Hp} {te : TE} {D : Ends} {tz : TS} {ss : List Slot} {i : Nat} {o : Addr} {ds es : List PyData}
/-- xs.extend(e), e read at this very heap -/
theorem s_extH (sl : Sl K G σ ss) (w : Own T K G0 H0 G H o ds) (ho : ss[i]? = some (.v (.ref o))) (h : ∀ Q : VK, (∀ v G2 H2, Step T G H G2 H2 → IsL K es G2 v → Q v H2) → te σ H Q) (hz : ds.length + es.length ≤ 100000)
    (k : ∀ G' H', Own T K G0 H0 G' H' o (ds ++ es) → Same G G' → Sl K G' σ ss → D.nx σ H') : tDrop (tBM K "list" rExtend (tVar i) (tCons te tNil)) D σ H := by
  obtain ⟨acc, h1, h2⟩ := w.ex
  refine ⟨.ref o, sl.getV ho, .inl ⟨rfl, acc, .inl (.inl h1)⟩, h _ fun v G' H' s hv => ?_⟩
  obtain ⟨b, ys, rfl, hb, hd⟩ := hv
  have w1 := w.step s
  have hl1 : H' o = some (.lst acc) := s.x o _ h1 lst_tbl
  refine ⟨o, b, acc, ys, rfl, rfl, hl1, (s.s b _ hb).1, small_line (by rw [dpAll_len h2, dpAll_len hd]; exact hz), k G' _ ⟨w1.st.mut w.nw w1.gn hl1, w.nw, w1.gn, _, upd_same, dpAll_app (sdpAll s.g h2) hd⟩ s.g (sl.mono s.g)⟩
end
section
variable {P : Program} {w : World} {K : PySem.W.Frag} {mg : Str → Option Value} {base : Heap}
/-! ### _law_least -/
def rmin (p q : Rat) : Rat := if q < p then q else p
theorem rmin_or (p q : Rat) : rmin p q = p ∨ rmin p q = q := by
  unfold rmin
  split
  · exact .inr rfl
  · exact .inl rfl
abbrev s__law_least : Stmt := topS 59
theorem sc__law_least : FnScope ["_law_things", "_law_found", "_law_thing"] ["_law_things"] (defScope s__law_least) := ⟨rfl, rfl, rfl, by decide +kernel, rfl, by decide +kernel, by decide +kernel⟩
theorem ok__law_least (Y : Tx K mg base) : FnOk P w K mg base CX0 2 Y.f__law_least.a Y.f__law_least.fd ["_law_things"] (Sp1 Y.T K (fun qs : List Rat => .list (qs.map dq)) (fun qs => qs ≠ [] ∧ ∀ q ∈ qs, Sz 4500 q) fun qs => IsD K (dq (qs.foldl rmin (qs.headD 0)))) := by
  refine Y.f__law_least.F.ok sc__law_least (fun vs H Q E h => sp1_len h) (fun cdv A outer s H vs Q E hr h => ?_)
  obtain ⟨G, qs, c, ht, h, ⟨hne, hz⟩, k⟩ := h
  have sl := sl_start (N := ["_law_things", "_law_found", "_law_thing"]) h (Nat.le_of_ble_eq_true rfl)
  refine ⟨_, (pss_cons (ps_set (i := 1) sc__law_least.nd rfl (Or.inl rfl) (pe_ix ix_list (pv 0) pe_int (fun _ _ => rfl)))
      (pss_cons (ps_for PassesOwn.never rfl (pi_list (pv 0)) (pg_name (i := 2) sc__law_least.nd rfl (Or.inl rfl)) (pss_one (ps_set (i := 1) sc__law_least.nd rfl (Or.inl rfl) (pe_ifExp (pt_val (pe_call (ok__law_is_below Y) (hr.mono (by decide)) (by rfl) Y.f__law_is_below.g Y.f__law_is_below.F.kp Y.f__law_is_below.b .nil pass0 (pa_cons (pv 2) (pa_cons (pv 1) pa_nil)))) (pv 2) (pv 1)))))
      (pss_one (ps_ret (pv 1))))), ?_⟩
  have h0 : atI (qs.map dq) 0 = some (dq (qs.headD 0)) := by
    cases qs with
    | nil => exact absurd rfl hne
    | cons a r => exact atI_nat (j := 0) rfl
  have z0 : Sz 4500 (qs.headD 0) := by
    cases qs with
    | nil => exact absurd rfl hne
    | cons a r => exact hz a (by simp)
  refine q_setS (T := Y.T) (d := dq (qs.headD 0)) sl (rv_ixL (rv_sl sl rfl) rv_i h0) ht c fun σ0 G0 H0 s0 sl0 => ?_
  refine q_for (T := Y.T) (ri_list (rv_sl sl0 rfl)) s0.t s0.s fun G1 H1 s1 => ⟨fun i σ' G' H' => ∃ sa, Step Y.T G H G' H' ∧ Same G1 G' ∧ Sl K G' σ' [.d (.list (qs.map dq)), .d (dq ((qs.take i).foldl rmin (qs.headD 0))), sa] ∧ Sz 4500 ((qs.take i).foldl rmin (qs.headD 0)),
    ⟨.no, s0.trans s1, Same.refl _, sl0.mono s1.g, z0⟩, fun i σ' G' H' ⟨_, st, e, _⟩ => ⟨e, st.s, st.t⟩, fun i d y' σ' G' H' G'' H'' hd hP s2 hy => ?_, fun σ' G' H' hP => ?_⟩
  · obtain ⟨sa, st, e, sl1, hzv⟩ := hP
    obtain ⟨q, hq, rfl⟩ := map_get hd
    have zq := hz q (List.mem_of_getElem? hq)
    have e1 := fold_snoc (f := rmin) (b := qs.headD 0) hq
    have sl2 := (sl1.mono s2.g).set (i := 2) hy
    refine s_setS (T := Y.T) (d := dq ((qs.take (i + 1)).foldl rmin (qs.headD 0))) sl2 (rv_if (rt_B (rv_call2 (a := q) (b := (qs.take i).foldl rmin (qs.headD 0)) (ra_cons (rv_sl sl2 rfl) (ra_cons (rv_sl sl2 rfl) ra_nil)) (sz_self zq hzv))) (fun hb => ?_) fun hb => ?_) s2.t s2.s fun σ3 G3 H3 s3 sl3 => ⟨G3, _, (st.trans s2).trans s3, Same.trans (Same.trans e s2.g) s3.g, sl3, ?_⟩
    · have hb : q < (qs.take i).foldl rmin (qs.headD 0) := of_decide_eq_true hb
      rw [e1, show rmin ((qs.take i).foldl rmin (qs.headD 0)) q = q from if_pos hb]
      exact rv_sl sl2 rfl
    · have hb : ¬ q < (qs.take i).foldl rmin (qs.headD 0) := of_decide_eq_false hb
      rw [e1, show rmin ((qs.take i).foldl rmin (qs.headD 0)) q = (qs.take i).foldl rmin (qs.headD 0) from if_neg hb]
      exact rv_sl sl2 rfl
    · rw [e1]
      rcases rmin_or ((qs.take i).foldl rmin (qs.headD 0)) q with z | z <;> rw [z]
      · exact hzv
      · exact zq
  · obtain ⟨sa, st, e, sl1, hzv⟩ := hP
    rw [fold_all] at sl1
    exact s_ret (T := Y.T) (rv_sl sl1 rfl) st.t st.s (k.of st)
/-! ### _law_unlike, _law_by_size -/
abbrev s__law_unlike : Stmt := topS 61
theorem sc__law_unlike : FnScope ["_law_things", "_law_found", "_law_thing"] ["_law_things"] (defScope s__law_unlike) := ⟨rfl, rfl, rfl, by decide +kernel, rfl, by decide +kernel, by decide +kernel⟩
theorem ok__law_unlike (Y : Tx K mg base) : FnOk P w K mg base CX0 1 Y.f__law_unlike.a Y.f__law_unlike.fd ["_law_things"] (Sp1 Y.T K (fun qs : List Rat => .list (qs.map dq)) (fun qs => qs.length ≤ 1000) fun qs => IsL K ((nub qs).map dq)) := by
  refine Y.f__law_unlike.F.ok sc__law_unlike (fun vs H Q E h => sp1_len h) (fun cdv A outer s H vs Q E hr h => ?_)
  obtain ⟨G, qs, c, ht, h, hlen, k⟩ := h
  have sl := sl_start (N := ["_law_things", "_law_found", "_law_thing"]) h (Nat.le_of_ble_eq_true rfl)
  refine ⟨_, (pss_cons (ps_set (i := 1) sc__law_unlike.nd rfl (Or.inl rfl) (pe_lst pa_nil))
      (pss_cons (ps_for PassesOwn.never rfl (pi_list (pv 0)) (pg_name (i := 2) sc__law_unlike.nd rfl (Or.inl rfl)) (pss_one (ps_expr (pe_bm PySem.F.plainAttrs_list PySem.F.slot_list_extend PySem.F.type_list_extend mt_extend (pv 1) (pa_cons (pe_ifExp (pt_cmpR (op_notInD (room65 hr)) (pv 2) (pv 1) (by rfl)) (pe_lst (pa_cons (pv 2) pa_nil)) (pe_lst pa_nil)) pa_nil)))))
      (pss_one (ps_ret (pv 1))))), ?_⟩
  refine q_setLS (T := Y.T) sl (Step.refl ht c) fun o σ1 H1 w1 s1 sl1 => ?_
  refine q_for (T := Y.T) (ri_list (rv_sl sl1 rfl)) s1.t s1.s fun G2 H2 s2 => ⟨fun i σ' G' H' => ∃ sa, Own Y.T K G H G' H' o ((nub (qs.take i)).map dq) ∧ Same G2 G' ∧ Sl K G' σ' [.d (.list (qs.map dq)), .v (.ref o), sa],
    ⟨.no, w1.step s2, Same.refl _, sl1.mono s2.g⟩, fun i σ' G' H' ⟨_, ow, e, _⟩ => ⟨e, ow.st.s, ow.st.t⟩, fun i d x σ' G' H' G'' H'' hd hP s3 hx => ?_, fun σ' G' H' hP => ?_⟩
  · obtain ⟨sa, ow, e, sl2⟩ := hP
    obtain ⟨q, hq, rfl⟩ := map_get hd
    have ow3 := ow.step s3
    have sl3 := (sl2.mono s3.g).set (i := 2) hx
    have hn := len_nub (qs.take i)
    rw [List.length_take] at hn
    obtain ⟨acc, ha1, ha2⟩ := ow3.ex
    refine s_extH (T := Y.T) (es := (if q ∈ nub (qs.take i) then ([] : List Rat) else [q]).map dq) sl3 ow3 rfl (fun Q hQ => ?_) ?_ fun G4 H4 ow4 e4 sl4 => ⟨G4, _, ?_, Same.trans (Same.trans e s3.g) e4, sl4⟩
    · obtain ⟨v2, hv1, hv2⟩ := sl3.get (i := 2) (d := dq q) rfl
      have ho := sl3.getV (i := 1) (x := .ref o) rfl
      refine ⟨v2, hv1, .ref o, ho, dq q, (nub (qs.take i)).map dq, dp_up _ _ rfl (ow3.st.s.dp hv2), .lst (.inl (.inl ha1)) (dpAll_up _ _ (seqs_shaped (shaped_dqs _)) (ow3.st.s.dpAll ha2)), shaped_dq q, shaped_dqs _, ?_⟩
      rw [any_eqv]
      refine ⟨_, rfl, ?_⟩
      by_cases hm : q ∈ nub (qs.take i)
      · rw [decide_eq_true hm]
        rw [if_pos hm] at hQ
        exact iteF (rv_lst ra_nil (Nat.le_of_ble_eq_true rfl) H'' ow3.st.t ow3.st.s Q hQ)
      · rw [decide_eq_false hm]
        rw [if_neg hm] at hQ
        exact iteT (rv_lst (ra_cons (rv_sl sl3 rfl) ra_nil) (Nat.le_of_ble_eq_true rfl) H'' ow3.st.t ow3.st.s Q hQ)
    · rw [List.length_map, List.length_map]
      split
      · simp only [List.length_nil]
        omega
      · simp only [List.length_cons, List.length_nil]
        omega
    · rw [take_snoc hq, nub_snoc]
      rw [← List.map_append] at ow4
      by_cases hm : q ∈ nub (qs.take i)
      · rw [if_pos hm]
        rw [if_pos hm, List.append_nil] at ow4
        exact ow4
      · rw [if_neg hm]
        rw [if_neg hm] at ow4
        exact ow4
  · obtain ⟨sa, ow, e, sl2⟩ := hP
    rw [List.length_map, List.take_length] at ow
    obtain ⟨G3, st3, e3, il⟩ := ow.take
    exact s_ret (T := Y.T) (R := IsL K ((nub qs).map dq)) (rv_var ((sl2.mono e3).getV (i := 1) (x := .ref o) rfl) il) st3.t st3.s (k.of st3)
end
end Qw
namespace Qw
open PySem PySem.Spec PyProof.Rows L2 LamX Qk
theorem rv_one {T : List (Addr × Str)} {K : PySem.W.Frag} {σ : L2.St} {G : Hp} : Rv T (tTup (tCons (tC (.int 1)) (tCons (tC (.int 1)) tNil))) σ G (IsD K (dq 1)) := rv_tup (ra_cons rv_i (ra_cons rv_i ra_nil)) (Nat.le_of_ble_eq_true rfl)
/-- how many corners are not behind m -/
theorem filt_far {m : Rat} : ∀ {r : List Cn}, (∀ a ∈ r, m < a.1) → (r.filter fun a => !decide (m < a.1)) = []
  | [], _ => rfl
  | a :: r, h => by
    have h1 := h a (by simp)
    rw [List.filter_cons_of_neg (by simpa using h1)]
    exact filt_far fun b hb => h b (List.mem_cons_of_mem _ hb)
theorem filt_pl {m : Rat} : ∀ {cs : List Cn}, cs ≠ [] → Up cs → (∀ a, cs.head? = some a → ¬ m < a.1) → (cs.filter fun a => !decide (m < a.1)).length = pl cs m + 1
  | [], h, _, _ => absurd rfl h
  | [a], _, _, h0 => by
    have h1 := h0 a rfl
    rw [List.filter_cons_of_pos (by simpa using h1)]
    rfl
  | a :: b :: r, _, hu, h0 => by
    have h1 := h0 a rfl
    rw [List.filter_cons_of_pos (by simpa using h1)]
    by_cases q : m < b.1
    · rw [filt_far fun c hc => ?_]
      · simp only [pl, if_pos q]
        rfl
      · rcases List.mem_cons.mp hc with e | hc
        · rw [e]
          exact q
        · exact rlt q (Up.lt hu.2 c hc)
    · have i := filt_pl (m := m) (cs := b :: r) (by simp) hu.2 fun c hc => by
        have e : b = c := Option.some.inj hc
        rw [← e]
        exact q
      rw [List.length_cons, i]
      simp only [pl, if_neg q]
section
variable {P : Program} {w : World} {K : PySem.W.Frag} {mg : Str → Option Value} {base : Heap}
abbrev s__law_by_size : Stmt := topS 62
theorem sc__law_by_size : FnScope ["_law_things", "_law_unlike_here", "_law_common_here", "_law_thing"] ["_law_things"] (defScope s__law_by_size) := ⟨rfl, rfl, rfl, by decide +kernel, rfl, by decide +kernel, by decide +kernel⟩
theorem ok__law_by_size (Y : Tx K mg base) : FnOk P w K mg base CX0 2 Y.f__law_by_size.a Y.f__law_by_size.fd ["_law_things"] (Sp1 Y.T K (fun qs : List Rat => .list (qs.map dq)) FewQ fun qs => IsL K ((srt qs).map dq)) := by
  refine Y.o2.ok sc__law_by_size (fun vs H Q E h => sp1_len h) (fun A outer s H vs Q E hr h => ?_)
  obtain ⟨G, q0, c, ht, h, hf0, k⟩ := h
  have sl := sl_start (N := ["_law_things", "_law_unlike_here", "_law_common_here", "_law_thing"]) h (Nat.le_of_ble_eq_true rfl)
  have hfew0 := hf0.few
  refine ⟨_, (pss_cons (ps_asg (pe_tup (pa_cons (pe_call (ok__law_unlike Y) (hr.mono (by decide)) (by rfl) Y.f__law_unlike.g Y.f__law_unlike.F.kp Y.f__law_unlike.b .nil pass0 (pa_cons (pv 0) pa_nil)) (pa_cons pe_int pa_nil))) (pg_tup rfl (pgs_cons (pg_name (i := 1) sc__law_by_size.nd rfl (Or.inl rfl)) (pgs_cons (pg_name (i := 2) sc__law_by_size.nd rfl (Or.inr rfl)) pgs_nil))))
      (pss_cons (ps_for PassesOwn.never rfl (pi_list (pv 1)) (pg_name (i := 3) sc__law_by_size.nd rfl (Or.inl rfl)) (pss_one (ps_set (i := 2) sc__law_by_size.nd rfl (Or.inr rfl) (pe_op op_fdivW (pe_op op_mulW (pv 2) (pe_ix ix_tup (pv 3) pe_int (fun _ _ => rfl))) (pe_call (ok__law_common Y) (hr.mono (by decide)) (by rfl) Y.f__law_common.g Y.f__law_common.F.kp Y.f__law_common.b .nil pass0 (pa_cons (pv 2) (pa_cons (pe_ix ix_tup (pv 3) pe_int (fun _ _ => rfl)) pa_nil)))))))
      (pss_one (ps_ret (pe_sortL (k := 0) (j := 2) (th := "_law_thing") (cm := "_law_common_here") (hr.mono (by decide)) (by rfl) Y.z_sorted (pv 1) Y.b2 rfl Y.t2 Y.u2 (show LamK (defScope s__law_by_size) _ _ _ from lamK_by (by decide +kernel)) rfl (fun _ _ _ _ _ _ => rfl) rfl))))), ?_⟩
  obtain ⟨qs, hqs⟩ : ∃ qs, qs = nub q0 := ⟨_, rfl⟩
  have hn : qs.Nodup := hqs ▸ nodup_nub q0
  have hlen : qs.length ≤ 400 := by
    rw [hqs]
    exact Nat.le_trans (len_nub q0) hfew0
  have hsz : ∀ q ∈ qs, Sz 1500 q := fun q hq => hf0.sz q (mem_nub.mp (hqs ▸ hq))
  refine q_pairS (T := Y.T) (d1 := .list (qs.map dq)) (d2 := .int 1) sl (rv_tup (ra_cons (by rw [hqs]; exact Rv.ld (rv_call1 (a := q0) (ra_cons (rv_sl sl rfl) ra_nil) (Nat.le_trans hfew0 (by decide)))) (ra_cons rv_i ra_nil)) (Nat.le_of_ble_eq_true rfl)) ht c fun σ1 G1 H1 s1 sl1 => ?_
  refine q_for (T := Y.T) (ri_list (rv_sl sl1 rfl)) s1.t s1.s fun G2 H2 s2 => ⟨fun i σ' G' H' => ∃ (C : Int) (sa : Slot), Step Y.T G H G' H' ∧ Same G2 G' ∧ Sl K G' σ' [.d (.list (q0.map dq)), .d (.list (qs.map dq)), .d (.int C), sa] ∧ 0 < C ∧ C.natAbs < 2 ^ (1500 * i + 1) ∧ ∀ q ∈ qs.take i, (q.den : Int) ∣ C,
    ⟨1, .no, s1.trans s2, Same.refl _, sl1.mono s2.g, by decide, by decide, by simp⟩, fun i σ' G' H' ⟨_, _, st, e, _⟩ => ⟨e, st.s, st.t⟩, fun i d x σ' G' H' G'' H'' hd hP s3 hx => ?_, fun σ' G' H' hP => ?_⟩
  · obtain ⟨C, sa, st, e, sl2, h0, hz, hdv⟩ := hP
    have hlt : i < qs.length := by
      have := (List.getElem?_eq_some_iff.mp hd).1
      simpa using this
    obtain ⟨q, hq, rfl⟩ := map_get hd
    have zq := hsz q (List.mem_of_getElem? hq)
    have hdp := q_den_pos q
    have sl3 := (sl2.mono s3.g).set (i := 3) hx
    obtain ⟨l1, l2, l3, l4⟩ := lcmS_ok h0 hdp
    have hb : (C * (q.den : Int)).natAbs < 2 ^ (1500 * (i + 1) + 1) := by
      have := mul_lt2 hz zq.den
      rw [show 1500 * (i + 1) + 1 = 1500 * i + 1 + 1500 by omega]
      exact this
    refine s_setS (T := Y.T) (d := .int (lcmS C (q.den : Int))) sl3 (rv_div (rv_mul (rv_sl sl3 rfl) (rv_den (rv_sl sl3 rfl)) ?_) (rv_call2 (a := C) (b := (q.den : Int)) (ra_cons (rv_sl sl3 rfl) (ra_cons (rv_den (rv_sl sl3 rfl)) ra_nil)) trivial) ?_) s3.t s3.s fun σ4 G4 H4 s4 sl4 => ⟨G4, lcmS C (q.den : Int), _, (st.trans s3).trans s4, Same.trans (Same.trans e s3.g) s4.g, sl4, l1, ?_, fun p hp => ?_⟩
    · exact wide_mul (a := 1500 * i + 1) (b := 1500) hz zq.den (by omega) (by decide) (by omega)
    · have gp : 0 < Nat.gcd C.natAbs (q.den : Int).natAbs := Nat.gcd_pos_of_pos_right _ (by omega)
      refine wide_div (b := 1500) (by omega) ?_ (by decide) (by decide)
      rw [Int.natAbs_natCast]
      exact Nat.lt_of_le_of_lt (Nat.gcd_le_right _ (by omega)) zq.den
    · refine Nat.lt_of_le_of_lt ?_ hb
      omega
    · rw [take_snoc hq] at hp
      rcases List.mem_append.mp hp with z | z
      · exact Int.dvd_trans (hdv p z) l2
      · have z : p = q := by simpa using z
        rw [z]
        exact l3
  · obtain ⟨C, sa, st, e, sl2, h0, hz, hdv⟩ := hP
    rw [List.length_map] at hz hdv
    rw [List.take_length] at hdv
    have hc : ∀ q ∈ qs, CDivW C (q.den : Int) ∧ CMulW q.num (C / (q.den : Int)) := fun q hq => by
      have zq := hsz q hq
      have hdp := q_den_pos q
      refine ⟨wide_div (b := 1500) hdp zq.den (by decide) (by decide), wide_mul (a := 1500) (b := 1500 * qs.length + 1) zq.one ?_ (by decide) (by omega) (by omega)⟩
      exact Nat.lt_of_le_of_lt (Int.natAbs_ediv_le_natAbs _ _) hz
    refine s_ret (T := Y.T) (rv_sortL (C := C) (j := 2) sl2 rfl (rv_sl sl2 rfl) hc (by omega)) st.t st.s fun v G3 H3 s3 ⟨ps, h1, h2, h3⟩ => k v G3 H3 (st.trans s3) ?_
    have := srt_of h0 hdv hn h1 h2
    rw [this, hqs, srt_nub] at h3
    exact h3
/-! ### _law_is_told, _law_middle -/
theorem dq_half : dq (1 / 2) = .tuple [.int 1, .int 2] := by
  have h1 : (1 / 2 : Rat).num = 1 := by decide +kernel
  have h2 : (1 / 2 : Rat).den = 2 := by decide +kernel
  unfold dq
  rw [h1, h2]
  rfl
abbrev s__law_is_told : Stmt := topS 63
theorem sc__law_is_told : FnScope ["_law_thing", "_law_one"] ["_law_thing"] (defScope s__law_is_told) := ⟨rfl, rfl, rfl, by decide +kernel, rfl, by decide +kernel, by decide +kernel⟩
theorem ok__law_is_told (Y : Tx K mg base) : FnOk P w K mg base CX0 2 Y.f__law_is_told.a Y.f__law_is_told.fd ["_law_thing"] (Sp1 Y.T K dq (fun _ => True) fun _ => IsD K (.bool true)) := by
  refine Y.f__law_is_told.F.ok sc__law_is_told (fun vs H Q E h => sp1_len h) (fun cdv A outer s H vs Q E hr h => ?_)
  obtain ⟨G, q, c, ht, h, _, k⟩ := h
  have sl := sl_start (N := ["_law_thing", "_law_one"]) h (Nat.le_of_ble_eq_true rfl)
  refine ⟨_, (pss_cons (ps_if (PW.pt (pw_or (pt_not (pt_val (pe_callB call_isD (by rfl) Y.z_isinstance (by decide +kernel) (pa_cons (pv 0) (pa_cons (pe_bltn (v := .ty "tuple") (u := .type "tuple") (by rfl) Y.z_tuple (by decide +kernel) rfl) pa_nil))))) (pw_or1 (pt_cmpR op_ne (pe_callB call_len_seq (by rfl) Y.z_len PySem.boot_len (pa_cons (pv 0) pa_nil)) pe_int (nomark _))))) (pss_one (ps_ret pe_bl)) pss_nil)
      (pss_cons (ps_if (pt_not (pt_val (pe_callB (cr_all rfl) (by rfl) Y.z_all (by decide +kernel) (pa_cons (pe_lc (own := [("_law_one", 1)]) (g := (gName 1)) rfl sc__law_is_told.nd (pi_tup (pv 0)) (blkOk_by (N := ["_law_thing", "_law_one"]) (sc := defScope s__law_is_told) (own := [("_law_one", 1)]) (by decide +kernel)) (fun _ _ _ _ _ => (pg_name (i := 1) sc__law_is_told.nd rfl (Or.inl rfl))) (fun _ _ _ _ _ => pts_nil) (fun _ _ _ _ _ => (pe_and (pe_callB (id := "isinstance") (call_isDK K rfl) (by rfl) Y.z_isinstance (by decide +kernel) (pa_cons (pv 1) (pa_cons (pe_bltn (v := .ty "int") (u := .type "int") (by rfl) Y.z_int (by decide +kernel) rfl) pa_nil))) (pe_one (pe_not (pe_callB (id := "isinstance") (call_isDK K rfl) (by rfl) Y.z_isinstance (by decide +kernel) (pa_cons (pv 1) (pa_cons (pe_bltn (v := .ty "bool") (u := .type "bool") (by rfl) Y.z_bool (by decide +kernel) rfl) pa_nil)))))))) pa_nil)))) (pss_one (ps_ret pe_bl)) pss_nil)
      (pss_one (ps_ret (pe_and (pe_cmpR op_gt (pe_ix ix_tup (pv 0) pe_int (fun _ _ => rfl)) pe_int (nomark _)) (pe_one (pe_cmpR op_eq (pe_call (ok__law_common Y) (hr.mono (by decide)) (by rfl) Y.f__law_common.g Y.f__law_common.F.kp Y.f__law_common.b .nil pass0 (pa_cons (pe_ix ix_tup (pv 0) pe_int (fun _ _ => rfl)) (pa_cons (pe_ix ix_tup (pv 0) pe_int (fun _ _ => rfl)) pa_nil))) pe_int (nomark _)))))))), ?_⟩
  refine q_if (T := Y.T) (b := false) (rt_or (a := false) (b := false) (rt_not (a := true) (rt_B (rv_isi (d := dq q) (rv_sl sl rfl) (kit_tuple _)))) fun _ => rt_test (rv_neI (n := 2) (m := 2) (rv_lenT (ds := [.int q.num, .int (q.den : Int)]) (rv_sl sl rfl)) rv_i)) ht c (fun hb => nomatch hb) (fun hb G1 H1 s1 => ?_)
  refine t_next ?_
  dsimp only
  have sl1 := sl.mono s1.g
  refine q_if (T := Y.T) (b := false) (rt_not (a := true) (rt_B (rv_all (bs := [true, true]) (Rv.ld ?_)))) s1.t s1.s (fun hb => nomatch hb) (fun hb G2 H2 s2 => ?_)
  · exact rv_lcNS (A := PyData.int) (B := fun _ : Int => PyData.bool true) (xs := [q.num, (q.den : Int)]) sl1 (ri_tup (rv_sl sl1 rfl)) (Nat.le_of_ble_eq_true rfl) (by decide) fun n hn σ' G3 e3 sl3 => rv_and (a := true) (b := true) (rv_isi (d := .int n) (rv_sl sl3 rfl) (kit_int _)) fun _ => rv_not (a := false) (rv_isi (d := .int n) (rv_sl sl3 rfl) (kit_bool _))
  refine t_next ?_
  dsimp only
  have sl2 := sl1.mono s2.g
  have h1 : decide ((0 : Int) < (q.den : Int)) = true := decide_eq_true (q_den_pos q)
  have h2 : decide (((Nat.gcd q.num.natAbs (q.den : Int).natAbs : Nat) : Int) = 1) = true := by
    have := q.reduced
    unfold Nat.Coprime at this
    rw [Int.natAbs_natCast, this]
    rfl
  refine s_ret (T := Y.T) (R := IsD K (.bool true)) ((rv_and (rv_gt (rv_den (q := q) (rv_sl sl2 rfl)) rv_i) fun _ => rv_eqI (rv_call2 (a := q.num) (b := (q.den : Int)) (ra_cons (rv_num (q := q) (rv_sl sl2 rfl)) (ra_cons (rv_den (q := q) (rv_sl sl2 rfl)) ra_nil)) trivial) rv_i).to ?_) s2.t s2.s (k.of (s1.trans s2))
  rw [h1, h2]
  rfl
abbrev s__law_middle : Stmt := topS 64
theorem sc__law_middle : FnScope ["_law_one", "_law_other"] ["_law_one", "_law_other"] (defScope s__law_middle) := ⟨rfl, rfl, rfl, by decide +kernel, rfl, by decide +kernel, by decide +kernel⟩
theorem ok__law_middle (Y : Tx K mg base) : FnOk P w K mg base CX0 4 Y.f__law_middle.a Y.f__law_middle.fd ["_law_one", "_law_other"] (SpQ2 Y.T K (fun p q => (p + q) * (1 / 2)) fun p q => Sz 100 p ∧ Sz 100 q) := by
  refine Y.f__law_middle.F.ok sc__law_middle (fun vs H Q E h => sp2_len h) (fun cdv A outer s H vs Q E hr h => ?_)
  obtain ⟨G, p, q, c, ht, h, ⟨hp, hq⟩, k⟩ := h
  obtain ⟨x, y, rfl, hx, hy⟩ := dp2 h
  refine ⟨_, (pss_one (ps_ret (pe_call (ok__law_times Y) (hr.mono (by decide)) (by rfl) Y.f__law_times.g Y.f__law_times.F.kp Y.f__law_times.b .nil pass0 (pa_cons (pe_call (ok__law_plus Y) (hr.mono (by decide)) (by rfl) Y.f__law_plus.g Y.f__law_plus.F.kp Y.f__law_plus.b .nil pass0 (pa_cons (pv 0) (pa_cons (pv 1) pa_nil))) (pa_cons (pe_tup (pa_cons pe_int (pa_cons pe_int pa_nil))) pa_nil))))), ?_⟩
  have zh : Sz 2 (1 / 2 : Rat) := ⟨by decide +kernel, by decide +kernel⟩
  exact s_ret (T := Y.T) (rv_call2 (a := p + q) (b := 1 / 2) (ra_cons (rv_call2 (a := p) (b := q) (ra_cons (rv_var rfl hx) (ra_cons (rv_var rfl hy) ra_nil)) ⟨100, 100, hp, hq, by decide⟩) (ra_cons ((rv_tup (ra_cons rv_i (ra_cons rv_i ra_nil)) (Nat.le_of_ble_eq_true rfl)).to dq_half.symm) ra_nil)) ⟨201, 2, hp.add hq, zh, by decide⟩) ht c k
/-! ### _law_c_at, slopes, slope, worth -/
abbrev s__law_c_at : Stmt := topS 65
theorem sc__law_c_at : FnScope ["_law_curve", "_law_moment", "_law_corner"] ["_law_curve", "_law_moment"] (defScope s__law_c_at) := ⟨rfl, rfl, rfl, by decide +kernel, rfl, by decide +kernel, by decide +kernel⟩
theorem ok__law_c_at (Y : Tx K mg base) : FnOk P w K mg base CX0 2 Y.f__law_c_at.a Y.f__law_c_at.fd ["_law_curve", "_law_moment"] (Sp2 Y.T K dv dq (fun c m => c.1.length ≤ 1000 ∧ ∀ a ∈ c.1, SzP m a.1) fun c m => IsD K (.int (((c.1.filter fun a => !decide (m < a.1)).length : Int) - 1))) := by
  refine Y.f__law_c_at.F.ok sc__law_c_at (fun vs H Q E h => sp2_len h) (fun cdv A outer s H vs Q E hr h => ?_)
  obtain ⟨G, cu, m, c, ht, h, ⟨hl, hz⟩, k⟩ := h
  have sl := sl_start (N := ["_law_curve", "_law_moment", "_law_corner"]) h (Nat.le_of_ble_eq_true rfl)
  refine ⟨_, (pss_one (ps_ret (pe_op op_sub (pe_callB call_len_seq (by rfl) Y.z_len PySem.boot_len (pa_cons (pe_lc (own := [("_law_corner", 2)]) (g := (gName 2)) rfl sc__law_c_at.nd (pi_list (pe_ix ix_tup (pv 0) pe_int (fun _ _ => rfl))) (blkOk_by (N := ["_law_curve", "_law_moment", "_law_corner"]) (sc := defScope s__law_c_at) (own := [("_law_corner", 2)]) (by decide +kernel)) (fun _ _ _ _ _ => (pg_name (i := 2) sc__law_c_at.nd rfl (Or.inl rfl))) (fun _ _ _ _ _ => (pts_one (pt_not (pt_val (pe_call (ok__law_is_below Y) (hr.mono (by decide)) (by rfl) Y.f__law_is_below.g Y.f__law_is_below.F.kp Y.f__law_is_below.b .nil pass0 (pa_cons (pv 1) (pa_cons (pe_ix (ixK_tup K rfl) (pv 2) pe_int (fun _ _ => rfl)) pa_nil))))))) (fun _ _ _ _ _ => (pv 2))) pa_nil)) pe_int))), ?_⟩
  have e : ((cu.1.filter fun a => !decide (m < a.1)).map dc).length = (cu.1.filter fun a => !decide (m < a.1)).length := List.length_map _
  refine s_ret (T := Y.T) (R := IsD K (.int (((cu.1.filter fun a => !decide (m < a.1)).length : Int) - 1))) ?_ ht c k
  rw [← e]
  exact rv_sub (rv_len (Rv.ld (rv_lcFS (A := dc) (B := dc) (p := fun a : Cn => !decide (m < a.1)) sl (ri_list (rv_v0 (a := cu) (rv_sl sl rfl))) (by omega) (by decide) (fun a ha σ' G1 e1 sl1 => rt_not (rt_B (rv_call2 (a := m) (b := a.1) (ra_cons (rv_sl sl1 rfl) (ra_cons (rv_c0 (a := a) (rv_sl sl1 rfl)) ra_nil)) (hz a ha)))) fun a ha hp σ' G1 e1 sl1 => rv_sl sl1 rfl))) rv_i
end
end Qw
namespace Qw
open PySem PySem.Spec PyProof.Rows L2 LamX Qk
theorem sub_ne0 {p q : Rat} (h : p < q) : q - p ≠ 0 := by grind
section
variable {P : Program} {w : World} {K : PySem.W.Frag} {mg : Str → Option Value} {base : Heap}
/-- the slope between two corners, as the law reckons it -/
theorem rv_lsteep {T : List (Addr × Str)} {σ : L2.St} {G : Hp} {ta tb : TE} {a b : Cn} (ha : Rv T ta σ G (IsD K (dc a))) (hb : Rv T tb σ G (IsD K (dc b))) (ho : StOk a b) :
    Rv T (tCall (SpQ2 T K (fun p q => p / q) fun p q => SzP p q ∧ q ≠ 0) [] E0 (tCons (tCall (SpQ2 T K (fun p q => p - q) SzP) [] E0 (tCons (tOp (rIxT K) tb (tC (.int 1))) (tCons (tOp (rIxT K) ta (tC (.int 1))) tNil))) (tCons (tCall (SpQ2 T K (fun p q => p - q) SzP) [] E0 (tCons (tOp (rIxT K) tb (tC (.int 0))) (tCons (tOp (rIxT K) ta (tC (.int 0))) tNil))) tNil))) σ G (IsD K (dq (steep a b))) := by
  obtain ⟨h1, h2, h3, h4⟩ := ho
  exact rv_call2 (a := b.2 - a.2) (b := b.1 - a.1) (ra_cons (rv_call2 (a := b.2) (b := a.2) (ra_cons (rv_c1 hb) (ra_cons (rv_c1 ha) ra_nil)) h1) (ra_cons (rv_call2 (a := b.1) (b := a.1) (ra_cons (rv_c0 hb) (ra_cons (rv_c0 ha) ra_nil)) h2) ra_nil)) ⟨h3, sub_ne0 h4⟩
abbrev s__law_c_slopes : Stmt := topS 66
theorem sc__law_c_slopes : FnScope ["_law_curve", "_law_found", "_law_one", "_law_other"] ["_law_curve"] (defScope s__law_c_slopes) := ⟨rfl, rfl, rfl, by decide +kernel, rfl, by decide +kernel, by decide +kernel⟩
theorem ok__law_c_slopes (Y : Tx K mg base) : FnOk P w K mg base CX0 4 Y.f__law_c_slopes.a Y.f__law_c_slopes.fd ["_law_curve"] (Sp1 Y.T K dv (fun c => SlOk c.1) fun c => IsL K ((slopes c.1 c.2).map dq)) := by
  refine Y.f__law_c_slopes.F.ok sc__law_c_slopes (fun vs H Q E h => sp1_len h) (fun cdv A outer s H vs Q E hr h => ?_)
  obtain ⟨G, cu, c, ht, h, hok, k⟩ := h
  have sl := sl_start (N := ["_law_curve", "_law_found", "_law_one", "_law_other"]) h (Nat.le_of_ble_eq_true rfl)
  have hlen := hok.len
  have hnl := nbs_len cu.1
  refine ⟨_, (pss_cons (ps_set (i := 1) sc__law_c_slopes.nd rfl (Or.inl rfl) (pe_lst pa_nil))
      (pss_cons (ps_for PassesOwn.never rfl (pi_zip (by rfl) Y.z_zip (pa_cons (pe_ix ix_tup (pv 0) pe_int (fun _ _ => rfl)) (pa_cons (pe_slice sl_list (pe_ix ix_tup (pv 0) pe_int (fun _ _ => rfl)) (po_some pe_int) po_none) pa_nil))) (pg_tup rfl (pgs_cons (pg_name (i := 2) sc__law_c_slopes.nd rfl (Or.inl rfl)) (pgs_cons (pg_name (i := 3) sc__law_c_slopes.nd rfl (Or.inl rfl)) pgs_nil))) (pss_one (ps_expr (pe_bm PySem.F.plainAttrs_list PySem.F.slot_list_append PySem.F.type_list_append mt_append (pv 1) (pa_cons (pe_call (ok__law_by Y) (hr.mono (by decide)) (by rfl) Y.f__law_by.g Y.f__law_by.F.kp Y.f__law_by.b .nil pass0 (pa_cons (pe_call (ok__law_less Y) (hr.mono (by decide)) (by rfl) Y.f__law_less.g Y.f__law_less.F.kp Y.f__law_less.b .nil pass0 (pa_cons (pe_ix ix_tup (pv 3) pe_int (fun _ _ => rfl)) (pa_cons (pe_ix ix_tup (pv 2) pe_int (fun _ _ => rfl)) pa_nil))) (pa_cons (pe_call (ok__law_less Y) (hr.mono (by decide)) (by rfl) Y.f__law_less.g Y.f__law_less.F.kp Y.f__law_less.b .nil pass0 (pa_cons (pe_ix ix_tup (pv 3) pe_int (fun _ _ => rfl)) (pa_cons (pe_ix ix_tup (pv 2) pe_int (fun _ _ => rfl)) pa_nil))) pa_nil))) pa_nil)))))
      (pss_one (ps_ret (pe_op op_cat (pv 1) (pe_lst (pa_cons (pe_ix ix_tup (pv 0) pe_int (fun _ _ => rfl)) pa_nil))))))), ?_⟩
  refine q_setLS (T := Y.T) sl (Step.refl ht c) fun o σ1 H1 w1 s1 sl1 => ?_
  have hzip : Ri Y.T K (iZip K (tCons (tOp (rIxT K) (tVar 0) (tC (.int 0))) (tCons (tSl (rSlL K) (tOp (rIxT K) (tVar 0) (tC (.int 0))) (tPart (tC (.int 1))) tNoPart) tNil))) σ1 G ((nbs cu.1).map fun p => .tuple [dc p.1, dc p.2]) := by
    have h1 := ri_zip (T := Y.T) (K := K) (σ := σ1) (G := G) (ra_cons (rv_v0 (a := cu) (rv_sl sl1 (i := 0) rfl)) (ra_cons (rv_from (k := 1) (rv_v0 (a := cu) (rv_sl sl1 (i := 0) rfl))).ld ra_nil))
    rw [← List.map_drop, zip_dc] at h1
    exact h1
  refine q_for (T := Y.T) hzip s1.t s1.s fun G2 H2 s2 => ⟨fun i σ' G' H' => ∃ sa sb, Own Y.T K G H G' H' o (((nbs cu.1).take i).map fun p => dq (steep p.1 p.2)) ∧ Same G2 G' ∧ Sl K G' σ' [.d (dv cu), .v (.ref o), sa, sb],
    ⟨.no, .no, w1.step s2, Same.refl _, sl1.mono s2.g⟩, fun i σ' G' H' ⟨_, _, ow, e, _⟩ => ⟨e, ow.st.s, ow.st.t⟩, fun i d x σ' G' H' G'' H'' hd hP s3 hx => ?_, fun σ' G' H' hP => ?_⟩
  · obtain ⟨sa, sb, ow, e, sl2⟩ := hP
    obtain ⟨p, hp, rfl⟩ := map_get hd
    refine g_pair s3.s hx fun y z hy hz => ?_
    have sl3 := ((sl2.mono s3.g).set (i := 2) hy).set (i := 3) hz
    refine s_outS (T := Y.T) (d := dq (steep p.1 p.2)) sl3 (ow.step s3) rfl (rv_lsteep (a := p.1) (b := p.2) (rv_sl sl3 rfl) (rv_sl sl3 rfl) (hok.st p (List.mem_of_getElem? hp))) (by
      rw [List.length_map, List.length_take]
      omega) fun G4 H4 ow4 e4 sl4 => ⟨G4, _, _, ?_, Same.trans (Same.trans e s3.g) e4, sl4⟩
    rw [take_snoc hp, List.map_append]
    exact ow4
  · obtain ⟨sa, sb, ow, e, sl2⟩ := hP
    rw [List.length_map, List.take_length] at ow
    obtain ⟨G3, st3, e3, il⟩ := ow.take
    have sl3 := sl2.mono e3
    refine s_ret (T := Y.T) (R := IsL K ((slopes cu.1 cu.2).map dq)) ?_ st3.t st3.s (k.of st3)
    have e4 : (slopes cu.1 cu.2).map dq = (nbs cu.1).map (fun p => dq (steep p.1 p.2)) ++ [dq cu.2] := by
      rw [slopes_nbs hok.ne, List.map_append, List.map_map]
      rfl
    rw [e4]
    exact rv_cat (rv_var (sl3.getV (i := 1) (x := .ref o) rfl) il) (rv_lst (ra_cons (rv_v1 (a := cu) (rv_sl sl3 (i := 0) rfl)) ra_nil) (Nat.le_of_ble_eq_true rfl)) (by
      rw [List.length_map]
      show (nbs cu.1).length + 1 ≤ 100000
      omega)
/-- what the law's reckoning at a moment asks -/
structure AtOk (c : Cv) (m : Rat) : Prop where
  f : Fine c
  z : Sz 1500 m
  h : ∀ a, c.1.head? = some a → ¬ m < a.1
theorem AtOk.at_ {c : Cv} {m : Rat} (h : AtOk c m) : ((c.1.filter fun a => !decide (m < a.1)).length : Int) - 1 = (pl c.1 m : Int) := by
  rw [filt_pl h.f.ne h.f.up h.h]
  omega
theorem AtOk.c {c : Cv} {m : Rat} (h : AtOk c m) : c.1.length ≤ 1000 ∧ ∀ a ∈ c.1, SzP m a.1 := ⟨h.f.len, fun a ha => ⟨1500, 1500, h.z, h.f.mo a ha, by decide⟩⟩
abbrev s__law_c_slope : Stmt := topS 67
theorem sc__law_c_slope : FnScope ["_law_curve", "_law_moment", "_law_at", "_law_one", "_law_other"] ["_law_curve", "_law_moment"] (defScope s__law_c_slope) := ⟨rfl, rfl, rfl, by decide +kernel, rfl, by decide +kernel, by decide +kernel⟩
theorem ok__law_c_slope (Y : Tx K mg base) : FnOk P w K mg base CX0 4 Y.f__law_c_slope.a Y.f__law_c_slope.fd ["_law_curve", "_law_moment"] (Sp2 Y.T K dv dq AtOk fun c m => IsD K (dq (sp c m))) := by
  refine Y.f__law_c_slope.F.ok sc__law_c_slope (fun vs H Q E h => sp2_len h) (fun cdv A outer s H vs Q E hr h => ?_)
  obtain ⟨G, cu, m, c, ht, h, ho, k⟩ := h
  have sl := sl_start (N := ["_law_curve", "_law_moment", "_law_at", "_law_one", "_law_other"]) h (Nat.le_of_ble_eq_true rfl)
  obtain ⟨a, ha1, ha2, ha3⟩ := pl_at (cs := cu.1) (s := cu.2) (m := m) ho.f.ne
  obtain ⟨hdr, hk⟩ := drop_get (s := cu.2) ha1
  rw [ha2] at hk
  have hk : slp cu.1 cu.2 m = sl0 a (cu.1.drop (pl cu.1 m + 1)) cu.2 := Option.some.inj hk
  refine ⟨_, (pss_cons (ps_set (i := 2) sc__law_c_slope.nd rfl (Or.inl rfl) (pe_call (ok__law_c_at Y) (hr.mono (by decide)) (by rfl) Y.f__law_c_at.g Y.f__law_c_at.F.kp Y.f__law_c_at.b .nil pass0 (pa_cons (pv 0) (pa_cons (pv 1) pa_nil))))
      (pss_cons (ps_if (pt_cmpR op_eq (pe_op op_add (pv 2) pe_int) (pe_callB call_len_seq (by rfl) Y.z_len PySem.boot_len (pa_cons (pe_ix ix_tup (pv 0) pe_int (fun _ _ => rfl)) pa_nil)) (nomark _)) (pss_one (ps_ret (pe_ix ix_tup (pv 0) pe_int (fun _ _ => rfl)))) pss_nil)
      (pss_cons (ps_par (i := 3) (j := 4) (by rfl) sc__law_c_slope.nd rfl rfl (by decide) rfl rfl (pa_cons (pe_ix ix_list (pe_ix ix_tup (pv 0) pe_int (fun _ _ => rfl)) (pv 2) (fun _ _ => rfl)) (pa_cons (pe_ix ix_list (pe_ix ix_tup (pv 0) pe_int (fun _ _ => rfl)) (pe_op op_add (pv 2) pe_int) (fun _ _ => rfl)) pa_nil)) (by rfl))
      (pss_one (ps_ret (pe_call (ok__law_by Y) (hr.mono (by decide)) (by rfl) Y.f__law_by.g Y.f__law_by.F.kp Y.f__law_by.b .nil pass0 (pa_cons (pe_call (ok__law_less Y) (hr.mono (by decide)) (by rfl) Y.f__law_less.g Y.f__law_less.F.kp Y.f__law_less.b .nil pass0 (pa_cons (pe_ix ix_tup (pv 4) pe_int (fun _ _ => rfl)) (pa_cons (pe_ix ix_tup (pv 3) pe_int (fun _ _ => rfl)) pa_nil))) (pa_cons (pe_call (ok__law_less Y) (hr.mono (by decide)) (by rfl) Y.f__law_less.g Y.f__law_less.F.kp Y.f__law_less.b .nil pass0 (pa_cons (pe_ix ix_tup (pv 4) pe_int (fun _ _ => rfl)) (pa_cons (pe_ix ix_tup (pv 3) pe_int (fun _ _ => rfl)) pa_nil))) pa_nil)))))))), ?_⟩
  refine q_setS (T := Y.T) (d := .int (pl cu.1 m : Nat)) sl ((rv_call2 (a := cu) (b := m) (ra_cons (rv_sl sl rfl) (ra_cons (rv_sl sl rfl) ra_nil)) ho.c).to (congrArg PyData.int ho.at_)) ht c fun σ1 G1 H1 s1 sl1 => ?_
  have hlm : ((cu.1.map dc).length : Int) = (cu.1.length : Int) := by rw [List.length_map]
  refine q_if (T := Y.T) (b := decide (((pl cu.1 m : Nat) : Int) + 1 = (cu.1.length : Int))) (by
    rw [← hlm]
    exact rt_test (rv_eqI (rv_add (rv_sl sl1 rfl) rv_i) (rv_len (rv_v0 (a := cu) (rv_sl sl1 rfl))))) s1.t s1.s (fun hb G2 H2 s2 => ?_) (fun hb G2 H2 s2 => ?_)
  · have hb : ((pl cu.1 m : Nat) : Int) + 1 = (cu.1.length : Int) := of_decide_eq_true hb
    refine s_ret (T := Y.T) (R := IsD K (dq (sp cu m))) ?_ s2.t s2.s ?_
    · have e : sp cu m = cu.2 := by
        show slp cu.1 cu.2 m = cu.2
        rw [hk, List.drop_eq_nil_of_le (by omega)]
        rfl
      rw [e]
      exact rv_v1 (a := cu) (rv_sl (sl1.mono s2.g) rfl)
    · intro v G3 H3 s3 r
      exact k v G3 H3 ((s1.trans s2).trans s3) r
  refine t_next ?_
  dsimp only
  have hb : ¬ ((pl cu.1 m : Nat) : Int) + 1 = (cu.1.length : Int) := of_decide_eq_false hb
  have sl2 := sl1.mono s2.g
  have hlt := (List.getElem?_eq_some_iff.mp ha1).1
  have hb1 : cu.1[pl cu.1 m + 1]? = some cu.1[pl cu.1 m + 1] := List.getElem?_eq_getElem (show pl cu.1 m + 1 < cu.1.length by omega)
  obtain ⟨b, hbb⟩ : ∃ b, cu.1[pl cu.1 m + 1]? = some b := ⟨_, hb1⟩
  obtain ⟨hdr2, _⟩ := drop_get (s := cu.2) hbb
  have hst : StOk a b := by
    have hn : (nbs cu.1)[pl cu.1 m]? = some (a, b) := by
      unfold nbs
      rw [List.getElem?_zip_eq_some]
      refine ⟨ha1, ?_⟩
      rw [List.getElem?_drop, Nat.add_comm]
      exact hbb
    exact ho.f.slOk.st (a, b) (List.mem_of_getElem? hn)
  refine q_parS (T := Y.T) (d1 := dc a) (d2 := dc b) sl2 (ra_cons (rv_ixL (rv_v0 (a := cu) (rv_sl sl2 rfl)) (rv_sl sl2 rfl) (at_map (f := dc) ha1)) (ra_cons (rv_ixL (rv_v0 (a := cu) (rv_sl sl2 rfl)) (rv_add (rv_sl sl2 rfl) rv_i) (at_map (f := dc) hbb)) ra_nil)) s2.t s2.s fun σ3 G3 H3 s3 sl3 => ?_
  have e : sp cu m = steep a b := by
    show slp cu.1 cu.2 m = steep a b
    rw [hk, hdr2]
    rfl
  refine s_ret (T := Y.T) (R := IsD K (dq (sp cu m))) ?_ s3.t s3.s (k.of ((s1.trans s2).trans s3))
  rw [e]
  exact rv_lsteep (rv_sl sl3 rfl) (rv_sl sl3 rfl) hst
abbrev s__law_c_worth : Stmt := topS 68
theorem sc__law_c_worth : FnScope ["_law_curve", "_law_moment", "_law_begin", "_law_worth"] ["_law_curve", "_law_moment"] (defScope s__law_c_worth) := ⟨rfl, rfl, rfl, by decide +kernel, rfl, by decide +kernel, by decide +kernel⟩
theorem ok__law_c_worth (Y : Tx K mg base) : FnOk P w K mg base CX0 5 Y.f__law_c_worth.a Y.f__law_c_worth.fd ["_law_curve", "_law_moment"] (Sp2 Y.T K dv dq AtOk fun c m => IsD K (dq (vl c m))) := by
  refine Y.f__law_c_worth.F.ok sc__law_c_worth (fun vs H Q E h => sp2_len h) (fun cdv A outer s H vs Q E hr h => ?_)
  obtain ⟨G, cu, m, c, ht, h, ho, k⟩ := h
  have sl := sl_start (N := ["_law_curve", "_law_moment", "_law_begin", "_law_worth"]) h (Nat.le_of_ble_eq_true rfl)
  obtain ⟨a, ha1, ha2, ha3⟩ := pl_at (cs := cu.1) (s := cu.2) (m := m) ho.f.ne
  have ham := List.mem_of_getElem? ha1
  have hf := ho.f
  have hm := ho.z
  refine ⟨_, (pss_cons (ps_asg (pe_ix ix_list (pe_ix ix_tup (pv 0) pe_int (fun _ _ => rfl)) (pe_call (ok__law_c_at Y) (hr.mono (by decide)) (by rfl) Y.f__law_c_at.g Y.f__law_c_at.F.kp Y.f__law_c_at.b .nil pass0 (pa_cons (pv 0) (pa_cons (pv 1) pa_nil))) (fun _ _ => rfl)) (pg_tup rfl (pgs_cons (pg_name (i := 2) sc__law_c_worth.nd rfl (Or.inl rfl)) (pgs_cons (pg_name (i := 3) sc__law_c_worth.nd rfl (Or.inl rfl)) pgs_nil))))
      (pss_cons (ps_if (pt_cmpR (op_eqD hr.units) (pv 2) (pv 1) (nomark _)) (pss_one (ps_ret (pv 3))) pss_nil)
      (pss_one (ps_ret (pe_call (ok__law_plus Y) (hr.mono (by decide)) (by rfl) Y.f__law_plus.g Y.f__law_plus.F.kp Y.f__law_plus.b .nil pass0 (pa_cons (pv 3) (pa_cons (pe_call (ok__law_times Y) (hr.mono (by decide)) (by rfl) Y.f__law_times.g Y.f__law_times.F.kp Y.f__law_times.b .nil pass0 (pa_cons (pe_call (ok__law_c_slope Y) (hr.mono (by decide)) (by rfl) Y.f__law_c_slope.g Y.f__law_c_slope.F.kp Y.f__law_c_slope.b .nil pass0 (pa_cons (pv 0) (pa_cons (pv 1) pa_nil))) (pa_cons (pe_call (ok__law_less Y) (hr.mono (by decide)) (by rfl) Y.f__law_less.g Y.f__law_less.F.kp Y.f__law_less.b .nil pass0 (pa_cons (pv 1) (pa_cons (pv 2) pa_nil))) pa_nil))) pa_nil))))))), ?_⟩
  refine q_pairS (T := Y.T) (d1 := dq a.1) (d2 := dq a.2) sl (rv_ixL (rv_v0 (a := cu) (rv_sl sl rfl)) ((rv_call2 (a := cu) (b := m) (ra_cons (rv_sl sl rfl) (ra_cons (rv_sl sl rfl) ra_nil)) ho.c).to (congrArg PyData.int ho.at_)) (at_map (f := dc) ha1)) ht c fun σ1 G1 H1 s1 sl1 => ?_
  refine q_if (T := Y.T) (b := decide (a.1 = m)) ((rt_test (rv_eqD (rv_sl sl1 rfl) (rv_sl sl1 rfl) (shaped_dq a.1) (shaped_dq m))).to (eqv_dq a.1 m)) s1.t s1.s (fun hb G2 H2 s2 => ?_) (fun hb G2 H2 s2 => ?_)
  · have hb : a.1 = m := of_decide_eq_true hb
    refine s_ret (T := Y.T) (R := IsD K (dq (vl cu m))) ?_ s2.t s2.s ?_
    · have e : vl cu m = a.2 := by
        show val cu.1 cu.2 m = a.2
        rw [ha3, hb]
        grind
      rw [e]
      exact rv_sl (sl1.mono s2.g) rfl
    · intro v G3 H3 s3 r
      exact k v G3 H3 ((s1.trans s2).trans s3) r
  refine t_next ?_
  dsimp only
  have sl2 := sl1.mono s2.g
  have hsl := hf.sl _ (List.mem_of_getElem? ha2)
  refine s_ret (T := Y.T) (R := IsD K (dq (vl cu m))) ?_ s2.t s2.s (k.of (s1.trans s2))
  have e : vl cu m = a.2 + slp cu.1 cu.2 m * (m - a.1) := ha3
  rw [e]
  exact rv_call2 (a := a.2) (b := slp cu.1 cu.2 m * (m - a.1)) (ra_cons (rv_sl sl2 rfl) (ra_cons (rv_call2 (a := slp cu.1 cu.2 m) (b := m - a.1) (ra_cons (rv_call2 (a := cu) (b := m) (ra_cons (rv_sl sl2 rfl) (ra_cons (rv_sl sl2 rfl) ra_nil)) ho) (ra_cons (rv_call2 (a := m) (b := a.1) (ra_cons (rv_sl sl2 rfl) (ra_cons (rv_sl sl2 rfl) ra_nil)) ⟨1500, 1500, hm, hf.mo a ham, by decide⟩) ra_nil)) ⟨200, 3001, hsl, hm.sub (hf.mo a ham), by decide⟩) ra_nil)) ⟨2100, 3201, hf.wo a ham, hsl.mul (hm.sub (hf.mo a ham)), by decide⟩
end
end Qw
namespace Qw
open PySem PySem.Spec PyProof.Rows L2 LamX Qk
/-! ### curves that are compared -/
theorem lay_dcs : ∀ cs : List Cn, PyData.canLayAll0 (cs.map dc) = true ∧ PyData.depthAll (cs.map dc) ≤ 2
  | [] => ⟨rfl, Nat.zero_le _⟩
  | a :: cs => by
    obtain ⟨h1, h2⟩ := lay_dcs cs
    have e1 : PyData.canLayAll0 ((a :: cs).map dc) = (PyData.canLay0 (dc a) && PyData.canLayAll0 (cs.map dc)) := rfl
    have e2 : PyData.depthAll ((a :: cs).map dc) = max (PyData.depth (dc a)) (PyData.depthAll (cs.map dc)) := rfl
    have e3 : PyData.depth (dc a) = 2 := rfl
    refine ⟨by rw [e1, h1]; rfl, ?_⟩
    rw [e2, e3]
    omega
theorem shaped_dcs (cs : List Cn) : SeqAt.shaped (.list (cs.map dc)) = true := by
  obtain ⟨h1, h2⟩ := lay_dcs cs
  have e1 : PyData.canLay0 (.list (cs.map dc)) = PyData.canLayAll0 (cs.map dc) := rfl
  have e2 : PyData.depth (.list (cs.map dc)) = PyData.depthAll (cs.map dc) + 1 := by first | rfl | exact Nat.add_comm _ _
  unfold SeqAt.shaped
  rw [e1, h1, e2, Bool.true_and]
  exact decide_eq_true (by omega)
theorem shaped_dv (c : Cv) : SeqAt.shaped (dv c) = true := by
  obtain ⟨h1, h2⟩ := lay_dcs c.1
  have e1 : PyData.canLay0 (dv c) = (PyData.canLayAll0 (c.1.map dc) && (PyData.canLay0 (dq c.2) && true)) := rfl
  have e2 : PyData.depth (.list (c.1.map dc)) = PyData.depthAll (c.1.map dc) + 1 := by first | rfl | exact Nat.add_comm _ _
  have e3 : PyData.depth (dv c) = max (PyData.depth (.list (c.1.map dc))) (max (PyData.depth (dq c.2)) 0) + 1 := by first | rfl | exact Nat.add_comm _ _
  have e4 : PyData.depth (dq c.2) = 1 := rfl
  have e5 : PyData.canLay0 (dq c.2) = true := rfl
  unfold SeqAt.shaped
  rw [e1, h1, e5, e3, e2, e4]
  have h : max (PyData.depthAll (c.1.map dc) + 1) (max 1 0) + 1 ≤ 64 := by omega
  rw [decide_eq_true h]
  rfl
section
variable {P : Program} {w : World} {K : PySem.W.Frag} {mg : Str → Option Value} {base : Heap}
/-! ### _law_c_plain -/
/-- the slope ahead of the i-th corner -/
def prevS (ks : List Rat) : Nat → Option Rat
  | 0 => none
  | i + 1 => ks[i]?
abbrev s__law_c_plain : Stmt := topS 69
theorem sc__law_c_plain : FnScope ["_law_corners", "_law_slope", "_law_slopes", "_law_found", "_law_at", "_law_corner"] ["_law_corners", "_law_slope"] (defScope s__law_c_plain) := ⟨rfl, rfl, rfl, by decide +kernel, rfl, by decide +kernel, by decide +kernel⟩
theorem ok__law_c_plain (Y : Tx K mg base) : FnOk P w K mg base CX0 5 Y.f__law_c_plain.a Y.f__law_c_plain.fd ["_law_corners", "_law_slope"] (SpV2 Y.T K (fun cs : List Cn => .list (cs.map dc)) dq (fun cs _ => SlOk cs) fun cs s => Qk.normal cs s) := by
  refine Y.f__law_c_plain.F.ok sc__law_c_plain (fun vs H Q E h => spv2_len h) (fun cdv A outer s H vs Q E hr h => ?_)
  obtain ⟨G, cs, s, c, ht, h, hok, k⟩ := h
  have sl := sl_start (N := ["_law_corners", "_law_slope", "_law_slopes", "_law_found", "_law_at", "_law_corner"]) h (Nat.le_of_ble_eq_true rfl)
  have hlen := hok.len
  refine ⟨_, (pss_cons (ps_par (i := 2) (j := 3) (by rfl) sc__law_c_plain.nd rfl rfl (by decide) rfl rfl (pa_cons (pe_call (ok__law_c_slopes Y) (hr.mono (by decide)) (by rfl) Y.f__law_c_slopes.g Y.f__law_c_slopes.F.kp Y.f__law_c_slopes.b .nil pass0 (pa_cons (pe_tup (pa_cons (pv 0) (pa_cons (pv 1) pa_nil))) pa_nil)) (pa_cons (pe_lst pa_nil) pa_nil)) (by rfl))
      (pss_cons (ps_for PassesOwn.never rfl (pi_enum (by rfl) Y.z_enumerate (pa_cons (pv 0) pa_nil)) (pg_tup rfl (pgs_cons (pg_name (i := 4) sc__law_c_plain.nd rfl (Or.inl rfl)) (pgs_cons (pg_name (i := 5) sc__law_c_plain.nd rfl (Or.inl rfl)) pgs_nil))) (pss_one (ps_expr (pe_bm PySem.F.plainAttrs_list PySem.F.slot_list_extend PySem.F.type_list_extend mt_extend (pv 3) (pa_cons (pe_ifExp (PW.pt (pw_or (pt_cmpR op_eq (pv 4) pe_int (nomark _)) (pw_or1 (pt_cmpR (op_neD hr.units) (pe_ix ix_list (pv 2) (pv 4) (fun _ _ => rfl)) (pe_ix ix_list (pv 2) (pe_op op_sub (pv 4) pe_int) (fun _ _ => rfl)) (nomark _))))) (pe_lst (pa_cons (pv 5) pa_nil)) (pe_lst pa_nil)) pa_nil)))))
      (pss_one (ps_ret (pe_tup (pa_cons (pv 3) (pa_cons (pv 1) pa_nil))))))), ?_⟩
  refine q_parLS (T := Y.T) (d := .list ((slopes cs s).map dq)) sl (Step.refl ht c) (Rv.ld (rv_call1 (a := (cs, s)) (ra_cons (rv_tup (ra_cons (rv_sl sl rfl) (ra_cons (rv_sl sl rfl) ra_nil)) (Nat.le_of_ble_eq_true rfl)) ra_nil) hok)) fun o σ1 G1 H1 w1 s1 sl1 => ?_
  refine q_for (T := Y.T) (ri_enum (rv_sl sl1 rfl)) s1.t s1.s fun G2 H2 s2 => ⟨fun i σ' G' H' => ∃ (fi : List Cn) (sa sb : Slot), Own Y.T K G H G' H' o (fi.map dc) ∧ Same G2 G' ∧ Sl K G' σ' [.d (.list (cs.map dc)), .d (dq s), .d (.list ((slopes cs s).map dq)), .v (.ref o), sa, sb] ∧ fi.length ≤ i ∧ fi ++ nrm (prevS (slopes cs s) i) (cs.drop i) s = nrm none cs s,
    ⟨[], .no, .no, w1.step s2, Same.refl _, sl1.mono s2.g, Nat.le_refl _, rfl⟩, fun i σ' G' H' ⟨_, _, _, ow, e, _⟩ => ⟨e, ow.st.s, ow.st.t⟩, fun i d x σ' G' H' G'' H'' hd hP s3 hx => ?_, fun σ' G' H' hP => ?_⟩
  · obtain ⟨fi, sa, sb, ow, e, sl2, hfl, hin⟩ := hP
    obtain ⟨a, ha, rfl⟩ := enum_get hd
    obtain ⟨hdr, hk⟩ := drop_get (s := s) ha
    have hlt := (List.getElem?_eq_some_iff.mp ha).1
    refine g_pair s3.s hx fun y z hy hz => ?_
    have sl3 := ((sl2.mono s3.g).set (i := 4) hy).set (i := 5) hz
    have ow3 := ow.step s3
    generalize hl : sl0 a (cs.drop (i + 1)) s = l at *
    have hnew : nrm (prevS (slopes cs s) i) (cs.drop i) s = if prevS (slopes cs s) i = some l then nrm (some l) (cs.drop (i + 1)) s else a :: nrm (some l) (cs.drop (i + 1)) s := by
      rw [hdr, nrm_cons, hl]
    have hpv : prevS (slopes cs s) (i + 1) = some l := hk
    have htest : Rt Y.T (tOr (tTest (tOp rEq (tVar 4) (tC (.int 0)))) (tTest (tOp (rNeD K) (tOp (rIxL K) (tVar 2) (tVar 4)) (tOp (rIxL K) (tVar 2) (tOp (rI0 fun i j => .int (i - j)) (tVar 4) (tC (.int 1))))))) ((σ'.set 4 (some y)).set 5 (some z)) G'' (!decide (prevS (slopes cs s) i = some l)) := by
      cases i with
      | zero =>
        refine (rt_or (a := true) (b := true) ((rt_test (rv_eqI (n := 0) (m := 0) (rv_sl sl3 rfl) rv_i)).to rfl) (fun hh => nomatch hh)).to ?_
        rfl
      | succ j =>
        obtain ⟨p, hp⟩ : ∃ p, (slopes cs s)[j]? = some p := ⟨_, List.getElem?_eq_getElem (by rw [slopes_len]; omega)⟩
        have hpp : prevS (slopes cs s) (j + 1) = some p := hp
        refine (rt_or (a := false) (b := !decide (l = p)) ((rt_test (rv_eqI (n := ((j + 1 : Nat) : Int)) (m := 0) (rv_sl sl3 rfl) rv_i)).to (decide_eq_false (by omega))) fun _ => (rt_test (rv_neD (d := dq l) (e := dq p) (rv_ixL (rv_sl sl3 rfl) (rv_sl sl3 rfl) (at_map (f := dq) hk)) (rv_ixL (rv_sl sl3 rfl) ((rv_sub (n := ((j + 1 : Nat) : Int)) (m := 1) (rv_sl sl3 rfl) rv_i).to (congrArg PyData.int (show ((j + 1 : Nat) : Int) - 1 = (j : Int) by omega))) (at_map (f := dq) hp)) (shaped_dq l) (shaped_dq p))).to (by rw [eqv_dq])).to ?_
        rw [hpp, Bool.false_or]
        congr 1
        exact decide_eq_decide.mpr ⟨fun z => by rw [z], fun z => (Option.some.inj z).symm⟩
    refine s_extS (T := Y.T) (es := (if prevS (slopes cs s) i = some l then ([] : List Cn) else [a]).map dc) sl3 ow3 rfl (rv_if htest (fun hb => ?_) (fun hb => ?_)) ?_ fun G4 H4 ow4 e4 sl4 => ⟨G4, fi ++ (if prevS (slopes cs s) i = some l then ([] : List Cn) else [a]), .d (.int (i : Nat)), .d (dc a), ?_, Same.trans (Same.trans e s3.g) e4, sl4, ?_, ?_⟩
    · have hb : ¬ prevS (slopes cs s) i = some l := by simpa using hb
      rw [if_neg hb]
      exact rv_lst (ra_cons (rv_sl sl3 rfl) ra_nil) (Nat.le_of_ble_eq_true rfl)
    · have hb : prevS (slopes cs s) i = some l := by simpa using hb
      rw [if_pos hb]
      exact rv_lst ra_nil (Nat.le_of_ble_eq_true rfl)
    · rw [List.length_map, List.length_map]
      split
      · simp only [List.length_nil]
        omega
      · simp only [List.length_cons, List.length_nil]
        omega
    · rw [← List.map_append] at ow4
      exact ow4
    · rw [List.length_append]
      split
      · simp only [List.length_nil]
        omega
      · simp only [List.length_cons, List.length_nil]
        omega
    · rw [hpv, ← hin, hnew, List.append_assoc]
      split <;> rfl
  · obtain ⟨fi, sa, sb, ow, e, sl2, hfl, hin⟩ := hP
    rw [enum_len, List.drop_length] at hin
    have hfi : fi = nrm none cs s := by
      rw [← hin]
      show fi = fi ++ []
      rw [List.append_nil]
    subst hfi
    exact s_retVS (T := Y.T) (cs := nrm none cs s) (s := s) sl2 ow rfl rfl k
/-! ### _law_c_moments -/
abbrev s__law_c_moments : Stmt := topS 75
theorem sc__law_c_moments : FnScope ["_law_curves", "_law_found", "_law_curve", "_law_corner"] ["_law_curves"] (defScope s__law_c_moments) := ⟨rfl, rfl, rfl, by decide +kernel, rfl, by decide +kernel, by decide +kernel⟩
theorem ok__law_c_moments (Y : Tx K mg base) : FnOk P w K mg base CX0 3 Y.f__law_c_moments.a Y.f__law_c_moments.fd ["_law_curves"] (Sp1 Y.T K (fun cs : List Cv => .list (cs.map dv)) (fun cs => FewQ (allMo cs)) fun cs => IsL K ((momsOf cs).map dq)) := by
  refine Y.f__law_c_moments.F.ok sc__law_c_moments (fun vs H Q E h => sp1_len h) (fun cdv A outer s H vs Q E hr h => ?_)
  obtain ⟨G, cs, c, ht, h, hf, k⟩ := h
  have sl := sl_start (N := ["_law_curves", "_law_found", "_law_curve", "_law_corner"]) h (Nat.le_of_ble_eq_true rfl)
  have hfew := hf.few
  have hpre : ∀ i, (allMo (cs.take i)).length ≤ 400 := fun i => by
    have e : cs = cs.take i ++ cs.drop i := (List.take_append_drop i cs).symm
    have e2 : allMo cs = allMo (cs.take i) ++ allMo (cs.drop i) := by
      unfold allMo
      rw [← List.flatMap_append, ← e]
    rw [e2, List.length_append] at hfew
    omega
  refine ⟨_, (pss_cons (ps_set (i := 1) sc__law_c_moments.nd rfl (Or.inl rfl) (pe_lst pa_nil))
      (pss_cons (ps_for PassesOwn.never rfl (pi_list (pv 0)) (pg_name (i := 2) sc__law_c_moments.nd rfl (Or.inl rfl)) (pss_one (ps_expr (pe_bm PySem.F.plainAttrs_list PySem.F.slot_list_extend PySem.F.type_list_extend mt_extend (pv 1) (pa_cons (pe_lc (own := [("_law_corner", 3)]) (g := (gName 3)) rfl sc__law_c_moments.nd (pi_list (pe_ix ix_tup (pv 2) pe_int (fun _ _ => rfl))) (blkOk_by (N := ["_law_curves", "_law_found", "_law_curve", "_law_corner"]) (sc := defScope s__law_c_moments) (own := [("_law_corner", 3)]) (by decide +kernel)) (fun _ _ _ _ _ => (pg_name (i := 3) sc__law_c_moments.nd rfl (Or.inl rfl))) (fun _ _ _ _ _ => pts_nil) (fun _ _ _ _ _ => (pe_ix (ixK_tup K rfl) (pv 3) pe_int (fun _ _ => rfl)))) pa_nil)))))
      (pss_one (ps_ret (pe_call (ok__law_by_size Y) (hr.mono (by decide)) (by rfl) Y.f__law_by_size.g Y.f__law_by_size.F.kp Y.f__law_by_size.b .nil pass0 (pa_cons (pv 1) pa_nil)))))), ?_⟩
  refine q_setLS (T := Y.T) sl (Step.refl ht c) fun o σ1 H1 w1 s1 sl1 => ?_
  refine q_for (T := Y.T) (ri_list (rv_sl sl1 rfl)) s1.t s1.s fun G2 H2 s2 => ⟨fun i σ' G' H' => ∃ sa sb, Own Y.T K G H G' H' o ((allMo (cs.take i)).map dq) ∧ Same G2 G' ∧ Sl K G' σ' [.d (.list (cs.map dv)), .v (.ref o), sa, sb],
    ⟨.no, .no, w1.step s2, Same.refl _, sl1.mono s2.g⟩, fun i σ' G' H' ⟨_, _, ow, e, _⟩ => ⟨e, ow.st.s, ow.st.t⟩, fun i d x σ' G' H' G'' H'' hd hP s3 hx => ?_, fun σ' G' H' hP => ?_⟩
  · obtain ⟨sa, sb, ow, e, sl2⟩ := hP
    obtain ⟨cu, hcu, rfl⟩ := map_get hd
    have sl3 := (sl2.mono s3.g).set (i := 2) hx
    have et : allMo (cs.take (i + 1)) = allMo (cs.take i) ++ moms cu.1 := by
      rw [take_snoc hcu]
      unfold allMo
      rw [List.flatMap_append]
      simp
    have hl2 := hpre (i + 1)
    rw [et, List.length_append] at hl2
    have hml : (moms cu.1).length = cu.1.length := by
      unfold moms
      rw [List.length_map]
    refine s_extS (T := Y.T) (es := cu.1.map fun a : Cn => dq a.1) sl3 (ow.step s3) rfl (rv_lcNS (A := dc) (B := fun a : Cn => dq a.1) sl3 (ri_list (rv_v0 (a := cu) (rv_sl sl3 rfl))) (by omega) (by decide) fun a ha σ4 G4 e4 sl4 => rv_c0 (a := a) (rv_sl sl4 rfl)) (by
      rw [List.length_map, List.length_map]
      omega) fun G4 H4 ow4 e4 sl4 => ⟨G4, _, _, ?_, Same.trans (Same.trans e s3.g) e4, sl4⟩
    rw [et, List.map_append]
    have e5 : (moms cu.1).map dq = cu.1.map fun a : Cn => dq a.1 := by
      unfold moms
      rw [List.map_map]
      rfl
    rw [e5]
    exact ow4
  · obtain ⟨sa, sb, ow, e, sl2⟩ := hP
    rw [List.length_map, List.take_length] at ow
    obtain ⟨G3, st3, e3, il⟩ := ow.take
    have sl3 := sl2.mono e3
    exact s_ret (T := Y.T) (R := IsL K ((momsOf cs).map dq)) (rv_call1 (a := allMo cs) (ra_cons (rv_var (sl3.getV (i := 1) (x := .ref o) rfl) il.d) ra_nil) hf) st3.t st3.s (k.of st3)
end
end Qw
namespace Qw
open PySem PySem.Spec PyProof.Rows L2 LamX Qk
theorem asc_ne : ∀ {ms : List Rat}, Asc ms → ∀ p ∈ ms.zip (ms.drop 1), p.1 < p.2
  | [], _, p, h => by simp at h
  | [a], _, p, h => by simp at h
  | a :: b :: r, ha, p, h => by
    rcases List.mem_cons.mp (show p ∈ (a, b) :: (b :: r).zip ((b :: r).drop 1) from h) with e | h
    · rw [e]
      exact ha.1
    · exact asc_ne (ms := b :: r) ha.2 p h
theorem ins_len (q : Rat) : ∀ l : List Rat, (ins q l).length ≤ l.length + 1
  | [] => Nat.le_refl _
  | a :: r => by
    have i := ins_len q r
    unfold ins
    split
    · exact Nat.le_refl _
    · split
      · simp only [List.length_cons]
        omega
      · simp only [List.length_cons]
        omega
theorem srt_len : ∀ l : List Rat, (srt l).length ≤ l.length
  | [] => Nat.le_refl _
  | a :: r => Nat.le_trans (ins_len a (srt r)) (Nat.succ_le_succ (srt_len r))
theorem up_asc : ∀ {cs : List Cn}, Up cs → Asc (moms cs)
  | [], _ => trivial
  | [_], _ => trivial
  | a :: b :: r, h => ⟨h.1, up_asc (cs := b :: r) h.2⟩
theorem zip_dq2 : ∀ (xs ys : List Rat), List.zipWith (fun d e => PyData.tuple [d, e]) (xs.map dq) (ys.map dq) = (xs.zip ys).map fun p => .tuple [dq p.1, dq p.2]
  | [], _ => by simp
  | _ :: _, [] => by simp
  | a :: r, b :: s => by
    show _ :: List.zipWith (fun d e => PyData.tuple [d, e]) (r.map dq) (s.map dq) = _ :: (r.zip s).map _
    rw [zip_dq2 r s]
section
variable {P : Program} {w : World} {K : PySem.W.Frag} {mg : Str → Option Value} {base : Heap}
/-! ### _law_c_is_told -/
structure ToldOk (c : Cv) : Prop where
  w : WF c
  p : Plain c
  f : Fine c
abbrev s__law_c_is_told : Stmt := topS 70
theorem sc__law_c_is_told : FnScope ["_law_thing", "_law_corner", "_law_moments", "_law_one", "_law_other"] ["_law_thing"] (defScope s__law_c_is_told) := ⟨rfl, rfl, rfl, by decide +kernel, rfl, by decide +kernel, by decide +kernel⟩
theorem ok__law_c_is_told (Y : Tx K mg base) : FnOk P w K mg base CX0 6 Y.f__law_c_is_told.a Y.f__law_c_is_told.fd ["_law_thing"] (Sp1 Y.T K dv ToldOk fun _ => IsD K (.bool true)) := by
  refine Y.f__law_c_is_told.F.ok sc__law_c_is_told (fun vs H Q E h => sp1_len h) (fun cdv A outer s H vs Q E hr h => ?_)
  obtain ⟨G, cu, c, ht, h, ho, k⟩ := h
  have sl := sl_start (N := ["_law_thing", "_law_corner", "_law_moments", "_law_one", "_law_other"]) h (Nat.le_of_ble_eq_true rfl)
  have hlen := ho.f.len
  obtain ⟨w0, r0, he⟩ := cons_of ho.w
  refine ⟨_, (pss_cons (ps_if (PW.pt (pw_or (pt_not (pt_val (pe_callB call_isD (by rfl) Y.z_isinstance (by decide +kernel) (pa_cons (pv 0) (pa_cons (pe_bltn (v := .ty "tuple") (u := .type "tuple") (by rfl) Y.z_tuple (by decide +kernel) rfl) pa_nil))))) (pw_or (pt_cmpR op_ne (pe_callB call_len_seq (by rfl) Y.z_len PySem.boot_len (pa_cons (pv 0) pa_nil)) pe_int (nomark _)) (pw_or (pt_not (pt_val (pe_callB call_isD (by rfl) Y.z_isinstance (by decide +kernel) (pa_cons (pe_ix ix_tup (pv 0) pe_int (fun _ _ => rfl)) (pa_cons (pe_bltn (v := .ty "list") (u := .type "list") (by rfl) Y.z_list (by decide +kernel) rfl) pa_nil))))) (pw_or1 (pt_cmpR (op_eqD hr.units) (pe_ix ix_tup (pv 0) pe_int (fun _ _ => rfl)) (pe_lst pa_nil) (nomark _))))))) (pss_one (ps_ret pe_bl)) pss_nil)
      (pss_cons (ps_if (pt_not (pt_val (pe_call (ok__law_is_told Y) (hr.mono (by decide)) (by rfl) Y.f__law_is_told.g Y.f__law_is_told.F.kp Y.f__law_is_told.b .nil pass0 (pa_cons (pe_ix ix_tup (pv 0) pe_int (fun _ _ => rfl)) pa_nil)))) (pss_one (ps_ret pe_bl)) pss_nil)
      (pss_cons (ps_for PassesOwn.never rfl (pi_list (pe_ix ix_tup (pv 0) pe_int (fun _ _ => rfl))) (pg_name (i := 1) sc__law_c_is_told.nd rfl (Or.inl rfl)) (pss_one (ps_if (PW.pt (pw_or (pt_not (pt_val (pe_callB call_isD (by rfl) Y.z_isinstance (by decide +kernel) (pa_cons (pv 1) (pa_cons (pe_bltn (v := .ty "tuple") (u := .type "tuple") (by rfl) Y.z_tuple (by decide +kernel) rfl) pa_nil))))) (pw_or (pt_cmpR op_ne (pe_callB call_len_seq (by rfl) Y.z_len PySem.boot_len (pa_cons (pv 1) pa_nil)) pe_int (nomark _)) (pw_or1 (pt_not (pt_val (pe_callB (cr_all rfl) (by rfl) Y.z_all (by decide +kernel) (pa_cons (pe_lc (own := [("_law_one", 3)]) (g := (gName 3)) rfl sc__law_c_is_told.nd (pi_tup (pv 1)) (blkOk_by (N := ["_law_thing", "_law_corner", "_law_moments", "_law_one", "_law_other"]) (sc := defScope s__law_c_is_told) (own := [("_law_one", 3)]) (by decide +kernel)) (fun _ _ _ _ _ => (pg_name (i := 3) sc__law_c_is_told.nd rfl (Or.inl rfl))) (fun _ _ _ _ _ => pts_nil) (fun _ _ _ _ _ => (pe_call (ok__law_is_told Y) (hr.mono (by decide)) (by rfl) Y.f__law_is_told.g Y.f__law_is_told.F.kp Y.f__law_is_told.b .nil pass0 (pa_cons (pv 3) pa_nil)))) pa_nil)))))))) (pss_one (ps_ret pe_bl)) pss_nil)))
      (pss_cons (ps_setLc (i := 2) (own := [("_law_corner", 1)]) (g := (gName 1)) rfl sc__law_c_is_told.nd rfl rfl (sw_true rfl rfl rfl (by decide +kernel)) (pi_list (pe_ix ix_tup (pv 0) pe_int (fun _ _ => rfl))) (blkOk_by (N := ["_law_thing", "_law_corner", "_law_moments", "_law_one", "_law_other"]) (sc := defScope s__law_c_is_told) (own := [("_law_corner", 1)]) (by decide +kernel)) (fun _ _ _ _ _ => (pg_name (i := 1) sc__law_c_is_told.nd rfl (Or.inl rfl))) (fun _ _ _ _ _ => pts_nil) (fun _ _ _ _ _ => (pe_ix (ixK_tup K rfl) (pv 1) pe_int (fun _ _ => rfl))))
      (pss_cons (ps_if (PW.pt (pw_or (pt_cmpR (op_neD hr.units) (pe_ix ix_list (pv 2) pe_int (fun _ _ => rfl)) (pe_tup (pa_cons pe_int (pa_cons pe_int pa_nil))) (nomark _)) (pw_or1 (pt_not (pt_val (pe_callB (cr_all rfl) (by rfl) Y.z_all (by decide +kernel) (pa_cons (pe_lc (own := [("_law_one", 3), ("_law_other", 4)]) (g := (gTup K 2 (gCons (gName 3) (gCons (gName 4) gNil)))) rfl sc__law_c_is_told.nd (pi_zip (by rfl) Y.z_zip (pa_cons (pv 2) (pa_cons (pe_slice sl_list (pv 2) (po_some pe_int) po_none) pa_nil))) (blkOk_by (N := ["_law_thing", "_law_corner", "_law_moments", "_law_one", "_law_other"]) (sc := defScope s__law_c_is_told) (own := [("_law_one", 3), ("_law_other", 4)]) (by decide +kernel)) (fun _ _ _ _ _ => (pg_tup rfl (pgs_cons (pg_name (i := 3) sc__law_c_is_told.nd rfl (Or.inl rfl)) (pgs_cons (pg_name (i := 4) sc__law_c_is_told.nd rfl (Or.inl rfl)) pgs_nil)))) (fun _ _ _ _ _ => pts_nil) (fun _ _ _ _ _ => (pe_call (ok__law_is_below Y) (hr.mono (by decide)) (by rfl) Y.f__law_is_below.g Y.f__law_is_below.F.kp Y.f__law_is_below.b .nil pass0 (pa_cons (pv 3) (pa_cons (pv 4) pa_nil))))) pa_nil))))))) (pss_one (ps_ret pe_bl)) pss_nil)
      (pss_one (ps_ret (pe_cmpR (op_eqD hr.units) (pe_call (ok__law_c_plain Y) (hr.mono (by decide)) (by rfl) Y.f__law_c_plain.g Y.f__law_c_plain.F.kp Y.f__law_c_plain.b .nil pass0 (pa_cons (pe_ix ix_tup (pv 0) pe_int (fun _ _ => rfl)) (pa_cons (pe_ix ix_tup (pv 0) pe_int (fun _ _ => rfl)) pa_nil))) (pv 0) (nomark _))))))))), ?_⟩
  have v0 : ∀ {σ : L2.St} {G : Hp} {ss : List Slot}, Sl K G σ ss → ss[0]? = some (.d (dv cu)) → Rv Y.T (tOp (rIxT K) (tVar 0) (tC (.int 0))) σ G (IsD K (.list (cu.1.map dc))) := fun sl e => rv_v0 (a := cu) (rv_sl sl e)
  refine q_if (T := Y.T) (b := false) (rt_or (a := false) (b := false) (rt_not (a := true) (rt_B (rv_isi (d := dv cu) (rv_sl sl rfl) (kit_tuple _)))) fun _ => rt_or (a := false) (b := false) (rt_test (rv_neI (n := 2) (m := 2) (rv_lenT (ds := [.list (cu.1.map dc), dq cu.2]) (rv_sl sl rfl)) rv_i)) fun _ => rt_or (a := false) (b := false) (rt_not (a := true) (rt_B (rv_isi (d := .list (cu.1.map dc)) (v0 sl rfl) (kit_list _)))) fun _ => ?_) ht c (fun hb => nomatch hb) (fun hb G1 H1 s1 => ?_)
  · refine (rt_test (rv_eqD (v0 sl rfl) (Rv.ld (rv_lst ra_nil (Nat.le_of_ble_eq_true rfl))) (shaped_dcs cu.1) rfl)).to ?_
    rw [he]
    rfl
  refine t_next ?_
  dsimp only
  have sl1 := sl.mono s1.g
  refine q_if (T := Y.T) (b := false) (rt_not (a := true) (rt_B (rv_call1 (a := cu.2) (ra_cons (rv_v1 (a := cu) (rv_sl sl1 rfl)) ra_nil) trivial))) s1.t s1.s (fun hb => nomatch hb) (fun hb G2 H2 s2 => ?_)
  refine t_next ?_
  dsimp only
  have sl2 := sl1.mono s2.g
  refine q_for (T := Y.T) (ri_list (v0 sl2 rfl)) s2.t s2.s fun G3 H3 s3 => ⟨fun i σ' G' H' => ∃ sa sb sc sd, Step Y.T G H G' H' ∧ Same G3 G' ∧ Sl K G' σ' [.d (dv cu), sa, sb, sc, sd],
    ⟨.no, .no, .no, .no, (s1.trans s2).trans s3, Same.refl _, sl2.mono s3.g⟩, fun i σ' G' H' ⟨_, _, _, _, st, e, _⟩ => ⟨e, st.s, st.t⟩, fun i d x σ' G' H' G'' H'' hd hP s4 hx => ?_, fun σ' G' H' hP => ?_⟩
  · obtain ⟨sa, sb, sc, sd, st, e, sl3⟩ := hP
    obtain ⟨a, ha, rfl⟩ := map_get hd
    have sl4 := (sl3.mono s4.g).set (i := 1) hx
    refine s_if (T := Y.T) (b := false) (rt_or (a := false) (b := false) (rt_not (a := true) (rt_B (rv_isi (d := dc a) (rv_sl sl4 rfl) (kit_tuple _)))) fun _ => rt_or (a := false) (b := false) (rt_test (rv_neI (n := 2) (m := 2) (rv_lenT (ds := [dq a.1, dq a.2]) (rv_sl sl4 rfl)) rv_i)) fun _ => rt_not (a := true) (rt_B (rv_all (bs := [true, true]) (Rv.ld ?_)))) s4.t s4.s (fun hb => nomatch hb) (fun hb G5 H5 s5 => ⟨G5, _, _, _, _, (st.trans s4).trans s5, Same.trans (Same.trans e s4.g) s5.g, sl4.mono s5.g⟩)
    exact rv_lcNS (A := dq) (B := fun _ : Rat => PyData.bool true) (xs := [a.1, a.2]) sl4 (ri_tup (rv_sl sl4 rfl)) (Nat.le_of_ble_eq_true rfl) (by decide) fun q hq σ5 G5 e5 sl5 => rv_call1 (a := q) (ra_cons (rv_sl sl5 rfl) ra_nil) trivial
  · obtain ⟨sa, sb, sc, sd, st, e, sl3⟩ := hP
    refine q_setS (T := Y.T) (d := .list ((moms cu.1).map dq)) sl3 (by
      have e5 : (moms cu.1).map dq = cu.1.map fun a : Cn => dq a.1 := by
        unfold moms
        rw [List.map_map]
        rfl
      rw [e5]
      exact Rv.ld (rv_lcNS (A := dc) (B := fun a : Cn => dq a.1) sl3 (ri_list (v0 sl3 rfl)) (by omega) (by decide) fun a ha σ4 G4 e4 sl4 => rv_c0 (a := a) (rv_sl sl4 rfl))) st.t st.s fun σ5 G5 H5 s5 sl5 => ?_
    have st5 := st.trans s5
    have hmoms : moms cu.1 = 0 :: moms r0 := by
      rw [he]
      rfl
    refine q_if (T := Y.T) (b := false) (rt_or (a := false) (b := false) ((rt_test (rv_neD (d := dq 0) (e := dq 0) (rv_ixL (rv_sl sl5 rfl) rv_i (by rw [hmoms]; exact atI_nat (j := 0) rfl)) rv_zero (shaped_dq 0) (shaped_dq 0))).to (by rw [eqv_dq, decide_eq_true rfl]; rfl)) fun _ => (rt_not (rt_B (rv_all (bs := ((moms cu.1).zip ((moms cu.1).drop 1)).map fun p : Rat × Rat => decide (p.1 < p.2)) (Rv.ld ?_)))).to ?_) s5.t s5.s (fun hb => nomatch hb) (fun hb G6 H6 s6 => ?_)
    · rw [List.map_map]
      refine rv_lcPS (A1 := fun p : Rat × Rat => dq p.1) (A2 := fun p : Rat × Rat => dq p.2) (B := fun p : Rat × Rat => .bool (decide (p.1 < p.2))) sl5 ?_ ?_ (by decide) fun p hp σ6 G6 e6 sl6 => ?_
      · have h1 := ri_zip (T := Y.T) (K := K) (σ := σ5) (G := G5) (ra_cons (rv_sl sl5 (i := 2) rfl) (ra_cons (rv_from (k := 1) (rv_sl sl5 (i := 2) rfl)).ld ra_nil))
        rw [← List.map_drop, zip_dq2] at h1
        exact h1
      · rw [List.length_zip]
        unfold moms
        rw [List.length_map]
        omega
      · have hz : ∀ x ∈ moms cu.1, Sz 1500 x := fun x hx => by
          obtain ⟨a, ha, e⟩ := List.mem_map.mp hx
          rw [← e]
          exact ho.f.mo a ha
        exact rv_call2 (a := p.1) (b := p.2) (ra_cons (rv_sl sl6 rfl) (ra_cons (rv_sl sl6 rfl) ra_nil)) ⟨1500, 1500, hz _ (List.of_mem_zip hp).1, hz _ (List.mem_of_mem_drop (List.of_mem_zip hp).2), by decide⟩
    · have hup : ∀ p ∈ (moms cu.1).zip ((moms cu.1).drop 1), p.1 < p.2 := asc_ne (up_asc ho.w.up)
      have : (((moms cu.1).zip ((moms cu.1).drop 1)).map fun p : Rat × Rat => decide (p.1 < p.2)).all id = true := by
        rw [List.all_map, List.all_eq_true]
        exact fun p hp => decide_eq_true (hup p hp)
      rw [this]
      rfl
    refine t_next ?_
    dsimp only
    have sl6 := sl5.mono s6.g
    refine s_ret (T := Y.T) (R := IsD K (.bool true)) ?_ s6.t s6.s (k.of (st5.trans s6))
    have hn : Qk.normal cu.1 cu.2 = cu := by
      show (nrm none cu.1 cu.2, cu.2) = cu
      rw [show nrm none cu.1 cu.2 = cu.1 from ho.p]
    have e7 : PyData.eqv (dv (Qk.normal cu.1 cu.2)) (dv cu) = true := by
      rw [hn]
      exact SeqAt.eqv_refl _ (SeqAt.canLay_of_shaped (shaped_dv cu))
    rw [← e7]
    exact rv_eqD (Rv.vd (rv_callV2 (a := cu.1) (b := cu.2) (ra_cons (v0 sl6 rfl) (ra_cons (rv_v1 (a := cu) (rv_sl sl6 rfl)) ra_nil)) ho.f.slOk)) (rv_sl sl6 rfl) (shaped_dv _) (shaped_dv _)
end
end Qw
namespace Qw
open PySem PySem.Spec PyProof.Rows L2 LamX Qk
/-! ### _law_stretches -/
def dr (w : Qk.Row) : PyData := .tuple [dq w.1, dq w.2.1, dq w.2.2]
/-- the moments behind -/
def nexts (ms : List Rat) : List Rat := ms.drop 1 ++ [ms.getLast?.getD 0 + 1]
theorem rows_zip {f c : Cv} : ∀ ms : List Rat, rows f c ms = (ms.zip (nexts ms)).map fun p => (vl c p.1 - vl f p.1, vl c p.2 - vl f p.2, sp f p.1)
  | [] => rfl
  | [a] => rfl
  | a :: b :: r => by
    have i := rows_zip (f := f) (c := c) (b :: r)
    have e : nexts (a :: b :: r) = b :: nexts (b :: r) := rfl
    rw [e]
    show (_, _, _) :: rows f c (b :: r) = (_, _, _) :: ((b :: r).zip (nexts (b :: r))).map _
    rw [i]
/-- what the law's look at a found curve asks -/
structure LookOk (f c : Cv) : Prop where
  wf : WF f
  wc : WF c
  pf : Plain f
  ff : Fine f
  fc : Fine c
  few : FewQ (allMo [f, c])
  z : ∀ m ∈ momsOf [f, c] ++ nexts (momsOf [f, c]), Sz 1500 m ∧ SzP (vl c m) (vl f m)
theorem mem_nexts {ms : List Rat} (ha : Asc ms) (hp : ∀ m ∈ ms, 0 ≤ m) : ∀ m ∈ nexts ms, 0 ≤ m := fun m hm => by
  rcases List.mem_append.mp hm with h | h
  · exact hp m (List.mem_of_mem_drop h)
  · have e : m = ms.getLast?.getD 0 + 1 := by simpa using h
    rw [e]
    cases q : ms.getLast? with
    | none => show (0 : Rat) ≤ 0 + 1; grind
    | some z =>
      have := hp z (List.mem_of_getLast? q)
      show (0 : Rat) ≤ z + 1
      grind
theorem moms_pos {f c : Cv} (hf : WF f) (hc : WF c) : ∀ m ∈ momsOf [f, c], 0 ≤ m := by
  have hw : ∀ d ∈ [f, c], WF d := by
    intro d hd
    simp only [List.mem_cons, List.not_mem_nil, or_false] at hd
    rcases hd with e | e
    · rw [e]; exact hf
    · rw [e]; exact hc
  exact (grid_of hw (c := f) (by simp)).pos
theorem LookOk.at_ {f c : Cv} (h : LookOk f c) : ∀ m ∈ momsOf [f, c] ++ nexts (momsOf [f, c]), AtOk f m ∧ AtOk c m := fun m hm => by
  have h0 : 0 ≤ m := by
    rcases List.mem_append.mp hm with z | z
    · exact moms_pos h.wf h.wc m z
    · exact mem_nexts (asc_srt _) (moms_pos h.wf h.wc) m z
  exact ⟨⟨h.ff, (h.z m hm).1, fun a ha => by rw [h.wf.h0 a ha]; grind⟩, ⟨h.fc, (h.z m hm).1, fun a ha => by rw [h.wc.h0 a ha]; grind⟩⟩
section
variable {P : Program} {w : World} {K : PySem.W.Frag} {mg : Str → Option Value} {base : Heap}
abbrev s__law_stretches : Stmt := topS 78
theorem sc__law_stretches : FnScope ["_law_found", "_law_curve", "_law_some", "_law_rows", "_law_one", "_law_other", "_law_apart", "_law_moment"] ["_law_found", "_law_curve"] (defScope s__law_stretches) := ⟨rfl, rfl, rfl, by decide +kernel, rfl, by decide +kernel, by decide +kernel⟩
theorem ok__law_stretches (Y : Tx K mg base) : FnOk P w K mg base CX0 6 Y.f__law_stretches.a Y.f__law_stretches.fd ["_law_found", "_law_curve"] (Sp2 Y.T K dv dv LookOk fun f c => IsL K ((rows f c (momsOf [f, c])).map dr)) := by
  refine Y.f__law_stretches.F.ok sc__law_stretches (fun vs H Q E h => sp2_len h) (fun cdv A outer s H vs Q E hr h => ?_)
  obtain ⟨G, f, cu, c, ht, h, ho, k⟩ := h
  have sl := sl_start (N := ["_law_found", "_law_curve", "_law_some", "_law_rows", "_law_one", "_law_other", "_law_apart", "_law_moment"]) h (Nat.le_of_ble_eq_true rfl)
  have hat := ho.at_
  have hz := ho.z
  have hrows := rows_zip (f := f) (c := cu) (momsOf [f, cu])
  have hnl : (momsOf [f, cu]).length ≤ 50000 := by
    have hfew := ho.few.few
    have := srt_len (allMo [f, cu])
    have e : momsOf [f, cu] = srt (allMo [f, cu]) := rfl
    rw [e]
    omega
  obtain ⟨ms, hms⟩ : ∃ ms, ms = momsOf [f, cu] := ⟨_, rfl⟩
  rw [← hms] at hat hz hrows hnl
  have hne : ∃ z, ms.getLast? = some z := by
    have h0 : (0 : Rat) ∈ ms := by
      rw [hms]
      exact mem_momsOf.mpr ⟨f, by simp, wf_zero ho.wf⟩
    cases e : ms.getLast? with
    | none =>
      rw [List.getLast?_eq_none_iff.mp e] at h0
      cases h0
    | some z => exact ⟨z, rfl⟩
  obtain ⟨z0, hz0⟩ := hne
  obtain ⟨pre, hpre⟩ := List.getLast?_eq_some_iff.mp hz0
  have hnx : nexts ms = ms.drop 1 ++ [z0 + 1] := by
    unfold nexts
    rw [hz0]
    rfl
  refine ⟨_, (pss_cons (ps_par (i := 2) (j := 3) (by rfl) sc__law_stretches.nd rfl rfl (by decide) rfl rfl (pa_cons (pe_call (ok__law_c_moments Y) (hr.mono (by decide)) (by rfl) Y.f__law_c_moments.g Y.f__law_c_moments.F.kp Y.f__law_c_moments.b .nil pass0 (pa_cons (pe_lst (pa_cons (pv 0) (pa_cons (pv 1) pa_nil))) pa_nil)) (pa_cons (pe_lst pa_nil) pa_nil)) (by rfl))
      (pss_cons (ps_for PassesOwn.never rfl (pi_zip (by rfl) Y.z_zip (pa_cons (pv 2) (pa_cons (pe_op op_cat (pe_slice sl_list (pv 2) (po_some pe_int) po_none) (pe_lst (pa_cons (pe_call (ok__law_plus Y) (hr.mono (by decide)) (by rfl) Y.f__law_plus.g Y.f__law_plus.F.kp Y.f__law_plus.b .nil pass0 (pa_cons (pe_ix ix_list (pv 2) (pe_un un_neg pe_int) (fun _ _ => rfl)) (pa_cons (pe_tup (pa_cons pe_int (pa_cons pe_int pa_nil))) pa_nil))) pa_nil))) pa_nil))) (pg_tup rfl (pgs_cons (pg_name (i := 4) sc__law_stretches.nd rfl (Or.inl rfl)) (pgs_cons (pg_name (i := 5) sc__law_stretches.nd rfl (Or.inl rfl)) pgs_nil))) (pss_cons (ps_setLc (i := 6) (own := [("_law_moment", 7)]) (g := (gName 7)) rfl sc__law_stretches.nd rfl rfl (sw_true rfl rfl rfl (by decide +kernel)) (pi_tup (pe_tup (pa_cons (pv 4) (pa_cons (pv 5) pa_nil)))) (blkOk_by (N := ["_law_found", "_law_curve", "_law_some", "_law_rows", "_law_one", "_law_other", "_law_apart", "_law_moment"]) (sc := defScope s__law_stretches) (own := [("_law_moment", 7)]) (by decide +kernel)) (fun _ _ _ _ _ => (pg_name (i := 7) sc__law_stretches.nd rfl (Or.inl rfl))) (fun _ _ _ _ _ => pts_nil) (fun _ _ _ _ _ => (pe_call (ok__law_less Y) (hr.mono (by decide)) (by rfl) Y.f__law_less.g Y.f__law_less.F.kp Y.f__law_less.b .nil pass0 (pa_cons (pe_call (ok__law_c_worth Y) (hr.mono (by decide)) (by rfl) Y.f__law_c_worth.g Y.f__law_c_worth.F.kp Y.f__law_c_worth.b .nil pass0 (pa_cons (pv 1) (pa_cons (pv 7) pa_nil))) (pa_cons (pe_call (ok__law_c_worth Y) (hr.mono (by decide)) (by rfl) Y.f__law_c_worth.g Y.f__law_c_worth.F.kp Y.f__law_c_worth.b .nil pass0 (pa_cons (pv 0) (pa_cons (pv 7) pa_nil))) pa_nil)))))
      (pss_one (ps_expr (pe_bm PySem.F.plainAttrs_list PySem.F.slot_list_append PySem.F.type_list_append mt_append (pv 3) (pa_cons (pe_tup (pa_cons (pe_ix ix_list (pv 6) pe_int (fun _ _ => rfl)) (pa_cons (pe_ix ix_list (pv 6) pe_int (fun _ _ => rfl)) (pa_cons (pe_call (ok__law_c_slope Y) (hr.mono (by decide)) (by rfl) Y.f__law_c_slope.g Y.f__law_c_slope.F.kp Y.f__law_c_slope.b .nil pass0 (pa_cons (pv 0) (pa_cons (pv 4) pa_nil))) pa_nil)))) pa_nil))))))
      (pss_one (ps_ret (pv 3))))), ?_⟩
  refine q_parLS (T := Y.T) (d := .list (ms.map dq)) sl (Step.refl ht c) (by
    rw [hms]
    exact Rv.ld (rv_call1 (a := [f, cu]) (ra_cons (Rv.ld (rv_lst (ra_cons (rv_sl sl rfl) (ra_cons (rv_sl sl rfl) ra_nil)) (Nat.le_of_ble_eq_true rfl))) ra_nil) ho.few)) fun o σ1 G1 H1 w1 s1 sl1 => ?_
  have hzip : Ri Y.T K (iZip K (tCons (tVar 2) (tCons (tOp rCat (tSl (rSlL K) (tVar 2) (tPart (tC (.int 1))) tNoPart) (tLst (tCons (tCall (SpQ2 Y.T K (fun p q => p + q) SzP) [] E0 (tCons (tOp (rIxL K) (tVar 2) (tUn (rU fun i => .int (-i)) (tC (.int 1)))) (tCons (tTup (tCons (tC (.int 1)) (tCons (tC (.int 1)) tNil))) tNil))) tNil))) tNil))) σ1 G1 ((ms.zip (nexts ms)).map fun p => .tuple [dq p.1, dq p.2]) := by
    rw [← zip_dq2, hnx, List.map_append, List.map_drop]
    refine ri_zip (T := Y.T) (K := K) (ra_cons (rv_sl sl1 (i := 2) rfl) (ra_cons (Rv.ld (rv_cat (rv_from (k := 1) (rv_sl sl1 (i := 2) rfl)) (rv_lst (ra_cons (rv_call2 (a := z0) (b := 1) (ra_cons (rv_ixL (rv_sl sl1 (i := 2) rfl) (rv_neg rv_i) (by
      rw [hpre, List.map_append]
      exact atI_last _ _)) (ra_cons rv_one ra_nil)) ⟨1500, 1, (hz z0 (List.mem_append_left _ (List.mem_of_getLast? hz0))).1, sz_one, by decide⟩) ra_nil) (Nat.le_of_ble_eq_true rfl)) ?_)) ra_nil))
    rw [List.length_drop, List.length_map]
    show ms.length - 1 + 1 ≤ 100000
    omega
  refine q_for (T := Y.T) hzip s1.t s1.s fun G2 H2 s2 => ⟨fun i σ' G' H' => ∃ sa sb sc sd, Own Y.T K G H G' H' o (((rows f cu ms).take i).map dr) ∧ Same G2 G' ∧ Sl K G' σ' [.d (dv f), .d (dv cu), .d (.list (ms.map dq)), .v (.ref o), sa, sb, sc, sd],
    ⟨.no, .no, .no, .no, w1.step s2, Same.refl _, sl1.mono s2.g⟩, fun i σ' G' H' ⟨_, _, _, _, ow, e, _⟩ => ⟨e, ow.st.s, ow.st.t⟩, fun i d x σ' G' H' G'' H'' hd hP s3 hx => ?_, fun σ' G' H' hP => ?_⟩
  · obtain ⟨sa, sb, sc, sd, ow, e, sl2⟩ := hP
    obtain ⟨p, hp, rfl⟩ := map_get hd
    have hpm := List.mem_of_getElem? hp
    have m1 : p.1 ∈ ms ++ nexts ms := List.mem_append_left _ (List.of_mem_zip hpm).1
    have m2 : p.2 ∈ ms ++ nexts ms := List.mem_append_right _ (List.of_mem_zip hpm).2
    have hrow : (rows f cu ms)[i]? = some (vl cu p.1 - vl f p.1, vl cu p.2 - vl f p.2, sp f p.1) := by
      rw [hrows, List.getElem?_map, hp]
      rfl
    refine g_pair s3.s hx fun y z hy hz' => ?_
    have sl3 := ((sl2.mono s3.g).set (i := 4) hy).set (i := 5) hz'
    have ow3 := ow.step s3
    refine q_setS (T := Y.T) (d := .list ([p.1, p.2].map fun m => dq (vl cu m - vl f m))) sl3 (Rv.ld (rv_lcNS (A := dq) (B := fun m : Rat => dq (vl cu m - vl f m)) (xs := [p.1, p.2]) sl3 (ri_tup (rv_tup (ra_cons (rv_sl sl3 rfl) (ra_cons (rv_sl sl3 rfl) ra_nil)) (Nat.le_of_ble_eq_true rfl))) (Nat.le_of_ble_eq_true rfl) (by decide) fun m hm σ4 G4 e4 sl4 => ?_)) s3.t s3.s fun σ5 G5 H5 s5 sl5 => ?_
    · have hmm : m ∈ ms ++ nexts ms := by
        simp only [List.mem_cons, List.not_mem_nil, or_false] at hm
        rcases hm with e | e <;> rw [e]
        · exact m1
        · exact m2
      exact rv_call2 (a := vl cu m) (b := vl f m) (ra_cons (rv_call2 (a := cu) (b := m) (ra_cons (rv_sl sl4 rfl) (ra_cons (rv_sl sl4 rfl) ra_nil)) (hat m hmm).2) (ra_cons (rv_call2 (a := f) (b := m) (ra_cons (rv_sl sl4 rfl) (ra_cons (rv_sl sl4 rfl) ra_nil)) (hat m hmm).1) ra_nil)) (hz m hmm).2
    · have ow5 := ow3.step s5
      have hl : ((rows f cu ms).take i).length < 100000 := by
        rw [List.length_take, hrows, List.length_map, List.length_zip]
        omega
      refine s_outS (T := Y.T) (d := dr (vl cu p.1 - vl f p.1, vl cu p.2 - vl f p.2, sp f p.1)) sl5 ow5 rfl (rv_tup (ra_cons (rv_ixL (rv_sl sl5 rfl) rv_i (atI_nat (j := 0) rfl)) (ra_cons (rv_ixL (rv_sl sl5 rfl) rv_i (atI_nat (j := 1) rfl)) (ra_cons (rv_call2 (a := f) (b := p.1) (ra_cons (rv_sl sl5 rfl) (ra_cons (rv_sl sl5 rfl) ra_nil)) (hat p.1 m1).1) ra_nil))) (Nat.le_of_ble_eq_true rfl)) (by
        rw [List.length_map]
        exact hl) fun G6 H6 ow6 e6 sl6 => ⟨G6, _, _, _, _, ?_, Same.trans (Same.trans (Same.trans e s3.g) s5.g) e6, sl6⟩
      rw [take_snoc hrow, List.map_append]
      exact ow6
  · obtain ⟨sa, sb, sc, sd, ow, e, sl2⟩ := hP
    have hl : ((ms.zip (nexts ms)).map fun p : Rat × Rat => PyData.tuple [dq p.1, dq p.2]).length = (rows f cu ms).length := by
      rw [hrows, List.length_map, List.length_map]
    rw [hl, List.take_length] at ow
    obtain ⟨G3, st3, e3, il⟩ := ow.take
    refine s_ret (T := Y.T) (R := IsL K ((rows f cu (momsOf [f, cu])).map dr)) ?_ st3.t st3.s (k.of st3)
    rw [← hms]
    exact rv_var ((sl2.mono e3).getV (i := 3) (x := .ref o) rfl) il
end
end Qw
namespace Qw
open PySem PySem.Spec PyProof.Rows L2 LamX Qk
section
variable {T : List (Addr × Str)} {K : PySem.W.Frag} {σ : L2.St} {G : Hp} {te : TE}
/-- the worth of the first corner -/
theorem rv_head {c : Cv} {w : Rat} {r : List Cn} (h : Rv T te σ G (IsD K (dv c))) (e : c.1 = (0, w) :: r) : Rv T (tOp (rIxT K) (tOp (rIxL K) (tOp (rIxT K) te (tC (.int 0))) (tC (.int 0))) (tC (.int 1))) σ G (IsD K (dq w)) :=
  rv_c1 (a := (0, w)) (rv_ixL (rv_v0 (a := c) h) rv_i (by rw [e]; exact atI_nat (j := 0) rfl))
end
theorem rows_len (f c : Cv) : ∀ ms : List Rat, (rows f c ms).length = ms.length
  | [] => rfl
  | [_] => rfl
  | a :: b :: r => congrArg (· + 1) (rows_len f c (b :: r))
/-- the row's signs as the law asks for them -/
theorem neg_no {q : Rat} (h : ¬ q < 0) : decide (q.num < 0) = false := decide_eq_false fun z => h (q_num_neg.mp z)
theorem pos_no {q : Rat} (h : ¬ 0 < q) : decide (0 < q.num) = false := decide_eq_false fun z => h (q_num_pos.mp z)
section
variable {P : Program} {w : World} {K : PySem.W.Frag} {mg : Str → Option Value} {base : Heap}
theorem told_of {f c : Cv} (h : LookOk f c) : ToldOk f := ⟨h.wf, h.pf, h.ff⟩
/-! ### _law_risen_right -/
abbrev s__law_risen_right : Stmt := topS 79
theorem sc__law_risen_right : FnScope ["_law_found", "_law_curve", "_law_first", "_law_last", "_law_slope"] ["_law_found", "_law_curve"] (defScope s__law_risen_right) := ⟨rfl, rfl, rfl, by decide +kernel, rfl, by decide +kernel, by decide +kernel⟩
theorem ok__law_risen_right (Y : Tx K mg base) : FnOk P w K mg base CX0 7 Y.f__law_risen_right.a Y.f__law_risen_right.fd ["_law_found", "_law_curve"] (Sp2 Y.T K dv dv (fun f c => LookOk f c ∧ Risen f c) fun _ _ => IsD K (.bool true)) := by
  refine Y.f__law_risen_right.F.ok sc__law_risen_right (fun vs H Q E h => sp2_len h) (fun cdv A outer s H vs Q E hr h => ?_)
  obtain ⟨G, f, cu, c, ht, h, ⟨ho, hR⟩, k⟩ := h
  have sl := sl_start (N := ["_law_found", "_law_curve", "_law_first", "_law_last", "_law_slope"]) h (Nat.le_of_ble_eq_true rfl)
  obtain ⟨wf0, rf0, ef⟩ := cons_of ho.wf
  obtain ⟨wc0, rc0, ec⟩ := cons_of ho.wc
  have hw : wf0 = wc0 := by
    have := hR.zero
    rw [vl_zero ho.wf ef, vl_zero ho.wc ec] at this
    exact this
  have hrr := risen_rows ho.wf ho.wc hR
  refine ⟨_, (pss_cons (ps_if (PW.pt (pw_or (pt_not (pt_val (pe_call (ok__law_c_is_told Y) (hr.mono (by decide)) (by rfl) Y.f__law_c_is_told.g Y.f__law_c_is_told.F.kp Y.f__law_c_is_told.b .nil pass0 (pa_cons (pv 0) pa_nil)))) (pw_or1 (pt_cmpR (op_neD hr.units) (pe_ix ix_tup (pe_ix ix_list (pe_ix ix_tup (pv 0) pe_int (fun _ _ => rfl)) pe_int (fun _ _ => rfl)) pe_int (fun _ _ => rfl)) (pe_ix ix_tup (pe_ix ix_list (pe_ix ix_tup (pv 1) pe_int (fun _ _ => rfl)) pe_int (fun _ _ => rfl)) pe_int (fun _ _ => rfl)) (nomark _))))) (pss_one (ps_ret pe_bl)) pss_nil)
      (pss_cons (ps_for PassesOwn.never rfl (pi_list (pe_call (ok__law_stretches Y) (hr.mono (by decide)) (by rfl) Y.f__law_stretches.g Y.f__law_stretches.F.kp Y.f__law_stretches.b .nil pass0 (pa_cons (pv 0) (pa_cons (pv 1) pa_nil)))) (pg_tup rfl (pgs_cons (pg_name (i := 2) sc__law_risen_right.nd rfl (Or.inl rfl)) (pgs_cons (pg_name (i := 3) sc__law_risen_right.nd rfl (Or.inl rfl)) (pgs_cons (pg_name (i := 4) sc__law_risen_right.nd rfl (Or.inl rfl)) pgs_nil)))) (pss_one (ps_if (PW.pt (pw_or (pt_cmpR op_lt (pe_ix ix_tup (pv 4) pe_int (fun _ _ => rfl)) pe_int (nomark _)) (pw_or (pt_cmpR op_gt (pe_ix ix_tup (pv 2) pe_int (fun _ _ => rfl)) pe_int (nomark _)) (pw_or (pt_cmpR op_gt (pe_ix ix_tup (pv 3) pe_int (fun _ _ => rfl)) pe_int (nomark _)) (pw_or1 (PW.pt (pw_and (pt_cmpR op_gt (pe_ix ix_tup (pv 4) pe_int (fun _ _ => rfl)) pe_int (nomark _)) (pw_and1 (PW.pt (pw_or (pt_cmpR op_lt (pe_ix ix_tup (pv 2) pe_int (fun _ _ => rfl)) pe_int (nomark _)) (pw_or1 (pt_cmpR op_lt (pe_ix ix_tup (pv 3) pe_int (fun _ _ => rfl)) pe_int (nomark _))))))))))))) (pss_one (ps_ret pe_bl)) pss_nil)))
      (pss_one (ps_ret (pe_cmpR (op_eqD hr.units) (pe_ix ix_tup (pv 0) pe_int (fun _ _ => rfl)) (pe_ifExp (pt_cmpR op_le (pe_ix ix_tup (pe_ix ix_tup (pv 1) pe_int (fun _ _ => rfl)) pe_int (fun _ _ => rfl)) pe_int (nomark _)) (pe_tup (pa_cons pe_int (pa_cons pe_int pa_nil))) (pe_ix ix_tup (pv 1) pe_int (fun _ _ => rfl))) (nomark _)))))), ?_⟩
  refine q_if (T := Y.T) (b := false) (rt_or (a := false) (b := false) (rt_not (a := true) (rt_B (rv_call1 (a := f) (ra_cons (rv_sl sl rfl) ra_nil) (told_of ho)))) fun _ => (rt_test (rv_neD (rv_head (rv_sl sl rfl) ef) (rv_head (rv_sl sl rfl) ec) (shaped_dq _) (shaped_dq _))).to (by rw [eqv_dq, decide_eq_true hw]; rfl)) ht c (fun hb => nomatch hb) (fun hb G1 H1 s1 => ?_)
  refine t_next ?_
  dsimp only
  have sl1 := sl.mono s1.g
  refine q_for (T := Y.T) (ri_list (Rv.ld (rv_call2 (a := f) (b := cu) (ra_cons (rv_sl sl1 rfl) (ra_cons (rv_sl sl1 rfl) ra_nil)) ho))) s1.t s1.s fun G2 H2 s2 => ⟨fun i σ' G' H' => ∃ sa sb sc, Step Y.T G H G' H' ∧ Same G2 G' ∧ Sl K G' σ' [.d (dv f), .d (dv cu), sa, sb, sc],
    ⟨.no, .no, .no, s1.trans s2, Same.refl _, sl1.mono s2.g⟩, fun i σ' G' H' ⟨_, _, _, st, e, _⟩ => ⟨e, st.s, st.t⟩, fun i d x σ' G' H' G'' H'' hd hP s3 hx => ?_, fun σ' G' H' hP => ?_⟩
  · obtain ⟨sa, sb, sc, st, e, sl2⟩ := hP
    obtain ⟨ww, hww, rfl⟩ := map_get hd
    obtain ⟨h1, h2, h3, h4⟩ := hrr ww (List.mem_of_getElem? hww)
    refine g_three s3.s hx fun y z u hy hz hu => ?_
    have sl3 := (((sl2.mono s3.g).set (i := 2) hy).set (i := 3) hz).set (i := 4) hu
    refine s_if (T := Y.T) (b := false) ((rt_or (rt_test (rv_lt (rv_num (q := ww.2.2) (rv_sl sl3 rfl)) rv_i)) fun _ => rt_or (rt_test (rv_gt (rv_num (q := ww.1) (rv_sl sl3 rfl)) rv_i)) fun _ => rt_or (rt_test (rv_gt (rv_num (q := ww.2.1) (rv_sl sl3 rfl)) rv_i)) fun _ => rt_and (rt_test (rv_gt (rv_num (q := ww.2.2) (rv_sl sl3 rfl)) rv_i)) fun _ => rt_or (rt_test (rv_lt (rv_num (q := ww.1) (rv_sl sl3 rfl)) rv_i)) fun _ => rt_test (rv_lt (rv_num (q := ww.2.1) (rv_sl sl3 rfl)) rv_i)).to ?_) s3.t s3.s (fun hb => nomatch hb) (fun hb G4 H4 s4 => ⟨G4, _, _, _, (st.trans s3).trans s4, Same.trans (Same.trans e s3.g) s4.g, sl3.mono s4.g⟩)
    rw [neg_no h1, pos_no h2, pos_no h3]
    by_cases hs : ww.2.2 = 0
    · have : decide (0 < ww.2.2.num) = false := pos_no (by rw [hs]; exact fun z => by grind)
      rw [this]
      rfl
    · obtain ⟨z1, z2⟩ := h4 hs
      have y1 : decide (ww.1.num < 0) = false := neg_no (by rw [z1]; exact fun z => by grind)
      have y2 : decide (ww.2.1.num < 0) = false := neg_no (by rw [z2]; exact fun z => by grind)
      rw [y1, y2]
      cases decide (0 < ww.2.2.num) <;> rfl
  · obtain ⟨sa, sb, sc, st, e, sl2⟩ := hP
    refine s_ret (T := Y.T) (R := IsD K (.bool true)) ((rv_eqD (d := dq f.2) (e := dq (if cu.2 ≤ 0 then 0 else cu.2)) (rv_v1 (a := f) (rv_sl sl2 rfl)) (rv_if (b := decide (cu.2.num ≤ 0)) (rt_test (rv_le (rv_num (q := cu.2) (rv_v1 (a := cu) (rv_sl sl2 rfl))) rv_i)) (fun hb => ?_) (fun hb => ?_)) (shaped_dq _) (shaped_dq _)).to (by rw [eqv_dq, hR.last, decide_eq_true rfl])) st.t st.s (k.of st)
    · have hb : cu.2.num ≤ 0 := of_decide_eq_true hb
      have : cu.2 ≤ 0 := by
        have : ¬ 0 < cu.2 := fun z => by
          have := q_num_pos.mpr z
          omega
        grind
      rw [if_pos this]
      exact rv_zero
    · have hb : ¬ cu.2.num ≤ 0 := of_decide_eq_false hb
      have : ¬ cu.2 ≤ 0 := by
        have : 0 < cu.2 := q_num_pos.mp (by omega)
        grind
      rw [if_neg this]
      exact rv_v1 (a := cu) (rv_sl sl2 rfl)
/-! ### _law_held_right, _law_pushed_right -/
structure MostOk (f c : Cv) (m : Rat) : Prop where
  z : Sz 1000 m
  s : ∀ w ∈ rows f c (momsOf [f, c]), Sz 4500 w.2.2
  l : Sz 4500 c.2
abbrev s__law_held_right : Stmt := topS 80
theorem sc__law_held_right : FnScope ["_law_found", "_law_curve", "_law_most", "_law_first", "_law_last", "_law_slope"] ["_law_found", "_law_curve", "_law_most"] (defScope s__law_held_right) := ⟨rfl, rfl, rfl, by decide +kernel, rfl, by decide +kernel, by decide +kernel⟩
theorem ok__law_held_right (Y : Tx K mg base) : FnOk P w K mg base CX0 7 Y.f__law_held_right.a Y.f__law_held_right.fd ["_law_found", "_law_curve", "_law_most"] (Sp3 Y.T K dv dv dq (fun f c m => LookOk f c ∧ Held f c m ∧ MostOk f c m) fun _ _ _ => IsD K (.bool true)) := by
  refine Y.f__law_held_right.F.ok sc__law_held_right (fun vs H Q E h => sp3_len h) (fun cdv A outer s H vs Q E hr h => ?_)
  obtain ⟨G, f, cu, m, c, ht, h, ⟨ho, hR, hM⟩, k⟩ := h
  have sl := sl_start (N := ["_law_found", "_law_curve", "_law_most", "_law_first", "_law_last", "_law_slope"]) h (Nat.le_of_ble_eq_true rfl)
  obtain ⟨wf0, rf0, ef⟩ := cons_of ho.wf
  obtain ⟨wc0, rc0, ec⟩ := cons_of ho.wc
  have hw : wf0 = wc0 := by
    have := hR.zero
    rw [vl_zero ho.wf ef, vl_zero ho.wc ec] at this
    exact this
  have hrr := held_rows ho.wf ho.wc hR
  refine ⟨_, (pss_cons (ps_if (PW.pt (pw_or (pt_not (pt_val (pe_call (ok__law_c_is_told Y) (hr.mono (by decide)) (by rfl) Y.f__law_c_is_told.g Y.f__law_c_is_told.F.kp Y.f__law_c_is_told.b .nil pass0 (pa_cons (pv 0) pa_nil)))) (pw_or1 (pt_cmpR (op_neD hr.units) (pe_ix ix_tup (pe_ix ix_list (pe_ix ix_tup (pv 0) pe_int (fun _ _ => rfl)) pe_int (fun _ _ => rfl)) pe_int (fun _ _ => rfl)) (pe_ix ix_tup (pe_ix ix_list (pe_ix ix_tup (pv 1) pe_int (fun _ _ => rfl)) pe_int (fun _ _ => rfl)) pe_int (fun _ _ => rfl)) (nomark _))))) (pss_one (ps_ret pe_bl)) pss_nil)
      (pss_cons (ps_for PassesOwn.never rfl (pi_list (pe_call (ok__law_stretches Y) (hr.mono (by decide)) (by rfl) Y.f__law_stretches.g Y.f__law_stretches.F.kp Y.f__law_stretches.b .nil pass0 (pa_cons (pv 0) (pa_cons (pv 1) pa_nil)))) (pg_tup rfl (pgs_cons (pg_name (i := 3) sc__law_held_right.nd rfl (Or.inl rfl)) (pgs_cons (pg_name (i := 4) sc__law_held_right.nd rfl (Or.inl rfl)) (pgs_cons (pg_name (i := 5) sc__law_held_right.nd rfl (Or.inl rfl)) pgs_nil)))) (pss_cons (ps_if (PW.pt (pw_or (pt_val (pe_call (ok__law_is_below Y) (hr.mono (by decide)) (by rfl) Y.f__law_is_below.g Y.f__law_is_below.F.kp Y.f__law_is_below.b .nil pass0 (pa_cons (pv 2) (pa_cons (pv 5) pa_nil)))) (pw_or (pt_cmpR op_lt (pe_ix ix_tup (pv 3) pe_int (fun _ _ => rfl)) pe_int (nomark _)) (pw_or1 (pt_cmpR op_lt (pe_ix ix_tup (pv 4) pe_int (fun _ _ => rfl)) pe_int (nomark _)))))) (pss_one (ps_ret pe_bl)) pss_nil)
      (pss_one (ps_if (PW.pt (pw_and (pt_cmpR (op_neD hr.units) (pv 5) (pv 2) (nomark _)) (pw_and1 (PW.pt (pw_or (pt_cmpR op_gt (pe_ix ix_tup (pv 3) pe_int (fun _ _ => rfl)) pe_int (nomark _)) (pw_or1 (pt_cmpR op_gt (pe_ix ix_tup (pv 4) pe_int (fun _ _ => rfl)) pe_int (nomark _)))))))) (pss_one (ps_ret pe_bl)) pss_nil))))
      (pss_one (ps_ret (pe_cmpR (op_eqD hr.units) (pe_ix ix_tup (pv 0) pe_int (fun _ _ => rfl)) (pe_call (ok__law_least Y) (hr.mono (by decide)) (by rfl) Y.f__law_least.g Y.f__law_least.F.kp Y.f__law_least.b .nil pass0 (pa_cons (pe_lst (pa_cons (pv 2) (pa_cons (pe_ix ix_tup (pv 1) pe_int (fun _ _ => rfl)) pa_nil))) pa_nil)) (nomark _)))))), ?_⟩
  refine q_if (T := Y.T) (b := false) (rt_or (a := false) (b := false) (rt_not (a := true) (rt_B (rv_call1 (a := f) (ra_cons (rv_sl sl rfl) ra_nil) (told_of ho)))) fun _ => (rt_test (rv_neD (rv_head (rv_sl sl rfl) ef) (rv_head (rv_sl sl rfl) ec) (shaped_dq _) (shaped_dq _))).to (by rw [eqv_dq, decide_eq_true hw]; rfl)) ht c (fun hb => nomatch hb) (fun hb G1 H1 s1 => ?_)
  refine t_next ?_
  dsimp only
  have sl1 := sl.mono s1.g
  refine q_for (T := Y.T) (ri_list (Rv.ld (rv_call2 (a := f) (b := cu) (ra_cons (rv_sl sl1 rfl) (ra_cons (rv_sl sl1 rfl) ra_nil)) ho))) s1.t s1.s fun G2 H2 s2 => ⟨fun i σ' G' H' => ∃ sa sb sc, Step Y.T G H G' H' ∧ Same G2 G' ∧ Sl K G' σ' [.d (dv f), .d (dv cu), .d (dq m), sa, sb, sc],
    ⟨.no, .no, .no, s1.trans s2, Same.refl _, sl1.mono s2.g⟩, fun i σ' G' H' ⟨_, _, _, st, e, _⟩ => ⟨e, st.s, st.t⟩, fun i d x σ' G' H' G'' H'' hd hP s3 hx => ?_, fun σ' G' H' hP => ?_⟩
  · obtain ⟨sa, sb, sc, st, e, sl2⟩ := hP
    obtain ⟨ww, hww, rfl⟩ := map_get hd
    have hwm := List.mem_of_getElem? hww
    obtain ⟨h1, h2, h3, h4⟩ := hrr ww hwm
    refine g_three s3.s hx fun y z u hy hz hu => ?_
    have sl3 := (((sl2.mono s3.g).set (i := 3) hy).set (i := 4) hz).set (i := 5) hu
    refine q_if (T := Y.T) (b := false) ((rt_or (rt_B (rv_call2 (a := m) (b := ww.2.2) (ra_cons (rv_sl sl3 rfl) (ra_cons (rv_sl sl3 rfl) ra_nil)) ⟨1000, 4500, hM.z, hM.s ww hwm, by decide⟩)) fun _ => rt_or (rt_test (rv_lt (rv_num (q := ww.1) (rv_sl sl3 rfl)) rv_i)) fun _ => rt_test (rv_lt (rv_num (q := ww.2.1) (rv_sl sl3 rfl)) rv_i)).to ?_) s3.t s3.s (fun hb => nomatch hb) (fun hb G4 H4 s4 => ?_)
    · rw [decide_eq_false h1, neg_no h2, neg_no h3]
      rfl
    refine t_next ?_
    dsimp only
    have sl4 := sl3.mono s4.g
    refine s_if (T := Y.T) (b := false) ((rt_and (rt_test (rv_neD (d := dq ww.2.2) (e := dq m) (rv_sl sl4 rfl) (rv_sl sl4 rfl) (shaped_dq _) (shaped_dq _))) fun _ => rt_or (rt_test (rv_gt (rv_num (q := ww.1) (rv_sl sl4 rfl)) rv_i)) fun _ => rt_test (rv_gt (rv_num (q := ww.2.1) (rv_sl sl4 rfl)) rv_i)).to ?_) s4.t s4.s (fun hb => nomatch hb) (fun hb G5 H5 s5 => ⟨G5, _, _, _, ((st.trans s3).trans s4).trans s5, Same.trans (Same.trans (Same.trans e s3.g) s4.g) s5.g, sl4.mono s5.g⟩)
    rw [eqv_dq]
    by_cases hs : ww.2.2 = m
    · rw [decide_eq_true hs]
      rfl
    · obtain ⟨z1, z2⟩ := h4 hs
      have y1 : decide (0 < ww.1.num) = false := pos_no (by rw [z1]; exact fun z => by grind)
      have y2 : decide (0 < ww.2.1.num) = false := pos_no (by rw [z2]; exact fun z => by grind)
      rw [y1, y2]
      cases decide (ww.2.2 = m) <;> rfl
  · obtain ⟨sa, sb, sc, st, e, sl2⟩ := hP
    refine s_ret (T := Y.T) (R := IsD K (.bool true)) ((rv_eqD (d := dq f.2) (e := dq (if cu.2 < m then cu.2 else m)) (rv_v1 (a := f) (rv_sl sl2 rfl)) ?_ (shaped_dq _) (shaped_dq _)).to (by rw [eqv_dq, hR.last, decide_eq_true rfl])) st.t st.s (k.of st)
    have e1 : (if cu.2 < m then cu.2 else m) = [m, cu.2].foldl rmin ([m, cu.2].headD 0) := by
      show _ = rmin (rmin m m) cu.2
      have : rmin m m = m := by
        unfold rmin
        split <;> rfl
      rw [this]
      rfl
    rw [e1]
    exact rv_call1 (a := [m, cu.2]) (ra_cons (Rv.ld (rv_lst (ra_cons (rv_sl sl2 rfl) (ra_cons (rv_v1 (a := cu) (rv_sl sl2 rfl)) ra_nil)) (Nat.le_of_ble_eq_true rfl))) ra_nil) ⟨by simp, fun q hq => by
      simp only [List.mem_cons, List.not_mem_nil, or_false] at hq
      rcases hq with z | z <;> rw [z]
      · exact hM.z.mono (by decide)
      · exact hM.l⟩
abbrev s__law_pushed_right : Stmt := topS 81
theorem sc__law_pushed_right : FnScope ["_law_found", "_law_curve", "_law_most", "_law_rows", "_law_first", "_law_last", "_law_slope"] ["_law_found", "_law_curve", "_law_most"] (defScope s__law_pushed_right) := ⟨rfl, rfl, rfl, by decide +kernel, rfl, by decide +kernel, by decide +kernel⟩
theorem ok__law_pushed_right (Y : Tx K mg base) : FnOk P w K mg base CX0 7 Y.f__law_pushed_right.a Y.f__law_pushed_right.fd ["_law_found", "_law_curve", "_law_most"] (Sp3 Y.T K dv dv dq (fun f c m => LookOk f c ∧ Pushed f c m ∧ MostOk f c m ∧ ∀ w, (rows f c (momsOf [f, c])).getLast? = some w → w.1 = 0 ∧ w.2.1 = 0) fun _ _ _ => IsD K (.bool true)) := by
  refine Y.f__law_pushed_right.F.ok sc__law_pushed_right (fun vs H Q E h => sp3_len h) (fun cdv A outer s H vs Q E hr h => ?_)
  obtain ⟨G, f, cu, m, c, ht, h, ⟨ho, hR, hM, hL⟩, k⟩ := h
  have sl := sl_start (N := ["_law_found", "_law_curve", "_law_most", "_law_rows", "_law_first", "_law_last", "_law_slope"]) h (Nat.le_of_ble_eq_true rfl)
  have hrr := pushed_rows ho.wf ho.wc hR
  refine ⟨_, (pss_cons (ps_if (PW.pt (pw_or (pt_not (pt_val (pe_call (ok__law_c_is_told Y) (hr.mono (by decide)) (by rfl) Y.f__law_c_is_told.g Y.f__law_c_is_told.F.kp Y.f__law_c_is_told.b .nil pass0 (pa_cons (pv 0) pa_nil)))) (pw_or1 (pt_cmpR (op_neD hr.units) (pe_ix ix_tup (pv 0) pe_int (fun _ _ => rfl)) (pe_ix ix_tup (pv 1) pe_int (fun _ _ => rfl)) (nomark _))))) (pss_one (ps_ret pe_bl)) pss_nil)
      (pss_cons (ps_set (i := 3) sc__law_pushed_right.nd rfl (Or.inl rfl) (pe_call (ok__law_stretches Y) (hr.mono (by decide)) (by rfl) Y.f__law_stretches.g Y.f__law_stretches.F.kp Y.f__law_stretches.b .nil pass0 (pa_cons (pv 0) (pa_cons (pv 1) pa_nil))))
      (pss_cons (ps_for PassesOwn.never rfl (pi_list (pv 3)) (pg_tup rfl (pgs_cons (pg_name (i := 4) sc__law_pushed_right.nd rfl (Or.inl rfl)) (pgs_cons (pg_name (i := 5) sc__law_pushed_right.nd rfl (Or.inl rfl)) (pgs_cons (pg_name (i := 6) sc__law_pushed_right.nd rfl (Or.inl rfl)) pgs_nil)))) (pss_cons (ps_if (PW.pt (pw_or (pt_val (pe_call (ok__law_is_below Y) (hr.mono (by decide)) (by rfl) Y.f__law_is_below.g Y.f__law_is_below.F.kp Y.f__law_is_below.b .nil pass0 (pa_cons (pv 2) (pa_cons (pv 6) pa_nil)))) (pw_or (pt_cmpR op_gt (pe_ix ix_tup (pv 4) pe_int (fun _ _ => rfl)) pe_int (nomark _)) (pw_or1 (pt_cmpR op_gt (pe_ix ix_tup (pv 5) pe_int (fun _ _ => rfl)) pe_int (nomark _)))))) (pss_one (ps_ret pe_bl)) pss_nil)
      (pss_one (ps_if (PW.pt (pw_and (pt_cmpR (op_neD hr.units) (pv 6) (pv 2) (nomark _)) (pw_and1 (PW.pt (pw_or (pt_cmpR op_lt (pe_ix ix_tup (pv 4) pe_int (fun _ _ => rfl)) pe_int (nomark _)) (pw_or1 (pt_cmpR op_lt (pe_ix ix_tup (pv 5) pe_int (fun _ _ => rfl)) pe_int (nomark _)))))))) (pss_one (ps_ret pe_bl)) pss_nil))))
      (pss_one (ps_ret (pe_and (pe_cmpR op_eq (pe_ix ix_tup (pe_ix ix_tup (pe_ix ix_list (pv 3) (pe_un un_neg pe_int) (fun _ _ => rfl)) pe_int (fun _ _ => rfl)) pe_int (fun _ _ => rfl)) pe_int (nomark _)) (pe_one (pe_cmpR op_eq (pe_ix ix_tup (pe_ix ix_tup (pe_ix ix_list (pv 3) (pe_un un_neg pe_int) (fun _ _ => rfl)) pe_int (fun _ _ => rfl)) pe_int (fun _ _ => rfl)) pe_int (nomark _))))))))), ?_⟩
  refine q_if (T := Y.T) (b := false) (rt_or (a := false) (b := false) (rt_not (a := true) (rt_B (rv_call1 (a := f) (ra_cons (rv_sl sl rfl) ra_nil) (told_of ho)))) fun _ => (rt_test (rv_neD (rv_v1 (a := f) (rv_sl sl rfl)) (rv_v1 (a := cu) (rv_sl sl rfl)) (shaped_dq _) (shaped_dq _))).to (by rw [eqv_dq, decide_eq_true hR.last]; rfl)) ht c (fun hb => nomatch hb) (fun hb G1 H1 s1 => ?_)
  refine t_next ?_
  dsimp only
  have sl1 := sl.mono s1.g
  obtain ⟨rw', hrw⟩ : ∃ rw', rw' = rows f cu (momsOf [f, cu]) := ⟨_, rfl⟩
  refine q_setS (T := Y.T) (d := .list (rw'.map dr)) sl1 (by
    rw [hrw]
    exact Rv.ld (rv_call2 (a := f) (b := cu) (ra_cons (rv_sl sl1 rfl) (ra_cons (rv_sl sl1 rfl) ra_nil)) ho)) s1.t s1.s fun σ1 G1b H1b s1b sl1b => ?_
  rw [← hrw] at hrr hL
  have hMs := hM.s
  rw [← hrw] at hMs
  refine q_for (T := Y.T) (ri_list (rv_sl sl1b rfl)) s1b.t s1b.s fun G2 H2 s2 => ⟨fun i σ' G' H' => ∃ sa sb sc, Step Y.T G H G' H' ∧ Same G2 G' ∧ Sl K G' σ' [.d (dv f), .d (dv cu), .d (dq m), .d (.list (rw'.map dr)), sa, sb, sc],
    ⟨.no, .no, .no, (s1.trans s1b).trans s2, Same.refl _, sl1b.mono s2.g⟩, fun i σ' G' H' ⟨_, _, _, st, e, _⟩ => ⟨e, st.s, st.t⟩, fun i d x σ' G' H' G'' H'' hd hP s3 hx => ?_, fun σ' G' H' hP => ?_⟩
  · obtain ⟨sa, sb, sc, st, e, sl2⟩ := hP
    obtain ⟨ww, hww, rfl⟩ := map_get hd
    have hwm := List.mem_of_getElem? hww
    obtain ⟨h1, h2, h3, h4⟩ := hrr ww hwm
    refine g_three s3.s hx fun y z u hy hz hu => ?_
    have sl3 := (((sl2.mono s3.g).set (i := 4) hy).set (i := 5) hz).set (i := 6) hu
    refine q_if (T := Y.T) (b := false) ((rt_or (rt_B (rv_call2 (a := m) (b := ww.2.2) (ra_cons (rv_sl sl3 rfl) (ra_cons (rv_sl sl3 rfl) ra_nil)) ⟨1000, 4500, hM.z, hMs ww hwm, by decide⟩)) fun _ => rt_or (rt_test (rv_gt (rv_num (q := ww.1) (rv_sl sl3 rfl)) rv_i)) fun _ => rt_test (rv_gt (rv_num (q := ww.2.1) (rv_sl sl3 rfl)) rv_i)).to ?_) s3.t s3.s (fun hb => nomatch hb) (fun hb G4 H4 s4 => ?_)
    · rw [decide_eq_false h1, pos_no h2, pos_no h3]
      rfl
    refine t_next ?_
    dsimp only
    have sl4 := sl3.mono s4.g
    refine s_if (T := Y.T) (b := false) ((rt_and (rt_test (rv_neD (d := dq ww.2.2) (e := dq m) (rv_sl sl4 rfl) (rv_sl sl4 rfl) (shaped_dq _) (shaped_dq _))) fun _ => rt_or (rt_test (rv_lt (rv_num (q := ww.1) (rv_sl sl4 rfl)) rv_i)) fun _ => rt_test (rv_lt (rv_num (q := ww.2.1) (rv_sl sl4 rfl)) rv_i)).to ?_) s4.t s4.s (fun hb => nomatch hb) (fun hb G5 H5 s5 => ⟨G5, _, _, _, ((st.trans s3).trans s4).trans s5, Same.trans (Same.trans (Same.trans e s3.g) s4.g) s5.g, sl4.mono s5.g⟩)
    rw [eqv_dq]
    by_cases hs : ww.2.2 = m
    · rw [decide_eq_true hs]
      rfl
    · obtain ⟨z1, z2⟩ := h4 hs
      have y1 : decide (ww.1.num < 0) = false := neg_no (by rw [z1]; exact fun z => by grind)
      have y2 : decide (ww.2.1.num < 0) = false := neg_no (by rw [z2]; exact fun z => by grind)
      rw [y1, y2]
      cases decide (ww.2.2 = m) <;> rfl
  · obtain ⟨sa, sb, sc, st, e, sl2⟩ := hP
    obtain ⟨z0, hz0⟩ : ∃ z, (momsOf [f, cu]).getLast? = some z := by
      have h0 : (0 : Rat) ∈ momsOf [f, cu] := mem_momsOf.mpr ⟨f, by simp, wf_zero ho.wf⟩
      cases e : (momsOf [f, cu]).getLast? with
      | none =>
        rw [List.getLast?_eq_none_iff.mp e] at h0
        cases h0
      | some z => exact ⟨z, rfl⟩
    have hlast := rows_last (f := f) (c := cu) hz0
    rw [← hrw] at hlast
    generalize (vl cu z0 - vl f z0, vl cu (z0 + 1) - vl f (z0 + 1), sp f z0) = wl at hlast
    obtain ⟨q1, q2⟩ := hL wl hlast
    obtain ⟨pre, hpre⟩ := List.getLast?_eq_some_iff.mp hlast
    have hl : Rv Y.T (tOp (rIxL K) (tVar 3) (tUn (rU fun i => .int (-i)) (tC (.int 1)))) σ' G' (IsD K (dr wl)) := rv_ixL (rv_sl sl2 (i := 3) rfl) (rv_neg rv_i) (by
      rw [hpre, List.map_append]
      exact atI_last _ _)
    have n1 : wl.1.num = 0 := q_num_zero.mpr q1
    have n2 : wl.2.1.num = 0 := q_num_zero.mpr q2
    refine s_ret (T := Y.T) (R := IsD K (.bool true)) ((rv_and (a := true) (b := true) ((rv_eqI (rv_num (q := wl.1) (rv_ixT (d := dq wl.1) hl rv_i rfl)) rv_i).to (by rw [n1]; rfl)) fun _ => (rv_eqI (rv_num (q := wl.2.1) (rv_ixT (d := dq wl.2.1) hl rv_i rfl)) rv_i).to (by rw [n2]; rfl))) st.t st.s (k.of st)
end
end Qw
namespace Qw
open PySem PySem.Spec PyProof.Rows L2 LamX Qk
/-! ### _law_same: of the same data -/
mutual
def sameOk : PyData → Bool
  | .list ds => decide (ds.length ≤ 1000) && sameAll ds
  | .tuple ds => decide (ds.length ≤ 1000) && sameAll ds
  | .dict [] => true
  | d => atomOk d
def sameAll : List PyData → Bool
  | [] => true
  | d :: ds => sameOk d && sameAll ds
end
mutual
def dep : PyData → Nat
  | .list ds => depAll ds + 1
  | .tuple ds => depAll ds + 1
  | .dict [] => 2
  | _ => 0
def depAll : List PyData → Nat
  | [] => 0
  | d :: ds => max (dep d) (depAll ds)
end
theorem same_each : ∀ {ds : List PyData}, sameAll ds = true → ∀ d ∈ ds, sameOk d = true ∧ dep d ≤ depAll ds
  | [], _, d, h => by cases h
  | a :: ds, hs, d, h => by
    have f := Bool.and_eq_true_iff.mp (show (sameOk a && sameAll ds) = true from hs)
    have e : depAll (a :: ds) = max (dep a) (depAll ds) := rfl
    rcases List.mem_cons.mp h with z | h
    · rw [z]
      exact ⟨f.1, by omega⟩
    · obtain ⟨h1, h2⟩ := same_each f.2 d h
      exact ⟨h1, by omega⟩
theorem zip_self : ∀ ds : List PyData, List.zipWith (fun d e => PyData.tuple [d, e]) ds ds = ds.map fun d => .tuple [d, d]
  | [] => rfl
  | d :: ds => congrArg (PyData.tuple [d, d] :: ·) (zip_self ds)
def SpS (T : List (Addr × Str)) (K : PySem.W.Frag) : Nat → Sp
  | 0 => fun _ _ _ _ => False
  | n + 1 => Sp2 T K (fun d : PyData => d) (fun d : PyData => d) (fun d e => d = e ∧ sameOk d = true ∧ dep d ≤ n) fun _ _ => IsD K (.bool true)
section
variable {P : Program} {w : World} {K : PySem.W.Frag} {mg : Str → Option Value} {base : Heap}
theorem sc_rec_same {T : List (Addr × Str)} {σ : L2.St} {G : Hp} {aa : TA} {n : Nat} {d : PyData} (h : Ra T K aa σ G [d, d]) (hs : sameOk d = true) (hd : dep d + 1 ≤ n) : Rv T (tCall (SpS T K n) [] E0 aa) σ G (IsD K (.bool true)) := by
  cases n with
  | zero => omega
  | succ m => exact rv_call2 (a := d) (b := d) h ⟨rfl, hs, by omega⟩
abbrev s__law_same : Stmt := topS 50
theorem sc__law_same : FnScope ["_law_found", "_law_due", "_law_mine", "_law_theirs"] ["_law_found", "_law_due"] (defScope s__law_same) := ⟨rfl, rfl, rfl, by decide +kernel, rfl, by decide +kernel, by decide +kernel⟩
theorem ok_same_n (Y : Tx K mg base) : ∀ n, FnOk P w K mg base CX0 n Y.f__law_same.a Y.f__law_same.fd ["_law_found", "_law_due"] (SpS Y.T K n)
  | 0 => ⟨fun _ _ _ _ h => h.elim, fun _ _ _ _ _ _ _ _ _ _ _ _ _ h => h.elim⟩
  | n + 1 => by
    have ih := ok_same_n Y n
    refine Y.f__law_same.F.ok sc__law_same (fun vs H Q E h => sp2_len (E := E) h) (fun cdv A outer s H vs Q E hr h => ?_)
    obtain ⟨G, d, e, c, ht, h, ⟨hde, hs, hd⟩, k⟩ := h
    have hde : d = e := hde
    subst hde
    have sl := sl_start (N := ["_law_found", "_law_due", "_law_mine", "_law_theirs"]) h (Nat.le_of_ble_eq_true rfl)
    refine ⟨_, (pss_cons (ps_if (pt_val (pe_callB call_isDT (by rfl) Y.z_isinstance (by decide +kernel) (pa_cons (pv 1) (pa_cons (pe_tup (pa_cons (pe_bltn (v := .ty "list") (u := .type "list") (by rfl) Y.z_list (by decide +kernel) rfl) (pa_cons (pe_bltn (v := .ty "tuple") (u := .type "tuple") (by rfl) Y.z_tuple (by decide +kernel) rfl) pa_nil))) pa_nil)))) (pss_cons (ps_if (PW.pt (pw_or (pt_cmpR op_ne (pe_callB call_isD (by rfl) Y.z_isinstance (by decide +kernel) (pa_cons (pv 0) (pa_cons (pe_bltn (v := .ty "list") (u := .type "list") (by rfl) Y.z_list (by decide +kernel) rfl) pa_nil))) (pe_callB call_isD (by rfl) Y.z_isinstance (by decide +kernel) (pa_cons (pv 1) (pa_cons (pe_bltn (v := .ty "list") (u := .type "list") (by rfl) Y.z_list (by decide +kernel) rfl) pa_nil))) (nomark _)) (pw_or1 (pt_cmpR op_ne (pe_callB call_isD (by rfl) Y.z_isinstance (by decide +kernel) (pa_cons (pv 0) (pa_cons (pe_bltn (v := .ty "tuple") (u := .type "tuple") (by rfl) Y.z_tuple (by decide +kernel) rfl) pa_nil))) (pe_callB call_isD (by rfl) Y.z_isinstance (by decide +kernel) (pa_cons (pv 1) (pa_cons (pe_bltn (v := .ty "tuple") (u := .type "tuple") (by rfl) Y.z_tuple (by decide +kernel) rfl) pa_nil))) (nomark _))))) (pss_one (ps_ret pe_bl)) pss_nil)
      (pss_one (ps_ret (pe_and (pe_cmpR op_eq (pe_callB call_len_seq (by rfl) Y.z_len PySem.boot_len (pa_cons (pv 0) pa_nil)) (pe_callB call_len_seq (by rfl) Y.z_len PySem.boot_len (pa_cons (pv 1) pa_nil)) (nomark _)) (pe_one (pe_callB (cr_all rfl) (by rfl) Y.z_all (by decide +kernel) (pa_cons (pe_lc (own := [("_law_mine", 2), ("_law_theirs", 3)]) (g := (gTup K 2 (gCons (gName 2) (gCons (gName 3) gNil)))) rfl sc__law_same.nd (RZ.pi_zipA (by rfl) Y.z_zip (pa_cons (pv 0) (pa_cons (pv 1) pa_nil))) (blkOk_by (N := ["_law_found", "_law_due", "_law_mine", "_law_theirs"]) (sc := defScope s__law_same) (own := [("_law_mine", 2), ("_law_theirs", 3)]) (by decide +kernel)) (fun _ _ _ _ _ => (pg_tup rfl (pgs_cons (pg_name (i := 2) sc__law_same.nd rfl (Or.inl rfl)) (pgs_cons (pg_name (i := 3) sc__law_same.nd rfl (Or.inl rfl)) pgs_nil)))) (fun _ _ _ _ _ => pts_nil) (fun _ _ _ _ _ => (pe_call ih hr (by rfl) Y.f__law_same.g Y.f__law_same.F.kp Y.f__law_same.b .nil pass0 (pa_cons (pv 2) (pa_cons (pv 3) pa_nil))))) pa_nil))))))) pss_nil)
      (pss_cons (ps_if (pt_val (pe_callB call_isD (by rfl) Y.z_isinstance (by decide +kernel) (pa_cons (pv 1) (pa_cons (pe_bltn (v := .ty "dict") (u := .type "dict") (by rfl) Y.z_dict (by decide +kernel) rfl) pa_nil)))) (pss_one (ps_ret (pe_and (pe_callB call_isD (by rfl) Y.z_isinstance (by decide +kernel) (pa_cons (pv 0) (pa_cons (pe_bltn (v := .ty "dict") (u := .type "dict") (by rfl) Y.z_dict (by decide +kernel) rfl) pa_nil))) (pe_one (pe_call ih hr (by rfl) Y.f__law_same.g Y.f__law_same.F.kp Y.f__law_same.b .nil pass0 (pa_cons (LiI.pe_listItems rfl (pv 0) (by rfl) Y.z_list (by decide +kernel)) (pa_cons (LiI.pe_listItems rfl (pv 1) (by rfl) Y.z_list (by decide +kernel)) pa_nil))))))) pss_nil)
      (pss_cons (ps_if (PW.pt (pw_or (pt_val (pe_callB call_isD (by rfl) Y.z_isinstance (by decide +kernel) (pa_cons (pv 1) (pa_cons (pe_bltn (v := .ty "bool") (u := .type "bool") (by rfl) Y.z_bool (by decide +kernel) rfl) pa_nil)))) (pw_or1 (pt_val (pe_callB call_isD (by rfl) Y.z_isinstance (by decide +kernel) (pa_cons (pv 0) (pa_cons (pe_bltn (v := .ty "bool") (u := .type "bool") (by rfl) Y.z_bool (by decide +kernel) rfl) pa_nil))))))) (pss_one (ps_ret (pe_and (pe_callB call_isD (by rfl) Y.z_isinstance (by decide +kernel) (pa_cons (pv 1) (pa_cons (pe_bltn (v := .ty "bool") (u := .type "bool") (by rfl) Y.z_bool (by decide +kernel) rfl) pa_nil))) (pe_and (pe_callB call_isD (by rfl) Y.z_isinstance (by decide +kernel) (pa_cons (pv 0) (pa_cons (pe_bltn (v := .ty "bool") (u := .type "bool") (by rfl) Y.z_bool (by decide +kernel) rfl) pa_nil))) (pe_one (pe_cmpR (op_eqA hr.units) (pv 0) (pv 1) (nomark _))))))) pss_nil)
      (pss_one (ps_ret (pe_and (pe_not (pe_callB call_isDT (by rfl) Y.z_isinstance (by decide +kernel) (pa_cons (pv 0) (pa_cons (pe_tup (pa_cons (pe_bltn (v := .ty "list") (u := .type "list") (by rfl) Y.z_list (by decide +kernel) rfl) (pa_cons (pe_bltn (v := .ty "tuple") (u := .type "tuple") (by rfl) Y.z_tuple (by decide +kernel) rfl) (pa_cons (pe_bltn (v := .ty "dict") (u := .type "dict") (by rfl) Y.z_dict (by decide +kernel) rfl) pa_nil)))) pa_nil)))) (pe_one (pe_cmpR (op_eqA hr.units) (pv 0) (pv 1) (nomark _))))))))), ?_⟩
    by_cases hseq : isSeq d = true
    · -- a list or a tuple
      have hlen : (itemsD d).length ≤ 1000 ∧ sameAll (itemsD d) = true ∧ depAll (itemsD d) + 1 ≤ n := by
        cases d with
        | list ds =>
          have f := Bool.and_eq_true_iff.mp (show (decide (ds.length ≤ 1000) && sameAll ds) = true from hs)
          exact ⟨of_decide_eq_true f.1, f.2, hd⟩
        | tuple ds =>
          have f := Bool.and_eq_true_iff.mp (show (decide (ds.length ≤ 1000) && sameAll ds) = true from hs)
          exact ⟨of_decide_eq_true f.1, f.2, hd⟩
        | _ => cases hseq
      refine q_if (T := Y.T) (b := true) ((rt_B (rv_isi2 (d := d) (rv_sl sl rfl) (kit_list d) (kit_tuple d))).to ((isSeq_or d).trans hseq)) ht c (fun hb G1 H1 s1 => ?_) (fun hb => nomatch hb)
      have sl1 := sl.mono s1.g
      refine q_if (T := Y.T) (b := false) ((rt_or (rt_test (rv_neB (rv_isi (d := d) (rv_sl sl1 rfl) (kit_list d)) (rv_isi (d := d) (rv_sl sl1 rfl) (kit_list d)))) fun _ => rt_test (rv_neB (rv_isi (d := d) (rv_sl sl1 rfl) (kit_tuple d)) (rv_isi (d := d) (rv_sl sl1 rfl) (kit_tuple d)))).to (by simp)) s1.t s1.s (fun hb => nomatch hb) (fun hb G2 H2 s2 => ?_)
      refine t_next ?_
      dsimp only
      have sl2 := sl1.mono s2.g
      refine s_ret (T := Y.T) (R := IsD K (.bool true)) ((rv_and (rv_eqI (rv_len2 (rv_sl sl2 rfl) hseq) (rv_len2 (rv_sl sl2 rfl) hseq)) fun _ => rv_all (bs := (itemsD d).map fun _ => true) (Rv.ld ?_)).to ?_) s2.t s2.s ?_
      · rw [List.map_map]
        refine rv_lcPS (A1 := fun e : PyData => e) (A2 := fun e : PyData => e) (B := fun _ : PyData => .bool true) sl2 ?_ (by omega) (by decide) fun e he σ3 G3 e3 sl3 => ?_
        · rw [← zip_self]
          cases d with
          | list ds => exact ri_zipL (ra_cons (rv_sl sl2 rfl) (ra_cons (rv_sl sl2 rfl) ra_nil))
          | tuple ds => exact ri_zipT (ra_cons (rv_sl sl2 rfl) (ra_cons (rv_sl sl2 rfl) ra_nil))
          | _ => cases hseq
        · obtain ⟨h1, h2⟩ := same_each hlen.2.1 e he
          exact sc_rec_same (ra_cons (rv_sl sl3 rfl) (ra_cons (rv_sl sl3 rfl) ra_nil)) h1 (by omega)
      · rw [List.all_map]
        simp
      · intro v G3 H3 s3 r
        exact k v G3 H3 ((s1.trans s2).trans s3) r
    · have hseq : isSeq d = false := by simpa using hseq
      have hor := isSeq_or d
      rw [hseq] at hor
      refine q_if (T := Y.T) (b := false) ((rt_B (rv_isi2 (d := d) (rv_sl sl rfl) (kit_list d) (kit_tuple d))).to hor) ht c (fun hb => nomatch hb) (fun hb G1 H1 s1 => ?_)
      refine t_next ?_
      dsimp only
      have sl1 := sl.mono s1.g
      by_cases hdc : isDct d = true
      · have hd0 : d = .dict [] := by
          cases d with
          | dict l =>
            cases l with
            | nil => rfl
            | cons _ _ => cases hdc
          | _ => cases hdc
        subst hd0
        refine q_if (T := Y.T) (b := true) ((rt_B (rv_isi (d := .dict []) (rv_sl sl1 rfl) (kit_dict _))).to rfl) s1.t s1.s (fun hb G2 H2 s2 => ?_) (fun hb => nomatch hb)
        have sl2 := sl1.mono s2.g
        refine s_ret (T := Y.T) (R := IsD K (.bool true)) (rv_and (a := true) (b := true) (rv_isi (d := .dict []) (rv_sl sl2 rfl) (kit_dict _)) fun _ => sc_rec_same (d := .list []) (ra_cons (rv_noItems (rv_sl sl2 rfl)) (ra_cons (rv_noItems (rv_sl sl2 rfl)) ra_nil)) rfl hd) s2.t s2.s ?_
        intro v G3 H3 s3 r
        exact k v G3 H3 ((s1.trans s2).trans s3) r
      · have hdc : isDct d = false := by simpa using hdc
        have hat : atomOk d = true := by
          cases d with
          | list ds => cases hseq
          | tuple ds => cases hseq
          | dict l =>
            cases l with
            | nil => cases hdc
            | cons _ _ => rfl
          | _ => exact hs
        refine q_if (T := Y.T) (b := false) ((rt_B (rv_isi (d := d) (rv_sl sl1 rfl) (kit_dict d))).to hdc) s1.t s1.s (fun hb => nomatch hb) (fun hb G2 H2 s2 => ?_)
        refine t_next ?_
        dsimp only
        have sl2 := sl1.mono s2.g
        refine q_if (T := Y.T) (b := isBolD d) ((rt_or (rt_B (rv_isi (d := d) (rv_sl sl2 rfl) (kit_bool d))) fun _ => rt_B (rv_isi (d := d) (rv_sl sl2 rfl) (kit_bool d))).to (Bool.or_self _)) s2.t s2.s (fun hb G3 H3 s3 => ?_) (fun hb G3 H3 s3 => ?_)
        · have sl3 := sl2.mono s3.g
          refine s_ret (T := Y.T) (R := IsD K (.bool true)) ((rv_and (rv_isi (d := d) (rv_sl sl3 rfl) (kit_bool d)) fun _ => rv_and (rv_isi (d := d) (rv_sl sl3 rfl) (kit_bool d)) fun _ => rv_eqSelf (d := d) (rv_sl sl3 rfl) (rv_sl sl3 rfl) hat).to (by rw [hb]; rfl)) s3.t s3.s ?_
          intro v G4 H4 s4 r
          exact k v G4 H4 (((s1.trans s2).trans s3).trans s4) r
        · refine t_next ?_
          dsimp only
          have sl3 := sl2.mono s3.g
          refine s_ret (T := Y.T) (R := IsD K (.bool true)) ((rv_and (rv_not (rv_isi3 (d := d) (rv_sl sl3 rfl) (kit_list d) (kit_tuple d) (kit_dict d))) fun _ => rv_eqSelf (d := d) (rv_sl sl3 rfl) (rv_sl sl3 rfl) hat).to (by
            rw [hdc, Bool.or_false, hor]
            rfl)) s3.t s3.s ?_
          intro v G4 H4 s4 r
          exact k v G4 H4 (((s1.trans s2).trans s3).trans s4) r
end
end Qw
namespace Qw
open PySem PySem.Spec PyProof.Rows L2 LamX Qk
/-! ### _law_tried -/
/-- what _law_tried makes of what its lambda reads: what it gives, or the error's thing -/
def TTried (CC CF : Addr) : (XK → Hp → VK → Prop) → Hp → VK → Prop := fun tl H Q =>
  tl (fun cls d H' => ∃ dd v, d = some dd ∧ H' dd = some (.xd [("thing", v)]) ∧ ((cls = .ref CC ∧ ∀ p, H' p = none → Q (.ref p) (upd H' p (.tup [.str "curve", v]))) ∨ (cls = .ref CF ∧ ∀ p, H' p = none → Q (.ref p) (upd H' p (.tup [.str "fraction", v])))))
    H fun v H' => 2 ≤ sizeLine ∧ ∀ p, H' p = none → Q (.ref p) (upd H' p (.tup [.str "told", v]))
abbrev s__law_tried : Stmt := topS 77
theorem sc__law_tried : FnScope ["_law_ask", "e"] ["_law_ask"] (defScope s__law_tried) := ⟨rfl, rfl, rfl, by decide +kernel, rfl, by decide +kernel, by decide +kernel⟩
theorem tried_gives {X : Cx} (Y : Tx X.K X.mg X.base) {g : Addr} {cdg : Value} {q : Str} : GivesTo X ["_law_ask", "e"] "_law_tried" (defScope s__law_tried) g cdg (defBody s__law_tried) "_law_ask" q (TTried Y.xC.C Y.xF.C) := by
  intro f c' s H Q tl act hc h
  refine ⟨_, pss_one (ps_try_manyAs (X := (cxOf C8.CX0 X.prog X.w X.K X.mg X.base ["_law_ask", "e"] "_law_tried" (defScope s__law_tried) g cdg X.A X.stack s H C8.E0).nox)
      (tb := fun W D σ H => ∃ Ech : XK, (∀ cls d σ' H', Ech cls d H' → W cls d σ' H') ∧ σ[0]? = some (some (.ref f)) ∧ H c' = some (CodeO c' q) ∧ tl Ech H (fun v H' => 2 ≤ sizeLine ∧ ∀ p, H' p = none → D.rt (.ref p) (upd H' p (.tup [.str "told", v])))) (Wout := fun _ _ _ _ => False) rfl rfl sc__law_tried.nd LamX.takes0 (fun W pn xe tk _ => ?_) (.cons (i := 1) rfl rfl ⟨rfl, by decide, .inl Y.xC.g⟩ (fun a oe cls d pn hz hf => pss_one (ps_ret (pe_tup (pa_cons pe_str (pa_cons (pe_xf Y.xC.xf Y.xC.no hz hf (pv 1)) pa_nil))))) (.cons (i := 1) rfl rfl ⟨rfl, by decide, .inl Y.xF.g⟩ (fun a oe cls d pn hz hf => pss_one (ps_ret (pe_tup (pa_cons pe_str (pa_cons (pe_xf Y.xF.xf Y.xF.no hz hf (pv 1)) pa_nil))))) .nil))), ?_⟩
  · refine ⟨fun pins s' σ H' D I h' => ?_⟩
    obtain ⟨Ech, hW, h1, h2, h3⟩ := h'
    refine PSs.run (pss_one (ps_ret (pe_tup (pa_cons pe_str (pa_cons (act W pn xe Ech _ _ tk hW) pa_nil))))) pins s' σ H' D I ?_
    exact ⟨h1, h2, h3⟩
  · refine ⟨fun cls d H' => ∃ dd v, d = some dd ∧ H' dd = some (.xd [("thing", v)]) ∧ ((cls = .ref Y.xC.C ∧ ∀ p, H' p = none → Q (.ref p) (upd H' p (.tup [.str "curve", v]))) ∨ (cls = .ref Y.xF.C ∧ ∀ p, H' p = none → Q (.ref p) (upd H' p (.tup [.str "fraction", v])))), ?_, rfl, hc, ?_⟩
    · intro cls d σ' H' ⟨dd, v, e1, e2, e3⟩
      rcases e3 with ⟨rfl, k⟩ | ⟨rfl, k⟩
      · refine ⟨true, Y.xC.ee, fun _ a na hl => ?_, fun z => by cases z⟩
        exact ⟨.ref a, by simp [hl], rfl, rfl, dd, _, v, e1, e2, rfl, by show 2 ≤ sizeLine; decide +kernel, k⟩
      · refine ⟨false, Y.eFC, fun z => (by cases z), fun _ => ⟨true, Y.xF.ee, fun _ a na hl => ?_, fun z => by cases z⟩⟩
        exact ⟨.ref a, by simp [hl], rfl, rfl, dd, _, v, e1, e2, rfl, by show 2 ≤ sizeLine; decide +kernel, k⟩
    · exact h
end Qw
namespace Qw
open PySem PySem.Spec PyProof.Rows L2 LamX
/-! ### the stream: a list of four that changes, and its list of ints -/
structure Stm where
  s : Addr
  l : Addr
def countLim : Nat := 1000000000
structure At (Z : Stm) (T : List (Addr × Str)) (G H : Hp) (n : Nat) : Prop where
  t : Tabs T H
  c : Cl G H
  gs : G Z.s = none
  gl : G Z.l = none
  st : ∃ (xs : List Int) (e k m : Int), H Z.s = some (.lst [.ref Z.l, .int e, .int k, .int m]) ∧ H Z.l = some (.lst (xs.map .int)) ∧ 0 ≤ e ∧ 0 ≤ k ∧ k ≤ n ∧ 0 ≤ m ∧ m < 2147483647
structure Go (Z : Stm) (G H G' H' : Hp) : Prop where
  x : ∀ b u, b ≠ Z.s → b ≠ Z.l → H b = some u → (∀ ps, u ≠ .tbl ps) → H' b = some u
  g : Same G G'
  f0 : ∀ b u, b ≠ Z.s → b ≠ Z.l → H b = some u → (∀ ps, u ≠ .tbl ps) → (∀ xs, u ≠ .tup xs) → G' b = G b
section
variable {Z : Stm} {T : List (Addr × Str)} {K : PySem.W.Frag} {G H G1 H1 G2 H2 G3 H3 G' H' : Hp} {n m k : Nat} {p : Addr}
theorem Go.refl : Go Z G H G H := ⟨fun _ _ _ _ h _ => h, Same.refl G, fun _ _ _ _ _ _ _ => rfl⟩
theorem Go.trans (a : Go Z G H G1 H1) (b : Go Z G1 H1 G2 H2) : Go Z G H G2 H2 :=
  ⟨fun c u h1 h2 h n => b.x c u h1 h2 (a.x c u h1 h2 h n) n, a.g.trans b.g, fun c u h1 h2 h n1 n2 => (b.f0 c u h1 h2 (a.x c u h1 h2 h n1) n1 n2).trans (a.f0 c u h1 h2 h n1 n2)⟩
theorem Step.go (s : Step T G H G1 H1) : Go Z G H G1 H1 := ⟨fun b u _ _ h n => s.x b u h n, s.g, fun b u _ _ h n1 n2 => s.f0 b u h n1 n2⟩
theorem At.step (a : At Z T G H n) (s : Step T G H G1 H1) : At Z T G1 H1 n := by
  obtain ⟨xs, e, k, m, h1, h2, r⟩ := a.st
  exact ⟨s.t, s.s, (s.f _ _ h1).trans a.gs, (s.f _ _ h2).trans a.gl, xs, e, k, m, s.x _ _ h1 lst_tbl, s.x _ _ h2 lst_tbl, r⟩
theorem At.up (a : At Z T G H n) (h : n ≤ m) : At Z T G H m := by
  obtain ⟨xs, e, k, q, h1, h2, r1, r2, r3, r4⟩ := a.st
  exact ⟨a.t, a.c, a.gs, a.gl, xs, e, k, q, h1, h2, r1, r2, by omega, r4⟩
theorem At.back (e : Same G G') (a : At Z T G' H n) : At Z T G H n := ⟨a.t, cl_same e a.c, same_none e a.gs, same_none e a.gl, a.st⟩
theorem At.ss (a : At Z T G H n) : ∃ xs, H Z.s = some (.lst xs) := by
  obtain ⟨xs, e, k, q, h1, h2, _⟩ := a.st
  exact ⟨_, h1⟩
theorem At.ll (a : At Z T G H n) : ∃ xs, H Z.l = some (.lst xs) := by
  obtain ⟨xs, e, k, q, h1, h2, _⟩ := a.st
  exact ⟨_, h2⟩
theorem At.ns (a : At Z T G H n) (h : H p = none) : p ≠ Z.s ∧ p ≠ Z.l := by
  obtain ⟨_, h1⟩ := a.ss
  obtain ⟨_, h2⟩ := a.ll
  exact ⟨fun z => (by rw [z, h1] at h; cases h), fun z => (by rw [z, h2] at h; cases h)⟩
/-- the same from a larger clean part -/
theorem Go.lift (b : Go Z G H G3 H3) (a3 : At Z T G3 H3 m) (e : Same G G2) (a : At Z T G2 H n) : ∃ Gm, Go Z G2 H Gm H3 ∧ At Z T Gm H3 m ∧ Same G3 Gm := by
  have nz : ∀ c o, G2 c = some o → c ≠ Z.s ∧ c ≠ Z.l := fun c o h => ⟨fun z => (by rw [z, a.gs] at h; cases h), fun z => (by rw [z, a.gl] at h; cases h)⟩
  refine ⟨fun c => match G3 c with | some o => some o | none => G2 c, ⟨b.x, fun c o h => ?_, fun c u q1 q2 h n1 n2 => ?_⟩, ⟨a3.t, fun c o h => ?_, ?_, ?_, a3.st⟩, fun c o h => ?_⟩
  · show (match G3 c with | some o => some o | none => G2 c) = some o
    cases q : G3 c with
    | none => exact h
    | some u =>
      have h1 := a.c c o h
      have h2 := b.x c o (nz c o h).1 (nz c o h).2 h1.1 h1.2
      exact (a3.c c u q).1.symm.trans h2
  · show (match G3 c with | some o => some o | none => G2 c) = G2 c
    have h1 := b.f0 c u q1 q2 h n1 n2
    cases q : G3 c with
    | none => rfl
    | some u =>
      rw [h1] at q
      exact (e c u q).symm
  · have h : (match G3 c with | some o => some o | none => G2 c) = some o := h
    cases q : G3 c with
    | none =>
      rw [q] at h
      have h1 := a.c c o h
      exact ⟨b.x c o (nz c o h).1 (nz c o h).2 h1.1 h1.2, h1.2⟩
    | some u =>
      rw [q] at h
      cases h
      exact a3.c c _ q
  · show (match G3 Z.s with | some o => some o | none => G2 Z.s) = none
    rw [a3.gs, a.gs]
  · show (match G3 Z.l with | some o => some o | none => G2 Z.l) = none
    rw [a3.gl, a.gl]
  · show (match G3 c with | some o => some o | none => G2 c) = some o
    rw [h]
theorem Go.nw (s : Go Z G H G1 H1) (h : Nw H1 p) (h1 : p ≠ Z.s) (h2 : p ≠ Z.l) : Nw H p := fun u z => by
  by_cases q : ∃ ps, u = .tbl ps
  · exact q
  · exact h u (s.x p u h1 h2 z fun ps e => q ⟨ps, e⟩)
end
/-! ### what is evaluated, the stream drawn from: data of which something is known -/
def RvZ (Z : Stm) (T : List (Addr × Str)) (K : PySem.W.Frag) (n m : Nat) (te : TE) (σ : L2.St) (G : Hp) (P : PyData → Prop) : Prop := ∀ H, At Z T G H n → ∀ Q : VK, (∀ d v G2 H2, Go Z G H G2 H2 → At Z T G2 H2 m → P d → Dp K G2 v d → Q v H2) → te σ H Q
def RaZ (Z : Stm) (T : List (Addr × Str)) (K : PySem.W.Frag) (n m : Nat) (ta : TA) (σ : L2.St) (G : Hp) (P : List PyData → Prop) : Prop := ∀ H, At Z T G H n → ∀ Q : List V → Hp → Prop, (∀ ds vs G2 H2, Go Z G H G2 H2 → At Z T G2 H2 m → P ds → DpAll K G2 vs ds → Q vs H2) → ta σ H Q
def RtZ (Z : Stm) (T : List (Addr × Str)) (n m : Nat) (tt : TT) (σ : L2.St) (G : Hp) (P : Bool → Prop) : Prop := ∀ H, At Z T G H n → ∀ Q : Bool → Hp → Prop, (∀ b G2 H2, Go Z G H G2 H2 → At Z T G2 H2 m → P b → Q b H2) → tt σ H Q
section
variable {Z : Stm} {T : List (Addr × Str)} {K : PySem.W.Frag} {σ : L2.St} {G G' H H' G1 H1 : Hp} {ta tb tc te tl tx : TE} {tt tu : TT} {v x : V} {i j : Nat} {d e : PyData} {ds es : List PyData} {aa : TA} {n m k : Nat} {P P1 P2 : PyData → Prop} {Pa Pb : List PyData → Prop} {B B2 : Bool → Prop}
theorem RvZ.mono (e : Same G G') (h : RvZ Z T K n m te σ G P) : RvZ Z T K n m te σ G' P := fun H a Q q =>
  h H (a.back e) Q fun d v G2 H2 go a2 p r =>
    let ⟨Gm, s1, a3, s2⟩ := go.lift a2 e a
    q d v Gm H2 s1 a3 p (sdp s2 r)
theorem RaZ.mono (e : Same G G') (h : RaZ Z T K n m aa σ G Pa) : RaZ Z T K n m aa σ G' Pa := fun H a Q q =>
  h H (a.back e) Q fun d v G2 H2 go a2 p r =>
    let ⟨Gm, s1, a3, s2⟩ := go.lift a2 e a
    q d v Gm H2 s1 a3 p (sdpAll s2 r)
theorem RtZ.mono (e : Same G G') (h : RtZ Z T n m tt σ G B) : RtZ Z T n m tt σ G' B := fun H a Q q =>
  h H (a.back e) Q fun d G2 H2 go a2 p =>
    let ⟨Gm, s1, a3, s2⟩ := go.lift a2 e a
    q d Gm H2 s1 a3 p
theorem Rv.z (h : Rv T te σ G (IsD K d)) : RvZ Z T K n n te σ G (· = d) := fun H a Q q => h H a.t a.c Q fun v G2 H2 s r => q d v G2 H2 s.go (a.step s) rfl r
theorem Ra.z (h : Ra T K aa σ G ds) : RaZ Z T K n n aa σ G (· = ds) := fun H a Q q => h H a.t a.c Q fun v G2 H2 s r => q ds v G2 H2 s.go (a.step s) rfl r
theorem Rt.z {b : Bool} (h : Rt T tt σ G b) : RtZ Z T n n tt σ G (· = b) := fun H a Q q => h H a.t a.c Q fun G2 H2 s => q b G2 H2 s.go (a.step s) rfl
theorem RvZ.imp (h : RvZ Z T K n m te σ G P) (f : ∀ d, P d → P1 d) : RvZ Z T K n m te σ G P1 := fun H a Q q => h H a Q fun d v G2 H2 go a2 p r => q d v G2 H2 go a2 (f d p) r
theorem RaZ.imp (h : RaZ Z T K n m aa σ G Pa) (f : ∀ d, Pa d → Pb d) : RaZ Z T K n m aa σ G Pb := fun H a Q q => h H a Q fun d v G2 H2 go a2 p r => q d v G2 H2 go a2 (f d p) r
theorem RvZ.up (h : RvZ Z T K n m te σ G P) (l : m ≤ k) : RvZ Z T K n k te σ G P := fun H a Q q => h H a Q fun d v G2 H2 go a2 p r => q d v G2 H2 go (a2.up l) p r
/-- the bound of the draws is told beforehand -/
theorem za_nil : RaZ Z T K n n tNil σ G (· = []) := fun H a Q q => q [] [] G H Go.refl a rfl .nil
theorem za_cons (h : RvZ Z T K n m ta σ G P) (hr : RaZ Z T K m k aa σ G Pa) : RaZ Z T K n k (tCons ta aa) σ G (fun l => ∃ d ds, l = d :: ds ∧ P d ∧ Pa ds) := fun H a Q q =>
  h H a _ fun d v G2 H2 go a2 p hv => (hr.mono go.g) H2 a2 _ fun ds vs G3 H3 go3 a3 ps hvs => q (d :: ds) (v :: vs) G3 H3 (go.trans go3) a3 ⟨d, ds, rfl, p, ps⟩ (.cons (sdp go3.g hv) hvs)
theorem za_1 (h : RvZ Z T K n m ta σ G P) : RaZ Z T K n m (tCons ta tNil) σ G (fun l => ∃ d, l = [d] ∧ P d) := (za_cons h za_nil).imp fun l ⟨d, ds, e, p, z⟩ => ⟨d, by rw [e, z], p⟩
theorem za_2 (h : RvZ Z T K n m ta σ G P) (h2 : RvZ Z T K m k tb σ G P1) : RaZ Z T K n k (tCons ta (tCons tb tNil)) σ G (fun l => ∃ d e, l = [d, e] ∧ P d ∧ P1 e) := (za_cons h (za_1 h2)).imp fun l ⟨d, ds, e, p, e2, z, p2⟩ => ⟨d, e2, by rw [e, z], p, p2⟩
theorem z_op {r : R2} (ha : RvZ Z T K n m ta σ G P) (hb : RvZ Z T K m k tb σ G P1) (hr : ∀ d e, P d → P1 e → ∃ d', P2 d' ∧ ∀ G1 H1 x y, Tabs T H1 → Cl G1 H1 → Dp K G1 x d → Dp K G1 y e → ∀ Q : VK, (∀ v G2 H2, Step T G1 H1 G2 H2 → Dp K G2 v d' → Q v H2) → r x y H1 Q) : RvZ Z T K n k (tOp r ta tb) σ G P2 := fun H a Q q =>
  ha H a _ fun d x G2 H2 go2 a2 pd dx => (hb.mono go2.g) H2 a2 _ fun e y G3 H3 go3 a3 pe dy => by
    obtain ⟨d', p', k⟩ := hr d e pd pe
    exact k G3 H3 x y a3.t a3.c (sdp go3.g dx) dy Q fun v G4 H4 s4 hv => q d' v G4 H4 ((go2.trans go3).trans s4.go) (a3.step s4) p' hv
/-- ints of which something is known -/
def IntP (p : Int → Prop) : PyData → Prop := fun d => ∃ i, d = .int i ∧ p i
theorem z_rI {C : Int → Int → Prop} {g : Int → Int → Int} {p q r : Int → Prop} (ha : RvZ Z T K n m ta σ G (IntP p)) (hb : RvZ Z T K m k tb σ G (IntP q)) (hr : ∀ i j, p i → q j → C i j ∧ r (g i j)) : RvZ Z T K n k (tOp (rI C fun i j => .int (g i j)) ta tb) σ G (IntP r) :=
  z_op ha hb fun d e ⟨i, e1, h1⟩ ⟨j, e2, h2⟩ => ⟨.int (g i j), ⟨_, rfl, (hr i j h1 h2).2⟩, fun G1 H1 x y t c hx hy Q k => by
    subst e1 e2
    exact ⟨i, j, dp_int hx, dp_int hy, (hr i j h1 h2).1, k _ G1 H1 (Step.refl t c) (.int _)⟩⟩
theorem z_add {p q r : Int → Prop} (ha : RvZ Z T K n m ta σ G (IntP p)) (hb : RvZ Z T K m k tb σ G (IntP q)) (hr : ∀ i j, p i → q j → r (i + j)) : RvZ Z T K n k (tOp (rI0 fun i j => .int (i + j)) ta tb) σ G (IntP r) :=
  z_op ha hb fun d e ⟨i, e1, h1⟩ ⟨j, e2, h2⟩ => ⟨.int (i + j), ⟨_, rfl, hr i j h1 h2⟩, fun G1 H1 x y t c hx hy Q k => by
    subst e1 e2
    exact ⟨i, j, dp_int hx, dp_int hy, k _ G1 H1 (Step.refl t c) (.int _)⟩⟩
theorem z_sub {p q r : Int → Prop} (ha : RvZ Z T K n m ta σ G (IntP p)) (hb : RvZ Z T K m k tb σ G (IntP q)) (hr : ∀ i j, p i → q j → r (i - j)) : RvZ Z T K n k (tOp (rI0 fun i j => .int (i - j)) ta tb) σ G (IntP r) :=
  z_op ha hb fun d e ⟨i, e1, h1⟩ ⟨j, e2, h2⟩ => ⟨.int (i - j), ⟨_, rfl, hr i j h1 h2⟩, fun G1 H1 x y t c hx hy Q k => by
    subst e1 e2
    exact ⟨i, j, dp_int hx, dp_int hy, k _ G1 H1 (Step.refl t c) (.int _)⟩⟩
theorem z_int {i : Int} : RvZ Z T K n n (tC (.int i)) σ G (IntP (· = i)) := (Rv.z rv_i).imp fun d e => ⟨i, e, rfl⟩
theorem Rv.zi {i : Int} (h : Rv T te σ G (IsD K (.int i))) : RvZ Z T K n n te σ G (IntP (· = i)) := (Rv.z h).imp fun d e => ⟨i, e, rfl⟩
theorem z_eqI {p q : Int → Prop} (ha : RvZ Z T K n m ta σ G (IntP p)) (hb : RvZ Z T K m k tb σ G (IntP q)) : RvZ Z T K n k (tOp rEq ta tb) σ G (fun d => ∃ b, d = .bool b) :=
  z_op ha hb fun d e ⟨i, e1, h1⟩ ⟨j, e2, h2⟩ => ⟨.bool (decide (i = j)), ⟨_, rfl⟩, fun G1 H1 x y t c hx hy Q k => by
    subst e1 e2
    rw [dp_int hx, dp_int hy]
    refine ⟨rfl, ?_⟩
    rw [show decide (V.int i = V.int j) = decide (i = j) from by simp]
    exact k _ G1 H1 (Step.refl t c) (.bl _)⟩
theorem zt_B {B : Bool → Prop} (h : RvZ Z T K n m te σ G (fun d => ∃ b, d = .bool b ∧ B b)) : RtZ Z T n m (tB te) σ G B := fun H a Q q => h H a _ fun d v G2 H2 go a2 ⟨b, e, hb⟩ hv => by
  subst e
  exact ⟨b, dp_bl hv, q b G2 H2 go a2 hb⟩
theorem zt_and (h1 : RtZ Z T n m tt σ G B) (h2 : RtZ Z T m k tu σ G B2) (l : m ≤ k) : RtZ Z T n k (tAnd tt tu) σ G (fun b => b = true → B true ∧ B2 true) := fun H a Q q => h1 H a _ fun b G2 H2 go a2 p => by
  cases b with
  | true => exact iteT ((h2.mono go.g) H2 a2 Q fun b G3 H3 go3 a3 p3 => q b G3 H3 (go.trans go3) a3 fun z => ⟨p, by rw [z] at p3; exact p3⟩)
  | false => exact iteF (q _ G2 H2 go (a2.up l) fun z => by cases z)
theorem z_if {P3 : PyData → Prop} (h : RtZ Z T n m tt σ G B) (h1 : B true → RvZ Z T K m k ta σ G P3) (h2 : B false → RvZ Z T K m k tb σ G P3) : RvZ Z T K n k (tIf tt ta tb) σ G P3 := fun H a Q q => h H a _ fun b G2 H2 go a2 p => by
  cases b with
  | true => exact iteT (((h1 p).mono go.g) H2 a2 Q fun d v G3 H3 go3 a3 r => q d v G3 H3 (go.trans go3) a3 r)
  | false => exact iteF (((h2 p).mono go.g) H2 a2 Q fun d v G3 H3 go3 a3 r => q d v G3 H3 (go.trans go3) a3 r)
theorem z_tup (h : RaZ Z T K n m aa σ G Pa) (hl : ∀ ds, Pa ds → ds.length ≤ 100000) : RvZ Z T K n m (tTup aa) σ G (fun d => ∃ ds, d = .tuple ds ∧ Pa ds) := fun H a Q q =>
  h H a _ fun ds vs G2 H2 go a2 p hv => ⟨small_line (by rw [dpAll_len hv]; exact hl ds p), fun o no =>
    have s3 : Step T G2 H2 (upd G2 o (.tup vs)) (upd H2 o (.tup vs)) := Step.new a2.t a2.c no tup_tbl
    q (.tuple ds) _ _ _ (go.trans s3.go) (a2.step s3) ⟨ds, rfl, p⟩ (.tup upd_same (sdpAll s3.g hv))⟩
theorem z_lst (h : RaZ Z T K n m aa σ G Pa) (hl : ∀ ds, Pa ds → ds.length ≤ 100000) : RvZ Z T K n m (tLst aa) σ G (fun d => ∃ ds, d = .list ds ∧ Pa ds) := fun H a Q q =>
  h H a _ fun ds vs G2 H2 go a2 p hv => ⟨small_line (by rw [dpAll_len hv]; exact hl ds p), fun o no =>
    have s3 : Step T G2 H2 (upd G2 o (.lst vs)) (upd H2 o (.lst vs)) := Step.new a2.t a2.c no lst_tbl
    q (.list ds) _ _ _ (go.trans s3.go) (a2.step s3) ⟨ds, rfl, p⟩ (.lst upd_same (sdpAll s3.g hv))⟩
/-- calls of the defs that draw nothing -/
theorem z_call2 {α β : Type} {d1 : α → PyData} {d2 : β → PyData} {pre : α → β → Prop} {out : α → β → Rp} {E : XK} (h : RaZ Z T K n m aa σ G Pa) (hp : ∀ ds, Pa ds → ∃ a b d, ds = [d1 a, d2 b] ∧ pre a b ∧ P d ∧ ∀ G v, out a b G v → Dp K G v d) : RvZ Z T K n m (tCall (Sp2 T K d1 d2 pre out) [] E aa) σ G P := fun H a Q q =>
  h H a _ fun ds vs G2 H2 go a2 p hv => by
    obtain ⟨x, y, d, rfl, hpre, hd, ho⟩ := hp ds p
    exact ⟨G2, x, y, a2.c, a2.t, by rw [List.append_nil]; exact hv, hpre, fun v G3 H3 s3 r => q d v G3 H3 (go.trans s3.go) (a2.step s3) hd (ho G3 v r)⟩
theorem z_call1 {α : Type} {d1 : α → PyData} {pre : α → Prop} {out : α → Rp} {E : XK} (h : RaZ Z T K n m aa σ G Pa) (hp : ∀ ds, Pa ds → ∃ a d, ds = [d1 a] ∧ pre a ∧ P d ∧ ∀ G v, out a G v → Dp K G v d) : RvZ Z T K n m (tCall (Sp1 T K d1 pre out) [] E aa) σ G P := fun H a Q q =>
  h H a _ fun ds vs G2 H2 go a2 p hv => by
    obtain ⟨x, d, rfl, hpre, hd, ho⟩ := hp ds p
    exact ⟨G2, x, a2.c, a2.t, by rw [List.append_nil]; exact hv, hpre, fun v G3 H3 s3 r => q d v G3 H3 (go.trans s3.go) (a2.step s3) hd (ho G3 v r)⟩
/-- the promise of a def that draws, its first argument the stream -/
def SpZ (T : List (Addr × Str)) (K : PySem.W.Frag) (cost : List PyData → Nat) (pre : List PyData → Prop) (out : List PyData → PyData → Prop) : Sp := fun vs H Q _ => ∃ (Z : Stm) (G : Hp) (n : Nat) (us : List V) (ds : List PyData), vs = .ref Z.s :: us ∧ At Z T G H n ∧ DpAll K G us ds ∧ pre ds ∧ n + cost ds ≤ countLim ∧
  ∀ d v G' H', Go Z G H G' H' → At Z T G' H' (n + cost ds) → out ds d → Dp K G' v d → Q v H'
theorem spz_len {cost : List PyData → Nat} {pre : List PyData → Prop} {out : List PyData → PyData → Prop} {vs : List V} {Q : VK} {E : XK} {a : Nat} (h : SpZ T K cost pre out vs H Q E) (hl : ∀ ds, pre ds → ds.length = a) : vs.length = a + 1 := by
  obtain ⟨Z, G, n, us, ds, rfl, _, h, p, _⟩ := h
  rw [List.length_cons, dpAll_len h, hl ds p]
theorem z_callZ {cost : List PyData → Nat} {pre : List PyData → Prop} {out : List PyData → PyData → Prop} {E : XK} {c : Nat} (hs : σ[i]? = some (some (.ref Z.s))) (h : RaZ Z T K n m aa σ G Pa) (hp : ∀ ds, Pa ds → pre ds ∧ cost ds ≤ c ∧ ∀ d, out ds d → P d) (hn : m + c ≤ countLim) :
    RvZ Z T K n (m + c) (tCall (SpZ T K cost pre out) [] E (tCons (tVar i) aa)) σ G P := fun H a Q q =>
  ⟨_, hs, h H a _ fun ds vs G2 H2 go a2 p hv => by
    obtain ⟨h1, h2, h3⟩ := hp ds p
    exact ⟨Z, G2, m, vs, ds, by rw [List.append_nil], a2, hv, h1, by omega, fun d v G3 H3 go3 a3 o r => q d v G3 H3 (go.trans go3) (a3.up (by omega)) (h3 d o) r⟩⟩
/-! ### statements -/
variable {D : Ends} {t1 t2 tz : TS} {ss : List Slot}
theorem zs_ret (h : RvZ Z T K n m te σ G P) (a : At Z T G H n) (k : ∀ d v G' H', Go Z G H G' H' → At Z T G' H' m → P d → Dp K G' v d → D.rt v H') : tRet te D σ H := h H a _ k
theorem zs_set (sl : Sl K G σ ss) (h : RvZ Z T K n m te σ G P) (a : At Z T G H n) (k : ∀ d σ' G' H', Go Z G H G' H' → At Z T G' H' m → P d → Sl K G' σ' (ss.set i (.d d)) → D.nx σ' H') : tAsg te (gName i) D σ H := h H a _ fun d v G' H' go a' p r => k d _ G' H' go a' p ((sl.mono go.g).set r)
theorem zq_set (sl : Sl K G σ ss) (h : RvZ Z T K n m te σ G P) (a : At Z T G H n) (k : ∀ d σ' G' H', Go Z G H G' H' → At Z T G' H' m → P d → Sl K G' σ' (ss.set i (.d d)) → tz D σ' H') : tSeq (tAsg te (gName i)) tz D σ H := zs_set (D := { D with nx := tz D }) sl h a k
theorem zs_if (h : RtZ Z T n m tt σ G B) (a : At Z T G H n) (h1 : B true → ∀ G' H', Go Z G H G' H' → At Z T G' H' m → t1 D σ H') (h2 : B false → ∀ G' H', Go Z G H G' H' → At Z T G' H' m → t2 D σ H') : tIfS tt t1 t2 D σ H := h H a _ fun b G' H' go a' p => by
  cases b with
  | true => exact iteT (h1 p G' H' go a')
  | false => exact iteF (h2 p G' H' go a')
theorem zq_if (h : RtZ Z T n m tt σ G B) (a : At Z T G H n) (h1 : B true → ∀ G' H', Go Z G H G' H' → At Z T G' H' m → t1 { D with nx := tz D } σ H') (h2 : B false → ∀ G' H', Go Z G H G' H' → At Z T G' H' m → t2 { D with nx := tz D } σ H') : tSeq (tIfS tt t1 t2) tz D σ H := zs_if (D := { D with nx := tz D }) h a h1 h2
end
end Qw
namespace Qw
open PySem PySem.Spec PyProof.Rows L2 LamX
/-! ### values read with the heap as it stands -/
def Pu (te : TE) (σ : L2.St) (H : Hp) (v : V) : Prop := ∀ Q : VK, Q v H → te σ H Q
section
variable {K : PySem.W.Frag} {σ : L2.St} {H : Hp} {ta tb te : TE} {v x y : V} {i : Nat} {a b : Int}
theorem pu_var (h : σ[i]? = some (some v)) : Pu (tVar i) σ H v := fun Q q => ⟨v, h, q⟩
theorem pu_c : Pu (tC v) σ H v := fun Q q => q
theorem pu_rI {C : Int → Int → Prop} {g : Int → Int → V} (ha : Pu ta σ H (.int a)) (hb : Pu tb σ H (.int b)) (hc : C a b) : Pu (tOp (rI C g) ta tb) σ H (g a b) := fun Q q => ha _ (hb _ ⟨a, b, rfl, rfl, hc, q⟩)
theorem pu_rI0 {g : Int → Int → V} (ha : Pu ta σ H (.int a)) (hb : Pu tb σ H (.int b)) : Pu (tOp (rI0 g) ta tb) σ H (g a b) := fun Q q => ha _ (hb _ ⟨a, b, rfl, rfl, q⟩)
theorem pu_eq (ha : Pu ta σ H (.int a)) (hb : Pu tb σ H (.int b)) : Pu (tOp rEq ta tb) σ H (.bl (decide (a = b))) := fun Q q => ha _ (hb _ ⟨rfl, by
  rw [show decide (V.int a = V.int b) = decide (a = b) from by simp]
  exact q⟩)
theorem pu_ix {p : Addr} {xs : List V} (ha : Pu ta σ H (.ref p)) (hb : Pu tb σ H (.int a)) (hp : H p = some (.lst xs)) (e : atI xs a = some v) : Pu (tOp (rIxL K) ta tb) σ H v := fun Q q => ha _ (hb _ ⟨p, xs, a, v, rfl, rfl, .inl (.inl hp), e, q⟩)
theorem pu_int1 (ha : Pu ta σ H (.int a)) : Pu (tCB (fun xs H Q => (∃ i, xs = [.int i] ∧ Q (.int i) H) ∨ ∃ k, xs = [.bl k] ∧ Q (.int (if k then 1 else 0)) H) (tCons ta tNil)) σ H (.int a) := fun Q q => ha _ (.inl ⟨a, rfl, q⟩)
theorem pu_abs (ha : Pu ta σ H (.int a)) : Pu (tCB (fun xs H Q => ∃ i, xs = [.int i] ∧ Q (.int (if i < 0 then -i else i)) H) (tCons ta tNil)) σ H (.int (if a < 0 then -a else a)) := fun Q q => ha _ ⟨a, rfl, q⟩
theorem pu_ifB {c : Bool} {tt : TE} (h : Pu tt σ H (.bl c)) (ha : c = true → Pu ta σ H v) (hb : c = false → Pu tb σ H v) : Pu (tIf (tTest tt) ta tb) σ H v := fun Q q => h _ ⟨c, rfl, by
  cases c with
  | true => exact iteT (ha rfl Q q)
  | false => exact iteF (hb rfl Q q)⟩
end
theorem canLay_ints : ∀ xs : List Int, PyData.canLayAll0 (xs.map .int) = true
  | [] => rfl
  | x :: r => canLay_ints r
theorem shaped_ints (xs : List Int) : SeqAt.shaped (.list (xs.map .int)) = true := by
  unfold SeqAt.shaped
  have h1 : PyData.canLay0 (.list (xs.map .int)) = true := canLay_ints xs
  have h2 : ∀ ys : List Int, PyData.depthAll (ys.map .int) ≤ 1 := fun ys => by
    induction ys with
    | nil => decide
    | cons y r ih =>
      show max (PyData.depth (.int y)) (PyData.depthAll (r.map .int)) ≤ 1
      exact Nat.max_le.mpr ⟨Nat.zero_le _, ih⟩
  have h3 : PyData.depth (.list (xs.map .int)) ≤ 64 := by
    have := h2 xs
    unfold PyData.depth
    omega
  rw [h1, decide_eq_true h3]
  rfl
/-! ### _law_draw -/
/-- the stream between the draw's statements -/
structure Dr (Z : Stm) (T : List (Addr × Str)) (G H0 H : Hp) (xs : List Int) (e k m : Int) : Prop where
  go : Go Z G H0 G H
  t : Tabs T H
  c : Cl G H
  gs : G Z.s = none
  gl : G Z.l = none
  hs : H Z.s = some (.lst [.ref Z.l, .int e, .int k, .int m])
  hl : H Z.l = some (.lst (xs.map .int))
section
variable {Z : Stm} {T : List (Addr × Str)} {G H0 H : Hp} {xs : List Int} {e k m : Int}
theorem Dr.ne (d : Dr Z T G H0 H xs e k m) : Z.l ≠ Z.s := fun z => by
  have h1 := d.hs
  have h2 := d.hl
  rw [z, h1] at h2
  cases xs with
  | nil => cases h2
  | cons x r => cases h2
theorem Dr.put (d : Dr Z T G H0 H xs e k m) (e' k' m' : Int) : Dr Z T G H0 (upd H Z.s (.lst [.ref Z.l, .int e', .int k', .int m'])) xs e' k' m' :=
  ⟨⟨fun b u h1 h2 h n => by rw [upd_ne h1]; exact d.go.x b u h1 h2 h n, Same.refl G, fun _ _ _ _ _ _ _ => rfl⟩, tabs_mut d.t d.hs, fun b u z => by
    rw [upd_ne (ne_of_none z d.gs)]
    exact d.c b u z, d.gs, d.gl, upd_same, by rw [upd_ne d.ne]; exact d.hl⟩
theorem Dr.pop {x : Int} (d : Dr Z T G H0 H (x :: xs) e k m) : Dr Z T G H0 (upd H Z.l (.lst (xs.map .int))) xs e k m :=
  ⟨⟨fun b u h1 h2 h n => by rw [upd_ne h2]; exact d.go.x b u h1 h2 h n, Same.refl G, fun _ _ _ _ _ _ _ => rfl⟩, tabs_mut d.t d.hl, fun b u z => by
    rw [upd_ne (ne_of_none z d.gl)]
    exact d.c b u z, d.gs, d.gl, by rw [upd_ne d.ne.symm]; exact d.hs, upd_same⟩
theorem Dr.new {p : Addr} {o : HO} (d : Dr Z T G H0 H xs e k m) (hp : H p = none) : Dr Z T G H0 (upd H p o) xs e k m := by
  have s := Step.newH (o := o) d.t d.c hp
  exact ⟨⟨fun b u h1 h2 h n => s.x b u (d.go.x b u h1 h2 h n) n, Same.refl G, fun _ _ _ _ _ _ _ => rfl⟩, s.t, s.s, d.gs, d.gl, s.x _ _ d.hs lst_tbl, s.x _ _ d.hl lst_tbl⟩
theorem Dr.at {n : Nat} (d : Dr Z T G H0 H xs e k m) (h1 : 0 ≤ e) (h2 : 0 ≤ k) (h3 : k ≤ n) (h4 : 0 ≤ m) (h5 : m < 2147483647) : At Z T G H n := ⟨d.t, d.c, d.gs, d.gl, xs, e, k, m, d.hs, d.hl, h1, h2, h3, h4, h5⟩
end
theorem dpl_ints {K : PySem.W.Frag} {H : Hp} : ∀ xs : List Int, L2.DpAll K H (xs.map V.int) (xs.map PyData.int)
  | [] => .nil
  | x :: r => .cons (.int x) (dpl_ints r)
theorem eqv_nil (xs : List Int) : PyData.eqv (.list (xs.map .int)) (.list []) = xs.isEmpty := by
  cases xs <;> rfl
/-- stream[j] = e -/
theorem tset {te : TE} {σ : L2.St} {H : Hp} {v : V} {p : Addr} {xs : List V} {j : Int} {i : Nat} {D : Ends} (h : Pu te σ H v) (h0 : σ[0]? = some (some (.ref p))) (hp : H p = some (.lst xs)) (hj : ixN xs.length j = some i) (q : D.nx σ (upd H p (.lst (xs.set i v)))) : tAsg te (gSub (tVar 0) (tC (.int j)) rSetL) D σ H :=
  h _ ⟨_, h0, p, xs, j, i, rfl, rfl, hp, hj, q⟩
theorem qset {te : TE} {tz : TS} {σ : L2.St} {H : Hp} {v : V} {p : Addr} {xs : List V} {j : Int} {i : Nat} {D : Ends} (h : Pu te σ H v) (h0 : σ[0]? = some (some (.ref p))) (hp : H p = some (.lst xs)) (hj : ixN xs.length j = some i) (q : tz D σ (upd H p (.lst (xs.set i v)))) : tSeq (tAsg te (gSub (tVar 0) (tC (.int j)) rSetL)) tz D σ H :=
  tset (D := { D with nx := tz D }) h h0 hp hj q
/-- while, by what holds before the test, behind a true one, behind a false one -/
theorem w_by {tt : TT} {tb tz : TS} {D : Ends} {σ : L2.St} {H : Hp} (Pv M : Nat → L2.St → Hp → Prop) (Ex : L2.St → Hp → Prop) (h0 : ∃ m, Pv m σ H)
    (ht : ∀ m σ H, Pv m σ H → ∀ Q : Bool → Hp → Prop, (∀ b H1, (b = true → M m σ H1) → (b = false → Ex σ H1) → Q b H1) → tt σ H Q)
    (hb : ∀ m σ H, M m σ H → ∀ (nx bk : L2.St → Hp → Prop), (∀ m' σ' H', m' < m → Pv m' σ' H' → nx σ' H') → tb { D with nx := nx, ct := nx, bk := bk } σ H)
    (he : ∀ σ H, Ex σ H → tz D σ H) : tSeq (tWhile tt tb) tz D σ H := by
  refine ⟨Pv, h0, fun m σ H p => ht m σ H p _ fun b H1 k1 k2 => ?_⟩
  cases b with
  | true => exact iteT ⟨fun σ' H' => ∃ m', m' < m ∧ Pv m' σ' H', fun _ _ z => z, hb m σ H1 (k1 rfl) _ _ fun m' σ' H' l p => ⟨m', l, p⟩⟩
  | false => exact iteF (he _ _ (k2 rfl))
theorem pu_cc {te : TE} {σ : L2.St} {H : Hp} {b : Bool} {Q : Bool → Hp → Prop} (h : Pu te σ H (.bl b)) (q : Q b H) : tTest te σ H Q := h _ ⟨b, rfl, q⟩
theorem lg {x : Int} {b : Nat} (h : x.natAbs < 2 ^ (b + 1)) : x.natAbs.log2 ≤ b := by
  by_cases z : x.natAbs = 0
  · rw [z]; exact Nat.zero_le _
  · have := (Nat.log2_lt z).mpr h
    omega
theorem dpA_int1 {K : PySem.W.Frag} {G : Hp} {vs : List V} {n : Int} (h : DpAll K G vs [.int n]) : vs = [.int n] := by
  cases h with
  | cons h t =>
    cases t
    rw [dp_int h]
section
variable {P : Program} {w : World} {K : PySem.W.Frag} {mg : Str → Option Value} {base : Heap}
def preDraw : List PyData → Prop := fun ds => ∃ n : Int, ds = [.int n] ∧ 0 < n ∧ n < 2 ^ 64
def outDraw : List PyData → PyData → Prop := fun ds d => ∃ n i : Int, ds = [.int n] ∧ d = .int i ∧ 0 ≤ i ∧ i < n
abbrev s__law_draw : Stmt := topS 48
theorem sc__law_draw : FnScope ["_law_stream_here", "_law_many", "_law_cell", "_law_digit", "_law_mixed"] ["_law_stream_here", "_law_many"] (defScope s__law_draw) := ⟨rfl, rfl, rfl, by decide +kernel, rfl, by decide +kernel, by decide +kernel⟩
theorem ok__law_draw (Y : Tx K mg base) : FnOk P w K mg base CX0 2 Y.f__law_draw.a Y.f__law_draw.fd ["_law_stream_here", "_law_many"] (SpZ Y.T K (fun _ => 1) preDraw outDraw) := by
  refine Y.f__law_draw.F.ok sc__law_draw (fun vs H Q E h => spz_len (pre := preDraw) (a := 1) h fun ds hp => by obtain ⟨_, e, _⟩ := hp; rw [e]; rfl) (fun cdv A outer s H vs Q E hr h => ?_)
  obtain ⟨Z, G, n, us, ds, rfl, at_, hd, ⟨many, rfl, hm, hm2⟩, hn, k⟩ := h
  cases dpA_int1 hd
  refine ⟨_, (pss_cons (ps_asg (pe_op op_add (pe_ix ix_list (pv 0) pe_int (fun _ _ => rfl)) pe_int) (pg_sub (pv 0) pe_int set_list))
      (pss_cons (ps_while PassesOwn.never (PW.pt (pw_and (pt_cmpR op_eq (pe_ix ix_list (pv 0) pe_int (fun _ _ => rfl)) pe_int (nomark _)) (pw_and1 (pt_cmpR (op_neD hr.units) (pe_ix ix_list (pv 0) pe_int (fun _ _ => rfl)) (pe_lst pa_nil) (nomark _))))) (pss_cons (ps_set (i := 2) sc__law_draw.nd rfl (Or.inl rfl) (pe_callB call_abs (by rfl) Y.z_abs (by decide +kernel) (pa_cons (pe_bm PySem.F.plainAttrs_list PySem.F.slot_list_pop PySem.F.type_list_pop mt_popAt (pe_ix ix_list (pv 0) pe_int (fun _ _ => rfl)) (pa_cons pe_int pa_nil)) pa_nil)))
      (pss_cons (ps_asg (pe_op op_mod (pe_callTy call_int1 (by rfl) Y.z_int (by decide +kernel) (pa_cons (pe_op op_add (pe_op op_add (pe_op op_mulW (pe_ix ix_list (pv 0) pe_int (fun _ _ => rfl)) pe_int) (pv 2)) pe_int) pa_nil)) pe_int) (pg_sub (pv 0) pe_int set_list))
      (pss_one (ps_asg (pe_ifExp (pt_cmpR op_ge (pv 2) (pe_op op_pow pe_int pe_int) (nomark _)) (pv 2) pe_int) (pg_sub (pv 0) pe_int set_list))))))
      (pss_cons (ps_if (pt_cmpR op_gt (pe_ix ix_list (pv 0) pe_int (fun _ _ => rfl)) pe_int (nomark _)) (pss_cons (ps_set (i := 3) sc__law_draw.nd rfl (Or.inl rfl) (pe_op op_mod (pe_callTy call_int1 (by rfl) Y.z_int (by decide +kernel) (pa_cons (pe_ix ix_list (pv 0) pe_int (fun _ _ => rfl)) pa_nil)) (pv 1)))
      (pss_cons (ps_asg (pe_op op_fdivW (pe_ix ix_list (pv 0) pe_int (fun _ _ => rfl)) (pv 1)) (pg_sub (pv 0) pe_int set_list))
      (pss_one (ps_ret (pv 3))))) pss_nil)
      (pss_cons (ps_set (i := 4) sc__law_draw.nd rfl (Or.inl rfl) (pe_op op_mod (pe_callTy call_int1 (by rfl) Y.z_int (by decide +kernel) (pa_cons (pe_op op_pow (pe_op op_add (pe_op op_add (pe_ix ix_list (pv 0) pe_int (fun _ _ => rfl)) (pe_op op_mulW pe_int (pe_ix ix_list (pv 0) pe_int (fun _ _ => rfl)))) pe_int) pe_int) pa_nil)) pe_int))
      (pss_one (ps_ret (pe_op op_mod (pe_op op_mod (pe_callTy call_int1 (by rfl) Y.z_int (by decide +kernel) (pa_cons (pe_op op_pow (pe_op op_add (pe_op op_add (pe_op op_mulW (pv 4) pe_int) (pe_op op_mulW pe_int (pe_ix ix_list (pv 0) pe_int (fun _ _ => rfl)))) pe_int) pe_int) pa_nil)) pe_int) (pv 1)))))))), ?_⟩
  obtain ⟨xs, e, c, m, h1, h2, he, hc, hcn, hm0, hm1⟩ := at_.st
  have d0 : Dr Z Y.T G H H xs e c m := ⟨Go.refl, at_.t, at_.c, at_.gs, at_.gl, h1, h2⟩
  refine tset (te := _) (v := .int (c + 1)) (i := 2) (pu_rI0 (a := c) (b := 1) (pu_ix (a := 2) (pu_var rfl) pu_c h1 rfl) pu_c) rfl h1 rfl ?_
  have d1 := d0.put e (c + 1) m
  refine w_by (fun mm σ' H' => ∃ xs' e' m' o, mm = xs'.length ∧ σ' = [some (.ref Z.s), some (.int many), o, none, none] ∧ Dr Z Y.T G H H' xs' e' (c + 1) m' ∧ 0 ≤ e' ∧ 0 ≤ m' ∧ m' < 2147483647)
    (fun mm σ' H' => ∃ x xs' e' m' o, mm = xs'.length + 1 ∧ σ' = [some (.ref Z.s), some (.int many), o, none, none] ∧ Dr Z Y.T G H H' (x :: xs') e' (c + 1) m' ∧ 0 ≤ e' ∧ 0 ≤ m' ∧ m' < 2147483647)
    (fun σ' H' => ∃ xs' e' m' o, σ' = [some (.ref Z.s), some (.int many), o, none, none] ∧ Dr Z Y.T G H H' xs' e' (c + 1) m' ∧ 0 ≤ e' ∧ 0 ≤ m' ∧ m' < 2147483647) ⟨_, xs, e, m, none, rfl, rfl, d1, he, hm0, hm1⟩ ?_ ?_ ?_
  · rintro mm σ' H' ⟨xs', e', m', o, rfl, rfl, d, he', hm0', hm1'⟩ Q q
    refine pu_cc (pu_eq (a := e') (b := 0) (pu_ix (a := 1) (pu_var rfl) pu_c d.hs rfl) pu_c) ?_
    cases q0 : decide (e' = 0) with
    | false => exact iteF (q _ _ (fun z => by cases z) fun _ => ⟨xs', e', m', o, rfl, d, he', hm0', hm1'⟩)
    | true =>
      refine iteT ?_
      refine pu_ix (a := 0) (pu_var rfl) pu_c d.hs rfl _ ⟨Nat.zero_le _, fun p hp => ?_⟩
      have d2 := d.new (o := .lst []) hp
      refine ⟨.list (xs'.map .int), .list [], .lst (.inl (.inl d2.hl)) ?_, .lst (.inl (.inl upd_same)) .nil, shaped_ints xs', rfl, _, rfl, ?_⟩
      · exact dpl_ints xs'
      rw [eqv_nil]
      cases xs' with
      | nil => exact q _ _ (fun z => by cases z) fun _ => ⟨[], e', m', o, rfl, d2, he', hm0', hm1'⟩
      | cons x r => exact q _ _ (fun _ => ⟨x, r, e', m', o, rfl, rfl, d2, he', hm0', hm1'⟩) fun z => by cases z
  · rintro mm σ' H' ⟨x, xs', e', m', o, rfl, rfl, d, he', hm0', hm1'⟩ nx bk k
    refine pu_ix (a := 0) (pu_var rfl) pu_c d.hs rfl _ ⟨.inl ⟨rfl, _, .inl (.inl d.hl)⟩, Z.l, (x :: xs').map .int, 0, 0, .int x, rfl, rfl, d.hl, by decide, by decide, ?_, rfl, ⟨x, rfl, ?_⟩⟩
    · unfold seqIndex?
      simp
    unfold gName
    dsimp only
    have d2 : Dr Z Y.T G H (upd H' Z.l (.lst ((List.map V.int (x :: xs')).eraseIdx 0))) xs' e' (c + 1) m' := d.pop
    generalize upd H' Z.l (.lst ((List.map V.int (x :: xs')).eraseIdx 0)) = H2 at d2
    have hz : 0 ≤ (if x < 0 then -x else x) := by split <;> omega
    generalize (if x < 0 then -x else x) = z at hz
    refine qset (i := 3) (j := 3) (pu_rI (a := m' * 8191 + z + 3) (b := 2147483647) (pu_int1 (pu_rI0 (a := m' * 8191 + z) (b := 3) (pu_rI0 (a := m' * 8191) (b := z) (pu_rI (a := m') (b := 8191) (pu_ix (a := 3) (pu_var rfl) pu_c d2.hs rfl) pu_c ?_) (pu_var rfl)) pu_c)) pu_c (show (0 : Int) < 2147483647 by decide)) rfl d2.hs rfl ?_
    · show m'.natAbs.log2 + _ < 1000000
      have h1 : m'.natAbs.log2 ≤ 31 := lg (by omega)
      have h2 : (8191 : Int).natAbs.log2 ≤ 31 := by decide +kernel
      omega
    have d3 := d2.put e' (c + 1) ((m' * 8191 + z + 3) % 2147483647)
    have hm3 : 0 ≤ (m' * 8191 + z + 3) % 2147483647 := Int.emod_nonneg _ (by decide)
    have hm4 : (m' * 8191 + z + 3) % 2147483647 < 2147483647 := Int.emod_lt_of_pos _ (by decide)
    refine tset (v := .int (if 1000000000000000000 ≤ z then z else 0)) (i := 1) (j := 1) (pu_ifB (c := decide ((10 : Int) ^ 18 ≤ z)) (pu_rI0 (a := z) (b := (10 : Int) ^ 18) (pu_var rfl) (pu_rI (a := 10) (b := 18) pu_c pu_c ⟨by decide, by decide, by decide⟩)) (fun q => ?_) (fun q => ?_)) rfl d3.hs rfl ?_
    · rw [if_pos (by simpa using q)]
      exact pu_var rfl
    · rw [if_neg (by simpa using q)]
      exact pu_c
    have d4 := d3.put (if 1000000000000000000 ≤ z then z else 0) (c + 1) ((m' * 8191 + z + 3) % 2147483647)
    exact k xs'.length _ _ (by omega) ⟨xs', _, _, _, rfl, rfl, d4, by split <;> omega, hm3, hm4⟩
  · rintro σ' H' ⟨xs', e', m', o, rfl, d, he', hm0', hm1'⟩
    have hc1 : c + 1 ≤ 1000000000 := by
      have hn2 : n + 1 ≤ 1000000000 := hn
      omega
    have hcn1 : c + 1 ≤ ((n + 1 : Nat) : Int) := by omega
    refine pu_cc (pu_rI0 (a := e') (b := 0) (pu_ix (a := 1) (pu_var rfl) pu_c d.hs rfl) pu_c) ?_
    cases q0 : decide (0 < e') with
    | true =>
      refine iteT ?_
      refine pu_rI (a := e') (b := many) (pu_int1 (pu_ix (a := 1) (pu_var rfl) pu_c d.hs rfl)) (pu_var rfl) hm _ ?_
      unfold gName
      dsimp only
      refine qset (i := 1) (j := 1) (pu_rI (a := e') (b := many) (pu_ix (a := 1) (pu_var rfl) pu_c d.hs rfl) (pu_var rfl) ⟨hm, ?_⟩) rfl d.hs rfl ?_
      · have : many.natAbs.log2 ≤ 64 := lg (by omega)
        omega
      refine pu_var rfl _ ?_
      have d2 := d.put (e' / many) (c + 1) m'
      exact k (.int (e' % many)) _ G _ d2.go (d2.at (Int.ediv_nonneg he' (by omega)) (by omega) hcn1 hm0' hm1') ⟨many, _, rfl, rfl, Int.emod_nonneg _ (by omega), Int.emod_lt_of_pos _ hm⟩ (.int _)
    | false =>
      refine iteF ?_
      refine t_next ?_
      dsimp only
      refine pu_rI (a := (m' + 7919 * (c + 1) + 104729) ^ 5) (b := 2147483629) (pu_int1 (pu_rI (a := m' + 7919 * (c + 1) + 104729) (b := 5) (pu_rI0 (a := m' + 7919 * (c + 1)) (b := 104729) (pu_rI0 (a := m') (b := 7919 * (c + 1)) (pu_ix (a := 3) (pu_var rfl) pu_c d.hs rfl) (pu_rI (a := 7919) (b := c + 1) pu_c (pu_ix (a := 2) (pu_var rfl) pu_c d.hs rfl) ?_)) pu_c) pu_c ⟨by decide, by decide, by omega⟩)) pu_c (show (0 : Int) < 2147483629 by decide) _ ?_
      · show _ + (c + 1).natAbs.log2 < 1000000
        have h1 : (c + 1).natAbs.log2 ≤ 31 := lg (by omega)
        have h2 : (7919 : Int).natAbs.log2 ≤ 31 := by decide +kernel
        omega
      unfold gName
      dsimp only
      have hx0 : 0 ≤ (m' + 7919 * (c + 1) + 104729) ^ 5 % 2147483629 := Int.emod_nonneg _ (by decide)
      have hx1 : (m' + 7919 * (c + 1) + 104729) ^ 5 % 2147483629 < 2147483629 := Int.emod_lt_of_pos _ (by decide)
      show tRet _ _ [some (.ref Z.s), some (.int many), o, none, some (.int ((m' + 7919 * (c + 1) + 104729) ^ 5 % 2147483629))] H'
      generalize (m' + 7919 * (c + 1) + 104729) ^ 5 % 2147483629 = x at hx0 hx1
      refine pu_rI (a := (x * 48271 + 30011 * (c + 1) + 29) ^ 3 % 1000000007) (b := many) (pu_rI (a := (x * 48271 + 30011 * (c + 1) + 29) ^ 3) (b := 1000000007) (pu_int1 (pu_rI (a := x * 48271 + 30011 * (c + 1) + 29) (b := 3) (pu_rI0 (a := x * 48271 + 30011 * (c + 1)) (b := 29) (pu_rI0 (a := x * 48271) (b := 30011 * (c + 1)) (pu_rI (a := x) (b := 48271) (pu_var rfl) pu_c ?_) (pu_rI (a := 30011) (b := c + 1) pu_c (pu_ix (a := 2) (pu_var rfl) pu_c d.hs rfl) ?_)) pu_c) pu_c ⟨by decide, by decide, by omega⟩)) pu_c (show (0 : Int) < 1000000007 by decide)) (pu_var rfl) hm _ ?_
      · show x.natAbs.log2 + _ < 1000000
        have h1 : x.natAbs.log2 ≤ 31 := lg (by omega)
        have h2 : (48271 : Int).natAbs.log2 ≤ 31 := by decide +kernel
        omega
      · show _ + (c + 1).natAbs.log2 < 1000000
        have h1 : (c + 1).natAbs.log2 ≤ 31 := lg (by omega)
        have h2 : (30011 : Int).natAbs.log2 ≤ 31 := by decide +kernel
        omega
      exact k (.int _) _ G _ d.go (d.at he' (by omega) hcn1 hm0' hm1') ⟨many, _, rfl, rfl, Int.emod_nonneg _ (by omega), Int.emod_lt_of_pos _ hm⟩ (.int _)
end
end Qw
namespace Qw
open PySem PySem.Spec PyProof.Rows L2 LamX
section
variable {P : Program} {w : World} {K : PySem.W.Frag} {mg : Str → Option Value} {base : Heap}
def prePick : List PyData → Prop := fun ds => ∃ es, ds = [.list es] ∧ 0 < es.length ∧ es.length ≤ 100000
def outPick : List PyData → PyData → Prop := fun ds d => ∃ es, ds = [.list es] ∧ d ∈ es
theorem dpA_one {K : PySem.W.Frag} {G : Hp} {vs : List V} {d : PyData} (h : DpAll K G vs [d]) : ∃ v, vs = [v] ∧ Dp K G v d := by
  cases h with
  | cons h t =>
    cases t
    exact ⟨_, rfl, h⟩
abbrev s__law_pick : Stmt := topS 49
theorem sc__law_pick : FnScope ["_law_stream_here", "_law_things"] ["_law_stream_here", "_law_things"] (defScope s__law_pick) := ⟨rfl, rfl, rfl, by decide +kernel, rfl, by decide +kernel, by decide +kernel⟩
theorem ok__law_pick (Y : Tx K mg base) : FnOk P w K mg base CX0 3 Y.f__law_pick.a Y.f__law_pick.fd ["_law_stream_here", "_law_things"] (SpZ Y.T K (fun _ => 1) prePick outPick) := by
  refine Y.f__law_pick.F.ok sc__law_pick (fun vs H Q E h => spz_len (pre := prePick) (a := 1) h fun ds hp => by obtain ⟨_, e, _⟩ := hp; rw [e]; rfl) (fun cdv A outer s H vs Q E hr h => ?_)
  obtain ⟨Z, G, n, us, ds, rfl, at_, hd, ⟨es, rfl, h0, hl⟩, hn, k⟩ := h
  obtain ⟨v, rfl, hv⟩ := dpA_one hd
  refine ⟨_, (pss_one (ps_ret (pe_ix ix_list (pv 1) (pe_call (ok__law_draw Y) (hr.mono (by decide)) (by rfl) Y.f__law_draw.g Y.f__law_draw.F.kp Y.f__law_draw.b .nil pass0 (pa_cons (pv 0) (pa_cons (pe_callB call_len_seq (by rfl) Y.z_len PySem.boot_len (pa_cons (pv 1) pa_nil)) pa_nil))) (fun _ _ => rfl)))), ?_⟩
  refine zs_ret (P := fun d => d ∈ es) (z_op (P := (· = .list es)) (P1 := IntP fun i => 0 ≤ i ∧ i < es.length) (Rv.z (rv_var rfl hv)) (z_callZ (c := 1) (Pa := (· = [.int es.length])) rfl (Ra.z (ra_cons (rv_len (rv_var rfl hv)) ra_nil)) (fun ds e => ?_) hn) (fun d e hd he => ?_)) at_ fun d v G' H' go a' p hv => k d v G' H' go a' ⟨es, rfl, p⟩ hv
  · subst e
    exact ⟨⟨_, rfl, by omega, by omega⟩, Nat.le_refl _, fun d ⟨n, i, e1, e2, h1, h2⟩ => ⟨i, e2, h1, by cases e1; exact h2⟩⟩
  · subst hd
    obtain ⟨i, rfl, h1, h2⟩ := he
    have hi : i.toNat < es.length := by omega
    have ei : i = ((i.toNat : Nat) : Int) := by omega
    refine ⟨es[i.toNat], List.getElem_mem hi, fun G1 H1 x y t c hx hy Q q => ?_⟩
    obtain ⟨a, xs, rfl, hs, hd⟩ := dp_lst hx
    obtain ⟨v, hv, dv⟩ := at_dp (n := i) hd (by rw [ei]; exact atI_nat (List.getElem?_eq_getElem hi))
    exact ⟨a, xs, i, v, rfl, dp_int hy, c.lst hs, hv, q v G1 H1 (Step.refl t c) dv⟩
/-! ### _law_loose -/
mutual
/-- the same but for lists in the place of tuples and tuples in the place of lists -/
inductive Loose : PyData → PyData → Prop
  | none : Loose .none .none
  | bool (b : Bool) : Loose (.bool b) (.bool b)
  | int (i : Int) : Loose (.int i) (.int i)
  | str (x : Str) : Loose (.str x) (.str x)
  | ll {ds es : List PyData} : LooseAll ds es → Loose (.list ds) (.list es)
  | lt {ds es : List PyData} : LooseAll ds es → Loose (.list ds) (.tuple es)
  | tl {ds es : List PyData} : LooseAll ds es → Loose (.tuple ds) (.list es)
  | tt {ds es : List PyData} : LooseAll ds es → Loose (.tuple ds) (.tuple es)
inductive LooseAll : List PyData → List PyData → Prop
  | nil : LooseAll [] []
  | cons {d e : PyData} {ds es : List PyData} : Loose d e → LooseAll ds es → LooseAll (d :: ds) (e :: es)
end
mutual
/-- the draws -/
def nodes : PyData → Nat
  | .list ds => 1 + nodesAll ds
  | .tuple ds => 1 + nodesAll ds
  | _ => 0
def nodesAll : List PyData → Nat
  | [] => 0
  | d :: ds => nodes d + nodesAll ds
end
mutual
/-- every list short, no dict -/
def brief : PyData → Bool
  | .list ds => decide (ds.length ≤ 100000) && briefAll ds
  | .tuple ds => decide (ds.length ≤ 100000) && briefAll ds
  | .dict _ => false
  | _ => true
def briefAll : List PyData → Bool
  | [] => true
  | d :: ds => brief d && briefAll ds
end
end
end Qw
namespace Qw
open PySem PySem.Spec PyProof.Rows L2 LamX
inductive All2 {α β : Type} (R : α → β → Prop) : List α → List β → Prop
  | nil : All2 R [] []
  | cons {a : α} {b : β} {as : List α} {bs : List β} : R a b → All2 R as bs → All2 R (a :: as) (b :: bs)
theorem All2.app {α β : Type} {R : α → β → Prop} : ∀ {as as' : List α} {bs bs' : List β}, All2 R as bs → All2 R as' bs' → All2 R (as ++ as') (bs ++ bs')
  | _, _, _, _, .nil, h => h
  | _, _, _, _, .cons h t, h' => .cons h (t.app h')
theorem All2.len {α β : Type} {R : α → β → Prop} : ∀ {as : List α} {bs : List β}, All2 R as bs → as.length = bs.length
  | _, _, .nil => rfl
  | _, _, .cons _ t => congrArg (· + 1) t.len
section
variable {Z : Stm} {T : List (Addr × Str)} {K : PySem.W.Frag} {σ : L2.St} {G G0 H0 G' H H' G1 H1 : Hp} {ta tb tc te tl tx : TE} {tt tu : TT} {v x : V} {i j : Nat} {d e : PyData} {ds es : List PyData} {aa : TA} {n m k : Nat} {P P1 P2 : PyData → Prop} {Pa Pb : List PyData → Prop} {B B2 : Bool → Prop} {p : Addr} {wi : TI} {g : TG}
theorem Go.mut {ys : List V} (a : Go Z G H G1 H1) (h : Nw H p) : Go Z G H G1 (upd H1 p (.lst ys)) :=
  ⟨fun b u h1 h2 z n => by
    rw [upd_ne (h.ne z n)]
    exact a.x b u h1 h2 z n, a.g, a.f0⟩
theorem At.mut {xs ys : List V} (a : At Z T G H n) (hg : G p = none) (hl : H p = some (.lst xs)) (h1 : p ≠ Z.s) (h2 : p ≠ Z.l) : At Z T G (upd H p (.lst ys)) n := by
  obtain ⟨xs, e, k, m, e1, e2, r⟩ := a.st
  refine ⟨tabs_mut a.t hl, fun b u z => ?_, a.gs, a.gl, xs, e, k, m, ?_, ?_, r⟩
  · rw [upd_ne (ne_of_none z hg)]
    exact a.c b u z
  · rw [upd_ne h1.symm]
    exact e1
  · rw [upd_ne h2.symm]
    exact e2
theorem At.newH {o : HO} (a : At Z T G H n) (h : H p = none) : At Z T G (upd H p o) n := a.step (Step.newH a.t a.c h)
/-- an own list: at o, of these data so far, the stream drawn from meanwhile -/
structure OwnZ (Z : Stm) (T : List (Addr × Str)) (K : PySem.W.Frag) (G0 H0 G H : Hp) (n : Nat) (o : Addr) (ds : List PyData) : Prop where
  go : Go Z G0 H0 G H
  at_ : At Z T G H n
  nw : Nw H0 o
  ns : o ≠ Z.s
  nl : o ≠ Z.l
  gn : G o = none
  ex : ∃ acc, H o = some (.lst acc) ∧ DpAll K G acc ds
theorem OwnZ.step {o : Addr} (w : OwnZ Z T K G0 H0 G H n o ds) (s : Go Z G H G1 H1) (a : At Z T G1 H1 m) : OwnZ Z T K G0 H0 G1 H1 m o ds := by
  obtain ⟨acc, h1, h2⟩ := w.ex
  exact ⟨w.go.trans s, a, w.nw, w.ns, w.nl, (s.f0 o _ w.ns w.nl h1 lst_tbl lst_tup).trans w.gn, acc, s.x o _ w.ns w.nl h1 lst_tbl, sdpAll s.g h2⟩
theorem OwnZ.new {o : Addr} (s : Go Z G0 H0 G H) (a : At Z T G H n) (h : H o = none) : OwnZ Z T K G0 H0 G (upd H o (.lst [])) n o [] := by
  obtain ⟨h1, h2⟩ := a.ns h
  exact ⟨s.trans (Step.go (Step.newH a.t a.c h)), a.newH h, s.nw (Nw.of h) h1 h2, h1, h2, clean_none a.c h, [], upd_same, .nil⟩
/-- more at its end -/
theorem OwnZ.more {o : Addr} {ys : List V} (w : OwnZ Z T K G0 H0 G H n o ds) {acc : List V} (hl : H o = some (.lst acc)) (hv : DpAll K G ys es) : OwnZ Z T K G0 H0 G (upd H o (.lst (acc ++ ys))) n o (ds ++ es) := by
  obtain ⟨acc', h1, h2⟩ := w.ex
  rw [hl] at h1
  cases h1
  exact ⟨w.go.mut w.nw, w.at_.mut w.gn hl w.ns w.nl, w.nw, w.ns, w.nl, w.gn, _, upd_same, dpAll_app h2 hv⟩
theorem OwnZ.take {o : Addr} (w : OwnZ Z T K G0 H0 G H n o ds) : ∃ G', Go Z G0 H0 G' H ∧ At Z T G' H n ∧ Same G G' ∧ IsL K ds G' (.ref o) := by
  obtain ⟨acc, h1, h2⟩ := w.ex
  have e : Same G (upd G o (.lst acc)) := fun b u z => by
    rw [upd_ne (ne_of_none z w.gn)]
    exact z
  refine ⟨upd G o (.lst acc), ⟨w.go.x, w.go.g.trans e, fun b u q1 q2 z n1 n2 => ?_⟩, ⟨w.at_.t, fun b u z => ?_, ?_, ?_, w.at_.st⟩, e, o, acc, rfl, upd_same, sdpAll e h2⟩
  · rw [upd_ne (w.nw.ne z n1)]
    exact w.go.f0 b u q1 q2 z n1 n2
  · by_cases hb : b = o
    · subst hb
      rw [upd_same] at z
      cases z
      exact ⟨h1, lst_tbl⟩
    · rw [upd_ne hb] at z
      exact w.at_.c b u z
  · rw [upd_ne w.ns.symm]
    exact w.at_.gs
  · rw [upd_ne w.nl.symm]
    exact w.at_.gl
theorem tyesZ {σ : L2.St} {H : Hp} {f g : Hp → Prop} (h : f H) : tYes σ H fun b H3 => if b = true then f H3 else g H3 := by
  show (if true = true then f H else g H)
  rw [if_pos rfl]
  exact h
/-- [e for x in walked], the stream drawn from -/
theorem z_lc {C : Nat → Nat} {R : PyData → PyData → Prop} {vs : List Nat} (hi : Ri T K wi σ G ds) (hz : ds.length ≤ 100000)
    (hg : ∀ i d, ds[i]? = some d → ∀ x G1 H1, Same G G1 → At Z T G1 H1 (n + C i) → Dp K G1 x d → ∀ Q : L2.St → Hp → Prop, (∀ σ2, wipe σ2 vs = wipe σ vs → RvZ Z T K (n + C i) (n + C (i + 1)) te σ2 G1 (R d) → Q σ2 H1) → g x (wipe σ vs) H1 Q) (h0 : C 0 = 0) :
    RvZ Z T K n (n + C ds.length) (tLc wi g tYes te vs) σ G (fun l => ∃ es, l = .list es ∧ All2 R ds es) := fun H a Q q =>
  hi H a.t a.c _ fun J G2 H2 s2 yl => fun Dl hD => by
    have a2 := a.step s2
    refine ⟨fun i m H' => m = ds.length - i ∧ i ≤ ds.length ∧ ∃ Gi es, OwnZ Z T K G2 H2 Gi H' (n + C i) Dl es ∧ All2 R (ds.take i) es,
      ⟨ds.length, by simp, Nat.zero_le _, G2, [], by rw [h0]; exact OwnZ.new Go.refl a2 hD, .nil⟩, fun i m H' hW => ?_⟩
    obtain ⟨rfl, hle, Gi, es, ow, hR⟩ := hW
    by_cases hlt : i < ds.length
    · refine .inr ⟨yl.go i Gi H' ow.go.g ow.at_.c hlt, fun H'' => i + 1 ≤ ds.length ∧ ∃ Gi es, OwnZ Z T K G2 H2 Gi H'' (n + C (i + 1)) Dl es ∧ All2 R (ds.take (i + 1)) es, fun H'' hN => ⟨ds.length - (i + 1), by omega, rfl, hN.1, hN.2⟩, fun x H'' hy => ?_⟩
      have ha : ds[i]? = some ds[i] := List.getElem?_eq_getElem hlt
      obtain ⟨G3, s3, dx⟩ := yl.yld i Gi H' x H'' _ ow.go.g ow.at_.c ow.at_.t ha hy
      have et : ds.take (i + 1) = ds.take i ++ [ds[i]] := by
        rw [List.take_add_one, ha]
        rfl
      have ow3 := ow.step s3.go (ow.at_.step s3)
      refine hg i ds[i] ha x G3 H'' (s2.g.trans ow3.go.g) ow3.at_ dx _ fun σ2 hw he => ⟨hw, ?_⟩
      refine tyesZ ?_
      refine he H'' ow3.at_ _ fun e v G4 H4 go4 a4 r hv => ?_
      have ow4 := ow3.step go4 a4
      obtain ⟨acc, h1, h2⟩ := ow4.ex
      have hl := dpAll_len h2
      have hl2 := hR.len
      rw [List.length_take] at hl2
      refine ⟨acc, h1, small_lt (by omega), hlt, G4, es ++ [e], ow4.more h1 (.cons hv .nil), ?_⟩
      rw [et]
      exact hR.app (.cons r .nil)
    · have ei : i = ds.length := by omega
      subst ei
      refine .inl ⟨yl.stop _ Gi H' ow.go.g ow.at_.c (Nat.le_refl _), ?_⟩
      obtain ⟨G', go', a', e', hl⟩ := ow.take
      rw [List.take_length] at hR
      exact q (.list es) _ G' H' (s2.go.trans go') a' ⟨es, rfl, hR⟩ hl.d
end
end Qw
namespace Qw
open PySem PySem.Spec PyProof.Rows L2 LamX
section
variable {Z : Stm} {T : List (Addr × Str)} {K : PySem.W.Frag} {σ : L2.St} {G H : Hp} {te : TE} {ds : List PyData} {n j : Nat} {wi : TI} {ss : List Slot} {P : PyData → Prop}
theorem z_lcN {C : Nat → Nat} {R : PyData → PyData → Prop} {vs : List Nat} (sl : Sl K G σ ss) (hi : Ri T K wi σ G ds) (hz : ds.length ≤ 100000) (h0 : C 0 = 0) (hj : j ∈ vs)
    (he : ∀ i d, ds[i]? = some d → ∀ σ2 G1, Same G G1 → Sl K G1 σ2 ((wipeS ss vs).set j (.d d)) → RvZ Z T K (n + C i) (n + C (i + 1)) te σ2 G1 (R d)) :
    RvZ Z T K n (n + C ds.length) (tLc wi (gName j) tYes te vs) σ G (fun l => ∃ es, l = .list es ∧ All2 R ds es) :=
  z_lc hi hz (fun i d hd x G1 H1 e a hx Q k => k _ (wipe_set hj _) (he i d hd _ G1 e (((sl.mono e).wipe vs).set hx))) h0
theorem sl_startZ {N : List Str} {u : V} {vs : List V} (h : DpAll K G vs ds) (hn : ds.length + 1 ≤ N.length) : Sl K G (L2.start N (u :: vs)) (Slot.v u :: (ds.map Slot.d ++ List.replicate (N.length - (ds.length + 1)) Slot.no)) := by
  cases N with
  | nil => simp at hn
  | cons x r =>
    have h1 := sl_start (N := r) h (by simpa using hn)
    have e1 : L2.start (x :: r) (u :: vs) = some u :: L2.start r vs := by simp [L2.start]
    have e2 : (x :: r).length - (ds.length + 1) = r.length - ds.length := by simp
    rw [e1, e2]
    refine ⟨by simpa using h1.len, fun i s hs => ?_⟩
    cases i with
    | zero => cases hs; exact ⟨_, rfl, rfl⟩
    | succ i => exact h1.at_ i s (by simpa using hs)
theorem z_up {m k : Nat} (h : RvZ Z T K n m te σ G P) (e : m = k) : RvZ Z T K n k te σ G P := e ▸ h
theorem z_tupOf {m : Nat} {Pa : List PyData → Prop} (h : RvZ Z T K n m te σ G (fun l => ∃ es, l = .list es ∧ Pa es)) : RvZ Z T K n m (tCB (fun xs H Q => ∃ p ys, xs = [.ref p] ∧ ((SqL K H p ys ∧ ∀ l, H l = none → Q (.ref l) (upd H l (.tup ys))) ∨ (SqT K H p ys ∧ Q (.ref p) H))) (tCons te tNil)) σ G (fun l => ∃ es, l = .tuple es ∧ Pa es) := fun H a Q q =>
  h H a _ fun d v G2 H2 go a2 ⟨es, e, p⟩ hv => by
    subst e
    obtain ⟨b, xs, rfl, hs, hd⟩ := dp_lst hv
    refine ⟨b, xs, rfl, .inl ⟨a2.c.lst hs, fun o no => ?_⟩⟩
    have s3 : Step T G2 H2 (upd G2 o (.tup xs)) (upd H2 o (.tup xs)) := Step.new a2.t a2.c no tup_tbl
    exact q (.tuple es) _ _ _ (go.trans s3.go) (a2.step s3) ⟨es, rfl, p⟩ (.tup upd_same (sdpAll s3.g hd))
end
theorem nodesAll_take : ∀ {ds : List PyData} {i : Nat} {d : PyData}, ds[i]? = some d → nodesAll (ds.take (i + 1)) = nodesAll (ds.take i) + nodes d
  | [], i, d, h => by simp at h
  | x :: r, 0, d, h => by
    have h : x = d := Option.some.inj h
    subst h
    show nodes x + 0 = 0 + nodes x
    omega
  | x :: r, i + 1, d, h => by
    have := nodesAll_take (ds := r) (i := i) (d := d) (by simpa using h)
    show nodes x + nodesAll (r.take (i + 1)) = nodes x + nodesAll (r.take i) + nodes d
    omega
theorem brief_each : ∀ {ds : List PyData}, briefAll ds = true → ∀ d ∈ ds, brief d = true ∧ dep d ≤ depAll ds
  | [], _, d, h => by cases h
  | a :: ds, hs, d, h => by
    have f := Bool.and_eq_true_iff.mp (show (brief a && briefAll ds) = true from hs)
    have e : depAll (a :: ds) = max (dep a) (depAll ds) := rfl
    rcases List.mem_cons.mp h with z | z
    · subst z
      exact ⟨f.1, by omega⟩
    · have := brief_each f.2 d z
      exact ⟨this.1, by omega⟩
theorem nodesAll_le : ∀ (ds : List PyData) (i : Nat), nodesAll (ds.take i) ≤ nodesAll ds
  | [], i => by simp
  | x :: r, 0 => Nat.zero_le _
  | x :: r, i + 1 => by
    have := nodesAll_le r i
    show nodes x + nodesAll (r.take i) ≤ nodes x + nodesAll r
    omega
theorem looseAll_of : ∀ {ds es : List PyData}, All2 Loose ds es → LooseAll ds es
  | _, _, .nil => .nil
  | _, _, .cons h t => .cons h (looseAll_of t)
def costLo : List PyData → Nat := nodesAll
def preLo (m : Nat) : List PyData → Prop := fun ds => ∃ d, ds = [d] ∧ dep d ≤ m ∧ brief d = true
def outLo : List PyData → PyData → Prop := fun ds e => ∃ d, ds = [d] ∧ Loose d e
def SpLo (T : List (Addr × Str)) (K : PySem.W.Frag) : Nat → Sp
  | 0 => fun _ _ _ _ => False
  | m + 1 => SpZ T K costLo (preLo m) outLo
section
variable {P : Program} {w : World} {K : PySem.W.Frag} {mg : Str → Option Value} {base : Heap}
abbrev s__law_loose : Stmt := topS 51
theorem sc__law_loose : FnScope ["_law_stream_here", "_law_thing", "_law_some", "_law_one"] ["_law_stream_here", "_law_thing"] (defScope s__law_loose) := ⟨rfl, rfl, rfl, by decide +kernel, rfl, by decide +kernel, by decide +kernel⟩
theorem ok_loose_n (Y : Tx K mg base) : ∀ n, FnOk P w K mg base CX0 (n + 2) Y.f__law_loose.a Y.f__law_loose.fd ["_law_stream_here", "_law_thing"] (SpLo Y.T K n)
  | 0 => ⟨fun _ _ _ _ h => h.elim, fun _ _ _ _ _ _ _ _ _ _ _ _ _ h => h.elim⟩
  | N + 1 => by
    have ih := ok_loose_n Y N
    refine Y.f__law_loose.F.ok sc__law_loose (fun vs H Q E h => spz_len (E := E) (pre := preLo N) (a := 1) h fun ds hp => by obtain ⟨_, e, _⟩ := hp; rw [e]; rfl) (fun cdv A outer s H vs Q E hr h => ?_)
    obtain ⟨Z, G, n, us, ds, rfl, at_, hd, ⟨d, rfl, hdep, hbr⟩, hn, k⟩ := h
    obtain ⟨v, rfl, hv⟩ := dpA_one hd
    have hn : n + (nodes d + 0) ≤ countLim := hn
    have k : ∀ d' v G' H', Go Z G H G' H' → At Z Y.T G' H' (n + (nodes d + 0)) → Loose d d' → Dp K G' v d' → Q v H' := fun d' v G' H' go a l r => k d' v G' H' go a ⟨d, rfl, l⟩ r
    have sl := sl_startZ (N := ["_law_stream_here", "_law_thing", "_law_some", "_law_one"]) (u := .ref Z.s) (.cons hv .nil) (Nat.le_of_ble_eq_true rfl)
    refine ⟨_, (pss_cons (ps_if (pt_val (pe_callB call_isDT (by rfl) Y.z_isinstance (by decide +kernel) (pa_cons (pv 1) (pa_cons (pe_tup (pa_cons (pe_bltn (v := .ty "list") (u := .type "list") (by rfl) Y.z_list (by decide +kernel) rfl) (pa_cons (pe_bltn (v := .ty "tuple") (u := .type "tuple") (by rfl) Y.z_tuple (by decide +kernel) rfl) pa_nil))) pa_nil)))) (pss_cons (ps_setLc (i := 2) (own := [("_law_one", 3)]) (g := (gName 3)) rfl sc__law_loose.nd rfl rfl (sw_true rfl rfl rfl (by decide +kernel)) (pi_or (pi_list (pv 1)) (pi_tup (pv 1))) (blkOk_by (N := ["_law_stream_here", "_law_thing", "_law_some", "_law_one"]) (sc := defScope s__law_loose) (own := [("_law_one", 3)]) (by decide +kernel)) (fun _ _ _ _ _ => (pg_name (i := 3) sc__law_loose.nd rfl (Or.inl rfl))) (fun _ _ _ _ _ => pts_nil) (fun _ _ _ _ _ => (pe_call ih hr (by rfl) Y.f__law_loose.g Y.f__law_loose.F.kp Y.f__law_loose.b .nil pass0 (pa_cons (pv 0) (pa_cons (pv 3) pa_nil)))))
      (pss_one (ps_ret (pe_ifExp (pt_cmpR op_eq (pe_call (ok__law_draw Y) (hr.mono (by first | decide | omega)) (by rfl) Y.f__law_draw.g Y.f__law_draw.F.kp Y.f__law_draw.b .nil pass0 (pa_cons (pv 0) (pa_cons pe_int pa_nil))) pe_int (nomark _)) (pv 2) (pe_callTy call_tuple_of (by rfl) Y.z_tuple (by decide +kernel) (pa_cons (pv 2) pa_nil)))))) pss_nil)
      (pss_one (ps_ret (pv 1)))), ?_⟩
    by_cases hseq : isSeq d = true
    · have hlen : (itemsD d).length ≤ 100000 ∧ briefAll (itemsD d) = true ∧ depAll (itemsD d) + 1 ≤ N ∧ nodes d = 1 + nodesAll (itemsD d) ∧ ∀ es, LooseAll (itemsD d) es → Loose d (.list es) ∧ Loose d (.tuple es) := by
        cases d with
        | list ds =>
          have f := Bool.and_eq_true_iff.mp (show (decide (ds.length ≤ 100000) && briefAll ds) = true from hbr)
          exact ⟨of_decide_eq_true f.1, f.2, hdep, rfl, fun es l => ⟨.ll l, .lt l⟩⟩
        | tuple ds =>
          have f := Bool.and_eq_true_iff.mp (show (decide (ds.length ≤ 100000) && briefAll ds) = true from hbr)
          exact ⟨of_decide_eq_true f.1, f.2, hdep, rfl, fun es l => ⟨.tl l, .tt l⟩⟩
        | _ => cases hseq
      refine zq_if (T := Y.T) (Z := Z) (n := n) (m := n) (B := (· = true)) (Rt.z ((rt_B (rv_isi2 (d := d) (rv_sl sl rfl) (kit_list d) (kit_tuple d))).to ((isSeq_or d).trans hseq))) at_ (fun hb G1 H1 g1 a1 => ?_) (fun hb => nomatch hb)
      have sl1 := sl.mono g1.g
      refine zq_set (m := n + nodesAll (itemsD d)) sl1 (z_up (z_lcN (C := fun i => nodesAll ((itemsD d).take i)) (R := Loose) sl1 (ri_seq (rv_sl sl1 rfl) hseq) hlen.1 rfl (by decide) (fun i e he σ2 G2 e2 sl2 => ?_)) (by rw [List.take_length])) a1 (fun l σ' G2 H2 g2 a2 hl sl2 => ?_)
      · have hb := brief_each hlen.2.1 e (List.mem_of_getElem? he)
        cases N with
        | zero => omega
        | succ M =>
          refine z_up (z_callZ (c := nodes e) (P := Loose e) (sl2.getV (i := 0) rfl) (Ra.z (ra_cons (rv_sl sl2 rfl) ra_nil)) (fun ds ed => ?_) ?_) ?_
          · subst ed
            exact ⟨⟨e, rfl, by omega, hb.1⟩, Nat.le_refl _, fun d' ⟨e', h1, h2⟩ => by cases h1; exact h2⟩
          · have h1 := nodesAll_take he
            have h2 := nodesAll_le (itemsD d) (i + 1)
            omega
          · have h1 := nodesAll_take he
            show n + nodesAll ((itemsD d).take i) + nodes e = n + nodesAll ((itemsD d).take (i + 1))
            omega
      · obtain ⟨es, rfl, hR⟩ := hl
        have hR := looseAll_of hR
        obtain ⟨hL1, hL2⟩ := hlen.2.2.2.2 es hR
        refine zs_ret (P := Loose d) (m := n + (nodes d + 0)) (z_if (B := fun _ => True) (m := n + nodesAll (itemsD d) + 1) (zt_B ((z_eqI (z_callZ (c := 1) (Pa := (· = [.int 2])) (P := IntP fun _ => True) (sl2.getV (i := 0) rfl) (Ra.z (ra_cons rv_i ra_nil)) (fun ds e => ?_) ?_) z_int).imp fun d ⟨b, e⟩ => ⟨b, e, trivial⟩)) (fun _ => z_up ((Rv.z (rv_sl sl2 rfl)).imp fun d' e => ?_) ?_) fun _ => z_up ((z_tupOf (Pa := (· = es)) ((Rv.z (rv_sl sl2 rfl)).imp fun d' e => ⟨es, e, rfl⟩)).imp fun d' e => ?_) ?_) a2 fun d' v G' H' go a' p hv => k d' v G' H' ((g1.trans g2).trans go) a' p hv
        · subst e
          exact ⟨⟨2, rfl, by decide, by decide⟩, Nat.le_refl _, fun d' ⟨n, i, _, e, _⟩ => ⟨i, e, trivial⟩⟩
        · omega
        · rw [e]; exact hL1
        · omega
        · obtain ⟨es', e1, e2⟩ := e
          rw [e1, e2]
          exact hL2
        · omega
    · have hseq : isSeq d = false := by simpa using hseq
      have hd : nodes d = 0 ∧ Loose d d := by
        cases d with
        | list ds => cases hseq
        | tuple ds => cases hseq
        | dict l => cases hbr
        | none => exact ⟨rfl, .none⟩
        | bool b => exact ⟨rfl, .bool b⟩
        | int i => exact ⟨rfl, .int i⟩
        | str x => exact ⟨rfl, .str x⟩
      refine zq_if (T := Y.T) (Z := Z) (n := n) (m := n) (B := (· = false)) (Rt.z ((rt_B (rv_isi2 (d := d) (rv_sl sl rfl) (kit_list d) (kit_tuple d))).to ((isSeq_or d).trans hseq))) at_ (fun hb => nomatch hb) (fun hb G1 H1 g1 a1 => ?_)
      refine t_next ?_
      dsimp only
      refine zs_ret (P := Loose d) (m := n + (nodes d + 0)) (z_up ((Rv.z (rv_sl (sl.mono g1.g) rfl)).imp fun d' e => by rw [e]; exact hd.2) (by omega)) a1 fun d' v G' H' go a' p hv => k d' v G' H' (g1.trans go) a' p hv
end
end Qw
namespace Qw
open PySem PySem.Spec PyProof.Rows L2 LamX Qk
/-- a fraction written otherwise: both its numbers times 1, 2 or 3, in a list or a tuple -/
def RawOf (q : Rat) (e : PyData) : Prop := ∃ m : Int, (m = 1 ∨ m = 2 ∨ m = 3) ∧ (e = .list [.int (q.num * m), .int ((q.den : Int) * m)] ∨ e = .tuple [.int (q.num * m), .int ((q.den : Int) * m)])
theorem looseAll_ints : ∀ {xs : List Int} {es : List PyData}, LooseAll (xs.map .int) es → es = xs.map .int
  | [], _, h => by cases h; rfl
  | x :: r, _, h => by
    cases h with
    | cons h t =>
      cases h
      rw [looseAll_ints t]
      rfl
theorem raw_of {q : Rat} {m : Int} {e : PyData} (hm : m = 1 ∨ m = 2 ∨ m = 3) (h : Loose (.tuple [.int (q.num * m), .int ((q.den : Int) * m)]) e) : RawOf q e := by
  refine ⟨m, hm, ?_⟩
  cases h with
  | tl h => exact .inl (by rw [looseAll_ints (xs := [q.num * m, (q.den : Int) * m]) h]; rfl)
  | tt h => exact .inr (by rw [looseAll_ints (xs := [q.num * m, (q.den : Int) * m]) h]; rfl)
section
variable {P : Program} {w : World} {K : PySem.W.Frag} {mg : Str → Option Value} {base : Heap}
theorem ok__law_loose (Y : Tx K mg base) : FnOk P w K mg base CX0 7 Y.f__law_loose.a Y.f__law_loose.fd ["_law_stream_here", "_law_thing"] (SpZ Y.T K costLo (preLo 4) outLo) := ok_loose_n Y 5
def preRaw : List PyData → Prop := fun ds => ∃ q, ds = [dq q] ∧ Sz 150 q
def outRaw : List PyData → PyData → Prop := fun ds e => ∃ q, ds = [dq q] ∧ RawOf q e
theorem dq_inj {p q : Rat} (h : dq p = dq q) : p = q := by
  unfold dq at h
  simp at h
  exact Rat.ext h.1 (by omega)
abbrev s__law_raw : Stmt := topS 60
theorem sc__law_raw : FnScope ["_law_stream_here", "_law_thing", "_law_many"] ["_law_stream_here", "_law_thing"] (defScope s__law_raw) := ⟨rfl, rfl, rfl, by decide +kernel, rfl, by decide +kernel, by decide +kernel⟩
theorem ok__law_raw (Y : Tx K mg base) : FnOk P w K mg base CX0 8 Y.f__law_raw.a Y.f__law_raw.fd ["_law_stream_here", "_law_thing"] (SpZ Y.T K (fun _ => 2) preRaw outRaw) := by
  refine Y.f__law_raw.F.ok sc__law_raw (fun vs H Q E h => spz_len (E := E) (pre := preRaw) (a := 1) h fun ds hp => by obtain ⟨_, e, _⟩ := hp; rw [e]; rfl) (fun cdv A outer s H vs Q E hr h => ?_)
  obtain ⟨Z, G, n, us, ds, rfl, at_, hd, ⟨q, rfl, hz⟩, hn, k⟩ := h
  have sl := sl_startZ (N := ["_law_stream_here", "_law_thing", "_law_many"]) (u := .ref Z.s) hd (Nat.le_of_ble_eq_true rfl)
  have hn : n + 2 ≤ countLim := hn
  refine ⟨_, (pss_cons (ps_set (i := 2) sc__law_raw.nd rfl (Or.inl rfl) (pe_call (ok__law_pick Y) (hr.mono (by first | decide | omega)) (by rfl) Y.f__law_pick.g Y.f__law_pick.F.kp Y.f__law_pick.b .nil pass0 (pa_cons (pv 0) (pa_cons (pe_lst (pa_cons pe_int (pa_cons pe_int (pa_cons pe_int (pa_cons pe_int (pa_cons pe_int pa_nil)))))) pa_nil))))
      (pss_one (ps_ret (pe_call (ok__law_loose Y) (hr.mono (by first | decide | omega)) (by rfl) Y.f__law_loose.g Y.f__law_loose.F.kp Y.f__law_loose.b .nil pass0 (pa_cons (pv 0) (pa_cons (pe_tup (pa_cons (pe_op op_mulW (pe_ix ix_tup (pv 1) pe_int (fun _ _ => rfl)) (pv 2)) (pa_cons (pe_op op_mulW (pe_ix ix_tup (pv 1) pe_int (fun _ _ => rfl)) (pv 2)) pa_nil))) pa_nil)))))), ?_⟩
  refine zq_set (P := IntP fun m => m = 1 ∨ m = 2 ∨ m = 3) (m := n + 1) sl (z_callZ (c := 1) (sl.getV (i := 0) rfl) (Ra.z (ra_cons (Rv.ld (rv_lst (ra_cons rv_i (ra_cons rv_i (ra_cons rv_i (ra_cons rv_i (ra_cons rv_i ra_nil))))) (by decide))) ra_nil)) (fun ds e => ?_) (by omega)) at_ fun d σ1 G1 H1 g1 a1 hm sl1 => ?_
  · subst e
    refine ⟨⟨_, rfl, by decide, by decide⟩, Nat.le_refl _, fun d ⟨es, h1, h2⟩ => ?_⟩
    cases h1
    simp only [List.mem_cons, List.not_mem_nil, or_false] at h2
    rcases h2 with h | h | h | h | h
    · exact ⟨_, h, .inl rfl⟩
    · exact ⟨_, h, .inl rfl⟩
    · exact ⟨_, h, .inl rfl⟩
    · exact ⟨_, h, .inr (.inl rfl)⟩
    · exact ⟨_, h, .inr (.inr rfl)⟩
  · obtain ⟨m, rfl, hm⟩ := hm
    have hmul : ∀ x : Int, x.natAbs < 2 ^ 151 → CMulW x m := fun x hx => by
      show x.natAbs.log2 + m.natAbs.log2 < 1000000
      have h1 : x.natAbs.log2 ≤ 150 := lg hx
      have h2 : m.natAbs.log2 ≤ 31 := lg (by omega)
      omega
    refine zs_ret (P := RawOf q) (m := n + 1 + 1) (z_callZ (c := 1) (Pa := (· = [.tuple [.int (q.num * m), .int ((q.den : Int) * m)]])) (sl1.getV (i := 0) rfl) (Ra.z (ra_cons (rv_tup (ra_cons (rv_mul (rv_ixT (n := 0) (rv_sl sl1 rfl) rv_i rfl) (rv_sl sl1 rfl) (hmul _ ?_)) (ra_cons (rv_mul (rv_ixT (n := 1) (rv_sl sl1 rfl) rv_i rfl) (rv_sl sl1 rfl) (hmul _ ?_)) ra_nil)) (by simp)) ra_nil)) (fun ds e => ?_) ?_) a1 fun d v G' H' go a' p hv => k d v G' H' (g1.trans go) a' ⟨q, rfl, p⟩ hv
    · have := hz.one
      omega
    · have := hz.two
      rw [Int.natAbs_natCast]
      omega
    · subst e
      exact ⟨⟨_, rfl, (show (1 : Nat) ≤ 4 by decide), rfl⟩, Nat.le_refl _, fun d ⟨d', h1, h2⟩ => by cases h1; exact raw_of hm h2⟩
    · omega
end
end Qw
namespace Qw
open PySem PySem.Spec PyProof.Rows L2 LamX Qk
theorem piK_tup (K : PySem.W.Frag) {X : Cx} {tg l : Expr} {tl : TE} (e : X.K = K) (h : PE X l tl) : PI X tg l (iTup K tl) := e ▸ pi_tup h
/-- a corner written otherwise, in a list -/
def RowOf (c : Cn) (e : PyData) : Prop := ∃ a b, e = .list [a, b] ∧ RawOf c.1 a ∧ RawOf c.2 b
/-- a curve written otherwise -/
def CurveOf (c : Cv) (e : PyData) : Prop := ∃ rows r, All2 RowOf c.1 rows ∧ RawOf c.2 r ∧ Loose (.list [.list rows, r]) e
def SzC (n : Nat) (c : Cv) : Prop := (∀ p ∈ c.1, Sz n p.1 ∧ Sz n p.2) ∧ Sz n c.2
section
variable {P : Program} {w : World} {K : PySem.W.Frag} {mg : Str → Option Value} {base : Heap}
def preCraw : List PyData → Prop := fun ds => ∃ c, ds = [dv c] ∧ SzC 150 c ∧ c.1.length ≤ 50
def outCraw : List PyData → PyData → Prop := fun ds e => ∃ c, ds = [dv c] ∧ CurveOf c e
theorem raw_small {q : Rat} {e : PyData} (h : RawOf q e) : dep e ≤ 1 ∧ brief e = true ∧ nodes e = 1 := by
  obtain ⟨m, _, rfl | rfl⟩ := h
  · exact ⟨(show (1 : Nat) ≤ 1 by decide), rfl, rfl⟩
  · exact ⟨(show (1 : Nat) ≤ 1 by decide), rfl, rfl⟩
theorem row_small {c : Cn} {e : PyData} (h : RowOf c e) : dep e ≤ 2 ∧ brief e = true ∧ nodes e = 3 := by
  obtain ⟨a, b, rfl, ha, hb⟩ := h
  obtain ⟨h1, h2, h3⟩ := raw_small ha
  obtain ⟨h4, h5, h6⟩ := raw_small hb
  refine ⟨?_, ?_, ?_⟩
  · show max (dep a) (max (dep b) 0) + 1 ≤ 2
    omega
  · show (decide (([a, b] : List PyData).length ≤ 100000) && (brief a && (brief b && true))) = true
    rw [h2, h5]
    rfl
  · show 1 + (nodes a + (nodes b + 0)) = 3
    omega
theorem rows_small : ∀ {cs : List Cn} {rows : List PyData}, All2 RowOf cs rows → depAll rows ≤ 2 ∧ briefAll rows = true ∧ nodesAll rows = 3 * cs.length
  | _, _, .nil => ⟨Nat.zero_le _, rfl, rfl⟩
  | _, _, .cons (a := c) (b := e) (as := cs) (bs := rows) h t => by
    obtain ⟨h1, h2, h3⟩ := row_small h
    obtain ⟨h4, h5, h6⟩ := rows_small t
    refine ⟨?_, ?_, ?_⟩
    · show max (dep e) (depAll rows) ≤ 2
      omega
    · show (brief e && briefAll rows) = true
      rw [h2, h5]
      rfl
    · show nodes e + nodesAll rows = 3 * (cs.length + 1)
      omega
theorem all2_imp {α β : Type} {R S : α → β → Prop} : ∀ {as : List α} {bs : List β}, All2 R as bs → (∀ a b, R a b → S a b) → All2 S as bs
  | _, _, .nil, _ => .nil
  | _, _, .cons h t, f => .cons (f _ _ h) (all2_imp t f)
theorem all2_map {α β γ : Type} {f : α → β} {R : β → γ → Prop} : ∀ {as : List α} {cs : List γ}, All2 R (as.map f) cs → All2 (fun a c => R (f a) c) as cs
  | [], _, .nil => .nil
  | _ :: _, _, .cons h t => .cons h (all2_map t)
abbrev s__law_c_raw : Stmt := topS 73
theorem sc__law_c_raw : FnScope ["_law_stream_here", "_law_curve", "_law_corners", "_law_pair", "_law_one"] ["_law_stream_here", "_law_curve"] (defScope s__law_c_raw) := ⟨rfl, rfl, rfl, by decide +kernel, rfl, by decide +kernel, by decide +kernel⟩
theorem ok__law_c_raw (Y : Tx K mg base) : FnOk P w K mg base CX0 9 Y.f__law_c_raw.a Y.f__law_c_raw.fd ["_law_stream_here", "_law_curve"] (SpZ Y.T K (fun _ => 1000) preCraw outCraw) := by
  refine Y.f__law_c_raw.F.ok sc__law_c_raw (fun vs H Q E h => spz_len (E := E) (pre := preCraw) (a := 1) h fun ds hp => by obtain ⟨_, e, _⟩ := hp; rw [e]; rfl) (fun cdv A outer s H vs Q E hr h => ?_)
  obtain ⟨Z, G, n, us, ds, rfl, at_, hd, ⟨c, rfl, hz, hl⟩, hn, k⟩ := h
  have sl := sl_startZ (N := ["_law_stream_here", "_law_curve", "_law_corners", "_law_pair", "_law_one"]) (u := .ref Z.s) hd (Nat.le_of_ble_eq_true rfl)
  have hn : n + 1000 ≤ countLim := hn
  refine ⟨_, (pss_cons (ps_setLc (i := 2) (own := [("_law_pair", 3)]) (g := (gName 3)) rfl sc__law_c_raw.nd rfl rfl (sw_true rfl rfl rfl (by decide +kernel)) (pi_list (pe_ix ix_tup (pv 1) pe_int (fun _ _ => rfl))) (blkOk_by (N := ["_law_stream_here", "_law_curve", "_law_corners", "_law_pair", "_law_one"]) (sc := defScope s__law_c_raw) (own := [("_law_pair", 3)]) (by decide +kernel)) (fun _ _ _ _ _ => (pg_name (i := 3) sc__law_c_raw.nd rfl (Or.inl rfl))) (fun _ _ _ _ _ => pts_nil) (fun _ _ _ _ _ => (pe_lc (own := [("_law_one", 4)]) (g := (gName 4)) rfl sc__law_c_raw.nd (piK_tup K rfl (pv 3)) (blkOk_by (N := ["_law_stream_here", "_law_curve", "_law_corners", "_law_pair", "_law_one"]) (sc := ({ kind := .function, names := [(".0", .local), ("_law_pair", .local), ("_law_stream_here", .cell)], isGenerator := false, isCoroutine := false } : Scope)) (own := [("_law_one", 4)]) (by decide +kernel)) (fun _ _ _ _ _ => (pg_name (i := 4) sc__law_c_raw.nd rfl (Or.inl rfl))) (fun _ _ _ _ _ => pts_nil) (fun _ _ _ _ _ => (pe_call (ok__law_raw Y) (hr.mono (by first | decide | omega)) (by rfl) Y.f__law_raw.g Y.f__law_raw.F.kp Y.f__law_raw.b .nil pass0 (pa_cons (pv 0) (pa_cons (pv 4) pa_nil)))))))
      (pss_one (ps_ret (pe_call (ok__law_loose Y) (hr.mono (by first | decide | omega)) (by rfl) Y.f__law_loose.g Y.f__law_loose.F.kp Y.f__law_loose.b .nil pass0 (pa_cons (pv 0) (pa_cons (pe_lst (pa_cons (pv 2) (pa_cons (pe_call (ok__law_raw Y) (hr.mono (by first | decide | omega)) (by rfl) Y.f__law_raw.g Y.f__law_raw.F.kp Y.f__law_raw.b .nil pass0 (pa_cons (pv 0) (pa_cons (pe_ix ix_tup (pv 1) pe_int (fun _ _ => rfl)) pa_nil))) pa_nil))) pa_nil)))))), ?_⟩
  refine zq_set (P := fun l => ∃ rows, l = .list rows ∧ All2 RowOf c.1 rows) (m := n + 4 * c.1.length) sl (z_up ((z_lcN (C := fun i => 4 * i) (R := fun d e => ∀ p, d = dc p → RowOf p e) sl (ri_list (rv_ixT (n := 0) (rv_sl sl rfl) rv_i rfl)) (by rw [List.length_map]; omega) rfl (by decide) (fun i d hd σ2 G2 e2 sl2 => ?_)).imp fun d h => ?_) (by rw [List.length_map])) at_ fun d σ1 G1 H1 g1 a1 hrows sl1 => ?_
  · have hi := (List.getElem?_eq_some_iff.mp hd).1
    rw [List.length_map] at hi
    rw [List.getElem?_map] at hd
    obtain ⟨p, hp, rfl⟩ := Option.map_eq_some_iff.mp hd
    have hmem := List.mem_of_getElem? hp
    refine z_up ((z_lcN (C := fun i => 2 * i) (R := fun d e => ∀ q, d = dq q → RawOf q e) sl2 (ri_tup (ds := [dq p.1, dq p.2]) (rv_sl sl2 rfl)) (by simp) rfl (by decide) (fun i2 d2 hd2 σ3 G3 e3 sl3 => ?_)).imp fun d h => ?_) (by show n + 4 * i + 2 * 2 = n + 4 * (i + 1); omega)
    · have hi2 := (List.getElem?_eq_some_iff.mp hd2).1
      have hi2 : i2 < 2 := hi2
      have hq : ∃ q, d2 = dq q ∧ Sz 150 q := by
        match i2, hd2 with
        | 0, hd2 => exact ⟨p.1, (Option.some.inj hd2).symm, (hz.1 p hmem).1⟩
        | 1, hd2 => exact ⟨p.2, (Option.some.inj hd2).symm, (hz.1 p hmem).2⟩
      obtain ⟨q, rfl, hq⟩ := hq
      refine z_up (z_callZ (c := 2) (sl3.getV (i := 0) rfl) (Ra.z (ra_cons (rv_sl sl3 rfl) ra_nil)) (fun ds e => ?_) (by omega)) (by omega)
      subst e
      exact ⟨⟨q, rfl, hq⟩, Nat.le_refl _, fun d ⟨q', h1, h2⟩ q'' h3 => by
        rw [← dq_inj h3, dq_inj (List.cons.inj h1).1]
        exact h2⟩
    · obtain ⟨es, rfl, h⟩ := h
      intro p' hp'
      cases h with
      | cons h1 t =>
        cases t with
        | cons h2 t =>
          cases t
          have e1 : dq p.1 = dq p'.1 ∧ dq p.2 = dq p'.2 := by
            have := hp'
            unfold dc at this
            simpa using this
          exact ⟨_, _, rfl, h1 _ e1.1, h2 _ e1.2⟩
  · obtain ⟨es, rfl, h⟩ := h
    have := all2_map h
    exact ⟨es, rfl, all2_imp this fun a b h => h a rfl⟩
  · obtain ⟨rows, rfl, hrows⟩ := hrows
    obtain ⟨r1, r2, r3⟩ := rows_small hrows
    have hraw : RvZ Z Y.T K (n + 4 * c.1.length) (n + 4 * c.1.length + 2) (tCall (SpZ Y.T K (fun _ => 2) preRaw outRaw) [] E0 (tCons (tVar 0) (tCons (tOp (rIxT K) (tVar 1) (tC (.int 1))) tNil))) σ1 G1 (RawOf c.2) := by
      refine z_callZ (c := 2) (sl1.getV (i := 0) rfl) (Ra.z (ra_cons (rv_ixT (n := 1) (rv_sl sl1 rfl) rv_i rfl) ra_nil)) (fun ds e => ?_) (by omega)
      subst e
      exact ⟨⟨c.2, rfl, hz.2⟩, Nat.le_refl _, fun d ⟨q', h1, h2⟩ => by
        rw [dq_inj (List.cons.inj h1).1]
        exact h2⟩
    refine zs_ret (P := CurveOf c) (m := n + 1000) ((z_callZ (c := 3 * c.1.length + 3) (P := CurveOf c) (sl1.getV (i := 0) rfl) (za_1 (z_lst (za_2 (Rv.z (rv_sl sl1 rfl)) hraw) fun ds h => ?_)) (fun ds h => ?_) (by omega)).up (by omega)) a1 fun d v G' H' go a' p hv => k d v G' H' (g1.trans go) a' ⟨c, rfl, p⟩ hv
    · obtain ⟨_, _, rfl, _⟩ := h
      exact (show (2 : Nat) ≤ 100000 by decide)
    · obtain ⟨d, rfl, es, rfl, d1, r, rfl, rfl, hr2⟩ := h
      obtain ⟨q1, q2, q3⟩ := raw_small hr2
      have hl2 : rows.length ≤ 100000 := by
        have := hrows.len
        omega
      refine ⟨⟨_, rfl, ?_, ?_⟩, ?_, fun d' ⟨d2, e1, e2⟩ => ?_⟩
      · show max (depAll rows + 1) (max (dep r) 0) + 1 ≤ 4
        omega
      · show (decide (([.list rows, r] : List PyData).length ≤ 100000) && ((decide (rows.length ≤ 100000) && briefAll rows) && (brief r && true))) = true
        rw [r2, q2, decide_eq_true hl2]
        rfl
      · show 1 + ((1 + nodesAll rows) + (nodes r + 0)) + 0 ≤ 3 * c.1.length + 3
        omega
      · cases e1
        exact ⟨rows, r, hrows, hr2, e2⟩
end
end Qw
namespace Qw
open PySem PySem.Spec PyProof.Rows L2 LamX Qk
section
variable {Z : Stm} {T : List (Addr × Str)} {K : PySem.W.Frag} {σ : L2.St} {G H : Hp} {te : TE} {n m : Nat}
/-- {} -/
theorem rv_dnew : Rv T tDNewK σ G (IsD K (.dict [])) := fun H t c Q q => fun d hd =>
  have s : Step T G H (upd G d (.dK [])) (upd H d (.dK [])) := Step.new t c hd (fun ps z => by cases z)
  q _ _ _ s (.dct upd_same)
end
section
variable {P : Program} {w : World} {K : PySem.W.Frag} {mg : Str → Option Value} {base : Heap}
/-! ### _law_odd -/
def oddL (f : Addr) : List PyData := [.none, .int 5, .int (-1), .bool true, .str "ab", .str "", .dict [], .tuple [], .list [], .list [.list []], .tuple [.int 1, .int 0], .tuple [.bool true, .int 1], .list [.tuple [.list [], .tuple [.int 0, .int 1]]], .dict [(.int (f : Nat), .none)]]
abbrev s__law_odd : Stmt := topS 76
theorem sc__law_odd : FnScope ["_law_stream_here"] ["_law_stream_here"] (defScope s__law_odd) := ⟨rfl, rfl, rfl, by decide +kernel, rfl, by decide +kernel, by decide +kernel⟩
theorem ok__law_odd (Y : Tx K mg base) : FnOk P w K mg base CX0 4 Y.f__law_odd.a Y.f__law_odd.fd ["_law_stream_here"] (SpZ Y.T K (fun _ => 1) (· = []) (fun _ d => d ∈ oddL Y.f__law_odd.a)) := by
  refine Y.f__law_odd.F.ok sc__law_odd (fun vs H Q E h => spz_len (E := E) (pre := (· = [])) (a := 0) h fun ds hp => by rw [hp]; rfl) (fun cdv A outer s H vs Q E hr h => ?_)
  obtain ⟨Z, G, n, us, ds, rfl, at_, hd, rfl, hn, k⟩ := h
  have sl := sl_startZ (N := ["_law_stream_here"]) (u := .ref Z.s) hd (Nat.le_of_ble_eq_true rfl)
  have hn : n + 1 ≤ countLim := hn
  refine ⟨_, (pss_one (ps_ret (pe_call (ok__law_pick Y) (hr.mono (by first | decide | omega)) (by rfl) Y.f__law_pick.g Y.f__law_pick.F.kp Y.f__law_pick.b .nil pass0 (pa_cons (pv 0) (pa_cons (pe_lst (pa_cons pe_non (pa_cons pe_int (pa_cons (pe_un un_neg pe_int) (pa_cons pe_bl (pa_cons pe_str (pa_cons pe_str (pa_cons pe_dnewK (pa_cons (pe_tup pa_nil) (pa_cons (pe_lst pa_nil) (pa_cons (pe_lst (pa_cons (pe_lst pa_nil) pa_nil)) (pa_cons (pe_tup (pa_cons pe_int (pa_cons pe_int pa_nil))) (pa_cons (pe_tup (pa_cons pe_bl (pa_cons pe_int pa_nil))) (pa_cons (pe_lst (pa_cons (pe_tup (pa_cons (pe_lst pa_nil) (pa_cons (pe_tup (pa_cons pe_int (pa_cons pe_int pa_nil))) pa_nil))) pa_nil)) (pa_cons (pe_glob (v := .ref Y.f__law_odd.a) (by rfl) Y.f__law_odd.g rfl) pa_nil))))))))))))))) pa_nil))))), ?_⟩
  refine zs_ret (P := (· ∈ oddL Y.f__law_odd.a)) (m := n + 1) (z_callZ (c := 1) (Pa := (· = [.list (oddL Y.f__law_odd.a)])) (sl.getV (i := 0) rfl) (Ra.z (ra_cons (Rv.ld (rv_lst ?_ (show (14 : Nat) ≤ 100000 by decide))) ra_nil)) (fun ds e => ?_) hn) at_ fun d v G' H' go a' p hv => k d v G' H' go a' p hv
  · refine ra_cons rv_n (ra_cons rv_i (ra_cons (rv_neg rv_i) (ra_cons rv_b (ra_cons rv_s (ra_cons rv_s (ra_cons rv_dnew (ra_cons (rv_tup ra_nil (by decide)) (ra_cons (Rv.ld (rv_lst ra_nil (by decide))) (ra_cons (Rv.ld (rv_lst (ra_cons (Rv.ld (rv_lst ra_nil (by decide))) ra_nil) (by decide))) (ra_cons (rv_tup (ra_cons rv_i (ra_cons rv_i ra_nil)) (by decide)) (ra_cons (rv_tup (ra_cons rv_b (ra_cons rv_i ra_nil)) (by decide)) (ra_cons (Rv.ld (rv_lst (ra_cons (rv_tup (ra_cons (Rv.ld (rv_lst ra_nil (by decide))) (ra_cons (rv_tup (ra_cons rv_i (ra_cons rv_i ra_nil)) (by decide)) ra_nil)) (by decide)) ra_nil) (by decide))) (ra_cons ?_ ra_nil)))))))))))))
    exact fun H t c Q q => q _ G H (Step.refl t c) (.fn Y.f__law_odd.F.kp Y.fn_odd)
  · subst e
    exact ⟨⟨_, rfl, (show (0 : Nat) < 14 by decide), (show (14 : Nat) ≤ 100000 by decide)⟩, Nat.le_refl _, fun d ⟨es, h1, h2⟩ => by cases h1; exact h2⟩
end
end Qw
namespace Qw
open PySem PySem.Spec PyProof.Rows L2 LamX Qk
section
variable {P : Program} {w : World} {K : PySem.W.Frag} {mg : Str → Option Value} {base : Heap}
/-! ### _law_stream -/
theorem dp_intsV {K : PySem.W.Frag} {G : Hp} : ∀ {xs : List Int} {vs : List V}, DpAll K G vs (xs.map .int) → vs = xs.map .int
  | [], _, h => by cases h; rfl
  | x :: r, _, h => by
    cases h with
    | cons h t => rw [dp_int h, dp_intsV t]; rfl
def SpSt (T : List (Addr × Str)) (K : PySem.W.Frag) : Sp := fun vs H Q _ => ∃ (G : Hp) (a : Addr) (xs : List Int), Cl G H ∧ Tabs T H ∧ vs = [.ref a] ∧ SqL K H a (xs.map .int) ∧ ∀ Z H', Step T G H G H' → At Z T G H' 0 → Q (.ref Z.s) H'
abbrev s__law_stream : Stmt := topS 47
theorem sc__law_stream : FnScope ["_law_script"] ["_law_script"] (defScope s__law_stream) := ⟨rfl, rfl, rfl, by decide +kernel, rfl, by decide +kernel, by decide +kernel⟩
theorem ok__law_stream (Y : Tx K mg base) : FnOk P w K mg base CX0 1 Y.f__law_stream.a Y.f__law_stream.fd ["_law_script"] (SpSt Y.T K) := by
  refine Y.f__law_stream.F.ok sc__law_stream (fun vs H Q E h => ?_) (fun cdv A outer s H vs Q E hr h => ?_)
  · obtain ⟨G, a, xs, _, _, rfl, _⟩ := h
    rfl
  · obtain ⟨G, a, xs, c, t, rfl, hs, k⟩ := h
    refine ⟨_, (pss_one (ps_ret (pe_lst (pa_cons (pe_callTy call_list_of (by rfl) Y.z_list (by decide +kernel) (pa_cons (pv 0) pa_nil)) (pa_cons pe_int (pa_cons pe_int (pa_cons pe_int pa_nil))))))), ?_⟩
    refine ⟨.ref a, rfl, a, xs.map .int, rfl, .inl hs, fun l hl => ⟨by show 4 ≤ sizeLine; decide, fun s hs2 => ?_⟩⟩
    have s1 : Step Y.T G H G (upd H l (.lst (xs.map .int))) := Step.newH t c hl
    have s2 := Step.newH (o := .lst [.ref l, .int 0, .int 0, .int 17]) s1.t s1.s hs2
    have ne : l ≠ s := ne_of_none upd_same hs2
    refine k ⟨s, l⟩ _ (s1.trans s2) ⟨s2.t, s2.s, clean_none s1.s hs2, clean_none c hl, xs, 0, 0, 17, upd_same, ?_, by decide, by decide, by decide, by decide, by decide⟩
    show upd (upd H l _) s _ l = _
    rw [upd_ne ne, upd_same]
end
end Qw
namespace Qw
open PySem PySem.Spec PyProof.Rows L2 LamX Qk
/-- what is walked, the stream drawn from: data of which something is known -/
def RiZ (Z : Stm) (T : List (Addr × Str)) (K : PySem.W.Frag) (n m : Nat) (wi : TI) (σ : L2.St) (G : Hp) (P : List PyData → Prop) : Prop := ∀ H, At Z T G H n → ∀ R : It → Hp → Prop, (∀ J ds G2 H2, Go Z G H G2 H2 → At Z T G2 H2 m → P ds → Yl T K J G2 ds → R J H2) → wi σ H R
section
variable {Z : Stm} {T : List (Addr × Str)} {K : PySem.W.Frag} {σ : L2.St} {G G0 H0 G' H H' G1 H1 : Hp} {te : TE} {ds es : List PyData} {aa : TA} {n m k : Nat} {wi : TI} {g : TG} {P : List PyData → Prop} {D : Ends} {tbd tz : TS}
theorem Ri.z (h : Ri T K wi σ G ds) : RiZ Z T K n n wi σ G (· = ds) := fun H a R q => h H a.t a.c R fun J G2 H2 s2 yl => q J ds G2 H2 s2.go (a.step s2) rfl yl
theorem riz_range1 {p : Int → Prop} (h : RaZ Z T K n m aa σ G (fun ds => ∃ i, ds = [.int i] ∧ p i)) (hp : ∀ i, p i → 0 ≤ i ∧ i < 100000) : RiZ Z T K n m (iRng1 aa) σ G (fun ds => ∃ i, p i ∧ ds = (List.range i.toNat).map fun j => .int (0 + (j : Nat))) := fun H a R q =>
  h H a _ fun ds vs G2 H2 go a2 ⟨i, e, pi⟩ hv => by
    subst e
    cases dpA_int1 hv
    obtain ⟨h1, h2⟩ := hp i pi
    exact ⟨i, rfl, by omega, by omega, q _ _ G2 H2 go a2 ⟨i, pi, rfl⟩ yl_range⟩
/-- for, the stream drawn from: I i σ G H holds before turn i -/
theorem zs_for (hi : RiZ Z T K n m wi σ G P) (a : At Z T G H n)
    (k : ∀ ds G1 H1, P ds → Go Z G H G1 H1 → At Z T G1 H1 m → ∃ I : Nat → L2.St → Hp → Hp → Prop, I 0 σ G1 H1 ∧ (∀ i σ' G' H', I i σ' G' H' → Same G1 G' ∧ ∃ n', At Z T G' H' n') ∧
      (∀ i d x σ' G' H' G'' H'', ds[i]? = some d → I i σ' G' H' → Step T G' H' G'' H'' → Dp K G'' x d →
        g x σ' H'' fun σ2 H2 => tbd { D with nx := fun σ H => ∃ G, I (i + 1) σ G H, ct := fun σ H => ∃ G, I (i + 1) σ G H, bk := D.nx } σ2 H2) ∧
      ∀ σ' G' H', I ds.length σ' G' H' → D.nx σ' H') : tFor wi g tbd D σ H :=
  hi H a _ fun J ds G1 H1 g1 a1 p yl => by
    obtain ⟨I, h0, hI, hs, hd⟩ := k ds G1 H1 p g1 a1
    refine ⟨fun i m σ' H' => m = ds.length - i ∧ i ≤ ds.length ∧ ∃ G', I i σ' G' H', ⟨ds.length, by simp, Nat.zero_le _, G1, h0⟩, fun i m σ' H' hW => ?_⟩
    obtain ⟨rfl, hle, G', p⟩ := hW
    obtain ⟨e, n', a'⟩ := hI _ _ _ _ p
    by_cases hlt : i < ds.length
    · refine .inr ⟨yl.go i G' H' e a'.c hlt, fun σ H => ∃ G, I (i + 1) σ G H, fun σ2 H2 hN => ⟨ds.length - (i + 1), by omega, rfl, hlt, hN⟩, fun x H'' hy => ?_⟩
      obtain ⟨G'', s2, dx⟩ := yl.yld i G' H' x H'' _ e a'.c a'.t (List.getElem?_eq_getElem hlt) hy
      exact hs i _ x σ' G' H' G'' H'' (List.getElem?_eq_getElem hlt) p s2 dx
    · have ei : i = ds.length := by omega
      subst ei
      exact .inl ⟨yl.stop _ G' H' e a'.c (Nat.le_refl _), hd σ' G' H' p⟩
end
end Qw
namespace Qw
open PySem PySem.Spec PyProof.Rows L2 LamX Qk
section
variable {Z : Stm} {T : List (Addr × Str)} {K : PySem.W.Frag} {σ : L2.St} {G G0 H0 G' H H' G1 H1 : Hp} {te : TE} {ds es : List PyData} {aa : TA} {n m k i j l : Nat} {P : PyData → Prop} {Pa : List PyData → Prop} {D : Ends} {tbd tz : TS} {ss : List Slot} {o : Addr}
/-- a, b, c = [], e, f -/
theorem zq_par3F (sl : Sl K G σ ss) (a : At Z T G H n) (h : RaZ Z T K n m aa σ G Pa) (h2 : ∀ ds, Pa ds → ds.length = 2) (k : ∀ o d2 d3 σ' G' H', Pa [d2, d3] → OwnZ Z T K G H G' H' m o [] → Sl K G' σ' (((ss.set i (.v (.ref o))).set j (.d d2)).set l (.d d3)) → tz D σ' H') :
    tSeq (tPar3 i j l (tCons (tLst tNil) aa)) tz D σ H :=
  ⟨Nat.zero_le _, fun o no => by
    have w : OwnZ Z T K G H G (upd H o (.lst [])) n o [] := OwnZ.new Go.refl a no
    refine h _ w.at_ _ fun ds vs G' H' go a' p hv => ?_
    obtain ⟨d2, d3, rfl⟩ : ∃ d2 d3, ds = [d2, d3] := by
      have := h2 ds p
      match ds, this with
      | [x, y], _ => exact ⟨x, y, rfl⟩
    obtain ⟨y, z, rfl, hy, hz⟩ := dp2 hv
    exact ⟨_, _, _, rfl, k o d2 d3 _ G' H' p (w.step go a') ((((sl.mono go.g).setV).set hy).set hz)⟩⟩
/-- out.append(e) -/
theorem zs_out (sl : Sl K G σ ss) (w : OwnZ Z T K G0 H0 G H n o ds) (ho : ss[i]? = some (.v (.ref o))) (h : RvZ Z T K n m te σ G P) (hz : ds.length < 100000)
    (k : ∀ d G' H', P d → OwnZ Z T K G0 H0 G' H' m o (ds ++ [d]) → Sl K G' σ ss → D.nx σ H') : tDrop (tBM K "list" rAppend (tVar i) (tCons te tNil)) D σ H := by
  obtain ⟨acc, h1, h2⟩ := w.ex
  refine ⟨.ref o, sl.getV ho, .inl ⟨rfl, acc, .inl (.inl h1)⟩, h H w.at_ _ fun d v G' H' go a' p hv => ?_⟩
  have w1 := w.step go a'
  have hl1 : H' o = some (.lst acc) := go.x o _ w.ns w.nl h1 lst_tbl
  refine ⟨o, acc, v, rfl, rfl, hl1, small_lt (by rw [dpAll_len h2]; exact hz), ?_⟩
  exact k d G' _ p (w1.more hl1 (.cons hv .nil)) (sl.mono go.g)
end
end Qw
namespace Qw
open PySem PySem.Spec PyProof.Rows L2 LamX Qk
/-- fractions of which something is known -/
def QP (p : Rat → Prop) : PyData → Prop := fun d => ∃ q, d = dq q ∧ p q
section
variable {Z : Stm} {T : List (Addr × Str)} {K : PySem.W.Frag} {σ : L2.St} {G G0 H0 G' H H' G1 H1 : Hp} {ta tb te tl : TE} {ds es : List PyData} {aa : TA} {n m k i j l : Nat} {P P1 P2 : PyData → Prop} {Pa : List PyData → Prop} {D : Ends} {tbd tz : TS} {ss : List Slot} {o : Addr} {E : XK}
theorem z_draw {B : Int} (hs : σ[i]? = some (some (.ref Z.s))) (h : RvZ Z T K n m te σ G (IntP fun k => 0 < k ∧ k ≤ B)) (hB : B < 2 ^ 64) (hn : m + 1 ≤ countLim) : RvZ Z T K n (m + 1) (tCall (SpZ T K (fun _ => 1) preDraw outDraw) [] E (tCons (tVar i) (tCons te tNil))) σ G (IntP fun j => 0 ≤ j ∧ j < B) :=
  z_callZ (c := 1) hs (za_1 h) (fun ds ⟨d, e, k, e2, h1, h2⟩ => ⟨⟨k, by rw [e, e2], h1, by omega⟩, Nat.le_refl _, fun d' ⟨n, i, e3, e4, h3, h4⟩ => ⟨i, e4, h3, by
    rw [e, e2] at e3
    cases e3
    omega⟩⟩) hn
theorem z_pick (hs : σ[i]? = some (some (.ref Z.s))) (h : RvZ Z T K n m te σ G (fun d => ∃ es, d = .list es ∧ 0 < es.length ∧ es.length ≤ 100000 ∧ ∀ e ∈ es, P e)) (hn : m + 1 ≤ countLim) : RvZ Z T K n (m + 1) (tCall (SpZ T K (fun _ => 1) prePick outPick) [] E (tCons (tVar i) (tCons te tNil))) σ G P :=
  z_callZ (c := 1) hs (za_1 h) (fun ds ⟨d, e, es, e2, h1, h2, h3⟩ => ⟨⟨es, by rw [e, e2], h1, h2⟩, Nat.le_refl _, fun d' ⟨es', e3, h4⟩ => by
    rw [e, e2] at e3
    cases e3
    exact h3 _ h4⟩) hn
/-- one of some ints -/
theorem z_pickL {is : List Int} {p : Int → Prop} (hs : σ[i]? = some (some (.ref Z.s))) (h : Ra T K aa σ G (is.map .int)) (h0 : 0 < is.length) (hl : is.length ≤ 100000) (hp : ∀ i ∈ is, p i) (hn : n + 1 ≤ countLim) : RvZ Z T K n (n + 1) (tCall (SpZ T K (fun _ => 1) prePick outPick) [] E (tCons (tVar i) (tCons (tLst aa) tNil))) σ G (IntP p) :=
  z_pick hs ((Rv.z (Rv.ld (rv_lst h (by rw [List.length_map]; exact hl)))).imp fun d e => ⟨_, e, by rw [List.length_map]; exact h0, by rw [List.length_map]; exact hl, fun d' hd => by
    obtain ⟨i, hi, e2⟩ := List.mem_map.mp hd
    exact ⟨i, e2.symm, hp i hi⟩⟩) hn
theorem z_low {p q : Int → Prop} {r : Rat → Prop} (ha : RvZ Z T K n m ta σ G (IntP p)) (hb : RvZ Z T K m k tb σ G (IntP q)) (hr : ∀ i j, p i → q j → j ≠ 0 ∧ j.natAbs < 2 ^ 9000 ∧ r (Rat.divInt i j)) :
    RvZ Z T K n k (tCall (Sp2 T K PyData.int PyData.int (fun _ d => d ≠ 0 ∧ d.natAbs < 2 ^ 9000) fun n d => IsD K (dq (Rat.divInt n d))) [] E (tCons ta (tCons tb tNil))) σ G (QP r) :=
  z_call2 (za_2 ha hb) fun ds ⟨d, e, e1, ⟨i, e2, h1⟩, ⟨j, e3, h2⟩⟩ => by
    obtain ⟨q1, q2, q3⟩ := hr i j h1 h2
    exact ⟨i, j, dq (Rat.divInt i j), by rw [e1, e2, e3], ⟨q1, q2⟩, ⟨_, rfl, q3⟩, fun _ _ h => h⟩
theorem z_q2 {f : Rat → Rat → Rat} {pre : Rat → Rat → Prop} {p q r : Rat → Prop} (ha : RvZ Z T K n m ta σ G (QP p)) (hb : RvZ Z T K m k tb σ G (QP q)) (hr : ∀ x y, p x → q y → pre x y ∧ r (f x y)) :
    RvZ Z T K n k (tCall (Sp2 T K dq dq pre fun x y => IsD K (dq (f x y))) [] E (tCons ta (tCons tb tNil))) σ G (QP r) :=
  z_call2 (za_2 ha hb) fun ds ⟨d, e, e1, ⟨x, e2, h1⟩, ⟨y, e3, h2⟩⟩ => by
    obtain ⟨q1, q2⟩ := hr x y h1 h2
    exact ⟨x, y, dq (f x y), by rw [e1, e2, e3], q1, ⟨_, rfl, q2⟩, fun _ _ h => h⟩
theorem Rv.zq {q : Rat} (h : Rv T te σ G (IsD K (dq q))) : RvZ Z T K n n te σ G (QP (· = q)) := (Rv.z h).imp fun d e => ⟨q, e, rfl⟩
theorem z_callV2 {α β : Type} {d1 : α → PyData} {d2 : β → PyData} {pre : α → β → Prop} {out : α → β → Qk.Cv} (h : RaZ Z T K n m aa σ G Pa) (hp : ∀ ds, Pa ds → ∃ a b, ds = [d1 a, d2 b] ∧ pre a b ∧ P (dv (out a b))) : RvZ Z T K n m (tCall (SpV2 T K d1 d2 pre out) [] E aa) σ G P := fun H a Q q =>
  h H a _ fun ds vs G2 H2 go a2 p hv => by
    obtain ⟨x, y, rfl, hpre, hd⟩ := hp ds p
    exact ⟨G2, x, y, a2.c, a2.t, by rw [List.append_nil]; exact hv, hpre, fun v G3 H3 s3 r => q _ v G3 H3 (go.trans s3.go) (a2.step s3) hd r.d⟩
theorem za_3 {P3 : PyData → Prop} {tc : TE} {k2 : Nat} (h : RvZ Z T K n m ta σ G P) (h2 : RvZ Z T K m k tb σ G P1) (h3 : RvZ Z T K k k2 tc σ G P3) : RaZ Z T K n k2 (tCons ta (tCons tb (tCons tc tNil))) σ G (fun l => ∃ d e f, l = [d, e, f] ∧ P d ∧ P1 e ∧ P3 f) := (za_cons h (za_2 h2 h3)).imp fun l ⟨d, ds, e, p, e2, f, z, p2, p3⟩ => ⟨d, e2, f, by rw [e, z], p, p2, p3⟩
theorem zq_par3G (h : RaZ Z T K n m aa σ G Pa) (a : At Z T G H n) (kk : ∀ ds vs G' H', Go Z G H G' H' → At Z T G' H' m → Pa ds → DpAll K G' vs ds → ∃ x y z, vs = [x, y, z] ∧ tz D (((σ.set i (some x)).set j (some y)).set l (some z)) H') : tSeq (tPar3 i j l aa) tz D σ H :=
  h H a _ fun ds vs G' H' go a' p hv => kk ds vs G' H' go a' p hv
theorem zq_parG (h : RaZ Z T K n m aa σ G Pa) (a : At Z T G H n) (kk : ∀ ds vs G' H', Go Z G H G' H' → At Z T G' H' m → Pa ds → DpAll K G' vs ds → ∃ x y, vs = [x, y] ∧ tz D ((σ.set i (some x)).set j (some y)) H') : tSeq (tPar i j aa) tz D σ H :=
  h H a _ fun ds vs G' H' go a' p hv => kk ds vs G' H' go a' p hv
/-- a, b, c by their data -/
theorem zq_par3 {P3 : PyData → Prop} {tc : TE} {k2 : Nat} (sl : Sl K G σ ss) (a : At Z T G H n) (h1 : RvZ Z T K n m ta σ G P) (h2 : RvZ Z T K m k tb σ G P1) (h3 : RvZ Z T K k k2 tc σ G P3)
    (kk : ∀ d e f σ' G' H', P d → P1 e → P3 f → Go Z G H G' H' → At Z T G' H' k2 → Sl K G' σ' (((ss.set i (.d d)).set j (.d e)).set l (.d f)) → tz D σ' H') : tSeq (tPar3 i j l (tCons ta (tCons tb (tCons tc tNil)))) tz D σ H :=
  zq_par3G (za_3 h1 h2 h3) a fun ds vs G' H' go a' ⟨d, e, f, e1, p1, p2, p3⟩ hv => by
    subst e1
    obtain ⟨x, y, z, rfl, hx, hy, hz⟩ := dp3 hv
    exact ⟨_, _, _, rfl, kk d e f _ G' H' p1 p2 p3 go a' ((((sl.mono go.g).set hx).set hy).set hz)⟩
/-- a, b by their data -/
theorem zq_par (sl : Sl K G σ ss) (a : At Z T G H n) (h1 : RvZ Z T K n m ta σ G P) (h2 : RvZ Z T K m k tb σ G P1)
    (kk : ∀ d e σ' G' H', P d → P1 e → Go Z G H G' H' → At Z T G' H' k → Sl K G' σ' ((ss.set i (.d d)).set j (.d e)) → tz D σ' H') : tSeq (tPar i j (tCons ta (tCons tb tNil))) tz D σ H :=
  zq_parG (za_2 h1 h2) a fun ds vs G' H' go a' ⟨d, e, e1, p1, p2⟩ hv => by
    subst e1
    obtain ⟨x, y, rfl, hx, hy⟩ := dp2 hv
    exact ⟨_, _, rfl, kk d e _ G' H' p1 p2 go a' (((sl.mono go.g).set hx).set hy)⟩
theorem zq_for {wi : TI} {g : TG} {Pl : List PyData → Prop} (hi : RiZ Z T K n m wi σ G Pl) (a : At Z T G H n)
    (k : ∀ ds G1 H1, Pl ds → Go Z G H G1 H1 → At Z T G1 H1 m → ∃ I : Nat → L2.St → Hp → Hp → Prop, I 0 σ G1 H1 ∧ (∀ i σ' G' H', I i σ' G' H' → Same G1 G' ∧ ∃ n', At Z T G' H' n') ∧
      (∀ i d x σ' G' H' G'' H'', ds[i]? = some d → I i σ' G' H' → Step T G' H' G'' H'' → Dp K G'' x d →
        g x σ' H'' fun σ2 H2 => tbd { D with nx := fun σ H => ∃ G, I (i + 1) σ G H, ct := fun σ H => ∃ G, I (i + 1) σ G H, bk := tz D } σ2 H2) ∧
      ∀ σ' G' H', I ds.length σ' G' H' → tz D σ' H') : tSeq (tFor wi g tbd) tz D σ H := zs_for (D := { D with nx := tz D }) hi a k
theorem zq_out (sl : Sl K G σ ss) (w : OwnZ Z T K G0 H0 G H n o ds) (ho : ss[i]? = some (.v (.ref o))) (h : RvZ Z T K n m te σ G P) (hz : ds.length < 100000)
    (k : ∀ d G' H', P d → OwnZ Z T K G0 H0 G' H' m o (ds ++ [d]) → Sl K G' σ ss → Same G G' → tz D σ H') : tSeq (tDrop (tBM K "list" rAppend (tVar i) (tCons te tNil))) tz D σ H := by
  obtain ⟨acc, h1, h2⟩ := w.ex
  refine ⟨.ref o, sl.getV ho, .inl ⟨rfl, acc, .inl (.inl h1)⟩, h H w.at_ _ fun d v G' H' go a' p hv => ?_⟩
  have w1 := w.step go a'
  have hl1 : H' o = some (.lst acc) := go.x o _ w.ns w.nl h1 lst_tbl
  refine ⟨o, acc, v, rfl, rfl, hl1, small_lt (by rw [dpAll_len h2]; exact hz), ?_⟩
  exact k d G' _ p (w1.more hl1 (.cons hv .nil)) (sl.mono go.g) go.g
/-- the own list is taken among the data -/
theorem OwnZ.done (w : OwnZ Z T K G0 H0 G H n o ds) (sl : Sl K G σ ss) (ho : ss[i]? = some (.v (.ref o))) : ∃ G', Go Z G0 H0 G' H ∧ At Z T G' H n ∧ Same G G' ∧ Sl K G' σ (ss.set i (.d (.list ds))) := by
  obtain ⟨G', go, a, e, hl⟩ := w.take
  exact ⟨G', go, a, e, (sl.mono e).vd ho hl.d⟩
end
end Qw
namespace Qk
theorem Dn.snoc {k B C B' C' : Nat} {cs : List Cn} {M W : Rat} (h : Dn k B C cs) (hl : ∀ x ∈ cs, x.1 < M) (h0 : cs = [] → M = 0) (hM : Tw B' M) (hW : Tw C' W) (b : B ≤ B') (c : C ≤ C') : Dn (k + 1) B' C' (cs ++ [(M, W)]) := by
  refine ⟨up_snoc h.up hl, fun a ha => ?_, by rw [List.length_append, h.len]; rfl, fun x hx => ?_, fun x hx => ?_⟩
  · cases cs with
    | nil =>
      have e : (M, W) = a := Option.some.inj ha
      rw [← e]
      exact h0 rfl
    | cons y r => exact h.h0 a ha
  · rcases List.mem_append.mp hx with q | q
    · exact (h.mo x q).up b
    · rw [List.mem_singleton.mp q]
      exact hM
  · rcases List.mem_append.mp hx with q | q
    · exact (h.wo x q).up c
    · rw [List.mem_singleton.mp q]
      exact hW
/-- corners so far, the next moment, the worth -/
structure Sf (k B C C' : Nat) (cs : List Cn) (M W : Rat) : Prop where
  d : Dn k B C cs
  l : ∀ x ∈ cs, x.1 < M
  z : cs = [] → M = 0
  m : Tw B M
  w : Tw C' W
theorem Sf.start {C : Nat} {W : Rat} (h : Tw C W) : Sf 0 0 0 C [] 0 W := ⟨⟨trivial, fun a h => (by cases h), rfl, fun x h => (by cases h), fun x h => (by cases h)⟩, fun x h => (by cases h), fun _ => rfl, Tw.zero, h⟩
def absQ (q : Rat) : Rat := if 0 ≤ q.num then q else -q
theorem Tw.abs {B : Nat} {q : Rat} (h : Tw B q) : Tw B (absQ q) := by
  unfold absQ
  split
  · exact h
  · exact h.neg
theorem tw_pos {n d : Int} (hn : 0 < n) (hd : d = 1 ∨ d = 2 ∨ d = 3) : 0 < Rat.divInt n d := by
  rw [Rat.divInt_eq_div]
  have h1 : (0 : Rat) < (n : Rat) := by exact_mod_cast hn
  have h2 : (0 : Rat) < (d : Rat) := by
    have : 0 < d := by omega
    exact_mod_cast this
  exact div_pos' h1 h2
end Qk
namespace Qw
open PySem PySem.Spec PyProof.Rows L2 LamX Qk
theorem dq_abs (q : Rat) : dq (absQ q) = .tuple [.int (q.num.natAbs : Int), .int (q.den : Int)] := by
  unfold absQ dq
  split
  · rename_i h
    rw [Int.natAbs_of_nonneg h]
  · rename_i h
    rw [Rat.neg_num, Rat.neg_den]
    have : -q.num = (q.num.natAbs : Int) := by omega
    rw [this]
theorem dq_nabs (q : Rat) : dq (-(absQ q)) = .tuple [.int (0 - (q.num.natAbs : Int)), .int (q.den : Int)] := by
  have h := dq_abs q
  unfold dq at h ⊢
  rw [Rat.neg_num, Rat.neg_den]
  simp at h
  rw [h.1, h.2]
  simp
section
variable {P : Program} {w : World} {K : PySem.W.Frag} {mg : Str → Option Value} {base : Heap}
def preCd : List PyData → Prop := (· = [.int 6])
def outCd : List PyData → PyData → Prop := fun _ d => ∃ c, d = dv c ∧ Drawn c
theorem lt9000 {v : Int} (h : v.natAbs < 2 ^ 14) : v.natAbs < 2 ^ 9000 := Nat.lt_of_lt_of_le h (pow_mono (by decide))
theorem szp_tw {B C : Nat} {p q : Rat} (hp : Tw B p) (hq : Tw C q) (h1 : B < 2 ^ 14) (h2 : C < 2 ^ 14) : SzP p q := ⟨14, 14, hp.sz h1 (by decide), hq.sz h2 (by decide), by decide⟩
abbrev s__law_c_drawn : Stmt := topS 71
theorem sc__law_c_drawn : FnScope ["_law_stream_here", "_law_most", "_law_bottom", "_law_wide", "_law_way", "_law_corners", "_law_moment", "_law_worth", "_law_k", "_law_step"] ["_law_stream_here", "_law_most"] (defScope s__law_c_drawn) := ⟨rfl, rfl, rfl, by decide +kernel, rfl, by decide +kernel, by decide +kernel⟩
theorem ok__law_c_drawn (Y : Tx K mg base) : FnOk P w K mg base CX0 9 Y.f__law_c_drawn.a Y.f__law_c_drawn.fd ["_law_stream_here", "_law_most"] (SpZ Y.T K (fun _ => 40) preCd outCd) := by
  refine Y.f__law_c_drawn.F.ok sc__law_c_drawn (fun vs H Q E h => spz_len (E := E) (pre := preCd) (a := 1) h fun ds hp => by rw [show ds = _ from hp]; rfl) (fun cdv A outer s H vs Q E hr h => ?_)
  obtain ⟨Z, G, n, us, ds, rfl, at_, hd, hds, hn, k⟩ := h
  have hds : ds = [.int 6] := hds
  subst hds
  have sl := sl_startZ (N := ["_law_stream_here", "_law_most", "_law_bottom", "_law_wide", "_law_way", "_law_corners", "_law_moment", "_law_worth", "_law_k", "_law_step"]) (u := .ref Z.s) hd (Nat.le_of_ble_eq_true rfl)
  have hn : n + 40 ≤ countLim := hn
  refine ⟨_, (pss_cons (ps_par3 (i := 2) (j := 3) (l := 4) (by rfl) sc__law_c_drawn.nd rfl rfl rfl (by decide) (by decide) (by decide) rfl rfl rfl (pa_cons (pe_call (ok__law_pick Y) (hr.mono (by first | decide | omega)) (by rfl) Y.f__law_pick.g Y.f__law_pick.F.kp Y.f__law_pick.b .nil pass0 (pa_cons (pv 0) (pa_cons (pe_lst (pa_cons pe_int (pa_cons pe_int (pa_cons pe_int (pa_cons pe_int pa_nil))))) pa_nil))) (pa_cons (pe_call (ok__law_pick Y) (hr.mono (by first | decide | omega)) (by rfl) Y.f__law_pick.g Y.f__law_pick.F.kp Y.f__law_pick.b .nil pass0 (pa_cons (pv 0) (pa_cons (pe_lst (pa_cons pe_int (pa_cons pe_int (pa_cons pe_int pa_nil)))) pa_nil))) (pa_cons (pe_call (ok__law_draw Y) (hr.mono (by first | decide | omega)) (by rfl) Y.f__law_draw.g Y.f__law_draw.F.kp Y.f__law_draw.b .nil pass0 (pa_cons (pv 0) (pa_cons pe_int pa_nil))) pa_nil))) (by rfl))
      (pss_cons (ps_par3 (i := 5) (j := 6) (l := 7) (by rfl) sc__law_c_drawn.nd rfl rfl rfl (by decide) (by decide) (by decide) rfl rfl rfl (pa_cons (pe_lst pa_nil) (pa_cons (pe_tup (pa_cons pe_int (pa_cons pe_int pa_nil))) (pa_cons (pe_tup (pa_cons pe_int (pa_cons pe_int pa_nil))) pa_nil))) (by rfl))
      (pss_cons (ps_for PassesOwn.never rfl (pi_range1 (by rfl) Y.z_range (pa_cons (pe_op op_add pe_int (pe_call (ok__law_draw Y) (hr.mono (by first | decide | omega)) (by rfl) Y.f__law_draw.g Y.f__law_draw.F.kp Y.f__law_draw.b .nil pass0 (pa_cons (pv 0) (pa_cons (pv 1) pa_nil)))) pa_nil)) (pg_name (i := 8) sc__law_c_drawn.nd rfl (Or.inl rfl)) (pss_cons (ps_set (i := 9) sc__law_c_drawn.nd rfl (Or.inl rfl) (pe_call (ok__law_low Y) (hr.mono (by first | decide | omega)) (by rfl) Y.f__law_low.g Y.f__law_low.F.kp Y.f__law_low.b .nil pass0 (pa_cons (pe_op op_sub (pe_call (ok__law_draw Y) (hr.mono (by first | decide | omega)) (by rfl) Y.f__law_draw.g Y.f__law_draw.F.kp Y.f__law_draw.b .nil pass0 (pa_cons (pv 0) (pa_cons (pe_op op_add (pe_op op_mulW pe_int (pv 3)) pe_int) pa_nil))) (pv 3)) (pa_cons (pe_call (ok__law_pick Y) (hr.mono (by first | decide | omega)) (by rfl) Y.f__law_pick.g Y.f__law_pick.F.kp Y.f__law_pick.b .nil pass0 (pa_cons (pv 0) (pa_cons (pe_lst (pa_cons pe_int (pa_cons pe_int (pa_cons (pv 2) pa_nil)))) pa_nil))) pa_nil))))
      (pss_cons (ps_set (i := 9) sc__law_c_drawn.nd rfl (Or.inl rfl) (pe_ifExp (pt_cmpR op_eq (pv 4) pe_int (nomark _)) (pe_tup (pa_cons (pe_callB call_abs (by rfl) Y.z_abs (by decide +kernel) (pa_cons (pe_ix ix_tup (pv 9) pe_int (fun _ _ => rfl)) pa_nil)) (pa_cons (pe_ix ix_tup (pv 9) pe_int (fun _ _ => rfl)) pa_nil))) (pe_ifExp (pt_cmpR op_eq (pv 4) pe_int (nomark _)) (pe_tup (pa_cons (pe_op op_sub pe_int (pe_callB call_abs (by rfl) Y.z_abs (by decide +kernel) (pa_cons (pe_ix ix_tup (pv 9) pe_int (fun _ _ => rfl)) pa_nil))) (pa_cons (pe_ix ix_tup (pv 9) pe_int (fun _ _ => rfl)) pa_nil))) (pv 9))))
      (pss_cons (ps_set (i := 7) sc__law_c_drawn.nd rfl (Or.inl rfl) (pe_ifExp (PW.pt (pw_or (pt_cmpR op_gt (pv 8) pe_int (nomark _)) (pw_or1 (pt_cmpR op_ne (pv 4) pe_int (nomark _))))) (pe_call (ok__law_plus Y) (hr.mono (by first | decide | omega)) (by rfl) Y.f__law_plus.g Y.f__law_plus.F.kp Y.f__law_plus.b .nil pass0 (pa_cons (pv 7) (pa_cons (pv 9) pa_nil))) (pv 7)))
      (pss_cons (ps_expr (pe_bm PySem.F.plainAttrs_list PySem.F.slot_list_append PySem.F.type_list_append mt_append (pv 5) (pa_cons (pe_tup (pa_cons (pv 6) (pa_cons (pv 7) pa_nil))) pa_nil)))
      (pss_one (ps_set (i := 6) sc__law_c_drawn.nd rfl (Or.inl rfl) (pe_call (ok__law_plus Y) (hr.mono (by first | decide | omega)) (by rfl) Y.f__law_plus.g Y.f__law_plus.F.kp Y.f__law_plus.b .nil pass0 (pa_cons (pv 6) (pa_cons (pe_call (ok__law_low Y) (hr.mono (by first | decide | omega)) (by rfl) Y.f__law_low.g Y.f__law_low.F.kp Y.f__law_low.b .nil pass0 (pa_cons (pe_op op_add pe_int (pe_call (ok__law_draw Y) (hr.mono (by first | decide | omega)) (by rfl) Y.f__law_draw.g Y.f__law_draw.F.kp Y.f__law_draw.b .nil pass0 (pa_cons (pv 0) (pa_cons pe_int pa_nil)))) (pa_cons (pv 2) pa_nil))) pa_nil))))))))))
      (pss_one (ps_ret (pe_call (ok__law_c_plain Y) (hr.mono (by first | decide | omega)) (by rfl) Y.f__law_c_plain.g Y.f__law_c_plain.F.kp Y.f__law_c_plain.b .nil pass0 (pa_cons (pv 5) (pa_cons (pe_call (ok__law_low Y) (hr.mono (by first | decide | omega)) (by rfl) Y.f__law_low.g Y.f__law_low.F.kp Y.f__law_low.b .nil pass0 (pa_cons (pe_op op_sub (pe_call (ok__law_draw Y) (hr.mono (by first | decide | omega)) (by rfl) Y.f__law_draw.g Y.f__law_draw.F.kp Y.f__law_draw.b .nil pass0 (pa_cons (pv 0) (pa_cons pe_int pa_nil))) pe_int) (pa_cons (pe_call (ok__law_pick Y) (hr.mono (by first | decide | omega)) (by rfl) Y.f__law_pick.g Y.f__law_pick.F.kp Y.f__law_pick.b .nil pass0 (pa_cons (pv 0) (pa_cons (pe_lst (pa_cons pe_int (pa_cons pe_int (pa_cons pe_int pa_nil)))) pa_nil))) pa_nil))) pa_nil)))))))), ?_⟩
  refine zq_par3 (T := Y.T) (Z := Z) (P := IntP fun b => b = 1 ∨ b = 2 ∨ b = 3) (P1 := IntP fun v => 0 ≤ v ∧ v ≤ 30) (P3 := IntP fun _ => True) (m := n + 1) (k := n + 1 + 1) (k2 := n + 1 + 1 + 1) sl at_
    (z_pickL (is := [1, 1, 2, 3]) (sl.getV (i := 0) rfl) (ra_cons rv_i (ra_cons rv_i (ra_cons rv_i (ra_cons rv_i ra_nil)))) (by decide) (by decide) (by decide) (by omega))
    (z_pickL (is := [3, 9, 30]) (sl.getV (i := 0) rfl) (ra_cons rv_i (ra_cons rv_i (ra_cons rv_i ra_nil))) (by decide) (by decide) (by decide) (by omega))
    ((z_draw (B := 6) (sl.getV (i := 0) rfl) (z_int.imp fun d ⟨i, e, h⟩ => ⟨i, e, by omega⟩) (by decide) (by omega)).imp fun d ⟨i, e, _⟩ => ⟨i, e, trivial⟩) fun d1 d2 d3 σ1 G1 H1 p1 p2 p3 g1 a1 sl1 => ?_
  obtain ⟨bt, rfl, hbt⟩ := p1
  obtain ⟨wd, rfl, hwd⟩ := p2
  obtain ⟨wy, rfl, _⟩ := p3
  refine zq_par3F (T := Y.T) (Z := Z) (n := n + 1 + 1 + 1) (m := n + 1 + 1 + 1) (Pa := (· = [dq 0, dq 0])) sl1 a1 (Ra.z (ra_cons rv_zero (ra_cons rv_zero ra_nil))) (fun ds e => by rw [e]; rfl) fun o d2 d3 σ2 G2 H2 pe ow2 sl2 => ?_
  cases pe
  refine zq_for (T := Y.T) (Z := Z) (n := n + 1 + 1 + 1) (m := n + 1 + 1 + 1 + 1) (riz_range1 (p := fun i => 1 ≤ i ∧ i ≤ 6) ((za_1 (z_add (p := (· = 1)) (q := fun j => 0 ≤ j ∧ j < 6) (r := fun i => 1 ≤ i ∧ i ≤ 6) z_int (z_draw (B := 6) (sl2.getV (i := 0) rfl) ((Rv.zi (rv_sl (i := 1) sl2 rfl)).imp fun d ⟨i, e, h⟩ => ⟨i, e, by omega⟩) (by decide) (by omega)) (fun i j h1 h2 => by omega))).imp fun l ⟨d, e, i, e2, h⟩ => ⟨i, by rw [e, e2], h⟩) (fun i h => by omega)) ow2.at_ fun ds G3 H3 hds g3 a3 => ?_
  obtain ⟨R, hR, rfl⟩ := hds
  have ow3 := ow2.step g3 a3
  refine ⟨fun i σ' G' H' => ∃ (sa sb : Slot) (cs : List Cn) (M W : Rat), OwnZ Z Y.T K G1 H1 G' H' (n + 4 + 3 * i) o (cs.map dc) ∧ Same G3 G' ∧ Sf i (84 * i) (360 * i) (360 * i) cs M W ∧ Sl K G' σ' [.v (.ref Z.s), .d (.int 6), .d (.int bt), .d (.int wd), .d (.int wy), .v (.ref o), .d (dq M), .d (dq W), sa, sb],
    ⟨.no, .no, [], 0, 0, ow3, Same.refl _, Sf.start Tw.zero, sl2.mono g3.g⟩, fun i σ' G' H' ⟨_, _, _, _, _, ow, e, _⟩ => ⟨e, _, ow.at_⟩, fun i d x σ' G' H' G'' H'' hd hI s4 hx => ?_, fun σ' G' H' hI => ?_⟩
  · obtain ⟨sa, sb, cs, M, W, ow4, e4, sf, sl4⟩ := hI
    have hi : i < R.toNat := by
      have := (List.getElem?_eq_some_iff.mp hd).1
      simpa using this
    have hi6 : i < 6 := by omega
    have ed : d = .int (0 + (i : Nat)) := by
      rw [List.getElem?_map, List.getElem?_range hi] at hd
      exact (Option.some.inj hd).symm
    subst ed
    have sl5 := (sl4.mono s4.g).set (i := 8) hx
    have ow5 := ow4.step s4.go (ow4.at_.step s4)
    -- the step
    refine zq_set (Z := Z) (n := n + 4 + 3 * i) (m := n + 4 + 3 * i + 1 + 1) (P := QP (Tw 360)) sl5 (z_low (p := fun v => -30 ≤ v ∧ v ≤ 30) (q := fun v => v = 1 ∨ v = 2 ∨ v = 3) (m := n + 4 + 3 * i + 1)
      (z_sub (m := n + 4 + 3 * i + 1) (p := fun v => 0 ≤ v ∧ v < 2 * wd + 1) (q := (· = wd)) (z_draw (B := 2 * wd + 1) (sl5.getV (i := 0) rfl) ((Rv.zi (rv_add (rv_mul rv_i (rv_sl (i := 3) sl5 rfl) ?_) rv_i)).imp fun d ⟨i, e, h⟩ => ⟨i, e, by omega⟩) (by omega) (by omega)) (Rv.zi (rv_sl (i := 3) sl5 rfl)) (fun i j h1 h2 => by omega))
      (z_pickL (is := [1, 1, bt]) (sl5.getV (i := 0) rfl) (ra_cons rv_i (ra_cons rv_i (ra_cons (rv_sl (i := 2) sl5 rfl) ra_nil))) (by simp) (by simp) (by
        intro v hv
        simp only [List.mem_cons, List.not_mem_nil, or_false] at hv
        omega) (by omega)) (fun i j h1 h2 => ⟨by omega, ?_, (tw_div (by omega)).up (by omega)⟩)) ow5.at_ fun d σ6 G6 H6 g6 a6 hq sl6 => ?_
    · exact wide_mul (a := 10) (b := 10) (by decide) (by omega) (by decide) (by decide) (by decide)
    · exact lt9000 (by omega)
    obtain ⟨q, rfl, hq⟩ := hq
    have ow6 := ow5.step g6 a6
    -- its sign
    refine zq_set (Z := Z) (n := n + 4 + 3 * i + 1 + 1) (m := n + 4 + 3 * i + 1 + 1) (P := QP (Tw 360)) sl6 (z_if (B := fun _ => True) (m := n + 4 + 3 * i + 1 + 1) (zt_B ((z_eqI (Rv.zi (rv_sl (i := 4) sl6 rfl)) z_int).imp fun d ⟨b, e⟩ => ⟨b, e, trivial⟩))
      (fun _ => (Rv.z (rv_tup (ra_cons (rv_abs (rv_num (rv_sl (i := 9) sl6 rfl))) (ra_cons (rv_den (rv_sl (i := 9) sl6 rfl)) ra_nil)) (by simp))).imp fun d e => ⟨absQ q, by rw [e, dq_abs], hq.abs⟩)
      (fun _ => z_if (B := fun _ => True) (m := n + 4 + 3 * i + 1 + 1) (zt_B ((z_eqI (Rv.zi (rv_sl (i := 4) sl6 rfl)) z_int).imp fun d ⟨b, e⟩ => ⟨b, e, trivial⟩))
        (fun _ => (Rv.z (rv_tup (ra_cons (rv_sub rv_i (rv_abs (rv_num (rv_sl (i := 9) sl6 rfl)))) (ra_cons (rv_den (rv_sl (i := 9) sl6 rfl)) ra_nil)) (by simp))).imp fun d e => ⟨-(absQ q), by rw [e, dq_nabs], hq.abs.neg⟩)
        (fun _ => (Rv.z (rv_sl (i := 9) sl6 rfl)).imp fun d e => ⟨q, e, hq⟩))) a6 fun d σ7 G7 H7 g7 a7 hq2 sl7 => ?_
    obtain ⟨q2, rfl, hq2⟩ := hq2
    have ow7 := ow6.step g7 a7
    -- the worth
    refine zq_set (Z := Z) (n := n + 4 + 3 * i + 1 + 1) (m := n + 4 + 3 * i + 1 + 1) (P := QP (Tw (360 * (i + 1)))) sl7 (z_if (m := n + 4 + 3 * i + 1 + 1) (Rt.z (rt_or (rt_B (rv_gt (rv_sl (i := 8) sl7 rfl) rv_i)) fun _ => rt_B (rv_neI (rv_sl (i := 4) sl7 rfl) rv_i)))
      (fun _ => z_q2 (Rv.zq (rv_sl (i := 7) sl7 rfl)) (Rv.zq (rv_sl (i := 9) sl7 rfl)) fun x y hx hy => by
        rw [hx, hy]
        exact ⟨szp_tw sf.w hq2 (by omega) (by decide), (sf.w.add hq2).up (by omega)⟩)
      (fun _ => (Rv.zq (rv_sl (i := 7) sl7 rfl)).imp fun d ⟨x, e, h⟩ => ⟨x, e, by rw [h]; exact sf.w.up (by omega)⟩)) a7 fun d σ8 G8 H8 g8 a8 hw sl8 => ?_
    obtain ⟨W2, rfl, hW2⟩ := hw
    have ow8 := ow7.step g8 a8
    have hlen : (cs.map dc).length < 100000 := by
      rw [List.length_map, sf.d.len]
      omega
    refine zq_out (P := (· = dc (M, W2))) (m := n + 4 + 3 * i + 1 + 1) sl8 ow8 rfl (Rv.z (rv_tup (ra_cons (rv_sl sl8 rfl) (ra_cons (rv_sl sl8 rfl) ra_nil)) (by simp))) hlen fun d G9 H9 hd9 ow9 sl9 e9 => ?_
    subst hd9
    refine zs_set (Z := Z) (n := n + 4 + 3 * i + 1 + 1) (m := n + 4 + 3 * i + 1 + 1 + 1) (P := QP fun x => M < x ∧ Tw (84 * (i + 1)) x) sl9 (z_q2 (m := n + 4 + 3 * i + 1 + 1) (q := fun y => 0 < y ∧ Tw 84 y) (Rv.zq (rv_sl (i := 6) sl9 rfl)) (z_low (p := fun v => 1 ≤ v ∧ v ≤ 7) (q := (· = bt)) (m := n + 4 + 3 * i + 1 + 1 + 1)
      (z_add (p := (· = 1)) (q := fun v => 0 ≤ v ∧ v < 7) z_int (z_draw (B := 7) (sl9.getV (i := 0) rfl) (z_int.imp fun d ⟨i, e, h⟩ => ⟨i, e, by omega⟩) (by decide) (by omega)) (fun i j h1 h2 => by omega)) (Rv.zi (rv_sl (i := 2) sl9 rfl)) (fun i j h1 h2 => ⟨by omega, ?_, tw_pos (by omega) (by omega), (tw_div (by omega)).up (by omega)⟩)) (fun x y hx hy => ?_)) ow9.at_ fun d σ10 G10 H10 g10 a10 hm sl10 => ?_
    · exact lt9000 (by omega)
    · rw [hx]
      exact ⟨szp_tw sf.m hy.2 (by omega) (by decide), by grind, (sf.m.add hy.2).up (by omega)⟩
    obtain ⟨M2, rfl, hM2⟩ := hm
    have ow10 := ow9.step g10 a10
    have e10 := (Same.trans (Same.trans (Same.trans (Same.trans (Same.trans (Same.trans e4 s4.g) g6.g) g7.g) g8.g) e9) g10.g)
    refine ⟨G10, _, _, cs ++ [(M, W2)], M2, W2, ?_, e10, ⟨sf.d.snoc sf.l sf.z (sf.m.up (by omega)) hW2 (by omega) (by omega), fun x hx => ?_, fun z => by simp at z, hM2.2, hW2⟩, sl10⟩
    · rw [List.map_append]
      have : n + 4 + 3 * (i + 1) = n + 4 + 3 * i + 1 + 1 + 1 := by omega
      rw [this]
      exact ow10
    · rcases List.mem_append.mp hx with q | q
      · have := sf.l x q
        grind
      · rw [List.mem_singleton.mp q]
        exact hM2.1
  · obtain ⟨sa, sb, cs, M, W, ow4, e4, sf, sl4⟩ := hI
    rw [List.length_map, List.length_range] at ow4 sf
    obtain ⟨G5, g5, a5, e5, sl5⟩ := ow4.done (i := 5) sl4 rfl
    have a5 := a5.up (m := n + 22) (by omega)
    have hdn : Dn R.toNat 8000 8000 cs := ⟨sf.d.up, sf.d.h0, sf.d.len, fun x hx => (sf.d.mo x hx).up (by omega), fun x hx => (sf.d.wo x hx).up (by omega)⟩
    refine zs_ret (P := fun d => ∃ c, d = dv c ∧ Drawn c) (m := n + 22 + 1 + 1) (z_callV2 (Pa := fun ds => ∃ q, ds = [.list (cs.map dc), dq q] ∧ Tw 48 q) ((za_2 (Rv.z (rv_sl (i := 5) sl5 rfl)) (z_low (m := n + 22 + 1) (p := fun v => -4 ≤ v ∧ v ≤ 4) (q := fun v => v = 1 ∨ v = 2)
      (z_sub (p := fun v => 0 ≤ v ∧ v < 9) (q := (· = 4)) (z_draw (B := 9) (sl5.getV (i := 0) rfl) (z_int.imp fun d ⟨i, e, h⟩ => ⟨i, e, by omega⟩) (by decide) (by omega)) z_int (fun i j h1 h2 => by omega))
      (z_pickL (is := [1, 1, 2]) (sl5.getV (i := 0) rfl) (ra_cons rv_i (ra_cons rv_i (ra_cons rv_i ra_nil))) (by decide) (by decide) (by decide) (by omega)) (r := Tw 48) (fun i j h1 h2 => ⟨by omega, ?_, (tw_div (by omega)).up (by omega)⟩))).imp fun l ⟨d, e, h1, h2, q, h3, h4⟩ => ⟨q, by rw [h1, h2, h3], h4⟩)
      (fun ds ⟨q, e, hq⟩ => ⟨cs, q, e, dn_slOk hdn (by omega) (by omega), _, rfl, dn_drawn hdn (by omega) (by omega) (hq.sz (by decide) (by decide))⟩)) a5 fun d v G' H' go a' hp hv => ?_
    · exact lt9000 (by omega)
    · exact k d v G' H' ((g1.trans g5).trans go) (a'.up (show n + 22 + 1 + 1 ≤ n + 40 by omega)) hp hv
end
end Qw
namespace Qw
open PySem PySem.Spec PyProof.Rows L2 LamX Qk
section
variable {P : Program} {w : World} {K : PySem.W.Frag} {mg : Str → Option Value} {base : Heap}
/-! ### _law_c_long -/
abbrev s__law_c_long : Stmt := topS 83
theorem sc__law_c_long : FnScope ["_law_stream_here", "_law_corners", "_law_moment", "_law_worth", "_law_k"] ["_law_stream_here"] (defScope s__law_c_long) := ⟨rfl, rfl, rfl, by decide +kernel, rfl, by decide +kernel, by decide +kernel⟩
theorem ok__law_c_long (Y : Tx K mg base) : FnOk P w K mg base CX0 9 Y.f__law_c_long.a Y.f__law_c_long.fd ["_law_stream_here"] (SpZ Y.T K (fun _ => 60) (· = []) outCd) := by
  refine Y.f__law_c_long.F.ok sc__law_c_long (fun vs H Q E h => spz_len (E := E) (pre := (· = [])) (a := 0) h fun ds hp => by rw [hp]; rfl) (fun cdv A outer s H vs Q E hr h => ?_)
  obtain ⟨Z, G, n, us, ds, rfl, at_, hd, rfl, hn, k⟩ := h
  have sl := sl_startZ (N := ["_law_stream_here", "_law_corners", "_law_moment", "_law_worth", "_law_k"]) (u := .ref Z.s) hd (Nat.le_of_ble_eq_true rfl)
  have hn : n + 60 ≤ countLim := hn
  refine ⟨_, (pss_cons (ps_par3 (i := 1) (j := 2) (l := 3) (by rfl) sc__law_c_long.nd rfl rfl rfl (by decide) (by decide) (by decide) rfl rfl rfl (pa_cons (pe_lst pa_nil) (pa_cons (pe_tup (pa_cons pe_int (pa_cons pe_int pa_nil))) (pa_cons (pe_call (ok__law_low Y) (hr.mono (by first | decide | omega)) (by rfl) Y.f__law_low.g Y.f__law_low.F.kp Y.f__law_low.b .nil pass0 (pa_cons (pe_op op_sub (pe_call (ok__law_draw Y) (hr.mono (by first | decide | omega)) (by rfl) Y.f__law_draw.g Y.f__law_draw.F.kp Y.f__law_draw.b .nil pass0 (pa_cons (pv 0) (pa_cons pe_int pa_nil))) pe_int) (pa_cons (pe_op op_add pe_int (pe_call (ok__law_draw Y) (hr.mono (by first | decide | omega)) (by rfl) Y.f__law_draw.g Y.f__law_draw.F.kp Y.f__law_draw.b .nil pass0 (pa_cons (pv 0) (pa_cons pe_int pa_nil)))) pa_nil))) pa_nil))) (by rfl))
      (pss_cons (ps_for PassesOwn.never rfl (pi_range1 (by rfl) Y.z_range (pa_cons pe_int pa_nil)) (pg_name (i := 4) sc__law_c_long.nd rfl (Or.inl rfl)) (pss_cons (ps_expr (pe_bm PySem.F.plainAttrs_list PySem.F.slot_list_append PySem.F.type_list_append mt_append (pv 1) (pa_cons (pe_tup (pa_cons (pv 2) (pa_cons (pv 3) pa_nil))) pa_nil)))
      (pss_cons (ps_set (i := 2) sc__law_c_long.nd rfl (Or.inl rfl) (pe_call (ok__law_plus Y) (hr.mono (by first | decide | omega)) (by rfl) Y.f__law_plus.g Y.f__law_plus.F.kp Y.f__law_plus.b .nil pass0 (pa_cons (pv 2) (pa_cons (pe_call (ok__law_low Y) (hr.mono (by first | decide | omega)) (by rfl) Y.f__law_low.g Y.f__law_low.F.kp Y.f__law_low.b .nil pass0 (pa_cons (pe_op op_add pe_int (pe_call (ok__law_draw Y) (hr.mono (by first | decide | omega)) (by rfl) Y.f__law_draw.g Y.f__law_draw.F.kp Y.f__law_draw.b .nil pass0 (pa_cons (pv 0) (pa_cons pe_int pa_nil)))) (pa_cons (pe_call (ok__law_pick Y) (hr.mono (by first | decide | omega)) (by rfl) Y.f__law_pick.g Y.f__law_pick.F.kp Y.f__law_pick.b .nil pass0 (pa_cons (pv 0) (pa_cons (pe_lst (pa_cons pe_int (pa_cons pe_int (pa_cons pe_int pa_nil)))) pa_nil))) pa_nil))) pa_nil))))
      (pss_one (ps_set (i := 3) sc__law_c_long.nd rfl (Or.inl rfl) (pe_call (ok__law_plus Y) (hr.mono (by first | decide | omega)) (by rfl) Y.f__law_plus.g Y.f__law_plus.F.kp Y.f__law_plus.b .nil pass0 (pa_cons (pv 3) (pa_cons (pe_call (ok__law_low Y) (hr.mono (by first | decide | omega)) (by rfl) Y.f__law_low.g Y.f__law_low.F.kp Y.f__law_low.b .nil pass0 (pa_cons (pe_op op_sub (pe_call (ok__law_draw Y) (hr.mono (by first | decide | omega)) (by rfl) Y.f__law_draw.g Y.f__law_draw.F.kp Y.f__law_draw.b .nil pass0 (pa_cons (pv 0) (pa_cons pe_int pa_nil))) pe_int) (pa_cons (pe_call (ok__law_pick Y) (hr.mono (by first | decide | omega)) (by rfl) Y.f__law_pick.g Y.f__law_pick.F.kp Y.f__law_pick.b .nil pass0 (pa_cons (pv 0) (pa_cons (pe_lst (pa_cons pe_int (pa_cons pe_int (pa_cons pe_int pa_nil)))) pa_nil))) pa_nil))) pa_nil))))))))
      (pss_one (ps_ret (pe_call (ok__law_c_plain Y) (hr.mono (by first | decide | omega)) (by rfl) Y.f__law_c_plain.g Y.f__law_c_plain.F.kp Y.f__law_c_plain.b .nil pass0 (pa_cons (pv 1) (pa_cons (pe_call (ok__law_low Y) (hr.mono (by first | decide | omega)) (by rfl) Y.f__law_low.g Y.f__law_low.F.kp Y.f__law_low.b .nil pass0 (pa_cons (pe_op op_sub (pe_call (ok__law_draw Y) (hr.mono (by first | decide | omega)) (by rfl) Y.f__law_draw.g Y.f__law_draw.F.kp Y.f__law_draw.b .nil pass0 (pa_cons (pv 0) (pa_cons pe_int pa_nil))) pe_int) (pa_cons (pe_call (ok__law_pick Y) (hr.mono (by first | decide | omega)) (by rfl) Y.f__law_pick.g Y.f__law_pick.F.kp Y.f__law_pick.b .nil pass0 (pa_cons (pv 0) (pa_cons (pe_lst (pa_cons pe_int (pa_cons pe_int pa_nil))) pa_nil))) pa_nil))) pa_nil))))))), ?_⟩
  refine zq_par3F (T := Y.T) (Z := Z) (n := n) (m := n + 1 + 1) (Pa := fun ds => ∃ W, ds = [dq 0, dq W] ∧ Tw 600 W) sl at_ ((za_2 (Rv.z rv_zero) (z_low (m := n + 1) (p := fun v => -50 ≤ v ∧ v ≤ 50) (q := fun v => v = 1 ∨ v = 2 ∨ v = 3 ∨ v = 4) (r := Tw 600)
      (z_sub (p := fun v => 0 ≤ v ∧ v < 101) (q := (· = 50)) (z_draw (B := 101) (sl.getV (i := 0) rfl) (z_int.imp fun d ⟨i, e, h⟩ => ⟨i, e, by omega⟩) (by decide) (by omega)) z_int (fun i j h1 h2 => by omega))
      (z_add (p := (· = 1)) (q := fun v => 0 ≤ v ∧ v < 4) z_int (z_draw (B := 4) (sl.getV (i := 0) rfl) (z_int.imp fun d ⟨i, e, h⟩ => ⟨i, e, by omega⟩) (by decide) (by omega)) (fun i j h1 h2 => by omega))
      (fun i j h1 h2 => ⟨by omega, lt9000 (by omega), (tw_div (by omega)).up (by omega)⟩))).imp fun l ⟨d, e, h1, h2, q, h3, h4⟩ => ⟨q, by rw [h1, h2, h3], h4⟩) (fun ds ⟨W, e, _⟩ => by rw [e]; rfl) fun o d2 d3 σ2 G2 H2 pe ow2 sl2 => ?_
  obtain ⟨W0, pe, hW0⟩ := pe
  cases pe
  refine zq_for (K := K) (T := Y.T) (Z := Z) (n := n + 1 + 1) (m := n + 1 + 1) (Ri.z (ri_range1 (n := 12) (ra_cons rv_i ra_nil) (by decide))) ow2.at_ fun ds G3 H3 hds g3 a3 => ?_
  subst hds
  have ow3 := ow2.step g3 a3
  refine ⟨fun i σ' G' H' => ∃ (sa : Slot) (cs : List Cn) (M W : Rat), OwnZ Z Y.T K G H G' H' (n + 2 + 4 * i) o (cs.map dc) ∧ Same G3 G' ∧ Sf i (60 * i) (600 + 240 * i) (600 + 240 * i) cs M W ∧ Sl K G' σ' [.v (.ref Z.s), .v (.ref o), .d (dq M), .d (dq W), sa],
    ⟨.no, [], 0, W0, ow3, Same.refl _, ⟨⟨trivial, fun a h => (by cases h), rfl, fun x h => (by cases h), fun x h => (by cases h)⟩, fun x h => (by cases h), fun _ => rfl, Tw.zero, hW0⟩, sl2.mono g3.g⟩, fun i σ' G' H' ⟨_, _, _, _, ow, e, _⟩ => ⟨e, _, ow.at_⟩, fun i d x σ' G' H' G'' H'' hd hI s4 hx => ?_, fun σ' G' H' hI => ?_⟩
  · obtain ⟨sa, cs, M, W, ow4, e4, sf, sl4⟩ := hI
    have hi : i < 12 := by
      have := (List.getElem?_eq_some_iff.mp hd).1
      simpa using this
    have sl5 := (sl4.mono s4.g).set (i := 4) hx
    have ow5 := ow4.step s4.go (ow4.at_.step s4)
    have hlen : (cs.map dc).length < 100000 := by
      rw [List.length_map, sf.d.len]
      omega
    refine zq_out (P := (· = dc (M, W))) (m := n + 2 + 4 * i) sl5 ow5 rfl (Rv.z (rv_tup (ra_cons (rv_sl sl5 rfl) (ra_cons (rv_sl sl5 rfl) ra_nil)) (by simp))) hlen fun d G9 H9 hd9 ow9 sl9 e9 => ?_
    subst hd9
    refine zq_set (Z := Z) (n := n + 2 + 4 * i) (m := n + 2 + 4 * i + 1 + 1) (P := QP fun x => M < x ∧ Tw (60 * (i + 1)) x) sl9 (z_q2 (m := n + 2 + 4 * i) (q := fun y => 0 < y ∧ Tw 60 y) (Rv.zq (rv_sl (i := 2) sl9 rfl)) (z_low (p := fun v => 1 ≤ v ∧ v ≤ 5) (q := fun v => v = 1 ∨ v = 2) (m := n + 2 + 4 * i + 1)
      (z_add (p := (· = 1)) (q := fun v => 0 ≤ v ∧ v < 5) z_int (z_draw (B := 5) (sl9.getV (i := 0) rfl) (z_int.imp fun d ⟨i, e, h⟩ => ⟨i, e, by omega⟩) (by decide) (by omega)) (fun i j h1 h2 => by omega))
      (z_pickL (is := [1, 1, 2]) (sl9.getV (i := 0) rfl) (ra_cons rv_i (ra_cons rv_i (ra_cons rv_i ra_nil))) (by decide) (by decide) (by decide) (by omega)) (fun i j h1 h2 => ⟨by omega, lt9000 (by omega), tw_pos (by omega) (by omega), (tw_div (by omega)).up (by omega)⟩)) (fun x y hx hy => by
        rw [hx]
        exact ⟨szp_tw sf.m hy.2 (by omega) (by decide), by grind, (sf.m.add hy.2).up (by omega)⟩)) ow9.at_ fun d σ10 G10 H10 g10 a10 hm sl10 => ?_
    obtain ⟨M2, rfl, hM2⟩ := hm
    have ow10 := ow9.step g10 a10
    refine zs_set (Z := Z) (n := n + 2 + 4 * i + 1 + 1) (m := n + 2 + 4 * i + 1 + 1 + 1 + 1) (P := QP (Tw (600 + 240 * (i + 1)))) sl10 (z_q2 (m := n + 2 + 4 * i + 1 + 1) (q := Tw 240) (Rv.zq (rv_sl (i := 3) sl10 rfl)) (z_low (p := fun v => -20 ≤ v ∧ v ≤ 20) (q := fun v => v = 1 ∨ v = 2) (m := n + 2 + 4 * i + 1 + 1 + 1)
      (z_sub (p := fun v => 0 ≤ v ∧ v < 41) (q := (· = 20)) (z_draw (B := 41) (sl10.getV (i := 0) rfl) (z_int.imp fun d ⟨i, e, h⟩ => ⟨i, e, by omega⟩) (by decide) (by omega)) z_int (fun i j h1 h2 => by omega))
      (z_pickL (is := [1, 1, 2]) (sl10.getV (i := 0) rfl) (ra_cons rv_i (ra_cons rv_i (ra_cons rv_i ra_nil))) (by decide) (by decide) (by decide) (by omega)) (fun i j h1 h2 => ⟨by omega, lt9000 (by omega), (tw_div (by omega)).up (by omega)⟩)) (fun x y hx hy => by
        rw [hx]
        exact ⟨szp_tw sf.w hy (by omega) (by decide), (sf.w.add hy).up (by omega)⟩)) ow10.at_ fun d σ11 G11 H11 g11 a11 hw sl11 => ?_
    obtain ⟨W2, rfl, hW2⟩ := hw
    have ow11 := ow10.step g11 a11
    refine ⟨G11, _, cs ++ [(M, W)], M2, W2, ?_, (Same.trans (Same.trans (Same.trans (Same.trans e4 s4.g) e9) g10.g) g11.g), ⟨sf.d.snoc sf.l sf.z (sf.m.up (by omega)) (sf.w.up (by omega)) (by omega) (by omega), fun x hx => ?_, fun z => by simp at z, hM2.2, hW2⟩, sl11⟩
    · rw [List.map_append]
      have : n + 2 + 4 * (i + 1) = n + 2 + 4 * i + 1 + 1 + 1 + 1 := by omega
      rw [this]
      exact ow11
    · rcases List.mem_append.mp hx with q | q
      · have := sf.l x q
        grind
      · rw [List.mem_singleton.mp q]
        exact hM2.1
  · obtain ⟨sa, cs, M, W, ow4, e4, sf, sl4⟩ := hI
    rw [List.length_map, List.length_range] at ow4 sf
    obtain ⟨G5, g5, a5, e5, sl5⟩ := ow4.done (i := 1) sl4 rfl
    have a5 := a5.up (m := n + 50) (by omega)
    have hdn : Dn 12 8000 8000 cs := ⟨sf.d.up, sf.d.h0, sf.d.len, fun x hx => (sf.d.mo x hx).up (by omega), fun x hx => (sf.d.wo x hx).up (by omega)⟩
    refine zs_ret (P := fun d => ∃ c, d = dv c ∧ Drawn c) (m := n + 50 + 1 + 1) (z_callV2 (Pa := fun ds => ∃ q, ds = [.list (cs.map dc), dq q] ∧ Tw 48 q) ((za_2 (Rv.z (rv_sl (i := 1) sl5 rfl)) (z_low (m := n + 50 + 1) (p := fun v => -4 ≤ v ∧ v ≤ 4) (q := fun v => v = 1 ∨ v = 2)
      (z_sub (p := fun v => 0 ≤ v ∧ v < 9) (q := (· = 4)) (z_draw (B := 9) (sl5.getV (i := 0) rfl) (z_int.imp fun d ⟨i, e, h⟩ => ⟨i, e, by omega⟩) (by decide) (by omega)) z_int (fun i j h1 h2 => by omega))
      (z_pickL (is := [1, 2]) (sl5.getV (i := 0) rfl) (ra_cons rv_i (ra_cons rv_i ra_nil)) (by decide) (by decide) (by decide) (by omega)) (r := Tw 48) (fun i j h1 h2 => ⟨by omega, lt9000 (by omega), (tw_div (by omega)).up (by omega)⟩))).imp fun l ⟨d, e, h1, h2, q, h3, h4⟩ => ⟨q, by rw [h1, h2, h3], h4⟩)
      (fun ds ⟨q, e, hq⟩ => ⟨cs, q, e, dn_slOk hdn (by omega) (by omega), _, rfl, dn_drawn hdn (by omega) (by omega) (hq.sz (by decide) (by decide))⟩)) a5 fun d v G' H' go a' hp hv => ?_
    exact k d v G' H' (g5.trans go) (a'.up (show n + 50 + 1 + 1 ≤ n + 60 by omega)) hp hv
end
end Qw
namespace Qw
open PySem PySem.Spec PyProof.Rows L2 LamX Qk
section
variable {Z : Stm} {T : List (Addr × Str)} {K : PySem.W.Frag} {σ : L2.St} {G G0 H0 G' H H' G1 H1 : Hp} {ta tb te tl : TE} {tt : TT} {ds es : List PyData} {aa : TA} {n m k i j l : Nat} {P P1 P2 : PyData → Prop} {Pa : List PyData → Prop} {D : Ends} {tbd tz t1 t2 : TS} {ss : List Slot} {o : Addr} {E : XK}
/-- a = [] -/
theorem zq_setL (sl : Sl K G σ ss) (a : At Z T G H n) (k : ∀ o σ' H', OwnZ Z T K G H G H' n o [] → Sl K G σ' (ss.set i (.v (.ref o))) → tz D σ' H') : tSeq (tAsg (tLst tNil) (gName i)) tz D σ H :=
  ⟨Nat.zero_le _, fun o no => k o _ _ (OwnZ.new Go.refl a no) sl.setV⟩
/-- a, b = e, the whole of it read first -/
theorem zq_two (sl : Sl K G σ ss) (h : RvZ Z T K n m te σ G (fun d => ∃ d1 d2, d = .tuple [d1, d2] ∧ P d1 ∧ P1 d2)) (a : At Z T G H n) (k : ∀ d1 d2 σ' G' H', P d1 → P1 d2 → Go Z G H G' H' → At Z T G' H' m → Sl K G' σ' ((ss.set i (.d d1)).set j (.d d2)) → tz D σ' H') : tSeq (tAsg te (gTup K 2 (gCons (gName i) (gCons (gName j) gNil)))) tz D σ H :=
  h H a _ fun d v G' H' go a' ⟨d1, d2, e, p1, p2⟩ hv => by
    subst e
    refine g_pair a'.c hv fun y z hy hz => ?_
    exact k d1 d2 _ G' H' p1 p2 go a' (((sl.mono go.g).set hy).set hz)
/-- xs[i:j], 0 ≤ i ≤ j -/
theorem rv_cut {p q : Nat} (h : Rv T te σ G (IsD K (.list ds))) (ha : Rv T ta σ G (IsD K (.int (p : Int)))) (hb : Rv T tb σ G (IsD K (.int (q : Int)))) (hp : p ≤ ds.length) : Rv T (tSl (rSlL K) te (tPart ta) (tPart tb)) σ G (IsL K ((ds.drop p).take (q - p))) := fun H t c Q k =>
  h H t c _ fun v G2 H2 s2 hv => (ha.mono s2.g) H2 s2.t s2.s _ fun x G3 H3 s3 hx => ⟨_, dp_int hx, (hb.mono (Same.trans s2.g s3.g)) H3 s3.t s3.s _ fun y G4 H4 s4 hy => ⟨_, dp_int hy, by
    have hv4 := sdp (Same.trans s3.g s4.g) hv
    obtain ⟨a, xs, rfl, hs, hd⟩ := dp_lst hv4
    have hl := dpAll_len hd
    have ec : cutV xs (some (p : Int)) (some (q : Int)) = (xs.drop p).take (q - p) := by
      unfold cutV
      rw [HT.sIx_nat, HT.sIx_nat, hl, Nat.min_eq_left hp]
      by_cases hq : q ≤ ds.length
      · rw [Nat.min_eq_left hq]
      · rw [Nat.min_eq_right (by omega)]
        rw [List.take_of_length_le (by rw [List.length_drop]; omega), List.take_of_length_le (by rw [List.length_drop]; omega)]
    refine ⟨a, xs, rfl, s4.s.lst hs, fun o no => ?_⟩
    rw [ec]
    have st : Step T G4 H4 (upd G4 o (.lst ((xs.drop p).take (q - p)))) (upd H4 o (.lst ((xs.drop p).take (q - p)))) := Step.new s4.t s4.s no lst_tbl
    exact k _ _ _ (((s2.trans s3).trans s4).trans st) ⟨o, _, rfl, upd_same, dpAll_take _ (dpAll_drop p (sdpAll st.g hd))⟩⟩⟩
/-- max of a list of ints: some int -/
theorem z_max {ns : List Int} (h : Rv T te σ G (IsD K (.list (ns.map .int)))) (h0 : 0 < ns.length) : RvZ Z T K n n (tCB (rMax K) (tCons te tNil)) σ G (IntP fun _ => True) := fun H a Q q =>
  h H a.t a.c _ fun v G2 H2 s2 hv => by
    obtain ⟨p, xs, rfl, hs, hd⟩ := dp_lst hv
    refine ⟨p, ns, rfl, ?_, h0, fun m _ _ => q (.int m) _ G2 H2 s2.go (a.step s2) ⟨m, rfl, trivial⟩ (.int m)⟩
    rw [← dp_ints hd]
    exact s2.s.lst hs
theorem z_lt {p q : Int → Prop} (ha : RvZ Z T K n m ta σ G (IntP p)) (hb : RvZ Z T K m k tb σ G (IntP q)) : RvZ Z T K n k (tOp (rI0 fun i j => .bl (decide (i < j))) ta tb) σ G (fun d => ∃ b, d = .bool b ∧ True) :=
  z_op ha hb fun d e ⟨i, e1, h1⟩ ⟨j, e2, h2⟩ => ⟨.bool (decide (i < j)), ⟨_, rfl, trivial⟩, fun G1 H1 x y t c hx hy Q k => by
    subst e1 e2
    exact ⟨i, j, dp_int hx, dp_int hy, k _ G1 H1 (Step.refl t c) (.bl _)⟩⟩
/-- out.extend(e) -/
theorem zs_ext (sl : Sl K G σ ss) (w : OwnZ Z T K G0 H0 G H n o ds) (ho : ss[i]? = some (.v (.ref o))) (h : RvZ Z T K n m te σ G (fun d => ∃ es, d = .list es ∧ Pa es)) (hz : ∀ es, Pa es → ds.length + es.length ≤ 100000)
    (k : ∀ es G' H', Pa es → OwnZ Z T K G0 H0 G' H' m o (ds ++ es) → Sl K G' σ ss → Same G G' → D.nx σ H') : tDrop (tBM K "list" rExtend (tVar i) (tCons te tNil)) D σ H := by
  obtain ⟨acc, h1, h2⟩ := w.ex
  refine ⟨.ref o, sl.getV ho, .inl ⟨rfl, acc, .inl (.inl h1)⟩, h H w.at_ _ fun d v G' H' go a' ⟨es, e, p⟩ hv => ?_⟩
  subst e
  obtain ⟨b, ys, rfl, hb, hd⟩ := dp_lst hv
  have w1 := w.step go a'
  have hl1 : H' o = some (.lst acc) := go.x o _ w.ns w.nl h1 lst_tbl
  refine ⟨o, b, acc, ys, rfl, rfl, hl1, (a'.c b _ hb).1, small_line (by rw [dpAll_len h2, dpAll_len hd]; exact hz es p), ?_⟩
  exact k es G' _ p (w1.more hl1 hd) (sl.mono go.g) go.g
/-- len of the own list, as it stands -/
theorem pu_len {acc : List V} (h : σ[i]? = some (some (.ref o))) (hl : H o = some (.lst acc)) : Pu (tCB (fun xs H Q => ∃ p ys, xs = [.ref p] ∧ (SqL K H p ys ∨ SqT K H p ys) ∧ Q (.int ys.length) H) (tCons (tVar i) tNil)) σ H (.int acc.length) := fun Q q => ⟨_, h, o, acc, rfl, .inl (.inl (.inl hl)), q⟩
/-- len of a list of the data, as it stands -/
theorem pu_lenD {p : Addr} {acc : List V} (h : Pu te σ H (.ref p)) (hl : H p = some (.lst acc)) : Pu (tCB (fun xs H Q => ∃ p ys, xs = [.ref p] ∧ (SqL K H p ys ∨ SqT K H p ys) ∧ Q (.int ys.length) H) (tCons te tNil)) σ H (.int acc.length) := fun Q q => h _ ⟨p, acc, rfl, .inl (.inl (.inl hl)), q⟩
theorem pu_ixT {a : Int} {v : V} {p : Addr} {xs : List V} (ha : Pu ta σ H (.ref p)) (hb : Pu tb σ H (.int a)) (hp : H p = some (.tup xs)) (e : atI xs a = some v) : Pu (tOp (rIxT K) ta tb) σ H v := fun Q q => ha _ (hb _ ⟨p, xs, a, v, rfl, rfl, .inl (.inl hp), e, q⟩)
end
end Qw
namespace Qk
/-- a curve's corners and some more at which nothing bends -/
structure MoreOk (c : Cv) (cs : List Cn) : Prop where
  m : More c.2 c.1 cs
  len : cs.length ≤ 13
  sz : ∀ x ∈ cs, Sz 50 x.1 ∧ Sz 100 x.2
def laterOf (c : Cv) (i : Nat) (a : Cn) : Rat := match c.1[i + 1]? with
  | some b => b.1
  | none => a.1 + 2
theorem later_head (c : Cv) (i : Nat) (a : Cn) : ∃ r, ((c.1.drop (i + 1)).take 1).map (fun b => b.1) ++ [a.1 + 2] = laterOf c i a :: r := by
  unfold laterOf
  rw [← List.head?_drop]
  cases c.1.drop (i + 1) with
  | nil => exact ⟨[], rfl⟩
  | cons b r => exact ⟨[a.1 + 2], rfl⟩
theorem up_get : ∀ {cs : List Cn} {i : Nat} {a b : Cn}, Up cs → cs[i]? = some a → cs[i + 1]? = some b → a.1 < b.1
  | [], _, _, _, _, h, _ => by simp at h
  | [x], i, _, _, _, _, h => by simp at h
  | x :: y :: r, 0, a, b, hu, h1, h2 => by
    have e1 : x = a := Option.some.inj h1
    have e2 : y = b := Option.some.inj h2
    rw [← e1, ← e2]
    exact hu.1
  | x :: y :: r, i + 1, a, b, hu, h1, h2 => up_get (cs := y :: r) (i := i) hu.2 (by simpa using h1) (by simpa using h2)
theorem sz_two : Sz 2 2 := ⟨by decide, by decide⟩
theorem later_ok {c : Cv} {i : Nat} {a : Cn} (hc : Drawn c) (ha : c.1[i]? = some a) : a.1 < laterOf c i a ∧ Sz 17 (laterOf c i a) ∧ ∀ b, c.1[i + 1]? = some b → laterOf c i a = b.1 := by
  unfold laterOf
  cases e : c.1[i + 1]? with
  | none => exact ⟨by show a.1 < a.1 + 2; grind, ((hc.t.mo a (List.mem_of_getElem? ha)).add sz_two).mono (by decide), fun b h => by cases h⟩
  | some b => exact ⟨up_get hc.t.w.up ha e, (hc.t.mo b (List.mem_of_getElem? e)).mono (by decide), fun b' h => by cases h; rfl⟩
theorem sz_half : Sz 2 (1 / 2) := ⟨by decide +kernel, by decide +kernel⟩
theorem sz_third : Sz 2 (1 / 3) ∧ Sz 2 (2 / 3) := ⟨⟨by decide +kernel, by decide +kernel⟩, by decide +kernel, by decide +kernel⟩
end Qk
namespace Qw
open PySem PySem.Spec PyProof.Rows L2 LamX Qk
section
variable {P : Program} {w : World} {K : PySem.W.Frag} {mg : Str → Option Value} {base : Heap}
theorem dq_third : dq (1 / 3) = .tuple [.int 1, .int 3] := by
  have h1 : (1 / 3 : Rat).num = 1 := by decide +kernel
  have h2 : (1 / 3 : Rat).den = 3 := by decide +kernel
  unfold dq
  rw [h1, h2]
  rfl
theorem dq_third2 : dq (2 / 3) = .tuple [.int 2, .int 3] := by
  have h1 : (2 / 3 : Rat).num = 2 := by decide +kernel
  have h2 : (2 / 3 : Rat).den = 3 := by decide +kernel
  unfold dq
  rw [h1, h2]
  rfl
theorem dq_two : dq 2 = .tuple [.int 2, .int 1] := rfl
section
variable {Z : Stm} {T : List (Addr × Str)} {σ : L2.St} {G H : Hp} {tt tu : TT} {n m : Nat} {B : Bool → Prop} {D : Ends} {t1 t2 tz : TS}
/-- if p and q, q read as the heap stands -/
theorem zs_ifAnd {F : Prop} (h : RtZ Z T n m tt σ G B) (a : At Z T G H n) (hu : ∀ G' H', Go Z G H G' H' → At Z T G' H' m → ∀ Q : Bool → Hp → Prop, (∀ b, (b = true → F) → Q b H') → tu σ H' Q)
    (h1 : F → ∀ G' H', Go Z G H G' H' → At Z T G' H' m → t1 D σ H') (h2 : ∀ G' H', Go Z G H G' H' → At Z T G' H' m → t2 D σ H') : tIfS (tAnd tt tu) t1 t2 D σ H := h H a _ fun b G' H' go a' _ => by
  cases b with
  | true =>
    refine iteT (hu G' H' go a' _ fun b hb => ?_)
    cases b with
    | true => exact iteT (h1 (hb rfl) G' H' go a')
    | false => exact iteF (h2 G' H' go a')
  | false => exact iteF (iteF (h2 G' H' go a'))
end
def preMo : List PyData → Prop := fun ds => ∃ c, ds = [dv c] ∧ Drawn c
def outMo : List PyData → PyData → Prop := fun ds d => ∃ c cs, ds = [dv c] ∧ d = .list (cs.map dc) ∧ MoreOk c cs
theorem dc_inj {a b : Cn} (h : dc a = dc b) : a = b := by
  unfold dc at h
  simp at h
  exact Prod.ext (dq_inj h.1) (dq_inj h.2)
theorem map_inj' {α β : Type} {f : α → β} (hf : ∀ a b, f a = f b → a = b) : ∀ {xs ys : List α}, xs.map f = ys.map f → xs = ys
  | [], [], _ => rfl
  | [], _ :: _, h => by simp at h
  | _ :: _, [], h => by simp at h
  | x :: r, y :: s, h => by
    simp at h
    rw [hf _ _ h.1, map_inj' hf (xs := r) (ys := s) (by simpa using h.2)]
theorem dv_inj {a b : Cv} (h : dv a = dv b) : a = b := by
  unfold dv at h
  simp only [PyData.tuple.injEq, List.cons.injEq, PyData.list.injEq, and_true] at h
  exact Prod.ext (map_inj' (fun _ _ => dc_inj) h.1) (dq_inj h.2)
abbrev s__law_c_more : Stmt := topS 72
theorem sc__law_c_more : FnScope ["_law_stream_here", "_law_curve", "_law_found", "_law_at", "_law_corner", "_law_later", "_law_gap", "_law_parts", "_law_more", "_law_rows", "_law_part", "_law_moment", "_law_one", "_law_worth"] ["_law_stream_here", "_law_curve"] (defScope s__law_c_more) := ⟨rfl, rfl, rfl, by decide +kernel, rfl, by decide +kernel, by decide +kernel⟩
theorem ok__law_c_more (Y : Tx K mg base) : FnOk P w K mg base CX0 9 Y.f__law_c_more.a Y.f__law_c_more.fd ["_law_stream_here", "_law_curve"] (SpZ Y.T K (fun _ => 40) preMo outMo) := by
  refine Y.f__law_c_more.F.ok sc__law_c_more (fun vs H Q E h => spz_len (E := E) (pre := preMo) (a := 1) h fun ds hp => by obtain ⟨c, e, _⟩ := hp; rw [e]; rfl) (fun cdv A outer s H vs Q E hr h => ?_)
  obtain ⟨Z, G, n, us, ds, rfl, at_, hd, ⟨c, rfl, hc⟩, hn, k⟩ := h
  have sl := sl_startZ (N := ["_law_stream_here", "_law_curve", "_law_found", "_law_at", "_law_corner", "_law_later", "_law_gap", "_law_parts", "_law_more", "_law_rows", "_law_part", "_law_moment", "_law_one", "_law_worth"]) (u := .ref Z.s) hd (Nat.le_of_ble_eq_true rfl)
  have hn : n + 40 ≤ countLim := hn
  have hcl := hc.t.len
  have hfine : Fine c := (hc.t.cs (by decide)).mono (by decide) (by decide) (by decide)
  refine ⟨_, (pss_cons (ps_set (i := 2) sc__law_c_more.nd rfl (Or.inl rfl) (pe_lst pa_nil))
      (pss_cons (ps_for PassesOwn.never rfl (pi_enum (by rfl) Y.z_enumerate (pa_cons (pe_ix ix_tup (pv 1) pe_int (fun _ _ => rfl)) pa_nil)) (pg_tup rfl (pgs_cons (pg_name (i := 3) sc__law_c_more.nd rfl (Or.inl rfl)) (pgs_cons (pg_name (i := 4) sc__law_c_more.nd rfl (Or.inr rfl)) pgs_nil))) (pss_cons (ps_expr (pe_bm PySem.F.plainAttrs_list PySem.F.slot_list_append PySem.F.type_list_append mt_append (pv 2) (pa_cons (pv 4) pa_nil)))
      (pss_one (ps_if (PW.pt (pw_and (pt_cmpR op_eq (pe_call (ok__law_draw Y) (hr.mono (by first | decide | omega)) (by rfl) Y.f__law_draw.g Y.f__law_draw.F.kp Y.f__law_draw.b .nil pass0 (pa_cons (pv 0) (pa_cons pe_int pa_nil))) pe_int (nomark _)) (pw_and1 (pt_cmpR op_lt (pe_op op_sub (pe_op op_add (pe_callB call_len_seq (by rfl) Y.z_len PySem.boot_len (pa_cons (pv 2) pa_nil)) (pe_callB call_len_seq (by rfl) Y.z_len PySem.boot_len (pa_cons (pe_ix ix_tup (pv 1) pe_int (fun _ _ => rfl)) pa_nil))) (pv 3)) pe_int (nomark _))))) (pss_cons (ps_set (i := 5) sc__law_c_more.nd rfl (Or.inl rfl) (pe_op op_cat (pe_lc (own := [("_law_one", 12)]) (g := (gName 12)) rfl sc__law_c_more.nd (pi_list (pe_slice sl_list (pe_ix ix_tup (pv 1) pe_int (fun _ _ => rfl)) (po_some (pe_op op_add (pv 3) pe_int)) (po_some (pe_op op_add (pv 3) pe_int)))) (blkOk_by (N := ["_law_stream_here", "_law_curve", "_law_found", "_law_at", "_law_corner", "_law_later", "_law_gap", "_law_parts", "_law_more", "_law_rows", "_law_part", "_law_moment", "_law_one", "_law_worth"]) (sc := defScope s__law_c_more) (own := [("_law_one", 12)]) (by decide +kernel)) (fun _ _ _ _ _ => (pg_name (i := 12) sc__law_c_more.nd rfl (Or.inl rfl))) (fun _ _ _ _ _ => pts_nil) (fun _ _ _ _ _ => (pe_ix (ixK_tup K rfl) (pv 12) pe_int (fun _ _ => rfl)))) (pe_lst (pa_cons (pe_call (ok__law_plus Y) (hr.mono (by first | decide | omega)) (by rfl) Y.f__law_plus.g Y.f__law_plus.F.kp Y.f__law_plus.b .nil pass0 (pa_cons (pe_ix ix_tup (pv 4) pe_int (fun _ _ => rfl)) (pa_cons (pe_tup (pa_cons pe_int (pa_cons pe_int pa_nil))) pa_nil))) pa_nil))))
      (pss_cons (ps_asg (pe_tup (pa_cons (pe_call (ok__law_less Y) (hr.mono (by first | decide | omega)) (by rfl) Y.f__law_less.g Y.f__law_less.F.kp Y.f__law_less.b .nil pass0 (pa_cons (pe_ix ix_list (pv 5) pe_int (fun _ _ => rfl)) (pa_cons (pe_ix ix_tup (pv 4) pe_int (fun _ _ => rfl)) pa_nil))) (pa_cons (pe_call (ok__law_pick Y) (hr.mono (by first | decide | omega)) (by rfl) Y.f__law_pick.g Y.f__law_pick.F.kp Y.f__law_pick.b .nil pass0 (pa_cons (pv 0) (pa_cons (pe_lst (pa_cons (pe_lst (pa_cons (pe_tup (pa_cons pe_int (pa_cons pe_int pa_nil))) pa_nil)) (pa_cons (pe_lst (pa_cons (pe_tup (pa_cons pe_int (pa_cons pe_int pa_nil))) (pa_cons (pe_tup (pa_cons pe_int (pa_cons pe_int pa_nil))) pa_nil))) pa_nil))) pa_nil))) pa_nil))) (pg_tup rfl (pgs_cons (pg_name (i := 6) sc__law_c_more.nd rfl (Or.inr rfl)) (pgs_cons (pg_name (i := 7) sc__law_c_more.nd rfl (Or.inl rfl)) pgs_nil))))
      (pss_cons (ps_setLc (i := 8) (own := [("_law_part", 10)]) (g := (gName 10)) rfl sc__law_c_more.nd rfl rfl (sw_true rfl rfl rfl (by decide +kernel)) (pi_list (pv 7)) (blkOk_by (N := ["_law_stream_here", "_law_curve", "_law_found", "_law_at", "_law_corner", "_law_later", "_law_gap", "_law_parts", "_law_more", "_law_rows", "_law_part", "_law_moment", "_law_one", "_law_worth"]) (sc := defScope s__law_c_more) (own := [("_law_part", 10)]) (by decide +kernel)) (fun _ _ _ _ _ => (pg_name (i := 10) sc__law_c_more.nd rfl (Or.inl rfl))) (fun _ _ _ _ _ => pts_nil) (fun _ _ _ _ _ => (pe_call (ok__law_plus Y) (hr.mono (by first | decide | omega)) (by rfl) Y.f__law_plus.g Y.f__law_plus.F.kp Y.f__law_plus.b .nil pass0 (pa_cons (pe_ix (ixK_tup K rfl) (pv 4) pe_int (fun _ _ => rfl)) (pa_cons (pe_call (ok__law_times Y) (hr.mono (by first | decide | omega)) (by rfl) Y.f__law_times.g Y.f__law_times.F.kp Y.f__law_times.b .nil pass0 (pa_cons (pv 6) (pa_cons (pv 10) pa_nil))) pa_nil)))))
      (pss_cons (ps_set (i := 8) sc__law_c_more.nd rfl (Or.inl rfl) (pe_ifExp (pt_cmpR op_lt (pe_callB (cr_max rfl) (by rfl) Y.z_max (by decide +kernel) (pa_cons (pe_lc (own := [("_law_moment", 11)]) (g := (gName 11)) rfl sc__law_c_more.nd (pi_list (pv 8)) (blkOk_by (N := ["_law_stream_here", "_law_curve", "_law_found", "_law_at", "_law_corner", "_law_later", "_law_gap", "_law_parts", "_law_more", "_law_rows", "_law_part", "_law_moment", "_law_one", "_law_worth"]) (sc := defScope s__law_c_more) (own := [("_law_moment", 11)]) (by decide +kernel)) (fun _ _ _ _ _ => (pg_name (i := 11) sc__law_c_more.nd rfl (Or.inl rfl))) (fun _ _ _ _ _ => pts_nil) (fun _ _ _ _ _ => (pe_ix (ixK_tup K rfl) (pv 11) pe_int (fun _ _ => rfl)))) pa_nil)) pe_int (nomark _)) (pv 8) (pe_lst (pa_cons (pe_call (ok__law_middle Y) (hr.mono (by first | decide | omega)) (by rfl) Y.f__law_middle.g Y.f__law_middle.F.kp Y.f__law_middle.b .nil pass0 (pa_cons (pe_ix ix_tup (pv 4) pe_int (fun _ _ => rfl)) (pa_cons (pe_ix ix_list (pv 5) pe_int (fun _ _ => rfl)) pa_nil))) pa_nil))))
      (pss_cons (ps_setLc (i := 9) (own := [("_law_moment", 11)]) (g := (gName 11)) rfl sc__law_c_more.nd rfl rfl (sw_true rfl rfl rfl (by decide +kernel)) (pi_list (pv 8)) (blkOk_by (N := ["_law_stream_here", "_law_curve", "_law_found", "_law_at", "_law_corner", "_law_later", "_law_gap", "_law_parts", "_law_more", "_law_rows", "_law_part", "_law_moment", "_law_one", "_law_worth"]) (sc := defScope s__law_c_more) (own := [("_law_moment", 11)]) (by decide +kernel)) (fun _ _ _ _ _ => (pg_name (i := 11) sc__law_c_more.nd rfl (Or.inl rfl))) (fun _ _ _ _ _ => pts_nil) (fun _ _ _ _ _ => (pe_tup (pa_cons (pv 11) (pa_cons (pe_call (ok__law_c_worth Y) (hr.mono (by first | decide | omega)) (by rfl) Y.f__law_c_worth.g Y.f__law_c_worth.F.kp Y.f__law_c_worth.b .nil pass0 (pa_cons (pv 1) (pa_cons (pv 11) pa_nil))) pa_nil)))))
      (pss_one (ps_expr (pe_bm PySem.F.plainAttrs_list PySem.F.slot_list_extend PySem.F.type_list_extend mt_extend (pv 2) (pa_cons (pe_ifExp (pt_cmpR op_lt (pe_callB (cr_max rfl) (by rfl) Y.z_max (by decide +kernel) (pa_cons (pe_lc (own := [("_law_moment", 11), ("_law_worth", 13)]) (g := (gTup K 2 (gCons (gName 11) (gCons (gName 13) gNil)))) rfl sc__law_c_more.nd (pi_list (pv 9)) (blkOk_by (N := ["_law_stream_here", "_law_curve", "_law_found", "_law_at", "_law_corner", "_law_later", "_law_gap", "_law_parts", "_law_more", "_law_rows", "_law_part", "_law_moment", "_law_one", "_law_worth"]) (sc := defScope s__law_c_more) (own := [("_law_moment", 11), ("_law_worth", 13)]) (by decide +kernel)) (fun _ _ _ _ _ => (pg_tup rfl (pgs_cons (pg_name (i := 11) sc__law_c_more.nd rfl (Or.inl rfl)) (pgs_cons (pg_name (i := 13) sc__law_c_more.nd rfl (Or.inl rfl)) pgs_nil)))) (fun _ _ _ _ _ => pts_nil) (fun _ _ _ _ _ => (pe_ix (ixK_tup K rfl) (pv 13) pe_int (fun _ _ => rfl)))) pa_nil)) pe_int (nomark _)) (pv 9) (pe_lst pa_nil)) pa_nil))))))))) pss_nil))))
      (pss_one (ps_ret (pv 2))))), ?_⟩
  refine zq_setL (Z := Z) (T := Y.T) (K := K) sl at_ fun o σ2 H2 ow2 sl2 => ?_
  refine zq_for (K := K) (T := Y.T) (Z := Z) (n := n) (m := n) (Ri.z (ri_enum (rv_v0 (a := c) (rv_sl (i := 1) sl2 rfl)))) ow2.at_ fun ds G3 H3 hds g3 a3 => ?_
  subst hds
  have ow3 := ow2.step g3 a3
  refine ⟨fun i σ' G' H' => ∃ (s3 s4 s5 s6 s7 s8 s9 s10 s11 s12 s13 : Slot) (out : List Cn), OwnZ Z Y.T K G H G' H' (n + 2 * i) o (out.map dc) ∧ Same G3 G' ∧ (∀ r', More c.2 (c.1.drop i) r' → More c.2 c.1 (out ++ r')) ∧ (i ≤ c.1.length → out.length + (c.1.length - i) ≤ 13) ∧ (∀ x ∈ out, Sz 50 x.1 ∧ Sz 100 x.2) ∧
      Sl K G' σ' [.v (.ref Z.s), .d (dv c), .v (.ref o), s3, s4, s5, s6, s7, s8, s9, s10, s11, s12, s13],
    ⟨.no, .no, .no, .no, .no, .no, .no, .no, .no, .no, .no, [], ow3, Same.refl _, fun r' h => h, fun _ => by simp; omega, fun x h => (by cases h), sl2.mono g3.g⟩, fun i σ' G' H' ⟨_, _, _, _, _, _, _, _, _, _, _, _, ow, e, _⟩ => ⟨e, _, ow.at_⟩, fun i d x σ' G' H' G'' H'' hd hI s4 hx => ?_, fun σ' G' H' hI => ?_⟩
  · obtain ⟨z3, z4, z5, z6, z7, z8, z9, z10, z11, z12, z13, out, ow4, e4, hmore, hlen, hsz, sl4⟩ := hI
    obtain ⟨a, ha, rfl⟩ := enum_get hd
    have hi := (List.getElem?_eq_some_iff.mp ha).1
    have hlen := hlen (by omega)
    obtain ⟨hl1, hl2, hl3⟩ := later_ok hc ha
    obtain ⟨rl, hrl⟩ := later_head c i a
    have hmem := List.mem_of_getElem? ha
    have hza := hc.t.mo a hmem
    have hpos := wf_ge hc.t.w a hmem
    refine g_pair (ow4.at_.step s4).c hx fun y z hy hz => ?_
    have sl5 := ((sl4.mono s4.g).set (i := 3) hy).set (i := 4) hz
    have ow5 := ow4.step s4.go (ow4.at_.step s4)
    have hlen5 : (out.map dc).length < 100000 := by
      rw [List.length_map]
      omega
    refine zq_out (P := (· = dc a)) (m := n + 2 * i) sl5 ow5 rfl (Rv.z (rv_sl sl5 rfl)) hlen5 fun d G9 H9 hd9 ow9 sl9 e9 => ?_
    subst hd9
    have hmo : ∀ x ∈ out ++ [a], Sz 50 x.1 ∧ Sz 100 x.2 := fun x hx => by
      rcases List.mem_append.mp hx with q | q
      · exact hsz x q
      · rw [List.mem_singleton.mp q]
        exact ⟨hza.mono (by decide), (hc.t.wo a hmem).mono (by decide)⟩
    have fin : ∀ (ins : List Cn) (σ6 : L2.St) (G6 H6 : Hp), Ins c.2 a (c.1.drop (i + 1)) ins → (ins = [] ∨ (out.length + 1 + (c.1.length - i) < 12 ∧ ins.length ≤ 2)) → (∀ x ∈ ins, Sz 50 x.1 ∧ Sz 100 x.2) → Same G3 G6 → OwnZ Z Y.T K G H G6 H6 (n + 2 * (i + 1)) o ((out ++ [a]).map dc ++ ins.map dc) →
        (∃ s3 s4 s5 s6 s7 s8 s9 s10 s11 s12 s13 : Slot, Sl K G6 σ6 [.v (.ref Z.s), .d (dv c), .v (.ref o), s3, s4, s5, s6, s7, s8, s9, s10, s11, s12, s13]) →
        ∃ G', ∃ (s3 s4 s5 s6 s7 s8 s9 s10 s11 s12 s13 : Slot) (out : List Cn), OwnZ Z Y.T K G H G' H6 (n + 2 * (i + 1)) o (out.map dc) ∧ Same G3 G' ∧ (∀ r', More c.2 (c.1.drop (i + 1)) r' → More c.2 c.1 (out ++ r')) ∧ (i + 1 ≤ c.1.length → out.length + (c.1.length - (i + 1)) ≤ 13) ∧ (∀ x ∈ out, Sz 50 x.1 ∧ Sz 100 x.2) ∧
          Sl K G' σ6 [.v (.ref Z.s), .d (dv c), .v (.ref o), s3, s4, s5, s6, s7, s8, s9, s10, s11, s12, s13] := fun ins σ6 G6 H6 h1 h2 h3 h4 h5 ⟨s3, s4, s5, s6, s7, s8, s9, s10, s11, s12, s13, h6⟩ => by
      refine ⟨G6, s3, s4, s5, s6, s7, s8, s9, s10, s11, s12, s13, out ++ [a] ++ ins, ?_, h4, more_step ha h1 hmore, fun _ => ?_, fun x hx => ?_, h6⟩
      · rw [List.map_append]
        exact h5
      · simp only [List.length_append, List.length_cons, List.length_nil]
        rcases h2 with q | ⟨q1, q2⟩
        · rw [q]
          simp only [List.length_nil]
          omega
        · omega
      · rcases List.mem_append.mp hx with q | q
        · exact hmo x q
        · exact h3 x q
    have ow9' : OwnZ Z Y.T K G H G9 H9 (n + 2 * i) o ((out ++ [a]).map dc) := by
      rw [List.map_append]
      exact ow9
    have e9' := Same.trans (Same.trans e4 s4.g) e9
    refine zs_ifAnd (Z := Z) (T := Y.T) (F := out.length + 1 + (c.1.length - i) < 12) (m := n + 2 * i + 1) (B := fun _ => True) (zt_B ((z_eqI (z_draw (B := 4) (sl9.getV (i := 0) rfl) (z_int.imp fun d ⟨i, e, h⟩ => ⟨i, e, by omega⟩) (by decide) (by omega)) z_int).imp fun d ⟨b, e⟩ => ⟨b, e, trivial⟩)) ow9'.at_ (fun G6 H6 g6 a6 Q q => ?_) (fun hF G6 H6 g6 a6 => ?_) (fun G6 H6 g6 a6 => ?_)
    · have ow6 := ow9'.step g6 a6
      have sl6 := sl9.mono g6.g
      obtain ⟨acc, hacc, hdp⟩ := ow6.ex
      obtain ⟨vc, hvc, dvc⟩ := sl6.get (i := 1) rfl
      obtain ⟨pt, xs, rfl, hpt, hxs⟩ := dp_tup dvc
      obtain ⟨w1, w2, rfl, hw1, hw2⟩ := dp2 hxs
      obtain ⟨pl, ys, rfl, hpl, hys⟩ := dp_lst hw1
      obtain ⟨vi, hvi, dvi⟩ := sl6.get (i := 3) rfl
      cases dp_int dvi
      refine pu_cc (pu_rI0 (a := (acc.length : Int) + (ys.length : Int) - (i : Int)) (b := 12) (pu_rI0 (a := (acc.length : Int) + (ys.length : Int)) (b := (i : Int)) (pu_rI0 (pu_len (sl6.getV (i := 2) rfl) hacc) (pu_lenD (pu_ixT (a := 0) (pu_var hvc) pu_c (a6.c _ _ hpt).1 rfl) (a6.c _ _ hpl).1)) (pu_var hvi)) pu_c) (q _ fun hb => ?_)
      have h1 := dpAll_len hdp
      have h2 := dpAll_len hys
      rw [List.length_map] at h1 h2
      rw [List.length_append] at h1
      have := of_decide_eq_true hb
      simp only [List.length_cons, List.length_nil] at h1
      omega
    · have ow6 := ow9'.step g6 a6
      have sl6 := sl9.mono g6.g
      have e6 := Same.trans e9' g6.g
      -- later
      refine zq_set (Z := Z) (T := Y.T) (n := n + 2 * i + 1) (m := n + 2 * i + 1) (P := (· = .list (dq (laterOf c i a) :: rl.map dq))) sl6 ((Rv.z (Rv.ld (rv_cat (rv_lcNS (A := dc) (B := fun b : Cn => dq b.1) (xs := (c.1.drop (i + 1)).take 1) sl6 (ri_list (Rv.ld ?_)) (by rw [List.length_take]; omega) (by decide) fun b hb σ' G7 e7 sl7 => rv_c0 (a := b) (rv_sl (i := 12) sl7 rfl)) (rv_lst (ds := [dq (a.1 + 2)]) (ra_cons (rv_call2 (d1 := dq) (d2 := dq) (a := a.1) (b := (2 : Rat)) (ra_cons (rv_c0 (a := a) (rv_sl (i := 4) sl6 rfl)) (ra_cons ((rv_tup (ra_cons rv_i (ra_cons rv_i ra_nil)) (by decide)).to dq_two.symm) ra_nil)) ⟨14, 2, hza, sz_two, by decide⟩) ra_nil) (by simp)) (by simp; omega)))).imp fun d e => ?_) a6 fun d σ7 G7 H7 g7 a7 hd7 sl7 => ?_
      · have h := rv_cut (T := Y.T) (K := K) (p := i + 1) (q := i + 2) (rv_v0 (a := c) (rv_sl (T := Y.T) (i := 1) sl6 rfl)) ((rv_add (n := (i : Int)) (m := 1) (rv_sl (i := 3) sl6 rfl) rv_i).to (by simp)) ((rv_add (n := (i : Int)) (m := 2) (rv_sl (i := 3) sl6 rfl) rv_i).to (by simp)) (by rw [List.length_map]; omega)
        rw [← List.map_drop, ← List.map_take] at h
        have e : i + 2 - (i + 1) = 1 := by omega
        rw [e] at h
        exact h
      · rw [e]
        have := congrArg (List.map dq) hrl
        simp only [List.map_append, List.map_map, List.map_cons, List.map_nil] at this
        show PyData.list (List.map (fun b : Cn => dq b.1) (List.take 1 (List.drop (i + 1) c.1)) ++ [dq (a.1 + 2)]) = _
        rw [← this]
        rfl
      subst hd7
      have ow7 := ow6.step g7 a7
      have e7 := Same.trans e6 g7.g
      -- the gap, the parts
      have hgap : Sz 32 (laterOf c i a - a.1) := hl2.sub hza
      have hl0 : Rv Y.T (tOp (rIxL K) (tVar 5) (tC (.int 0))) σ7 G7 (IsD K (dq (laterOf c i a))) := rv_ixL (n := 0) (ds := dq (laterOf c i a) :: rl.map dq) (rv_sl (i := 5) sl7 rfl) rv_i (atI_nat (j := 0) rfl)
      refine zq_two (Z := Z) (T := Y.T) (K := K) (n := n + 2 * i + 1) (m := n + 2 * i + 1 + 1) (P := (· = dq (laterOf c i a - a.1))) (P1 := fun d => ∃ ps : List Rat, d = .list (ps.map dq) ∧ (ps = [1 / 2] ∨ ps = [1 / 3, 2 / 3])) sl7
        ((z_tup (za_2 (P := (· = dq (laterOf c i a - a.1))) (P1 := fun d => ∃ ps : List Rat, d = .list (ps.map dq) ∧ (ps = [1 / 2] ∨ ps = [1 / 3, 2 / 3])) (m := n + 2 * i + 1)
          (Rv.z (rv_call2 (a := laterOf c i a) (b := a.1) (ra_cons hl0 (ra_cons (rv_c0 (a := a) (rv_sl (i := 4) sl7 rfl)) ra_nil)) ⟨17, 14, hl2, hza, by decide⟩))
          (z_pick (sl7.getV (i := 0) rfl) ((Rv.z (Rv.ld (rv_lst (ds := [.list [dq (1 / 2)], .list [dq (1 / 3), dq (2 / 3)]]) (ra_cons (Rv.ld (rv_lst (ra_cons ((rv_tup (ra_cons rv_i (ra_cons rv_i ra_nil)) (by decide)).to dq_half.symm) ra_nil) (by simp))) (ra_cons (Rv.ld (rv_lst (ra_cons ((rv_tup (ra_cons rv_i (ra_cons rv_i ra_nil)) (by decide)).to dq_third.symm) (ra_cons ((rv_tup (ra_cons rv_i (ra_cons rv_i ra_nil)) (by decide)).to dq_third2.symm) ra_nil)) (by simp))) ra_nil)) (by simp)))).imp fun d e => ⟨_, e, by simp, by simp, fun e he => ?_⟩) (by omega)))
          fun ds ⟨d, e, h, _⟩ => by rw [h]; simp).imp fun d ⟨ds, e, d1, d2, e2, h1, h2⟩ => ⟨d1, d2, by rw [e, e2], h1, h2⟩) a7 fun d1 d2 σ8 G8 H8 h1 h2 g8 a8 sl8 => ?_
      · simp only [List.mem_cons, List.not_mem_nil, or_false] at he
        rcases he with q | q
        · exact ⟨[1 / 2], q, .inl rfl⟩
        · exact ⟨[1 / 3, 2 / 3], q, .inr rfl⟩
      subst h1
      obtain ⟨ps, rfl, hps⟩ := h2
      have ow8 := ow7.step g8 a8
      have e8 := Same.trans e7 g8.g
      have hpz : ∀ p ∈ ps, Sz 2 p := fun p hp => by
        rcases hps with q | q
        · rw [q] at hp
          rw [List.mem_singleton.mp hp]
          exact sz_half
        · rw [q] at hp
          simp only [List.mem_cons, List.not_mem_nil, or_false] at hp
          rcases hp with q | q
          · rw [q]; exact sz_third.1
          · rw [q]; exact sz_third.2
      have hpl : ps.length ≤ 2 ∧ 0 < ps.length := by
        rcases hps with q | q <;> rw [q] <;> decide
      -- the moments
      refine zq_set (Z := Z) (T := Y.T) (n := n + 2 * i + 1 + 1) (m := n + 2 * i + 1 + 1) (P := (· = .list (ps.map fun p => dq (a.1 + (laterOf c i a - a.1) * p)))) sl8 (Rv.z (Rv.ld (rv_lcNS (A := dq) (B := fun p : Rat => dq (a.1 + (laterOf c i a - a.1) * p)) sl8 (ri_list (rv_sl (i := 7) sl8 rfl)) (by omega) (by decide) fun p hp σ' G7 e7 sl7 => ?_))) a8 fun d σ9 G9b H9b g9 a9 hd9 sl9b => ?_
      · exact rv_call2 (a := a.1) (b := (laterOf c i a - a.1) * p) (ra_cons (rv_c0 (a := a) (rv_sl (i := 4) sl7 rfl)) (ra_cons (rv_call2 (a := laterOf c i a - a.1) (b := p) (ra_cons (rv_sl (i := 6) sl7 rfl) (ra_cons (rv_sl (i := 10) sl7 rfl) ra_nil)) ⟨32, 2, hgap, hpz p hp, by decide⟩) ra_nil)) ⟨14, 34, hza, hgap.mul (hpz p hp), by decide⟩
      subst hd9
      have ow9b := ow8.step g9 a9
      have e9b := Same.trans e8 g9.g
      -- or the middle
      refine zq_set (Z := Z) (T := Y.T) (n := n + 2 * i + 1 + 1) (m := n + 2 * i + 1 + 1) (P := fun d => ∃ ms : List Rat, d = .list (ms.map dq) ∧ Btw a (laterOf c i a) ms ∧ (∀ m ∈ ms, Sz 50 m) ∧ ms.length ≤ 2 ∧ 0 < ms.length) sl9b
        (z_if (B := fun _ => True) (m := n + 2 * i + 1 + 1) (zt_B (z_lt (z_max (ns := ps.map fun p => ((a.1 + (laterOf c i a - a.1) * p).den : Int)) (Rv.ld ?_) (by rw [List.length_map]; omega)) z_int))
          (fun _ => (Rv.z (rv_sl (i := 8) sl9b rfl)).imp fun d e => ⟨ps.map fun p => a.1 + (laterOf c i a - a.1) * p, by rw [e, List.map_map]; rfl, ?_, ?_, by rw [List.length_map]; omega, by rw [List.length_map]; omega⟩)
          (fun _ => (Rv.z (Rv.ld (rv_lst (ds := [dq ((a.1 + laterOf c i a) * (1 / 2))]) (ra_cons (rv_call2 (a := a.1) (b := laterOf c i a) (ra_cons (rv_c0 (a := a) (rv_sl (i := 4) sl9b rfl)) (ra_cons (rv_ixL (n := 0) (ds := dq (laterOf c i a) :: rl.map dq) (rv_sl (i := 5) sl9b rfl) rv_i (atI_nat (j := 0) rfl)) ra_nil)) ⟨hza.mono (by decide), hl2.mono (by decide)⟩) ra_nil) (by simp)))).imp fun d e => ⟨[(a.1 + laterOf c i a) * (1 / 2)], e, btw_mid hl1, fun m hm => ?_, by simp, by simp⟩)) a9 fun d σ10 G10 H10 g10 a10 hd10 sl10 => ?_
      · have h := rv_lcNS (T := Y.T) (K := K) (A := fun p : Rat => dq (a.1 + (laterOf c i a - a.1) * p)) (B := fun p : Rat => PyData.int ((a.1 + (laterOf c i a - a.1) * p).den : Int)) (xs := ps) (vs := [11]) (j := 11) (te := tOp (rIxT K) (tVar 11) (tC (.int 1))) sl9b (ri_list (rv_sl (i := 8) sl9b rfl)) (by omega) (by decide) fun p hp σ' G7 e7 sl7 => rv_den (q := a.1 + (laterOf c i a - a.1) * p) (rv_sl (i := 11) sl7 rfl)
        rw [List.map_map]
        exact h
      · rcases hps with q | q <;> subst q
        · exact btw_half hl1
        · exact btw_thirds hl1
      · intro m hm
        obtain ⟨p, hp, rfl⟩ := List.mem_map.mp hm
        exact (hza.add (hgap.mul (hpz p hp))).mono (by decide)
      · rw [List.mem_singleton.mp hm]
        exact ((hza.add hl2).mul sz_half).mono (by decide)
      obtain ⟨ms, rfl, hb, hmz, hml, hm0⟩ := hd10
      have ow10 := ow9b.step g10 a10
      have e10 := Same.trans e9b g10.g
      -- the rows
      refine zq_set (Z := Z) (T := Y.T) (n := n + 2 * i + 1 + 1) (m := n + 2 * i + 1 + 1) (P := (· = .list (ms.map fun m => dc (m, vl c m)))) sl10 (Rv.z (Rv.ld (rv_lcNS (A := dq) (B := fun m : Rat => dc (m, vl c m)) sl10 (ri_list (rv_sl (i := 8) sl10 rfl)) (by omega) (by decide) fun m hm σ' G7 e7 sl7 => ?_))) a10 fun d σ11 G11 H11 g11 a11 hd11 sl11 => ?_
      · exact rv_tup (ra_cons (rv_sl (i := 11) sl7 rfl) (ra_cons (rv_call2 (a := c) (b := m) (ra_cons (rv_sl (i := 1) sl7 rfl) (ra_cons (rv_sl (i := 11) sl7 rfl) ra_nil)) ⟨hfine, (hmz m hm).mono (by decide), fun b hb2 => by
          rw [hc.t.w.h0 b hb2]
          have := hb.lo m hm
          grind⟩) ra_nil)) (by simp)
      subst hd11
      have ow11 := ow10.step g11 a11
      have e11 := Same.trans e10 g11.g
      have hins := ins_of hc.t.w ha hl3 hb
      have hinz : ∀ x ∈ ms.map (fun m => (m, vl c m)), Sz 50 x.1 ∧ Sz 100 x.2 := fun x hx => by
        obtain ⟨m, hm, rfl⟩ := List.mem_map.mp hx
        exact ⟨hmz m hm, (hc.t.vl (by have := hb.lo m hm; grind) (hmz m hm)).mono (by decide)⟩
      refine zs_ext (Z := Z) (T := Y.T) (K := K) (m := n + 2 * i + 1 + 1) (Pa := fun es => ∃ ins : List Cn, es = ins.map dc ∧ Ins c.2 a (c.1.drop (i + 1)) ins ∧ ins.length ≤ 2 ∧ ∀ x ∈ ins, Sz 50 x.1 ∧ Sz 100 x.2) sl11 ow11 rfl
        (z_if (B := fun _ => True) (m := n + 2 * i + 1 + 1) (zt_B (z_lt (z_max (ns := ms.map fun m => ((vl c m).den : Int)) (Rv.ld ?_) (by rw [List.length_map]; omega)) z_int))
          (fun _ => (Rv.z (rv_sl (i := 9) sl11 rfl)).imp fun d e => ⟨_, e, ms.map (fun m => (m, vl c m)), by rw [List.map_map]; rfl, hins, by rw [List.length_map]; omega, hinz⟩)
          (fun _ => (Rv.z (Rv.ld (rv_lst (ds := []) ra_nil (by simp)))).imp fun d e => ⟨_, e, [], rfl, ins_nil, by decide, fun x h => by cases h⟩))
        (fun es ⟨ins, e, _, h, _⟩ => by rw [e, List.length_map, List.length_map, List.length_append]; simp only [List.length_cons, List.length_nil]; omega) fun es G12 H12 ⟨ins, e, h1, h2, h3⟩ ow12 sl12 e12 => ?_
      · have h := rv_lcPS (T := Y.T) (K := K) (A1 := fun m : Rat => dq m) (A2 := fun m : Rat => dq (vl c m)) (B := fun m : Rat => PyData.int ((vl c m).den : Int)) (xs := ms) (vs := [11, 13]) (i := 11) (j := 13) (te := tOp (rIxT K) (tVar 13) (tC (.int 1))) sl11 (ri_list (rv_sl (i := 9) sl11 rfl)) (by omega) (by decide) fun m hm σ' G7 e7 sl7 => rv_den (q := vl c m) (rv_sl (i := 13) sl7 rfl)
        rw [List.map_map]
        exact h
      subst e
      exact fin ins _ G12 H12 h1 (.inr ⟨hF, h2⟩) h3 (Same.trans e11 e12) ow12 ⟨_, _, _, _, _, _, _, _, _, _, _, sl12⟩
    · refine t_next ?_
      have ow6 := ow9'.step g6 (a6.up (m := n + 2 * (i + 1)) (by omega))
      exact fin [] _ G6 H6 ins_nil (.inl rfl) (fun x h => by cases h) (Same.trans e9' g6.g) (by rw [List.map_nil, List.append_nil]; exact ow6) ⟨_, _, _, _, _, _, _, _, _, _, _, sl9.mono g6.g⟩
  · obtain ⟨z3, z4, z5, z6, z7, z8, z9, z10, z11, z12, z13, out, ow4, e4, hmore, hlen, hsz, sl4⟩ := hI
    rw [enum_len] at ow4 hmore hlen
    obtain ⟨G5, g5, a5, e5, sl5⟩ := ow4.done (i := 2) sl4 rfl
    have a5 := a5.up (m := n + 40) (by omega)
    have hm : More c.2 c.1 out := by
      have := hmore [] (by rw [List.drop_length]; exact .nil)
      rw [List.append_nil] at this
      exact this
    refine zs_ret (P := (· = .list (out.map dc))) (m := n + 40) (Rv.z (rv_sl (i := 2) sl5 rfl)) a5 fun d v G' H' go a' hp hv => ?_
    exact k d v G' H' (g5.trans go) a' ⟨c, out, rfl, hp, hm, by have := hlen (Nat.le_refl _); omega, hsz⟩ hv
end
end Qw
namespace Qw
open PySem PySem.Spec PyProof.Rows L2 LamX Qk
section
variable {P : Program} {w : World} {K : PySem.W.Frag} {mg : Str → Option Value} {base : Heap}
/-- what is passed for a drawn curve -/
def PassedOf (c : Cv) (e : PyData) : Prop := ∃ cs, MoreOk c cs ∧ CurveOf (cs, c.2) e
def outPa : List PyData → PyData → Prop := fun ds d => ∃ c, ds = [dv c] ∧ PassedOf c d
abbrev s__law_c_passed : Stmt := topS 74
theorem sc__law_c_passed : FnScope ["_law_stream_here", "_law_curve"] ["_law_stream_here", "_law_curve"] (defScope s__law_c_passed) := ⟨rfl, rfl, rfl, by decide +kernel, rfl, by decide +kernel, by decide +kernel⟩
theorem ok__law_c_passed (Y : Tx K mg base) : FnOk P w K mg base CX0 10 Y.f__law_c_passed.a Y.f__law_c_passed.fd ["_law_stream_here", "_law_curve"] (SpZ Y.T K (fun _ => 1040) preMo outPa) := by
  refine Y.f__law_c_passed.F.ok sc__law_c_passed (fun vs H Q E h => spz_len (E := E) (pre := preMo) (a := 1) h fun ds hp => by obtain ⟨c, e, _⟩ := hp; rw [e]; rfl) (fun cdv A outer s H vs Q E hr h => ?_)
  obtain ⟨Z, G, n, us, ds, rfl, at_, hd, ⟨c, rfl, hc⟩, hn, k⟩ := h
  have sl := sl_startZ (N := ["_law_stream_here", "_law_curve"]) (u := .ref Z.s) hd (Nat.le_of_ble_eq_true rfl)
  have hn : n + 1040 ≤ countLim := hn
  refine ⟨_, (pss_one (ps_ret (pe_call (ok__law_c_raw Y) (hr.mono (by first | decide | omega)) (by rfl) Y.f__law_c_raw.g Y.f__law_c_raw.F.kp Y.f__law_c_raw.b .nil pass0 (pa_cons (pv 0) (pa_cons (pe_tup (pa_cons (pe_call (ok__law_c_more Y) (hr.mono (by first | decide | omega)) (by rfl) Y.f__law_c_more.g Y.f__law_c_more.F.kp Y.f__law_c_more.b .nil pass0 (pa_cons (pv 0) (pa_cons (pv 1) pa_nil))) (pa_cons (pe_ix ix_tup (pv 1) pe_int (fun _ _ => rfl)) pa_nil))) pa_nil))))), ?_⟩
  refine zs_ret (Z := Z) (T := Y.T) (P := PassedOf c) (m := n + 40 + 1000) (z_callZ (c := 1000) (m := n + 40) (sl.getV (i := 0) rfl) (za_1 (P := fun d => ∃ cs, d = dv (cs, c.2) ∧ MoreOk c cs) ((z_tup (za_2 (m := n + 40) (P := fun d => ∃ cs : List Cn, d = .list (cs.map dc) ∧ MoreOk c cs) (P1 := (· = dq c.2))
      (z_callZ (c := 40) (m := n) (Pa := (· = [dv c])) (sl.getV (i := 0) rfl) (Ra.z (ra_cons (rv_sl (i := 1) sl rfl) ra_nil)) (fun ds e => ⟨⟨c, e, hc⟩, Nat.le_refl _, fun d ⟨c', cs, h1, h2, h3⟩ => ⟨cs, h2, ?_⟩⟩) (by omega))
      (Rv.z (rv_v1 (a := c) (rv_sl (i := 1) sl rfl)))) (fun ds ⟨_, _, e, _⟩ => by rw [e]; simp)).imp fun d ⟨ds, e, d1, d2, e2, ⟨cs, e3, h⟩, e4⟩ => ⟨cs, by rw [e, e2, e3, e4]; rfl, h⟩)) (fun ds ⟨d, e, cs, e2, h⟩ => ⟨⟨(cs, c.2), by rw [e, e2], ⟨fun p hp => ⟨(h.sz p hp).1.mono (by decide), (h.sz p hp).2.mono (by decide)⟩, hc.t.s2.mono (by decide)⟩, by have := h.len; show cs.length ≤ 50; omega⟩, Nat.le_refl _, fun d' ⟨c', h1, h2⟩ => ⟨cs, h, ?_⟩⟩) (by omega)) at_ fun d v G' H' go a' hp hv => ?_
  · rw [e] at h1
    have : c = c' := dv_inj (List.cons.inj h1).1
    rw [this]
    exact h3
  · rw [e, e2] at h1
    have : (cs, c.2) = c' := dv_inj (List.cons.inj h1).1
    rw [this]
    exact h2
  · exact k d v G' H' go a' ⟨c, rfl, hp⟩ hv
end
/-! ### what is passed is a curve -/
theorem raw_facts {q : Rat} {e : PyData} (h : RawOf q e) : fracB e = true ∧ toldQ e = q ∧ isSeq e = true ∧ ∃ m : Int, 0 < m ∧ m ≤ 3 ∧ numD (nthD e 0) = q.num * m ∧ numD (nthD e 1) = (q.den : Int) * m := by
  obtain ⟨m, hm, h⟩ := h
  have hd := q_den_pos q
  have h0 : 0 < (q.den : Int) * m := Int.mul_pos hd (by omega)
  have key : ∀ e : PyData, isSeq e = true → itemsD e = [.int (q.num * m), .int ((q.den : Int) * m)] → fracB e = true ∧ toldQ e = q ∧ isSeq e = true ∧ ∃ m : Int, 0 < m ∧ m ≤ 3 ∧ numD (nthD e 0) = q.num * m ∧ numD (nthD e 1) = (q.den : Int) * m := fun e hs hi => by
    have n0 : nthD e 0 = .int (q.num * m) := by unfold nthD; rw [hi]; rfl
    have n1 : nthD e 1 = .int ((q.den : Int) * m) := by unfold nthD; rw [hi]; rfl
    refine ⟨?_, ?_, hs, m, by omega, by omega, by rw [n0]; rfl, by rw [n1]; rfl⟩
    · unfold fracB
      rw [hs, hi, n0, n1]
      have : decide (1 ≤ (q.den : Int) * m) = true := decide_eq_true (by omega)
      show (true && (true && (true && decide (1 ≤ (q.den : Int) * m)))) = true
      rw [this]
      rfl
    · unfold toldQ
      rw [n0, n1]
      show Rat.divInt (q.num * m) ((q.den : Int) * m) = q
      rw [Rat.divInt_mul_right (by omega), Rat.num_divInt_den]
  rcases h with e | e <;> subst e <;> exact key _ rfl rfl
theorem raw_small_ {q : Rat} {e : PyData} (h : RawOf q e) (hz : Sz 198 q) : smallD e = true := by
  obtain ⟨m, hm, h⟩ := h
  have hmn : ∀ x : Int, x.natAbs < 2 ^ 198 → (x * m).natAbs < 2 ^ 200 := fun x hx => by
    rw [Int.natAbs_mul]
    have : m.natAbs ≤ 3 := by omega
    have h2 : x.natAbs * m.natAbs ≤ x.natAbs * 3 := Nat.mul_le_mul_left _ this
    omega
  have h1 := hmn _ hz.one
  have h2 := hmn _ hz.den
  have key : smallAll [.int (q.num * m), .int ((q.den : Int) * m)] = true := by
    show (decide ((q.num * m).natAbs < 2 ^ 200) && (decide (((q.den : Int) * m).natAbs < 2 ^ 200) && true)) = true
    rw [decide_eq_true h1, decide_eq_true h2]
    rfl
  rcases h with e | e <;> subst e <;> exact key
theorem loose_raw {q : Rat} {e e' : PyData} (h : RawOf q e) (l : Loose e e') : RawOf q e' := by
  obtain ⟨m, hm, h⟩ := h
  refine ⟨m, hm, ?_⟩
  have key : ∀ es, LooseAll [.int (q.num * m), .int ((q.den : Int) * m)] es → es = [.int (q.num * m), .int ((q.den : Int) * m)] := fun es h => looseAll_ints (xs := [q.num * m, (q.den : Int) * m]) h
  rcases h with e | e <;> subst e
  · cases l with
    | ll h => exact .inl (by rw [key _ h])
    | lt h => exact .inr (by rw [key _ h])
  · cases l with
    | tl h => exact .inl (by rw [key _ h])
    | tt h => exact .inr (by rw [key _ h])
def RowOf' (c : Cn) (e : PyData) : Prop := isSeq e = true ∧ ∃ a b, itemsD e = [a, b] ∧ RawOf c.1 a ∧ RawOf c.2 b
theorem loose_two {d1 d2 e : PyData} (l : Loose (.list [d1, d2]) e) : isSeq e = true ∧ ∃ a b, itemsD e = [a, b] ∧ Loose d1 a ∧ Loose d2 b := by
  have key : ∀ es, LooseAll [d1, d2] es → ∃ a b, es = [a, b] ∧ Loose d1 a ∧ Loose d2 b := fun es h => by
    cases h with
    | cons h1 t =>
      cases t with
      | cons h2 t =>
        cases t
        exact ⟨_, _, rfl, h1, h2⟩
  cases l with
  | ll h => exact ⟨rfl, key _ h⟩
  | lt h => exact ⟨rfl, key _ h⟩
theorem loose_row {c : Cn} {e e' : PyData} (h : RowOf c e) (l : Loose e e') : RowOf' c e' := by
  obtain ⟨a, b, rfl, ha, hb⟩ := h
  obtain ⟨h1, a', b', h2, l1, l2⟩ := loose_two l
  exact ⟨h1, a', b', h2, loose_raw ha l1, loose_raw hb l2⟩
theorem loose_rows : ∀ {cs : List Cn} {rows es : List PyData}, All2 RowOf cs rows → LooseAll rows es → All2 RowOf' cs es
  | _, _, _, .nil, h => by cases h; exact .nil
  | _, _, _, .cons h t, l => by
    cases l with
    | cons l1 l2 => exact .cons (loose_row h l1) (loose_rows t l2)
structure PassIs (c : Cv) (e : PyData) : Prop where
  s : isSeq e = true
  ex : ∃ A r, itemsD e = [A, r] ∧ isSeq A = true ∧ All2 RowOf' c.1 (itemsD A) ∧ RawOf c.2 r
theorem pass_is {c : Cv} {e : PyData} (h : CurveOf c e) : PassIs c e := by
  obtain ⟨rows, r, h1, h2, h3⟩ := h
  obtain ⟨q1, A, r', q2, l1, l2⟩ := loose_two h3
  refine ⟨q1, A, r', q2, ?_, ?_, loose_raw h2 l2⟩
  · cases l1 <;> rfl
  · cases l1 with
    | ll l => exact loose_rows h1 l
    | lt l => exact loose_rows h1 l
theorem row_facts {c : Cn} {e : PyData} (h : RowOf' c e) : cornB e = true ∧ toldC e = c ∧ RawOf c.1 (nthD e 0) ∧ RawOf c.2 (nthD e 1) := by
  obtain ⟨hs, a, b, hi, ha, hb⟩ := h
  have n0 : nthD e 0 = a := by unfold nthD; rw [hi]; rfl
  have n1 : nthD e 1 = b := by unfold nthD; rw [hi]; rfl
  obtain ⟨a1, a2, _⟩ := raw_facts ha
  obtain ⟨b1, b2, _⟩ := raw_facts hb
  refine ⟨?_, ?_, by rw [n0]; exact ha, by rw [n1]; exact hb⟩
  · unfold cornB
    rw [hs, hi, n0, n1, a1, b1]
    rfl
  · unfold toldC
    rw [n0, n1, a2, b2]
theorem row_small_ {c : Cn} {e : PyData} (h : RowOf' c e) (h1 : Sz 198 c.1) (h2 : Sz 198 c.2) : smallD e = true := by
  obtain ⟨hs, a, b, hi, ha, hb⟩ := h
  have key : smallAll [a, b] = true := by
    show (smallD a && (smallD b && true)) = true
    rw [raw_small_ ha h1, raw_small_ hb h2]
    rfl
  cases e with
  | list ds =>
    have hi : ds = [a, b] := hi
    rw [hi]
    exact key
  | tuple ds =>
    have hi : ds = [a, b] := hi
    rw [hi]
    exact key
  | _ => cases hs
theorem below_raw {p q : Rat} {x y : PyData} (hx : RawOf p x) (hy : RawOf q y) (h : p < q) : belowB x y = true := by
  obtain ⟨_, _, _, m, m0, m3, x0, x1⟩ := raw_facts hx
  obtain ⟨_, _, _, k, k0, k3, y0, y1⟩ := raw_facts hy
  unfold belowB
  rw [x0, x1, y0, y1]
  refine decide_eq_true ?_
  have h := (q_lt p q).mp h
  have e1 : p.num * m * ((q.den : Int) * k) = p.num * (q.den : Int) * (m * k) := by
    rw [Int.mul_assoc, Int.mul_assoc, Int.mul_left_comm m]
  have e2 : q.num * k * ((p.den : Int) * m) = q.num * (p.den : Int) * (m * k) := by
    rw [Int.mul_assoc, Int.mul_assoc, Int.mul_left_comm k, Int.mul_comm k m]
  rw [e1, e2]
  exact Int.mul_lt_mul_of_pos_right h (Int.mul_pos m0 k0)
theorem rows_facts : ∀ {cs : List Cn} {es : List PyData}, All2 RowOf' cs es → (∀ x ∈ cs, Sz 198 x.1 ∧ Sz 198 x.2) → es.length = cs.length ∧ es.map toldC = cs ∧ (es.map cornB).all id = true ∧ smallAll es = true
  | _, _, .nil, _ => ⟨rfl, rfl, rfl, rfl⟩
  | _, _, .cons (a := c) (b := e) (as := cs) (bs := es) h t, hz => by
    obtain ⟨i1, i2, i3, i4⟩ := rows_facts t fun x hx => hz x (List.mem_cons_of_mem _ hx)
    obtain ⟨r1, r2, _⟩ := row_facts h
    have hs := row_small_ h (hz c (by simp)).1 (hz c (by simp)).2
    refine ⟨by simp [i1], by simp [i2, r2], ?_, ?_⟩
    · rw [List.map_cons, List.all_cons, i3, r1]
      rfl
    · show (smallD e && smallAll es) = true
      rw [hs, i4]
      rfl
theorem rows_up : ∀ {cs : List Cn} {es : List PyData}, All2 RowOf' cs es → Up cs → (List.zipWith (fun a b => belowB (nthD a 0) (nthD b 0)) es (es.drop 1)).all id = true
  | _, _, .nil, _ => rfl
  | _, _, .cons h .nil, _ => rfl
  | _, _, .cons (a := c) (b := e) h (.cons (a := c2) (b := e2) (as := cs) (bs := es) h2 t), hu => by
    have ih := rows_up (.cons h2 t) hu.2
    have hb := below_raw (row_facts h).2.2.1 (row_facts h2).2.2.1 hu.1
    show (belowB (nthD e 0) (nthD e2 0) && (List.zipWith (fun a b => belowB (nthD a 0) (nthD b 0)) (e2 :: es) ((e2 :: es).drop 1)).all id) = true
    rw [hb, ih]
    rfl
theorem seq_small {e : PyData} (hs : isSeq e = true) (h : smallAll (itemsD e) = true) : smallD e = true := by
  cases e with
  | list ds => exact h
  | tuple ds => exact h
  | _ => cases hs
/-- what is passed is a curve thing, and is told as these corners -/
theorem passed_facts {c : Cv} {e : PyData} (h : CurveOf c e) (hw : WF c) (hz : ∀ x ∈ c.1, Sz 198 x.1 ∧ Sz 198 x.2) (h2 : Sz 198 c.2) (hl : c.1.length ≤ 1000) : curvB e = true ∧ Mild e ∧ toldV e = c := by
  obtain ⟨hs, A, r, hi, hA, hrows, hr⟩ := pass_is h
  obtain ⟨i1, i2, i3, i4⟩ := rows_facts hrows hz
  obtain ⟨r1, r2, _⟩ := raw_facts hr
  have n0 : nthD e 0 = A := by unfold nthD; rw [hi]; rfl
  have n1 : nthD e 1 = r := by unfold nthD; rw [hi]; rfl
  have hne : (itemsD A).length ≠ 0 := by
    rw [i1]
    intro z
    exact hw.ne (List.length_eq_zero_iff.mp z)
  refine ⟨?_, ⟨seq_small hs ?_, by rw [n0, i1]; exact hl⟩, ?_⟩
  · have c1 : noCurve1 e = false := by
      unfold noCurve1
      rw [hs, n0, n1, hA, r1, hi]
      rfl
    have hz0 : nthD (nthD (nthD A 0) 0) 0 = .int 0 := by
      obtain ⟨c0, cr, ec⟩ := cons_of hw
      rw [ec] at hrows
      cases eA : itemsD A with
      | nil => rw [eA] at hne; exact absurd rfl hne
      | cons e0 er =>
        rw [eA] at hrows
        cases hrows with
        | cons q t =>
          have e1 : nthD A 0 = e0 := by unfold nthD; rw [eA]; rfl
          rw [e1]
          have hr0 := (row_facts q).2.2.1
          obtain ⟨m, hm, hh⟩ := hr0
          have z : (0 : Rat).num * m = 0 := by simp
          rcases hh with hh | hh <;> rw [hh] <;> unfold nthD <;> show PyData.int ((0 : Rat).num * m) = _ <;> rw [z]
    have c2 : noCurve2 e = false := by
      unfold noCurve2
      rw [n0, i3, hz0]
      have : decide (((itemsD A).length : Int) = 0) = false := decide_eq_false (by omega)
      rw [this]
      rfl
    unfold curvB
    rw [c1, c2]
    show lastB e = true
    unfold lastB
    rw [n0]
    exact rows_up hrows hw.up
  · rw [hi]
    show (smallD A && (smallD r && true)) = true
    rw [seq_small hA i4, raw_small_ hr h2]
    rfl
  · unfold toldV
    rw [n0, n1, i2, r2]
/-- all of what is passed for a drawn curve -/
structure Passed (c : Cv) (e : PyData) : Prop where
  b : curvB e = true
  m : Mild e
  v : tv e = c
  s : SlOk (toldV e).1
theorem passed_ok {c : Cv} {e : PyData} (hc : Drawn c) (h : PassedOf c e) : Passed c e := by
  obtain ⟨cs, hm, hp⟩ := h
  obtain ⟨e1, e2, e3, e4⟩ := more_normal hc.t.w hc.p hm.m
  have hl := hm.len
  obtain ⟨f1, f2, f3⟩ := passed_facts hp ⟨e2, e3, e4⟩ (fun x hx => ⟨(hm.sz x hx).1.mono (by decide), (hm.sz x hx).2.mono (by decide)⟩) (hc.t.s2.mono (by decide)) (by show cs.length ≤ 1000; omega)
  refine ⟨f1, f2, ?_, ?_⟩
  · unfold tv
    rw [f3]
    exact e1
  · rw [f3]
    exact slOk_of e2 e3 (by show cs.length ≤ 1000; omega) (fun x hx => (hm.sz x hx).1.mono (by decide)) (fun x hx => (hm.sz x hx).2.mono (by decide))
end Qw
namespace Qw
open PySem PySem.Spec PyProof.Rows L2 LamX Qk
section
variable {a b s L k n : Nat} {c x y f g : Cv} {m : Rat}
theorem mem_allMo {l : List Cv} {q : Rat} (h : q ∈ allMo l) : q ∈ momsOf l := mem_srt.mpr h
theorem slOk_sum {x y : Cv} {F : Rat → Rat} (hx : WF x) (hm : ∀ m ∈ momsOf [x, y, line 0], Sz 1500 m ∧ Sz 2100 (F m)) (hl : x.1.length + y.1.length + 1 ≤ 1000) : SlOk ((momsOf [x, y, line 0]).map fun m => (m, F m)) := by
  refine slOk_of ?_ (up_map (asc_srt _)) ?_ (fun z hz => ?_) (fun z hz => ?_)
  · intro e
    have h0 : (0 : Rat) ∈ momsOf [x, y, line 0] := mem_momsOf.mpr ⟨x, by simp, wf_zero hx⟩
    have e := List.map_eq_nil_iff.mp e
    rw [e] at h0
    cases h0
  · rw [List.length_map]
    have := momsOf_len3 (x := x) (y := y)
    omega
  · obtain ⟨m, hm2, e⟩ := List.mem_map.mp hz
    rw [← e]
    exact (hm m hm2).1
  · obtain ⟨m, hm2, e⟩ := List.mem_map.mp hz
    rw [← e]
    exact (hm m hm2).2
theorem sumOkL (hy : Tr a b s L y) (hk : Sz k m) (h1 : a ≤ 1500) (h2 : k + a + b + 1 ≤ 2100) (h3 : k + s ≤ 200) (h4 : L ≤ 300) (h5 : 1 ≤ s) : SumOk (line m) y := by
  have hl := hy.len
  have g := line_grid hy hk
  refine ⟨((line_tr hk).cs (by decide)).mono (by decide) (by decide) (by omega), (hy.cs (by omega)).mono h1 (by omega) (by omega), ⟨?_, fun q hq => (g q (.inl (mem_allMo hq))).1.mono h1⟩, fun z hz => ⟨(g z (.inl hz)).2.1.mono (by omega), (g z (.inl hz)).2.2.mono (by omega)⟩, hk.mono (by omega), hy.s2.mono (by omega), ?_⟩
  · have e : (allMo [line m, y, line 0]).length = 1 + (y.1.length + 1) := by
      simp [allMo, List.flatMap, moms, line]
      omega
    omega
  · exact slOk_sum (F := fun z => vl (line m) z + vl y z) (wf_line m) (fun z hz => ⟨(g z (.inl hz)).1.mono h1, ((g z (.inl hz)).2.1.add (g z (.inl hz)).2.2).mono (by omega)⟩) (by show 1 + y.1.length + 1 ≤ 1000; omega)
theorem sumOkR (hy : Tr a b s L y) (hk : Sz k m) (h1 : a ≤ 1500) (h2 : k + a + b + 1 ≤ 2100) (h3 : k + s ≤ 200) (h4 : L ≤ 300) (h5 : 1 ≤ s) : SumOk y (line m) := by
  have hl := hy.len
  have g := line_grid hy hk
  refine ⟨(hy.cs (by omega)).mono h1 (by omega) (by omega), ((line_tr hk).cs (by decide)).mono (by decide) (by decide) (by omega), ⟨?_, fun q hq => (g q (.inr (mem_allMo hq))).1.mono h1⟩, fun z hz => ⟨(g z (.inr hz)).2.2.mono (by omega), (g z (.inr hz)).2.1.mono (by omega)⟩, hy.s2.mono (by omega), hk.mono (by omega), ?_⟩
  · have e : (allMo [y, line m, line 0]).length = y.1.length + (1 + 1) := by simp [allMo, List.flatMap, moms, line]
    omega
  · exact slOk_sum (F := fun z => vl y z + vl (line m) z) hy.w (fun z hz => ⟨(g z (.inr hz)).1.mono h1, ((g z (.inr hz)).2.2.add (g z (.inr hz)).2.1).mono (by omega)⟩) (by show y.1.length + 1 + 1 ≤ 1000; omega)
theorem sz_m1 : Sz 1 (-1) := ⟨by decide, by decide⟩
theorem manyOk_ (hy : Tr a b s L y) (h1 : a ≤ 1500) (h2 : b ≤ 2100) (h3 : s ≤ 200) (h4 : L ≤ 1000) : ManyOk (-1) y := by
  refine ⟨slOk_of ?_ (up_scale hy.w.up) (by rw [List.length_map]; exact Nat.le_trans hy.len h4) (fun z hz => ?_) (fun z hz => ?_), fun u hu => ⟨1, 2100, sz_m1, (hy.wo u hu).mono h2, by decide⟩, ⟨1, 200, sz_m1, hy.s2.mono h3, by decide⟩⟩
  · intro e
    exact hy.w.ne (List.map_eq_nil_iff.mp e)
  · obtain ⟨u, hu, e⟩ := List.mem_map.mp hz
    rw [← e]
    exact (hy.mo u hu).mono h1
  · obtain ⟨u, hu, e⟩ := List.mem_map.mp hz
    rw [← e]
    show Sz 2100 ((-1) * u.2)
    rw [show (-1) * u.2 = -u.2 from by grind]
    exact ((hy.wo u hu).mono h2).neg
theorem apartOkL (hy : Tr a b s L y) (hk : Sz k m) (h1 : a ≤ 1500) (h2 : k + a + b + 1 ≤ 2100) (h3 : k + s ≤ 200) (h4 : L ≤ 300) (h5 : 1 ≤ s) : ApartOk (line m) y :=
  ⟨manyOk_ hy h1 (by omega) (by omega) (by omega), sumOkL (many_tr hy) hk h1 h2 h3 h4 h5⟩
theorem apartOkR (hy : Tr a b s L y) (hk : Sz k m) (h1 : a ≤ 1500) (h2 : k + a + b + 1 ≤ 2100) (h3 : k + s ≤ 200) (h4 : L ≤ 300) (h5 : 1 ≤ s) : ApartOk y (line m) :=
  ⟨manyOk_ (line_tr hk) (by decide) (by decide) (by omega) (by decide), by rw [many_line]; exact sumOkR hy hk.neg h1 h2 h3 h4 h5⟩
/-- the numbers -/
structure Nums (a b s L k : Nat) : Prop where
  h1 : bA a b s k ≤ 1500
  h2 : bB (bA a b s k) (bB a b k) k ≤ 2100
  h3 : bS s k + k ≤ 200
  h4 : 2 * (L + 2) ≤ 300
  h5 : 1 ≤ s
theorem backOk_ (h : Tr a b s L c) (hk : Sz k m) (N : Nums a b s L k) : BackOk c m := by
  obtain ⟨h1, h2, h3, h4, h5⟩ := N
  simp only [bA, bB, bS, mA] at h1 h2 h3 h4
  have t1 := apartL_tr h hk
  obtain ⟨t2, q1, q2, q3, q4⟩ := nf_tr t1 (by omega)
  exact ⟨apartOkL h hk (by omega) (by omega) (by omega) (by omega) h5, (t1.cs (by omega)).mono (by omega) (by omega) (by omega),
    slOk_of q3 q4 (by omega) (fun x hx => (q1 x hx).1.mono (by omega)) (fun x hx => (q1 x hx).2.mono (by omega)), apartOkL t2 hk (by omega) (by omega) (by omega) (by omega) (by omega)⟩
theorem aheadOk_ (h : Tr a b s L c) (hk : Sz k m) (N : Nums a b s L k) : AheadOk c m := by
  obtain ⟨h1, h2, h3, h4, h5⟩ := N
  simp only [bA, bB, bS, mA] at h1 h2 h3 h4
  have t1 := apartR_tr h hk
  have e2 := (apart_ok h.w (wf_line m)).2.2.2.2
  refine ⟨⟨k, s, hk, h.s2, by omega⟩, fun _ => apartOkR h hk (by omega) (by omega) (by omega) (by omega) h5, fun _ => (t1.cs (by omega)).mono (by omega) (by omega) (by omega), fun hm => ?_, fun hm => ?_⟩
  · obtain ⟨t2, q1, q2, q3, q4⟩ := lt_tr t1 (by omega) (by rw [e2]; show c.2 - m ≤ 0; grind)
    exact slOk_of q3 q4 (by omega) (fun x hx => (q1 x hx).1.mono (by omega)) (fun x hx => (q1 x hx).2.mono (by omega))
  · obtain ⟨t2, q1, q2, q3, q4⟩ := lt_tr t1 (by omega) (by rw [e2]; show c.2 - m ≤ 0; grind)
    exact sumOkL t2 hk (by omega) (by omega) (by omega) (by omega) (by omega)
/-- a found curve may be looked at beside a drawn one -/
theorem lookOk_ {a' b' s' L' A : Nat} (hc : Tr a b s L c) (hf : Tr a' b' s' L' f) (hp : Plain f) (h1 : a ≤ A) (h2 : a' ≤ A) (h3 : A + 2 ≤ 1500) (hb : b ≤ 2100) (hb' : b' ≤ 2100) (hs : s ≤ 200) (hs' : s' ≤ 200) (hL : L' + L ≤ 400) (hsum : b + s + A + a + (b' + s' + A + a') + 20 ≤ 9000) : LookOk f c := by
  have hmo : ∀ m ∈ momsOf [f, c], Sz A m := fun m hm => by
    obtain ⟨d, hd, e⟩ := mem_momsOf.mp hm
    simp only [List.mem_cons, List.not_mem_nil, or_false] at hd
    obtain ⟨u, hu, e2⟩ := List.mem_map.mp e
    rw [← e2]
    rcases hd with z | z <;> subst z
    · exact (hf.mo u hu).mono h2
    · exact (hc.mo u hu).mono h1
  have hall : ∀ m ∈ momsOf [f, c] ++ nexts (momsOf [f, c]), Sz (A + 2) m ∧ 0 ≤ m := fun m hm => by
    refine ⟨?_, ?_⟩
    · rcases List.mem_append.mp hm with z | z
      · exact (hmo m z).mono (by omega)
      · rcases List.mem_append.mp z with z | z
        · exact (hmo m (List.mem_of_mem_drop z)).mono (by omega)
        · have e : m = (momsOf [f, c]).getLast?.getD 0 + 1 := by simpa using z
          rw [e]
          cases q : (momsOf [f, c]).getLast? with
          | none =>
            show Sz (A + 2) ((0 : Rat) + 1)
            rw [show (0 : Rat) + 1 = 1 from by grind]
            exact sz_one.mono (by omega)
          | some w => exact ((hmo w (List.mem_of_getLast? q)).add sz_one).mono (by omega)
    · rcases List.mem_append.mp hm with z | z
      · exact moms_pos hf.w hc.w m z
      · exact mem_nexts (asc_srt _) (moms_pos hf.w hc.w) m z
  have l1 := hc.len
  have l2 := hf.len
  refine ⟨hf.w, hc.w, hp, (hf.cs (by omega)).mono (by omega) hb' hs', (hc.cs (by omega)).mono (by omega) hb hs, ⟨?_, fun q hq => (hmo q (mem_allMo hq)).mono (by omega)⟩, fun m hm => ?_⟩
  · have e : (allMo [f, c]).length = f.1.length + c.1.length := by simp [allMo, List.flatMap, moms]
    omega
  · obtain ⟨z1, z2⟩ := hall m hm
    exact ⟨z1.mono (by omega), _, _, hc.vl z2 z1, hf.vl z2 z1, by omega⟩
theorem mostOk_ {a' b' s' L' : Nat} (hc : Tr a b s L c) (hf : Tr a' b' s' L' f) (hm : Sz k m) (h1 : s ≤ 4500) (h2 : s' ≤ 4500) (h3 : k ≤ 1000) : MostOk f c m := by
  refine ⟨hm.mono h3, fun w hw => ?_, hc.s2.mono h1⟩
  obtain ⟨p, q, h0, hpq, e, _⟩ := (stretches hf.w hc.w w hw).ex
  rw [e]
  exact (hf.sl p h0).mono h2
end
/-! ### all that the law's calls ask, for a drawn curve -/
theorem nums1 : Nums 14 14 15 12 15 := ⟨by decide, by decide, by decide, by decide, by decide⟩
theorem nums2 : Nums 135 195 15 30 15 := ⟨by decide, by decide, by decide, by decide, by decide⟩
section
variable {c : Cv} {m m2 : Rat}
theorem back_t (hc : Drawn c) (hm : Sz 15 m) : Tr 135 195 15 30 (back c m) := back_tr hc.t hm (by decide) (by decide)
theorem back_t2 (hc : Drawn c) (hm : Sz 15 m) (hm2 : Sz 15 m2) : Tr 860 1222 15 66 (back (back c m) m2) := back_tr (back_t hc hm) hm2 (by decide) (by decide)
structure HeldAll (c : Cv) (m : Rat) : Prop where
  o : BackOk c m
  l : LookOk (back c m) c
  h : Held (back c m) c m
  m : MostOk (back c m) c m
theorem held_all (hc : Drawn c) (hm : Sz 15 m) : HeldAll c m := by
  obtain ⟨w, p, h⟩ := back_ok (m := m) hc.t.w
  exact ⟨backOk_ hc.t hm nums1, lookOk_ (A := 135) hc.t (back_t hc hm) p (by decide) (by decide) (by decide) (by decide) (by decide) (by decide) (by decide) (by decide) (by decide), h, mostOk_ hc.t (back_t hc hm) hm (by decide) (by decide) (by decide)⟩
theorem rmin_sz {n : Nat} {p q : Rat} (hp : Sz n p) (hq : Sz n q) : Sz n (if q < p then q else p) := by
  split
  · exact hq
  · exact hp
structure Held2 (c : Cv) (m m2 : Rat) : Prop where
  o : BackOk (back c m) m2
  l : LookOk (back (back c m) m2) c
  h : Held (back (back c m) m2) c (if m2 < m then m2 else m)
  m : MostOk (back (back c m) m2) c (if m2 < m then m2 else m)
theorem held2_all (hc : Drawn c) (hm : Sz 15 m) (hm2 : Sz 15 m2) : Held2 c m m2 := by
  obtain ⟨w, p, h⟩ := back_ok (m := m) hc.t.w
  obtain ⟨w2, p2, h2⟩ := back_ok (m := m2) w
  exact ⟨backOk_ (back_t hc hm) hm2 nums2, lookOk_ (A := 860) hc.t (back_t2 hc hm hm2) p2 (by decide) (by decide) (by decide) (by decide) (by decide) (by decide) (by decide) (by decide) (by decide), held_two w w2 h h2, mostOk_ hc.t (back_t2 hc hm hm2) (rmin_sz hm hm2) (by decide) (by decide) (by decide)⟩
theorem risen_all (hc : Drawn c) : LookOk (neverFalling c) c ∧ Risen (neverFalling c) c ∧ Fine c ∧ SlOk (nf ((c.1.head?.getD (0, 0)).2) c.1 c.2) := by
  obtain ⟨w, p, h⟩ := risen_ok hc.t.w
  obtain ⟨t, q1, q2, q3, q4⟩ := nf_tr hc.t (by decide)
  exact ⟨lookOk_ (A := 59) hc.t t p (by decide) (by decide) (by decide) (by decide) (by decide) (by decide) (by decide) (by decide) (by decide), h, (hc.t.cs (by decide)).mono (by decide) (by decide) (by decide), slOk_of q3 q4 (by omega) (fun x hx => (q1 x hx).1.mono (by decide)) (fun x hx => (q1 x hx).2.mono (by decide))⟩
structure PushedAll (c : Cv) (m : Rat) (f : Cv) : Prop where
  e : Qk.ahead c m = some f
  l : LookOk f c
  h : Pushed f c m
  m : MostOk f c m
  r : ∀ w, (rows f c (momsOf [f, c])).getLast? = some w → w.1 = 0 ∧ w.2.1 = 0
theorem pushed_all (hc : Drawn c) (hm : Sz 15 m) (hn : ¬ m < c.2) : ∃ f, PushedAll c m f := by
  obtain ⟨f, e, w, p, h⟩ := ahead_ok (m := m) hc.t.w hn
  have t := ahead_tr (n := 15) hc.t hm hn (by decide) (by decide)
  have e2 : Qk.ahead c m = some (summed (line m) (laterTops (apart c (line m)))) := by
    unfold Qk.ahead
    rw [if_neg hn]
  rw [e] at e2
  cases e2
  exact ⟨_, e, lookOk_ (A := 135) hc.t t p (by decide) (by decide) (by decide) (by decide) (by decide) (by decide) (by decide) (by decide) (by decide), h, mostOk_ hc.t t hm (by decide) (by decide) (by decide), pushed_last w hc.t.w h (fun _ _ => ⟨rfl, rfl⟩) rfl⟩
theorem aheadOk_all (hc : Drawn c) (hm : Sz 15 m) : AheadOk c m := aheadOk_ hc.t hm nums1
theorem ahead_none (hn : m < c.2) : Qk.ahead c m = none := by
  unfold Qk.ahead
  rw [if_pos hn]
end
/-! ### a curve told is passed as it is -/
theorem loose_refl_q (q : Rat) : Loose (.tuple [.int (q.num * 1), .int ((q.den : Int) * 1)]) (dq q) := by
  rw [Int.mul_one, Int.mul_one]
  exact .tt (.cons (.int _) (.cons (.int _) .nil))
theorem raw_self (q : Rat) : RawOf q (dq q) := ⟨1, .inl rfl, .inr (by rw [Int.mul_one, Int.mul_one]; rfl)⟩
theorem loose_dq (q : Rat) : Loose (dq q) (dq q) := .tt (.cons (.int _) (.cons (.int _) .nil))
theorem rows_self : ∀ cs : List Cn, All2 RowOf cs (cs.map fun c => .list [dq c.1, dq c.2]) ∧ LooseAll (cs.map fun c => .list [dq c.1, dq c.2]) (cs.map dc)
  | [] => ⟨.nil, .nil⟩
  | c :: r => ⟨.cons ⟨_, _, rfl, raw_self _, raw_self _⟩ (rows_self r).1, .cons (.lt (.cons (loose_dq _) (.cons (loose_dq _) .nil))) (rows_self r).2⟩
theorem curve_self (c : Cv) : CurveOf c (dv c) := ⟨_, _, (rows_self c.1).1, raw_self c.2, .lt (.cons (.ll (rows_self c.1).2) (.cons (loose_dq _) .nil))⟩
theorem passed_self {c : Cv} {a b s L : Nat} (h : Tr a b s L c) (hp : Plain c) (h1 : a ≤ 198) (h2 : b ≤ 198) (h3 : s ≤ 198) (h4 : L ≤ 1000) : Passed c (dv c) := by
  have hl := h.len
  obtain ⟨f1, f2, f3⟩ := passed_facts (curve_self c) h.w (fun x hx => ⟨(h.mo x hx).mono h1, (h.wo x hx).mono h2⟩) (h.s2.mono h3) (by omega)
  refine ⟨f1, f2, ?_, ?_⟩
  · unfold tv
    rw [f3]
    unfold normal
    rw [show nrm none c.1 c.2 = c.1 from hp]
  · rw [f3]
    exact slOk_of h.w.ne h.w.up (by omega) (fun x hx => (h.mo x hx).mono (by omega)) (fun x hx => (h.wo x hx).mono (by omega))
end Qw
namespace Qw
open PySem PySem.Spec PyProof.Rows L2 LamX Qk
/-! ### the text of data: how wide, how deep -/
mutual
inductive Wd : PyData → Nat → Nat → Prop
  | none {k : Nat} : Wd .none 4 k
  | int {i : Int} {k : Nat} : i.natAbs < 2 ^ 200 → Wd (.int i) 201 k
  | list {ds : List PyData} {n k : Nat} : WdAll ds n k → Wd (.list ds) (n + 3) (k + 1)
  | tuple {ds : List PyData} {n k : Nat} : WdAll ds n k → Wd (.tuple ds) (n + 3) (k + 1)
inductive WdAll : List PyData → Nat → Nat → Prop
  | nil {k : Nat} : WdAll [] 0 k
  | cons {d : PyData} {ds : List PyData} {a b k : Nat} : Wd d a k → WdAll ds b k → WdAll (d :: ds) (a + 2 + b) k
end
theorem textFrom_le : ∀ (ts : List Str) (k : Nat) (acc : Str), (textFrom k acc ts).length ≤ acc.length + piled ts
  | [], k, acc => Nat.le_add_right _ _
  | t :: r, k, acc => by
    have h := textFrom_le r (k + 1) (acc ++ (if k > 0 then ", " else "" : String) ++ t)
    have e : (acc ++ (if k > 0 then ", " else "" : String) ++ t).length ≤ acc.length + 2 + t.length := by
      rw [strLen_append, strLen_append]
      have : (Str.ofString (if k > 0 then ", " else "" : String)).length ≤ 2 := by
        split <;> decide
      omega
    rw [piled_cons]
    show (textFrom (k + 1) (acc ++ (if k > 0 then ", " else "" : String) ++ t) r).length ≤ _
    omega
theorem listText_le (ts : List Str) : (listText ts).length ≤ piled ts + 2 := by
  unfold listText
  rw [strLen_append]
  have h := textFrom_le ts 0 "["
  have e1 : (Str.ofString "[").length = 1 := rfl
  have e2 : (Str.ofString "]").length = 1 := rfl
  omega
theorem join_le : ∀ ts : List Str, (Str.join ", " ts).length ≤ piled ts
  | [] => Nat.zero_le _
  | t :: r => by
    have := join_length_add (t :: r) (by simp)
    omega
theorem tupleText_le (ts : List Str) : (tupleText ts).length ≤ piled ts + 3 := by
  unfold tupleText
  rw [strLen_append, strLen_append]
  have h := join_le ts
  have e1 : (Str.ofString "(").length = 1 := rfl
  have e2 : (Str.ofString (if ts.length == 1 then ",)" else ")" : String)).length ≤ 2 := by
    split <;> decide
  omega
theorem int_le {i : Int} (h : i.natAbs < 2 ^ 200) : (Str.ofString (toString i)).length ≤ 201 ∧ i.natAbs.log2 < 1920 := by
  have hl : i.natAbs.log2 < 200 := by
    have := lg (x := i) (b := 199) h
    omega
  have := int_text_length_le (k := 200) (by decide) hl
  rw [PySem.ofString_length]
  exact ⟨this, by omega⟩
mutual
theorem wd_ok : ∀ {d : PyData} {n k : Nat}, Wd d n k → d.shown.length ≤ n ∧ d.showable = true ∧ d.hasDict = false ∧ d.depth ≤ k
  | _, _, k, .none => ⟨by show (Str.ofString "None").length ≤ 4; decide, rfl, rfl, Nat.zero_le _⟩
  | _, _, k, .int (i := i) h => by
    obtain ⟨h1, h2⟩ := int_le h
    exact ⟨h1, by show decide (i.natAbs.log2 < 1920) = true; exact decide_eq_true h2, rfl, Nat.zero_le _⟩
  | _, _, _, .list (ds := ds) (n := n) (k := k) h => by
    obtain ⟨h1, h2, h3, h4⟩ := wdAll_ok h
    have := listText_le (PyData.shownAll ds)
    refine ⟨?_, by show PyData.showableAll ds = true; exact h2, by show PyData.hasDictAll ds = false; exact h3, ?_⟩
    · show (listText (PyData.shownAll ds)).length ≤ n + 3
      omega
    · unfold PyData.depth
      omega
  | _, _, _, .tuple (ds := ds) (n := n) (k := k) h => by
    obtain ⟨h1, h2, h3, h4⟩ := wdAll_ok h
    have := tupleText_le (PyData.shownAll ds)
    refine ⟨?_, by show PyData.showableAll ds = true; exact h2, by show PyData.hasDictAll ds = false; exact h3, ?_⟩
    · show (tupleText (PyData.shownAll ds)).length ≤ n + 3
      omega
    · unfold PyData.depth
      omega
theorem wdAll_ok : ∀ {ds : List PyData} {n k : Nat}, WdAll ds n k → piled (PyData.shownAll ds) ≤ n ∧ PyData.showableAll ds = true ∧ PyData.hasDictAll ds = false ∧ PyData.depthAll ds ≤ k
  | _, _, k, .nil => ⟨Nat.zero_le _, rfl, rfl, Nat.zero_le _⟩
  | _, _, k, .cons (d := d) (ds := ds) (a := a) (b := b) h t => by
    obtain ⟨h1, h2, h3, h4⟩ := wd_ok h
    obtain ⟨t1, t2, t3, t4⟩ := wdAll_ok t
    refine ⟨?_, ?_, ?_, ?_⟩
    · show piled (d.shown :: PyData.shownAll ds) ≤ a + 2 + b
      rw [piled_cons]
      omega
    · show (d.showable && PyData.showableAll ds) = true
      rw [h2, t2]
      rfl
    · show (d.hasDict || PyData.hasDictAll ds) = false
      rw [h3, t3]
      rfl
    · show max d.depth (PyData.depthAll ds) ≤ k
      omega
end
/-! ### repr of data, no built-in that guards itself about -/
def rRepr (K : PySem.W.Frag) : List V → Hp → VK → Prop := fun xs H Q => ∃ (x : V) (d : PyData) (n k : Nat), xs = [x] ∧ L2.Dp K H x d ∧ (d = .none ∨ isSeq d = true) ∧ Wd d n k ∧ n ≤ 100000 ∧ k ≤ 20 ∧ Q (.str d.shown) H
theorem cr_reprG {X : Cx} (hg : X.A.guards = some []) (hu : X.A.units + 64 < cLine) : CallR X (.builtin "repr") (rRepr X.K) := by
  intro pins s σ H xs us Q I r h
  obtain ⟨x, d, n, k, rfl, hd, hs, hw, hn, hk, q⟩ := h
  obtain ⟨u, rfl, rx⟩ := vals1 r
  obtain ⟨h1, h2, h3, h4⟩ := wd_ok hw
  have hz : d.shown.length ≤ sizeLine := small_line (by omega)
  cases hd with
  | non =>
    cases rx
    exact P.repr_of_none ⟨.str _, H, I.tok _, ⟨_, rfl⟩, q⟩
  | bl b => rcases hs with z | z <;> cases z
  | int i => rcases hs with z | z <;> cases z
  | str y => rcases hs with z | z <;> cases z
  | lst e a =>
    cases rx
    obtain ⟨as, rd⟩ := Dp.reads I _ _ _ (.lst e a) rfl
    exact repr_of_reads' rd h2 (PyData.noDict_hsm h3) hg (by omega) (fun b o z => z) (fun h' t tk hk' => ⟨.str _, H, I.kept hk', ⟨_, rfl⟩, q⟩) hz
  | tup e a =>
    cases rx
    obtain ⟨as, rd⟩ := Dp.reads I _ _ _ (.tup e a) rfl
    exact repr_of_reads' rd h2 (PyData.noDict_hsm h3) hg (by omega) (fun b o z => z) (fun h' t tk hk' => ⟨.str _, H, I.kept hk', ⟨_, rfl⟩, q⟩) hz
/-! ### a call by keywords alone -/
section
variable {X : Cx} {CX : CXT} {k : Nat} {f : Addr} {fd : FuncData} {ps ks : List Str} {sp : Sp} {E : XK} {x : Str} {p pos : Pos} {kws : List Keyword} {tk : TA} {g : List Value → List Value → List Value} {gV : List V → List V → List V}
theorem pe_callK0 (F : FnOk X.prog X.w X.K X.mg X.base CX k f fd ps sp) (room : Room k X.A) (hg : Gl X x) (hm : X.mg x = some (.ref f)) (kp : PySem.W.keepIn X.K (.ref f) = true) (kb : KBinds X.K fd ps ks g gV) (pass : Passes CX X E) (hkw : PK X kws tk)
    (hall : (backToKw pos (keywordEach kws X.env)).all (·.1.isSome) = true := by rfl) (names : (backToKw pos (keywordEach kws X.env)).filterMap (·.1) = ks := by rfl) (hdb : (x == ("__debug__" : Str)) = false := by decide)
    (plain : ((backTo pos (starEach [] X.env)).any (·.1) || (backToKw pos (keywordEach kws X.env)).any (·.1.isNone)) = false := by rfl) : PE X (.Call (.Name x p) [] kws pos) (tCallK sp gV E tNil tk) := by
  constructor
  intro pins s σ H Q I h
  apply wpAny_Call_Name_kw
  apply ld_glob I hg hm _ hdb
  apply PySem.W.callWith_KW0 (h₀ := X.base) I.ok.mod.kin kp hall _ plain
  apply thn (hkw.run pos pins s σ H _ I h)
  intro ws s2 hz
  obtain ⟨zs, H2, I2, rz, q2⟩ := hz
  apply And.intro I2.kIn
  rw [names]
  exact run_fnk (us := []) (vs := []) F room kb pass I2 .nil rz q2
end
/-- keywords in the other order -/
def kwG {α : Type} : List α → List α → List α
  | [], ws => ws.reverse
  | _ :: _, _ => []
theorem vals_rev : ∀ {vs : List V} {us : List Value}, Vals vs us → Vals vs.reverse us.reverse
  | _, _, .nil => .nil
  | _, _, .cons h t => by
    rw [List.reverse_cons, List.reverse_cons]
    exact (vals_rev t).append (.cons h .nil)
theorem kb_of {K : PySem.W.Frag} {x qual : Str} {st : Stmt} {f : Addr} {fd : FuncData} {ps ks : List Str} (F : Fun K x qual st f fd) (h0 : ps ≠ [])
    (h : ∀ (kV doc pm : Value) (an : Option Addr) (cdv ct : Value) (ws : List Value), ws.length = ps.length → bindArgs (PySem.W.fnOf x qual (defArgs st) (defBody st) (defScope st) .none kV doc pm an cdv ct) ⟨[], ks.zip ws⟩ = pure (ps.zip ws.reverse)) : KBinds K fd ps ks kwG kwG := by
  obtain ⟨oc, od, kV, doc, pm, an, cdv, ct, osl, rfl, lk, hcd⟩ := F.ex
  refine ⟨fun s us ws _ hl => ?_, fun {vs us zs ws} r1 r2 => ?_⟩
  · cases us with
    | nil => exact .of_eq (h kV doc pm an cdv ct ws (by rw [← hl]; simp [kwG]))
    | cons u r =>
      have e : ps.length = 0 := hl.symm
      exact absurd (List.length_eq_zero_iff.mp e) h0
  · cases r1 with
    | nil => exact vals_rev r2
    | cons _ _ => exact .nil
/-! ### promises where it is known that no guarding built-in is about -/
structure FnG (P : Program) (w : World) (K : PySem.W.Frag) (mg : Str → Option Value) (base : Heap) (k : Nat) (f : Addr) (fd : FuncData) (ps : List Str) (sp : Sp) : Prop where
  n : ∀ vs H Q E, sp vs H Q E → vs.length = ps.length
  go : ∀ (A : Around) (outer : List Env) (s : Shared) (H : Hp) (args : Args) (us : List Value) (vs : List V) (Q : VK) (E : XK), A.guards = some [] → Room k A → Env0 P w K mg base A outer s H → BindsTo s fd args (ps.zip us) → Vals vs us → sp vs H Q E →
    codeAny (model P w) A (.call (.ref f) args) (CR CX0 outer P w H s Q E) s
theorem Fun.okG {P : Program} {w : World} {K : PySem.W.Frag} {mg : Str → Option Value} {base : Heap} {x qual : Str} {st : Stmt} {f : Addr} {fd : FuncData} {N ps : List Str} {k : Nat} {sp : Sp} (F : Fun K x qual st f fd) (S : FnScope N ps (defScope st)) (len : ∀ vs H Q E, sp vs H Q E → vs.length = ps.length)
    (body : ∀ (cdv : Value) (A : Around) (outer : List Env) (s : Shared) (H : Hp) (vs : List V) (Q : VK) (E : XK), A.guards = some [] → Room k (A.deeper (envOfC qual (defScope st) s.heap.objs.size f cdv)) → sp vs H Q E →
      ∃ t, PSs (cxOf CX0 P w K mg base N qual (defScope st) f cdv A outer s H E).nox (defBody st) t ∧ t { nx := fun _ H' => Q .non H', rt := Q } (L2.start N vs) H) : FnG P w K mg base (k + 1) f fd ps sp := by
  obtain ⟨oc, od, kV, doc, pm, an, cdv, ct, osl, rfl, lk, hcd⟩ := F.ex
  constructor
  · exact len
  · intro A outer s H args us vs Q E gd room e0 hb r hsp
    apply run_ofS lk hcd S room e0 hb r (len _ _ _ _ hsp)
    intro room2
    obtain ⟨t, ht, hq⟩ := body cdv A outer s H vs Q E gd room2 hsp
    exact ⟨t, ht.nox, hq⟩
theorem pe_callG {X : Cx} {k : Nat} {f : Addr} {fd : FuncData} {ps : List Str} {sp : Sp} {x : Str} {p pos : Pos} {e : Expr} {es : List Expr} {t : TA} (F : FnG X.prog X.w X.K X.mg X.base k f fd ps sp) (gd : X.A.guards = some []) (room : Room k X.A) (hg : Gl X x) (hm : X.mg x = some (.ref f)) (kp : PySem.W.keepIn X.K (.ref f) = true) (hb : Binds X.K fd ps [])
    (ha : PA X (e :: es) t) (hdb : (x == ("__debug__" : Str)) = false := by decide) (first : starEach (e :: es) X.env = (false, eval e X.env) :: starEach es X.env := by rfl) (plain : (backTo pos (starEach es X.env)).any (·.1) = false := by rfl) : PE X (.Call (.Name x p) (e :: es) [] pos) (tCall sp [] E0 t) := by
  constructor
  intro pins s σ H Q I h
  apply wpAny_Call_Name_kw
  apply ld_glob I hg hm _ hdb
  refine PySem.W.callWith_K (h₀ := X.base) I.ok.mod.kin kp ?_ first plain
  apply thn (ha.run pos pins s σ H _ I h)
  intro us s1 hz
  obtain ⟨vs, H1, I1, r, q⟩ := hz
  rw [List.append_nil] at q
  have hl : us.length = ps.length := by
    rw [← r.length]
    exact F.n _ _ _ _ q
  have hb1 := hb s1 us I1.kIn (by rw [List.append_nil]; exact hl)
  rw [List.append_nil] at hb1
  apply And.intro I1.kIn
  apply wpAny_call
  apply codeAny_mono (F.go X.A X.stack s1 H1 ⟨us, []⟩ us vs Q E0 gd room I1.env0 hb1 r q)
  intro res s' hq
  cases res with
  | error e => exact hq.elim
  | ok fl =>
    cases fl with
    | ret u => exact I1.after hq
    | next => exact False.elim hq
    | brk => exact False.elim hq
    | cont => exact False.elim hq
end Qw
namespace Qw
open PySem PySem.Spec PyProof.Rows L2 LamX Qk
/-! ### keywords -/
section
variable {K : PySem.W.Frag} {mg : Str → Option Value} {base : Heap}
theorem kb_risen (Y : Tx K mg base) : KBinds K Y.f_risen.fd ["curve"] ["curve"] kwG kwG := kb_of Y.f_risen.F (by simp) fun _ _ _ _ _ _ ws hl => match ws, hl with | [_], _ => rfl
theorem kb_held_back (Y : Tx K mg base) : KBinds K Y.f_held_back.fd ["curve", "most"] ["most", "curve"] kwG kwG := kb_of Y.f_held_back.F (by simp) fun _ _ _ _ _ _ ws hl => match ws, hl with | [_, _], _ => rfl
theorem kb_pushed_ahead (Y : Tx K mg base) : KBinds K Y.f_pushed_ahead.fd ["curve", "most"] ["most", "curve"] kwG kwG := kb_of Y.f_pushed_ahead.F (by simp) fun _ _ _ _ _ _ ws hl => match ws, hl with | [_, _], _ => rfl
end
section
variable {Z : Stm} {T : List (Addr × Str)} {K : PySem.W.Frag} {σ : L2.St} {G G0 H0 G' H H' G1 H1 : Hp} {ta tb te tl : TE} {tt : TT} {ds es : List PyData} {aa : TA} {n m k i j l : Nat} {P P1 P2 : PyData → Prop} {Pa : List PyData → Prop} {D : Ends} {tbd tz t1 t2 : TS} {ss : List Slot} {o : Addr} {E : XK} {d e : PyData} {R : Rp}
/-- e = .. : the value told -/
theorem zq_setE (h : RvZ Z T K n m te σ G P) (a : At Z T G H n) (k : ∀ d v G' H', Go Z G H G' H' → At Z T G' H' m → P d → Dp K G' v d → tz D (σ.set i (some v)) H') : tSeq (tAsg te (gName i)) tz D σ H := h H a _ fun d v G' H' go a' p hv => k d v G' H' go a' p hv
theorem zq_setR (h : Rv T te σ G R) (a : At Z T G H n) (k : ∀ v G' H', Step T G H G' H' → R G' v → tz D (σ.set i (some v)) H') : tSeq (tAsg te (gName i)) tz D σ H := h H a.t a.c _ fun v G' H' s hv => k v G' H' s hv
/-- a, b = .., .. : the second's reading stands on the first's -/
theorem zq_parR {R1 : Rp} {R2 : Hp → Rp} (h1 : Rv T ta σ G R1) (h2 : ∀ G1, Same G G1 → Rv T tb σ G1 (R2 G1)) (a : At Z T G H n) (kk : ∀ v1 v2 G1 H1 G2 H2, Step T G H G1 H1 → R1 G1 v1 → Step T G1 H1 G2 H2 → R2 G1 G2 v2 → tz D ((σ.set i (some v1)).set j (some v2)) H2) : tSeq (tPar i j (tCons ta (tCons tb tNil))) tz D σ H :=
  h1 H a.t a.c _ fun v1 G1 H1 s1 r1 => h2 G1 s1.g H1 s1.t s1.s _ fun v2 G2 H2 s2 r2 => ⟨_, _, rfl, kk v1 v2 G1 H1 G2 H2 s1 r1 s2 r2⟩
/-- if .. : return False, not taken -/
theorem zq_no (h : Rt T tt σ G false) (a : At Z T G H n) (k : ∀ G' H', Step T G H G' H' → tz D σ H') : tSeq (tIfS tt t1 tNext) tz D σ H := h H a.t a.c _ fun G' H' s => iteF (k G' H' s)
theorem dp_self {v : V} (h : Dp K G v d) : Rv T (tC v) σ G (IsD K d) := fun H t c Q q => q v G H (Step.refl t c) h
/-! lists of draws -/
def Lp (P : PyData → Prop) (l : Nat) : List PyData → Prop := fun ds => ds.length = l ∧ ∀ d ∈ ds, P d
theorem zl_nil : RaZ Z T K n n tNil σ G (Lp P 0) := za_nil.imp fun ds e => by
  rw [e]
  exact ⟨rfl, fun d h => by cases h⟩
theorem zl_cons (h : RvZ Z T K n m ta σ G P) (hr : RaZ Z T K m k aa σ G (Lp P l)) : RaZ Z T K n k (tCons ta aa) σ G (Lp P (l + 1)) := (za_cons h hr).imp fun ds ⟨d, es, e, p, h1, h2⟩ => by
  rw [e]
  refine ⟨by simp [h1], fun x hx => ?_⟩
  rcases List.mem_cons.mp hx with z | z
  · rw [z]; exact p
  · exact h2 x z
/-! a keyword call of what may raise -/
theorem rv_callKX2 {CC CF : Addr} {okp : PyData → PyData → Prop} {out : Hp → PyData → PyData → Rp} (back : ∀ G1 G2 v, Same G G1 → out G1 d e G2 v → out G d e G2 v) (h : Ra T K aa σ G [e, d]) (hp : Mild d) (he : smallD e = true) (hc : curvB d = true) (hk : SlOk (toldV d).1) (hf : fracB e = true) (ho : okp d e) : Rv T (tCallK (SpX2 T K CC CF okp out) kwG E tNil aa) σ G (out G d e) := fun H t c Q q =>
  h H t c _ fun vs G2 H2 s2 hv => by
    obtain ⟨y, x, rfl, hy, hx⟩ := dp2 hv
    exact ⟨G2, d, e, x, y, rfl, s2.s, s2.t, .cons hx (.cons hy .nil), hp, he, fun _ => hk, fun _ _ => ⟨ho, fun v G3 H3 s3 r => q v G3 H3 (s2.trans s3) (back G2 G3 v s2.g r)⟩, (fun z => by rw [hc] at z; cases z), fun _ z => by rw [hf] at z; cases z⟩
theorem rv_callKX1 {C : Addr} {pre : PyData → Prop} {good : PyData → Bool} {okp : PyData → Prop} {out : Hp → PyData → Rp} (back : ∀ G1 G2 v, Same G G1 → out G1 d G2 v → out G d G2 v) (h : Ra T K aa σ G [d]) (hp : pre d) (hg : good d = true) (ho : okp d) : Rv T (tCallK (SpX1 T K C pre good okp out) kwG E tNil aa) σ G (out G d) := fun H t c Q q =>
  h H t c _ fun vs G2 H2 s2 hv => by
    obtain ⟨x, rfl, hx⟩ := dp1 hv
    exact ⟨G2, d, x, rfl, s2.s, s2.t, .cons hx .nil, hp, fun _ => ⟨ho, fun v G3 H3 s3 r => q v G3 H3 (s2.trans s3) (back G2 G3 v s2.g r)⟩, fun z => by rw [hg] at z; cases z⟩
/-! repr -/
mutual
theorem wd_seqs : ∀ {d : PyData} {n k : Nat}, Wd d n k → seqs d = true
  | _, _, _, .none => rfl
  | _, _, _, .int _ => rfl
  | _, _, _, .list h => wdAll_seqs h
  | _, _, _, .tuple h => wdAll_seqs h
theorem wdAll_seqs : ∀ {ds : List PyData} {n k : Nat}, WdAll ds n k → seqsAll ds = true
  | _, _, _, .nil => rfl
  | _, _, _, .cons (d := d) (ds := ds) h t => by
    show (seqs d && seqsAll ds) = true
    rw [wd_seqs h, wdAll_seqs t]
    rfl
end
theorem rv_repr {a b : Nat} (h : Rv T te σ G (IsD K d)) (hs : d = .none ∨ isSeq d = true) (hw : Wd d a b) (ha : a ≤ 100000) (hb : b ≤ 20) : Rv T (tCB (rRepr K) (tCons te tNil)) σ G (IsD K (.str d.shown)) := fun H t c Q q =>
  h H t c _ fun v G2 H2 s2 hv => ⟨v, d, a, b, rfl, dp_up _ _ (wd_seqs hw) (s2.s.dp hv), hs, hw, ha, hb, q _ G2 H2 s2 (.str _)⟩
theorem rv_neS {x : Str} (ha : Rv T ta σ G (IsD K (.str x))) (hb : Rv T tb σ G (IsD K (.str x))) : Rv T (tOp rNe ta tb) σ G (IsD K (.bool false)) :=
  rv_op ha hb fun G1 H1 x y t c hx hy Q q => by
    rw [dp_str hx, dp_str hy]
    refine ⟨rfl, ?_⟩
    rw [decide_eq_true rfl]
    exact q _ G1 H1 (Step.refl t c) (.bl _)
/-! back to an earlier clean part: a list that is new behind it changes -/
theorem Go.stay (g : Go Z G H G1 H1) : Go Z G H G H1 := ⟨g.x, Same.refl G, fun _ _ _ _ _ _ _ => rfl⟩
theorem new_list {p : Addr} {xs : List V} (g : Go Z G0 H0 G H) (a : At Z T G H n) (h0 : G0 p = none) (h1 : G p = some (.lst xs)) : Nw H0 p ∧ p ≠ Z.s ∧ p ≠ Z.l := by
  have n1 : p ≠ Z.s := fun z => by
    rw [z, a.gs] at h1
    cases h1
  have n2 : p ≠ Z.l := fun z => by
    rw [z, a.gl] at h1
    cases h1
  refine ⟨fun u hu => ?_, n1, n2⟩
  by_cases q : ∃ ps, u = .tbl ps
  · exact q
  · have q1 : ∀ ps, u ≠ .tbl ps := fun ps e => q ⟨ps, e⟩
    have hH := (a.c p _ h1).1
    have hx := g.x p u n1 n2 hu q1
    rw [hH] at hx
    cases hx
    have := g.f0 p _ n1 n2 hu q1 lst_tup
    rw [h0, h1] at this
    cases this
/-- xs.append('late'), xs the list of corners of a curve behind G0 -/
theorem late {v : V} {p : Addr} (g : Go Z G0 H0 G H) (a : At Z T G H n) (hv : ∀ Q : VK, Q v H → te σ H Q) (hf : ∃ l s xs, v = .ref p ∧ G p = some (.tup [.ref l, s]) ∧ G0 l = none ∧ G l = some (.lst xs) ∧ xs.length ≤ 1000)
    (k : ∀ H', Go Z G0 H0 G0 H' → At Z T G0 H' n → D.nx σ H') : tDrop (tBM K "list" rAppend (tOp (rIxT K) te (tC (.int 0))) (tCons (tC (.str "late")) tNil)) D σ H := by
  obtain ⟨l, s, xs, rfl, h1, h2, h3, h4⟩ := hf
  obtain ⟨q1, q2, q3⟩ := new_list g a h2 h3
  refine hv _ ⟨p, [.ref l, s], 0, .ref l, rfl, rfl, a.c.tup h1, rfl, ?_⟩
  have hH := (a.c l _ h3).1
  refine ⟨.inl ⟨rfl, xs, .inl (.inl hH)⟩, l, xs, .str "late", rfl, rfl, hH, small_lt (by omega), ?_⟩
  exact k _ (g.stay.mut q1) ((a.back g.g).mut h2 hH q2 q3)
/-- if ..: v[0].append('late') -/
theorem zq_late {b : Bool} {v : V} {p : Addr} (h : Rt T tt σ G b) (g : Go Z G0 H0 G H) (a : At Z T G H n) (hσ : σ[i]? = some (some v)) (hf : b = true → ∃ l s xs, v = .ref p ∧ G p = some (.tup [.ref l, s]) ∧ G0 l = none ∧ G l = some (.lst xs) ∧ xs.length ≤ 1000)
    (k : ∀ H', Go Z G0 H0 G0 H' → At Z T G0 H' n → tz D σ H') : tSeq (tIfS tt (tDrop (tBM K "list" rAppend (tOp (rIxT K) (tVar i) (tC (.int 0))) (tCons (tC (.str "late")) tNil))) tNext) tz D σ H := h H a.t a.c _ fun G' H' s => by
  cases b with
  | true =>
    obtain ⟨l, s', xs, h1, h2, h3, h4, h5⟩ := hf rfl
    exact iteT (late (D := { D with nx := tz D }) (g.trans s.go) (a.step s) (fun Q q => ⟨v, hσ, q⟩) ⟨l, s', xs, h1, s.g _ _ h2, h3, s.g _ _ h4, h5⟩ k)
  | false => exact iteF (k H' (g.trans s.go).stay ((a.step s).back (g.trans s.go).g))
/-- v[0].append('late') -/
theorem zq_late1 {v : V} {p : Addr} (g : Go Z G0 H0 G H) (a : At Z T G H n) (hσ : σ[i]? = some (some v)) (hf : ∃ l s xs, v = .ref p ∧ G p = some (.tup [.ref l, s]) ∧ G0 l = none ∧ G l = some (.lst xs) ∧ xs.length ≤ 1000)
    (k : ∀ H', Go Z G0 H0 G0 H' → At Z T G0 H' n → tz D σ H') : tSeq (tDrop (tBM K "list" rAppend (tOp (rIxT K) (tVar i) (tC (.int 0))) (tCons (tC (.str "late")) tNil))) tz D σ H :=
  late (D := { D with nx := tz D }) g a (fun Q q => ⟨v, hσ, q⟩) hf k
end
/-! ### widths -/
theorem raw_wd {q : Rat} {e : PyData} (h : RawOf q e) (hz : Sz 198 q) : Wd e 409 1 := by
  obtain ⟨m, hm, h⟩ := h
  have hmn : ∀ x : Int, x.natAbs < 2 ^ 198 → (x * m).natAbs < 2 ^ 200 := fun x hx => by
    rw [Int.natAbs_mul]
    have : m.natAbs ≤ 3 := by omega
    have h2 : x.natAbs * m.natAbs ≤ x.natAbs * 3 := Nat.mul_le_mul_left _ this
    omega
  have h1 := hmn _ hz.one
  have h2 := hmn _ hz.den
  rcases h with e | e <;> subst e
  · exact .list (.cons (.int h1) (.cons (.int h2) .nil))
  · exact .tuple (.cons (.int h1) (.cons (.int h2) .nil))
theorem seq_wd {e : PyData} {n k : Nat} (hs : isSeq e = true) (h : WdAll (itemsD e) n k) : Wd e (n + 3) (k + 1) := by
  cases e with
  | list ds => exact .list h
  | tuple ds => exact .tuple h
  | _ => cases hs
mutual
theorem wd_up : ∀ {d : PyData} {n k j : Nat}, Wd d n k → k ≤ j → Wd d n j
  | _, _, _, _, .none, _ => .none
  | _, _, _, _, .int h, _ => .int h
  | _, _, _, j, .list h, l => by
    cases j with
    | zero => omega
    | succ j => exact .list (wdAll_up h (by omega))
  | _, _, _, j, .tuple h, l => by
    cases j with
    | zero => omega
    | succ j => exact .tuple (wdAll_up h (by omega))
theorem wdAll_up : ∀ {ds : List PyData} {n k j : Nat}, WdAll ds n k → k ≤ j → WdAll ds n j
  | _, _, _, _, .nil, _ => .nil
  | _, _, _, _, .cons h t, l => .cons (wd_up h l) (wdAll_up t l)
end
theorem row_wd {c : Cn} {e : PyData} (h : RowOf' c e) (h1 : Sz 198 c.1) (h2 : Sz 198 c.2) : Wd e 825 2 := by
  obtain ⟨hs, a, b, hi, ha, hb⟩ := h
  have := seq_wd (n := 409 + 2 + (409 + 2 + 0)) (k := 1) hs (by
    rw [hi]
    exact .cons (raw_wd ha h1) (.cons (raw_wd hb h2) .nil))
  exact this
theorem rows_wd : ∀ {cs : List Cn} {es : List PyData}, All2 RowOf' cs es → (∀ x ∈ cs, Sz 198 x.1 ∧ Sz 198 x.2) → WdAll es (827 * cs.length) 2
  | _, _, .nil, _ => .nil
  | _, _, .cons (a := c) (b := e) (as := cs) (bs := es) h t, hz => by
    have ih := rows_wd t fun x hx => hz x (List.mem_cons_of_mem _ hx)
    have := WdAll.cons (row_wd h (hz c (by simp)).1 (hz c (by simp)).2) ih
    have e : 825 + 2 + 827 * cs.length = 827 * (cs.length + 1) := by omega
    rw [e] at this
    exact this
theorem curve_wd {c : Cv} {e : PyData} (h : CurveOf c e) (hz : ∀ x ∈ c.1, Sz 198 x.1 ∧ Sz 198 x.2) (h2 : Sz 198 c.2) (hl : c.1.length ≤ 100) : isSeq e = true ∧ ∃ a b, Wd e a b ∧ a ≤ 100000 ∧ b ≤ 20 := by
  obtain ⟨hs, A, r, hi, hA, hrows, hr⟩ := pass_is h
  have w1 := seq_wd hA (rows_wd hrows hz)
  have w2 := wd_up (raw_wd hr h2) (show 1 ≤ 3 by decide)
  refine ⟨hs, _, _, seq_wd hs (by rw [hi]; exact .cons w1 (.cons w2 .nil)), ?_, by decide⟩
  have : 827 * c.1.length ≤ 82700 := by omega
  omega
theorem eqv_dv (c : Cv) : PyData.eqv (dv c) (dv c) = true := SeqAt.eqv_refl _ (SeqAt.canLay_of_shaped (shaped_dv c))
end Qw
namespace Qw
open PySem PySem.Spec PyProof.Rows L2 LamX Qk
theorem tw_q {n d : Int} (hd : d = 1 ∨ d = 2 ∨ d = 3) (hn : 12 * n.natAbs < 2 ^ 15) : Sz 15 (Rat.divInt n d) := (tw_div (n := n) (by omega)).sz hn (by decide)
section
variable {Z : Stm} {T : List (Addr × Str)} {K : PySem.W.Frag} {σ : L2.St} {G G' H H' : Hp} {te : TE} {n : Nat} {c : Cv} {e : PyData} {m : Rat} {er : PyData}
theorem raw_told {q : Rat} {e : PyData} (h : RawOf q e) (hz : Sz 150 q) : fracB e = true ∧ toldQ e = q ∧ smallD e = true := ⟨(raw_facts h).1, (raw_facts h).2.1, raw_small_ h ⟨Nat.lt_of_lt_of_le hz.one (pow_mono (by decide)), Nat.lt_of_lt_of_le hz.two (pow_mono (by decide))⟩⟩
theorem rv_held {CC CF : Addr} {ta tb : TE} {u : PyData} {c : Cv} (ha : Rv T ta σ G (IsD K u)) (hb : Rv T tb σ G (IsD K er)) (hp : Passed c u) (hr : fracB er = true ∧ toldQ er = m ∧ smallD er = true) (ho : BackOk c m) : Rv T (tCall (SpX2 T K CC CF (fun d e => BackOk (tv d) (toldQ e)) fun G d e => IsVc K G (back (tv d) (toldQ e))) [] E0 (tCons ta (tCons tb tNil))) σ G (IsVc K G (back c m)) := by
  have h := rv_callX2 (T := T) (CC := CC) (CF := CF) (E := E0) (okp := fun d e => BackOk (tv d) (toldQ e)) (out := fun G d e => IsVc K G (back (tv d) (toldQ e))) (fun G1 G2 v e r => r.back e) (ra_cons ha (ra_cons hb ra_nil)) hp.m hr.2.2 hp.b hp.s hr.1 (by rw [hp.v, hr.2.1]; exact ho)
  rw [hp.v, hr.2.1] at h
  exact h
theorem rv_heldK {CC CF : Addr} {ta tb : TE} {u : PyData} {c : Cv} (ha : Rv T ta σ G (IsD K u)) (hb : Rv T tb σ G (IsD K er)) (hp : Passed c u) (hr : fracB er = true ∧ toldQ er = m ∧ smallD er = true) (ho : BackOk c m) : Rv T (tCallK (SpX2 T K CC CF (fun d e => BackOk (tv d) (toldQ e)) fun G d e => IsVc K G (back (tv d) (toldQ e))) kwG E0 tNil (tCons tb (tCons ta tNil))) σ G (IsVc K G (back c m)) := by
  have h := rv_callKX2 (T := T) (CC := CC) (CF := CF) (E := E0) (okp := fun d e => BackOk (tv d) (toldQ e)) (out := fun G d e => IsVc K G (back (tv d) (toldQ e))) (fun G1 G2 v e r => r.back e) (ra_cons hb (ra_cons ha ra_nil)) hp.m hr.2.2 hp.b hp.s hr.1 (by rw [hp.v, hr.2.1]; exact ho)
  rw [hp.v, hr.2.1] at h
  exact h
theorem rv_pushed {CC CF : Addr} {ta tb : TE} {u : PyData} {c : Cv} (ha : Rv T ta σ G (IsD K u)) (hb : Rv T tb σ G (IsD K er)) (hp : Passed c u) (hr : fracB er = true ∧ toldQ er = m ∧ smallD er = true) (ho : AheadOk c m) : Rv T (tCall (SpX2 T K CC CF (fun d e => AheadOk (tv d) (toldQ e)) fun G d e => IsOc K G (Qk.ahead (tv d) (toldQ e))) [] E0 (tCons ta (tCons tb tNil))) σ G (IsOc K G (Qk.ahead c m)) := by
  have h := rv_callX2 (T := T) (CC := CC) (CF := CF) (E := E0) (okp := fun d e => AheadOk (tv d) (toldQ e)) (out := fun G d e => IsOc K G (Qk.ahead (tv d) (toldQ e))) (fun G1 G2 v e r => r.back e) (ra_cons ha (ra_cons hb ra_nil)) hp.m hr.2.2 hp.b hp.s hr.1 (by rw [hp.v, hr.2.1]; exact ho)
  rw [hp.v, hr.2.1] at h
  exact h
theorem rv_pushedK {CC CF : Addr} {ta tb : TE} {u : PyData} {c : Cv} (ha : Rv T ta σ G (IsD K u)) (hb : Rv T tb σ G (IsD K er)) (hp : Passed c u) (hr : fracB er = true ∧ toldQ er = m ∧ smallD er = true) (ho : AheadOk c m) : Rv T (tCallK (SpX2 T K CC CF (fun d e => AheadOk (tv d) (toldQ e)) fun G d e => IsOc K G (Qk.ahead (tv d) (toldQ e))) kwG E0 tNil (tCons tb (tCons ta tNil))) σ G (IsOc K G (Qk.ahead c m)) := by
  have h := rv_callKX2 (T := T) (CC := CC) (CF := CF) (E := E0) (okp := fun d e => AheadOk (tv d) (toldQ e)) (out := fun G d e => IsOc K G (Qk.ahead (tv d) (toldQ e))) (fun G1 G2 v e r => r.back e) (ra_cons hb (ra_cons ha ra_nil)) hp.m hr.2.2 hp.b hp.s hr.1 (by rw [hp.v, hr.2.1]; exact ho)
  rw [hp.v, hr.2.1] at h
  exact h
theorem Rv.od {o : Option Cv} (h : Rv T te σ G (IsOc K G o)) : Rv T te σ G (IsD K (dov o)) := h.imp fun _ _ h => h.d
theorem eqv_dov (o : Option Cv) : PyData.eqv (dov o) (dov o) = true := by
  cases o with
  | none => rfl
  | some c => exact eqv_dv c
theorem shaped_dov (o : Option Cv) : SeqAt.shaped (dov o) = true := by
  cases o with
  | none => rfl
  | some c => exact shaped_dv c
/-- what a found curve's list is, for a later change -/
theorem vc_late {G0 : Hp} {f : Cv} {v : V} (h : IsVc K G0 f G v) (hl : f.1.length ≤ 1000) : ∃ p, v = .ref p ∧ ∃ l s xs, v = .ref p ∧ G p = some (.tup [.ref l, s]) ∧ G0 l = none ∧ G l = some (.lst xs) ∧ xs.length ≤ 1000 := by
  obtain ⟨p, l, s, xs, h1, h2, h3, h4, h5, h6⟩ := h
  exact ⟨p, h1, l, s, xs, h1, h2, h3, h4, by
    rw [dpAll_len h5, List.length_map]
    exact hl⟩
end
/-- the text of a told curve -/
theorem dv_wd {c : Cv} {a b s L : Nat} (h : Tr a b s L c) (h1 : a ≤ 198) (h2 : b ≤ 198) (h3 : s ≤ 198) (h4 : L ≤ 100) : isSeq (dv c) = true ∧ ∃ n k, Wd (dv c) n k ∧ n ≤ 100000 ∧ k ≤ 20 :=
  curve_wd (curve_self c) (fun x hx => ⟨(h.mo x hx).mono h1, (h.wo x hx).mono h2⟩) (h.s2.mono h3) (Nat.le_trans h.len h4)
theorem passed_wd {c : Cv} {e : PyData} (hc : Drawn c) (h : PassedOf c e) : isSeq e = true ∧ ∃ n k, Wd e n k ∧ n ≤ 100000 ∧ k ≤ 20 := by
  obtain ⟨cs, hm, hp⟩ := h
  exact curve_wd hp (fun x hx => ⟨(hm.sz x hx).1.mono (by decide), (hm.sz x hx).2.mono (by decide)⟩) (hc.t.s2.mono (by decide)) (Nat.le_trans hm.len (by decide))
section
variable {P : Program} {w : World} {K : PySem.W.Frag} {mg : Str → Option Value} {base : Heap}
def outTrue : List PyData → PyData → Prop := fun _ d => d = .bool true
abbrev s__law_kept_right : Stmt := topS 82
theorem sc__law_kept_right : FnScope ["_law_stream_here", "_law_curve", "_law_given", "_law_slopes", "_law_drawn", "_law_most", "_law_raw_here", "_law_was", "_law_found", "_law_ahead", "_law_kept", "_law_other"] ["_law_stream_here", "_law_curve"] (defScope s__law_kept_right) := ⟨rfl, rfl, rfl, by decide +kernel, rfl, by decide +kernel, by decide +kernel⟩
set_option maxHeartbeats 4000000 in
theorem ok__law_kept_right (Y : Tx K mg base) : FnG P w K mg base 11 Y.f__law_kept_right.a Y.f__law_kept_right.fd ["_law_stream_here", "_law_curve"] (SpZ Y.T K (fun _ => 1100) preMo outTrue) := by
  refine Fun.okG Y.f__law_kept_right.F sc__law_kept_right (fun vs H Q E h => spz_len (E := E) (pre := preMo) (a := 1) h fun ds hp => by obtain ⟨c, e, _⟩ := hp; rw [e]; rfl) (fun cdv A outer s H vs Q E gd hr h => ?_)
  obtain ⟨Z, G, n, us, ds, rfl, at_, hd, ⟨c, rfl, hc⟩, hn, k⟩ := h
  obtain ⟨vc, rfl, hvc⟩ := dpA_one hd
  have hn : n + 1100 ≤ countLim := hn
  have hfine : Fine c := (hc.t.cs (by decide)).mono (by decide) (by decide) (by decide)
  have hcs2 : Sz 15 c.2 := hc.t.s2
  refine ⟨_, (pss_cons (ps_par (i := 2) (j := 3) (by rfl) sc__law_kept_right.nd rfl rfl (by decide) rfl rfl (pa_cons (pe_call (ok__law_c_passed Y) (hr.mono (by first | decide | omega)) (by rfl) Y.f__law_c_passed.g Y.f__law_c_passed.F.kp Y.f__law_c_passed.b .nil pass0 (pa_cons (pv 0) (pa_cons (pv 1) pa_nil))) (pa_cons (pe_call (ok__law_c_slopes Y) (hr.mono (by first | decide | omega)) (by rfl) Y.f__law_c_slopes.g Y.f__law_c_slopes.F.kp Y.f__law_c_slopes.b .nil pass0 (pa_cons (pv 1) pa_nil)) pa_nil)) (by rfl))
      (pss_cons (ps_set (i := 4) sc__law_kept_right.nd rfl (Or.inl rfl) (pe_call (ok__law_low Y) (hr.mono (by first | decide | omega)) (by rfl) Y.f__law_low.g Y.f__law_low.F.kp Y.f__law_low.b .nil pass0 (pa_cons (pe_op op_sub (pe_call (ok__law_draw Y) (hr.mono (by first | decide | omega)) (by rfl) Y.f__law_draw.g Y.f__law_draw.F.kp Y.f__law_draw.b .nil pass0 (pa_cons (pv 0) (pa_cons pe_int pa_nil))) pe_int) (pa_cons (pe_op op_add pe_int (pe_call (ok__law_draw Y) (hr.mono (by first | decide | omega)) (by rfl) Y.f__law_draw.g Y.f__law_draw.F.kp Y.f__law_draw.b .nil pass0 (pa_cons (pv 0) (pa_cons pe_int pa_nil)))) pa_nil))))
      (pss_cons (ps_set (i := 5) sc__law_kept_right.nd rfl (Or.inl rfl) (pe_call (ok__law_pick Y) (hr.mono (by first | decide | omega)) (by rfl) Y.f__law_pick.g Y.f__law_pick.F.kp Y.f__law_pick.b .nil pass0 (pa_cons (pv 0) (pa_cons (pe_lst (pa_cons (pv 4) (pa_cons (pv 4) (pa_cons (pe_call (ok__law_pick Y) (hr.mono (by first | decide | omega)) (by rfl) Y.f__law_pick.g Y.f__law_pick.F.kp Y.f__law_pick.b .nil pass0 (pa_cons (pv 0) (pa_cons (pv 3) pa_nil))) (pa_cons (pe_ix ix_tup (pv 1) pe_int (fun _ _ => rfl)) (pa_cons (pe_tup (pa_cons pe_int (pa_cons pe_int pa_nil))) pa_nil)))))) pa_nil))))
      (pss_cons (ps_par (i := 6) (j := 7) (by rfl) sc__law_kept_right.nd rfl rfl (by decide) rfl rfl (pa_cons (pe_call (ok__law_raw Y) (hr.mono (by first | decide | omega)) (by rfl) Y.f__law_raw.g Y.f__law_raw.F.kp Y.f__law_raw.b .nil pass0 (pa_cons (pv 0) (pa_cons (pv 5) pa_nil))) (pa_cons (pe_callB (cr_reprG gd hr.units) (by rfl) Y.z_repr (by decide +kernel) (pa_cons (pv 2) pa_nil)) pa_nil)) (by rfl))
      (pss_cons (ps_par (i := 8) (j := 9) (by rfl) sc__law_kept_right.nd rfl rfl (by decide) rfl rfl (pa_cons (pe_call (ok_held_back Y) (hr.mono (by first | decide | omega)) (by rfl) Y.f_held_back.g Y.f_held_back.F.kp Y.f_held_back.b .nil passX0 (pa_cons (pv 2) (pa_cons (pv 6) pa_nil))) (pa_cons (pe_call (ok_pushed_ahead Y) (hr.mono (by first | decide | omega)) (by rfl) Y.f_pushed_ahead.g Y.f_pushed_ahead.F.kp Y.f_pushed_ahead.b .nil passX0 (pa_cons (pv 2) (pa_cons (pv 6) pa_nil))) pa_nil)) (by rfl))
      (pss_cons (ps_if (PW.pt (pw_or (pt_not (pt_val (pe_call (ok__law_held_right Y) (hr.mono (by first | decide | omega)) (by rfl) Y.f__law_held_right.g Y.f__law_held_right.F.kp Y.f__law_held_right.b .nil pass0 (pa_cons (pv 8) (pa_cons (pv 1) (pa_cons (pv 5) pa_nil)))))) (pw_or1 (pt_cmpR op_ne (pe_callB (cr_reprG gd hr.units) (by rfl) Y.z_repr (by decide +kernel) (pa_cons (pv 2) pa_nil)) (pv 7) (nomark _))))) (pss_one (ps_ret pe_bl)) pss_nil)
      (pss_cons (ps_if (PW.pt (pw_or (pt_cmpR op_ne (pe_cmpR op_isNq (pv 9) pe_non (nomark _)) (pe_call (ok__law_is_below Y) (hr.mono (by first | decide | omega)) (by rfl) Y.f__law_is_below.g Y.f__law_is_below.F.kp Y.f__law_is_below.b .nil pass0 (pa_cons (pv 5) (pa_cons (pe_ix ix_tup (pv 1) pe_int (fun _ _ => rfl)) pa_nil))) (nomark _)) (pw_or1 (PW.pt (pw_and (pt_cmpR op_notNq (pv 9) pe_non (nomark _)) (pw_and1 (pt_not (pt_val (pe_call (ok__law_pushed_right Y) (hr.mono (by first | decide | omega)) (by rfl) Y.f__law_pushed_right.g Y.f__law_pushed_right.F.kp Y.f__law_pushed_right.b .nil pass0 (pa_cons (pv 9) (pa_cons (pv 1) (pa_cons (pv 5) pa_nil)))))))))))) (pss_one (ps_ret pe_bl)) pss_nil)
      (pss_cons (ps_set (i := 10) sc__law_kept_right.nd rfl (Or.inl rfl) (pe_callB (cr_reprG gd hr.units) (by rfl) Y.z_repr (by decide +kernel) (pa_cons (pv 9) pa_nil)))
      (pss_cons (ps_if (pt_cmpR (op_neD hr.units) (pe_callK0 (ok_pushed_ahead Y) (hr.mono (by first | decide | omega)) (by rfl) Y.f_pushed_ahead.g Y.f_pushed_ahead.F.kp (kb_pushed_ahead Y) passX0 (pk_cons (pv 6) (pk_cons (pv 2) pk_nil))) (pv 9) (nomark _)) (pss_one (ps_ret pe_bl)) pss_nil)
      (pss_cons (ps_if (pt_cmpR op_notNq (pv 9) pe_non (nomark _)) (pss_one (ps_expr (pe_bm PySem.F.plainAttrs_list PySem.F.slot_list_append PySem.F.type_list_append mt_append (pe_ix ix_tup (pv 9) pe_int (fun _ _ => rfl)) (pa_cons pe_str pa_nil)))) pss_nil)
      (pss_cons (ps_if (pt_cmpR op_ne (pe_callB (cr_reprG gd hr.units) (by rfl) Y.z_repr (by decide +kernel) (pa_cons (pe_call (ok_pushed_ahead Y) (hr.mono (by first | decide | omega)) (by rfl) Y.f_pushed_ahead.g Y.f_pushed_ahead.F.kp Y.f_pushed_ahead.b .nil passX0 (pa_cons (pv 2) (pa_cons (pv 6) pa_nil))) pa_nil)) (pv 10) (nomark _)) (pss_one (ps_ret pe_bl)) pss_nil)
      (pss_cons (ps_set (i := 11) sc__law_kept_right.nd rfl (Or.inl rfl) (pe_call (ok__law_low Y) (hr.mono (by first | decide | omega)) (by rfl) Y.f__law_low.g Y.f__law_low.F.kp Y.f__law_low.b .nil pass0 (pa_cons (pe_op op_sub (pe_call (ok__law_draw Y) (hr.mono (by first | decide | omega)) (by rfl) Y.f__law_draw.g Y.f__law_draw.F.kp Y.f__law_draw.b .nil pass0 (pa_cons (pv 0) (pa_cons pe_int pa_nil))) pe_int) (pa_cons (pe_call (ok__law_pick Y) (hr.mono (by first | decide | omega)) (by rfl) Y.f__law_pick.g Y.f__law_pick.F.kp Y.f__law_pick.b .nil pass0 (pa_cons (pv 0) (pa_cons (pe_lst (pa_cons pe_int (pa_cons pe_int pa_nil))) pa_nil))) pa_nil))))
      (pss_cons (ps_if (pt_not (pt_val (pe_call (ok__law_held_right Y) (hr.mono (by first | decide | omega)) (by rfl) Y.f__law_held_right.g Y.f__law_held_right.F.kp Y.f__law_held_right.b .nil pass0 (pa_cons (pe_call (ok_held_back Y) (hr.mono (by first | decide | omega)) (by rfl) Y.f_held_back.g Y.f_held_back.F.kp Y.f_held_back.b .nil passX0 (pa_cons (pv 8) (pa_cons (pv 11) pa_nil))) (pa_cons (pv 1) (pa_cons (pe_call (ok__law_least Y) (hr.mono (by first | decide | omega)) (by rfl) Y.f__law_least.g Y.f__law_least.F.kp Y.f__law_least.b .nil pass0 (pa_cons (pe_lst (pa_cons (pv 5) (pa_cons (pv 11) pa_nil))) pa_nil)) pa_nil)))))) (pss_one (ps_ret pe_bl)) pss_nil)
      (pss_cons (ps_expr (pe_bm PySem.F.plainAttrs_list PySem.F.slot_list_append PySem.F.type_list_append mt_append (pe_ix ix_tup (pv 8) pe_int (fun _ _ => rfl)) (pa_cons pe_str pa_nil)))
      (pss_one (ps_ret (pe_call (ok__law_held_right Y) (hr.mono (by first | decide | omega)) (by rfl) Y.f__law_held_right.g Y.f__law_held_right.F.kp Y.f__law_held_right.b .nil pass0 (pa_cons (pe_callK0 (ok_held_back Y) (hr.mono (by first | decide | omega)) (by rfl) Y.f_held_back.g Y.f_held_back.F.kp (kb_held_back Y) passX0 (pk_cons (pv 6) (pk_cons (pv 2) pk_nil))) (pa_cons (pv 1) (pa_cons (pv 5) pa_nil)))))))))))))))))))), ?_⟩
  -- given, slopes
  refine zq_parG (Z := Z) (T := Y.T) (K := K) (m := n + 1040) (za_2 (P := PassedOf c) (P1 := (· = .list ((slopes c.1 c.2).map dq))) (m := n + 1040) (z_callZ (c := 1040) (i := 0) (Pa := (· = [dv c])) rfl (Ra.z (ra_cons (rv_var (i := 1) rfl hvc) ra_nil)) (fun ds e => ⟨⟨c, e, hc⟩, Nat.le_refl _, fun d ⟨c', h1, h2⟩ => ?_⟩) (by omega))
    (Rv.z (Rv.ld (rv_call1 (a := c) (ra_cons (rv_var (i := 1) rfl hvc) ra_nil) hfine.slOk)))) at_ fun ds vs G1 H1 g1 a1 hds hvs => ?_
  · rw [e] at h1
    rw [dv_inj (List.cons.inj h1).1]
    exact h2
  obtain ⟨eg, es, rfl, hpg, rfl⟩ := hds
  obtain ⟨vg, vs, rfl, hvg, hvs⟩ := dp2 hvs
  have hP := passed_ok hc hpg
  obtain ⟨hsq, w1, w2, hwd, hw1, hw2⟩ := passed_wd hc hpg
  refine ⟨vg, vs, rfl, ?_⟩
  have hvc1 := sdp g1.g hvc
  -- drawn
  refine zq_setE (Z := Z) (T := Y.T) (K := K) (n := n + 1040) (m := n + 1040 + 1 + 1) (P := QP (Sz 15)) (z_low (p := fun v => -7 ≤ v ∧ v ≤ 7) (q := fun v => v = 1 ∨ v = 2 ∨ v = 3) (m := n + 1040 + 1)
    (z_sub (p := fun v => 0 ≤ v ∧ v < 15) (q := (· = 7)) (z_draw (B := 15) (i := 0) rfl (z_int.imp fun d ⟨i, e, h⟩ => ⟨i, e, by omega⟩) (by decide) (by omega)) z_int (fun i j h1 h2 => by omega))
    (z_add (p := (· = 1)) (q := fun v => 0 ≤ v ∧ v < 3) z_int (z_draw (B := 3) (i := 0) rfl (z_int.imp fun d ⟨i, e, h⟩ => ⟨i, e, by omega⟩) (by decide) (by omega)) (fun i j h1 h2 => by omega))
    (fun i j h1 h2 => ⟨by omega, lt9000 (by omega), tw_q (by omega) (by omega)⟩)) a1 fun d vd G2 H2 g2 a2 hdr hvd => ?_
  obtain ⟨dr_, rfl, hdz⟩ := hdr
  have hvc2 := sdp g2.g hvc1
  have hvg2 := sdp g2.g hvg
  have hvs2 := sdp g2.g hvs
  -- most
  refine zq_setE (Z := Z) (T := Y.T) (K := K) (n := n + 1040 + 1 + 1) (m := n + 1040 + 1 + 1 + 1 + 1) (P := QP (Sz 15)) (z_pick (i := 0) (m := n + 1040 + 1 + 1 + 1) rfl ((z_lst (zl_cons (m := n + 1040 + 1 + 1) (P := QP (Sz 15)) ((Rv.zq (rv_var (i := 4) rfl hvd)).imp fun d ⟨q, e, h⟩ => ⟨q, e, by rw [h]; exact hdz⟩)
      (zl_cons (m := n + 1040 + 1 + 1) ((Rv.zq (rv_var (i := 4) rfl hvd)).imp fun d ⟨q, e, h⟩ => ⟨q, e, by rw [h]; exact hdz⟩)
      (zl_cons (m := n + 1040 + 1 + 1 + 1) (z_pick (i := 0) (m := n + 1040 + 1 + 1) rfl ((Rv.z (rv_var (i := 3) rfl hvs2)).imp fun d e => ⟨_, e, ?_, ?_, fun x hx => ?_⟩) (by omega))
      (zl_cons (m := n + 1040 + 1 + 1 + 1) ((Rv.zq (rv_v1 (a := c) (rv_var (i := 1) rfl hvc2))).imp fun d ⟨q, e, h⟩ => ⟨q, e, by rw [h]; exact hcs2⟩)
      (zl_cons (m := n + 1040 + 1 + 1 + 1) ((Rv.zq rv_zero).imp fun d ⟨q, e, h⟩ => ⟨q, e, by rw [h]; exact sz_z (by decide)⟩) zl_nil))))) fun ds h => by rw [h.1]; decide).imp fun d ⟨ds, e, h1, h2⟩ => ⟨ds, e, by omega, by omega, h2⟩) (by omega)) a2 fun d vm G3 H3 g3 a3 hmr hvm => ?_
  · rw [List.length_map, slopes_len]
    exact Nat.pos_of_ne_zero fun z => hc.t.w.ne (List.length_eq_zero_iff.mp z)
  · rw [List.length_map, slopes_len]
    have := hc.t.len
    omega
  · obtain ⟨q, hq, rfl⟩ := List.mem_map.mp hx
    exact ⟨q, rfl, hc.t.slopes q hq⟩
  obtain ⟨m, rfl, hmz⟩ := hmr
  have hvc3 := sdp g3.g hvc2
  have hvg3 := sdp g3.g hvg2
  -- raw, was
  refine zq_parG (Z := Z) (T := Y.T) (K := K) (n := n + 1040 + 1 + 1 + 1 + 1) (m := n + 1046) (za_2 (P := RawOf m) (P1 := (· = .str eg.shown)) (m := n + 1046) (z_up (z_callZ (c := 2) (i := 0) (Pa := (· = [dq m])) rfl (Ra.z (ra_cons (rv_var (i := 5) rfl hvm) ra_nil)) (fun ds e => ⟨⟨m, e, hmz.mono (by decide)⟩, Nat.le_refl _, fun d ⟨q, h1, h2⟩ => ?_⟩) (by omega)) (by omega))
    (Rv.z (rv_repr (rv_var (i := 2) rfl hvg3) (.inr hsq) hwd hw1 hw2))) a3 fun ds vs' G4 H4 g4 a4 hds hvs' => ?_
  · rw [e] at h1
    rw [dq_inj (List.cons.inj h1).1]
    exact h2
  obtain ⟨er, ew, rfl, her, rfl⟩ := hds
  obtain ⟨vr, vw, rfl, hvr, hvw⟩ := dp2 hvs'
  refine ⟨vr, vw, rfl, ?_⟩
  have hT := raw_told her (hmz.mono (by decide))
  have hvc4 := sdp g4.g hvc3
  have hvg4 := sdp g4.g hvg3
  have hvm4 := sdp g4.g hvm
  have ha := held_all hc hmz
  have hfT := back_t hc hmz
  obtain ⟨wf, pf, _⟩ := back_ok (m := m) hc.t.w
  have hfl : (back c m).1.length ≤ 1000 := Nat.le_trans hfT.len (by decide)
  -- found, ahead
  refine zq_parR (Z := Z) (T := Y.T) (R1 := IsVc K G4 (back c m)) (R2 := fun G => IsOc K G (Qk.ahead c m)) (rv_held (rv_var (i := 2) rfl hvg4) (rv_var (i := 6) rfl hvr) hP hT ha.o) (fun G5 e5 => rv_pushed (rv_var (i := 2) rfl (sdp e5 hvg4)) (rv_var (i := 6) rfl (sdp e5 hvr)) hP hT (aheadOk_all hc hmz)) a4 fun vf va G5 H5 G6 H6 s5 hvf s6 hva => ?_
  have a5 := a4.step s5
  have a6 := a5.step s6
  have hvf6 := sdp s6.g hvf.d
  have e56 := Same.trans s5.g s6.g
  -- held_right, the text as it was
  refine zq_no (Z := Z) (T := Y.T) (rt_or (a := false) (b := false) (rt_not (a := true) (rt_B (rv_call3 (a := back c m) (b := c) (c := m) (ra_cons (rv_var (i := 8) rfl hvf6) (ra_cons (rv_var (i := 1) rfl (sdp e56 hvc4)) (ra_cons (rv_var (i := 5) rfl (sdp e56 hvm4)) ra_nil))) ⟨ha.l, ha.h, ha.m⟩))) fun _ => rt_test (rv_neS (rv_repr (rv_var (i := 2) rfl (sdp e56 hvg4)) (.inr hsq) hwd hw1 hw2) (rv_var (i := 7) rfl (sdp e56 hvw)))) a6 fun G7 H7 s7 => ?_
  have a7 := a6.step s7
  have e57 := Same.trans s6.g s7.g
  have e47 := Same.trans s5.g e57
  have hvaD : Dp K G7 va (dov (Qk.ahead c m)) := sdp s7.g hva.d
  -- None just if the last slope is above most; else right
  have hlt : Rv Y.T (tCall (Sp2 Y.T K dq dq SzP fun p q => IsD K (.bool (decide (p < q)))) [] E0 (tCons (tVar 5) (tCons (tOp (rIxT K) (tVar 1) (tC (.int 1))) tNil))) (((((((((L2.start ["_law_stream_here", "_law_curve", "_law_given", "_law_slopes", "_law_drawn", "_law_most", "_law_raw_here", "_law_was", "_law_found", "_law_ahead", "_law_kept", "_law_other"] [V.ref Z.s, vc]).set 2 (some vg)).set 3 (some vs)).set 4 (some vd)).set 5 (some vm)).set 6 (some vr)).set 7 (some vw)).set 8 (some vf)).set 9 (some va)) G7 (IsD K (.bool (decide (m < c.2)))) :=
    rv_call2 (a := m) (b := c.2) (ra_cons (rv_var (i := 5) rfl (sdp e47 hvm4)) (ra_cons (rv_v1 (a := c) (rv_var (i := 1) rfl (sdp e47 hvc4))) ra_nil)) ⟨15, 15, hmz, hcs2, by decide⟩
  have hcase : (Qk.ahead c m = none ∧ m < c.2) ∨ (¬ m < c.2 ∧ ∃ f, PushedAll c m f ∧ Tr 135 195 15 30 f) := by
    by_cases q : m < c.2
    · exact .inl ⟨ahead_none q, q⟩
    · obtain ⟨f, hf⟩ := pushed_all hc hmz q
      have t := ahead_tr (n := 15) hc.t hmz q (by decide) (by decide)
      have e2 : Qk.ahead c m = some (summed (line m) (laterTops (apart c (line m)))) := by
        unfold Qk.ahead
        rw [if_neg q]
      have e3 := hf.e
      rw [e2] at e3
      cases e3
      exact .inr ⟨q, _, hf, t⟩
  have hwa : (dov (Qk.ahead c m) = .none ∨ isSeq (dov (Qk.ahead c m)) = true) ∧ ∃ n k, Wd (dov (Qk.ahead c m)) n k ∧ n ≤ 100000 ∧ k ≤ 20 := by
    rcases hcase with ⟨e, _⟩ | ⟨_, f, hf, t⟩
    · rw [e]
      exact ⟨.inl rfl, 4, 0, .none, by decide, by decide⟩
    · rw [hf.e]
      obtain ⟨h1, h2⟩ := dv_wd t (by decide) (by decide) (by decide) (by decide)
      exact ⟨.inr h1, h2⟩
  obtain ⟨hwo, x1, x2, hwx, hx1, hx2⟩ := hwa
  refine zq_no (Z := Z) (T := Y.T) ?_ a7 fun G8 H8 s8 => ?_
  · rcases hcase with ⟨e, q⟩ | ⟨q, f, hf, _⟩
    · rw [e] at hvaD
      have hvN : Dp K G7 va .none := hvaD
      refine rt_or (a := false) (b := false) ((rt_test (rv_neB (a := true) (b := decide (m < c.2)) (rv_isN (d := .none) (rv_var (i := 9) rfl hvN)) hlt)).to (by rw [decide_eq_true q]; rfl)) fun _ => (rt_and (a := false) (b := false) (rt_test (rv_notN (d := .none) (rv_var (i := 9) rfl hvN))) fun z => nomatch z)
    · rw [hf.e] at hvaD
      have hvF : Dp K G7 va (dv f) := hvaD
      refine rt_or (a := false) (b := false) ((rt_test (rv_neB (a := false) (b := decide (m < c.2)) (rv_isN (d := dv f) (rv_var (i := 9) rfl hvF)) hlt)).to (by rw [decide_eq_false q]; rfl)) fun _ => (rt_and (a := true) (b := false) (rt_test (rv_notN (d := dv f) (rv_var (i := 9) rfl hvF))) fun _ => rt_not (a := true) (rt_B (rv_call3 (a := f) (b := c) (c := m) (ra_cons (rv_var (i := 9) rfl hvF) (ra_cons (rv_var (i := 1) rfl (sdp e47 hvc4)) (ra_cons (rv_var (i := 5) rfl (sdp e47 hvm4)) ra_nil))) ⟨hf.l, hf.h, hf.m, hf.r⟩)))
  have a8 := a7.step s8
  -- kept
  refine zq_setR (Z := Z) (T := Y.T) (R := IsD K (.str (dov (Qk.ahead c m)).shown)) (rv_repr (rv_var (i := 9) rfl (sdp s8.g hvaD)) hwo hwx hx1 hx2) a8 fun vk G9 H9 s9 hvk => ?_
  cases dp_str hvk
  have a9 := a8.step s9
  have e69 := Same.trans (Same.trans s7.g s8.g) s9.g
  have e59 := Same.trans s6.g e69
  have e49 := Same.trans s5.g e59
  -- the same again, by keywords
  refine zq_no (Z := Z) (T := Y.T) ((rt_test (rv_neD (d := dov (Qk.ahead c m)) (e := dov (Qk.ahead c m)) (Rv.od (rv_pushedK (rv_var (i := 2) rfl (sdp e49 hvg4)) (rv_var (i := 6) rfl (sdp e49 hvr)) hP hT (aheadOk_all hc hmz))) (rv_var (i := 9) rfl (sdp e69 hva.d)) (shaped_dov _) (shaped_dov _))).to (by rw [eqv_dov]; rfl)) a9 fun G10 H10 s10 => ?_
  have a10 := a9.step s10
  have e610 := Same.trans e69 s10.g
  have g510 : Go Z G5 H5 G10 H10 := ((s6.go.trans s7.go).trans (s8.go.trans s9.go)).trans s10.go
  -- ahead is changed: behind it the clean part is the one where found is told
  have hvaIs : isNon (dov (Qk.ahead c m)) = false → ∃ p, ∃ l s xs, va = .ref p ∧ G6 p = some (.tup [.ref l, s]) ∧ G5 l = none ∧ G6 l = some (.lst xs) ∧ xs.length ≤ 1000 := fun q => by
    rcases hcase with ⟨e, _⟩ | ⟨_, f, hf, t⟩
    · rw [e] at q
      cases q
    · have hva' := hva
      rw [hf.e] at hva'
      obtain ⟨p, _, h⟩ := vc_late hva' (Nat.le_trans t.len (by decide))
      exact ⟨p, h⟩
  obtain ⟨p9, hp9⟩ : ∃ p, (!isNon (dov (Qk.ahead c m))) = true → ∃ l s xs, va = .ref p ∧ G10 p = some (.tup [.ref l, s]) ∧ G5 l = none ∧ G10 l = some (.lst xs) ∧ xs.length ≤ 1000 := by
    cases q : isNon (dov (Qk.ahead c m)) with
    | true => exact ⟨0, fun z => nomatch z⟩
    | false =>
      obtain ⟨p, l, s, xs, h1, h2, h3, h4, h5⟩ := hvaIs q
      exact ⟨p, fun _ => ⟨l, s, xs, h1, e610 _ _ h2, h3, e610 _ _ h4, h5⟩⟩
  refine zq_late (Z := Z) (T := Y.T) (K := K) (p := p9) (v := va) (rt_test (rv_notN (d := dov (Qk.ahead c m)) (rv_var (i := 9) rfl (sdp e610 hva.d)))) g510 a10 rfl hp9 fun H11 g11 a11 => ?_
  -- the text of it anew
  have e45 := s5.g
  have hvc5 := sdp e45 hvc4
  have hvg5 := sdp e45 hvg4
  have hvm5 := sdp e45 hvm4
  have hvr5 := sdp e45 hvr
  refine zq_no (Z := Z) (T := Y.T) (rt_test (rv_neS (rv_repr (d := dov (Qk.ahead c m)) (Rv.od (rv_pushed (rv_var (i := 2) rfl hvg5) (rv_var (i := 6) rfl hvr5) hP hT (aheadOk_all hc hmz))) hwo hwx hx1 hx2) (rv_var (i := 10) rfl (.str _)))) a11 fun G12 H12 s12 => ?_
  have a12 := a11.step s12
  -- other
  refine zq_setE (Z := Z) (T := Y.T) (K := K) (n := n + 1046) (m := n + 1046 + 1 + 1) (P := QP (Sz 15)) (z_low (p := fun v => -4 ≤ v ∧ v ≤ 4) (q := fun v => v = 1 ∨ v = 2) (m := n + 1046 + 1)
    (z_sub (p := fun v => 0 ≤ v ∧ v < 9) (q := (· = 4)) (z_draw (B := 9) (i := 0) rfl (z_int.imp fun d ⟨i, e, h⟩ => ⟨i, e, by omega⟩) (by decide) (by omega)) z_int (fun i j h1 h2 => by omega))
    (z_pickL (is := [1, 2]) (i := 0) rfl (ra_cons rv_i (ra_cons rv_i ra_nil)) (by decide) (by decide) (by decide) (by omega))
    (fun i j h1 h2 => ⟨by omega, lt9000 (by omega), tw_q (by omega) (by omega)⟩)) a12 fun d vo G13 H13 g13 a13 hor hvo => ?_
  obtain ⟨m2, rfl, hm2⟩ := hor
  have h2 := held2_all hc hmz hm2
  have e513 := Same.trans s12.g g13.g
  have hz2 : ([m, m2] : List Rat) ≠ [] ∧ ∀ q ∈ ([m, m2] : List Rat), Sz 4500 q := ⟨by simp, fun q hq => by
    simp only [List.mem_cons, List.not_mem_nil, or_false] at hq
    rcases hq with z | z <;> rw [z]
    · exact hmz.mono (by decide)
    · exact hm2.mono (by decide)⟩
  have hle : ([m, m2] : List Rat).foldl rmin (([m, m2] : List Rat).headD 0) = if m2 < m then m2 else m := by
    show rmin (rmin m m) m2 = _
    have : rmin m m = m := by
      unfold rmin
      split <;> rfl
    rw [this]
    rfl
  have hPf : Passed (back c m) (dv (back c m)) := passed_self hfT pf (by decide) (by decide) (by decide) (by decide)
  refine zq_no (Z := Z) (T := Y.T) (rt_not (a := true) (rt_B (rv_call3 (a := back (back c m) m2) (b := c) (c := if m2 < m then m2 else m) (ra_cons (Rv.vd (rv_held (rv_var (i := 8) rfl (sdp e513 hvf.d)) (rv_var (i := 11) rfl hvo) hPf (raw_told (raw_self m2) (hm2.mono (by decide))) h2.o)) (ra_cons (rv_var (i := 1) rfl (sdp e513 hvc5)) (ra_cons ((rv_call1 (d1 := fun qs : List Rat => .list (qs.map dq)) (out := fun qs : List Rat => IsD K (dq (qs.foldl rmin (qs.headD 0)))) (a := [m, m2]) (ra_cons (Rv.ld (rv_lst (ds := [dq m, dq m2]) (ra_cons (rv_var (i := 5) rfl (sdp e513 hvm5)) (ra_cons (rv_var (i := 11) rfl hvo) ra_nil)) (by simp))) ra_nil) hz2).to (congrArg dq hle)) ra_nil))) ⟨h2.l, h2.h, h2.m⟩))) a13 fun G14 H14 s14 => ?_
  have a14 := a13.step s14
  have g414 : Go Z G4 H4 G14 H14 := (((s5.go.trans g11).trans s12.go).trans g13).trans s14.go
  have e514 := Same.trans e513 s14.g
  -- found is changed
  obtain ⟨p8, _, l8, s8', xs8, q1, q2, q3, q4, q5⟩ := vc_late hvf hfl
  refine zq_late1 (Z := Z) (T := Y.T) (K := K) (p := p8) (v := vf) g414 a14 rfl ⟨l8, s8', xs8, q1, e514 _ _ q2, q3, e514 _ _ q4, q5⟩ fun H15 g15 a15 => ?_
  refine zs_ret (Z := Z) (T := Y.T) (P := (· = .bool true)) (m := n + 1046 + 1 + 1) (Rv.z (rv_call3 (a := back c m) (b := c) (c := m) (ra_cons (Rv.vd (rv_heldK (rv_var (i := 2) rfl hvg4) (rv_var (i := 6) rfl hvr) hP hT ha.o)) (ra_cons (rv_var (i := 1) rfl hvc4) (ra_cons (rv_var (i := 5) rfl hvm4) ra_nil))) ⟨ha.l, ha.h, ha.m⟩)) a15 fun d v G' H' go a' hp hv => ?_
  exact k d v G' H' ((((g1.trans g2).trans g3).trans (g4.trans g15)).trans go) (a'.up (show n + 1046 + 1 + 1 ≤ n + 1100 by omega)) hp hv
end
end Qw
namespace Qw
open PySem PySem.Spec PyProof.Rows L2 LamX Qk
/-! ### the law's lambdas -/
/-- the law's own table of code objects -/
structure TxL {K : PySem.W.Frag} {mg : Str → Option Value} {base : Heap} (Y : Tx K mg base) where
  c3 : Addr
  p3 : Addr
  o3 : FunC K "law" "law" (topS 84) Y.f_law.a Y.f_law.fd c3
  b3 : TabB base mg c3 p3
  t3 : (p3, (("law" : Str) ++ ".<locals>.") ++ "<lambda>") ∈ Y.T
  u3 : ∀ p ∈ Y.T, p.1 = p3 → p.2 = (("law" : Str) ++ ".<locals>.") ++ "<lambda>"
  fn_h : PySem.W.typeIn K (.ref Y.f_held_back.a) = some (.type "function")
  fn_p : PySem.W.typeIn K (.ref Y.f_pushed_ahead.a) = some (.type "function")
theorem FunC.okG {P : Program} {w : World} {K : PySem.W.Frag} {mg : Str → Option Value} {base : Heap} {x qual : Str} {st : Stmt} {f : Addr} {fd : FuncData} {c : Addr} {N ps : List Str} {k : Nat} {sp : Sp} (F : FunC K x qual st f fd c) (S : FnScope N ps (defScope st)) (len : ∀ vs H Q E, sp vs H Q E → vs.length = ps.length)
    (body : ∀ (A : Around) (outer : List Env) (s : Shared) (H : Hp) (vs : List V) (Q : VK) (E : XK), A.guards = some [] → Room k (A.deeper (envOfC qual (defScope st) s.heap.objs.size f (.ref c))) → sp vs H Q E →
      ∃ t, PSs (cxOf CX0 P w K mg base N qual (defScope st) f (.ref c) A outer s H E).nox (defBody st) t ∧ t { nx := fun _ H' => Q .non H', rt := Q } (L2.start N vs) H) : FnG P w K mg base (k + 1) f fd ps sp := by
  obtain ⟨oc, od, kV, doc, pm, an, ct, osl, rfl, lk, hcd⟩ := F.ex
  constructor
  · exact len
  · intro A outer s H args us vs Q E gd room e0 hb r hsp
    apply run_ofS lk hcd S room e0 hb r (len _ _ _ _ hsp)
    intro room2
    obtain ⟨t, ht, hq⟩ := body A outer s H vs Q E gd room2 hsp
    exact ⟨t, ht.nox, hq⟩
theorem pe_either {X : Cx} {e : Expr} {t1 t2 : TE} (h1 : PE X e t1) (h2 : PE X e t2) : PE X e (fun σ H Q => t1 σ H Q ∨ t2 σ H Q) := ⟨fun pins s σ H Q I h => h.elim (h1.run pins s σ H Q I) (h2.run pins s σ H Q I)⟩
theorem pe_tried {X : Cx} (Y : Tx X.K X.mg X.base) {c P : Addr} {k : Nat} {params : Arguments} {body : Expr} {scope : Scope} {t : XK → TE} {p lpos pos : Pos} (TB : TabB X.base X.mg c P) (hcode : X.env.code = .ref c) (hmT : (P, X.env.qual ++ "<lambda>") ∈ Y.T) (hu : ∀ p ∈ Y.T, p.1 = P → p.2 = X.env.qual ++ "<lambda>")
    (room : Room (k + 2) X.A) (L : LamS X.env.scope scope) (hdef : defaultsOf params X.env = ([], [])) (hbind : ∀ (q : Str) (cl : List (Str × Addr)) (pm cv ctv : Value), bindArgs (PySem.W.kla_fn "<lambda>" q params body scope cl pm cv ctv) ⟨[], []⟩ = pure [])
    (hbody : ∀ (A : Around) (outer : List Env) (s : Shared) (H : Hp) (E : XK) (f c' : Addr), Room k (A.deeper (lamEnv X scope s.heap.objs.size f c')) → PE (lamCx X A outer s H E scope f c') body (t E)) (hg : Gl X "_law_tried" := by rfl) :
    PE X (.Call (.Name "_law_tried" p) [.Lambda params body scope lpos] [] pos) (tLam Y.T (TTried Y.xC.C Y.xF.C) t) := by
  have hb := Y.f__law_tried.b
  have kp := Y.f__law_tried.F.kp
  have hm := Y.f__law_tried.g
  obtain ⟨oc, od, kV, doc, pm, an, cdv, ct, osl, efd, lk, hcd⟩ := Y.f__law_tried.F.ex
  rw [efd] at hb lk
  exact pe_lamcall (Ng := ["_law_ask", "e"]) hg hm kp lk hcd hb sc__law_tried rfl (Or.inl rfl) (tried_gives Y) TB hcode hmT hu room L hdef hbind hbody
section
variable {Z : Stm} {T : List (Addr × Str)} {K : PySem.W.Frag} {σ : L2.St} {G G0 H0 G' H H' G1 H1 : Hp} {ta tb te tl : TE} {tt tu : TT} {ds es : List PyData} {aa : TA} {n m k i j l : Nat} {P P1 P2 : PyData → Prop} {Pa : List PyData → Prop} {D : Ends} {tbd tz t1 t2 : TS} {ss : List Slot} {o : Addr} {E : XK} {d e : PyData} {R : Rp} {CC CF : Addr}
theorem Step.ofExt (x : ExtN H H1) (t : Tabs T H1) (c : Cl G H) : Step T G H G H1 := ⟨x, t, Same.refl G, fun b u z => ⟨x b u (c b u z).1 (c b u z).2, (c b u z).2⟩, fun _ _ _ _ _ => rfl⟩
/-- without what was taken among the clean for a while -/
theorem Step.less {p : Addr} {u : HO} (s : Step T (upd G p u) H G' H') (hG : G p = none) : Step T G H (fun b => if b = p then none else G' b) H' := by
  refine ⟨s.x, s.t, fun b o z => ?_, fun b o z => ?_, fun b o z n1 n2 => ?_⟩
  · have hb : b ≠ p := ne_of_none z hG
    show (if b = p then none else G' b) = some o
    rw [if_neg hb]
    exact s.g b o (by rw [upd_ne hb]; exact z)
  · have z : (if b = p then none else G' b) = some o := z
    by_cases hb : b = p
    · rw [if_pos hb] at z
      cases z
    · rw [if_neg hb] at z
      exact s.s b o z
  · show (if b = p then none else G' b) = G b
    by_cases hb : b = p
    · rw [if_pos hb, hb, hG]
    · rw [if_neg hb, s.f0 b o z n1 n2, upd_ne hb]
/-- found, and held, between the law's statements -/
structure Lw (Z : Stm) (T : List (Addr × Str)) (G0 H0 G H : Hp) (n : Nat) (o h : Addr) (acc : List V) : Prop where
  go : Go Z G0 H0 G H
  at_ : At Z T G H n
  nw : Nw H0 o
  ns : o ≠ Z.s
  nl : o ≠ Z.l
  gn : G o = none
  ho : H o = some (.lst acc)
  nwh : Nw H0 h
  nsh : h ≠ Z.s
  nlh : h ≠ Z.l
  gh : G h = none
  hh : H h = some (.lst [.non])
  ne : o ≠ h
theorem Lw.step {h : Addr} {acc : List V} (w : Lw Z T G0 H0 G H n o h acc) (s : Step T G H G1 H1) : Lw Z T G0 H0 G1 H1 n o h acc :=
  ⟨w.go.trans s.go, w.at_.step s, w.nw, w.ns, w.nl, (s.f o _ w.ho).trans w.gn, s.x o _ w.ho lst_tbl, w.nwh, w.nsh, w.nlh, (s.f h _ w.hh).trans w.gh, s.x h _ w.hh lst_tbl, w.ne⟩
theorem Lw.more {h : Addr} {acc : List V} {v : V} (w : Lw Z T G0 H0 G H n o h acc) : Lw Z T G0 H0 G (upd H o (.lst (acc ++ [v]))) n o h (acc ++ [v]) :=
  ⟨w.go.mut w.nw, w.at_.mut w.gn w.ho w.ns w.nl, w.nw, w.ns, w.nl, w.gn, upd_same, w.nwh, w.nsh, w.nlh, w.gh, by rw [upd_ne w.ne.symm]; exact w.hh, w.ne⟩
/-- found.append(_law_tried(lambda: ..)) -/
theorem zs_tried {h : Addr} {acc : List V} {s : Str} {u : V} {t : XK → TE} (w : Lw Z T G0 H0 G H n o h acc) (ho : σ[i]? = some (some (.ref o)))
    (hrx : ∀ H, Lw Z T G0 H0 G H n o h acc → ∀ Q : VK, (∀ p G' H', Step T G H G' H' → G' p = some (.tup [.str s, u]) → Q (.ref p) H') → TTried CC CF (fun E H' Q' => t E σ H' Q') H Q) (hz : acc.length < 1000)
    (k : ∀ p G' H', Same G G' → Lw Z T G0 H0 G' H' n o h (acc ++ [.ref p]) → G' p = some (.tup [.str s, u]) → D.nx σ H') : tDrop (tBM K "list" rAppend (tVar i) (tCons (tLam T (TTried CC CF) t) tNil)) D σ H :=
  ⟨.ref o, ho, .inl ⟨rfl, acc, .inl (.inl w.ho)⟩, w.at_.t, fun H1 e1 t1 => hrx H1 (w.step (Step.ofExt e1 t1 w.at_.c)) _ fun p G' H' st hp => by
    have w2 := (w.step (Step.ofExt e1 t1 w.at_.c)).step st
    exact ⟨o, acc, .ref p, rfl, rfl, w2.ho, small_lt (by omega), k p G' _ st.g w2.more hp⟩⟩
theorem zq_tried {h : Addr} {acc : List V} {s : Str} {u : V} {t : XK → TE} (w : Lw Z T G0 H0 G H n o h acc) (ho : σ[i]? = some (some (.ref o)))
    (hrx : ∀ H, Lw Z T G0 H0 G H n o h acc → ∀ Q : VK, (∀ p G' H', Step T G H G' H' → G' p = some (.tup [.str s, u]) → Q (.ref p) H') → TTried CC CF (fun E H' Q' => t E σ H' Q') H Q) (hz : acc.length < 1000)
    (k : ∀ p G' H', Same G G' → Lw Z T G0 H0 G' H' n o h (acc ++ [.ref p]) → G' p = some (.tup [.str s, u]) → tz D σ H') : tSeq (tDrop (tBM K "list" rAppend (tVar i) (tCons (tLam T (TTried CC CF) t) tNil))) tz D σ H :=
  zs_tried (D := { D with nx := tz D }) w ho hrx hz k
/-- the two errors, caught -/
theorem tried_c {u : V} {tl : XK → Hp → VK → Prop} (hrx : ∀ (E : XK) (Q : VK), Raised T G H CC u E → tl E H Q) (Q : VK) (k : ∀ p G' H', Step T G H G' H' → G' p = some (.tup [.str "curve", u]) → Q (.ref p) H') : TTried CC CF tl H Q :=
  hrx _ _ fun G' H' dx s hx => ⟨dx, u, rfl, hx, .inl ⟨rfl, fun p hp => k p _ _ (s.trans (Step.new s.t s.s hp tup_tbl)) upd_same⟩⟩
theorem tried_f {u : V} {tl : XK → Hp → VK → Prop} (hrx : ∀ (E : XK) (Q : VK), Raised T G H CF u E → tl E H Q) (Q : VK) (k : ∀ p G' H', Step T G H G' H' → G' p = some (.tup [.str "fraction", u]) → Q (.ref p) H') : TTried CC CF tl H Q :=
  hrx _ _ fun G' H' dx s hx => ⟨dx, u, rfl, hx, .inr ⟨rfl, fun p hp => k p _ _ (s.trans (Step.new s.t s.s hp tup_tbl)) upd_same⟩⟩
theorem spx2_c {okp : PyData → PyData → Prop} {out : Hp → PyData → PyData → Rp} {u v : V} {Q : VK} (c : Cl G H) (t : Tabs T H) (hd : Dp K G u d) (he : Dp K G v e) (hm : Mild d) (hs : smallD e = true) (hc : curvB d = false) (r : Raised T G H CC u E) : SpX2 T K CC CF okp out [u, v] H Q E :=
  ⟨G, d, e, u, v, rfl, c, t, .cons hd (.cons he .nil), hm, hs, (fun z => by rw [hc] at z; cases z), (fun z => by rw [hc] at z; cases z), fun _ => r, fun z => by rw [hc] at z; cases z⟩
theorem spx2_f {okp : PyData → PyData → Prop} {out : Hp → PyData → PyData → Rp} {u v : V} {Q : VK} (c : Cl G H) (t : Tabs T H) (hd : Dp K G u d) (he : Dp K G v e) (hm : Mild d) (hs : smallD e = true) (hk : SlOk (toldV d).1) (hc : curvB d = true) (hf : fracB e = false) (r : Raised T G H CF v E) : SpX2 T K CC CF okp out [u, v] H Q E :=
  ⟨G, d, e, u, v, rfl, c, t, .cons hd (.cons he .nil), hm, hs, fun _ => hk, (fun _ z => by rw [hf] at z; cases z), (fun z => by rw [hc] at z; cases z), fun _ _ => r⟩
/-- xs * 2 -/
theorem rv_twice (h : Rv T te σ G (IsL K ds)) (hl : ds.length ≤ 100) : Rv T (tOp rRep te (tC (.int 2))) σ G (IsL K (ds ++ ds)) := fun H t c Q q =>
  h H t c _ fun v G2 H2 s2 hv => by
    obtain ⟨a, xs, rfl, hs, hd⟩ := hv
    have hxl := dpAll_len hd
    refine ⟨a, 2, xs, rfl, rfl, (s2.s a _ hs).1, by decide, by decide, small_line (by show xs.length * 2 ≤ 100000; omega), fun p hp => ?_⟩
    have e : (List.replicate (2 : Int).toNat xs).flatten = xs ++ xs := by
      show (List.replicate 2 xs).flatten = xs ++ xs
      simp [List.replicate]
    rw [e]
    have st : Step T G2 H2 (upd G2 p (.lst (xs ++ xs))) (upd H2 p (.lst (xs ++ xs))) := Step.new s2.t s2.s hp lst_tbl
    exact q _ _ _ (s2.trans st) ⟨p, _, rfl, upd_same, dpAll_app (sdpAll st.g hd) (sdpAll st.g hd)⟩
/-- if p or q: return False; q drawn; none is so -/
theorem zq_noOr (h1 : Rt T tt σ G false) (h2 : ∀ G1, Same G G1 → RtZ Z T n m tu σ G1 (· = false)) (a : At Z T G H n) (k : ∀ G' H', Go Z G H G' H' → At Z T G' H' m → tz D σ H') : tSeq (tIfS (tOr tt tu) t1 tNext) tz D σ H :=
  h1 H a.t a.c _ fun G1 H1 s1 => iteF (h2 G1 s1.g H1 (a.step s1) _ fun b G2 H2 g2 a2 hb => by
    subst hb
    exact iteF (k G2 H2 (s1.go.trans g2) a2))
theorem zt_not (h : RvZ Z T K n m te σ G (· = .bool true)) : RtZ Z T n m (tNot (tTest te)) σ G (· = false) := fun H a Q q => h H a _ fun d v G2 H2 go a2 e hv => by
  subst e
  exact ⟨true, dp_bl hv, q false G2 H2 go a2 rfl⟩
/-- a, b = e, the whole of it read first, told -/
theorem zq_twoE (h : RaZ Z T K n m aa σ G (fun ds => ∃ d1 d2, ds = [d1, d2] ∧ P d1 ∧ P1 d2)) (a : At Z T G H n) (k : ∀ d1 d2 x y G' H', P d1 → P1 d2 → Go Z G H G' H' → At Z T G' H' m → Dp K G' x d1 → Dp K G' y d2 → tz D ((σ.set i (some x)).set j (some y)) H') : tSeq (tAsg (tTup aa) (gTup K 2 (gCons (gName i) (gCons (gName j) gNil)))) tz D σ H :=
  h H a _ fun ds vs G' H' go a' ⟨d1, d2, e, p1, p2⟩ hv => by
    subst e
    obtain ⟨x, y, rfl, hx, hy⟩ := dp2 hv
    refine ⟨by show 2 ≤ sizeLine; decide, fun p hp => ?_⟩
    have st : Step T G' H' (upd G' p (.tup [x, y])) (upd H' p (.tup [x, y])) := Step.new a'.t a'.c hp tup_tbl
    refine ⟨p, [x, y], rfl, .inl (.inl upd_same), rfl, x, [y], rfl, y, [], rfl, rfl, ?_⟩
    exact k d1 d2 x y _ _ p1 p2 (go.trans st.go) (a'.step st) (sdp st.g hx) (sdp st.g hy)
/-- held, found = [None], [] -/
theorem zq_heldfound (a : At Z T G H n) (k : ∀ h o H', Lw Z T G H G H' n o h [] → tz D ((σ.set i (some (.ref h))).set j (some (.ref o))) H') : tSeq (tAsg (tTup (tCons (tLst (tCons (tC .non) tNil)) (tCons (tLst tNil) tNil))) (gTup K 2 (gCons (gName i) (gCons (gName j) gNil)))) tz D σ H :=
  ⟨by show 1 ≤ sizeLine; decide, fun h hh => ⟨Nat.zero_le _, fun o ho => ⟨by show 2 ≤ sizeLine; decide, fun p hp => by
    obtain ⟨h1, h2⟩ := a.ns hh
    have a1 := a.newH (o := .lst [.non]) hh
    obtain ⟨o1, o2⟩ := a1.ns ho
    have a2 := a1.newH (o := .lst []) ho
    have a3 := a2.newH (o := .tup [.ref h, .ref o]) hp
    have g1 : Go Z G H G (upd H h (.lst [.non])) := (Step.newH a.t a.c hh).go
    have g2 : Go Z G (upd H h (.lst [.non])) G (upd (upd H h (.lst [.non])) o (.lst [])) := (Step.newH a1.t a1.c ho).go
    have g3 : Go Z G (upd (upd H h (.lst [.non])) o (.lst [])) G (upd (upd (upd H h (.lst [.non])) o (.lst [])) p (.tup [.ref h, .ref o])) := (Step.newH a2.t a2.c hp).go
    have no : o ≠ h := fun z => by
      rw [z, upd_same] at ho
      cases ho
    have nop : o ≠ p := fun z => by
      rw [← z, upd_same] at hp
      cases hp
    have nhp : h ≠ p := fun z => by
      rw [← z, upd_ne no.symm, upd_same] at hp
      cases hp
    have ho' : H o = none := by
      rw [upd_ne no] at ho
      exact ho
    refine ⟨p, [.ref h, .ref o], rfl, .inl (.inl upd_same), rfl, .ref h, [.ref o], rfl, .ref o, [], rfl, rfl, ?_⟩
    exact k h o _ ⟨(g1.trans g2).trans g3, a3, Nw.of ho', o1, o2, clean_none a1.c ho, by rw [upd_ne nop, upd_same], Nw.of hh, h1, h2, clean_none a.c hh, by rw [upd_ne nhp, upd_ne no.symm, upd_same], no⟩⟩⟩⟩
/-- held.append('late') -/
theorem zq_heldlate {h : Addr} {acc : List V} (w : Lw Z T G0 H0 G H n o h acc) (hσ : σ[i]? = some (some (.ref h))) (k : ∀ H', Go Z G0 H0 G H' → At Z T G H' n → H' o = some (.lst acc) → H' h = some (.lst [.non, .str "late"]) → tz D σ H') : tSeq (tDrop (tBM K "list" rAppend (tVar i) (tCons (tC (.str "late")) tNil))) tz D σ H :=
  ⟨.ref h, hσ, .inl ⟨rfl, [.non], .inl (.inl w.hh)⟩, h, [.non], .str "late", rfl, rfl, w.hh, small_lt (by decide), k _ (w.go.mut w.nwh) (w.at_.mut w.gh w.hh w.nsh w.nlh) (by rw [upd_ne w.ne]; exact w.ho) upd_same⟩
end
end Qw
namespace Qw
open PySem PySem.Spec PyProof.Rows L2 LamX Qk
/-! ### things that are no curves, no fractions -/
def noneL : List PyData := [.none, .int 5, .tuple [.int 1, .int 0], .bool true, .str "1", .list [], .dict [], .tuple [.int 1, .bool true], .tuple [.int 1, .int 1, .int 1]]
structure OddOk (d : PyData) : Prop where
  c : curvB d = false
  z : smallD d = true
  l : (itemsD (nthD d 0)).length ≤ 1000
  s : sameOk d = true
  n : dep d ≤ 5
structure NoneOk (d : PyData) : Prop where
  f : fracB d = false
  z : smallD d = true
  s : sameOk d = true
  n : dep d ≤ 5
theorem odd_ok (f : Addr) : ∀ d ∈ oddL f, OddOk d := fun d hd => by
  simp only [oddL, List.mem_cons, List.not_mem_nil, or_false] at hd
  rcases hd with e | e | e | e | e | e | e | e | e | e | e | e | e | e <;> subst e <;> exact ⟨rfl, rfl, Nat.le_of_ble_eq_true rfl, by first | rfl | decide +kernel, Nat.le_of_ble_eq_true rfl⟩
theorem none_ok : ∀ d ∈ noneL, NoneOk d := fun d hd => by
  simp only [noneL, List.mem_cons, List.not_mem_nil, or_false] at hd
  rcases hd with e | e | e | e | e | e | e | e | e <;> subst e <;> exact ⟨rfl, rfl, by first | rfl | decide +kernel, Nat.le_of_ble_eq_true rfl⟩
/-- what found holds, turn for turn -/
def Acc (h : Addr) (u v : V) : Nat → Hp → List V → Prop
  | 0, _, acc => acc = []
  | i + 1, G, acc => ∃ acc0 p1 p2 p3, acc = acc0 ++ [.ref p1] ++ [.ref p2] ++ [.ref p3] ∧ Acc h u v i G acc0 ∧ G p1 = some (.tup [.str "curve", u]) ∧ G p2 = some (.tup [.str "curve", .ref h]) ∧ G p3 = some (.tup [.str "fraction", v])
theorem Acc.mono {h : Addr} {u v : V} {G G' : Hp} (e : Same G G') : ∀ {i : Nat} {acc : List V}, Acc h u v i G acc → Acc h u v i G' acc
  | 0, _, x => x
  | i + 1, _, ⟨acc0, p1, p2, p3, h1, h2, h3, h4, h5⟩ => ⟨acc0, p1, p2, p3, h1, h2.mono e, e _ _ h3, e _ _ h4, e _ _ h5⟩
theorem Acc.len {h : Addr} {u v : V} {G : Hp} : ∀ {i : Nat} {acc : List V}, Acc h u v i G acc → acc.length = 3 * i
  | 0, _, x => by
    have x : _ = [] := x
    rw [x]
    rfl
  | i + 1, _, ⟨acc0, p1, p2, p3, h1, h2, _⟩ => by
    have := h2.len
    rw [h1]
    simp only [List.length_append, List.length_cons, List.length_nil]
    omega
section
variable {Z : Stm} {T : List (Addr × Str)} {K : PySem.W.Frag} {σ : L2.St} {G G0 H0 G' H H' : Hp} {te : TE} {tt : TT} {n m i : Nat} {D : Ends} {t1 tz : TS} {c : Cv} {e : PyData}
theorem At.take {p : Addr} {xs : List V} (a : At Z T G H n) (hl : H p = some (.lst xs)) (hg : G p = none) (h1 : p ≠ Z.s) (h2 : p ≠ Z.l) : At Z T (upd G p (.lst xs)) H n ∧ Same G (upd G p (.lst xs)) := by
  refine ⟨⟨a.t, fun b o z => ?_, by rw [upd_ne h1.symm]; exact a.gs, by rw [upd_ne h2.symm]; exact a.gl, a.st⟩, fun b u z => by
    rw [upd_ne (ne_of_none z hg)]
    exact z⟩
  by_cases hb : b = p
  · subst hb
    rw [upd_same] at z
    cases z
    exact ⟨hl, lst_tbl⟩
  · rw [upd_ne hb] at z
    exact a.c b o z
theorem zq_stream {a : Addr} {xs : List Int} (t : Tabs T H) (h0 : σ[0]? = some (some (.ref a))) (hS : SqL K H a (xs.map .int)) (k : ∀ Z H1, At Z T (fun _ => none) H1 0 → tz D (σ.set 1 (some (.ref Z.s))) H1) : tSeq (tAsg (tCall (SpSt T K) [] E0 (tCons (tVar 0) tNil)) (gName 1)) tz D σ H :=
  ⟨.ref a, h0, fun _ => none, a, xs, (fun b o z => nomatch z), t, rfl, hS, fun Z H1 _ a1 => k Z H1 a1⟩
theorem risenOk_of (hc : Drawn c) (hp : Passed c e) : RisenOk e := by
  have hR := risen_all hc
  refine ⟨hp.s, ?_, ?_⟩
  · rw [hp.v]
    exact hR.2.2.1
  · rw [hp.v]
    exact hR.2.2.2
theorem rv_risen {C : Addr} {ta : TE} (hc : Drawn c) (hp : Passed c e) (h : Rv T ta σ G (IsD K e)) : Rv T (tCall (SpR T K C) [] E0 (tCons ta tNil)) σ G (IsVc K G (neverFalling c)) := by
  have h := rv_callX (T := T) (C := C) (E := E0) (pre := fun d => Mild d ∧ (curvB d = true → RisenOk d)) (good := curvB) (okp := fun _ => True) (out := fun G d => IsVc K G (neverFalling (tv d))) (fun G1 G2 v e r => r.back e) (ra_cons h ra_nil) ⟨hp.m, fun _ => risenOk_of hc hp⟩ hp.b trivial
  rw [hp.v] at h
  exact h
theorem rv_risenK {C : Addr} {ta : TE} (hc : Drawn c) (hp : Passed c e) (h : Rv T ta σ G (IsD K e)) : Rv T (tCallK (SpR T K C) kwG E0 tNil (tCons ta tNil)) σ G (IsVc K G (neverFalling c)) := by
  have h := rv_callKX1 (T := T) (C := C) (E := E0) (pre := fun d => Mild d ∧ (curvB d = true → RisenOk d)) (good := curvB) (okp := fun _ => True) (out := fun G d => IsVc K G (neverFalling (tv d))) (fun G1 G2 v e r => r.back e) (ra_cons h ra_nil) ⟨hp.m, fun _ => risenOk_of hc hp⟩ hp.b trivial
  rw [hp.v] at h
  exact h
/-- the last statement: if ..: return False, not taken -/
theorem zs_no (h : Rt T tt σ G false) (a : At Z T G H n) (k : ∀ G' H', Step T G H G' H' → D.nx σ H') : tIfS tt t1 tNext D σ H := h H a.t a.c _ fun G' H' s => iteF (k G' H' s)
def fnD (a : Addr) : PyData := .dict [(.int (a : Nat), .none)]
theorem fn_is {a : Addr} {v : V} (h : Dp K G v (fnD a)) : v = .ref a := by
  generalize hd : fnD a = d at h
  cases h with
  | fn h1 h2 =>
    unfold fnD at hd
    simp only [PyData.dict.injEq, List.cons.injEq, Prod.mk.injEq, PyData.int.injEq, and_true] at hd
    have : a = _ := Int.ofNat.inj hd
    rw [this]
  | dct h1 => cases hd
  | _ => cases hd
theorem rv_fn {a : Addr} (h1 : PySem.W.keepIn K (.ref a) = true) (h2 : PySem.W.typeIn K (.ref a) = some (.type "function")) : Rv T (tC (.ref a)) σ G (IsD K (fnD a)) := fun H t c Q q => q _ G H (Step.refl t c) (.fn h1 h2)
end
/-- the datum that is due -/
def dueD (d e : PyData) : PyData := .list [.tuple [.str "curve", d], .tuple [.str "curve", .list [.none, .str "late"]], .tuple [.str "fraction", e], .tuple [.str "curve", d], .tuple [.str "curve", .list [.none, .str "late"]], .tuple [.str "fraction", e], .tuple [.str "curve", d]]
theorem due_ok {d e : PyData} (hd : OddOk d) (he : NoneOk e) : sameOk (dueD d e) = true ∧ dep (dueD d e) ≤ 9 := by
  have a1 : sameOk (.tuple [.str "curve", d]) = true := by
    show (decide (([.str "curve", d] : List PyData).length ≤ 1000) && (sameOk (.str "curve") && (sameOk d && true))) = true
    rw [hd.s, show sameOk (.str "curve") = true from by decide +kernel]
    rfl
  have a2 : sameOk (.tuple [.str "curve", .list [.none, .str "late"]]) = true := by decide +kernel
  have a3 : sameOk (.tuple [.str "fraction", e]) = true := by
    show (decide (([.str "fraction", e] : List PyData).length ≤ 1000) && (sameOk (.str "fraction") && (sameOk e && true))) = true
    rw [he.s, show sameOk (.str "fraction") = true from by decide +kernel]
    rfl
  have b1 : dep (.tuple [.str "curve", d]) ≤ 8 := by
    have := hd.n
    show max 0 (max (dep d) 0) + 1 ≤ 8
    omega
  have b2 : dep (.tuple [.str "curve", .list [.none, .str "late"]]) ≤ 8 := by decide +kernel
  have b3 : dep (.tuple [.str "fraction", e]) ≤ 8 := by
    have := he.n
    show max 0 (max (dep e) 0) + 1 ≤ 8
    omega
  refine ⟨?_, ?_⟩
  · show (decide (7 ≤ 1000) && (sameOk (.tuple [.str "curve", d]) && (sameOk (.tuple [.str "curve", .list [.none, .str "late"]]) && (sameOk (.tuple [.str "fraction", e]) && (sameOk (.tuple [.str "curve", d]) && (sameOk (.tuple [.str "curve", .list [.none, .str "late"]]) && (sameOk (.tuple [.str "fraction", e]) && (sameOk (.tuple [.str "curve", d]) && true)))))))) = true
    rw [a1, a2, a3]
    rfl
  · show max (dep (.tuple [.str "curve", d])) (max (dep (.tuple [.str "curve", .list [.none, .str "late"]])) (max (dep (.tuple [.str "fraction", e])) (max (dep (.tuple [.str "curve", d])) (max (dep (.tuple [.str "curve", .list [.none, .str "late"]])) (max (dep (.tuple [.str "fraction", e])) (max (dep (.tuple [.str "curve", d])) 0)))))) + 1 ≤ 9
    omega
section
variable {P : Program} {w : World} {K : PySem.W.Frag} {mg : Str → Option Value} {base : Heap}
theorem ok__law_same (Y : Tx K mg base) : FnOk P w K mg base CX0 10 Y.f__law_same.a Y.f__law_same.fd ["_law_found", "_law_due"] (SpS Y.T K 10) := ok_same_n Y 10
def SpL (T : List (Addr × Str)) (K : PySem.W.Frag) : Sp := fun vs H Q _ => ∃ (a : Addr) (xs : List Int), Tabs T H ∧ vs = [.ref a] ∧ SqL K H a (xs.map .int) ∧ ∀ H', Q (.bl true) H'
abbrev s_law : Stmt := topS 84
theorem sc_law : FnScope ["_law_script", "_law_stream_here", "_law_turn", "_law_curve", "_law_given", "_law_found", "_law_odd_here", "_law_none", "_law_held", "_law_ask", "_law_due"] ["_law_script"] (defScope s_law) := ⟨rfl, rfl, rfl, by decide +kernel, rfl, by decide +kernel, by decide +kernel⟩
set_option maxHeartbeats 8000000 in
theorem ok_law (Y : Tx K mg base) (YL : TxL Y) : FnG P w K mg base 15 Y.f_law.a Y.f_law.fd ["_law_script"] (SpL Y.T K) := by
  refine FunC.okG YL.o3 sc_law (fun vs H Q E h => by obtain ⟨a, xs, _, rfl, _⟩ := h; rfl) (fun A outer s H vs Q E gd hr h => ?_)
  obtain ⟨a, xs, hT, rfl, hS, k⟩ := h
  refine ⟨_, (pss_cons (ps_set (i := 1) sc_law.nd rfl (Or.inl rfl) (pe_call (ok__law_stream Y) (hr.mono (by first | decide | omega)) (by rfl) Y.f__law_stream.g Y.f__law_stream.F.kp Y.f__law_stream.b .nil pass0 (pa_cons (pv 0) pa_nil)))
      (pss_cons (ps_for PassesOwn.never rfl (pi_range1 (by rfl) Y.z_range (pa_cons pe_int pa_nil)) (pg_name (i := 2) sc_law.nd rfl (Or.inl rfl)) (pss_cons (ps_set (i := 3) sc_law.nd rfl (Or.inr rfl) (pe_ifExp (pt_cmpR op_eq (pv 2) pe_int (nomark _)) (pe_call (ok__law_c_long Y) (hr.mono (by first | decide | omega)) (by rfl) Y.f__law_c_long.g Y.f__law_c_long.F.kp Y.f__law_c_long.b .nil pass0 (pa_cons (pv 1) pa_nil)) (pe_call (ok__law_c_drawn Y) (hr.mono (by first | decide | omega)) (by rfl) Y.f__law_c_drawn.g Y.f__law_c_drawn.F.kp Y.f__law_c_drawn.b .nil pass0 (pa_cons (pv 1) (pa_cons pe_int pa_nil)))))
      (pss_cons (ps_set (i := 4) sc_law.nd rfl (Or.inl rfl) (pe_call (ok__law_c_passed Y) (hr.mono (by first | decide | omega)) (by rfl) Y.f__law_c_passed.g Y.f__law_c_passed.F.kp Y.f__law_c_passed.b .nil pass0 (pa_cons (pv 1) (pa_cons (pv 3) pa_nil))))
      (pss_cons (ps_set (i := 5) sc_law.nd rfl (Or.inl rfl) (pe_call (ok_risen Y) (hr.mono (by first | decide | omega)) (by rfl) Y.f_risen.g Y.f_risen.F.kp Y.f_risen.b .nil passX0 (pa_cons (pv 4) pa_nil)))
      (pss_cons (ps_if (PW.pt (pw_or (pt_not (pt_val (pe_call (ok__law_risen_right Y) (hr.mono (by first | decide | omega)) (by rfl) Y.f__law_risen_right.g Y.f__law_risen_right.F.kp Y.f__law_risen_right.b .nil pass0 (pa_cons (pv 5) (pa_cons (pv 3) pa_nil))))) (pw_or1 (pt_not (pt_val (pe_callG (ok__law_kept_right Y) gd (hr.mono (by first | decide | omega)) (by rfl) Y.f__law_kept_right.g Y.f__law_kept_right.F.kp Y.f__law_kept_right.b (pa_cons (pv 1) (pa_cons (pv 3) pa_nil)))))))) (pss_one (ps_ret pe_bl)) pss_nil)
      (pss_cons (ps_expr (pe_bm PySem.F.plainAttrs_list PySem.F.slot_list_append PySem.F.type_list_append mt_append (pe_ix ix_tup (pv 5) pe_int (fun _ _ => rfl)) (pa_cons pe_str pa_nil)))
      (pss_cons (ps_if (pt_not (pt_val (pe_call (ok__law_risen_right Y) (hr.mono (by first | decide | omega)) (by rfl) Y.f__law_risen_right.g Y.f__law_risen_right.F.kp Y.f__law_risen_right.b .nil pass0 (pa_cons (pe_callK0 (ok_risen Y) (hr.mono (by first | decide | omega)) (by rfl) Y.f_risen.g Y.f_risen.F.kp (kb_risen Y) passX0 (pk_cons (pv 4) pk_nil)) (pa_cons (pv 3) pa_nil))))) (pss_one (ps_ret pe_bl)) pss_nil)
      (pss_cons (ps_asg (pe_tup (pa_cons (pe_call (ok__law_odd Y) (hr.mono (by first | decide | omega)) (by rfl) Y.f__law_odd.g Y.f__law_odd.F.kp Y.f__law_odd.b .nil pass0 (pa_cons (pv 1) pa_nil)) (pa_cons (pe_call (ok__law_pick Y) (hr.mono (by first | decide | omega)) (by rfl) Y.f__law_pick.g Y.f__law_pick.F.kp Y.f__law_pick.b .nil pass0 (pa_cons (pv 1) (pa_cons (pe_lst (pa_cons pe_non (pa_cons pe_int (pa_cons (pe_tup (pa_cons pe_int (pa_cons pe_int pa_nil))) (pa_cons pe_bl (pa_cons pe_str (pa_cons (pe_lst pa_nil) (pa_cons pe_dnewK (pa_cons (pe_tup (pa_cons pe_int (pa_cons pe_bl pa_nil))) (pa_cons (pe_tup (pa_cons pe_int (pa_cons pe_int (pa_cons pe_int pa_nil)))) pa_nil)))))))))) pa_nil))) pa_nil))) (pg_tup rfl (pgs_cons (pg_name (i := 6) sc_law.nd rfl (Or.inr rfl)) (pgs_cons (pg_name (i := 7) sc_law.nd rfl (Or.inr rfl)) pgs_nil))))
      (pss_cons (ps_asg (pe_tup (pa_cons (pe_lst (pa_cons pe_non pa_nil)) (pa_cons (pe_lst pa_nil) pa_nil))) (pg_tup rfl (pgs_cons (pg_name (i := 8) sc_law.nd rfl (Or.inr rfl)) (pgs_cons (pg_name (i := 5) sc_law.nd rfl (Or.inl rfl)) pgs_nil))))
      (pss_cons (ps_for PassesOwn.never rfl (pi_tup (pe_tup (pa_cons (pe_glob (v := .ref Y.f_held_back.a) (by rfl) Y.f_held_back.g rfl) (pa_cons (pe_glob (v := .ref Y.f_pushed_ahead.a) (by rfl) Y.f_pushed_ahead.g rfl) pa_nil)))) (pg_name (i := 9) sc_law.nd rfl (Or.inr rfl)) (pss_cons (ps_expr (pe_bm PySem.F.plainAttrs_list PySem.F.slot_list_append PySem.F.type_list_append mt_append (pv 5) (pa_cons (pe_tried Y (k := 9) YL.b3 rfl YL.t3 YL.u3 (hr.mono (by first | decide | omega)) (show LamS (defScope s_law) _ from lamS_by (by decide +kernel)) rfl (fun _ _ _ _ _ => rfl) (fun A outer s H E f c hr2 => (pe_either (pe_callL (i := 9) (f := Y.f_held_back.a) (ok_held_back Y) (hr2.mono (by first | decide | omega)) rfl (Or.inr (Or.inr rfl)) Y.f_held_back.F.kp Y.f_held_back.b .nil (passes_call (takes_of rfl rfl rfl rfl) (fun _ _ _ _ h => h)) (pa_cons (pv 6) (pa_cons (pv 7) pa_nil))) (pe_callL (i := 9) (f := Y.f_pushed_ahead.a) (ok_pushed_ahead Y) (hr2.mono (by first | decide | omega)) rfl (Or.inr (Or.inr rfl)) Y.f_pushed_ahead.F.kp Y.f_pushed_ahead.b .nil (passes_call (takes_of rfl rfl rfl rfl) (fun _ _ _ _ h => h)) (pa_cons (pv 6) (pa_cons (pv 7) pa_nil)))))) pa_nil)))
      (pss_cons (ps_expr (pe_bm PySem.F.plainAttrs_list PySem.F.slot_list_append PySem.F.type_list_append mt_append (pv 5) (pa_cons (pe_tried Y (k := 9) YL.b3 rfl YL.t3 YL.u3 (hr.mono (by first | decide | omega)) (show LamS (defScope s_law) _ from lamS_by (by decide +kernel)) rfl (fun _ _ _ _ _ => rfl) (fun A outer s H E f c hr2 => (pe_either (pe_callL (i := 9) (f := Y.f_held_back.a) (ok_held_back Y) (hr2.mono (by first | decide | omega)) rfl (Or.inr (Or.inr rfl)) Y.f_held_back.F.kp Y.f_held_back.b .nil (passes_call (takes_of rfl rfl rfl rfl) (fun _ _ _ _ h => h)) (pa_cons (pv 8) (pa_cons (pe_tup (pa_cons pe_int (pa_cons pe_int pa_nil))) pa_nil))) (pe_callL (i := 9) (f := Y.f_pushed_ahead.a) (ok_pushed_ahead Y) (hr2.mono (by first | decide | omega)) rfl (Or.inr (Or.inr rfl)) Y.f_pushed_ahead.F.kp Y.f_pushed_ahead.b .nil (passes_call (takes_of rfl rfl rfl rfl) (fun _ _ _ _ h => h)) (pa_cons (pv 8) (pa_cons (pe_tup (pa_cons pe_int (pa_cons pe_int pa_nil))) pa_nil)))))) pa_nil)))
      (pss_one (ps_expr (pe_bm PySem.F.plainAttrs_list PySem.F.slot_list_append PySem.F.type_list_append mt_append (pv 5) (pa_cons (pe_tried Y (k := 9) YL.b3 rfl YL.t3 YL.u3 (hr.mono (by first | decide | omega)) (show LamS (defScope s_law) _ from lamS_by (by decide +kernel)) rfl (fun _ _ _ _ _ => rfl) (fun A outer s H E f c hr2 => (pe_either (pe_callL (i := 9) (f := Y.f_held_back.a) (ok_held_back Y) (hr2.mono (by first | decide | omega)) rfl (Or.inr (Or.inr rfl)) Y.f_held_back.F.kp Y.f_held_back.b .nil (passes_call (takes_of rfl rfl rfl rfl) (fun _ _ _ _ h => h)) (pa_cons (pv 3) (pa_cons (pv 7) pa_nil))) (pe_callL (i := 9) (f := Y.f_pushed_ahead.a) (ok_pushed_ahead Y) (hr2.mono (by first | decide | omega)) rfl (Or.inr (Or.inr rfl)) Y.f_pushed_ahead.F.kp Y.f_pushed_ahead.b .nil (passes_call (takes_of rfl rfl rfl rfl) (fun _ _ _ _ h => h)) (pa_cons (pv 3) (pa_cons (pv 7) pa_nil)))))) pa_nil)))))))
      (pss_cons (ps_expr (pe_bm PySem.F.plainAttrs_list PySem.F.slot_list_append PySem.F.type_list_append mt_append (pv 5) (pa_cons (pe_tried Y (k := 9) YL.b3 rfl YL.t3 YL.u3 (hr.mono (by first | decide | omega)) (show LamS (defScope s_law) _ from lamS_by (by decide +kernel)) rfl (fun _ _ _ _ _ => rfl) (fun A outer s H E f c hr2 => (pe_call (ok_risen Y) (hr2.mono (by first | decide | omega)) (by rfl) Y.f_risen.g Y.f_risen.F.kp Y.f_risen.b .nil (passes_call (takes_of rfl rfl rfl rfl) (fun _ _ _ _ h => h)) (pa_cons (pv 6) pa_nil)))) pa_nil)))
      (pss_cons (ps_expr (pe_bm PySem.F.plainAttrs_list PySem.F.slot_list_append PySem.F.type_list_append mt_append (pv 8) (pa_cons pe_str pa_nil)))
      (pss_cons (ps_set (i := 10) sc_law.nd rfl (Or.inl rfl) (pe_op op_cat (pe_op op_rep (pe_lst (pa_cons (pe_tup (pa_cons pe_str (pa_cons (pv 6) pa_nil))) (pa_cons (pe_tup (pa_cons pe_str (pa_cons (pe_lst (pa_cons pe_non (pa_cons pe_str pa_nil))) pa_nil))) (pa_cons (pe_tup (pa_cons pe_str (pa_cons (pv 7) pa_nil))) pa_nil)))) pe_int) (pe_lst (pa_cons (pe_tup (pa_cons pe_str (pa_cons (pv 6) pa_nil))) pa_nil))))
      (pss_one (ps_if (pt_not (pt_val (pe_call (ok__law_same Y) (hr.mono (by first | decide | omega)) (by rfl) Y.f__law_same.g Y.f__law_same.F.kp Y.f__law_same.b .nil pass0 (pa_cons (pv 5) (pa_cons (pv 10) pa_nil))))) (pss_one (ps_ret pe_bl)) pss_nil)))))))))))))))
      (pss_one (ps_ret pe_bl)))), ?_⟩
  refine zq_stream (T := Y.T) (K := K) hT rfl hS fun Z H1 a1 => ?_
  refine zq_for (K := K) (T := Y.T) (Z := Z) (n := 0) (m := 0) (Ri.z (ri_range1 (n := 6) (ra_cons rv_i ra_nil) (by decide))) a1 fun ds G2 H2 hds g2 a2 => ?_
  subst hds
  refine ⟨fun i σ' G' H' => ∃ (o2 o3 o4 o5 o6 o7 o8 o9 o10 : Option V), σ' = [some (.ref a), some (.ref Z.s), o2, o3, o4, o5, o6, o7, o8, o9, o10] ∧ Same G2 G' ∧ At Z Y.T G' H' (3000 * i),
    ⟨_, _, _, _, _, _, _, _, _, rfl, Same.refl _, a2⟩, fun i σ' G' H' ⟨_, _, _, _, _, _, _, _, _, _, e, at_⟩ => ⟨e, _, at_⟩, fun i d x σ' G' H' G'' H'' hd hI s4 hx => ?_, fun σ' G' H' _ => k H'⟩
  obtain ⟨o2, o3, o4, o5, o6, o7, o8, o9, o10, rfl, e2, a3⟩ := hI
  have hi : i < 6 := by
    have := (List.getElem?_eq_some_iff.mp hd).1
    simpa using this
  have ed : d = .int (0 + (i : Nat)) := by
    rw [List.getElem?_map, List.getElem?_range hi] at hd
    exact (Option.some.inj hd).symm
  subst ed
  have a4 := a3.step s4
  have lim : 3000 * i + 3000 ≤ countLim := by
    show 3000 * i + 3000 ≤ 1000000000
    omega
  -- curve
  refine zq_setE (Z := Z) (T := Y.T) (K := K) (n := 3000 * i) (m := 3000 * i + 60) (P := fun d => ∃ c, d = dv c ∧ Drawn c) (z_if (B := fun _ => True) (m := 3000 * i) (zt_B ((z_eqI (Rv.zi (rv_var (i := 2) rfl hx)) z_int).imp fun d ⟨b, e⟩ => ⟨b, e, trivial⟩))
    (fun _ => z_callZ (c := 60) (i := 1) rfl za_nil (fun ds e => ⟨e, Nat.le_refl _, fun d h => h⟩) (by omega))
    (fun _ => RvZ.up (m := 3000 * i + 40) (k := 3000 * i + 60) (z_callZ (c := 40) (m := 3000 * i) (Pa := (· = [.int 6])) (i := 1) rfl (Ra.z (ra_cons rv_i ra_nil)) (fun ds e => ⟨e, Nat.le_refl _, fun d h => h⟩) (by omega)) (by omega))) a4 fun d vc G5 H5 g5 a5 hcv hvc => ?_
  obtain ⟨c, rfl, hc⟩ := hcv
  -- given
  refine zq_setE (Z := Z) (T := Y.T) (K := K) (n := 3000 * i + 60) (m := 3000 * i + 60 + 1040) (P := PassedOf c) (z_callZ (c := 1040) (i := 1) (Pa := (· = [dv c])) rfl (Ra.z (ra_cons (rv_var (i := 3) rfl hvc) ra_nil)) (fun ds e => ⟨⟨c, e, hc⟩, Nat.le_refl _, fun d ⟨c', h1, h2⟩ => ?_⟩) (by omega)) a5 fun eg vg G6 H6 g6 a6 hpg hvg => ?_
  · rw [e] at h1
    rw [dv_inj (List.cons.inj h1).1]
    exact h2
  have hP := passed_ok hc hpg
  have hR := risen_all hc
  have hvc6 := sdp g6.g hvc
  -- found
  refine zq_setR (Z := Z) (T := Y.T) (R := IsVc K G6 (neverFalling c)) (rv_risen hc hP (rv_var (i := 4) rfl hvg)) a6 fun vf G7 H7 s7 hvf => ?_
  have a7 := a6.step s7
  refine zq_noOr (Z := Z) (T := Y.T) (n := 3000 * i + 60 + 1040) (m := 3000 * i + 60 + 1040 + 1100) (rt_not (a := true) (rt_B (rv_call2 (a := neverFalling c) (b := c) (ra_cons (rv_var (i := 5) rfl hvf.d) (ra_cons (rv_var (i := 3) rfl (sdp s7.g hvc6)) ra_nil)) ⟨hR.1, hR.2.1⟩))) (fun G1 e1 => zt_not (z_callZ (c := 1100) (i := 1) (Pa := (· = [dv c])) rfl (Ra.z (ra_cons (rv_var (i := 3) rfl (sdp (Same.trans s7.g e1) hvc6)) ra_nil)) (fun ds e => ⟨⟨c, e, hc⟩, Nat.le_refl _, fun d h => h⟩) (by omega))) a7 fun G8 H8 g8 a8 => ?_
  have hfl : (neverFalling c).1.length ≤ 1000 := Nat.le_trans (nf_tr hc.t (by decide)).1.len (by decide)
  obtain ⟨p5, _, l5, s5, xs5, q1, q2, q3, q4, q5⟩ := vc_late hvf hfl
  refine zq_late1 (Z := Z) (T := Y.T) (K := K) (p := p5) (v := vf) (s7.go.trans g8) a8 rfl ⟨l5, s5, xs5, q1, g8.g _ _ q2, q3, g8.g _ _ q4, q5⟩ fun H9 g9 a9 => ?_
  refine zq_no (Z := Z) (T := Y.T) (rt_not (a := true) (rt_B (rv_call2 (a := neverFalling c) (b := c) (ra_cons (Rv.vd (rv_risenK hc hP (rv_var (i := 4) rfl hvg))) (ra_cons (rv_var (i := 3) rfl hvc6) ra_nil)) ⟨hR.1, hR.2.1⟩))) a9 fun G10 H10 s10 => ?_
  have a10 := a9.step s10
  have hvc10 := sdp s10.g hvc6
  -- odd, none
  refine zq_twoE (Z := Z) (T := Y.T) (K := K) (n := 3000 * i + 60 + 1040 + 1100) (m := 3000 * i + 60 + 1040 + 1100 + 1 + 1) (P := OddOk) (P1 := NoneOk) (za_2 (m := 3000 * i + 60 + 1040 + 1100 + 1) (z_callZ (c := 1) (i := 1) rfl za_nil (fun ds e => ⟨e, Nat.le_refl _, fun d h => odd_ok _ d h⟩) (by omega))
    (z_pick (i := 1) rfl ((Rv.z (Rv.ld (rv_lst (ds := noneL) (ra_cons rv_n (ra_cons rv_i (ra_cons (rv_tup (ra_cons rv_i (ra_cons rv_i ra_nil)) (by decide)) (ra_cons rv_b (ra_cons rv_s (ra_cons (Rv.ld (rv_lst ra_nil (by decide))) (ra_cons rv_dnew (ra_cons (rv_tup (ra_cons rv_i (ra_cons rv_b ra_nil)) (by decide)) (ra_cons (rv_tup (ra_cons rv_i (ra_cons rv_i (ra_cons rv_i ra_nil))) (by decide)) ra_nil))))))))) (show (9 : Nat) ≤ 100000 by decide)))).imp fun d e => ⟨noneL, e, show (0 : Nat) < 9 by decide, show (9 : Nat) ≤ 100000 by decide, none_ok⟩) (by omega))) a10 fun dO dN vO vN G11 H11 hO hN g11 a11 hvO hvN => ?_
  have hvc11 := sdp g11.g hvc10
  have hmO : Mild dO := ⟨hO.z, hO.l⟩
  have hPc : Passed c (dv c) := passed_self hc.t hc.p (by decide) (by decide) (by decide) (by decide)
  have a11 := a11.up (m := 3000 * (i + 1)) (by omega)
  -- held, found
  refine zq_heldfound (Z := Z) (T := Y.T) (K := K) a11 fun h o H12 w12 => ?_
  refine q_for (T := Y.T) (K := K) (ds := [fnD Y.f_held_back.a, fnD Y.f_pushed_ahead.a]) (ri_tup (rv_tup (ra_cons (rv_fn Y.f_held_back.F.kp YL.fn_h) (ra_cons (rv_fn Y.f_pushed_ahead.F.kp YL.fn_p) ra_nil)) (by simp))) w12.at_.t w12.at_.c fun G13 H13 s13 => ⟨fun j σ' G' H' => ∃ (o9 : Option V) (acc : List V), σ' = [some (.ref a), some (.ref Z.s), some x, some vc, some vg, some (.ref o), some vO, some vN, some (.ref h), o9, o10] ∧ Same G13 G' ∧ Lw Z Y.T G11 H11 G' H' (3000 * (i + 1)) o h acc ∧ Acc h vO vN j G' acc,
    ⟨_, [], rfl, Same.refl _, w12.step s13, rfl⟩, fun j σ' G' H' ⟨_, _, _, e, w, _⟩ => ⟨e, w.at_.c, w.at_.t⟩, fun j df xf σ' G' H' G14 H14 hdf hJ s14 hxf => ?_, fun σ' G' H' hJ => ?_⟩
  · obtain ⟨o9, acc, rfl, e13, w13, hacc⟩ := hJ
    have hj : j < 2 := (List.getElem?_eq_some_iff.mp hdf).1
    have hask : xf = .ref Y.f_held_back.a ∨ xf = .ref Y.f_pushed_ahead.a := by
      match j, hdf with
      | 0, hdf =>
        have e := Option.some.inj hdf
        subst e
        exact .inl (fn_is hxf)
      | 1, hdf =>
        have e := Option.some.inj hdf
        subst e
        exact .inr (fn_is hxf)
    have w14 := w13.step s14
    have hacc14 := hacc.mono s14.g
    have hal := hacc.len
    have e114 := Same.trans (Same.trans (Same.trans s13.g e13) s14.g) (Same.refl _)
    have hvO14 := sdp e114 hvO
    have hvN14 := sdp e114 hvN
    have hvc14 := sdp e114 hvc11
    refine zq_tried (Z := Z) (T := Y.T) (K := K) (s := "curve") (u := vO) w14 rfl (fun H w Q q => tried_c (T := Y.T) (G := G14) (fun E Q r => ?_) Q q) (by omega) fun p1 G15 H15 e15 w15 hp1 => ?_
    · rcases hask with e | e
      · exact .inl ⟨by rw [e]; rfl, vO, rfl, vN, rfl, spx2_c w.at_.c w.at_.t hvO14 hvN14 hmO hN.z hO.c r⟩
      · exact .inr ⟨by rw [e]; rfl, vO, rfl, vN, rfl, spx2_c w.at_.c w.at_.t hvO14 hvN14 hmO hN.z hO.c r⟩
    refine zq_tried (Z := Z) (T := Y.T) (K := K) (s := "curve") (u := .ref h) w15 rfl (fun H w Q q => ?_) (by simp; omega) fun p2 G16 H16 e16 w16 hp2 => ?_
    · have cp : Cl (upd G15 h (.lst [.non])) H := fun b u z => by
        by_cases hb : b = h
        · subst hb
          rw [upd_same] at z
          cases z
          exact ⟨w.hh, lst_tbl⟩
        · rw [upd_ne hb] at z
          exact w.at_.c b u z
      have hdh : Dp K (upd G15 h (.lst [.non])) (.ref h) (.list [.none]) := .lst upd_same (.cons .non .nil)
      have hmh : Mild (.list [.none]) := ⟨rfl, by decide⟩
      have one : ∀ (okp : PyData → PyData → Prop) (out : Hp → PyData → PyData → Rp) (E : XK) (Q : VK), Raised Y.T (upd G15 h (.lst [.non])) H Y.xC.C (.ref h) E → ∀ p, H p = none → SpX2 Y.T K Y.xC.C Y.xF.C okp out [.ref h, .ref p] (upd H p (.tup [.int 1, .int 1])) Q E := fun okp out E Q r p hp => by
        have st : Step Y.T (upd G15 h (.lst [.non])) H (upd (upd G15 h (.lst [.non])) p (.tup [.int 1, .int 1])) (upd H p (.tup [.int 1, .int 1])) := Step.new w.at_.t cp hp tup_tbl
        exact spx2_c (e := .tuple [.int 1, .int 1]) st.s st.t (sdp st.g hdh) (.tup upd_same (.cons (.int _) (.cons (.int _) .nil))) hmh rfl rfl (r.of st)
      refine tried_c (T := Y.T) (G := upd G15 h (.lst [.non])) (u := .ref h) (fun E Q r => ?_) Q fun p G' H' st hp => ?_
      · rcases hask with e | e
        · exact .inl ⟨by rw [e]; rfl, .ref h, rfl, by show 2 ≤ sizeLine; decide, fun p hp => one _ _ E Q r p hp⟩
        · exact .inr ⟨by rw [e]; rfl, .ref h, rfl, by show 2 ≤ sizeLine; decide, fun p hp => one _ _ E Q r p hp⟩
      · refine q p _ H' (st.less w.gh) ?_
        have ne : p ≠ h := fun z => by
          have := st.g h _ upd_same
          rw [z, this] at hp
          cases hp
        show (if p = h then none else G' p) = _
        rw [if_neg ne]
        exact hp
    have e146 := Same.trans e15 e16
    refine zs_tried (Z := Z) (T := Y.T) (K := K) (s := "fraction") (u := vN) w16 rfl (fun H w Q q => tried_f (T := Y.T) (G := G16) (fun E Q r => ?_) Q q) (by simp; omega) fun p3 G17 H17 e17 w17 hp3 => ?_
    · rcases hask with e | e
      · exact .inl ⟨by rw [e]; rfl, vc, rfl, vN, rfl, spx2_f w.at_.c w.at_.t (sdp e146 hvc14) (sdp e146 hvN14) hPc.m hN.z hPc.s hPc.b hN.f r⟩
      · exact .inr ⟨by rw [e]; rfl, vc, rfl, vN, rfl, spx2_f w.at_.c w.at_.t (sdp e146 hvc14) (sdp e146 hvN14) hPc.m hN.z hPc.s hPc.b hN.f r⟩
    exact ⟨G17, _, _, rfl, Same.trans (Same.trans (Same.trans e13 s14.g) e146) e17, w17, acc, p1, p2, p3, rfl, hacc14.mono (Same.trans e146 e17), (Same.trans e16 e17) _ _ hp1, e17 _ _ hp2, hp3⟩
  · obtain ⟨o9, acc, rfl, e13, w13, hacc⟩ := hJ
    have hal : acc.length = 3 * 2 := hacc.len
    have e113 := Same.trans s13.g e13
    refine zq_tried (Z := Z) (T := Y.T) (K := K) (s := "curve") (u := vO) w13 rfl (fun H w Q q => tried_c (T := Y.T) (G := G') (fun E Q r => ⟨vO, rfl, G', dO, vO, rfl, w.at_.c, w.at_.t, .cons (sdp e113 hvO) .nil, ⟨hmO, fun z => by rw [hO.c] at z; cases z⟩, (fun z => by rw [hO.c] at z; cases z), fun _ => r⟩) Q q) (by omega) fun p7 G15 H15 e15 w15 hp7 => ?_
    refine zq_heldlate (Z := Z) (T := Y.T) (K := K) w15 rfl fun H16 g16 a16 ho16 hh16 => ?_
    obtain ⟨a17, e17⟩ := a16.take hh16 w15.gh w15.nsh w15.nlh
    obtain ⟨a18, e18⟩ := a17.take ho16 (by rw [upd_ne w15.ne]; exact w15.gn) w15.ns w15.nl
    have e158 := Same.trans e17 e18
    have hvO18 := sdp e158 (sdp e15 (sdp e113 hvO))
    have hvN18 := sdp e158 (sdp e15 (sdp e113 hvN))
    have hh18 : Dp K (upd (upd G15 h (.lst [.non, .str "late"])) o (.lst (acc ++ [.ref p7]))) (.ref h) (.list [.none, .str "late"]) := .lst (e18 _ _ upd_same) (.cons .non (.cons (.str _) .nil))
    -- what was found is what is due
    have t1 : ∀ p, G15 p = some (.tup [.str "curve", vO]) → Dp K (upd (upd G15 h (.lst [.non, .str "late"])) o (.lst (acc ++ [.ref p7]))) (.ref p) (.tuple [.str "curve", dO]) := fun p hp => .tup (e158 _ _ hp) (.cons (.str _) (.cons hvO18 .nil))
    have t2 : ∀ p, G15 p = some (.tup [.str "curve", .ref h]) → Dp K (upd (upd G15 h (.lst [.non, .str "late"])) o (.lst (acc ++ [.ref p7]))) (.ref p) (.tuple [.str "curve", .list [.none, .str "late"]]) := fun p hp => .tup (e158 _ _ hp) (.cons (.str _) (.cons hh18 .nil))
    have t3 : ∀ p, G15 p = some (.tup [.str "fraction", vN]) → Dp K (upd (upd G15 h (.lst [.non, .str "late"])) o (.lst (acc ++ [.ref p7]))) (.ref p) (.tuple [.str "fraction", dN]) := fun p hp => .tup (e158 _ _ hp) (.cons (.str _) (.cons hvN18 .nil))
    have hfound : Dp K (upd (upd G15 h (.lst [.non, .str "late"])) o (.lst (acc ++ [.ref p7]))) (.ref o) (dueD dO dN) := by
      have hacc15 := hacc.mono e15
      obtain ⟨acc1, r1, r2, r3, ea, hacc1, b1, b2, b3⟩ := hacc15
      obtain ⟨acc0, u1, u2, u3, ea1, hacc0, c1, c2, c3⟩ := hacc1
      have ea0 : acc0 = [] := hacc0
      have key : ∀ GG : Hp, (∀ p, G15 p = some (.tup [.str "curve", vO]) → Dp K GG (.ref p) (.tuple [.str "curve", dO])) → (∀ p, G15 p = some (.tup [.str "curve", .ref h]) → Dp K GG (.ref p) (.tuple [.str "curve", .list [.none, .str "late"]])) → (∀ p, G15 p = some (.tup [.str "fraction", vN]) → Dp K GG (.ref p) (.tuple [.str "fraction", dN])) →
          DpAll K GG (acc ++ [.ref p7]) [.tuple [.str "curve", dO], .tuple [.str "curve", .list [.none, .str "late"]], .tuple [.str "fraction", dN], .tuple [.str "curve", dO], .tuple [.str "curve", .list [.none, .str "late"]], .tuple [.str "fraction", dN], .tuple [.str "curve", dO]] := fun GG t1 t2 t3 => by
        rw [ea, ea1, ea0]
        exact .cons (t1 _ c1) (.cons (t2 _ c2) (.cons (t3 _ c3) (.cons (t1 _ b1) (.cons (t2 _ b2) (.cons (t3 _ b3) (.cons (t1 _ hp7) .nil))))))
      exact .lst upd_same (key _ t1 t2 t3)
    refine zq_setR (Z := Z) (T := Y.T) (R := IsD K (dueD dO dN)) (Rv.ld (rv_cat (rv_twice (rv_lst (ds := [.tuple [.str "curve", dO], .tuple [.str "curve", .list [.none, .str "late"]], .tuple [.str "fraction", dN]]) (ra_cons (rv_tup (ra_cons rv_s (ra_cons (rv_var (i := 6) rfl hvO18) ra_nil)) (by simp)) (ra_cons (rv_tup (ra_cons rv_s (ra_cons (Rv.ld (rv_lst (ra_cons rv_n (ra_cons rv_s ra_nil)) (by simp))) ra_nil)) (by simp)) (ra_cons (rv_tup (ra_cons rv_s (ra_cons (rv_var (i := 7) rfl hvN18) ra_nil)) (by simp)) ra_nil))) (by simp)) (by simp)) (rv_lst (ds := [.tuple [.str "curve", dO]]) (ra_cons (rv_tup (ra_cons rv_s (ra_cons (rv_var (i := 6) rfl hvO18) ra_nil)) (by simp)) ra_nil) (by simp)) (by simp))) a18 fun vdue G19 H19 s19 hdue => ?_
    obtain ⟨k1, k2⟩ := due_ok hO hN
    refine zs_no (Z := Z) (T := Y.T) (rt_not (a := true) (rt_B (sc_rec_same (d := dueD dO dN) (ra_cons (rv_var (i := 5) rfl (sdp s19.g hfound)) (ra_cons (rv_var (i := 10) rfl hdue) ra_nil)) k1 (by omega)))) (a18.step s19) fun G20 H20 s20 => ?_
    refine ⟨G20, _, _, _, _, _, _, _, _, _, rfl, ?_, (a18.step s19).step s20⟩
    exact Same.trans e2 (Same.trans s4.g (Same.trans g5.g (Same.trans g6.g (Same.trans s10.g (Same.trans g11.g (Same.trans e113 (Same.trans e15 (Same.trans e158 (Same.trans s19.g s20.g)))))))))
end
end Qw
namespace Qw
open PySem PySem.Spec PyProof.Rows L2 LamX Qk
/-! ### the end: the law's promise at its own call, no guarding built-in about -/
/-- what is tracked at the start: the tables, empty, and the script where it is no written object -/
def hpStart (tabs : List Addr) (a : Addr) (fresh : Bool) (ob : Obj) (ns : List Int) : Hp := fun b =>
  if b ∈ tabs then some (.tbl #[]) else if b = a ∧ fresh = true then some (.frz ob (.lst (ns.map V.int))) else none
section
variable {tabs : List Addr} {a b : Addr} {fresh : Bool} {ob : Obj} {ns : List Int}
theorem hps_tab (h : b ∈ tabs) : hpStart tabs a fresh ob ns b = some (.tbl #[]) := if_pos h
theorem hps_a (h : a ∉ tabs) (hf : fresh = true) : hpStart tabs a fresh ob ns a = some (.frz ob (.lst (ns.map V.int))) := by
  unfold hpStart
  rw [if_neg h, if_pos ⟨rfl, hf⟩]
theorem hps_no (h : b ∉ tabs) (h2 : b = a → fresh = false) : hpStart tabs a fresh ob ns b = none := by
  unfold hpStart
  rw [if_neg h, if_neg]
  intro ⟨z1, z2⟩
  rw [h2 z1] at z2
  cases z2
theorem hps_inv {u : HO} (h : hpStart tabs a fresh ob ns b = some u) : (b ∈ tabs ∧ u = .tbl #[]) ∨ (b ∉ tabs ∧ b = a ∧ fresh = true ∧ u = .frz ob (.lst (ns.map V.int))) := by
  by_cases q : b ∈ tabs
  · rw [hps_tab q] at h
    exact .inl ⟨q, (Option.some.inj h).symm⟩
  · by_cases q2 : b = a ∧ fresh = true
    · obtain ⟨e, f⟩ := q2
      subst e
      rw [hps_a q f] at h
      exact .inr ⟨q, rfl, f, (Option.some.inj h).symm⟩
    · rw [hps_no q fun z => by
        cases f : fresh with
        | false => rfl
        | true => exact absurd ⟨z, f⟩ q2] at h
      cases h
end
structure LawG (l : PySem.W.OpenLaw) (w : World) (K : PySem.W.Frag) (k n : Nat) (x : Str) (mg : Str → Option Value) (fa : Addr) (h : Heap) where
  fd : FuncData
  cs : List (Addr × Addr)
  sp : Sp
  tab : ∀ p ∈ cs, h.get? p.2 = some { cls := .none, data := .fields #[] }
  noK : ∀ p ∈ cs, K.lookup p.2 = none
  code : ∀ p ∈ cs, PySem.W.CodeHd h p.1 p.2
  bind : ∀ (s : Shared) (u : Value), BindsTo s fd ⟨[u], []⟩ [(x, u)]
  asks : ∀ (H : Hp) (a : Addr) (ns : List Int), ns.length ≤ n → (∀ p ∈ cs, H p.2 = some (.tbl #[])) → SqL K H a (ns.map V.int) → sp [.ref a] H (fun v _ => v = .bl true) fun _ _ _ => False
  keeps : ∀ base : Heap, K.In base → base.Ns mainGlobals mg → (∀ p ∈ cs, TabB base mg p.1 p.2) → FnG l.prog w K mg base k fa fd [x] sp
theorem walkG {l : PySem.W.OpenLaw} {n k : Nat} {q : Program} {loose : List Str} {XP : (Str → Option Value) → Heap → Prop} {YP : World → Heap → Prop} {d : DefRec} {K : Params → PySem.W.Frag} {x : Str} (most : l.most = some n) (short : n ≤ sizeLine) (plain : d.params.defaults = []) (room : Room k callerA)
    (kin : ∀ (w : World) (h : Heap), YP w h → (K w.params).In h) (F : ∀ (w : World) (mg : Str → Option Value) (fa : Addr) (h : Heap), YP w h → (K w.params).In h → h.Ns mainGlobals mg → mg d.name = some (.ref fa) → Nonempty (LawG l w (K w.params) k n x mg fa h)) :
    PySem.W.WalkO q loose XP YP l.row.toRowW d [] (fun f vs => PySem.call f vs) := by
  apply Att.attach_callB most plain
  intro w s₀ s₁ mg mb fa o pm cd doc a vs ns G Y _ _ _ hmg isList numbers len _ noGens
  have inK := kin w _ Y
  obtain ⟨B⟩ := F w mg fa _ Y inK G.T.g hmg
  generalize K w.params = K at B inK
  obtain ⟨fd, cs, sp, tab, noK, code, bind, asks, keeps⟩ := B
  have vals := vals_ints numbers
  have tabAt : ∀ b ∈ cs.map (·.2), s₁.heap.get? b = some { cls := .none, data := .fields #[] } ∧ K.lookup b = none := fun b hb => by
    obtain ⟨p, hp, rfl⟩ := List.mem_map.mp hb
    exact ⟨tab p hp, noK p hp⟩
  have inTabs : ∀ p ∈ cs, p.2 ∈ cs.map (·.2) := fun p hp => List.mem_map_of_mem hp
  have notTab : a ∉ cs.map (·.2) := fun z => by
    have := (tabAt a z).1
    rw [isList] at this
    have := congrArg (fun o : Option Obj => o.map Obj.data) this
    cases this
  generalize eH : hpStart (cs.map (·.2)) a (K.lookup a).isNone { cls := .type "list", data := .seq vs.toArray } ns = H
  have inv : ∀ {b : Addr} {u : HO}, H b = some u → _ := fun {b u} h => hps_inv (by rw [eH]; exact h)
  have none_ : ∀ {b : Addr}, b ∉ cs.map (·.2) → (b = a → (K.lookup a).isNone = false) → H b = none := fun {b} h1 h2 => by
    rw [← eH]
    exact hps_no h1 h2
  -- what is told by its shape is not tracked
  have shape : ∀ {b : Addr} {u : Obj}, s₁.heap.get? b = some u → u.data ≠ .fields #[] → (∀ xs m, u.data ≠ .seq xs m) → (hidT s₁.heap H).get? b = some u := fun {b u} hu n1 n2 => by
    refine hidT_get hu (none_ (fun hb => ?_) fun hb => ?_)
    · have := (tabAt b hb).1
      rw [hu] at this
      cases this
      exact n1 rfl
    · subst hb
      rw [isList] at hu
      cases hu
      exact (n2 _ _ rfl).elim
  have names : ∀ {b : Addr} {m : Str → Option Value}, s₁.heap.Ns b m → (hidT s₁.heap H).Ns b m := fun {b m} hn => by
    obtain ⟨ob, es, ep, h1, h2, h3⟩ := hn
    exact ⟨ob, es, ep, shape h1 (fun z => by rw [h2] at z; cases z) (fun _ _ z => by rw [h2] at z; cases z), h2, h3⟩
  have known : K.In (hidT s₁.heap H) := fun b u hu => hidT_get (inK b u hu) (none_ (fun hb => by
    rw [(tabAt b hb).2] at hu
    cases hu) fun hb => by
    subst hb
    rw [hu]
    rfl)
  have modOk : L2.Mod K mg (hidT s₁.heap H) := by
    obtain ⟨mc, l1, l2⟩ := G.T.nolimit
    exact ⟨known, names G.T.g, ⟨mb, names G.T.b, G.T.builtins⟩, mc, names l1, l2⟩
  have tables : ∀ p ∈ cs, TabB (hidT s₁.heap H) mg p.1 p.2 := fun p hp => by
    have hz := tab p hp
    constructor
    · obtain ⟨ob, us, file, tf, flags, tg, inF, text, tt, c1, c2, c3, c4, rest⟩ := code p hp
      refine ⟨ob, us, file, tf, flags, tg, inF, text, tt, shape c1 (fun z => ?_) (fun _ _ z => by rw [c3] at z; cases z), c2, c3, c4, rest⟩
      rw [c3] at z
      cases z
      simp at c4
    · obtain ⟨bm, ob, b1, b2, b3, b4, b5, b6⟩ := G.T.bmain
      refine ⟨bm, ob, b1, b2, fun z => ?_, fun z => ?_, shape b3 (fun z => by rw [b6] at z; cases z) (fun _ _ z => by rw [b6] at z; cases z), b4, b5, b6⟩
      · obtain ⟨og, es, ep, g1, g2, _⟩ := G.T.g
        rw [← z, b3] at g1
        cases g1
        rw [b6] at g2
        cases g2
      · rw [← z, b3] at hz
        cases hz
        cases b6
    · intro z
      obtain ⟨og, es, ep, g1, g2, _⟩ := G.T.g
      rw [z, hz] at g1
      cases g1
      cases g2
  have okH : HOk l.prog w H s₁.heap := fun b u hu => by
    rcases inv hu with ⟨hb, rfl⟩ | ⟨_, rfl, _, rfl⟩
    · exact (tabAt b hb).1
    · exact ⟨isList, by rw [List.length_map]; exact Nat.le_trans len short, vs, _, vals, isList⟩
  have seqA : SqL K H a (ns.map V.int) := by
    cases hk : K.lookup a with
    | none =>
      refine .inl (.inr ⟨{ cls := .type "list", data := .seq vs.toArray }, ?_⟩)
      rw [← eH]
      exact hps_a notTab (by rw [hk]; rfl)
    | some u =>
      have hu := inK a u hk
      rw [isList] at hu
      cases hu
      exact .inr ⟨_, vs.toArray, _, hk, rfl, rfl, rfl, by rw [List.size_toArray, numbers.length]; exact Nat.le_trans len short, by simpa using vals⟩
  have e0 : Env0 l.prog w K mg (hidT s₁.heap H) callerA [] s₁ H :=
    { frames := rfl, mod := modOk, bs := fun b u hu => of_hidT hu, bsz := Nat.le_of_eq (hidT_size _ _), funs := trivial, frf := fun b hb => (nomatch (show b ∈ ([] : List Addr) from hb)), hok := okH, bare := .of_eq noGens }
  have go := (keeps _ known (names G.T.g) tables).go callerA [] s₁ H ⟨[.ref a], []⟩ [.ref a] [.ref a] _ _ rfl room e0 (bind s₁ (.ref a)) (.cons rfl .nil) (asks H a ns len (fun p hp => by rw [← eH]; exact hps_tab (inTabs p hp)) seqA)
  refine codeAny_mono go fun r s' hr => ?_
  cases r with
  | error e => exact hr.elim
  | ok fl =>
    cases fl with
    | next => exact False.elim hr
    | brk => exact False.elim hr
    | cont => exact False.elim hr
    | ret u =>
      obtain ⟨v, H', os, bare, un, ok', rel, ev⟩ := hr
      have ev : v = .bl true := ev
      subst ev
      have eu : u = Value.bool true := rel
      subst eu
      have left : ∀ b ob, b ∉ cs.map (·.2) → s₁.heap.get? b = some ob → s'.heap.get? b = some ob := fun b ob nb hb => by
        cases hH : H b with
        | none => exact un.keep b ob hb hH (fun z => nomatch (show b ∈ ([] : List Addr) from z)) (fun z => nomatch z)
        | some u =>
          rcases inv hH with ⟨z, _⟩ | ⟨_, rfl, _, rfl⟩
          · exact absurd z nb
          · obtain ⟨i1, _⟩ := ok' b _ (un.frzs b _ _ hH)
            rw [isList] at hb
            cases hb
            exact i1
      have grew : ∀ b ∈ cs.map (·.2), ∃ more : Array Value, s'.heap.get? b = some { cls := .none, data := .fields more } := fun b hb => by
        obtain ⟨more, hm⟩ := un.tbls b #[] (by rw [← eH]; exact hps_tab hb)
        exact ⟨_, ok' b _ hm⟩
      refine ⟨rfl, ⟨fun b ob hb => ?_, fun b ob hb => ?_⟩, os, bare⟩
      · by_cases q : b ∈ cs.map (·.2)
        · obtain ⟨more, hm⟩ := grew b q
          have ht := (tabAt b q).1
          rw [hb] at ht
          cases ht
          obtain ⟨p, hp, rfl⟩ := List.mem_map.mp q
          refine .inr (.inl ⟨((code p hp).tab (tab p hp)).isCodeTable, rfl, #[], more, rfl, ?_⟩)
          rw [Array.empty_append]
          exact hm
        · exact .inl (left b ob q hb)
      · by_cases q : b ∈ cs.map (·.2)
        · obtain ⟨more, hm⟩ := grew b q
          exact ⟨_, hm⟩
        · exact ⟨ob, left b ob q hb⟩
end Qw
namespace Qw
open PySem PySem.Spec PyProof.Rows L2 LamX Qk
/-! ### what the top leaves -/
section
variable {K : PySem.W.Frag} {h : Heap} {mg : Str → Option Value}
abbrev fnSt (x q : Str) (st : Stmt) (kV dc pm : Value) (an : Option Addr) (cd ct : Value) : FuncData := PySem.W.fnOf x q (defArgs st) (defBody st) (defScope st) .none kV dc pm an cd ct
def BindsAs (x : Str) (st : Stmt) (ps : List Str) : Prop := ∀ (kV dc pm : Value) (an : Option Addr) (cd ct : Value) (us : List Value), us.length = ps.length → bindArgs (fnSt x x st kV dc pm an cd ct) ⟨us, []⟩ = pure (ps.zip us)
theorem df_mk {x : Str} {st : Stmt} {ps : List Str} {f : Addr} {oc kV dc pm cd ct : Value} {od an : Option Addr} {sl : Array (Option Value)} (b : BindsAs x st ps) (X : K.In h) (G : h.Ns mainGlobals mg) (a : PySem.W.nsIn K mainGlobals x = some (some (.ref f)))
    (l : K.lookup f = some ⟨oc, od, .func (fnSt x x st kV dc pm an cd ct), sl⟩) (c : PySem.W.codeIn K cd x = true) (k : PySem.W.keepIn K (.ref f) = true) : Nonempty (Df K mg x st ps) :=
  ⟨⟨f, _, fun_mk l c k, PySem.W.mg_of X G a, (fun_mk l c k).binds b⟩⟩
theorem df_mkT {x : Str} {st : Stmt} {ps : List Str} {f : Addr} {oc kV dc pm cd ct : Value} {od an : Option Addr} {sl : Array (Option Value)} (b : BindsAs x st ps) (X : K.In h) (G : h.Ns mainGlobals mg) (a : PySem.W.nsIn K mainGlobals x = some (some (.ref f)))
    (l : K.lookup f = some ⟨oc, od, .func (fnSt x x st kV dc pm an cd ct), sl⟩) (c : PySem.W.codeIn K cd x = true) (k : PySem.W.keepIn K (.ref f) = true) (t : PySem.W.typeIn K (.ref f) = some (.type "function")) : ∃ D : Df K mg x st ps, PySem.W.typeIn K (.ref D.a) = some (.type "function") :=
  ⟨⟨f, _, fun_mk l c k, PySem.W.mg_of X G a, (fun_mk l c k).binds b⟩, t⟩
theorem df_mkC {x : Str} {st : Stmt} {ps : List Str} {f cc P : Addr} {oc kV dc pm ct : Value} {od an : Option Addr} {sl : Array (Option Value)} (b : BindsAs x st ps) (X : K.In h) (G : h.Ns mainGlobals mg) (a : PySem.W.nsIn K mainGlobals x = some (some (.ref f)))
    (l : K.lookup f = some ⟨oc, od, .func (fnSt x x st kV dc pm an (.ref cc) ct), sl⟩) (c : PySem.W.codeIn K (.ref cc) x = true) (k : PySem.W.keepIn K (.ref f) = true) (e : PySem.W.codeHdIn K cc P = true) : ∃ (D : Df K mg x st ps) (cc : Addr), FunC K x x st D.a D.fd cc ∧ PySem.W.CodeHd h cc P :=
  ⟨⟨f, _, fun_mk l c k, PySem.W.mg_of X G a, (fun_mk l c k).binds b⟩, cc, ⟨oc, od, kV, dc, pm, an, ct, sl, rfl, l, c⟩, PySem.W.codeHd_of_K X e⟩
theorem exm_of {S C : Addr} {b : Bool} (h1 : PySem.W.subIn K (.ref C) (.type "BaseException") = some true) (h2 : PySem.W.isClsIn K C = true) (h3 : PySem.W.typeIn K (.ref C) = some (.type "type")) (h4 : PySem.W.subIn K (.ref S) (.ref C) = some b) : PySem.W.exmOne K (.ref S) (.ref C) = some b := by
  have e1 : (PySem.W.subIn K (.ref C) (.type "BaseException") == some true) = true := by rw [h1]; rfl
  have h2 : (PySem.W.clsIn K C).isSome = true := h2
  have e2 : ((PySem.W.clsIn K C).isSome && PySem.W.typeIn K (.ref C) == some (.type "type")) = true := by rw [h2, h3]; rfl
  unfold PySem.W.exmOne
  rw [if_pos e1]
  unfold PySem.W.kitCls
  first
    | rw [if_pos e2]; exact h4
    | (simp only [h2, h3]; exact h4)
structure XcF (K : PySem.W.Frag) (mg : Str → Option Value) (x q : Str) (st : Stmt) where
  X : Xc K mg x q st
  cls : PySem.W.isClsIn K X.C = true
theorem xc_mk {x q : Str} {st : Stmt} {C N f : Addr} {nm q' : Str} {bs bm : List Value} {sn : List Str} {sub : List Value} {ab : Bool} {col : Option Bool} {dd : Option Addr} {m0 m1 m2 m3 m5 : Option Value} {oc kV dc pm cd ct : Value} {od an : Option Addr} {sl : Array (Option Value)}
    (b : ∀ (kV dc pm : Value) (an : Option Addr) (cd ct : Value) (us : List Value), us.length = (["self", "thing"] : List Str).length → bindArgs (fnSt "__init__" q st kV dc pm an cd ct) ⟨us, []⟩ = pure ((["self", "thing"] : List Str).zip us)) (X : K.In h) (G : h.Ns mainGlobals mg)
    (a : PySem.W.nsIn K mainGlobals x = some (some (.ref C))) (xl : K.lookup C = some (excClassObj nm q' C N bs bm true sn sub ab col dd m0 m1 m2 m3 m5 "ValueError.__new__")) (ve : PySem.HandSPX.refsVE bm = true)
    (sa : PySem.W.findIn K (.ref C) "__setattr__" = some (some (.builtin "object.__setattr__"))) (ga : PySem.W.findIn K (.ref C) "__getattribute__" = some (some (.builtin "BaseException.__getattribute__"))) (gg : PySem.W.findIn K (.ref C) "__getattr__" = some none)
    (no : PySem.W.findIn K (.ref C) "thing" = some none) (i : PySem.W.findIn K (.ref C) "__init__" = some (some (.ref f))) (ti : PySem.W.typeIn K (.ref f) = some (.type "function"))
    (l : K.lookup f = some ⟨oc, od, .func (fnSt "__init__" q st kV dc pm an cd ct), sl⟩) (c : PySem.W.codeIn K cd q = true) (k : PySem.W.keepIn K (.ref f) = true)
    (kC : PySem.W.keepIn K (.ref C) = true) (eC : PySem.W.subIn K (.ref C) (.type "BaseException") = some true) (tC : PySem.W.typeIn K (.ref C) = some (.type "type")) (hC : PySem.W.hasDictIn K C = true) (iC : PySem.W.isClsIn K C = true) (sC : PySem.W.subIn K (.ref C) (.ref C) = some true) :
    ∃ X : XcF K mg x q st, X.X.C = C :=
  ⟨⟨⟨C, PySem.W.mg_of X G a, ⟨⟨nm, q', N, bs, bm, sn, sub, ab, col, dd, m0, m1, m2, m3, m5, xl, ve⟩, sa, eC, tC, kC⟩, no, f, _, i, ti, fun_mk l c k, (fun_mk l c k).binds b, ⟨ga, gg, eC, hC⟩, exm_of eC iC tC sC⟩, iC⟩, rfl⟩

theorem b_is_list : BindsAs "is_list" (topS 5) ["thing"] := fun _ _ _ _ _ _ us hl => match us, hl with | [_], _ => rfl
theorem b_is_whole : BindsAs "is_whole" (topS 6) ["thing"] := fun _ _ _ _ _ _ us hl => match us, hl with | [_], _ => rfl
theorem b_is_positive : BindsAs "is_positive" (topS 7) ["thing"] := fun _ _ _ _ _ _ us hl => match us, hl with | [_], _ => rfl
theorem b_lowest : BindsAs "lowest" (topS 8) ["top", "bottom"] := fun _ _ _ _ _ _ us hl => match us, hl with | [_, _], _ => rfl
theorem b_is_fraction : BindsAs "is_fraction" (topS 9) ["thing"] := fun _ _ _ _ _ _ us hl => match us, hl with | [_], _ => rfl
theorem b_told : BindsAs "told" (topS 10) ["thing"] := fun _ _ _ _ _ _ us hl => match us, hl with | [_], _ => rfl
theorem b_checked_fraction : BindsAs "checked_fraction" (topS 11) ["thing"] := fun _ _ _ _ _ _ us hl => match us, hl with | [_], _ => rfl
theorem b_plus : BindsAs "plus" (topS 12) ["one", "other"] := fun _ _ _ _ _ _ us hl => match us, hl with | [_, _], _ => rfl
theorem b_less : BindsAs "less" (topS 13) ["one", "other"] := fun _ _ _ _ _ _ us hl => match us, hl with | [_, _], _ => rfl
theorem b_times : BindsAs "times" (topS 14) ["one", "other"] := fun _ _ _ _ _ _ us hl => match us, hl with | [_, _], _ => rfl
theorem b_parted : BindsAs "parted" (topS 15) ["one", "other"] := fun _ _ _ _ _ _ us hl => match us, hl with | [_, _], _ => rfl
theorem b_is_below : BindsAs "is_below" (topS 16) ["one", "other"] := fun _ _ _ _ _ _ us hl => match us, hl with | [_, _], _ => rfl
theorem b_greatest : BindsAs "greatest" (topS 17) ["things"] := fun _ _ _ _ _ _ us hl => match us, hl with | [_], _ => rfl
theorem b_in_order : BindsAs "in_order" (topS 18) ["things"] := fun _ _ _ _ _ _ us hl => match us, hl with | [_], _ => rfl
theorem b_is_corner : BindsAs "is_corner" (topS 20) ["thing"] := fun _ _ _ _ _ _ us hl => match us, hl with | [_], _ => rfl
theorem b_is_curve_thing : BindsAs "is_curve_thing" (topS 21) ["thing"] := fun _ _ _ _ _ _ us hl => match us, hl with | [_], _ => rfl
theorem b_steepness : BindsAs "steepness" (topS 22) ["one", "other"] := fun _ _ _ _ _ _ us hl => match us, hl with | [_, _], _ => rfl
theorem b_slopes_of : BindsAs "slopes_of" (topS 23) ["curve"] := fun _ _ _ _ _ _ us hl => match us, hl with | [_], _ => rfl
theorem b_normal : BindsAs "normal" (topS 24) ["corners", "slope"] := fun _ _ _ _ _ _ us hl => match us, hl with | [_, _], _ => rfl
theorem b_as_told : BindsAs "as_told" (topS 25) ["curve"] := fun _ _ _ _ _ _ us hl => match us, hl with | [_], _ => rfl
theorem b_place_at : BindsAs "place_at" (topS 26) ["curve", "moment"] := fun _ _ _ _ _ _ us hl => match us, hl with | [_, _], _ => rfl
theorem b_worth_of : BindsAs "worth_of" (topS 27) ["curve", "moment"] := fun _ _ _ _ _ _ us hl => match us, hl with | [_, _], _ => rfl
theorem b_each_once : BindsAs "each_once" (topS 28) ["moments"] := fun _ _ _ _ _ _ us hl => match us, hl with | [_], _ => rfl
theorem b_moments_of : BindsAs "moments_of" (topS 29) ["curves"] := fun _ _ _ _ _ _ us hl => match us, hl with | [_], _ => rfl
theorem b_summed : BindsAs "summed" (topS 30) ["curves"] := fun _ _ _ _ _ _ us hl => match us, hl with | [_], _ => rfl
theorem b_many_times : BindsAs "many_times" (topS 31) ["curve", "factor"] := fun _ _ _ _ _ _ us hl => match us, hl with | [_, _], _ => rfl
theorem b_apart_by : BindsAs "apart_by" (topS 32) ["one", "other"] := fun _ _ _ _ _ _ us hl => match us, hl with | [_, _], _ => rfl
theorem b_checked_curve : BindsAs "checked_curve" (topS 36) ["thing"] := fun _ _ _ _ _ _ us hl => match us, hl with | [_], _ => rfl
theorem b_never_falling : BindsAs "never_falling" (topS 38) ["curve"] := fun _ _ _ _ _ _ us hl => match us, hl with | [_], _ => rfl
theorem b_later_tops : BindsAs "later_tops" (topS 39) ["curve"] := fun _ _ _ _ _ _ us hl => match us, hl with | [_], _ => rfl
theorem b_line_of : BindsAs "line_of" (topS 40) ["slope"] := fun _ _ _ _ _ _ us hl => match us, hl with | [_], _ => rfl
theorem b_back_by : BindsAs "back_by" (topS 41) ["curve", "most"] := fun _ _ _ _ _ _ us hl => match us, hl with | [_, _], _ => rfl
theorem b_ahead_by : BindsAs "ahead_by" (topS 42) ["curve", "most"] := fun _ _ _ _ _ _ us hl => match us, hl with | [_, _], _ => rfl
theorem b_risen : BindsAs "risen" (topS 43) ["curve"] := fun _ _ _ _ _ _ us hl => match us, hl with | [_], _ => rfl
theorem b_held_back : BindsAs "held_back" (topS 44) ["curve", "most"] := fun _ _ _ _ _ _ us hl => match us, hl with | [_, _], _ => rfl
theorem b_pushed_ahead : BindsAs "pushed_ahead" (topS 45) ["curve", "most"] := fun _ _ _ _ _ _ us hl => match us, hl with | [_, _], _ => rfl
theorem b__law_stream : BindsAs "_law_stream" (topS 47) ["_law_script"] := fun _ _ _ _ _ _ us hl => match us, hl with | [_], _ => rfl
theorem b__law_draw : BindsAs "_law_draw" (topS 48) ["_law_stream_here", "_law_many"] := fun _ _ _ _ _ _ us hl => match us, hl with | [_, _], _ => rfl
theorem b__law_pick : BindsAs "_law_pick" (topS 49) ["_law_stream_here", "_law_things"] := fun _ _ _ _ _ _ us hl => match us, hl with | [_, _], _ => rfl
theorem b__law_same : BindsAs "_law_same" (topS 50) ["_law_found", "_law_due"] := fun _ _ _ _ _ _ us hl => match us, hl with | [_, _], _ => rfl
theorem b__law_loose : BindsAs "_law_loose" (topS 51) ["_law_stream_here", "_law_thing"] := fun _ _ _ _ _ _ us hl => match us, hl with | [_, _], _ => rfl
theorem b__law_common : BindsAs "_law_common" (topS 52) ["_law_one", "_law_other"] := fun _ _ _ _ _ _ us hl => match us, hl with | [_, _], _ => rfl
theorem b__law_low : BindsAs "_law_low" (topS 53) ["_law_top", "_law_bottom"] := fun _ _ _ _ _ _ us hl => match us, hl with | [_, _], _ => rfl
theorem b__law_plus : BindsAs "_law_plus" (topS 54) ["_law_one", "_law_other"] := fun _ _ _ _ _ _ us hl => match us, hl with | [_, _], _ => rfl
theorem b__law_less : BindsAs "_law_less" (topS 55) ["_law_one", "_law_other"] := fun _ _ _ _ _ _ us hl => match us, hl with | [_, _], _ => rfl
theorem b__law_times : BindsAs "_law_times" (topS 56) ["_law_one", "_law_other"] := fun _ _ _ _ _ _ us hl => match us, hl with | [_, _], _ => rfl
theorem b__law_by : BindsAs "_law_by" (topS 57) ["_law_one", "_law_other"] := fun _ _ _ _ _ _ us hl => match us, hl with | [_, _], _ => rfl
theorem b__law_is_below : BindsAs "_law_is_below" (topS 58) ["_law_one", "_law_other"] := fun _ _ _ _ _ _ us hl => match us, hl with | [_, _], _ => rfl
theorem b__law_least : BindsAs "_law_least" (topS 59) ["_law_things"] := fun _ _ _ _ _ _ us hl => match us, hl with | [_], _ => rfl
theorem b__law_raw : BindsAs "_law_raw" (topS 60) ["_law_stream_here", "_law_thing"] := fun _ _ _ _ _ _ us hl => match us, hl with | [_, _], _ => rfl
theorem b__law_unlike : BindsAs "_law_unlike" (topS 61) ["_law_things"] := fun _ _ _ _ _ _ us hl => match us, hl with | [_], _ => rfl
theorem b__law_by_size : BindsAs "_law_by_size" (topS 62) ["_law_things"] := fun _ _ _ _ _ _ us hl => match us, hl with | [_], _ => rfl
theorem b__law_is_told : BindsAs "_law_is_told" (topS 63) ["_law_thing"] := fun _ _ _ _ _ _ us hl => match us, hl with | [_], _ => rfl
theorem b__law_middle : BindsAs "_law_middle" (topS 64) ["_law_one", "_law_other"] := fun _ _ _ _ _ _ us hl => match us, hl with | [_, _], _ => rfl
theorem b__law_c_at : BindsAs "_law_c_at" (topS 65) ["_law_curve", "_law_moment"] := fun _ _ _ _ _ _ us hl => match us, hl with | [_, _], _ => rfl
theorem b__law_c_slopes : BindsAs "_law_c_slopes" (topS 66) ["_law_curve"] := fun _ _ _ _ _ _ us hl => match us, hl with | [_], _ => rfl
theorem b__law_c_slope : BindsAs "_law_c_slope" (topS 67) ["_law_curve", "_law_moment"] := fun _ _ _ _ _ _ us hl => match us, hl with | [_, _], _ => rfl
theorem b__law_c_worth : BindsAs "_law_c_worth" (topS 68) ["_law_curve", "_law_moment"] := fun _ _ _ _ _ _ us hl => match us, hl with | [_, _], _ => rfl
theorem b__law_c_plain : BindsAs "_law_c_plain" (topS 69) ["_law_corners", "_law_slope"] := fun _ _ _ _ _ _ us hl => match us, hl with | [_, _], _ => rfl
theorem b__law_c_is_told : BindsAs "_law_c_is_told" (topS 70) ["_law_thing"] := fun _ _ _ _ _ _ us hl => match us, hl with | [_], _ => rfl
theorem b__law_c_drawn : BindsAs "_law_c_drawn" (topS 71) ["_law_stream_here", "_law_most"] := fun _ _ _ _ _ _ us hl => match us, hl with | [_, _], _ => rfl
theorem b__law_c_more : BindsAs "_law_c_more" (topS 72) ["_law_stream_here", "_law_curve"] := fun _ _ _ _ _ _ us hl => match us, hl with | [_, _], _ => rfl
theorem b__law_c_raw : BindsAs "_law_c_raw" (topS 73) ["_law_stream_here", "_law_curve"] := fun _ _ _ _ _ _ us hl => match us, hl with | [_, _], _ => rfl
theorem b__law_c_passed : BindsAs "_law_c_passed" (topS 74) ["_law_stream_here", "_law_curve"] := fun _ _ _ _ _ _ us hl => match us, hl with | [_, _], _ => rfl
theorem b__law_c_moments : BindsAs "_law_c_moments" (topS 75) ["_law_curves"] := fun _ _ _ _ _ _ us hl => match us, hl with | [_], _ => rfl
theorem b__law_odd : BindsAs "_law_odd" (topS 76) ["_law_stream_here"] := fun _ _ _ _ _ _ us hl => match us, hl with | [_], _ => rfl
theorem b__law_tried : BindsAs "_law_tried" (topS 77) ["_law_ask"] := fun _ _ _ _ _ _ us hl => match us, hl with | [_], _ => rfl
theorem b__law_stretches : BindsAs "_law_stretches" (topS 78) ["_law_found", "_law_curve"] := fun _ _ _ _ _ _ us hl => match us, hl with | [_, _], _ => rfl
theorem b__law_risen_right : BindsAs "_law_risen_right" (topS 79) ["_law_found", "_law_curve"] := fun _ _ _ _ _ _ us hl => match us, hl with | [_, _], _ => rfl
theorem b__law_held_right : BindsAs "_law_held_right" (topS 80) ["_law_found", "_law_curve", "_law_most"] := fun _ _ _ _ _ _ us hl => match us, hl with | [_, _, _], _ => rfl
theorem b__law_pushed_right : BindsAs "_law_pushed_right" (topS 81) ["_law_found", "_law_curve", "_law_most"] := fun _ _ _ _ _ _ us hl => match us, hl with | [_, _, _], _ => rfl
theorem b__law_kept_right : BindsAs "_law_kept_right" (topS 82) ["_law_stream_here", "_law_curve"] := fun _ _ _ _ _ _ us hl => match us, hl with | [_, _], _ => rfl
theorem b__law_c_long : BindsAs "_law_c_long" (topS 83) ["_law_stream_here"] := fun _ _ _ _ _ _ us hl => match us, hl with | [_], _ => rfl
theorem b_law : BindsAs "law" (topS 84) ["_law_script"] := fun _ _ _ _ _ _ us hl => match us, hl with | [_], _ => rfl
theorem b_xF : ∀ (kV dc pm : Value) (an : Option Addr) (cd ct : Value) (us : List Value), us.length = (["self", "thing"] : List Str).length → bindArgs (fnSt "__init__" "BadFraction.__init__" (inClass (topS 3) 0) kV dc pm an cd ct) ⟨us, []⟩ = pure ((["self", "thing"] : List Str).zip us) := fun _ _ _ _ _ _ us hl => match us, hl with | [_, _], _ => rfl
theorem b_xC : ∀ (kV dc pm : Value) (an : Option Addr) (cd ct : Value) (us : List Value), us.length = (["self", "thing"] : List Str).length → bindArgs (fnSt "__init__" "BadCurve.__init__" (inClass (topS 34) 0) kV dc pm an cd ct) ⟨us, []⟩ = pure ((["self", "thing"] : List Str).zip us) := fun _ _ _ _ _ _ us hl => match us, hl with | [_, _], _ => rfl
theorem law_mk {l : PySem.W.OpenLaw} {w : World} {fa p1 p2 p3 CF CC : Addr} (X : K.In h) (G : h.Ns mainGlobals mg) (hfa : mg "law" = some (.ref fa))
    (d_is_list : Nonempty (Df K mg "is_list" (topS 5) ["thing"]))
    (d_is_whole : Nonempty (Df K mg "is_whole" (topS 6) ["thing"]))
    (d_is_positive : Nonempty (Df K mg "is_positive" (topS 7) ["thing"]))
    (d_lowest : Nonempty (Df K mg "lowest" (topS 8) ["top", "bottom"]))
    (d_is_fraction : Nonempty (Df K mg "is_fraction" (topS 9) ["thing"]))
    (d_told : Nonempty (Df K mg "told" (topS 10) ["thing"]))
    (d_checked_fraction : Nonempty (Df K mg "checked_fraction" (topS 11) ["thing"]))
    (d_plus : Nonempty (Df K mg "plus" (topS 12) ["one", "other"]))
    (d_less : Nonempty (Df K mg "less" (topS 13) ["one", "other"]))
    (d_times : Nonempty (Df K mg "times" (topS 14) ["one", "other"]))
    (d_parted : Nonempty (Df K mg "parted" (topS 15) ["one", "other"]))
    (d_is_below : Nonempty (Df K mg "is_below" (topS 16) ["one", "other"]))
    (d_greatest : Nonempty (Df K mg "greatest" (topS 17) ["things"]))
    (d_in_order : ∃ (D : Df K mg "in_order" (topS 18) ["things"]) (cc : Addr), FunC K "in_order" "in_order" (topS 18) D.a D.fd cc ∧ PySem.W.CodeHd h cc p1)
    (d_is_corner : Nonempty (Df K mg "is_corner" (topS 20) ["thing"]))
    (d_is_curve_thing : Nonempty (Df K mg "is_curve_thing" (topS 21) ["thing"]))
    (d_steepness : Nonempty (Df K mg "steepness" (topS 22) ["one", "other"]))
    (d_slopes_of : Nonempty (Df K mg "slopes_of" (topS 23) ["curve"]))
    (d_normal : Nonempty (Df K mg "normal" (topS 24) ["corners", "slope"]))
    (d_as_told : Nonempty (Df K mg "as_told" (topS 25) ["curve"]))
    (d_place_at : Nonempty (Df K mg "place_at" (topS 26) ["curve", "moment"]))
    (d_worth_of : Nonempty (Df K mg "worth_of" (topS 27) ["curve", "moment"]))
    (d_each_once : Nonempty (Df K mg "each_once" (topS 28) ["moments"]))
    (d_moments_of : Nonempty (Df K mg "moments_of" (topS 29) ["curves"]))
    (d_summed : Nonempty (Df K mg "summed" (topS 30) ["curves"]))
    (d_many_times : Nonempty (Df K mg "many_times" (topS 31) ["curve", "factor"]))
    (d_apart_by : Nonempty (Df K mg "apart_by" (topS 32) ["one", "other"]))
    (d_checked_curve : Nonempty (Df K mg "checked_curve" (topS 36) ["thing"]))
    (d_never_falling : Nonempty (Df K mg "never_falling" (topS 38) ["curve"]))
    (d_later_tops : Nonempty (Df K mg "later_tops" (topS 39) ["curve"]))
    (d_line_of : Nonempty (Df K mg "line_of" (topS 40) ["slope"]))
    (d_back_by : Nonempty (Df K mg "back_by" (topS 41) ["curve", "most"]))
    (d_ahead_by : Nonempty (Df K mg "ahead_by" (topS 42) ["curve", "most"]))
    (d_risen : Nonempty (Df K mg "risen" (topS 43) ["curve"]))
    (d_held_back : ∃ D : Df K mg "held_back" (topS 44) ["curve", "most"], PySem.W.typeIn K (.ref D.a) = some (.type "function"))
    (d_pushed_ahead : ∃ D : Df K mg "pushed_ahead" (topS 45) ["curve", "most"], PySem.W.typeIn K (.ref D.a) = some (.type "function"))
    (d__law_stream : Nonempty (Df K mg "_law_stream" (topS 47) ["_law_script"]))
    (d__law_draw : Nonempty (Df K mg "_law_draw" (topS 48) ["_law_stream_here", "_law_many"]))
    (d__law_pick : Nonempty (Df K mg "_law_pick" (topS 49) ["_law_stream_here", "_law_things"]))
    (d__law_same : Nonempty (Df K mg "_law_same" (topS 50) ["_law_found", "_law_due"]))
    (d__law_loose : Nonempty (Df K mg "_law_loose" (topS 51) ["_law_stream_here", "_law_thing"]))
    (d__law_common : Nonempty (Df K mg "_law_common" (topS 52) ["_law_one", "_law_other"]))
    (d__law_low : Nonempty (Df K mg "_law_low" (topS 53) ["_law_top", "_law_bottom"]))
    (d__law_plus : Nonempty (Df K mg "_law_plus" (topS 54) ["_law_one", "_law_other"]))
    (d__law_less : Nonempty (Df K mg "_law_less" (topS 55) ["_law_one", "_law_other"]))
    (d__law_times : Nonempty (Df K mg "_law_times" (topS 56) ["_law_one", "_law_other"]))
    (d__law_by : Nonempty (Df K mg "_law_by" (topS 57) ["_law_one", "_law_other"]))
    (d__law_is_below : Nonempty (Df K mg "_law_is_below" (topS 58) ["_law_one", "_law_other"]))
    (d__law_least : Nonempty (Df K mg "_law_least" (topS 59) ["_law_things"]))
    (d__law_raw : Nonempty (Df K mg "_law_raw" (topS 60) ["_law_stream_here", "_law_thing"]))
    (d__law_unlike : Nonempty (Df K mg "_law_unlike" (topS 61) ["_law_things"]))
    (d__law_by_size : ∃ (D : Df K mg "_law_by_size" (topS 62) ["_law_things"]) (cc : Addr), FunC K "_law_by_size" "_law_by_size" (topS 62) D.a D.fd cc ∧ PySem.W.CodeHd h cc p2)
    (d__law_is_told : Nonempty (Df K mg "_law_is_told" (topS 63) ["_law_thing"]))
    (d__law_middle : Nonempty (Df K mg "_law_middle" (topS 64) ["_law_one", "_law_other"]))
    (d__law_c_at : Nonempty (Df K mg "_law_c_at" (topS 65) ["_law_curve", "_law_moment"]))
    (d__law_c_slopes : Nonempty (Df K mg "_law_c_slopes" (topS 66) ["_law_curve"]))
    (d__law_c_slope : Nonempty (Df K mg "_law_c_slope" (topS 67) ["_law_curve", "_law_moment"]))
    (d__law_c_worth : Nonempty (Df K mg "_law_c_worth" (topS 68) ["_law_curve", "_law_moment"]))
    (d__law_c_plain : Nonempty (Df K mg "_law_c_plain" (topS 69) ["_law_corners", "_law_slope"]))
    (d__law_c_is_told : Nonempty (Df K mg "_law_c_is_told" (topS 70) ["_law_thing"]))
    (d__law_c_drawn : Nonempty (Df K mg "_law_c_drawn" (topS 71) ["_law_stream_here", "_law_most"]))
    (d__law_c_more : Nonempty (Df K mg "_law_c_more" (topS 72) ["_law_stream_here", "_law_curve"]))
    (d__law_c_raw : Nonempty (Df K mg "_law_c_raw" (topS 73) ["_law_stream_here", "_law_curve"]))
    (d__law_c_passed : Nonempty (Df K mg "_law_c_passed" (topS 74) ["_law_stream_here", "_law_curve"]))
    (d__law_c_moments : Nonempty (Df K mg "_law_c_moments" (topS 75) ["_law_curves"]))
    (d__law_odd : ∃ D : Df K mg "_law_odd" (topS 76) ["_law_stream_here"], PySem.W.typeIn K (.ref D.a) = some (.type "function"))
    (d__law_tried : Nonempty (Df K mg "_law_tried" (topS 77) ["_law_ask"]))
    (d__law_stretches : Nonempty (Df K mg "_law_stretches" (topS 78) ["_law_found", "_law_curve"]))
    (d__law_risen_right : Nonempty (Df K mg "_law_risen_right" (topS 79) ["_law_found", "_law_curve"]))
    (d__law_held_right : Nonempty (Df K mg "_law_held_right" (topS 80) ["_law_found", "_law_curve", "_law_most"]))
    (d__law_pushed_right : Nonempty (Df K mg "_law_pushed_right" (topS 81) ["_law_found", "_law_curve", "_law_most"]))
    (d__law_kept_right : Nonempty (Df K mg "_law_kept_right" (topS 82) ["_law_stream_here", "_law_curve"]))
    (d__law_c_long : Nonempty (Df K mg "_law_c_long" (topS 83) ["_law_stream_here"]))
    (d_law : ∃ (D : Df K mg "law" (topS 84) ["_law_script"]) (cc : Addr), FunC K "law" "law" (topS 84) D.a D.fd cc ∧ PySem.W.CodeHd h cc p3)
    (z_len : PySem.W.nsIn K mainGlobals "len" = some none)
    (z_abs : PySem.W.nsIn K mainGlobals "abs" = some none)
    (z_int : PySem.W.nsIn K mainGlobals "int" = some none)
    (z_bool : PySem.W.nsIn K mainGlobals "bool" = some none)
    (z_max : PySem.W.nsIn K mainGlobals "max" = some none)
    (z_all : PySem.W.nsIn K mainGlobals "all" = some none)
    (z_repr : PySem.W.nsIn K mainGlobals "repr" = some none)
    (z_list : PySem.W.nsIn K mainGlobals "list" = some none)
    (z_tuple : PySem.W.nsIn K mainGlobals "tuple" = some none)
    (z_dict : PySem.W.nsIn K mainGlobals "dict" = some none)
    (z_isinstance : PySem.W.nsIn K mainGlobals "isinstance" = some none)
    (z_zip : PySem.W.nsIn K mainGlobals "zip" = some none)
    (z_enumerate : PySem.W.nsIn K mainGlobals "enumerate" = some none)
    (z_range : PySem.W.nsIn K mainGlobals "range" = some none)
    (z_sorted : PySem.W.nsIn K mainGlobals "sorted" = some none)
    (g_gcd : PySem.W.nsIn K mainGlobals "gcd" = some (some (.builtin "math.gcd")))
    (xF : ∃ X : XcF K mg "BadFraction" "BadFraction.__init__" (inClass (topS 3) 0), X.X.C = CF) (xC : ∃ X : XcF K mg "BadCurve" "BadCurve.__init__" (inClass (topS 34) 0), X.X.C = CC) (sFC : PySem.W.subIn K (.ref CF) (.ref CC) = some false)
    (t1 : h.get? p1 = some { cls := .none, data := .fields #[] }) (t2 : h.get? p2 = some { cls := .none, data := .fields #[] }) (t3 : h.get? p3 = some { cls := .none, data := .fields #[] }) (n1 : K.lookup p1 = none) (n2 : K.lookup p2 = none) (n3 : K.lookup p3 = none) (e12 : p1 ≠ p2) (e13 : p1 ≠ p3) (e23 : p2 ≠ p3) :
    Nonempty (LawG l w K 15 63 "_law_script" mg fa h) := by
  obtain ⟨D_is_list⟩ := d_is_list
  obtain ⟨D_is_whole⟩ := d_is_whole
  obtain ⟨D_is_positive⟩ := d_is_positive
  obtain ⟨D_lowest⟩ := d_lowest
  obtain ⟨D_is_fraction⟩ := d_is_fraction
  obtain ⟨D_told⟩ := d_told
  obtain ⟨D_checked_fraction⟩ := d_checked_fraction
  obtain ⟨D_plus⟩ := d_plus
  obtain ⟨D_less⟩ := d_less
  obtain ⟨D_times⟩ := d_times
  obtain ⟨D_parted⟩ := d_parted
  obtain ⟨D_is_below⟩ := d_is_below
  obtain ⟨D_greatest⟩ := d_greatest
  obtain ⟨D_in_order, c_in_order, o_in_order, h_in_order⟩ := d_in_order
  obtain ⟨D_is_corner⟩ := d_is_corner
  obtain ⟨D_is_curve_thing⟩ := d_is_curve_thing
  obtain ⟨D_steepness⟩ := d_steepness
  obtain ⟨D_slopes_of⟩ := d_slopes_of
  obtain ⟨D_normal⟩ := d_normal
  obtain ⟨D_as_told⟩ := d_as_told
  obtain ⟨D_place_at⟩ := d_place_at
  obtain ⟨D_worth_of⟩ := d_worth_of
  obtain ⟨D_each_once⟩ := d_each_once
  obtain ⟨D_moments_of⟩ := d_moments_of
  obtain ⟨D_summed⟩ := d_summed
  obtain ⟨D_many_times⟩ := d_many_times
  obtain ⟨D_apart_by⟩ := d_apart_by
  obtain ⟨D_checked_curve⟩ := d_checked_curve
  obtain ⟨D_never_falling⟩ := d_never_falling
  obtain ⟨D_later_tops⟩ := d_later_tops
  obtain ⟨D_line_of⟩ := d_line_of
  obtain ⟨D_back_by⟩ := d_back_by
  obtain ⟨D_ahead_by⟩ := d_ahead_by
  obtain ⟨D_risen⟩ := d_risen
  obtain ⟨D_held_back, ty_held_back⟩ := d_held_back
  obtain ⟨D_pushed_ahead, ty_pushed_ahead⟩ := d_pushed_ahead
  obtain ⟨D__law_stream⟩ := d__law_stream
  obtain ⟨D__law_draw⟩ := d__law_draw
  obtain ⟨D__law_pick⟩ := d__law_pick
  obtain ⟨D__law_same⟩ := d__law_same
  obtain ⟨D__law_loose⟩ := d__law_loose
  obtain ⟨D__law_common⟩ := d__law_common
  obtain ⟨D__law_low⟩ := d__law_low
  obtain ⟨D__law_plus⟩ := d__law_plus
  obtain ⟨D__law_less⟩ := d__law_less
  obtain ⟨D__law_times⟩ := d__law_times
  obtain ⟨D__law_by⟩ := d__law_by
  obtain ⟨D__law_is_below⟩ := d__law_is_below
  obtain ⟨D__law_least⟩ := d__law_least
  obtain ⟨D__law_raw⟩ := d__law_raw
  obtain ⟨D__law_unlike⟩ := d__law_unlike
  obtain ⟨D__law_by_size, c__law_by_size, o__law_by_size, h__law_by_size⟩ := d__law_by_size
  obtain ⟨D__law_is_told⟩ := d__law_is_told
  obtain ⟨D__law_middle⟩ := d__law_middle
  obtain ⟨D__law_c_at⟩ := d__law_c_at
  obtain ⟨D__law_c_slopes⟩ := d__law_c_slopes
  obtain ⟨D__law_c_slope⟩ := d__law_c_slope
  obtain ⟨D__law_c_worth⟩ := d__law_c_worth
  obtain ⟨D__law_c_plain⟩ := d__law_c_plain
  obtain ⟨D__law_c_is_told⟩ := d__law_c_is_told
  obtain ⟨D__law_c_drawn⟩ := d__law_c_drawn
  obtain ⟨D__law_c_more⟩ := d__law_c_more
  obtain ⟨D__law_c_raw⟩ := d__law_c_raw
  obtain ⟨D__law_c_passed⟩ := d__law_c_passed
  obtain ⟨D__law_c_moments⟩ := d__law_c_moments
  obtain ⟨D__law_odd, ty__law_odd⟩ := d__law_odd
  obtain ⟨D__law_tried⟩ := d__law_tried
  obtain ⟨D__law_stretches⟩ := d__law_stretches
  obtain ⟨D__law_risen_right⟩ := d__law_risen_right
  obtain ⟨D__law_held_right⟩ := d__law_held_right
  obtain ⟨D__law_pushed_right⟩ := d__law_pushed_right
  obtain ⟨D__law_kept_right⟩ := d__law_kept_right
  obtain ⟨D__law_c_long⟩ := d__law_c_long
  obtain ⟨D_law, c_law, o_law, h_law⟩ := d_law
  obtain ⟨⟨XF, kF⟩, rF⟩ := xF
  obtain ⟨⟨XC, kC⟩, rC⟩ := xC
  have rF : XF.C = CF := rF
  have rC : XC.C = CC := rC
  have eFC : PySem.W.exmOne K (.ref XF.C) (.ref XC.C) = some false := exm_of XC.o.exC kC XC.o.tyC (by rw [rF, rC]; exact sFC)
  have ef : D_law.a = fa := by
    have := D_law.g
    rw [hfa] at this
    have := Option.some.inj this
    cases this
    rfl
  refine ⟨⟨D_law.fd, [(c_in_order, p1), (c__law_by_size, p2), (c_law, p3)], SpL [(p1, (("in_order" : Str) ++ ".<locals>.") ++ "<lambda>"), (p2, (("_law_by_size" : Str) ++ ".<locals>.") ++ "<lambda>"), (p3, (("law" : Str) ++ ".<locals>.") ++ "<lambda>")] K, fun p hp => ?_, fun p hp => ?_, fun p hp => ?_, fun s u => ?_, fun H a ns hl hH hS => ?_, fun base kb nb tb => ?_⟩⟩
  · simp only [List.mem_cons, List.not_mem_nil, or_false] at hp
    rcases hp with e | e | e <;> subst e <;> assumption
  · simp only [List.mem_cons, List.not_mem_nil, or_false] at hp
    rcases hp with e | e | e <;> subst e <;> assumption
  · simp only [List.mem_cons, List.not_mem_nil, or_false] at hp
    rcases hp with e | e | e <;> subst e <;> assumption
  · obtain ⟨oc, od, kV, dc, pm, an, ct, sl, efd, _⟩ := o_law.ex
    rw [efd]
    exact .of_eq (b_law kV dc pm an (.ref c_law) ct [u] rfl)
  · refine ⟨a, ns, fun p hp => ?_, rfl, hS, fun _ => rfl⟩
    simp only [List.mem_cons, List.not_mem_nil, or_false] at hp
    rcases hp with e | e | e <;> subst e
    · exact TabS.nil (hH (c_in_order, p1) (by simp))
    · exact TabS.nil (hH (c__law_by_size, p2) (by simp))
    · exact TabS.nil (hH (c_law, p3) (by simp))
  · have Y : Σ' Y : Tx K mg base, TxL Y ×' (Y.T = [(p1, (("in_order" : Str) ++ ".<locals>.") ++ "<lambda>"), (p2, (("_law_by_size" : Str) ++ ".<locals>.") ++ "<lambda>"), (p3, (("law" : Str) ++ ".<locals>.") ++ "<lambda>")] ∧ Y.f_law = D_law) := ?Y
    · obtain ⟨Y, YL, eT, eL⟩ := Y
      have hY := ok_law (P := l.prog) (w := w) Y YL
      rw [eT, eL, ef] at hY
      exact hY
    refine ⟨{
      f_is_list := D_is_list
      f_is_whole := D_is_whole
      f_is_positive := D_is_positive
      f_lowest := D_lowest
      f_is_fraction := D_is_fraction
      f_told := D_told
      f_checked_fraction := D_checked_fraction
      f_plus := D_plus
      f_less := D_less
      f_times := D_times
      f_parted := D_parted
      f_is_below := D_is_below
      f_greatest := D_greatest
      f_in_order := D_in_order
      f_is_corner := D_is_corner
      f_is_curve_thing := D_is_curve_thing
      f_steepness := D_steepness
      f_slopes_of := D_slopes_of
      f_normal := D_normal
      f_as_told := D_as_told
      f_place_at := D_place_at
      f_worth_of := D_worth_of
      f_each_once := D_each_once
      f_moments_of := D_moments_of
      f_summed := D_summed
      f_many_times := D_many_times
      f_apart_by := D_apart_by
      f_checked_curve := D_checked_curve
      f_never_falling := D_never_falling
      f_later_tops := D_later_tops
      f_line_of := D_line_of
      f_back_by := D_back_by
      f_ahead_by := D_ahead_by
      f_risen := D_risen
      f_held_back := D_held_back
      f_pushed_ahead := D_pushed_ahead
      f__law_stream := D__law_stream
      f__law_draw := D__law_draw
      f__law_pick := D__law_pick
      f__law_same := D__law_same
      f__law_loose := D__law_loose
      f__law_common := D__law_common
      f__law_low := D__law_low
      f__law_plus := D__law_plus
      f__law_less := D__law_less
      f__law_times := D__law_times
      f__law_by := D__law_by
      f__law_is_below := D__law_is_below
      f__law_least := D__law_least
      f__law_raw := D__law_raw
      f__law_unlike := D__law_unlike
      f__law_by_size := D__law_by_size
      f__law_is_told := D__law_is_told
      f__law_middle := D__law_middle
      f__law_c_at := D__law_c_at
      f__law_c_slopes := D__law_c_slopes
      f__law_c_slope := D__law_c_slope
      f__law_c_worth := D__law_c_worth
      f__law_c_plain := D__law_c_plain
      f__law_c_is_told := D__law_c_is_told
      f__law_c_drawn := D__law_c_drawn
      f__law_c_more := D__law_c_more
      f__law_c_raw := D__law_c_raw
      f__law_c_passed := D__law_c_passed
      f__law_c_moments := D__law_c_moments
      f__law_odd := D__law_odd
      f__law_tried := D__law_tried
      f__law_stretches := D__law_stretches
      f__law_risen_right := D__law_risen_right
      f__law_held_right := D__law_held_right
      f__law_pushed_right := D__law_pushed_right
      f__law_kept_right := D__law_kept_right
      f__law_c_long := D__law_c_long
      f_law := D_law
      z_len := PySem.W.mg_none_of X G z_len
      z_abs := PySem.W.mg_none_of X G z_abs
      z_int := PySem.W.mg_none_of X G z_int
      z_bool := PySem.W.mg_none_of X G z_bool
      z_max := PySem.W.mg_none_of X G z_max
      z_all := PySem.W.mg_none_of X G z_all
      z_repr := PySem.W.mg_none_of X G z_repr
      z_list := PySem.W.mg_none_of X G z_list
      z_tuple := PySem.W.mg_none_of X G z_tuple
      z_dict := PySem.W.mg_none_of X G z_dict
      z_isinstance := PySem.W.mg_none_of X G z_isinstance
      z_zip := PySem.W.mg_none_of X G z_zip
      z_enumerate := PySem.W.mg_none_of X G z_enumerate
      z_range := PySem.W.mg_none_of X G z_range
      z_sorted := PySem.W.mg_none_of X G z_sorted
      g_gcd := PySem.W.mg_of X G g_gcd
      xF := XF
      xC := XC
      eFC := eFC
      fn_odd := ty__law_odd
      T := [(p1, (("in_order" : Str) ++ ".<locals>.") ++ "<lambda>"), (p2, (("_law_by_size" : Str) ++ ".<locals>.") ++ "<lambda>"), (p3, (("law" : Str) ++ ".<locals>.") ++ "<lambda>")]
      c1 := c_in_order
      p1 := p1
      o1 := o_in_order
      b1 := tb (c_in_order, p1) (by simp)
      t1 := by simp
      u1 := fun p hp e => by
        simp only [List.mem_cons, List.not_mem_nil, or_false] at hp
        rcases hp with z | z | z <;> subst z
        · rfl
        · exact absurd e e12.symm
        · exact absurd e e13.symm
      c2 := c__law_by_size
      p2 := p2
      o2 := o__law_by_size
      b2 := tb (c__law_by_size, p2) (by simp)
      t2 := by simp
      u2 := fun p hp e => by
        simp only [List.mem_cons, List.not_mem_nil, or_false] at hp
        rcases hp with z | z | z <;> subst z
        · exact absurd e e12
        · rfl
        · exact absurd e e23.symm }, ⟨c_law, p3, o_law, tb (c_law, p3) (by simp), by simp, fun p hp e => ?_, ty_held_back, ty_pushed_ahead⟩, rfl, rfl⟩
    simp only [List.mem_cons, List.not_mem_nil, or_false] at hp
    rcases hp with z | z | z <;> subst z
    · exact absurd e e13
    · exact absurd e e23
    · rfl
end
end Qw
open PySem PySem.W PyProof.Rows
set_option maxRecDepth 100000 in
set_option maxHeartbeats 0 in
theorem PySem.Challenge.cw_quickbythen_k08_whole_kept_to_a_slope_holds : PySem.Challenge.rw_quickbythen_k08_whole_kept_to_a_slope.Holds := by
  w_on; o_law; k_head; (case hw => w_witness2)
  k_fill
  refine Qw.walkG (l := PySem.Challenge.rw_quickbythen_k08_whole_kept_to_a_slope) (n := 63) (k := 15) (x := "_law_script") rfl (by decide) rfl ⟨rfl, by decide, by decide⟩ (fun w h Y => PySem.W.km_in_of Y) ?F
  case F =>
    intro w mg fa h Y KX G hmg
    have hT8 := PySem.W.km_tabs_of Y
    refine' Qw.law_mk (p1 := 167) (p2 := 436) (p3 := 576) KX G hmg ?d_is_list ?d_is_whole ?d_is_positive ?d_lowest ?d_is_fraction ?d_told ?d_checked_fraction ?d_plus ?d_less ?d_times ?d_parted ?d_is_below ?d_greatest ?d_in_order ?d_is_corner ?d_is_curve_thing ?d_steepness ?d_slopes_of ?d_normal ?d_as_told ?d_place_at ?d_worth_of ?d_each_once ?d_moments_of ?d_summed ?d_many_times ?d_apart_by ?d_checked_curve ?d_never_falling ?d_later_tops ?d_line_of ?d_back_by ?d_ahead_by ?d_risen ?d_held_back ?d_pushed_ahead ?d__law_stream ?d__law_draw ?d__law_pick ?d__law_same ?d__law_loose ?d__law_common ?d__law_low ?d__law_plus ?d__law_less ?d__law_times ?d__law_by ?d__law_is_below ?d__law_least ?d__law_raw ?d__law_unlike ?d__law_by_size ?d__law_is_told ?d__law_middle ?d__law_c_at ?d__law_c_slopes ?d__law_c_slope ?d__law_c_worth ?d__law_c_plain ?d__law_c_is_told ?d__law_c_drawn ?d__law_c_more ?d__law_c_raw ?d__law_c_passed ?d__law_c_moments ?d__law_odd ?d__law_tried ?d__law_stretches ?d__law_risen_right ?d__law_held_right ?d__law_pushed_right ?d__law_kept_right ?d__law_c_long ?d_law ?z_len ?z_abs ?z_int ?z_bool ?z_max ?z_all ?z_repr ?z_list ?z_tuple ?z_dict ?z_isinstance ?z_zip ?z_enumerate ?z_range ?z_sorted ?g_gcd ?xF ?xC ?sFC ?t1 ?t2 ?t3 ?n1 ?n2 ?n3 ?e12 ?e13 ?e23
    (case xF => refine' Qw.xc_mk Qw.b_xF KX G ?a ?xl ?ve ?sa ?ga ?gg ?no ?i ?ti ?l ?c ?k ?kC ?eC ?tC ?hC ?iC ?sC; (case a => k_is); (case xl => k_is); (case ve => decide +kernel); (case sa => k_is); (case ga => k_is); (case gg => k_is); (case no => k_is); (case i => k_is); (case ti => k_is); (case l => k_is); (case c => k_is); (case k => k_is); (case kC => k_is); (case eC => k_is); (case tC => k_is); (case hC => k_is); (case iC => k_is); (case sC => first | rfl | k_is))
    (case xC => refine' Qw.xc_mk Qw.b_xC KX G ?a ?xl ?ve ?sa ?ga ?gg ?no ?i ?ti ?l ?c ?k ?kC ?eC ?tC ?hC ?iC ?sC; (case a => k_is); (case xl => k_is); (case ve => decide +kernel); (case sa => k_is); (case ga => k_is); (case gg => k_is); (case no => k_is); (case i => k_is); (case ti => k_is); (case l => k_is); (case c => k_is); (case k => k_is); (case kC => k_is); (case eC => k_is); (case tC => k_is); (case hC => k_is); (case iC => k_is); (case sC => first | rfl | k_is))
    (case d_is_list => refine' Qw.df_mk Qw.b_is_list KX G ?a ?l ?c ?k; (case a => k_is); (case l => k_is); (case c => k_is); (case k => k_is))
    (case d_is_whole => refine' Qw.df_mk Qw.b_is_whole KX G ?a ?l ?c ?k; (case a => k_is); (case l => k_is); (case c => k_is); (case k => k_is))
    (case d_is_positive => refine' Qw.df_mk Qw.b_is_positive KX G ?a ?l ?c ?k; (case a => k_is); (case l => k_is); (case c => k_is); (case k => k_is))
    (case d_lowest => refine' Qw.df_mk Qw.b_lowest KX G ?a ?l ?c ?k; (case a => k_is); (case l => k_is); (case c => k_is); (case k => k_is))
    (case d_is_fraction => refine' Qw.df_mk Qw.b_is_fraction KX G ?a ?l ?c ?k; (case a => k_is); (case l => k_is); (case c => k_is); (case k => k_is))
    (case d_told => refine' Qw.df_mk Qw.b_told KX G ?a ?l ?c ?k; (case a => k_is); (case l => k_is); (case c => k_is); (case k => k_is))
    (case d_checked_fraction => refine' Qw.df_mk Qw.b_checked_fraction KX G ?a ?l ?c ?k; (case a => k_is); (case l => k_is); (case c => k_is); (case k => k_is))
    (case d_plus => refine' Qw.df_mk Qw.b_plus KX G ?a ?l ?c ?k; (case a => k_is); (case l => k_is); (case c => k_is); (case k => k_is))
    (case d_less => refine' Qw.df_mk Qw.b_less KX G ?a ?l ?c ?k; (case a => k_is); (case l => k_is); (case c => k_is); (case k => k_is))
    (case d_times => refine' Qw.df_mk Qw.b_times KX G ?a ?l ?c ?k; (case a => k_is); (case l => k_is); (case c => k_is); (case k => k_is))
    (case d_parted => refine' Qw.df_mk Qw.b_parted KX G ?a ?l ?c ?k; (case a => k_is); (case l => k_is); (case c => k_is); (case k => k_is))
    (case d_is_below => refine' Qw.df_mk Qw.b_is_below KX G ?a ?l ?c ?k; (case a => k_is); (case l => k_is); (case c => k_is); (case k => k_is))
    (case d_greatest => refine' Qw.df_mk Qw.b_greatest KX G ?a ?l ?c ?k; (case a => k_is); (case l => k_is); (case c => k_is); (case k => k_is))
    (case d_in_order => refine' Qw.df_mkC Qw.b_in_order KX G ?a ?l ?c ?k ?e; (case a => k_is); (case l => k_is); (case c => k_is); (case k => k_is); (case e => kernel_rfl))
    (case d_is_corner => refine' Qw.df_mk Qw.b_is_corner KX G ?a ?l ?c ?k; (case a => k_is); (case l => k_is); (case c => k_is); (case k => k_is))
    (case d_is_curve_thing => refine' Qw.df_mk Qw.b_is_curve_thing KX G ?a ?l ?c ?k; (case a => k_is); (case l => k_is); (case c => k_is); (case k => k_is))
    (case d_steepness => refine' Qw.df_mk Qw.b_steepness KX G ?a ?l ?c ?k; (case a => k_is); (case l => k_is); (case c => k_is); (case k => k_is))
    (case d_slopes_of => refine' Qw.df_mk Qw.b_slopes_of KX G ?a ?l ?c ?k; (case a => k_is); (case l => k_is); (case c => k_is); (case k => k_is))
    (case d_normal => refine' Qw.df_mk Qw.b_normal KX G ?a ?l ?c ?k; (case a => k_is); (case l => k_is); (case c => k_is); (case k => k_is))
    (case d_as_told => refine' Qw.df_mk Qw.b_as_told KX G ?a ?l ?c ?k; (case a => k_is); (case l => k_is); (case c => k_is); (case k => k_is))
    (case d_place_at => refine' Qw.df_mk Qw.b_place_at KX G ?a ?l ?c ?k; (case a => k_is); (case l => k_is); (case c => k_is); (case k => k_is))
    (case d_worth_of => refine' Qw.df_mk Qw.b_worth_of KX G ?a ?l ?c ?k; (case a => k_is); (case l => k_is); (case c => k_is); (case k => k_is))
    (case d_each_once => refine' Qw.df_mk Qw.b_each_once KX G ?a ?l ?c ?k; (case a => k_is); (case l => k_is); (case c => k_is); (case k => k_is))
    (case d_moments_of => refine' Qw.df_mk Qw.b_moments_of KX G ?a ?l ?c ?k; (case a => k_is); (case l => k_is); (case c => k_is); (case k => k_is))
    (case d_summed => refine' Qw.df_mk Qw.b_summed KX G ?a ?l ?c ?k; (case a => k_is); (case l => k_is); (case c => k_is); (case k => k_is))
    (case d_many_times => refine' Qw.df_mk Qw.b_many_times KX G ?a ?l ?c ?k; (case a => k_is); (case l => k_is); (case c => k_is); (case k => k_is))
    (case d_apart_by => refine' Qw.df_mk Qw.b_apart_by KX G ?a ?l ?c ?k; (case a => k_is); (case l => k_is); (case c => k_is); (case k => k_is))
    (case d_checked_curve => refine' Qw.df_mk Qw.b_checked_curve KX G ?a ?l ?c ?k; (case a => k_is); (case l => k_is); (case c => k_is); (case k => k_is))
    (case d_never_falling => refine' Qw.df_mk Qw.b_never_falling KX G ?a ?l ?c ?k; (case a => k_is); (case l => k_is); (case c => k_is); (case k => k_is))
    (case d_later_tops => refine' Qw.df_mk Qw.b_later_tops KX G ?a ?l ?c ?k; (case a => k_is); (case l => k_is); (case c => k_is); (case k => k_is))
    (case d_line_of => refine' Qw.df_mk Qw.b_line_of KX G ?a ?l ?c ?k; (case a => k_is); (case l => k_is); (case c => k_is); (case k => k_is))
    (case d_back_by => refine' Qw.df_mk Qw.b_back_by KX G ?a ?l ?c ?k; (case a => k_is); (case l => k_is); (case c => k_is); (case k => k_is))
    (case d_ahead_by => refine' Qw.df_mk Qw.b_ahead_by KX G ?a ?l ?c ?k; (case a => k_is); (case l => k_is); (case c => k_is); (case k => k_is))
    (case d_risen => refine' Qw.df_mk Qw.b_risen KX G ?a ?l ?c ?k; (case a => k_is); (case l => k_is); (case c => k_is); (case k => k_is))
    (case d_held_back => refine' Qw.df_mkT Qw.b_held_back KX G ?a ?l ?c ?k ?t; (case a => k_is); (case l => k_is); (case c => k_is); (case k => k_is); (case t => k_is))
    (case d_pushed_ahead => refine' Qw.df_mkT Qw.b_pushed_ahead KX G ?a ?l ?c ?k ?t; (case a => k_is); (case l => k_is); (case c => k_is); (case k => k_is); (case t => k_is))
    (case d__law_stream => refine' Qw.df_mk Qw.b__law_stream KX G ?a ?l ?c ?k; (case a => k_is); (case l => k_is); (case c => k_is); (case k => k_is))
    (case d__law_draw => refine' Qw.df_mk Qw.b__law_draw KX G ?a ?l ?c ?k; (case a => k_is); (case l => k_is); (case c => k_is); (case k => k_is))
    (case d__law_pick => refine' Qw.df_mk Qw.b__law_pick KX G ?a ?l ?c ?k; (case a => k_is); (case l => k_is); (case c => k_is); (case k => k_is))
    (case d__law_same => refine' Qw.df_mk Qw.b__law_same KX G ?a ?l ?c ?k; (case a => k_is); (case l => k_is); (case c => k_is); (case k => k_is))
    (case d__law_loose => refine' Qw.df_mk Qw.b__law_loose KX G ?a ?l ?c ?k; (case a => k_is); (case l => k_is); (case c => k_is); (case k => k_is))
    (case d__law_common => refine' Qw.df_mk Qw.b__law_common KX G ?a ?l ?c ?k; (case a => k_is); (case l => k_is); (case c => k_is); (case k => k_is))
    (case d__law_low => refine' Qw.df_mk Qw.b__law_low KX G ?a ?l ?c ?k; (case a => k_is); (case l => k_is); (case c => k_is); (case k => k_is))
    (case d__law_plus => refine' Qw.df_mk Qw.b__law_plus KX G ?a ?l ?c ?k; (case a => k_is); (case l => k_is); (case c => k_is); (case k => k_is))
    (case d__law_less => refine' Qw.df_mk Qw.b__law_less KX G ?a ?l ?c ?k; (case a => k_is); (case l => k_is); (case c => k_is); (case k => k_is))
    (case d__law_times => refine' Qw.df_mk Qw.b__law_times KX G ?a ?l ?c ?k; (case a => k_is); (case l => k_is); (case c => k_is); (case k => k_is))
    (case d__law_by => refine' Qw.df_mk Qw.b__law_by KX G ?a ?l ?c ?k; (case a => k_is); (case l => k_is); (case c => k_is); (case k => k_is))
    (case d__law_is_below => refine' Qw.df_mk Qw.b__law_is_below KX G ?a ?l ?c ?k; (case a => k_is); (case l => k_is); (case c => k_is); (case k => k_is))
    (case d__law_least => refine' Qw.df_mk Qw.b__law_least KX G ?a ?l ?c ?k; (case a => k_is); (case l => k_is); (case c => k_is); (case k => k_is))
    (case d__law_raw => refine' Qw.df_mk Qw.b__law_raw KX G ?a ?l ?c ?k; (case a => k_is); (case l => k_is); (case c => k_is); (case k => k_is))
    (case d__law_unlike => refine' Qw.df_mk Qw.b__law_unlike KX G ?a ?l ?c ?k; (case a => k_is); (case l => k_is); (case c => k_is); (case k => k_is))
    (case d__law_by_size => refine' Qw.df_mkC Qw.b__law_by_size KX G ?a ?l ?c ?k ?e; (case a => k_is); (case l => k_is); (case c => k_is); (case k => k_is); (case e => kernel_rfl))
    (case d__law_is_told => refine' Qw.df_mk Qw.b__law_is_told KX G ?a ?l ?c ?k; (case a => k_is); (case l => k_is); (case c => k_is); (case k => k_is))
    (case d__law_middle => refine' Qw.df_mk Qw.b__law_middle KX G ?a ?l ?c ?k; (case a => k_is); (case l => k_is); (case c => k_is); (case k => k_is))
    (case d__law_c_at => refine' Qw.df_mk Qw.b__law_c_at KX G ?a ?l ?c ?k; (case a => k_is); (case l => k_is); (case c => k_is); (case k => k_is))
    (case d__law_c_slopes => refine' Qw.df_mk Qw.b__law_c_slopes KX G ?a ?l ?c ?k; (case a => k_is); (case l => k_is); (case c => k_is); (case k => k_is))
    (case d__law_c_slope => refine' Qw.df_mk Qw.b__law_c_slope KX G ?a ?l ?c ?k; (case a => k_is); (case l => k_is); (case c => k_is); (case k => k_is))
    (case d__law_c_worth => refine' Qw.df_mk Qw.b__law_c_worth KX G ?a ?l ?c ?k; (case a => k_is); (case l => k_is); (case c => k_is); (case k => k_is))
    (case d__law_c_plain => refine' Qw.df_mk Qw.b__law_c_plain KX G ?a ?l ?c ?k; (case a => k_is); (case l => k_is); (case c => k_is); (case k => k_is))
    (case d__law_c_is_told => refine' Qw.df_mk Qw.b__law_c_is_told KX G ?a ?l ?c ?k; (case a => k_is); (case l => k_is); (case c => k_is); (case k => k_is))
    (case d__law_c_drawn => refine' Qw.df_mk Qw.b__law_c_drawn KX G ?a ?l ?c ?k; (case a => k_is); (case l => k_is); (case c => k_is); (case k => k_is))
    (case d__law_c_more => refine' Qw.df_mk Qw.b__law_c_more KX G ?a ?l ?c ?k; (case a => k_is); (case l => k_is); (case c => k_is); (case k => k_is))
    (case d__law_c_raw => refine' Qw.df_mk Qw.b__law_c_raw KX G ?a ?l ?c ?k; (case a => k_is); (case l => k_is); (case c => k_is); (case k => k_is))
    (case d__law_c_passed => refine' Qw.df_mk Qw.b__law_c_passed KX G ?a ?l ?c ?k; (case a => k_is); (case l => k_is); (case c => k_is); (case k => k_is))
    (case d__law_c_moments => refine' Qw.df_mk Qw.b__law_c_moments KX G ?a ?l ?c ?k; (case a => k_is); (case l => k_is); (case c => k_is); (case k => k_is))
    (case d__law_odd => refine' Qw.df_mkT Qw.b__law_odd KX G ?a ?l ?c ?k ?t; (case a => k_is); (case l => k_is); (case c => k_is); (case k => k_is); (case t => k_is))
    (case d__law_tried => refine' Qw.df_mk Qw.b__law_tried KX G ?a ?l ?c ?k; (case a => k_is); (case l => k_is); (case c => k_is); (case k => k_is))
    (case d__law_stretches => refine' Qw.df_mk Qw.b__law_stretches KX G ?a ?l ?c ?k; (case a => k_is); (case l => k_is); (case c => k_is); (case k => k_is))
    (case d__law_risen_right => refine' Qw.df_mk Qw.b__law_risen_right KX G ?a ?l ?c ?k; (case a => k_is); (case l => k_is); (case c => k_is); (case k => k_is))
    (case d__law_held_right => refine' Qw.df_mk Qw.b__law_held_right KX G ?a ?l ?c ?k; (case a => k_is); (case l => k_is); (case c => k_is); (case k => k_is))
    (case d__law_pushed_right => refine' Qw.df_mk Qw.b__law_pushed_right KX G ?a ?l ?c ?k; (case a => k_is); (case l => k_is); (case c => k_is); (case k => k_is))
    (case d__law_kept_right => refine' Qw.df_mk Qw.b__law_kept_right KX G ?a ?l ?c ?k; (case a => k_is); (case l => k_is); (case c => k_is); (case k => k_is))
    (case d__law_c_long => refine' Qw.df_mk Qw.b__law_c_long KX G ?a ?l ?c ?k; (case a => k_is); (case l => k_is); (case c => k_is); (case k => k_is))
    (case d_law => refine' Qw.df_mkC Qw.b_law KX G ?a ?l ?c ?k ?e; (case a => k_is); (case l => k_is); (case c => k_is); (case k => k_is); (case e => kernel_rfl))
    (case z_len => k_is)
    (case z_abs => k_is)
    (case z_int => k_is)
    (case z_bool => k_is)
    (case z_max => k_is)
    (case z_all => k_is)
    (case z_repr => k_is)
    (case z_list => k_is)
    (case z_tuple => k_is)
    (case z_dict => k_is)
    (case z_isinstance => k_is)
    (case z_zip => k_is)
    (case z_enumerate => k_is)
    (case z_range => k_is)
    (case z_sorted => k_is)
    (case g_gcd => k_is); (case sFC => k_is)
    (case t1 => exact hT8 _ (by decide)); (case t2 => exact hT8 _ (by decide)); (case t3 => exact hT8 _ (by decide))
    (case n1 => kernel_rfl); (case n2 => kernel_rfl); (case n3 => kernel_rfl); (case e12 => decide); (case e13 => decide); (case e23 => decide)
