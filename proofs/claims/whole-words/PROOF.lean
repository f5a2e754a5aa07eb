import PyProof.Rows.All
import Wide.All
import OpenK.AllK
import Wide.FinOn
import HandS.ForMost
import HandS.ForExc
import HandS.Wide
import HandS.Gcd
import HandS.IsInst
import HandS.Defaults
import HandS.Head3
import HandS.HeadWalk
import HandS.HeadHook4
import HandS.ExcField
import HandS.Flow
import HandS.Style
import HandS.TupAny
import HandS.TupMul
import HandS.Walk
import HandS.Lambda
import PyProof.ReprRoads
import KE.GoesEnum
import KE.GoesMore
import KE.KExcSuper
import HandS.ExcInit
import HandS.TryMany
import HandS.ExcIs
import HandS.EndTab
import PySem.Challenge.RW_stepswithin_k63_whole_words_alike_or_par
set_option Elab.async false
set_option linter.all false
set_option linter.all false
set_option maxHeartbeats 1000000
namespace K63
/-! ### polynomials: lists of fractions, their values -/
def ev : List Rat → Rat → Rat
  | [], _ => 0
  | c :: l, x => c + x * ev l x
theorem ev_nil (x : Rat) : ev [] x = 0 := rfl
theorem ev_cons (c : Rat) (l : List Rat) (x : Rat) : ev (c :: l) x = c + x * ev l x := rfl
theorem ev_append (x : Rat) : ∀ a b : List Rat, ev (a ++ b) x = ev a x + x ^ a.length * ev b x
  | [], b => by simp [ev]; grind
  | c :: a, b => by
    rw [List.cons_append, ev_cons, ev_cons, ev_append x a b, List.length_cons, Rat.pow_succ]
    grind
theorem ev_snoc (x : Rat) (a : List Rat) (c : Rat) : ev (a ++ [c]) x = ev a x + x ^ a.length * c := by
  rw [ev_append]
  simp [ev]
  grind
/-- what is left when a root is divided out -/
def sd (r : Rat) : List Rat → List Rat
  | [] => []
  | [_] => []
  | _ :: d :: l => ev (d :: l) r :: sd r (d :: l)
theorem sd_len (r : Rat) : ∀ l : List Rat, (sd r l).length = l.length - 1
  | [] => rfl
  | [_] => rfl
  | _ :: d :: l => by simp [sd, sd_len r (d :: l)]
theorem sd_ev (r x : Rat) : ∀ l : List Rat, ev l x = ev l r + (x - r) * ev (sd r l) x
  | [] => by simp [sd, ev]; grind
  | [c] => by simp [sd, ev]; grind
  | c :: d :: l => by
    have h := sd_ev r x (d :: l)
    rw [ev_cons c, ev_cons c, h, sd, ev_cons (ev (d :: l) r)]
    grind
def Zr (l : List Rat) : Prop := ∀ c ∈ l, c = 0
theorem sd_zero (r : Rat) : ∀ l : List Rat, Zr (sd r l) → ev l r = 0 → Zr l
  | [], _, _ => by intro c hc; simp at hc
  | [c], _, h => by
    intro d hd
    simp at hd
    subst hd
    simp [ev] at h
    grind
  | c :: d :: l, hz, h => by
    have h1 : ev (d :: l) r = 0 := hz _ (by simp [sd])
    have h2 : Zr (d :: l) := sd_zero r (d :: l) (fun y hy => hz y (by simp [sd, hy])) h1
    rw [ev_cons, h1] at h
    intro y hy
    rcases List.mem_cons.mp hy with e | e
    · grind
    · exact h2 y e
theorem ev_zero : ∀ (n : Nat) (l : List Rat), l.length = n → (∀ k : Nat, k < n → ev l (k : Rat) = 0) → Zr l
  | 0, l, hl, _ => by
    intro c hc
    have : l = [] := List.length_eq_zero_iff.mp hl
    subst this
    simp at hc
  | n + 1, l, hl, h => by
    have hr := h n (by omega)
    refine sd_zero (n : Rat) l ?_ hr
    refine ev_zero n _ (by rw [sd_len, hl]; rfl) fun k hk => ?_
    have e := sd_ev (n : Rat) (k : Rat) l
    rw [h k (by omega), hr] at e
    have hne : (k : Rat) - (n : Rat) ≠ 0 := by
      intro z
      have z2 : (k : Rat) = (n : Rat) := by grind
      have := Rat.natCast_inj.mp z2
      omega
    grind
def subL : List Rat → List Rat → List Rat
  | [], _ => []
  | _, [] => []
  | x :: a, y :: b => (x - y) :: subL a b
theorem subL_len : ∀ {a b : List Rat}, a.length = b.length → (subL a b).length = a.length
  | [], _, _ => by simp [subL]
  | _ :: _, [], h => by simp at h
  | x :: a, y :: b, h => by simp [subL, subL_len (a := a) (b := b) (by simpa using h)]
theorem subL_ev (x : Rat) : ∀ {a b : List Rat}, a.length = b.length → ev (subL a b) x = ev a x - ev b x
  | [], [], _ => by simp [subL, ev]; grind
  | [], _ :: _, h => by simp at h
  | _ :: _, [], h => by simp at h
  | c :: a, d :: b, h => by
    rw [subL, ev_cons, ev_cons, ev_cons, subL_ev x (a := a) (b := b) (by simpa using h)]
    grind
theorem subL_zero : ∀ {a b : List Rat}, a.length = b.length → Zr (subL a b) → a = b
  | [], [], _, _ => rfl
  | [], _ :: _, h, _ => by simp at h
  | _ :: _, [], h, _ => by simp at h
  | c :: a, d :: b, h, z => by
    have h1 : c - d = 0 := z _ (by simp [subL])
    have h2 := subL_zero (a := a) (b := b) (by simpa using h) fun y hy => z y (by simp [subL, hy])
    have h3 : c = d := by grind
    rw [h2, h3]
/-- lists of one length with the same values are one -/
theorem ev_ext {a b : List Rat} (hl : a.length = b.length) (h : ∀ k : Nat, k < a.length → ev a (k : Rat) = ev b (k : Rat)) : a = b := by
  refine subL_zero hl (ev_zero a.length _ (subL_len hl) fun k hk => ?_)
  rw [subL_ev _ hl, h k hk]
  grind
def pad (l : List Rat) (n : Nat) : List Rat := l ++ List.replicate n 0
theorem ev_rep (x : Rat) : ∀ n : Nat, ev (List.replicate n 0) x = 0
  | 0 => rfl
  | n + 1 => by rw [List.replicate_succ, ev_cons, ev_rep x n]; grind
theorem ev_pad (l : List Rat) (n : Nat) (x : Rat) : ev (pad l n) x = ev l x := by
  unfold pad
  rw [ev_append, ev_rep]
  grind
/-- the last one is there and not nought -/
def Hd (l : List Rat) : Prop := ∃ c, l.getLast? = some c ∧ c ≠ 0
theorem Hd.ne {l : List Rat} (h : Hd l) : l ≠ [] := by
  obtain ⟨c, h, _⟩ := h
  intro z
  subst z
  simp at h
/-- unlike ones part below the greater length -/
theorem ev_part {a b : List Rat} (ha : Hd a) (hb : Hd b) (h : ∀ k : Nat, k < max a.length b.length → ev a (k : Rat) = ev b (k : Rat)) : a = b := by
  have key : ∀ {a b : List Rat}, Hd b → a.length ≤ b.length → (∀ k : Nat, k < b.length → ev a (k : Rat) = ev b (k : Rat)) → a = b := by
    intro a b hb hle h
    have e : pad a (b.length - a.length) = b := ev_ext (by simp [pad]; omega) fun k hk => by
      rw [ev_pad]
      exact h k (by simp [pad] at hk; omega)
    by_cases q : b.length - a.length = 0
    · rw [q] at e
      simpa [pad] using e
    · exfalso
      obtain ⟨c, hc, hn⟩ := hb
      rw [← e] at hc
      unfold pad at hc
      rw [List.getLast?_append, List.getLast?_replicate, if_neg q] at hc
      simp at hc
      exact hn hc.symm
  by_cases hle : a.length ≤ b.length
  · exact key hb hle fun k hk => h k (by omega)
  · exact (key ha (by omega) fun k hk => (h k (by omega)).symm).symm
/-! ### where two part -/
def parted (a b : List Rat) : Option Nat := (List.range (max a.length b.length)).find? fun k => !decide (ev a (k : Rat) = ev b (k : Rat))
theorem parted_none {a b : List Rat} (ha : Hd a) (hb : Hd b) : parted a b = none ↔ a = b := by
  unfold parted
  rw [List.find?_eq_none]
  constructor
  · intro h
    refine ev_part ha hb fun k hk => ?_
    have := h k (List.mem_range.mpr hk)
    simpa using this
  · intro h k hk
    subst h
    simp
theorem parted_lt {a b : List Rat} {k : Nat} (h : parted a b = some k) : k < max a.length b.length := List.mem_range.mp (List.mem_of_find?_eq_some h)
theorem last_split {α : Type} {l : List α} {c : α} (h : l.getLast? = some c) : l.dropLast ++ [c] = l := by
  have hne : l ≠ [] := by intro z; subst z; simp at h
  rw [List.getLast?_eq_some_getLast hne] at h
  have e : l.getLast hne = c := Option.some.inj h
  rw [← e]
  exact List.dropLast_concat_getLast hne
/-! ### products -/
def addL : List Rat → List Rat → List Rat
  | [], b => b
  | a, [] => a
  | x :: a, y :: b => (x + y) :: addL a b
theorem addL_nil (a : List Rat) : addL a [] = a := by cases a <;> rfl
theorem ev_addL (x : Rat) : ∀ a b : List Rat, ev (addL a b) x = ev a x + ev b x
  | [], b => by simp [addL, ev]; grind
  | a :: as, [] => by simp [addL, ev]; grind
  | a :: as, b :: bs => by
    simp only [addL, ev, ev_addL x as bs]; grind
theorem addL_len : ∀ a b : List Rat, (addL a b).length = max a.length b.length
  | [], b => by simp [addL]
  | a :: as, [] => by simp [addL]
  | a :: as, b :: bs => by simp [addL, addL_len as bs]; try omega
def smul (c : Rat) (l : List Rat) : List Rat := l.map (c * ·)
theorem ev_smul (c x : Rat) : ∀ l : List Rat, ev (smul c l) x = c * ev l x
  | [] => by simp [smul, ev]
  | d :: l => by
    have ih := ev_smul c x l
    unfold smul at ih ⊢
    rw [List.map_cons, ev_cons, ev_cons, ih]
    grind
def pmul : List Rat → List Rat → List Rat
  | [], _ => []
  | [c], b => smul c b
  | c :: d :: a, b => addL (smul c b) (0 :: pmul (d :: a) b)
theorem ev_pmul (x : Rat) : ∀ a b : List Rat, ev (pmul a b) x = ev a x * ev b x
  | [], b => by simp [pmul, ev]
  | [c], b => by rw [pmul, ev_smul]; simp [ev]; try grind
  | c :: d :: a, b => by
    rw [pmul, ev_addL, ev_smul, ev_cons 0, ev_pmul x (d :: a) b, ev_cons c]
    grind
theorem pmul_len : ∀ {a b : List Rat}, a ≠ [] → b ≠ [] → (pmul a b).length = a.length + b.length - 1
  | [], _, h, _ => absurd rfl h
  | [c], b, _, hb => by simp [pmul, smul]
  | c :: d :: a, b, _, hb => by
    have hb' : 0 < b.length := List.length_pos_iff.mpr hb
    rw [pmul, addL_len, List.length_cons, pmul_len (a := d :: a) (b := b) (by simp) hb]
    simp [smul]
    omega
theorem addL_last : ∀ {a b : List Rat}, a.length < b.length → (addL a b).getLast? = b.getLast?
  | [], b, _ => by simp [addL]
  | a :: as, [], h => by simp at h
  | a :: as, b :: bs, h => by
    have h2 : as.length < bs.length := by simpa using h
    have ne1 : bs ≠ [] := by intro z; subst z; simp at h2
    have ne2 : addL as bs ≠ [] := by
      intro z
      have := addL_len as bs
      rw [z] at this
      simp at this
      omega
    rw [addL, List.getLast?_cons_of_ne_nil ne2, addL_last h2, List.getLast?_cons_of_ne_nil ne1]
theorem smul_last (c : Rat) (l : List Rat) : (smul c l).getLast? = l.getLast?.map (c * ·) := by
  unfold smul
  rw [List.getLast?_map]
theorem pmul_last : ∀ {a b : List Rat} {x y : Rat}, a.getLast? = some x → b.getLast? = some y → (pmul a b).getLast? = some (x * y)
  | [], _, _, _, h, _ => by simp at h
  | [c], b, x, y, h, hb => by
    have e : c = x := by simpa using h
    subst e
    rw [pmul, smul_last, hb]
    rfl
  | c :: d :: a, b, x, y, h, hb => by
    have ne : b ≠ [] := by intro z; subst z; simp at hb
    have h2 : (d :: a).getLast? = some x := by
      rw [List.getLast?_cons_of_ne_nil (by simp)] at h
      exact h
    have hl := pmul_len (a := d :: a) (b := b) (by simp) ne
    have hbp : 0 < b.length := List.length_pos_iff.mpr ne
    have ne2 : pmul (d :: a) b ≠ [] := by
      intro z
      rw [z] at hl
      simp at hl
      omega
    rw [pmul, addL_last (by simp [smul]; rw [hl]; simp; omega), List.getLast?_cons_of_ne_nil ne2]
    exact pmul_last h2 hb
theorem Hd.mul {a b : List Rat} (ha : Hd a) (hb : Hd b) : Hd (pmul a b) := by
  obtain ⟨x, h1, h2⟩ := ha
  obtain ⟨y, h3, h4⟩ := hb
  refine ⟨x * y, pmul_last h1 h3, ?_⟩
  intro z
  rcases Rat.mul_eq_zero.mp z with e | e
  · exact h2 e
  · exact h4 e
/-! ### noughts at the end -/
def trimR : List Rat → List Rat
  | [] => []
  | [c] => [c]
  | c :: d :: r => if c = 0 then trimR (d :: r) else c :: d :: r
def trim (l : List Rat) : List Rat := (trimR l.reverse).reverse
theorem trim_pop {l : List Rat} (h1 : 1 < l.length) (h : l.getLast? = some 0) : trim l = trim l.dropLast := by
  unfold trim
  rw [← last_split h]
  rw [List.dropLast_concat, List.reverse_append]
  have h2 : l.dropLast.length = l.length - 1 := List.length_dropLast
  cases e : l.dropLast.reverse with
  | nil =>
    have := congrArg List.length e
    simp at this
    omega
  | cons d r => simp [trimR]
theorem trim_stop {l : List Rat} (h : ¬ (1 < l.length ∧ l.getLast? = some 0)) : trim l = l := by
  unfold trim
  cases e : l.reverse with
  | nil =>
    have : l = [] := by simpa using e
    subst this
    rfl
  | cons c r =>
    have e2 : l = r.reverse ++ [c] := by
      have := congrArg List.reverse e
      simpa using this
    cases r with
    | nil => simp [trimR, e2]
    | cons d r =>
      have hc : ¬ c = 0 := fun z => h ⟨by rw [e2]; simp, by rw [e2, List.getLast?_concat, z]⟩
      simp [trimR, hc, e2]
theorem trim_hd {l : List Rat} (h : Hd l) : trim l = l := trim_stop fun ⟨_, z⟩ => by
  obtain ⟨c, h1, h2⟩ := h
  rw [h1] at z
  exact h2 (Option.some.inj z)
theorem trim_one (c : Rat) : trim [c] = [c] := trim_stop fun ⟨z, _⟩ => by simp at z
theorem ev_trim (l : List Rat) (x : Rat) : ev (trim l) x = ev l x := by
  by_cases h : 1 < l.length ∧ l.getLast? = some 0
  · rw [trim_pop h.1 h.2]
    have ih := ev_trim l.dropLast x
    rw [ih]
    have e := last_split h.2
    conv => rhs; rw [← e, ev_snoc]
    grind
  · rw [trim_stop h]
termination_by l.length
decreasing_by simp; omega
theorem trim_rep (n : Nat) : trim (List.replicate (n + 1) 0) = [0] := by
  induction n with
  | zero => exact trim_one 0
  | succ n ih =>
    rw [trim_pop (by simp) (by simp [List.getLast?_replicate]), List.dropLast_replicate]
    exact ih
/-! ### sums -/
def lsum (a b : List Rat) : List Rat := (List.range (max a.length b.length)).map fun i => a.getD i 0 + b.getD i 0
theorem lsum_len (a b : List Rat) : (lsum a b).length = max a.length b.length := by simp [lsum]
theorem addL_get : ∀ (a b : List Rat) (i : Nat), i < max a.length b.length → (addL a b)[i]? = some (a.getD i 0 + b.getD i 0)
  | [], b, i, h => by
    have h2 : i < b.length := by simpa using h
    simp [addL, List.getD, h2]
    grind
  | a :: as, [], i, h => by
    have h2 : i < (a :: as).length := by simpa using h
    rw [addL_nil]
    simp only [List.getD, List.getElem?_eq_getElem h2, List.getElem?_nil, Option.getD_some, Option.getD_none]
    congr 1
    grind
  | a :: as, b :: bs, 0, h => by simp [addL, List.getD]
  | a :: as, b :: bs, i + 1, h => by
    have ih := addL_get as bs i (by simp at h; omega)
    simp only [addL, List.getElem?_cons_succ, ih, List.getD]
theorem lsum_eq (a b : List Rat) : lsum a b = addL a b := by
  refine List.ext_getElem? fun i => ?_
  by_cases h : i < max a.length b.length
  · rw [addL_get a b i h]
    unfold lsum
    rw [List.getElem?_map, List.getElem?_range h]
    rfl
  · rw [List.getElem?_eq_none (by rw [lsum_len]; omega), List.getElem?_eq_none (by rw [addL_len]; omega)]
/-! ### one put into the other -/
def wstep (li f : List Rat) (c : Rat) : List Rat := trim (lsum (trim (pmul f li)) [c])
def within (li lo : List Rat) : List Rat := lo.reverse.foldl (wstep li) [0]
theorem ev_wstep (li f : List Rat) (c x : Rat) : ev (wstep li f c) x = ev f x * ev li x + c := by
  unfold wstep
  rw [ev_trim, lsum_eq, ev_addL, ev_trim, ev_pmul]
  simp [ev]
  try grind
theorem ev_fold (li : List Rat) (x : Rat) : ∀ (l f : List Rat), ev (l.foldl (wstep li) f) x = l.foldl (fun v c => v * ev li x + c) (ev f x)
  | [], f => rfl
  | c :: l, f => by
    rw [List.foldl_cons, List.foldl_cons, ev_fold li x l, ev_wstep]
theorem horner (y : Rat) : ∀ (l : List Rat) (v : Rat), l.reverse.foldl (fun v c => v * y + c) v = ev l y + y ^ l.length * v
  | [], v => by simp [ev]; grind
  | c :: l, v => by
    rw [List.reverse_cons, List.foldl_append, horner y l v, List.foldl_cons, List.foldl_nil, ev_cons, List.length_cons, Rat.pow_succ]
    grind
theorem ev_within (li lo : List Rat) (x : Rat) : ev (within li lo) x = ev lo (ev li x) := by
  unfold within
  rw [ev_fold, horner]
  simp [ev]
  try grind
/-- a step: a head that is not nought, a degree from 1 on -/
def Stp (l : List Rat) : Prop := 2 ≤ l.length ∧ Hd l
theorem wstep_hd {li f : List Rat} {c : Rat} (hl : Stp li) (hf : Hd f) : Hd (wstep li f c) ∧ (wstep li f c).length = f.length + li.length - 1 := by
  have hm := hf.mul hl.2
  have ne1 := hf.ne
  have ne2 := hl.2.ne
  have len := pmul_len ne1 ne2
  have h1 : 0 < f.length := List.length_pos_iff.mpr ne1
  have h2 := hl.1
  have hs : Hd (addL (pmul f li) [c]) := by
    obtain ⟨x, e, n⟩ := hm
    refine ⟨x, ?_, n⟩
    have comm : addL (pmul f li) [c] = addL [c] (pmul f li) := by
      rw [← lsum_eq, ← lsum_eq]
      unfold lsum
      rw [Nat.max_comm]
      congr 1
      funext i
      grind
    rw [comm, addL_last (by simp; omega)]
    exact e
  unfold wstep
  rw [trim_hd hm, lsum_eq, trim_hd hs]
  refine ⟨hs, ?_⟩
  rw [addL_len, len]
  simp
  omega
theorem wstep_first (li : List Rat) (hl : li ≠ []) (c : Rat) : wstep li [0] c = [c] := by
  have e : pmul [0] li = List.replicate (li.length - 1 + 1) 0 := by
    have h1 : 0 < li.length := List.length_pos_iff.mpr hl
    rw [pmul]
    unfold smul
    have : li.map (fun x => (0 : Rat) * x) = li.map (fun _ => (0 : Rat)) := by
      congr 1
      funext x
      simp
    rw [this, List.map_const']
    congr 1
    omega
  unfold wstep
  rw [e, trim_rep]
  have e2 : lsum [0] [c] = [c] := by
    simp [lsum, List.range_succ, List.getD]
    grind
  rw [e2, trim_one]
theorem fold_hd {li : List Rat} (hl : Stp li) : ∀ (l f : List Rat), Hd f → Hd (l.foldl (wstep li) f) ∧ (l.foldl (wstep li) f).length = f.length + l.length * (li.length - 1)
  | [], f, hf => by simp [hf]
  | c :: l, f, hf => by
    obtain ⟨h1, h2⟩ := wstep_hd (c := c) hl hf
    obtain ⟨h3, h4⟩ := fold_hd hl l _ h1
    refine ⟨h3, ?_⟩
    rw [List.foldl_cons, h4, h2, List.length_cons, Nat.succ_mul]
    have := hl.1
    have : 0 < f.length := List.length_pos_iff.mpr hf.ne
    omega
theorem within_hd {li lo : List Rat} (hl : Stp li) (ho : Hd lo) : Hd (within li lo) ∧ (within li lo).length = (lo.length - 1) * (li.length - 1) + 1 := by
  obtain ⟨c, e, n⟩ := ho
  have er := last_split e
  unfold within
  rw [← er, List.reverse_append]
  show Hd ((lo.dropLast.reverse).foldl (wstep li) (wstep li [0] c)) ∧ _
  rw [List.reverse_cons, List.reverse_nil, List.nil_append, List.singleton_append, List.foldl_cons, wstep_first li hl.2.ne c]
  obtain ⟨h1, h2⟩ := fold_hd hl lo.dropLast.reverse [c] ⟨c, rfl, n⟩
  refine ⟨h1, ?_⟩
  rw [h2]
  simp
  omega
theorem within_stp {li lo : List Rat} (hl : Stp li) (ho : Stp lo) : Stp (within li lo) := by
  obtain ⟨h1, h2⟩ := within_hd hl ho.2
  refine ⟨?_, h1⟩
  rw [h2]
  have := Nat.mul_le_mul (show 1 ≤ lo.length - 1 by have := ho.1; omega) (show 1 ≤ li.length - 1 by have := hl.1; omega)
  omega
/-- the whole of a row -/
def wholeL : List (List Rat) → List Rat
  | [] => []
  | f :: r => r.foldl (fun f g => within f g) f
theorem wholeL_one (f : List Rat) : wholeL [f] = f := rfl
theorem wholeL_snoc {r : List (List Rat)} (h : r ≠ []) (g : List Rat) : wholeL (r ++ [g]) = within (wholeL r) g := by
  cases r with
  | nil => exact absurd rfl h
  | cons f r => simp [wholeL, List.foldl_append]
def degL (r : List (List Rat)) : Nat := r.foldl (fun d g => d * (g.length - 1)) 1
theorem degL_snoc (r : List (List Rat)) (g : List Rat) : degL (r ++ [g]) = degL r * (g.length - 1) := by simp [degL, List.foldl_append]
theorem whole_stp : ∀ (r : List (List Rat)), r ≠ [] → (∀ g ∈ r, Stp g) → Stp (wholeL r) ∧ (wholeL r).length = degL r + 1 := by
  intro r
  rw [← List.reverse_reverse r]
  induction r.reverse with
  | nil => intro h; simp at h
  | cons g l ih =>
    intro _ hg
    rw [List.reverse_cons]
    by_cases hl : l = []
    · subst hl
      have := hg g (by simp)
      refine ⟨this, ?_⟩
      have := this.1
      simp [wholeL, degL]
      omega
    · have hne : l.reverse ≠ [] := by simpa using hl
      obtain ⟨h1, h2⟩ := ih hne fun f hf => hg f (by rw [List.reverse_cons]; exact List.mem_append_left _ hf)
      have hgs := hg g (by rw [List.reverse_cons]; exact List.mem_append_right _ (by simp))
      rw [wholeL_snoc hne, degL_snoc]
      refine ⟨within_stp h1 hgs, ?_⟩
      rw [(within_hd h1 hgs.2).2, h2, Nat.add_sub_cancel, Nat.mul_comm]
/-- unlike degrees: unlike wholes -/
theorem whole_deg {r t : List (List Rat)} (hr : r ≠ []) (ht : t ≠ []) (h1 : ∀ g ∈ r, Stp g) (h2 : ∀ g ∈ t, Stp g) (hd : degL r ≠ degL t) : wholeL r ≠ wholeL t := by
  intro e
  have := (whole_stp r hr h1).2
  have := (whole_stp t ht h2).2
  rw [e] at *
  omega
end K63
set_option linter.all false
set_option maxHeartbeats 1000000
namespace K63
/-! ### sizes -/
def ab (c : Rat) : Rat := if c < 0 then -c else c
theorem ab_nonneg (c : Rat) : 0 ≤ ab c := by unfold ab; split <;> grind
theorem ab_add (a b : Rat) : ab (a + b) ≤ ab a + ab b := by unfold ab; split <;> split <;> split <;> grind
theorem ab_zero : ab 0 = 0 := by unfold ab; rw [if_neg (by grind)]
theorem ab_mul (a b : Rat) : ab (a * b) = ab a * ab b := by
  have neg : ∀ x : Rat, 0 ≤ x → ab x = x ∧ ab (-x) = x := fun x hx => by
    unfold ab
    refine ⟨by rw [if_neg (by grind)], ?_⟩
    split <;> grind
  have nn : ∀ x : Rat, ∃ y, 0 ≤ y ∧ (x = y ∨ x = -y) := fun x => by
    by_cases h : x < 0
    · exact ⟨-x, by grind, .inr (by grind)⟩
    · exact ⟨x, by grind, .inl rfl⟩
  obtain ⟨x, hx, ea⟩ := nn a
  obtain ⟨y, hy, eb⟩ := nn b
  have hxy := Rat.mul_nonneg hx hy
  rcases ea with rfl | rfl <;> rcases eb with rfl | rfl
  · rw [(neg _ hxy).1, (neg _ hx).1, (neg _ hy).1]
  · rw [show a * -y = -(a * y) by grind, (neg _ hxy).2, (neg _ hx).1, (neg _ hy).2]
  · rw [show -x * b = -(x * b) by grind, (neg _ hxy).2, (neg _ hx).2, (neg _ hy).1]
  · rw [show -x * -y = x * y by grind, (neg _ hxy).1, (neg _ hx).2, (neg _ hy).2]
def nrm : List Rat → Rat
  | [] => 0
  | c :: l => ab c + nrm l
theorem nrm_nonneg : ∀ l : List Rat, 0 ≤ nrm l
  | [] => by simp [nrm]
  | c :: l => by
    have := nrm_nonneg l
    have := ab_nonneg c
    unfold nrm
    grind
theorem nrm_mem : ∀ {l : List Rat} {c : Rat}, c ∈ l → ab c ≤ nrm l
  | [], _, h => by simp at h
  | d :: l, c, h => by
    have := nrm_nonneg l
    have := ab_nonneg d
    unfold nrm
    rcases List.mem_cons.mp h with e | e
    · subst e
      grind
    · have := nrm_mem e
      grind
theorem nrm_append : ∀ a b : List Rat, nrm (a ++ b) = nrm a + nrm b
  | [], b => by simp [nrm]; try grind
  | c :: a, b => by
    rw [List.cons_append, nrm, nrm, nrm_append a b]
    grind
theorem nrm_addL : ∀ a b : List Rat, nrm (addL a b) ≤ nrm a + nrm b
  | [], b => by simp [addL, nrm]; try grind
  | a :: as, [] => by simp [addL, nrm]; try grind
  | a :: as, b :: bs => by
    have := nrm_addL as bs
    have := ab_add a b
    simp only [addL, nrm]
    grind
theorem nrm_smul (c : Rat) : ∀ l : List Rat, nrm (smul c l) = ab c * nrm l
  | [] => by simp [smul, nrm]
  | d :: l => by
    have ih := nrm_smul c l
    unfold smul at ih ⊢
    rw [List.map_cons, nrm, nrm, ih, ab_mul]
    grind
theorem nrm_pmul : ∀ a b : List Rat, nrm (pmul a b) ≤ nrm a * nrm b
  | [], b => by simp [pmul, nrm]
  | [c], b => by
    rw [pmul, nrm_smul]
    simp [nrm]
    try grind
  | c :: d :: a, b => by
    have h1 := nrm_pmul (d :: a) b
    have h2 := nrm_addL (smul c b) (0 :: pmul (d :: a) b)
    rw [nrm_smul] at h2
    have h3 : nrm (0 :: pmul (d :: a) b) = nrm (pmul (d :: a) b) := by
      rw [nrm, ab_zero]
      grind
    have h4 : nrm (c :: d :: a) = ab c + nrm (d :: a) := rfl
    rw [pmul, h4]
    grind
theorem nrm_trim (l : List Rat) : nrm (trim l) = nrm l := by
  by_cases h : 1 < l.length ∧ l.getLast? = some 0
  · rw [trim_pop h.1 h.2]
    have ih := nrm_trim l.dropLast
    rw [ih]
    have e := last_split h.2
    conv => rhs; rw [← e, nrm_append]
    simp [nrm, ab_zero]
    try grind
  · rw [trim_stop h]
termination_by l.length
decreasing_by simp; omega
theorem trim_sub (l : List Rat) : ∀ c ∈ trim l, c ∈ l := by
  by_cases h : 1 < l.length ∧ l.getLast? = some 0
  · rw [trim_pop h.1 h.2]
    intro c hc
    exact List.dropLast_subset _ (trim_sub l.dropLast c hc)
  · rw [trim_stop h]
    exact fun c hc => hc
termination_by l.length
decreasing_by simp; omega
theorem nrm_wstep (li f : List Rat) (c : Rat) : nrm (wstep li f c) ≤ nrm f * nrm li + ab c := by
  unfold wstep
  rw [nrm_trim, lsum_eq]
  have h1 := nrm_addL (trim (pmul f li)) [c]
  rw [nrm_trim] at h1
  have h2 := nrm_pmul f li
  have h3 : nrm [c] = ab c := by simp [nrm]; try grind
  rw [h3] at h1
  grind
theorem nrm_fold {li : List Rat} {N : Rat} (hN : nrm li ≤ N) : ∀ (l f : List Rat) (v : Rat), nrm f ≤ v → nrm (l.foldl (wstep li) f) ≤ (l.map ab).foldl (fun v c => v * N + c) v
  | [], f, v, h => h
  | c :: l, f, v, h => by
    rw [List.map_cons, List.foldl_cons, List.foldl_cons]
    refine nrm_fold hN l _ _ ?_
    have h1 := nrm_wstep li f c
    have h2 := nrm_nonneg f
    have h3 := nrm_nonneg li
    have h4 : nrm f * nrm li ≤ nrm f * N := Rat.mul_le_mul_of_nonneg_left hN h2
    have h5 : nrm f * N ≤ v * N := Rat.mul_le_mul_of_nonneg_right h (by grind)
    grind
theorem nrm_within {li lo : List Rat} {N : Rat} (hN : nrm li ≤ N) : nrm (within li lo) ≤ ev (lo.map ab) N := by
  have h := nrm_fold hN lo.reverse [0] 0 (by simp [nrm, ab_zero]; grind)
  rw [List.map_reverse, horner] at h
  unfold within
  grind
theorem ev_abs_le {N : Rat} (hN : 1 ≤ N) : ∀ l : List Rat, ev (l.map ab) N ≤ nrm l * N ^ (l.length - 1)
  | [] => by simp [ev, nrm]
  | [c] => by simp [ev, nrm]; try grind
  | c :: d :: l => by
    have ih := ev_abs_le hN (d :: l)
    rw [List.map_cons, ev_cons]
    have e1 : (d :: l).length - 1 = l.length := by simp
    have e2 : (c :: d :: l).length - 1 = l.length + 1 := by simp
    rw [e1] at ih
    rw [e2, show nrm (c :: d :: l) = ab c + nrm (d :: l) from rfl, Rat.pow_succ]
    have hp : ∀ n : Nat, 1 ≤ N ^ n := fun n => by
      induction n with
      | zero => simp
      | succ n ihn =>
        rw [Rat.pow_succ]
        have h6 : N ^ n * 1 ≤ N ^ n * N := Rat.mul_le_mul_of_nonneg_left hN (by grind)
        grind
    have h1 := ab_nonneg c
    have h2 : N * ev (List.map ab (d :: l)) N ≤ N * (nrm (d :: l) * N ^ l.length) := Rat.mul_le_mul_of_nonneg_left ih (by grind)
    have h3 : ab c * 1 ≤ ab c * (N ^ l.length * N) := Rat.mul_le_mul_of_nonneg_left (by have := hp (l.length + 1); rw [Rat.pow_succ] at this; exact this) h1
    grind
/-! ### denominators that are powers of two -/
def Dk (k : Nat) (c : Rat) : Prop := ∃ z : Int, c * ((2 : Rat) ^ k) = (z : Rat)
theorem two_add (k j : Nat) : (2 : Rat) ^ (k + j) = 2 ^ k * 2 ^ j := by
  induction j with
  | zero => simp
  | succ j ih => rw [← Nat.add_assoc, Rat.pow_succ, ih, Rat.pow_succ]; grind
theorem two_pos (k : Nat) : (0 : Rat) < 2 ^ k := Rat.pow_pos (by grind)
theorem cast_two (k : Nat) : (((2 : Int) ^ k : Int) : Rat) = (2 : Rat) ^ k := by
  rw [Rat.intCast_pow]
  rfl
theorem Dk.add {k : Nat} {a b : Rat} (h1 : Dk k a) (h2 : Dk k b) : Dk k (a + b) := by
  obtain ⟨x, h1⟩ := h1
  obtain ⟨y, h2⟩ := h2
  exact ⟨x + y, by rw [Rat.intCast_add, ← h1, ← h2]; grind⟩
theorem Dk.mul {k j : Nat} {a b : Rat} (h1 : Dk k a) (h2 : Dk j b) : Dk (k + j) (a * b) := by
  obtain ⟨x, h1⟩ := h1
  obtain ⟨y, h2⟩ := h2
  refine ⟨x * y, ?_⟩
  rw [Rat.intCast_mul, ← h1, ← h2]
  rw [two_add]
  grind
theorem Dk.int (z : Int) : Dk 0 (z : Rat) := ⟨z, by simp⟩
theorem Dk.mono {k j : Nat} {a : Rat} (h : Dk k a) (hk : k ≤ j) : Dk j a := by
  obtain ⟨z, hz⟩ := h
  refine ⟨z * 2 ^ (j - k), ?_⟩
  rw [Rat.intCast_mul, ← hz, cast_two]
  have : (2 : Rat) ^ j = 2 ^ k * 2 ^ (j - k) := by
    rw [← two_add, Nat.add_sub_cancel' hk]
  rw [this]
  grind
theorem Dk.zero (k : Nat) : Dk k 0 := ⟨0, by simp⟩
theorem Dk.den {k : Nat} {c : Rat} (h : Dk k c) : c.den ∣ 2 ^ k := by
  obtain ⟨z, hz⟩ := h
  have hp := two_pos k
  have e : c = Rat.divInt z ((2 : Int) ^ k) := by
    rw [Rat.divInt_eq_div, cast_two]
    rw [← hz]
    exact (Rat.mul_div_cancel (by grind)).symm
  rw [e, Rat.den_divInt]
  split
  · exact Nat.one_dvd _
  · have h2 : ((2 : Int) ^ k).natAbs = 2 ^ k := by
      rw [Int.natAbs_pow]
      rfl
    rw [h2]
    exact Nat.div_dvd_of_dvd (by
      have := Nat.gcd_dvd_left (2 ^ k) z.natAbs
      have e3 : Int.gcd (2 ^ k) z = Nat.gcd (2 ^ k) z.natAbs := by
        unfold Int.gcd
        rw [h2]
      rw [e3]
      exact this)
theorem Dk.den_le {k : Nat} {c : Rat} (h : Dk k c) : c.den ≤ 2 ^ k := Nat.le_of_dvd (Nat.two_pow_pos k) h.den
def DP (k : Nat) (l : List Rat) : Prop := ∀ c ∈ l, Dk k c
theorem DP.addL {k : Nat} : ∀ {a b : List Rat}, DP k a → DP k b → DP k (addL a b)
  | [], b, _, h => by simpa [K63.addL] using h
  | a :: as, [], h, _ => by simpa [K63.addL] using h
  | a :: as, b :: bs, h1, h2 => by
    intro c hc
    rcases List.mem_cons.mp (show c ∈ (a + b) :: K63.addL as bs from hc) with e | e
    · rw [e]
      exact (h1 a (by simp)).add (h2 b (by simp))
    · exact DP.addL (fun x hx => h1 x (by simp [hx])) (fun x hx => h2 x (by simp [hx])) c e
theorem DP.smul {k j : Nat} {d : Rat} {l : List Rat} (h1 : Dk k d) (h2 : DP j l) : DP (k + j) (smul d l) := by
  intro c hc
  obtain ⟨x, hx, rfl⟩ := List.mem_map.mp hc
  exact h1.mul (h2 x hx)
theorem DP.pmul {k j : Nat} : ∀ {a b : List Rat}, DP k a → DP j b → DP (k + j) (pmul a b)
  | [], b, _, _ => by intro c hc; simp [K63.pmul] at hc
  | [c], b, h1, h2 => DP.smul (h1 c (by simp)) h2
  | c :: d :: a, b, h1, h2 => by
    refine DP.addL (DP.smul (h1 c (by simp)) h2) fun x hx => ?_
    rcases List.mem_cons.mp hx with e | e
    · rw [e]
      exact Dk.zero _
    · exact DP.pmul (fun y hy => h1 y (by simp [hy])) h2 x e
theorem DP.trim {k : Nat} {l : List Rat} (h : DP k l) : DP k (trim l) := fun c hc => h c (trim_sub l c hc)
theorem DP.wstep {k j : Nat} {li f : List Rat} {c : Rat} (hf : DP k f) (hl : DP j li) (hc : Dk (k + j) c) : DP (k + j) (wstep li f c) := by
  unfold K63.wstep
  rw [lsum_eq]
  exact (DP.addL (hf.pmul hl).trim fun x hx => by rw [List.mem_singleton.mp hx]; exact hc).trim
theorem DP.fold {j : Nat} {li : List Rat} (hl : DP j li) : ∀ {l f : List Rat} {k : Nat}, DP k f → DP k l → DP (k + l.length * j) (l.foldl (K63.wstep li) f)
  | [], f, k, hf, _ => by simpa using hf
  | c :: l, f, k, hf, h => by
    have h1 : DP (k + j) (K63.wstep li f c) := hf.wstep hl ((h c (by simp)).mono (by omega))
    have h2 := DP.fold (l := l) hl h1 (fun x hx => (h x (List.mem_cons_of_mem _ hx)).mono (by omega))
    rw [List.length_cons, Nat.succ_mul]
    have e : k + (l.length * j + j) = k + j + l.length * j := by omega
    rw [e]
    exact h2
theorem DP.within {k j : Nat} {li lo : List Rat} (hl : DP j li) (ho : DP k lo) (hne : li ≠ []) : DP (k + (lo.length - 1) * j) (within li lo) := by
  cases h : lo.getLast? with
  | none =>
    have : lo = [] := by simpa using h
    subst this
    intro c hc
    have : c = 0 := by simpa [K63.within] using hc
    rw [this]
    exact Dk.zero _
  | some c =>
    have er := last_split h
    have hc : c ∈ lo := by rw [← er]; simp
    unfold K63.within
    have e2 : lo.reverse = c :: lo.dropLast.reverse := by
      conv => lhs; rw [← er]
      simp
    rw [e2, List.foldl_cons, wstep_first li hne c]
    have h3 := DP.fold (l := lo.dropLast.reverse) (f := [c]) (k := k) hl (fun x hx => by rw [List.mem_singleton.mp hx]; exact ho c hc) fun x hx => ho x (List.dropLast_subset _ (List.mem_reverse.mp hx))
    have e3 : lo.dropLast.reverse.length = lo.length - 1 := by simp
    rw [e3] at h3
    exact h3
/-! ### numerators -/
theorem num_eq (c : Rat) : (c.num : Rat) = c * (c.den : Rat) := by
  have h := Rat.num_divInt_den c
  rw [Rat.divInt_eq_div] at h
  have hd : ((c.den : Int) : Rat) ≠ 0 := by
    have := c.den_pos
    intro z
    have z2 : ((c.den : Int) : Rat) = ((0 : Int) : Rat) := z
    have := Rat.intCast_inj.mp z2
    omega
  have h2 : c * ((c.den : Int) : Rat) = (c.num : Rat) := by
    rw [← Rat.div_mul_cancel (a := (c.num : Rat)) hd, h]
  exact h2.symm
theorem num_le {c : Rat} {M : Nat} (h : ab c ≤ (M : Rat)) : c.num.natAbs ≤ M * c.den := by
  have e := num_eq c
  have hd : (0 : Rat) ≤ (c.den : Rat) := Rat.natCast_nonneg
  have h1 : c ≤ (M : Rat) ∧ -(M : Rat) ≤ c := by
    unfold ab at h
    split at h <;> constructor <;> grind
  have u : (c.num : Rat) ≤ ((M * c.den : Nat) : Rat) := by
    rw [e, Rat.natCast_mul]
    exact Rat.mul_le_mul_of_nonneg_right h1.1 hd
  have l : -((M * c.den : Nat) : Rat) ≤ (c.num : Rat) := by
    rw [e, Rat.natCast_mul]
    have := Rat.mul_le_mul_of_nonneg_right h1.2 hd
    grind
  have u2 : c.num ≤ ((M * c.den : Nat) : Int) := Rat.intCast_le_intCast.mp u
  have l2 : -((M * c.den : Nat) : Int) ≤ c.num := by
    refine Rat.intCast_le_intCast.mp ?_
    rw [Rat.intCast_neg]
    exact l
  omega
end K63
set_option linter.all false
set_option maxHeartbeats 1000000
namespace K63
/-! ### a number's size -/
def Sz (q : Rat) : Prop := q.num.natAbs < 2 ^ 200000 ∧ q.den < 2 ^ 4000
def Bd (M k : Nat) (q : Rat) : Prop := ab q ≤ (M : Rat) ∧ Dk k q
theorem Bd.add {M N k : Nat} {a b : Rat} (h1 : Bd M k a) (h2 : Bd N k b) : Bd (M + N) k (a + b) := by
  refine ⟨?_, h1.2.add h2.2⟩
  have := ab_add a b
  have := h1.1
  have := h2.1
  rw [Rat.natCast_add]
  grind
theorem Bd.mul {M N k j : Nat} {a b : Rat} (h1 : Bd M k a) (h2 : Bd N j b) : Bd (M * N) (k + j) (a * b) := by
  refine ⟨?_, h1.2.mul h2.2⟩
  rw [ab_mul, Rat.natCast_mul]
  have e1 : ab a * ab b ≤ (M : Rat) * ab b := Rat.mul_le_mul_of_nonneg_right h1.1 (ab_nonneg b)
  have e2 : (M : Rat) * ab b ≤ (M : Rat) * (N : Rat) := Rat.mul_le_mul_of_nonneg_left h2.1 Rat.natCast_nonneg
  exact Rat.le_trans e1 e2
theorem Bd.mono {M N k j : Nat} {a : Rat} (h : Bd M k a) (hM : M ≤ N) (hk : k ≤ j) : Bd N j a :=
  ⟨Rat.le_trans h.1 (Rat.natCast_le_natCast.mpr hM), h.2.mono hk⟩
theorem Bd.zero (M k : Nat) : Bd M k 0 := ⟨by rw [ab_zero]; exact Rat.natCast_nonneg, Dk.zero k⟩
theorem Bd.sz {M m k : Nat} {q : Rat} (h : Bd M k q) (hM : M ≤ 2 ^ m) (h1 : m + k < 200000) (h2 : k < 4000) : Sz q := by
  have hd := h.2.den_le
  have hn := num_le h.1
  constructor
  · have : M * q.den ≤ 2 ^ m * 2 ^ k := Nat.mul_le_mul hM hd
    rw [← Nat.pow_add] at this
    have := Nat.pow_lt_pow_right (a := 2) (by decide) h1
    omega
  · have := Nat.pow_lt_pow_right (a := 2) (by decide) h2
    omega
theorem Bd.mem {M k : Nat} {l : List Rat} (hn : nrm l ≤ (M : Rat)) (hd : DP k l) {c : Rat} (hc : c ∈ l) : Bd M k c := ⟨Rat.le_trans (nrm_mem hc) hn, hd c hc⟩
theorem two_nat (k : Nat) : ((2 ^ k : Nat) : Rat) = (2 : Rat) ^ k := by
  rw [Rat.natCast_pow]
  rfl
/-! ### what the law draws, and its words -/
structure Gd (l : List Rat) : Prop where
  stp : Stp l
  len : l.length ≤ 5
  nrm : nrm l ≤ ((86 : Nat) : Rat)
  dk : DP 3 l
structure Wd (L M k : Nat) (l : List Rat) : Prop where
  stp : Stp l
  len : l.length ≤ L
  nrm : nrm l ≤ (M : Rat)
  dk : DP k l
theorem Gd.wd {l : List Rat} (g : Gd l) : Wd 5 86 3 l := ⟨g.stp, g.len, g.nrm, g.dk⟩
theorem pow_mono {N : Rat} (hN : 1 ≤ N) {a b : Nat} (h : a ≤ b) : N ^ a ≤ N ^ b := by
  induction b with
  | zero =>
    have : a = 0 := by omega
    subst this
    exact Rat.le_refl
  | succ b ih =>
    by_cases e : a = b + 1
    · subst e
      exact Rat.le_refl
    · have h1 := ih (by omega)
      have h2 : N ^ b * 1 ≤ N ^ b * N := Rat.mul_le_mul_of_nonneg_left hN (Rat.pow_nonneg (by grind))
      rw [Rat.pow_succ]
      grind
theorem Wd.next {L M k : Nat} {f g : List Rat} (h : Wd L M k f) (hM : 1 ≤ M) (hg : Gd g) : Wd (4 * (L - 1) + 1) (86 * M ^ 4) (3 + 4 * k) (within f g) := by
  have hM' : (1 : Rat) ≤ (M : Rat) := by
    have := Rat.natCast_le_natCast.mpr hM
    exact this
  have hlen := (within_hd h.stp hg.stp.2).2
  refine ⟨within_stp h.stp hg.stp, ?_, ?_, ?_⟩
  · rw [hlen]
    have h1 : g.length - 1 ≤ 4 := by have := hg.len; omega
    have h2 : f.length - 1 ≤ L - 1 := by have := h.len; omega
    have := Nat.mul_le_mul h1 h2
    omega
  · have h1 := nrm_within (li := f) (lo := g) h.nrm
    have h2 := ev_abs_le hM' g
    have h3 : (M : Rat) ^ (g.length - 1) ≤ (M : Rat) ^ 4 := pow_mono hM' (by have := hg.len; omega)
    have h4 : K63.nrm g * (M : Rat) ^ (g.length - 1) ≤ K63.nrm g * (M : Rat) ^ 4 := Rat.mul_le_mul_of_nonneg_left h3 (nrm_nonneg g)
    have h5 : K63.nrm g * (M : Rat) ^ 4 ≤ ((86 : Nat) : Rat) * (M : Rat) ^ 4 := Rat.mul_le_mul_of_nonneg_right hg.nrm (Rat.pow_nonneg (by grind))
    rw [Rat.natCast_mul, Rat.natCast_pow]
    grind
  · have h1 := DP.within h.dk hg.dk h.stp.2.ne
    have h2 : (g.length - 1) * k ≤ 4 * k := Nat.mul_le_mul_right k (by have := hg.len; omega)
    exact fun c hc => (h1 c hc).mono (by omega)
theorem Wd.mono {L M k L' M' k' : Nat} {l : List Rat} (h : Wd L M k l) (h1 : L ≤ L') (h2 : M ≤ M') (h3 : k ≤ k') : Wd L' M' k' l :=
  ⟨h.stp, Nat.le_trans h.len h1, Rat.le_trans h.nrm (Rat.natCast_le_natCast.mpr h2), fun c hc => (h.dk c hc).mono h3⟩
/-- what the wholes on the way may be -/
abbrev WB (l : List Rat) : Prop := Wd 257 (2 ^ 200) 64 l
structure ChainOk (ws : List (List Rat)) : Prop where
  ne : ws ≠ []
  len : ws.length ≤ 8
  all : ∀ g ∈ ws, Gd g
  on : ∀ j, 0 < j → j ≤ ws.length → WB (wholeL (ws.take j))
theorem ChainOk.whole {ws : List (List Rat)} (h : ChainOk ws) : WB (wholeL ws) := by
  have := h.on ws.length (List.length_pos_iff.mpr h.ne) (Nat.le_refl _)
  rwa [List.take_length] at this
theorem word1 {f : List Rat} (h : Gd f) : Wd 65 (86 ^ 21) 63 f := h.wd.mono (by decide) (by decide) (by decide)
theorem word2 {f g : List Rat} (h : Gd f) (hg : Gd g) : Wd 17 (86 ^ 5) 15 (within f g) := (h.wd.next (by decide) hg).mono (by decide) (by decide) (by decide)
theorem word3 {f g e : List Rat} (h : Gd f) (hg : Gd g) (he : Gd e) : Wd 65 (86 ^ 21) 63 (within (within f g) e) := ((word2 h hg).next (by decide) he).mono (by decide) (by decide) (by decide)
/-- words of one to three letters -/
theorem words3 {ws : List (List Rat)} (hne : ws ≠ []) (hl : ws.length ≤ 3) (h : ∀ g ∈ ws, Gd g) : Wd 65 (86 ^ 21) 63 (wholeL ws) := by
  match ws, hne, hl, h with
  | [f], _, _, h => exact word1 (h f (by simp))
  | [f, g], _, _, h => exact (word2 (h f (by simp)) (h g (by simp))).mono (by decide) (by decide) (by decide)
  | [f, g, e], _, _, h => exact word3 (h f (by simp)) (h g (by simp)) (h e (by simp))
theorem take_ne {α : Type} {ws : List α} (h : ws ≠ []) {j : Nat} (h0 : 0 < j) : ws.take j ≠ [] := by
  intro z
  have h1 := congrArg List.length z
  rw [List.length_take, List.length_nil] at h1
  have h2 := List.length_pos_iff.mpr h
  omega
theorem chain3 {ws : List (List Rat)} (hne : ws ≠ []) (hl : ws.length ≤ 3) (h : ∀ g ∈ ws, Gd g) : ChainOk ws :=
  ⟨hne, by omega, h, fun j h0 hj => (words3 (take_ne hne h0) (by simp; omega) fun g hg => h g (List.mem_of_mem_take hg)).mono (by decide) (by decide) (by decide)⟩
/-- steps of the norm 1 with whole numbers -/
structure On (l : List Rat) : Prop where
  stp : Stp l
  len : l.length ≤ 5
  nrm : nrm l ≤ ((1 : Nat) : Rat)
  dk : DP 0 l
theorem On.gd {l : List Rat} (h : On l) : Gd l := ⟨h.stp, h.len, Rat.le_trans h.nrm (Rat.natCast_le_natCast.mpr (by decide)), fun c hc => (h.dk c hc).mono (by omega)⟩
theorem degL_take : ∀ (ws : List (List Rat)), (∀ g ∈ ws, Stp g) → ∀ j, degL (ws.take j) ≤ degL ws := by
  intro ws
  rw [← List.reverse_reverse ws]
  induction ws.reverse with
  | nil => intro _ j; simp
  | cons g l ih =>
    intro h j
    rw [List.reverse_cons]
    have hg : Stp g := h g (by simp)
    have ih2 := ih (fun f hf => h f (by rw [List.reverse_cons]; exact List.mem_append_left _ hf))
    have hp : degL l.reverse ≤ degL (l.reverse ++ [g]) := by
      rw [degL_snoc]
      have := hg.1
      exact Nat.le_mul_of_pos_right _ (by omega)
    by_cases hj : j ≤ l.reverse.length
    · rw [List.take_append_of_le_length hj]
      exact Nat.le_trans (ih2 j) hp
    · rw [List.take_of_length_le (by simp at hj ⊢; omega)]
      exact Nat.le_refl _
theorem on_whole : ∀ (ws : List (List Rat)), ws ≠ [] → (∀ g ∈ ws, On g) → nrm (wholeL ws) ≤ ((1 : Nat) : Rat) ∧ DP 0 (wholeL ws) := by
  intro ws
  rw [← List.reverse_reverse ws]
  induction ws.reverse with
  | nil => intro h; simp at h
  | cons g l ih =>
    intro _ h
    rw [List.reverse_cons]
    have hg : On g := h g (by simp)
    by_cases hl : l = []
    · subst hl
      exact ⟨hg.nrm, hg.dk⟩
    · have hne : l.reverse ≠ [] := by simpa using hl
      have hall : ∀ f ∈ l.reverse, On f := fun f hf => h f (by rw [List.reverse_cons]; exact List.mem_append_left _ hf)
      obtain ⟨h1, h2⟩ := ih hne hall
      have hs := (whole_stp _ hne fun f hf => (hall f hf).stp).1
      rw [wholeL_snoc hne]
      refine ⟨?_, ?_⟩
      · have e1 := nrm_within (li := wholeL l.reverse) (lo := g) h1
        have e2 := ev_abs_le (N := ((1 : Nat) : Rat)) (by exact Rat.le_refl) g
        have e3 : (((1 : Nat) : Rat)) ^ (g.length - 1) = 1 := by
          generalize g.length - 1 = n
          induction n with
          | zero => simp
          | succ n ihn => rw [Rat.pow_succ, ihn, Rat.one_mul]; rfl
        rw [e3] at e2
        have e4 := hg.nrm
        grind
      · have e1 := DP.within h2 hg.dk hs.2.ne
        simpa using e1
theorem chain1 {ws : List (List Rat)} (hne : ws ≠ []) (hl : ws.length ≤ 8) (h : ∀ g ∈ ws, On g) (hd : degL ws ≤ 256) : ChainOk ws := by
  refine ⟨hne, hl, fun g hg => (h g hg).gd, fun j h0 hj => ?_⟩
  have hn : ws.take j ≠ [] := take_ne hne h0
  have ha : ∀ g ∈ ws.take j, On g := fun g hg => h g (List.mem_of_mem_take hg)
  obtain ⟨h1, h2⟩ := on_whole _ hn ha
  obtain ⟨h3, h4⟩ := whole_stp _ hn fun g hg => (ha g hg).stp
  have h5 := degL_take ws (fun g hg => (h g hg).stp) j
  exact ⟨h3, by omega, Rat.le_trans h1 (Rat.natCast_le_natCast.mpr (Nat.one_le_two_pow)), fun c hc => (h2 c hc).mono (by omega)⟩
/-! ### lists changed by place, folds over a part -/
theorem ev_set (x v : Rat) : ∀ {l : List Rat} {i : Nat} {c : Rat}, l[i]? = some c → ev (l.set i (c + v)) x = ev l x + x ^ i * v
  | [], i, c, h => by simp at h
  | a :: l, 0, c, h => by
    have : a = c := by simpa using h
    subst this
    rw [List.set_cons_zero, ev_cons, ev_cons]
    simp
    grind
  | a :: l, i + 1, c, h => by
    have ih := ev_set x v (l := l) (i := i) (c := c) (by simpa using h)
    rw [List.set_cons_succ, ev_cons, ev_cons, ih, Rat.pow_succ]
    grind
theorem take_snoc {α : Type} : ∀ {l : List α} {i : Nat} {x : α}, l[i]? = some x → l.take (i + 1) = l.take i ++ [x]
  | [], i, x, h => by simp at h
  | a :: l, 0, x, h => by
    have : a = x := by simpa using h
    subst this
    simp
  | a :: l, i + 1, x, h => by
    have ih := take_snoc (l := l) (i := i) (x := x) (by simpa using h)
    rw [List.take_succ_cons, ih]
    rfl
theorem ev_take (x : Rat) {l : List Rat} {i : Nat} {c : Rat} (h : l[i]? = some c) : ev (l.take (i + 1)) x = ev (l.take i) x + x ^ i * c := by
  have hi : i < l.length := (List.getElem?_eq_some_iff.mp h).1
  rw [take_snoc h, ev_snoc, List.length_take, Nat.min_eq_left (by omega)]
theorem foldl_take {α β : Type} (f : β → α → β) (b : β) {l : List α} {i : Nat} {x : α} (h : l[i]? = some x) : (l.take (i + 1)).foldl f b = f ((l.take i).foldl f b) x := by
  rw [take_snoc h, List.foldl_append]
  rfl
end K63
set_option linter.all false
set_option maxHeartbeats 1000000
namespace K63
/-! ### whole numbers over one line -/
structure IsPoly (ns : List Int) (b : Int) (l : List Rat) : Prop where
  pos : 0 < b
  eq : l = ns.map fun n : Int => (n : Rat) / (b : Rat)
  red : ∀ d : Nat, (d : Int) ∣ b → (∀ n ∈ ns, (d : Int) ∣ n) → d = 1
theorem natDvd {d : Nat} {n : Int} : (d : Int) ∣ n ↔ d ∣ n.natAbs := by
  rw [← Int.natAbs_dvd_natAbs, Int.natAbs_natCast]
theorem ir_ne {b : Int} (h : 0 < b) : (b : Rat) ≠ 0 := by
  intro z
  have := Rat.intCast_inj.mp (show (b : Rat) = ((0 : Int) : Rat) from z)
  omega
theorem div_mul {n b : Int} (h : 0 < b) : (n : Rat) / (b : Rat) * (b : Rat) = (n : Rat) := Rat.div_mul_cancel (ir_ne h)
theorem IsPoly.dvd {ns : List Int} {b : Int} {l : List Rat} (h : IsPoly ns b l) {m : Nat} (hm : 0 < m) (hz : ∀ c ∈ l, ∃ z : Int, c * ((m : Int) : Rat) = (z : Rat)) : b ∣ (m : Int) := by
  obtain ⟨B, rfl⟩ := Int.eq_ofNat_of_zero_le (Int.le_of_lt h.pos)
  have hB : 0 < B := by have := h.pos; omega
  have hg : 0 < Nat.gcd B m := Nat.gcd_pos_of_pos_left _ hB
  have hco : Nat.Coprime (B / Nat.gcd B m) (m / Nat.gcd B m) := Nat.coprime_div_gcd_div_gcd hg
  have e1 : B = B / Nat.gcd B m * Nat.gcd B m := (Nat.div_mul_cancel (Nat.gcd_dvd_left B m)).symm
  have e2 : m = m / Nat.gcd B m * Nat.gcd B m := (Nat.div_mul_cancel (Nat.gcd_dvd_right B m)).symm
  have one : B / Nat.gcd B m = 1 := by
    refine h.red _ (Int.natCast_dvd_natCast.mpr ⟨Nat.gcd B m, e1⟩) fun n hn => ?_
    obtain ⟨z, ez⟩ := hz ((n : Rat) / ((B : Int) : Rat)) (by rw [h.eq]; exact List.mem_map.mpr ⟨n, hn, rfl⟩)
    have e3 : n * (m : Int) = z * (B : Int) := by
      refine Rat.intCast_inj.mp ?_
      rw [Rat.intCast_mul, Rat.intCast_mul, ← ez]
      have := div_mul (n := n) h.pos
      conv => lhs; rw [← this]
      grind
    have e4 : n * ((m / Nat.gcd B m : Nat) : Int) = z * ((B / Nat.gcd B m : Nat) : Int) := by
      have hgz : ((Nat.gcd B m : Nat) : Int) ≠ 0 := by omega
      refine Int.eq_of_mul_eq_mul_right hgz ?_
      rw [Int.mul_assoc, Int.mul_assoc, ← Int.natCast_mul, ← Int.natCast_mul, ← e1, ← e2]
      exact e3
    have e5 : (B / Nat.gcd B m) ∣ n.natAbs * (m / Nat.gcd B m) := by
      have := congrArg Int.natAbs e4
      rw [Int.natAbs_mul, Int.natAbs_mul, Int.natAbs_natCast, Int.natAbs_natCast] at this
      rw [this]
      exact Nat.dvd_mul_left _ _
    exact natDvd.mpr (hco.dvd_of_dvd_mul_right e5)
  rw [one, Nat.one_mul] at e1
  exact Int.natCast_dvd_natCast.mpr (by rw [e1]; exact Nat.gcd_dvd_right B m)
theorem IsPoly.ns_eq {ns : List Int} {b : Int} {l : List Rat} (h : IsPoly ns b l) : ns = l.map fun c => (c * (b : Rat)).num := by
  rw [h.eq, List.map_map]
  have : ((fun c : Rat => (c * (b : Rat)).num) ∘ fun n : Int => (n : Rat) / (b : Rat)) = id := by
    funext n
    show ((n : Rat) / (b : Rat) * (b : Rat)).num = n
    rw [div_mul h.pos]
    rfl
  rw [this, List.map_id]
theorem IsPoly.uniq {ns ns' : List Int} {b b' : Int} {l : List Rat} (h : IsPoly ns b l) (h' : IsPoly ns' b' l) : ns = ns' ∧ b = b' := by
  have key : ∀ {ns ns' : List Int} {b b' : Int}, IsPoly ns b l → IsPoly ns' b' l → b ∣ b' := fun {ns ns' b b'} h h' => by
    have hb := h'.pos
    have := h.dvd (m := b'.toNat) (by omega) fun c hc => by
      rw [h'.eq] at hc
      obtain ⟨n, _, rfl⟩ := List.mem_map.mp hc
      refine ⟨n, ?_⟩
      rw [Int.toNat_of_nonneg (by omega)]
      exact div_mul h'.pos
    rwa [Int.toNat_of_nonneg (by omega)] at this
  have e : b = b' := Int.dvd_antisymm (Int.le_of_lt h.pos) (Int.le_of_lt h'.pos) (key h h') (key h' h)
  subst e
  exact ⟨by rw [h.ns_eq, h'.ns_eq], rfl⟩
theorem IsPoly.same {ns ns' : List Int} {b b' : Int} {l l' : List Rat} (h : IsPoly ns b l) (h' : IsPoly ns' b' l') : (ns = ns' ∧ b = b') ↔ l = l' := by
  constructor
  · rintro ⟨rfl, rfl⟩
    rw [h.eq, h'.eq]
  · rintro rfl
    exact h.uniq h'
theorem IsPoly.len {ns : List Int} {b : Int} {l : List Rat} (h : IsPoly ns b l) : ns.length = l.length := by rw [h.eq, List.length_map]
theorem IsPoly.b_le {ns : List Int} {b : Int} {l : List Rat} (h : IsPoly ns b l) {k : Nat} (hd : DP k l) : b.natAbs ≤ 2 ^ k := by
  have := h.dvd (m := 2 ^ k) (Nat.two_pow_pos k) fun c hc => by
    obtain ⟨z, hz⟩ := hd c hc
    refine ⟨z, ?_⟩
    rw [← hz]
    congr 1
    have := two_nat k
    rw [← this]
    rfl
  have h2 := Int.natAbs_dvd_natAbs.mpr this
  rw [Int.natAbs_natCast] at h2
  exact Nat.le_of_dvd (Nat.two_pow_pos k) h2
theorem ab_int (n : Int) : ab (n : Rat) = ((n.natAbs : Nat) : Rat) := by
  unfold ab
  by_cases h : n < 0
  · rw [if_pos (Rat.intCast_neg_iff.mpr h)]
    have e : ((n.natAbs : Nat) : Int) = -n := by omega
    have e2 : ((n.natAbs : Nat) : Rat) = (((n.natAbs : Nat) : Int) : Rat) := rfl
    rw [e2, e, Rat.intCast_neg]
  · rw [if_neg (fun z => h (Rat.intCast_neg_iff.mp z))]
    have e : ((n.natAbs : Nat) : Int) = n := by omega
    have e2 : ((n.natAbs : Nat) : Rat) = (((n.natAbs : Nat) : Int) : Rat) := rfl
    rw [e2, e]
theorem IsPoly.n_le {ns : List Int} {b : Int} {l : List Rat} (h : IsPoly ns b l) {M k : Nat} (hd : DP k l) (hm : nrm l ≤ (M : Rat)) : ∀ n ∈ ns, n.natAbs ≤ M * 2 ^ k := by
  intro n hn
  have hc : (n : Rat) / (b : Rat) ∈ l := by rw [h.eq]; exact List.mem_map.mpr ⟨n, hn, rfl⟩
  have h1 : ab ((n : Rat) / (b : Rat)) ≤ (M : Rat) := Rat.le_trans (nrm_mem hc) hm
  have h2 : ab (n : Rat) = ab ((n : Rat) / (b : Rat)) * ab (b : Rat) := by rw [← ab_mul, div_mul h.pos]
  rw [ab_int, ab_int] at h2
  have h3 : ((b.natAbs : Nat) : Rat) ≤ ((2 ^ k : Nat) : Rat) := Rat.natCast_le_natCast.mpr (h.b_le hd)
  have h4 : ab ((n : Rat) / (b : Rat)) * ((b.natAbs : Nat) : Rat) ≤ (M : Rat) * ((b.natAbs : Nat) : Rat) := Rat.mul_le_mul_of_nonneg_right h1 Rat.natCast_nonneg
  have h5 : (M : Rat) * ((b.natAbs : Nat) : Rat) ≤ (M : Rat) * ((2 ^ k : Nat) : Rat) := Rat.mul_le_mul_of_nonneg_left h3 Rat.natCast_nonneg
  refine Rat.natCast_le_natCast.mp ?_
  rw [h2, Rat.natCast_mul]
  exact Rat.le_trans h4 h5
/-! ### what `reduced` takes out -/
def gfold (w : Nat) (ns : List Int) : Nat := ns.foldl (fun w n => Nat.gcd w n.natAbs) w
theorem gfold_dvd : ∀ (ns : List Int) (w : Nat), gfold w ns ∣ w ∧ ∀ n ∈ ns, gfold w ns ∣ n.natAbs
  | [], w => ⟨Nat.dvd_refl _, fun _ h => by simp at h⟩
  | n :: ns, w => by
    obtain ⟨h1, h2⟩ := gfold_dvd ns (Nat.gcd w n.natAbs)
    show gfold (Nat.gcd w n.natAbs) ns ∣ w ∧ ∀ m ∈ n :: ns, gfold (Nat.gcd w n.natAbs) ns ∣ m.natAbs
    refine ⟨Nat.dvd_trans h1 (Nat.gcd_dvd_left _ _), fun m hm => ?_⟩
    rcases List.mem_cons.mp hm with e | e
    · rw [e]
      exact Nat.dvd_trans h1 (Nat.gcd_dvd_right _ _)
    · exact h2 m e
theorem gfold_max {d : Nat} : ∀ (ns : List Int) (w : Nat), d ∣ w → (∀ n ∈ ns, d ∣ n.natAbs) → d ∣ gfold w ns
  | [], w, h, _ => h
  | n :: ns, w, h, hn => gfold_max ns _ (Nat.dvd_gcd h (hn n (by simp))) fun m hm => hn m (by simp [hm])
theorem isPoly_red {ns : List Int} {b : Int} (hb : 0 < b) : IsPoly (ns.map (· / ((gfold b.natAbs ns : Nat) : Int))) (b / ((gfold b.natAbs ns : Nat) : Int)) (ns.map fun n : Int => (n : Rat) / (b : Rat)) := by
  obtain ⟨h1, h2⟩ := gfold_dvd ns b.natAbs
  have hm := fun d => gfold_max (d := d) ns b.natAbs
  generalize gfold b.natAbs ns = g at *
  have hg : 0 < g := Nat.pos_of_dvd_of_pos h1 (by omega)
  have hgb : (g : Int) ∣ b := natDvd.mpr h1
  have hgn : ∀ n ∈ ns, (g : Int) ∣ n := fun n hn => natDvd.mpr (h2 n hn)
  have hpos : 0 < b / (g : Int) := Int.ediv_pos_of_pos_of_dvd hb (by omega) hgb
  refine ⟨hpos, ?_, fun d hd hn => ?_⟩
  · rw [List.map_map]
    refine List.map_congr_left fun n hn => ?_
    show (n : Rat) / (b : Rat) = ((n / (g : Int) : Int) : Rat) / ((b / (g : Int) : Int) : Rat)
    have e1 : n / (g : Int) * (g : Int) = n := Int.ediv_mul_cancel (hgn n hn)
    have e2 : b / (g : Int) * (g : Int) = b := Int.ediv_mul_cancel hgb
    have h3 : ((g : Int) : Rat) ≠ 0 := ir_ne (by omega)
    have h4 := ir_ne hpos
    conv => lhs; rw [← e1, ← e2]
    rw [Rat.intCast_mul, Rat.intCast_mul, Rat.div_def, Rat.div_def, Rat.inv_mul_rev]
    have h5 : ((g : Int) : Rat) * ((g : Int) : Rat)⁻¹ = 1 := Rat.mul_inv_cancel _ h3
    grind
  · have h3 : d * g ∣ g := by
      refine hm _ ?_ fun n hn2 => ?_
      · have : ((d * g : Nat) : Int) ∣ b := by
          rw [Int.natCast_mul, ← Int.ediv_mul_cancel hgb]
          exact Int.mul_dvd_mul_right _ hd
        exact natDvd.mp this
      · have : ((d * g : Nat) : Int) ∣ n := by
          rw [Int.natCast_mul, ← Int.ediv_mul_cancel (hgn n hn2)]
          exact Int.mul_dvd_mul_right _ (hn _ (List.mem_map.mpr ⟨n, hn2, rfl⟩))
        exact natDvd.mp this
    obtain ⟨c, hc⟩ := h3
    have : g * 1 = g * (d * c) := by rw [Nat.mul_one, ← Nat.mul_assoc, Nat.mul_comm g d]; exact hc
    have h4 := Nat.eq_of_mul_eq_mul_left hg this
    exact Nat.eq_one_of_mul_eq_one_right h4.symm
/-! ### the common line of a step -/
def lcmL (l : List Rat) : Nat := l.foldl (fun w c => Nat.lcm w c.den) 1
theorem lcm_fold : ∀ (l : List Rat) (w : Nat), w ∣ l.foldl (fun w c => Nat.lcm w c.den) w ∧ ∀ c ∈ l, c.den ∣ l.foldl (fun w c => Nat.lcm w c.den) w
  | [], w => ⟨Nat.dvd_refl _, fun _ h => by simp at h⟩
  | d :: l, w => by
    obtain ⟨h1, h2⟩ := lcm_fold l (Nat.lcm w d.den)
    rw [List.foldl_cons]
    refine ⟨Nat.dvd_trans (Nat.dvd_lcm_left _ _) h1, fun c hc => ?_⟩
    rcases List.mem_cons.mp hc with e | e
    · rw [e]
      exact Nat.dvd_trans (Nat.dvd_lcm_right _ _) h1
    · exact h2 c e
theorem lcm_le {m : Nat} : ∀ (l : List Rat) (w : Nat), w ∣ m → (∀ c ∈ l, c.den ∣ m) → l.foldl (fun w c => Nat.lcm w c.den) w ∣ m
  | [], w, h, _ => h
  | d :: l, w, h, hl => lcm_le l _ (Nat.lcm_dvd h (hl d (by simp))) fun c hc => hl c (by simp [hc])
theorem lcmL_take {l : List Rat} {k i : Nat} (h : DP k l) : lcmL (l.take i) ∣ 2 ^ k := lcm_le _ 1 (Nat.one_dvd _) fun c hc => (h c (List.mem_of_mem_take hc)).den
theorem lcmL_le {l : List Rat} {k i : Nat} (h : DP k l) : 0 < lcmL (l.take i) ∧ lcmL (l.take i) ≤ 2 ^ k := ⟨Nat.pos_of_dvd_of_pos (lcmL_take h) (Nat.two_pow_pos k), Nat.le_of_dvd (Nat.two_pow_pos k) (lcmL_take h)⟩
def upN (l : List Rat) : List Int := l.map fun c => c.num * ((lcmL l / c.den : Nat) : Int)
theorem up_eq (l : List Rat) : (upN l).map (fun n : Int => (n : Rat) / (((lcmL l : Nat) : Int) : Rat)) = l := by
  unfold upN
  rw [List.map_map]
  have key : ∀ c ∈ l, ((fun n : Int => (n : Rat) / (((lcmL l : Nat) : Int) : Rat)) ∘ fun c : Rat => c.num * ((lcmL l / c.den : Nat) : Int)) c = id c := fun c hc => by
    show ((c.num * ((lcmL l / c.den : Nat) : Int) : Int) : Rat) / (((lcmL l : Nat) : Int) : Rat) = c
    have hd : c.den ∣ lcmL l := (lcm_fold l 1).2 c hc
    have h2 : DP 0 ([] : List Rat) := fun _ h => by simp at h
    have hp : 0 < lcmL l := by
      refine Nat.pos_of_ne_zero fun z => ?_
      have key : ∀ (l : List Rat) (w : Nat), w ≠ 0 → l.foldl (fun w c => Nat.lcm w c.den) w ≠ 0 := by
        intro l
        induction l with
        | nil => exact fun w h => h
        | cons d l ih => exact fun w h => ih _ (Nat.lcm_ne_zero h d.den_nz)
      exact key l 1 (by decide) z
    have e : lcmL l / c.den * c.den = lcmL l := Nat.div_mul_cancel hd
    have en := num_eq c
    have hne : (((lcmL l : Nat) : Int) : Rat) ≠ 0 := ir_ne (by omega)
    have e3 : (((lcmL l : Nat) : Int) : Rat) = (((lcmL l / c.den : Nat) : Int) : Rat) * (c.den : Rat) := by
      have : (((lcmL l / c.den * c.den : Nat) : Int) : Rat) = (((lcmL l / c.den : Nat) : Int) : Rat) * (c.den : Rat) := by
        rw [Int.natCast_mul, Rat.intCast_mul]
        rfl
      rw [← this, e]
    rw [Rat.intCast_mul, en]
    have e4 : c * (c.den : Rat) * (((lcmL l / c.den : Nat) : Int) : Rat) = c * (((lcmL l : Nat) : Int) : Rat) := by rw [e3]; grind
    rw [e4]
    exact Rat.mul_div_cancel hne
  rw [List.map_congr_left key, List.map_id]
end K63
set_option linter.all false
set_option maxHeartbeats 1000000
namespace K63
theorem pp {a b c : Nat} (h : a + b = c) : (2 : Nat) ^ c = 2 ^ a * 2 ^ b := by
  subst h
  exact Nat.pow_add 2 a b
/-! ### rows of numbers that may be multiplied -/
def BA : Nat := 2 ^ 4000
theorem bb : BA * BA = 2 ^ 8000 := by
  unfold BA
  exact (pp (a := 4000) (b := 4000) (c := 8000) rfl).symm
structure Bl (l : List Rat) : Prop where
  len : l.length ≤ 2000
  nrm : nrm l ≤ ((BA : Nat) : Rat)
  dk : DP 1000 l
theorem Bl.bd {l : List Rat} (h : Bl l) {c : Rat} (hc : c ∈ l) : Bd BA 1000 c := .mem h.nrm h.dk hc
theorem Bl.sz {l : List Rat} (h : Bl l) {c : Rat} (hc : c ∈ l) : Sz c := (h.bd hc).sz (m := 4000) (Nat.le_refl _) (by decide) (by decide)
theorem Wd.bl {L M k : Nat} {l : List Rat} (h : Wd L M k l) (h1 : L ≤ 2000) (h2 : M ≤ BA) (h3 : k ≤ 1000) : Bl l :=
  ⟨Nat.le_trans h.len h1, Rat.le_trans h.nrm (Rat.natCast_le_natCast.mpr h2), fun c hc => (h.dk c hc).mono h3⟩
theorem p200 : (2 : Nat) ^ 200 ≤ BA := Nat.pow_le_pow_right (by decide) (by decide)
theorem WB.bl {l : List Rat} (h : WB l) : Bl l := Wd.bl h (by decide) p200 (by decide)
theorem Gd.bl {l : List Rat} (h : Gd l) : Bl l := h.wd.bl (by decide) (Nat.le_trans (by decide : 86 ≤ 2 ^ 200) p200) (by decide)
theorem Bl.zero : Bl [0] := ⟨by decide, by simp only [K63.nrm, ab_zero, Rat.add_zero]; exact Rat.natCast_nonneg, fun c hc => by
  rw [List.mem_singleton.mp hc]
  exact Dk.zero _⟩
theorem rpow_add (x : Rat) (i j : Nat) : x ^ (i + j) = x ^ i * x ^ j := by
  induction j with
  | zero => simp
  | succ j ih => rw [← Nat.add_assoc, Rat.pow_succ, Rat.pow_succ, ih, Rat.mul_assoc]
theorem bd_nat (n : Nat) : Bd n 0 (n : Rat) := by
  refine ⟨?_, Dk.int (n : Int)⟩
  have h := ab_int (n : Int)
  rw [Int.natAbs_natCast] at h
  rw [show ((n : Nat) : Rat) = (((n : Nat) : Int) : Rat) from rfl]
  rw [h]
  exact Rat.le_refl
/-! ### the product, found step by step -/
structure Prd (a b : List Rat) (i : Nat) (ai : Rat) (j : Nat) (c : List Rat) : Prop where
  len : c.length = a.length + b.length - 1
  ev : ∀ x, ev c x = ev (a.take i) x * ev b x + x ^ i * (ai * ev (b.take j) x)
  bd : ∀ t ∈ c, Bd ((i * b.length + j) * (BA * BA)) 2000 t
theorem Prd.zero {a b : List Rat} (ai : Rat) : Prd a b 0 ai 0 (List.replicate (a.length + b.length - 1) 0) := by
  refine ⟨by simp, fun x => ?_, fun t ht => ?_⟩
  · rw [ev_rep]
    simp only [List.take_zero, ev_nil]
    grind
  · rw [(List.mem_replicate.mp ht).2]
    exact Bd.zero _ _
theorem Prd.in {a b c : List Rat} {i j : Nat} {ai aj v : Rat} (h : Prd a b i ai j c) (ha : Bl a) (hb : Bl b) (hi : a[i]? = some ai) (hj : b[j]? = some aj) (hv : c[i + j]? = some v) : Prd a b i ai (j + 1) (c.set (i + j) (v + ai * aj)) := by
  refine ⟨by rw [List.length_set]; exact h.len, fun x => ?_, fun t ht => ?_⟩
  · rw [ev_set x _ hv, h.ev x, ev_take x hj, rpow_add]
    grind
  · have he : (i * b.length + (j + 1)) * (BA * BA) = (i * b.length + j) * (BA * BA) + BA * BA := by
      rw [← Nat.add_assoc, Nat.add_mul _ 1, Nat.one_mul]
    rcases List.mem_or_eq_of_mem_set ht with z | z
    · exact (h.bd t z).mono (by rw [he]; exact Nat.le_add_right _ _) (by decide)
    · rw [z, he]
      exact (h.bd v (List.mem_of_getElem? hv)).add (Bd.mul (k := 1000) (j := 1000) (ha.bd (List.mem_of_getElem? hi)) (hb.bd (List.mem_of_getElem? hj)))
theorem Prd.out {a b c : List Rat} {i : Nat} {ai aj : Rat} (h : Prd a b i ai b.length c) (hi : a[i]? = some ai) : Prd a b (i + 1) aj 0 c := by
  refine ⟨h.len, fun x => ?_, fun t ht => ?_⟩
  · rw [h.ev x, ev_take x hi, List.take_length, List.take_zero, ev_nil]
    grind
  · refine (h.bd t ht).mono (Nat.le_of_eq ?_) (by decide)
    rw [Nat.succ_mul, Nat.add_zero]
theorem Prd.done {a b c : List Rat} {aj : Rat} (h : Prd a b a.length aj 0 c) (ha : a ≠ []) (hb : b ≠ []) : c = pmul a b := by
  refine ev_ext (h.len.trans (pmul_len ha hb).symm) fun k _ => ?_
  rw [h.ev, ev_pmul, List.take_length, List.take_zero, ev_nil]
  grind
theorem Prd.sz {a b c : List Rat} {i j : Nat} {ai v : Rat} (h : Prd a b i ai j c) (ha : a.length ≤ 2000) (hb : b.length ≤ 2000) (hi : i < a.length) (hj : j < b.length) (hv : v ∈ c) : Sz v := by
  refine (h.bd v hv).sz (m := 8022) ?_ (by decide) (by decide)
  have h1 : i * b.length ≤ 2000 * 2000 := Nat.mul_le_mul (by omega) hb
  have h2 : i * b.length + j ≤ 2 ^ 22 := Nat.le_trans (by omega : i * b.length + j ≤ 4002000) (by decide)
  have e : (2 : Nat) ^ 8022 = 2 ^ 22 * (BA * BA) := by
    rw [bb]
    exact pp (a := 22) (b := 8000) rfl
  rw [e]
  exact Nat.mul_le_mul_right _ h2
theorem Bl.mul_sz {a b : List Rat} (ha : Bl a) (hb : Bl b) {x y : Rat} (hx : x ∈ a) (hy : y ∈ b) : Sz (x * y) :=
  (Bd.mul (k := 1000) (j := 1000) (ha.bd hx) (hb.bd hy)).sz (m := 8000) (Nat.le_of_eq bb) (by decide) (by decide)
theorem Bl.prod_sz {a b : List Rat} (ha : Bl a) (hb : Bl b) : ∀ c ∈ trim (pmul a b), Sz c := fun c hc => by
  have hm := trim_sub _ c hc
  have h1 : K63.nrm (pmul a b) ≤ ((BA * BA : Nat) : Rat) := by
    refine Rat.le_trans (nrm_pmul a b) ?_
    rw [Rat.natCast_mul]
    exact Rat.le_trans (Rat.mul_le_mul_of_nonneg_right ha.nrm (nrm_nonneg b)) (Rat.mul_le_mul_of_nonneg_left hb.nrm Rat.natCast_nonneg)
  exact (Bd.mem (k := 1000 + 1000) h1 (DP.pmul ha.dk hb.dk) hm).sz (m := 8000) (Nat.le_of_eq bb) (by decide) (by decide)
/-! ### within, found step by step -/
theorem within_drop (li lo : List Rat) {j : Nat} (h : j ≤ lo.length) : (lo.reverse.take j).foldl (wstep li) [0] = within li (lo.drop (lo.length - j)) := by
  unfold within
  congr 1
  rw [List.take_reverse]
theorem nrm_drop (l : List Rat) (j : Nat) : nrm (l.drop j) ≤ nrm l := by
  have h := nrm_append (l.take j) (l.drop j)
  rw [List.take_append_drop] at h
  have := nrm_nonneg (l.take j)
  grind
theorem within_bl {f g : List Rat} (h : WB f) (hg : Gd g) {j : Nat} (hj : j ≤ g.length) : Bl ((g.reverse.take j).foldl (wstep f) [0]) := by
  rw [within_drop f g hj]
  generalize hd : g.drop (g.length - j) = lo
  have hlen : lo.length ≤ g.length := by
    rw [← hd, List.length_drop]
    omega
  have hl5 := hg.len
  have hM' : (1 : Rat) ≤ ((2 ^ 200 : Nat) : Rat) := Rat.natCast_le_natCast.mpr (show 1 ≤ 2 ^ 200 by decide)
  refine ⟨?_, ?_, ?_⟩
  · by_cases hn : lo = []
    · subst hn
      show [(0 : Rat)].length ≤ 2000
      decide
    · obtain ⟨c, hc, hc0⟩ := hg.stp.2
      have hh : Hd lo := by
        refine ⟨c, ?_, hc0⟩
        rw [← hd, List.getLast?_drop]
        rw [if_neg]
        · exact hc
        · intro z
          have := congrArg List.length hd
          rw [List.length_drop] at this
          have h0 : lo.length = 0 := by omega
          exact hn (List.length_eq_zero_iff.mp h0)
      rw [(within_hd h.stp hh).2]
      have h2 : f.length - 1 ≤ 256 := by have := h.len; omega
      have := Nat.mul_le_mul (show lo.length - 1 ≤ 4 by omega) h2
      omega
  · have h1 := nrm_within (li := f) (lo := lo) h.nrm
    have h2 := ev_abs_le hM' lo
    have h3 : ((2 ^ 200 : Nat) : Rat) ^ (lo.length - 1) ≤ ((2 ^ 200 : Nat) : Rat) ^ 4 := pow_mono hM' (by omega)
    have h4 : K63.nrm lo * ((2 ^ 200 : Nat) : Rat) ^ (lo.length - 1) ≤ K63.nrm lo * ((2 ^ 200 : Nat) : Rat) ^ 4 := Rat.mul_le_mul_of_nonneg_left h3 (nrm_nonneg lo)
    have h6 : K63.nrm lo ≤ ((86 : Nat) : Rat) := by
      rw [← hd]
      exact Rat.le_trans (nrm_drop _ _) hg.nrm
    have h5 : K63.nrm lo * ((2 ^ 200 : Nat) : Rat) ^ 4 ≤ ((86 : Nat) : Rat) * ((2 ^ 200 : Nat) : Rat) ^ 4 := Rat.mul_le_mul_of_nonneg_right h6 (Rat.pow_nonneg (by grind))
    have h7 : ((86 : Nat) : Rat) * ((2 ^ 200 : Nat) : Rat) ^ 4 ≤ ((BA : Nat) : Rat) := by
      rw [← Rat.natCast_pow, ← Rat.natCast_mul]
      refine Rat.natCast_le_natCast.mpr ?_
      rw [← Nat.pow_mul]
      have e : BA = 2 ^ 3200 * 2 ^ (200 * 4) := by
        unfold BA
        exact pp (a := 3200) (b := 200 * 4) rfl
      rw [e]
      exact Nat.mul_le_mul_right _ (Nat.le_trans (by decide : 86 ≤ 2 ^ 7) (Nat.pow_le_pow_right (by decide) (by decide)))
    exact Rat.le_trans h1 (Rat.le_trans h2 (Rat.le_trans h4 (Rat.le_trans h5 h7)))
  · have hdk : DP 3 lo := fun c hc => hg.dk c (by rw [← hd] at hc; exact List.mem_of_mem_drop hc)
    have h1 := DP.within h.dk hdk h.stp.2.ne
    have h2 : (lo.length - 1) * 64 ≤ 4 * 64 := Nat.mul_le_mul_right 64 (by omega)
    exact fun c hc => (h1 c hc).mono (by omega)
/-! ### the value at a whole number, step by step -/
theorem bd_ev {M k : Nat} (n : Nat) : ∀ l : List Rat, (∀ c ∈ l, Bd M k c) → Bd (M * (n + 1) ^ l.length) k (ev l (n : Rat))
  | [], _ => Bd.zero _ _
  | c :: l, h => by
    have ih := bd_ev n l fun d hd => h d (List.mem_cons_of_mem _ hd)
    have h1 := h c (List.mem_cons_self ..)
    have h2 := (bd_nat n).mul ih
    rw [Nat.zero_add] at h2
    rw [ev_cons]
    refine (h1.add h2).mono ?_ (Nat.le_refl _)
    have h5 : M ≤ M * (n + 1) ^ l.length := Nat.le_mul_of_pos_right _ (Nat.pow_pos (by omega))
    have e : M * (n + 1) ^ (l.length + 1) = n * (M * (n + 1) ^ l.length) + M * (n + 1) ^ l.length := by
      rw [Nat.pow_succ, ← Nat.mul_assoc, Nat.mul_add, Nat.mul_one, Nat.mul_comm n]
    rw [List.length_cons, e, Nat.add_comm]
    exact Nat.add_le_add_left h5 _
theorem hstep (l : List Rat) (x : Rat) {j : Nat} {c : Rat} (h : l.reverse[j]? = some c) : ev (l.drop (l.length - j)) x * x + c = ev (l.drop (l.length - (j + 1))) x := by
  have hj : j < l.length := by
    have := (List.getElem?_eq_some_iff.mp h).1
    rwa [List.length_reverse] at this
  rw [List.getElem?_reverse hj] at h
  have e : l.length - (j + 1) = l.length - 1 - j := by omega
  have e2 : l.length - j = l.length - 1 - j + 1 := by omega
  have := List.drop_eq_getElem_cons (l := l) (i := l.length - 1 - j) (by omega)
  rw [e, e2, this, ev_cons]
  have hc : l[l.length - 1 - j] = c := (List.getElem?_eq_some_iff.mp h).2
  rw [hc]
  grind
theorem ev_sz {l : List Rat} (hb : Bl l) (hl : l.length ≤ 300) {n : Nat} (hn : n ≤ 300) (j : Nat) : Sz (ev (l.drop j) (n : Rat)) ∧ Sz (ev (l.drop j) (n : Rat) * (n : Rat)) := by
  have h := bd_ev (M := BA) (k := 1000) n (l.drop j) fun c hc => hb.bd (List.mem_of_mem_drop hc)
  have hp : (n + 1) ^ (l.drop j).length ≤ 2 ^ 2700 := by
    have h1 : (n + 1) ^ (l.drop j).length ≤ (2 ^ 9) ^ (l.drop j).length := Nat.pow_le_pow_left (by omega) _
    have h2 : (2 ^ 9) ^ (l.drop j).length ≤ (2 ^ 9) ^ 300 := Nat.pow_le_pow_right (by decide) (by rw [List.length_drop]; omega)
    have e : (2 ^ 9) ^ 300 = 2 ^ (9 * 300) := (Nat.pow_mul 2 9 300).symm
    exact Nat.le_trans h1 (Nat.le_trans h2 (Nat.le_of_eq e))
  have hM : BA * (n + 1) ^ (l.drop j).length ≤ 2 ^ 6700 := by
    have e : (2 : Nat) ^ 6700 = BA * 2 ^ 2700 := by
      unfold BA
      exact pp (a := 4000) (b := 2700) rfl
    rw [e]
    exact Nat.mul_le_mul_left _ hp
  refine ⟨h.sz hM (by decide) (by decide), ?_⟩
  refine (h.mul (bd_nat n)).sz (m := 6709) ?_ (by decide) (by decide)
  have e : (2 : Nat) ^ 6709 = 2 ^ 6700 * 2 ^ 9 := pp (a := 6700) (b := 9) rfl
  rw [e]
  exact Nat.mul_le_mul hM (by omega)
end K63
set_option linter.all false
set_option maxHeartbeats 1000000
namespace K63
/-! ### the small numbers that the law draws -/
structure Sn (q : Rat) : Prop where
  ab : ab q ≤ ((2 : Nat) : Rat)
  dk : Dk 1 q
theorem sn_of {a b : Int} (h1 : -2 ≤ a) (h2 : a ≤ 2) (h3 : 1 ≤ b) (h4 : b ≤ 2) : Sn ((a : Rat) / (b : Rat)) ∧ (a ≠ 0 → (a : Rat) / (b : Rat) ≠ 0) := by
  have ha : a = -2 ∨ a = -1 ∨ a = 0 ∨ a = 1 ∨ a = 2 := by omega
  have hb : b = 1 ∨ b = 2 := by omega
  rcases ha with rfl | rfl | rfl | rfl | rfl <;> rcases hb with rfl | rfl <;>
  first
  | exact ⟨⟨by decide +kernel, ⟨-4, by decide +kernel⟩⟩, fun _ => by decide +kernel⟩
  | exact ⟨⟨by decide +kernel, ⟨-2, by decide +kernel⟩⟩, fun _ => by decide +kernel⟩
  | exact ⟨⟨by decide +kernel, ⟨-1, by decide +kernel⟩⟩, fun _ => by decide +kernel⟩
  | exact ⟨⟨by decide +kernel, ⟨0, by decide +kernel⟩⟩, fun z => absurd rfl z⟩
  | exact ⟨⟨by decide +kernel, ⟨1, by decide +kernel⟩⟩, fun _ => by decide +kernel⟩
  | exact ⟨⟨by decide +kernel, ⟨2, by decide +kernel⟩⟩, fun _ => by decide +kernel⟩
  | exact ⟨⟨by decide +kernel, ⟨4, by decide +kernel⟩⟩, fun _ => by decide +kernel⟩
/-- a step of the law's own row -/
structure Lw (n : Nat) (l : List Rat) : Prop where
  len : l.length = n + 1
  sn : ∀ c ∈ l, Sn c
  hd : Hd l
theorem nrm_le_len {M : Nat} : ∀ l : List Rat, (∀ c ∈ l, ab c ≤ (M : Rat)) → nrm l ≤ ((l.length * M : Nat) : Rat)
  | [], _ => by simp [nrm]
  | c :: l, h => by
    have ih := nrm_le_len l fun d hd => h d (List.mem_cons_of_mem _ hd)
    have h1 := h c (List.mem_cons_self ..)
    rw [List.length_cons, Nat.succ_mul, Rat.natCast_add]
    unfold nrm
    grind
theorem Lw.gd {n : Nat} {l : List Rat} (h : Lw n l) (h1 : 1 ≤ n) (h2 : n ≤ 3) : Gd l := by
  have hl := h.len
  refine ⟨⟨by omega, h.hd⟩, by omega, ?_, fun c hc => (h.sn c hc).dk.mono (by decide)⟩
  refine Rat.le_trans (nrm_le_len l fun c hc => (h.sn c hc).ab) (Rat.natCast_le_natCast.mpr ?_)
  omega
theorem three {l : List Rat} (h : l.length = 3) : ∃ a b c, l = [a, b, c] := by
  cases l with
  | nil => cases h
  | cons a l =>
    cases l with
    | nil => cases h
    | cons b l =>
      cases l with
      | nil => cases h
      | cons c l =>
        cases l with
        | nil => exact ⟨a, b, c, rfl⟩
        | cons d l => simp at h
/-- on itself: still small enough -/
theorem Lw.again {l : List Rat} (h : Lw 2 l) : ChainOk [l, l] ∧ Gd (within l l) := by
  have g := h.gd (by decide) (by decide)
  have hl := h.len
  refine ⟨chain3 (by simp) (by simp) (by simpa using g), ?_⟩
  have w := within_hd g.stp g.stp.2
  refine ⟨within_stp g.stp g.stp, ?_, ?_, ?_⟩
  · rw [w.2, hl]
    decide
  · -- sum of the absolute values: 2 + 2 * 6 + 2 * 36
    have hn : nrm l ≤ ((6 : Nat) : Rat) := by
      have := nrm_le_len l fun c hc => (h.sn c hc).ab
      rw [hl] at this
      exact this
    refine Rat.le_trans (nrm_within hn) ?_
    have hs := h.sn
    obtain ⟨a, b, c, rfl⟩ := three hl
    have ha := (hs a (by simp)).ab
    have hb := (hs b (by simp)).ab
    have hc := (hs c (by simp)).ab
    show K63.ab a + ((6 : Nat) : Rat) * (K63.ab b + ((6 : Nat) : Rat) * (K63.ab c + ((6 : Nat) : Rat) * 0)) ≤ ((86 : Nat) : Rat)
    generalize K63.ab a = x at ha ⊢
    generalize K63.ab b = y at hb ⊢
    generalize K63.ab c = z at hc ⊢
    clear hs hn g w hl h
    have e6 : ((6 : Nat) : Rat) = 6 := rfl
    have e86 : ((86 : Nat) : Rat) = 86 := rfl
    have e2 : ((2 : Nat) : Rat) = 2 := rfl
    rw [e6, e86]
    rw [e2] at ha hb hc
    grind
  · have hd : DP 1 l := fun c hc => (h.sn c hc).dk
    have := DP.within hd hd g.stp.2.ne
    rw [hl] at this
    exact this
end K63
set_option linter.all false
set_option maxHeartbeats 1000000
namespace K63
theorem dk_of {k : Nat} {c : Rat} (h : (c * 2 ^ k).den = 1) : Dk k c := by
  refine ⟨(c * 2 ^ k).num, ?_⟩
  have := num_eq (c * 2 ^ k)
  rw [h] at this
  rw [this]
  have e : ((1 : Nat) : Rat) = 1 := rfl
  rw [e, Rat.mul_one]
def gdB (M k : Nat) (l : List Rat) : Bool := decide (2 ≤ l.length) && decide (l.length ≤ 5) && decide (l.getLast?.getD 0 ≠ 0) && decide (nrm l ≤ (M : Rat)) && l.all fun c => decide ((c * 2 ^ k).den = 1)
theorem gdB_ok {M k : Nat} {l : List Rat} (h : gdB M k l = true) : Stp l ∧ l.length ≤ 5 ∧ nrm l ≤ (M : Rat) ∧ DP k l := by
  unfold gdB at h
  simp only [Bool.and_eq_true, decide_eq_true_eq, List.all_eq_true] at h
  obtain ⟨⟨⟨⟨h1, h2⟩, h3⟩, h4⟩, h5⟩ := h
  refine ⟨⟨h1, ?_⟩, h2, h4, fun c hc => dk_of (h5 c hc)⟩
  cases e : l.getLast? with
  | none =>
    rw [e] at h3
    exact absurd rfl h3
  | some c =>
    rw [e] at h3
    exact ⟨c, e, h3⟩
theorem gd_of {l : List Rat} (h : gdB 86 3 l = true) : Gd l := let ⟨a, b, c, d⟩ := gdB_ok h; ⟨a, b, c, d⟩
theorem on_of {l : List Rat} (h : gdB 1 0 l = true) : On l := let ⟨a, b, c, d⟩ := gdB_ok h; ⟨a, b, c, d⟩
theorem gd_two : Gd [0, 0, 1] := gd_of (by decide +kernel)
theorem gd_three : Gd [0, 0, 0, 1] := gd_of (by decide +kernel)
theorem gd_minus : Gd [0, -1] := gd_of (by decide +kernel)
theorem gd_a : Gd [1, 0, 1] := gd_of (by decide +kernel)
theorem gd_b : Gd [1, 2, 1] := gd_of (by decide +kernel)
theorem gd_c : Gd [1, 1] := gd_of (by decide +kernel)
theorem gd_on : Gd [1 / 2, 1] := gd_of (by decide +kernel)
theorem gd_back : Gd [-1 / 2, 1] := gd_of (by decide +kernel)
theorem gd_four : Gd [0, 0, 0, 0, 1] := gd_of (by decide +kernel)
theorem on_two : On [0, 0, 1] := on_of (by decide +kernel)
theorem on_minus : On [0, -1] := on_of (by decide +kernel)
theorem on_four : On [0, 0, 0, 0, 1] := on_of (by decide +kernel)
theorem Gd.wb {l : List Rat} (h : Gd l) : WB l := h.wd.mono (by decide) (by decide) (by decide)
theorem Lw.moved {l : List Rat} (h : Lw 2 l) : Gd (within [1 / 2, 1] l) := by
  have g := h.gd (by decide) (by decide)
  have hl := h.len
  have w := within_hd gd_on.stp g.stp.2
  refine ⟨within_stp gd_on.stp g.stp, ?_, ?_, ?_⟩
  · rw [w.2, hl]
    decide
  · have hn : nrm [1 / 2, 1] ≤ ((2 : Nat) : Rat) := by decide +kernel
    refine Rat.le_trans (nrm_within hn) ?_
    have hs := h.sn
    obtain ⟨a, b, c, rfl⟩ := three hl
    have ha := (hs a (by simp)).ab
    have hb := (hs b (by simp)).ab
    have hc := (hs c (by simp)).ab
    show K63.ab a + ((2 : Nat) : Rat) * (K63.ab b + ((2 : Nat) : Rat) * (K63.ab c + ((2 : Nat) : Rat) * 0)) ≤ ((86 : Nat) : Rat)
    generalize K63.ab a = x at ha ⊢
    generalize K63.ab b = y at hb ⊢
    generalize K63.ab c = z at hc ⊢
    clear hs hn g w hl h
    have e86 : ((86 : Nat) : Rat) = 86 := rfl
    have e2 : ((2 : Nat) : Rat) = 2 := rfl
    rw [e86]
    rw [e2] at *
    grind
  · have hd : DP 1 l := fun c hc => (h.sn c hc).dk
    have ho : DP 1 [1 / 2, 1] := fun c hc => dk_of (by
      rcases List.mem_cons.mp hc with z | z
      · rw [z]
        decide +kernel
      · rw [List.mem_singleton.mp z]
        decide +kernel)
    have := DP.within ho hd gd_on.stp.2.ne
    rw [hl] at this
    exact this
end K63
set_option linter.all false
set_option maxHeartbeats 1000000
namespace K63
/-! ### whole numbers as numbers -/
def iR (ns : List Int) : List Rat := ns.map fun n : Int => (n : Rat)
theorem rI_len (ns : List Int) : (iR ns).length = ns.length := by simp [iR]
theorem IsPoly.smul {ns : List Int} {b : Int} {l : List Rat} (h : IsPoly ns b l) : iR ns = smul (b : Rat) l := by
  rw [h.eq]
  unfold iR K63.smul
  rw [List.map_map]
  refine List.map_congr_left fun n _ => ?_
  show (n : Rat) = (b : Rat) * ((n : Rat) / (b : Rat))
  rw [Rat.mul_comm]
  exact (div_mul h.pos).symm
theorem smul_len (c : Rat) (l : List Rat) : (smul c l).length = l.length := by simp [smul]
theorem hd_drop {lo : List Rat} (h : Hd lo) {t : Nat} (h0 : 0 < t) (ht : t ≤ lo.length) : Hd (lo.drop (lo.length - t)) := by
  obtain ⟨c, hc, hc0⟩ := h
  refine ⟨c, ?_, hc0⟩
  rw [List.getLast?_drop, if_neg (by omega)]
  exact hc
theorem put_len {li lo : List Rat} (hl : Stp li) (ho : Hd lo) {t : Nat} (h0 : 0 < t) (ht : t ≤ lo.length) : (within li (lo.drop (lo.length - t))).length = (t - 1) * (li.length - 1) + 1 := by
  rw [(within_hd hl (hd_drop ho h0 ht)).2, List.length_drop]
  congr 3
  omega
/-- one turn of the inner, with the lines kept apart -/
theorem put_step {li lo F G : List Rat} {bi bo c g : Rat} {t : Nat} (hl : Stp li) (ho : Hd lo) (h0 : 0 < t) (ht : t < lo.length) (hF : F = smul (bi ^ (t - 1) * bo) (within li (lo.drop (lo.length - t)))) (hG : G = pmul F (smul bi li))
    (hc : lo.reverse[t]? = some c) (hg : G[0]? = some g) : G.set 0 (g + bo * c * bi ^ t) = smul (bi ^ t * bo) (within li (lo.drop (lo.length - (t + 1)))) := by
  have hne : li ≠ [] := hl.2.ne
  have hw := put_len hl ho h0 (by omega)
  have hFn : F ≠ [] := by
    rw [hF]
    intro z
    have := congrArg List.length z
    rw [smul_len, hw] at this
    simp at this
  have hsn : smul bi li ≠ [] := by
    intro z
    have := congrArg List.length z
    rw [smul_len] at this
    exact hne (List.length_eq_zero_iff.mp this)
  refine ev_ext ?_ fun k _ => ?_
  · rw [List.length_set, hG, pmul_len hFn hsn, smul_len, smul_len, put_len hl ho (by omega) (by omega), hF, smul_len, hw]
    have := hl.1
    obtain ⟨d, hd⟩ : ∃ d, li.length = d + 1 := ⟨li.length - 1, by omega⟩
    obtain ⟨s, hs⟩ : ∃ s, t = s + 1 := ⟨t - 1, by omega⟩
    rw [hd, hs]
    simp only [Nat.add_sub_cancel]
    rw [Nat.succ_mul]
    omega
  · rw [ev_set _ _ hg, hG, ev_pmul, ev_smul, ev_smul, hF, ev_smul, ev_within, ev_within, ← hstep lo (ev li (k : Rat)) hc]
    obtain ⟨s, hs⟩ : ∃ s, t = s + 1 := ⟨t - 1, by omega⟩
    rw [hs, Nat.add_sub_cancel, Rat.pow_succ, Rat.pow_zero]
    grind
theorem put_first {li lo : List Rat} {bo c : Rat} (hl : li ≠ []) (hc : lo.reverse[0]? = some c) : [0 + bo * c * 1] = smul (1 * bo) (within li (lo.drop (lo.length - 1))) := by
  have hn : 0 < lo.length := by
    have := (List.getElem?_eq_some_iff.mp hc).1
    rwa [List.length_reverse] at this
  have e : lo.drop (lo.length - 1) = [c] := by
    rw [List.getElem?_reverse hn] at hc
    obtain ⟨h1, h2⟩ := List.getElem?_eq_some_iff.mp hc
    have := List.drop_eq_getElem_cons (l := lo) (i := lo.length - 1) (by omega)
    rw [this]
    have e2 : lo.drop (lo.length - 1 + 1) = [] := List.drop_eq_nil_of_le (by omega)
    rw [e2]
    have h3 : lo.length - 1 - 0 = lo.length - 1 := by omega
    simp only [h3] at h2
    rw [h2]
  rw [e]
  have : within li [c] = [c] := wstep_first li hl c
  rw [this]
  simp only [smul, List.map_cons, List.map_nil]
  congr 1
  grind
/-- its size -/
theorem put_nrm {f g : List Rat} (h : WB f) (hg : Gd g) {j : Nat} (hj : j ≤ g.length) : nrm (within f (g.drop j)) ≤ ((2 ^ 7 * 2 ^ 800 : Nat) : Rat) := by
  have hM' : (1 : Rat) ≤ ((2 ^ 200 : Nat) : Rat) := Rat.natCast_le_natCast.mpr (show 1 ≤ 2 ^ 200 by decide)
  have hl5 := hg.len
  have h1 := nrm_within (li := f) (lo := g.drop j) h.nrm
  have h2 := ev_abs_le hM' (g.drop j)
  have h3 : ((2 ^ 200 : Nat) : Rat) ^ ((g.drop j).length - 1) ≤ ((2 ^ 200 : Nat) : Rat) ^ 4 := pow_mono hM' (by rw [List.length_drop]; omega)
  have h4 : K63.nrm (g.drop j) * ((2 ^ 200 : Nat) : Rat) ^ ((g.drop j).length - 1) ≤ K63.nrm (g.drop j) * ((2 ^ 200 : Nat) : Rat) ^ 4 := Rat.mul_le_mul_of_nonneg_left h3 (nrm_nonneg _)
  have h6 : K63.nrm (g.drop j) ≤ ((2 ^ 7 : Nat) : Rat) := Rat.le_trans (nrm_drop _ _) (Rat.le_trans hg.nrm (Rat.natCast_le_natCast.mpr (by decide)))
  have h5 : K63.nrm (g.drop j) * ((2 ^ 200 : Nat) : Rat) ^ 4 ≤ ((2 ^ 7 : Nat) : Rat) * ((2 ^ 200 : Nat) : Rat) ^ 4 := Rat.mul_le_mul_of_nonneg_right h6 (Rat.pow_nonneg (by grind))
  refine Rat.le_trans h1 (Rat.le_trans h2 (Rat.le_trans h4 (Rat.le_trans h5 ?_)))
  rw [← Rat.natCast_pow, ← Rat.natCast_mul, ← Nat.pow_mul]
  refine Rat.natCast_le_natCast.mpr ?_
  have e : (200 * 4 : Nat) = 800 := rfl
  rw [e]
  exact Nat.le_refl _
theorem ab_pow (b : Nat) (t : Nat) : ((b : Rat)) ^ t = ((b ^ t : Nat) : Rat) := (Rat.natCast_pow b t).symm
theorem rI_dk (ns : List Int) : DP 1000 (iR ns) := fun c hc => by
  obtain ⟨n, _, rfl⟩ := List.mem_map.mp hc
  exact (Dk.int n).mono (by decide)
/-- the whole numbers on the way may be multiplied -/
theorem put_bl {li lo : List Rat} {cs : List Int} {bi bo : Int} {t : Nat} (h : WB li) (hg : Gd lo) (h0 : 0 < t) (ht : t ≤ lo.length) (hbi : bi.natAbs ≤ 2 ^ 64) (hbo : bo.natAbs ≤ 2 ^ 64) (pi : 0 < bi) (po : 0 < bo)
    (hF : iR cs = smul ((bi : Rat) ^ (t - 1) * (bo : Rat)) (within li (lo.drop (lo.length - t)))) : Bl (iR cs) := by
  have hl5 := hg.len
  refine ⟨?_, ?_, rI_dk cs⟩
  · rw [hF, smul_len, put_len h.stp hg.stp.2 h0 ht]
    have h2 : li.length - 1 ≤ 256 := by have := h.len; omega
    have := Nat.mul_le_mul (show t - 1 ≤ 4 by omega) h2
    omega
  · rw [hF, nrm_smul]
    obtain ⟨ni, rfl⟩ : ∃ n : Nat, bi = (n : Int) := ⟨bi.toNat, by omega⟩
    obtain ⟨no, rfl⟩ : ∃ n : Nat, bo = (n : Int) := ⟨bo.toNat, by omega⟩
    have ec : (((ni : Nat) : Int) : Rat) ^ (t - 1) * (((no : Nat) : Int) : Rat) = (((ni ^ (t - 1) * no : Nat) : Int) : Rat) := by
      rw [show (((ni : Nat) : Int) : Rat) = ((ni : Nat) : Rat) from rfl, show (((no : Nat) : Int) : Rat) = ((no : Nat) : Rat) from rfl, ab_pow, ← Rat.natCast_mul]
      rfl
    rw [ec, ab_int, Int.natAbs_natCast]
    have h1 : ni ^ (t - 1) * no ≤ 2 ^ 320 := by
      have a1 : ni ^ (t - 1) ≤ (2 ^ 64) ^ (t - 1) := Nat.pow_le_pow_left (by omega) _
      have a2 : (2 ^ 64) ^ (t - 1) ≤ (2 ^ 64) ^ 4 := Nat.pow_le_pow_right (by decide) (by omega)
      have a3 := Nat.mul_le_mul (Nat.le_trans a1 a2) (show no ≤ 2 ^ 64 by omega)
      exact Nat.le_trans a3 (by rw [← Nat.pow_mul, ← Nat.pow_add]; exact Nat.le_refl _)
    have h2 := put_nrm h hg (j := lo.length - t) (by omega)
    have h3 : ((ni ^ (t - 1) * no : Nat) : Rat) * K63.nrm (within li (lo.drop (lo.length - t))) ≤ ((2 ^ 320 : Nat) : Rat) * ((2 ^ 7 * 2 ^ 800 : Nat) : Rat) :=
      Rat.le_trans (Rat.mul_le_mul_of_nonneg_right (Rat.natCast_le_natCast.mpr h1) (nrm_nonneg _)) (Rat.mul_le_mul_of_nonneg_left h2 Rat.natCast_nonneg)
    refine Rat.le_trans h3 ?_
    rw [← Rat.natCast_mul]
    refine Rat.natCast_le_natCast.mpr ?_
    rw [← Nat.pow_add, ← Nat.pow_add]
    unfold BA
    exact Nat.pow_le_pow_right (by decide) (by decide)
theorem poly_bl {ns : List Int} {b : Int} {l : List Rat} (h : IsPoly ns b l) (hw : WB l) : Bl (iR ns) ∧ b.natAbs ≤ 2 ^ 64 := by
  have hb := h.b_le hw.dk
  refine ⟨⟨?_, ?_, rI_dk ns⟩, hb⟩
  · rw [rI_len, h.len]
    have := hw.len
    omega
  · rw [h.smul, nrm_smul, ab_int]
    have h3 : ((b.natAbs : Nat) : Rat) * K63.nrm l ≤ ((2 ^ 64 : Nat) : Rat) * ((2 ^ 200 : Nat) : Rat) :=
      Rat.le_trans (Rat.mul_le_mul_of_nonneg_right (Rat.natCast_le_natCast.mpr hb) (nrm_nonneg _)) (Rat.mul_le_mul_of_nonneg_left hw.nrm Rat.natCast_nonneg)
    refine Rat.le_trans h3 ?_
    rw [← Rat.natCast_mul, ← Nat.pow_add]
    refine Rat.natCast_le_natCast.mpr ?_
    unfold BA
    exact Nat.pow_le_pow_right (by decide) (by decide)
/-- at the end -/
theorem put_end {cs : List Int} {W : List Rat} {κ : Int} (hk : 0 < κ) (h : iR cs = smul (κ : Rat) W) : (cs.map fun n : Int => (n : Rat) / (κ : Rat)) = W := by
  have e : (cs.map fun n : Int => (n : Rat) / (κ : Rat)) = (iR cs).map fun r => r / (κ : Rat) := by
    unfold iR
    rw [List.map_map]
    rfl
  rw [e, h]
  unfold smul
  rw [List.map_map]
  have : ((fun r : Rat => r / (κ : Rat)) ∘ fun x => (κ : Rat) * x) = id := by
    funext x
    show (κ : Rat) * x / (κ : Rat) = x
    rw [Rat.mul_comm]
    exact Rat.mul_div_cancel (ir_ne hk)
  rw [this, List.map_id]
theorem last_int {cs : List Int} {W : List Rat} {κ : Int} (h : (cs.map fun n : Int => (n : Rat) / (κ : Rat)) = W) (hw : Hd W) : ∃ n, cs.getLast? = some n ∧ n ≠ 0 := by
  obtain ⟨c, hc, hc0⟩ := hw
  rw [← h, List.getLast?_map] at hc
  cases e : cs.getLast? with
  | none =>
    rw [e] at hc
    cases hc
  | some n =>
    rw [e] at hc
    refine ⟨n, rfl, fun z => hc0 ?_⟩
    have := Option.some.inj hc
    rw [← this, z]
    simp [Rat.div_def]
theorem int_bd {n : Int} {M k : Nat} (h : Bd M k (n : Rat)) : n.natAbs ≤ M := by
  have h1 := h.1
  rw [ab_int] at h1
  exact Rat.natCast_le_natCast.mp h1
theorem degL_le : ∀ (r : List (List Rat)), (∀ g ∈ r, g.length ≤ 5) → degL r ≤ 4 ^ r.length := by
  have key : ∀ (r : List (List Rat)) (d : Nat), (∀ g ∈ r, g.length ≤ 5) → r.foldl (fun d g => d * (g.length - 1)) d ≤ d * 4 ^ r.length := by
    intro r
    induction r with
    | nil => intro d _; simp
    | cons g r ih =>
      intro d h
      have h1 := ih (d * (g.length - 1)) fun x hx => h x (List.mem_cons_of_mem _ hx)
      have h2 := h g (List.mem_cons_self ..)
      rw [List.foldl_cons, List.length_cons, Nat.pow_succ]
      refine Nat.le_trans h1 ?_
      rw [Nat.mul_assoc, Nat.mul_comm (4 ^ r.length) 4]
      exact Nat.mul_le_mul_left d (Nat.mul_le_mul_right _ (by omega))
  intro r h
  have := key r 1 h
  rwa [Nat.one_mul] at this
end K63
set_option linter.all false
set_option maxHeartbeats 1000000
namespace K63
/-! ### a word's step, bent -/
abbrev Wn (l : List Rat) : Prop := Wd 65 (86 ^ 21 + 7) 63 l
theorem ab_half : ab (1 / 2) ≤ ((1 : Nat) : Rat) := by decide +kernel
theorem ab_seven : ab 7 ≤ ((7 : Nat) : Rat) := by decide +kernel
theorem dk_half : Dk 63 (1 / 2) := (dk_of (k := 1) (by decide +kernel)).mono (by decide)
theorem dk_seven : Dk 63 7 := (dk_of (k := 0) (by decide +kernel)).mono (by decide)
theorem nrm_one (c : Rat) : nrm [c] = ab c := by
  show ab c + 0 = ab c
  rw [Rat.add_zero]
theorem bent_ok {l : List Rat} (h : Wd 65 (86 ^ 21) 63 l) {i : Nat} {c : Rat} (hc : l[i]? = some c) : ∃ z, ((l.take i ++ [c + 1 / 2]) ++ l.drop (i + 1)).getLast? = some z ∧ (z ≠ 0 → Wn ((l.take i ++ [c + 1 / 2]) ++ l.drop (i + 1))) := by
  obtain ⟨hi, he⟩ := List.getElem?_eq_some_iff.mp hc
  have hlen : ((l.take i ++ [c + 1 / 2]) ++ l.drop (i + 1)).length = l.length := by
    simp
    omega
  have hsplit : l = (l.take i ++ [c]) ++ l.drop (i + 1) := by
    rw [← take_snoc hc, List.take_append_drop]
  have h2 := h.stp.1
  have hne : ((l.take i ++ [c + 1 / 2]) ++ l.drop (i + 1)) ≠ [] := fun z => by
    rw [z] at hlen
    simp at hlen
    omega
  refine ⟨_, List.getLast?_eq_some_getLast hne, fun hz => ⟨⟨by rw [hlen]; exact h2, _, List.getLast?_eq_some_getLast hne, hz⟩, by rw [hlen]; exact h.len, ?_, ?_⟩⟩
  · have e1 : nrm ((l.take i ++ [c + 1 / 2]) ++ l.drop (i + 1)) = nrm (l.take i) + ab (c + 1 / 2) + nrm (l.drop (i + 1)) := by
      rw [nrm_append, nrm_append, nrm_one]
    have e2 : nrm l = nrm (l.take i) + ab c + nrm (l.drop (i + 1)) := by
      conv => lhs; rw [hsplit]
      rw [nrm_append, nrm_append, nrm_one]
    have h3 := ab_add c (1 / 2)
    have h4 := ab_half
    have h5 := h.nrm
    rw [e1]
    rw [Rat.natCast_add]
    have e7 : ((7 : Nat) : Rat) = 7 := rfl
    have e8 : ((1 : Nat) : Rat) = 1 := rfl
    rw [e7]
    rw [e8] at h4
    rw [e2] at h5
    grind
  · intro d hd
    rcases List.mem_append.mp hd with z | z
    · rcases List.mem_append.mp z with z | z
      · exact h.dk d (List.mem_of_mem_take z)
      · rw [List.mem_singleton.mp z]
        exact (h.dk c (List.mem_of_getElem? hc)).add dk_half
    · exact h.dk d (List.mem_of_mem_drop z)
theorem bent_fix {l : List Rat} (h : Wd 65 (86 ^ 21) 63 l) : Wn (l.dropLast ++ [7]) := by
  have h2 := h.stp.1
  have h3 := h.len
  refine ⟨⟨by simp; omega, 7, List.getLast?_concat .., by decide +kernel⟩, by simp; omega, ?_, ?_⟩
  · rw [nrm_append, nrm_one]
    have h4 : nrm l.dropLast ≤ nrm l := by
      obtain ⟨c, hc, _⟩ := h.stp.2
      have e := nrm_append l.dropLast [c]
      rw [last_split hc, nrm_one] at e
      have := ab_nonneg c
      grind
    have h5 := h.nrm
    have h6 := ab_seven
    rw [Rat.natCast_add]
    grind
  · intro d hd
    rcases List.mem_append.mp hd with z | z
    · rw [List.dropLast_eq_take] at z
      exact h.dk d (List.mem_of_mem_take z)
    · rw [List.mem_singleton.mp z]
      exact dk_seven
theorem Wn.of {l : List Rat} (h : Wd 65 (86 ^ 21) 63 l) : Wn l := h.mono (by decide) (by decide) (by decide)
theorem wn_ba : 86 ^ 21 + 7 ≤ BA := Nat.le_trans (by decide : 86 ^ 21 + 7 ≤ 2 ^ 200) p200
theorem Wn.bl {l : List Rat} (h : Wn l) : Bl l := Wd.bl h (by decide) wn_ba (by decide)
end K63
set_option linter.all false
set_option maxHeartbeats 1000000
set_option maxRecDepth 100000
namespace K63
def rows3 : List (List Rat) := [[0, 0, 1], [0, -1], [0, 0, 0, 0, 1]]
def wordK (ks : List Nat) : List (List Rat) := ks.map fun k => rows3.getD k []
theorem rows3_on : ∀ g ∈ rows3, On g := fun g hg => by
  simp only [rows3, List.mem_cons, List.not_mem_nil, or_false] at hg
  rcases hg with rfl | rfl | rfl
  · exact on_two
  · exact on_minus
  · exact on_four
theorem hand1 : decide (wholeL (wordK [0]) = wholeL (wordK [1, 0])) = true := by decide +kernel
theorem hand2 : decide (wholeL (wordK [0]) = wholeL (wordK [0, 1])) = false := by decide +kernel
theorem hand3 : decide (wholeL (wordK [2]) = wholeL (wordK [0, 0])) = true := by decide +kernel
theorem hand5 : decide (wholeL (wordK [1, 1]) = wholeL (wordK [1, 1, 1, 1])) = true := by decide +kernel
theorem ev_two (y : Rat) : ev [0, 0, 1] y = y * y := by
  simp only [ev_cons, ev_nil]
  grind
theorem ev_four (y : Rat) : ev [0, 0, 0, 0, 1] y = (y * y) * (y * y) := by
  simp only [ev_cons, ev_nil]
  grind
theorem hand4 : decide (wholeL (wordK [2, 2, 2, 2]) = wholeL (wordK [0, 0, 0, 0, 0, 0, 0, 0])) = true := by
  refine decide_eq_true ?_
  have h1 := whole_stp (wordK [2, 2, 2, 2]) (by decide) fun g hg => by
    have : g = [0, 0, 0, 0, 1] := by simpa [wordK, rows3] using hg
    rw [this]
    exact on_four.stp
  have h2 := whole_stp (wordK [0, 0, 0, 0, 0, 0, 0, 0]) (by decide) fun g hg => by
    have : g = [0, 0, 1] := by simpa [wordK, rows3] using hg
    rw [this]
    exact on_two.stp
  refine ev_ext ?_ fun k _ => ?_
  · rw [h1.2, h2.2]
    decide +kernel
  · have e1 : wholeL (wordK [2, 2, 2, 2]) = within (within (within [0, 0, 0, 0, 1] [0, 0, 0, 0, 1]) [0, 0, 0, 0, 1]) [0, 0, 0, 0, 1] := rfl
    have e2 : wholeL (wordK [0, 0, 0, 0, 0, 0, 0, 0]) = within (within (within (within (within (within (within [0, 0, 1] [0, 0, 1]) [0, 0, 1]) [0, 0, 1]) [0, 0, 1]) [0, 0, 1]) [0, 0, 1]) [0, 0, 1] := rfl
    rw [e1, e2]
    simp only [ev_within, ev_two, ev_four]
theorem part1 : parted [0, 0, 1] [0, 0, 0, 0, 1] = some 2 := by decide +kernel
theorem part2 : parted [0, 0, 1] [0, 1] = some 2 := by decide +kernel
theorem part3 : parted [0, -1] [1, 1] = some 0 := by decide +kernel
theorem part4 : parted [0, 0, 1] [0, 0, 1] = none := by decide +kernel
theorem gd_line : Gd [0, 1] := gd_of (by decide +kernel)
end K63
set_option Elab.async false
set_option linter.all false
set_option maxRecDepth 100000
set_option maxHeartbeats 4000000
namespace K63
open PySem PySem.Spec PyProof.Rows L2
/-! ### the text by places; a def as it stands behind the top; its promise by its name -/
def top (i : Nat) : Stmt := PySem.Challenge.pw_stepswithin_k63_whole_words_alike_or_par.main.body.getD i (.Pass ⟨0, 0, 0, 0⟩)
/-- the def x, the i-th statement of the top -/
def At (K : PySem.W.Frag) (mg : Str → Option Value) (x : Str) (i : Nat) : Prop :=
  ∃ (f : Addr) (fd : FuncData), FunD K x x (defArgs (top i)) (defBody (top i)) (defScope (top i)) [] [] f fd ∧ mg x = some (.ref f)
/-- x names a def that keeps sp -/
def Dn (P : Program) (w : World) (K : PySem.W.Frag) (mg : Str → Option Value) (base : Heap) (CX : CXT) (k : Nat) (x : Str) (ps : List Str) (sp : Sp) : Prop :=
  ∃ (f : Addr) (fd : FuncData), FnOk P w K mg base CX k f fd ps sp ∧ mg x = some (.ref f) ∧ PySem.W.keepIn K (.ref f) = true ∧ Binds K fd ps [] ∧ ∃ o : Obj, K.lookup f = some o ∧ o.data = .func fd
section
variable {P : Program} {w : World} {K : PySem.W.Frag} {mg : Str → Option Value} {base : Heap}
theorem Dn.up {CX : CXT} {j k : Nat} {x : Str} {ps : List Str} {sp : Sp} (D : Dn P w K mg base CX j x ps sp) (h : j ≤ k) : Dn P w K mg base CX k x ps sp := by
  obtain ⟨f, fd, F, a, b, c⟩ := D
  exact ⟨f, fd, F.mono h, a, b, c⟩
/-- a def by its body -/
theorem Dn.mk {CX : CXT} {x : Str} {i k : Nat} {N ps : List Str} {sp : Sp} (h : At K mg x i) (S : FnScope N ps (defScope (top i))) (len : ∀ vs H Q E, sp vs H Q E → vs.length = ps.length)
    (hb : ∀ (kV doc pm : Value) (an : Option Addr) (cdv ct : Value) (us : List Value), us.length = ps.length → bindArgs (PySem.W.fnOf x x (defArgs (top i)) (defBody (top i)) (defScope (top i)) .none kV doc pm an cdv ct) ⟨us, []⟩ = pure (ps.zip us))
    (body : ∀ (f : Addr) (cdv : Value) (A : Around) (outer : List Env) (s : Shared) (H : Hp) (vs : List V) (Q : VK) (E : XK), Room k (A.deeper (envOfC x (defScope (top i)) s.heap.objs.size f cdv)) → sp vs H Q E →
      ∃ t, PSs (cxOf CX P w K mg base N x (defScope (top i)) f cdv A outer s H E) (defBody (top i)) t ∧ t { nx := fun _ H' => Q .non H', rt := Q } (start N vs) H) :
    Dn P w K mg base CX (k + 1) x ps sp := by
  obtain ⟨f, fd, F, hm⟩ := h
  obtain ⟨oc, od, dV, kV, doc, pm, an, cdv, ct, osl, e, lk, _, _, _⟩ := F.ex
  exact ⟨f, fd, F.ok S len (fun cdv A outer s H vs Q E hr q => body f cdv A outer s H vs Q E hr q), hm, F.kp, F.bindsN hb, _, lk, by rw [e]⟩
/-- .. that lets nothing out -/
theorem Dn.mk0 {x : Str} {i k : Nat} {N ps : List Str} {sp : Sp} (h : At K mg x i) (S : FnScope N ps (defScope (top i))) (len : ∀ vs H Q E, sp vs H Q E → vs.length = ps.length)
    (hb : ∀ (kV doc pm : Value) (an : Option Addr) (cdv ct : Value) (us : List Value), us.length = ps.length → bindArgs (PySem.W.fnOf x x (defArgs (top i)) (defBody (top i)) (defScope (top i)) .none kV doc pm an cdv ct) ⟨us, []⟩ = pure (ps.zip us))
    (body : ∀ (f : Addr) (cdv : Value) (A : Around) (outer : List Env) (s : Shared) (H : Hp) (vs : List V) (Q : VK) (E : XK), Room k (A.deeper (envOfC x (defScope (top i)) s.heap.objs.size f cdv)) → sp vs H Q E →
      ∃ t, PSs (cxOf CX0 P w K mg base N x (defScope (top i)) f cdv A outer s H E).nox (defBody (top i)) t ∧ t { nx := fun _ H' => Q .non H', rt := Q } (start N vs) H) :
    Dn P w K mg base CX0 (k + 1) x ps sp := by
  refine Dn.mk h S len hb fun f cdv A outer s H vs Q E hr q => ?_
  obtain ⟨t, ht, hq⟩ := body f cdv A outer s H vs Q E hr q
  exact ⟨t, ht.nox, hq⟩
end
section
variable {X : Cx} {CX : CXT} {k : Nat} {x : Str} {ps : List Str} {sp : Sp} {E : XK} {p pos : Pos} {e : Expr} {es : List Expr} {t : TA}
/-- x(e, ..) -/
theorem pe_dn (D : Dn X.prog X.w X.K X.mg X.base CX k x ps sp) (hr : Room k X.A) (hx : Passes CX X E) (ha : PA X (e :: es) t) (hg : Gl X x := by rfl) (hdb : (x == ("__debug__" : Str)) = false := by decide)
    (he : starEach (e :: es) X.env = (false, eval e X.env) :: starEach es X.env := by rfl) (hpl : (backTo pos (starEach es X.env)).any (·.1) = false := by rfl) :
    PE X (.Call (.Name x p) (e :: es) [] pos) (tCall sp [] E t) := by
  obtain ⟨f, fd, F, hm, hk, hb, _⟩ := D
  exact pe_call F hr hg hm hk hb .nil hx ha hdb he hpl
end
/-! ### numbers in the heap -/
/-- v is the pair that tells q -/
def NumV (H : Hp) (v : V) (q : Rat) : Prop := ∃ p : Addr, v = .ref p ∧ H p = some (.tup [.int q.num, .int (q.den : Int)])
/-- v is the tuple of the numbers l -/
def StepV (H : Hp) (v : V) (l : List Rat) : Prop := ∃ (p : Addr) (vs : List V), v = .ref p ∧ H p = some (.tup vs) ∧ Paired (NumV H) vs l
/-- tuples stay -/
def TExt (H H' : Hp) : Prop := ∀ b xs, H b = some (.tup xs) → H' b = some (.tup xs)
theorem TExt.refl (H : Hp) : TExt H H := fun _ _ h => h
theorem TExt.trans {H H1 H2 : Hp} (a : TExt H H1) (b : TExt H1 H2) : TExt H H2 := fun c o h => b c o (a c o h)
theorem _root_.L2.Same.tx {H H' : Hp} (h : Same H H') : TExt H H' := fun b _ e => h b _ e
theorem NumV.mono {H H' : Hp} (e : TExt H H') {v : V} {q : Rat} (h : NumV H v q) : NumV H' v q := by
  obtain ⟨p, rfl, h⟩ := h
  exact ⟨p, rfl, e _ _ h⟩
theorem NumVs.mono {H H' : Hp} (e : TExt H H') : ∀ {vs : List V} {l : List Rat}, Paired (NumV H) vs l → Paired (NumV H') vs l
  | _, _, .nil => .nil
  | _, _, .cons h t => .cons (h.mono e) (NumVs.mono e t)
theorem StepV.mono {H H' : Hp} (e : TExt H H') {v : V} {l : List Rat} (h : StepV H v l) : StepV H' v l := by
  obtain ⟨p, vs, rfl, h, r⟩ := h
  exact ⟨p, vs, rfl, e _ _ h, NumVs.mono e r⟩
theorem ifT {c : Bool} {A B : Prop} (hc : c = true) (h : A) : if c = true then A else B := by
  rw [if_pos hc]
  exact h
theorem ifF {c : Bool} {A B : Prop} (hc : c = false) (h : B) : if c = true then A else B := by
  rw [hc, if_neg Bool.false_ne_true]
  exact h
theorem same_new {H : Hp} {p : Addr} {o : HO} (h : H p = none) : Same H (upd H p o) := fun b u e => by
  rw [upd_ne (ne_of_none e h)]
  exact e
end K63
set_option Elab.async false
set_option linter.all false
set_option maxRecDepth 100000
set_option maxHeartbeats 4000000
namespace K63
open PySem PySem.Spec PyProof.Rows L2
/-! ### repr of data at any depth, where nothing is being shown -/
def rRepr (K : PySem.W.Frag) : List V → Hp → VK → Prop := fun xs H Q => ∃ x d, xs = [x] ∧ Dp K H x d ∧ d.showable = true ∧ d.hasDict = false ∧ d.depth ≤ 64 ∧ d.shown.length ≤ sizeLine ∧ Q (.str d.shown) H
theorem cr_repr {X : Cx} (hg : X.A.guards = some []) (hu : X.A.units + 100 < cLine) : CallR X (.builtin "repr") (rRepr X.K) := by
  intro pins s σ H xs us Q I r h
  obtain ⟨x, d, rfl, hd, hs, hn, hdp, hz, q⟩ := h
  cases r with
  | @cons _ u _ _ rx rr =>
    cases rr
    obtain ⟨as, rd⟩ := Dp.reads I d x u hd rx
    have fin : ∀ (h' : Heap) (t : Tok) (tk : Nat), (∀ b o, s.heap.get? b = some o → h'.get? b = some o) → EP X pins σ Q (.str d.shown t) { s with heap := h', toks := tk } := fun h' t tk k =>
      ⟨.str d.shown, H, I.kept (t' := tk) k, ⟨t, rfl⟩, q⟩
    cases d with
    | none =>
      cases rd
      exact PySem.P.repr_of_none (fin s.heap _ _ fun _ _ e => e)
    | bool b =>
      cases rd
      have e := fin s.heap s.toks (s.toks + 1) fun _ _ e => e
      simp only [PyData.shown] at e
      exact PySem.P.repr_of_bool e
    | int i =>
      cases rd
      have e := fin s.heap s.toks (s.toks + 1) fun _ _ e => e
      simp only [PyData.shown] at e
      exact PySem.P.repr_of_int (by simpa [PyData.showable] using hs) e
    | str z =>
      cases rd
      have e := fin s.heap s.toks (s.toks + 1) fun _ _ e => e
      simp only [PyData.shown] at e hz
      exact PySem.P.repr_of_str e hz
    | list ds =>
      cases hd
      cases rx
      exact repr_of_reads' rd hs (fun z => by rw [hn] at z; cases z) hg (by omega) (fun _ _ e => e) (fun h' t tk k => fin h' t tk k) hz
    | tuple ds =>
      cases hd
      cases rx
      exact repr_of_reads' rd hs (fun z => by rw [hn] at z; cases z) hg (by omega) (fun _ _ e => e) (fun h' t tk k => fin h' t tk k) hz
    | dict kv => cases hd
/-! ### a tuple turned round by a slice -/
theorem places_rev (n : Nat) : Builtin.Slice.slicePlaces ((n : Int) - 1) (-1) (-1) = n := by
  unfold Builtin.Slice.slicePlaces
  rw [if_neg (by omega)]
  by_cases h : n = 0
  · subst h
    rfl
  · rw [if_pos (by omega)]
    have e : ((n : Int) - 1 - -1 - 1) / (- -1) + 1 = n := by
      show ((n : Int) - 1 - -1 - 1) / 1 + 1 = n
      rw [Int.ediv_one]
      omega
    rw [e]
    rfl
theorem range_rev {α : Type} (xs : List α) : (List.range xs.length).filterMap (fun (k : Nat) => xs.toArray[((xs.length : Int) - 1 + (k : Int) * -1).toNat]?) = xs.reverse := by
  have e : ∀ k ∈ List.range xs.length, xs.toArray[((xs.length : Int) - 1 + (k : Int) * -1).toNat]? = xs.reverse[k]? := fun k hk => by
    have hk := List.mem_range.mp hk
    rw [List.getElem?_toArray, List.getElem?_reverse hk]
    congr 1
    omega
  have e2 : (List.range xs.length).filterMap (fun (k : Nat) => xs.toArray[((xs.length : Int) - 1 + (k : Int) * -1).toNat]?) = (List.range xs.reverse.length).filterMap (fun k => xs.reverse[k]?) := by
    rw [List.length_reverse]
    have key : ∀ l : List Nat, (∀ k ∈ l, k ∈ List.range xs.length) → l.filterMap (fun (k : Nat) => xs.toArray[((xs.length : Int) - 1 + (k : Int) * -1).toNat]?) = l.filterMap (fun k => xs.reverse[k]?) := by
      intro l
      induction l with
      | nil => intro _; rfl
      | cons a r ih =>
        intro hl
        rw [List.filterMap_cons, List.filterMap_cons, e a (hl a List.mem_cons_self), ih fun k hk => hl k (List.mem_cons_of_mem _ hk)]
    exact key _ fun k hk => hk
  rw [e2]
  generalize xs.reverse = ys
  induction ys with
  | nil => rfl
  | cons a r ih =>
    rw [List.length_cons, List.range_succ_eq_map, List.filterMap_cons]
    show a :: ((List.range r.length).map Nat.succ).filterMap _ = _
    rw [List.filterMap_map]
    exact congrArg _ ih
section
variable {prog : Program} {w : World} {A : Around} {E : Value → Shared → Prop} {s : Shared}
theorem tup_turned {t sl : Addr} {items : List Value} {vs : Value} {Q : Value → Shared → Prop} (ht : IsTup s.heap t items.toArray) (hs : s.heap.IsSliceOf sl .none .none vs) (ps : IsPart vs (some (-1)))
    (h : Q (.ref s.heap.objs.size) { s with heap := s.heap.push { cls := .type "tuple", data := .seq items.reverse.toArray } }) (hsz : items.length ≤ sizeLine) : wpAny (model prog w) A (getItem (.ref t) (.ref sl)) Q E s := by
  obtain ⟨os, hos, hcs, hds⟩ := id hs
  have hT : s.TypeIs (.ref sl) "slice" := ⟨os, hos, hcs⟩
  have hz : sizeOk (.seq items.reverse.toArray) := by
    show items.reverse.toArray.size ≤ sizeLine
    rw [List.size_toArray, List.length_reverse]
    exact hsz
  unfold getItem
  (try with_reducible refine wpAny_holding ?_)
  refine wpAny_bind (wpAny_sequenceKey ht.typeIs (by decide) ?_)
  refine wpAny_bind (wpAny_callSpecial?_slot (name := Str.ofString "__getitem__") ht.typeIs slot_tuple_getitem (wpAny_call_entry slot_tuple_getitem ht.typeIs entry_tuple_getitem ?_ (args_tuple_getitem _ _)))
  show wpAny _ _ (Builtin.Tuple.tupleItemsOf (.ref t) >>= _) _ _ s
  refine wpAny_bind (tupleItemsOf_ ht (wpAny_bind (wpAny_typeOf hT ?_)))
  rw [if_pos (by decide)]
  have sa : ∀ {Q' : Int × Int × Nat → Shared → Prop} {E' : Value → Shared → Prop} {A' : Around}, Q' ((items.length : Int) - 1, -1, items.length) s → wpAny (model prog w) A' (Builtin.Slice.sliceApplied (.ref sl) (pure (items.toArray.size : Int))) Q' E' s := fun {Q' E' A'} q => by
    unfold Builtin.Slice.sliceApplied Builtin.Slice.sliceFields
    refine wpAny_bind (wpAny_bind (wpAny_field hos hds (x := .none) rfl (wpAny_bind (wpAny_field hos hds (x := .none) rfl (wpAny_bind (wpAny_field hos hds (x := vs) rfl (wpAny_pure ?_)))))))
    refine wpAny_bind (HT.slicePart_ ps ?_)
    show wpAny _ _ (if ((-1 : Int) == 0) = true then _ else _) _ _ s
    rw [if_neg (by decide)]
    refine wpAny_bind (HT.slicePart_ .none (wpAny_bind (HT.slicePart_ .none (wpAny_bind (wpAny_pure ?_)))))
    show wpAny _ _ (pure ((items.toArray.size : Int) - 1, (-1 : Int), Builtin.Slice.slicePlaces ((items.toArray.size : Int) - 1) (-1) (-1))) _ _ s
    rw [places_rev, List.size_toArray]
    exact wpAny_pure q
  refine wpAny_bind (sa ?_)
  have hno : ¬ ((((items.length : Int) - 1) == 0 && (-1 : Int) == 1 && items.length == items.toArray.size) = true) := by
    rw [show ((-1 : Int) == 1) = false by decide, Bool.and_false, Bool.false_and]
    exact Bool.false_ne_true
  show wpAny _ _ (if (((items.length : Int) - 1) == 0 && (-1 : Int) == 1 && items.length == items.toArray.size) = true then _ else _) _ _ s
  rw [if_neg hno, range_rev]
  first
    | exact wpAny_bind (m := Builtin.Tuple.tupleExact _) (wpAny_newObj_type (wpAny_pure ⟨_, rfl, wpAny_pure h⟩) hz)
    | exact wpAny_bind (wpAny_bind (m := Builtin.Tuple.tupleExact _) (wpAny_newObj_type (wpAny_pure (wpAny_pure ⟨_, rfl, wpAny_pure h⟩)) hz))
    | exact wpAny_bind (m := Builtin.Tuple.tupleExact _) (wpAny_newObj_type (wpAny_bind (wpAny_pure (wpAny_pure ⟨_, rfl, wpAny_pure h⟩))) hz)
end
/-- t[::-1] -/
def tRevT (K : PySem.W.Frag) (te : TE) : TE := fun σ H Q => te σ H fun x H1 => ∃ a xs, x = .ref a ∧ SqT K H1 a xs ∧ ∀ p, H1 p = none → Q (.ref p) (upd H1 p (.tup xs.reverse))
theorem pe_revT {X : Cx} {e : Expr} {te : TE} {k : Nat} {p1 p2 p3 pos : Pos} (he : PE X e te) : PE X (.Subscript e (.Slice none none (some (.UnaryOp .USub (.Constant (.int 1) k p1) p2)) p3) pos) (tRevT X.K te) := by
  refine ⟨fun pins s σ H Q I h => Subscript_ (thn (he.run pins s σ H _ I h) fun v s1 ⟨x, H1, I1, r1, q1⟩ => ?_)⟩
  obtain ⟨a, xs, rfl, hx, q⟩ := q1
  cases r1
  have hst : PO X (some (.UnaryOp .USub (.Constant (.int 1) k p1) p2)) (tPart (tUn (rU fun i => .int (-i)) (tC (.int 1)))) := po_some (pe_un un_neg pe_int)
  refine wpAny_Slice (thn (po_none.run pins s1 σ H1 (fun o H2 => o = none ∧ H2 = H1) I1 ⟨rfl, rfl⟩) fun vl s2 ⟨l, H2, I2, pl, el, e2⟩ => ?_)
  subst el e2
  refine thn (po_none.run pins s2 σ H2 (fun o H3 => o = none ∧ H3 = H2) I2 ⟨rfl, rfl⟩) fun vu s3 ⟨u, H3, I3, pu, eu, e3⟩ => ?_
  subst eu e3
  refine thn (hst.run pins s3 σ H3 (fun o H4 => o = some (-1) ∧ H4 = H3) I3 ⟨1, rfl, -1, rfl, rfl, rfl⟩) fun vs s4 ⟨o, H4, I4, ps, eo, e4⟩ => ?_
  subst eo e4
  cases pl
  cases pu
  have I5 : Inv X pins σ H4 { s4 with heap := s4.heap.push { cls := .type "slice", data := .fields #[.none, .none, vs] } } := I4.kept (t' := s4.toks) fun b ob q => Heap.get?_push_of_some _ q
  obtain ⟨its, r, ht, hz⟩ := I5.tuple hx
  have hlen := r.length
  show wpAny (model X.prog X.w) X.A (subscriptTail e (.Slice none none (some (.UnaryOp .USub (.Constant (.int 1) k p1) p2)) p3) (.ref a) (.ref s4.heap.objs.size)) (EP X pins σ Q) X.xe { s4 with heap := s4.heap.push { cls := .type "slice", data := .fields #[.none, .none, vs] } }
  refine tail_any (ops := [.ref a, .ref s4.heap.objs.size]) ht.typeIs (slot_tuple_getitem.lookup) ?_ (by with_unfolding_all rfl)
  refine tup_turned ht (Heap.IsSliceOf.new _ .none .none vs) ps ?_ (by omega)
  refine ⟨.ref _, _, I5.laid (t' := s4.toks) (o := .tup xs.reverse) (fun b ob q => Heap.get?_push_of_some _ q) (Nat.le_refl _) ?_, rfl, q _ (I5.hok.fresh (Nat.le_refl _))⟩
  exact ⟨by rw [List.length_reverse]; exact hz, _, r.reverse, ⟨_, Heap.get?_push_size _ rfl, rfl, 0, rfl⟩⟩
end K63
set_option Elab.async false
set_option linter.all false
set_option maxRecDepth 100000
set_option maxHeartbeats 4000000
namespace K63
open PySem PySem.Spec PyProof.Rows L2
open AutoSeq1 (wpAny_loadPart')
theorem meets_enum_tup (t : Addr) (o : Obj) (items : Array Value) :
    Meets (Builtin.«enumerate.__new__» ⟨[.type "enumerate", .ref t], []⟩) (fun _ R s => (s.heap.get? t = some o ∧ s.heap.IsTuple t items) ∧
      R (.ok (.ret (.ref (s.heap.push { cls := .type "tuple_iterator", data := .fields #[.ref t, .int 0 0] }).objs.size)))
        { s with heap := (s.heap.push { cls := .type "tuple_iterator", data := .fields #[.ref t, .int 0 0] }).push { cls := .type "enumerate", data := .fields #[.none, .bool false, .ref s.heap.objs.size, rawInt 0, .none, .none] } }) :=
  .of_wp fun prog w A R s h => by
    obtain ⟨hp, g, d, tk, os⟩ := s
    obtain ⟨⟨hl, hT⟩, h⟩ := h
    have hsub := sub_enumerate
    have hL : Heap.IsTuple (Shared.heap ⟨hp, g, d, tk, os⟩) t items := hT
    wp_walk using wpAny_loadPart' hl
    refine wpAny_stack_any fun st => wpAny_pure ?_
    split
    · rename_i c _ _ _ _ _
      cases (c == Value.type "enumerate")
      · wp_walk using wpAny_loadPart' hl, wpAny_pyIter_tuple hL
        exact ⟨_, rfl, h⟩
      · wp_walk using wpAny_loadPart' hl, wpAny_pyIter_tuple hL
        exact ⟨_, rfl, h⟩
    · wp_walk using wpAny_loadPart' hl, wpAny_pyIter_tuple hL
      exact ⟨_, rfl, h⟩
end K63
namespace K63
open PySem PySem.Spec PyProof.Rows L2
section
variable {prog : Program} {w : World} {A : Around} {E : Value → Shared → Prop} {s : Shared}
theorem call_enum_tup {t : Addr} {items : Array Value} {Q : Value → Shared → Prop} (hT : s.heap.IsTuple t items)
    (h : ∀ h', IsEnum h' (s.heap.objs.size + 1) s.heap.objs.size 0 .none → h'.IsTupleIter s.heap.objs.size t 0 → (∀ b o, s.heap.get? b = some o → h'.get? b = some o) → Q (.ref (s.heap.objs.size + 1)) { s with heap := h' }) :
    wpAny (model prog w) A (call (.type "enumerate") [.ref t]) Q E s := by
  obtain ⟨o, ho, _⟩ := id hT
  refine callType_new F.called_enumerate (by decide) (F.typeCall_enumerate_1 _) (F.newCall_enumerate_1 _) (fun obj => F.args_object_init_2 obj _) F.entry_enumerate_new (meets_enum_tup t o items) ⟨⟨ho, hT⟩, ?_⟩
  have hz : (s.heap.push { cls := .type "tuple_iterator", data := .fields #[.ref t, .int 0 0] }).objs.size = s.heap.objs.size + 1 := Heap.size_push ..
  show _ ∧ _
  rw [hz]
  have he : IsEnum ((s.heap.push { cls := .type "tuple_iterator", data := .fields #[.ref t, .int 0 0] }).push { cls := .type "enumerate", data := .fields #[.none, .bool false, .ref s.heap.objs.size, rawInt 0, .none, .none] }) (s.heap.objs.size + 1) s.heap.objs.size 0 .none := by
    rw [← hz]
    exact Heap.get?_push_size _ rfl
  exact ⟨⟨_, he, rfl⟩, h _ he ⟨_, Heap.get?_push_of_some _ (Heap.get?_push_size _ rfl), rfl, rfl⟩ fun b o x => Heap.get?_push_of_some _ (Heap.get?_push_of_some _ x)⟩
end
/-- a tuple's items with their places, each in a new pair -/
def IteT (K : PySem.W.Frag) (a : Addr) : It :=
  ⟨fun i H => ∃ (xs : List V) (x : V), SqT K H a xs ∧ xs[i]? = some x, fun i H v H' => ∃ T x, v = .ref T ∧ H T = none ∧ H' = upd H T (.tup [.int (i : Nat), x]) ∧ ∀ xs, SqT K H a xs → xs[i]? = some x, fun i H => ∃ xs : List V, SqT K H a xs ∧ xs.length = i⟩
theorem turn_enumT {P : Program} {w : World} {K : PySem.W.Frag} {elts : List Expr} {kk : Nat} {tpos : Pos} (a e it : Addr) :
    Turn P w K (.Tuple elts kk tpos) (IteT K a) [e, it] e (fun i h => (∃ old, IsEnum h e it ((i : Nat) : Int) old) ∧ h.IsTupleIter it a i ∧ e ≠ it) where
  mem := by simp
  obj := fun i h st b hb => by
    obtain ⟨⟨old, he⟩, ⟨o, ho, _, hd⟩, _⟩ := st
    rcases (show b = e ∨ b = it by simpa using hb) with z | z
    · rw [z]
      exact ⟨_, he, fun v q => nomatch q⟩
    · rw [z]
      exact ⟨o, ho, fun v q => by rw [hd] at q; cases q⟩
  keep := fun i h h' st k => let ⟨⟨old, he⟩, hi, hne⟩ := st; ⟨⟨old, k e (by simp) _ he⟩, hi.at fun o q => k it (by simp) o q, hne⟩
  item := by
    intro X hP hw hK hc i pins s σ H E I hf st hg
    subst hP hw hK
    obtain ⟨⟨old, he⟩, hit, hne⟩ := st
    obtain ⟨xs, x, hq, hx⟩ := hg
    obtain ⟨its, rv, p, hz⟩ := I.tuple hq
    obtain ⟨u, hu, ru⟩ := rv.get hx
    have pT : s.heap.IsTuple a its.toArray := p
    have ale : a ≠ e := fun z => by
      obtain ⟨o, ho, hcl, _⟩ := pT
      rw [z, he] at ho
      cases ho
      have q : Value.type "enumerate" = Value.type "tuple" := hcl
      exact absurd q (by decide)
    have ali : a ≠ it := fun z => by
      obtain ⟨o, ho, hcl, _⟩ := pT
      obtain ⟨o', ho', hcl', _⟩ := hit
      rw [z, ho'] at ho
      cases ho
      rw [hcl'] at hcl
      exact absurd hcl (by decide)
    have hil : it < s.heap.objs.size := by
      obtain ⟨_, q, _⟩ := hit
      exact Heap.lt_size q
    have hel : e < s.heap.objs.size := Heap.lt_size he
    have hi : i < its.toArray.size := by
      rw [List.size_toArray]
      exact (List.getElem?_eq_some_iff.mp hu).1
    refine wpAny_pyNext_enum_itemC (Draws.tuple (A := X.A.in1) (I.ok.hd hc) it a ali its.toArray) he ⟨hit, pT⟩ hi hne (by simp [hne, Ne.symm ale]) fun x' h' tk hx' ho st' hT hsz hk => ?_
    obtain rfl : x' = u := by
      have q : its[i]? = some x' := by simpa using hx'
      rw [hu] at q
      exact (Option.some.inj q).symm
    refine ⟨_, rfl, wpAny_letOwnedTupleGo_enum (s := { s with heap := h', toks := tk + 1 }) ho fun h'' he' sb => ?_⟩
    have hT2 : h''.get? s.heap.objs.size = some { cls := .type "tuple", data := .seq #[.int i tk, x'] } := (sb.2 _ (Nat.ne_of_gt hel)).trans hT
    have new : ObjOk X.prog X.w (upd H s.heap.objs.size (.tup [.int (i : Nat), x])) h'' s.heap.objs.size (.tup [.int (i : Nat), x]) :=
      ⟨by show 2 ≤ sizeLine; decide, [.int i tk, x'], .cons ⟨_, rfl⟩ (.cons ru .nil), ⟨_, hT2, rfl, _, rfl⟩⟩
    have I1 := I.turnedNew (t' := tk + 1) (ch := [e, it]) (h' := h'') (fun b ob hb q => (sb.2 b (fun z => hb (by simp [z]))).trans (hk b ob (fun z => hb (by simp [z])) (fun z => hb (by simp [z])) q)) hf (Nat.le_refl _) new
    refine ⟨.ref s.heap.objs.size, _, I1, rfl, ⟨_, x, rfl, I.hok.fresh (Nat.le_refl _), rfl, fun ys hy => by rw [I.tuple_inj hy hq]; exact hx⟩, ⟨⟨x', ?_⟩, st'.1.at fun o q => (sb.2 it (Ne.symm hne)).trans q, hne⟩, fun b hb => ?_⟩
    · rw [show ((i + 1 : Nat) : Int) = (i : Int) + 1 by omega]
      exact he'
    · have hb' : b < s.heap.objs.size := by
        rcases (show b = e ∨ b = it by simpa using hb) with z | z
        · rw [z]; exact hel
        · rw [z]; exact hil
      rw [upd_ne (Nat.ne_of_lt hb')]
      exact (hf b hb).1
  done := by
    intro X hP hw hK hc i pins s σ H E I hf st hg
    subst hP hw hK
    obtain ⟨⟨old, he⟩, hit, hne⟩ := st
    obtain ⟨xs, hq, hx⟩ := hg
    obtain ⟨its, rv, p, hz⟩ := I.tuple hq
    have pT : s.heap.IsTuple a its.toArray := p
    obtain ⟨f0, f1, f2, f3, f4, f5⟩ := hf it (by simp)
    have hl := rv.length
    have ali : a ≠ it := fun z => by
      obtain ⟨o, ho, hcl, _⟩ := pT
      obtain ⟨o', ho', hcl', _⟩ := hit
      rw [z, ho'] at ho
      cases ho
      rw [hcl'] at hcl
      exact absurd hcl (by decide)
    have ei : i = its.toArray.size := by rw [List.size_toArray]; omega
    refine wpAny_pyNext_enum_endD (Draws.tuple (A := X.A.in1) (I.ok.hd hc) it a ali its.toArray) he ⟨by rw [← ei]; exact hit, pT⟩ fun h' eb => ⟨rfl, I.turned (t' := s.toks) (fun b o hb q => eb b o hb q) f0 f1 f3 f4 f5⟩
  self := fun A i s Q E st h => let ⟨⟨_, he⟩, _⟩ := st; wpAny_pyIter_enum he h
def iEnumT (K : PySem.W.Frag) (ta : TA) : TI := fun σ H R => ta σ H fun vs H1 => ∃ a xs, vs = [.ref a] ∧ SqT K H1 a xs ∧ R (IteT K a) H1
/-- enumerate(t), t a tuple -/
theorem pi_enumT {X : Cx} {e : Expr} {ta : TA} {p pos tpos : Pos} {elts : List Expr} {kk : Nat} (hm : X.mg "enumerate" = none) (ha : PA X [e] ta) (hg : Gl X "enumerate" := by rfl) (hs : starEach [e] X.env = [(false, eval e X.env)] := by rfl) :
    PI X (.Tuple elts kk tpos) (.Call (.Name "enumerate" p) [e] [] pos) (iEnumT X.K ta) := by
  refine ⟨fun pins s σ H R I h => Call_ (ld_blt I hg hm boot_enumerate (PyProof.Rows.callWith_type1 (thn (ha.run pos pins s σ H _ I h) fun us s1 ⟨vs, H1, I1, r1, a, xs, ex, hq, q⟩ => ?_) hs rfl))⟩
  subst ex
  cases r1 with
  | cons r rr =>
    cases rr
    cases r
    obtain ⟨its, rv, p', hz⟩ := I1.tuple hq
    refine call_enum_tup (show s1.heap.IsTuple a its.toArray from p') fun h' he hit hk => wpAny_pyIter_enum he ?_
    refine ⟨s1.heap.objs.size + 1, [s1.heap.objs.size + 1, s1.heap.objs.size], _, _, H1, rfl, I1.kept (t' := s1.toks) hk, turn_enumT a _ s1.heap.objs.size, ⟨⟨.none, he⟩, hit, Nat.succ_ne_self _⟩, fun b hb => ?_, q⟩
    have hle : s1.heap.objs.size ≤ b := by
      rcases (show b = s1.heap.objs.size + 1 ∨ b = s1.heap.objs.size by simpa using hb) with z | z
      · rw [z]
        exact Nat.le_add_right _ _
      · rw [z]
        exact Nat.le_refl _
    exact I1.fpOk hle (I1.hok.fresh hle)
theorem walk_enumT {K : PySem.W.Frag} {a : Addr} {xs : List V} : Walk (IteT K a) xs.length (fun H => SqT K H a xs) (YPair (fun i => some (.int (i : Nat))) (fun i => xs[i]?)) := by
  refine ⟨fun i _ hi q => ⟨xs, xs[i], q, by simp [hi]⟩, fun _ q => ⟨xs, q, rfl⟩, fun i H v H' _ q y => ?_⟩
  obtain ⟨T, x, h1, h2, h3, h4⟩ := y
  exact ⟨T, .int (i : Nat), x, h1, h2, h3, rfl, h4 xs q⟩
end K63
set_option Elab.async false
set_option linter.all false
set_option maxRecDepth 100000
set_option maxHeartbeats 4000000
namespace K63
open PySem PySem.Spec PyProof.Rows L2
open PySem.W (Frag)
/-! ### errors of one's own whose __init__ hands on to the base's by super() -/
/-- self, and a parameter a or none -/
def eArg (a : List (Str × Pos)) (p : Pos) : Arguments := { posonlyargs := [], args := { arg := "self", annotation := none, pos := p } :: a.map fun x => { arg := x.1, annotation := none, pos := x.2 }, vararg := none, kwonlyargs := [], kw_defaults := [], kwarg := none, defaults := [] }
def eSup (es : List Expr) (p0 p1 p2 p5 p6 : Pos) : Stmt := .Expr (.Call (.Attribute (.Call (.Name "super" p0) [] [] p1) "__init__" p2) es [] p5) p6
def eScope (a : List Str) : Scope := { kind := .function, names := (("self" : Str), .local) :: (a.map fun x => (x, NameKind.local)) ++ [(("__class__" : Str), .free), (("super" : Str), .globalImplicit)], isGenerator := false, isCoroutine := false, more := [] }
/-- what the written part says of the class at C, whose __init__ stands at fI with this body -/
structure ErrK (K : Frag) (C fI : Addr) (ar : Arguments) (body : List Stmt) (sc : Scope) (qual : Str) (file : Str) : Prop where
  cls : ∃ nm q N bs bm sn sub ab col dd k0 k1 k2 k3 k5, K.lookup C = some (excClassObj nm q C N bs bm true sn sub ab col dd k0 k1 k2 k3 k5 "ValueError.__new__") ∧ PySem.HandSPX.refsVE bm = true
  sa : PySem.W.findIn K (.ref C) "__setattr__" = some (some (.builtin "object.__setattr__"))
  iC : PySem.W.findIn K (.ref C) "__init__" = some (some (.ref fI))
  tC : PySem.W.typeIn K (.ref fI) = some (.type "function")
  kC : PySem.W.keepIn K (.ref C) = true
  exC : PySem.W.subIn K (.ref C) (.type "BaseException") = some true
  veC : PySem.W.subIn K (.ref C) (.type "ValueError") = some true
  tyC : PySem.W.typeIn K (.ref C) = some (.type "type")
  meC : PySem.W.mroIn K C (.ref C) = some true
  su : PySem.W.ks_superIn K C C "__init__" = some (some (.builtin "ValueError.__init__"))
  op : PySem.W.nsIn K cStatics "thirdparty.any" = some none
  fn : ∃ (oc : Value) (od : Option Addr) (kV doc pm : Value) (an : Option Addr) (cda cc : Addr) (ct : Value) (osl : Array (Option Value)) (ccl cl : Value) (cdd cld : Option Addr) (vs : Array Value) (ccs csl : Array (Option Value)) (tf : Tok),
    K.lookup fI = some ⟨oc, od, .func (PySem.W.ksFn "__init__" qual ar body sc .none kV doc pm an (.ref cda) ct cc), osl⟩ ∧ PySem.W.codeIn K (.ref cda) qual = true ∧
      K.lookup cda = some ⟨ccl, cdd, .fields vs, ccs⟩ ∧ vs[2]? = some (.str file tf) ∧ K.lookup cc = some ⟨cl, cld, .cell (some (.ref C)), csl⟩
section
variable {prog : Program} {w : World} {A : Around} {E : Value → Shared → Prop} {h : Heap} {g : Array GenState} {d : Drawn} {t : Nat} {os : OsState}
variable {nm q : Str} {C N : Addr} {bs bm : List Value} {hdct : Bool} {sn : List Str} {sub : List Value} {ab : Bool} {col : Option Bool} {dd : Option Addr} {k0 k1 k2 k3 k5 : Option Value}
open PySem.W in
/-- the bound built-in __init__ is called -/
theorem call_wrap {u e t0 : Addr} {rest : List Value} {Q : Value → Shared → Prop} (hC : h.get? C = some (excClassObj nm q C N bs bm hdct sn sub ab col dd k0 k1 k2 k3 k5 "ValueError.__new__")) (he : h.get? e = some (PySem.HandSPX.excO C t0))
    (hu : h.get? u = some (kxs_mw "ValueError.__init__" e)) (hz : rest.length ≤ sizeLine) (hq : ∀ h' t1, (∀ b o, b ≠ e → h.get? b = some o → h'.get? b = some o) → h'.get? e = some (PySem.HandSPX.excO C t1) → Q .none ⟨h', g, d, t, os⟩) :
    wpAny (model prog w) A (call (.ref u) rest) Q E ⟨h, g, d, t, os⟩ := by
  have FB := PySem.F.excBase_ValueError
  have two : (Value.type "method-wrapper" == Value.type "method" || Value.type "method-wrapper" == Value.type "builtin_function_or_method" || Value.type "method-wrapper" == Value.type "method-wrapper") = true := by decide
  refine wpAny_call (codeAny_of_tree ?_)
  show wpAny _ A.in1 (callAny (.ref u) ⟨rest, []⟩) _ _ _
  simp only [callAny]
  refine wpAny_bind (wpAny_load hu ?_)
  simp only [kxs_mw, two, if_true]
  refine KFB.if_so (by decide) (wpAny_bind (check_bound_init FB.toExcCallFacts hC he rfl (wpAny_bind (wpAny_pure (wpAny_pure ⟨plainId_quiet FB.init.plain _, codeAny_builtin FB.initEntry ?_⟩)))))
  exact exc_init_tree (cls := .ref C) (t0 := t0) (dv := none) (c2 := .none) (c3 := .none) (b4 := .bool false) he hz fun h' k e' _ => hq h' h.objs.size k e'
end
section
variable {prog : Program} {w : World} {A : Around} {E : Value → Shared → Prop} {s : Shared} {K : Frag} {mg mb m : Str → Option Value} {C fI : Addr} {ar : Arguments} {fb : List Stmt} {sc : Scope} {qual : Str}
open PySem.W in
/-- super().__init__(e, ..), the first row of such an __init__ -/
theorem sup_row {kV doc pm ct oc ccl cl : Value} {an od cdd cld : Option Addr} {cda cc L x t0 : Addr} {osl ccs csl : Array (Option Value)} {vs : Array Value} {file : Str} {tf : Tok} {e : Expr} {es : List Expr} {p0 p1 p2 p5 p6 : Pos} {pl : Sem Bool} {Q : Flow → Shared → Prop}
    (T : ErrK K C fI ar fb sc qual file) (X : K.In s.heap) (hf : K.lookup fI = some ⟨oc, od, .func (ksFn "__init__" qual ar fb sc .none kV doc pm an (.ref cda) ct cc), osl⟩)
    (hcode : K.lookup cda = some ⟨ccl, cdd, .fields vs, ccs⟩) (hvs : vs[2]? = some (.str file tf)) (hcell : K.lookup cc = some ⟨cl, cld, .cell (some (.ref C)), csl⟩) (hn : s.heap.Ns L m) (hself : m "self" = some (.ref x))
    (G : s.heap.Ns mainGlobals mg) (hsg : mg "super" = none) (B : s.heap.Ns builtinsNs mb) (hsb : mb "super" = some (.type "super")) (hx : s.heap.get? x = some (PySem.HandSPX.excO C t0))
    (hfile : ((prog.main.file : Str) == file) = true) (htop : (prog.main.scope.names.lookup ("super" : Str)).isSome = false)
    (hks : sc.names.lookup ("super" : Str) = some .globalImplicit) (hkc : sc.names.lookup ("__class__" : Str) = some .free) (hka : sc.names.lookup ("self" : Str) = some .local) (hk : sc.kind = .function) (hp : ∃ a, (ar.posonlyargs ++ ar.args).head? = some a ∧ a.arg = "self")
    (hargs : ∀ (s1 : Shared) (Q1 : List Value → Shared → Prop), (∀ b o, s.heap.get? b = some o → s1.heap.get? b = some o) → (∀ (us : List Value) s2, us.length ≤ 1000 → s2.heap = s1.heap → s2.gens = s1.gens → s2.drawn = s1.drawn → s2.os = s1.os → Q1 us s2) →
      wpAny (model prog w) A (spliced (backTo p5 (starEach (e :: es) (ksEnv qual sc L fI (.ref cda) cc)))) Q1 E s1)
    (he : starEach (e :: es) (ksEnv qual sc L fI (.ref cda) cc) = (false, eval e (ksEnv qual sc L fI (.ref cda) cc)) :: starEach es (ksEnv qual sc L fI (.ref cda) cc)) (hpl : (backTo p5 (starEach es (ksEnv qual sc L fI (.ref cda) cc))).any (·.1) = false)
    (hm : eval (.Call (.Attribute (.Call (.Name "super" p0) [] [] p1) "__init__" p2) (e :: es) [] p5) (ksEnv qual sc L fI (.ref cda) cc) = (do
      let ov ← attributeBase (.Call (.Name "super" p0) [] [] p1) "__init__" (ksEnv qual sc L fI (.ref cda) cc) (eval (.Call (.Name "super" p0) [] [] p1) (ksEnv qual sc L fI (.ref cda) cc))
      standAt p2.atName
      let (f, first) ← holding [ov] (getMethod ov "__init__" pl)
      callWith p5 f first (backTo p5 (starEach (e :: es) (ksEnv qual sc L fI (.ref cda) cc))) []))
    (hi : interactive (ksEnv qual sc L fI (.ref cda) cc) = false) (hsw : swapsWith (.Call (.Attribute (.Call (.Name "super" p0) [] [] p1) "__init__" p2) (e :: es) [] p5) none p6.line (ksEnv qual sc L fI (.ref cda) cc) = pure false)
    (hq : ∀ (s' : Shared) (t1 : Addr), (∀ b o, b ≠ x → s.heap.get? b = some o → s'.heap.get? b = some o) → s'.heap.get? x = some (PySem.HandSPX.excO C t1) → s.heap.objs.size ≤ s'.heap.objs.size → s'.gens = s.gens → s'.drawn = s.drawn → s'.os = s.os → Q .next s') :
    PySem.wpAt (model prog w) A (.func fb (ksEnv qual sc L fI (.ref cda) cc)) (exec (eSup (e :: es) p0 p1 p2 p5 p6) (ksEnv qual sc L fI (.ref cda) cc)) Q E s := by
  obtain ⟨nm, q, N, bs, bm, sn, sub, ab, col, dd, k0, k1, k2, k3, k5, hC, hbm⟩ := T.cls
  have hcl : clsIn K C = some { name := nm, bases := bs, mro := .ref C :: bm, ns := N, qualname := q, hasDict := true, slotNames := sn, subclasses := sub, abstract := ab, collection := col, hasDel := false } := by
    unfold clsIn
    rw [hC] <;> rfl
  obtain ⟨a, hp1, hp2⟩ := hp
  have hxC : x ≠ C := fun z => by
    rw [z, X _ _ hC] at hx
    have z2 := congrArg Obj.data (Option.some.inj hx)
    cases z2
  have hsu := T.su
  unfold ks_superIn at hsu
  rw [hcl] at hsu
  refine ks_wpAt_Expr_any (ks_wpAt_MethodCall (pl := pl) ?_ hm) hi hsw
  refine ks_wpAt_super_base (env := ksEnv qual sc L fI (.ref cda) cc) hks hkc (by decide) rfl (X _ _ hf) rfl hp1 rfl (X _ _ hcode) rfl hvs hfile htop ?_
  refine ks_loadName_global hk hks (Calls.loadGlobal_builtin (env := ksEnv qual sc L fI (.ref cda) cc) G hsg B hsb ⟨rfl, ?_⟩)
  refine wpAny_loadName_free hk hkc rfl ⟨_, X _ _ hcell, rfl⟩ ?_
  rw [hp2]
  refine wpAny_loadName_local hk hka hn hself ?_
  obtain ⟨hp, gs, dr, tk, os⟩ := s
  refine ks_wpAny_isType_cls (X _ _ hC) rfl ⟨rfl, ?_⟩
  refine ks_wpAny_call_super (X _ _ hC) rfl hx rfl (fun c z => by cases z) (looks_mroIn X T.meC) fun h1 e1 kp1 => ?_
  have X1 : K.In h1 := X.keeps kp1
  have hx1 := kp1 _ _ hx
  have I1 : InstAt h1 x (PySem.HandSPX.excO C t0) C none := ⟨hx1, rfl, rfl, trivial⟩
  refine kxs_getMethod kxs_ValueError e1 (looks_opaque X1 T.op) (fun A Q E s k q => wpAny_bind ((looks_clsIn X1 hcl) A _ E s k (wpAny_pure q))) rfl X1 hsu (I1.type.andThen (looks_subIn X1 T.veC)) hxC (by decide) ?_
  have kp2 : ∀ b o, hp.get? b = some o → (h1.push (kxs_mw "ValueError.__init__" x)).get? b = some o := fun b o z => Heap.get?_push_of_some _ (kp1 b o z)
  have hu : (h1.push (kxs_mw "ValueError.__init__" x)).get? h1.objs.size = some (kxs_mw "ValueError.__init__" x) := Heap.get?_push_size _ rfl
  refine kxs_callWith (i := "ValueError.__init__") (x := x) (by rw [he]; show (false || (backTo p5 (starEach es _)).any (·.1)) = false; rw [hpl]; rfl) ?_
  rw [he]
  refine Calls.evalArgs_plain ?_
  have ha := hargs ⟨h1.push (kxs_mw "ValueError.__init__" x), gs, dr, tk + 1, os⟩ (fun vs s1 => KxsAt "ValueError.__init__" h1.objs.size x s1.heap ∧ wpAny (model prog w) A (call (.ref h1.objs.size) ([] ++ vs) []) (fun _ => Q .next) E s1) kp2 fun us s2 hz1 e2 eg ed eo => ?_
  · rw [he] at ha
    exact ha
  · obtain ⟨h2, g2, d2, tk2, os2⟩ := s2
    dsimp only at e2 eg ed eo
    subst e2 eg ed eo
    refine ⟨hu, call_wrap (X1.keeps (fun b o z => Heap.get?_push_of_some _ z) _ _ hC) (Heap.get?_push_of_some _ hx1) hu (Nat.le_trans hz1 (by decide)) fun h3 t1 k3 hx3 => ?_⟩
    have grow : hp.objs.size ≤ h3.objs.size := by
      have y := Heap.lt_size (k3 h1.objs.size _ (fun z => by
        have := Heap.lt_size hx1
        rw [← z] at this
        exact Nat.lt_irrefl _ this) hu)
      have y2 := Heap.lt_size e1
      exact Nat.le_of_lt (Nat.lt_trans y2 y)
    exact hq ⟨h3, g2, d2, tk2, os2⟩ t1 (fun b o hb z => k3 b o hb (kp2 b o z)) hx3 grow rfl rfl rfl
/-- what such an __init__ leaves of a fresh error at x: with a field f, or none -/
def InitEnd (h h' : Heap) (x C : Addr) (fv : Option (Str × Value)) : Prop :=
  (∀ b o, b ≠ x → h.get? b = some o → h'.get? b = some o) ∧ ∃ t1 : Addr, match fv with
    | none => h'.get? x = some (PySem.HandSPX.excO C t1)
    | some (f, v) => ∃ dx : Addr, h'.get? x = some { cls := .ref C, dict := some dx, data := .fields #[.ref t1, .none, .none, .none, .bool false, .none] } ∧ h.objs.size ≤ dx ∧ dx ≠ x ∧ h'.Ns1 dx (fun y => if y = f then some v else none)
def eBody1 (msg a f : Str) (pc pn p0 p1 p2 p5 p6 q1 q2 q3 q4 : Pos) : List Stmt := [eSup [.Constant (.str msg) 0 pc, .Name a pn] p0 p1 p2 p5 p6, .Assign [.Attribute (.Name "self" q1) f q2] (.Name a q3) q4]
def eBody0 (msg : Str) (pc p0 p1 p2 p5 p6 : Pos) : List Stmt := [eSup [.Constant (.str msg) 0 pc] p0 p1 p2 p5 p6]
open PySem.W in
theorem init1 {msg a f file : Str} {pa ps pc pn p0 p1 p2 p5 p6 q1 q2 q3 q4 : Pos} {x t0 : Addr} {v : Value} {pl : Addr → Addr → Addr → Sem Bool} {R : Result → Shared → Prop}
    (T : ErrK K C fI (eArg [(a, pa)] ps) (eBody1 msg a f pc pn p0 p1 p2 p5 p6 q1 q2 q3 q4) (eScope [a]) qual file) (noF : findIn K (.ref C) f = some none) (hda : (a == ("__debug__" : Str)) = false) (hna : (a == ("self" : Str)) = false) (X : K.In s.heap) (hlim : s.heap.NoLimit)
    (G : s.heap.Ns mainGlobals mg) (hsg : mg "super" = none) (B : s.heap.Ns builtinsNs mb) (hsb : mb "super" = some (.type "super")) (hx : s.heap.get? x = some (PySem.HandSPX.excO C t0)) (hnx : K.lookup x = none) (hroom : A.depth < recursionLimit)
    (hfile : ((prog.main.file : Str) == file) = true) (htop : (prog.main.scope.names.lookup ("super" : Str)).isSome = false)
    (hbind : ∀ (kV doc pm : Value) (an : Option Addr) (cda cc : Addr) (ct : Value), bindArgs (ksFn "__init__" qual (eArg [(a, pa)] ps) (eBody1 msg a f pc pn p0 p1 p2 p5 p6 q1 q2 q3 q4) (eScope [a]) .none kV doc pm an (.ref cda) ct cc) ⟨[.ref x, v], []⟩ = pure [(("self" : Str), Value.ref x), (a, v)])
    (hm : ∀ L cda cc : Addr, eval (.Call (.Attribute (.Call (.Name "super" p0) [] [] p1) "__init__" p2) [.Constant (.str msg) 0 pc, .Name a pn] [] p5) (ksEnv qual (eScope [a]) L fI (.ref cda) cc) = (do
      let ov ← attributeBase (.Call (.Name "super" p0) [] [] p1) "__init__" (ksEnv qual (eScope [a]) L fI (.ref cda) cc) (eval (.Call (.Name "super" p0) [] [] p1) (ksEnv qual (eScope [a]) L fI (.ref cda) cc))
      standAt p2.atName
      let (f, first) ← holding [ov] (getMethod ov "__init__" (pl L cda cc))
      callWith p5 f first (backTo p5 (starEach [.Constant (.str msg) 0 pc, .Name a pn] (ksEnv qual (eScope [a]) L fI (.ref cda) cc))) []))
    (hsu : (eScope [a]).names.lookup ("super" : Str) = some .globalImplicit) (hcs : (eScope [a]).names.lookup ("__class__" : Str) = some .free)
    (hq : ∀ s', InitEnd s.heap s'.heap x C (some (f, v)) → s'.gens = s.gens → s'.drawn = s.drawn → s'.os = s.os → R (.ok (.ret .none)) s') :
    codeAny (model prog w) A (.call (.ref fI) ⟨[.ref x, v], []⟩) R s := by
  obtain ⟨oc, od, kV, doc, pm, an, cda, cc, ct, osl, ccl, cl, cdd, cld, vs, ccs, csl, tf, hf, hcd, hcode, hvs, hcell⟩ := T.fn
  obtain ⟨nm, q, N, bs, bm, sn, sub, ab, col, dd, k0, k1, k2, k3, k5, hC, hbm⟩ := T.cls
  have hcl : clsIn K C = some { name := nm, bases := bs, mro := .ref C :: bm, ns := N, qualname := q, hasDict := true, slotNames := sn, subclasses := sub, abstract := ab, collection := col, hasDel := false } := by
    unfold clsIn
    rw [hC] <;> rfl
  have ne1 : ¬ a = "self" := by simpa using hna
  have las : (eScope [a]).names.lookup a = some .local := by
    show List.lookup a [(("self" : Str), NameKind.local), (a, .local), (("__class__" : Str), .free), (("super" : Str), .globalImplicit)] = _
    simp [List.lookup, hna]
  refine ks_codeAny_call_defAt (binds := [(("self" : Str), Value.ref x), (a, v)]) (body := eBody1 msg a f pc pn p0 p1 p2 p5 p6 q1 q2 q3 q4) hroom (X _ _ hf) rfl hlim (codeRec_of X hcd) rfl (BindsTo.of_eq ?_) ?_ ?_ (fun h₁ hns hk₁ => ?_)
  · exact hbind _ _ _ _ _ _ _
  · intro y hy
    have hy2 : y ∈ [(("self" : Str), NameKind.local), (a, .local), (("__class__" : Str), .free), (("super" : Str), .globalImplicit)] := hy
    simp at hy2
    rcases hy2 with e | e | e | e <;> (rw [e]; intro z; cases z)
  · intro y hy
    have hy2 : y = (("self" : Str), .ref x) ∨ y = (a, v) := by simpa using hy
    rcases hy2 with e | e
    · rw [e] <;> rfl
    · rw [e]
      exact las
  · have X₁ : K.In h₁ := X.keeps hk₁
    have mself : (fun y => ([(("self" : Str), Value.ref x), (a, v)] : List (Str × Value)).reverse.lookup y) "self" = some (.ref x) := by
      show List.lookup ("self" : Str) [(a, v), (("self" : Str), Value.ref x)] = _
      have ne2 : (("self" : Str) == a) = false := by
        have := Ne.symm ne1
        simpa using this
      simp [List.lookup, ne2]
    have ma : (fun y => ([(("self" : Str), Value.ref x), (a, v)] : List (Str × Value)).reverse.lookup y) a = some v := by
      show List.lookup a [(a, v), (("self" : Str), Value.ref x)] = _
      simp [List.lookup]
    have xL : x ≠ s.heap.objs.size := Nat.ne_of_lt (Heap.lt_size hx)
    show PySem.wpAt _ (A.deeper (ksEnv qual (eScope [a]) s.heap.objs.size fI (.ref cda) cc)) (.func _ (ksEnv qual (eScope [a]) s.heap.objs.size fI (.ref cda) cc)) (execs (eBody1 msg a f pc pn p0 p1 p2 p5 p6 q1 q2 q3 q4) (ksEnv qual (eScope [a]) s.heap.objs.size fI (.ref cda) cc)) _ _ _
    refine ks_wpAt_execs_cons (sup_row (s := { s with heap := h₁, toks := s.toks + 2 }) T X₁ hf hcode hvs hcell hns mself (G.keeps hk₁) hsg (B.keeps hk₁) hsb (hk₁ _ _ hx) hfile htop hsu hcs (by rfl) rfl ⟨_, rfl, rfl⟩ (fun s1 Q1 k1 hQ => ?_) (by rfl) (by rfl) (hm _ _ _) (by rfl) (by rfl) (fun s2 t1 k2 hx2 hz2 eg ed eo => ?_))
    · have n1 := (hns.keeps k1)
      show wpAny _ _ (spliced [(false, eval (.Constant (.str msg) 0 pc) (ksEnv qual (eScope [a]) s.heap.objs.size fI (.ref cda) cc)), (false, eval (.Name a pn) (ksEnv qual (eScope [a]) s.heap.objs.size fI (.ref cda) cc))]) _ _ _
      refine Calls.spliced_cons (Calls.Constant_str (Calls.spliced_cons (wpAny_Name (wpAny_loadName_local rfl las n1 ma (Calls.spliced_nil (hQ _ _ (show 2 ≤ 1000 by decide) rfl rfl rfl rfl))) hda)))
    · have n2 : s2.heap.Ns s.heap.objs.size _ := hns.at fun o q => k2 _ o (Ne.symm xL) q
      have nx : ∀ {b : Addr} {o : Obj}, K.lookup b = some o → b ≠ x := fun {b o} e z => by
        rw [z, hnx] at e
        cases e
      have X2 : K.In s2.heap := fun b o e => k2 b o (nx e) (X₁ b o e)
      refine PySem.wpAt_of_wpAny (wpAny_execs_cons (plainObj_wpAny_Assign_Attribute (wpAny_Name (wpAny_loadName_local rfl las n2 ma (wpAny_Name (wpAny_loadName_local rfl (by rfl) n2 mself ?_) (by decide))) hda)))
      obtain ⟨hp2, g2, d2, tk2, os2⟩ := s2
      dsimp only at eg ed eo
      refine set_plain X2 (ox := PySem.HandSPX.excO C t1) (od := none) ⟨hx2, rfl, rfl, trivial⟩ T.sa ?_
      refine PySem.HandSPX.exc_osa X2 hx2 hcl (show PySem.HandSPX.refsVE (.ref C :: bm) = true from hbm) rfl noF fun h3 tk3 dx k3 dn dne hx3 hn3 => ?_
      have z1 : s.heap.objs.size ≤ dx := by
        have y := hns.lt
        exact Nat.le_of_lt (Nat.lt_of_lt_of_le y (Nat.le_trans hz2 dn))
      refine wpAny_execs_nil (hq ⟨h3, g2, d2, tk3, os2⟩ ⟨fun b o hb e => k3 b o hb (k2 b o hb (hk₁ b o e)), t1, dx, hx3, z1, dne, hn3⟩ eg ed eo)
open PySem.W in
theorem init0 {msg file : Str} {ps pc p0 p1 p2 p5 p6 : Pos} {x t0 : Addr} {pl : Addr → Addr → Addr → Sem Bool} {R : Result → Shared → Prop}
    (T : ErrK K C fI (eArg [] ps) (eBody0 msg pc p0 p1 p2 p5 p6) (eScope []) qual file) (X : K.In s.heap) (hlim : s.heap.NoLimit)
    (G : s.heap.Ns mainGlobals mg) (hsg : mg "super" = none) (B : s.heap.Ns builtinsNs mb) (hsb : mb "super" = some (.type "super")) (hx : s.heap.get? x = some (PySem.HandSPX.excO C t0)) (hroom : A.depth < recursionLimit)
    (hfile : ((prog.main.file : Str) == file) = true) (htop : (prog.main.scope.names.lookup ("super" : Str)).isSome = false)
    (hbind : ∀ (kV doc pm : Value) (an : Option Addr) (cda cc : Addr) (ct : Value), bindArgs (ksFn "__init__" qual (eArg [] ps) (eBody0 msg pc p0 p1 p2 p5 p6) (eScope []) .none kV doc pm an (.ref cda) ct cc) ⟨[.ref x], []⟩ = pure [(("self" : Str), Value.ref x)])
    (hm : ∀ L cda cc : Addr, eval (.Call (.Attribute (.Call (.Name "super" p0) [] [] p1) "__init__" p2) [.Constant (.str msg) 0 pc] [] p5) (ksEnv qual (eScope []) L fI (.ref cda) cc) = (do
      let ov ← attributeBase (.Call (.Name "super" p0) [] [] p1) "__init__" (ksEnv qual (eScope []) L fI (.ref cda) cc) (eval (.Call (.Name "super" p0) [] [] p1) (ksEnv qual (eScope []) L fI (.ref cda) cc))
      standAt p2.atName
      let (f, first) ← holding [ov] (getMethod ov "__init__" (pl L cda cc))
      callWith p5 f first (backTo p5 (starEach [.Constant (.str msg) 0 pc] (ksEnv qual (eScope []) L fI (.ref cda) cc))) []))
    (hq : ∀ s', InitEnd s.heap s'.heap x C none → s'.gens = s.gens → s'.drawn = s.drawn → s'.os = s.os → R (.ok (.ret .none)) s') :
    codeAny (model prog w) A (.call (.ref fI) ⟨[.ref x], []⟩) R s := by
  obtain ⟨oc, od, kV, doc, pm, an, cda, cc, ct, osl, ccl, cl, cdd, cld, vs, ccs, csl, tf, hf, hcd, hcode, hvs, hcell⟩ := T.fn
  refine ks_codeAny_call_defAt (binds := [(("self" : Str), Value.ref x)]) (body := eBody0 msg pc p0 p1 p2 p5 p6) hroom (X _ _ hf) rfl hlim (codeRec_of X hcd) rfl (BindsTo.of_eq (hbind _ _ _ _ _ _ _)) (show ∀ x ∈ (eScope []).names, x.2 ≠ .cell by decide) ?_ (fun h₁ hns hk₁ => ?_)
  · intro y hy
    have hy2 : y = (("self" : Str), .ref x) := by simpa using hy
    rw [hy2] <;> rfl
  · have X₁ : K.In h₁ := X.keeps hk₁
    have mself : (fun y => ([(("self" : Str), Value.ref x)] : List (Str × Value)).reverse.lookup y) "self" = some (.ref x) := by
      show List.lookup ("self" : Str) [(("self" : Str), Value.ref x)] = _
      simp [List.lookup]
    show PySem.wpAt _ (A.deeper (ksEnv qual (eScope []) s.heap.objs.size fI (.ref cda) cc)) (.func _ (ksEnv qual (eScope []) s.heap.objs.size fI (.ref cda) cc)) (execs (eBody0 msg pc p0 p1 p2 p5 p6) (ksEnv qual (eScope []) s.heap.objs.size fI (.ref cda) cc)) _ _ _
    refine ks_wpAt_execs_cons (sup_row (s := { s with heap := h₁, toks := s.toks + 1 }) T X₁ hf hcode hvs hcell hns mself (G.keeps hk₁) hsg (B.keeps hk₁) hsb (hk₁ _ _ hx) hfile htop (by rfl) (by rfl) (by rfl) rfl ⟨_, rfl, rfl⟩ (fun s1 Q1 k1 hQ => ?_) (by rfl) (by rfl) (hm _ _ _) (by rfl) (by rfl) (fun s2 t1 k2 hx2 hz2 eg ed eo => ?_))
    · show wpAny _ _ (spliced [(false, eval (.Constant (.str msg) 0 pc) (ksEnv qual (eScope []) s.heap.objs.size fI (.ref cda) cc))]) _ _ _
      exact Calls.spliced_cons (Calls.Constant_str (Calls.spliced_nil (hQ _ _ (show 1 ≤ 1000 by decide) rfl rfl rfl rfl)))
    · exact PySem.wpAt_of_wpAny (wpAny_execs_nil (hq s2 ⟨fun b o hb e => k2 b o hb (hk₁ b o e), t1, hx2⟩ eg ed eo))
open PySem.W in
/-- a call of the class, its __init__ run by hI -/
theorem err_made {rest : List Value} {fv : Option (Str × Value)} {file : Str} {R : Result → Shared → Prop} (T : ErrK K C fI ar fb sc qual file) (X : K.In s.heap) (hz : rest.length ≤ 1000)
    (hI : ∀ (A' : Around) (s₁ : Shared) (x t0 : Addr) (R' : Result → Shared → Prop), A'.depth = A.depth + 1 → (∀ b o, s.heap.get? b = some o → s₁.heap.get? b = some o) → s₁.heap.get? x = some (PySem.HandSPX.excO C t0) → K.lookup x = none →
      (∀ s', InitEnd s₁.heap s'.heap x C fv → s'.gens = s₁.gens → s'.drawn = s₁.drawn → s'.os = s₁.os → R' (.ok (.ret .none)) s') → codeAny (model prog w) A' (.call (.ref fI) ⟨.ref x :: rest, []⟩) R' s₁)
    (hq : ∀ (s' : Shared) (x : Addr), s.heap.objs.size ≤ x → (∀ b o, s.heap.get? b = some o → s'.heap.get? b = some o) → (∃ h₁ : Heap, s.heap.objs.size ≤ h₁.objs.size ∧ x < h₁.objs.size ∧ InitEnd h₁ s'.heap x C fv) → s'.gens = s.gens → s'.drawn = s.drawn → s'.os = s.os → R (.ok (.ret (.ref x))) s') :
    codeAny (model prog w) A (.call (.ref C) ⟨rest, []⟩) R s := by
  obtain ⟨nm, q, N, bs, bm, sn, sub, ab, col, dd, k0, k1, k2, k3, k5, hC, hbm⟩ := T.cls
  obtain ⟨hp, g, dr, tk, os⟩ := s
  have k : ∀ b o, hp.get? b = some o → ((hp.push (kdv_tup rest)).push (PySem.HandSPX.excO C hp.objs.size)).get? b = some o := fun b o e => Heap.get?_push_of_some _ (Heap.get?_push_of_some _ e)
  have hget : ((hp.push (kdv_tup rest)).push (PySem.HandSPX.excO C hp.objs.size)).get? (hp.objs.size + 1) = some (PySem.HandSPX.excO C hp.objs.size) := by heap_get
  have hnx : K.lookup (hp.objs.size + 1) = none := by
    cases e : K.lookup (hp.objs.size + 1) with
    | none => rfl
    | some o => exact absurd (Nat.lt_of_succ_lt (Heap.lt_size (X _ _ e))) (Nat.lt_irrefl _)
  refine PySem.HandSPX.call_own PySem.F.excBase_ValueError (fun Y => PySem.HandSPX.refsVE_contains Y bm hbm) (X _ _ hC) (looks_findIn X T.iC) (fun self => bind_fn X self T.tC) (Nat.le_trans hz (by decide)) ?_
  refine hI _ ⟨(hp.push (kdv_tup rest)).push (PySem.HandSPX.excO C hp.objs.size), g, dr, tk, os⟩ (hp.objs.size + 1) hp.objs.size _ make_depth k hget hnx fun s' IE eg ed eo => ?_
  refine ⟨rfl, hq s' (hp.objs.size + 1) (Nat.le_succ _) (fun b o e => IE.1 b o (Nat.ne_of_lt (Nat.lt_succ_of_lt (Heap.lt_size e))) (k b o e)) ⟨_, ?_, ?_, IE⟩ eg ed eo⟩
  · rw [Heap.size_push, Heap.size_push]
    exact Nat.le_trans (Nat.le_succ _) (Nat.le_succ _)
  · exact Heap.lt_size hget
end
/-! ### made and raised, over the layer -/
section
variable {X : Cx} {C fI : Addr} {ar : Arguments} {fb : List Stmt} {sc : Scope} {qual file : Str} {xn : Str}
/-- what the call of the class leaves is an error in the making -/
theorem err_mkp {pins : List (Addr × Obj)} {σ : L2.St} {H : Hp} {s s' : Shared} {x : Addr} {f : Str} {v : V} {u : Value} {Q : XK} (T : ErrK X.K C fI ar fb sc qual file) (I : Inv X pins σ H s) (ru : RelV v u) (hx : s.heap.objs.size ≤ x)
    (k : ∀ b o, s.heap.get? b = some o → s'.heap.get? b = some o) {h₁ : Heap} (g1 : s.heap.objs.size ≤ h₁.objs.size) (IE : InitEnd h₁ s'.heap x C (some (f, u))) (eg : s'.gens = s.gens) (ed : s'.drawn = s.drawn) (eo : s'.os = s.os)
    (q : ∀ d, H d = none → Q (.ref C) (some d) (upd H d (.xd [(f, v)]))) : MkP X pins σ Q (.ref x) s' := by
  obtain ⟨_, t1, dx, hobj, hdx, dne, hns⟩ := IE
  obtain ⟨hp, g, dr, tk, os⟩ := s
  obtain ⟨hp', g', dr', tk', os'⟩ := s'
  dsimp only at eg ed eo
  subst eg ed eo
  have dbig : hp.objs.size ≤ dx := Nat.le_trans g1 hdx
  obtain ⟨G', g1', g2'⟩ := restrict hp' fun b => decide (b ≠ x)
  have gk : ∀ b, b ≠ x → G'.get? b = hp'.get? b := fun b hb => g1' b (decide_eq_true hb)
  have ge : G'.get? x = none := g2' x (by simp)
  have old : ∀ b o, hp.get? b = some o → G'.get? b = some o := fun b o z => (gk b (Nat.ne_of_lt (Nat.lt_of_lt_of_le (Heap.lt_size z) hx))).trans (k b o z)
  have rel : ∀ y, RelO (List.lookup y [(f, v)]) (if y = f then some u else none) := fun y => by
    by_cases hy : y = f
    · subst hy
      rw [if_pos rfl]
      have e2 : List.lookup y [(y, v)] = some v := by simp [List.lookup]
      rw [e2]
      exact ru
    · have e : (y == f) = false := by simpa using hy
      rw [if_neg hy]
      simp [List.lookup, e, RelO]
  have ob : ObjOk X.prog X.w (upd H dx (.xd [(f, v)])) G' dx (.xd [(f, v)]) := ⟨_, hns.at (fun o z => (gk dx dne).trans z), rel⟩
  have J : Inv X pins σ (upd H dx (.xd [(f, v)])) ⟨G', g', dr', tk', os'⟩ := I.laid (t' := tk') old dbig ob
  refine ⟨x, _, _, ⟨G', g', dr', tk', os'⟩, _, .ref C, some dx, rfl, J, fun b o z => ?_, ge, hobj, ⟨rfl, rfl⟩, rfl, rfl, ?_, rfl, I.bare, raises_own T.exC T.tyC, q dx (I.hok.fresh dbig)⟩
  · by_cases hb : b = x
    · have z' : G'.get? b = some o := z
      rw [hb, ge] at z'
      cases z'
    · exact (gk b hb).symm.trans z
  · rw [upd_ne (Ne.symm dne)]
    exact I.hok.fresh hx
theorem err_mkp0 {pins : List (Addr × Obj)} {σ : L2.St} {H : Hp} {s s' : Shared} {x : Addr} {Q : XK} (T : ErrK X.K C fI ar fb sc qual file) (I : Inv X pins σ H s) (hx : s.heap.objs.size ≤ x)
    (k : ∀ b o, s.heap.get? b = some o → s'.heap.get? b = some o) {h₁ : Heap} (IE : InitEnd h₁ s'.heap x C none) (eg : s'.gens = s.gens) (eo : s'.os = s.os)
    (q : Q (.ref C) none H) : MkP X pins σ Q (.ref x) s' := by
  obtain ⟨_, t1, hobj⟩ := IE
  have ge : s.heap.get? x = none := Heap.get?_none_of_le hx
  exact ⟨x, _, _, s, _, .ref C, none, rfl, I, k, ge, hobj, ⟨rfl, rfl⟩, rfl, rfl, I.hok.fresh hx, eo, by rw [eg]; exact I.bare, raises_own T.exC T.tyC, q⟩
/-- how the class is called, by its one argument | by none: what the facts of one class give -/
def Calls1 (prog : Program) (w : World) (K : Frag) (mg : Str → Option Value) (C fI : Addr) (f : Str) : Prop :=
  ∀ (mb : Str → Option Value) (A : Around) (s : Shared) (x t0 : Addr) (u : Value) (R : Result → Shared → Prop), K.In s.heap → s.heap.NoLimit → s.heap.Ns mainGlobals mg → s.heap.Ns builtinsNs mb → mb "super" = some (.type "super") →
    s.heap.get? x = some (PySem.HandSPX.excO C t0) → K.lookup x = none → A.depth < recursionLimit →
    (∀ s', InitEnd s.heap s'.heap x C (some (f, u)) → s'.gens = s.gens → s'.drawn = s.drawn → s'.os = s.os → R (.ok (.ret .none)) s') → codeAny (model prog w) A (.call (.ref fI) ⟨[.ref x, u], []⟩) R s
def Calls0 (prog : Program) (w : World) (K : Frag) (mg : Str → Option Value) (C fI : Addr) : Prop :=
  ∀ (mb : Str → Option Value) (A : Around) (s : Shared) (x t0 : Addr) (R : Result → Shared → Prop), K.In s.heap → s.heap.NoLimit → s.heap.Ns mainGlobals mg → s.heap.Ns builtinsNs mb → mb "super" = some (.type "super") →
    s.heap.get? x = some (PySem.HandSPX.excO C t0) → A.depth < recursionLimit →
    (∀ s', InitEnd s.heap s'.heap x C none → s'.gens = s.gens → s'.drawn = s.drawn → s'.os = s.os → R (.ok (.ret .none)) s') → codeAny (model prog w) A (.call (.ref fI) ⟨[.ref x], []⟩) R s
def tMkErr (C : Addr) (f : Str) (ta : TA) : L2.St → Hp → XK → Prop := fun σ H Q => ta σ H fun vs H1 => ∃ v, vs = [v] ∧ ∀ d, H1 d = none → Q (.ref C) (some d) (upd H1 d (.xd [(f, v)]))
/-- xn(e) -/
theorem pmk_err1 {f : Str} {a : Expr} {ta : TA} {p pos : Pos} {k : Nat} (T : ErrK X.K C fI ar fb sc qual file) (R1 : Calls1 X.prog X.w X.K X.mg C fI f) (hm : X.mg xn = some (.ref C)) (hr : Room k X.A) (ha : PA X [a] ta) (hg : Gl X xn := by rfl)
    (hdb : (xn == ("__debug__" : Str)) = false := by decide) (he : starEach (a :: []) X.env = (false, eval a X.env) :: starEach [] X.env := by rfl) (hpl : (backTo pos (starEach [] X.env)).any (·.1) = false := by rfl) :
    PMk X (.Call (.Name xn p) [a] [] pos) (tMkErr C f ta) := by
  intro pins s σ H Q I h
  refine wpAny_Call_Name_kw (ld_glob I hg hm ?_ hdb)
  refine PySem.W.callWith_K (h₀ := X.base) I.ok.mod.kin T.kC (thn (ha.run pos pins s σ H _ I h) fun us s1 ⟨vs, H1, I1, r1, v, ev, q1⟩ => ⟨I1.kIn, ?_⟩) he hpl
  subst ev
  cases r1 with
  | @cons _ u _ us' rv rn =>
    cases rn
    show wpAny _ _ (call (.ref C) [u]) _ _ _
    obtain ⟨mb, hB, hb⟩ := I1.mod.blt
    refine wpAny_call (err_made (fv := some (f, u)) T I1.kIn (show 1 ≤ 1000 by decide) (fun A' s₁ x t0 R' hA k1 hx hnx hR => ?_) fun s' x hx k ⟨h₁, g1, _, IE⟩ eg ed eo => err_mkp T I1 rv hx k g1 IE eg ed eo q1)
    refine R1 mb A' s₁ x t0 u R' (I1.kIn.keeps k1) (I1.nolimit.keeps k1) ((I1.mod.glob.keeps I1.bk).keeps k1) ((hB.keeps I1.bk).keeps k1) ((hb "super" (by decide)).trans (by decide +kernel)) hx hnx ?_ hR
    have := hr.dp
    omega
/-- xn() -/
theorem pmk_err0 {p pos : Pos} {k : Nat} (T : ErrK X.K C fI ar fb sc qual file) (R0 : Calls0 X.prog X.w X.K X.mg C fI) (hm : X.mg xn = some (.ref C)) (hr : Room k X.A) (hg : Gl X xn := by rfl) (hdb : (xn == ("__debug__" : Str)) = false := by decide) :
    PMk X (.Call (.Name xn p) [] [] pos) (fun _ H Q => Q (.ref C) none H) := by
  intro pins s σ H Q I h
  refine wpAny_Call_Name_kw (ld_glob I hg hm ?_ hdb)
  refine PySem.W.callWith_K0 I.kIn T.kC ?_
  show wpAny _ _ (call (.ref C) []) _ _ _
  obtain ⟨mb, hB, hb⟩ := I.mod.blt
  refine wpAny_call (err_made (fv := none) T I.kIn (show 0 ≤ 1000 by decide) (fun A' s₁ x t0 R' hA k1 hx hnx hR => ?_) fun s' x hx k ⟨h₁, g1, _, IE⟩ eg ed eo => err_mkp0 T I hx k IE eg eo h)
  refine R0 mb A' s₁ x t0 R' (I.kIn.keeps k1) (I.nolimit.keeps k1) ((I.mod.glob.keeps I.bk).keeps k1) ((hB.keeps I.bk).keeps k1) ((hb "super" (by decide)).trans (by decide +kernel)) hx ?_ hR
  have := hr.dp
  omega
end
end K63
set_option Elab.async false
set_option linter.all false
set_option maxRecDepth 100000
set_option maxHeartbeats 4000000
namespace K63
open PySem PySem.Spec PyProof.Rows L2
/-! ### several clauses «except x as n», one behind the other; slot i is n's -/
abbrev Ts := Addr → Value → Option Addr → TS
/-- behind a suite the name is gone -/
def gone (i : Nat) (D : Ends) : Ends := { nx := fun σ H => D.nx (σ.set i none) H, rt := D.rt, bk := fun σ H => D.bk (σ.set i none) H, ct := fun σ H => D.ct (σ.set i none) H }
def wEach (K : PySem.W.Frag) (i : Nat) (D : Ends) : List (Value × Ts) → WX
  | [] => fun _ _ _ _ => False
  | (c, ts) :: r => fun cls d σ H => ∃ b, PySem.W.exmOne K cls c = some b ∧ (b = true → ∀ a, H a = none → ts a cls d (gone i D) (σ.set i (some (.ref a))) H) ∧ (b = false → wEach K i D r cls d σ H)
inductive Clauses (X : Cx) (n : Str) : List ExceptHandler → List (Value × Ts) → Prop
  | nil : Clauses X n [] []
  | cons {x : Str} {c : Value} {ts : Ts} {b₀ : Stmt} {suite : List Stmt} {np pos' : Pos} {hds : List ExceptHandler} {l : List (Value × Ts)} (hc : Names X x c)
      (hsu : ∀ (a : Addr) (oe : Obj) (cls : Value) (d : Option Addr) (pn : List (Addr × Obj)), Zc cls d oe → (∃ vs, oe.data = .fields vs) → PSs (X.suite a ((a, oe) :: pn)) (b₀ :: suite) (ts a cls d)) (r : Clauses X n hds l) :
      Clauses X n (.ExceptHandler (some (.Name x np)) (some n) (b₀ :: suite) pos' :: hds) ((c, ts) :: l)
section
variable {X : Cx} {n : Str} {i : Nat}
/-- the clauses, asked in turn with the error a of the class cls flying over the ground B -/
theorem clauses_go (hN : X.N.Nodup) (hi : X.N[i]? = some n) (hl : X.env.kindOf n = some .local) {pins : List (Addr × Obj)} {D : Ends} {a : Addr} {cls : Value} {d : Option Addr} {B : Heap} {σ : L2.St} {H : Hp} {s1 : Shared}
    (ok : X.Ok) (fl : HandSPX.FlyingZ B (X.env :: X.outer) a (Zc cls d) s1.heap) (na : H a = none) (nL : a ≠ X.env.locals) (nF : a ∉ X.fs)
    (land : ∀ h', HandSPX.FlyingZ B (X.env :: X.outer) a (Zc cls d) h' → s1.heap.UpToSlots h' → Inv X pins σ H { s1 with heap := h' }) :
    ∀ {hds : List ExceptHandler} {l : List (Value × Ts)}, Clauses X n hds l → wEach X.K i D l cls d σ H → wpAny (model X.prog X.w) X.A (handleBy (.ref a) X.env hds) (SP X pins D) X.xe s1 := by
  have suite : ∀ h', HandSPX.FlyingZ B (X.env :: X.outer) a (Zc cls d) h' → s1.heap.UpToSlots h' → ∃ oe, Zc cls d oe ∧ (∃ vs, oe.data = .fields vs) ∧ h'.get? a = some oe ∧ Inv (X.suite a ((a, oe) :: (X.pn ++ pins))) [] σ H { s1 with heap := h' } := fun h' f' u' => by
    obtain ⟨oe, vs, he, hz, hd⟩ := f'.there
    exact ⟨oe, hz, ⟨vs, hd⟩, he, (land h' f' u').suite he hd na nL nF⟩
  obtain ⟨oe, hz, _, he, S⟩ := suite s1.heap fl (Heap.UpToSlots.refl _)
  intro hds l hk
  induction hk with
  | nil => exact fun w => w.elim
  | @cons x c ts b₀ su np pos' hds2 l2 hc hsu r ih =>
    intro w
    obtain ⟨b, hb, yes, no⟩ := w
    refine wpAny_handleBy_cons (codeAny_handlers_test ?_) (by intro q; cases q)
    have LT : PySem.W.Looks (model X.prog X.w) s1.heap (typeOf (.ref a)) cls := fun A Q E s k q => wpAny_typeOf_ref (k _ _ he) (by rw [hz.1]; exact q)
    have LM := PySem.W.exm_one (M := model X.prog X.w) S.kIn LT hb
    have named : ∀ {Q : Value → Shared → Prop} {E : Value → Shared → Prop}, Q c s1 → wpAny (model X.prog X.w) (X.A.mark (some (.ref a))) (eval (.Name x np) X.env) Q E s1 := fun {Q E} q => by
      obtain ⟨hg, hdb, hm | ⟨hm, hv, hnn⟩⟩ := hc
      · exact ld_glob (X := X.suite a ((a, oe) :: (X.pn ++ pins))) S hg hm q hdb
      · exact ld_blt (X := X.suite a ((a, oe) :: (X.pn ++ pins))) S hg hm hv q hnn hdb
    refine named (LM.here ?_)
    cases b with
    | false => exact ih (no rfl)
    | true =>
      refine codeAny_handlers_suite_as (HandSPX.lands_againZ fl fun h4 fl4 up4 => ?_)
      obtain ⟨oe4, hz4, hd4, _, S4⟩ := suite h4 fl4 up4
      refine store_ok (X := X.suite a ((a, oe4) :: (X.pn ++ pins))) (v := .ref a) S4 hN hi (.inl hl) rfl (fun s5 S5 => ?_) (.inr hl)
      have back : ∀ {σ6 : L2.St} {H6 : Hp} {s6 : Shared} {Q : Shared → Prop}, Inv (X.suite a ((a, oe4) :: (X.pn ++ pins))) [] σ6 H6 s6 → (∀ s7, Inv X pins (σ6.set i none) H6 s7 → Q s7) →
          wpAny (model X.prog X.w) X.A (do bindName X.env n .none; unbindBehindTheSuite X.env n pos') (fun _ s7 => Q s7) X.xe s6 := fun S6 hq => gone_ok (S6.unsuite ok) hN hi hl hq
      refine wpAny_mono ((hsu a oe4 cls d (X.pn ++ pins) hz4 hd4).run [] s5 _ H (gone i D) S5 (yes rfl a na)) (fun f s6 hsp => ?_) (fun _ _ z => False.elim z)
      cases f with
      | next => exact let ⟨_, _, S6, q6⟩ := hsp; back S6 fun s7 J7 => ⟨_, _, J7, q6⟩
      | brk => exact let ⟨_, _, S6, q6⟩ := hsp; back S6 fun s7 J7 => ⟨_, _, J7, q6⟩
      | cont => exact let ⟨_, _, S6, q6⟩ := hsp; back S6 fun s7 J7 => ⟨_, _, J7, q6⟩
      | ret u => exact let ⟨_, _, _, S6, r6, q6⟩ := hsp; back S6 fun s7 J7 => ⟨_, _, _, J7, r6, q6⟩
/-- try: body / except x as n: .. / except y as n: .. ; what no clause takes must not come -/
theorem ps_try_each {body : List Stmt} {h₀ : ExceptHandler} {hds : List ExceptHandler} {l : List (Value × Ts)} {pos : Pos} {tb : WX → TS} (hs : X.stack = X.env :: X.outer) (hf : X.env.frame = some X.env.locals)
    (hN : X.N.Nodup) (hi : X.N[i]? = some n) (hl : X.env.kindOf n = some .local)
    (hb : ∀ (W : WX) (pn : List (Addr × Obj)) (xe : Value → Shared → Prop), Takes (X.tr pn xe) W → PassesOwn (model X.prog X.w) X.A X.env xe → PSs (X.tr pn xe) body (tb W))
    (hh : Clauses X n (h₀ :: hds) l) : PS X (.Try body (h₀ :: hds) [] [] pos) (fun D σ H => tb (wEach X.K i D l) D σ H) := by
  refine ⟨fun pins s σ H D I h => wpAny_Try_except ?_⟩
  have ok := I.ok
  have hfr : X.A.frames = some (X.env :: X.outer) := by rw [ok.frames, hs]
  let xe := fun (e : Value) (s₁ : Shared) => wpAny (model X.prog X.w) X.A (noteFrame e X.env) (fun _ s₂ => wpAny (model X.prog X.w) X.A (setFlight e none) (fun _ s₃ => wpAny (model X.prog X.w) X.A (handleBy e X.env (h₀ :: hds)) (SP X pins D) X.xe s₃) X.xe s₂) X.xe s₁
  have tk : Takes (X.tr (X.pn ++ pins) xe) (wEach X.K i D l) := fun u s' xx => by
    obtain ⟨a, B, sI, pins', σ', H', cls, d, rfl, J', nb, up, sky, na, os, ag, w⟩ := xx
    have J : Inv X pins σ' H' sI := J'.ofTry ok
    have sky' : Sky B (X.env :: X.outer) a (Zc cls d) X.env.locals s'.heap := by rw [← hs]; exact sky
    show wpAny (model X.prog X.w) X.A (noteFrame (.ref a) X.env) _ _ _
    refine Sky.land Zc.steady hfr hf sky' fun h3 fl3 up3 => ?_
    obtain ⟨oe3, vs3, he3, hz3, hd3⟩ := fl3.there
    have nfr : a ∉ frs (X.env :: X.outer) := fun hm => by
      obtain ⟨_, o', e', hnf⟩ := fl3.2.2.1.mem hm
      rw [he3] at e'
      cases e'
      exact hnf _ hd3
    refine clauses_go (s1 := { s' with heap := h3 }) hN hi hl ok fl3 na (fun z => nfr (List.mem_filterMap.mpr ⟨X.env, List.mem_cons_self, by rw [hf, z]⟩)) (fun hm => ?_) (fun h' f' u' => J.landed nb f'.1 ((up.trans up3).trans u') os ag) hh w
    obtain ⟨e, he, q⟩ := List.mem_filterMap.mp hm
    exact nfr (List.mem_filterMap.mpr ⟨e, List.mem_cons_of_mem _ he, q⟩)
  refine wpAny_mono ((hb (wEach X.K i D l) (X.pn ++ pins) xe tk PassesOwn.looking).run [] s σ H D (I.toTry _) h) (fun f s1 hsp => ?_) (fun e s1 he => he)
  cases f with
  | next => exact let ⟨σ', H', J', q⟩ := hsp; wpAny_execs_nil ⟨σ', H', J'.ofTry ok, q⟩
  | brk => exact let ⟨σ', H', J', q⟩ := hsp; ⟨σ', H', J'.ofTry ok, q⟩
  | cont => exact let ⟨σ', H', J', q⟩ := hsp; ⟨σ', H', J'.ofTry ok, q⟩
  | ret u => exact let ⟨v, σ', H', J', r, q⟩ := hsp; ⟨v, σ', H', J'.ofTry ok, r, q⟩
end
/-! ### isinstance of a caught error whose class lies beneath: yes -/
section
open PySem.W
theorem beneath {K : Frag} {x t c : Value} {P : Heap → Prop} (ty : ∀ (M : Model) (h : Heap), K.In h → P h → Looks M h (typeOf x) t) (hn : (t == c) = false) (e : kitCls K t c = some true) : Answers (fun s => K.In s.heap ∧ P s.heap) x c true := by
  intro dep tk prog w A R s hs
  obtain ⟨h0, g, d, tt, os⟩ := s
  obtain ⟨⟨X, p⟩, hq⟩ := hs
  have LT := ty (model prog w) h0 X p
  obtain ⟨hty, his, hsub⟩ := kit_cls (M := model prog w) X e
  unfold Builtin.«isinstance.nested»
  refine wpAny_bind (LT.at ?_)
  rw [if_neg (by rw [hn]; exact Bool.false_ne_true)]
  refine wpAny_bind (hty.at ?_)
  rw [if_pos (by decide)]
  k_delta "plainIsInstance"
  refine wpAny_bind (wpAny_bind (his.at ?_))
  simp only [Bool.not_true, Bool.false_eq_true, if_false]
  refine wpAny_bind ((LT.andThen hsub).at ?_)
  first
    | exact wpAny_pure (wpAny_pure (hq tt))
    | (simp only [if_true]; first | exact wpAny_pure (wpAny_pure (hq tt)) | exact wpAny_pure (hq tt) | exact wpAny_bind (wpAny_pure (wpAny_pure (hq tt))))
end
def rIsYes (K : PySem.W.Frag) (a : Addr) (cls : Value) : List V → Hp → VK → Prop := fun xs H Q => ∃ S : Addr, xs = [.ref a, .ref S] ∧ (cls == .ref S) = false ∧ PySem.W.kitCls K cls (.ref S) = some true ∧ Q (.bl true) H
theorem cr_isYes {X : Cx} {a : Addr} {oe : Obj} {cls : Value} {d : Option Addr} {pn : List (Addr × Obj)} (hz : Zc cls d oe) : CallR (X.suite a ((a, oe) :: pn)) (.builtin "isinstance") (rIsYes X.K a cls) := by
  intro pins s σ H xs us Q I r h
  obtain ⟨S, rfl, hn, e, q⟩ := h
  cases r with
  | cons rx rr =>
    cases rr with
    | cons rt rr =>
      cases rr
      cases rx
      cases rt
      obtain ⟨hget, _⟩ := I.pin (a, oe) (List.mem_append.mpr (.inl List.mem_cons_self))
      have ty : ∀ (M : Model) (h : Heap), X.K.In h → h.get? a = some oe → PySem.W.Looks M h (typeOf (.ref a)) cls := fun M h _ g A Q E s k q => wpAny_typeOf_ref (k _ _ g) (by rw [hz.1]; exact q)
      exact call_isinstance (S := fun _ R s => (X.K.In s.heap ∧ s.heap.get? a = some oe) ∧ ∀ tk, R (.ok (.ret (.bool true))) { s with toks := tk })
        (fun prog w A R s hs => isinstance_outer (beneath ty hn e 0 _ prog w A R s hs) (by intro z; cases z)) ⟨⟨I.kIn, hget⟩, fun tk => ⟨.bl true, H, I.tok tk, rfl, q⟩⟩
end K63
set_option Elab.async false
set_option linter.all false
set_option maxRecDepth 100000
set_option maxHeartbeats 4000000
namespace K63
open PySem PySem.Spec PyProof.Rows L2
/-! ### defs that are run where no repr is under way -/
def DnG (P : Program) (w : World) (K : PySem.W.Frag) (mg : Str → Option Value) (base : Heap) (CX : CXT) (k : Nat) (x : Str) (ps : List Str) (sp : Sp) : Prop :=
  ∃ (f : Addr) (fd : FuncData), (∀ vs H Q E, sp vs H Q E → vs.length = ps.length) ∧ (∀ (A : Around) (outer : List Env) (s : Shared) (H : Hp) (args : Args) (us : List Value) (vs : List V) (Q : VK) (E : XK), Room k A → A.guards = some [] → Env0 P w K mg base A outer s H →
      BindsTo s fd args (ps.zip us) → Vals vs us → sp vs H Q E → codeAny (model P w) A (.call (.ref f) args) (CR CX outer P w H s Q E) s) ∧
    mg x = some (.ref f) ∧ PySem.W.keepIn K (.ref f) = true ∧ (∀ (s : Shared) (us : List Value), us.length = ps.length → BindsTo s fd ⟨us, []⟩ (ps.zip us))
/-- the def x, its code object at c -/
def AtC (K : PySem.W.Frag) (mg : Str → Option Value) (x : Str) (i : Nat) (c : Addr) : Prop :=
  ∃ (f : Addr) (fd : FuncData), FunD K x x (defArgs (top i)) (defBody (top i)) (defScope (top i)) [] [] f fd ∧ mg x = some (.ref f) ∧ fd.code = .ref c
section
variable {P : Program} {w : World} {K : PySem.W.Frag} {mg : Str → Option Value} {base : Heap}
theorem DnG.mkC {CX : CXT} {x : Str} {i k : Nat} {c : Addr} {N ps : List Str} {sp : Sp} (h : AtC K mg x i c) (S : FnScope N ps (defScope (top i))) (len : ∀ vs H Q E, sp vs H Q E → vs.length = ps.length)
    (hb : ∀ (kV doc pm : Value) (an : Option Addr) (cdv ct : Value) (us : List Value), us.length = ps.length → bindArgs (PySem.W.fnOf x x (defArgs (top i)) (defBody (top i)) (defScope (top i)) .none kV doc pm an cdv ct) ⟨us, []⟩ = pure (ps.zip us))
    (body : ∀ (f : Addr) (A : Around) (outer : List Env) (s : Shared) (H : Hp) (vs : List V) (Q : VK) (E : XK), Room k (A.deeper (envOfC x (defScope (top i)) s.heap.objs.size f (.ref c))) → A.guards = some [] → sp vs H Q E →
      ∃ t, PSs (cxOf CX P w K mg base N x (defScope (top i)) f (.ref c) A outer s H E) (defBody (top i)) t ∧ t { nx := fun _ H' => Q .non H', rt := Q } (L2.start N vs) H) :
    DnG P w K mg base CX (k + 1) x ps sp := by
  obtain ⟨f, fd, F, hm, hc⟩ := h
  have hB := F.bindsA hb
  obtain ⟨oc, od, dV, kV, doc, pm, an, cdv, ct, osl, e, lk, hcd, _, _⟩ := F.ex
  subst e
  obtain rfl : cdv = .ref c := hc
  exact ⟨f, _, len, fun A outer s H args us vs Q E hr hG e0 hbi r hsp => LamX.run_ofS lk hcd S hr e0 hbi r (len _ _ _ _ hsp) fun hr' => body f A outer s H vs Q E hr' hG hsp, hm, F.kp, fun s us hl => hB s us hl⟩
theorem DnG.mk {CX : CXT} {x : Str} {i k : Nat} {N ps : List Str} {sp : Sp} (h : At K mg x i) (S : FnScope N ps (defScope (top i))) (len : ∀ vs H Q E, sp vs H Q E → vs.length = ps.length)
    (hb : ∀ (kV doc pm : Value) (an : Option Addr) (cdv ct : Value) (us : List Value), us.length = ps.length → bindArgs (PySem.W.fnOf x x (defArgs (top i)) (defBody (top i)) (defScope (top i)) .none kV doc pm an cdv ct) ⟨us, []⟩ = pure (ps.zip us))
    (body : ∀ (f : Addr) (cdv : Value) (A : Around) (outer : List Env) (s : Shared) (H : Hp) (vs : List V) (Q : VK) (E : XK), Room k (A.deeper (envOfC x (defScope (top i)) s.heap.objs.size f cdv)) → A.guards = some [] → sp vs H Q E →
      ∃ t, PSs (cxOf CX P w K mg base N x (defScope (top i)) f cdv A outer s H E) (defBody (top i)) t ∧ t { nx := fun _ H' => Q .non H', rt := Q } (L2.start N vs) H) :
    DnG P w K mg base CX (k + 1) x ps sp := by
  obtain ⟨f, fd, F, hm⟩ := h
  have hB := F.bindsA hb
  obtain ⟨oc, od, dV, kV, doc, pm, an, cdv, ct, osl, e, lk, hcd, _, _⟩ := F.ex
  subst e
  exact ⟨f, _, len, fun A outer s H args us vs Q E hr hG e0 hbi r hsp => LamX.run_ofS lk hcd S hr e0 hbi r (len _ _ _ _ hsp) fun hr' => body f cdv A outer s H vs Q E hr' hG hsp, hm, F.kp, fun s us hl => hB s us hl⟩
end
section
variable {X : Cx} {CX : CXT} {k : Nat} {x : Str} {ps : List Str} {sp : Sp} {E : XK} {p pos : Pos} {e : Expr} {es : List Expr} {t : TA}
theorem run_dnG {f : Addr} {fd : FuncData} {pins : List (Addr × Obj)} {σ : L2.St} {H : Hp} {s : Shared} {Q : VK} {us : List Value} {vs : List V} (len : ∀ vs H Q E, sp vs H Q E → vs.length = ps.length)
    (F : ∀ (A : Around) (outer : List Env) (s : Shared) (H : Hp) (args : Args) (us : List Value) (vs : List V) (Q : VK) (E : XK), Room k A → A.guards = some [] → Env0 X.prog X.w X.K X.mg X.base A outer s H → BindsTo s fd args (ps.zip us) → Vals vs us → sp vs H Q E →
      codeAny (model X.prog X.w) A (.call (.ref f) args) (CR CX outer X.prog X.w H s Q E) s)
    (hr : Room k X.A) (hG : X.A.guards = some []) (hb : ∀ (s : Shared) (us : List Value), us.length = ps.length → BindsTo s fd ⟨us, []⟩ (ps.zip us)) (hx : Passes CX X E) (I : Inv X pins σ H s) (r : Vals vs us) (h : sp vs H Q E) :
    wpAny (model X.prog X.w) X.A (call (.ref f) us) (EP X pins σ Q) X.xe s := by
  have hl : us.length = ps.length := by
    rw [← r.length]
    exact len _ _ _ _ h
  refine wpAny_call (codeAny_mono (F X.A X.stack s H ⟨us, []⟩ us vs Q E hr hG I.env0 (hb s us hl) r h) fun z s' hq => ?_)
  cases z with
  | error e => exact hx pins σ H s e s' I hq
  | ok fl =>
    cases fl with
    | ret u => exact I.after hq
    | next => exact False.elim hq
    | brk => exact False.elim hq
    | cont => exact False.elim hq
theorem pe_dnG (D : DnG X.prog X.w X.K X.mg X.base CX k x ps sp) (hr : Room k X.A) (hG : X.A.guards = some []) (hx : Passes CX X E) (ha : PA X (e :: es) t) (hg : Gl X x := by rfl) (hdb : (x == ("__debug__" : Str)) = false := by decide)
    (he : starEach (e :: es) X.env = (false, eval e X.env) :: starEach es X.env := by rfl) (hpl : (backTo pos (starEach es X.env)).any (·.1) = false := by rfl) :
    PE X (.Call (.Name x p) (e :: es) [] pos) (fun σ H Q => t σ H fun vs H1 => sp vs H1 Q E) := by
  obtain ⟨f, fd, len, F, hm, hk, hb⟩ := D
  refine ⟨fun pins s σ H Q I h => wpAny_Call_Name_kw (ld_glob I hg hm ?_ hdb)⟩
  exact PySem.W.callWith_K (h₀ := X.base) I.ok.mod.kin hk (thn (ha.run pos pins s σ H _ I h) fun us s1 ⟨vs, H1, I1, r, q⟩ => ⟨I1.kIn, run_dnG len F hr hG hb hx I1 r q⟩) he hpl
theorem pe_dnG0 (D : DnG X.prog X.w X.K X.mg X.base CX k x ps sp) (hr : Room k X.A) (hG : X.A.guards = some []) (hx : Passes CX X E) (hg : Gl X x := by rfl) (hdb : (x == ("__debug__" : Str)) = false := by decide) :
    PE X (.Call (.Name x p) [] [] pos) (fun σ H Q => sp [] H Q E) := by
  obtain ⟨f, fd, len, F, hm, hk, hb⟩ := D
  exact ⟨fun pins s σ H Q I h => wpAny_Call_Name_kw (ld_glob I hg hm (PySem.W.callWith_K0 I.kIn hk (run_dnG (us := []) len F hr hG hb hx I .nil h)) hdb)⟩
end
/-! ### slots at a raise: as many as the def has -/
theorem takes_len {X : Cx} {W : WX} (tk : Takes X W) : Takes X (fun cls d σ H => σ.length = X.N.length → W cls d σ H) := fun u s' ⟨a, B, sI, pins, σ, H, cls, d, e, I, nb, up, sky, na, os, ag, w⟩ =>
  tk u s' ⟨a, B, sI, pins, σ, H, cls, d, e, I, nb, up, sky, na, os, ag, w I.len⟩
end K63
set_option Elab.async false
set_option linter.all false
set_option maxRecDepth 100000
set_option maxHeartbeats 4000000
namespace K63
open PySem PySem.Spec PyProof.Rows L2

/-! ### the lists of what the head tells -/
def nn (x : Str) (i : Nat) : Str × Nat := (x, i)
def defs : List (Str × Nat) := [nn "is_from" 13, nn "is_number" 14, nn "is_step" 15, nn "need_step" 16, nn "need_row" 17, nn "number_of" 18, nn "reduced" 19, nn "as_poly" 20, nn "times_so" 21, nn "put_in" 22, nn "value_of" 23, nn "check_degree" 26, nn "whole_of" 27, nn "is_word" 30, nn "need_word" 31, nn "degree_of_word" 32, nn "word_poly" 33, nn "words_alike" 34, nn "parting_number" 35, nn "_law_mixed" 37, nn "_law_begin" 38, nn "_law_draw" 39, nn "_law_number" 40, nn "_law_step" 41, nn "_law_row" 42, nn "_law_divisor" 43, nn "_law_frac" 44, nn "_law_add" 45, nn "_law_mul" 46, nn "_law_trim" 47, nn "_law_sum" 48, nn "_law_product" 49, nn "_law_within" 50, nn "_law_whole" 51, nn "_law_again" 52, nn "_law_value" 53, nn "_law_letters" 54, nn "_law_word_step" 55, nn "_law_heard" 56, nn "_law_like" 57, nn "_law_some_steps" 58, nn "_law_parted" 59, nn "_law_right" 60, nn "_law_by_hand" 61, nn "law" 62]
def blts : List Str := (["len", "range", "enumerate", "isinstance", "max", "list", "tuple", "int", "bool", "reversed", "repr", "super", "ValueError"] : List Str)
/-- own errors: name, field -/
def errs1 : List (Str × Str) := [("BadNumber", "value"), ("BadStep", "value"), ("BadRow", "place"), ("BadParameter", "value"), ("TooGreat", "most")]
def errs : List Str := ["BadNumber", "BadStep", "BadRow", "BadParameter", "NoRow", "TooGreat"]
end K63
set_option Elab.async false
set_option linter.all false
set_option maxRecDepth 100000
set_option maxHeartbeats 4000000
namespace K63
open PySem PySem.Spec PyProof.Rows L2
/-! ### what the top has left -/
structure Txt (K : PySem.W.Frag) (mg : Str → Option Value) : Prop where
  defs : ∀ p ∈ defs, At K mg p.1 p.2
  blts : ∀ x ∈ blts, mg x = none
  gcd : mg "gcd" = some (.builtin "math.gcd")
  part : ∃ t, mg "MOST_PART" = some (.int (10 ^ 60) t)
  degree : ∃ t, mg "MOST_DEGREE" = some (.int 64 t)
  row : ∃ t, mg "MOST_ROW" = some (.int 8 t)
  whole : ∃ t, mg "MOST_WHOLE" = some (.int 256 t)
  letters : ∃ t, mg "MOST_LETTERS" = some (.int 8 t)
section
variable {K : PySem.W.Frag} {mg : Str → Option Value}
theorem Txt.d (T : Txt K mg) (i : Nat) {p : Str × Nat} (h : K63.defs[i]? = some p := by rfl) : At K mg p.1 p.2 := T.defs p (List.mem_of_getElem? h)
theorem Txt.b (T : Txt K mg) (i : Nat) {x : Str} (h : K63.blts[i]? = some x := by rfl) : mg x = none := T.blts x (List.mem_of_getElem? h)
end
/-! ### tuples in the heap -/
theorem NumV.num {H : Hp} {v : V} {q : Rat} (h : NumV H v q) : ∃ p : Addr, v = .ref p ∧ H p = some (.tup [.int q.num, .int (q.den : Int)]) := h
theorem NumV.of {H : Hp} {p : Addr} {a b : Int} {q : Rat} (h : H p = some (.tup [.int a, .int b])) (ha : q.num = a) (hb : (q.den : Int) = b) : NumV H (.ref p) q := ⟨p, rfl, by rw [ha, hb]; exact h⟩
theorem at0 {x : V} {l : List V} : atI (x :: l) 0 = some x := atI_nat (xs := x :: l) (j := 0) rfl
theorem at1 {x y : V} {l : List V} : atI (x :: y :: l) 1 = some y := atI_nat (xs := x :: y :: l) (j := 1) rfl
theorem Same.upd {H H' : Hp} {p : Addr} {o : HO} (s : Same H H') (h : H p = none) : Same H (upd H' p o) := fun b u e => by
  rw [upd_ne (ne_of_none e h)]
  exact s b u e
end K63
set_option Elab.async false
set_option linter.all false
set_option maxRecDepth 100000
set_option maxHeartbeats 4000000
namespace K63
open PySem PySem.Spec PyProof.Rows L2
/-! ### a fraction in lowest terms -/
theorem quo_num (a b : Int) (hb : 0 < b) : ((a : Rat) / (b : Rat)).num = a / ((Nat.gcd a.natAbs b.natAbs : Nat) : Int) := by
  rw [← Rat.divInt_eq_div, Rat.num_divInt, Int.sign_eq_one_of_pos hb, Int.one_mul, Int.gcd_comm]
  rfl
theorem quo_den (a b : Int) (hb : 0 < b) : ((((a : Rat) / (b : Rat)).den : Nat) : Int) = b / ((Nat.gcd a.natAbs b.natAbs : Nat) : Int) := by
  rw [← Rat.divInt_eq_div, Rat.den_divInt, if_neg (by omega), Int.gcd_comm]
  show ((b.natAbs / (Nat.gcd a.natAbs b.natAbs) : Nat) : Int) = _
  rw [Int.natCast_ediv, Int.natAbs_of_nonneg (by omega)]
theorem gcd_div (a b : Int) (hb : 0 < b) {n : Nat} (h : b.natAbs < 2 ^ n) (h0 : 0 < n) (h9 : n ≤ 9000) (c : Int) : CDivW c ((Nat.gcd a.natAbs b.natAbs : Nat) : Int) := by
  have hp : 0 < Nat.gcd a.natAbs b.natAbs := Nat.gcd_pos_of_pos_right _ (by omega)
  have hl : Nat.gcd a.natAbs b.natAbs ≤ b.natAbs := Nat.gcd_le_right _ (by omega)
  exact wide_div (by omega) (b := n) (by rw [Int.natAbs_natCast]; omega) h0 h9
def spNumberOf : Sp := fun vs H Q _ => ∃ a b : Int, vs = [.int a, .int b] ∧ 0 < b ∧ b.natAbs < 2 ^ 9000 ∧ ∀ H' v, Same H H' → NumV H' v ((a : Rat) / (b : Rat)) → Q v H'
section
variable {P : Program} {w : World} {K : PySem.W.Frag} {mg : Str → Option Value} {base : Heap}
theorem sc_number_of : FnScope ["above", "below", "whole"] ["above", "below"] (defScope (top 18)) := ⟨rfl, rfl, rfl, by decide +kernel, rfl, by decide +kernel, by decide +kernel⟩
theorem ok_number_of (T : Txt K mg) : Dn P w K mg base CX0 1 "number_of" ["above", "below"] spNumberOf := by
  refine Dn.mk0 (T.d 5) sc_number_of (fun vs H Q E h => ?_) (fun _ _ _ _ _ _ us hl => match us, hl with | [_, _], _ => rfl) (fun f cdv A outer s H vs Q E hr h => ?_)
  · obtain ⟨a, b, rfl, _⟩ := h
    rfl
  · obtain ⟨a, b, rfl, hb, hs, k⟩ := h
    have nd := sc_number_of.nd
    refine ⟨_, pss_cons (ps_set (i := 2) nd rfl (Or.inl rfl) (pe_callBfun cr_gcd rfl T.gcd (pa_cons (pv 0) (pa_cons (pv 1) pa_nil))))
      (pss_cons (ps_if (pt_cmpR op_lt (pv 1) pe_int (nomark _)) (pss_one (ps_set (i := 2) nd rfl (Or.inl rfl) (pe_un un_neg (pv 2)))) pss_nil)
      (pss_one (ps_ret (pe_tup (pa_cons (pe_op op_fdivW (pv 0) (pv 2)) (pa_cons (pe_op op_fdivW (pv 1) (pv 2)) pa_nil)))))), ?_⟩
    refine ⟨_, rfl, _, rfl, a, b, rfl, _, rfl, _, _, rfl, rfl, _, rfl, ?_⟩
    refine ifF (decide_eq_false (by omega)) ?_
    refine ⟨_, rfl, _, rfl, _, _, rfl, rfl, gcd_div a b hb hs (by decide) (by decide) _, _, rfl, _, rfl, _, _, rfl, rfl, gcd_div a b hb hs (by decide) (by decide) _, (by show 2 ≤ sizeLine; decide), fun p hp => ?_⟩
    refine k _ _ (same_new hp) ⟨p, rfl, ?_⟩
    rw [upd_same, quo_num a b hb, quo_den a b hb]
end
end K63
set_option Elab.async false
set_option linter.all false
set_option maxRecDepth 100000
set_option maxHeartbeats 4000000
namespace K63
open PySem PySem.Spec PyProof.Rows L2
/-! ### the law's own fractions -/
def spDivisor : Sp := fun vs H Q _ => ∃ a b : Int, vs = [.int a, .int b] ∧ Q (.int ((Nat.gcd a.natAbs b.natAbs : Nat) : Int)) H
def spFrac : Sp := fun vs H Q _ => ∃ a b : Int, vs = [.int a, .int b] ∧ 0 < b ∧ b.natAbs < 2 ^ 9000 ∧ ∀ H' v, Same H H' → NumV H' v ((a : Rat) / (b : Rat)) → Q v H'
def spAdd : Sp := fun vs H Q _ => ∃ (x y : V) (a b : Rat), vs = [x, y] ∧ NumV H x a ∧ NumV H y b ∧ Sz a ∧ Sz b ∧ ∀ H' v, Same H H' → NumV H' v (a + b) → Q v H'
def spMul : Sp := fun vs H Q _ => ∃ (x y : V) (a b : Rat), vs = [x, y] ∧ NumV H x a ∧ NumV H y b ∧ Sz a ∧ Sz b ∧ ∀ H' v, Same H H' → NumV H' v (a * b) → Q v H'
section
variable {P : Program} {w : World} {K : PySem.W.Frag} {mg : Str → Option Value} {base : Heap}
theorem max_abs (a : Int) : (if -a > a then -a else a) = ((a.natAbs : Nat) : Int) := by
  split <;> omega
theorem sc_divisor : FnScope ["_law_one_so", "_law_other_so"] ["_law_one_so", "_law_other_so"] (defScope (top 43)) := ⟨rfl, rfl, rfl, by decide +kernel, rfl, by decide +kernel, by decide +kernel⟩
theorem ok_divisor (T : Txt K mg) : Dn P w K mg base CX0 1 "_law_divisor" ["_law_one_so", "_law_other_so"] spDivisor := by
  refine Dn.mk0 (T.d 25) sc_divisor (fun vs H Q E h => ?_) (fun _ _ _ _ _ _ us hl => match us, hl with | [_, _], _ => rfl) (fun f cdv A outer s H vs Q E hr h => ?_)
  · obtain ⟨a, b, rfl, _⟩ := h
    rfl
  · obtain ⟨a, b, rfl, k⟩ := h
    have nd := sc_divisor.nd
    refine ⟨_, pss_cons (ps_par (i := 0) (j := 1) rfl nd rfl rfl (by decide) rfl rfl (pa_cons (pe_callB (call_max2 rfl) (by rfl) (T.b 4) (by decide +kernel) (pa_cons (pv 0) (pa_cons (pe_un un_neg (pv 0)) pa_nil))) (pa_cons (pe_callB (call_max2 rfl) (by rfl) (T.b 4) (by decide +kernel) (pa_cons (pv 1) (pa_cons (pe_un un_neg (pv 1)) pa_nil))) pa_nil)) (by rfl))
      (pss_cons (ps_while PassesOwn.never (pt_cmpR op_gt (pv 1) pe_int (nomark _)) (pss_one (ps_par (i := 0) (j := 1) rfl nd rfl rfl (by decide) rfl rfl (pa_cons (pv 1) (pa_cons (pe_op op_modN (pv 0) (pv 1)) pa_nil)) (by rfl))))
      (pss_one (ps_ret (pv 0)))), ?_⟩
    refine ⟨_, rfl, _, rfl, a, rfl, a, -a, rfl, _, rfl, _, rfl, b, rfl, b, -b, rfl, _, _, rfl, ?_⟩
    rw [max_abs, max_abs]
    refine while_by (fun σ H' => H' = H ∧ ∃ x y : Nat, σ = [some (.int (x : Int)), some (.int (y : Int))] ∧ Nat.gcd x y = Nat.gcd a.natAbs b.natAbs) (fun σ _ => match σ with
      | [_, some (.int y)] => y.toNat
      | _ => 0) ⟨rfl, a.natAbs, b.natAbs, rfl, rfl⟩ (fun σ H' h => ?_) (fun σ H' R R' hR q => ?_)
    · obtain ⟨rfl, x, y, rfl, hg⟩ := h
      refine ⟨_, rfl, _, _, rfl, rfl, _, rfl, ?_⟩
      by_cases hy : 0 < y
      · refine ifT (decide_eq_true (by omega)) ?_
        have em : (Int.fmod (x : Int) (y : Int)) = ((x % y : Nat) : Int) := by rw [Int.fmod_eq_emod_of_nonneg _ (by omega)]; rfl
        refine ⟨_, rfl, _, rfl, _, rfl, _, _, rfl, rfl, by omega, _, _, rfl, ⟨rfl, y, x % y, ?_, ?_⟩, ?_⟩
        · show [some (V.int (y : Int)), some (V.int (Int.fmod (x : Int) (y : Int)))] = _
          rw [em]
        · rw [← hg, Nat.gcd_comm x y, Nat.gcd_rec y x, Nat.gcd_comm]
        · show (Int.fmod (x : Int) (y : Int)).toNat < ((y : Nat) : Int).toNat
          rw [em]
          have := Nat.mod_lt x hy
          omega
      · refine ifF (decide_eq_false (by omega)) ?_
        have h0 : y = 0 := by omega
        subst h0
        rw [Nat.gcd_zero_right] at hg
        exact ⟨_, rfl, by rw [hg]; exact k⟩
    · obtain ⟨v, e, i, j, e1, e2, z, e3, q⟩ := q
      exact ⟨v, e, i, j, e1, e2, z, e3, hR _ _ q⟩
theorem sc_frac : FnScope ["_law_above", "_law_below", "_law_shared"] ["_law_above", "_law_below"] (defScope (top 44)) := ⟨rfl, rfl, rfl, by decide +kernel, rfl, by decide +kernel, by decide +kernel⟩
theorem ok_frac (T : Txt K mg) : Dn P w K mg base CX0 2 "_law_frac" ["_law_above", "_law_below"] spFrac := by
  refine Dn.mk0 (T.d 26) sc_frac (fun vs H Q E h => ?_) (fun _ _ _ _ _ _ us hl => match us, hl with | [_, _], _ => rfl) (fun f cdv A outer s H vs Q E hr h => ?_)
  · obtain ⟨a, b, rfl, _⟩ := h
    rfl
  · obtain ⟨a, b, rfl, hb, hs, k⟩ := h
    have nd := sc_frac.nd
    refine ⟨_, pss_cons (ps_set (i := 2) nd rfl (Or.inl rfl) (pe_dn (ok_divisor T) hr pass0 (pa_cons (pv 0) (pa_cons (pv 1) pa_nil))))
      (pss_cons (ps_if (pt_cmpR op_lt (pv 1) pe_int (nomark _)) (pss_one (ps_set (i := 2) nd rfl (Or.inl rfl) (pe_un un_neg (pv 2)))) pss_nil)
      (pss_one (ps_ret (pe_tup (pa_cons (pe_op op_fdivW (pv 0) (pv 2)) (pa_cons (pe_op op_fdivW (pv 1) (pv 2)) pa_nil)))))), ?_⟩
    refine ⟨_, rfl, _, rfl, a, b, rfl, _, rfl, _, _, rfl, rfl, _, rfl, ?_⟩
    refine ifF (decide_eq_false (by omega)) ?_
    refine ⟨_, rfl, _, rfl, _, _, rfl, rfl, gcd_div a b hb hs (by decide) (by decide) _, _, rfl, _, rfl, _, _, rfl, rfl, gcd_div a b hb hs (by decide) (by decide) _, (by show 2 ≤ sizeLine; decide), fun p hp => ?_⟩
    exact k _ _ (same_new hp) (NumV.of upd_same (quo_num a b hb) (quo_den a b hb))
theorem sz_mul {a b : Int} {m n : Nat} (ha : a.natAbs < 2 ^ m) (hb : b.natAbs < 2 ^ n) (h0 : 0 < m) (h1 : 0 < n) (h : m + n ≤ 1000000) : CMulW a b := wide_mul ha hb h0 h1 h
theorem rat_add (a b : Rat) : ((a.num * (b.den : Int) + b.num * (a.den : Int) : Int) : Rat) / (((a.den : Int) * (b.den : Int) : Int) : Rat) = a + b := by
  have ha := num_eq a
  have hb := num_eq b
  have da : ((a.den : Int) : Rat) ≠ 0 := ir_ne (by have := a.den_pos; omega)
  have db : ((b.den : Int) : Rat) ≠ 0 := ir_ne (by have := b.den_pos; omega)
  have ea : ((a.den : Int) : Rat) = (a.den : Rat) := rfl
  have eb : ((b.den : Int) : Rat) = (b.den : Rat) := rfl
  rw [Rat.intCast_add, Rat.intCast_mul, Rat.intCast_mul, Rat.intCast_mul, ha, hb, ea, eb] at *
  have hn : (a.den : Rat) * (b.den : Rat) ≠ 0 := fun z => (Rat.mul_eq_zero.mp z).elim da db
  have e : a * (a.den : Rat) * (b.den : Rat) + b * (b.den : Rat) * (a.den : Rat) = (a + b) * ((a.den : Rat) * (b.den : Rat)) := by grind
  rw [e]
  exact Rat.mul_div_cancel hn
theorem rat_mul (a b : Rat) : ((a.num * b.num : Int) : Rat) / (((a.den : Int) * (b.den : Int) : Int) : Rat) = a * b := by
  have ha := num_eq a
  have hb := num_eq b
  have da : ((a.den : Int) : Rat) ≠ 0 := ir_ne (by have := a.den_pos; omega)
  have db : ((b.den : Int) : Rat) ≠ 0 := ir_ne (by have := b.den_pos; omega)
  have ea : ((a.den : Int) : Rat) = (a.den : Rat) := rfl
  have eb : ((b.den : Int) : Rat) = (b.den : Rat) := rfl
  rw [Rat.intCast_mul, Rat.intCast_mul, ha, hb, ea, eb] at *
  have hn : (a.den : Rat) * (b.den : Rat) ≠ 0 := fun z => (Rat.mul_eq_zero.mp z).elim da db
  have e : a * (a.den : Rat) * (b * (b.den : Rat)) = (a * b) * ((a.den : Rat) * (b.den : Rat)) := by grind
  rw [e]
  exact Rat.mul_div_cancel hn
theorem den_sz {a b : Rat} (ha : Sz a) (hb : Sz b) : 0 < (a.den : Int) * (b.den : Int) ∧ ((a.den : Int) * (b.den : Int)).natAbs < 2 ^ 9000 := by
  refine ⟨Int.mul_pos (by have := a.den_pos; omega) (by have := b.den_pos; omega), ?_⟩
  have := wide_lt (i := (a.den : Int)) (j := (b.den : Int)) (a := 4000) (b := 4000) ha.2 hb.2
  have h2 : (2 : Nat) ^ (4000 + 4000) < 2 ^ 9000 := Nat.pow_lt_pow_right (by decide) (by decide)
  omega
theorem sc_add : FnScope ["_law_one_so", "_law_other_so"] ["_law_one_so", "_law_other_so"] (defScope (top 45)) := ⟨rfl, rfl, rfl, by decide +kernel, rfl, by decide +kernel, by decide +kernel⟩
theorem ok_add (T : Txt K mg) : Dn P w K mg base CX0 3 "_law_add" ["_law_one_so", "_law_other_so"] spAdd := by
  refine Dn.mk0 (T.d 27) sc_add (fun vs H Q E h => ?_) (fun _ _ _ _ _ _ us hl => match us, hl with | [_, _], _ => rfl) (fun f cdv A outer s H vs Q E hr h => ?_)
  · obtain ⟨x, y, a, b, rfl, _⟩ := h
    rfl
  · obtain ⟨x, y, a, b, rfl, ⟨p, rfl, hp⟩, ⟨q, rfl, hq⟩, sa, sb, k⟩ := h
    have h1 : SqT K H p _ := SqT.of hp
    have h2 : SqT K H q _ := SqT.of hq
    refine ⟨_, pss_one (ps_ret (pe_dn (ok_frac T) hr pass0 (pa_cons (pe_op op_add (pe_op op_mulW (pe_ix ix_tup (pv 0) pe_int (fun _ _ => rfl)) (pe_ix ix_tup (pv 1) pe_int (fun _ _ => rfl))) (pe_op op_mulW (pe_ix ix_tup (pv 1) pe_int (fun _ _ => rfl)) (pe_ix ix_tup (pv 0) pe_int (fun _ _ => rfl))))
      (pa_cons (pe_op op_mulW (pe_ix ix_tup (pv 0) pe_int (fun _ _ => rfl)) (pe_ix ix_tup (pv 1) pe_int (fun _ _ => rfl))) pa_nil)))), ?_⟩
    have d1 : (a.den : Int).natAbs < 2 ^ 4000 := sa.2
    have d2 : (b.den : Int).natAbs < 2 ^ 4000 := sb.2
    obtain ⟨z1, z2⟩ := den_sz sa sb
    refine ⟨_, rfl, p, _, _, _, rfl, rfl, h1, at0, _, rfl, q, _, _, _, rfl, rfl, h2, at1, _, _, rfl, rfl, sz_mul sa.1 d2 (by decide) (by decide) (by decide), _, rfl, q, _, _, _, rfl, rfl, h2, at0, _, rfl, p, _, _, _, rfl, rfl, h1, at1, _, _, rfl, rfl, sz_mul sb.1 d1 (by decide) (by decide) (by decide), _, _, rfl, rfl,
      _, rfl, p, _, _, _, rfl, rfl, h1, at1, _, rfl, q, _, _, _, rfl, rfl, h2, at1, _, _, rfl, rfl, sz_mul d1 d2 (by decide) (by decide) (by decide), _, _, rfl, z1, z2, fun H' v s h => k H' v s ?_⟩
    rw [← rat_add]
    exact h
theorem sc_mul : FnScope ["_law_one_so", "_law_other_so"] ["_law_one_so", "_law_other_so"] (defScope (top 46)) := ⟨rfl, rfl, rfl, by decide +kernel, rfl, by decide +kernel, by decide +kernel⟩
theorem ok_mul (T : Txt K mg) : Dn P w K mg base CX0 3 "_law_mul" ["_law_one_so", "_law_other_so"] spMul := by
  refine Dn.mk0 (T.d 28) sc_mul (fun vs H Q E h => ?_) (fun _ _ _ _ _ _ us hl => match us, hl with | [_, _], _ => rfl) (fun f cdv A outer s H vs Q E hr h => ?_)
  · obtain ⟨x, y, a, b, rfl, _⟩ := h
    rfl
  · obtain ⟨x, y, a, b, rfl, ⟨p, rfl, hp⟩, ⟨q, rfl, hq⟩, sa, sb, k⟩ := h
    have h1 : SqT K H p _ := SqT.of hp
    have h2 : SqT K H q _ := SqT.of hq
    refine ⟨_, pss_one (ps_ret (pe_dn (ok_frac T) hr pass0 (pa_cons (pe_op op_mulW (pe_ix ix_tup (pv 0) pe_int (fun _ _ => rfl)) (pe_ix ix_tup (pv 1) pe_int (fun _ _ => rfl)))
      (pa_cons (pe_op op_mulW (pe_ix ix_tup (pv 0) pe_int (fun _ _ => rfl)) (pe_ix ix_tup (pv 1) pe_int (fun _ _ => rfl))) pa_nil)))), ?_⟩
    obtain ⟨z1, z2⟩ := den_sz sa sb
    refine ⟨_, rfl, p, _, _, _, rfl, rfl, h1, at0, _, rfl, q, _, _, _, rfl, rfl, h2, at0, _, _, rfl, rfl, sz_mul sa.1 sb.1 (by decide) (by decide) (by decide),
      _, rfl, p, _, _, _, rfl, rfl, h1, at1, _, rfl, q, _, _, _, rfl, rfl, h2, at1, _, _, rfl, rfl, sz_mul (show (a.den : Int).natAbs < 2 ^ 4000 from sa.2) (show (b.den : Int).natAbs < 2 ^ 4000 from sb.2) (by decide) (by decide) (by decide), _, _, rfl, z1, z2, fun H' v s h => k H' v s ?_⟩
    rw [← rat_mul]
    exact h
end
end K63
set_option Elab.async false
set_option linter.all false
set_option maxRecDepth 100000
set_option maxHeartbeats 4000000
namespace K63
open PySem PySem.Spec PyProof.Rows L2
/-! ### numbers and steps as data -/
def dNum (q : Rat) : PyData := .tuple [.int q.num, .int (q.den : Int)]
def dStep (l : List Rat) : PyData := .tuple (l.map dNum)
theorem eqv_num (a b : Rat) : PyData.eqv (dNum a) (dNum b) = decide (a = b) := by
  unfold dNum
  simp only [PyData.eqv, PyData.eqvAll, Bool.and_true]
  by_cases h : a = b
  · subst h
    simp
  · rw [decide_eq_false h]
    by_cases h1 : a.num = b.num
    · have : ¬ (a.den : Int) = (b.den : Int) := fun z => h (Rat.ext h1 (by omega))
      simp [h1, this]
    · simp [h1]
theorem eqvAll_num : ∀ l m : List Rat, PyData.eqvAll (l.map dNum) (m.map dNum) = decide (l = m)
  | [], [] => rfl
  | [], b :: m => by simp [PyData.eqvAll]
  | a :: l, [] => by simp [PyData.eqvAll]
  | a :: l, b :: m => by
    simp only [List.map_cons, PyData.eqvAll, eqv_num, eqvAll_num l m, List.cons.injEq, Bool.decide_and]
theorem eqv_step (l m : List Rat) : PyData.eqv (dStep l) (dStep m) = decide (l = m) := by
  unfold dStep
  simp only [PyData.eqv]
  exact eqvAll_num l m
theorem lay_num (q : Rat) : (dNum q).canLay0 = true := by simp [dNum, PyData.canLay0, PyData.canLayAll0]
theorem dep_num (q : Rat) : (dNum q).depth = 1 := by simp [dNum, PyData.depth, PyData.depthAll]
theorem shaped_num (q : Rat) : SeqAt.shaped (dNum q) = true := by
  unfold SeqAt.shaped
  rw [lay_num, dep_num]
  rfl
theorem lay_nums : ∀ l : List Rat, PyData.canLayAll0 (l.map dNum) = true
  | [] => rfl
  | a :: l => by simp [PyData.canLayAll0, lay_num, lay_nums l]
theorem dep_nums : ∀ l : List Rat, PyData.depthAll (l.map dNum) ≤ 1
  | [] => by simp [PyData.depthAll]
  | a :: l => by
    simp only [List.map_cons, PyData.depthAll, dep_num]
    exact Nat.max_le.mpr ⟨Nat.le_refl _, dep_nums l⟩
theorem lay_step (l : List Rat) : (dStep l).canLay0 = true := by simp [dStep, PyData.canLay0, lay_nums]
theorem dep_step (l : List Rat) : (dStep l).depth ≤ 2 := by
  simp only [dStep, PyData.depth]
  have := dep_nums l
  omega
theorem shaped_step (l : List Rat) : SeqAt.shaped (dStep l) = true := by
  unfold SeqAt.shaped
  rw [lay_step, decide_eq_true (Nat.le_trans (dep_step l) (by decide))]
  rfl
section
variable {K : PySem.W.Frag} {H : Hp}
theorem NumV.dp {v : V} {q : Rat} (h : NumV H v q) : Dp K H v (dNum q) := by
  obtain ⟨p, rfl, h⟩ := h
  exact .tup (.of h) (.cons (.int _) (.cons (.int _) .nil))
theorem NumVs.dp : ∀ {vs : List V} {l : List Rat}, Paired (NumV H) vs l → DpAll K H vs (l.map dNum)
  | _, _, .nil => .nil
  | _, _, .cons h t => .cons h.dp (NumVs.dp t)
theorem StepV.dp {v : V} {l : List Rat} (h : StepV H v l) : Dp K H v (dStep l) := by
  obtain ⟨p, vs, rfl, h, r⟩ := h
  exact .tup (.of h) (NumVs.dp r)
theorem StepV.len {p : Addr} {l : List Rat} (h : StepV H (.ref p) l) : ∃ vs, H p = some (.tup vs) ∧ Paired (NumV H) vs l ∧ SqT K H p vs ∧ vs.length = l.length := by
  obtain ⟨q, vs, e, h, r⟩ := h
  cases e
  exact ⟨vs, h, r, .of h, r.length⟩
theorem zero_num {p : Addr} (h : H p = some (.tup [.int 0, .int 1])) : NumV H (.ref p) 0 := NumV.of h rfl rfl
end
theorem tx_lst {H : Hp} {f : Addr} {xs : List V} {o : HO} (h : H f = some (.lst xs)) : TExt H (upd H f o) := fun b ys e => by
  rw [upd_ne (ne_of e h (by intro z; cases z))]
  exact e
theorem tx_new {H : Hp} {f : Addr} {o : HO} (h : H f = none) : TExt H (upd H f o) := (same_new h).tx
/-! ### lists in pairs -/
section
variable {α β : Type} {F : α → β → Prop}
theorem pget : ∀ {l : List α} {m : List β} {i : Nat} {x : α}, Paired F l m → l[i]? = some x → ∃ y, m[i]? = some y ∧ F x y
  | _, _, _, _, .nil, h => by simp at h
  | _, _, 0, _, .cons h t, e => by
    obtain rfl : _ = _ := by simpa using e
    exact ⟨_, rfl, h⟩
  | _, _, i + 1, x, .cons h t, e => pget (i := i) t (by simpa using e)
theorem pget2 : ∀ {l : List α} {m : List β} {i : Nat} {y : β}, Paired F l m → m[i]? = some y → ∃ x, l[i]? = some x ∧ F x y
  | _, _, _, _, .nil, h => by simp at h
  | _, _, 0, _, .cons h t, e => by
    obtain rfl : _ = _ := by simpa using e
    exact ⟨_, rfl, h⟩
  | _, _, i + 1, x, .cons h t, e => pget2 (i := i) t (by simpa using e)
theorem papp : ∀ {l l2 : List α} {m m2 : List β}, Paired F l m → Paired F l2 m2 → Paired F (l ++ l2) (m ++ m2)
  | _, _, _, _, .nil, h => h
  | _, _, _, _, .cons h t, k => .cons h (papp t k)
theorem prev {l : List α} {m : List β} (h : Paired F l m) : Paired F l.reverse m.reverse := by
  induction h with
  | nil => exact .nil
  | cons h t ih =>
    rw [List.reverse_cons, List.reverse_cons]
    exact papp ih (.cons h .nil)
theorem pset : ∀ {l : List α} {m : List β} {i : Nat} {x : α} {y : β}, Paired F l m → F x y → Paired F (l.set i x) (m.set i y)
  | _, _, _, _, _, .nil, _ => .nil
  | _, _, 0, _, _, .cons h t, k => .cons k t
  | _, _, i + 1, _, _, .cons h t, k => .cons h (pset t k)
theorem pdrop : ∀ {l : List α} {m : List β} (i : Nat), Paired F l m → Paired F (l.drop i) (m.drop i)
  | _, _, 0, h => h
  | _, _, _ + 1, .nil => .nil
  | _, _, i + 1, .cons h t => pdrop i t
theorem ptake : ∀ {l : List α} {m : List β} (i : Nat), Paired F l m → Paired F (l.take i) (m.take i)
  | _, _, 0, h => .nil
  | _, _, _ + 1, .nil => .nil
  | _, _, i + 1, .cons h t => .cons h (ptake i t)
theorem pdl {l : List α} {m : List β} (h : Paired F l m) : Paired F l.dropLast m.dropLast := by
  rw [List.dropLast_eq_take, List.dropLast_eq_take, h.length]
  exact ptake _ h
theorem prep {x : α} {y : β} (h : F x y) : ∀ n, Paired F (List.replicate n x) (List.replicate n y)
  | 0 => .nil
  | n + 1 => .cons h (prep h n)
end
theorem atI_neg {α : Type} {xs : List α} {v : α} (h : xs.getLast? = some v) : atI xs (-1) = some v := by
  rw [← last_split h]
  exact atI_last _ _
theorem last_get {α : Type} {l : List α} (h : l ≠ []) : ∃ x, l.getLast? = some x := ⟨l.getLast h, List.getLast?_eq_some_getLast h⟩
theorem getlast_idx {α : Type} {l : List α} {x : α} (h : l.getLast? = some x) : l[l.length - 1]? = some x := by
  rw [← List.getLast?_eq_getElem?]
  exact h
theorem plast {α β : Type} {F : α → β → Prop} {l : List α} {m : List β} {x : α} (h : Paired F l m) (e : l.getLast? = some x) : ∃ y, m.getLast? = some y ∧ F x y := by
  obtain ⟨y, h1, h2⟩ := pget h (getlast_idx e)
  rw [h.length, ← List.getLast?_eq_getElem?] at h1
  exact ⟨y, h1, h2⟩
theorem rep_one {α : Type} (x : α) : ∀ n, (List.replicate n [x]).flatten = List.replicate n x
  | 0 => rfl
  | n + 1 => by
    rw [List.replicate_succ, List.flatten_cons, rep_one x n]
    rfl
end K63
set_option Elab.async false
set_option linter.all false
set_option maxRecDepth 100000
set_option maxHeartbeats 4000000
namespace K63
open PySem PySem.Spec PyProof.Rows L2
/-- a rule told shorter -/
theorem pe_of {X : Cx} {e : Expr} {t t' : TE} (h : PE X e t) (m : ∀ σ H Q, t' σ H Q → t σ H Q) : PE X e t' := ⟨fun pins s σ H Q I q => h.run pins s σ H Q I (m σ H Q q)⟩
/-- t[k] where it is, else (0, 1) -/
def tPick (x k : Nat) : TE := fun σ H Q => ∃ (v : V) (l : List Rat) (j : Nat), σ[x]? = some (some v) ∧ StepV H v l ∧ σ[k]? = some (some (.int (j : Int))) ∧ ∀ H' v, Same H H' → NumV H' v (l.getD j 0) → Q v H'
def spTrim : Sp := fun vs H Q _ => ∃ (p : Addr) (xs : List V) (l : List Rat), vs = [.ref p] ∧ H p = some (.lst xs) ∧ Paired (NumV H) xs l ∧ l ≠ [] ∧ ∀ H' v, Same H H' → StepV H' v (trim l) → Q v H'
section
variable {P : Program} {w : World} {K : PySem.W.Frag} {mg : Str → Option Value} {base : Heap}
theorem sc_trim : FnScope ["_law_told", "_law_found"] ["_law_told"] (defScope (top 47)) := ⟨rfl, rfl, rfl, by decide +kernel, rfl, by decide +kernel, by decide +kernel⟩
theorem ok_trim (T : Txt K mg) : Dn P w K mg base CX0 1 "_law_trim" ["_law_told"] spTrim := by
  refine Dn.mk0 (T.d 29) sc_trim (fun vs H Q E h => ?_) (fun _ _ _ _ _ _ us hl => match us, hl with | [_], _ => rfl) (fun f cdv A outer s H vs Q E hr h => ?_)
  · obtain ⟨p, xs, l, rfl, _⟩ := h
    rfl
  · obtain ⟨p, xs, l, rfl, hp, hx, hn, k⟩ := h
    have nd := sc_trim.nd
    refine ⟨_, pss_cons (ps_set (i := 1) nd rfl (Or.inl rfl) (pe_callTy call_list_of (by rfl) (T.b 5) (by decide +kernel) (pa_cons (pv 0) pa_nil)))
      (pss_cons (ps_while PassesOwn.never (PW.pt (pw_and (pt_cmpR op_gt (pe_callB call_len_seq (by rfl) (T.b 0) PySem.boot_len (pa_cons (pv 1) pa_nil)) pe_int (nomark _))
        (pw_and1 (pt_cmpR (op_eqD hr.units) (pe_ix ix_list (pv 1) (pe_un un_neg pe_int) (fun _ _ => rfl)) (pe_tup (pa_cons pe_int (pa_cons pe_int pa_nil))) (nomark _)))))
        (pss_one (ps_expr (pe_bm0 PySem.F.plainAttrs_list PySem.F.slot_list_pop PySem.F.type_list_pop mt_pop (pv 1)))))
      (pss_one (ps_ret (pe_callTy call_tuple_of (by rfl) (T.b 6) (by decide +kernel) (pa_cons (pv 1) pa_nil))))), ?_⟩
    refine ⟨_, rfl, p, _, rfl, .inl (SqL.of hp), fun f hf => ?_⟩
    refine ⟨fun m σ H1 => ∃ ys l2, m = l2.length ∧ σ = [some (.ref p), some (.ref f)] ∧ Same H H1 ∧ H1 f = some (.lst ys) ∧ Paired (NumV H1) ys l2 ∧ l2 ≠ [] ∧ trim l2 = trim l, ⟨_, xs, l, rfl, rfl, same_new hf, upd_same, NumVs.mono (tx_new hf) hx, hn, rfl⟩, ?_⟩
    rintro m σ H1 ⟨ys, l2, rfl, rfl, s1, h1, r1, n1, e1⟩
    have fin : ¬ (1 < l2.length ∧ l2.getLast? = some 0) → ∀ H2, TExt H1 H2 → Same H H2 → H2 f = some (.lst ys) → ∃ v, [some (V.ref p), some (V.ref f)][1]? = some (some v) ∧ ∃ p ys, [v] = [.ref p] ∧ ((SqL K H2 p ys ∧ ∀ l, H2 l = none → Q (.ref l) (upd H2 l (.tup ys))) ∨ (SqT K H2 p ys ∧ Q (.ref p) H2)) := fun hnot H2 tx s2 h2 => by
      refine ⟨_, rfl, f, ys, rfl, .inl ⟨SqL.of h2, fun t ht => k _ _ (s2.trans (same_new ht)) ⟨t, ys, rfl, upd_same, ?_⟩⟩⟩
      rw [← e1, trim_stop hnot]
      exact NumVs.mono (tx.trans (tx_new ht)) r1
    refine ⟨_, rfl, f, _, rfl, .inl (SqL.of h1), _, _, rfl, rfl, _, rfl, ?_⟩
    by_cases hl : 1 < l2.length
    · refine ifT (decide_eq_true (by rw [r1.length]; omega)) ?_
      obtain ⟨c, hc⟩ := last_get n1
      obtain ⟨x, hx1⟩ := last_get (l := ys) (fun z => by rw [z] at r1; cases r1; exact n1 rfl)
      obtain ⟨c', hc1, hxc⟩ := plast r1 hx1
      rw [hc] at hc1
      cases hc1
      refine ⟨_, rfl, _, rfl, f, _, _, _, rfl, rfl, SqL.of h1, atI_neg hx1, (by show 2 ≤ sizeLine; decide), fun t ht => ?_⟩
      refine ⟨_, _, (hxc.mono (tx_new ht)).dp, (zero_num upd_same).dp, shaped_num _, shaped_num _, _, rfl, ?_⟩
      rw [eqv_num]
      have s2 := s1.trans (same_new (o := .tup [.int 0, .int 1]) ht)
      have h2 : upd H1 t (.tup [.int 0, .int 1]) f = some (.lst ys) := same_new ht f _ h1
      by_cases hz : c = 0
      · refine ifT (decide_eq_true hz) ?_
        subst hz
        refine ⟨fun σ H3 => ∃ ys3, σ = [some (.ref p), some (.ref f)] ∧ Same H H3 ∧ H3 f = some (.lst ys3) ∧ Paired (NumV H3) ys3 l2.dropLast, fun σ H3 ⟨ys3, a, b, c, d⟩ => ⟨l2.dropLast.length, by rw [List.length_dropLast]; omega, ys3, l2.dropLast, rfl, a, b, c, d, fun z => ?_, ?_⟩, ?_⟩
        · have := congrArg List.length z
          rw [List.length_dropLast] at this
          simp at this
          omega
        · rw [← e1, trim_pop hl hc]
        · refine ⟨_, rfl, .inl ⟨rfl, _, SqL.of h2⟩, f, ys, x, rfl, rfl, h2, getlast_idx hx1, _, rfl, Same.upd s2 hf, upd_same, ?_⟩
          exact NumVs.mono (tx_lst h2) (NumVs.mono (tx_new ht) (pdl r1))
      · refine ifF (decide_eq_false hz) ?_
        exact fin (fun z => hz (Option.some.inj (hc.symm.trans z.2))) _ (tx_new ht) s2 h2
    · refine ifF (decide_eq_false (by rw [r1.length]; omega)) ?_
      exact fin (fun z => hl z.1) _ (TExt.refl _) s1 h1


def spSum : Sp := fun vs H Q _ => ∃ (x y : V) (a b : List Rat), vs = [x, y] ∧ StepV H x a ∧ StepV H y b ∧ a ≠ [] ∧ a.length ≤ 5000 ∧ b.length ≤ 5000 ∧ (∀ c ∈ a, Sz c) ∧ (∀ c ∈ b, Sz c) ∧ ∀ H' v, Same H H' → StepV H' v (trim (lsum a b)) → Q v H'
theorem sz_zero : Sz 0 := ⟨Nat.pow_pos (by decide), Nat.one_lt_pow (by decide) (by decide)⟩
theorem getD_sz {l : List Rat} (h : ∀ c ∈ l, Sz c) (i : Nat) : Sz (l.getD i 0) := by
  rw [List.getD_eq_getElem?_getD]
  cases e : l[i]? with
  | none => exact sz_zero
  | some c => exact h c (List.mem_of_getElem? e)
theorem getD_of {l : List Rat} {i : Nat} {c : Rat} (h : l[i]? = some c) : l.getD i 0 = c := by
  rw [List.getD_eq_getElem?_getD, h]
  rfl
theorem getD_no {l : List Rat} {i : Nat} (h : l.length ≤ i) : l.getD i 0 = 0 := by
  rw [List.getD_eq_getElem?_getD, List.getElem?_eq_none h]
  rfl
theorem max_int (m n : Nat) : (if (n : Int) > (m : Int) then (n : Int) else (m : Int)) = ((max m n : Nat) : Int) := by
  split <;> omega
theorem lsum_get (a b : List Rat) {i : Nat} (h : i < max a.length b.length) : (lsum a b)[i]? = some (a.getD i 0 + b.getD i 0) := by
  rw [lsum_eq]
  exact addL_get a b i h
theorem sl5000 : 5000 < sizeLine := by decide
theorem sc_sum : FnScope ["_law_one_so", "_law_other_so", "_law_found", "_law_power", "_law_near", "_law_far"] ["_law_one_so", "_law_other_so"] (defScope (top 48)) := ⟨rfl, rfl, rfl, by decide +kernel, rfl, by decide +kernel, by decide +kernel⟩
theorem ok_sum (T : Txt K mg) : Dn P w K mg base CX0 4 "_law_sum" ["_law_one_so", "_law_other_so"] spSum := by
  refine Dn.mk0 (T.d 30) sc_sum (fun vs H Q E h => ?_) (fun _ _ _ _ _ _ us hl => match us, hl with | [_, _], _ => rfl) (fun f cdv A outer s H vs Q E hr h => ?_)
  · obtain ⟨x, y, a, b, rfl, _⟩ := h
    rfl
  · obtain ⟨x, y, a, b, rfl, hx, hy, ha, la, lb, sa, sb, k⟩ := h
    have nd := sc_sum.nd
    refine ⟨_, pss_cons (ps_set (i := 2) nd rfl (Or.inl rfl) (pe_lst pa_nil))
      (pss_cons (ps_for PassesOwn.never rfl (pi_range1 rfl (T.b 1) (pa_cons (pe_callB (call_max2 rfl) (by rfl) (T.b 4) (by decide +kernel) (pa_cons (pe_callB call_len_seq (by rfl) (T.b 0) PySem.boot_len (pa_cons (pv 0) pa_nil)) (pa_cons (pe_callB call_len_seq (by rfl) (T.b 0) PySem.boot_len (pa_cons (pv 1) pa_nil)) pa_nil))) pa_nil)) (pg_name (i := 3) nd rfl (Or.inl rfl))
        (pss_cons (ps_set (i := 4) nd rfl (Or.inl rfl) (pe_of (t' := tPick 0 3) (pe_ifExp (pt_cmpR op_lt (pv 3) (pe_callB call_len_seq (by rfl) (T.b 0) PySem.boot_len (pa_cons (pv 0) pa_nil)) (nomark _)) (pe_ix ix_tup (pv 0) (pv 3) (fun _ _ => rfl)) (pe_tup (pa_cons pe_int (pa_cons pe_int pa_nil)))) (fun σ H Q h => ?_)))
        (pss_cons (ps_set (i := 5) nd rfl (Or.inl rfl) (pe_of (t' := tPick 1 3) (pe_ifExp (pt_cmpR op_lt (pv 3) (pe_callB call_len_seq (by rfl) (T.b 0) PySem.boot_len (pa_cons (pv 1) pa_nil)) (nomark _)) (pe_ix ix_tup (pv 1) (pv 3) (fun _ _ => rfl)) (pe_tup (pa_cons pe_int (pa_cons pe_int pa_nil)))) (fun σ H Q h => ?_)))
        (pss_one (ps_expr (pe_bm PySem.F.plainAttrs_list PySem.F.slot_list_append PySem.F.type_list_append mt_append (pv 2) (pa_cons (pe_dn (ok_add T) hr pass0 (pa_cons (pv 4) (pa_cons (pv 5) pa_nil))) pa_nil)))))))
      (pss_one (ps_ret (pe_dn ((ok_trim T).up (by decide)) hr pass0 (pa_cons (pv 2) pa_nil))))), ?_⟩
    case refine_2.refine_3 =>
      obtain ⟨px, xs, rfl, hpx, rx⟩ := hx
      obtain ⟨py, ys, rfl, hpy, ry⟩ := hy
      refine ⟨(by show 0 ≤ sizeLine; decide), fun f hf => ?_⟩
      have s0 : Same H (upd H f (.lst [])) := same_new hf
      refine ⟨_, rfl, px, _, rfl, .inr (SqT.of (s0 px _ hpx)), _, rfl, py, _, rfl, .inr (SqT.of (s0 py _ hpy)), _, _, rfl, ?_⟩
      rw [max_int, rx.length, ry.length]
      have hz := lsum_len a b
      have hne : lsum a b ≠ [] := fun z => by
        have h1 := List.length_pos_iff.mpr ha
        rw [z] at hz
        simp at hz
        omega
      refine ⟨_, rfl, by omega, by omega, for_range (n := max a.length b.length) (fun i σ H1 => ∃ zs u1 u2 u3, σ = [some (.ref px), some (.ref py), some (.ref f), u1, u2, u3] ∧ Same H H1 ∧ H1 f = some (.lst zs) ∧ Paired (NumV H1) zs ((lsum a b).take i))
        ⟨[], _, _, _, rfl, s0, upd_same, .nil⟩ (fun i σ H1 hi h1 => ?_) (fun σ H1 h1 => ?_)⟩
      · obtain ⟨zs, u1, u2, u3, rfl, s1, hf1, r1⟩ := h1
        refine ⟨.ref px, a, i, rfl, ⟨px, xs, rfl, s1 px _ hpx, NumVs.mono s1.tx rx⟩, (by rw [Int.zero_add]; rfl), fun H2 v1 s2 n1 => ?_⟩
        refine ⟨.ref py, b, i, rfl, ⟨py, ys, rfl, (s1.trans s2) py _ hpy, NumVs.mono (s1.trans s2).tx ry⟩, (by rw [Int.zero_add]; rfl), fun H3 v2 s3 n2 => ?_⟩
        refine ⟨_, rfl, .inl ⟨rfl, _, SqL.of (s3 _ _ (s2 _ _ hf1))⟩, _, rfl, _, rfl, v1, v2, _, _, rfl, n1.mono s3.tx, n2, getD_sz sa i, getD_sz sb i, fun H4 v s4 n4 => ?_⟩
        have hf4 := s4 _ _ (s3 _ _ (s2 _ _ hf1))
        refine ⟨f, zs, v, rfl, rfl, hf4, ?_, _, _, _, _, rfl, Same.upd (s1.trans (s2.trans (s3.trans s4))) hf, upd_same, ?_⟩
        · have h5 := r1.length
          rw [List.length_take] at h5
          exact Nat.lt_of_le_of_lt (by omega : zs.length ≤ 5000) sl5000
        · rw [take_snoc (lsum_get a b hi)]
          exact Paired.snoc (NumVs.mono (((s2.trans (s3.trans s4)).tx).trans (tx_lst hf4)) r1) (n4.mono (tx_lst hf4))
      · obtain ⟨zs, u1, u2, u3, rfl, s1, hf1, r1⟩ := h1
        rw [← hz, List.take_length] at r1
        exact ⟨_, rfl, f, zs, _, rfl, hf1, r1, hne, fun H2 v s2 h2 => k H2 v (s1.trans s2) h2⟩
    all_goals
      obtain ⟨v, l, j, e1, ⟨p, vs, rfl, hp, r⟩, e2, q⟩ := h
      refine ⟨_, e2, _, e1, p, _, rfl, .inr (SqT.of hp), _, _, rfl, rfl, _, rfl, ?_⟩
      rw [r.length]
      by_cases hj : j < l.length
      · refine ifT (decide_eq_true (by omega)) ?_
        obtain ⟨c, hc⟩ : ∃ c, l[j]? = some c := ⟨_, List.getElem?_eq_getElem hj⟩
        obtain ⟨z, hz, nz⟩ := pget2 r hc
        exact ⟨_, e1, _, e2, p, _, _, _, rfl, rfl, SqT.of hp, atI_nat hz, q _ _ (Same.refl _) (by rw [getD_of hc]; exact nz)⟩
      · refine ifF (decide_eq_false (by omega)) ⟨(by show 2 ≤ sizeLine; decide), fun t ht => q _ _ (same_new ht) ?_⟩
        rw [getD_no (by omega)]
        exact zero_num upd_same
end
end K63
set_option Elab.async false
set_option linter.all false
set_option maxRecDepth 100000
set_option maxHeartbeats 4000000
namespace K63
open PySem PySem.Spec PyProof.Rows L2
def spProd : Sp := fun vs H Q _ => ∃ (x y : V) (a b : List Rat), vs = [x, y] ∧ StepV H x a ∧ StepV H y b ∧ a ≠ [] ∧ b ≠ [] ∧ Bl a ∧ Bl b ∧ ∀ H' v, Same H H' → StepV H' v (trim (pmul a b)) → Q v H'
section
variable {P : Program} {w : World} {K : PySem.W.Frag} {mg : Str → Option Value} {base : Heap}
theorem sc_prod : FnScope ["_law_one_so", "_law_other_so", "_law_found", "_law_near", "_law_first", "_law_far", "_law_second"] ["_law_one_so", "_law_other_so"] (defScope (top 49)) := ⟨rfl, rfl, rfl, by decide +kernel, rfl, by decide +kernel, by decide +kernel⟩
theorem ok_prod (T : Txt K mg) : Dn P w K mg base CX0 4 "_law_product" ["_law_one_so", "_law_other_so"] spProd := by
  refine Dn.mk0 (T.d 31) sc_prod (fun vs H Q E h => ?_) (fun _ _ _ _ _ _ us hl => match us, hl with | [_, _], _ => rfl) (fun f cdv A outer s H vs Q E hr h => ?_)
  · obtain ⟨x, y, a, b, rfl, _⟩ := h
    rfl
  · obtain ⟨x, y, a, b, rfl, ⟨px, xs, rfl, hpx, rx⟩, ⟨py, ys, rfl, hpy, ry⟩, ha, hb, ba, bb', k⟩ := h
    have nd := sc_prod.nd
    refine ⟨_, pss_cons (ps_set (i := 2) nd rfl (Or.inl rfl) (pe_op op_rep (pe_lst (pa_cons (pe_tup (pa_cons pe_int (pa_cons pe_int pa_nil))) pa_nil)) (pe_op op_sub (pe_op op_add (pe_callB call_len_seq (by rfl) (T.b 0) PySem.boot_len (pa_cons (pv 0) pa_nil)) (pe_callB call_len_seq (by rfl) (T.b 0) PySem.boot_len (pa_cons (pv 1) pa_nil))) pe_int)))
      (pss_cons (ps_for PassesOwn.never rfl (pi_enumT (T.b 2) (pa_cons (pv 0) pa_nil)) (pg_tup rfl (pgs_cons (pg_name (i := 3) nd rfl (Or.inl rfl)) (pgs_cons (pg_name (i := 4) nd rfl (Or.inl rfl)) pgs_nil)))
        (pss_one (ps_for PassesOwn.never rfl (pi_enumT (T.b 2) (pa_cons (pv 1) pa_nil)) (pg_tup rfl (pgs_cons (pg_name (i := 5) nd rfl (Or.inl rfl)) (pgs_cons (pg_name (i := 6) nd rfl (Or.inl rfl)) pgs_nil)))
          (pss_one (ps_asg (pe_dn (ok_add T) hr pass0 (pa_cons (pe_ix ix_list (pv 2) (pe_op op_add (pv 3) (pv 5)) (fun _ _ => rfl)) (pa_cons (pe_dn (ok_mul T) hr pass0 (pa_cons (pv 4) (pa_cons (pv 6) pa_nil))) pa_nil))) (pg_sub (pv 2) (pe_op op_add (pv 3) (pv 5)) set_list))))))
      (pss_one (ps_ret (pe_dn ((ok_trim T).up (by decide)) hr pass0 (pa_cons (pv 2) pa_nil))))), ?_⟩
    have la := ba.len
    have lb := bb'.len
    have ha0 := List.length_pos_iff.mpr ha
    have hb0 := List.length_pos_iff.mpr hb
    have lx := rx.length
    have ly := ry.length
    refine ⟨(by show 2 ≤ sizeLine; decide), fun z hz => ⟨(by show 1 ≤ sizeLine; decide), fun o ho => ?_⟩⟩
    have s0 : Same H (upd (upd H z (.tup [.int 0, .int 1])) o (.lst [.ref z])) := (same_new hz).trans (same_new ho)
    refine ⟨_, rfl, px, _, rfl, .inr (SqT.of (s0 px _ hpx)), _, rfl, py, _, rfl, .inr (SqT.of (s0 py _ hpy)), _, _, rfl, rfl, _, _, rfl, rfl, ?_⟩
    refine ⟨o, _, _, rfl, rfl, upd_same, by omega, by omega, ?_, fun f hf => ?_⟩
    · exact Nat.le_trans (by simp; omega : _ ≤ 5000) (Nat.le_of_lt sl5000)
    have s1 : Same H (upd (upd (upd H z (.tup [.int 0, .int 1])) o (.lst [.ref z])) f (.lst (List.replicate (((xs.length : Nat) : Int) + ((ys.length : Nat) : Int) - 1).toNat [V.ref z]).flatten)) := s0.trans (same_new hf)
    have hfH : H f = none := s0.free hf
    have hlen : (((xs.length : Nat) : Int) + ((ys.length : Nat) : Int) - 1).toNat = a.length + b.length - 1 := by omega
    have hzn : NumV (upd (upd (upd H z (.tup [.int 0, .int 1])) o (.lst [.ref z])) f (.lst (List.replicate (((xs.length : Nat) : Int) + ((ys.length : Nat) : Int) - 1).toNat [V.ref z]).flatten)) (.ref z) 0 :=
      NumV.mono (tx_new hf) (NumV.mono (tx_new ho) (zero_num upd_same))
    refine ⟨_, rfl, px, xs, rfl, SqT.of (s1 px _ hpx), ?_⟩
    refine for_it walk_enumT (fun i σ H1 => ∃ zs c u3 u4 u5 u6, σ = [some (.ref px), some (.ref py), some (.ref f), u3, u4, u5, u6] ∧ Same H H1 ∧ H1 f = some (.lst zs) ∧ Paired (NumV H1) zs c ∧ ∀ ai, Prd a b i ai 0 c)
      ⟨_, List.replicate (a.length + b.length - 1) 0, _, _, _, _, rfl, s1, upd_same, ?_, fun ai => Prd.zero ai⟩ (fun i σ H1 hi ⟨zs, c, u3, u4, u5, u6, h0, s1, h1⟩ => SqT.of (s1 px _ hpx)) (fun i x σ H1 H2 hi hP hY => ?_) (fun σ H1 hP => ?_)
    · have h9 := prep hzn (a.length + b.length - 1)
      rw [hlen, rep_one] at h9 ⊢
      exact h9
    · obtain ⟨zs, c, u3, u4, u5, u6, rfl, s1, h1, r1, p1⟩ := hP
      obtain ⟨t, x', y', rfl, ht, rfl, e1, e2⟩ := hY
      cases e1
      obtain ⟨ai, hai, nai⟩ := pget rx e2
      have hiA : i < a.length := by omega
      refine ⟨t, _, rfl, SqT.of upd_same, rfl, _, _, rfl, _, _, rfl, rfl, ?_⟩
      have s2 := s1.trans (same_new (o := .tup [.int (i : Int), y']) ht)
      refine ⟨_, rfl, py, ys, rfl, SqT.of (s2 py _ hpy), ?_⟩
      refine for_it walk_enumT (fun j σ H1 => ∃ zs c u5 u6, σ = [some (.ref px), some (.ref py), some (.ref f), some (.int (i : Int)), some y', u5, u6] ∧ Same H H1 ∧ H1 f = some (.lst zs) ∧ Paired (NumV H1) zs c ∧ Prd a b i ai j c)
        ⟨zs, c, _, _, rfl, s2, same_new ht f _ h1, NumVs.mono (tx_new ht) r1, p1 ai⟩ (fun j σ H1 hj ⟨zs, c, u5, u6, h0, s1, h1⟩ => SqT.of (s1 py _ hpy)) (fun j x σ H3 H4 hj hP hY => ?_) (fun σ H3 hP => ?_)
      · obtain ⟨zs, c, u5, u6, rfl, s3, h3, r3, p3⟩ := hP
        obtain ⟨t2, x2, y2, rfl, ht2, rfl, e3, e4⟩ := hY
        cases e3
        obtain ⟨bj, hbj, nbj⟩ := pget ry e4
        have hjB : j < b.length := by omega
        have hcl := p3.len
        obtain ⟨cv, hcv⟩ : ∃ cv, c[i + j]? = some cv := ⟨_, List.getElem?_eq_getElem (by omega)⟩
        obtain ⟨zv, hzv, nzv⟩ := pget2 r3 hcv
        have s4 := s3.trans (same_new (o := .tup [.int (j : Int), y2]) ht2)
        have h4 := same_new (o := .tup [.int (j : Int), y2]) ht2 f _ h3
        have tx4 : TExt H3 (upd H3 t2 (.tup [.int (j : Int), y2])) := tx_new ht2
        refine ⟨t2, _, rfl, SqT.of upd_same, rfl, _, _, rfl, _, _, rfl, rfl, _, rfl, _, rfl, _, rfl, _, _, rfl, rfl, f, _, _, zv, rfl, rfl, SqL.of h4, (by rw [← Int.natCast_add]; exact atI_nat hzv), _, rfl, _, rfl, y', y2, ai, bj, rfl, nai.mono s4.tx, nbj.mono s4.tx, ba.sz (List.mem_of_getElem? hai), bb'.sz (List.mem_of_getElem? hbj), fun H5 v5 s5 n5 => ?_⟩
        refine ⟨zv, v5, cv, ai * bj, rfl, nzv.mono (tx4.trans s5.tx), n5, p3.sz la lb hiA hjB (List.mem_of_getElem? hcv), ba.mul_sz bb' (List.mem_of_getElem? hai) (List.mem_of_getElem? hbj), fun H6 v6 s6 n6 => ?_⟩
        have h6 := s6 _ _ (s5 _ _ h4)
        have hzl : i + j < zs.length := by have := r3.length; omega
        refine ⟨_, rfl, _, rfl, _, rfl, _, _, rfl, rfl, f, zs, _, i + j, rfl, rfl, h6, ?_, _, c.set (i + j) (cv + ai * bj), _, _, rfl, Same.upd (s4.trans (s5.trans s6)) hfH, upd_same, ?_, p3.in ba bb' hai hbj hcv⟩
        · unfold ixN
          rw [if_pos (by omega), if_pos (by omega)]
          congr 1
        · exact pset (NumVs.mono (tx4.trans (s5.tx.trans (s6.tx.trans (tx_lst h6)))) r3) (n6.mono (tx_lst h6))
      · obtain ⟨zs, c, u5, u6, rfl, s3, h3, r3, p3⟩ := hP
        rw [ly] at p3
        exact ⟨zs, c, _, _, _, _, rfl, s3, h3, r3, fun aj => p3.out hai⟩
    · obtain ⟨zs, c, u3, u4, u5, u6, rfl, s1, h1, r1, p1⟩ := hP
      rw [lx] at p1
      have e := (p1 0).done ha hb
      subst e
      exact ⟨_, rfl, f, zs, _, rfl, h1, r1, fun z => by
        have := pmul_len ha hb
        rw [z] at this
        simp at this
        omega, fun H2 v s2 h2 => k H2 v (s1.trans s2) h2⟩
end
end K63
set_option Elab.async false
set_option linter.all false
set_option maxRecDepth 100000
set_option maxHeartbeats 4000000
namespace K63
open PySem PySem.Spec PyProof.Rows L2
theorem trimR_le : ∀ l : List Rat, (trimR l).length ≤ l.length
  | [] => Nat.le_refl _
  | [c] => Nat.le_refl _
  | c :: d :: r => by
    unfold trimR
    split
    · exact Nat.le_trans (trimR_le (d :: r)) (by simp)
    · exact Nat.le_refl _
theorem trimR_ne : ∀ l : List Rat, l ≠ [] → trimR l ≠ []
  | [], h => h
  | [c], h => h
  | c :: d :: r, _ => by
    unfold trimR
    split
    · exact trimR_ne (d :: r) (by simp)
    · simp
theorem trim_le (l : List Rat) : (trim l).length ≤ l.length := by
  unfold trim
  have := trimR_le l.reverse
  rwa [List.length_reverse, ← List.length_reverse (as := l)]
theorem trim_ne {l : List Rat} (h : l ≠ []) : trim l ≠ [] := by
  unfold trim
  intro z
  have := trimR_ne l.reverse (by simpa using h)
  exact this (by simpa using z)
theorem ne_len {α : Type} {l : List α} (h : 0 < l.length) : l ≠ [] := List.length_pos_iff.mp h
theorem pmul_ne {a b : List Rat} (ha : a ≠ []) (hb : b ≠ []) : pmul a b ≠ [] := ne_len (by
  rw [pmul_len ha hb]
  have := List.length_pos_iff.mpr ha
  have := List.length_pos_iff.mpr hb
  omega)
theorem wstep_ne (li f : List Rat) (c : Rat) : wstep li f c ≠ [] := by
  unfold wstep
  refine trim_ne (ne_len ?_)
  rw [lsum_len, List.length_singleton]
  omega
theorem fold_ne (li : List Rat) : ∀ (l f : List Rat), f ≠ [] → l.foldl (wstep li) f ≠ []
  | [], _, h => h
  | c :: l, f, _ => fold_ne li l (wstep li f c) (wstep_ne li f c)
theorem parted_some {a b : List Rat} {i : Nat} (h : ∀ k < i, ev a (k : Rat) = ev b (k : Rat)) (hi : i < max a.length b.length) (hne : ev a (i : Rat) ≠ ev b (i : Rat)) : parted a b = some i := by
  unfold parted
  rw [List.find?_range_eq_some]
  refine ⟨by simp [hne], List.mem_range.mpr hi, fun k hk => ?_⟩
  simp [h k hk]
theorem parted_no {a b : List Rat} (h : ∀ k < max a.length b.length, ev a (k : Rat) = ev b (k : Rat)) : parted a b = none := by
  unfold parted
  rw [List.find?_eq_none]
  intro k hk
  simp [h k (List.mem_range.mp hk)]
theorem cut_tail (x : V) (xs : List V) : cutV (x :: xs) (some 1) none = xs := by
  unfold cutV
  rw [HT.sIx_none, show HT.sIx (x :: xs).length 0 (some 1) = 1 from (HT.sIx_nat _ _ 1).trans (by simp)]
  simp
def spWithin : Sp := fun vs H Q _ => ∃ (x y : V) (f g : List Rat), vs = [x, y] ∧ StepV H x f ∧ StepV H y g ∧ WB f ∧ Gd g ∧ ∀ H' v, Same H H' → StepV H' v (within f g) → Q v H'
def spWholeL : Sp := fun vs H Q _ => ∃ (p : Addr) (xs : List V) (ws : List (List Rat)), vs = [.ref p] ∧ H p = some (.lst xs) ∧ Paired (StepV H) xs ws ∧ ChainOk ws ∧ ∀ H' v, Same H H' → StepV H' v (wholeL ws) → Q v H'
def spWholeT : Sp := fun vs H Q _ => ∃ (p : Addr) (xs : List V) (ws : List (List Rat)), vs = [.ref p] ∧ H p = some (.tup xs) ∧ Paired (StepV H) xs ws ∧ ChainOk ws ∧ ∀ H' v, Same H H' → StepV H' v (wholeL ws) → Q v H'
def spAgain : Sp := fun vs H Q _ => ∃ (x : V) (l : List Rat), vs = [x, .int 2] ∧ StepV H x l ∧ ChainOk [l, l] ∧ ∀ H' v, Same H H' → StepV H' v (within l l) → Q v H'
def spValue : Sp := fun vs H Q _ => ∃ (x y : V) (l : List Rat) (n : Nat), vs = [x, y] ∧ StepV H x l ∧ NumV H y (n : Rat) ∧ Bl l ∧ l.length ≤ 300 ∧ n ≤ 300 ∧ ∀ H' v, Same H H' → NumV H' v (ev l (n : Rat)) → Q v H'
def partV : Option Nat → V
  | none => .non
  | some k => .int (k : Int)
def spParted : Sp := fun vs H Q _ => ∃ (x y : V) (a b : List Rat), vs = [x, y] ∧ StepV H x a ∧ StepV H y b ∧ Bl a ∧ Bl b ∧ a.length ≤ 300 ∧ b.length ≤ 300 ∧ ∀ H', Same H H' → Q (partV (parted a b)) H'
theorem StepVs.mono {H H' : Hp} (e : TExt H H') : ∀ {vs : List V} {l : List (List Rat)}, Paired (StepV H) vs l → Paired (StepV H') vs l
  | _, _, .nil => .nil
  | _, _, .cons h t => .cons (h.mono e) (StepVs.mono e t)
theorem take_one {α : Type} {x : α} {l : List α} : (x :: l).take 1 = [x] := rfl
section
variable {P : Program} {w : World} {K : PySem.W.Frag} {mg : Str → Option Value} {base : Heap}
theorem sc_within : FnScope ["_law_inner", "_law_outer", "_law_found", "_law_number_here"] ["_law_inner", "_law_outer"] (defScope (top 50)) := ⟨rfl, rfl, rfl, by decide +kernel, rfl, by decide +kernel, by decide +kernel⟩
theorem ok_within (T : Txt K mg) : Dn P w K mg base CX0 5 "_law_within" ["_law_inner", "_law_outer"] spWithin := by
  refine Dn.mk0 (T.d 32) sc_within (fun vs H Q E h => ?_) (fun _ _ _ _ _ _ us hl => match us, hl with | [_, _], _ => rfl) (fun f cdv A outer s H vs Q E hr h => ?_)
  · obtain ⟨x, y, a, b, rfl, _⟩ := h
    rfl
  · obtain ⟨x, y, a, b, rfl, hx, ⟨py, ys, rfl, hpy, ry⟩, wa, gb, k⟩ := h
    have nd := sc_within.nd
    refine ⟨_, pss_cons (ps_set (i := 2) nd rfl (Or.inl rfl) (pe_tup (pa_cons (pe_tup (pa_cons pe_int (pa_cons pe_int pa_nil))) pa_nil)))
      (pss_cons (ps_for PassesOwn.never rfl (pi_tup (pe_revT (pv 1))) (pg_name (i := 3) nd rfl (Or.inl rfl))
        (pss_one (ps_set (i := 2) nd rfl (Or.inl rfl) (pe_dn (ok_sum T) hr pass0 (pa_cons (pe_dn (ok_prod T) hr pass0 (pa_cons (pv 2) (pa_cons (pv 0) pa_nil))) (pa_cons (pe_tup (pa_cons (pv 3) pa_nil)) pa_nil))))))
      (pss_one (ps_ret (pv 2)))), ?_⟩
    refine ⟨(by show 2 ≤ sizeLine; decide), fun z hz => ⟨(by show 1 ≤ sizeLine; decide), fun o ho => ?_⟩⟩
    have s0 : Same H (upd (upd H z (.tup [.int 0, .int 1])) o (.tup [.ref z])) := (same_new hz).trans (same_new ho)
    refine ⟨_, rfl, py, ys, rfl, SqT.of (s0 py _ hpy), fun q hq => ?_⟩
    have s1 := s0.trans (same_new (o := .tup ys.reverse) hq)
    refine ⟨q, rfl, ⟨_, SqT.of upd_same⟩, ?_⟩
    have rr := prev ry
    have lb := gb.len
    refine for_tup (xs := ys.reverse) (fun i σ H1 => ∃ u v, σ = [some x, some (.ref py), some v, u] ∧ Same H H1 ∧ H1 q = some (.tup ys.reverse) ∧ StepV H1 v ((b.reverse.take i).foldl (wstep a) [0]))
      ⟨_, _, rfl, s1, upd_same, o, [.ref z], rfl, by rw [upd_ne (ne_of_none upd_same hq)]; exact upd_same, .cons (NumV.mono (tx_new hq) (NumV.mono (tx_new ho) (zero_num upd_same))) .nil⟩
      (fun i σ H1 _ ⟨u, v, h0, s1, h1, _⟩ => SqT.of h1) (fun i xi σ H1 hi hP => ?_) (fun σ H1 hP => ?_)
    · obtain ⟨u, v, rfl, s1, h1, f1⟩ := hP
      obtain ⟨ci, hci, nci⟩ := pget rr hi
      have hci' : ci ∈ b := List.mem_reverse.mp (List.mem_of_getElem? hci)
      have hil : i ≤ b.length := by
        have := (List.getElem?_eq_some_iff.mp hci).1
        rw [List.length_reverse] at this
        omega
      have bf := within_bl wa gb hil
      have fne : (b.reverse.take i).foldl (wstep a) [0] ≠ [] := fold_ne _ _ _ (by simp)
      have ane := wa.stp.2.ne
      refine ⟨_, rfl, _, rfl, v, x, _, a, rfl, f1, hx.mono s1.tx, fne, ane, bf, WB.bl wa, fun H2 v2 s2 f2 => ?_⟩
      refine ⟨_, rfl, (by show 1 ≤ sizeLine; decide), fun t ht => ⟨v2, .ref t, _, [ci], rfl, f2.mono (tx_new ht), ⟨t, [xi], rfl, upd_same, .cons ((nci.mono s1.tx).mono (s2.tx.trans (tx_new ht))) .nil⟩, trim_ne (pmul_ne fne ane), ?_, (by simp), bf.prod_sz (WB.bl wa), ?_, fun H3 v3 s3 f3 => ⟨_, _, rfl, s1.trans (s2.trans ((same_new ht).trans s3)), s3 q _ (same_new ht q _ (s2 q _ h1)), ?_⟩⟩⟩
      · refine Nat.le_trans (trim_le _) ?_
        rw [pmul_len fne ane]
        have := bf.len
        have := wa.len
        omega
      · intro c hc
        rw [List.mem_singleton.mp hc]
        exact gb.bl.sz hci'
      · rw [take_snoc hci, List.foldl_append]
        exact f3
    · obtain ⟨u, v, rfl, s1, h1, f1⟩ := hP
      rw [rr.length, List.take_length] at f1
      exact ⟨_, rfl, k _ _ s1 f1⟩
theorem sc_whole : FnScope ["_law_rows_so", "_law_found", "_law_told"] ["_law_rows_so"] (defScope (top 51)) := ⟨rfl, rfl, rfl, by decide +kernel, rfl, by decide +kernel, by decide +kernel⟩
theorem ok_wholeT (T : Txt K mg) : Dn P w K mg base CX0 6 "_law_whole" ["_law_rows_so"] spWholeT := by
  refine Dn.mk0 (T.d 33) sc_whole (fun vs H Q E h => ?_) (fun _ _ _ _ _ _ us hl => match us, hl with | [_], _ => rfl) (fun f cdv A outer s H vs Q E hr h => ?_)
  · obtain ⟨x, _, _, rfl, _⟩ := h
    rfl
  · obtain ⟨p, xs, ws, rfl, hp, rw', hc, k⟩ := h
    have nd := sc_whole.nd
    refine ⟨_, pss_cons (ps_set (i := 1) nd rfl (Or.inl rfl) (pe_ix ix_tup (pv 0) pe_int (fun _ _ => rfl)))
      (pss_cons (ps_for PassesOwn.never rfl (pi_tup (pe_slice sl_tupA (pv 0) (po_some pe_int) po_none)) (pg_name (i := 2) nd rfl (Or.inl rfl))
        (pss_one (ps_set (i := 1) nd rfl (Or.inl rfl) (pe_dn (ok_within T) hr pass0 (pa_cons (pv 1) (pa_cons (pv 2) pa_nil))))))
      (pss_one (ps_ret (pv 1)))), ?_⟩
    cases rw' with
    | nil => exact absurd rfl hc.ne
    | @cons x g xs ws h0 ht =>
      refine ⟨_, rfl, p, _, _, x, rfl, rfl, SqT.of hp, at0, _, rfl, 1, rfl, ?_⟩
      refine ⟨p, _, rfl, SqT.of hp, fun z => ?_, fun _ q hq => ?_⟩
      · rw [show HT.sIx (x :: xs).length 0 (some 1) = 1 from (HT.sIx_nat _ _ 1).trans (by simp)] at z
        exact absurd z.1 (by decide)
      · rw [cut_tail]
        refine ⟨q, rfl, ⟨_, SqT.of upd_same⟩, ?_⟩
        refine for_tup (xs := xs) (fun i σ H1 => ∃ u v, σ = [some (.ref p), some v, u] ∧ Same H H1 ∧ H1 q = some (.tup xs) ∧ StepV H1 v (wholeL ((g :: ws).take (i + 1))))
          ⟨_, _, rfl, same_new hq, upd_same, h0.mono (tx_new hq)⟩
          (fun i σ H1 _ ⟨u, v, h0, s1, h1, _⟩ => SqT.of h1) (fun i xi σ H1 hi hP => ?_) (fun σ H1 hP => ?_)
        · obtain ⟨u, v, rfl, s1, h1, f1⟩ := hP
          obtain ⟨gi, hgi, ngi⟩ := pget ht hi
          have hgi' : (g :: ws)[i + 1]? = some gi := hgi
          have hlt := (List.getElem?_eq_some_iff.mp hgi').1
          refine ⟨_, rfl, _, rfl, v, xi, _, gi, rfl, f1, ngi.mono s1.tx, hc.on (i + 1) (by omega) (by omega), hc.all gi (List.mem_of_getElem? hgi'), fun H2 v2 s2 f2 => ⟨_, _, rfl, s1.trans s2, s2 q _ h1, ?_⟩⟩
          rw [take_snoc hgi', wholeL_snoc (take_ne hc.ne (by omega))]
          exact f2
        · obtain ⟨u, v, rfl, s1, h1, f1⟩ := hP
          rw [ht.length, List.take_of_length_le (by simp)] at f1
          exact ⟨_, rfl, k _ _ s1 f1⟩
theorem ok_wholeL (T : Txt K mg) : Dn P w K mg base CX0 6 "_law_whole" ["_law_rows_so"] spWholeL := by
  refine Dn.mk0 (T.d 33) sc_whole (fun vs H Q E h => ?_) (fun _ _ _ _ _ _ us hl => match us, hl with | [_], _ => rfl) (fun f cdv A outer s H vs Q E hr h => ?_)
  · obtain ⟨x, _, _, rfl, _⟩ := h
    rfl
  · obtain ⟨p, xs, ws, rfl, hp, rw', hc, k⟩ := h
    have nd := sc_whole.nd
    refine ⟨_, pss_cons (ps_set (i := 1) nd rfl (Or.inl rfl) (pe_ix ix_list (pv 0) pe_int (fun _ _ => rfl)))
      (pss_cons (ps_for PassesOwn.never rfl (pi_list (pe_slice sl_list (pv 0) (po_some pe_int) po_none)) (pg_name (i := 2) nd rfl (Or.inl rfl))
        (pss_one (ps_set (i := 1) nd rfl (Or.inl rfl) (pe_dn (ok_within T) hr pass0 (pa_cons (pv 1) (pa_cons (pv 2) pa_nil))))))
      (pss_one (ps_ret (pv 1)))), ?_⟩
    cases rw' with
    | nil => exact absurd rfl hc.ne
    | @cons x g xs ws h0 ht =>
      refine ⟨_, rfl, p, _, _, x, rfl, rfl, SqL.of hp, at0, _, rfl, 1, rfl, ?_⟩
      refine ⟨p, _, rfl, SqL.of hp, fun q hq => ?_⟩
      rw [cut_tail]
      refine ⟨q, rfl, ⟨_, SqL.of upd_same⟩, ?_⟩
      refine for_list (xs := xs) (fun i σ H1 => ∃ u v, σ = [some (.ref p), some v, u] ∧ Same H H1 ∧ H1 q = some (.lst xs) ∧ StepV H1 v (wholeL ((g :: ws).take (i + 1))))
        ⟨_, _, rfl, same_new hq, upd_same, h0.mono (tx_new hq)⟩
        (fun i σ H1 _ ⟨u, v, h0, s1, h1, _⟩ => SqL.of h1) (fun i xi σ H1 hi hP => ?_) (fun σ H1 hP => ?_)
      · obtain ⟨u, v, rfl, s1, h1, f1⟩ := hP
        obtain ⟨gi, hgi, ngi⟩ := pget ht hi
        have hgi' : (g :: ws)[i + 1]? = some gi := hgi
        have hlt := (List.getElem?_eq_some_iff.mp hgi').1
        refine ⟨_, rfl, _, rfl, v, xi, _, gi, rfl, f1, ngi.mono s1.tx, hc.on (i + 1) (by omega) (by omega), hc.all gi (List.mem_of_getElem? hgi'), fun H2 v2 s2 f2 => ⟨_, _, rfl, s1.trans s2, s2 q _ h1, ?_⟩⟩
        rw [take_snoc hgi', wholeL_snoc (take_ne hc.ne (by omega))]
        exact f2
      · obtain ⟨u, v, rfl, s1, h1, f1⟩ := hP
        rw [ht.length, List.take_of_length_le (by simp)] at f1
        exact ⟨_, rfl, k _ _ s1 f1⟩
theorem sc_again : FnScope ["_law_told", "_law_many_so"] ["_law_told", "_law_many_so"] (defScope (top 52)) := ⟨rfl, rfl, rfl, by decide +kernel, rfl, by decide +kernel, by decide +kernel⟩
theorem ok_again (T : Txt K mg) : Dn P w K mg base CX0 7 "_law_again" ["_law_told", "_law_many_so"] spAgain := by
  refine Dn.mk0 (T.d 34) sc_again (fun vs H Q E h => ?_) (fun _ _ _ _ _ _ us hl => match us, hl with | [_, _], _ => rfl) (fun f cdv A outer s H vs Q E hr h => ?_)
  · obtain ⟨x, _, rfl, _⟩ := h
    rfl
  · obtain ⟨x, l, rfl, hx, hc, k⟩ := h
    refine ⟨_, pss_one (ps_ret (pe_dn (ok_wholeT T) hr pass0 (pa_cons (pe_op op_repT (pe_tup (pa_cons (pv 0) pa_nil)) (pv 1)) pa_nil))), ?_⟩
    refine ⟨_, rfl, (by show 1 ≤ sizeLine; decide), fun t ht => ⟨_, rfl, t, 2, _, rfl, rfl, SqT.of upd_same, (by simp), (by decide), (by decide), (by show 1 ≤ 1000; decide), fun q hq => ?_⟩⟩
    have s1 := (same_new (o := .tup [x]) ht).trans (same_new (o := .tup (List.replicate (2 : Int).toNat [x]).flatten) hq)
    exact ⟨q, [x, x], [l, l], rfl, upd_same, .cons (hx.mono s1.tx) (.cons (hx.mono s1.tx) .nil), hc, fun H' v s2 f2 => k H' v (s1.trans s2) f2⟩
theorem sc_value : FnScope ["_law_told", "_law_worth", "_law_found", "_law_number_here"] ["_law_told", "_law_worth"] (defScope (top 53)) := ⟨rfl, rfl, rfl, by decide +kernel, rfl, by decide +kernel, by decide +kernel⟩
theorem ok_value (T : Txt K mg) : Dn P w K mg base CX0 4 "_law_value" ["_law_told", "_law_worth"] spValue := by
  refine Dn.mk0 (T.d 35) sc_value (fun vs H Q E h => ?_) (fun _ _ _ _ _ _ us hl => match us, hl with | [_, _], _ => rfl) (fun f cdv A outer s H vs Q E hr h => ?_)
  · obtain ⟨x, y, a, b, rfl, _⟩ := h
    rfl
  · obtain ⟨x, y, l, n, rfl, ⟨px, xs, rfl, hpx, rx⟩, hy, bl, ll, ln, k⟩ := h
    have nd := sc_value.nd
    refine ⟨_, pss_cons (ps_set (i := 2) nd rfl (Or.inl rfl) (pe_tup (pa_cons pe_int (pa_cons pe_int pa_nil))))
      (pss_cons (ps_for PassesOwn.never rfl (pi_tup (pe_revT (pv 0))) (pg_name (i := 3) nd rfl (Or.inl rfl))
        (pss_one (ps_set (i := 2) nd rfl (Or.inl rfl) (pe_dn (ok_add T) hr pass0 (pa_cons (pe_dn (ok_mul T) hr pass0 (pa_cons (pv 2) (pa_cons (pv 1) pa_nil))) (pa_cons (pv 3) pa_nil))))))
      (pss_one (ps_ret (pv 2)))), ?_⟩
    refine ⟨(by show 2 ≤ sizeLine; decide), fun z hz => ?_⟩
    have s0 := same_new (o := .tup [.int 0, .int 1]) hz
    refine ⟨_, rfl, px, xs, rfl, SqT.of (s0 px _ hpx), fun q hq => ?_⟩
    have s1 := s0.trans (same_new (o := .tup xs.reverse) hq)
    refine ⟨q, rfl, ⟨_, SqT.of upd_same⟩, ?_⟩
    have rr := prev rx
    refine for_tup (xs := xs.reverse) (fun i σ H1 => ∃ u v, σ = [some (.ref px), some y, some v, u] ∧ Same H H1 ∧ H1 q = some (.tup xs.reverse) ∧ NumV H1 v (ev (l.drop (l.length - i)) (n : Rat)))
      ⟨_, _, rfl, s1, upd_same, ?_⟩
      (fun i σ H1 _ ⟨u, v, h0, s1, h1, _⟩ => SqT.of h1) (fun i xi σ H1 hi hP => ?_) (fun σ H1 hP => ?_)
    · rw [Nat.sub_zero, List.drop_length]
      exact NumV.mono (tx_new hq) (zero_num upd_same)
    · obtain ⟨u, v, rfl, s1, h1, f1⟩ := hP
      obtain ⟨ci, hci, nci⟩ := pget rr hi
      have hci' : ci ∈ l := List.mem_reverse.mp (List.mem_of_getElem? hci)
      have hn : Bd n 0 (n : Rat) := bd_nat n
      have hsz := ev_sz bl ll ln (l.length - i)
      refine ⟨_, rfl, _, rfl, v, y, _, _, rfl, f1, hy.mono s1.tx, hsz.1, hn.sz (m := 9) (by omega) (by decide) (by decide), fun H2 v2 s2 f2 => ?_⟩
      refine ⟨_, rfl, v2, xi, _, ci, rfl, f2, nci.mono (s1.trans s2).tx, hsz.2, bl.sz hci', fun H3 v3 s3 f3 => ⟨_, _, rfl, s1.trans (s2.trans s3), s3 q _ (s2 q _ h1), ?_⟩⟩
      rw [← hstep l (n : Rat) hci]
      exact f3
    · obtain ⟨u, v, rfl, s1, h1, f1⟩ := hP
      rw [rr.length, List.length_reverse, Nat.sub_self, List.drop_zero] at f1
      exact ⟨_, rfl, k _ _ s1 f1⟩
theorem sc_parted : FnScope ["_law_near", "_law_far", "_law_place"] ["_law_near", "_law_far"] (defScope (top 59)) := ⟨rfl, rfl, rfl, by decide +kernel, rfl, by decide +kernel, by decide +kernel⟩
theorem ok_parted (T : Txt K mg) : Dn P w K mg base CX0 5 "_law_parted" ["_law_near", "_law_far"] spParted := by
  refine Dn.mk0 (T.d 41) sc_parted (fun vs H Q E h => ?_) (fun _ _ _ _ _ _ us hl => match us, hl with | [_, _], _ => rfl) (fun f cdv A outer s H vs Q E hr h => ?_)
  · obtain ⟨x, y, a, b, rfl, _⟩ := h
    rfl
  · obtain ⟨x, y, a, b, rfl, hx, hy, ba, bb', la, lb, k⟩ := h
    have hx' := hx
    have hy' := hy
    obtain ⟨px, xs, rfl, hpx, rx⟩ := hx
    obtain ⟨py, ys, rfl, hpy, ry⟩ := hy
    have nd := sc_parted.nd
    refine ⟨_, pss_cons (ps_for PassesOwn.never rfl (pi_range1 rfl (T.b 1) (pa_cons (pe_callB (call_max2 rfl) (by rfl) (T.b 4) (by decide +kernel) (pa_cons (pe_callB call_len_seq (by rfl) (T.b 0) PySem.boot_len (pa_cons (pv 0) pa_nil)) (pa_cons (pe_callB call_len_seq (by rfl) (T.b 0) PySem.boot_len (pa_cons (pv 1) pa_nil)) pa_nil))) pa_nil)) (pg_name (i := 2) nd rfl (Or.inl rfl))
        (pss_one (ps_if (pt_cmpR (op_neD hr.units) (pe_dn (ok_value T) hr pass0 (pa_cons (pv 0) (pa_cons (pe_tup (pa_cons (pv 2) (pa_cons pe_int pa_nil))) pa_nil))) (pe_dn (ok_value T) hr pass0 (pa_cons (pv 1) (pa_cons (pe_tup (pa_cons (pv 2) (pa_cons pe_int pa_nil))) pa_nil))) (nomark _)) (pss_one (ps_ret (pv 2))) pss_nil)))
      (pss_one (ps_ret pe_non)), ?_⟩
    refine ⟨_, rfl, px, _, rfl, .inr (SqT.of hpx), _, rfl, py, _, rfl, .inr (SqT.of hpy), _, _, rfl, ?_⟩
    rw [max_int, rx.length, ry.length]
    refine ⟨_, rfl, by omega, by omega, for_range (n := max a.length b.length) (fun i σ H1 => ∃ u, σ = [some (.ref px), some (.ref py), u] ∧ Same H H1 ∧ ∀ k < i, ev a (k : Rat) = ev b (k : Rat)) ⟨_, rfl, Same.refl _, fun k hk => absurd hk (Nat.not_lt_zero k)⟩ (fun i σ H1 hi hP => ?_) (fun σ H1 hP => ?_)⟩
    · obtain ⟨u, rfl, s1, he⟩ := hP
      have wn : ∀ (H : Hp) (t : Addr), H t = some (.tup [.int (0 + (i : Int)), .int 1]) → NumV H (.ref t) (i : Rat) := fun H t h => NumV.of h (by rw [Int.zero_add]; exact Rat.num_natCast i) (by rw [Rat.den_natCast]; rfl)
      refine ⟨_, rfl, _, rfl, (by show 2 ≤ sizeLine; decide), fun t ht => ⟨.ref px, .ref t, a, i, rfl, hx'.mono (s1.tx.trans (tx_new ht)), wn _ _ upd_same, ba, la, by omega, fun H2 v2 s2 n2 => ?_⟩⟩
      refine ⟨_, rfl, _, rfl, (by show 2 ≤ sizeLine; decide), fun t2 ht2 => ⟨.ref py, .ref t2, b, i, rfl, hy'.mono (s1.tx.trans ((tx_new ht).trans (s2.tx.trans (tx_new ht2)))), wn _ _ upd_same, bb', lb, by omega, fun H3 v3 s3 n3 => ?_⟩⟩
      refine ⟨_, _, (n2.mono ((tx_new ht2).trans s3.tx)).dp, n3.dp, shaped_num _, shaped_num _, _, rfl, ?_⟩
      have s4 := s1.trans ((same_new (o := .tup [.int (0 + (i : Int)), .int 1]) ht).trans (s2.trans ((same_new (o := .tup [.int (0 + (i : Int)), .int 1]) ht2).trans s3)))
      rw [eqv_num]
      by_cases hq : ev a (i : Rat) = ev b (i : Rat)
      · refine ifF (by rw [decide_eq_true hq]; rfl) ⟨_, rfl, s4, fun k hk => ?_⟩
        by_cases hki : k = i
        · subst hki
          exact hq
        · exact he k (by omega)
      · refine ifT (by rw [decide_eq_false hq]; rfl) ⟨_, rfl, ?_⟩
        have := k H3 s4
        rw [parted_some he hi hq] at this
        rw [Int.zero_add]
        exact this
    · obtain ⟨u, rfl, s1, he⟩ := hP
      have := k H1 s1
      rw [parted_no he] at this
      exact this
end
end K63
set_option Elab.async false
set_option linter.all false
set_option maxRecDepth 100000
set_option maxHeartbeats 4000000
namespace K63
open PySem PySem.Spec PyProof.Rows L2
/-! ### the draws' state -/
structure St5 (H : Hp) (d c lf : Addr) (n : Nat) : Prop where
  dict : ∃ k : Nat, H d = some (.dK [(Sum.inr "cells", .ref c), (Sum.inr "lefts", .ref lf), (Sum.inr "at", .int (k : Int))]) ∧ k ≤ n
  cells : ∃ cs ls : List Int, H c = some (.lst (cs.map V.int)) ∧ H lf = some (.lst (ls.map V.int)) ∧ cs.length = ls.length ∧ 0 < cs.length
  nc : c ≠ lf
/-- all but the state stands -/
def Kp (d lf : Addr) (H H' : Hp) : Prop := ∀ b o, b ≠ d → b ≠ lf → H b = some o → H' b = some o
theorem Kp.refl (d lf : Addr) (H : Hp) : Kp d lf H H := fun _ _ _ _ h => h
theorem Kp.trans {d lf : Addr} {H H1 H2 : Hp} (a : Kp d lf H H1) (b : Kp d lf H1 H2) : Kp d lf H H2 := fun c o h1 h2 h => b c o h1 h2 (a c o h1 h2 h)
theorem Kp.same {d lf : Addr} {H H' : Hp} (s : Same H H') : Kp d lf H H' := fun b o _ _ h => s b o h
theorem St5.mono {H : Hp} {d c lf : Addr} {n m : Nat} (h : St5 H d c lf n) (hm : n ≤ m) : St5 H d c lf m := ⟨let ⟨k, a, b⟩ := h.dict; ⟨k, a, Nat.le_trans b hm⟩, h.cells, h.nc⟩
theorem St5.same {H H' : Hp} {d c lf : Addr} {n : Nat} (h : St5 H d c lf n) (s : Same H H') : St5 H' d c lf n :=
  ⟨let ⟨k, a, b⟩ := h.dict; ⟨k, s _ _ a, b⟩, let ⟨cs, ls, a, b, e⟩ := h.cells; ⟨cs, ls, s _ _ a, s _ _ b, e⟩, h.nc⟩
/-- a list of one's own is changed -/
theorem St5.lst {H : Hp} {d c lf : Addr} {n : Nat} (h : St5 H d c lf n) {D : Addr} {xs : List V} {o : HO} (hD : H D = some (.lst xs)) (h1 : D ≠ c) (h2 : D ≠ lf) : St5 (upd H D o) d c lf n := by
  obtain ⟨⟨k, a, b⟩, ⟨cs, ls, e1, e2, e3⟩, nc⟩ := h
  exact ⟨⟨k, by rw [upd_ne (ne_of a hD (by intro z; cases z))]; exact a, b⟩, ⟨cs, ls, by rw [upd_ne (Ne.symm h1)]; exact e1, by rw [upd_ne (Ne.symm h2)]; exact e2, e3⟩, nc⟩
theorem St5.tx {H H' : Hp} {d c lf : Addr} {n : Nat} (h : St5 H d c lf n) (k : Kp d lf H H') : TExt H H' := fun b xs e => by
  obtain ⟨⟨j, a, h3⟩, ⟨cs, ls, e1, e2, h4⟩, h5⟩ := h
  exact k b _ (ne_of e a (by intro z; cases z)) (ne_of e e2 (by intro z; cases z)) e
theorem St5.new {H : Hp} {d c lf : Addr} {n : Nat} (h : St5 H d c lf n) {D : Addr} (hD : H D = none) : D ≠ d ∧ D ≠ c ∧ D ≠ lf := by
  obtain ⟨⟨j, a, h3⟩, ⟨cs, ls, e1, e2, h4⟩, h5⟩ := h
  exact ⟨fun z => (by rw [z, a] at hD; cases hD), fun z => (by rw [z, e1] at hD; cases hD), fun z => (by rw [z, e2] at hD; cases hD)⟩
theorem Kp.upd {d lf : Addr} {H H1 : Hp} (a : Kp d lf H H1) {D : Addr} {o : HO} (h : H D = none) : Kp d lf H (upd H1 D o) := fun b u h1 h2 e => by
  rw [upd_ne (ne_of_none e h)]
  exact a b u h1 h2 e
def spMixed : Sp := fun vs H Q _ => ∃ (c : Int) (k : Nat), vs = [.int c, .int (k : Int)] ∧ k < 2 ^ 40 ∧ ∀ r : Int, r.natAbs < 2 ^ 31 → Q (.int r) H
def spDraw : Sp := fun vs H Q _ => ∃ (d c lf : Addr) (n m : Nat), vs = [.ref d, .int (m : Int)] ∧ St5 H d c lf n ∧ n ≤ 1000000 ∧ 0 < m ∧ m ≤ 1000000 ∧
  ∀ H' (r : Nat), r < m → Kp d lf H H' → St5 H' d c lf (n + 1) → Q (.int (r : Int)) H'
theorem mod_abs (a : Int) {m : Int} (h : 0 < m) (h2 : m < 2 ^ 31) : (a.fmod m).natAbs < 2 ^ 31 := by
  have := Int.fmod_nonneg_of_pos a h
  have := Int.fmod_lt_of_pos a h
  omega
theorem mod_nat (a : Int) {m : Nat} (h : 0 < m) : ∃ r : Nat, a.fmod (m : Int) = (r : Int) ∧ r < m := by
  have h1 := Int.fmod_nonneg_of_pos a (b := (m : Int)) (by omega)
  have h2 := Int.fmod_lt_of_pos a (b := (m : Int)) (by omega)
  exact ⟨(a.fmod (m : Int)).toNat, by omega, by omega⟩
section
variable {P : Program} {w : World} {K : PySem.W.Frag} {mg : Str → Option Value} {base : Heap}
theorem sc_mixed : FnScope ["_law_cell", "_law_k"] ["_law_cell", "_law_k"] (defScope (top 37)) := ⟨rfl, rfl, rfl, by decide +kernel, rfl, by decide +kernel, by decide +kernel⟩
theorem ok_mixed (T : Txt K mg) : Dn P w K mg base CX0 1 "_law_mixed" ["_law_cell", "_law_k"] spMixed := by
  refine Dn.mk0 (T.d 19) sc_mixed (fun vs H Q E h => ?_) (fun _ _ _ _ _ _ us hl => match us, hl with | [_, _], _ => rfl) (fun f cdv A outer s H vs Q E hr h => ?_)
  · obtain ⟨x, y, rfl, _⟩ := h
    rfl
  · obtain ⟨c, k, rfl, hk, q⟩ := h
    have nd := sc_mixed.nd
    refine ⟨_, pss_cons (ps_set (i := 0) nd rfl (Or.inl rfl) (pe_op op_modN (pe_callTy call_int1 (by rfl) (T.b 7) (by decide +kernel) (pa_cons (pv 0) pa_nil)) pe_int))
      (pss_one (ps_ret (pe_op op_modN (pe_op op_mulW (pe_op op_modN (pe_op op_add (pe_op op_add (pe_op op_mulW (pv 0) (pe_op op_add pe_int (pe_op op_mulW (pe_op op_mulW pe_int (pv 1)) (pv 1)))) (pe_op op_mulW pe_int (pv 1))) pe_int) pe_int) pe_int) pe_int))), ?_⟩
    have hkk : k * k < 2 ^ 80 := by
      have := Nat.mul_lt_mul'' hk hk
      rwa [← Nat.pow_add] at this
    have e2k : ((2 : Int) * (k : Int)) = ((2 * k : Nat) : Int) := by omega
    have e2kk : ((2 : Int) * (k : Int) * (k : Int)) = ((2 * (k * k) : Nat) : Int) := by
      rw [e2k, ← Int.natCast_mul, Nat.mul_assoc]
    refine ⟨_, rfl, .inl ⟨_, rfl, _, _, rfl, rfl, (by show (2147483647 : Int) ≠ 0; decide), ?_⟩⟩
    have hc1 := mod_abs c (m := 2147483647) (by decide) (by decide)
    refine ⟨_, rfl, _, rfl, _, _, rfl, rfl, sz_mul (m := 2) (n := 40) (by decide) (by omega) (by decide) (by decide) (by decide), ?_⟩
    refine ⟨_, rfl, _, _, rfl, rfl, sz_mul (m := 42) (n := 40) (by rw [e2k]; omega) (by omega) (by decide) (by decide) (by decide), ?_⟩
    refine ⟨_, _, rfl, rfl, _, _, rfl, rfl, sz_mul (m := 31) (n := 90) hc1 (by rw [e2kk]; omega) (by decide) (by decide) (by decide), ?_⟩
    refine ⟨_, rfl, _, _, rfl, rfl, sz_mul (m := 20) (n := 40) (by decide) (by omega) (by decide) (by decide) (by decide), ?_⟩
    refine ⟨_, _, rfl, rfl, _, _, rfl, rfl, _, _, rfl, rfl, (by show (2147483647 : Int) ≠ 0; decide), ?_⟩
    refine ⟨_, _, rfl, rfl, sz_mul (m := 31) (n := 20) (mod_abs _ (by decide) (by decide)) (by decide) (by decide) (by decide) (by decide), ?_⟩
    exact ⟨_, _, rfl, rfl, (by show (2147483629 : Int) ≠ 0; decide), q _ (mod_abs _ (by decide) (by decide))⟩
theorem sc_draw : FnScope ["_law_state", "_law_limit", "_law_at", "_law_place", "_law_left", "_law_number_here"] ["_law_state", "_law_limit"] (defScope (top 39)) := ⟨rfl, rfl, rfl, by decide +kernel, rfl, by decide +kernel, by decide +kernel⟩
theorem ok_draw (T : Txt K mg) : Dn P w K mg base CX0 2 "_law_draw" ["_law_state", "_law_limit"] spDraw := by
  refine Dn.mk0 (T.d 21) sc_draw (fun vs H Q E h => ?_) (fun _ _ _ _ _ _ us hl => match us, hl with | [_, _], _ => rfl) (fun f cdv A outer s H vs Q E hr h => ?_)
  · obtain ⟨_, _, _, _, _, rfl, _⟩ := h
    rfl
  · obtain ⟨d, c, lf, n, m, rfl, st, hn, hm, hm2, q⟩ := h
    have nd := sc_draw.nd
    have hu := hu_of hr
    refine ⟨_, pss_cons (ps_set (i := 2) nd rfl (Or.inl rfl) (pe_dget hu (pv 0) pe_str (fun _ _ => rfl)))
      (pss_cons (ps_dput hu (pv 0) pe_str (pe_op op_add (pv 2) pe_int) rfl)
      (pss_cons (ps_set (i := 3) nd rfl (Or.inl rfl) (pe_op op_modN (pe_callTy call_int1 (by rfl) (T.b 7) (by decide +kernel) (pa_cons (pv 2) pa_nil)) (pe_callB call_len_seq (by rfl) (T.b 0) PySem.boot_len (pa_cons (pe_dget hu (pv 0) pe_str (fun _ _ => rfl)) pa_nil))))
      (pss_cons (ps_set (i := 4) nd rfl (Or.inl rfl) (pe_ix ix_list (pe_dget hu (pv 0) pe_str (fun _ _ => rfl)) (pv 3) (fun _ _ => rfl)))
      (pss_cons (ps_if (pt_cmpR op_gt (pv 4) pe_int (nomark _)) (pss_cons (ps_asg (pe_op op_fdivW (pv 4) (pv 1)) (pg_sub (pe_dget hu (pv 0) pe_str (fun _ _ => rfl)) (pv 3) set_list))
          (pss_one (ps_ret (pe_op op_modN (pe_callTy call_int1 (by rfl) (T.b 7) (by decide +kernel) (pa_cons (pv 4) pa_nil)) (pv 1))))) pss_nil)
      (pss_cons (ps_set (i := 5) nd rfl (Or.inl rfl) (pe_dn (ok_mixed T) hr pass0 (pa_cons (pe_dn (ok_mixed T) hr pass0 (pa_cons (pe_ix ix_list (pe_dget hu (pv 0) pe_str (fun _ _ => rfl)) (pv 3) (fun _ _ => rfl)) (pa_cons (pv 2) pa_nil))) (pa_cons (pe_op op_add pe_int (pv 2)) pa_nil))))
      (pss_one (ps_ret (pe_op op_modN (pe_op op_fdivW (pe_callTy call_int1 (by rfl) (T.b 7) (by decide +kernel) (pa_cons (pe_op op_add (pe_op op_mulW (pv 5) pe_int) (pe_dn (ok_mixed T) hr pass0 (pa_cons (pv 5) (pa_cons (pe_op op_add pe_int (pv 2)) pa_nil)))) pa_nil)) pe_int) (pv 1))))))))), ?_⟩
    obtain ⟨⟨k, hd, hk⟩, ⟨cs, ls, hc, hl, el, pl⟩, nc⟩ := st
    have put : putK [((Sum.inr "cells" : Key), V.ref c), (Sum.inr "lefts", V.ref lf), (Sum.inr "at", V.int (k : Int))] (Sum.inr "at") (V.int ((k : Int) + 1)) = [((Sum.inr "cells" : Key), V.ref c), (Sum.inr "lefts", V.ref lf), (Sum.inr "at", V.int (((k + 1 : Nat)) : Int))] := rfl
    refine ⟨_, rfl, d, _, rfl, DGet.k (k := Sum.inr "at") hd, ?_⟩
    refine ⟨_, rfl, _, _, rfl, rfl, _, rfl, d, _, rfl, DPut.k (k := Sum.inr "at") hd (by show 3 < sizeLine; decide), ?_⟩
    rw [put]
    generalize hH1 : upd H d (.dK [(Sum.inr "cells", .ref c), (Sum.inr "lefts", .ref lf), (Sum.inr "at", .int (((k + 1 : Nat)) : Int))]) = H1
    have hd1 : H1 d = some (.dK [(Sum.inr "cells", .ref c), (Sum.inr "lefts", .ref lf), (Sum.inr "at", .int (((k + 1 : Nat)) : Int))]) := by rw [← hH1]; exact upd_same
    have hc1 : H1 c = some (.lst (cs.map V.int)) := by rw [← hH1, upd_ne (ne_of hc hd (by intro z; cases z))]; exact hc
    have hl1 : H1 lf = some (.lst (ls.map V.int)) := by rw [← hH1, upd_ne (ne_of hl hd (by intro z; cases z))]; exact hl
    have kp1 : Kp d lf H H1 := fun b o h1 _ e => by rw [← hH1, upd_ne h1]; exact e
    have lsz : 0 < ((cs.map V.int).length) := by simpa using pl
    refine ⟨_, rfl, .inl ⟨_, rfl, _, rfl, d, _, rfl, DGet.k (k := Sum.inr "cells") hd1, c, _, rfl, .inl (SqL.of hc1), _, _, rfl, rfl, by omega, ?_⟩⟩
    obtain ⟨j, ej, hj⟩ := mod_nat ((k : Nat) : Int) lsz
    show gName 3 (V.int (Int.fmod ((k : Nat) : Int) (((cs.map V.int).length : Nat) : Int))) _ _ _
    rw [ej]
    have hjl : j < ls.length := by
      rw [List.length_map] at hj
      omega
    have hlj : (ls.map V.int)[j]? = some (.int ls[j]) := by simp [hjl]
    refine ⟨_, rfl, d, _, rfl, DGet.k (k := Sum.inr "lefts") hd1, _, rfl, lf, _, _, _, rfl, rfl, SqL.of hl1, atI_nat hlj, ?_⟩
    refine ⟨_, rfl, _, _, rfl, rfl, _, rfl, ?_⟩
    by_cases hg : ls[j] > 0
    · refine ifT (decide_eq_true hg) ?_
      refine ⟨_, rfl, _, rfl, _, _, rfl, rfl, wide_div (b := 21) (by omega) (by omega) (by decide) (by decide), ?_⟩
      refine ⟨_, rfl, d, _, rfl, DGet.k (k := Sum.inr "lefts") hd1, _, rfl, lf, _, _, j, rfl, rfl, hl1, ?_, ?_⟩
      · unfold ixN
        rw [if_pos (by omega), if_pos (by rw [List.length_map]; omega)]
        rfl
      · refine ⟨_, rfl, .inl ⟨_, rfl, _, rfl, _, _, rfl, rfl, by omega, ?_⟩⟩
        obtain ⟨r, er, hr2⟩ := mod_nat ls[j] hm
        show Q (V.int (Int.fmod ls[j] (m : Int))) _
        rw [er]
        refine q _ r hr2 (fun b o h1 h2 e => by rw [upd_ne h2]; exact kp1 b o h1 h2 e) ⟨⟨k + 1, ?_, by omega⟩, ⟨cs, ls.set j (ls[j] / (m : Int)), ?_, ?_, by rw [List.length_set]; exact el, pl⟩, nc⟩
        · rw [upd_ne (ne_of hd1 hl1 (by intro z; cases z))]
          exact hd1
        · rw [upd_ne nc]
          exact hc1
        · rw [upd_same, List.map_set]
    · refine ifF (decide_eq_false hg) ?_
      have hjc : j < cs.length := by omega
      have hcj : (cs.map V.int)[j]? = some (.int cs[j]) := by simp [hjc]
      refine ⟨_, rfl, d, _, rfl, DGet.k (k := Sum.inr "cells") hd1, _, rfl, c, _, _, _, rfl, rfl, SqL.of hc1, atI_nat hcj, ?_⟩
      refine ⟨_, rfl, cs[j], k, rfl, Nat.lt_of_le_of_lt (by omega : k ≤ 1000000) (by decide), fun r1 hr1 => ?_⟩
      refine ⟨_, rfl, _, _, rfl, rfl, r1, 40 + k, by simp, Nat.lt_of_le_of_lt (by omega : 40 + k ≤ 1000040) (by decide), fun r2 hr2 => ?_⟩
      refine ⟨_, rfl, _, _, rfl, rfl, sz_mul (m := 31) (n := 31) hr2 (by decide) (by decide) (by decide) (by decide), ?_⟩
      refine ⟨_, rfl, _, rfl, _, _, rfl, rfl, r2, 7 + k, by simp, Nat.lt_of_le_of_lt (by omega : 7 + k ≤ 1000007) (by decide), fun r3 hr3 => ?_⟩
      refine ⟨_, _, rfl, rfl, .inl ⟨_, rfl, _, _, rfl, rfl, wide_div (b := 7) (by decide) (by decide) (by decide) (by decide), ?_⟩⟩
      refine ⟨_, rfl, _, _, rfl, rfl, by omega, ?_⟩
      obtain ⟨r, er, hr4⟩ := mod_nat ((r2 * 2147483647 + r3) / 64) hm
      show Q (V.int (Int.fmod ((r2 * 2147483647 + r3) / 64) (m : Int))) _
      rw [er]
      exact q H1 r hr4 kp1 ⟨⟨k + 1, hd1, by omega⟩, ⟨cs, ls, hc1, hl1, el, pl⟩, nc⟩
end
end K63
set_option Elab.async false
set_option linter.all false
set_option maxRecDepth 100000
set_option maxHeartbeats 4000000
namespace K63
open PySem PySem.Spec PyProof.Rows L2
def spNumber : Sp := fun vs H Q _ => ∃ (d c lf : Addr) (n : Nat), vs = [.ref d, .int 2, .int 2] ∧ St5 H d c lf n ∧ n ≤ 900000 ∧ ∀ H' v q, Sn q → Kp d lf H H' → St5 H' d c lf (n + 2) → NumV H' v q → Q v H'
def spStep : Sp := fun vs H Q _ => ∃ (d c lf : Addr) (n m : Nat), vs = [.ref d, .int (m : Int), .int 2, .int 2] ∧ m ≤ 3 ∧ St5 H d c lf n ∧ n ≤ 800000 ∧ ∀ H' v l, Lw m l → Kp d lf H H' → St5 H' d c lf (n + 10) → StepV H' v l → Q v H'
section
variable {P : Program} {w : World} {K : PySem.W.Frag} {mg : Str → Option Value} {base : Heap}
theorem sc_number : FnScope ["_law_state", "_law_most", "_law_below"] ["_law_state", "_law_most", "_law_below"] (defScope (top 40)) := ⟨rfl, rfl, rfl, by decide +kernel, rfl, by decide +kernel, by decide +kernel⟩
theorem ok_number (T : Txt K mg) : Dn P w K mg base CX0 3 "_law_number" ["_law_state", "_law_most", "_law_below"] spNumber := by
  refine Dn.mk0 (T.d 22) sc_number (fun vs H Q E h => ?_) (fun _ _ _ _ _ _ us hl => match us, hl with | [_, _, _], _ => rfl) (fun f cdv A outer s H vs Q E hr h => ?_)
  · obtain ⟨_, _, _, _, rfl, _⟩ := h
    rfl
  · obtain ⟨d, c, lf, n, rfl, st, hn, k⟩ := h
    refine ⟨_, pss_one (ps_ret (pe_dn (ok_frac T) hr pass0 (pa_cons (pe_op op_sub (pe_dn (ok_draw T) hr pass0 (pa_cons (pv 0) (pa_cons (pe_op op_add (pe_op op_mulW pe_int (pv 1)) pe_int) pa_nil))) (pv 1))
      (pa_cons (pe_op op_add pe_int (pe_dn (ok_draw T) hr pass0 (pa_cons (pv 0) (pa_cons (pv 2) pa_nil)))) pa_nil)))), ?_⟩
    refine ⟨_, rfl, _, rfl, _, _, rfl, rfl, sz_mul (m := 3) (n := 3) (by decide) (by decide) (by decide) (by decide) (by decide), _, _, rfl, rfl, d, c, lf, n, 5, rfl, st, by omega, by decide, by decide, fun H1 r1 h1 k1 st1 => ?_⟩
    refine ⟨_, rfl, _, _, rfl, rfl, _, rfl, _, rfl, d, c, lf, n + 1, 2, rfl, st1, by omega, by decide, by decide, fun H2 r2 h2 k2 st2 => ?_⟩
    have e := sn_of (a := (r1 : Int) - 2) (b := 1 + (r2 : Int)) (by omega) (by omega) (by omega) (by omega)
    exact ⟨_, _, rfl, rfl, (r1 : Int) - 2, 1 + (r2 : Int), rfl, by omega, Nat.lt_of_lt_of_le (by omega : (1 + (r2 : Int)).natAbs < 4) (Nat.pow_le_pow_right (n := 2) (by decide) (by decide : 2 ≤ 9000)), fun H3 v s3 nv => k H3 v _ e.1 (k1.trans (k2.trans (Kp.same s3))) (st2.same s3) nv⟩
theorem sc_step : FnScope ["_law_state", "_law_size", "_law_most", "_law_below", "_law_found", "_law_power", "_law_head"] ["_law_state", "_law_size", "_law_most", "_law_below"] (defScope (top 41)) := ⟨rfl, rfl, rfl, by decide +kernel, rfl, by decide +kernel, by decide +kernel⟩
theorem ok_step (T : Txt K mg) : Dn P w K mg base CX0 4 "_law_step" ["_law_state", "_law_size", "_law_most", "_law_below"] spStep := by
  refine Dn.mk0 (T.d 23) sc_step (fun vs H Q E h => ?_) (fun _ _ _ _ _ _ us hl => match us, hl with | [_, _, _, _], _ => rfl) (fun f cdv A outer s H vs Q E hr h => ?_)
  · obtain ⟨_, _, _, _, _, rfl, _⟩ := h
    rfl
  · obtain ⟨d, c, lf, n, m, rfl, hm, st, hn, k⟩ := h
    have nd := sc_step.nd
    refine ⟨_, pss_cons (ps_setLc (i := 4) (own := [("_law_power", 5)]) (g := gName 5) (tt := tYes) rfl nd rfl rfl (sw_true rfl rfl rfl (by decide +kernel)) (pi_range1 rfl (T.b 1) (pa_cons (pv 1) pa_nil)) (blkOk_by (N := ["_law_state", "_law_size", "_law_most", "_law_below", "_law_found", "_law_power", "_law_head"]) (sc := defScope (top 41)) (by decide +kernel)) (fun _ _ _ _ _ => pg_name (i := 5) nd rfl (Or.inl rfl)) (fun _ _ _ _ _ => pts_nil)
        (fun _ _ _ _ _ => pe_dn (ok_number T) hr pass0 (pa_cons (pv 0) (pa_cons (pv 2) (pa_cons (pv 3) pa_nil)))))
      (pss_cons (ps_set (i := 6) nd rfl (Or.inl rfl) (pe_dn ((ok_frac T).up (by decide)) hr pass0 (pa_cons (pe_op op_mulW (pe_op op_add pe_int (pe_dn ((ok_draw T).up (by decide)) hr pass0 (pa_cons (pv 0) (pa_cons (pv 2) pa_nil)))) (pe_op op_sub pe_int (pe_op op_mulW pe_int (pe_dn ((ok_draw T).up (by decide)) hr pass0 (pa_cons (pv 0) (pa_cons pe_int pa_nil))))))
        (pa_cons (pe_op op_add pe_int (pe_dn ((ok_draw T).up (by decide)) hr pass0 (pa_cons (pv 0) (pa_cons (pv 3) pa_nil)))) pa_nil))))
      (pss_one (ps_ret (pe_callTy call_tuple_of (by rfl) (T.b 6) (by decide +kernel) (pa_cons (pe_op op_cat (pv 4) (pe_lst (pa_cons (pv 6) pa_nil))) pa_nil))))), ?_⟩
    refine ⟨_, rfl, m, rfl, by omega, by omega, fun D hD => ?_⟩
    have nD := st.new hD
    refine lc_range (n := m) (fun i H1 => ∃ xs l, H1 D = some (.lst xs) ∧ xs.length = i ∧ Paired (NumV H1) xs l ∧ (∀ c ∈ l, Sn c) ∧ St5 H1 d c lf (n + 2 * i) ∧ Kp d lf H H1) ?_ (fun i H1 hi hP => ?_) (fun H1 hP => ?_)
    · exact ⟨[], [], upd_same, rfl, .nil, by simp, st.same (same_new hD), Kp.same (same_new hD)⟩
    · obtain ⟨xs, l, h1, hl, r1, sn, st1, k1⟩ := hP
      refine ⟨rfl, ?_⟩
      refine ⟨_, rfl, _, rfl, _, rfl, d, c, lf, n + 2 * i, rfl, st1, by omega, fun H2 v q hq k2 st2 nv => ?_⟩
      have h2 : H2 D = some (.lst xs) := k2 D _ nD.1 nD.2.2 h1
      refine ⟨xs, h2, Nat.lt_of_le_of_lt (by omega : xs.length ≤ 5000) sl5000, xs ++ [v], l ++ [q], upd_same, by simp [hl], ?_, ?_, ?_, (k1.trans k2).upd hD⟩
      · exact Paired.snoc (NumVs.mono ((st1.tx k2).trans (tx_lst h2)) r1) (nv.mono (tx_lst h2))
      · intro c hc
        rcases List.mem_append.mp hc with z | z
        · exact sn c z
        · rw [List.mem_singleton.mp z]
          exact hq
      · exact (st2.lst h2 nD.2.1 nD.2.2).mono (by omega)
    · obtain ⟨xs, l, h1, hl, r1, sn, st1, k1⟩ := hP
      have stn := st1.mono (m := n + 6) (by omega)
      refine ⟨_, rfl, _, rfl, d, c, lf, n + 6, 2, rfl, stn, by omega, by decide, by decide, fun H2 r2 hr2 k2 st2 => ?_⟩
      refine ⟨_, _, rfl, rfl, _, rfl, d, c, lf, n + 6 + 1, 2, rfl, st2, by omega, by decide, by decide, fun H3 r3 hr3 k3 st3 => ?_⟩
      refine ⟨_, _, rfl, rfl, sz_mul (m := 3) (n := 3) (by decide) (by omega) (by decide) (by decide) (by decide), _, _, rfl, rfl, _, _, rfl, rfl, sz_mul (m := 3) (n := 3) (by omega) (by omega) (by decide) (by decide) (by decide), ?_⟩
      refine ⟨_, rfl, _, rfl, d, c, lf, n + 6 + 1 + 1, 2, rfl, st3, by omega, by decide, by decide, fun H4 r4 hr4 k4 st4 => ?_⟩
      refine ⟨_, _, rfl, rfl, (1 + (r2 : Int)) * (1 - 2 * (r3 : Int)), 1 + (r4 : Int), rfl, by omega, Nat.lt_of_lt_of_le (by omega : (1 + (r4 : Int)).natAbs < 4) (Nat.pow_le_pow_right (n := 2) (by decide) (by decide : 2 ≤ 9000)), fun H5 v s5 nv => ?_⟩
      have hab : -2 ≤ (1 + (r2 : Int)) * (1 - 2 * (r3 : Int)) ∧ (1 + (r2 : Int)) * (1 - 2 * (r3 : Int)) ≤ 2 ∧ (1 + (r2 : Int)) * (1 - 2 * (r3 : Int)) ≠ 0 := by
        have e3 : r3 = 0 ∨ r3 = 1 := by omega
        rcases e3 with rfl | rfl <;> simp <;> omega
      have e := sn_of (a := (1 + (r2 : Int)) * (1 - 2 * (r3 : Int))) (b := 1 + (r4 : Int)) hab.1 hab.2.1 (by omega) (by omega)
      have k5 := k2.trans (k3.trans (k4.trans (Kp.same s5)))
      have st5 := st4.same s5
      have h5 : H5 D = some (.lst xs) := k5 D _ nD.1 nD.2.2 h1
      have r5 : Paired (NumV H5) xs l := NumVs.mono (st1.tx k5) r1
      refine ⟨_, rfl, _, rfl, (by show 1 ≤ sizeLine; decide), fun o ho => ?_⟩
      have s6 := same_new (o := .lst [v]) ho
      refine ⟨D, o, xs, _, rfl, rfl, s6 _ _ h5, upd_same, Nat.le_trans (by simp; omega : _ ≤ 5000) (Nat.le_of_lt sl5000), fun o2 ho2 => ?_⟩
      have s7 := s6.trans (same_new (o := .lst (xs ++ [v])) ho2)
      refine ⟨o2, _, rfl, .inl ⟨SqL.of upd_same, fun o3 ho3 => ?_⟩⟩
      have s8 := s7.trans (same_new (o := .tup (xs ++ [v])) ho3)
      refine k _ _ (l ++ [((((1 + (r2 : Int)) * (1 - 2 * (r3 : Int)) : Int)) : Rat) / ((1 + (r4 : Int) : Int) : Rat)]) ⟨?_, ?_, ⟨_, List.getLast?_concat .., e.2 hab.2.2⟩⟩ (k1.trans (k5.trans (Kp.same s8))) ((st5.same s8).mono (by omega)) ⟨o3, _, rfl, upd_same, ?_⟩
      · have := r1.length
        simp
        omega
      · intro c hc
        rcases List.mem_append.mp hc with z | z
        · exact sn c z
        · rw [List.mem_singleton.mp z]
          exact e.1
      · exact Paired.snoc (NumVs.mono s8.tx r5) (nv.mono s8.tx)
end
end K63
set_option Elab.async false
set_option linter.all false
set_option maxRecDepth 100000
set_option maxHeartbeats 4000000
namespace K63
open PySem PySem.Spec PyProof.Rows L2
/-! ### written numbers and steps -/
def tNumLit (q : Rat) : TE := fun σ H Q => ∀ H' v, Same H H' → NumV H' v q → Q v H'
def tNumsLit (l : List Rat) : TA := fun σ H Q => ∀ H' vs, Same H H' → Paired (NumV H') vs l → Q vs H'
def tStepLit (l : List Rat) : TE := fun σ H Q => ∀ H' v, Same H H' → StepV H' v l → Q v H'
section
variable {X : Cx} {e : Expr} {es : List Expr}
theorem pe_num {a b : Int} (h : PE X e (tTup (tCons (tC (.int a)) (tCons (tC (.int b)) tNil)))) (q : Rat) (h1 : q.num = a) (h2 : (q.den : Int) = b) : PE X e (tNumLit q) :=
  pe_of h fun σ H Q k => ⟨(by show 2 ≤ sizeLine; decide), fun p hp => k _ _ (same_new hp) (NumV.of upd_same h1 h2)⟩
theorem pe_numN {a b : Int} (h : PE X e (tTup (tCons (tUn (rU fun i => .int (-i)) (tC (.int a))) (tCons (tC (.int b)) tNil)))) (q : Rat) (h1 : q.num = -a) (h2 : (q.den : Int) = b) : PE X e (tNumLit q) :=
  pe_of h fun σ H Q k => ⟨_, rfl, (by show 2 ≤ sizeLine; decide), fun p hp => k _ _ (same_new hp) (NumV.of upd_same h1 h2)⟩
theorem pa_of {t t' : TA} (h : PA X es t) (m : ∀ σ H Q, t' σ H Q → t σ H Q) : PA X es t' := ⟨fun pos pins s σ H Q I q => h.run pos pins s σ H Q I (m σ H Q q)⟩
theorem pa_nums0 (h : PA X es tNil) : PA X es (tNumsLit []) := pa_of h fun σ H Q k => k H [] (Same.refl H) .nil
theorem pa_nums {q : Rat} {l : List Rat} (h : PA X es (tCons (tNumLit q) (tNumsLit l))) : PA X es (tNumsLit (q :: l)) :=
  pa_of h fun σ H Q k H1 v s1 n1 H2 vs s2 n2 => k H2 (v :: vs) (s1.trans s2) (.cons (n1.mono s2.tx) n2)
theorem pe_stepL {l : List Rat} (h : PE X e (tTup (tNumsLit l))) (hl : l.length ≤ 100) : PE X e (tStepLit l) :=
  pe_of h fun σ H Q k H1 vs s1 n1 => ⟨Nat.le_trans (by rw [n1.length]; omega : vs.length ≤ 5000) (Nat.le_of_lt sl5000), fun p hp => k _ _ (s1.trans (same_new hp)) ⟨p, vs, rfl, upd_same, NumVs.mono (tx_new hp) n1⟩⟩
end
def natV (k : Nat) : V := .int (k : Int)
def RowV (H : Hp) (v : V) (ws : List (List Rat)) : Prop := ∃ (p : Addr) (vs : List V), v = .ref p ∧ H p = some (.tup vs) ∧ Paired (StepV H) vs ws
theorem RowV.mono {H H' : Hp} (e : TExt H H') {v : V} {ws : List (List Rat)} (h : RowV H v ws) : RowV H' v ws := by
  obtain ⟨p, vs, rfl, h, r⟩ := h
  exact ⟨p, vs, rfl, e _ _ h, StepVs.mono e r⟩
def spRow : Sp := fun vs H Q _ => ∃ (d c lf S : Addr) (n : Nat) (ss : List Nat), vs = [.ref d, .ref S, .int 2, .int 2] ∧ H S = some (.lst (ss.map natV)) ∧ S ≠ c ∧ S ≠ lf ∧ ss.length ≤ 3 ∧ (∀ s ∈ ss, 1 ≤ s ∧ s ≤ 3) ∧ St5 H d c lf n ∧ n ≤ 700000 ∧
  ∀ H' v ws, ws.length = ss.length → (∀ g ∈ ws, Gd g) → Kp d lf H H' → St5 H' d c lf (n + 30) → RowV H' v ws → Q v H'
def LetV (H : Hp) (v : V) (ks : List Nat) : Prop := ∃ p : Addr, v = .ref p ∧ H p = some (.tup (ks.map natV))
theorem LetV.mono {H H' : Hp} (e : TExt H H') {v : V} {ks : List Nat} (h : LetV H v ks) : LetV H' v ks := by
  obtain ⟨p, rfl, h⟩ := h
  exact ⟨p, rfl, e _ _ h⟩
def spLetters : Sp := fun vs H Q _ => ∃ (d c lf : Addr) (n m : Nat), vs = [.ref d, .int (m : Int), .int 3] ∧ 0 < m ∧ m ≤ 1000 ∧ St5 H d c lf n ∧ n ≤ 700000 ∧
  ∀ H' v ks, ks ≠ [] → ks.length ≤ 3 → (∀ k ∈ ks, k < m) → Kp d lf H H' → St5 H' d c lf (n + 10) → LetV H' v ks → Q v H'
def wordOf (ws : List (List Rat)) (ks : List Nat) : List (List Rat) := ks.map fun k => ws.getD k []
def spWordStep : Sp := fun vs H Q _ => ∃ (x y : V) (ws : List (List Rat)) (ks : List Nat), vs = [x, y] ∧ RowV H x ws ∧ LetV H y ks ∧ (∀ k ∈ ks, k < ws.length) ∧ ks.length ≤ 8 ∧ ChainOk (wordOf ws ks) ∧
  ∀ H' v, Same H H' → StepV H' v (wholeL (wordOf ws ks)) → Q v H'
section
variable {P : Program} {w : World} {K : PySem.W.Frag} {mg : Str → Option Value} {base : Heap}
theorem sc_row : FnScope ["_law_state", "_law_sizes_so", "_law_most", "_law_below", "_law_size"] ["_law_state", "_law_sizes_so", "_law_most", "_law_below"] (defScope (top 42)) := ⟨rfl, rfl, rfl, by decide +kernel, rfl, by decide +kernel, by decide +kernel⟩
theorem ok_row (T : Txt K mg) : Dn P w K mg base CX0 5 "_law_row" ["_law_state", "_law_sizes_so", "_law_most", "_law_below"] spRow := by
  refine Dn.mk0 (T.d 24) sc_row (fun vs H Q E h => ?_) (fun _ _ _ _ _ _ us hl => match us, hl with | [_, _, _, _], _ => rfl) (fun f cdv A outer s H vs Q E hr h => ?_)
  · obtain ⟨_, _, _, _, _, _, rfl, _⟩ := h
    rfl
  · obtain ⟨d, c, lf, S, n, ss, rfl, hS, nSc, nSl, hls, hss, st, hn, k⟩ := h
    have nd := sc_row.nd
    refine ⟨_, pss_one (ps_ret (pe_callTy call_tuple_of (by rfl) (T.b 6) (by decide +kernel) (pa_cons (pe_lc (own := [("_law_size", 4)]) (g := gName 4) (tt := tYes) rfl nd (pi_list (pv 1)) (blkOk_by (N := ["_law_state", "_law_sizes_so", "_law_most", "_law_below", "_law_size"]) (sc := defScope (top 42)) (by decide +kernel)) (fun _ _ _ _ _ => pg_name (i := 4) nd rfl (Or.inl rfl)) (fun _ _ _ _ _ => pts_nil)
      (fun _ _ _ _ _ => pe_dn (ok_step T) hr pass0 (pa_cons (pv 0) (pa_cons (pv 4) (pa_cons (pv 2) (pa_cons (pv 3) pa_nil)))))) pa_nil))), ?_⟩
    refine ⟨_, rfl, S, rfl, ⟨_, SqL.of hS⟩, fun D hD => ?_⟩
    have nD := st.new hD
    have nSd : S ≠ d := by
      obtain ⟨⟨j, a, _⟩, _, _⟩ := st
      exact ne_of hS a (by intro z; cases z)
    refine lc_list (xs := ss.map natV) (fun i H1 => ∃ xs ws, H1 D = some (.lst xs) ∧ xs.length = i ∧ Paired (StepV H1) xs ws ∧ (∀ g ∈ ws, Gd g) ∧ St5 H1 d c lf (n + 10 * i) ∧ Kp d lf H H1) ?_ (fun i H1 _ hP => ?_) (fun i x H1 hx hP => ?_) (fun H1 hP => ?_)
    · exact ⟨[], [], upd_same, rfl, .nil, by simp, st.same (same_new hD), Kp.same (same_new hD)⟩
    · obtain ⟨xs, ws, h1, hl, r1, gd, st1, k1⟩ := hP
      exact SqL.of (k1 S _ nSd nSl hS)
    · obtain ⟨xs, ws, h1, hl, r1, gd, st1, k1⟩ := hP
      have hi : i < ss.length := by
        have := (List.getElem?_eq_some_iff.mp hx).1
        rwa [List.length_map] at this
      obtain ⟨si, hsi⟩ : ∃ si, ss[i]? = some si := ⟨_, List.getElem?_eq_getElem hi⟩
      have hxe : x = V.int (si : Int) := by
        rw [List.getElem?_map, hsi] at hx
        exact (Option.some.inj hx).symm
      subst hxe
      have hs2 := hss si (List.mem_of_getElem? hsi)
      refine ⟨rfl, ?_⟩
      refine ⟨_, rfl, _, rfl, _, rfl, _, rfl, d, c, lf, n + 10 * i, si, rfl, hs2.2, st1, by omega, fun H2 v l hl2 k2 st2 nv => ?_⟩
      have h2 : H2 D = some (.lst xs) := k2 D _ nD.1 nD.2.2 h1
      refine ⟨xs, h2, Nat.lt_of_le_of_lt (by omega : xs.length ≤ 5000) sl5000, xs ++ [v], ws ++ [l], upd_same, by simp [hl], ?_, ?_, (st2.lst h2 nD.2.1 nD.2.2).mono (by omega), (k1.trans k2).upd hD⟩
      · exact Paired.snoc (StepVs.mono ((st1.tx k2).trans (tx_lst h2)) r1) (nv.mono (tx_lst h2))
      · intro g hg
        rcases List.mem_append.mp hg with z | z
        · exact gd g z
        · rw [List.mem_singleton.mp z]
          exact hl2.gd hs2.1 hs2.2
    · obtain ⟨xs, ws, h1, hl, r1, gd, st1, k1⟩ := hP
      rw [List.length_map] at hl st1
      refine ⟨D, xs, rfl, .inl ⟨SqL.of h1, fun o ho => k _ _ ws (by rw [← r1.length]; exact hl) gd (k1.trans (Kp.same (same_new ho))) ((st1.same (same_new ho)).mono (by omega)) ⟨o, xs, rfl, upd_same, StepVs.mono (tx_new ho) r1⟩⟩⟩
theorem sc_letters : FnScope ["_law_state", "_law_many_so", "_law_most_so", "_law_turn"] ["_law_state", "_law_many_so", "_law_most_so"] (defScope (top 54)) := ⟨rfl, rfl, rfl, by decide +kernel, rfl, by decide +kernel, by decide +kernel⟩
theorem ok_letters (T : Txt K mg) : Dn P w K mg base CX0 3 "_law_letters" ["_law_state", "_law_many_so", "_law_most_so"] spLetters := by
  refine Dn.mk0 (T.d 36) sc_letters (fun vs H Q E h => ?_) (fun _ _ _ _ _ _ us hl => match us, hl with | [_, _, _], _ => rfl) (fun f cdv A outer s H vs Q E hr h => ?_)
  · obtain ⟨_, _, _, _, _, rfl, _⟩ := h
    rfl
  · obtain ⟨d, c, lf, n, m, rfl, hm, hm2, st, hn, k⟩ := h
    have nd := sc_letters.nd
    refine ⟨_, pss_one (ps_ret (pe_callTy call_tuple_of (by rfl) (T.b 6) (by decide +kernel) (pa_cons (pe_lc (own := [("_law_turn", 3)]) (g := gName 3) (tt := tYes) rfl nd (pi_range1 rfl (T.b 1) (pa_cons (pe_op op_add pe_int (pe_dn (ok_draw T) hr pass0 (pa_cons (pv 0) (pa_cons (pv 2) pa_nil)))) pa_nil)) (blkOk_by (N := ["_law_state", "_law_many_so", "_law_most_so", "_law_turn"]) (sc := defScope (top 54)) (by decide +kernel)) (fun _ _ _ _ _ => pg_name (i := 3) nd rfl (Or.inl rfl)) (fun _ _ _ _ _ => pts_nil)
      (fun _ _ _ _ _ => pe_dn (ok_draw T) hr pass0 (pa_cons (pv 0) (pa_cons (pv 1) pa_nil)))) pa_nil))), ?_⟩
    refine ⟨_, rfl, _, rfl, d, c, lf, n, 3, rfl, st, by omega, by decide, by decide, fun H0 r hr0 k0 st0 => ?_⟩
    refine ⟨_, _, rfl, rfl, _, rfl, by omega, by omega, fun D hD => ?_⟩
    have nD := st0.new hD
    have hDH : H D = none := by
      cases q : H D with
      | none => rfl
      | some o =>
        rw [k0 D o nD.1 nD.2.2 q] at hD
        cases hD
    refine lc_range (n := (1 + (r : Int)).toNat) (fun i H1 => ∃ ks : List Nat, H1 D = some (.lst (ks.map natV)) ∧ ks.length = i ∧ (∀ k ∈ ks, k < m) ∧ St5 H1 d c lf (n + 1 + i) ∧ Kp d lf H H1) ?_ (fun i H1 hi hP => ?_) (fun H1 hP => ?_)
    · exact ⟨[], upd_same, rfl, by simp, st0.same (same_new hD), k0.upd hDH⟩
    · obtain ⟨ks, h1, hl, hk, st1, k1⟩ := hP
      refine ⟨rfl, ?_⟩
      refine ⟨_, rfl, _, rfl, d, c, lf, n + 1 + i, m, rfl, st1, by omega, hm, by omega, fun H2 r2 hr2 k2 st2 => ?_⟩
      have h2 := k2 D _ nD.1 nD.2.2 h1
      refine ⟨_, h2, Nat.lt_of_le_of_lt (by rw [List.length_map]; omega : _ ≤ 5000) sl5000, ks ++ [r2], by rw [upd_same, List.map_append]; rfl, by simp [hl], ?_, st2.lst h2 nD.2.1 nD.2.2, (k1.trans k2).upd hDH⟩
      intro x hx
      rcases List.mem_append.mp hx with z | z
      · exact hk x z
      · rw [List.mem_singleton.mp z]
        exact hr2
    · obtain ⟨ks, h1, hl, hk, st1, k1⟩ := hP
      refine ⟨D, _, rfl, .inl ⟨SqL.of h1, fun o ho => k _ _ ks (ne_len (by omega)) (by omega) hk (k1.trans (Kp.same (same_new ho))) ((st1.same (same_new ho)).mono (by omega)) ⟨o, rfl, upd_same⟩⟩⟩
theorem sc_wstep : FnScope ["_law_rows_so", "_law_letters_so", "_law_letter"] ["_law_rows_so", "_law_letters_so"] (defScope (top 55)) := ⟨rfl, rfl, rfl, by decide +kernel, rfl, by decide +kernel, by decide +kernel⟩
theorem ok_wstep (T : Txt K mg) : Dn P w K mg base CX0 7 "_law_word_step" ["_law_rows_so", "_law_letters_so"] spWordStep := by
  refine Dn.mk0 (T.d 37) sc_wstep (fun vs H Q E h => ?_) (fun _ _ _ _ _ _ us hl => match us, hl with | [_, _], _ => rfl) (fun f cdv A outer s H vs Q E hr h => ?_)
  · obtain ⟨_, _, _, _, rfl, _⟩ := h
    rfl
  · obtain ⟨x, y, ws, ks, rfl, ⟨px, xs, rfl, hpx, rx⟩, ⟨py, rfl, hpy⟩, hk, hkl, hc, k⟩ := h
    have nd := sc_wstep.nd
    refine ⟨_, pss_one (ps_ret (pe_dn (ok_wholeL T) hr pass0 (pa_cons (pe_lc (own := [("_law_letter", 2)]) (g := gName 2) (tt := tYes) rfl nd (pi_tup (pv 1)) (blkOk_by (N := ["_law_rows_so", "_law_letters_so", "_law_letter"]) (sc := defScope (top 55)) (by decide +kernel)) (fun _ _ _ _ _ => pg_name (i := 2) nd rfl (Or.inl rfl)) (fun _ _ _ _ _ => pts_nil)
      (fun _ _ _ _ _ => pe_ix (r := rIxT K) ix_tup (pv 0) (pv 2) (fun _ _ => rfl))) pa_nil))), ?_⟩
    refine ⟨_, rfl, py, rfl, ⟨_, SqT.of hpy⟩, fun D hD => ?_⟩
    refine lc_tup (xs := ks.map natV) (fun i H1 => ∃ zs, H1 D = some (.lst zs) ∧ Paired (StepV H1) zs (wordOf ws (ks.take i)) ∧ Same H H1) ?_ (fun i H1 _ hP => ?_) (fun i x H1 hx hP => ?_) (fun H1 hP => ?_)
    · exact ⟨[], upd_same, .nil, same_new hD⟩
    · obtain ⟨zs, h1, r1, s1⟩ := hP
      exact SqT.of (s1 _ _ hpy)
    · obtain ⟨zs, h1, r1, s1⟩ := hP
      have hi : i < ks.length := by
        have := (List.getElem?_eq_some_iff.mp hx).1
        rwa [List.length_map] at this
      obtain ⟨si, hsi⟩ : ∃ si, ks[i]? = some si := ⟨_, List.getElem?_eq_getElem hi⟩
      have hxe : x = V.int (si : Int) := by
        rw [List.getElem?_map, hsi] at hx
        exact (Option.some.inj hx).symm
      subst hxe
      have hw := hk si (List.mem_of_getElem? hsi)
      obtain ⟨g, hg⟩ : ∃ g, ws[si]? = some g := ⟨_, List.getElem?_eq_getElem hw⟩
      obtain ⟨v, hv, nv⟩ := pget2 rx hg
      refine ⟨rfl, ?_⟩
      refine ⟨_, rfl, _, rfl, px, _, _, v, rfl, rfl, SqT.of (s1 _ _ hpx), atI_nat hv, zs, h1, ?_, zs ++ [v], upd_same, ?_, Same.upd s1 hD⟩
      · have := r1.length
        unfold wordOf at this
        rw [List.length_map, List.length_take] at this
        exact Nat.lt_of_le_of_lt (by omega : zs.length ≤ 5000) sl5000
      · have e : wordOf ws (ks.take (i + 1)) = wordOf ws (ks.take i) ++ [g] := by
          unfold wordOf
          rw [take_snoc hsi, List.map_append, List.map_singleton, List.getD_eq_getElem?_getD, hg]
          rfl
        rw [e]
        exact Paired.snoc (StepVs.mono (tx_lst h1) r1) ((nv.mono s1.tx).mono (tx_lst h1))
    · obtain ⟨zs, h1, r1, s1⟩ := hP
      rw [List.length_map, List.take_length] at r1
      exact ⟨D, zs, _, rfl, h1, r1, hc, fun H2 v s2 h2 => k H2 v (s1.trans s2) h2⟩
end
end K63
set_option Elab.async false
set_option linter.all false
set_option maxRecDepth 100000
set_option maxHeartbeats 4000000
namespace K63
open PySem PySem.Spec PyProof.Rows L2
def spBegin (K : PySem.W.Frag) : Sp := fun vs H Q _ => ∃ (a : Addr) (ns : List Int), vs = [.ref a] ∧ SqL K H a (ns.map V.int) ∧ ns.length ≤ 1000 ∧ ∀ H' d c lf, Same H H' → St5 H' d c lf 0 → Q (.ref d) H'
def spSome : Sp := fun vs H Q _ => ∃ (d c lf : Addr) (n : Nat), vs = [.ref d] ∧ St5 H d c lf n ∧ n ≤ 600000 ∧ ∀ H' v ws, ws ≠ [] → ws.length ≤ 4 → (∀ g ∈ ws, Gd g) → Kp d lf H H' → St5 H' d c lf (n + 100) → RowV H' v ws → Q v H'
theorem dp_ints {K : PySem.W.Frag} {H : Hp} : ∀ ns : List Int, DpAll K H (ns.map V.int) (ns.map PyData.int)
  | [] => .nil
  | _ :: ns => .cons (.int _) (dp_ints ns)
theorem lay_ints : ∀ ns : List Int, PyData.canLayAll0 (ns.map PyData.int) = true
  | [] => rfl
  | a :: l => by simp [PyData.canLayAll0, PyData.canLay0, lay_ints l]
theorem dep_ints : ∀ ns : List Int, PyData.depthAll (ns.map PyData.int) = 0
  | [] => by simp [PyData.depthAll]
  | a :: l => by simp [PyData.depthAll, PyData.depth, dep_ints l]
theorem shaped_ints (ns : List Int) : SeqAt.shaped (.list (ns.map PyData.int)) = true := by
  unfold SeqAt.shaped
  simp [PyData.canLay0, PyData.depth, lay_ints, dep_ints]
def leftOf (c : Int) : Int := if c ≥ 10 ^ 18 then c else 0
section
variable {P : Program} {w : World} {K : PySem.W.Frag} {mg : Str → Option Value} {base : Heap}
theorem sc_begin : FnScope ["_law_script", "_law_cells_so", "_law_cell"] ["_law_script"] (defScope (top 38)) := ⟨rfl, rfl, rfl, by decide +kernel, rfl, by decide +kernel, by decide +kernel⟩
theorem ok_begin (T : Txt K mg) : Dn P w K mg base CX0 1 "_law_begin" ["_law_script"] (spBegin K) := by
  refine Dn.mk0 (T.d 20) sc_begin (fun vs H Q E h => ?_) (fun _ _ _ _ _ _ us hl => match us, hl with | [_], _ => rfl) (fun f cdv A outer s H vs Q E hr h => ?_)
  · obtain ⟨_, _, rfl, _⟩ := h
    rfl
  · obtain ⟨a, ns, rfl, ha, hl, k⟩ := h
    have nd := sc_begin.nd
    refine ⟨_, pss_cons (ps_set (i := 1) nd rfl (Or.inl rfl) (pe_ifExp (pt_cmpR (op_neD hr.units) (pv 0) (pe_lst pa_nil) (nomark _)) (pe_callTy call_list_of (by rfl) (T.b 5) (by decide +kernel) (pa_cons (pv 0) pa_nil)) (pe_lst (pa_cons pe_int pa_nil))))
      (pss_one (ps_ret (pe_disp (pps_cons pe_str (pv 1) (pps_cons pe_str (pe_lc (own := [("_law_cell", 2)]) (g := gName 2) (tt := tYes) rfl nd (pi_list (pv 1)) (blkOk_by (N := ["_law_script", "_law_cells_so", "_law_cell"]) (sc := defScope (top 38)) (by decide +kernel)) (fun _ _ _ _ _ => pg_name (i := 2) nd rfl (Or.inl rfl)) (fun _ _ _ _ _ => pts_nil)
        (fun _ _ _ _ _ => pe_ifExp (pt_cmpR op_ge (pv 2) (pe_op op_pow pe_int pe_int) (nomark _)) (pv 2) pe_int)) (pps_cons pe_str pe_int pps_nil))) (by rfl) (by rfl) (by intro z; cases z) (by decide)))), ?_⟩
    have fin : ∀ (H1 : Hp) (c : Addr) (cs : List Int), Same H H1 → H1 c = some (.lst (cs.map V.int)) → 0 < cs.length → cs.length ≤ 1000 → ∀ p, H1 p = none → ∃ v, [some (V.ref a), some (V.ref c), none][1]? = some (some v) ∧ v = V.ref c := fun H1 c cs _ _ _ _ p _ => ⟨_, rfl, rfl⟩
    refine ⟨_, rfl, (by show 0 ≤ sizeLine; decide), fun e he => ?_⟩
    have s0 := same_new (o := .lst []) he
    refine ⟨.list (ns.map PyData.int), .list [], .lst (s0.seq ha) (dp_ints ns), .lst (SqL.of upd_same) .nil, shaped_ints ns, shaped_ints [], _, rfl, ?_⟩
    -- the cells, by either way
    have main : ∀ (H1 : Hp) (c : Addr) (cs : List Int), Same H H1 → H1 c = some (.lst (cs.map V.int)) → 0 < cs.length → cs.length ≤ 1000 → tRet (tDisp [(tC (.str "cells"), tVar 1), (tC (.str "lefts"), tLc (iList K (tVar 1)) (gName 2) tYes (tIf (tTest (tOp (rI0 fun i j => .bl (decide (j ≤ i))) (tVar 2) (tOp (rI CPow fun i j => .int (i ^ j.toNat)) (tC (.int 10)) (tC (.int 18))))) (tVar 2) (tC (.int 0))) [2]), (tC (.str "at"), tC (.int 0))])
        { nx := fun _ H' => Q .non H', rt := Q } [some (V.ref a), some (V.ref c), none] H1 := by
      intro H1 c cs s1 h1 h0 hlc p hp
      have s2 := s1.trans (same_new (o := .dK []) hp)
      have h2 := same_new (o := .dK []) hp c _ h1
      refine ⟨_, rfl, _, rfl, c, rfl, ⟨_, SqL.of h2⟩, fun D hD => ?_⟩
      have nDp : p ≠ D := ne_of_none (upd_same (H := H1) (a := p) (o := .dK [])) hD
      refine lc_list (xs := cs.map V.int) (fun i H3 => H3 D = some (.lst (((cs.map leftOf).take i).map V.int)) ∧ Same (upd H1 p (.dK [])) H3) ⟨upd_same, same_new hD⟩ (fun i H3 _ hP => SqL.of (hP.2 _ _ h2)) (fun i x H3 hx hP => ?_) (fun H3 hP => ?_)
      · obtain ⟨h3, s3⟩ := hP
        have hi : i < cs.length := by
          have := (List.getElem?_eq_some_iff.mp hx).1
          rwa [List.length_map] at this
        obtain ⟨ci, hci⟩ : ∃ ci, cs[i]? = some ci := ⟨_, List.getElem?_eq_getElem hi⟩
        obtain rfl : x = V.int ci := by
          rw [List.getElem?_map, hci] at hx
          exact (Option.some.inj hx).symm
        have hli : (cs.map leftOf)[i]? = some (leftOf ci) := by
          rw [List.getElem?_map, hci]
          rfl
        refine ⟨rfl, _, rfl, _, _, rfl, rfl, ⟨by decide, by decide, by decide⟩, _, _, rfl, rfl, _, rfl, ?_⟩
        have go : ∀ z, z = leftOf ci → ∃ acc, H3 D = some (.lst acc) ∧ acc.length < sizeLine ∧ (upd H3 D (.lst (acc ++ [V.int z]))) D = some (.lst (((cs.map leftOf).take (i + 1)).map V.int)) ∧ Same (upd H1 p (.dK [])) (upd H3 D (.lst (acc ++ [V.int z]))) := fun z hz => by
          refine ⟨_, h3, Nat.lt_of_le_of_lt (by simp; omega : _ ≤ 5000) sl5000, ?_, Same.upd s3 hD⟩
          rw [upd_same, take_snoc hli, List.map_append, hz]
          rfl
        by_cases hg : (10 : Int) ^ (18 : Int).toNat ≤ ci
        · refine ifT (decide_eq_true hg) ⟨_, rfl, go ci ?_⟩
          unfold leftOf
          exact (if_pos hg).symm
        · refine ifF (decide_eq_false hg) (go 0 ?_)
          unfold leftOf
          exact (if_neg hg).symm
      · obtain ⟨h3, s3⟩ := hP
        rw [List.length_map, ← List.length_map (as := cs) leftOf, List.take_length] at h3
        have hp3 : H3 p = some (.dK []) := s3 p _ upd_same
        refine ⟨hp3, [(Sum.inr "cells", .ref c), (Sum.inr "lefts", .ref D), (Sum.inr "at", .int 0)], rfl, (by show 3 ≤ 15; decide), ?_⟩
        refine k _ p c D (Same.upd (s2.trans s3) (s1.free hp)) ⟨⟨0, upd_same, Nat.le_refl 0⟩, ⟨cs, cs.map leftOf, ?_, ?_, by simp, h0⟩, ?_⟩
        · rw [upd_ne (ne_of (s3 _ _ h2) hp3 (by intro z; cases z))]
          exact s3 _ _ h2
        · rw [upd_ne (Ne.symm nDp)]
          exact h3
        · intro z
          rw [← z] at hD
          rw [h2] at hD
          cases hD
    by_cases hz : ns = []
    · subst hz
      refine ifF rfl ⟨(by show 1 ≤ sizeLine; decide), fun c hc => main _ c [0] (s0.trans (same_new hc)) upd_same (by decide) (by decide)⟩
    · refine ifT ?_ ⟨_, rfl, a, _, rfl, .inl (s0.seq ha), fun c hc => main _ c ns (s0.trans (same_new hc)) upd_same (List.length_pos_iff.mpr hz) hl⟩
      cases ns with
      | nil => exact absurd rfl hz
      | cons z ns => simp [PyData.eqv, PyData.eqvAll]
theorem sc_some : FnScope ["_law_state", "_law_two", "_law_three", "_law_minus_so", "_law_pick", "_law_told", "_law_on", "_law_back", "_law_turn"] ["_law_state"] (defScope (top 58)) := ⟨rfl, rfl, rfl, by decide +kernel, rfl, by decide +kernel, by decide +kernel⟩
theorem ok_some (T : Txt K mg) : Dn P w K mg base CX0 8 "_law_some_steps" ["_law_state"] spSome := by
  refine Dn.mk0 (T.d 40) sc_some (fun vs H Q E h => ?_) (fun _ _ _ _ _ _ us hl => match us, hl with | [_], _ => rfl) (fun f cdv A outer s H vs Q E hr h => ?_)
  · obtain ⟨_, _, _, _, rfl, _⟩ := h
    rfl
  · obtain ⟨d, c, lf, n, rfl, st, hn, k⟩ := h
    have nd := sc_some.nd
    refine ⟨_, (pss_cons (ps_asg (pe_tup (pa_cons (pe_stepL (pe_tup (pa_nums (pa_cons (pe_num (pe_tup (pa_cons pe_int (pa_cons pe_int pa_nil))) (0) (by decide +kernel) (by decide +kernel)) (pa_nums (pa_cons (pe_num (pe_tup (pa_cons pe_int (pa_cons pe_int pa_nil))) (0) (by decide +kernel) (by decide +kernel)) (pa_nums (pa_cons (pe_num (pe_tup (pa_cons pe_int (pa_cons pe_int pa_nil))) (1) (by decide +kernel) (by decide +kernel)) (pa_nums0 pa_nil)))))))) (by decide)) (pa_cons (pe_stepL (pe_tup (pa_nums (pa_cons (pe_num (pe_tup (pa_cons pe_int (pa_cons pe_int pa_nil))) (0) (by decide +kernel) (by decide +kernel)) (pa_nums (pa_cons (pe_num (pe_tup (pa_cons pe_int (pa_cons pe_int pa_nil))) (0) (by decide +kernel) (by decide +kernel)) (pa_nums (pa_cons (pe_num (pe_tup (pa_cons pe_int (pa_cons pe_int pa_nil))) (0) (by decide +kernel) (by decide +kernel)) (pa_nums (pa_cons (pe_num (pe_tup (pa_cons pe_int (pa_cons pe_int pa_nil))) (1) (by decide +kernel) (by decide +kernel)) (pa_nums0 pa_nil)))))))))) (by decide)) (pa_cons (pe_stepL (pe_tup (pa_nums (pa_cons (pe_num (pe_tup (pa_cons pe_int (pa_cons pe_int pa_nil))) (0) (by decide +kernel) (by decide +kernel)) (pa_nums (pa_cons (pe_numN (pe_tup (pa_cons (pe_un un_neg pe_int) (pa_cons pe_int pa_nil))) (-1) (by decide +kernel) (by decide +kernel)) (pa_nums0 pa_nil)))))) (by decide)) pa_nil)))) (pg_tup rfl (pgs_cons (pg_name (i := 1) nd rfl (Or.inl rfl)) (pgs_cons (pg_name (i := 2) nd rfl (Or.inl rfl)) (pgs_cons (pg_name (i := 3) nd rfl (Or.inl rfl)) pgs_nil)))))
      (pss_cons (ps_par (i := 4) (j := 5) rfl nd rfl rfl (by decide) rfl rfl (pa_cons (pe_dn ((ok_draw T).up (by decide)) hr pass0 (pa_cons (pv 0) (pa_cons pe_int pa_nil))) (pa_cons (pe_dn ((ok_step T).up (by decide)) hr pass0 (pa_cons (pv 0) (pa_cons pe_int (pa_cons pe_int (pa_cons pe_int pa_nil))))) pa_nil)) (by rfl))
      (pss_cons (ps_if (pt_cmpR op_eq (pv 4) pe_int (nomark _)) (pss_one (ps_ret (pe_tup (pa_cons (pv 1) (pa_cons (pv 2) (pa_cons (pv 3) pa_nil)))))) pss_nil)
      (pss_cons (ps_if (pt_cmpR op_eq (pv 4) pe_int (nomark _)) (pss_one (ps_ret (pe_tup (pa_cons (pv 5) (pa_cons (pe_dn (ok_again T) hr pass0 (pa_cons (pv 5) (pa_cons pe_int pa_nil))) pa_nil))))) pss_nil)
      (pss_cons (ps_if (pt_cmpR op_eq (pv 4) pe_int (nomark _)) (pss_cons (ps_asg (pe_tup (pa_cons (pe_stepL (pe_tup (pa_nums (pa_cons (pe_num (pe_tup (pa_cons pe_int (pa_cons pe_int pa_nil))) (1 / 2) (by decide +kernel) (by decide +kernel)) (pa_nums (pa_cons (pe_num (pe_tup (pa_cons pe_int (pa_cons pe_int pa_nil))) (1) (by decide +kernel) (by decide +kernel)) (pa_nums0 pa_nil)))))) (by decide)) (pa_cons (pe_stepL (pe_tup (pa_nums (pa_cons (pe_numN (pe_tup (pa_cons (pe_un un_neg pe_int) (pa_cons pe_int pa_nil))) (-1 / 2) (by decide +kernel) (by decide +kernel)) (pa_nums (pa_cons (pe_num (pe_tup (pa_cons pe_int (pa_cons pe_int pa_nil))) (1) (by decide +kernel) (by decide +kernel)) (pa_nums0 pa_nil)))))) (by decide)) pa_nil))) (pg_tup rfl (pgs_cons (pg_name (i := 6) nd rfl (Or.inl rfl)) (pgs_cons (pg_name (i := 7) nd rfl (Or.inl rfl)) pgs_nil)))) (pss_one (ps_ret (pe_tup (pa_cons (pv 6) (pa_cons (pv 7) (pa_cons (pe_dn ((ok_within T).up (by decide)) hr pass0 (pa_cons (pv 6) (pa_cons (pv 5) pa_nil))) (pa_cons (pv 5) pa_nil)))))))) pss_nil)
      (pss_cons (ps_if (pt_cmpR op_eq (pv 4) pe_int (nomark _)) (pss_one (ps_ret (pe_tup (pa_cons (pv 1) (pa_cons (pe_stepL (pe_tup (pa_nums (pa_cons (pe_num (pe_tup (pa_cons pe_int (pa_cons pe_int pa_nil))) (1) (by decide +kernel) (by decide +kernel)) (pa_nums (pa_cons (pe_num (pe_tup (pa_cons pe_int (pa_cons pe_int pa_nil))) (0) (by decide +kernel) (by decide +kernel)) (pa_nums (pa_cons (pe_num (pe_tup (pa_cons pe_int (pa_cons pe_int pa_nil))) (1) (by decide +kernel) (by decide +kernel)) (pa_nums0 pa_nil)))))))) (by decide)) (pa_cons (pe_stepL (pe_tup (pa_nums (pa_cons (pe_num (pe_tup (pa_cons pe_int (pa_cons pe_int pa_nil))) (1) (by decide +kernel) (by decide +kernel)) (pa_nums (pa_cons (pe_num (pe_tup (pa_cons pe_int (pa_cons pe_int pa_nil))) (2) (by decide +kernel) (by decide +kernel)) (pa_nums (pa_cons (pe_num (pe_tup (pa_cons pe_int (pa_cons pe_int pa_nil))) (1) (by decide +kernel) (by decide +kernel)) (pa_nums0 pa_nil)))))))) (by decide)) (pa_cons (pe_stepL (pe_tup (pa_nums (pa_cons (pe_num (pe_tup (pa_cons pe_int (pa_cons pe_int pa_nil))) (1) (by decide +kernel) (by decide +kernel)) (pa_nums (pa_cons (pe_num (pe_tup (pa_cons pe_int (pa_cons pe_int pa_nil))) (1) (by decide +kernel) (by decide +kernel)) (pa_nums0 pa_nil)))))) (by decide)) pa_nil))))))) pss_nil)
      (pss_one (ps_ret (pe_dn ((ok_row T).up (by decide)) hr pass0 (pa_cons (pv 0) (pa_cons (pe_lc (own := [("_law_turn", 8)]) (g := gName 8) (tt := tYes) rfl nd (pi_range1 rfl (T.b 1) (pa_cons pe_int pa_nil)) (blkOk_by (N := ["_law_state", "_law_two", "_law_three", "_law_minus_so", "_law_pick", "_law_told", "_law_on", "_law_back", "_law_turn"]) (sc := defScope (top 58)) (by decide +kernel)) (fun _ _ _ _ _ => pg_name (i := 8) nd rfl (Or.inl rfl)) (fun _ _ _ _ _ => pts_nil) (fun _ _ _ _ _ => pe_op op_add pe_int (pe_dn ((ok_draw T).up (by decide)) hr pass0 (pa_cons (pv 0) (pa_cons pe_int pa_nil))))) (pa_cons pe_int (pa_cons pe_int pa_nil))))))))))))), ?_⟩
    refine fun H1 v1 s1 f1 H2 v2 s2 f2 H3 v3 s3' f3' => ⟨(by show 3 ≤ sizeLine; decide), fun p3 hp3 => ⟨p3, _, rfl, SqT.of upd_same, rfl, _, _, rfl, _, _, rfl, _, _, rfl, rfl, ?_⟩⟩
    have s3 := s3'.trans (same_new (o := .tup [v1, v2, v3]) hp3)
    have f3 := f3'.mono (tx_new (o := .tup [v1, v2, v3]) hp3)
    have st3 := st.same (s1.trans (s2.trans s3))
    generalize upd H3 p3 (.tup [v1, v2, v3]) = H3 at *
    refine ⟨_, rfl, d, c, lf, n, 5, rfl, st3, by omega, by decide, by decide, fun H4 r hr4 k4 st4 => ?_⟩
    refine ⟨_, rfl, d, c, lf, n + 1, 2, rfl, by decide, st4, by omega, fun H5 v5 l5 w5 k5 st5 f5 => ⟨_, _, rfl, ?_⟩⟩
    have g5 := w5.gd (by decide) (by decide)
    have kk := (Kp.same (d := d) (lf := lf) (s1.trans (s2.trans s3))).trans (k4.trans k5)
    have tx : TExt H3 H5 := (st3.tx k4).trans (st4.tx k5)
    have f1' : StepV H5 v1 [0, 0, 1] := f1.mono ((s2.trans s3).tx.trans tx)
    have f2' : StepV H5 v2 [0, 0, 0, 1] := f2.mono (s3.tx.trans tx)
    have f3' : StepV H5 v3 [0, -1] := f3.mono tx
    refine ⟨_, rfl, rfl, _, rfl, ?_⟩
    by_cases h0 : V.int (r : Int) = V.int 0
    · refine ifT (decide_eq_true h0) ⟨_, rfl, _, rfl, _, rfl, (by show 3 ≤ sizeLine; decide), fun p hp => ?_⟩
      have t1 := tx_new (o := .tup [v1, v2, v3]) hp
      refine k _ _ [[0, 0, 1], [0, 0, 0, 1], [0, -1]] (by simp) (by decide) ?_ (kk.trans (Kp.same (same_new hp))) ((st5.same (same_new hp)).mono (by omega)) ⟨p, _, rfl, upd_same, .cons (f1'.mono t1) (.cons (f2'.mono t1) (.cons (f3'.mono t1) .nil))⟩
      intro g hg
      simp only [List.mem_cons, List.not_mem_nil, or_false] at hg
      rcases hg with rfl | rfl | rfl
      · exact gd_two
      · exact gd_three
      · exact gd_minus
    refine ifF (decide_eq_false h0) ?_
    refine ⟨_, rfl, rfl, _, rfl, ?_⟩
    by_cases h1 : V.int (r : Int) = V.int 1
    · refine ifT (decide_eq_true h1) ⟨_, rfl, _, rfl, v5, l5, rfl, f5, w5.again.1, fun H6 v6 s6 f6 => ⟨(by show 2 ≤ sizeLine; decide), fun p hp => ?_⟩⟩
      have t1 := tx_new (o := .tup [v5, v6]) hp
      have s7 := s6.trans (same_new (o := .tup [v5, v6]) hp)
      refine k _ _ [l5, within l5 l5] (by simp) (by simp) ?_ (kk.trans (Kp.same s7)) ((st5.same s7).mono (by omega)) ⟨p, _, rfl, upd_same, .cons (f5.mono s7.tx) (.cons (f6.mono t1) .nil)⟩
      intro g hg
      simp only [List.mem_cons, List.not_mem_nil, or_false] at hg
      rcases hg with rfl | rfl
      · exact g5
      · exact w5.again.2
    refine ifF (decide_eq_false h1) ?_
    refine ⟨_, rfl, rfl, _, rfl, ?_⟩
    by_cases h2 : V.int (r : Int) = V.int 2
    · refine ifT (decide_eq_true h2) ?_
      refine fun H6 v6 s6 f6 H7 v7 s7' f7' => ⟨(by show 2 ≤ sizeLine; decide), fun p3 hp3 => ?_⟩
      have s7 := s7'.trans (same_new (o := .tup [v6, v7]) hp3)
      have f7 := f7'.mono (tx_new (o := .tup [v6, v7]) hp3)
      refine ⟨p3, _, rfl, SqT.of upd_same, rfl, _, _, rfl, _, _, rfl, rfl, _, rfl, _, rfl, _, rfl, _, rfl, v6, v5, [1 / 2, 1], l5, rfl, f6.mono s7.tx, f5.mono (s6.trans s7).tx, gd_on.wb, g5, fun H8 v8 s8 f8 => ⟨_, rfl, (by show 4 ≤ sizeLine; decide), fun p hp => ?_⟩⟩
      have t1 := tx_new (o := .tup [v6, v7, v8, v5]) hp
      have s9 := (s6.trans (s7.trans s8)).trans (same_new (o := .tup [v6, v7, v8, v5]) hp)
      refine k _ _ [[1 / 2, 1], [-1 / 2, 1], within [1 / 2, 1] l5, l5] (by simp) (by simp) ?_ (kk.trans (Kp.same s9)) ((st5.same s9).mono (by omega)) ⟨p, _, rfl, upd_same, .cons (f6.mono ((s7.trans s8).tx.trans t1)) (.cons (f7.mono (s8.tx.trans t1)) (.cons (f8.mono t1) (.cons (f5.mono s9.tx) .nil)))⟩
      intro g hg
      simp only [List.mem_cons, List.not_mem_nil, or_false] at hg
      rcases hg with rfl | rfl | rfl | rfl
      · exact gd_on
      · exact gd_back
      · exact w5.moved
      · exact g5
    refine ifF (decide_eq_false h2) ?_
    refine ⟨_, rfl, rfl, _, rfl, ?_⟩
    by_cases h3 : V.int (r : Int) = V.int 3
    · refine ifT (decide_eq_true h3) ?_
      refine ⟨_, rfl, fun H6 v6 s6 f6 H7 v7 s7 f7 H8 v8 s8 f8 => ⟨(by show 4 ≤ sizeLine; decide), fun p hp => ?_⟩⟩
      have t1 := tx_new (o := .tup [v1, v6, v7, v8]) hp
      have s9 := (s6.trans (s7.trans s8)).trans (same_new (o := .tup [v1, v6, v7, v8]) hp)
      refine k _ _ [[0, 0, 1], [1, 0, 1], [1, 2, 1], [1, 1]] (by simp) (by decide) ?_ (kk.trans (Kp.same s9)) ((st5.same s9).mono (by omega)) ⟨p, _, rfl, upd_same, .cons (f1'.mono s9.tx) (.cons (f6.mono ((s7.trans s8).tx.trans t1)) (.cons (f7.mono (s8.tx.trans t1)) (.cons (f8.mono t1) .nil)))⟩
      intro g hg
      simp only [List.mem_cons, List.not_mem_nil, or_false] at hg
      rcases hg with rfl | rfl | rfl | rfl
      · exact gd_two
      · exact gd_a
      · exact gd_b
      · exact gd_c
    refine ifF (decide_eq_false h3) ?_
    refine ⟨_, rfl, 3, rfl, by decide, by decide, fun D hD => ?_⟩
    have nD := st5.new hD
    refine lc_range (n := 3) (fun i H6 => ∃ ss : List Nat, H6 D = some (.lst (ss.map natV)) ∧ ss.length = i ∧ (∀ s ∈ ss, 1 ≤ s ∧ s ≤ 3) ∧ St5 H6 d c lf (n + 20 + i) ∧ Kp d lf H5 H6) ?_ (fun i H6 hi hP => ?_) (fun H6 hP => ?_)
    · exact ⟨[], upd_same, rfl, by simp, (st5.same (same_new hD)).mono (by omega), Kp.same (same_new hD)⟩
    · obtain ⟨ss, h6, hl, hss, st6, k6⟩ := hP
      refine ⟨rfl, ?_⟩
      refine ⟨_, rfl, d, c, lf, n + 20 + i, 3, rfl, st6, by omega, by decide, by decide, fun H7 r7 hr7 k7 st7 => ⟨_, _, rfl, rfl, ?_⟩⟩
      have h7 := k7 D _ nD.1 nD.2.2 h6
      refine ⟨_, h7, Nat.lt_of_le_of_lt (by rw [List.length_map]; omega : _ ≤ 5000) sl5000, ss ++ [1 + r7], ?_, by simp [hl], ?_, st7.lst h7 nD.2.1 nD.2.2, (k6.trans k7).upd hD⟩
      · rw [upd_same, List.map_append]
        simp [natV]
      · intro x hx
        rcases List.mem_append.mp hx with z | z
        · exact hss x z
        · rw [List.mem_singleton.mp z]
          omega
    · obtain ⟨ss, h6, hl, hss, st6, k6⟩ := hP
      refine ⟨d, c, lf, D, n + 20 + 3, ss, rfl, h6, nD.2.1, nD.2.2, by omega, hss, st6, by omega, fun H7 v7 ws hw hg k7 st7 f7 => k H7 v7 ws (ne_len (by omega)) (by omega) hg (kk.trans (k6.trans k7)) (st7.mono (by omega)) f7⟩
end
end K63
set_option Elab.async false
set_option linter.all false
set_option maxRecDepth 100000
set_option maxHeartbeats 4000000
namespace K63
open PySem PySem.Spec PyProof.Rows L2
/-! ### own errors, by their names -/
structure Err1 (P : Program) (w : World) (K : PySem.W.Frag) (mg : Str → Option Value) (x f : Str) (C : Addr) : Prop where
  mgC : mg x = some (.ref C)
  made : ∃ (fI : Addr) (ar : Arguments) (fb : List Stmt) (sc : Scope) (qual file : Str), ErrK K C fI ar fb sc qual file ∧ Calls1 P w K mg C fI f
structure Err0 (P : Program) (w : World) (K : PySem.W.Frag) (mg : Str → Option Value) (x : Str) (C : Addr) : Prop where
  mgC : mg x = some (.ref C)
  made : ∃ (fI : Addr) (ar : Arguments) (fb : List Stmt) (sc : Scope) (qual file : Str), ErrK K C fI ar fb sc qual file ∧ Calls0 P w K mg C fI
structure Errs (P : Program) (w : World) (K : PySem.W.Frag) (mg : Str → Option Value) (B : Str → Addr) : Prop where
  step : Err1 P w K mg "BadStep" "value" (B "BadStep")
  row : Err1 P w K mg "BadRow" "place" (B "BadRow")
  par : Err1 P w K mg "BadParameter" "value" (B "BadParameter")
  great : Err1 P w K mg "TooGreat" "most" (B "TooGreat")
  none : Err0 P w K mg "NoRow" (B "NoRow")
section
variable {X : Cx} {x f : Str} {C : Addr} {a : Expr} {ta : TA} {p pos : Pos} {k : Nat}
theorem pmk1 (h : Err1 X.prog X.w X.K X.mg x f C) (hr : Room k X.A) (ha : PA X [a] ta) (hg : Gl X x := by rfl) (hdb : (x == ("__debug__" : Str)) = false := by decide)
    (he : starEach (a :: []) X.env = (false, eval a X.env) :: starEach [] X.env := by rfl) (hpl : (backTo pos (starEach [] X.env)).any (·.1) = false := by rfl) : PMk X (.Call (.Name x p) [a] [] pos) (tMkErr C f ta) := by
  obtain ⟨fI, ar, fb, sc, qual, file, T, R1⟩ := h.made
  exact pmk_err1 T R1 h.mgC hr ha hg hdb he hpl
theorem pmk0 (h : Err0 X.prog X.w X.K X.mg x C) (hr : Room k X.A) (hg : Gl X x := by rfl) (hdb : (x == ("__debug__" : Str)) = false := by decide) : PMk X (.Call (.Name x p) [] [] pos) (fun _ H Q => Q (.ref C) none H) := by
  obtain ⟨fI, ar, fb, sc, qual, file, T, R1⟩ := h.made
  exact pmk_err0 T R1 h.mgC hr hg hdb
end
/-! ### the program's checks -/
def BP : Nat := 10 ^ 60
def Np (q : Rat) : Prop := q.num.natAbs ≤ BP ∧ q.den ≤ BP
structure Ok (l : List Rat) : Prop where
  stp : Stp l
  len : l.length ≤ 65
  np : ∀ c ∈ l, Np c
def spFrom : Sp := fun vs H Q _ => ∃ v lo hi : Int, vs = [.int v, .int lo, .int hi] ∧ Q (.bl (decide (lo ≤ v ∧ v ≤ hi))) H
def spIsNum : Sp := fun vs H Q _ => ∃ (v : V) (q : Rat), vs = [v] ∧ NumV H v q ∧ Np q ∧ Q (.bl true) H
def spIsStep : Sp := fun vs H Q _ => ∃ v : V, vs = [v] ∧ ((v = .non ∧ Q (.bl false) H) ∨ ∃ l, StepV H v l ∧ Ok l ∧ Q (.bl true) H)
def ErrV (B : Str → Addr) (x f : Str) (H : Hp) (E : XK) (T : V → Hp → Prop) : Prop := ∀ H' d v, Same H H' → T v H' → H' d = some (.xd [(f, v)]) → E (.ref (B x)) (some d) H'
def spNeedStep (B : Str → Addr) : Sp := fun vs H Q E => ∃ v : V, vs = [v] ∧ ((v = .non ∧ ErrV B "BadStep" "value" H E fun u _ => u = v) ∨ ∃ l, StepV H v l ∧ Ok l ∧ Q v H)
def spNeedRow (B : Str → Addr) : Sp := fun vs H Q E => ∃ v : V, vs = [v] ∧ ((RowV H v [] ∧ ErrV B "BadRow" "place" H E fun u H' => ∃ p, u = .ref p ∧ H' p = some (.tup [])) ∨ ∃ ws, RowV H v ws ∧ ws ≠ [] ∧ ws.length ≤ 8 ∧ (∀ g ∈ ws, Ok g) ∧ ∀ H', Same H H' → Q v H')
def wordB (ks : List Nat) (m : Nat) : Bool := decide (1 ≤ ks.length ∧ ks.length ≤ 8) && ks.all fun k => decide (k < m)
def spIsWord : Sp := fun vs H Q _ => ∃ (v : V) (m : Nat) (ks : List Nat), vs = [v, .int (m : Int)] ∧ LetV H v ks ∧ ks.length ≤ 1000 ∧ ∀ H', Same H H' → Q (.bl (wordB ks m)) H'
def spNeedWord (B : Str → Addr) : Sp := fun vs H Q E => ∃ (v : V) (m : Nat) (ks : List Nat), vs = [v, .int (m : Int)] ∧ LetV H v ks ∧ ks.length ≤ 1000 ∧ (wordB ks m = true → ∀ H', Same H H' → Q v H') ∧ (wordB ks m = false → ErrV B "BadParameter" "value" H E fun u _ => u = v)
def spCheck (B : Str → Addr) : Sp := fun vs H Q E => ∃ m : Nat, vs = [.int (m : Int)] ∧ (m ≤ 256 → Q .non H) ∧ (256 < m → ErrV B "TooGreat" "most" H E fun u _ => u = .int 256)
theorem ErrV.put {B : Str → Addr} {x f : Str} {H : Hp} {E : XK} {T : V → Hp → Prop} (h : ErrV B x f H E T) {H1 : Hp} {v : V} {d : Addr} (s : Same H H1) (hd : H1 d = none) (t : T v (upd H1 d (.xd [(f, v)]))) : E (.ref (B x)) (some d) (upd H1 d (.xd [(f, v)])) :=
  h _ d v (s.trans (same_new hd)) t upd_same
section
variable {P : Program} {w : World} {K : PySem.W.Frag} {mg : Str → Option Value} {base : Heap} {B : Str → Addr}
theorem sc_from : FnScope ["value", "low", "high"] ["value", "low", "high"] (defScope (top 13)) := ⟨rfl, rfl, rfl, by decide +kernel, rfl, by decide +kernel, by decide +kernel⟩
theorem ok_from (T : Txt K mg) : Dn P w K mg base CX0 1 "is_from" ["value", "low", "high"] spFrom := by
  refine Dn.mk0 (T.d 0) sc_from (fun vs H Q E h => ?_) (fun _ _ _ _ _ _ us hl => match us, hl with | [_, _, _], _ => rfl) (fun f cdv A outer s H vs Q E hr h => ?_)
  · obtain ⟨_, _, _, rfl, _⟩ := h
    rfl
  · obtain ⟨v, lo, hi, rfl, k⟩ := h
    refine ⟨_, pss_one (ps_ret (pe_and (pe_callB call_isi (by rfl) (T.b 3) (by decide +kernel) (pa_cons (pv 0) (pa_cons (pe_bltn (v := .ty "int") (u := .type "int") (by rfl) (T.b 7) (by decide +kernel) rfl) pa_nil)))
      (pe_and (pe_not (pe_callB call_isi (by rfl) (T.b 3) (by decide +kernel) (pa_cons (pv 0) (pa_cons (pe_bltn (v := .ty "bool") (u := .type "bool") (by rfl) (T.b 8) (by decide +kernel) rfl) pa_nil))))
      (pe_one (pe_chain op_le op_le (pv 1) (pv 0) (pv 2)))))), ?_⟩
    refine ⟨_, rfl, _, _, _, _, true, rfl, .ty "int", .base (.int _), kit_ty (by decide +kernel), _, rfl, ifT rfl ?_⟩
    refine ⟨_, rfl, _, _, _, _, false, rfl, .ty "bool", .base (.int _), kit_ty (by decide +kernel), _, rfl, _, rfl, ifT rfl ?_⟩
    refine ⟨_, rfl, _, rfl, _, _, rfl, rfl, _, rfl, ?_⟩
    by_cases h1 : lo ≤ v
    · refine ifT (decide_eq_true h1) ⟨_, rfl, _, _, rfl, rfl, ?_⟩
      have e : decide (v ≤ hi) = decide (lo ≤ v ∧ v ≤ hi) := by simp [h1]
      show Q (.bl (decide (v ≤ hi))) H
      rw [e]
      exact k
    · refine ifF (decide_eq_false h1) ?_
      have e : decide (lo ≤ v ∧ v ≤ hi) = false := decide_eq_false fun z => h1 z.1
      rw [e] at k
      exact k
theorem sc_isnum : FnScope ["value"] ["value"] (defScope (top 14)) := ⟨rfl, rfl, rfl, by decide +kernel, rfl, by decide +kernel, by decide +kernel⟩
theorem ok_isnum (T : Txt K mg) : Dn P w K mg base CX0 2 "is_number" ["value"] spIsNum := by
  refine Dn.mk0 (T.d 1) sc_isnum (fun vs H Q E h => ?_) (fun _ _ _ _ _ _ us hl => match us, hl with | [_], _ => rfl) (fun f cdv A outer s H vs Q E hr h => ?_)
  · obtain ⟨_, _, rfl, _⟩ := h
    rfl
  · obtain ⟨v, q, rfl, ⟨p, rfl, hp⟩, ⟨n1, n2⟩, k⟩ := h
    obtain ⟨tp, hpart⟩ := T.part
    have h1 : SqT K H p _ := SqT.of hp
    refine ⟨_, pss_cons (ps_if (PW.pt (pw_or (pt_not (pt_val (pe_callB call_isi (by rfl) (T.b 3) (by decide +kernel) (pa_cons (pv 0) (pa_cons (pe_bltn (v := .ty "tuple") (u := .type "tuple") (by rfl) (T.b 6) (by decide +kernel) rfl) pa_nil))))) (pw_or1 (pt_cmpR op_ne (pe_callB call_len_seq (by rfl) (T.b 0) PySem.boot_len (pa_cons (pv 0) pa_nil)) pe_int (nomark _))))) (pss_one (ps_ret pe_bl)) pss_nil)
      (pss_cons (ps_if (PW.pt (pw_or (pt_not (pt_val (pe_dn (ok_from T) hr pass0 (pa_cons (pe_ix ix_tup (pv 0) pe_int (fun _ _ => rfl)) (pa_cons (pe_un un_neg (pe_glob (v := .int (10 ^ 60)) rfl hpart ⟨_, rfl⟩)) (pa_cons (pe_glob (v := .int (10 ^ 60)) rfl hpart ⟨_, rfl⟩) pa_nil))))))
          (pw_or1 (pt_not (pt_val (pe_dn (ok_from T) hr pass0 (pa_cons (pe_ix ix_tup (pv 0) pe_int (fun _ _ => rfl)) (pa_cons pe_int (pa_cons (pe_glob (v := .int (10 ^ 60)) rfl hpart ⟨_, rfl⟩) pa_nil))))))))) (pss_one (ps_ret pe_bl)) pss_nil)
      (pss_one (ps_ret (pe_cmpR op_eq (pe_callBfun cr_gcd rfl T.gcd (pa_cons (pe_ix ix_tup (pv 0) pe_int (fun _ _ => rfl)) (pa_cons (pe_ix ix_tup (pv 0) pe_int (fun _ _ => rfl)) pa_nil))) pe_int (nomark _))))), ?_⟩
    refine ⟨_, rfl, _, _, _, _, true, rfl, .ty "tuple", .base (.tup hp), kit_ty (by decide +kernel), _, rfl, ifF rfl ?_⟩
    refine ⟨_, rfl, p, _, rfl, .inr h1, rfl, _, rfl, ifF (by simp) ?_⟩
    have ebp : ((BP : Nat) : Int) = 10 ^ 60 := by unfold BP; omega
    refine ⟨_, rfl, p, _, _, _, rfl, rfl, h1, at0, _, rfl, _, _, _, rfl, _, rfl, ifF ?_ ?_⟩
    · rw [decide_eq_true (by omega)]
      rfl
    refine ⟨_, rfl, p, _, _, _, rfl, rfl, h1, at1, _, _, _, rfl, _, rfl, ifF ?_ ?_⟩
    · have := q.den_pos
      rw [decide_eq_true (by omega)]
      rfl
    refine ⟨_, rfl, p, _, _, _, rfl, rfl, h1, at0, _, rfl, p, _, _, _, rfl, rfl, h1, at1, _, _, rfl, rfl, ?_⟩
    have e : Nat.gcd q.num.natAbs ((q.den : Int)).natAbs = 1 := q.reduced
    rw [e]
    exact k
end
end K63
set_option Elab.async false
set_option linter.all false
set_option maxRecDepth 100000
set_option maxHeartbeats 4000000
namespace K63
open PySem PySem.Spec PyProof.Rows L2
section
variable {P : Program} {w : World} {K : PySem.W.Frag} {mg : Str → Option Value} {base : Heap} {B : Str → Addr}
theorem sc_isstep : FnScope ["value", "number"] ["value"] (defScope (top 15)) := ⟨rfl, rfl, rfl, by decide +kernel, rfl, by decide +kernel, by decide +kernel⟩
theorem ok_isstep (T : Txt K mg) : Dn P w K mg base CX0 3 "is_step" ["value"] spIsStep := by
  refine Dn.mk0 (T.d 2) sc_isstep (fun vs H Q E h => ?_) (fun _ _ _ _ _ _ us hl => match us, hl with | [_], _ => rfl) (fun f cdv A outer s H vs Q E hr h => ?_)
  · obtain ⟨_, rfl, _⟩ := h
    rfl
  · obtain ⟨v, rfl, h⟩ := h
    have nd := sc_isstep.nd
    obtain ⟨tp, hdeg⟩ := T.degree
    refine ⟨_, pss_cons (ps_if (PW.pt (pw_or (pt_not (pt_val (pe_callB call_isi (by rfl) (T.b 3) (by decide +kernel) (pa_cons (pv 0) (pa_cons (pe_bltn (v := .ty "tuple") (u := .type "tuple") (by rfl) (T.b 6) (by decide +kernel) rfl) pa_nil))))) (pw_or1 (pt_not (pt_chain op_le op_le pe_int (pe_callB call_len_seq (by rfl) (T.b 0) PySem.boot_len (pa_cons (pv 0) pa_nil)) (pe_op op_add (pe_glob (v := .int 64) rfl hdeg ⟨_, rfl⟩) pe_int)))))) (pss_one (ps_ret pe_bl)) pss_nil)
      (pss_cons (ps_for PassesOwn.never rfl (pi_tup (pv 0)) (pg_name (i := 1) nd rfl (Or.inl rfl)) (pss_one (ps_if (pt_not (pt_val (pe_dn (ok_isnum T) hr pass0 (pa_cons (pv 1) pa_nil)))) (pss_one (ps_ret pe_bl)) pss_nil)))
      (pss_one (ps_ret (pe_cmpR op_ne (pe_ix ix_tup (pe_ix ix_tup (pv 0) (pe_un un_neg pe_int) (fun _ _ => rfl)) pe_int (fun _ _ => rfl)) pe_int (nomark _))))), ?_⟩
    rcases h with ⟨rfl, k⟩ | ⟨l, ⟨p, vs, rfl, hp, r⟩, ok, k⟩
    · exact ⟨_, rfl, _, _, _, _, false, rfl, .ty "tuple", .base .non, kit_ty (by decide +kernel), _, rfl, ifT rfl (ifT rfl k)⟩
    · have h1 : SqT K H p _ := SqT.of hp
      have hl := r.length
      have l2 := ok.stp.1
      have l3 := ok.len
      refine ⟨_, rfl, _, _, _, _, true, rfl, .ty "tuple", .base (.tup hp), kit_ty (by decide +kernel), _, rfl, ifF rfl ?_⟩
      refine ⟨_, rfl, p, _, rfl, .inr h1, _, _, rfl, rfl, _, rfl, ifT (decide_eq_true (by omega)) ⟨_, _, rfl, rfl, _, _, rfl, rfl, _, rfl, ifF ?_ ?_⟩⟩
      · rw [decide_eq_true (by omega)]
        rfl
      refine ⟨_, rfl, p, rfl, ⟨_, h1⟩, ?_⟩
      refine for_tup (xs := vs) (fun i σ H1 => ∃ u, σ = [some (.ref p), u] ∧ H1 = H) ⟨_, rfl, rfl⟩ (fun i σ H1 _ ⟨u, _, e⟩ => e ▸ h1) (fun i x σ H1 hx hP => ?_) (fun σ H1 hP => ?_)
      · obtain ⟨u, rfl, rfl⟩ := hP
        obtain ⟨c, hc, nc⟩ := pget r hx
        exact ⟨_, rfl, x, c, rfl, nc, ok.np c (List.mem_of_getElem? hc), _, rfl, ifF rfl ⟨_, rfl, rfl⟩⟩
      · obtain ⟨u, rfl, rfl⟩ := hP
        obtain ⟨c, hc, hc0⟩ := ok.stp.2
        obtain ⟨x, hx⟩ := last_get (l := vs) (fun z => by
          rw [z] at hl
          simp at hl
          omega)
        obtain ⟨c', hc1, q, rfl, hq⟩ := plast r hx
        rw [hc] at hc1
        cases hc1
        refine ⟨_, rfl, _, rfl, p, _, _, _, rfl, rfl, h1, atI_neg hx, q, _, _, _, rfl, rfl, SqT.of hq, at0, rfl, ?_⟩
        have e : (!decide (V.int c.num = V.int 0)) = true := by
          rw [decide_eq_false (fun z => hc0 (Rat.num_eq_zero.mp (V.int.inj z)))]
          rfl
        rw [← e] at k
        exact k
theorem sc_needstep : FnScope ["value"] ["value"] (defScope (top 16)) := ⟨rfl, rfl, rfl, by decide +kernel, rfl, by decide +kernel, by decide +kernel⟩
theorem ok_needstep (T : Txt K mg) (Er : Errs P w K mg B) : Dn P w K mg base (L2.CX P w) 4 "need_step" ["value"] (spNeedStep B) := by
  refine Dn.mk (T.d 3) sc_needstep (fun vs H Q E h => ?_) (fun _ _ _ _ _ _ us hl => match us, hl with | [_], _ => rfl) (fun f cdv A outer s H vs Q E hr h => ?_)
  · obtain ⟨_, rfl, _⟩ := h
    rfl
  · obtain ⟨v, rfl, h⟩ := h
    refine ⟨_, pss_cons (ps_if (pt_not (pt_val (pe_dn (ok_isstep T) hr pass0 (pa_cons (pv 0) pa_nil)))) (pss_one (ps_raise rfl (takes_of rfl rfl rfl rfl) (pmk1 Er.step hr (pa_cons (pv 0) pa_nil)))) pss_nil) (pss_one (ps_ret (pv 0))), ?_⟩
    rcases h with ⟨rfl, k⟩ | ⟨l, st, ok, k⟩
    · exact ⟨_, rfl, _, rfl, .inl ⟨rfl, _, rfl, ifT rfl ⟨_, rfl, _, rfl, fun d hd => k.put (Same.refl _) hd rfl⟩⟩⟩
    · exact ⟨_, rfl, _, rfl, .inr ⟨l, st, ok, _, rfl, ifF rfl ⟨_, rfl, k⟩⟩⟩
theorem sc_needrow : FnScope ["value", "index", "step"] ["value"] (defScope (top 17)) := ⟨rfl, rfl, rfl, by decide +kernel, rfl, by decide +kernel, by decide +kernel⟩
theorem ok_needrow (T : Txt K mg) (Er : Errs P w K mg B) : Dn P w K mg base (L2.CX P w) 4 "need_row" ["value"] (spNeedRow B) := by
  refine Dn.mk (T.d 4) sc_needrow (fun vs H Q E h => ?_) (fun _ _ _ _ _ _ us hl => match us, hl with | [_], _ => rfl) (fun f cdv A outer s H vs Q E hr h => ?_)
  · obtain ⟨_, rfl, _⟩ := h
    rfl
  · obtain ⟨v, rfl, h⟩ := h
    have nd := sc_needrow.nd
    obtain ⟨tp, hrow⟩ := T.row
    refine ⟨_, pss_cons (ps_if (PW.pt (pw_or (pt_not (pt_val (pe_callB call_isi (by rfl) (T.b 3) (by decide +kernel) (pa_cons (pv 0) (pa_cons (pe_bltn (v := .ty "tuple") (u := .type "tuple") (by rfl) (T.b 6) (by decide +kernel) rfl) pa_nil))))) (pw_or1 (pt_not (pt_chain op_le op_le pe_int (pe_callB call_len_seq (by rfl) (T.b 0) PySem.boot_len (pa_cons (pv 0) pa_nil)) (pe_glob (v := .int 8) rfl hrow ⟨_, rfl⟩)))))) (pss_one (ps_raise rfl (takes_of rfl rfl rfl rfl) (pmk1 Er.row hr (pa_cons (pe_tup pa_nil) pa_nil)))) pss_nil)
      (pss_cons (ps_for (passes_of rfl) rfl (pi_enumT (T.b 2) (pa_cons (pv 0) pa_nil)) (pg_tup rfl (pgs_cons (pg_name (i := 1) nd rfl (Or.inl rfl)) (pgs_cons (pg_name (i := 2) nd rfl (Or.inl rfl)) pgs_nil))) (pss_one (ps_if (pt_not (pt_val (pe_dn (ok_isstep T) hr pass0 (pa_cons (pv 2) pa_nil)))) (pss_one (ps_raise rfl (takes_of rfl rfl rfl rfl) (pmk1 Er.row hr (pa_cons (pe_tup (pa_cons (pv 1) pa_nil)) pa_nil)))) pss_nil)))
      (pss_one (ps_ret (pv 0)))), ?_⟩
    rcases h with ⟨⟨p, vs, rfl, hp, r⟩, k⟩ | ⟨ws, ⟨p, vs, rfl, hp, r⟩, hn, h8, hok, k⟩
    · cases r
      refine ⟨_, rfl, _, _, _, _, true, rfl, .ty "tuple", .base (.tup hp), kit_ty (by decide +kernel), _, rfl, ifF rfl ?_⟩
      refine ⟨_, rfl, p, _, rfl, .inr (SqT.of hp), _, _, rfl, rfl, _, rfl, ifF (by simp) ⟨_, rfl, ifT rfl ?_⟩⟩
      refine ⟨(by show 0 ≤ sizeLine; decide), fun q hq => ⟨_, rfl, fun d hd => k.put (same_new hq) hd ⟨q, rfl, ?_⟩⟩⟩
      exact same_new hd q _ upd_same
    · have h1 : SqT K H p _ := SqT.of hp
      have hl := r.length
      have l2 := List.length_pos_iff.mpr hn
      refine ⟨_, rfl, _, _, _, _, true, rfl, .ty "tuple", .base (.tup hp), kit_ty (by decide +kernel), _, rfl, ifF rfl ?_⟩
      refine ⟨_, rfl, p, _, rfl, .inr h1, _, _, rfl, rfl, _, rfl, ifT (decide_eq_true (by omega)) ⟨_, _, rfl, rfl, _, rfl, ifF ?_ ?_⟩⟩
      · rw [decide_eq_true (by omega)]
        rfl
      refine ⟨_, rfl, p, vs, rfl, h1, ?_⟩
      refine for_it walk_enumT (fun i σ H1 => ∃ u1 u2, σ = [some (.ref p), u1, u2] ∧ Same H H1) ⟨_, _, rfl, Same.refl _⟩ (fun i σ H1 hi ⟨_, _, _, s1⟩ => SqT.of (s1 p _ hp)) (fun i x σ H1 H2 hi hP hY => ?_) (fun σ H1 hP => ?_)
      · obtain ⟨u1, u2, rfl, s1⟩ := hP
        obtain ⟨t, x', y', rfl, ht, rfl, e1, e2⟩ := hY
        obtain ⟨g, hg, ng⟩ := pget r e2
        refine ⟨t, _, rfl, SqT.of upd_same, rfl, _, _, rfl, _, _, rfl, rfl, ?_⟩
        exact ⟨_, rfl, y', rfl, .inr ⟨g, ng.mono (s1.tx.trans (tx_new ht)), hok g (List.mem_of_getElem? hg), _, rfl, ifF rfl ⟨_, _, rfl, s1.trans (same_new ht)⟩⟩⟩
      · obtain ⟨u1, u2, rfl, s1⟩ := hP
        exact ⟨_, rfl, k _ s1⟩
theorem sc_isword : FnScope ["value", "many", "letter"] ["value", "many"] (defScope (top 30)) := ⟨rfl, rfl, rfl, by decide +kernel, rfl, by decide +kernel, by decide +kernel⟩
theorem ok_isword (T : Txt K mg) : Dn P w K mg base CX0 2 "is_word" ["value", "many"] spIsWord := by
  refine Dn.mk0 (T.d 13) sc_isword (fun vs H Q E h => ?_) (fun _ _ _ _ _ _ us hl => match us, hl with | [_, _], _ => rfl) (fun f cdv A outer s H vs Q E hr h => ?_)
  · obtain ⟨_, _, _, rfl, _⟩ := h
    rfl
  · obtain ⟨v, m, ks, rfl, ⟨p, rfl, hp⟩, hkl, k⟩ := h
    have nd := sc_isword.nd
    obtain ⟨tp, hlet⟩ := T.letters
    have h1 : SqT K H p _ := SqT.of hp
    refine ⟨_, pss_cons (ps_if (PW.pt (pw_or (pt_not (pt_val (pe_callB call_isi (by rfl) (T.b 3) (by decide +kernel) (pa_cons (pv 0) (pa_cons (pe_bltn (v := .ty "tuple") (u := .type "tuple") (by rfl) (T.b 6) (by decide +kernel) rfl) pa_nil))))) (pw_or1 (pt_not (pt_chain op_le op_le pe_int (pe_callB call_len_seq (by rfl) (T.b 0) PySem.boot_len (pa_cons (pv 0) pa_nil)) (pe_glob (v := .int 8) rfl hlet ⟨_, rfl⟩)))))) (pss_one (ps_ret pe_bl)) pss_nil)
      (pss_one (ps_ret (pe_cmpR (op_eqD hr.units) (pe_lc (own := [("letter", 2)]) (g := gName 2) rfl nd (pi_tup (pv 0)) (blkOk_by (N := ["value", "many", "letter"]) (sc := defScope (top 30)) (by decide +kernel)) (fun _ _ _ _ _ => pg_name (i := 2) nd rfl (Or.inl rfl)) (fun _ _ _ _ _ => pts_one (pt_not (pt_val (pe_dn (ok_from T) hr pass0 (pa_cons (pv 2) (pa_cons pe_int (pa_cons (pe_op op_sub (pv 1) pe_int) pa_nil))))))) (fun _ _ _ _ _ => pe_int)) (pe_lst pa_nil) (nomark _)))), ?_⟩
    refine ⟨_, rfl, _, _, _, _, true, rfl, .ty "tuple", .base (.tup hp), kit_ty (by decide +kernel), _, rfl, ifF rfl ?_⟩
    refine ⟨_, rfl, p, _, rfl, .inr h1, _, _, rfl, rfl, _, rfl, ?_⟩
    rw [List.length_map]
    by_cases hk1 : 1 ≤ ks.length
    · refine ifT (decide_eq_true (by omega)) ⟨_, _, rfl, rfl, _, rfl, ?_⟩
      by_cases hk8 : ks.length ≤ 8
      · refine ifF (by rw [decide_eq_true (by omega)]; rfl) ?_
        refine ⟨_, rfl, p, rfl, ⟨_, h1⟩, fun D hD => ?_⟩
        refine lc_tup (xs := ks.map natV) (fun i H1 => Same H H1 ∧ ∃ n, H1 D = some (.lst ((List.replicate n (1 : Int)).map V.int)) ∧ n ≤ i ∧ (n = 0 ↔ ∀ k ∈ ks.take i, k < m)) ⟨same_new hD, 0, upd_same, Nat.le_refl _, by simp⟩ (fun i H1 _ hP => SqT.of (hP.1 _ _ hp)) (fun i x H1 hx hP => ?_) (fun H1 hP => ?_)
        · obtain ⟨s1, n, h2, hn, hall⟩ := hP
          have hi : i < ks.length := by
            have := (List.getElem?_eq_some_iff.mp hx).1
            rwa [List.length_map] at this
          obtain ⟨si, hsi⟩ : ∃ si, ks[i]? = some si := ⟨_, List.getElem?_eq_getElem hi⟩
          obtain rfl : x = natV si := by
            rw [List.getElem?_map, hsi] at hx
            exact (Option.some.inj hx).symm
          refine ⟨rfl, _, rfl, _, rfl, _, _, rfl, rfl, _, _, _, rfl, _, rfl, ?_⟩
          have htk : (∀ k ∈ ks.take (i + 1), k < m) ↔ (∀ k ∈ ks.take i, k < m) ∧ si < m := by
            rw [take_snoc hsi]
            simp [or_imp, forall_and]
          by_cases hm : si < m
          · refine ifF ?_ ⟨s1, n, h2, by omega, ?_⟩
            · rw [decide_eq_true (by show (0 : Int) ≤ (si : Int) ∧ (si : Int) ≤ (m : Int) - 1; omega)]
              rfl
            · rw [htk, hall]
              simp [hm]
          · refine ifT ?_ ⟨_, h2, Nat.lt_of_le_of_lt (by simp; omega : _ ≤ 5000) sl5000, Same.upd s1 hD, n + 1, ?_, by omega, ?_⟩
            · rw [decide_eq_false (by show ¬ ((0 : Int) ≤ (si : Int) ∧ (si : Int) ≤ (m : Int) - 1); omega)]
              rfl
            · rw [upd_same, List.replicate_succ']
              simp
            · rw [htk]
              simp [hm]
        · obtain ⟨s1, n, h2, hn, hall⟩ := hP
          rw [List.length_map, List.take_length] at hall
          refine ⟨(by show 0 ≤ sizeLine; decide), fun e he => ?_⟩
          refine ⟨.list ((List.replicate n (1 : Int)).map PyData.int), .list [], .lst (SqL.of (same_new he _ _ h2)) (dp_ints _), .lst (SqL.of upd_same) .nil, shaped_ints _, shaped_ints [], ?_⟩
          have := k _ (s1.trans (same_new (o := .lst []) he))
          have e : PyData.eqv (.list ((List.replicate n (1 : Int)).map PyData.int)) (.list []) = wordB ks m := by
            unfold wordB
            rw [decide_eq_true ⟨hk1, hk8⟩, Bool.true_and]
            cases n with
            | zero =>
              have h0 := hall.mp rfl
              rw [show PyData.eqv (.list ((List.replicate 0 (1 : Int)).map PyData.int)) (.list []) = true by simp [PyData.eqv, PyData.eqvAll]]
              symm
              rw [List.all_eq_true]
              intro x hx
              exact decide_eq_true (h0 x hx)
            | succ n =>
              rw [show PyData.eqv (.list ((List.replicate (n + 1) (1 : Int)).map PyData.int)) (.list []) = false by simp [List.replicate_succ, PyData.eqv, PyData.eqvAll]]
              symm
              rw [Bool.eq_false_iff]
              intro z
              rw [List.all_eq_true] at z
              exact absurd (hall.mpr fun x hx => of_decide_eq_true (z x hx)) (by omega)
          rw [e]
          exact this
      · refine ifT (by rw [decide_eq_false (by omega)]; rfl) ?_
        have e : wordB ks m = false := by simp [wordB, hk8]
        rw [e] at k
        exact k _ (Same.refl _)
    · refine ifF (decide_eq_false (by omega)) ⟨_, rfl, ifT rfl ?_⟩
      have e : wordB ks m = false := by simp [wordB, hk1]
      rw [e] at k
      exact k _ (Same.refl _)
theorem sc_needword : FnScope ["value", "many"] ["value", "many"] (defScope (top 31)) := ⟨rfl, rfl, rfl, by decide +kernel, rfl, by decide +kernel, by decide +kernel⟩
theorem ok_needword (T : Txt K mg) (Er : Errs P w K mg B) : Dn P w K mg base (L2.CX P w) 3 "need_word" ["value", "many"] (spNeedWord B) := by
  refine Dn.mk (T.d 14) sc_needword (fun vs H Q E h => ?_) (fun _ _ _ _ _ _ us hl => match us, hl with | [_, _], _ => rfl) (fun f cdv A outer s H vs Q E hr h => ?_)
  · obtain ⟨_, _, _, rfl, _⟩ := h
    rfl
  · obtain ⟨v, m, ks, rfl, lv, hkl, k1, k2⟩ := h
    refine ⟨_, pss_cons (ps_if (pt_not (pt_val (pe_dn (ok_isword T) hr pass0 (pa_cons (pv 0) (pa_cons (pv 1) pa_nil))))) (pss_one (ps_raise rfl (takes_of rfl rfl rfl rfl) (pmk1 Er.par hr (pa_cons (pv 0) pa_nil)))) pss_nil) (pss_one (ps_ret (pv 0))), ?_⟩
    refine ⟨_, rfl, _, rfl, v, m, ks, rfl, lv, hkl, fun H1 s1 => ⟨_, rfl, ?_⟩⟩
    cases hb : wordB ks m with
    | true => exact ifF rfl ⟨_, rfl, k1 hb _ s1⟩
    | false => exact ifT rfl ⟨_, rfl, _, rfl, fun d hd => (k2 hb).put s1 hd rfl⟩
theorem sc_check : FnScope ["degree"] ["degree"] (defScope (top 26)) := ⟨rfl, rfl, rfl, by decide +kernel, rfl, by decide +kernel, by decide +kernel⟩
theorem ok_check (T : Txt K mg) (Er : Errs P w K mg B) : Dn P w K mg base (L2.CX P w) 1 "check_degree" ["degree"] (spCheck B) := by
  refine Dn.mk (T.d 11) sc_check (fun vs H Q E h => ?_) (fun _ _ _ _ _ _ us hl => match us, hl with | [_], _ => rfl) (fun f cdv A outer s H vs Q E hr h => ?_)
  · obtain ⟨_, rfl, _⟩ := h
    rfl
  · obtain ⟨m, rfl, k1, k2⟩ := h
    obtain ⟨tp, hw⟩ := T.whole
    refine ⟨_, pss_one (ps_if (pt_cmpR op_gt (pv 0) (pe_glob (v := .int 256) rfl hw ⟨_, rfl⟩) (nomark _)) (pss_one (ps_raise rfl (takes_of rfl rfl rfl rfl) (pmk1 Er.great hr (pa_cons (pe_glob (v := .int 256) rfl hw ⟨_, rfl⟩) pa_nil)))) pss_nil), ?_⟩
    refine ⟨_, rfl, _, _, rfl, rfl, _, rfl, ?_⟩
    by_cases hm : 256 < m
    · exact ifT (decide_eq_true (by omega)) ⟨_, rfl, fun d hd => (k2 hm).put (Same.refl _) hd rfl⟩
    · exact ifF (decide_eq_false (by omega)) (k1 (by omega))
end
end K63
set_option Elab.async false
set_option linter.all false
set_option maxRecDepth 100000
set_option maxHeartbeats 4000000
namespace K63
open PySem PySem.Spec PyProof.Rows L2
/-- v is the program's pair for the step l -/
def PolyV (H : Hp) (v : V) (l : List Rat) : Prop := ∃ (p q : Addr) (ns : List Int) (b : Int), v = .ref p ∧ H p = some (.tup [.ref q, .int b]) ∧ H q = some (.lst (ns.map V.int)) ∧ IsPoly ns b l
theorem PolyV.same {H H' : Hp} (s : Same H H') {v : V} {l : List Rat} (h : PolyV H v l) : PolyV H' v l := by
  obtain ⟨p, q, ns, b, e, h1, h2, h3⟩ := h
  exact ⟨p, q, ns, b, e, s _ _ h1, s _ _ h2, h3⟩
def spReduced : Sp := fun vs H Q _ => ∃ (q : Addr) (ns : List Int) (b : Int), vs = [.ref q, .int b] ∧ H q = some (.lst (ns.map V.int)) ∧ 0 < b ∧ b.natAbs < 2 ^ 8000 ∧ ns.length ≤ 3000 ∧ (∃ n, ns.getLast? = some n ∧ n ≠ 0) ∧
  ∀ H' v, Same H H' → PolyV H' v (ns.map fun n : Int => (n : Rat) / (b : Rat)) → Q v H'
def spAsPoly : Sp := fun vs H Q _ => ∃ (v : V) (l : List Rat), vs = [v] ∧ StepV H v l ∧ Bl l ∧ Hd l ∧ ∀ H' u, Same H H' → PolyV H' u l → Q u H'
def spTimes : Sp := fun vs H Q _ => ∃ (p q : Addr) (as bs : List Int), vs = [.ref p, .ref q] ∧ H p = some (.lst (as.map V.int)) ∧ H q = some (.lst (bs.map V.int)) ∧ Bl (iR as) ∧ Bl (iR bs) ∧ as ≠ [] ∧ bs ≠ [] ∧
  ∀ H' f cs, Same H H' → H f = none → H' f = some (.lst (cs.map V.int)) → iR cs = pmul (iR as) (iR bs) → Q (.ref f) H'
theorem cut_all (xs : List V) : cutV xs none (some ((xs.length : Nat) : Int)) = xs := by
  unfold cutV
  rw [HT.sIx_none, HT.sIx_nat]
  simp
theorem eqv_ints (ns : List Int) : PyData.eqv (.list (ns.map PyData.int)) (.list []) = decide (ns = []) := by
  cases ns with
  | nil => simp [PyData.eqv, PyData.eqvAll]
  | cons n ns => simp [PyData.eqv, PyData.eqvAll]
theorem Prd.skip {a b c : List Rat} {i : Nat} (h : Prd a b i 0 0 c) : Prd a b i 0 b.length c := by
  refine ⟨h.len, fun x => ?_, fun t ht => (h.bd t ht).mono (Nat.mul_le_mul_right _ (by omega)) (Nat.le_refl _)⟩
  rw [h.ev x, Rat.zero_mul, Rat.zero_mul]
theorem rI_set (cs : List Int) (i : Nat) (z : Int) : iR (cs.set i z) = (iR cs).set i (z : Rat) := by
  unfold iR
  rw [List.map_set]
theorem rI_get {cs : List Int} {i : Nat} {z : Int} (h : cs[i]? = some z) : (iR cs)[i]? = some (z : Rat) := by
  unfold iR
  rw [List.getElem?_map, h]
  rfl
theorem vI_get {cs : List Int} {i : Nat} {z : Int} (h : cs[i]? = some z) : (cs.map V.int)[i]? = some (V.int z) := by
  rw [List.getElem?_map, h]
  rfl
theorem vI_inv {cs : List Int} {i : Nat} {x : V} (h : (cs.map V.int)[i]? = some x) : ∃ z, cs[i]? = some z ∧ x = V.int z := by
  rw [List.getElem?_map] at h
  cases e : cs[i]? with
  | none =>
    rw [e] at h
    cases h
  | some z =>
    rw [e] at h
    exact ⟨z, rfl, (Option.some.inj h).symm⟩
theorem int_small {n : Int} {ns : List Int} (h : Bl (iR ns)) (hn : n ∈ ns) : n.natAbs < 2 ^ 4001 := by
  have h1 := int_bd (h.bd (c := (n : Rat)) (List.mem_map.mpr ⟨n, hn, rfl⟩))
  refine Nat.lt_of_le_of_lt h1 ?_
  unfold BA
  exact Nat.pow_lt_pow_right (by decide) (by decide)
section
variable {P : Program} {w : World} {K : PySem.W.Frag} {mg : Str → Option Value} {base : Heap} {B : Str → Addr}
theorem sc_reduced : FnScope ["numbers", "below", "many", "whole", "number"] ["numbers", "below"] (defScope (top 19)) := ⟨rfl, rfl, rfl, by decide +kernel, rfl, by decide +kernel, by decide +kernel⟩
theorem ok_reduced (T : Txt K mg) : Dn P w K mg base CX0 1 "reduced" ["numbers", "below"] spReduced := by
  refine Dn.mk0 (T.d 6) sc_reduced (fun vs H Q E h => ?_) (fun _ _ _ _ _ _ us hl => match us, hl with | [_, _], _ => rfl) (fun f cdv A outer s H vs Q E hr h => ?_)
  · obtain ⟨_, _, _, rfl, _⟩ := h
    rfl
  · obtain ⟨q, ns, b, rfl, hq, hb, hs, hl, ⟨n0, hn0, hnz⟩, k⟩ := h
    have nd := sc_reduced.nd
    refine ⟨_, pss_cons (ps_set (i := 2) nd rfl (Or.inl rfl) (pe_callB call_len_seq (by rfl) (T.b 0) PySem.boot_len (pa_cons (pv 0) pa_nil)))
      (pss_cons (ps_while PassesOwn.never (PW.pt (pw_and (pt_cmpR op_gt (pv 2) pe_int (nomark _)) (pw_and1 (pt_cmpR op_eq (pe_ix ix_list (pv 0) (pe_op op_sub (pv 2) pe_int) (fun _ _ => rfl)) pe_int (nomark _))))) (pss_one (ps_set (i := 2) nd rfl (Or.inl rfl) (pe_op op_sub (pv 2) pe_int))))
      (pss_cons (ps_set (i := 3) nd rfl (Or.inr rfl) (pe_callBfun cr_gcd rfl T.gcd (pa_cons (pv 1) (pa_cons pe_int pa_nil))))
      (pss_cons (ps_for PassesOwn.never rfl (pi_list (pe_slice sl_list (pv 0) po_none (po_some (pv 2)))) (pg_name (i := 4) nd rfl (Or.inl rfl)) (pss_one (ps_set (i := 3) nd rfl (Or.inr rfl) (pe_callBfun cr_gcd rfl T.gcd (pa_cons (pv 3) (pa_cons (pv 4) pa_nil))))))
      (pss_cons (ps_if (pt_cmpR op_lt (pv 1) pe_int (nomark _)) (pss_one (ps_set (i := 3) nd rfl (Or.inr rfl) (pe_un un_neg (pv 3)))) pss_nil)
      (pss_one (ps_ret (pe_tup (pa_cons (pe_lc (own := [("number", 4)]) (g := gName 4) (tt := tYes) rfl nd (pi_list (pe_slice sl_list (pv 0) po_none (po_some (pv 2)))) (blkOk_by (N := ["numbers", "below", "many", "whole", "number"]) (sc := defScope (top 19)) (by decide +kernel)) (fun _ _ _ _ _ => pg_name (i := 4) nd rfl (Or.inl rfl)) (fun _ _ _ _ _ => pts_nil) (fun _ _ _ _ _ => pe_op op_fdivW (pv 4) (pv 3)))
        (pa_cons (pe_op op_fdivW (pv 1) (pv 3)) pa_nil))))))))), ?_⟩
    obtain ⟨hg1, hg2⟩ := gfold_dvd ns b.natAbs
    have hg0 : 0 < gfold b.natAbs ns := Nat.pos_of_dvd_of_pos hg1 (by omega)
    have hgl : gfold b.natAbs ns ≤ b.natAbs := Nat.le_of_dvd (by omega) hg1
    have hlen : 0 < ns.length := by
      cases ns with
      | nil => cases hn0
      | cons _ _ => simp
    have hdiv : ∀ c, CDivW c ((gfold b.natAbs ns : Nat) : Int) := fun c => wide_div (b := 8000) (by omega) (by rw [Int.natAbs_natCast]; omega) (by decide) (by decide)
    refine ⟨_, rfl, q, _, rfl, .inl (SqL.of hq), ?_⟩
    refine ⟨fun m σ H1 => σ = [some (.ref q), some (.int b), some (.int ((ns.map V.int).length : Int)), none, none] ∧ H1 = H, ⟨0, rfl, rfl⟩, ?_⟩
    rintro m σ H1 ⟨rfl, rfl⟩
    refine ⟨_, rfl, _, _, rfl, rfl, _, rfl, ifT (decide_eq_true (by rw [List.length_map]; omega)) ?_⟩
    refine ⟨_, rfl, _, rfl, _, _, rfl, rfl, q, _, _, V.int n0, rfl, rfl, SqL.of hq, ?_, rfl, _, rfl, ifF (decide_eq_false (fun z => hnz (V.int.inj z))) ?_⟩
    · have h9 := vI_get (getlast_idx hn0)
      have e9 : (((ns.map V.int).length : Nat) : Int) - 1 = ((ns.length - 1 : Nat) : Int) := by rw [List.length_map]; omega
      rw [e9]
      exact atI_nat h9
    refine ⟨_, rfl, _, _, rfl, ?_⟩
    rw [show Nat.gcd b.natAbs (0 : Int).natAbs = b.natAbs from Nat.gcd_zero_right _]
    refine ⟨_, rfl, _, rfl, _, rfl, q, _, rfl, SqL.of hq, fun e he => ?_⟩
    rw [cut_all]
    refine ⟨e, rfl, ⟨_, SqL.of upd_same⟩, ?_⟩
    refine for_list (xs := ns.map V.int) (fun i σ H2 => ∃ u, σ = [some (.ref q), some (.int b), some (.int ((ns.map V.int).length : Int)), some (.int ((gfold b.natAbs (ns.take i) : Nat) : Int)), u] ∧ H2 = upd H1 e (.lst (ns.map V.int))) ⟨_, rfl, rfl⟩ (fun i σ H2 _ ⟨u, _, e2⟩ => by rw [e2]; exact SqL.of upd_same) (fun i x σ H2 hx hP => ?_) (fun σ H2 hP => ?_)
    · obtain ⟨u, rfl, rfl⟩ := hP
      obtain ⟨z, hz, rfl⟩ := vI_inv hx
      refine ⟨_, rfl, _, rfl, _, _, rfl, some (.int z), ?_, rfl⟩
      have e3 : gfold b.natAbs (ns.take (i + 1)) = Nat.gcd (gfold b.natAbs (ns.take i)) z.natAbs := foldl_take _ _ hz
      rw [e3]
      rfl
    · obtain ⟨u, rfl, rfl⟩ := hP
      rw [List.length_map, List.take_length]
      have s1 : Same H1 (upd H1 e (.lst (ns.map V.int))) := same_new he
      refine ⟨_, rfl, _, _, rfl, rfl, _, rfl, ifF (decide_eq_false (by omega)) ?_⟩
      refine ⟨_, rfl, _, rfl, _, rfl, q, _, rfl, SqL.of (s1 _ _ hq), fun e2 he2 => ?_⟩
      have ecut : cutV (ns.map V.int) none (some ((ns.length : Nat) : Int)) = ns.map V.int := by
        have := cut_all (ns.map V.int)
        rwa [List.length_map] at this
      rw [ecut]
      have s2 := s1.trans (same_new (o := .lst (ns.map V.int)) he2)
      refine ⟨e2, rfl, ⟨_, SqL.of upd_same⟩, fun D hD => ?_⟩
      refine lc_list (xs := ns.map V.int) (fun i H2 => Same H1 H2 ∧ H2 e2 = some (.lst (ns.map V.int)) ∧ H1 D = none ∧ H2 D = some (.lst (((ns.map (· / ((gfold b.natAbs ns : Nat) : Int))).take i).map V.int))) ⟨s2.trans (same_new hD), same_new hD _ _ upd_same, s2.free hD, upd_same⟩ (fun i H2 _ hP => SqL.of hP.2.1) (fun i x H2 hx hP => ?_) (fun H2 hP => ?_)
      · obtain ⟨s3, h3, hD1, h4⟩ := hP
        obtain ⟨z, hz, rfl⟩ := vI_inv hx
        have nDe : e2 ≠ D := fun z => by
          rw [← z, upd_same] at hD
          cases hD
        have hz2 : (ns.map (· / ((gfold b.natAbs ns : Nat) : Int)))[i]? = some (z / ((gfold b.natAbs ns : Nat) : Int)) := by
          rw [List.getElem?_map, hz]
          rfl
        refine ⟨rfl, _, rfl, _, rfl, _, _, rfl, rfl, hdiv _, _, h4, Nat.lt_of_le_of_lt (by rw [List.length_map, List.length_take, List.length_map]; omega : _ ≤ 5000) sl5000, Same.upd s3 hD1, ?_, hD1, ?_⟩
        · rw [upd_ne nDe]
          exact h3
        · rw [upd_same, take_snoc hz2, List.map_append]
          rfl
      · obtain ⟨s3, h3, hD1, h4⟩ := hP
        rw [List.length_map, ← List.length_map (as := ns) (· / ((gfold b.natAbs ns : Nat) : Int)), List.take_length] at h4
        refine ⟨_, rfl, _, rfl, _, _, rfl, rfl, hdiv _, (by show 2 ≤ sizeLine; decide), fun t ht => ?_⟩
        have s4 := s3.trans (same_new (o := .tup [.ref D, .int (b / ((gfold b.natAbs ns : Nat) : Int))]) ht)
        exact k _ _ s4 ⟨t, D, _, _, rfl, upd_same, same_new ht _ _ h4, isPoly_red hb⟩
theorem sc_aspoly : FnScope ["step", "below", "number"] ["step"] (defScope (top 20)) := ⟨rfl, rfl, rfl, by decide +kernel, rfl, by decide +kernel, by decide +kernel⟩
theorem ok_aspoly (T : Txt K mg) : Dn P w K mg base CX0 2 "as_poly" ["step"] spAsPoly := by
  refine Dn.mk0 (T.d 7) sc_aspoly (fun vs H Q E h => ?_) (fun _ _ _ _ _ _ us hl => match us, hl with | [_], _ => rfl) (fun f cdv A outer s H vs Q E hr h => ?_)
  · obtain ⟨_, _, rfl, _⟩ := h
    rfl
  · obtain ⟨v, l, rfl, ⟨p, vs, rfl, hp, r⟩, bl, hd, k⟩ := h
    have nd := sc_aspoly.nd
    refine ⟨_, pss_cons (ps_set (i := 1) nd rfl (Or.inr rfl) pe_int)
      (pss_cons (ps_for PassesOwn.never rfl (pi_tup (pv 0)) (pg_name (i := 2) nd rfl (Or.inl rfl)) (pss_one (ps_set (i := 1) nd rfl (Or.inr rfl) (pe_op op_fdivW (pe_op op_mulW (pv 1) (pe_ix ix_tup (pv 2) pe_int (fun _ _ => rfl))) (pe_callBfun cr_gcd rfl T.gcd (pa_cons (pv 1) (pa_cons (pe_ix ix_tup (pv 2) pe_int (fun _ _ => rfl)) pa_nil)))))))
      (pss_one (ps_ret (pe_dn (ok_reduced T) hr pass0 (pa_cons (pe_lc (own := [("number", 2)]) (g := gName 2) (tt := tYes) rfl nd (pi_tup (pv 0)) (blkOk_by (N := ["step", "below", "number"]) (sc := defScope (top 20)) (by decide +kernel)) (fun _ _ _ _ _ => pg_name (i := 2) nd rfl (Or.inl rfl)) (fun _ _ _ _ _ => pts_nil) (fun _ _ _ _ _ => pe_op op_mulW (pe_ix (r := rIxT K) ix_tup (pv 2) pe_int (fun _ _ => rfl)) (pe_op op_fdivW (pv 1) (pe_ix (r := rIxT K) ix_tup (pv 2) pe_int (fun _ _ => rfl)))))
        (pa_cons (pv 1) pa_nil)))))), ?_⟩
    have hlen := r.length
    have ll := bl.len
    have lc := fun i => lcmL_le (i := i) bl.dk
    have hp2 : (2 : Nat) ^ 1000 < 2 ^ 1001 := Nat.pow_lt_pow_right (by decide) (by decide)
    have h1 : SqT K H p _ := SqT.of hp
    have hden : ∀ c ∈ l, 0 < c.den ∧ c.den < 2 ^ 4000 := fun c hc => ⟨c.den_pos, (bl.sz hc).2⟩
    refine ⟨_, rfl, p, rfl, ⟨_, h1⟩, ?_⟩
    refine for_tup (xs := vs) (fun i σ H1 => ∃ u, σ = [some (.ref p), some (.int ((lcmL (l.take i) : Nat) : Int)), u] ∧ H1 = H) ⟨_, rfl, rfl⟩ (fun i σ H1 _ ⟨u, _, e⟩ => e ▸ h1) (fun i x σ H1 hx hP => ?_) (fun σ H1 hP => ?_)
    · obtain ⟨u, rfl, rfl⟩ := hP
      obtain ⟨c, hc, q, rfl, hq⟩ := pget r hx
      have hcm := List.mem_of_getElem? hc
      have d1 := hden c hcm
      have d2 := lc i
      have hgp : 0 < Nat.gcd (lcmL (l.take i)) c.den := Nat.gcd_pos_of_pos_right _ d1.1
      have hgl : Nat.gcd (lcmL (l.take i)) c.den ≤ c.den := Nat.gcd_le_right _ d1.1
      refine ⟨_, rfl, _, rfl, q, _, _, _, rfl, rfl, SqT.of hq, at1, _, _, rfl, rfl, sz_mul (m := 1001) (n := 4000) (by rw [Int.natAbs_natCast]; omega) (by rw [Int.natAbs_natCast]; omega) (by decide) (by decide) (by decide), ?_⟩
      refine ⟨_, rfl, _, rfl, q, _, _, _, rfl, rfl, SqT.of hq, at1, _, _, rfl, _, _, rfl, rfl, wide_div (b := 4000) ?_ ?_ (by decide) (by decide), some (.ref q), ?_, rfl⟩
      · rw [Int.natAbs_natCast, Int.natAbs_natCast]
        omega
      · rw [Int.natAbs_natCast, Int.natAbs_natCast, Int.natAbs_natCast]
        omega
      · have e3 : lcmL (l.take (i + 1)) = Nat.lcm (lcmL (l.take i)) c.den := foldl_take _ _ hc
        rw [e3]
        show [some (V.ref p), some (V.int (((lcmL (l.take i) : Nat) : Int) * ((c.den : Nat) : Int) / ((Nat.gcd (((lcmL (l.take i) : Nat) : Int)).natAbs (((c.den : Nat) : Int)).natAbs : Nat) : Int))), _] = _
        rw [Int.natAbs_natCast, Int.natAbs_natCast, ← Int.natCast_mul, ← Int.natCast_ediv]
        rfl
    · obtain ⟨u, rfl, rfl⟩ := hP
      rw [hlen, List.take_length]
      have d2 := lc l.length
      rw [List.take_length] at d2
      refine ⟨_, rfl, p, rfl, ⟨_, h1⟩, fun D hD => ?_⟩
      refine lc_tup (xs := vs) (fun i H2 => Same H1 H2 ∧ H2 D = some (.lst (((upN l).take i).map V.int))) ⟨same_new hD, upd_same⟩ (fun i H2 _ hP => SqT.of (hP.1 _ _ hp)) (fun i x H2 hx hP => ?_) (fun H2 hP => ?_)
      · obtain ⟨s3, h4⟩ := hP
        obtain ⟨c, hc, q, rfl, hq⟩ := pget r hx
        have hcm := List.mem_of_getElem? hc
        have d1 := hden c hcm
        have hz2 : (upN l)[i]? = some (c.num * ((lcmL l / c.den : Nat) : Int)) := by
          unfold upN
          rw [List.getElem?_map, hc]
          rfl
        have hq2 := SqT.of (K := K) (s3 _ _ hq)
        have hdl : lcmL l / c.den ≤ lcmL l := Nat.div_le_self _ _
        refine ⟨rfl, _, rfl, q, _, _, _, rfl, rfl, hq2, at0, _, rfl, _, rfl, q, _, _, _, rfl, rfl, hq2, at1, _, _, rfl, rfl, wide_div (b := 4000) (by omega) (by rw [Int.natAbs_natCast]; omega) (by decide) (by decide), _, _, rfl, rfl, ?_, ?_⟩
        · refine sz_mul (m := 200000) (n := 1001) (bl.sz hcm).1 ?_ (by decide) (by decide) (by decide)
          rw [← Int.natCast_ediv, Int.natAbs_natCast]
          omega
        · refine ⟨_, h4, Nat.lt_of_le_of_lt (by simp [upN]; omega : _ ≤ 5000) sl5000, Same.upd s3 hD, ?_⟩
          rw [upd_same, take_snoc hz2, List.map_append, Int.natCast_ediv]
          rfl
      · obtain ⟨s3, h4⟩ := hP
        have hul : (upN l).length = l.length := by simp [upN]
        rw [hlen, ← hul, List.take_length] at h4
        have hue := up_eq l
        refine ⟨_, rfl, D, upN l, ((lcmL l : Nat) : Int), rfl, h4, by omega, Nat.lt_of_le_of_lt (by rw [Int.natAbs_natCast]; exact d2.2) (Nat.pow_lt_pow_right (by decide) (by decide)), by omega, ?_, fun H3 u s4 hu => k H3 u (s3.trans s4) (by rwa [hue] at hu)⟩
        exact last_int hue hd
end
end K63
set_option Elab.async false
set_option linter.all false
set_option maxRecDepth 100000
set_option maxHeartbeats 4000000
namespace K63
open PySem PySem.Spec PyProof.Rows L2
def spPutIn : Sp := fun vs H Q _ => ∃ (x y : V) (lo li : List Rat), vs = [x, y] ∧ PolyV H x lo ∧ PolyV H y li ∧ WB li ∧ Gd lo ∧ ∀ H' u, Same H H' → PolyV H' u (within li lo) → Q u H'
section
variable {P : Program} {w : World} {K : PySem.W.Frag} {mg : Str → Option Value} {base : Heap} {B : Str → Addr}
theorem sc_times : FnScope ["one", "other", "found", "near", "first", "far", "second"] ["one", "other"] (defScope (top 21)) := ⟨rfl, rfl, rfl, by decide +kernel, rfl, by decide +kernel, by decide +kernel⟩
theorem ok_times (T : Txt K mg) : Dn P w K mg base CX0 1 "times_so" ["one", "other"] spTimes := by
  refine Dn.mk0 (T.d 8) sc_times (fun vs H Q E h => ?_) (fun _ _ _ _ _ _ us hl => match us, hl with | [_, _], _ => rfl) (fun f cdv A outer s H vs Q E hr h => ?_)
  · obtain ⟨_, _, _, _, rfl, _⟩ := h
    rfl
  · obtain ⟨p, q, as, bs, rfl, hp, hq, ba, bb', ha, hb, k⟩ := h
    have nd := sc_times.nd
    refine ⟨_, pss_cons (ps_if (PW.pt (pw_or (pt_cmpR (op_eqD hr.units) (pv 0) (pe_lst pa_nil) (nomark _)) (pw_or1 (pt_cmpR (op_eqD hr.units) (pv 1) (pe_lst pa_nil) (nomark _))))) (pss_one (ps_ret (pe_lst pa_nil))) pss_nil)
      (pss_cons (ps_set (i := 2) nd rfl (Or.inl rfl) (pe_op op_rep (pe_lst (pa_cons pe_int pa_nil)) (pe_op op_sub (pe_op op_add (pe_callB call_len_seq (by rfl) (T.b 0) PySem.boot_len (pa_cons (pv 0) pa_nil)) (pe_callB call_len_seq (by rfl) (T.b 0) PySem.boot_len (pa_cons (pv 1) pa_nil))) pe_int)))
      (pss_cons (ps_for PassesOwn.never rfl (pi_enum (by rfl) (T.b 2) (pa_cons (pv 0) pa_nil)) (pg_tup rfl (pgs_cons (pg_name (i := 3) nd rfl (Or.inl rfl)) (pgs_cons (pg_name (i := 4) nd rfl (Or.inl rfl)) pgs_nil)))
        (pss_one (ps_if (pt_cmpR op_ne (pv 4) pe_int (nomark _)) (pss_one (ps_for PassesOwn.never rfl (pi_enum (by rfl) (T.b 2) (pa_cons (pv 1) pa_nil)) (pg_tup rfl (pgs_cons (pg_name (i := 5) nd rfl (Or.inl rfl)) (pgs_cons (pg_name (i := 6) nd rfl (Or.inl rfl)) pgs_nil)))
          (pss_one (ps_asg (pe_op op_add (pe_ix ix_list (pv 2) (pe_op op_add (pv 3) (pv 5)) (fun _ _ => rfl)) (pe_op op_mulW (pv 4) (pv 6))) (pg_sub (pv 2) (pe_op op_add (pv 3) (pv 5)) set_list))))) pss_nil)))
      (pss_one (ps_ret (pv 2))))), ?_⟩
    have la := ba.len
    have lb := bb'.len
    have ea := rI_len as
    have eb := rI_len bs
    have ha0 := List.length_pos_iff.mpr ha
    have hb0 := List.length_pos_iff.mpr hb
    refine ⟨_, rfl, (by show 0 ≤ sizeLine; decide), fun e1 he1 => ?_⟩
    have s1 := same_new (o := .lst []) he1
    refine ⟨.list (as.map PyData.int), .list [], .lst (SqL.of (s1 _ _ hp)) (dp_ints as), .lst (SqL.of upd_same) .nil, shaped_ints as, shaped_ints [], _, rfl, ifF (by rw [eqv_ints]; exact decide_eq_false ha) ?_⟩
    refine ⟨_, rfl, (by show 0 ≤ sizeLine; decide), fun e2 he2 => ?_⟩
    have s2 := s1.trans (same_new (o := .lst []) he2)
    refine ⟨.list (bs.map PyData.int), .list [], .lst (SqL.of (s2 _ _ hq)) (dp_ints bs), .lst (SqL.of upd_same) .nil, shaped_ints bs, shaped_ints [], _, rfl, ifF (by rw [eqv_ints]; exact decide_eq_false hb) ?_⟩
    generalize upd (upd H e1 (.lst [])) e2 (.lst []) = H0 at s2
    refine ⟨(by show 1 ≤ sizeLine; decide), fun o ho => ?_⟩
    have s3 := s2.trans (same_new (o := .lst [V.int 0]) ho)
    refine ⟨_, rfl, p, _, rfl, .inl (SqL.of (s3 _ _ hp)), _, rfl, q, _, rfl, .inl (SqL.of (s3 _ _ hq)), _, _, rfl, rfl, _, _, rfl, rfl, ?_⟩
    rw [List.length_map, List.length_map]
    have hlen : (((as.length : Nat) : Int) + ((bs.length : Nat) : Int) - 1).toNat = as.length + bs.length - 1 := by omega
    refine ⟨o, _, _, rfl, rfl, upd_same, by omega, by omega, ?_, fun f hf => ?_⟩
    · exact Nat.le_trans (by simp; omega : _ ≤ 5000) (Nat.le_of_lt sl5000)
    rw [hlen, rep_one]
    have s4 := s3.trans (same_new (o := .lst (List.replicate (as.length + bs.length - 1) (V.int 0))) hf)
    have hfH : H f = none := s3.free hf
    refine ⟨_, rfl, p, _, rfl, SqL.of (s4 _ _ hp), ?_⟩
    refine for_it walk_enum (fun i σ H1 => ∃ cs u3 u4 u5 u6, σ = [some (.ref p), some (.ref q), some (.ref f), u3, u4, u5, u6] ∧ Same H H1 ∧ H1 f = some (.lst (cs.map V.int)) ∧ ∀ ai, Prd (iR as) (iR bs) i ai 0 (iR cs))
      ⟨List.replicate (as.length + bs.length - 1) 0, _, _, _, _, rfl, s4, by rw [upd_same, List.map_replicate], fun ai => ?_⟩ (fun i σ H1 hi ⟨cs, u3, u4, u5, u6, h0, s1, h1⟩ => SqL.of (s1 _ _ hp)) (fun i x σ H1 H2 hi hP hY => ?_) (fun σ H1 hP => ?_)
    · have e := Prd.zero (a := iR as) (b := iR bs) ai
      rw [ea, eb] at e
      have e2 : iR (List.replicate (as.length + bs.length - 1) 0) = List.replicate (as.length + bs.length - 1) 0 := by
        unfold iR
        rw [List.map_replicate]
        rfl
      rw [e2]
      exact e
    · obtain ⟨cs, u3, u4, u5, u6, rfl, s5, h5, p5⟩ := hP
      obtain ⟨t, x', y', rfl, ht, rfl, e1, e2⟩ := hY
      cases e1
      obtain ⟨a, hai, rfl⟩ := vI_inv e2
      have hiA : i < as.length := (List.getElem?_eq_some_iff.mp hai).1
      have hram := List.mem_of_getElem? hai
      refine ⟨t, _, rfl, SqT.of upd_same, rfl, _, _, rfl, _, _, rfl, rfl, ?_⟩
      have s6 := s5.trans (same_new (o := .tup [.int (i : Int), .int a]) ht)
      have h6 := same_new (o := .tup [.int (i : Int), .int a]) ht f _ h5
      refine ⟨_, rfl, rfl, _, rfl, ?_⟩
      by_cases hz : V.int a = V.int 0
      · refine ifF (by rw [decide_eq_true hz]; rfl) ⟨cs, _, _, _, _, rfl, s6, h6, fun aj => ?_⟩
        have h9 := (p5 0).skip
        have hai' := rI_get hai
        rw [V.int.inj hz] at hai'
        exact h9.out hai'
      · refine ifT (by rw [decide_eq_false hz]; rfl) ⟨_, rfl, q, _, rfl, SqL.of (s6 _ _ hq), ?_⟩
        refine for_it walk_enum (fun j σ H1 => ∃ cs u5 u6, σ = [some (.ref p), some (.ref q), some (.ref f), some (.int (i : Int)), some (.int a), u5, u6] ∧ Same H H1 ∧ H1 f = some (.lst (cs.map V.int)) ∧ Prd (iR as) (iR bs) i (a : Rat) j (iR cs))
          ⟨cs, _, _, rfl, s6, h6, p5 _⟩ (fun j σ H1 hj ⟨cs, u5, u6, h0, s1, h1⟩ => SqL.of (s1 _ _ hq)) (fun j x σ H3 H4 hj hP hY => ?_) (fun σ H3 hP => ?_)
        · obtain ⟨cs, u5, u6, rfl, s7, h7, p7⟩ := hP
          obtain ⟨t2, x2, y2, rfl, ht2, rfl, e3, e4⟩ := hY
          cases e3
          obtain ⟨b, hbj, rfl⟩ := vI_inv e4
          have hjB : j < bs.length := (List.getElem?_eq_some_iff.mp hbj).1
          have hcl := p7.len
          rw [rI_len, ea, eb] at hcl
          obtain ⟨cv, hcv⟩ : ∃ cv, cs[i + j]? = some cv := ⟨_, List.getElem?_eq_getElem (by omega)⟩
          have s8 := s7.trans (same_new (o := .tup [.int (j : Int), .int b]) ht2)
          have h8 := same_new (o := .tup [.int (j : Int), .int b]) ht2 f _ h7
          refine ⟨t2, _, rfl, SqT.of upd_same, rfl, _, _, rfl, _, _, rfl, rfl, _, rfl, _, rfl, _, rfl, _, _, rfl, rfl, f, _, _, V.int cv, rfl, rfl, SqL.of h8, (by rw [← Int.natCast_add]; exact atI_nat (vI_get hcv)), _, rfl, _, rfl, _, _, rfl, rfl, sz_mul (m := 4001) (n := 4001) (int_small ba hram) (int_small bb' (List.mem_of_getElem? hbj)) (by decide) (by decide) (by decide), _, _, rfl, rfl, ?_⟩
          refine ⟨_, rfl, _, rfl, _, rfl, _, _, rfl, rfl, f, _, _, i + j, rfl, rfl, h8, ?_, cs.set (i + j) (cv + a * b), _, _, rfl, Same.upd s8 hfH, by rw [upd_same, List.map_set], ?_⟩
          · unfold ixN
            rw [if_pos (by omega), if_pos (by rw [List.length_map]; omega)]
            congr 1
          · rw [rI_set, Rat.intCast_add, Rat.intCast_mul]
            exact p7.in ba bb' (rI_get hai) (rI_get hbj) (rI_get hcv)
        · obtain ⟨cs, u5, u6, rfl, s7, h7, p7⟩ := hP
          rw [List.length_map, ← eb] at p7
          exact ⟨cs, _, _, _, _, rfl, s7, h7, fun aj => p7.out (rI_get hai)⟩
    · obtain ⟨cs, u3, u4, u5, u6, rfl, s5, h5, p5⟩ := hP
      rw [List.length_map, ← ea] at p5
      refine ⟨_, rfl, k H1 f cs s5 hfH h5 ((p5 0).done (ne_len (by omega)) (ne_len (by omega)))⟩
theorem sc_putin : FnScope ["outer", "inner", "found", "shift", "below", "number"] ["outer", "inner"] (defScope (top 22)) := ⟨rfl, rfl, rfl, by decide +kernel, rfl, by decide +kernel, by decide +kernel⟩
theorem ok_putin (T : Txt K mg) : Dn P w K mg base CX0 2 "put_in" ["outer", "inner"] spPutIn := by
  refine Dn.mk0 (T.d 9) sc_putin (fun vs H Q E h => ?_) (fun _ _ _ _ _ _ us hl => match us, hl with | [_, _], _ => rfl) (fun f cdv A outer s H vs Q E hr h => ?_)
  · obtain ⟨_, _, _, _, rfl, _⟩ := h
    rfl
  · obtain ⟨x, y, lo, li, rfl, ⟨po, qo, os, bo, rfl, hpo, hqo, Io⟩, ⟨pi, qi, is, bi, rfl, hpi, hqi, Ii⟩, wl, gl, k⟩ := h
    have nd := sc_putin.nd
    refine ⟨_, pss_cons (ps_par3 (i := 2) (j := 3) (l := 4) rfl nd rfl rfl rfl (by decide) (by decide) (by decide) rfl rfl rfl (pa_cons (pe_lst pa_nil) (pa_cons pe_int (pa_cons (pe_ix ix_tup (pv 0) pe_int (fun _ _ => rfl)) pa_nil))) (by rfl))
      (pss_cons (ps_for PassesOwn.never rfl (pi_reversed (by rfl) (T.b 9) (pa_cons (pe_ix ix_tup (pv 0) pe_int (fun _ _ => rfl)) pa_nil)) (pg_name (i := 5) nd rfl (Or.inl rfl))
        (pss_cons (ps_set (i := 2) nd rfl (Or.inl rfl) (pe_ifExp (pt_cmpR (op_neD hr.units) (pv 2) (pe_lst pa_nil) (nomark _)) (pe_dn (ok_times T) hr pass0 (pa_cons (pv 2) (pa_cons (pe_ix ix_tup (pv 1) pe_int (fun _ _ => rfl)) pa_nil))) (pe_lst (pa_cons pe_int pa_nil))))
        (pss_cons (ps_asg (pe_op op_add (pe_ix ix_list (pv 2) pe_int (fun _ _ => rfl)) (pe_op op_mulW (pv 5) (pv 3))) (pg_sub (pv 2) pe_int set_list))
        (pss_one (ps_par (i := 3) (j := 4) rfl nd rfl rfl (by decide) rfl rfl (pa_cons (pe_op op_mulW (pv 3) (pe_ix ix_tup (pv 1) pe_int (fun _ _ => rfl))) (pa_cons (pe_op op_mulW (pe_ix ix_tup (pv 0) pe_int (fun _ _ => rfl)) (pv 3)) pa_nil)) (by rfl))))))
      (pss_one (ps_ret (pe_dn (ok_reduced T) hr pass0 (pa_cons (pv 2) (pa_cons (pv 4) pa_nil)))))), ?_⟩
    obtain ⟨bli, hbi⟩ := poly_bl Ii wl
    obtain ⟨blo, hbo⟩ := poly_bl Io gl.wb
    have lo5 := gl.len
    have lo2 := gl.stp.1
    have hosl : os.length = lo.length := Io.len
    have hisl : is.length = li.length := Ii.len
    have li2 := wl.stp.1
    have hisn : is ≠ [] := ne_len (by omega)
    have h1o : SqT K H po _ := SqT.of hpo
    have pbi : ∀ j, j ≤ 4 → (bi ^ j).natAbs < 2 ^ 300 := fun j hj => by
      rw [Int.natAbs_pow]
      have a1 : bi.natAbs ^ j ≤ (2 ^ 64) ^ j := Nat.pow_le_pow_left hbi _
      have a2 : (2 ^ 64) ^ j ≤ (2 ^ 64) ^ 4 := Nat.pow_le_pow_right (by decide) hj
      exact Nat.lt_of_le_of_lt (Nat.le_trans a1 a2) (by rw [← Nat.pow_mul]; exact Nat.pow_lt_pow_right (by decide) (by decide))
    refine ⟨(by show 0 ≤ sizeLine; decide), fun f0 hf0 => ?_⟩
    have s0 := same_new (o := .lst []) hf0
    refine ⟨_, rfl, po, _, _, _, rfl, rfl, SqT.of (s0 _ _ hpo), at1, _, _, _, rfl, ?_⟩
    refine ⟨_, rfl, po, _, _, _, rfl, rfl, SqT.of (s0 _ _ hpo), at0, qo, _, rfl, SqL.of (s0 _ _ hqo), ?_⟩
    refine for_it walk_rev (fun t σ H1 => ∃ f cs u, Same H H1 ∧ H f = none ∧ H1 f = some (.lst (cs.map V.int)) ∧ ((t = 0 ∧ cs = [] ∧ σ = [some (.ref po), some (.ref pi), some (.ref f), some (.int 1), some (.int bo), u]) ∨
        (0 < t ∧ σ = [some (.ref po), some (.ref pi), some (.ref f), some (.int (bi ^ t)), some (.int (bo * bi ^ (t - 1))), u] ∧ iR cs = smul ((bi : Rat) ^ (t - 1) * (bo : Rat)) (within li (lo.drop (lo.length - t))))))
      ⟨f0, [], _, s0, hf0, upd_same, .inl ⟨rfl, rfl, rfl⟩⟩ (fun t σ H1 _ ⟨f, cs, u, s1, _⟩ => SqL.of (s1 _ _ hqo)) (fun t x σ H1 H2 ht hP hY => ?_) (fun σ H1 hP => ?_)
    · obtain ⟨rfl, hx⟩ := hY
      rw [List.length_map] at hx ht
      obtain ⟨z, hz, rfl⟩ := vI_inv hx
      -- the coefficient
      have hzr : ∃ c, lo.reverse[t]? = some c ∧ (z : Rat) = (bo : Rat) * c := by
        have h7 := rI_get hz
        rw [Io.smul] at h7
        have hlt : t < lo.length := by omega
        rw [hosl] at h7
        unfold K63.smul at h7
        rw [List.getElem?_map] at h7
        refine ⟨lo[lo.length - 1 - t], ?_, ?_⟩
        · rw [List.getElem?_reverse hlt]
          exact List.getElem?_eq_getElem _
        · rw [List.getElem?_eq_getElem (by omega)] at h7
          exact (Option.some.inj h7).symm
      obtain ⟨c, hc, ezc⟩ := hzr
      have hzs := int_small blo (List.mem_of_getElem? hz)
      obtain ⟨f, cs, u, s1, hfH, h1, h⟩ := hP
      rcases h with ⟨rfl, rfl, rfl⟩ | ⟨t0, rfl, hF⟩
      · -- the first turn
        refine ⟨_, rfl, (by show 0 ≤ sizeLine; decide), fun e he => ?_⟩
        refine ⟨.list (([] : List Int).map PyData.int), .list [], .lst (SqL.of (same_new he _ _ h1)) (dp_ints []), .lst (SqL.of upd_same) .nil, shaped_ints [], shaped_ints [], _, rfl, ifF (by rw [eqv_ints]; rfl) ?_⟩
        refine ⟨(by show 1 ≤ sizeLine; decide), fun g hg => ?_⟩
        have s2 := s1.trans ((same_new (o := .lst []) he).trans (same_new (o := .lst [V.int 0]) hg))
        have hgH : H g = none := (s1.trans (same_new (o := .lst []) he)).free hg
        refine ⟨_, rfl, g, _, _, _, rfl, rfl, SqL.of upd_same, at0, _, rfl, _, rfl, _, _, rfl, rfl, sz_mul (m := 4001) (n := 2) hzs (by decide) (by decide) (by decide) (by decide), _, _, rfl, rfl, ?_⟩
        refine ⟨_, rfl, g, _, _, 0, rfl, rfl, upd_same, rfl, ?_⟩
        have s3 := Same.upd (o := .lst [V.int (0 + z * 1)]) s2 hgH
        refine ⟨_, rfl, _, rfl, pi, _, _, _, rfl, rfl, SqT.of (s3 _ _ hpi), at1, _, _, rfl, rfl, sz_mul (m := 2) (n := 65) (by decide) (Nat.lt_of_le_of_lt hbi (by decide)) (by decide) (by decide) (by decide), ?_⟩
        refine ⟨_, rfl, po, _, _, _, rfl, rfl, SqT.of (s3 _ _ hpo), at1, _, rfl, _, _, rfl, rfl, sz_mul (m := 65) (n := 2) (Nat.lt_of_le_of_lt hbo (by decide)) (by decide) (by decide) (by decide) (by decide), ?_⟩
        refine ⟨_, _, rfl, g, [0 + z * 1], some (.int z), s3, hgH, upd_same, .inr ⟨by decide, ?_, ?_⟩⟩
        · show [some (V.ref po), some (V.ref pi), some (V.ref g), some (V.int (1 * bi)), some (V.int (bo * 1)), some (V.int z)] = _
          rw [Int.one_mul, Nat.zero_add, Int.pow_succ, Int.pow_zero, Int.one_mul]
        · have e := put_first (li := li) (lo := lo) (bo := (bo : Rat)) wl.stp.2.ne hc
          rw [← ezc] at e
          show [((0 + z * 1 : Int) : Rat)] = _
          rw [Rat.intCast_add, Rat.intCast_mul]
          simpa using e
      · -- the later ones
        have bF := put_bl wl gl t0 (by omega) hbi hbo Ii.pos Io.pos hF
        have hcsn : cs ≠ [] := fun z => by
          rw [z] at hF
          have := congrArg List.length hF
          rw [smul_len, put_len wl.stp gl.stp.2 t0 (by omega)] at this
          simp [iR] at this
        refine ⟨_, rfl, (by show 0 ≤ sizeLine; decide), fun e he => ?_⟩
        have s2 := s1.trans (same_new (o := .lst []) he)
        have h2 := same_new (o := .lst []) he _ _ h1
        refine ⟨.list (cs.map PyData.int), .list [], .lst (SqL.of h2) (dp_ints cs), .lst (SqL.of upd_same) .nil, shaped_ints cs, shaped_ints [], _, rfl, ifT (by rw [eqv_ints, decide_eq_false hcsn]; rfl) ?_⟩
        refine ⟨_, rfl, _, rfl, pi, _, _, _, rfl, rfl, SqT.of (s2 _ _ hpi), at0, f, qi, cs, is, rfl, h2, s2 _ _ hqi, bF, bli, hcsn, hisn, fun H3 g ds s3 hg h3 hds => ?_⟩
        have s4 := s2.trans s3
        have hgH : H g = none := s2.free hg
        have hdl : ds.length = cs.length + is.length - 1 := by
          have := congrArg List.length hds
          rw [rI_len, pmul_len (ne_len (by rw [rI_len]; exact List.length_pos_iff.mpr hcsn)) (ne_len (by rw [rI_len]; omega)), rI_len, rI_len] at this
          exact this
        have hcs0 := List.length_pos_iff.mpr hcsn
        obtain ⟨d0, hd0⟩ : ∃ d0, ds[0]? = some d0 := ⟨_, List.getElem?_eq_getElem (by omega)⟩
        refine ⟨_, rfl, g, _, _, _, rfl, rfl, SqL.of h3, atI_nat (j := 0) (vI_get hd0), _, rfl, _, rfl, _, _, rfl, rfl, sz_mul (m := 4001) (n := 300) hzs (pbi t (by omega)) (by decide) (by decide) (by decide), _, _, rfl, rfl, ?_⟩
        refine ⟨_, rfl, g, _, _, 0, rfl, rfl, h3, ?_, ?_⟩
        · unfold ixN
          rw [if_pos (by decide), if_pos (by rw [List.length_map]; omega)]
          rfl
        have s5 := Same.upd (o := .lst ((ds.map V.int).set 0 (V.int (d0 + z * bi ^ t)))) s4 hgH
        refine ⟨_, rfl, _, rfl, pi, _, _, _, rfl, rfl, SqT.of (s5 _ _ hpi), at1, _, _, rfl, rfl, sz_mul (m := 300) (n := 65) (pbi t (by omega)) (Nat.lt_of_le_of_lt hbi (by decide)) (by decide) (by decide) (by decide), ?_⟩
        refine ⟨_, rfl, po, _, _, _, rfl, rfl, SqT.of (s5 _ _ hpo), at1, _, rfl, _, _, rfl, rfl, sz_mul (m := 65) (n := 300) (Nat.lt_of_le_of_lt hbo (by decide)) (pbi t (by omega)) (by decide) (by decide) (by decide), ?_⟩
        refine ⟨_, _, rfl, g, ds.set 0 (d0 + z * bi ^ t), some (.int z), s5, hgH, by rw [upd_same, List.map_set], .inr ⟨by omega, ?_, ?_⟩⟩
        · show [some (V.ref po), some (V.ref pi), some (V.ref g), some (V.int (bi ^ t * bi)), some (V.int (bo * bi ^ t)), some (V.int z)] = _
          rw [← Int.pow_succ]
          rfl
        · rw [rI_set, Rat.intCast_add, Rat.intCast_mul, Rat.intCast_pow, ezc]
          rw [Ii.smul] at hds
          exact put_step wl.stp gl.stp.2 t0 (by omega) hF hds hc (rI_get hd0)
    · rw [List.length_map, hosl] at hP
      obtain ⟨f, cs, u, s1, hfH, h1, h⟩ := hP
      rcases h with ⟨z, _⟩ | ⟨t0, rfl, hF⟩
      · omega
      · rw [Nat.sub_self, List.drop_zero] at hF
        have bF := put_bl wl gl t0 (Nat.le_refl _) hbi hbo Ii.pos Io.pos (by rw [Nat.sub_self, List.drop_zero]; exact hF)
        have hκ : 0 < bo * bi ^ (lo.length - 1) := Int.mul_pos Io.pos (Int.pow_pos Ii.pos)
        have hF' : iR cs = smul ((bo * bi ^ (lo.length - 1) : Int) : Rat) (within li lo) := by
          rw [hF, Rat.intCast_mul, Rat.intCast_pow, Rat.mul_comm]
        have he := put_end hκ hF'
        have hcl := bF.len
        rw [rI_len] at hcl
        refine ⟨_, rfl, _, rfl, f, cs, _, rfl, h1, hκ, ?_, by omega, last_int he (within_hd wl.stp gl.stp.2).1, fun H2 v s2 h2 => k H2 v (s1.trans s2) (by rwa [he] at h2)⟩
        have := wide_lt (i := bo) (j := bi ^ (lo.length - 1)) (a := 65) (b := 300) (Nat.lt_of_le_of_lt hbo (by decide)) (pbi _ (by omega))
        exact Nat.lt_of_lt_of_le this (Nat.pow_le_pow_right (by decide) (by decide))
end
end K63
set_option Elab.async false
set_option linter.all false
set_option maxRecDepth 100000
set_option maxHeartbeats 4000000
namespace K63
open PySem PySem.Spec PyProof.Rows L2
def spValueOf : Sp := fun vs H Q _ => ∃ (x y : V) (l : List Rat) (n : Nat), vs = [x, y] ∧ PolyV H x l ∧ NumV H y (n : Rat) ∧ Bl l ∧ l ≠ [] ∧ l.length ≤ 300 ∧ n ≤ 300 ∧ ∀ H' v, Same H H' → NumV H' v (ev l (n : Rat)) → Q v H'
def spWholeOf : Sp := fun vs H Q _ => ∃ (p : Addr) (xs : List V) (ws : List (List Rat)), vs = [.ref p] ∧ H p = some (.lst xs) ∧ Paired (PolyV H) xs ws ∧ ChainOk ws ∧ ∀ H' v, Same H H' → PolyV H' v (wholeL ws) → Q v H'
def spDegree : Sp := fun vs H Q _ => ∃ (x y : V) (ws : List (List Rat)) (ks : List Nat), vs = [x, y] ∧ RowV H x ws ∧ LetV H y ks ∧ (∀ k ∈ ks, k < ws.length) ∧ ks.length ≤ 8 ∧ (∀ g ∈ ws, Gd g) ∧ Q (.int ((degL (wordOf ws ks) : Nat) : Int)) H
def spWordPoly : Sp := fun vs H Q _ => ∃ (x y : V) (ws : List (List Rat)) (ks : List Nat), vs = [x, y] ∧ RowV H x ws ∧ LetV H y ks ∧ (∀ k ∈ ks, k < ws.length) ∧ ks.length ≤ 8 ∧ (∀ g ∈ ws, Gd g) ∧ ChainOk (wordOf ws ks) ∧
  ∀ H' v, Same H H' → PolyV H' v (wholeL (wordOf ws ks)) → Q v H'
theorem PolyVs.same {H H' : Hp} (s : Same H H') : ∀ {vs : List V} {l : List (List Rat)}, Paired (PolyV H) vs l → Paired (PolyV H') vs l
  | _, _, .nil => .nil
  | _, _, .cons h t => .cons (h.same s) (PolyVs.same s t)
theorem polys_ref {H : Hp} : ∀ {vs : List V} {ls : List (List Rat)}, Paired (PolyV H) vs ls → ∀ v ∈ vs, ∃ p, v = V.ref p
  | _, _, .nil => fun _ h => by simp at h
  | _, _, .cons h t => fun v hv => by
    rcases List.mem_cons.mp hv with rfl | z
    · obtain ⟨p, _, _, _, e, _⟩ := h
      exact ⟨p, e⟩
    · exact polys_ref t v z
/-- a list of such pairs is changed -/
theorem PolyV.put {H : Hp} {v : V} {l : List Rat} (h : PolyV H v l) (hl : l ≠ []) {D : Addr} {zs : List V} {o : HO} (hD : H D = some (.lst zs)) (hz : ∀ z ∈ zs, ∃ p, z = V.ref p) : PolyV (upd H D o) v l := by
  obtain ⟨p, q, ns, b, e, h1, h2, I⟩ := h
  refine ⟨p, q, ns, b, e, by rw [upd_ne (ne_of h1 hD (by intro z; cases z))]; exact h1, ?_, I⟩
  rw [upd_ne]
  · exact h2
  · intro z
    rw [z, hD] at h2
    have e2 : zs = ns.map V.int := by
      have := Option.some.inj h2
      injection this
    cases ns with
    | nil =>
      have := I.eq
      exact hl (by rw [this]; rfl)
    | cons n ns =>
      obtain ⟨p2, e3⟩ := hz (V.int n) (by rw [e2]; simp)
      cases e3
theorem PolyVs.put {H : Hp} {D : Addr} {zs : List V} {o : HO} : ∀ {vs : List V} {ls : List (List Rat)}, Paired (PolyV H) vs ls → (∀ l ∈ ls, l ≠ []) → H D = some (.lst zs) → (∀ z ∈ zs, ∃ p, z = V.ref p) → Paired (PolyV (upd H D o)) vs ls
  | _, _, .nil, _, _, _ => .nil
  | _, _, .cons h t, hl, hD, hz => .cons (h.put (hl _ (List.mem_cons_self ..)) hD hz) (PolyVs.put t (fun l hm => hl l (List.mem_cons_of_mem _ hm)) hD hz)
theorem passes_none {X : Cx} : Passes (L2.CX X.prog X.w) X E0 := fun _ _ _ _ _ _ _ h => by
  obtain ⟨_, _, _, _, _, _, _, _, _, _, _, _, z⟩ := h
  exact False.elim z
theorem iRI {l : List Rat} {ns : List Int} {b : Int} (h : IsPoly ns b l) (hb : Bl l) : b.natAbs < 2 ^ 1001 ∧ ∀ n ∈ ns, Bd (BA * 2 ^ 1000) 0 (n : Rat) := by
  refine ⟨Nat.lt_of_le_of_lt (h.b_le hb.dk) (Nat.pow_lt_pow_right (by decide) (by decide)), fun n hn => ⟨?_, Dk.int n⟩⟩
  rw [ab_int]
  exact Rat.natCast_le_natCast.mpr (h.n_le hb.dk hb.nrm n hn)
theorem ev_int (n : Nat) : ∀ ns : List Int, ∃ z : Int, (z : Rat) = ev (iR ns) (n : Rat)
  | [] => ⟨0, rfl⟩
  | c :: ns => by
    obtain ⟨z, hz⟩ := ev_int n ns
    refine ⟨c + (n : Int) * z, ?_⟩
    show _ = (c : Rat) + (n : Rat) * ev (iR ns) (n : Rat)
    rw [Rat.intCast_add, Rat.intCast_mul, hz]
    rfl
theorem ev_sm {ns : List Int} (h : ∀ n ∈ ns, Bd (BA * 2 ^ 1000) 0 (n : Rat)) (hl : ns.length ≤ 300) {n : Nat} (hn : n ≤ 300) (j : Nat) {z : Int} (hz : (z : Rat) = ev (iR (ns.drop j)) (n : Rat)) : z.natAbs < 2 ^ 7701 := by
  have hb := bd_ev (M := BA * 2 ^ 1000) (k := 0) n (iR (ns.drop j)) fun c hc => by
    obtain ⟨m, hm, rfl⟩ := List.mem_map.mp hc
    exact h m (List.mem_of_mem_drop hm)
  rw [← hz] at hb
  have h1 := int_bd hb
  have hp : (n + 1) ^ (iR (ns.drop j)).length ≤ 2 ^ 2700 := by
    have h1 : (n + 1) ^ (iR (ns.drop j)).length ≤ (2 ^ 9) ^ (iR (ns.drop j)).length := Nat.pow_le_pow_left (by omega) _
    have h2 : (2 ^ 9) ^ (iR (ns.drop j)).length ≤ (2 ^ 9) ^ 300 := Nat.pow_le_pow_right (by decide) (by rw [rI_len, List.length_drop]; omega)
    have e : (2 ^ 9) ^ 300 = 2 ^ (9 * 300) := (Nat.pow_mul 2 9 300).symm
    exact Nat.le_trans h1 (Nat.le_trans h2 (Nat.le_of_eq e))
  refine Nat.lt_of_le_of_lt h1 (Nat.lt_of_le_of_lt (Nat.mul_le_mul_left _ hp) ?_)
  have e1 : BA * 2 ^ 1000 = 2 ^ 5000 := by
    unfold BA
    exact (pp (a := 4000) (b := 1000) rfl).symm
  rw [e1]
  have e2 : (2 : Nat) ^ 5000 * 2 ^ 2700 = 2 ^ 7700 := (pp (a := 5000) (b := 2700) rfl).symm
  rw [e2]
  exact Nat.pow_lt_pow_right (by decide) (by decide)
theorem word_get {ws : List (List Rat)} {ks : List Nat} {i k : Nat} {g : List Rat} (h : ks[i]? = some k) (hg : ws[k]? = some g) : (wordOf ws ks)[i]? = some g := by
  unfold wordOf
  rw [List.getElem?_map, h]
  show some (ws.getD k []) = some g
  rw [List.getD_eq_getElem?_getD, hg]
  rfl
theorem word_take (ws : List (List Rat)) (ks : List Nat) (i : Nat) : wordOf ws (ks.take i) = (wordOf ws ks).take i := by
  unfold wordOf
  rw [List.map_take]
theorem word_mem {ws : List (List Rat)} {ks : List Nat} (hk : ∀ k ∈ ks, k < ws.length) : ∀ g ∈ wordOf ws ks, g ∈ ws := fun g hg => by
  obtain ⟨k, h1, h2⟩ := List.mem_map.mp hg
  have h3 := hk k h1
  rw [List.getD_eq_getElem?_getD, List.getElem?_eq_getElem h3] at h2
  rw [← h2]
  exact List.getElem_mem h3
section
variable {P : Program} {w : World} {K : PySem.W.Frag} {mg : Str → Option Value} {base : Heap} {B : Str → Addr}
theorem sc_valueof : FnScope ["poly", "number", "found", "shift", "item"] ["poly", "number"] (defScope (top 23)) := ⟨rfl, rfl, rfl, by decide +kernel, rfl, by decide +kernel, by decide +kernel⟩
theorem ok_valueof (T : Txt K mg) : Dn P w K mg base CX0 2 "value_of" ["poly", "number"] spValueOf := by
  refine Dn.mk0 (T.d 10) sc_valueof (fun vs H Q E h => ?_) (fun _ _ _ _ _ _ us hl => match us, hl with | [_, _], _ => rfl) (fun f cdv A outer s H vs Q E hr h => ?_)
  · obtain ⟨_, _, _, _, rfl, _⟩ := h
    rfl
  · obtain ⟨x, y, l, n, rfl, ⟨p, q, ns, b, rfl, hp, hq, I⟩, ⟨py, rfl, hpy⟩, bl, ln, l3, n3, k⟩ := h
    have nd := sc_valueof.nd
    refine ⟨_, pss_cons (ps_asg (pe_tup (pa_cons pe_int (pa_cons pe_int pa_nil))) (pg_tup rfl (pgs_cons (pg_name (i := 2) nd rfl (Or.inl rfl)) (pgs_cons (pg_name (i := 3) nd rfl (Or.inl rfl)) pgs_nil))))
      (pss_cons (ps_for PassesOwn.never rfl (pi_reversed (by rfl) (T.b 9) (pa_cons (pe_ix ix_tup (pv 0) pe_int (fun _ _ => rfl)) pa_nil)) (pg_name (i := 4) nd rfl (Or.inl rfl))
        (pss_cons (ps_set (i := 2) nd rfl (Or.inl rfl) (pe_op op_add (pe_op op_mulW (pv 2) (pe_ix ix_tup (pv 1) pe_int (fun _ _ => rfl))) (pe_op op_mulW (pv 4) (pv 3))))
        (pss_one (ps_set (i := 3) nd rfl (Or.inl rfl) (pe_op op_mulW (pv 3) (pe_ix ix_tup (pv 1) pe_int (fun _ _ => rfl)))))))
      (pss_one (ps_ret (pe_ifExp (pt_cmpR (op_neD hr.units) (pe_ix ix_tup (pv 0) pe_int (fun _ _ => rfl)) (pe_lst pa_nil) (nomark _)) (pe_dn (ok_number_of T) hr pass0 (pa_cons (pe_op op_mulW (pv 2) (pe_ix ix_tup (pv 1) pe_int (fun _ _ => rfl))) (pa_cons (pe_op op_mulW (pe_ix ix_tup (pv 0) pe_int (fun _ _ => rfl)) (pv 3)) pa_nil))) (pe_tup (pa_cons pe_int (pa_cons pe_int pa_nil))))))), ?_⟩
    obtain ⟨hbs, hns⟩ := iRI I bl
    have hnl := I.len
    have enum : ((n : Rat)).num = (n : Int) := Rat.num_natCast n
    have eden : ((((n : Rat)).den : Nat) : Int) = 1 := by rw [Rat.den_natCast]; rfl
    rw [enum, eden] at hpy
    refine ⟨(by show 2 ≤ sizeLine; decide), fun t0 ht0 => ⟨t0, _, rfl, SqT.of upd_same, rfl, _, _, rfl, _, _, rfl, rfl, ?_⟩⟩
    have s0 := same_new (o := .tup [.int 0, .int 1]) ht0
    generalize upd H t0 (.tup [.int 0, .int 1]) = H0 at s0
    refine ⟨_, rfl, p, _, _, _, rfl, rfl, SqT.of (s0 _ _ hp), at0, q, _, rfl, SqL.of (s0 _ _ hq), ?_⟩
    refine for_it walk_rev (fun t σ H1 => ∃ (z : Int) (u : Option V), H1 = H0 ∧ σ = [some (.ref p), some (.ref py), some (.int z), some (.int 1), u] ∧ (z : Rat) = ev (iR (ns.drop (ns.length - t))) (n : Rat)) ⟨0, _, rfl, rfl, ?_⟩
      (fun t σ H1 _ ⟨z, u, e, _⟩ => e ▸ SqL.of (s0 _ _ hq)) (fun t x σ H1 H2 ht hP hY => ?_) (fun σ H1 hP => ?_)
    · rw [Nat.sub_zero, List.drop_length]
      rfl
    · obtain ⟨rfl, hx⟩ := hY
      obtain ⟨z, u, rfl, rfl, hz⟩ := hP
      rw [List.length_map] at hx ht
      obtain ⟨c, hc, rfl⟩ := vI_inv hx
      have hzs := ev_sm hns (by omega) n3 _ hz
      have hcs : c.natAbs < 2 ^ 7701 := by
        have h1 := int_bd (hns c (List.mem_of_getElem? hc))
        have e1 : BA * 2 ^ 1000 = 2 ^ 5000 := by
          unfold BA
          exact (pp (a := 4000) (b := 1000) rfl).symm
        rw [e1] at h1
        exact Nat.lt_of_le_of_lt h1 (Nat.pow_lt_pow_right (by decide) (by decide))
      refine ⟨_, rfl, _, rfl, py, _, _, _, rfl, rfl, SqT.of (s0 _ _ hpy), at0, _, _, rfl, rfl, sz_mul (m := 7701) (n := 9) hzs (by omega) (by decide) (by decide) (by decide), _, rfl, _, rfl, _, _, rfl, rfl, sz_mul (m := 7701) (n := 2) hcs (by decide) (by decide) (by decide) (by decide), _, _, rfl, rfl, ?_⟩
      refine ⟨_, rfl, _, rfl, py, _, _, _, rfl, rfl, SqT.of (s0 _ _ hpy), at1, _, _, rfl, rfl, sz_mul (m := 2) (n := 2) (by decide) (by decide) (by decide) (by decide) (by decide), ?_⟩
      refine ⟨z * (n : Int) + c * 1, some (.int c), rfl, rfl, ?_⟩
      have hr2 : (iR ns).reverse[t]? = some (c : Rat) := by
        rw [List.getElem?_reverse (by rw [rI_len]; exact ht), rI_len]
        exact rI_get hc
      have h5 := hstep (iR ns) (n : Rat) hr2
      rw [rI_len] at h5
      have e6 : ∀ j, iR (ns.drop j) = (iR ns).drop j := fun j => by
        unfold iR
        rw [List.map_drop]
      rw [e6] at hz ⊢
      rw [← h5, ← hz, Int.mul_one, Rat.intCast_add, Rat.intCast_mul]
      rfl
    · obtain ⟨z, u, rfl, rfl, hz⟩ := hP
      have hzs := ev_sm hns (by omega) n3 _ hz
      rw [List.length_map, Nat.sub_self, List.drop_zero] at hz
      have hnsn : ns ≠ [] := ne_len (by have := List.length_pos_iff.mpr ln; omega)
      refine ⟨_, rfl, p, _, _, _, rfl, rfl, SqT.of (s0 _ _ hp), at0, (by show 0 ≤ sizeLine; decide), fun e he => ?_⟩
      have s1 := s0.trans (same_new (o := .lst []) he)
      refine ⟨.list (ns.map PyData.int), .list [], .lst (SqL.of (s1 _ _ hq)) (dp_ints ns), .lst (SqL.of upd_same) .nil, shaped_ints ns, shaped_ints [], _, rfl, ifT (by rw [eqv_ints, decide_eq_false hnsn]; rfl) ?_⟩
      refine ⟨_, rfl, _, rfl, py, _, _, _, rfl, rfl, SqT.of (s1 _ _ hpy), at1, _, _, rfl, rfl, sz_mul (m := 7701) (n := 2) hzs (by decide) (by decide) (by decide) (by decide), ?_⟩
      refine ⟨_, rfl, p, _, _, _, rfl, rfl, SqT.of (s1 _ _ hp), at1, _, rfl, _, _, rfl, rfl, sz_mul (m := 1001) (n := 2) hbs (by decide) (by decide) (by decide) (by decide), z * 1, b * 1, rfl, by rw [Int.mul_one]; exact I.pos, ?_, fun H3 v s3 h3 => k H3 v (s1.trans s3) ?_⟩
      · rw [Int.mul_one]
        exact Nat.lt_of_lt_of_le hbs (Nat.pow_le_pow_right (by decide) (by decide))
      · have e : ((z * 1 : Int) : Rat) / ((b * 1 : Int) : Rat) = ev l (n : Rat) := by
          rw [Int.mul_one, Int.mul_one, hz, I.smul, ev_smul, Rat.mul_comm]
          exact Rat.mul_div_cancel (ir_ne I.pos)
        rwa [e] at h3
theorem sc_wholeof : FnScope ["polys", "found", "poly"] ["polys"] (defScope (top 27)) := ⟨rfl, rfl, rfl, by decide +kernel, rfl, by decide +kernel, by decide +kernel⟩
theorem ok_wholeof (T : Txt K mg) : Dn P w K mg base CX0 3 "whole_of" ["polys"] spWholeOf := by
  refine Dn.mk0 (T.d 12) sc_wholeof (fun vs H Q E h => ?_) (fun _ _ _ _ _ _ us hl => match us, hl with | [_], _ => rfl) (fun f cdv A outer s H vs Q E hr h => ?_)
  · obtain ⟨x, _, _, rfl, _⟩ := h
    rfl
  · obtain ⟨p, xs, ws, rfl, hp, rw', hc, k⟩ := h
    have nd := sc_wholeof.nd
    refine ⟨_, pss_cons (ps_set (i := 1) nd rfl (Or.inl rfl) (pe_ix ix_list (pv 0) pe_int (fun _ _ => rfl)))
      (pss_cons (ps_for PassesOwn.never rfl (pi_list (pe_slice sl_list (pv 0) (po_some pe_int) po_none)) (pg_name (i := 2) nd rfl (Or.inl rfl))
        (pss_one (ps_set (i := 1) nd rfl (Or.inl rfl) (pe_dn (ok_putin T) hr pass0 (pa_cons (pv 2) (pa_cons (pv 1) pa_nil))))))
      (pss_one (ps_ret (pv 1)))), ?_⟩
    cases rw' with
    | nil => exact absurd rfl hc.ne
    | @cons x g xs ws h0 ht =>
      refine ⟨_, rfl, p, _, _, x, rfl, rfl, SqL.of hp, at0, _, rfl, 1, rfl, ?_⟩
      refine ⟨p, _, rfl, SqL.of hp, fun q hq => ?_⟩
      rw [cut_tail]
      refine ⟨q, rfl, ⟨_, SqL.of upd_same⟩, ?_⟩
      refine for_list (xs := xs) (fun i σ H1 => ∃ u v, σ = [some (.ref p), some v, u] ∧ Same H H1 ∧ H1 q = some (.lst xs) ∧ PolyV H1 v (wholeL ((g :: ws).take (i + 1))))
        ⟨_, _, rfl, same_new hq, upd_same, h0.same (same_new hq)⟩
        (fun i σ H1 _ ⟨u, v, h0, s1, h1, _⟩ => SqL.of h1) (fun i xi σ H1 hi hP => ?_) (fun σ H1 hP => ?_)
      · obtain ⟨u, v, rfl, s1, h1, f1⟩ := hP
        obtain ⟨gi, hgi, ngi⟩ := pget ht hi
        have hgi' : (g :: ws)[i + 1]? = some gi := hgi
        have hlt := (List.getElem?_eq_some_iff.mp hgi').1
        refine ⟨_, rfl, _, rfl, xi, v, gi, _, rfl, ngi.same s1, f1, hc.on (i + 1) (by omega) (by omega), hc.all gi (List.mem_of_getElem? hgi'), fun H2 v2 s2 f2 => ⟨_, _, rfl, s1.trans s2, s2 q _ h1, ?_⟩⟩
        rw [take_snoc hgi', wholeL_snoc (take_ne hc.ne (by omega))]
        exact f2
      · obtain ⟨u, v, rfl, s1, h1, f1⟩ := hP
        rw [ht.length, List.take_of_length_le (by simp)] at f1
        exact ⟨_, rfl, k _ _ s1 f1⟩
theorem sc_degree : FnScope ["steps", "word", "found", "letter"] ["steps", "word"] (defScope (top 32)) := ⟨rfl, rfl, rfl, by decide +kernel, rfl, by decide +kernel, by decide +kernel⟩
theorem ok_degree (T : Txt K mg) : Dn P w K mg base CX0 1 "degree_of_word" ["steps", "word"] spDegree := by
  refine Dn.mk0 (T.d 15) sc_degree (fun vs H Q E h => ?_) (fun _ _ _ _ _ _ us hl => match us, hl with | [_, _], _ => rfl) (fun f cdv A outer s H vs Q E hr h => ?_)
  · obtain ⟨_, _, _, _, rfl, _⟩ := h
    rfl
  · obtain ⟨x, y, ws, ks, rfl, ⟨px, xs, rfl, hpx, rx⟩, ⟨py, rfl, hpy⟩, hk, hkl, hg, k⟩ := h
    have nd := sc_degree.nd
    refine ⟨_, pss_cons (ps_set (i := 2) nd rfl (Or.inl rfl) pe_int)
      (pss_cons (ps_for PassesOwn.never rfl (pi_tup (pv 1)) (pg_name (i := 3) nd rfl (Or.inl rfl)) (pss_one (ps_set (i := 2) nd rfl (Or.inl rfl) (pe_op op_mulW (pv 2) (pe_op op_sub (pe_callB call_len_seq (by rfl) (T.b 0) PySem.boot_len (pa_cons (pe_ix ix_tup (pv 0) (pv 3) (fun _ _ => rfl)) pa_nil)) pe_int)))))
      (pss_one (ps_ret (pv 2)))), ?_⟩
    have hsq : SqT K H py _ := SqT.of hpy
    refine ⟨_, rfl, py, rfl, ⟨_, hsq⟩, ?_⟩
    refine for_tup (xs := ks.map natV) (fun i σ H1 => ∃ u, σ = [some (.ref px), some (.ref py), some (.int ((degL (wordOf ws (ks.take i)) : Nat) : Int)), u] ∧ H1 = H) ⟨_, rfl, rfl⟩ (fun i σ H1 _ ⟨u, _, e⟩ => e ▸ hsq) (fun i x σ H1 hx hP => ?_) (fun σ H1 hP => ?_)
    · obtain ⟨u, rfl, rfl⟩ := hP
      have hi : i < ks.length := by
        have := (List.getElem?_eq_some_iff.mp hx).1
        rwa [List.length_map] at this
      obtain ⟨si, hsi⟩ : ∃ si, ks[i]? = some si := ⟨_, List.getElem?_eq_getElem hi⟩
      obtain rfl : x = natV si := by
        rw [List.getElem?_map, hsi] at hx
        exact (Option.some.inj hx).symm
      obtain ⟨g, hgi⟩ : ∃ g, ws[si]? = some g := ⟨_, List.getElem?_eq_getElem (hk si (List.mem_of_getElem? hsi))⟩
      obtain ⟨v, hv, pv', vs', rfl, hpv, rv⟩ := pget2 rx hgi
      have gg := hg g (List.mem_of_getElem? hgi)
      have gl := gg.len
      have g2 := gg.stp.1
      have vl := rv.length
      have dl := degL_le (wordOf ws (ks.take i)) fun x hx => (hg x (word_mem (fun k hk2 => hk k (List.mem_of_mem_take hk2)) x hx)).len
      have d8 : 4 ^ (wordOf ws (ks.take i)).length ≤ 4 ^ 8 := Nat.pow_le_pow_right (by decide) (by unfold wordOf; rw [List.length_map, List.length_take]; omega)
      have d9 : (4 : Nat) ^ 8 < 2 ^ 20 := by decide
      refine ⟨_, rfl, _, rfl, _, rfl, px, _, _, _, rfl, rfl, SqT.of hpx, atI_nat hv, pv', _, rfl, .inr (SqT.of hpv), _, _, rfl, rfl, _, _, rfl, rfl, sz_mul (m := 20) (n := 4) (by rw [Int.natAbs_natCast]; omega) (by omega) (by decide) (by decide) (by decide), some (natV si), ?_, rfl⟩
      have e : degL (wordOf ws (ks.take (i + 1))) = degL (wordOf ws (ks.take i)) * (g.length - 1) := by
        rw [word_take, word_take, take_snoc (word_get hsi hgi), degL_snoc]
      rw [e]
      show [some (V.ref px), some (V.ref py), some (V.int (((degL (wordOf ws (ks.take i)) : Nat) : Int) * (((vs'.length : Nat) : Int) - 1))), _] = _
      rw [vl, Int.natCast_mul, Int.natCast_sub (by omega)]
      rfl
    · obtain ⟨u, rfl, rfl⟩ := hP
      rw [List.length_map, List.take_length]
      exact ⟨_, rfl, k⟩
theorem sc_wordpoly : FnScope ["steps", "word", "letter"] ["steps", "word"] (defScope (top 33)) := ⟨rfl, rfl, rfl, by decide +kernel, rfl, by decide +kernel, by decide +kernel⟩
theorem ok_wordpoly (T : Txt K mg) (Er : Errs P w K mg B) : Dn P w K mg base CX0 4 "word_poly" ["steps", "word"] spWordPoly := by
  refine Dn.mk0 (T.d 16) sc_wordpoly (fun vs H Q E h => ?_) (fun _ _ _ _ _ _ us hl => match us, hl with | [_, _], _ => rfl) (fun f cdv A outer s H vs Q E hr h => ?_)
  · obtain ⟨_, _, _, _, rfl, _⟩ := h
    rfl
  · obtain ⟨x, y, ws, ks, rfl, ⟨px, xs, rfl, hpx, rx⟩, ⟨py, rfl, hpy⟩, hk, hkl, hg, hc, k⟩ := h
    have nd := sc_wordpoly.nd
    refine ⟨_, pss_cons (ps_expr (pe_dn ((ok_check T Er).up (by decide)) hr passes_none (pa_cons (pe_dn ((ok_degree T).up (by decide)) hr pass0 (pa_cons (pv 0) (pa_cons (pv 1) pa_nil))) pa_nil)))
      (pss_one (ps_ret (pe_dn (ok_wholeof T) hr pass0 (pa_cons (pe_lc (own := [("letter", 2)]) (g := gName 2) (tt := tYes) rfl nd (pi_tup (pv 1)) (blkOk_by (N := ["steps", "word", "letter"]) (sc := defScope (top 33)) (by decide +kernel)) (fun _ _ _ _ _ => pg_name (i := 2) nd rfl (Or.inl rfl)) (fun _ _ _ _ _ => pts_nil)
      (fun _ _ _ _ _ => pe_dn ((ok_aspoly T).up (by decide)) hr pass0 (pa_cons (pe_ix (r := rIxT K) ix_tup (pv 0) (pv 2) (fun _ _ => rfl)) pa_nil))) pa_nil)))), ?_⟩
    have hdeg : degL (wordOf ws ks) ≤ 256 := by
      have h1 := (whole_stp _ hc.ne fun g hg2 => (hc.all g hg2).stp).2
      have h2 := hc.whole.len
      omega
    refine ⟨_, rfl, _, rfl, .ref px, .ref py, ws, ks, rfl, ⟨px, xs, rfl, hpx, rx⟩, ⟨py, rfl, hpy⟩, hk, hkl, hg, degL (wordOf ws ks), rfl, fun _ => ?_, fun z => absurd z (by omega)⟩
    refine ⟨_, rfl, py, rfl, ⟨_, SqT.of hpy⟩, fun D hD => ?_⟩
    refine lc_tup (xs := ks.map natV) (fun i H1 => ∃ zs, H1 D = some (.lst zs) ∧ Paired (PolyV H1) zs (wordOf ws (ks.take i)) ∧ Same H H1) ⟨[], upd_same, .nil, same_new hD⟩ (fun i H1 _ hP => ?_) (fun i x H1 hx hP => ?_) (fun H1 hP => ?_)
    · obtain ⟨zs, h1, r1, s1⟩ := hP
      exact SqT.of (s1 _ _ hpy)
    · obtain ⟨zs, h1, r1, s1⟩ := hP
      have hi : i < ks.length := by
        have := (List.getElem?_eq_some_iff.mp hx).1
        rwa [List.length_map] at this
      obtain ⟨si, hsi⟩ : ∃ si, ks[i]? = some si := ⟨_, List.getElem?_eq_getElem hi⟩
      obtain rfl : x = natV si := by
        rw [List.getElem?_map, hsi] at hx
        exact (Option.some.inj hx).symm
      obtain ⟨g, hgi⟩ : ∃ g, ws[si]? = some g := ⟨_, List.getElem?_eq_getElem (hk si (List.mem_of_getElem? hsi))⟩
      obtain ⟨v, hv, nv⟩ := pget2 rx hgi
      have gg := hg g (List.mem_of_getElem? hgi)
      refine ⟨rfl, ?_⟩
      refine ⟨_, rfl, _, rfl, px, _, _, v, rfl, rfl, SqT.of (s1 _ _ hpx), atI_nat hv, v, g, rfl, nv.mono s1.tx, gg.bl, gg.stp.2, fun H2 u s2 hu => ?_⟩
      have h2 := s2 _ _ h1
      refine ⟨zs, h2, ?_, zs ++ [u], upd_same, ?_, Same.upd (s1.trans s2) hD⟩
      · have := r1.length
        unfold wordOf at this
        rw [List.length_map, List.length_take] at this
        exact Nat.lt_of_le_of_lt (by omega : zs.length ≤ 5000) sl5000
      · rw [word_take, take_snoc (word_get hsi hgi), ← word_take]
        have r2 := PolyVs.same s2 r1
        have hw : ∀ l ∈ wordOf ws (ks.take i), l ≠ [] := fun l hl => (hg l (word_mem (fun k hk2 => hk k (List.mem_of_mem_take hk2)) l hl)).stp.2.ne
        exact Paired.snoc (PolyVs.put r2 hw h2 (polys_ref r2)) (hu.put gg.stp.2.ne h2 (polys_ref r2))
    · obtain ⟨zs, h1, r1, s1⟩ := hP
      rw [List.length_map, List.take_length] at r1
      exact ⟨D, zs, _, rfl, h1, r1, hc, fun H2 v s2 h2 => k H2 v (s1.trans s2) h2⟩
end
end K63
set_option Elab.async false
set_option linter.all false
set_option maxRecDepth 100000
set_option maxHeartbeats 4000000
namespace K63
open PySem PySem.Spec PyProof.Rows L2
theorem eqv_intsL : ∀ l m : List Int, PyData.eqvAll (l.map PyData.int) (m.map PyData.int) = decide (l = m)
  | [], [] => rfl
  | [], b :: m => by simp [PyData.eqvAll]
  | a :: l, [] => by simp [PyData.eqvAll]
  | a :: l, b :: m => by
    have e : PyData.eqv (.int a) (.int b) = decide (a = b) := by
      simp only [PyData.eqv]
      rfl
    simp only [List.map_cons, PyData.eqvAll, e, eqv_intsL l m, List.cons.injEq, Bool.decide_and]
def dPoly (ns : List Int) (b : Int) : PyData := .tuple [.list (ns.map .int), .int b]
theorem shaped_poly (ns : List Int) (b : Int) : SeqAt.shaped (dPoly ns b) = true := by
  unfold SeqAt.shaped dPoly
  simp [PyData.canLay0, PyData.canLayAll0, PyData.depth, PyData.depthAll, lay_ints, dep_ints]
theorem eqv_poly {ns ms : List Int} {b c : Int} {l m : List Rat} (h : IsPoly ns b l) (h' : IsPoly ms c m) : PyData.eqv (dPoly ns b) (dPoly ms c) = decide (l = m) := by
  have e : PyData.eqv (.int b) (.int c) = decide (b = c) := by
    simp only [PyData.eqv]
    rfl
  unfold dPoly
  simp only [PyData.eqv, PyData.eqvAll, eqv_intsL, Bool.and_true]
  have hs := h.same h'
  by_cases hl : l = m
  · obtain ⟨h1, h2⟩ := hs.mpr hl
    simp [hl, h1, h2]
  · rw [decide_eq_false hl]
    by_cases h1 : ns = ms
    · have : b ≠ c := fun z => hl (hs.mp ⟨h1, z⟩)
      simp [h1, this]
    · simp [h1]
theorem bound_num {c : Rat} {M k : Nat} (h : Bd M k c) (hm : M * 2 ^ k ≤ BP) (hk : 2 ^ k ≤ BP) : Np c := by
  have h1 := num_le h.1
  have h2 := h.2.den_le
  refine ⟨Nat.le_trans h1 (Nat.le_trans (Nat.mul_le_mul_left _ h2) hm), Nat.le_trans h2 hk⟩
theorem Wd.ok {L M k : Nat} {l : List Rat} (h : Wd L M k l) (hL : L ≤ 65) (hm : M * 2 ^ k ≤ BP) (hk : 2 ^ k ≤ BP) : Ok l :=
  ⟨h.stp, Nat.le_trans h.len hL, fun c hc => bound_num (.mem h.nrm h.dk hc) hm hk⟩
theorem Gd.ok {l : List Rat} (h : Gd l) : Ok l := h.wd.ok (by decide) (by unfold BP; decide) (by unfold BP; decide)
structure Parts (l : List Rat) : Prop where
  ok : Ok l
  bl : Bl l
def spAlike (B : Str → Addr) : Sp := fun vs H Q E => ∃ x y z : V, vs = [x, y, z] ∧ ((RowV H x [] ∧ ErrV B "BadRow" "place" H E fun u H' => ∃ p, u = .ref p ∧ H' p = some (.tup [])) ∨
  ∃ (ws : List (List Rat)) (ks js : List Nat), RowV H x ws ∧ ws ≠ [] ∧ ws.length ≤ 8 ∧ (∀ g ∈ ws, Gd g) ∧ LetV H y ks ∧ LetV H z js ∧ ks.length ≤ 1000 ∧ js.length ≤ 1000 ∧
    (wordB ks ws.length = false → ErrV B "BadParameter" "value" H E fun u _ => u = y) ∧
    (wordB ks ws.length = true → wordB js ws.length = false → ErrV B "BadParameter" "value" H E fun u _ => u = z) ∧
    (wordB ks ws.length = true → wordB js ws.length = true →
      (256 < degL (wordOf ws ks) → ErrV B "TooGreat" "most" H E fun u _ => u = .int 256) ∧
      (degL (wordOf ws ks) ≤ 256 → 256 < degL (wordOf ws js) → ErrV B "TooGreat" "most" H E fun u _ => u = .int 256) ∧
      (degL (wordOf ws ks) ≤ 256 → degL (wordOf ws js) ≤ 256 → ChainOk (wordOf ws ks) ∧ ChainOk (wordOf ws js) ∧ ∀ H', Same H H' → Q (.bl (decide (wholeL (wordOf ws ks) = wholeL (wordOf ws js)))) H')))
def NoneV (B : Str → Addr) (x : Str) (H : Hp) (E : XK) : Prop := ∀ H', Same H H' → E (.ref (B x)) none H'
def spPart (B : Str → Addr) : Sp := fun vs H Q E => ∃ (x y : V) (a : List Rat), vs = [x, y] ∧ StepV H x a ∧ Parts a ∧ ((y = .non ∧ ErrV B "BadStep" "value" H E fun u _ => u = .non) ∨
  ∃ b, StepV H y b ∧ Parts b ∧ (parted a b = none → NoneV B "NoRow" H E) ∧ ∀ k, parted a b = some k → ∀ H', Same H H' → Q (.int (k : Int)) H')
theorem ErrV.later {B : Str → Addr} {x f : Str} {H H1 : Hp} {E : XK} {T : V → Hp → Prop} (h : ErrV B x f H E T) (s : Same H H1) : ErrV B x f H1 E T := fun H' d v s2 t e => h H' d v (s.trans s2) t e
theorem LetV.len {K : PySem.W.Frag} {H : Hp} {v : V} {ks : List Nat} (h : LetV H v ks) : ∃ p : Addr, v = .ref p ∧ SqT K H p (ks.map natV) := by
  obtain ⟨p, rfl, h⟩ := h
  exact ⟨p, rfl, .of h⟩
section
variable {P : Program} {w : World} {K : PySem.W.Frag} {mg : Str → Option Value} {base : Heap} {B : Str → Addr}
theorem sc_alike : FnScope ["steps", "one", "other", "near", "far"] ["steps", "one", "other"] (defScope (top 34)) := ⟨rfl, rfl, rfl, by decide +kernel, rfl, by decide +kernel, by decide +kernel⟩
theorem ok_alike (T : Txt K mg) (Er : Errs P w K mg B) : Dn P w K mg base (L2.CX P w) 5 "words_alike" ["steps", "one", "other"] (spAlike B) := by
  refine Dn.mk (T.d 17) sc_alike (fun vs H Q E h => ?_) (fun _ _ _ _ _ _ us hl => match us, hl with | [_, _, _], _ => rfl) (fun f cdv A outer s H vs Q E hr h => ?_)
  · obtain ⟨_, _, _, rfl, _⟩ := h
    rfl
  · obtain ⟨x, y, z, rfl, h⟩ := h
    have nd := sc_alike.nd
    refine ⟨_, pss_cons (ps_expr (pe_dn (ok_needrow T Er) hr (passes_call (takes_of rfl rfl rfl rfl) fun _ _ _ _ h => h) (pa_cons (pv 0) pa_nil)))
      (pss_cons (ps_expr (pe_dn ((ok_needword T Er).up (by decide)) hr (passes_call (takes_of rfl rfl rfl rfl) fun _ _ _ _ h => h) (pa_cons (pv 1) (pa_cons (pe_callB call_len_seq (by rfl) (T.b 0) PySem.boot_len (pa_cons (pv 0) pa_nil)) pa_nil))))
      (pss_cons (ps_expr (pe_dn ((ok_needword T Er).up (by decide)) hr (passes_call (takes_of rfl rfl rfl rfl) fun _ _ _ _ h => h) (pa_cons (pv 2) (pa_cons (pe_callB call_len_seq (by rfl) (T.b 0) PySem.boot_len (pa_cons (pv 0) pa_nil)) pa_nil))))
      (pss_cons (ps_par (i := 3) (j := 4) rfl nd rfl rfl (by decide) rfl rfl (pa_cons (pe_dn ((ok_degree T).up (by decide)) hr pass0 (pa_cons (pv 0) (pa_cons (pv 1) pa_nil))) (pa_cons (pe_dn ((ok_degree T).up (by decide)) hr pass0 (pa_cons (pv 0) (pa_cons (pv 2) pa_nil))) pa_nil)) (by rfl))
      (pss_cons (ps_expr (pe_dn ((ok_check T Er).up (by decide)) hr (passes_call (takes_of rfl rfl rfl rfl) fun _ _ _ _ h => h) (pa_cons (pv 3) pa_nil)))
      (pss_cons (ps_expr (pe_dn ((ok_check T Er).up (by decide)) hr (passes_call (takes_of rfl rfl rfl rfl) fun _ _ _ _ h => h) (pa_cons (pv 4) pa_nil)))
      (pss_one (ps_ret (pe_and (pe_cmpR op_eq (pv 3) (pv 4) (nomark _)) (pe_one (pe_cmpR (op_eqD hr.units) (pe_dn (ok_wordpoly T Er) hr pass0 (pa_cons (pv 0) (pa_cons (pv 1) pa_nil))) (pe_dn (ok_wordpoly T Er) hr pass0 (pa_cons (pv 0) (pa_cons (pv 2) pa_nil))) (nomark _))))))))))), ?_⟩
    rcases h with ⟨hx, k⟩ | ⟨ws, ks, js, hx, hn, h8, hg, hy, hz, lk, lj, k1, k2, k3⟩
    · exact ⟨_, rfl, x, rfl, .inl ⟨hx, k⟩⟩
    · have hx' := hx
      obtain ⟨px, xs, rfl, hpx, rx⟩ := hx
      refine ⟨_, rfl, .ref px, rfl, .inr ⟨ws, hx', hn, h8, fun g hg2 => (hg g hg2).ok, fun H1 s1 => ?_⟩⟩
      refine ⟨_, rfl, _, rfl, px, _, rfl, .inr (SqT.of (s1 _ _ hpx)), y, ws.length, ks, (by rw [rx.length]; rfl), hy.mono s1.tx, lk, fun hb1 H2 s2 => ?_, fun hb1 => (k1 hb1).later s1⟩
      have s3 := s1.trans s2
      refine ⟨_, rfl, _, rfl, px, _, rfl, .inr (SqT.of (s3 _ _ hpx)), z, ws.length, js, (by rw [rx.length]; rfl), hz.mono s3.tx, lj, fun hb2 H3 s4 => ?_, fun hb2 => (k2 hb1 hb2).later s3⟩
      have s5 := s3.trans s4
      obtain ⟨q1, q2, q3⟩ := k3 hb1 hb2
      have wk : (∀ k ∈ ks, k < ws.length) ∧ ks.length ≤ 8 := by
        unfold wordB at hb1
        simp only [Bool.and_eq_true, decide_eq_true_eq, List.all_eq_true] at hb1
        exact ⟨hb1.2, hb1.1.2⟩
      have wj : (∀ k ∈ js, k < ws.length) ∧ js.length ≤ 8 := by
        unfold wordB at hb2
        simp only [Bool.and_eq_true, decide_eq_true_eq, List.all_eq_true] at hb2
        exact ⟨hb2.2, hb2.1.2⟩
      refine ⟨_, rfl, _, rfl, _, _, ws, ks, rfl, hx'.mono s5.tx, hy.mono s5.tx, wk.1, wk.2, hg, _, rfl, _, rfl, _, _, ws, js, rfl, hx'.mono s5.tx, hz.mono s5.tx, wj.1, wj.2, hg, _, _, rfl, ?_⟩
      refine ⟨_, rfl, _, rfl, fun hd1 => ?_, fun hd1 => (q1 hd1).later s5⟩
      refine ⟨_, rfl, _, rfl, fun hd2 => ?_, fun hd2 => (q2 hd1 hd2).later s5⟩
      obtain ⟨c1, c2, q⟩ := q3 hd1 hd2
      refine ⟨_, rfl, _, rfl, rfl, ?_⟩
      by_cases hde : V.int ((degL (wordOf ws ks) : Nat) : Int) = V.int ((degL (wordOf ws js) : Nat) : Int)
      · refine ⟨true, by rw [decide_eq_true hde], ifT rfl ?_⟩
        refine ⟨_, rfl, _, rfl, _, _, ws, ks, rfl, hx'.mono s5.tx, hy.mono s5.tx, wk.1, wk.2, hg, c1, fun H4 u4 s6 p6 => ?_⟩
        have s7 := s5.trans s6
        refine ⟨_, rfl, _, rfl, _, _, ws, js, rfl, hx'.mono s7.tx, hz.mono s7.tx, wj.1, wj.2, hg, c2, fun H5 u5 s8 p8 => ?_⟩
        obtain ⟨a1, a2, ns, b, rfl, e1, e2, I1⟩ := p6.same s8
        obtain ⟨a3, a4, ms, c, rfl, e3, e4, I2⟩ := p8
        refine ⟨dPoly ns b, dPoly ms c, .tup (SqT.of e1) (.cons (.lst (SqL.of e2) (dp_ints ns)) (.cons (.int b) .nil)), .tup (SqT.of e3) (.cons (.lst (SqL.of e4) (dp_ints ms)) (.cons (.int c) .nil)), shaped_poly _ _, shaped_poly _ _, ?_⟩
        rw [eqv_poly I1 I2]
        exact q _ (s7.trans s8)
      · refine ⟨false, by rw [decide_eq_false hde], ifF rfl ?_⟩
        have hne : wholeL (wordOf ws ks) ≠ wholeL (wordOf ws js) := whole_deg c1.ne c2.ne (fun g hg2 => (c1.all g hg2).stp) (fun g hg2 => (c2.all g hg2).stp) fun e => hde (by rw [e])
        have := q _ s5
        rw [decide_eq_false hne] at this
        exact this
theorem sc_part : FnScope ["one", "other", "near", "far", "number"] ["one", "other"] (defScope (top 35)) := ⟨rfl, rfl, rfl, by decide +kernel, rfl, by decide +kernel, by decide +kernel⟩
theorem ok_part (T : Txt K mg) (Er : Errs P w K mg B) : Dn P w K mg base (L2.CX P w) 5 "parting_number" ["one", "other"] (spPart B) := by
  refine Dn.mk (T.d 18) sc_part (fun vs H Q E h => ?_) (fun _ _ _ _ _ _ us hl => match us, hl with | [_, _], _ => rfl) (fun f cdv A outer s H vs Q E hr h => ?_)
  · obtain ⟨_, _, _, rfl, _⟩ := h
    rfl
  · obtain ⟨x, y, a, rfl, hx, pa, h⟩ := h
    have nd := sc_part.nd
    refine ⟨_, pss_cons (ps_par (i := 2) (j := 3) rfl nd rfl rfl (by decide) rfl rfl (pa_cons (pe_dn ((ok_aspoly T).up (by decide)) hr pass0 (pa_cons (pe_dn (ok_needstep T Er) hr (passes_call (takes_of rfl rfl rfl rfl) fun _ _ _ _ h => h) (pa_cons (pv 0) pa_nil)) pa_nil)) (pa_cons (pe_dn ((ok_aspoly T).up (by decide)) hr pass0 (pa_cons (pe_dn (ok_needstep T Er) hr (passes_call (takes_of rfl rfl rfl rfl) fun _ _ _ _ h => h) (pa_cons (pv 1) pa_nil)) pa_nil)) pa_nil)) (by rfl))
      (pss_cons (ps_for (passes_of rfl) rfl (pi_range1 rfl (T.b 1) (pa_cons (pe_callB (call_max2 rfl) (by rfl) (T.b 4) (by decide +kernel) (pa_cons (pe_callB call_len_seq (by rfl) (T.b 0) PySem.boot_len (pa_cons (pe_ix ix_tup (pv 2) pe_int (fun _ _ => rfl)) pa_nil)) (pa_cons (pe_callB call_len_seq (by rfl) (T.b 0) PySem.boot_len (pa_cons (pe_ix ix_tup (pv 3) pe_int (fun _ _ => rfl)) pa_nil)) pa_nil))) pa_nil)) (pg_name (i := 4) nd rfl (Or.inl rfl))
        (pss_one (ps_if (pt_cmpR (op_neD hr.units) (pe_dn ((ok_valueof T).up (by decide)) hr pass0 (pa_cons (pv 2) (pa_cons (pe_tup (pa_cons (pv 4) (pa_cons pe_int pa_nil))) pa_nil))) (pe_dn ((ok_valueof T).up (by decide)) hr pass0 (pa_cons (pv 3) (pa_cons (pe_tup (pa_cons (pv 4) (pa_cons pe_int pa_nil))) pa_nil))) (nomark _)) (pss_one (ps_ret (pv 4))) pss_nil)))
      (pss_one (ps_raise rfl (takes_of rfl rfl rfl rfl) (pmk0 Er.none hr)))), ?_⟩
    have la := pa.ok.len
    refine ⟨_, rfl, x, rfl, .inr ⟨a, hx, pa.ok, x, a, rfl, hx, pa.bl, pa.ok.stp.2, fun H1 u1 s1 p1 => ?_⟩⟩
    rcases h with ⟨rfl, k⟩ | ⟨b, hy, pb, k1, k2⟩
    · exact ⟨_, rfl, _, rfl, .inl ⟨rfl, k.later s1⟩⟩
    · have lb := pb.ok.len
      refine ⟨_, rfl, y, rfl, .inr ⟨b, hy.mono s1.tx, pb.ok, y, b, rfl, hy.mono s1.tx, pb.bl, pb.ok.stp.2, fun H2 u2 s2 p2 => ⟨_, _, rfl, ?_⟩⟩⟩
      have s3 := s1.trans s2
      have p1' := p1.same s2
      have p1k := p1'
      have p2k := p2
      obtain ⟨a1, a2, ns, c1, rfl, e1, e2, I1⟩ := p1'
      obtain ⟨a3, a4, ms, c2, rfl, e3, e4, I2⟩ := p2
      refine ⟨_, rfl, a1, _, _, _, rfl, rfl, SqT.of e1, at0, a2, _, rfl, .inl (SqL.of e2), _, rfl, a3, _, _, _, rfl, rfl, SqT.of e3, at0, a4, _, rfl, .inl (SqL.of e4), _, _, rfl, ?_⟩
      rw [max_int, List.length_map, List.length_map, I1.len, I2.len]
      refine ⟨_, rfl, by omega, by omega, for_range (n := max a.length b.length) (fun i σ H1 => ∃ u, σ = [some x, some y, some (.ref a1), some (.ref a3), u] ∧ Same H2 H1 ∧ ∀ k < i, ev a (k : Rat) = ev b (k : Rat)) ⟨_, rfl, Same.refl _, fun k hk => absurd hk (Nat.not_lt_zero k)⟩ (fun i σ H1 hi hP => ?_) (fun σ H1 hP => ?_)⟩
      · obtain ⟨u, rfl, s4, he⟩ := hP
        have wn : ∀ (H : Hp) (t : Addr), H t = some (.tup [.int (0 + (i : Int)), .int 1]) → NumV H (.ref t) (i : Rat) := fun H t h => NumV.of h (by rw [Int.zero_add]; exact Rat.num_natCast i) (by rw [Rat.den_natCast]; rfl)
        refine ⟨_, rfl, _, rfl, (by show 2 ≤ sizeLine; decide), fun t ht => ⟨.ref a1, .ref t, a, i, rfl, p1k.same (s4.trans (same_new ht)), wn _ _ upd_same, pa.bl, pa.ok.stp.2.ne, by omega, by omega, fun H5 v5 s5 n5 => ?_⟩⟩
        have s6 := s4.trans ((same_new (o := .tup [.int (0 + (i : Int)), .int 1]) ht).trans s5)
        refine ⟨_, rfl, _, rfl, (by show 2 ≤ sizeLine; decide), fun t2 ht2 => ⟨.ref a3, .ref t2, b, i, rfl, p2k.same (s6.trans (same_new ht2)), wn _ _ upd_same, pb.bl, pb.ok.stp.2.ne, by omega, by omega, fun H7 v7 s7 n7 => ?_⟩⟩
        refine ⟨_, _, (n5.mono ((tx_new ht2).trans s7.tx)).dp, n7.dp, shaped_num _, shaped_num _, _, rfl, ?_⟩
        have s8 := s6.trans ((same_new (o := .tup [.int (0 + (i : Int)), .int 1]) ht2).trans s7)
        rw [eqv_num]
        by_cases hq : ev a (i : Rat) = ev b (i : Rat)
        · refine ifF (by rw [decide_eq_true hq]; rfl) ⟨_, rfl, s8, fun k hk => ?_⟩
          by_cases hki : k = i
          · subst hki
            exact hq
          · exact he k (by omega)
        · refine ifT (by rw [decide_eq_false hq]; rfl) ⟨_, rfl, ?_⟩
          have := k2 i (parted_some he hi hq) H7 (s3.trans s8)
          rw [Int.zero_add]
          exact this
      · obtain ⟨u, rfl, s4, he⟩ := hP
        exact k1 (parted_no he) _ (s3.trans s4)
end
end K63
set_option Elab.async false
set_option linter.all false
set_option maxRecDepth 100000
set_option maxHeartbeats 4000000
namespace K63
open PySem PySem.Spec PyProof.Rows L2
/-! ### what the law hears -/
structure HeardT (K : PySem.W.Frag) (mg : Str → Option Value) (B : Str → Addr) (S : Addr) : Prop where
  mgC : ∀ x ∈ errs, mg x = some (.ref (B x))
  mgS : mg "StepError" = some (.ref S)
  exm : ∀ x ∈ errs, ∀ y ∈ errs, PySem.W.exmOne K (.ref (B x)) (.ref (B y)) = some (decide (x = y))
  kit : ∀ x ∈ errs, PySem.W.kitCls K (.ref (B x)) (.ref S) = some true
  ne : ∀ x ∈ errs, (Value.ref (B x) == .ref S) = false
  xf : ∀ p ∈ errs1, XfC K (B p.1) ∧ PySem.W.findIn K (.ref (B p.1)) p.2 = some none
def tags : List (Str × Str × Str) := [("BadRow", "row", "place"), ("BadStep", "step", "value"), ("BadNumber", "number", "value"), ("BadParameter", "parameter", "value"), ("TooGreat", "great", "most")]
def Heard (B : Str → Addr) (Q : VK) : XK := fun cls d H' =>
  (∃ t ∈ tags, ∃ (dd : Addr) (v : V), cls = .ref (B t.1) ∧ d = some dd ∧ H' dd = some (.xd [(t.2.2, v)]) ∧ ∀ p, H' p = none → Q (.ref p) (upd H' p (.tup [.str t.2.1, v, .bl true]))) ∨
  (cls = .ref (B "NoRow") ∧ ∀ p, H' p = none → Q (.ref p) (upd H' p (.tup [.str "none", .bl true])))
def TTh (B : Str → Addr) : (XK → Hp → VK → Prop) → Hp → VK → Prop := fun tl H Q =>
  tl (Heard B Q) H fun v H' => [V.str "is", v].length ≤ sizeLine ∧ ∀ p, H' p = none → Q (.ref p) (upd H' p (.tup [.str "is", v]))
theorem sc_heard : FnScope ["_law_call", "_law_told", "error_so"] ["_law_call"] (defScope (top 56)) := ⟨rfl, rfl, rfl, by decide +kernel, rfl, by decide +kernel, by decide +kernel⟩
theorem len3 {σ : L2.St} (h : σ.length = 3) : ∃ a b c, σ = [a, b, c] := by
  cases σ with
  | nil => cases h
  | cons a σ =>
    cases σ with
    | nil => cases h
    | cons b σ =>
      cases σ with
      | nil => cases h
      | cons c σ =>
        cases σ with
        | nil => exact ⟨a, b, c, rfl⟩
        | cons d σ => simp at h
theorem heard_gives {X : Cx} {B : Str → Addr} {S g : Addr} {cdg : Value} {q : Str} (T : Txt X.K X.mg) (Ht : HeardT X.K X.mg B S) :
    LamX.GivesTo X ["_law_call", "_law_told", "error_so"] "_law_heard" (defScope (top 56)) g cdg (defBody (top 56)) "_law_call" q (TTh B) := by
  intro f c' s H Q tl act hc h
  have nd := sc_heard.nd
  refine ⟨_, pss_cons (ps_set (i := 1) nd rfl (Or.inl rfl) pe_non) (pss_cons (ps_try_each (X := (cxOf C8.CX0 X.prog X.w X.K X.mg X.base ["_law_call", "_law_told", "error_so"] "_law_heard" (defScope (top 56)) g cdg X.A X.stack s H C8.E0).nox) (i := 2)
      (tb := fun W D σ H => ∃ Ech : XK, (∀ cls d (σ' : L2.St) H', Ech cls d H' → σ'.length = 3 → W cls d σ' H') ∧ σ[0]? = some (some (.ref f)) ∧ H c' = some (LamX.CodeO c' q) ∧ tl Ech H fun v H1 => [V.str "is", v].length ≤ sizeLine ∧ ∀ p, H1 p = none → D.nx (σ.set 1 (some (.ref p))) (upd H1 p (.tup [.str "is", v])))
      rfl rfl nd rfl rfl (fun W pn xe tk _ => ?_)
      (.cons (x := "BadRow") (c := .ref (B "BadRow")) ⟨rfl, by decide, .inl (Ht.mgC "BadRow" (by decide))⟩ (fun a oe cls d pn hz hf => pss_one (ps_set (i := 1) nd rfl (Or.inl rfl) (pe_tup (pa_cons pe_str (pa_cons (pe_xf (Ht.xf ("BadRow", "place") (by decide)).1 (Ht.xf ("BadRow", "place") (by decide)).2 hz hf (pv 2)) (pa_cons (pe_callB (cr_isYes hz) (by rfl) (T.b 3) (by decide +kernel) (pa_cons (pv 2) (pa_cons (pe_glob (v := .ref S) rfl Ht.mgS rfl) pa_nil))) pa_nil)))))) (.cons (x := "BadStep") (c := .ref (B "BadStep")) ⟨rfl, by decide, .inl (Ht.mgC "BadStep" (by decide))⟩ (fun a oe cls d pn hz hf => pss_one (ps_set (i := 1) nd rfl (Or.inl rfl) (pe_tup (pa_cons pe_str (pa_cons (pe_xf (Ht.xf ("BadStep", "value") (by decide)).1 (Ht.xf ("BadStep", "value") (by decide)).2 hz hf (pv 2)) (pa_cons (pe_callB (cr_isYes hz) (by rfl) (T.b 3) (by decide +kernel) (pa_cons (pv 2) (pa_cons (pe_glob (v := .ref S) rfl Ht.mgS rfl) pa_nil))) pa_nil)))))) (.cons (x := "BadNumber") (c := .ref (B "BadNumber")) ⟨rfl, by decide, .inl (Ht.mgC "BadNumber" (by decide))⟩ (fun a oe cls d pn hz hf => pss_one (ps_set (i := 1) nd rfl (Or.inl rfl) (pe_tup (pa_cons pe_str (pa_cons (pe_xf (Ht.xf ("BadNumber", "value") (by decide)).1 (Ht.xf ("BadNumber", "value") (by decide)).2 hz hf (pv 2)) (pa_cons (pe_callB (cr_isYes hz) (by rfl) (T.b 3) (by decide +kernel) (pa_cons (pv 2) (pa_cons (pe_glob (v := .ref S) rfl Ht.mgS rfl) pa_nil))) pa_nil)))))) (.cons (x := "BadParameter") (c := .ref (B "BadParameter")) ⟨rfl, by decide, .inl (Ht.mgC "BadParameter" (by decide))⟩ (fun a oe cls d pn hz hf => pss_one (ps_set (i := 1) nd rfl (Or.inl rfl) (pe_tup (pa_cons pe_str (pa_cons (pe_xf (Ht.xf ("BadParameter", "value") (by decide)).1 (Ht.xf ("BadParameter", "value") (by decide)).2 hz hf (pv 2)) (pa_cons (pe_callB (cr_isYes hz) (by rfl) (T.b 3) (by decide +kernel) (pa_cons (pv 2) (pa_cons (pe_glob (v := .ref S) rfl Ht.mgS rfl) pa_nil))) pa_nil)))))) (.cons (x := "TooGreat") (c := .ref (B "TooGreat")) ⟨rfl, by decide, .inl (Ht.mgC "TooGreat" (by decide))⟩ (fun a oe cls d pn hz hf => pss_one (ps_set (i := 1) nd rfl (Or.inl rfl) (pe_tup (pa_cons pe_str (pa_cons (pe_xf (Ht.xf ("TooGreat", "most") (by decide)).1 (Ht.xf ("TooGreat", "most") (by decide)).2 hz hf (pv 2)) (pa_cons (pe_callB (cr_isYes hz) (by rfl) (T.b 3) (by decide +kernel) (pa_cons (pv 2) (pa_cons (pe_glob (v := .ref S) rfl Ht.mgS rfl) pa_nil))) pa_nil)))))) (.cons (x := "NoRow") (c := .ref (B "NoRow")) ⟨rfl, by decide, .inl (Ht.mgC "NoRow" (by decide))⟩ (fun a oe cls d pn hz hf => pss_one (ps_set (i := 1) nd rfl (Or.inl rfl) (pe_tup (pa_cons pe_str (pa_cons (pe_callB (cr_isYes hz) (by rfl) (T.b 3) (by decide +kernel) (pa_cons (pv 2) (pa_cons (pe_glob (v := .ref S) rfl Ht.mgS rfl) pa_nil))) pa_nil))))) .nil)))))))
    (pss_one (ps_ret (pv 1)))), ?_⟩
  · refine ⟨fun pins s' σ H' D I h' => ?_⟩
    obtain ⟨Ech, hW, h1, h2, h3⟩ := h'
    have hp := fun p1 p2 => act (fun cls d σ H => σ.length = 3 → W cls d σ H) pn xe Ech p1 p2 (takes_len tk) hW
    exact PSs.run (pss_one (ps_set (i := 1) nd rfl (Or.inl rfl) (pe_tup (pa_cons pe_str (pa_cons (hp _ _) pa_nil))))) pins s' σ H' D I ⟨h1, h2, h3⟩
  · refine ⟨Heard B Q, fun cls d σ' H' hE h3 => ?_, rfl, hc, ?_⟩
    · obtain ⟨s0, s1, s2, rfl⟩ := len3 h3
      rcases hE with ⟨t, ht, dd, v, rfl, rfl, hdd, q⟩ | ⟨rfl, q⟩
      · simp only [tags, List.mem_cons, List.not_mem_nil, or_false] at ht
        rcases ht with rfl | rfl | rfl | rfl | rfl
        · refine ⟨_, Ht.exm "BadRow" (by decide) "BadRow" (by decide), fun _ a ha => ?_, fun h => absurd h (by decide)⟩
          exact ⟨_, rfl, rfl, rfl, dd, _, v, rfl, hdd, (by simp), _, rfl, S, rfl, Ht.ne "BadRow" (by decide), Ht.kit "BadRow" (by decide), (by show 3 ≤ sizeLine; decide), fun p hp => ⟨_, rfl, q p hp⟩⟩
        · refine ⟨_, Ht.exm "BadStep" (by decide) "BadRow" (by decide), fun h => absurd h (by decide), fun _ => ?_⟩
          refine ⟨_, Ht.exm "BadStep" (by decide) "BadStep" (by decide), fun _ a ha => ?_, fun h => absurd h (by decide)⟩
          exact ⟨_, rfl, rfl, rfl, dd, _, v, rfl, hdd, (by simp), _, rfl, S, rfl, Ht.ne "BadStep" (by decide), Ht.kit "BadStep" (by decide), (by show 3 ≤ sizeLine; decide), fun p hp => ⟨_, rfl, q p hp⟩⟩
        · refine ⟨_, Ht.exm "BadNumber" (by decide) "BadRow" (by decide), fun h => absurd h (by decide), fun _ => ?_⟩
          refine ⟨_, Ht.exm "BadNumber" (by decide) "BadStep" (by decide), fun h => absurd h (by decide), fun _ => ?_⟩
          refine ⟨_, Ht.exm "BadNumber" (by decide) "BadNumber" (by decide), fun _ a ha => ?_, fun h => absurd h (by decide)⟩
          exact ⟨_, rfl, rfl, rfl, dd, _, v, rfl, hdd, (by simp), _, rfl, S, rfl, Ht.ne "BadNumber" (by decide), Ht.kit "BadNumber" (by decide), (by show 3 ≤ sizeLine; decide), fun p hp => ⟨_, rfl, q p hp⟩⟩
        · refine ⟨_, Ht.exm "BadParameter" (by decide) "BadRow" (by decide), fun h => absurd h (by decide), fun _ => ?_⟩
          refine ⟨_, Ht.exm "BadParameter" (by decide) "BadStep" (by decide), fun h => absurd h (by decide), fun _ => ?_⟩
          refine ⟨_, Ht.exm "BadParameter" (by decide) "BadNumber" (by decide), fun h => absurd h (by decide), fun _ => ?_⟩
          refine ⟨_, Ht.exm "BadParameter" (by decide) "BadParameter" (by decide), fun _ a ha => ?_, fun h => absurd h (by decide)⟩
          exact ⟨_, rfl, rfl, rfl, dd, _, v, rfl, hdd, (by simp), _, rfl, S, rfl, Ht.ne "BadParameter" (by decide), Ht.kit "BadParameter" (by decide), (by show 3 ≤ sizeLine; decide), fun p hp => ⟨_, rfl, q p hp⟩⟩
        · refine ⟨_, Ht.exm "TooGreat" (by decide) "BadRow" (by decide), fun h => absurd h (by decide), fun _ => ?_⟩
          refine ⟨_, Ht.exm "TooGreat" (by decide) "BadStep" (by decide), fun h => absurd h (by decide), fun _ => ?_⟩
          refine ⟨_, Ht.exm "TooGreat" (by decide) "BadNumber" (by decide), fun h => absurd h (by decide), fun _ => ?_⟩
          refine ⟨_, Ht.exm "TooGreat" (by decide) "BadParameter" (by decide), fun h => absurd h (by decide), fun _ => ?_⟩
          refine ⟨_, Ht.exm "TooGreat" (by decide) "TooGreat" (by decide), fun _ a ha => ?_, fun h => absurd h (by decide)⟩
          exact ⟨_, rfl, rfl, rfl, dd, _, v, rfl, hdd, (by simp), _, rfl, S, rfl, Ht.ne "TooGreat" (by decide), Ht.kit "TooGreat" (by decide), (by show 3 ≤ sizeLine; decide), fun p hp => ⟨_, rfl, q p hp⟩⟩
      · refine ⟨_, Ht.exm "NoRow" (by decide) "BadRow" (by decide), fun h => absurd h (by decide), fun _ => ?_⟩
        refine ⟨_, Ht.exm "NoRow" (by decide) "BadStep" (by decide), fun h => absurd h (by decide), fun _ => ?_⟩
        refine ⟨_, Ht.exm "NoRow" (by decide) "BadNumber" (by decide), fun h => absurd h (by decide), fun _ => ?_⟩
        refine ⟨_, Ht.exm "NoRow" (by decide) "BadParameter" (by decide), fun h => absurd h (by decide), fun _ => ?_⟩
        refine ⟨_, Ht.exm "NoRow" (by decide) "TooGreat" (by decide), fun h => absurd h (by decide), fun _ => ?_⟩
        refine ⟨_, Ht.exm "NoRow" (by decide) "NoRow" (by decide), fun _ a ha => ?_, fun h => absurd h (by decide)⟩
        exact ⟨_, rfl, S, rfl, Ht.ne "NoRow" (by decide), Ht.kit "NoRow" (by decide), (by show 2 ≤ sizeLine; decide), fun p hp => ⟨_, rfl, q p hp⟩⟩
    · refine Eq.mp (congrArg (tl (Heard B Q) H) (funext fun v => funext fun H1 => propext ?_)) h
      exact ⟨fun ⟨a, b⟩ => ⟨a, fun p hp => ⟨_, rfl, b p hp⟩⟩, fun ⟨a, b⟩ => ⟨a, fun p hp => by
        obtain ⟨u, e, q⟩ := b p hp
        cases e
        exact q⟩⟩
end K63
set_option Elab.async false
set_option linter.all false
set_option maxRecDepth 100000
set_option maxHeartbeats 4000000
namespace K63
open PySem PySem.Spec PyProof.Rows L2
/-! ### alike by their texts -/
def goodB (d : PyData) : Bool := d.showable && (!d.hasDict && (decide (d.depth ≤ 64) && decide (d.shown.length ≤ sizeLine)))
def spLike (K : PySem.W.Frag) : Sp := fun vs H Q _ => ∃ (x y : V) (d : PyData), vs = [x, y] ∧ Dp K H x d ∧ Dp K H y d ∧ goodB d = true ∧ Q (.bl true) H
def dIs (k : Nat) : PyData := .tuple [.str "is", .int (k : Int)]
def dNo : PyData := .tuple [.str "none", .bool true]
theorem good_is : ∀ k < 70, goodB (dIs k) = true := fun k hk => by
  have h : (List.range 70).all (fun k => goodB (dIs k)) = true := by decide +kernel
  exact List.all_eq_true.mp h k (List.mem_range.mpr hk)
theorem good_no : goodB dNo = true := by decide +kernel
theorem good_bl (b : Bool) : goodB (.bool b) = true := by cases b <;> decide +kernel
section
variable {P : Program} {w : World} {K : PySem.W.Frag} {mg : Str → Option Value} {base : Heap} {B : Str → Addr}
theorem sc_like : FnScope ["_law_got", "_law_due"] ["_law_got", "_law_due"] (defScope (top 57)) := ⟨rfl, rfl, rfl, by decide +kernel, rfl, by decide +kernel, by decide +kernel⟩
theorem ok_like (T : Txt K mg) : DnG P w K mg base CX0 1 "_law_like" ["_law_got", "_law_due"] (spLike K) := by
  refine DnG.mk (T.d 39) sc_like (fun vs H Q E h => ?_) (fun _ _ _ _ _ _ us hl => match us, hl with | [_, _], _ => rfl) (fun f cdv A outer s H vs Q E hr hG h => ?_)
  · obtain ⟨_, _, _, rfl, _⟩ := h
    rfl
  · obtain ⟨x, y, d, rfl, hx, hy, hg, k⟩ := h
    unfold goodB at hg
    simp only [Bool.and_eq_true, Bool.not_eq_true', decide_eq_true_eq] at hg
    obtain ⟨g1, g2, g3, g4⟩ := hg
    have hu : (A.deeper (envOfC "_law_like" (defScope (top 57)) s.heap.objs.size f cdv)).units + 100 < cLine := by have := hr.un; omega
    refine ⟨_, pss_one (ps_ret (pe_cmpR op_eq (pe_callB (cr_repr hG hu) (by rfl) (T.b 10) (by decide +kernel) (pa_cons (pv 0) pa_nil)) (pe_callB (cr_repr hG hu) (by rfl) (T.b 10) (by decide +kernel) (pa_cons (pv 1) pa_nil)) (nomark _))), ?_⟩
    refine ⟨_, rfl, x, d, rfl, hx, g1, g2, g3, g4, _, rfl, y, d, rfl, hy, g1, g2, g3, g4, rfl, ?_⟩
    rw [decide_eq_true rfl]
    exact k
end
/-! ### tuples cut and joined, whole or new -/
def rCatG : R2 := fun x y H Q => ∃ a b xs ys, x = .ref a ∧ y = .ref b ∧ H a = some (.tup xs) ∧ H b = some (.tup ys) ∧ xs.length + ys.length ≤ 5000 ∧ ∀ H' q, Same H H' → H' q = some (.tup (xs ++ ys)) → Q (.ref q) H'
theorem op_catG {X : Cx} : OpR X (binaryOp .Add) rCatG := by
  intro pins s σ H x y v u Q I rx ry h
  obtain ⟨a, b, xs, ys, e1, e2, ha, hb, hl, q⟩ := h
  refine op_catA pins s σ H x y v u Q I rx ry ⟨a, b, xs, ys, e1, e2, .of ha, .of hb, Nat.le_trans hl (Nat.le_of_lt sl5000), fun z => ?_, fun _ z => ?_, fun _ _ p hp => q _ p (same_new hp) upd_same⟩
  · subst z
    exact q H b (Same.refl H) hb
  · subst z
    exact q H a (Same.refl H) (by rw [List.append_nil]; exact ha)
def rSlG : V → Option Int → Option Int → Hp → VK → Prop := fun x lo hi H Q => ∃ a xs, x = .ref a ∧ H a = some (.tup xs) ∧ ∀ H' q, Same H H' → H' q = some (.tup (cutV xs lo hi)) → Q (.ref q) H'
theorem sl_tupG {X : Cx} : SlR X rSlG := by
  intro pins s σ H x v vl vu lo hi sl Q I rx hs pl pu h
  obtain ⟨a, xs, e, ha, q⟩ := h
  refine sl_tupA pins s σ H x v vl vu lo hi sl Q I rx hs pl pu ⟨a, xs, e, .of ha, fun z => ?_, fun _ p hp => q _ p (same_new hp) upd_same⟩
  refine q H a (Same.refl H) ?_
  unfold cutV
  rw [z.1, z.2, List.drop_zero, Nat.sub_zero, List.take_length]
  exact ha
theorem cut_take (xs : List V) (k : Nat) : cutV xs none (some (k : Int)) = xs.take k := by
  unfold cutV
  rw [HT.sIx_none, HT.sIx_nat, List.drop_zero, Nat.sub_zero]
  by_cases h : k ≤ xs.length
  · rw [Nat.min_eq_left h]
  · rw [Nat.min_eq_right (by omega), List.take_of_length_le (Nat.le_refl _), List.take_of_length_le (by omega)]
theorem cut_drop (xs : List V) (k : Nat) : cutV xs (some (k : Int)) none = xs.drop k := by
  unfold cutV
  rw [HT.sIx_none, HT.sIx_nat]
  by_cases h : k ≤ xs.length
  · rw [Nat.min_eq_left h]
    exact List.take_of_length_le (by rw [List.length_drop]; omega)
  · rw [Nat.min_eq_right (by omega), List.drop_length, List.drop_eq_nil_of_le (by omega), List.take_nil]
theorem cut_last (xs : List V) : cutV xs none (some (-1)) = xs.dropLast := by
  unfold cutV
  rw [HT.sIx_none, List.drop_zero, Nat.sub_zero, List.dropLast_eq_take]
  congr 1
  have e : HT.sIx xs.length xs.length (some (-1)) = (-1 + (xs.length : Int)).toNat := rfl
  rw [e]
  omega
/-! ### the state through a table's growth -/
theorem St5.ext {H H' : Hp} {d c lf : Addr} {n : Nat} (h : St5 H d c lf n) (s : LamX.ExtN H H') : St5 H' d c lf n :=
  ⟨let ⟨k, a, b⟩ := h.dict; ⟨k, s _ _ a (by intro _ z; cases z), b⟩, let ⟨cs, ls, a, b, e⟩ := h.cells; ⟨cs, ls, s _ _ a (by intro _ z; cases z), s _ _ b (by intro _ z; cases z), e⟩, h.nc⟩
theorem ext_tx {H H' : Hp} (s : LamX.ExtN H H') : TExt H H' := fun b xs e => s b _ e (by intro _ z; cases z)
theorem tabs_kp {Tb : List (Addr × Str)} {H H' : Hp} {d c lf : Addr} {n : Nat} (t : LamX.Tabs Tb H) (h : St5 H d c lf n) (k : Kp d lf H H') : LamX.Tabs Tb H' := fun p hp => by
  obtain ⟨ps, h1, h2, h3⟩ := t p hp
  obtain ⟨⟨j, a, _⟩, ⟨cs, ls, e1, e2, _⟩, _⟩ := h
  refine ⟨ps, k _ _ (ne_of h1 a (by intro z; cases z)) (ne_of h1 e2 (by intro z; cases z)) h1, h2, fun pos cv hc => ?_⟩
  obtain ⟨c', e, hc'⟩ := h3 pos cv hc
  exact ⟨c', e, k _ _ (ne_of hc' a (by intro z; cases z)) (ne_of hc' e2 (by intro z; cases z)) hc'⟩
theorem tabs_same {Tb : List (Addr × Str)} {H H' : Hp} (t : LamX.Tabs Tb H) (s : Same H H') : LamX.Tabs Tb H' := t.ext s
/-! ### _law_heard(lambda: ..) -/
section
variable {X : Cx} {B : Str → Addr} {S c P : Addr} {Tb : List (Addr × Str)} {k : Nat} {params : Arguments} {body : Expr} {scope : Scope} {t : XK → TE} {p lpos pos : Pos}
theorem pe_heard (T : Txt X.K X.mg) (Ht : HeardT X.K X.mg B S) (TB : LamX.TabB X.base X.mg c P) (hcode : X.env.code = .ref c) (hmT : (P, X.env.qual ++ "<lambda>") ∈ Tb) (hu : ∀ p ∈ Tb, p.1 = P → p.2 = X.env.qual ++ "<lambda>") (hr : Room (k + 2) X.A) (L : LamX.LamS X.env.scope scope) (hdef : defaultsOf params X.env = ([], []))
    (hbind : ∀ (q : Str) (cl : List (Str × Addr)) (pm cv ctv : Value), bindArgs (PySem.W.kla_fn "<lambda>" q params body scope cl pm cv ctv) ⟨[], []⟩ = pure [])
    (hbody : ∀ (A : Around) (outer : List Env) (s : Shared) (H : Hp) (E : XK) (f c' : Addr), Room k (A.deeper (LamX.lamEnv X scope s.heap.objs.size f c')) → PE (LamX.lamCx X A outer s H E scope f c') body (t E))
    (hg : Gl X "_law_heard" := by rfl) : PE X (.Call (.Name "_law_heard" p) [.Lambda params body scope lpos] [] pos) (LamX.tLam Tb (TTh B) t) := by
  obtain ⟨f, fd, F, hm⟩ := T.d 38
  have hB : Binds X.K fd ["_law_call"] [] := F.bindsN fun _ _ _ _ _ _ us hl => match us, hl with | [_], _ => rfl
  obtain ⟨oc, od, dV, kV, doc, pm, an, cdv, ct, osl, e, lk, hcd, _, _⟩ := F.ex
  subst e
  exact LamX.pe_lamcall hg hm F.kp lk hcd hB sc_heard rfl (.inl rfl) (heard_gives T Ht) TB hcode hmT hu hr L hdef hbind hbody
end
end K63
set_option Elab.async false
set_option linter.all false
set_option maxRecDepth 100000
set_option maxHeartbeats 4000000
namespace K63
open PySem PySem.Spec PyProof.Rows L2
def qR : Str := "_law_right.<locals>.<lambda>"
def qH : Str := "_law_by_hand.<locals>.<lambda>"
def spRight (Tb : List (Addr × Str)) : Sp := fun vs H Q _ => ∃ (d c lf : Addr) (n : Nat), vs = [.ref d] ∧ St5 H d c lf n ∧ LamX.Tabs Tb H ∧ n ≤ 500000 ∧ ∀ H', LamX.Tabs Tb H' → St5 H' d c lf (n + 1000) → Q (.bl true) H'
theorem word_ok {ks : List Nat} {m : Nat} (h0 : ks ≠ []) (h3 : ks.length ≤ 3) (h : ∀ k ∈ ks, k < m) : wordB ks m = true := by
  have := List.length_pos_iff.mpr h0
  unfold wordB
  rw [decide_eq_true ⟨by omega, by omega⟩, Bool.true_and, List.all_eq_true]
  exact fun k hk => decide_eq_true (h k hk)
theorem wn_parts {l : List Rat} (h : Wn l) : Parts l := ⟨h.ok (by decide) (by unfold BP; decide) (by unfold BP; decide), h.bl⟩
section
variable {P : Program} {w : World} {K : PySem.W.Frag} {mg : Str → Option Value} {base : Heap} {B : Str → Addr} {S cR PR PH : Addr}
theorem sc_right : FnScope ["_law_state", "_law_rows_so", "_law_turn", "_law_one_so", "_law_other_so", "_law_near", "_law_far", "_law_place", "_law_bent", "_law_some", "_law_due", "_law_got"] ["_law_state"] (defScope (top 60)) := ⟨rfl, rfl, rfl, by decide +kernel, rfl, by decide +kernel, by decide +kernel⟩
theorem ok_right (T : Txt K mg) (Er : Errs P w K mg B) (Ht : HeardT K mg B S) (TB : LamX.TabB base mg cR PR) (hne : PR ≠ PH) (hAt : AtC K mg "_law_right" 60 cR) : DnG P w K mg base CX0 10 "_law_right" ["_law_state"] (spRight [(PR, qR), (PH, qH)]) := by
  generalize hTb : [(PR, qR), (PH, qH)] = Tb
  refine DnG.mkC hAt sc_right (fun vs H Q E h => ?_) (fun _ _ _ _ _ _ us hl => match us, hl with | [_], _ => rfl) (fun f A outer s H vs Q E hr hG h => ?_)
  · obtain ⟨_, _, _, _, rfl, _⟩ := h
    rfl
  · obtain ⟨d, c, lf, n, rfl, st, tabs, hn, k⟩ := h
    have nd := sc_right.nd
    have hmT : (PR, qR) ∈ Tb := by
      rw [← hTb]
      exact List.mem_cons_self ..
    have hmU : ∀ p ∈ Tb, p.1 = PR → p.2 = qR := by
      rw [← hTb]
      intro p hp he
      simp only [List.mem_cons, List.not_mem_nil, or_false] at hp
      rcases hp with rfl | rfl
      · rfl
      · exact absurd he.symm hne
    refine ⟨_, PSs.nox (pss_cons (ps_set (i := 1) nd rfl (Or.inl rfl) (pe_dn ((ok_some T).up (by decide)) hr pass0 (pa_cons (pv 0) pa_nil)))
      (pss_cons (ps_for PassesOwn.never rfl (pi_range1 rfl (T.b 1) (pa_cons pe_int pa_nil)) (pg_name (i := 2) nd rfl (Or.inl rfl)) (pss_cons (ps_par (i := 3) (j := 4) rfl nd rfl rfl (by decide) rfl rfl (pa_cons (pe_dn ((ok_letters T).up (by decide)) hr pass0 (pa_cons (pv 0) (pa_cons (pe_callB call_len_seq (by rfl) (T.b 0) PySem.boot_len (pa_cons (pv 1) pa_nil)) (pa_cons pe_int pa_nil)))) (pa_cons (pe_dn ((ok_letters T).up (by decide)) hr pass0 (pa_cons (pv 0) (pa_cons (pe_callB call_len_seq (by rfl) (T.b 0) PySem.boot_len (pa_cons (pv 1) pa_nil)) (pa_cons pe_int pa_nil)))) pa_nil)) (by rfl))
      (pss_cons (ps_asg (pe_tup (pa_cons (pe_dn ((ok_wstep T).up (by decide)) hr pass0 (pa_cons (pv 1) (pa_cons (pv 3) pa_nil))) (pa_cons (pe_dn ((ok_wstep T).up (by decide)) hr pass0 (pa_cons (pv 1) (pa_cons (pv 4) pa_nil))) pa_nil))) (pg_tup rfl (pgs_cons (pg_name (i := 5) nd rfl (Or.inr rfl)) (pgs_cons (pg_name (i := 6) nd rfl (Or.inl rfl)) pgs_nil))))
      (pss_cons (ps_if (PW.pt (pw_or (pt_not (pt_val (pe_dnG (ok_like T) (hr.mono (by decide)) hG pass0 (pa_cons (pe_dn ((ok_alike T Er).up (by decide)) hr passes_none (pa_cons (pv 1) (pa_cons (pv 3) (pa_cons (pv 4) pa_nil)))) (pa_cons (pe_cmpR (op_eqD hr.units) (pv 5) (pv 6) (nomark _)) pa_nil))))) (pw_or1 (pt_cmpR op_notBl (pe_dn ((ok_alike T Er).up (by decide)) hr passes_none (pa_cons (pv 1) (pa_cons (pv 3) (pa_cons (pv 3) pa_nil)))) pe_bl (nomark _))))) (pss_one (ps_ret pe_bl)) pss_nil)
      (pss_cons (ps_set (i := 7) nd rfl (Or.inl rfl) (pe_dn ((ok_draw T).up (by decide)) hr pass0 (pa_cons (pv 0) (pa_cons (pe_callB call_len_seq (by rfl) (T.b 0) PySem.boot_len (pa_cons (pv 5) pa_nil)) pa_nil))))
      (pss_cons (ps_set (i := 8) nd rfl (Or.inl rfl) (pe_op op_catG (pe_op op_catG (pe_slice sl_tupG (pv 5) po_none (po_some (pv 7))) (pe_tup (pa_cons (pe_dn ((ok_add T).up (by decide)) hr pass0 (pa_cons (pe_ix ix_tup (pv 5) (pv 7) (fun _ _ => rfl)) (pa_cons (pe_num (pe_tup (pa_cons pe_int (pa_cons pe_int pa_nil))) (1 / 2) (by decide +kernel) (by decide +kernel)) pa_nil))) pa_nil))) (pe_slice sl_tupG (pv 5) (po_some (pe_op op_add (pv 7) pe_int)) po_none)))
      (pss_cons (ps_if (pt_cmpR (op_eqD hr.units) (pe_ix ix_tup (pv 8) (pe_un un_neg pe_int) (fun _ _ => rfl)) (pe_num (pe_tup (pa_cons pe_int (pa_cons pe_int pa_nil))) (0) (by decide +kernel) (by decide +kernel)) (nomark _)) (pss_one (ps_set (i := 8) nd rfl (Or.inl rfl) (pe_op op_catG (pe_slice sl_tupG (pv 5) po_none (po_some (pe_un un_neg pe_int))) (pe_stepL (pe_tup (pa_nums (pa_cons (pe_num (pe_tup (pa_cons pe_int (pa_cons pe_int pa_nil))) (7) (by decide +kernel) (by decide +kernel)) (pa_nums0 pa_nil)))) (by decide))))) pss_nil)
      (pss_one (ps_for PassesOwn.never rfl (pi_tup (pe_tup (pa_cons (pv 6) (pa_cons (pv 5) (pa_cons (pv 8) pa_nil))))) (pg_name (i := 9) nd rfl (Or.inr rfl)) (pss_cons (ps_set (i := 10) nd rfl (Or.inl rfl) (pe_dn ((ok_parted T).up (by decide)) hr pass0 (pa_cons (pv 5) (pa_cons (pv 9) pa_nil))))
      (pss_cons (ps_set (i := 11) nd rfl (Or.inl rfl) (pe_heard (Tb := Tb) (k := 5) T Ht TB rfl hmT hmU (hr.mono (by decide)) (LamX.lamS_by (sc := defScope (top 60)) (by decide +kernel)) rfl (fun _ _ _ _ _ => rfl) (fun A outer s H E f c' hr2 => pe_dn (ok_part T Er) hr2 (passes_call (takes_of rfl rfl rfl rfl) fun _ _ _ _ h => h) (pa_cons (pv 5) (pa_cons (pv 9) pa_nil)))))
      (pss_cons (ps_if (pt_not (pt_val (pe_dnG (ok_like T) (hr.mono (by decide)) hG pass0 (pa_cons (pv 11) (pa_cons (pe_ifExp (pt_cmpR op_notN (pv 10) pe_non (nomark _)) (pe_tup (pa_cons pe_str (pa_cons (pv 10) pa_nil))) (pe_tup (pa_cons pe_str (pa_cons pe_bl pa_nil)))) pa_nil))))) (pss_one (ps_ret pe_bl)) pss_nil)
      (pss_one (ps_if (PW.pt (pw_or (pt_cmpR op_ne (pe_cmpR op_isN (pv 10) pe_non (nomark _)) (pe_cmpR (op_eqD hr.units) (pv 5) (pv 9) (nomark _)) (nomark _)) (pw_or1 (PW.pt (pw_and (pt_cmpR op_notN (pv 10) pe_non (nomark _)) (pw_and1 (pt_cmpR op_ge (pv 10) (pe_callB (call_max2 rfl) (by rfl) (T.b 4) (by decide +kernel) (pa_cons (pe_callB call_len_seq (by rfl) (T.b 0) PySem.boot_len (pa_cons (pv 5) pa_nil)) (pa_cons (pe_callB call_len_seq (by rfl) (T.b 0) PySem.boot_len (pa_cons (pv 9) pa_nil)) pa_nil))) (nomark _)))))))) (pss_one (ps_ret pe_bl)) pss_nil))))))))))))))
      (pss_one (ps_ret pe_bl)))), ?_⟩
    clear hTb
    refine ⟨_, rfl, d, c, lf, n, rfl, st, by omega, fun H1 vr ws wne w4 wg k1 st1 row1 => ?_⟩
    have tab1 := tabs_kp tabs st k1
    refine ⟨4, rfl, by decide, by decide, for_range (n := 4) (fun i σ H1 => ∃ u2 u3 u4 u5 u6 u7 u8 u9 u10 u11, σ = [some (.ref d), some vr, u2, u3, u4, u5, u6, u7, u8, u9, u10, u11] ∧ LamX.Tabs Tb H1 ∧ St5 H1 d c lf (n + 100 + 50 * i) ∧ RowV H1 vr ws)
      ⟨_, _, _, _, _, _, _, _, _, _, rfl, tab1, st1, row1⟩ (fun i σ H2 hi hP => ?_) (fun σ H2 hP => ?_)⟩
    · obtain ⟨u2, u3, u4, u5, u6, u7, u8, u9, u10, u11, rfl, tab2, st2, row2⟩ := hP
      obtain ⟨pr, xs, rfl, hpr, rr⟩ := id row2
      have hwl := rr.length
      have hw0 := List.length_pos_iff.mpr wne
      refine ⟨_, rfl, _, rfl, pr, _, rfl, .inr (SqT.of hpr), d, c, lf, _, xs.length, rfl, by omega, by omega, st2, by omega, fun H3 vk ks kn kl km k3 st3 lk => ?_⟩
      have tab3 := tabs_kp tab2 st2 k3
      have tx3 := st2.tx k3
      have row3 := row2.mono tx3
      have hpr3 := tx3 _ _ hpr
      refine ⟨_, rfl, _, rfl, pr, _, rfl, .inr (SqT.of hpr3), d, c, lf, _, xs.length, rfl, by omega, by omega, st3, by omega, fun H4 vj js jn jl jm k4 st4 lj => ⟨_, _, rfl, ?_⟩⟩
      have tab4 := tabs_kp tab3 st3 k4
      have tx4 := st3.tx k4
      have row4 := row3.mono tx4
      have lk4 := lk.mono tx4
      rw [hwl] at km jm
      have gk : ∀ g ∈ wordOf ws ks, Gd g := fun g hg2 => wg g (word_mem km g hg2)
      have gj : ∀ g ∈ wordOf ws js, Gd g := fun g hg2 => wg g (word_mem jm g hg2)
      have nk : wordOf ws ks ≠ [] := by simpa [wordOf] using kn
      have nj : wordOf ws js ≠ [] := by simpa [wordOf] using jn
      have ck := chain3 nk (by simpa [wordOf] using kl) gk
      have cj := chain3 nj (by simpa [wordOf] using jl) gj
      have wk := words3 nk (by simpa [wordOf] using kl) gk
      have wj := words3 nj (by simpa [wordOf] using jl) gj
      have dk : degL (wordOf ws ks) ≤ 256 := by
        have h1 := (whole_stp _ nk fun g hg2 => (gk g hg2).stp).2
        have h2 := wk.len
        omega
      have dj : degL (wordOf ws js) ≤ 256 := by
        have h1 := (whole_stp _ nj fun g hg2 => (gj g hg2).stp).2
        have h2 := wj.len
        omega
      have bk := word_ok kn kl km
      have bj := word_ok jn jl jm
      refine ⟨_, rfl, _, rfl, _, _, ws, ks, rfl, row4, lk4, km, by omega, ck, fun H5 v5 s5 f5 => ?_⟩
      refine ⟨_, rfl, _, rfl, _, _, ws, js, rfl, row4.mono s5.tx, lj.mono s5.tx, jm, by omega, cj, fun H6 v6 s6 f6 => ?_⟩
      refine ⟨(by show 2 ≤ sizeLine; decide), fun p7 hp7 => ⟨p7, _, rfl, SqT.of upd_same, rfl, _, _, rfl, _, _, rfl, rfl, ?_⟩⟩
      have s7 := s5.trans (s6.trans (same_new (o := .tup [v5, v6]) hp7))
      have f5' := f5.mono (s6.trans (same_new (o := .tup [v5, v6]) hp7)).tx
      have f6' := f6.mono (tx_new (o := .tup [v5, v6]) hp7)
      generalize upd H6 p7 (.tup [v5, v6]) = H7 at s7 f5' f6'
      have tab7 := tabs_same tab4 s7
      have st7 := st4.same s7
      have row7 := row4.mono s7.tx
      have lk7 := lk4.mono s7.tx
      have lj7 := lj.mono s7.tx
      generalize hA : wholeL (wordOf ws ks) = la at *
      generalize hB : wholeL (wordOf ws js) = lb at *
      refine ⟨_, rfl, _, rfl, _, rfl, _, _, _, rfl, .inr ⟨ws, ks, js, row7, wne, by omega, wg, lk7, lj7, by omega, by omega, fun z => absurd z (by rw [bk]; decide), fun _ z => absurd z (by rw [bj]; decide), fun _ _ => ⟨fun z => absurd z (by omega), fun _ z => absurd z (by omega), fun _ _ => ⟨ck, cj, fun H8 s8 => ?_⟩⟩⟩⟩
      have f5a := f5'.mono s8.tx
      have f6a := f6'.mono s8.tx
      refine ⟨_, rfl, _, rfl, _, _, f5a.dp, f6a.dp, shaped_step _, shaped_step _, ?_⟩
      rw [eqv_step, hA, hB]
      refine ⟨_, _, .bool (decide (la = lb)), rfl, .bl _, .bl _, good_bl _, _, rfl, ifF rfl ?_⟩
      refine ⟨_, rfl, _, rfl, _, rfl, _, _, _, rfl, .inr ⟨ws, ks, ks, row7.mono s8.tx, wne, by omega, wg, lk7.mono s8.tx, lk7.mono s8.tx, by omega, by omega, fun z => absurd z (by rw [bk]; decide), fun _ z => absurd z (by rw [bk]; decide), fun _ _ => ⟨fun z => absurd z (by omega), fun _ z => absurd z (by omega), fun _ _ => ⟨ck, ck, fun H9 s9 => ?_⟩⟩⟩⟩
      refine ⟨_, _, rfl, rfl, _, rfl, ifF (by simp) ?_⟩
      have s10 := s8.trans s9
      have tab9 := tabs_same tab7 s10
      have st9 := st7.same s10
      have row9 := row7.mono s10.tx
      have f5b := f5'.mono s10.tx
      have f6b := f6'.mono s10.tx
      obtain ⟨pn, ys, rfl, hpn, ry⟩ := id f5b
      have hyl := ry.length
      have wkl := wk.len
      have wk2 := wk.stp.1
      refine ⟨_, rfl, _, rfl, pn, _, rfl, .inr (SqT.of hpn), d, c, lf, _, ys.length, rfl, st9, by omega, by omega, by omega, fun H10 pl hpl k10 st10 => ?_⟩
      have tab10 := tabs_kp tab9 st9 k10
      have tx10 := st9.tx k10
      have row10 := row9.mono tx10
      have f5c := f5b.mono tx10
      have f6c := f6b.mono tx10
      have hpn10 := tx10 _ _ hpn
      have ry10 := NumVs.mono tx10 ry
      obtain ⟨cf, hcf⟩ : ∃ cf, la[pl]? = some cf := ⟨_, List.getElem?_eq_getElem (by omega)⟩
      obtain ⟨vf, hvf, nvf⟩ := pget2 ry10 hcf
      have cfs : Sz cf := (WB.bl ck.whole).sz (by rw [hA]; exact List.mem_of_getElem? hcf)
      refine ⟨_, rfl, _, rfl, pl, rfl, pn, ys, rfl, hpn10, fun H11 q11 s11 h11 => ?_⟩
      refine ⟨_, rfl, _, rfl, pn, _, _, vf, rfl, rfl, SqT.of (s11 _ _ hpn10), atI_nat hvf, fun H12 v12 s12 n12 => ?_⟩
      refine ⟨vf, v12, cf, 1 / 2, rfl, nvf.mono (s11.trans s12).tx, n12, cfs, ⟨Nat.lt_of_lt_of_le (by decide +kernel : (1 / 2 : Rat).num.natAbs < 2 ^ 1) (Nat.pow_le_pow_right (by decide) (by decide)), Nat.lt_of_lt_of_le (by decide +kernel : (1 / 2 : Rat).den < 2 ^ 2) (Nat.pow_le_pow_right (by decide) (by decide))⟩, fun H13 v13 s13 n13 => ?_⟩
      refine ⟨(by show 1 ≤ sizeLine; decide), fun p14 hp14 => ?_⟩
      have s14 := (s12.trans s13).trans (same_new (o := .tup [v13]) hp14)
      rw [cut_take] at h11
      refine ⟨q11, p14, _, _, rfl, rfl, s14 _ _ h11, upd_same, by simp; omega, fun H15 q15 s15 h15 => ?_⟩
      have s1115 := s11.trans (s14.trans s15)
      refine ⟨_, rfl, _, rfl, _, _, rfl, rfl, _, rfl, pn, ys, rfl, s1115 _ _ hpn10, fun H16 q16 s16 h16 => ?_⟩
      have epl : ((pl : Nat) : Int) + 1 = ((pl + 1 : Nat) : Int) := by omega
      rw [epl, cut_drop] at h16
      refine ⟨q15, q16, _, _, rfl, rfl, s16 _ _ h15, h16, by simp; omega, fun H17 q17 s17 h17 => ?_⟩
      have s1017 := s1115.trans (s16.trans s17)
      have hne0 := bent_ok wk hcf
      obtain ⟨z, hz, hwn⟩ := hne0
      have rb : Paired (NumV H17) ((ys.take pl ++ [v13]) ++ ys.drop (pl + 1)) ((la.take pl ++ [cf + 1 / 2]) ++ la.drop (pl + 1)) :=
        papp (papp (ptake pl (NumVs.mono s1017.tx ry10)) (.cons (n13.mono ((same_new (o := .tup [v13]) hp14).tx.trans (s15.tx.trans (s16.tx.trans s17.tx)))) .nil)) (pdrop (pl + 1) (NumVs.mono s1017.tx ry10))
      obtain ⟨vz, hvz⟩ := last_get (l := (ys.take pl ++ [v13]) ++ ys.drop (pl + 1)) (by simp)
      obtain ⟨z', hz', nz⟩ := plast rb hvz
      rw [hz] at hz'
      cases hz'
      refine ⟨_, rfl, _, rfl, q17, _, _, vz, rfl, rfl, SqT.of h17, atI_neg hvz, fun H18 v18 s18 n18 => ?_⟩
      refine ⟨_, _, (nz.mono s18.tx).dp, n18.dp, shaped_num _, shaped_num _, _, rfl, ?_⟩
      rw [eqv_num]
      by_cases hz0 : z = 0
      · refine ifT (decide_eq_true hz0) ?_
        have s1018 := s1017.trans s18
        refine ⟨_, rfl, 1, rfl, -1, rfl, pn, ys, rfl, s1018 _ _ hpn10, fun H31 q31 s31 h31 => ?_⟩
        rw [cut_last] at h31
        intro H32 v32 s32 f32
        obtain ⟨p32, vs32, rfl, h32, r32⟩ := f32
        have l32 := r32.length
        refine ⟨q31, p32, _, _, rfl, rfl, s32 _ _ h31, h32, by rw [l32]; simp; omega, fun H33 q33 s33 h33 => ?_⟩
        have sB := s1018.trans (s31.trans (s32.trans s33))
        have wnb := bent_fix wk
        have fC : StepV H33 (.ref q33) (la.dropLast ++ [7]) := ⟨q33, _, rfl, h33, papp (pdl (NumVs.mono sB.tx ry10)) (NumVs.mono s33.tx r32)⟩
        generalize la.dropLast ++ [7] = bl at wnb fC
        have stb := (st10.same sB).mono (m := n + 100 + 50 * i + 21) (by omega)
        have tabB := tabs_same tab10 sB
        have rowB := row10.mono sB.tx
        have fA := f5c.mono sB.tx
        have fB := f6c.mono sB.tx
        refine ⟨_, rfl, _, rfl, _, rfl, (by show 3 ≤ sizeLine; decide), fun pt hpt => ⟨pt, rfl, ⟨_, SqT.of upd_same⟩, ?_⟩⟩
        have sP := same_new (o := .tup [v6, .ref pn, (V.ref q33)]) hpt
        refine for_tup (xs := [v6, .ref pn, (V.ref q33)]) (fun j σ H' => ∃ u9 u10 u11, σ = [some (.ref d), some (.ref pr), some (.int (0 + (i : Int))), some vk, some vj, some (.ref pn), some v6, some (.int (pl : Int)), some (V.ref q33), u9, u10, u11] ∧ LamX.Tabs Tb H' ∧ St5 H' d c lf (n + 100 + 50 * i + 21) ∧ H' pt = some (.tup [v6, .ref pn, (V.ref q33)]) ∧ RowV H' (.ref pr) ws ∧ Paired (StepV H') [v6, .ref pn, (V.ref q33)] [lb, la, bl])
          ⟨_, _, _, rfl, tabs_same tabB sP, stb.same sP, upd_same, rowB.mono sP.tx, .cons (fB.mono sP.tx) (.cons (fA.mono sP.tx) (.cons (fC.mono sP.tx) .nil))⟩
          (fun j σ H' _ ⟨_, _, _, _, _, _, hh, _⟩ => SqT.of hh) (fun j x σ H19 hx hP => ?_) (fun σ H19 hP => ?_)
        · obtain ⟨u9, u10, u11, rfl, tab19, st19, h19, row19, rr19⟩ := hP
          obtain ⟨l, hl, fl⟩ := pget rr19 hx
          have fA19 : StepV H19 (.ref pn) la := (pget2 (i := 1) rr19 rfl).elim fun z hz => by
            have := hz.1
            cases this
            exact hz.2
          have wl : Wn l := by
            have := List.mem_of_getElem? hl
            simp only [List.mem_cons, List.not_mem_nil, or_false] at this
            rcases this with rfl | rfl | rfl
            · exact Wn.of wj
            · exact Wn.of wk
            · exact wnb
          have wla := Wn.of wk
          have ll := wl.len
          refine ⟨_, rfl, _, rfl, _, _, la, l, rfl, fA19, fl, wla.bl, wl.bl, by omega, by omega, fun H20 s20 => ?_⟩
          refine ⟨tabs_same tab19 s20, fun H21 e21 tab21 => ?_⟩
          have tx21 := s20.tx.trans (ext_tx e21)
          have st21 := (st19.same s20).ext e21
          have fA21 := fA19.mono tx21
          have fl21 := fl.mono tx21
          have row21 := row19.mono tx21
          have rr21 := StepVs.mono tx21 rr19
          have h21 := tx21 _ _ h19
          cases hpa : parted la l with
          | none =>
            have heq : la = l := (parted_none wla.stp.2 wl.stp.2).mp hpa
            refine ⟨_, rfl, _, rfl, _, _, la, rfl, fA21, wn_parts wla, .inr ⟨l, fl21, wn_parts wl, fun _ H22 s22 => .inr ⟨rfl, fun pg hpg => ?_⟩, fun k hk => absurd (hpa.symm.trans hk) (by intro z; cases z)⟩⟩
            have s23 := s22.trans (same_new (o := .tup [.str "none", .bl true]) hpg)
            refine ⟨_, rfl, _, rfl, rfl, _, rfl, ifF rfl ⟨(by show 2 ≤ sizeLine; decide), fun p2 hp2 => ?_⟩⟩
            have s24 := s23.trans (same_new (o := .tup [.str "none", .bl true]) hp2)
            refine ⟨_, _, dNo, rfl, .tup (SqT.of (same_new hp2 _ _ upd_same)) (.cons (.str _) (.cons (.bl _) .nil)), .tup (SqT.of upd_same) (.cons (.str _) (.cons (.bl _) .nil)), good_no, _, rfl, ifF rfl ?_⟩
            refine ⟨_, rfl, rfl, _, rfl, _, rfl, _, _, (fA21.mono s24.tx).dp, (fl21.mono s24.tx).dp, shaped_step _, shaped_step _, rfl, _, rfl, ifF ?_ ?_⟩
            · rw [eqv_step, decide_eq_true heq]
              decide
            · exact ⟨_, rfl, rfl, _, rfl, ifF rfl (ifF rfl ⟨_, _, _, rfl, tabs_same tab21 s24, st21.same s24, s24 _ _ h21, row21.mono s24.tx, StepVs.mono s24.tx rr21⟩)⟩
          | some k =>
            have hne2 : la ≠ l := fun z => by
              have := (parted_none wla.stp.2 wl.stp.2).mpr z
              rw [this] at hpa
              cases hpa
            have hkl := parted_lt hpa
            refine ⟨_, rfl, _, rfl, _, _, la, rfl, fA21, wn_parts wla, .inr ⟨l, fl21, wn_parts wl, fun hk => absurd (hpa.symm.trans hk) (by intro z; cases z), fun k' hk' H22 s22 => ⟨(by show 2 ≤ sizeLine; decide), fun pg hpg => ?_⟩⟩⟩
            obtain rfl : k = k' := Option.some.inj (hpa.symm.trans hk')
            have s23 := s22.trans (same_new (o := .tup [.str "is", .int (k : Int)]) hpg)
            refine ⟨_, rfl, _, rfl, rfl, _, rfl, ifT rfl ⟨_, rfl, (by show 2 ≤ sizeLine; decide), fun p2 hp2 => ?_⟩⟩
            have s24 := s23.trans (same_new (o := .tup [.str "is", .int (k : Int)]) hp2)
            refine ⟨_, _, dIs k, rfl, .tup (SqT.of (same_new hp2 _ _ upd_same)) (.cons (.str _) (.cons (.int _) .nil)), .tup (SqT.of upd_same) (.cons (.str _) (.cons (.int _) .nil)), good_is k (by omega), _, rfl, ifF rfl ?_⟩
            refine ⟨_, rfl, rfl, _, rfl, _, rfl, _, _, (fA21.mono s24.tx).dp, (fl21.mono s24.tx).dp, shaped_step _, shaped_step _, rfl, _, rfl, ifF ?_ ?_⟩
            · rw [eqv_step, decide_eq_false hne2]
              rfl
            · obtain ⟨pn', ys', en, hpn', ry'⟩ := fA21.mono s24.tx
              obtain ⟨px, zs, rfl, hpx, rz⟩ := fl21.mono s24.tx
              cases en
              refine ⟨_, rfl, rfl, _, rfl, ifT rfl ?_⟩
              refine ⟨_, rfl, _, rfl, pn, _, rfl, .inr (SqT.of hpn'), _, rfl, px, _, rfl, .inr (SqT.of hpx), _, _, rfl, ?_⟩
              rw [max_int, ry'.length, rz.length]
              refine ⟨_, _, rfl, rfl, _, rfl, ?_⟩
              rw [decide_eq_false (by omega)]
              exact ifF rfl ⟨_, _, _, rfl, tabs_same tab21 s24, st21.same s24, s24 _ _ h21, row21.mono s24.tx, StepVs.mono s24.tx rr21⟩
        · obtain ⟨u9, u10, u11, rfl, tab19, st19, h19, row19, rr19⟩ := hP
          exact ⟨_, _, _, _, _, _, _, _, _, _, rfl, tab19, st19.mono (by omega), row19⟩
      · refine ifF (decide_eq_false hz0) ?_
        have wnb := hwn hz0
        have fC : StepV H18 (.ref q17) ((la.take pl ++ [cf + 1 / 2]) ++ la.drop (pl + 1)) := ⟨q17, _, rfl, s18 _ _ h17, NumVs.mono s18.tx rb⟩
        have sB := s1017.trans s18
        generalize (la.take pl ++ [cf + 1 / 2]) ++ la.drop (pl + 1) = bl at wnb fC
        have stb := (st10.same sB).mono (m := n + 100 + 50 * i + 21) (by omega)
        have tabB := tabs_same tab10 sB
        have rowB := row10.mono sB.tx
        have fA := f5c.mono sB.tx
        have fB := f6c.mono sB.tx
        refine ⟨_, rfl, _, rfl, _, rfl, (by show 3 ≤ sizeLine; decide), fun pt hpt => ⟨pt, rfl, ⟨_, SqT.of upd_same⟩, ?_⟩⟩
        have sP := same_new (o := .tup [v6, .ref pn, (V.ref q17)]) hpt
        refine for_tup (xs := [v6, .ref pn, (V.ref q17)]) (fun j σ H' => ∃ u9 u10 u11, σ = [some (.ref d), some (.ref pr), some (.int (0 + (i : Int))), some vk, some vj, some (.ref pn), some v6, some (.int (pl : Int)), some (V.ref q17), u9, u10, u11] ∧ LamX.Tabs Tb H' ∧ St5 H' d c lf (n + 100 + 50 * i + 21) ∧ H' pt = some (.tup [v6, .ref pn, (V.ref q17)]) ∧ RowV H' (.ref pr) ws ∧ Paired (StepV H') [v6, .ref pn, (V.ref q17)] [lb, la, bl])
          ⟨_, _, _, rfl, tabs_same tabB sP, stb.same sP, upd_same, rowB.mono sP.tx, .cons (fB.mono sP.tx) (.cons (fA.mono sP.tx) (.cons (fC.mono sP.tx) .nil))⟩
          (fun j σ H' _ ⟨_, _, _, _, _, _, hh, _⟩ => SqT.of hh) (fun j x σ H19 hx hP => ?_) (fun σ H19 hP => ?_)
        · obtain ⟨u9, u10, u11, rfl, tab19, st19, h19, row19, rr19⟩ := hP
          obtain ⟨l, hl, fl⟩ := pget rr19 hx
          have fA19 : StepV H19 (.ref pn) la := (pget2 (i := 1) rr19 rfl).elim fun z hz => by
            have := hz.1
            cases this
            exact hz.2
          have wl : Wn l := by
            have := List.mem_of_getElem? hl
            simp only [List.mem_cons, List.not_mem_nil, or_false] at this
            rcases this with rfl | rfl | rfl
            · exact Wn.of wj
            · exact Wn.of wk
            · exact wnb
          have wla := Wn.of wk
          have ll := wl.len
          refine ⟨_, rfl, _, rfl, _, _, la, l, rfl, fA19, fl, wla.bl, wl.bl, by omega, by omega, fun H20 s20 => ?_⟩
          refine ⟨tabs_same tab19 s20, fun H21 e21 tab21 => ?_⟩
          have tx21 := s20.tx.trans (ext_tx e21)
          have st21 := (st19.same s20).ext e21
          have fA21 := fA19.mono tx21
          have fl21 := fl.mono tx21
          have row21 := row19.mono tx21
          have rr21 := StepVs.mono tx21 rr19
          have h21 := tx21 _ _ h19
          cases hpa : parted la l with
          | none =>
            have heq : la = l := (parted_none wla.stp.2 wl.stp.2).mp hpa
            refine ⟨_, rfl, _, rfl, _, _, la, rfl, fA21, wn_parts wla, .inr ⟨l, fl21, wn_parts wl, fun _ H22 s22 => .inr ⟨rfl, fun pg hpg => ?_⟩, fun k hk => absurd (hpa.symm.trans hk) (by intro z; cases z)⟩⟩
            have s23 := s22.trans (same_new (o := .tup [.str "none", .bl true]) hpg)
            refine ⟨_, rfl, _, rfl, rfl, _, rfl, ifF rfl ⟨(by show 2 ≤ sizeLine; decide), fun p2 hp2 => ?_⟩⟩
            have s24 := s23.trans (same_new (o := .tup [.str "none", .bl true]) hp2)
            refine ⟨_, _, dNo, rfl, .tup (SqT.of (same_new hp2 _ _ upd_same)) (.cons (.str _) (.cons (.bl _) .nil)), .tup (SqT.of upd_same) (.cons (.str _) (.cons (.bl _) .nil)), good_no, _, rfl, ifF rfl ?_⟩
            refine ⟨_, rfl, rfl, _, rfl, _, rfl, _, _, (fA21.mono s24.tx).dp, (fl21.mono s24.tx).dp, shaped_step _, shaped_step _, rfl, _, rfl, ifF ?_ ?_⟩
            · rw [eqv_step, decide_eq_true heq]
              decide
            · exact ⟨_, rfl, rfl, _, rfl, ifF rfl (ifF rfl ⟨_, _, _, rfl, tabs_same tab21 s24, st21.same s24, s24 _ _ h21, row21.mono s24.tx, StepVs.mono s24.tx rr21⟩)⟩
          | some k =>
            have hne2 : la ≠ l := fun z => by
              have := (parted_none wla.stp.2 wl.stp.2).mpr z
              rw [this] at hpa
              cases hpa
            have hkl := parted_lt hpa
            refine ⟨_, rfl, _, rfl, _, _, la, rfl, fA21, wn_parts wla, .inr ⟨l, fl21, wn_parts wl, fun hk => absurd (hpa.symm.trans hk) (by intro z; cases z), fun k' hk' H22 s22 => ⟨(by show 2 ≤ sizeLine; decide), fun pg hpg => ?_⟩⟩⟩
            obtain rfl : k = k' := Option.some.inj (hpa.symm.trans hk')
            have s23 := s22.trans (same_new (o := .tup [.str "is", .int (k : Int)]) hpg)
            refine ⟨_, rfl, _, rfl, rfl, _, rfl, ifT rfl ⟨_, rfl, (by show 2 ≤ sizeLine; decide), fun p2 hp2 => ?_⟩⟩
            have s24 := s23.trans (same_new (o := .tup [.str "is", .int (k : Int)]) hp2)
            refine ⟨_, _, dIs k, rfl, .tup (SqT.of (same_new hp2 _ _ upd_same)) (.cons (.str _) (.cons (.int _) .nil)), .tup (SqT.of upd_same) (.cons (.str _) (.cons (.int _) .nil)), good_is k (by omega), _, rfl, ifF rfl ?_⟩
            refine ⟨_, rfl, rfl, _, rfl, _, rfl, _, _, (fA21.mono s24.tx).dp, (fl21.mono s24.tx).dp, shaped_step _, shaped_step _, rfl, _, rfl, ifF ?_ ?_⟩
            · rw [eqv_step, decide_eq_false hne2]
              rfl
            · obtain ⟨pn', ys', en, hpn', ry'⟩ := fA21.mono s24.tx
              obtain ⟨px, zs, rfl, hpx, rz⟩ := fl21.mono s24.tx
              cases en
              refine ⟨_, rfl, rfl, _, rfl, ifT rfl ?_⟩
              refine ⟨_, rfl, _, rfl, pn, _, rfl, .inr (SqT.of hpn'), _, rfl, px, _, rfl, .inr (SqT.of hpx), _, _, rfl, ?_⟩
              rw [max_int, ry'.length, rz.length]
              refine ⟨_, _, rfl, rfl, _, rfl, ?_⟩
              rw [decide_eq_false (by omega)]
              exact ifF rfl ⟨_, _, _, rfl, tabs_same tab21 s24, st21.same s24, s24 _ _ h21, row21.mono s24.tx, StepVs.mono s24.tx rr21⟩
        · obtain ⟨u9, u10, u11, rfl, tab19, st19, h19, row19, rr19⟩ := hP
          exact ⟨_, _, _, _, _, _, _, _, _, _, rfl, tab19, st19.mono (by omega), row19⟩
    · obtain ⟨u2, u3, u4, u5, u6, u7, u8, u9, u10, u11, rfl, tab2, st2, row2⟩ := hP
      exact k H2 tab2 (st2.mono (by omega))
end
end K63
set_option Elab.async false
set_option linter.all false
set_option maxRecDepth 100000
set_option maxHeartbeats 4000000
namespace K63
open PySem PySem.Spec PyProof.Rows L2
/-! ### f(k = v, ..), nothing by position, the names in the turned order -/
def gR : List Value → List Value → List Value
  | [], ws => ws.reverse
  | _ :: _, _ => []
def gRV : List V → List V → List V
  | [], zs => zs.reverse
  | _ :: _, _ => []
theorem pe_kw0 {X : Cx} {CX : CXT} {k i : Nat} {x : Str} {ps ks : List Str} {sp : Sp} {E : XK} {kws : List Keyword} {tk : TA} {p pos : Pos} (D : Dn X.prog X.w X.K X.mg X.base CX k x ps sp) (h : At X.K X.mg x i) (hps : ps ≠ [])
    (hb : ∀ (kV doc pm : Value) (an : Option Addr) (cdv ct : Value) (ws : List Value), ws.length = ps.length → bindArgs (PySem.W.fnOf x x (defArgs (top i)) (defBody (top i)) (defScope (top i)) .none kV doc pm an cdv ct) ⟨[], ks.zip ws⟩ = pure (ps.zip ws.reverse))
    (hr : Room k X.A) (hx : Passes CX X E) (hkw : PK X kws tk) (hg : Gl X x := by rfl) (hall : (backToKw pos (keywordEach kws X.env)).all (·.1.isSome) = true := by rfl) (hks : (backToKw pos (keywordEach kws X.env)).filterMap (·.1) = ks := by rfl)
    (hdb : (x == ("__debug__" : Str)) = false := by decide) (hpl : ((backTo pos (starEach [] X.env)).any (·.1) || (backToKw pos (keywordEach kws X.env)).any (·.1.isNone)) = false := by rfl) :
    PE X (.Call (.Name x p) [] kws pos) (fun σ H Q => tk σ H fun zs H2 => sp zs.reverse H2 Q E) := by
  obtain ⟨f, fd, F, hm, hk, _, o, lk, ho⟩ := D
  obtain ⟨f', fd', F', hm'⟩ := h
  obtain rfl : f = f' := by
    rw [hm] at hm'
    exact Value.ref.inj (Option.some.inj hm')
  obtain ⟨oc, od, dV, kV, doc, pm, an, cdv, ct, osl, e, lk', hcd, hD, hK⟩ := F'.ex
  rcases hD with ⟨_, rfl⟩ | ⟨e2, _⟩
  · obtain rfl : fd = fd' := by
      rw [lk'] at lk
      cases lk
      exact (Data.func.inj ho).symm
    subst e
    have kb : KBinds X.K (PySem.W.fnOf x x (defArgs (top i)) (defBody (top i)) (defScope (top i)) .none kV doc pm an cdv ct) ps ks gR gRV := by
      refine ⟨fun s us ws _ hl => ?_, fun {vs us zs ws} r rz => ?_⟩
      · cases us with
        | nil => exact BindsTo.of_looks fun M => .of_pure (hb kV doc pm an cdv ct ws (by simpa [gR] using hl))
        | cons u us =>
          have : ps.length = 0 := hl.symm
          exact absurd (List.length_eq_zero_iff.mp this) hps
      · cases r with
        | nil => exact prev rz
        | cons _ _ => exact .nil
    refine ⟨fun pins s σ H Q I h => ?_⟩
    refine wpAny_Call_Name_kw (ld_glob I hg hm ?_ hdb)
    refine PySem.W.callWith_KW0 (h₀ := X.base) I.ok.mod.kin hk hall (thn (hkw.run pos pins s σ H _ I h) fun ws s2 ⟨zs, H2, I2, rz, q2⟩ => ⟨I2.kIn, ?_⟩) hpl
    rw [hks]
    exact run_fnk (us := []) (vs := []) F hr kb hx I2 .nil rz q2
  · exact absurd rfl e2
/-! ### data of tuples -/
mutual
inductive Td (H : Hp) : V → PyData → Prop
  | non : Td H .non .none
  | bl (b : Bool) : Td H (.bl b) (.bool b)
  | int (i : Int) : Td H (.int i) (.int i)
  | str (x : Str) : Td H (.str x) (.str x)
  | tup {a : Addr} {xs : List V} {ds : List PyData} : H a = some (.tup xs) → TdAll H xs ds → Td H (.ref a) (.tuple ds)
inductive TdAll (H : Hp) : List V → List PyData → Prop
  | nil : TdAll H [] []
  | cons {v : V} {vs : List V} {d : PyData} {ds : List PyData} : Td H v d → TdAll H vs ds → TdAll H (v :: vs) (d :: ds)
end
mutual
theorem Td.mono {H H' : Hp} (e : TExt H H') : ∀ (d : PyData) (v : V), Td H v d → Td H' v d
  | .none, _, h => by
    cases h
    exact .non
  | .bool b, _, h => by
    cases h
    exact .bl b
  | .int i, _, h => by
    cases h
    exact .int i
  | .str x, _, h => by
    cases h
    exact .str x
  | .list ds, _, h => by cases h
  | .tuple ds, _, h => by
    cases h with
    | tup h1 h2 => exact .tup (e _ _ h1) (TdAll.mono e ds _ h2)
  | .dict _, _, h => by cases h
theorem TdAll.mono {H H' : Hp} (e : TExt H H') : ∀ (ds : List PyData) (vs : List V), TdAll H vs ds → TdAll H' vs ds
  | [], _, h => by
    cases h
    exact .nil
  | d :: ds, _, h => by
    cases h with
    | cons h1 h2 => exact .cons (Td.mono e d _ h1) (TdAll.mono e ds _ h2)
end
mutual
theorem Td.dp {K : PySem.W.Frag} {H : Hp} : ∀ (d : PyData) (v : V), Td H v d → Dp K H v d
  | .none, _, h => by
    cases h
    exact .non
  | .bool b, _, h => by
    cases h
    exact .bl b
  | .int i, _, h => by
    cases h
    exact .int i
  | .str x, _, h => by
    cases h
    exact .str x
  | .list ds, _, h => by cases h
  | .tuple ds, _, h => by
    cases h with
    | tup h1 h2 => exact .tup (.of h1) (TdAll.dp ds _ h2)
  | .dict _, _, h => by cases h
theorem TdAll.dp {K : PySem.W.Frag} {H : Hp} : ∀ (ds : List PyData) (vs : List V), TdAll H vs ds → DpAll K H vs ds
  | [], _, h => by
    cases h
    exact .nil
  | d :: ds, _, h => by
    cases h with
    | cons h1 h2 => exact .cons (Td.dp d _ h1) (TdAll.dp ds _ h2)
end
theorem TdAll.app {H : Hp} : ∀ {vs : List V} {ds : List PyData} {us : List V} {es : List PyData}, TdAll H vs ds → TdAll H us es → TdAll H (vs ++ us) (ds ++ es)
  | [], [], _, _, _, k => k
  | _ :: _, _ :: _, _, _, .cons h t, k => .cons h (TdAll.app t k)
theorem TdAll.len {H : Hp} : ∀ {vs : List V} {ds : List PyData}, TdAll H vs ds → vs.length = ds.length
  | [], [], _ => rfl
  | _ :: vs, _ :: ds, .cons _ t => by rw [List.length_cons, List.length_cons, TdAll.len t]
def tDat (d : PyData) : TE := fun σ H Q => ∀ H' v, Same H H' → Td H' v d → Q v H'
def tDats (ds : List PyData) : TA := fun σ H Q => ∀ H' vs, Same H H' → TdAll H' vs ds → Q vs H'
def tLetLit (ks : List Nat) : TE := fun σ H Q => ∀ H' v, Same H H' → LetV H' v ks → Q v H'
def tIntsLit (ks : List Nat) : TA := fun _ H Q => Q (ks.map natV) H
def natD (k : Nat) : PyData := .int (k : Int)
def dInts (ks : List Nat) : List PyData := ks.map natD
theorem td_ints {H : Hp} : ∀ ks : List Nat, TdAll H (ks.map natV) (dInts ks)
  | [] => .nil
  | k :: ks => .cons (.int (k : Int)) (td_ints ks)
theorem LetV.td {H : Hp} {v : V} {ks : List Nat} (h : LetV H v ks) : Td H v (.tuple (dInts ks)) := by
  obtain ⟨p, rfl, h⟩ := h
  exact .tup h (td_ints ks)
section
variable {X : Cx} {e : Expr} {es : List Expr}
theorem pd_flat {v : V} {d : PyData} (h : PE X e (tC v)) (t : ∀ H, Td H v d) : PE X e (tDat d) := pe_of h fun σ H Q k => k H v (Same.refl H) (t H)
theorem pd_int {i : Int} (h : PE X e (tC (.int i))) : PE X e (tDat (.int i)) := pd_flat h fun _ => .int i
theorem pd_str {x : Str} (h : PE X e (tC (.str x))) : PE X e (tDat (.str x)) := pd_flat h fun _ => .str x
theorem pd_bl {b : Bool} (h : PE X e (tC (.bl b))) : PE X e (tDat (.bool b)) := pd_flat h fun _ => .bl b
theorem pd_non (h : PE X e (tC .non)) : PE X e (tDat .none) := pd_flat h fun _ => .non
theorem pds0 (h : PA X es tNil) : PA X es (tDats []) := pa_of h fun σ H Q k => k H [] (Same.refl H) .nil
theorem pds {d : PyData} {ds : List PyData} (h : PA X es (tCons (tDat d) (tDats ds))) : PA X es (tDats (d :: ds)) :=
  pa_of h fun σ H Q k H1 v s1 n1 H2 vs s2 n2 => k H2 (v :: vs) (s1.trans s2) (.cons (n1.mono s2.tx d v) n2)
theorem pd_tup {ds : List PyData} (h : PE X e (tTup (tDats ds))) (hl : ds.length ≤ 100) : PE X e (tDat (.tuple ds)) :=
  pe_of h fun σ H Q k H1 vs s1 n1 => ⟨Nat.le_trans (by rw [n1.len]; omega : vs.length ≤ 5000) (Nat.le_of_lt sl5000), fun p hp => k _ _ (s1.trans (same_new hp)) (.tup upd_same (n1.mono (tx_new hp) ds vs))⟩
theorem pa_int0 (h : PA X es tNil) : PA X es (tIntsLit []) := h
theorem pa_int {k : Nat} {ks : List Nat} (h : PA X es (tCons (tC (.int (k : Int))) (tIntsLit ks))) : PA X es (tIntsLit (k :: ks)) := h
theorem pe_let {ks : List Nat} (h : PE X e (tTup (tIntsLit ks))) (hl : ks.length ≤ 100) : PE X e (tLetLit ks) :=
  pe_of h fun σ H Q k => ⟨Nat.le_trans (by rw [List.length_map]; omega : _ ≤ 5000) (Nat.le_of_lt sl5000), fun p hp => k _ _ (same_new hp) ⟨p, rfl, upd_same⟩⟩
theorem pe_letR {a n : Nat} (h : PE X e (tOp (rRepT X.K) (tTup (tIntsLit [a])) (tC (.int (n : Int))))) (h2 : 2 ≤ n) (h9 : n ≤ 100) : PE X e (tLetLit (List.replicate n a)) :=
  pe_of h fun σ H Q k => ⟨(by show 1 ≤ sizeLine; decide), fun t ht => ⟨t, (n : Int), _, rfl, rfl, SqT.of upd_same, (by simp), by omega, by omega, (by show 1 ≤ 1000; decide), fun p hp => k _ _ ((same_new ht).trans (same_new hp)) ⟨p, rfl, by
    rw [upd_same, Int.toNat_natCast]
    show some (HO.tup (List.replicate n [natV a]).flatten) = _
    rw [rep_one, List.map_replicate]⟩⟩⟩
end
end K63
set_option Elab.async false
set_option linter.all false
set_option maxRecDepth 100000
set_option maxHeartbeats 4000000
namespace K63
open PySem PySem.Spec PyProof.Rows L2
theorem wordK_of (ks : List Nat) : wordOf rows3 ks = wordK ks := rfl
def handOk (ks : List Nat) : Bool := wordB ks 3 && decide (degL (wordK ks) ≤ 256)
def handLong (ks : List Nat) : Bool := wordB ks 3 && decide (256 < degL (wordK ks))
theorem rows3_gd : ∀ g ∈ rows3, Gd g := fun g hg => (rows3_on g hg).gd
theorem hand_chain {ks : List Nat} (h : handOk ks = true) : ChainOk (wordK ks) ∧ degL (wordK ks) ≤ 256 ∧ wordB ks 3 = true ∧ ks.length ≤ 1000 := by
  unfold handOk at h
  obtain ⟨h1, h2⟩ := Bool.and_eq_true_iff.mp h
  have h2 := of_decide_eq_true h2
  have hw := h1
  unfold wordB at h1
  simp only [Bool.and_eq_true, decide_eq_true_eq, List.all_eq_true] at h1
  have hm : ∀ g ∈ wordK ks, g ∈ rows3 := word_mem (ws := rows3) h1.2
  refine ⟨chain1 ?_ ?_ (fun g hg => rows3_on g (hm g hg)) h2, h2, hw, by omega⟩
  · refine ne_len ?_
    unfold wordK
    rw [List.length_map]
    omega
  · unfold wordK
    rw [List.length_map]
    omega
theorem alike_val {B : Str → Addr} {x y z : V} {H : Hp} {Q : VK} {E : XK} {ks js : List Nat} {b : Bool} (hx : RowV H x rows3) (hy : LetV H y ks) (hz : LetV H z js) (hk : handOk ks = true) (hj : handOk js = true) (hb : decide (wholeL (wordK ks) = wholeL (wordK js)) = b) (k : ∀ H', Same H H' → Q (.bl b) H') : spAlike B [x, y, z] H Q E := by
  obtain ⟨c1, d1, b1, l1⟩ := hand_chain hk
  obtain ⟨c2, d2, b2, l2⟩ := hand_chain hj
  refine ⟨x, y, z, rfl, .inr ⟨rows3, ks, js, hx, by simp [rows3], by decide, rows3_gd, hy, hz, l1, l2, fun q => absurd (b1.symm.trans q) (by decide), fun _ q => absurd (b2.symm.trans q) (by decide), fun _ _ => ⟨fun q => absurd q (by rw [wordK_of]; omega), fun _ q => absurd q (by rw [wordK_of]; omega), fun _ _ => ⟨c1, c2, fun H' s => ?_⟩⟩⟩⟩
  rw [wordK_of, wordK_of, hb]
  exact k H' s
theorem part_val {B : Str → Addr} {x y : V} {H : Hp} {Q : VK} {E : XK} {a b : List Rat} {n : Nat} (hx : StepV H x a) (hy : StepV H y b) (ha : Gd a) (hb : Gd b) (hp : parted a b = some n) (k : ∀ H', Same H H' → Q (.int (n : Int)) H') : spPart B [x, y] H Q E := by
  refine ⟨x, y, a, rfl, hx, ⟨ha.ok, ha.bl⟩, .inr ⟨b, hy, ⟨hb.ok, hb.bl⟩, fun q => absurd (hp.symm.trans q) (by intro z; cases z), fun m hm H' s => ?_⟩⟩
  cases hp.symm.trans hm
  exact k H' s
/-! ### what is heard there -/
def dPar (ks : List Nat) : PyData := .tuple [.str "parameter", .tuple (dInts ks), .bool true]
def dGreat : PyData := .tuple [.str "great", .int 256, .bool true]
def dRow : PyData := .tuple [.str "row", .tuple [], .bool true]
def dStp : PyData := .tuple [.str "step", .none, .bool true]
inductive HearD (ks js : List Nat) : PyData → Prop
  | one (h : wordB ks 3 = false) : HearD ks js (dPar ks)
  | other (h : wordB ks 3 = true) (h' : wordB js 3 = false) : HearD ks js (dPar js)
  | great (h : handLong ks = true) (h' : wordB js 3 = true) : HearD ks js dGreat
  | greats (h : handOk ks = true) (h' : handLong js = true) : HearD ks js dGreat
section
variable {B : Str → Addr} {Tb : List (Addr × Str)} {H : Hp} {Q : VK} {σ : L2.St}
theorem td_err {H' : Hp} {p : Addr} {tag : Str} {v : V} {d : PyData} (hp : H' p = none) (h : Td H' v d) : Td (upd H' p (.tup [.str tag, v, .bl true])) (.ref p) (.tuple [.str tag, d, .bool true]) :=
  .tup upd_same (.cons (.str _) (.cons (h.mono (tx_new hp) d v) (.cons (.bl _) .nil)))
theorem hear_alike {vr : V} {ks js : List Nat} {d : PyData} (hσ : σ[3]? = some (some vr)) (row : RowV H vr rows3) (tab : LamX.Tabs Tb H) (hd : HearD ks js d) (lk : ks.length ≤ 1000) (lj : js.length ≤ 1000)
    (k : ∀ H' v, LamX.ExtN H H' → LamX.Tabs Tb H' → Td H' v d → Q v H') :
    LamX.tLam Tb (TTh B) (fun E => tCall (spAlike B) [] E (tCons (tVar 3) (tCons (tLetLit ks) (tCons (tLetLit js) tNil)))) σ H Q := by
  refine ⟨tab, fun H1 e1 tab1 => ⟨vr, hσ, fun H2 y s2 hy H3 z s3 hz => ?_⟩⟩
  have s13 := s2.trans s3
  have row3 := (row.mono (ext_tx e1)).mono s13.tx
  have hy3 := hy.mono s3.tx
  have tab3 := tabs_same tab1 s13
  have fin : ∀ (x tag f : Str) (T : V → Hp → Prop) (u : PyData), (x, tag, f) ∈ tags → (∀ v H', Same H3 H' → T v H' → Td H' v u) → d = .tuple [.str tag, u, .bool true] → ErrV B x f H3 (Heard B Q) T := fun x tag f T u ht hT hdd H' dd v s4 t hx => by
    refine .inl ⟨(x, tag, f), ht, dd, v, rfl, rfl, hx, fun p hp => ?_⟩
    have s5 := (s13.trans s4).trans (same_new (o := .tup [.str tag, v, .bl true]) hp)
    refine k _ _ (e1.trans (LamX.ExtN.of s5)) (tabs_same tab1 s5) ?_
    rw [hdd]
    exact td_err hp (hT v H' s4 t)
  refine ⟨vr, y, z, rfl, .inr ⟨rows3, ks, js, row3, by simp [rows3], by decide, rows3_gd, hy3, hz, lk, lj, fun q => ?_, fun q1 q2 => ?_, fun q1 q2 => ⟨fun q => ?_, fun q3 q => ?_, fun q3 q4 => ?_⟩⟩⟩
  · cases hd with
    | one h => exact fin "BadParameter" "parameter" "value" _ _ (by simp [tags]) (fun v H' s t => t ▸ (hy3.mono s.tx).td) rfl
    | other h h' => exact absurd (q.symm.trans h) (by decide)
    | great h h' =>
      unfold handLong at h
      exact absurd (q.symm.trans (Bool.and_eq_true_iff.mp h).1) (by decide)
    | greats h h' => exact absurd (q.symm.trans (hand_chain h).2.2.1) (by decide)
  · cases hd with
    | one h => exact absurd (q1.symm.trans h) (by decide)
    | other h h' => exact fin "BadParameter" "parameter" "value" _ _ (by simp [tags]) (fun v H' s t => t ▸ (hz.mono s.tx).td) rfl
    | great h h' => exact absurd (q2.symm.trans h') (by decide)
    | greats h h' =>
      unfold handLong at h'
      exact absurd (q2.symm.trans (Bool.and_eq_true_iff.mp h').1) (by decide)
  · cases hd with
    | one h => exact absurd (q1.symm.trans h) (by decide)
    | other h h' => exact absurd (q2.symm.trans h') (by decide)
    | great h h' => exact fin "TooGreat" "great" "most" _ _ (by simp [tags]) (fun v H' s t => t ▸ .int 256) rfl
    | greats h h' => exact fin "TooGreat" "great" "most" _ _ (by simp [tags]) (fun v H' s t => t ▸ .int 256) rfl
  · cases hd with
    | one h => exact absurd (q1.symm.trans h) (by decide)
    | other h h' => exact absurd (q2.symm.trans h') (by decide)
    | great h h' => exact fin "TooGreat" "great" "most" _ _ (by simp [tags]) (fun v H' s t => t ▸ .int 256) rfl
    | greats h h' => exact fin "TooGreat" "great" "most" _ _ (by simp [tags]) (fun v H' s t => t ▸ .int 256) rfl
  · cases hd with
    | one h => exact absurd (q1.symm.trans h) (by decide)
    | other h h' => exact absurd (q2.symm.trans h') (by decide)
    | great h h' =>
      unfold handLong at h
      have := of_decide_eq_true (Bool.and_eq_true_iff.mp h).2
      rw [wordK_of] at q3
      omega
    | greats h h' =>
      unfold handLong at h'
      have := of_decide_eq_true (Bool.and_eq_true_iff.mp h').2
      rw [wordK_of] at q4
      omega
/-- words_alike((), None, None) -/
theorem hear_row (tab : LamX.Tabs Tb H) (k : ∀ H' v, LamX.ExtN H H' → LamX.Tabs Tb H' → Td H' v dRow → Q v H') :
    LamX.tLam Tb (TTh B) (fun E => tCall (spAlike B) [] E (tCons (tTup tNil) (tCons (tC .non) (tCons (tC .non) tNil)))) σ H Q := by
  refine ⟨tab, fun H1 e1 tab1 => ⟨(by show 0 ≤ sizeLine; decide), fun p hp => ⟨_, _, _, rfl, .inl ⟨⟨p, [], rfl, upd_same, .nil⟩, fun H' dd v s4 t hx => ?_⟩⟩⟩⟩
  refine .inl ⟨("BadRow", "row", "place"), by simp [tags], dd, v, rfl, rfl, hx, fun q hq => ?_⟩
  have s5 := ((same_new hp).trans s4).trans (same_new (o := .tup [.str "row", v, .bl true]) hq)
  refine k _ _ (e1.trans (LamX.ExtN.of s5)) (tabs_same tab1 s5) ?_
  obtain ⟨u, rfl, hu⟩ := t
  exact td_err hq (.tup hu .nil)
/-- parting_number(two, None) -/
theorem hear_step {v0 : V} (hσ : σ[0]? = some (some v0)) (st : StepV H v0 [0, 0, 1]) (tab : LamX.Tabs Tb H) (k : ∀ H' v, LamX.ExtN H H' → LamX.Tabs Tb H' → Td H' v dStp → Q v H') :
    LamX.tLam Tb (TTh B) (fun E => tCall (spPart B) [] E (tCons (tVar 0) (tCons (tC .non) tNil))) σ H Q := by
  refine ⟨tab, fun H1 e1 tab1 => ⟨v0, hσ, _, _, [0, 0, 1], rfl, st.mono (ext_tx e1), ⟨gd_two.ok, gd_two.bl⟩, .inl ⟨rfl, fun H' dd v s4 t hx => ?_⟩⟩⟩
  refine .inl ⟨("BadStep", "step", "value"), by simp [tags], dd, v, rfl, rfl, hx, fun q hq => ?_⟩
  have s5 := s4.trans (same_new (o := .tup [.str "step", v, .bl true]) hq)
  refine k _ _ (e1.trans (LamX.ExtN.of s5)) (tabs_same tab1 s5) ?_
  rw [t]
  exact td_err hq .non
/-- parting_number(two, two) -/
theorem hear_none {v0 : V} (hσ : σ[0]? = some (some v0)) (st : StepV H v0 [0, 0, 1]) (tab : LamX.Tabs Tb H) (k : ∀ H' v, LamX.ExtN H H' → LamX.Tabs Tb H' → Td H' v dNo → Q v H') :
    LamX.tLam Tb (TTh B) (fun E => tCall (spPart B) [] E (tCons (tVar 0) (tCons (tVar 0) tNil))) σ H Q := by
  have st1 := fun H1 (e1 : LamX.ExtN H H1) => st.mono (ext_tx e1)
  refine ⟨tab, fun H1 e1 tab1 => ⟨v0, hσ, v0, hσ, _, _, [0, 0, 1], rfl, st1 H1 e1, ⟨gd_two.ok, gd_two.bl⟩, .inr ⟨[0, 0, 1], st1 H1 e1, ⟨gd_two.ok, gd_two.bl⟩, fun _ H' s4 => .inr ⟨rfl, fun q hq => ?_⟩, fun m hm => absurd (part4.symm.trans hm) (by intro z; cases z)⟩⟩⟩
  have s5 := s4.trans (same_new (o := .tup [.str "none", .bl true]) hq)
  exact k _ _ (e1.trans (LamX.ExtN.of s5)) (tabs_same tab1 s5) (.tup upd_same (.cons (.str _) (.cons (.bl _) .nil)))
end
end K63
set_option Elab.async false
set_option linter.all false
set_option maxRecDepth 100000
set_option maxHeartbeats 4000000
namespace K63
open PySem PySem.Spec PyProof.Rows L2
theorem pe_four {X : Cx} {e : Expr} (h : PE X e (tOp rCatG (tOp (rRepT X.K) (tTup (tCons (tNumLit 0) tNil)) (tC (.int 4))) (tStepLit [1]))) : PE X e (tStepLit [0, 0, 0, 0, 1]) :=
  pe_of h fun σ H Q k H1 v s1 n1 => ⟨(by show 1 ≤ sizeLine; decide), fun t ht => ⟨t, 4, _, rfl, rfl, SqT.of upd_same, (by simp), (by decide), (by decide), (by show 1 ≤ 1000; decide), fun q hq H2 u s2 f2 => by
    obtain ⟨p, vs, rfl, hp, r⟩ := f2
    have s3 := (same_new (o := .tup [v]) ht).trans ((same_new (o := .tup (List.replicate (4 : Int).toNat [v]).flatten) hq).trans s2)
    refine ⟨q, p, _, _, rfl, rfl, s2 _ _ upd_same, hp, by rw [r.length]; show 4 + 1 ≤ 5000; decide, fun H3 q3 s4 h3 => k H3 _ (s1.trans (s3.trans s4)) ⟨q3, _, rfl, h3, ?_⟩⟩
    have n3 := n1.mono (s3.trans s4).tx
    exact .cons n3 (.cons n3 (.cons n3 (.cons n3 (NumVs.mono s4.tx r))))⟩⟩
theorem tabs_lst {Tb : List (Addr × Str)} {H : Hp} (t : LamX.Tabs Tb H) {g : Addr} {xs : List V} {o : HO} (hg : H g = some (.lst xs)) : LamX.Tabs Tb (upd H g o) := fun p hp => by
  obtain ⟨ps, h1, h2, h3⟩ := t p hp
  refine ⟨ps, by rw [upd_ne (ne_of h1 hg (by intro z; cases z))]; exact h1, h2, fun pos cv hc => ?_⟩
  obtain ⟨c', e, hc'⟩ := h3 pos cv hc
  exact ⟨c', e, by rw [upd_ne (ne_of hc' hg (by intro z; cases z))]; exact hc'⟩
/-- what stands while the law goes by hand -/
structure Bh (Tb : List (Addr × Str)) (v0 v1 v2 vr : V) (H : Hp) : Prop where
  row : RowV H vr rows3
  two : StepV H v0 [0, 0, 1]
  back : StepV H v1 [0, -1]
  four : StepV H v2 [0, 0, 0, 0, 1]
  tab : LamX.Tabs Tb H
theorem Bh.same {Tb : List (Addr × Str)} {v0 v1 v2 vr : V} {H H' : Hp} (b : Bh Tb v0 v1 v2 vr H) (s : Same H H') : Bh Tb v0 v1 v2 vr H' := ⟨b.row.mono s.tx, b.two.mono s.tx, b.back.mono s.tx, b.four.mono s.tx, tabs_same b.tab s⟩
theorem Bh.ext {Tb : List (Addr × Str)} {v0 v1 v2 vr : V} {H H' : Hp} (b : Bh Tb v0 v1 v2 vr H) (e : LamX.ExtN H H') (t : LamX.Tabs Tb H') : Bh Tb v0 v1 v2 vr H' := ⟨b.row.mono (ext_tx e), b.two.mono (ext_tx e), b.back.mono (ext_tx e), b.four.mono (ext_tx e), t⟩
theorem Bh.lst {Tb : List (Addr × Str)} {v0 v1 v2 vr : V} {H : Hp} (b : Bh Tb v0 v1 v2 vr H) {g : Addr} {xs : List V} {o : HO} (hg : H g = some (.lst xs)) : Bh Tb v0 v1 v2 vr (upd H g o) := ⟨b.row.mono (tx_lst hg), b.two.mono (tx_lst hg), b.back.mono (tx_lst hg), b.four.mono (tx_lst hg), tabs_lst b.tab hg⟩
theorem ext_lst {H H' : Hp} (e : LamX.ExtN H H') {g : Addr} {xs : List V} (h : H g = some (.lst xs)) : H' g = some (.lst xs) := e _ _ h (by intro _ z; cases z)
/-! ### the calls by hand, each by its answer -/
def tAl (b : Bool) : TE := fun σ H Q => ∃ vr, σ[3]? = some (some vr) ∧ RowV H vr rows3 ∧ ∀ H', Same H H' → Q (.bl b) H'
def tPt (i : Nat) (l : List Rat) (n : Nat) : TE := fun σ H Q => ∃ v, σ[i]? = some (some v) ∧ StepV H v l ∧ ∀ H', Same H H' → Q (.int (n : Int)) H'
def tHd (Tb : List (Addr × Str)) (d : PyData) : TE := fun σ H Q => ∃ v0 vr, σ[0]? = some (some v0) ∧ σ[3]? = some (some vr) ∧ StepV H v0 [0, 0, 1] ∧ RowV H vr rows3 ∧ LamX.Tabs Tb H ∧ ∀ H' v, LamX.ExtN H H' → LamX.Tabs Tb H' → Td H' v d → Q v H'
section
variable {X : Cx} {e : Expr} {B : Str → Addr} {Tb : List (Addr × Str)} {ks js : List Nat} {b : Bool}
theorem pe_al (h : PE X e (tCall (spAlike B) [] E0 (tCons (tVar 3) (tCons (tLetLit ks) (tCons (tLetLit js) tNil))))) (hk : handOk ks = true) (hj : handOk js = true) (hb : decide (wholeL (wordK ks) = wholeL (wordK js)) = b) : PE X e (tAl b) :=
  pe_of h fun σ H Q ⟨vr, hσ, row, k⟩ => ⟨vr, hσ, fun H1 o1 s1 l1 H2 o2 s2 l2 => alike_val (row.mono (s1.trans s2).tx) (l1.mono s2.tx) l2 hk hj hb fun H3 s3 => k H3 ((s1.trans s2).trans s3)⟩
theorem pe_alK (h : PE X e (fun σ H Q => tCons (tLetLit js) (tCons (tLetLit ks) (tCons (tVar 3) tNil)) σ H fun zs H2 => spAlike B zs.reverse H2 Q E0)) (hk : handOk ks = true) (hj : handOk js = true) (hb : decide (wholeL (wordK ks) = wholeL (wordK js)) = b) : PE X e (tAl b) :=
  pe_of h fun σ H Q ⟨vr, hσ, row, k⟩ H1 o1 s1 l1 H2 o2 s2 l2 => ⟨vr, hσ, alike_val (row.mono (s1.trans s2).tx) l2 (l1.mono s2.tx) hk hj hb fun H3 s3 => k H3 ((s1.trans s2).trans s3)⟩
theorem pe_pt1 (h : PE X e (tCall (spPart B) [] E0 (tCons (tVar 0) (tCons (tStepLit [0, 1]) tNil)))) : PE X e (tPt 0 [0, 0, 1] 2) :=
  pe_of h fun σ H Q ⟨v, hσ, st, k⟩ => ⟨v, hσ, fun H1 o1 s1 l1 => part_val (st.mono s1.tx) l1 gd_two gd_line part2 fun H3 s3 => k H3 (s1.trans s3)⟩
theorem pe_pt2 (h : PE X e (tCall (spPart B) [] E0 (tCons (tVar 1) (tCons (tStepLit [1, 1]) tNil)))) : PE X e (tPt 1 [0, -1] 0) :=
  pe_of h fun σ H Q ⟨v, hσ, st, k⟩ => ⟨v, hσ, fun H1 o1 s1 l1 => part_val (st.mono s1.tx) l1 gd_minus gd_c part3 fun H3 s3 => k H3 (s1.trans s3)⟩
def tPtK : TE := fun σ H Q => ∃ v u, σ[0]? = some (some v) ∧ σ[2]? = some (some u) ∧ StepV H v [0, 0, 1] ∧ StepV H u [0, 0, 0, 0, 1] ∧ ∀ H', Same H H' → Q (.int ((2 : Nat) : Int)) H'
theorem pe_ptK (h : PE X e (fun σ H Q => tCons (tVar 2) (tCons (tVar 0) tNil) σ H fun zs H2 => spPart B zs.reverse H2 Q E0)) : PE X e tPtK :=
  pe_of h fun σ H Q ⟨v, u, hσ, hu, st, su, k⟩ => ⟨u, hu, v, hσ, part_val st su gd_two gd_four part1 k⟩
theorem pe_hear {d : PyData} (h : PE X e (LamX.tLam Tb (TTh B) (fun E => tCall (spAlike B) [] E (tCons (tVar 3) (tCons (tLetLit ks) (tCons (tLetLit js) tNil)))))) (hd : HearD ks js d) (lk : ks.length ≤ 1000) (lj : js.length ≤ 1000) : PE X e (tHd Tb d) :=
  pe_of h fun σ H Q ⟨v0, vr, h0, h3, st, row, tab, k⟩ => hear_alike h3 row tab hd lk lj k
theorem pe_hearR (h : PE X e (LamX.tLam Tb (TTh B) (fun E => tCall (spAlike B) [] E (tCons (tTup tNil) (tCons (tC .non) (tCons (tC .non) tNil)))))) : PE X e (tHd Tb dRow) :=
  pe_of h fun σ H Q ⟨v0, vr, h0, h3, st, row, tab, k⟩ => hear_row tab k
theorem pe_hearS (h : PE X e (LamX.tLam Tb (TTh B) (fun E => tCall (spPart B) [] E (tCons (tVar 0) (tCons (tC .non) tNil))))) : PE X e (tHd Tb dStp) :=
  pe_of h fun σ H Q ⟨v0, vr, h0, h3, st, row, tab, k⟩ => hear_step h0 st tab k
theorem pe_hearN (h : PE X e (LamX.tLam Tb (TTh B) (fun E => tCall (spPart B) [] E (tCons (tVar 0) (tCons (tVar 0) tNil))))) : PE X e (tHd Tb dNo) :=
  pe_of h fun σ H Q ⟨v0, vr, h0, h3, st, row, tab, k⟩ => hear_none h0 st tab k
end
theorem td_one {H : Hp} {vs : List V} {d : PyData} (h : TdAll H vs [d]) : ∃ v, vs = [v] ∧ Td H v d := by
  cases h with
  | cons a b =>
    cases b
    exact ⟨_, rfl, a⟩
theorem td_three {H : Hp} {vs : List V} {a b c : PyData} (h : TdAll H vs [a, b, c]) : ∃ u v w, vs = [u, v, w] ∧ Td H u a ∧ Td H v b ∧ Td H w c := by
  cases h with
  | cons h1 t =>
    cases t with
    | cons h2 t =>
      cases t with
      | cons h3 t =>
        cases t
        exact ⟨_, _, _, rfl, h1, h2, h3⟩
def spHand (Tb : List (Addr × Str)) : Sp := fun vs H Q _ => vs = [] ∧ LamX.Tabs Tb H ∧ ∀ H', Q (.bl true) H'
section
variable {P : Program} {w : World} {K : PySem.W.Frag} {mg : Str → Option Value} {base : Heap} {B : Str → Addr} {S cH PR PH : Addr}
theorem sc_hand : FnScope ["_law_two", "_law_back", "_law_four", "_law_rows_so", "_law_got", "_law_due"] [] (defScope (top 61)) := ⟨rfl, rfl, rfl, by decide +kernel, rfl, by decide +kernel, by decide +kernel⟩
theorem ok_hand (T : Txt K mg) (Er : Errs P w K mg B) (Ht : HeardT K mg B S) (TB : LamX.TabB base mg cH PH) (hne : PR ≠ PH) (hAt : AtC K mg "_law_by_hand" 61 cH) : DnG P w K mg base CX0 10 "_law_by_hand" [] (spHand [(PR, qR), (PH, qH)]) := by
  generalize hTb : [(PR, qR), (PH, qH)] = Tb
  refine DnG.mkC hAt sc_hand (fun vs H Q E h => ?_) (fun _ _ _ _ _ _ us hl => match us, hl with | [], _ => rfl) (fun f A outer s H vs Q E hr hG h => ?_)
  · obtain ⟨rfl, _⟩ := h
    rfl
  · obtain ⟨rfl, tabs, k⟩ := h
    have nd := sc_hand.nd
    have hmT : (PH, qH) ∈ Tb := by
      rw [← hTb]
      simp
    have hmU : ∀ p ∈ Tb, p.1 = PH → p.2 = qH := by
      rw [← hTb]
      intro p hp he
      simp only [List.mem_cons, List.not_mem_nil, or_false] at hp
      rcases hp with rfl | rfl
      · exact absurd he hne
      · rfl
    refine ⟨_, PSs.nox (pss_cons (ps_asg (pe_tup (pa_cons (pe_stepL (pe_tup (pa_nums (pa_cons (pe_num (pe_tup (pa_cons pe_int (pa_cons pe_int pa_nil))) (0) (by decide +kernel) (by decide +kernel)) (pa_nums (pa_cons (pe_num (pe_tup (pa_cons pe_int (pa_cons pe_int pa_nil))) (0) (by decide +kernel) (by decide +kernel)) (pa_nums (pa_cons (pe_num (pe_tup (pa_cons pe_int (pa_cons pe_int pa_nil))) (1) (by decide +kernel) (by decide +kernel)) (pa_nums0 pa_nil)))))))) (by decide)) (pa_cons (pe_stepL (pe_tup (pa_nums (pa_cons (pe_num (pe_tup (pa_cons pe_int (pa_cons pe_int pa_nil))) (0) (by decide +kernel) (by decide +kernel)) (pa_nums (pa_cons (pe_numN (pe_tup (pa_cons (pe_un un_neg pe_int) (pa_cons pe_int pa_nil))) (-1) (by decide +kernel) (by decide +kernel)) (pa_nums0 pa_nil)))))) (by decide)) (pa_cons (pe_four (pe_op op_catG (pe_op op_repT (pe_tup (pa_cons (pe_num (pe_tup (pa_cons pe_int (pa_cons pe_int pa_nil))) (0) (by decide +kernel) (by decide +kernel)) pa_nil)) pe_int) (pe_stepL (pe_tup (pa_nums (pa_cons (pe_num (pe_tup (pa_cons pe_int (pa_cons pe_int pa_nil))) (1) (by decide +kernel) (by decide +kernel)) (pa_nums0 pa_nil)))) (by decide)))) pa_nil)))) (pg_tup rfl (pgs_cons (pg_name (i := 0) nd rfl (Or.inr rfl)) (pgs_cons (pg_name (i := 1) nd rfl (Or.inl rfl)) (pgs_cons (pg_name (i := 2) nd rfl (Or.inl rfl)) pgs_nil)))))
      (pss_cons (ps_set (i := 3) nd rfl (Or.inr rfl) (pe_tup (pa_cons (pv 0) (pa_cons (pv 1) (pa_cons (pv 2) pa_nil)))))
      (pss_cons (ps_set (i := 4) nd rfl (Or.inl rfl) (pe_lst (pa_cons (pe_alK (pe_kw0 (ks := ["other", "one", "steps"]) ((ok_alike T Er).up (by decide)) (show At K mg "words_alike" 34 from T.d 17) (by simp) (fun _ _ _ _ _ _ ws hl => match ws, hl with | [_, _, _], _ => rfl) hr passes_none (pk_cons (pe_let (pe_tup (pa_int (k := 1) (pa_cons pe_int (pa_int (k := 0) (pa_cons pe_int (pa_int0 pa_nil)))))) (by decide)) (pk_cons (pe_let (pe_tup (pa_int (k := 0) (pa_cons pe_int (pa_int0 pa_nil)))) (by decide)) (pk_cons (pv 3) pk_nil)))) (by decide +kernel) (by decide +kernel) hand1) (pa_cons (pe_al (pe_dn ((ok_alike T Er).up (by decide)) hr passes_none (pa_cons (pv 3) (pa_cons (pe_let (pe_tup (pa_int (k := 0) (pa_cons pe_int (pa_int0 pa_nil)))) (by decide)) (pa_cons (pe_let (pe_tup (pa_int (k := 0) (pa_cons pe_int (pa_int (k := 1) (pa_cons pe_int (pa_int0 pa_nil)))))) (by decide)) pa_nil)))) (by decide +kernel) (by decide +kernel) hand2) pa_nil))))
      (pss_cons (ps_expr (pe_bm PySem.F.plainAttrs_list PySem.F.slot_list_append PySem.F.type_list_append mt_append (pv 4) (pa_cons (pe_al (pe_dn ((ok_alike T Er).up (by decide)) hr passes_none (pa_cons (pv 3) (pa_cons (pe_let (pe_tup (pa_int (k := 2) (pa_cons pe_int (pa_int0 pa_nil)))) (by decide)) (pa_cons (pe_let (pe_tup (pa_int (k := 0) (pa_cons pe_int (pa_int (k := 0) (pa_cons pe_int (pa_int0 pa_nil)))))) (by decide)) pa_nil)))) (by decide +kernel) (by decide +kernel) hand3) pa_nil)))
      (pss_cons (ps_set (i := 4) nd rfl (Or.inl rfl) (pe_op op_cat (pv 4) (pe_lst (pa_cons (pe_al (pe_dn ((ok_alike T Er).up (by decide)) hr passes_none (pa_cons (pv 3) (pa_cons (pe_letR (a := 2) (n := 4) (pe_op op_repT (pe_tup (pa_int (k := 2) (pa_cons pe_int (pa_int0 pa_nil)))) pe_int) (by decide) (by decide)) (pa_cons (pe_letR (a := 0) (n := 8) (pe_op op_repT (pe_tup (pa_int (k := 0) (pa_cons pe_int (pa_int0 pa_nil)))) pe_int) (by decide) (by decide)) pa_nil)))) (by decide +kernel) (by decide +kernel) hand4) (pa_cons (pe_al (pe_dn ((ok_alike T Er).up (by decide)) hr passes_none (pa_cons (pv 3) (pa_cons (pe_let (pe_tup (pa_int (k := 1) (pa_cons pe_int (pa_int (k := 1) (pa_cons pe_int (pa_int0 pa_nil)))))) (by decide)) (pa_cons (pe_let (pe_tup (pa_int (k := 1) (pa_cons pe_int (pa_int (k := 1) (pa_cons pe_int (pa_int (k := 1) (pa_cons pe_int (pa_int (k := 1) (pa_cons pe_int (pa_int0 pa_nil)))))))))) (by decide)) pa_nil)))) (by decide +kernel) (by decide +kernel) hand5) pa_nil)))))
      (pss_cons (ps_set (i := 4) nd rfl (Or.inl rfl) (pe_op op_cat (pv 4) (pe_lst (pa_cons (pe_ptK (pe_kw0 (ks := ["other", "one"]) ((ok_part T Er).up (by decide)) (show At K mg "parting_number" 35 from T.d 18) (by simp) (fun _ _ _ _ _ _ ws hl => match ws, hl with | [_, _], _ => rfl) hr passes_none (pk_cons (pv 2) (pk_cons (pv 0) pk_nil)))) (pa_cons (pe_pt1 (pe_dn ((ok_part T Er).up (by decide)) hr passes_none (pa_cons (pv 0) (pa_cons (pe_stepL (pe_tup (pa_nums (pa_cons (pe_num (pe_tup (pa_cons pe_int (pa_cons pe_int pa_nil))) (0) (by decide +kernel) (by decide +kernel)) (pa_nums (pa_cons (pe_num (pe_tup (pa_cons pe_int (pa_cons pe_int pa_nil))) (1) (by decide +kernel) (by decide +kernel)) (pa_nums0 pa_nil)))))) (by decide)) pa_nil)))) pa_nil)))))
      (pss_cons (ps_expr (pe_bm PySem.F.plainAttrs_list PySem.F.slot_list_append PySem.F.type_list_append mt_append (pv 4) (pa_cons (pe_pt2 (pe_dn ((ok_part T Er).up (by decide)) hr passes_none (pa_cons (pv 1) (pa_cons (pe_stepL (pe_tup (pa_nums (pa_cons (pe_num (pe_tup (pa_cons pe_int (pa_cons pe_int pa_nil))) (1) (by decide +kernel) (by decide +kernel)) (pa_nums (pa_cons (pe_num (pe_tup (pa_cons pe_int (pa_cons pe_int pa_nil))) (1) (by decide +kernel) (by decide +kernel)) (pa_nums0 pa_nil)))))) (by decide)) pa_nil)))) pa_nil)))
      (pss_cons (ps_if (pt_not (pt_val (pe_dnG (ok_like T) (hr.mono (by decide)) hG pass0 (pa_cons (pv 4) (pa_cons (pe_lst (pds (pa_cons (pd_bl pe_bl) (pds (pa_cons (pd_bl pe_bl) (pds (pa_cons (pd_bl pe_bl) (pds (pa_cons (pd_bl pe_bl) (pds (pa_cons (pd_bl pe_bl) (pds (pa_cons (pd_int pe_int) (pds (pa_cons (pd_int pe_int) (pds (pa_cons (pd_int pe_int) (pds0 pa_nil)))))))))))))))))) pa_nil))))) (pss_one (ps_ret pe_bl)) pss_nil)
      (pss_cons (ps_set (i := 4) nd rfl (Or.inl rfl) (pe_lst (pa_cons (pe_hear (pe_heard (Tb := Tb) (k := 5) T Ht TB rfl hmT hmU (hr.mono (by decide)) (LamX.lamS_by (sc := defScope (top 61)) (by decide +kernel)) rfl (fun _ _ _ _ _ => rfl) (fun A outer s H E f c' hr2 => (pe_dn ((ok_alike T Er).up (by decide)) hr2 (passes_call (takes_of rfl rfl rfl rfl) fun _ _ _ _ h => h) (pa_cons (pv 3) (pa_cons (pe_letR (a := 2) (n := 5) (pe_op op_repT (pe_tup (pa_int (k := 2) (pa_cons pe_int (pa_int0 pa_nil)))) pe_int) (by decide) (by decide)) (pa_cons (pe_let (pe_tup (pa_int (k := 0) (pa_cons pe_int (pa_int0 pa_nil)))) (by decide)) pa_nil)))))) (.great (by decide +kernel) (by decide +kernel)) (by decide) (by decide)) pa_nil)))
      (pss_cons (ps_expr (pe_bm PySem.F.plainAttrs_list PySem.F.slot_list_append PySem.F.type_list_append mt_append (pv 4) (pa_cons (pe_hear (pe_heard (Tb := Tb) (k := 5) T Ht TB rfl hmT hmU (hr.mono (by decide)) (LamX.lamS_by (sc := defScope (top 61)) (by decide +kernel)) rfl (fun _ _ _ _ _ => rfl) (fun A outer s H E f c' hr2 => (pe_dn ((ok_alike T Er).up (by decide)) hr2 (passes_call (takes_of rfl rfl rfl rfl) fun _ _ _ _ h => h) (pa_cons (pv 3) (pa_cons (pe_let (pe_tup (pa_int (k := 0) (pa_cons pe_int (pa_int0 pa_nil)))) (by decide)) (pa_cons (pe_letR (a := 2) (n := 5) (pe_op op_repT (pe_tup (pa_int (k := 2) (pa_cons pe_int (pa_int0 pa_nil)))) pe_int) (by decide) (by decide)) pa_nil)))))) (.greats (by decide +kernel) (by decide +kernel)) (by decide) (by decide)) pa_nil)))
      (pss_cons (ps_expr (pe_bm PySem.F.plainAttrs_list PySem.F.slot_list_append PySem.F.type_list_append mt_append (pv 4) (pa_cons (pe_hear (pe_heard (Tb := Tb) (k := 5) T Ht TB rfl hmT hmU (hr.mono (by decide)) (LamX.lamS_by (sc := defScope (top 61)) (by decide +kernel)) rfl (fun _ _ _ _ _ => rfl) (fun A outer s H E f c' hr2 => (pe_dn ((ok_alike T Er).up (by decide)) hr2 (passes_call (takes_of rfl rfl rfl rfl) fun _ _ _ _ h => h) (pa_cons (pv 3) (pa_cons (pe_let (pe_tup (pa_int (k := 0) (pa_cons pe_int (pa_int0 pa_nil)))) (by decide)) (pa_cons (pe_let (pe_tup (pa_int (k := 3) (pa_cons pe_int (pa_int0 pa_nil)))) (by decide)) pa_nil)))))) (.other (by decide +kernel) (by decide +kernel)) (by decide) (by decide)) pa_nil)))
      (pss_cons (ps_expr (pe_bm PySem.F.plainAttrs_list PySem.F.slot_list_append PySem.F.type_list_append mt_append (pv 4) (pa_cons (pe_hear (pe_heard (Tb := Tb) (k := 5) T Ht TB rfl hmT hmU (hr.mono (by decide)) (LamX.lamS_by (sc := defScope (top 61)) (by decide +kernel)) rfl (fun _ _ _ _ _ => rfl) (fun A outer s H E f c' hr2 => (pe_dn ((ok_alike T Er).up (by decide)) hr2 (passes_call (takes_of rfl rfl rfl rfl) fun _ _ _ _ h => h) (pa_cons (pv 3) (pa_cons (pe_let (pe_tup (pa_int0 pa_nil)) (by decide)) (pa_cons (pe_let (pe_tup (pa_int (k := 3) (pa_cons pe_int (pa_int0 pa_nil)))) (by decide)) pa_nil)))))) (.one (by decide +kernel)) (by decide) (by decide)) pa_nil)))
      (pss_cons (ps_expr (pe_bm PySem.F.plainAttrs_list PySem.F.slot_list_append PySem.F.type_list_append mt_append (pv 4) (pa_cons (pe_hearR (pe_heard (Tb := Tb) (k := 5) T Ht TB rfl hmT hmU (hr.mono (by decide)) (LamX.lamS_by (sc := defScope (top 61)) (by decide +kernel)) rfl (fun _ _ _ _ _ => rfl) (fun A outer s H E f c' hr2 => (pe_dn ((ok_alike T Er).up (by decide)) hr2 (passes_call (takes_of rfl rfl rfl rfl) fun _ _ _ _ h => h) (pa_cons (pe_tup pa_nil) (pa_cons pe_non (pa_cons pe_non pa_nil))))))) pa_nil)))
      (pss_cons (ps_expr (pe_bm PySem.F.plainAttrs_list PySem.F.slot_list_append PySem.F.type_list_append mt_append (pv 4) (pa_cons (pe_hearS (pe_heard (Tb := Tb) (k := 5) T Ht TB rfl hmT hmU (hr.mono (by decide)) (LamX.lamS_by (sc := defScope (top 61)) (by decide +kernel)) rfl (fun _ _ _ _ _ => rfl) (fun A outer s H E f c' hr2 => (pe_dn ((ok_part T Er).up (by decide)) hr2 (passes_call (takes_of rfl rfl rfl rfl) fun _ _ _ _ h => h) (pa_cons (pv 0) (pa_cons pe_non pa_nil)))))) pa_nil)))
      (pss_cons (ps_expr (pe_bm PySem.F.plainAttrs_list PySem.F.slot_list_append PySem.F.type_list_append mt_append (pv 4) (pa_cons (pe_hearN (pe_heard (Tb := Tb) (k := 5) T Ht TB rfl hmT hmU (hr.mono (by decide)) (LamX.lamS_by (sc := defScope (top 61)) (by decide +kernel)) rfl (fun _ _ _ _ _ => rfl) (fun A outer s H E f c' hr2 => (pe_dn ((ok_part T Er).up (by decide)) hr2 (passes_call (takes_of rfl rfl rfl rfl) fun _ _ _ _ h => h) (pa_cons (pv 0) (pa_cons (pv 0) pa_nil)))))) pa_nil)))
      (pss_cons (ps_expr (pe_bm PySem.F.plainAttrs_list PySem.F.slot_list_append PySem.F.type_list_append mt_append (pv 4) (pa_cons (pe_hear (pe_heard (Tb := Tb) (k := 5) T Ht TB rfl hmT hmU (hr.mono (by decide)) (LamX.lamS_by (sc := defScope (top 61)) (by decide +kernel)) rfl (fun _ _ _ _ _ => rfl) (fun A outer s H E f c' hr2 => (pe_dn ((ok_alike T Er).up (by decide)) hr2 (passes_call (takes_of rfl rfl rfl rfl) fun _ _ _ _ h => h) (pa_cons (pv 3) (pa_cons (pe_letR (a := 2) (n := 5) (pe_op op_repT (pe_tup (pa_int (k := 2) (pa_cons pe_int (pa_int0 pa_nil)))) pe_int) (by decide) (by decide)) (pa_cons (pe_let (pe_tup (pa_int (k := 3) (pa_cons pe_int (pa_int0 pa_nil)))) (by decide)) pa_nil)))))) (.other (by decide +kernel) (by decide +kernel)) (by decide) (by decide)) pa_nil)))
      (pss_cons (ps_set (i := 5) nd rfl (Or.inl rfl) (pe_op op_cat (pe_op op_rep (pe_lst (pds (pa_cons (pd_tup (pe_tup (pds (pa_cons (pd_str pe_str) (pds (pa_cons (pd_int pe_int) (pds (pa_cons (pd_bl pe_bl) (pds0 pa_nil)))))))) (by decide)) (pds0 pa_nil)))) pe_int) (pe_lst (pds (pa_cons (pd_tup (pe_tup (pds (pa_cons (pd_str pe_str) (pds (pa_cons (pd_tup (pe_tup (pds (pa_cons (pd_int pe_int) (pds0 pa_nil)))) (by decide)) (pds (pa_cons (pd_bl pe_bl) (pds0 pa_nil)))))))) (by decide)) (pds (pa_cons (pd_tup (pe_tup (pds (pa_cons (pd_str pe_str) (pds (pa_cons (pd_tup (pe_tup (pds0 pa_nil)) (by decide)) (pds (pa_cons (pd_bl pe_bl) (pds0 pa_nil)))))))) (by decide)) (pds (pa_cons (pd_tup (pe_tup (pds (pa_cons (pd_str pe_str) (pds (pa_cons (pd_tup (pe_tup (pds0 pa_nil)) (by decide)) (pds (pa_cons (pd_bl pe_bl) (pds0 pa_nil)))))))) (by decide)) (pds0 pa_nil))))))))))
      (pss_one (ps_ret (pe_dnG (ok_like T) (hr.mono (by decide)) hG pass0 (pa_cons (pv 4) (pa_cons (pe_op op_cat (pv 5) (pe_lst (pds (pa_cons (pd_tup (pe_tup (pds (pa_cons (pd_str pe_str) (pds (pa_cons (pd_non pe_non) (pds (pa_cons (pd_bl pe_bl) (pds0 pa_nil)))))))) (by decide)) (pds (pa_cons (pd_tup (pe_tup (pds (pa_cons (pd_str pe_str) (pds (pa_cons (pd_bl pe_bl) (pds0 pa_nil)))))) (by decide)) (pds (pa_cons (pd_tup (pe_tup (pds (pa_cons (pd_str pe_str) (pds (pa_cons (pd_tup (pe_tup (pds (pa_cons (pd_int pe_int) (pds0 pa_nil)))) (by decide)) (pds (pa_cons (pd_bl pe_bl) (pds0 pa_nil)))))))) (by decide)) (pds0 pa_nil))))))))) pa_nil)))))))))))))))))))))), ?_⟩
    clear hTb
    refine fun Ha v0 sa f0 Hb v1 sb f1 Hc v2 sc f2 => ⟨(by show 3 ≤ sizeLine; decide), fun p3 hp3 => ⟨p3, _, rfl, SqT.of upd_same, rfl, _, _, rfl, _, _, rfl, _, _, rfl, rfl, ?_⟩⟩
    have sd := same_new (o := .tup [v0, v1, v2]) hp3
    refine ⟨_, rfl, _, rfl, _, rfl, (by show 3 ≤ sizeLine; decide), fun pr hpr => ?_⟩
    have se := same_new (o := .tup [v0, v1, v2]) hpr
    have b0 : Bh Tb v0 v1 v2 (.ref pr) (upd (upd Hc p3 (.tup [v0, v1, v2])) pr (.tup [v0, v1, v2])) := by
      have g0 := f0.mono (sb.trans (sc.trans (sd.trans se))).tx
      have g1 := f1.mono (sc.trans (sd.trans se)).tx
      have g2 := f2.mono (sd.trans se).tx
      exact ⟨⟨pr, _, rfl, upd_same, .cons g0 (.cons g1 (.cons g2 .nil))⟩, g0, g1, g2, tabs_same tabs (sa.trans (sb.trans (sc.trans (sd.trans se))))⟩
    generalize upd (upd Hc p3 (.tup [v0, v1, v2])) pr (.tup [v0, v1, v2]) = H0 at b0
    generalize V.ref pr = vr at b0
    -- the first list
    refine ⟨_, rfl, b0.row, fun H1 s1 => ⟨_, rfl, (b0.same s1).row, fun H2 s2 => ⟨(by show 2 ≤ sizeLine; decide), fun g hg => ?_⟩⟩⟩
    have b2 := (b0.same (s1.trans s2)).same (same_new (o := .lst [.bl true, .bl false]) hg)
    have g2 : upd H2 g (.lst [.bl true, .bl false]) g = some (.lst [.bl true, .bl false]) := upd_same
    generalize upd H2 g (.lst [.bl true, .bl false]) = H3 at b2 g2
    refine ⟨_, rfl, .inl ⟨rfl, _, SqL.of g2⟩, _, rfl, b2.row, fun H4 s4 => ⟨g, _, _, rfl, rfl, s4 _ _ g2, (by show 2 < sizeLine; decide), ?_⟩⟩
    have b3 := (b2.same s4).lst (o := .lst ([.bl true, .bl false] ++ [.bl true])) (s4 _ _ g2)
    have g3 : upd H4 g (.lst ([.bl true, .bl false] ++ [.bl true])) g = some (.lst ([.bl true, .bl false] ++ [.bl true])) := upd_same
    generalize upd H4 g (.lst ([.bl true, .bl false] ++ [.bl true])) = H5 at b3 g3
    refine ⟨_, rfl, _, rfl, b3.row, fun H6 s6 => ⟨_, rfl, (b3.same s6).row, fun H7 s7 => ⟨(by show 2 ≤ sizeLine; decide), fun q hq => ⟨g, q, _, _, rfl, rfl, same_new hq _ _ (s7 _ _ (s6 _ _ g3)), upd_same, (by show 3 + 2 ≤ sizeLine; decide), fun g4 hg4 => ?_⟩⟩⟩⟩
    have b4 := (b3.same (s6.trans (s7.trans (same_new (o := .lst [.bl true, .bl true]) hq)))).same (same_new (o := .lst (([.bl true, .bl false] ++ [.bl true]) ++ [.bl true, .bl true])) hg4)
    have e4 : upd (upd H7 q (.lst [.bl true, .bl true])) g4 (.lst (([.bl true, .bl false] ++ [.bl true]) ++ [.bl true, .bl true])) g4 = some (.lst (([.bl true, .bl false] ++ [.bl true]) ++ [.bl true, .bl true])) := upd_same
    generalize upd (upd H7 q (.lst [.bl true, .bl true])) g4 (.lst (([.bl true, .bl false] ++ [.bl true]) ++ [.bl true, .bl true])) = H8 at b4 e4
    refine ⟨_, rfl, _, _, rfl, rfl, b4.two, b4.four, fun H9 s9 => ⟨_, rfl, (b4.same s9).two, fun H10 s10 => ⟨(by show 2 ≤ sizeLine; decide), fun q2 hq2 => ⟨g4, q2, _, _, rfl, rfl, same_new hq2 _ _ (s10 _ _ (s9 _ _ e4)), upd_same, (by show 5 + 2 ≤ sizeLine; decide), fun g5 hg5 => ?_⟩⟩⟩⟩
    have b5 := (b4.same (s9.trans (s10.trans (same_new (o := .lst [.int ((2 : Nat) : Int), .int ((2 : Nat) : Int)]) hq2)))).same (same_new (o := .lst ((([.bl true, .bl false] ++ [.bl true]) ++ [.bl true, .bl true]) ++ [.int ((2 : Nat) : Int), .int ((2 : Nat) : Int)])) hg5)
    have e5 : upd (upd H10 q2 (.lst [.int ((2 : Nat) : Int), .int ((2 : Nat) : Int)])) g5 (.lst ((([.bl true, .bl false] ++ [.bl true]) ++ [.bl true, .bl true]) ++ [.int ((2 : Nat) : Int), .int ((2 : Nat) : Int)])) g5 = some (.lst ((([.bl true, .bl false] ++ [.bl true]) ++ [.bl true, .bl true]) ++ [.int ((2 : Nat) : Int), .int ((2 : Nat) : Int)])) := upd_same
    generalize upd (upd H10 q2 (.lst [.int ((2 : Nat) : Int), .int ((2 : Nat) : Int)])) g5 (.lst ((([.bl true, .bl false] ++ [.bl true]) ++ [.bl true, .bl true]) ++ [.int ((2 : Nat) : Int), .int ((2 : Nat) : Int)])) = H11 at b5 e5
    refine ⟨_, rfl, .inl ⟨rfl, _, SqL.of e5⟩, _, rfl, b5.back, fun H12 s12 => ⟨g5, _, _, rfl, rfl, s12 _ _ e5, (by show 7 < sizeLine; decide), ?_⟩⟩
    have b6 := (b5.same s12).lst (o := .lst (((([.bl true, .bl false] ++ [.bl true]) ++ [.bl true, .bl true]) ++ [.int ((2 : Nat) : Int), .int ((2 : Nat) : Int)]) ++ [.int ((0 : Nat) : Int)])) (s12 _ _ e5)
    have e6 : upd H12 g5 (.lst (((([.bl true, .bl false] ++ [.bl true]) ++ [.bl true, .bl true]) ++ [.int ((2 : Nat) : Int), .int ((2 : Nat) : Int)]) ++ [.int ((0 : Nat) : Int)])) g5 = some (.lst [.bl true, .bl false, .bl true, .bl true, .bl true, .int 2, .int 2, .int 0]) := upd_same
    generalize upd H12 g5 (.lst (((([.bl true, .bl false] ++ [.bl true]) ++ [.bl true, .bl true]) ++ [.int ((2 : Nat) : Int), .int ((2 : Nat) : Int)]) ++ [.int ((0 : Nat) : Int)])) = H13 at b6 e6
    -- as it should be
    refine ⟨_, rfl, fun H14 vs14 s14 td14 => ⟨Nat.le_trans (Nat.le_of_eq td14.len) (by show 8 ≤ sizeLine; decide), fun q3 hq3 => ?_⟩⟩
    have b7 := b6.same (s14.trans (same_new (o := .lst vs14) hq3))
    have e7 := same_new (o := .lst vs14) hq3 _ _ (s14 _ _ e6)
    refine ⟨_, _, .list [.bool true, .bool false, .bool true, .bool true, .bool true, .int 2, .int 2, .int 0], rfl, .lst (SqL.of e7) (.cons (.bl _) (.cons (.bl _) (.cons (.bl _) (.cons (.bl _) (.cons (.bl _) (.cons (.int _) (.cons (.int _) (.cons (.int _) .nil)))))))), .lst (SqL.of upd_same) (TdAll.dp _ _ (TdAll.mono (tx_new hq3) _ _ td14)), (by decide +kernel), _, rfl, ifF rfl ?_⟩
    generalize upd H14 q3 (.lst vs14) = K0 at b7
    -- what is heard
    refine ⟨_, _, rfl, rfl, b7.two, b7.row, b7.tab, fun J1 w1 x1 t1 d1 => ⟨(by show 1 ≤ sizeLine; decide), fun h hh => ?_⟩⟩
    have c1 := (b7.ext x1 t1).same (same_new (o := .lst [w1]) hh)
    have l1 : upd J1 h (.lst [w1]) h = some (.lst [w1]) := upd_same
    have m1 : TdAll (upd J1 h (.lst [w1])) [w1] [dGreat] := .cons (Td.mono (tx_new hh) _ _ d1) .nil
    generalize upd J1 h (.lst [w1]) = K1 at c1 l1 m1
    refine ⟨_, rfl, .inl ⟨rfl, _, SqL.of l1⟩, _, _, rfl, rfl, c1.two, c1.row, c1.tab, fun J2 w2 x2 t2 d2 => ⟨h, _, w2, rfl, rfl, ext_lst x2 l1, (by show 1 < sizeLine; decide), ?_⟩⟩
    have c2 := (c1.ext x2 t2).lst (o := .lst ([w1] ++ [w2])) (ext_lst x2 l1)
    have l2 : upd J2 h (.lst ([w1] ++ [w2])) h = some (.lst ([w1] ++ [w2])) := upd_same
    have m2 : TdAll (upd J2 h (.lst ([w1] ++ [w2]))) ([w1] ++ [w2]) ([dGreat] ++ [dGreat]) := TdAll.app (TdAll.mono ((ext_tx x2).trans (tx_lst (ext_lst x2 l1))) _ _ m1) (.cons (Td.mono (tx_lst (ext_lst x2 l1)) _ _ d2) .nil)
    generalize upd J2 h (.lst ([w1] ++ [w2])) = K2 at c2 l2 m2
    refine ⟨_, rfl, .inl ⟨rfl, _, SqL.of l2⟩, _, _, rfl, rfl, c2.two, c2.row, c2.tab, fun J3 w3 x3 t3 d3 => ⟨h, _, w3, rfl, rfl, ext_lst x3 l2, (by show 2 < sizeLine; decide), ?_⟩⟩
    have c3 := (c2.ext x3 t3).lst (o := .lst (([w1] ++ [w2]) ++ [w3])) (ext_lst x3 l2)
    have l3 : upd J3 h (.lst (([w1] ++ [w2]) ++ [w3])) h = some (.lst (([w1] ++ [w2]) ++ [w3])) := upd_same
    have m3 : TdAll (upd J3 h (.lst (([w1] ++ [w2]) ++ [w3]))) (([w1] ++ [w2]) ++ [w3]) (([dGreat] ++ [dGreat]) ++ [dPar [3]]) := TdAll.app (TdAll.mono ((ext_tx x3).trans (tx_lst (ext_lst x3 l2))) _ _ m2) (.cons (Td.mono (tx_lst (ext_lst x3 l2)) _ _ d3) .nil)
    generalize upd J3 h (.lst (([w1] ++ [w2]) ++ [w3])) = K3 at c3 l3 m3
    refine ⟨_, rfl, .inl ⟨rfl, _, SqL.of l3⟩, _, _, rfl, rfl, c3.two, c3.row, c3.tab, fun J4 w4 x4 t4 d4 => ⟨h, _, w4, rfl, rfl, ext_lst x4 l3, (by show 3 < sizeLine; decide), ?_⟩⟩
    have c4 := (c3.ext x4 t4).lst (o := .lst ((([w1] ++ [w2]) ++ [w3]) ++ [w4])) (ext_lst x4 l3)
    have l4 : upd J4 h (.lst ((([w1] ++ [w2]) ++ [w3]) ++ [w4])) h = some (.lst ((([w1] ++ [w2]) ++ [w3]) ++ [w4])) := upd_same
    have m4 : TdAll (upd J4 h (.lst ((([w1] ++ [w2]) ++ [w3]) ++ [w4]))) ((([w1] ++ [w2]) ++ [w3]) ++ [w4]) ((([dGreat] ++ [dGreat]) ++ [dPar [3]]) ++ [dPar []]) := TdAll.app (TdAll.mono ((ext_tx x4).trans (tx_lst (ext_lst x4 l3))) _ _ m3) (.cons (Td.mono (tx_lst (ext_lst x4 l3)) _ _ d4) .nil)
    generalize upd J4 h (.lst ((([w1] ++ [w2]) ++ [w3]) ++ [w4])) = K4 at c4 l4 m4
    refine ⟨_, rfl, .inl ⟨rfl, _, SqL.of l4⟩, _, _, rfl, rfl, c4.two, c4.row, c4.tab, fun J5 w5 x5 t5 d5 => ⟨h, _, w5, rfl, rfl, ext_lst x5 l4, (by show 4 < sizeLine; decide), ?_⟩⟩
    have c5 := (c4.ext x5 t5).lst (o := .lst (((([w1] ++ [w2]) ++ [w3]) ++ [w4]) ++ [w5])) (ext_lst x5 l4)
    have l5 : upd J5 h (.lst (((([w1] ++ [w2]) ++ [w3]) ++ [w4]) ++ [w5])) h = some (.lst (((([w1] ++ [w2]) ++ [w3]) ++ [w4]) ++ [w5])) := upd_same
    have m5 : TdAll (upd J5 h (.lst (((([w1] ++ [w2]) ++ [w3]) ++ [w4]) ++ [w5]))) (((([w1] ++ [w2]) ++ [w3]) ++ [w4]) ++ [w5]) (((([dGreat] ++ [dGreat]) ++ [dPar [3]]) ++ [dPar []]) ++ [dRow]) := TdAll.app (TdAll.mono ((ext_tx x5).trans (tx_lst (ext_lst x5 l4))) _ _ m4) (.cons (Td.mono (tx_lst (ext_lst x5 l4)) _ _ d5) .nil)
    generalize upd J5 h (.lst (((([w1] ++ [w2]) ++ [w3]) ++ [w4]) ++ [w5])) = K5 at c5 l5 m5
    refine ⟨_, rfl, .inl ⟨rfl, _, SqL.of l5⟩, _, _, rfl, rfl, c5.two, c5.row, c5.tab, fun J6 w6 x6 t6 d6 => ⟨h, _, w6, rfl, rfl, ext_lst x6 l5, (by show 5 < sizeLine; decide), ?_⟩⟩
    have c6 := (c5.ext x6 t6).lst (o := .lst ((((([w1] ++ [w2]) ++ [w3]) ++ [w4]) ++ [w5]) ++ [w6])) (ext_lst x6 l5)
    have l6 : upd J6 h (.lst ((((([w1] ++ [w2]) ++ [w3]) ++ [w4]) ++ [w5]) ++ [w6])) h = some (.lst ((((([w1] ++ [w2]) ++ [w3]) ++ [w4]) ++ [w5]) ++ [w6])) := upd_same
    have m6 : TdAll (upd J6 h (.lst ((((([w1] ++ [w2]) ++ [w3]) ++ [w4]) ++ [w5]) ++ [w6]))) ((((([w1] ++ [w2]) ++ [w3]) ++ [w4]) ++ [w5]) ++ [w6]) ((((([dGreat] ++ [dGreat]) ++ [dPar [3]]) ++ [dPar []]) ++ [dRow]) ++ [dStp]) := TdAll.app (TdAll.mono ((ext_tx x6).trans (tx_lst (ext_lst x6 l5))) _ _ m5) (.cons (Td.mono (tx_lst (ext_lst x6 l5)) _ _ d6) .nil)
    generalize upd J6 h (.lst ((((([w1] ++ [w2]) ++ [w3]) ++ [w4]) ++ [w5]) ++ [w6])) = K6 at c6 l6 m6
    refine ⟨_, rfl, .inl ⟨rfl, _, SqL.of l6⟩, _, _, rfl, rfl, c6.two, c6.row, c6.tab, fun J7 w7 x7 t7 d7 => ⟨h, _, w7, rfl, rfl, ext_lst x7 l6, (by show 6 < sizeLine; decide), ?_⟩⟩
    have c7 := (c6.ext x7 t7).lst (o := .lst (((((([w1] ++ [w2]) ++ [w3]) ++ [w4]) ++ [w5]) ++ [w6]) ++ [w7])) (ext_lst x7 l6)
    have l7 : upd J7 h (.lst (((((([w1] ++ [w2]) ++ [w3]) ++ [w4]) ++ [w5]) ++ [w6]) ++ [w7])) h = some (.lst (((((([w1] ++ [w2]) ++ [w3]) ++ [w4]) ++ [w5]) ++ [w6]) ++ [w7])) := upd_same
    have m7 : TdAll (upd J7 h (.lst (((((([w1] ++ [w2]) ++ [w3]) ++ [w4]) ++ [w5]) ++ [w6]) ++ [w7]))) (((((([w1] ++ [w2]) ++ [w3]) ++ [w4]) ++ [w5]) ++ [w6]) ++ [w7]) (((((([dGreat] ++ [dGreat]) ++ [dPar [3]]) ++ [dPar []]) ++ [dRow]) ++ [dStp]) ++ [dNo]) := TdAll.app (TdAll.mono ((ext_tx x7).trans (tx_lst (ext_lst x7 l6))) _ _ m6) (.cons (Td.mono (tx_lst (ext_lst x7 l6)) _ _ d7) .nil)
    generalize upd J7 h (.lst (((((([w1] ++ [w2]) ++ [w3]) ++ [w4]) ++ [w5]) ++ [w6]) ++ [w7])) = K7 at c7 l7 m7
    refine ⟨_, rfl, .inl ⟨rfl, _, SqL.of l7⟩, _, _, rfl, rfl, c7.two, c7.row, c7.tab, fun J8 w8 x8 t8 d8 => ⟨h, _, w8, rfl, rfl, ext_lst x8 l7, (by show 7 < sizeLine; decide), ?_⟩⟩
    have c8 := (c7.ext x8 t8).lst (o := .lst ((((((([w1] ++ [w2]) ++ [w3]) ++ [w4]) ++ [w5]) ++ [w6]) ++ [w7]) ++ [w8])) (ext_lst x8 l7)
    have l8 : upd J8 h (.lst ((((((([w1] ++ [w2]) ++ [w3]) ++ [w4]) ++ [w5]) ++ [w6]) ++ [w7]) ++ [w8])) h = some (.lst ((((((([w1] ++ [w2]) ++ [w3]) ++ [w4]) ++ [w5]) ++ [w6]) ++ [w7]) ++ [w8])) := upd_same
    have m8 : TdAll (upd J8 h (.lst ((((((([w1] ++ [w2]) ++ [w3]) ++ [w4]) ++ [w5]) ++ [w6]) ++ [w7]) ++ [w8]))) ((((((([w1] ++ [w2]) ++ [w3]) ++ [w4]) ++ [w5]) ++ [w6]) ++ [w7]) ++ [w8]) ((((((([dGreat] ++ [dGreat]) ++ [dPar [3]]) ++ [dPar []]) ++ [dRow]) ++ [dStp]) ++ [dNo]) ++ [dPar [3]]) := TdAll.app (TdAll.mono ((ext_tx x8).trans (tx_lst (ext_lst x8 l7))) _ _ m7) (.cons (Td.mono (tx_lst (ext_lst x8 l7)) _ _ d8) .nil)
    generalize upd J8 h (.lst ((((((([w1] ++ [w2]) ++ [w3]) ++ [w4]) ++ [w5]) ++ [w6]) ++ [w7]) ++ [w8])) = K8 at c8 l8 m8
    -- what should be heard
    refine fun M1 vs1 s21 n1 => ?_
    obtain ⟨y1, rfl, z1⟩ := td_one n1
    refine ⟨(by show 1 ≤ sizeLine; decide), fun r1 hr1 => ⟨r1, 2, _, rfl, rfl, upd_same, (by decide), (by decide), (by show 1 * 2 ≤ sizeLine; decide), fun r2 hr2 M2 vs2 s22 n2 => ?_⟩⟩
    have s23 := (same_new (o := .lst [y1]) hr1).trans ((same_new (o := .lst (List.replicate (2 : Int).toNat [y1]).flatten) hr2).trans s22)
    obtain ⟨y2, y3, y4, rfl, z2, z3, z4⟩ := td_three n2
    refine ⟨(by show 3 ≤ sizeLine; decide), fun r3 hr3 => ⟨r2, r3, _, _, rfl, rfl, same_new hr3 _ _ (s22 _ _ upd_same), upd_same, (by show 2 + 3 ≤ sizeLine; decide), fun r4 hr4 => ?_⟩⟩
    have s24 := (same_new (o := .lst [y2, y3, y4]) hr3).trans (same_new (o := .lst ((List.replicate (2 : Int).toNat [y1]).flatten ++ [y2, y3, y4])) hr4)
    refine ⟨_, rfl, _, rfl, fun M3 vs3 s25 n3 => ?_⟩
    obtain ⟨y5, y6, y7, rfl, z5, z6, z7⟩ := td_three n3
    refine ⟨(by show 3 ≤ sizeLine; decide), fun r5 hr5 => ⟨r4, r5, _, _, rfl, rfl, same_new hr5 _ _ (s25 _ _ upd_same), upd_same, (by show 5 + 3 ≤ sizeLine; decide), fun r6 hr6 => ?_⟩⟩
    have s26 := (same_new (o := .lst [y5, y6, y7]) hr5).trans (same_new (o := .lst (((List.replicate (2 : Int).toNat [y1]).flatten ++ [y2, y3, y4]) ++ [y5, y6, y7])) hr6)
    have tA := (s21.trans (s23.trans (s24.trans (s25.trans s26))))
    have tB := (s23.trans (s24.trans (s25.trans s26))).tx
    have tC' := (s24.trans (s25.trans s26)).tx
    have u1 := Td.mono tB _ _ z1
    refine ⟨_, _, .list [dGreat, dGreat, dPar [3], dPar [], dRow, dStp, dNo, dPar [3]], rfl, .lst (SqL.of (tA _ _ l8)) (TdAll.dp _ _ (TdAll.mono tA.tx _ _ m8)), .lst (SqL.of upd_same) (TdAll.dp _ _ (.cons u1 (.cons u1 (.cons (Td.mono tC' _ _ z2) (.cons (Td.mono tC' _ _ z3) (.cons (Td.mono tC' _ _ z4) (.cons (Td.mono s26.tx _ _ z5) (.cons (Td.mono s26.tx _ _ z6) (.cons (Td.mono s26.tx _ _ z7) .nil))))))))), (by decide +kernel), k _⟩
end
end K63
set_option Elab.async false
set_option linter.all false
set_option maxRecDepth 100000
set_option maxHeartbeats 4000000
namespace K63
open PySem PySem.Spec PyProof.Rows L2
/-! ### law -/
def spLaw (K : PySem.W.Frag) (Tb : List (Addr × Str)) : Sp := fun vs H Q _ => ∃ (a : Addr) (ns : List Int), vs = [.ref a] ∧ SqL K H a (ns.map V.int) ∧ ns.length ≤ 1000 ∧ LamX.Tabs Tb H ∧ ∀ H', Q (.bl true) H'
section
variable {P : Program} {w : World} {K : PySem.W.Frag} {mg : Str → Option Value} {base : Heap} {B : Str → Addr} {S cR cH PR PH : Addr}
theorem sc_law : FnScope ["_law_script", "_law_state"] ["_law_script"] (defScope (top 62)) := ⟨rfl, rfl, rfl, by decide +kernel, rfl, by decide +kernel, by decide +kernel⟩
theorem ok_law (T : Txt K mg) (Er : Errs P w K mg B) (Ht : HeardT K mg B S) (TR : LamX.TabB base mg cR PR) (TH : LamX.TabB base mg cH PH) (hne : PR ≠ PH) (hR : AtC K mg "_law_right" 60 cR) (hH : AtC K mg "_law_by_hand" 61 cH) {fa : Addr} {fd : FuncData} (F : FunD K "law" "law" (defArgs (top 62)) (defBody (top 62)) (defScope (top 62)) [] [] fa fd) :
    ∀ (A : Around) (outer : List Env) (s : Shared) (H : Hp) (us : List Value) (vs : List V) (Q : VK) (E : XK), Room 11 A → A.guards = some [] → Env0 P w K mg base A outer s H → Vals vs us → spLaw K [(PR, qR), (PH, qH)] vs H Q E →
      codeAny (model P w) A (.call (.ref fa) ⟨us, []⟩) (CR CX0 outer P w H s Q E) s := by
  intro A outer s H us vs Q E hr hG e0 rv hsp
  have hB := F.bindsA (ps := ["_law_script"]) fun _ _ _ _ _ _ us hl => match us, hl with | [_], _ => rfl
  obtain ⟨oc, od, dV, kV, doc, pm, an, cdv, ct, osl, e, lk, hcd, _, _⟩ := F.ex
  subst e
  obtain ⟨a, ns, rfl, ha, hl, tab, k⟩ := hsp
  refine LamX.run_ofS lk hcd sc_law hr e0 (hB s us (by rw [← rv.length]; rfl)) rv rfl fun hr' => ?_
  have nd := sc_law.nd
  have hG' : (A.deeper (envOfC "law" (defScope (top 62)) s.heap.objs.size fa cdv)).guards = some [] := hG
  refine ⟨_, PSs.nox (pss_cons (ps_set (i := 1) nd rfl (Or.inl rfl) (pe_dn ((ok_begin T).up (by decide)) hr' pass0 (pa_cons (pv 0) pa_nil)))
    (pss_one (ps_ret (pe_and (pe_dnG (ok_right T Er Ht TR hne hR) hr' hG' pass0 (pa_cons (pv 1) pa_nil)) (pe_and (pe_dnG (ok_right T Er Ht TR hne hR) hr' hG' pass0 (pa_cons (pv 1) pa_nil)) (pe_one (pe_dnG0 (ok_hand T Er Ht TH hne hH) hr' hG' pass0))))))), ?_⟩
  refine ⟨_, rfl, a, ns, rfl, ha, hl, fun H1 d c lf s1 st1 => ?_⟩
  refine ⟨_, rfl, d, c, lf, 0, rfl, st1, tabs_same tab s1, by decide, fun H2 t2 st2 => ⟨_, rfl, ifT rfl ?_⟩⟩
  refine ⟨_, rfl, d, c, lf, 0 + 1000, rfl, st2, t2, by decide, fun H3 t3 st3 => ⟨_, rfl, ifT rfl ?_⟩⟩
  exact ⟨rfl, t3, fun H4 => k H4⟩
end
/-! ### the law's call by the judge -/
def startH (ts : List Addr) (a : Addr) (u : Option HO) : Hp := fun b => if b ∈ ts then some (.tbl #[]) else if b = a then u else none
theorem startH_in {ts : List Addr} {a b : Addr} {u : Option HO} (h : b ∈ ts) : startH ts a u b = some (.tbl #[]) := if_pos h
theorem startH_at {ts : List Addr} {a : Addr} {u : Option HO} (h : a ∉ ts) : startH ts a u a = u := (if_neg h).trans (if_pos rfl)
theorem startH_of {ts : List Addr} {a b : Addr} {u : Option HO} {o : HO} (h : startH ts a u b = some o) : (b ∈ ts ∧ o = .tbl #[]) ∨ (b = a ∧ u = some o) := by
  unfold startH at h
  by_cases h1 : b ∈ ts
  · rw [if_pos h1] at h
    exact .inl ⟨h1, (Option.some.inj h).symm⟩
  · rw [if_neg h1] at h
    by_cases h2 : b = a
    · rw [if_pos h2] at h
      exact .inr ⟨h2, h⟩
    · rw [if_neg h2] at h
      cases h
theorem law_runs {P : Program} {w : World} {K : PySem.W.Frag} {mg mb : Str → Option Value} {fa a : Addr} {cs : List (Addr × Addr)} {s₁ : Shared} {vs : List Value} {ns : List Int}
    (KX : K.In s₁.heap) (hns : s₁.heap.Ns mainGlobals mg) (hb : s₁.heap.Ns builtinsNs mb) (hbb : ∀ x : Str, x ≠ "__name__" → mb x = bootBuiltins x) (hlim : s₁.heap.NoLimit) (hg : s₁.gens = #[])
    (hT : ∀ p ∈ cs, s₁.heap.get? p.2 = some { cls := .none, data := .fields #[] }) (nT : ∀ p ∈ cs, K.lookup p.2 = none) (C : ∀ p ∈ cs, PySem.W.CodeHd s₁.heap p.1 p.2)
    (hbm : ∃ (bm : Addr) (ob : Obj), mg "__builtins__" = some (.ref bm) ∧ bm ≠ builtinsNs ∧ s₁.heap.get? bm = some ob ∧ ob.cls = .type "module" ∧ ob.dict = some builtinsNs ∧ ob.data = .plain)
    (ha : s₁.heap.get? a = some { cls := .type "list", data := .seq vs.toArray }) (hi : IntsAre vs ns) (hl : ns.length ≤ sizeLine)
    (run : ∀ (base : Heap) (H : Hp), K.In base → base.Ns mainGlobals mg → (∀ p ∈ cs, LamX.TabB base mg p.1 p.2) → (∀ p ∈ cs, H p.2 = some (.tbl #[])) → SqL K H a (ns.map V.int) → Env0 P w K mg base callerA [] s₁ H →
      codeAny (model P w) callerA (.call (.ref fa) ⟨[.ref a], []⟩) (CR CX0 [] P w H s₁ (fun v _ => v = .bl true) E0) s₁) :
    codeAny (model P w) callerA (.call (.ref fa) ⟨[.ref a], []⟩) (fun r s' => r = .ok (.ret (.bool true)) ∧ OldK s₁.heap s'.heap ∧ s'.os = s₁.os ∧ AllBare s'.gens) s₁ := by
  have rv := vals_ints hi
  have lenV := hi.length
  have mem : ∀ p ∈ cs, p.2 ∈ cs.map (·.2) := fun p hp => List.mem_map.mpr ⟨p, hp, rfl⟩
  have tab : ∀ b ∈ cs.map (·.2), s₁.heap.get? b = some { cls := .none, data := .fields #[] } := fun b hb => by
    obtain ⟨p, hp, rfl⟩ := List.mem_map.mp hb
    exact hT p hp
  have aT : a ∉ cs.map (·.2) := fun z => by
    have q := ha.symm.trans (tab a z)
    have := congrArg Obj.cls (Option.some.inj q)
    cases this
  -- what is tracked at the start: the tables, and the script where the head doesn't tell it
  obtain ⟨u, hu, hS⟩ : ∃ u : Option HO, (∀ o, u = some o → K.lookup a = none ∧ o = .frz { cls := .type "list", data := .seq vs.toArray } (.lst (ns.map V.int))) ∧ SqL K (startH (cs.map (·.2)) a u) a (ns.map V.int) := by
    cases hk : K.lookup a with
    | some o =>
      have e := (KX a o hk).symm.trans ha
      cases e
      exact ⟨none, fun _ z => (by cases z), .inr ⟨_, vs.toArray, _, hk, rfl, rfl, rfl, by rw [List.size_toArray, lenV]; exact hl, by simpa using rv⟩⟩
    | none => exact ⟨some _, fun o z => ⟨rfl, (Option.some.inj z).symm⟩, .inl (.inr ⟨{ cls := .type "list", data := .seq vs.toArray }, startH_at aT⟩)⟩
  have hH : ∀ p ∈ cs, startH (cs.map (·.2)) a u p.2 = some (.tbl #[]) := fun p hp => startH_in (mem p hp)
  have hok : HOk P w (startH (cs.map (·.2)) a u) s₁.heap := fun b o z => by
    rcases startH_of z with ⟨h1, rfl⟩ | ⟨rfl, h2⟩
    · exact tab b h1
    · obtain ⟨_, rfl⟩ := hu _ h2
      exact ⟨ha, by rw [List.length_map]; exact hl, vs, _, rv, ha⟩
  -- an object that is neither a list nor a table is not tracked
  have free : ∀ {b : Addr} {o : Obj}, s₁.heap.get? b = some o → (∀ xs n, o.data ≠ .seq xs n) → o.data ≠ .fields #[] → startH (cs.map (·.2)) a u b = none := fun {b o} e h1 h2 => by
    cases q : startH (cs.map (·.2)) a u b with
    | none => rfl
    | some z =>
      rcases startH_of q with ⟨h3, _⟩ | ⟨rfl, _⟩
      · have := e.symm.trans (tab b h3)
        cases this
        exact (h2 rfl).elim
      · have := e.symm.trans ha
        cases this
        exact (h1 _ _ rfl).elim
  have stay : ∀ {b : Addr} {o : Obj}, s₁.heap.get? b = some o → (∀ xs n, o.data ≠ .seq xs n) → o.data ≠ .fields #[] → (hidT s₁.heap (startH (cs.map (·.2)) a u)).get? b = some o := fun e h1 h2 => hidT_get e (free e h1 h2)
  have nsK : ∀ {b : Addr} {m : Str → Option Value}, s₁.heap.Ns b m → (hidT s₁.heap (startH (cs.map (·.2)) a u)).Ns b m := fun ⟨o, es, ep, e, d, r⟩ => ⟨o, es, ep, stay e (fun _ _ z => by rw [d] at z; cases z) (fun z => by rw [d] at z; cases z), d, r⟩
  have kin : K.In (hidT s₁.heap (startH (cs.map (·.2)) a u)) := fun b o e => hidT_get (KX b o e) (by
    cases q : startH (cs.map (·.2)) a u b with
    | none => rfl
    | some z =>
      rcases startH_of q with ⟨h3, _⟩ | ⟨rfl, h4⟩
      · obtain ⟨p, hp, rfl⟩ := List.mem_map.mp h3
        rw [nT p hp] at e
        cases e
      · rw [(hu _ h4).1] at e
        cases e)
  have tb : ∀ p ∈ cs, LamX.TabB (hidT s₁.heap (startH (cs.map (·.2)) a u)) mg p.1 p.2 := fun p hp => by
    refine ⟨?_, ?_, fun z => ?_⟩
    · obtain ⟨o, us, file, tf, flags, tg, inF, text, tt, e1, r1, r2, r3, rest⟩ := C p hp
      exact ⟨o, us, file, tf, flags, tg, inF, text, tt, stay e1 (fun _ _ z => by rw [r2] at z; cases z) (fun z => by
        rw [r2] at z
        cases z
        simp at r3), r1, r2, r3, rest⟩
    · obtain ⟨bm, ob, b1, b2, b3, b4, b5, b6⟩ := hbm
      refine ⟨bm, ob, b1, b2, fun q => ?_, fun q => ?_, stay b3 (fun _ _ z => by rw [b6] at z; cases z) (fun z => by rw [b6] at z; cases z), b4, b5, b6⟩
      · obtain ⟨o, es, ep, e, hd, _⟩ := hns
        rw [q, e] at b3
        cases b3
        rw [hd] at b6
        cases b6
      · rw [q, hT p hp] at b3
        cases b3
        cases b6
    · obtain ⟨o, es, ep, e, hd, _⟩ := hns
      rw [z, hT p hp] at e
      cases e
      cases hd
  have e0 : Env0 P w K mg (hidT s₁.heap (startH (cs.map (·.2)) a u)) callerA [] s₁ (startH (cs.map (·.2)) a u) :=
    ⟨rfl, ⟨kin, nsK hns, ⟨mb, nsK hb, hbb⟩, let ⟨mc, h1, h2⟩ := hlim; ⟨mc, nsK h1, h2⟩⟩, fun b o e => of_hidT e, Nat.le_of_eq (hidT_size _ _), trivial, fun b hb => (by cases (show b ∈ ([] : List Addr) from hb)), hok, .of_eq hg⟩
  refine codeAny_mono (run _ _ kin (nsK hns) tb hH hS e0) fun r s' h => ?_
  match r, h with
  | .error e, h => exact (show False from h).elim
  | .ok .next, h => exact (show False from h).elim
  | .ok .brk, h => exact (show False from h).elim
  | .ok .cont, h => exact (show False from h).elim
  | .ok (.ret x), h =>
    obtain ⟨v, H', os, bare, un, hok', r', q'⟩ := h
    have q' : v = .bl true := q'
    subst q'
    obtain rfl : x = Value.bool true := r'
    have old : ∀ b o, b ∉ cs.map (·.2) → s₁.heap.get? b = some o → s'.heap.get? b = some o := fun b o nb e => by
      cases q : startH (cs.map (·.2)) a u b with
      | none => exact un.keep b o e q (fun z => by cases (show b ∈ ([] : List Addr) from z)) (fun z => by cases z)
      | some z =>
        rcases startH_of q with ⟨h3, _⟩ | ⟨rfl, h4⟩
        · exact absurd h3 nb
        · obtain ⟨_, rfl⟩ := hu _ h4
          rw [e] at ha
          cases ha
          exact (hok' _ _ (un.frzs _ _ _ q)).1
    have grown : ∀ b ∈ cs.map (·.2), ∃ more : Array Value, s'.heap.get? b = some { cls := .none, data := .fields more } := fun b hb => by
      obtain ⟨more, z⟩ := un.tbls b #[] (startH_in hb)
      exact ⟨_, hok' b _ z⟩
    refine ⟨rfl, ⟨fun b o e => ?_, fun b o e => ?_⟩, os, bare⟩
    · by_cases hb : b ∈ cs.map (·.2)
      · obtain ⟨more, hm⟩ := grown b hb
        obtain ⟨p, hp, rfl⟩ := List.mem_map.mp hb
        cases e.symm.trans (hT p hp)
        exact .inr (.inl ⟨((C p hp).tab (hT p hp)).isCodeTable, rfl, #[], more, rfl, by rw [Array.empty_append]; exact hm⟩)
      · exact .inl (old b o hb e)
    · by_cases hb : b ∈ cs.map (·.2)
      · obtain ⟨more, hm⟩ := grown b hb
        exact ⟨_, hm⟩
      · exact ⟨o, old b o hb e⟩
end K63
set_option Elab.async false
set_option linter.all false
set_option maxRecDepth 100000
set_option maxHeartbeats 0
namespace K63
open PySem PySem.Spec PyProof.Rows L2
abbrev R : PySem.W.OpenRow := PySem.W.OpenLaw.row PySem.Challenge.rw_stepswithin_k63_whole_words_alike_or_par
/-! ### what the head tells of an own error's class -/
def clsB (K : PySem.W.Frag) (C : Addr) : Bool := match K.lookup C with
  | some ⟨.type "type", _, .cls cd, sl⟩ => (match cd.mro, sl.toList with
    | .ref C' :: bm, [_, _, _, _, some (.builtin n), _] => decide (C' = C) && (decide (n = "ValueError.__new__") && (!cd.hasDel && (cd.hasDict && PySem.HandSPX.refsVE bm)))
    | _, _ => false)
  | _ => false
theorem clsB_ok {K : PySem.W.Frag} {C : Addr} (h : clsB K C = true) : ∃ nm q N bs bm sn sub ab col dd k0 k1 k2 k3 k5, K.lookup C = some (excClassObj nm q C N bs bm true sn sub ab col dd k0 k1 k2 k3 k5 "ValueError.__new__") ∧ PySem.HandSPX.refsVE bm = true := by
  unfold clsB at h
  split at h
  · rename_i dd cd sl ho
    split at h
    · rename_i C' bm k0 k1 k2 k3 n k5 hm hs
      simp only [Bool.and_eq_true, decide_eq_true_eq, Bool.not_eq_true'] at h
      obtain ⟨rfl, rfl, hdel, hd, hr⟩ := h
      obtain ⟨nm, bs, mro, ns, qn, hdc, sn, sub, ab, col, del⟩ := cd
      dsimp only at hm hdel hd
      subst hm hdel hd
      have hsl : sl = #[k0, k1, k2, k3, some (.builtin "ValueError.__new__"), k5] := by
        obtain ⟨l⟩ := sl
        simp only at hs
        rw [hs]
      subst hsl
      exact ⟨nm, qn, ns, bs, bm, sn, sub, ab, col, dd, k0, k1, k2, k3, k5, ho, hr⟩
    · cases h
  · cases h
def iAd (K : PySem.W.Frag) (x : Str) : Addr := He.ma K (He.ga K x) "__init__"
abbrev InV : Type := Option (Str × Str × Arguments × FuncBody × Scope × Addr × Addr)
def inV (K : PySem.W.Frag) (x : Str) : InV := match K.lookup (iAd K x) with
  | some ⟨_, _, .func fd, _⟩ => some (fd.name, fd.qualname, fd.params, fd.body, fd.scope, fd.globals, fd.builtins)
  | _ => none
/-- an __init__ with the class's cell: no defaults, its code record in the file -/
def inB (K : PySem.W.Frag) (C : Addr) (f : Addr) (qual file : Str) : Bool := match K.lookup f with
  | some ⟨_, _, .func fd, _⟩ => (match fd.closure, fd.code, fd.defaults with
    | [(x, cc)], .ref cda, .none => decide (x = "__class__") && (PySem.W.codeIn K (.ref cda) qual && ((match K.lookup cda with
        | some ⟨_, _, .fields vs, _⟩ => (match (vs[2]? : Option Value) with
          | some (Value.str y _) => decide (y = file)
          | _ => false)
        | _ => false) && (match K.lookup cc with
        | some ⟨_, _, .cell (some (.ref C')), _⟩ => decide (C' = C)
        | _ => false)))
    | _, _, _ => false)
  | _ => false
/-- one own error: its name, its __init__'s qualified name, arguments, body, scope -/
structure ErrD where
  x : Str
  qual : Str
  ar : Arguments
  body : List Stmt
  sc : Scope
def errB (K : PySem.W.Frag) (file : Str) (d : ErrD) : Bool :=
  clsB K (He.ga K d.x) && (inB K (He.ga K d.x) (iAd K d.x) d.qual file && (decide (PySem.W.findIn K (.ref (He.ga K d.x)) "__setattr__" = some (some (.builtin "object.__setattr__"))) && (decide (PySem.W.findIn K (.ref (He.ga K d.x)) "__init__" = some (some (.ref (iAd K d.x)))) &&
  (decide (PySem.W.typeIn K (.ref (iAd K d.x)) = some (.type "function")) && (PySem.W.keepIn K (.ref (He.ga K d.x)) && (decide (PySem.W.subIn K (.ref (He.ga K d.x)) (.type "BaseException") = some true) && (decide (PySem.W.subIn K (.ref (He.ga K d.x)) (.type "ValueError") = some true) &&
  (decide (PySem.W.typeIn K (.ref (He.ga K d.x)) = some (.type "type")) && (decide (PySem.W.mroIn K (He.ga K d.x) (.ref (He.ga K d.x)) = some true) && (decide (PySem.W.ks_superIn K (He.ga K d.x) (He.ga K d.x) "__init__" = some (some (.builtin "ValueError.__init__"))) &&
  decide (PySem.W.nsIn K cStatics "thirdparty.any" = some none)))))))))))
theorem errB_ok {K : PySem.W.Frag} {file : Str} {d : ErrD} (h : errB K file d = true) (e : inV K d.x = (some ("__init__", d.qual, d.ar, .stmts d.body, d.sc, mainGlobals, builtinsNs) : InV)) : ErrK K (He.ga K d.x) (iAd K d.x) d.ar d.body d.sc d.qual file := by
  unfold errB at h
  simp only [Bool.and_eq_true, decide_eq_true_eq] at h
  obtain ⟨h1, h2, h3, h4, h5, h6, h7, h8, h9, h10, h11, h12⟩ := h
  refine ⟨clsB_ok h1, h3, h4, h5, h6, h7, h8, h9, h10, h11, h12, ?_⟩
  unfold inV at e
  unfold inB at h2
  split at h2
  · rename_i oc od fd sl ho
    rw [ho] at e
    split at h2
    · rename_i x cc cda hcl hcd hdf
      simp only [Bool.and_eq_true, decide_eq_true_eq] at h2
      obtain ⟨hx, hci, h13, h14⟩ := h2
      subst hx
      obtain ⟨n1, n2, n3, n4, n5, n6, n7, n8, n9, n10, n11, n12, n13, n14, n15⟩ := fd
      dsimp only at hcl hcd hdf
      have e2 : some (n1, n2, n3, n4, n5, n6, n15) = some (("__init__" : Str), d.qual, d.ar, FuncBody.stmts d.body, d.sc, mainGlobals, builtinsNs) := e
      simp only [Option.some.injEq, Prod.mk.injEq] at e2
      obtain ⟨q1, q2, q3, q4, q5, q6, q7⟩ := e2
      subst q1 q2 q3 q4 q5 q6 q7 hcl hcd hdf
      split at h13
      · rename_i c1 d1 vs s1 hco
        split at h13
        · rename_i y tf hv
          have hy : y = file := by simpa using h13
          subst hy
          split at h14
          · rename_i c2 d2 C' s2 hce
            have hC : C' = He.ga K d.x := by simpa using h14
            subst hC
            exact ⟨oc, od, n9, n10, n11, n12, cda, cc, n14, sl, c1, c2, d1, d2, vs, s1, s2, tf, ho, hci, hco, hv, hce⟩
          · cases h14
        · cases h13
      · cases h13
    · cases h2
  · cases h2
end K63
set_option Elab.async false
set_option linter.all false
set_option maxRecDepth 100000
set_option maxHeartbeats 0
namespace K63
open PySem PySem.Spec PyProof.Rows L2
def loose : List Str := (["StepError", "BadNumber", "BadStep", "BadRow", "BadParameter", "NoRow", "TooGreat", "MOST_PART", "MOST_DEGREE", "MOST_ROW", "is_from", "is_number", "is_step", "need_step", "need_row", "number_of", "reduced", "as_poly", "times_so", "put_in", "value_of", "MOST_WHOLE", "check_degree", "whole_of", "MOST_LETTERS", "is_word", "need_word", "degree_of_word", "word_poly", "words_alike"] : List Str) ++ (["parting_number", "_law_mixed", "_law_begin", "_law_draw", "_law_number", "_law_step", "_law_row", "_law_divisor", "_law_frac", "_law_add", "_law_mul", "_law_trim", "_law_sum", "_law_product", "_law_within", "_law_whole", "_law_again", "_law_value", "_law_letters", "_law_word_step", "_law_heard", "_law_like", "_law_some_steps", "_law_parted", "_law_right", "_law_by_hand"] : List Str)
def theFile : Str := "/claim/cut.py"
def dd (p : Str × Nat) : He.DefD := ⟨(p.1, none), p.1, p.1, defArgs (top p.2), defBody (top p.2), defScope (top p.2), [], []⟩
def fn : List He.DefD := defs.map dd
def kons : List (Str × Int) := [("MOST_PART", 10 ^ 60), ("MOST_DEGREE", 64), ("MOST_ROW", 8), ("MOST_WHOLE", 256), ("MOST_LETTERS", 8)]
def fa : List He.Fa := defs.map (fun p => He.Fa.glo p.1) ++ blts.map He.Fa.free ++ kons.map (fun p => He.Fa.int p.1 p.2) ++ errs.map He.Fa.glo ++ [.glo "StepError"]
def tf : List He.Defn := [("_law_right", none), ("_law_by_hand", none)]
def cNum (i : Nat) : Stmt := inClass (top i) 0
def qi (x : Str) : Str := x ++ ".__init__"
def eD (x : Str) (i : Nat) : ErrD := ⟨x, qi x, defArgs (cNum i), defBody (cNum i), defScope (cNum i)⟩
def er : List ErrD := [eD "BadNumber" 3, eD "BadStep" 4, eD "BadRow" 5, eD "BadParameter" 6, eD "NoRow" 7, eD "TooGreat" 8]
def exB (K : PySem.W.Frag) : Bool := (!decide ((He.cT K ("_law_right", none)).2 = (He.cT K ("_law_by_hand", none)).2) && decide (PySem.W.nsIn K mainGlobals "gcd" = some (some (.builtin "math.gcd")))) &&
  (er.all (fun d => errB K theFile d) && (errs.all (fun x => xfB K (He.ga K x) && (decide (PySem.W.kitCls K (.ref (He.ga K x)) (.ref (He.ga K "StepError")) = some true) && !(Value.ref (He.ga K x) == .ref (He.ga K "StepError")))) &&
  (errs1.all (fun p => decide (PySem.W.findIn K (.ref (He.ga K p.1)) p.2 = some none)) && errs.all fun x => errs.all fun y => decide (PySem.W.exmOne K (.ref (He.ga K x)) (.ref (He.ga K y)) = some (decide (x = y))))))
abbrev AlZ : Type := He.AlD × (List InV × Bool)
def asZ (g : Addr → Option Obj) : List Addr := He.asD g 5 ++ [cStatics]
section
variable (fa : List He.Fa) (fn : List He.DefD) (er : List ErrD) (tf : List He.Defn) (exB : PySem.W.Frag → Bool)
def obsZ (g : Addr → Option Obj) : AlZ := (He.obsD fa fn (He.frT g (asZ g)), (er.map fun d => inV (He.frT g (asZ g)) d.x, exB (He.frT g (asZ g)) && He.tabsB g tf (He.frT g (asZ g))))
def valZ : AlZ := (He.valD fn, (er.map fun d => some ("__init__", d.qual, d.ar, .stmts d.body, d.sc, mainGlobals, builtinsNs), true))
/-- what the head says -/
structure SaysZ (h : Heap) (K : PySem.W.Frag) : Prop where
  d : He.SaysD fa fn K
  i : (er.map fun d => inV K d.x) = er.map fun d => (some ("__init__", d.qual, d.ar, .stmts d.body, d.sc, mainGlobals, builtinsNs) : InV)
  ex : exB K = true
  hd : ∀ p ∈ tf, PySem.W.codeHdIn K (He.cT K p).1 (He.cT K p).2 = true
  out : ∀ p ∈ tf, K.lookup (He.cT K p).2 = none
  empty : ∀ p ∈ tf, h.get? (He.cT K p).2 = some { cls := .none, data := .fields #[] }
variable {fa fn er tf exB}
theorem saysZ_of {h : Heap} (e : obsZ fa fn er tf exB h.get? = valZ fn er) : SaysZ fa fn er tf exB h (He.frT h.get? (asZ h.get?)) := by
  have e1 : He.obsD fa fn (He.frT h.get? (asZ h.get?)) = He.valD fn := congrArg (fun z : AlZ => z.1) e
  have e2 : (er.map fun d => inV (He.frT h.get? (asZ h.get?)) d.x) = er.map fun d => (some ("__init__", d.qual, d.ar, .stmts d.body, d.sc, mainGlobals, builtinsNs) : InV) := congrArg (fun z : AlZ => z.2.1) e
  have e3 : (exB (He.frT h.get? (asZ h.get?)) && He.tabsB h.get? tf (He.frT h.get? (asZ h.get?))) = true := congrArg (fun z : AlZ => z.2.2) e
  obtain ⟨h1, h2⟩ := Bool.and_eq_true_iff.mp e3
  have key : ∀ p ∈ tf, PySem.W.codeHdIn (He.frT h.get? (asZ h.get?)) (He.cT (He.frT h.get? (asZ h.get?)) p).1 (He.cT (He.frT h.get? (asZ h.get?)) p).2 = true ∧ ∃ o, h.get? (He.cT (He.frT h.get? (asZ h.get?)) p).2 = some o ∧ He.emptyTab o = true := fun p hp => by
    obtain ⟨h3, h4⟩ := Bool.and_eq_true_iff.mp (List.all_eq_true.mp h2 p hp)
    refine ⟨h3, ?_⟩
    cases q : h.get? (He.cT (He.frT h.get? (asZ h.get?)) p).2 with
    | none => rw [q] at h4; cases h4
    | some o => rw [q] at h4; exact ⟨o, rfl, h4⟩
  exact ⟨e1, e2, h1, fun p hp => (key p hp).1, fun p hp => let ⟨_, o, q, z⟩ := key p hp; He.frT_none q z, fun p hp => by
    obtain ⟨_, o, q, z⟩ := key p hp
    rw [q, He.emptyTab_eq z]⟩
variable (fa fn er tf exB)
def hookG : PySem.W.Hook where
  α := AlZ
  obs := fun s => obsZ fa fn er tf exB s.heap.get?
  val := fun _ => valZ fn er
  says := fun _ h => ∃ K : PySem.W.Frag, K.In h ∧ SaysZ fa fn er tf exB h K
  of := fun _ _ e => ⟨_, He.frT_in, saysZ_of e⟩
  keeps := fun _ _ _ ⟨K, hK, c⟩ k => ⟨K, PySem.W.Frag.In.keeps hK k, ⟨c.d, c.i, c.ex, c.hd, c.out, fun p hp => k _ _ (c.empty p hp)⟩⟩
def obG (s : PySem.W.SharedT) : AlZ := obsZ fa fn er tf exB (HandSHeadRun.getT s)
theorem obG_eq (s : PySem.W.SharedT) : obG fa fn er tf exB s = (hookG fa fn er tf exB).obs s.abs := by
  have e : HandSHeadRun.getT s = s.abs.heap.get? := funext (HandSHeadRun.getT_eq s)
  show obsZ fa fn er tf exB (HandSHeadRun.getT s) = obsZ fa fn er tf exB s.abs.heap.get?
  rw [e]
end
abbrev hookZ : PySem.W.Hook := hookG fa fn er tf exB
abbrev ob : PySem.W.SharedT → AlZ := obG fa fn er tf exB
theorem run (w : World) : HandSHeadRun.RunEqI R (PySem.W.view R.prog [0, 62]) hookZ ob 6000 loose w := by
  unfold HandSHeadRun.RunEqI
  kernel_rfl
end K63
set_option Elab.async false
set_option linter.all false
set_option maxRecDepth 100000
set_option maxHeartbeats 4000000
namespace K63
open PySem PySem.Spec PyProof.Rows L2
abbrev PR0 : Program := PySem.Challenge.pw_stepswithin_k63_whole_words_alike_or_par
def BK (K : PySem.W.Frag) (x : Str) : Addr := He.ga K x
section
variable {K : PySem.W.Frag} {h : Heap} {mg : Str → Option Value} {w : World}
theorem glo_of (X : K.In h) (G : h.Ns mainGlobals mg) (c : SaysZ fa fn er tf exB h K) {x : Str} (hx : He.Fa.glo x ∈ fa) : mg x = some (.ref (He.ga K x)) := He.glo_ok X G (c.d.facts hx)
theorem fa_def {x : Str} {i : Nat} (hx : (x, i) ∈ defs) : He.Fa.glo x ∈ fa := by
  unfold fa
  exact List.mem_append_left _ (List.mem_append_left _ (List.mem_append_left _ (List.mem_append_left _ (List.mem_map.mpr ⟨(x, i), hx, rfl⟩))))
theorem fa_free {x : Str} (hx : x ∈ blts) : He.Fa.free x ∈ fa := by
  unfold fa
  exact List.mem_append_left _ (List.mem_append_left _ (List.mem_append_left _ (List.mem_append_right _ (List.mem_map.mpr ⟨x, hx, rfl⟩))))
theorem fa_int {x : Str} {i : Int} (hx : (x, i) ∈ kons) : He.Fa.int x i ∈ fa := by
  unfold fa
  exact List.mem_append_left _ (List.mem_append_left _ (List.mem_append_right _ (List.mem_map.mpr ⟨(x, i), hx, rfl⟩)))
theorem fa_err {x : Str} (hx : x ∈ errs) : He.Fa.glo x ∈ fa := by
  unfold fa
  exact List.mem_append_left _ (List.mem_append_right _ (List.mem_map.mpr ⟨x, hx, rfl⟩))
theorem fa_step : He.Fa.glo "StepError" ∈ fa := by
  unfold fa
  exact List.mem_append_right _ (List.mem_singleton.mpr rfl)
theorem ex_parts (c : SaysZ fa fn er tf exB h K) : (He.cT K ("_law_right", none)).2 ≠ (He.cT K ("_law_by_hand", none)).2 ∧ PySem.W.nsIn K mainGlobals "gcd" = some (some (.builtin "math.gcd")) ∧ (∀ d ∈ er, errB K theFile d = true) ∧
    (∀ x ∈ errs, XfC K (He.ga K x) ∧ PySem.W.kitCls K (.ref (He.ga K x)) (.ref (He.ga K "StepError")) = some true ∧ (Value.ref (He.ga K x) == .ref (He.ga K "StepError")) = false) ∧
    (∀ p ∈ errs1, PySem.W.findIn K (.ref (He.ga K p.1)) p.2 = some none) ∧ ∀ x ∈ errs, ∀ y ∈ errs, PySem.W.exmOne K (.ref (He.ga K x)) (.ref (He.ga K y)) = some (decide (x = y)) := by
  have e := c.ex
  unfold exB at e
  simp only [Bool.and_eq_true, Bool.not_eq_true', decide_eq_true_eq, decide_eq_false_iff_not, List.all_eq_true] at e
  obtain ⟨⟨e1, e2⟩, e3, e4, e5, e6⟩ := e
  exact ⟨e1, e2, e3, fun x hx => ⟨xfB_ok (e4 x hx).1, (e4 x hx).2.1, (e4 x hx).2.2⟩, e5, e6⟩
theorem txt_of (X : K.In h) (G : h.Ns mainGlobals mg) (c : SaysZ fa fn er tf exB h K) : Txt K mg := by
  refine ⟨fun p hp => ?_, fun x hx => He.free_ok X G (c.d.facts (fa_free hx)), PySem.W.mg_of X G (ex_parts c).2.1, He.int_ok X G (c.d.facts (fa_int (by simp [kons]))), He.int_ok X G (c.d.facts (fa_int (by simp [kons]))), He.int_ok X G (c.d.facts (fa_int (by simp [kons]))), He.int_ok X G (c.d.facts (fa_int (by simp [kons]))), He.int_ok X G (c.d.facts (fa_int (by simp [kons])))⟩
  obtain ⟨x, i⟩ := p
  obtain ⟨fd, F⟩ := c.d.defs (d := dd (x, i)) (List.mem_map.mpr ⟨(x, i), hp, rfl⟩)
  exact ⟨He.ga K x, fd, F, glo_of X G c (fa_def hp)⟩
theorem err_of (X : K.In h) (G : h.Ns mainGlobals mg) (c : SaysZ fa fn er tf exB h K) {d : ErrD} (hd : d ∈ er) : ErrK K (He.ga K d.x) (iAd K d.x) d.ar d.body d.sc d.qual theFile := by
  refine errB_ok ((ex_parts c).2.2.1 d hd) ?_
  have e := c.i
  obtain ⟨i, hi, e1⟩ := List.mem_iff_getElem.mp hd
  have := congrArg (fun l : List InV => l[i]?) e
  simp only [List.getElem?_map, List.getElem?_eq_getElem hi, Option.map_some, e1] at this
  exact Option.some.inj this
theorem super_none (X : K.In h) (G : h.Ns mainGlobals mg) (c : SaysZ fa fn er tf exB h K) : mg "super" = none := He.free_ok X G (c.d.facts (fa_free (by simp [blts])))
theorem errs_of (X : K.In h) (G : h.Ns mainGlobals mg) (c : SaysZ fa fn er tf exB h K) : Errs PR0 w K mg (BK K) := by
  have su := super_none X G c
  obtain ⟨_, _, _, _, noF, _⟩ := ex_parts c
  have k1 := err_of X G c (d := eD "BadStep" 4) (by simp [er])
  have k2 := err_of X G c (d := eD "BadRow" 5) (by simp [er])
  have k3 := err_of X G c (d := eD "BadParameter" 6) (by simp [er])
  have k4 := err_of X G c (d := eD "TooGreat" 8) (by simp [er])
  have k5 := err_of X G c (d := eD "NoRow" 7) (by simp [er])
  refine ⟨⟨glo_of X G c (fa_err (by simp [errs])), _, _, _, _, _, _, k1, ?_⟩, ⟨glo_of X G c (fa_err (by simp [errs])), _, _, _, _, _, _, k2, ?_⟩, ⟨glo_of X G c (fa_err (by simp [errs])), _, _, _, _, _, _, k3, ?_⟩, ⟨glo_of X G c (fa_err (by simp [errs])), _, _, _, _, _, _, k4, ?_⟩, ⟨glo_of X G c (fa_err (by simp [errs])), _, _, _, _, _, _, k5, ?_⟩⟩
  · exact fun mb A s x t0 u R X' hlim G' B' hsb hx hnx hroom hq => init1 (msg := "no step") (a := "value") (f := "value") (mg := mg) (mb := mb) k1 (noF ("BadStep", "value") (by simp [errs1])) (by decide) (by decide) X' hlim G' su B' hsb hx hnx hroom (by decide +kernel) (by decide +kernel) (fun _ _ _ _ _ _ _ => rfl) (fun _ _ _ => rfl) rfl rfl hq
  · exact fun mb A s x t0 u R X' hlim G' B' hsb hx hnx hroom hq => init1 (msg := "no row") (a := "place") (f := "place") (mg := mg) (mb := mb) k2 (noF ("BadRow", "place") (by simp [errs1])) (by decide) (by decide) X' hlim G' su B' hsb hx hnx hroom (by decide +kernel) (by decide +kernel) (fun _ _ _ _ _ _ _ => rfl) (fun _ _ _ => rfl) rfl rfl hq
  · exact fun mb A s x t0 u R X' hlim G' B' hsb hx hnx hroom hq => init1 (msg := "not as told") (a := "value") (f := "value") (mg := mg) (mb := mb) k3 (noF ("BadParameter", "value") (by simp [errs1])) (by decide) (by decide) X' hlim G' su B' hsb hx hnx hroom (by decide +kernel) (by decide +kernel) (fun _ _ _ _ _ _ _ => rfl) (fun _ _ _ => rfl) rfl rfl hq
  · exact fun mb A s x t0 u R X' hlim G' B' hsb hx hnx hroom hq => init1 (msg := "too great") (a := "most") (f := "most") (mg := mg) (mb := mb) k4 (noF ("TooGreat", "most") (by simp [errs1])) (by decide) (by decide) X' hlim G' su B' hsb hx hnx hroom (by decide +kernel) (by decide +kernel) (fun _ _ _ _ _ _ _ => rfl) (fun _ _ _ => rfl) rfl rfl hq
  · exact fun mb A s x t0 R X' hlim G' B' hsb hx hroom hq => init0 (msg := "there is none") (mg := mg) (mb := mb) k5 X' hlim G' su B' hsb hx hroom (by decide +kernel) (by decide +kernel) (fun _ _ _ _ _ _ _ => rfl) (fun _ _ _ => rfl) hq
theorem heard_of (X : K.In h) (G : h.Ns mainGlobals mg) (c : SaysZ fa fn er tf exB h K) : HeardT K mg (BK K) (He.ga K "StepError") := by
  obtain ⟨_, _, _, hC, hF, hE⟩ := ex_parts c
  refine ⟨fun x hx => glo_of X G c (fa_err hx), glo_of X G c fa_step, hE, fun x hx => (hC x hx).2.1, fun x hx => (hC x hx).2.2, fun p hp => ⟨(hC p.1 ?_).1, hF p hp⟩⟩
  simp only [errs1, List.mem_cons, List.not_mem_nil, or_false] at hp
  rcases hp with rfl | rfl | rfl | rfl | rfl <;> simp [errs]
theorem at_of {x : Str} {i : Nat} (X : K.In h) (G : h.Ns mainGlobals mg) (c : SaysZ fa fn er tf exB h K) (hp : (x, i) ∈ defs) : AtC K mg x i (He.cT K (x, none)).1 := by
  obtain ⟨fd, F⟩ := c.d.defs (d := dd (x, i)) (List.mem_map.mpr ⟨(x, i), hp, rfl⟩)
  refine ⟨He.ga K x, fd, F, glo_of X G c (fa_def hp), ?_⟩
  obtain ⟨oc, od, dV, kV, doc, pm, an, cdv, ct, osl, e, lk, hcd, _, _⟩ := F.ex
  subst e
  obtain ⟨cd, rfl⟩ := He.codeIn_ref hcd
  exact congrArg Value.ref (He.codeOf_eq (p := (x, none)) lk rfl).symm
end
/-- the whole law, called by the judge -/
theorem law_call {w : World} {s₁ : Shared} {K : PySem.W.Frag} {mg mb : Str → Option Value} {fa' a : Addr} {vs : List Value} {ns : List Int} (KX : K.In s₁.heap) (c : SaysZ fa fn er tf exB s₁.heap K)
    (hns : s₁.heap.Ns mainGlobals mg) (hb : s₁.heap.Ns builtinsNs mb) (hbb : ∀ x : Str, x ≠ "__name__" → mb x = bootBuiltins x) (hlim : s₁.heap.NoLimit) (hg : s₁.gens = #[])
    (hbm : ∃ (bm : Addr) (ob : Obj), mg "__builtins__" = some (.ref bm) ∧ bm ≠ builtinsNs ∧ s₁.heap.get? bm = some ob ∧ ob.cls = .type "module" ∧ ob.dict = some builtinsNs ∧ ob.data = .plain)
    (hmg : mg "law" = some (.ref fa')) (ha : s₁.heap.get? a = some { cls := .type "list", data := .seq vs.toArray }) (hi : IntsAre vs ns) (hl : ns.length ≤ 63) :
    codeAny (model PR0 w) callerA (.call (.ref fa') ⟨[.ref a], []⟩) (fun r s' => r = .ok (.ret (.bool true)) ∧ OldK s₁.heap s'.heap ∧ s'.os = s₁.os ∧ AllBare s'.gens) s₁ := by
  have T := txt_of KX hns c
  have Er := errs_of (w := w) KX hns c
  have Ht := heard_of KX hns c
  obtain ⟨hne, _⟩ := ex_parts c
  have hR := at_of KX hns c (x := "_law_right") (i := 60) (by simp [defs, nn])
  have hH := at_of KX hns c (x := "_law_by_hand") (i := 61) (by simp [defs, nn])
  obtain ⟨fd, F⟩ := c.d.defs (d := dd ("law", 62)) (List.mem_map.mpr ⟨("law", 62), by simp [defs, nn], rfl⟩)
  obtain rfl : fa' = He.ga K "law" := by
    have e := hmg.symm.trans (glo_of KX hns c (fa_def (x := "law") (i := 62) (by simp [defs, nn])))
    exact Value.ref.inj (Option.some.inj e)
  refine law_runs (cs := [He.cT K ("_law_right", none), He.cT K ("_law_by_hand", none)]) KX hns hb hbb hlim hg (fun p hp => ?_) (fun p hp => ?_) (fun p hp => ?_) hbm ha hi (Nat.le_trans hl (by decide)) fun base H kin hns' tb hH' hS e0 => ?_
  · have := c.empty
    simp only [List.mem_cons, List.not_mem_nil, or_false] at hp
    rcases hp with rfl | rfl
    · exact this ("_law_right", none) (by simp [tf])
    · exact this ("_law_by_hand", none) (by simp [tf])
  · have := c.out
    simp only [List.mem_cons, List.not_mem_nil, or_false] at hp
    rcases hp with rfl | rfl
    · exact this ("_law_right", none) (by simp [tf])
    · exact this ("_law_by_hand", none) (by simp [tf])
  · have := c.hd
    simp only [List.mem_cons, List.not_mem_nil, or_false] at hp
    rcases hp with rfl | rfl
    · exact PySem.W.codeHd_of_K KX (this ("_law_right", none) (by simp [tf]))
    · exact PySem.W.codeHd_of_K KX (this ("_law_by_hand", none) (by simp [tf]))
  · refine ok_law T Er Ht (tb _ (by simp)) (tb _ (by simp)) hne hR hH F callerA [] s₁ H [.ref a] [.ref a] _ _ ⟨rfl, by decide, by decide⟩ rfl e0 (.cons rfl .nil) ⟨a, ns, rfl, hS, by omega, fun p hp => ?_, fun _ => rfl⟩
    simp only [List.mem_cons, List.not_mem_nil, or_false] at hp
    rcases hp with rfl | rfl
    · exact LamX.TabS.nil (hH' _ (by simp))
    · exact LamX.TabS.nil (hH' _ (by simp))
end K63
open PySem PySem.W PySem.Calls PyProof.Rows
theorem PySem.Challenge.cw_stepswithin_k63_whole_words_alike_or_par_holds : PySem.Challenge.rw_stepswithin_k63_whole_words_alike_or_par.Holds := by
  w_on; o_law
  refine HandSHeadRun.head_imp (r := OpenLaw.row PySem.Challenge.rw_stepswithin_k63_whole_words_alike_or_par) (q := view (OpenLaw.row PySem.Challenge.rw_stepswithin_k63_whole_words_alike_or_par).prog [0, 62]) (H := K63.hookZ) (ob := K63.ob) (M := 6000) (loose := K63.loose) (d := HandSHeadRun.topDef (OpenLaw.row PySem.Challenge.rw_stepswithin_k63_whole_words_alike_or_par).prog 62) (kwd := []) (K63.obG_eq _ _ _ _ _)
    K63.run (by kernel_rfl) (by kernel_rfl) (by kernel_rfl) (by rfl) (by first | assumption | decide +kernel) (by decide +kernel) ⟨rfl, rfl, rfl, rfl, rfl, by decide +kernel⟩ ?hw ?hc
  case hw => w_witness2
  case hc =>
    refine Att.attach_callB (l := PySem.Challenge.rw_stepswithin_k63_whole_words_alike_or_par) (n := 63) rfl (by kernel_rfl) fun w s₀ s₁ mg mb fa' o pm cd doc a vs ns G Y ho hd hcd hmg0 hobj hints hlen hbits hg => ?_
    obtain ⟨K, KX, c⟩ := Y
    have hmg : mg ("law" : PySem.Str) = some (.ref fa') := by
      have e : (HandSHeadRun.topDef (OpenLaw.row PySem.Challenge.rw_stepswithin_k63_whole_words_alike_or_par).prog 62).name = ("law" : PySem.Str) := by kernel_rfl
      rw [← e]
      exact hmg0
    exact K63.law_call KX c G.T.g G.T.b G.T.builtins G.T.nolimit hg G.T.bmain hmg hobj hints hlen
