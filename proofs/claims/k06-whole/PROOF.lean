import PyProof.Rows.All
import PySem.Str
import KE.KeyNested
import KE.KDictKeyed
import Wide.All
import OpenK.AllK
import Wide.FinOn
import HandS.ForMost
import HandS.EndBits
import HandS.Deep
import HandS.IsInst
import HandS.StrMore
import HandS.Set
import HandS.Strs
import HandS.SortInts
import HandS.Flow
import HandS.WrittenGet
import KE.KDictCopyH
import KE.GoesComp
import KE.GoesMore
import HandS.SetFor
import HandS.Walk
import PySem.Challenge.RW_sealedtalk_k06_whole_terms_and_wordings
set_option Elab.async false
set_option linter.all false
/-! The plain law: terms, their parts, wordings, renamings; no program in sight. -/
namespace K6
open PySem

/-! ### texts as lists of codes -/
abbrev cl (x : Str) : List Nat := x.cps.toList
def mks (l : List Nat) : Str := ⟨l.toArray⟩
theorem cl_mks (l : List Nat) : cl (mks l) = l := rfl
theorem cl_inj {x y : Str} (h : cl x = cl y) : x = y := by
  cases x; cases y
  exact congrArg Str.mk (Array.toList_inj.mp h)
theorem mks_cl (x : Str) : mks (cl x) = x := cl_inj rfl
theorem mks_app (a b : List Nat) : mks a ++ mks b = mks (a ++ b) := by
  apply cl_inj
  show (a.toArray ++ b.toArray).toList = (a ++ b).toArray.toList
  simp
theorem len_mks (l : List Nat) : (mks l).length = l.length := by
  show l.toArray.size = l.length
  simp
theorem len_cl (x : Str) : x.length = (cl x).length := by
  show x.cps.size = x.cps.toList.length
  simp

/-! ### terms -/
inductive T1 where | half | mix
  deriving DecidableEq
inductive T2 where | pair | box | shut | mark
  deriving DecidableEq
inductive Tm where
  | nm (s : Str)
  | one (k : T1) (a : Tm)
  | two (k : T2) (a b : Tm)
  deriving DecidableEq

def Let (c : Nat) : Prop := 97 ≤ c ∧ c ≤ 122
structure IsNm (s : Str) : Prop where
  lo : 1 ≤ (cl s).length
  hi : (cl s).length ≤ 8
  all : ∀ c ∈ cl s, Let c
def isN : Tm → Bool
  | .nm _ => true
  | _ => false
def Ok : Tm → Prop
  | .nm s => IsNm s
  | .one .half a => isN a = true ∧ Ok a
  | .one .mix a => Ok a
  | .two .shut a b => isN a = true ∧ Ok a ∧ Ok b
  | .two .mark a b => isN a = true ∧ Ok a ∧ Ok b
  | .two .pair a b => Ok a ∧ Ok b
  | .two .box a b => Ok a ∧ Ok b
theorem Ok.one {k : T1} {a : Tm} (h : Ok (.one k a)) : Ok a := by
  cases k
  · exact h.2
  · exact h
theorem Ok.fst {k : T2} {a b : Tm} (h : Ok (.two k a b)) : Ok a := by
  cases k
  · exact h.1
  · exact h.1
  · exact h.2.1
  · exact h.2.1
theorem Ok.snd {k : T2} {a b : Tm} (h : Ok (.two k a b)) : Ok b := by
  cases k
  · exact h.2
  · exact h.2
  · exact h.2.2
  · exact h.2.2
theorem isN_iff {a : Tm} (h : isN a = true) : ∃ s, a = .nm s := by
  cases a with
  | nm s => exact ⟨s, rfl⟩
  | one _ _ => cases h
  | two _ _ _ => cases h
def dep : Tm → Nat
  | .nm _ => 1
  | .one _ a => dep a + 1
  | .two _ a b => max (dep a) (dep b) + 1
def siz : Tm → Nat
  | .nm _ => 1
  | .one _ a => siz a
  | .two _ a b => siz a + siz b
/-- how many places -/
def cnt : Tm → Nat
  | .nm _ => 1
  | .one _ a => cnt a + 1
  | .two _ a b => cnt a + cnt b + 1
theorem dep_pos : ∀ t, 1 ≤ dep t
  | .nm _ => Nat.le_refl _
  | .one _ _ => Nat.le_add_left _ _
  | .two _ _ _ => Nat.le_add_left _ _
theorem siz_pos : ∀ t, 1 ≤ siz t
  | .nm _ => Nat.le_refl _
  | .one _ a => siz_pos a
  | .two _ a b => by have := siz_pos a; show 1 ≤ siz a + siz b; omega
theorem siz_le : ∀ (t : Tm) (n : Nat), dep t ≤ n + 1 → siz t ≤ 2 ^ n
  | .nm _, n, _ => Nat.one_le_two_pow
  | .one _ a, n, h => siz_le a n (by have : dep (.one ‹_› a) = dep a + 1 := rfl; omega)
  | .two _ a b, n, h => by
    have e : dep (.two ‹_› a b) = max (dep a) (dep b) + 1 := rfl
    have pa := dep_pos a
    cases n with
    | zero => omega
    | succ n =>
      have h1 := siz_le a n (by omega)
      have h2 := siz_le b n (by omega)
      show siz a + siz b ≤ 2 ^ (n + 1)
      rw [Nat.pow_succ]
      omega
theorem cnt_le : ∀ (t : Tm) (n : Nat), dep t ≤ n → cnt t ≤ 2 ^ n - 1
  | .nm _, n, h => by
    have h : 1 ≤ n := h
    have : 2 ^ 1 ≤ 2 ^ n := Nat.pow_le_pow_right (by omega) h
    show 1 ≤ 2 ^ n - 1
    omega
  | .one _ a, n, h => by
    have e : dep (.one ‹_› a) = dep a + 1 := rfl
    cases n with
    | zero => omega
    | succ n =>
      have h1 := cnt_le a n (by omega)
      show cnt a + 1 ≤ 2 ^ (n + 1) - 1
      have : 1 ≤ 2 ^ n := Nat.one_le_two_pow
      rw [Nat.pow_succ]
      omega
  | .two _ a b, n, h => by
    have e : dep (.two ‹_› a b) = max (dep a) (dep b) + 1 := rfl
    cases n with
    | zero => omega
    | succ n =>
      have h1 := cnt_le a n (by omega)
      have h2 := cnt_le b n (by omega)
      show cnt a + cnt b + 1 ≤ 2 ^ (n + 1) - 1
      have : 1 ≤ 2 ^ n := Nat.one_le_two_pow
      rw [Nat.pow_succ]
      omega
/-- names, and what stands in a term, from the left -/
def lvs : Tm → List Str
  | .nm s => [s]
  | .one _ a => lvs a
  | .two _ a b => lvs a ++ lvs b
def pts : Tm → List Tm
  | .nm s => [.nm s]
  | .one k a => .one k a :: pts a
  | .two k a b => .two k a b :: (pts a ++ pts b)
theorem lvs_len : ∀ t, (lvs t).length = siz t
  | .nm _ => rfl
  | .one _ a => lvs_len a
  | .two _ a b => by
    show (lvs a ++ lvs b).length = siz a + siz b
    rw [List.length_append, lvs_len a, lvs_len b]
theorem pts_len : ∀ t, (pts t).length = cnt t
  | .nm _ => rfl
  | .one _ a => by
    show (pts a).length + 1 = cnt a + 1
    rw [pts_len a]
  | .two _ a b => by
    show (pts a ++ pts b).length + 1 = cnt a + cnt b + 1
    rw [List.length_append, pts_len a, pts_len b]
theorem pts_self (t : Tm) : t ∈ pts t := by
  cases t <;> exact List.mem_cons_self
/-- a part of a term that is no deeper than n is one -/
theorem pts_ok : ∀ (t : Tm), Ok t → ∀ p ∈ pts t, Ok p ∧ dep p ≤ dep t
  | .nm s, h, p, m => by
    rcases List.mem_singleton.mp m with rfl
    exact ⟨h, Nat.le_refl _⟩
  | .one k a, h, p, m => by
    have e : dep (.one k a) = dep a + 1 := rfl
    rcases List.mem_cons.mp m with rfl | m
    · exact ⟨h, Nat.le_refl _⟩
    · obtain ⟨q, d⟩ := pts_ok a h.one p m
      exact ⟨q, by omega⟩
  | .two k a b, h, p, m => by
    have e : dep (.two k a b) = max (dep a) (dep b) + 1 := rfl
    rcases List.mem_cons.mp m with rfl | m
    · exact ⟨h, Nat.le_refl _⟩
    · rcases List.mem_append.mp m with m | m
      · obtain ⟨q, d⟩ := pts_ok a h.fst p m
        exact ⟨q, by omega⟩
      · obtain ⟨q, d⟩ := pts_ok b h.snd p m
        exact ⟨q, by omega⟩
theorem pts_cnt : ∀ (t p : Tm), p ∈ pts t → cnt p ≤ cnt t
  | .nm s, p, m => by
    rcases List.mem_singleton.mp m with rfl
    exact Nat.le_refl _
  | .one k a, p, m => by
    have e : cnt (.one k a) = cnt a + 1 := rfl
    rcases List.mem_cons.mp m with rfl | m
    · exact Nat.le_refl _
    · have := pts_cnt a p m
      omega
  | .two k a b, p, m => by
    have e : cnt (.two k a b) = cnt a + cnt b + 1 := rfl
    rcases List.mem_cons.mp m with rfl | m
    · exact Nat.le_refl _
    · rcases List.mem_append.mp m with m | m
      · have := pts_cnt a p m
        omega
      · have := pts_cnt b p m
        omega
/-- the names of a part stand in the whole -/
theorem pts_lvs : ∀ (t p : Tm), p ∈ pts t → ∀ s ∈ lvs p, s ∈ lvs t
  | .nm s, p, m => by
    rcases List.mem_singleton.mp m with rfl
    exact fun _ h => h
  | .one k a, p, m => by
    rcases List.mem_cons.mp m with rfl | m
    · exact fun _ h => h
    · exact pts_lvs a p m
  | .two k a b, p, m => by
    rcases List.mem_cons.mp m with rfl | m
    · exact fun _ h => h
    · intro s hs
      rcases List.mem_append.mp m with m | m
      · exact List.mem_append_left _ (pts_lvs a p m s hs)
      · exact List.mem_append_right _ (pts_lvs b p m s hs)
theorem pts_dep : ∀ (t p : Tm), p ∈ pts t → dep p ≤ dep t
  | .nm s, p, m => by
    rcases List.mem_singleton.mp m with rfl
    exact Nat.le_refl _
  | .one k a, p, m => by
    have e : dep (.one k a) = dep a + 1 := rfl
    rcases List.mem_cons.mp m with rfl | m
    · exact Nat.le_refl _
    · have := pts_dep a p m
      omega
  | .two k a b, p, m => by
    have e : dep (.two k a b) = max (dep a) (dep b) + 1 := rfl
    rcases List.mem_cons.mp m with rfl | m
    · exact Nat.le_refl _
    · rcases List.mem_append.mp m with m | m
      · have := pts_dep a p m
        omega
      · have := pts_dep b p m
        omega
theorem lvs_nm : ∀ (t : Tm), Ok t → ∀ s ∈ lvs t, IsNm s
  | .nm s, h, x, m => by
    rcases List.mem_singleton.mp m with rfl
    exact h
  | .one k a, h, x, m => lvs_nm a h.one x m
  | .two k a b, h, x, m => by
    rcases List.mem_append.mp m with m | m
    · exact lvs_nm a h.fst x m
    · exact lvs_nm b h.snd x m

/-! ### renaming -/
def ren (f : Str → Str) : Tm → Tm
  | .nm s => .nm (f s)
  | .one k a => .one k (ren f a)
  | .two k a b => .two k (ren f a) (ren f b)
theorem isN_ren (f : Str → Str) (a : Tm) : isN (ren f a) = isN a := by cases a <;> rfl
theorem dep_ren (f : Str → Str) : ∀ t, dep (ren f t) = dep t
  | .nm _ => rfl
  | .one _ a => by show dep (ren f a) + 1 = dep a + 1; rw [dep_ren f a]
  | .two _ a b => by show max (dep (ren f a)) (dep (ren f b)) + 1 = max (dep a) (dep b) + 1; rw [dep_ren f a, dep_ren f b]
theorem Ok.ren {f : Str → Str} : ∀ {t : Tm}, Ok t → (∀ s ∈ lvs t, IsNm (f s)) → Ok (ren f t)
  | .nm s, _, hf => hf s (List.mem_singleton.mpr rfl)
  | .one .half a, h, hf => ⟨by rw [isN_ren]; exact h.1, Ok.ren h.2 hf⟩
  | .one .mix a, h, hf => Ok.ren (t := a) h hf
  | .two .shut a b, h, hf => ⟨by rw [isN_ren]; exact h.1, Ok.ren h.2.1 fun s m => hf s (List.mem_append_left _ m), Ok.ren h.2.2 fun s m => hf s (List.mem_append_right _ m)⟩
  | .two .mark a b, h, hf => ⟨by rw [isN_ren]; exact h.1, Ok.ren h.2.1 fun s m => hf s (List.mem_append_left _ m), Ok.ren h.2.2 fun s m => hf s (List.mem_append_right _ m)⟩
  | .two .pair a b, h, hf => ⟨Ok.ren h.1 fun s m => hf s (List.mem_append_left _ m), Ok.ren h.2 fun s m => hf s (List.mem_append_right _ m)⟩
  | .two .box a b, h, hf => ⟨Ok.ren h.1 fun s m => hf s (List.mem_append_left _ m), Ok.ren h.2 fun s m => hf s (List.mem_append_right _ m)⟩
theorem pts_ren (f : Str → Str) : ∀ t, pts (ren f t) = (pts t).map (ren f)
  | .nm _ => rfl
  | .one k a => by
    show ren f (.one k a) :: pts (ren f a) = ren f (.one k a) :: (pts a).map (ren f)
    rw [pts_ren f a]
  | .two k a b => by
    show ren f (.two k a b) :: (pts (ren f a) ++ pts (ren f b)) = ren f (.two k a b) :: (pts a ++ pts b).map (ren f)
    rw [pts_ren f a, pts_ren f b, List.map_append]
theorem ren_inj {f : Str → Str} : ∀ {t u : Tm}, (∀ x ∈ lvs t, ∀ y ∈ lvs u, f x = f y → x = y) → ren f t = ren f u → t = u
  | .nm s, .nm s', h, e => by
    have e : Tm.nm (f s) = .nm (f s') := e
    injection e with e
    rw [h s (List.mem_singleton.mpr rfl) s' (List.mem_singleton.mpr rfl) e]
  | .one k a, .one k' a', h, e => by
    have e : Tm.one k (ren f a) = .one k' (ren f a') := e
    injection e with e1 e2
    rw [e1, ren_inj (t := a) (u := a') h e2]
  | .two k a b, .two k' a' b', h, e => by
    have e : Tm.two k (ren f a) (ren f b) = .two k' (ren f a') (ren f b') := e
    injection e with e1 e2 e3
    rw [e1, ren_inj (t := a) (u := a') (fun x hx y hy => h x (List.mem_append_left _ hx) y (List.mem_append_left _ hy)) e2,
      ren_inj (t := b) (u := b') (fun x hx y hy => h x (List.mem_append_right _ hx) y (List.mem_append_right _ hy)) e3]
  | .nm _, .one _ _, _, e => nomatch e
  | .nm _, .two _ _ _, _, e => nomatch e
  | .one _ _, .nm _, _, e => nomatch e
  | .one _ _, .two _ _ _, _, e => nomatch e
  | .two _ _ _, .nm _, _, e => nomatch e
  | .two _ _ _, .one _ _, _, e => nomatch e

/-! ### each once -/
def ins (l : List Tm) (x : Tm) : List Tm := if x ∈ l then l else l ++ [x]
def dd (l : List Tm) : List Tm := l.foldl ins []
theorem dd_snoc (l : List Tm) (x : Tm) : dd (l ++ [x]) = ins (dd l) x := by
  show (l ++ [x]).foldl ins [] = _
  rw [List.foldl_append]
  rfl
/-- from the right -/
theorem snoc_ind {α : Type} {P : List α → Prop} (h0 : P []) (h1 : ∀ l x, P l → P (l ++ [x])) (l : List α) : P l := by
  have q : ∀ m : List α, P m.reverse := fun m => by
    induction m with
    | nil => exact h0
    | cons x m ih => rw [List.reverse_cons]; exact h1 _ x ih
  have := q l.reverse
  rwa [List.reverse_reverse] at this
theorem mem_ins {l : List Tm} {x y : Tm} : y ∈ ins l x ↔ y ∈ l ∨ y = x := by
  unfold ins
  split
  · rename_i h
    constructor
    · exact .inl
    · rintro (m | rfl)
      · exact m
      · exact h
  · rw [List.mem_append, List.mem_singleton]
theorem mem_dd {y : Tm} (l : List Tm) : y ∈ dd l ↔ y ∈ l := by
  induction l using snoc_ind with
  | h0 => exact Iff.rfl
  | h1 l x ih => rw [dd_snoc, mem_ins, ih, List.mem_append, List.mem_singleton]
theorem nodup_ins {l : List Tm} {x : Tm} (h : l.Nodup) : (ins l x).Nodup := by
  unfold ins
  split
  · exact h
  · rename_i hx
    rw [List.nodup_append]
    refine ⟨h, by simp, fun a ha b hb => ?_⟩
    rcases List.mem_singleton.mp hb with rfl
    exact fun e => hx (e ▸ ha)
theorem nodup_dd (l : List Tm) : (dd l).Nodup := by
  induction l using snoc_ind with
  | h0 => exact List.nodup_nil
  | h1 l x ih => rw [dd_snoc]; exact nodup_ins ih
theorem length_dd (l : List Tm) : (dd l).length ≤ l.length := by
  induction l using snoc_ind with
  | h0 => exact Nat.le_refl _
  | h1 l x ih =>
    rw [dd_snoc]
    unfold ins
    split <;> simp <;> omega
theorem dd_map {f : Tm → Tm} (l : List Tm) (h : ∀ x ∈ l, ∀ y ∈ l, f x = f y → x = y) : dd (l.map f) = (dd l).map f := by
  induction l using snoc_ind with
  | h0 => rfl
  | h1 l x ih =>
    rw [List.map_append, List.map_singleton, dd_snoc, dd_snoc, ih fun a ha b hb => h a (List.mem_append_left _ ha) b (List.mem_append_left _ hb)]
    unfold ins
    have hiff : f x ∈ (dd l).map f ↔ x ∈ dd l := by
      rw [List.mem_map]
      constructor
      · rintro ⟨y, hy, e⟩
        have hy' := (mem_dd l).mp hy
        rw [← h y (List.mem_append_left _ hy') x (List.mem_append_right _ (List.mem_singleton.mpr rfl)) e]
        exact hy
      · exact fun m => ⟨x, m, rfl⟩
    by_cases m : x ∈ dd l
    · rw [if_pos m, if_pos (hiff.mpr m)]
    · rw [if_neg m, if_neg (fun q => m (hiff.mp q)), List.map_append, List.map_singleton]
theorem foldl_ins (acc b : List Tm) : b.foldl ins acc = acc ++ (dd b).filter (fun x => decide (x ∉ acc)) := by
  induction b using snoc_ind with
  | h0 => simp [dd]
  | h1 l x ih =>
    rw [List.foldl_append, dd_snoc]
    show ins (l.foldl ins acc) x = _
    rw [ih]
    unfold ins
    by_cases m : x ∈ dd l
    · rw [if_pos m]
      by_cases a : x ∈ acc
      · rw [if_pos (List.mem_append_left _ a)]
      · rw [if_pos (List.mem_append_right _ (List.mem_filter.mpr ⟨m, decide_eq_true a⟩))]
    · rw [if_neg m, List.filter_append]
      by_cases a : x ∈ acc
      · rw [if_pos (List.mem_append_left _ a)]
        simp [a]
      · rw [if_neg]
        · simp [a]
        · rw [List.mem_append, List.mem_filter]
          rintro (q | ⟨q, _⟩)
          · exact a q
          · exact m q
theorem dd_app (a b : List Tm) : dd (a ++ b) = dd a ++ (dd b).filter (fun x => decide (x ∉ dd a)) := by
  show (a ++ b).foldl ins [] = _
  rw [List.foldl_append, foldl_ins]
  rfl
theorem dd_cons {x : Tm} {l : List Tm} (h : x ∉ l) : dd (x :: l) = x :: dd l := by
  have e := dd_app [x] l
  have e1 : dd [x] = [x] := rfl
  rw [List.singleton_append, e1] at e
  rw [e, List.singleton_append]
  congr 1
  rw [List.filter_eq_self]
  intro y hy
  refine decide_eq_true fun q => h ?_
  rcases List.mem_singleton.mp q with rfl
  exact (mem_dd l).mp hy
/-- the last question of the law -/
theorem dd_pair (k : T2) (a b : Tm) : dd (pts (.two k a b)) = .two k a b :: (dd (pts a) ++ (dd (pts b)).filter (fun x => decide (x ∉ dd (pts a)))) := by
  show dd (.two k a b :: (pts a ++ pts b)) = _
  rw [dd_cons, dd_app]
  intro m
  have e : cnt (.two k a b) = cnt a + cnt b + 1 := rfl
  rcases List.mem_append.mp m with m | m
  · have := pts_cnt _ _ m
    omega
  · have := pts_cnt _ _ m
    omega
theorem dd_ren {f : Str → Str} (t : Tm) (h : ∀ x ∈ lvs t, ∀ y ∈ lvs t, f x = f y → x = y) : dd (pts (ren f t)) = (dd (pts t)).map (ren f) := by
  rw [pts_ren]
  refine dd_map _ fun p hp q hq e => ren_inj (fun x hx y hy => h x (pts_lvs t p hp x hx) y (pts_lvs t q hq y hy)) e

/-! ### wordings -/
def wd : Tm → List Nat
  | .nm s => cl s
  | .one .half a => [104, 97, 108, 102, 32] ++ wd a
  | .one .mix a => [109, 105, 120, 40] ++ (wd a ++ [41])
  | .two .pair a b => [40] ++ (wd a ++ ([32, 38, 32] ++ (wd b ++ [41])))
  | .two .box a b => [91] ++ (wd b ++ ([93] ++ (if isN a = true then wd a else [60] ++ (wd a ++ [62]))))
  | .two .shut a b => [123] ++ (wd b ++ ([125] ++ wd a))
  | .two .mark a b => [40] ++ (wd b ++ ([33] ++ (wd a ++ [41])))
theorem wd_box_nm (s : Str) (b : Tm) : wd (.two .box (.nm s) b) = [91] ++ (wd b ++ ([93] ++ cl s)) := rfl
theorem wd_len : ∀ t, Ok t → (wd t).length ≤ 12 * cnt t
  | .nm s, h => by
    have := h.hi
    show (cl s).length ≤ 12 * 1
    omega
  | .one .half a, h => by
    have := wd_len a h.2
    show (wd a).length + 5 ≤ 12 * (cnt a + 1)
    omega
  | .one .mix a, h => by
    have := wd_len a h
    show ((wd a ++ [41]).length + 4 : Nat) ≤ 12 * (cnt a + 1)
    rw [List.length_append, List.length_singleton]
    omega
  | .two .pair a b, h => by
    have h1 := wd_len a h.1
    have h2 := wd_len b h.2
    show (wd (.two .pair a b)).length ≤ 12 * (cnt a + cnt b + 1)
    simp only [wd, List.length_append, List.length_cons, List.length_nil]
    omega
  | .two .box a b, h => by
    have h1 := wd_len a h.1
    have h2 := wd_len b h.2
    show (wd (.two .box a b)).length ≤ 12 * (cnt a + cnt b + 1)
    simp only [wd, List.length_append, List.length_cons, List.length_nil]
    split
    · omega
    · simp only [List.length_append, List.length_cons, List.length_nil]; omega
  | .two .shut a b, h => by
    have h1 := wd_len a h.2.1
    have h2 := wd_len b h.2.2
    show (wd (.two .shut a b)).length ≤ 12 * (cnt a + cnt b + 1)
    simp only [wd, List.length_append, List.length_cons, List.length_nil]
    omega
  | .two .mark a b, h => by
    have h1 := wd_len a h.2.1
    have h2 := wd_len b h.2.2
    show (wd (.two .mark a b)).length ≤ 12 * (cnt a + cnt b + 1)
    simp only [wd, List.length_append, List.length_cons, List.length_nil]
    omega
/-- a part's wording stands in the whole's -/
theorem pts_wd : ∀ (t p : Tm), p ∈ pts t → ∃ l r, wd t = l ++ (wd p ++ r)
  | .nm s, p, m => by
    rcases List.mem_singleton.mp m with rfl
    exact ⟨[], [], by simp⟩
  | .one k a, p, m => by
    rcases List.mem_cons.mp m with rfl | m
    · exact ⟨[], [], by simp⟩
    · obtain ⟨l, r, e⟩ := pts_wd a p m
      cases k
      · exact ⟨[104, 97, 108, 102, 32] ++ l, r, by rw [wd, e]; simp⟩
      · exact ⟨[109, 105, 120, 40] ++ l, r ++ [41], by rw [wd, e]; simp⟩
  | .two k a b, p, m => by
    rcases List.mem_cons.mp m with rfl | m
    · exact ⟨[], [], by simp⟩
    · rcases List.mem_append.mp m with m | m
      · obtain ⟨l, r, e⟩ := pts_wd a p m
        cases k
        · exact ⟨[40] ++ l, r ++ ([32, 38, 32] ++ (wd b ++ [41])), by rw [wd, e]; simp⟩
        · by_cases c : isN a = true
          · exact ⟨[91] ++ (wd b ++ [93]) ++ l, r, by rw [wd, if_pos c, e]; simp⟩
          · exact ⟨[91] ++ (wd b ++ [93]) ++ [60] ++ l, r ++ [62], by rw [wd, if_neg c, e]; simp⟩
        · exact ⟨[123] ++ (wd b ++ [125]) ++ l, r, by rw [wd, e]; simp⟩
        · exact ⟨[40] ++ (wd b ++ [33]) ++ l, r ++ [41], by rw [wd, e]; simp⟩
      · obtain ⟨l, r, e⟩ := pts_wd b p m
        cases k
        · exact ⟨[40] ++ (wd a ++ [32, 38, 32]) ++ l, r ++ [41], by rw [wd, e]; simp⟩
        · exact ⟨[91] ++ l, r ++ ([93] ++ (if isN a = true then wd a else [60] ++ (wd a ++ [62]))), by rw [wd, e]; simp⟩
        · exact ⟨[123] ++ l, r ++ ([125] ++ wd a), by rw [wd, e]; simp⟩
        · exact ⟨[40] ++ l, r ++ ([33] ++ (wd a ++ [41])), by rw [wd, e]; simp⟩

/-! ### wordings are read in one way -/
def NoLet (r : List Nat) : Prop := ∀ c q, r = c :: q → ¬ Let c
/-- what may stand behind a wording -/
def Fol (r : List Nat) : Prop := r = [] ∨ ∃ c q, r = c :: q ∧ (c = 41 ∨ c = 93 ∨ c = 125 ∨ c = 62 ∨ c = 33 ∨ (c = 32 ∧ ∃ q', q = 38 :: 32 :: q'))
theorem Fol.noLet {r : List Nat} (h : Fol r) : NoLet r := by
  intro c q e l
  rcases h with rfl | ⟨c', q', rfl, h⟩
  · cases e
  · injection e with e1 e2
    subst e1
    obtain ⟨l1, l2⟩ := l
    omega
theorem noLet_cons {c : Nat} {r : List Nat} (h : ¬ Let c) : NoLet (c :: r) := by
  intro d q e l
  injection e with e1 e2
  exact h (e1 ▸ l)
theorem noLet_nil : NoLet [] := fun _ _ e => nomatch e
theorem fol_nil : Fol [] := .inl rfl
theorem fol_cons {c : Nat} {r : List Nat} (h : c = 41 ∨ c = 93 ∨ c = 125 ∨ c = 62 ∨ c = 33) : Fol (c :: r) :=
  .inr ⟨c, r, rfl, by rcases h with h | h | h | h | h <;> simp [h]⟩
theorem fol_and {r : List Nat} : Fol (32 :: 38 :: 32 :: r) := .inr ⟨32, _, rfl, by simp⟩
theorem letters : ∀ {a b r q : List Nat}, (∀ c ∈ a, Let c) → (∀ c ∈ b, Let c) → NoLet r → NoLet q → a ++ r = b ++ q → a = b ∧ r = q
  | [], [], _, _, _, _, _, _, e => ⟨rfl, e⟩
  | [], c :: b, r, q, _, hb, hr, _, e => absurd (hb c List.mem_cons_self) (hr c _ e)
  | c :: a, [], r, q, ha, _, _, hq, e => absurd (ha c List.mem_cons_self) (hq c _ e.symm)
  | c :: a, d :: b, r, q, ha, hb, hr, hq, e => by
    rw [List.cons_append, List.cons_append] at e
    injection e with e1 e2
    obtain ⟨h1, h2⟩ := letters (fun x hx => ha x (List.mem_cons_of_mem _ hx)) (fun x hx => hb x (List.mem_cons_of_mem _ hx)) hr hq e2
    exact ⟨by rw [e1, h1], h2⟩
theorem nm_head {s : Str} (h : IsNm s) : ∃ c q, cl s = c :: q ∧ Let c := by
  cases e : cl s with
  | nil => have := h.lo; rw [e] at this; simp at this
  | cons c q => exact ⟨c, q, rfl, h.all c (by rw [e]; exact List.mem_cons_self)⟩
theorem half_let : ∀ c ∈ [104, 97, 108, 102], Let c := by unfold Let; simp
theorem mix_let : ∀ c ∈ [109, 105, 120], Let c := by unfold Let; simp
/-- a name's wording is no other term's -/
theorem nm_only {s : Str} (hs : IsNm s) {u : Tm} (hu : Ok u) {r q : List Nat} (hr : Fol r) (hq : Fol q) (e : cl s ++ r = wd u ++ q) : Tm.nm s = u ∧ r = q := by
  obtain ⟨c0, q0, e0, l0⟩ := nm_head hs
  have bad : ∀ {d : Nat} {x : List Nat}, ¬ Let d → cl s ++ r = d :: x → False := fun {d x} hd e => by
    rw [e0, List.cons_append] at e
    injection e with e1 _
    exact hd (e1 ▸ l0)
  match u, hu with
  | .nm s', hu =>
    obtain ⟨h1, h2⟩ := letters hs.all hu.all hr.noLet hq.noLet e
    exact ⟨by rw [cl_inj h1], h2⟩
  | .one .half a, hu =>
    obtain ⟨n, rfl⟩ := isN_iff hu.1
    have e' : cl s ++ r = [104, 97, 108, 102] ++ (32 :: (cl n ++ q)) := by rw [e]; rfl
    obtain ⟨h1, h2⟩ := letters hs.all half_let hr.noLet (noLet_cons (by unfold Let; omega)) e'
    exfalso
    rcases hr with rfl | ⟨c, q', rfl, h⟩
    · cases h2
    · injection h2 with h3 h4
      subst h3
      obtain ⟨c1, q1, e1, l1⟩ := nm_head hu.2
      rcases h with h | h | h | h | h | ⟨_, q'', h⟩
      · omega
      · omega
      · omega
      · omega
      · omega
      · rw [h, e1, List.cons_append] at h4
        injection h4 with h5 _
        rw [← h5] at l1
        unfold Let at l1
        omega
  | .one .mix a, hu =>
    have e' : cl s ++ r = [109, 105, 120] ++ (40 :: (wd a ++ [41] ++ q)) := by rw [e]; simp [wd]
    obtain ⟨h1, h2⟩ := letters hs.all mix_let hr.noLet (noLet_cons (by unfold Let; omega)) e'
    exfalso
    rcases hr with rfl | ⟨c, q', rfl, h⟩
    · cases h2
    · injection h2 with h3 h4
      subst h3
      rcases h with h | h | h | h | h | ⟨h, _⟩ <;> omega
  | .two .pair a b, hu => exact (bad (d := 40) (by unfold Let; omega) (by rw [e]; simp [wd]; rfl)).elim
  | .two .box a b, hu => exact (bad (d := 91) (by unfold Let; omega) (by rw [e]; simp [wd]; rfl)).elim
  | .two .shut a b, hu => exact (bad (d := 123) (by unfold Let; omega) (by rw [e]; simp [wd]; rfl)).elim
  | .two .mark a b, hu => exact (bad (d := 40) (by unfold Let; omega) (by rw [e]; simp [wd]; rfl)).elim
theorem wd_det : ∀ (t u : Tm), Ok t → Ok u → ∀ r q, Fol r → Fol q → wd t ++ r = wd u ++ q → t = u ∧ r = q
  | .nm s, u, ht, hu, r, q, hr, hq, e => nm_only ht hu hr hq e
  | t, .nm s, ht, hu, r, q, hr, hq, e => by
    obtain ⟨h1, h2⟩ := nm_only hu ht hq hr e.symm
    exact ⟨h1.symm, h2.symm⟩
  | .one .half a, .one .half a', ht, hu, r, q, hr, hq, e => by
    have e' : wd a ++ r = wd a' ++ q := by simpa [wd] using e
    obtain ⟨h1, h2⟩ := wd_det a a' ht.2 hu.2 r q hr hq e'
    exact ⟨by rw [h1], h2⟩
  | .one .mix a, .one .mix a', ht, hu, r, q, hr, hq, e => by
    have e' : wd a ++ (41 :: r) = wd a' ++ (41 :: q) := by simpa [wd] using e
    obtain ⟨h1, h2⟩ := wd_det a a' ht hu (41 :: r) (41 :: q) (fol_cons (by simp)) (fol_cons (by simp)) e'
    injection h2 with _ h2
    exact ⟨by rw [h1], h2⟩
  | .one .half a, .one .mix a', ht, hu, r, q, hr, hq, e => by simp [wd] at e
  | .one .mix a, .one .half a', ht, hu, r, q, hr, hq, e => by simp [wd] at e
  | .one .half a, .two k a' b', ht, hu, r, q, hr, hq, e => by cases k <;> simp [wd] at e
  | .one .mix a, .two k a' b', ht, hu, r, q, hr, hq, e => by cases k <;> simp [wd] at e
  | .two k a' b', .one .half a, ht, hu, r, q, hr, hq, e => by cases k <;> simp [wd] at e
  | .two k a' b', .one .mix a, ht, hu, r, q, hr, hq, e => by cases k <;> simp [wd] at e
  | .two .pair a b, .two .pair a' b', ht, hu, r, q, hr, hq, e => by
    have e' : wd a ++ (32 :: 38 :: 32 :: (wd b ++ (41 :: r))) = wd a' ++ (32 :: 38 :: 32 :: (wd b' ++ (41 :: q))) := by simpa [wd] using e
    obtain ⟨h1, h2⟩ := wd_det a a' ht.1 hu.1 _ _ fol_and fol_and e'
    injection h2 with _ h2
    injection h2 with _ h2
    injection h2 with _ h2
    obtain ⟨h3, h4⟩ := wd_det b b' ht.2 hu.2 _ _ (fol_cons (by simp)) (fol_cons (by simp)) h2
    injection h4 with _ h4
    exact ⟨by rw [h1, h3], h4⟩
  | .two .pair a b, .two .mark a' b', ht, hu, r, q, hr, hq, e => by
    have e' : wd a ++ (32 :: 38 :: 32 :: (wd b ++ (41 :: r))) = wd b' ++ (33 :: (wd a' ++ (41 :: q))) := by simpa [wd] using e
    obtain ⟨h1, h2⟩ := wd_det a b' ht.1 hu.2.2 _ _ fol_and (fol_cons (by simp)) e'
    injection h2 with h2 _
    omega
  | .two .mark a b, .two .pair a' b', ht, hu, r, q, hr, hq, e => by
    have e' : wd b ++ (33 :: (wd a ++ (41 :: r))) = wd a' ++ (32 :: 38 :: 32 :: (wd b' ++ (41 :: q))) := by simpa [wd] using e
    obtain ⟨h1, h2⟩ := wd_det b a' ht.2.2 hu.1 _ _ (fol_cons (by simp)) fol_and e'
    injection h2 with h2 _
    omega
  | .two .mark a b, .two .mark a' b', ht, hu, r, q, hr, hq, e => by
    have e' : wd b ++ (33 :: (wd a ++ (41 :: r))) = wd b' ++ (33 :: (wd a' ++ (41 :: q))) := by simpa [wd] using e
    obtain ⟨h1, h2⟩ := wd_det b b' ht.2.2 hu.2.2 _ _ (fol_cons (by simp)) (fol_cons (by simp)) e'
    injection h2 with _ h2
    obtain ⟨h3, h4⟩ := wd_det a a' ht.2.1 hu.2.1 _ _ (fol_cons (by simp)) (fol_cons (by simp)) h2
    injection h4 with _ h4
    exact ⟨by rw [h1, h3], h4⟩
  | .two .shut a b, .two .shut a' b', ht, hu, r, q, hr, hq, e => by
    have e' : wd b ++ (125 :: (wd a ++ r)) = wd b' ++ (125 :: (wd a' ++ q)) := by simpa [wd] using e
    obtain ⟨h1, h2⟩ := wd_det b b' ht.2.2 hu.2.2 _ _ (fol_cons (by simp)) (fol_cons (by simp)) e'
    injection h2 with _ h2
    obtain ⟨h3, h4⟩ := wd_det a a' ht.2.1 hu.2.1 _ _ hr hq h2
    exact ⟨by rw [h1, h3], h4⟩
  | .two .box a b, .two .box a' b', ht, hu, r, q, hr, hq, e => by
    have e' : wd b ++ (93 :: ((if isN a = true then wd a else [60] ++ (wd a ++ [62])) ++ r)) = wd b' ++ (93 :: ((if isN a' = true then wd a' else [60] ++ (wd a' ++ [62])) ++ q)) := by simpa [wd] using e
    obtain ⟨h1, h2⟩ := wd_det b b' ht.2 hu.2 _ _ (fol_cons (by simp)) (fol_cons (by simp)) e'
    injection h2 with _ h2
    have sixty : ∀ {n m : Tm} {x y : List Nat}, isN n = true → Ok n → wd n ++ x = [60] ++ (wd m ++ [62]) ++ y → False := fun {n m x y} hn ho z => by
      obtain ⟨s, rfl⟩ := isN_iff hn
      obtain ⟨c, w, e0, l⟩ := nm_head ho
      have z : cl s ++ x = _ := z
      rw [e0] at z
      simp only [List.cons_append, List.nil_append] at z
      injection z with z1 _
      rw [z1] at l
      unfold Let at l
      omega
    by_cases c : isN a = true
    · by_cases c' : isN a' = true
      · rw [if_pos c, if_pos c'] at h2
        obtain ⟨h3, h4⟩ := wd_det a a' ht.1 hu.1 _ _ hr hq h2
        exact ⟨by rw [h1, h3], h4⟩
      · rw [if_pos c, if_neg c'] at h2
        exact (sixty c ht.1 h2).elim
    · by_cases c' : isN a' = true
      · rw [if_neg c, if_pos c'] at h2
        exact (sixty c' hu.1 h2.symm).elim
      · rw [if_neg c, if_neg c'] at h2
        have h2 : wd a ++ (62 :: r) = wd a' ++ (62 :: q) := by simpa using h2
        obtain ⟨h3, h4⟩ := wd_det a a' ht.1 hu.1 _ _ (fol_cons (by simp)) (fol_cons (by simp)) h2
        injection h4 with _ h4
        exact ⟨by rw [h1, h3], h4⟩
  | .two .pair a b, .two .box a' b', ht, hu, r, q, hr, hq, e => by simp [wd] at e
  | .two .pair a b, .two .shut a' b', ht, hu, r, q, hr, hq, e => by simp [wd] at e
  | .two .box a b, .two .pair a' b', ht, hu, r, q, hr, hq, e => by simp [wd] at e
  | .two .box a b, .two .shut a' b', ht, hu, r, q, hr, hq, e => by simp [wd] at e
  | .two .box a b, .two .mark a' b', ht, hu, r, q, hr, hq, e => by simp [wd] at e
  | .two .shut a b, .two .pair a' b', ht, hu, r, q, hr, hq, e => by simp [wd] at e
  | .two .shut a b, .two .box a' b', ht, hu, r, q, hr, hq, e => by simp [wd] at e
  | .two .shut a b, .two .mark a' b', ht, hu, r, q, hr, hq, e => by simp [wd] at e
  | .two .mark a b, .two .box a' b', ht, hu, r, q, hr, hq, e => by simp [wd] at e
  | .two .mark a b, .two .shut a' b', ht, hu, r, q, hr, hq, e => by simp [wd] at e
termination_by t u => sizeOf t + sizeOf u
theorem wd_inj {t u : Tm} (ht : Ok t) (hu : Ok u) (e : wd t = wd u) : t = u :=
  (wd_det t u ht hu [] [] fol_nil fol_nil (by rw [e])).1
/-- a text's wording as a text -/
def ws (t : Tm) : Str := mks (wd t)
theorem ws_inj {t u : Tm} (ht : Ok t) (hu : Ok u) (e : ws t = ws u) : t = u := wd_inj ht hu (by have := congrArg cl e; exact this)
end K6

set_option Elab.async false
set_option linter.all false
set_option maxRecDepth 100000
/-! A dict whose keys are texts and nested tuples, mixed: what stands in it, where a key is found, a key stored. -/
namespace K6
open PySem
def entN (w : World) (x : NestedKey × Value × Value) : DictEntry := ⟨x.1.hash w, x.2.1, x.2.2⟩
/-- what the dict at d holds: keys, the values that are these keys, what stands under them -/
def DictN (w : World) (h : Heap) (d : Addr) (xs : List (NestedKey × Value × Value)) : Prop :=
  ∃ o es ep, h.get? d = some o ∧ o.ExactDict ∧ o.data = .dict es ep ∧ es.toList = xs.map (entN w) ∧ (xs.map (·.1)).Nodup
def AllN (h : Heap) (xs : List (NestedKey × Value × Value)) : Prop := ∀ x ∈ xs, NestedIs h x.1 x.2.1 ∧ x.1.depth ≤ 8
/-- the place of a key -/
def seek (xs : List (NestedKey × Value × Value)) (k : NestedKey) : Option Nat := xs.findIdx? fun x => decide (x.1 = k)
/-- a key stored: at its place, or at the end -/
def lay (xs : List (NestedKey × Value × Value)) (k : NestedKey) (u v : Value) : List (NestedKey × Value × Value) :=
  match seek xs k with
  | some i => xs.modify i fun x => (x.1, x.2.1, v)
  | none => xs ++ [(k, u, v)]
theorem seek_some {xs : List (NestedKey × Value × Value)} {k : NestedKey} {i : Nat} (h : seek xs k = some i) : ∃ x, xs[i]? = some x ∧ x.1 = k := by
  obtain ⟨hi, hp, _⟩ := List.findIdx?_eq_some_iff_getElem.mp h
  exact ⟨xs[i], List.getElem?_eq_getElem hi, of_decide_eq_true hp⟩
theorem seek_none {xs : List (NestedKey × Value × Value)} {k : NestedKey} (h : seek xs k = none) : k ∉ xs.map (·.1) := by
  intro m
  obtain ⟨x, hx, e⟩ := List.mem_map.mp m
  have := List.findIdx?_eq_none_iff.mp h x hx
  rw [e] at this
  simp at this
theorem one_place {xs : List (NestedKey × Value × Value)} (hn : (xs.map (·.1)).Nodup) {i j : Nat} {x y : NestedKey × Value × Value} (hi : xs[i]? = some x) (hj : xs[j]? = some y) (e : x.1 = y.1) : i = j := by
  have a : (xs.map (·.1))[i]? = some x.1 := by rw [List.getElem?_map, hi]; rfl
  have b : (xs.map (·.1))[j]? = some x.1 := by rw [List.getElem?_map, hj, e]; rfl
  have hl : i < (xs.map (·.1)).length := (List.getElem?_eq_some_iff.mp a).1
  exact (List.getElem?_inj hl hn).mp (a.trans b.symm)
theorem seek_at {xs : List (NestedKey × Value × Value)} (hn : (xs.map (·.1)).Nodup) {i : Nat} {x : NestedKey × Value × Value} (hi : xs[i]? = some x) : seek xs x.1 = some i := by
  cases h : seek xs x.1 with
  | none => exact absurd (List.mem_map.mpr ⟨x, List.mem_of_getElem? hi, rfl⟩) (seek_none h)
  | some j =>
    obtain ⟨y, hj, e⟩ := seek_some h
    rw [one_place hn hj hi e]
theorem seek_nowhere {xs : List (NestedKey × Value × Value)} {k : NestedKey} (h : ∀ (j : Nat) x, xs[j]? = some x → x.1 ≠ k) : seek xs k = none := by
  cases e : seek xs k with
  | none => rfl
  | some j =>
    obtain ⟨x, hx, q⟩ := seek_some e
    exact absurd q (h j x hx)
theorem ent_at {w : World} {es : Array DictEntry} {xs : List (NestedKey × Value × Value)} (he : es.toList = xs.map (entN w)) (i : Nat) : es[i]? = (xs[i]?).map (entN w) := by
  rw [← Array.getElem?_toList, he, List.getElem?_map]
theorem ent_size {w : World} {es : Array DictEntry} {xs : List (NestedKey × Value × Value)} (he : es.toList = xs.map (entN w)) : es.size = xs.length := by
  rw [← Array.length_toList, he, List.length_map]
/-- the places that the look-up asks -/
abbrev asked (es : Array DictEntry) (h : Int) : List Nat := placesWithHash es.size (fun i => Option.map (fun x => x.hash) es[i]?) h
theorem mem_asked {w : World} {es : Array DictEntry} {xs : List (NestedKey × Value × Value)} (he : es.toList = xs.map (entN w)) {h : Int} {i : Nat} : i ∈ asked es h ↔ ∃ x, xs[i]? = some x ∧ x.1.hash w = h := by
  have e := ent_at he i
  show i ∈ (List.range es.size).filter (fun i => Option.map (fun x => x.hash) es[i]? == some h) ↔ _
  rw [List.mem_filter, List.mem_range, ent_size he, e]
  constructor
  · rintro ⟨hi, q⟩
    rw [List.getElem?_eq_getElem hi] at q ⊢
    exact ⟨_, rfl, by simpa [entN] using q⟩
  · rintro ⟨x, hx, q⟩
    rw [hx]
    exact ⟨(List.getElem?_eq_some_iff.mp hx).1, by simp [entN, q]⟩
theorem nodup_asked (es : Array DictEntry) (h : Int) : (asked es h).Nodup := List.Nodup.sublist List.filter_sublist List.nodup_range
section
variable {prog : Program} {w : World} {A : Around} {E : Value → Shared → Prop} {s : Shared} {d : Addr} {o : Obj} {es : Array DictEntry} {ep : Nat} {xs : List (NestedKey × Value × Value)} {k : NestedKey} {key : Value}
/-- asking whether a stored key is the key that is looked for -/
theorem eq_key {x : NestedKey × Value × Value} {Q : Bool → Shared → Prop} (hu : A.units + 8 < cLine) (hx : NestedIs s.heap x.1 x.2.1 ∧ x.1.depth ≤ 8) (hk : NestedIs s.heap k key) (h : Q (decide (x.1 = k)) s) :
    wpAny (model prog w) A (eqBool x.2.1 key) Q E s :=
  eqAt_key x.1 k A s _ _ hx.1 hk (by have := hx.2; omega) _ _ _ _ (by rw [← NestedKey.decide_eq]; exact h)
theorem quiet_n {v : Value} {Q : Bool → Shared → Prop} (hk : NestedIs s.heap k v) (hd : k.depth ≤ 8) (h : Q true s) : wpAny (model prog w) A (eqIsQuiet 8 v) Q E s := quiet_key k v 8 s hk hd A E Q h
theorem tells_not {stored : List Value} {Q : Bool → Shared → Prop} (hk : NestedIs s.heap k key) (hkd : k.depth ≤ 8) (hst : ∀ v ∈ stored, ∃ k', NestedIs s.heap k' v ∧ k'.depth ≤ 8) (h : Q false s) :
    wpAny (model prog w) A (tableMayTell key stored) Q E s := by
  unfold tableMayTell
  split
  · exact wpAny_pure h
  · refine wpAny_bind (quiet_n hk hkd ?_)
    simp only [Bool.not_true, Bool.false_eq_true, if_false]
    refine wpAny_bind (wpAny_forIn_list _ (fun rest r s' => s' = s ∧ r = (none, ()) ∧ ∀ v ∈ rest, v ∈ stored) _ ?turn ?last _ _ ⟨rfl, rfl, fun _ m => m⟩)
    case turn =>
      rintro v rest r s' ⟨rfl, rfl, sub⟩
      obtain ⟨k', hv, hd'⟩ := hst v (sub v List.mem_cons_self)
      refine wpAny_bind (quiet_n hv hd' ?_)
      simp only [Bool.not_true, Bool.false_eq_true, if_false]
      exact wpAny_pure ⟨rfl, rfl, fun u m => sub u (List.mem_cons_of_mem _ m)⟩
    case last =>
      rintro r s' ⟨rfl, rfl, _⟩
      exact wpAny_pure h
/-- where all that is asked is carried by value -/
theorem walk_plain {Q : Option Nat → Shared → Prop} (hu : A.units + 8 < cLine) (hk : NestedIs s.heap k key) (ho : s.heap.get? d = some o) (hd : o.data = .dict es ep) (he : es.toList = xs.map (entN w)) (his : AllN s.heap xs) (hn : (xs.map (·.1)).Nodup)
    (h : Q (seek xs k) s) : wpAny (model prog w) A (dictWalkPlain d key (k.hash w) es (asked es (k.hash w))) Q E s := by
  unfold dictWalkPlain
  refine wpAny_bind (wpAny_forIn_list _ (fun rest b s' => s' = s ∧ b = (none, ()) ∧ ∃ gone, asked es (k.hash w) = gone ++ rest ∧ ∀ j ∈ gone, ∀ x, xs[j]? = some x → x.1 ≠ k) _ ?turn ?last _ _
    ⟨rfl, rfl, [], rfl, fun _ m => nomatch m⟩)
  case turn =>
    rintro i rest b s' ⟨rfl, rfl, gone, split, no⟩
    obtain ⟨x, hx, hh⟩ := (mem_asked he).mp (show i ∈ asked es (k.hash w) by rw [split]; exact List.mem_append_right _ List.mem_cons_self)
    have hex : es[i]? = some (entN w x) := by rw [ent_at he i, hx]; rfl
    rw [hex]
    have yes : ((entN w x).hash == k.hash w) = true := by rw [show (entN w x).hash = x.1.hash w from rfl, hh]; simp
    simp only [yes, if_true]
    refine wpAny_bind (wpAny_dictEpoch ho hd (wpAny_bind (eq_key (x := x) hu (his x (List.mem_of_getElem? hx)) hk (wpAny_bind (wpAny_dictEpoch ho hd ?_)))))
    rw [if_neg (by simp)]
    by_cases e : x.1 = k
    · rw [decide_eq_true e]
      have := seek_at hn hx
      rw [e] at this
      rw [this] at h
      exact wpAny_bind (wpAny_rule (wpAny_pure (wpAny_pure h)))
    · rw [decide_eq_false e]
      refine wpAny_bind (wpAny_rule (wpAny_pure ⟨rfl, rfl, gone ++ [i], by rw [split, List.append_assoc]; rfl, fun j m y hy => ?_⟩))
      rcases List.mem_append.mp m with m | m
      · exact no j m y hy
      · rw [List.mem_singleton.mp m, hx] at hy
        cases hy
        exact e
  case last =>
    rintro b s' ⟨rfl, rfl, gone, split, no⟩
    rw [List.append_nil] at split
    rw [seek_nowhere fun j x hx e => no j (by rw [← split]; exact (mem_asked he).mpr ⟨x, hx, by rw [e]⟩) x hx e] at h
    exact wpAny_pure h
end
end K6
namespace K6
open PySem
section
variable {prog : Program} {w : World} {A : Around} {E : Value → Shared → Prop} {s : Shared} {d : Addr} {o : Obj} {es : Array DictEntry} {ep : Nat} {xs : List (NestedKey × Value × Value)} {k : NestedKey} {key : Value}
theorem find_n {Q : Option Nat → Shared → Prop} (hu : A.units + 8 < cLine)
    (hk : NestedIs s.heap k key) (hkd : k.depth ≤ 8) (ho : s.heap.get? d = some o) (hd : o.data = .dict es ep) (he : es.toList = xs.map (entN w)) (his : AllN s.heap xs) (hn : (xs.map (·.1)).Nodup)
    (hx : es.all (fun e => isExactStrKey e.key) = true → xs = []) (hform : (∃ y t, key = .str y t) ∨ ∃ a, key = .ref a)
    (h : Q (seek xs k) s) : wpAny (model prog w) A (dictFind d key (k.hash w)) Q E s := by
  unfold dictFind
  refine wpAny_holding ?_
  refine wpAny_bind (wpAny_dictEntries ho hd ?_)
  dsimp only
  have hst : ∀ v ∈ (asked es (k.hash w)).filterMap (fun i => es[i]?.map (·.key)), ∃ k', NestedIs s.heap k' v ∧ k'.depth ≤ 8 := by
    intro v hv
    obtain ⟨i, hi, q⟩ := List.mem_filterMap.mp hv
    obtain ⟨x, hx, _⟩ := (mem_asked he).mp hi
    rw [ent_at he i, hx] at q
    have q : x.2.1 = v := by simpa [entN] using q
    rw [← q]
    exact ⟨x.1, his x (List.mem_of_getElem? hx)⟩
  have noway : ¬ (es.any fun e => e.key == key && e.hash != k.hash w) = true := by
    rw [← Array.any_toList, List.any_eq_true]
    rintro ⟨e, hin, c⟩
    rw [he] at hin
    obtain ⟨x, hx, rfl⟩ := List.mem_map.mp hin
    have c : x.2.1 = key ∧ ¬ x.1.hash w = k.hash w := by simpa [entN] using c
    have hi := (his x hx).1
    rw [c.1] at hi
    exact c.2 (by rw [NestedIs.inj _ _ _ hi hk])
  have hC : ∀ {B : Sem (Option Nat)}, (¬ ((key :: (asked es (k.hash w)).filterMap fun i => es[i]?.map (·.key)).all carriedByValue) = true → wpAny (model prog w) A B Q E s) →
      wpAny (model prog w) A (if ((key :: (asked es (k.hash w)).filterMap fun i => es[i]?.map (·.key)).all carriedByValue) = true then dictWalkPlain d key (k.hash w) es (asked es (k.hash w)) else B) Q E s := fun hB => by
    by_cases c : ((key :: (asked es (k.hash w)).filterMap fun i => es[i]?.map (·.key)).all carriedByValue) = true
    · rw [if_pos c]
      exact walk_plain hu hk ho hd he his hn h
    · rw [if_neg c]
      exact hB c
  rcases hform with ⟨y, t, rfl⟩ | ⟨a, rfl⟩
  case' inl =>
    dsimp only
    by_cases hs : (es.all fun e => isExactStrKey e.key) = true
    case' pos =>
      have e0 := hx hs
      subst e0
      have e1 : es = #[] := Array.toList_inj.mp he
      subst e1
      rw [if_pos hs]
      unfold foundByValue
      rw [show (#[] : Array DictEntry).findIdx? (fun e => e.key.isStr y) = none from by simp]
      exact wpAny_pure h
    case' neg =>
      rw [if_neg hs]
      refine hC fun _ => ?_
  case' inr =>
    dsimp only
    refine hC fun _ => ?_
    rw [if_neg noway]
  all_goals
    have ifs : ∀ {c : Prop} [Decidable c] {T U : Sem (Option Nat)}, (c → wpAny (model prog w) A T Q E s) → (¬ c → wpAny (model prog w) A U Q E s) → wpAny (model prog w) A (if c then T else U) Q E s := fun {c} _ {T U} h1 h2 => by
      by_cases q : c
      · rw [if_pos q]; exact h1 q
      · rw [if_neg q]; exact h2 q
    have step : ∀ {T : Sem Bool} {B : Bool → Sem (Option Nat)}, (∀ Q' : Bool → Shared → Prop, Q' false s → wpAny (model prog w) A T Q' E s) → wpAny (model prog w) A (B false) Q E s → wpAny (model prog w) A (T >>= B) Q E s :=
      fun h1 h2 => wpAny_bind (h1 _ h2)
    refine ifs (fun c => ?_) (fun c => ?_)
    case' refine_1 => refine step (fun Q' q => wpAny_pure q) ?_
    case' refine_2 => refine step (fun Q' q => tells_not hk hkd hst q) ?_
  all_goals
    rw [if_neg (by simp)]
    refine wpAny_bind (wpAny_forIn_list _ (fun rest b s' => s' = s ∧ ∃ gone hit, b = (none, hit) ∧ asked es (k.hash w) = gone ++ rest ∧
      ((hit = none ∧ ∀ j ∈ gone, ∀ x, xs[j]? = some x → x.1 ≠ k) ∨ ∃ j ∈ gone, ∃ x, hit = some j ∧ xs[j]? = some x ∧ x.1 = k)) _ ?turn ?last _ _ ⟨rfl, [], none, rfl, rfl, .inl ⟨rfl, fun _ m => nomatch m⟩⟩)
    case turn =>
      rintro i rest b s' ⟨rfl, gone, hit, rfl, cut, so⟩
      obtain ⟨x, hx, hh⟩ := (mem_asked he).mp (show i ∈ asked es (k.hash w) by rw [cut]; exact List.mem_append_right _ List.mem_cons_self)
      have hex : es[i]? = some (entN w x) := by rw [ent_at he i, hx]; rfl
      have hig : i ∉ gone := by
        have nd := nodup_asked es (k.hash w)
        rw [cut, List.nodup_append] at nd
        exact fun m => nd.2.2 i m i List.mem_cons_self rfl
      rw [hex]
      have yes : ((entN w x).hash == k.hash w) = true := by rw [show (entN w x).hash = x.1.hash w from rfl, hh]; simp
      simp only [yes, if_true]
      refine wpAny_bind (wpAny_dictEpoch ho hd (wpAny_bind (eq_key (x := x) hu (his x (List.mem_of_getElem? hx)) hk (wpAny_bind (wpAny_dictEpoch ho hd ?_)))))
      rw [if_neg (by simp)]
      have cut' : asked es (k.hash w) = (gone ++ [i]) ++ rest := by rw [cut, List.append_assoc]; rfl
      by_cases e : x.1 = k
      · rw [decide_eq_true e]
        simp only [if_true]
        rcases so with ⟨rfl, no⟩ | ⟨j, hj, y, _, hy, ey⟩
        · simp only [Option.isSome_none, Bool.false_eq_true, if_false]
          refine wpAny_bind (wpAny_rule ?_)
          split
          · refine wpAny_pure ?_
            have at_ := seek_at hn hx
            rw [e] at at_
            rw [at_] at h
            exact wpAny_pure h
          · exact wpAny_pure ⟨rfl, gone ++ [i], some i, rfl, cut', .inr ⟨i, List.mem_append_right _ (List.mem_singleton.mpr rfl), x, rfl, hx, e⟩⟩
        · exact absurd (one_place hn hy hx (ey.trans e.symm) ▸ hj) hig
      · rw [decide_eq_false e]
        simp only [Bool.false_eq_true, if_false]
        refine wpAny_bind (wpAny_rule ?_)
        simp only [Bool.false_and, Bool.false_eq_true, if_false]
        refine wpAny_pure ⟨rfl, gone ++ [i], hit, rfl, cut', so.imp (fun ⟨h0, no⟩ => ⟨h0, fun j m y hy => ?_⟩) fun ⟨j, m, r⟩ => ⟨j, List.mem_append_left _ m, r⟩⟩
        rcases List.mem_append.mp m with m | m
        · exact no j m y hy
        · rw [List.mem_singleton.mp m, hx] at hy
          cases hy
          exact e
    case last =>
      rintro b s' ⟨rfl, gone, hit, rfl, cut, so⟩
      rw [List.append_nil] at cut
      rcases so with ⟨rfl, no⟩ | ⟨j, m, x, rfl, hx, e⟩
      · rw [seek_nowhere fun j x hx e => no j (by rw [← cut]; exact (mem_asked he).mpr ⟨x, hx, by rw [e]⟩) x hx e] at h
        exact wpAny_pure h
      · have at_ := seek_at hn hx
        rw [e] at at_
        rw [at_] at h
        exact wpAny_pure h
end
end K6
namespace K6
open PySem
theorem AllN.stay {h h' : Heap} {xs : List (NestedKey × Value × Value)} (x : AllN h xs) (k : ∀ a o vs n, h.get? a = some o → o.data = .seq vs n → h'.get? a = some o) : AllN h' xs :=
  fun y hy => ⟨NestedIs.at k _ _ (x y hy).1, (x y hy).2⟩
theorem seqs_stay {h h' : Heap} {d : Addr} {o : Obj} {es : Array DictEntry} {ep : Nat} (ho : h.get? d = some o) (hd : o.data = .dict es ep) (hs : Heap.SameBut d h h') : ∀ (a : Addr) (u : Obj) (vs : Array Value) (n : Nat), h.get? a = some u → u.data = .seq vs n → h'.get? a = some u := by
  intro a u vs n hu hq
  refine (hs.2 a fun e => ?_).trans hu
  subst e
  rw [ho] at hu
  cases hu
  rw [hd] at hq
  cases hq
theorem lay_keys {xs : List (NestedKey × Value × Value)} {k : NestedKey} {u v : Value} : (lay xs k u v).map (·.1) = if k ∈ xs.map (·.1) then xs.map (·.1) else xs.map (·.1) ++ [k] := by
  unfold lay
  cases h : seek xs k with
  | none =>
    rw [if_neg (seek_none h)]
    simp
  | some i =>
    obtain ⟨x, hx, e⟩ := seek_some h
    rw [if_pos (List.mem_map.mpr ⟨x, List.mem_of_getElem? hx, e⟩)]
    show (xs.modify i fun x => (x.1, x.2.1, v)).map (·.1) = xs.map (·.1)
    apply List.ext_getElem?
    intro j
    rw [List.getElem?_map, List.getElem?_map, List.getElem?_modify]
    cases xs[j]? with
    | none => rfl
    | some z => by_cases q : i = j <;> simp [q]
theorem lay_nodup {xs : List (NestedKey × Value × Value)} {k : NestedKey} {u v : Value} (hn : (xs.map (·.1)).Nodup) : ((lay xs k u v).map (·.1)).Nodup := by
  rw [lay_keys]
  split
  · exact hn
  · rename_i h
    rw [List.nodup_append]
    refine ⟨hn, by simp, fun a ha b hb e => h ?_⟩
    rw [← List.mem_singleton.mp hb, ← e]
    exact ha
/-- the values of the keys behind a store -/
theorem lay_vals {xs : List (NestedKey × Value × Value)} {k : NestedKey} {u v : Value} : (lay xs k u v).map (·.2.1) = if k ∈ xs.map (·.1) then xs.map (·.2.1) else xs.map (·.2.1) ++ [u] := by
  unfold lay
  cases h : seek xs k with
  | none =>
    rw [if_neg (seek_none h)]
    simp
  | some i =>
    obtain ⟨x, hx, e⟩ := seek_some h
    rw [if_pos (List.mem_map.mpr ⟨x, List.mem_of_getElem? hx, e⟩)]
    show (xs.modify i fun x => (x.1, x.2.1, v)).map (·.2.1) = xs.map (·.2.1)
    apply List.ext_getElem?
    intro j
    rw [List.getElem?_map, List.getElem?_map, List.getElem?_modify]
    cases xs[j]? with
    | none => rfl
    | some z => by_cases q : i = j <;> simp [q]
theorem lay_all {h : Heap} {xs : List (NestedKey × Value × Value)} {k : NestedKey} {u v : Value} (x : AllN h xs) (hk : NestedIs h k u ∧ k.depth ≤ 8) : AllN h (lay xs k u v) := by
  unfold lay
  cases hs : seek xs k with
  | none =>
    intro y hy
    rcases List.mem_append.mp hy with m | m
    · exact x y m
    · rw [List.mem_singleton.mp m]; exact hk
  | some i =>
    intro y hy
    obtain ⟨j, hj⟩ := List.mem_iff_getElem?.mp hy
    have hj : (xs.modify i fun x => (x.1, x.2.1, v))[j]? = some y := hj
    rw [List.getElem?_modify] at hj
    cases hz : xs[j]? with
    | none => rw [hz] at hj; simp at hj
    | some z =>
      rw [hz] at hj
      have hz' := x z (List.mem_of_getElem? hz)
      by_cases q : i = j
      · have e : (z.1, z.2.1, v) = y := by simpa [q] using hj
        rw [← e]; exact hz'
      · have e : z = y := by simpa [q] using hj
        rw [← e]; exact hz'
theorem lay_length (xs : List (NestedKey × Value × Value)) (k : NestedKey) (u v : Value) : (lay xs k u v).length ≤ xs.length + 1 := by
  unfold lay
  cases seek xs k with
  | none => simp
  | some i => simp
section
variable {prog : Program} {w : World} {A : Around} {E : Value → Shared → Prop} {s : Shared} {d : Addr} {xs : List (NestedKey × Value × Value)} {k : NestedKey} {key v : Value}
theorem dictN_new (h : Heap) : DictN w (h.push { cls := .type "dict", data := .dict #[] }) h.objs.size [] :=
  ⟨_, #[], 0, Heap.get?_push_size _ rfl, ⟨rfl, rfl, rfl⟩, rfl, rfl, List.nodup_nil⟩
/-- no text ahead of a tuple: what the look-up by texts alone would ask -/
def Led (xs : List (NestedKey × Value × Value)) : Prop := xs = [] ∨ ∃ x r a, xs = x :: r ∧ x.2.1 = Value.ref a
theorem Led.es {xs : List (NestedKey × Value × Value)} (l : Led xs) {es : Array DictEntry} (he : es.toList = xs.map (entN w)) : es.all (fun e => isExactStrKey e.key) = true → xs = [] := by
  intro q
  rcases l with l | ⟨x, r, a, rfl, e⟩
  · exact l
  · exfalso
    rw [← Array.all_toList, he, List.map_cons, List.all_cons, Bool.and_eq_true] at q
    have q1 : isExactStrKey x.2.1 = true := q.1
    rw [e] at q1
    cases q1
theorem set_n {Q : Unit → Shared → Prop} (hu : A.units + 8 < cLine) (hk : NestedIs s.heap k key) (hkd : k.depth ≤ 8) (hm : DictN w s.heap d xs) (his : AllN s.heap xs) (hl : Led xs) (hform : (∃ y t, key = .str y t) ∨ ∃ a, key = .ref a)
    (hz : xs.length ≤ sizeLine)
    (hQ : ∀ h' tk, DictN w h' d (lay xs k key v) → Heap.SameBut d s.heap h' → Q () { s with heap := h', toks := tk }) : wpAny (model prog w) A (dictSet d key v) Q E s := by
  obtain ⟨o, es, ep, ho, hc, hd, he, hn⟩ := hm
  unfold dictSet
  refine wpAny_holding (wpAny_bind (pyHash_key k key A s _ hk (by omega) ?_))
  unfold dictSetHashed
  refine wpAny_holding (wpAny_bind (find_n (s := { s with toks := s.toks + k.draws }) hu hk hkd ho hd he his hn (hl.es he) hform ?_))
  cases hs : seek xs k with
  | none =>
    dsimp only
    have hnot := seek_none hs
    refine wpAny_bind (wpAny_rule (wpAny_updateDictKeys (hz := by have e := ent_size he; omega) (s := { s with toks := s.toks + k.draws }) ho hd (hQ _ _ ?_ (Heap.SameBut.update ..))))
    refine ⟨_, _, ep + 1, Heap.get?_update_self _ ho (Obj.isFreed_of_dict (Obj.data_mapDictKeys hd _)), hc.mapDictKeys _, Obj.data_mapDictKeys hd _, ?_, lay_nodup hn⟩
    unfold lay
    rw [hs, Array.toList_push, he, List.map_append]
    rfl
  | some i =>
    dsimp only
    refine wpAny_bind (wpAny_rule (wpAny_bind (wpAny_updateDict (s := { s with toks := s.toks + k.draws }) ho hd (wpAny_point (hQ _ _ ?_ (Heap.SameBut.update ..))))))
    refine ⟨_, _, ep, Heap.get?_update_self _ ho (Obj.isFreed_of_dict (Obj.data_mapDict hd _)), hc.mapDict _, Obj.data_mapDict hd _, ?_, lay_nodup hn⟩
    unfold lay
    rw [hs]
    show (es.modify i fun e => { e with val := v }).toList = (xs.modify i fun x => (x.1, x.2.1, v)).map (entN w)
    rw [Array.toList_modify, he]
    apply List.ext_getElem?
    intro j
    rw [List.getElem?_modify, List.getElem?_map, List.getElem?_map, List.getElem?_modify]
    cases xs[j]? with
    | none => rfl
    | some z => by_cases q : i = j <;> simp [q, entN]
end
end K6

set_option Elab.async false
set_option linter.all false
set_option maxRecDepth 100000
set_option maxHeartbeats 4000000
/-! Terms as they lie in the heap. -/
namespace K6
open PySem PySem.Spec PyProof.Rows L2
def T1.tag : T1 → Str
  | .half => "half"
  | .mix => "mix"
def T2.tag : T2 → Str
  | .pair => "pair"
  | .box => "box"
  | .shut => "shut"
  | .mark => "mark"
theorem T1.tag_inj {a b : T1} (h : a.tag = b.tag) : a = b := by
  cases a <;> cases b <;> first | rfl | exact absurd h (by decide +kernel)
theorem T2.tag_inj {a b : T2} (h : a.tag = b.tag) : a = b := by
  cases a <;> cases b <;> first | rfl | exact absurd h (by decide +kernel)
inductive TmIn (K : PySem.W.Frag) (H : Hp) : V → Tm → Prop
  | nm (s : Str) : TmIn K H (.str s) (.nm s)
  | one {p : Addr} {k : T1} {v : V} {a : Tm} : SqT K H p [.str k.tag, v] → TmIn K H v a → TmIn K H (.ref p) (.one k a)
  | two {p : Addr} {k : T2} {v u : V} {a b : Tm} : SqT K H p [.str k.tag, v, u] → TmIn K H v a → TmIn K H u b → TmIn K H (.ref p) (.two k a b)
abbrev Tms (K : PySem.W.Frag) (H : Hp) : List V → List Tm → Prop := Paired (TmIn K H)
/-- all tuples that were told are told -/
def Tups (K : PySem.W.Frag) (H H' : Hp) : Prop := ∀ p xs, SqT K H p xs → SqT K H' p xs
theorem Tups.refl {K : PySem.W.Frag} {H : Hp} : Tups K H H := fun _ _ h => h
theorem Tups.trans {K : PySem.W.Frag} {H H1 H2 : Hp} (a : Tups K H H1) (b : Tups K H1 H2) : Tups K H H2 := fun p xs h => b p xs (a p xs h)
theorem tups_same {K : PySem.W.Frag} {H H' : Hp} (e : Same H H') : Tups K H H' := by
  rintro p xs ((h | ⟨o, h⟩) | h)
  · exact .inl (.inl (e _ _ h))
  · exact .inl (.inr ⟨o, e _ _ h⟩)
  · exact .inr h
theorem TmIn.at {K : PySem.W.Frag} {H H' : Hp} (e : Tups K H H') {v : V} {t : Tm} (h : TmIn K H v t) : TmIn K H' v t := by
  induction h with
  | nm s => exact .nm s
  | one h _ ih => exact .one (e _ _ h) ih
  | two h _ _ ih1 ih2 => exact .two (e _ _ h) ih1 ih2
theorem TmIn.same {K : PySem.W.Frag} {H H' : Hp} (e : Same H H') {v : V} {t : Tm} (h : TmIn K H v t) : TmIn K H' v t := h.at (tups_same e)
theorem Tms.at {K : PySem.W.Frag} {H H' : Hp} (e : Tups K H H') : ∀ {vs : List V} {ts : List Tm}, Tms K H vs ts → Tms K H' vs ts
  | _, _, .nil => .nil
  | _, _, .cons a b => .cons (a.at e) (Tms.at e b)
theorem Tms.same {K : PySem.W.Frag} {H H' : Hp} (e : Same H H') {vs : List V} {ts : List Tm} (h : Tms K H vs ts) : Tms K H' vs ts := Tms.at (tups_same e) h
theorem Tms.app {K : PySem.W.Frag} {H : Hp} : ∀ {vs us : List V} {ts rs : List Tm}, Tms K H vs ts → Tms K H us rs → Tms K H (vs ++ us) (ts ++ rs)
  | _, _, _, _, .nil, q => q
  | _, _, _, _, .cons a b, q => .cons a (Tms.app b q)
theorem Tms.get {K : PySem.W.Frag} {H : Hp} : ∀ {vs : List V} {ts : List Tm} {i : Nat} {v : V}, Tms K H vs ts → vs[i]? = some v → ∃ t, ts[i]? = some t ∧ TmIn K H v t
  | _, _, _, _, .nil, e => by simp at e
  | _, _, 0, _, .cons a _, e => by simp at e; subst e; exact ⟨_, rfl, a⟩
  | _, _, i + 1, v, .cons _ b, e => by
    obtain ⟨t, h1, h2⟩ := Tms.get (i := i) (v := v) b (by simpa using e)
    exact ⟨t, by simpa using h1, h2⟩
theorem Tms.len {K : PySem.W.Frag} {H : Hp} {vs : List V} {ts : List Tm} (h : Tms K H vs ts) : vs.length = ts.length := Paired.length h

/-! ### a term as a key, as data -/
def nk : Tm → NestedKey
  | .nm s => .text s
  | .one k a => .tup [.text k.tag, nk a]
  | .two k a b => .tup [.text k.tag, nk a, nk b]
theorem nk_depth : ∀ t, (nk t).depth + 1 = dep t
  | .nm _ => rfl
  | .one k a => by
    have := nk_depth a
    show max 0 (max (nk a).depth 0) + 1 + 1 = dep a + 1
    omega
  | .two k a b => by
    have := nk_depth a
    have := nk_depth b
    show max 0 (max (nk a).depth (max (nk b).depth 0)) + 1 + 1 = max (dep a) (dep b) + 1
    omega
theorem nk_inj : ∀ {t u : Tm}, nk t = nk u → t = u
  | .nm s, .nm s', h => by
    have h : NestedKey.text s = .text s' := h
    injection h with h
    rw [h]
  | .one k a, .one k' a', h => by
    have h : NestedKey.tup [.text k.tag, nk a] = .tup [.text k'.tag, nk a'] := h
    simp only [NestedKey.tup.injEq, List.cons.injEq, NestedKey.text.injEq, and_true] at h
    rw [T1.tag_inj h.1, nk_inj h.2]
  | .two k a b, .two k' a' b', h => by
    have h : NestedKey.tup [.text k.tag, nk a, nk b] = .tup [.text k'.tag, nk a', nk b'] := h
    simp only [NestedKey.tup.injEq, List.cons.injEq, NestedKey.text.injEq, and_true] at h
    rw [T2.tag_inj h.1, nk_inj h.2.1, nk_inj h.2.2]
  | .nm _, .one _ _, h => by cases h
  | .nm _, .two _ _ _, h => by cases h
  | .one _ _, .nm _, h => by cases h
  | .one _ _, .two _ _ _, h => by
    have h : NestedKey.tup [.text _, nk _] = .tup [.text _, nk _, nk _] := h
    simp at h
  | .two _ _ _, .nm _, h => by cases h
  | .two _ _ _, .one _ _, h => by
    have h : NestedKey.tup [.text _, nk _, nk _] = .tup [.text _, nk _] := h
    simp at h
def dat : Tm → PyData
  | .nm s => .str s
  | .one k a => .tuple [.str k.tag, dat a]
  | .two k a b => .tuple [.str k.tag, dat a, dat b]
theorem dat_dep : ∀ t, (dat t).depth + 1 = dep t
  | .nm _ => by simp [dat, PyData.depth, dep]
  | .one k a => by
    have := dat_dep a
    simp only [dat, PyData.depth, PyData.depthAll, dep]
    omega
  | .two k a b => by
    have := dat_dep a
    have := dat_dep b
    simp only [dat, PyData.depth, PyData.depthAll, dep]
    omega
theorem dat_eqv : ∀ t u : Tm, PyData.eqv (dat t) (dat u) = decide (t = u)
  | .nm s, .nm s' => by
    simp only [dat, PyData.eqv]
    by_cases h : s = s' <;> simp [h]
  | .one k a, .one k' a' => by
    simp only [dat, PyData.eqv, PyData.eqvAll, dat_eqv a a', Bool.and_true]
    by_cases h : k = k'
    · subst h
      by_cases q : a = a' <;> simp [q]
    · have : ¬ k.tag = k'.tag := fun e => h (T1.tag_inj e)
      simp [h, this]
  | .two k a b, .two k' a' b' => by
    simp only [dat, PyData.eqv, PyData.eqvAll, dat_eqv a a', dat_eqv b b', Bool.and_true]
    by_cases h : k = k'
    · subst h
      by_cases q : a = a'
      · by_cases q' : b = b' <;> simp [q, q']
      · simp [q]
    · have : ¬ k.tag = k'.tag := fun e => h (T2.tag_inj e)
      simp [h, this]
  | .nm _, .one _ _ => by simp [dat, PyData.eqv]
  | .nm _, .two _ _ _ => by simp [dat, PyData.eqv]
  | .one _ _, .nm _ => by simp [dat, PyData.eqv]
  | .one _ _, .two _ _ _ => by simp [dat, PyData.eqv, PyData.eqvAll]
  | .two _ _ _, .nm _ => by simp [dat, PyData.eqv]
  | .two _ _ _, .one _ _ => by simp [dat, PyData.eqv, PyData.eqvAll]
theorem TmIn.dp {K : PySem.W.Frag} {H : Hp} {v : V} {t : Tm} (h : TmIn K H v t) : Dp K H v (dat t) := by
  induction h with
  | nm s => exact .str s
  | one h _ ih => exact .tup h (.cons (.str _) (.cons ih .nil))
  | two h _ _ ih1 ih2 => exact .tup h (.cons (.str _) (.cons ih1 (.cons ih2 .nil)))
theorem Tms.dp {K : PySem.W.Frag} {H : Hp} : ∀ {vs : List V} {ts : List Tm}, Tms K H vs ts → DpAll K H vs (ts.map dat)
  | _, _, .nil => .nil
  | _, _, .cons a b => .cons a.dp (Tms.dp b)
theorem TmIn.nested {X : Cx} {pins : List (Addr × Obj)} {σ : L2.St} {H : Hp} {s : Shared} (I : Inv X pins σ H s) {v : V} {t : Tm} (h : TmIn X.K H v t) : ∀ {u : Value}, RelV v u → NestedIs s.heap (nk t) u := by
  induction h with
  | nm x =>
    intro u r
    obtain ⟨t, rfl⟩ := r
    exact .text x t
  | @one p k v a h _ ih =>
    intro u r
    cases r
    obtain ⟨its, rv, ⟨o, ho, hc, n, hd⟩, _⟩ := I.tuple h
    refine .tup ho hc hd ?_
    cases rv with
    | cons r1 rv => cases rv with
      | cons r2 rv =>
        cases rv
        obtain ⟨tk, rfl⟩ := r1
        exact .cons (.text _ tk) (.cons (ih r2) .nil)
  | @two p k v u' a b h _ _ ih1 ih2 =>
    intro u r
    cases r
    obtain ⟨its, rv, ⟨o, ho, hc, n, hd⟩, _⟩ := I.tuple h
    refine .tup ho hc hd ?_
    cases rv with
    | cons r1 rv => cases rv with
      | cons r2 rv => cases rv with
        | cons r3 rv =>
          cases rv
          obtain ⟨tk, rfl⟩ := r1
          exact .cons (.text _ tk) (.cons (ih1 r2) (.cons (ih2 r3) .nil))
end K6

set_option Elab.async false
set_option linter.all false
set_option maxRecDepth 100000
set_option maxHeartbeats 4000000
/-! Rules of our own: list({part: True for part in ..}). -/
namespace K6
open PySem PySem.Spec PyProof.Rows L2
theorem dd_head (t : Tm) (l : List Tm) : ∃ r, dd (t :: l) = t :: r := by
  have e := dd_app [t] l
  rw [List.singleton_append] at e
  exact ⟨_, e⟩
theorem pts_head (t : Tm) : ∃ r, pts t = t :: r := by
  cases t <;> exact ⟨_, rfl⟩
def DicO (w : World) (a : Addr) (ws : List V) (ts : List Tm) : HO :=
  .ext fun h => (a == sysModules) = false ∧ ∃ xs, DictN w h a xs ∧ xs.map (·.1) = ts.map nk ∧ Vals ws (xs.map (·.2.1))
theorem DictN.at {w : World} {h h' : Heap} {a : Addr} {xs : List (NestedKey × Value × Value)} (x : DictN w h a xs) (k : ∀ o, h.get? a = some o → h'.get? a = some o) : DictN w h' a xs :=
  let ⟨o, es, ep, ho, r⟩ := x; ⟨o, es, ep, k o ho, r⟩
theorem dicO_new {P : Program} {w : World} {H : Hp} {h : Heap} {a : Addr} {ws : List V} {ts : List Tm} {xs : List (NestedKey × Value × Value)} (lo : (a == sysModules) = false) (x : DictN w h a xs) (e : xs.map (·.1) = ts.map nk) (r : Vals ws (xs.map (·.2.1))) :
    ObjOk P w H h a (DicO w a ws ts) := by
  have ⟨o, _, _, ho, _⟩ := x
  exact ⟨⟨lo, xs, x, e, r⟩, ⟨o, ho⟩, fun h1 h2 ⟨lo, xs, x, r⟩ k => ⟨lo, xs, x.at k, r⟩⟩
def tDcN (K : PySem.W.Frag) (w : World) (ta : TE) : TE := fun σ H Q => ta σ H fun x H1 => ∃ (l : Addr) (vs : List V) (t : Tm), x = .ref l ∧ SqL K H1 l vs ∧ Tms K H1 vs (pts t) ∧ dep t ≤ 8 ∧ cnt t ≤ sizeLine ∧
  ∀ (D : Addr) (ws : List V), H1 D = none → Tms K H1 ws (dd (pts t)) → Q (.ref D) (upd H1 D (DicO w D ws (dd (pts t))))
theorem form_of {K : PySem.W.Frag} {H : Hp} {v : V} {t : Tm} {u : Value} (h : TmIn K H v t) (r : RelV v u) : (∃ y k, u = Value.str y k) ∨ ∃ a, u = .ref a := by
  cases h with
  | nm s => obtain ⟨k, rfl⟩ := r; exact .inl ⟨_, _, rfl⟩
  | one _ _ => exact .inr ⟨_, r⟩
  | two _ _ _ => exact .inr ⟨_, r⟩
theorem allN_of {X : Cx} {pins : List (Addr × Obj)} {σ : L2.St} {H : Hp} {s : Shared} (I : Inv X pins σ H s) : ∀ {xs : List (NestedKey × Value × Value)} {ws : List V} {ts : List Tm}, xs.map (·.1) = ts.map nk → Vals ws (xs.map (·.2.1)) → Tms X.K H ws ts → (∀ t ∈ ts, dep t ≤ 8) → AllN s.heap xs
  | [], _, _, _, _, _, _ => fun _ m => nomatch m
  | x :: xs, w :: ws, t :: ts, e, .cons r rs, .cons m ms, hd => by
    rw [List.map_cons, List.map_cons] at e
    injection e with e1 e2
    intro y hy
    rcases List.mem_cons.mp hy with rfl | hy
    · have q := m.nested I r
      rw [← e1] at q
      have d := nk_depth t
      rw [← e1] at d
      have := hd t List.mem_cons_self
      exact ⟨q, by omega⟩
    · exact allN_of I e2 rs ms (fun t ht => hd t (List.mem_cons_of_mem _ ht)) y hy
theorem take_more {α : Type} {l : List α} {i : Nat} {x : α} (h : l[i]? = some x) : l.take (i + 1) = l.take i ++ [x] := by
  rw [List.take_add_one, h]
  rfl
theorem pe_dcN {X : Cx} {y : Str} {iter : Expr} {scope : Scope} {cl : List (Str × Addr)} {py pk pt pos : Pos} {j : Nat} {ta : TE} (hc : X.calm = true) (hu : X.A.units + 8 < cLine) (ha : PE X iter ta)
    (hclos : closureFor scope X.env = pure cl) (hcell : ∀ y ∈ scope.names, y.2 ≠ .cell) (hkind : scope.kind = .function) (hnames : ∀ y ∈ scope.names, y.2 = .local → scope.names.lookup y.1 = some .local)
    (hy : scope.names.lookup y = some .local) (hyd : (y == ("__debug__" : Str)) = false) (hs : ∀ x, foldedSetIterable iter X.env x = pure x) :
    PE X (.DictComp (.Name y py) (.Constant (.bool true) j pk) [⟨.Name y pt, iter, [], 0⟩] scope pos) (tDcN X.K X.w ta) := by
  refine ⟨fun pins s σ H Q I h => ?_⟩
  refine DictComp_goes hclos hcell hkind hnames ?_ hs
  refine thn (ha.run pins s σ H _ I h) fun v s1 ⟨x, H1, I1, r1, l, vs, t, hx, hq, ht, hdep, hz, q⟩ => ?_
  subst hx
  cases r1
  obtain ⟨its, rv, pl, hl⟩ := I1.list hq
  have hlt : l < s1.heap.objs.size := by
    obtain ⟨o, n, ho, _⟩ := pl
    exact Heap.lt_size ho
  have hlen : its.toArray.size = (pts t).length := by rw [List.size_toArray, ← rv.length, ht.len]
  refine wpAny_pyIter_list pl.isList ?_
  refine ⟨_, _, _, _, _, _, rfl, Goes.list (I1.ok.hd hc) s1.heap.objs.size l (Nat.ne_of_lt hlt) its.toArray, ⟨⟨_, Heap.get?_push_size _ rfl, rfl, rfl⟩, pl.isList.at fun o e => Heap.get?_push_of_some _ e⟩, fun D C s3 hB hD => ?_⟩
  obtain ⟨⟨h3, tk3, rfl⟩, old, nD, nC, hDC, hnm⟩ := hB
  have nD' : s1.heap.objs.size + 1 ≤ D := Nat.le_trans (Nat.le_of_eq (Heap.size_push _ _).symm) nD
  have nC' : s1.heap.objs.size + 1 ≤ C := Nat.le_trans (Nat.le_of_eq (Heap.size_push _ _).symm) nC
  have lo : (D == sysModules) = false := beq_eq_false_iff_ne.mpr fun e => absurd (Nat.lt_of_lt_of_le (Nat.lt_succ_of_lt I1.big) nD') (by rw [e]; exact Nat.lt_irrefl _)
  have kinds : (compEnvC scope cl C X.env).kindOf y = some .local := lookup_relabel_local hy
  have hp : ((compEnvC scope cl C X.env).scope.kind == .class || ((compEnvC scope cl C X.env).scope.kind == .module && (compEnvC scope cl C X.env).locals != (compEnvC scope cl C X.env).globals)) = false := by
    show (scope.kind == .class || (scope.kind == .module && _)) = false
    rw [hkind]; rfl
  refine ⟨fun i s' => i ≤ (pts t).length ∧ ∃ h' tk m xs ws, s' = { s1 with heap := h', toks := tk } ∧ h'.Ns C m ∧ DictN X.w h' D xs ∧ xs.map (·.1) = (dd ((pts t).take i)).map nk ∧ Vals ws (xs.map (·.2.1)) ∧ Tms X.K H1 ws (dd ((pts t).take i)) ∧
    ∀ b o, s1.heap.get? b = some o → h'.get? b = some o, ?start, ?keep, ?turn, ?done⟩
  case start =>
    exact ⟨Nat.zero_le _, h3, tk3, _, [], [], rfl, hnm, ⟨_, #[], 0, hD, ⟨rfl, rfl, rfl⟩, rfl, rfl, List.nodup_nil⟩, rfl, .nil, .nil, fun b o e => old b o (Heap.get?_push_of_some _ e)⟩
  case keep =>
    rintro i s' h' tk ⟨hi, h4, tk4, m, xs, ws, rfl, n4, d4, e4, r4, t4, k4⟩ hk _
    have off : ∀ b : Addr, b ≠ s1.heap.objs.size → b ∉ [s1.heap.objs.size] := fun b hb hm => hb (List.mem_singleton.mp hm)
    refine ⟨hi, h', tk, m, xs, ws, rfl, n4.at' fun o e => hk _ o (off _ ?_) e, d4.at fun o e => hk _ o (off _ ?_) e, e4, r4, t4, fun b o e => hk b o (off b (Nat.ne_of_lt (Heap.lt_size e))) (k4 b o e)⟩
    · exact Nat.ne_of_gt nC'
    · exact Nat.ne_of_gt nD'
  case done =>
    rintro s' ⟨_, h4, tk4, m, xs, ws, rfl, n4, d4, e4, r4, t4, k4⟩
    rw [hlen, List.take_length] at e4 t4
    refine ⟨m, n4, fun h5 sb => ?_⟩
    have nCb : ∀ b o, s1.heap.get? b = some o → b ≠ C := fun b o e => Nat.ne_of_lt (Nat.lt_of_lt_of_le (Heap.lt_size e) (Nat.le_of_succ_le nC'))
    exact ⟨.ref D, _, I1.laid (t' := tk4) (fun b u e => (sb.2 b (nCb b u e)).trans (k4 b u e)) (Nat.le_of_succ_le nD') (dicO_new lo (d4.at fun o e => (sb.2 D hDC).trans e) e4 r4), rfl,
      q D ws (I1.hok.fresh (Nat.le_of_succ_le nD')) t4⟩
  case turn =>
    rintro i v s' hi hv st ⟨hil, h4, tk4, m, xs, ws, rfl, n4, d4, e4, r4, t4, k4⟩
    have hv : its[i]? = some v := by simpa using hv
    obtain ⟨xv, hxv⟩ : ∃ xv, vs[i]? = some xv := by
      have : i < vs.length := by rw [rv.length]; simpa using hi
      exact ⟨_, List.getElem?_eq_getElem this⟩
    obtain ⟨u, hu', ru⟩ := rv.get hxv
    rw [hv] at hu'
    cases hu'
    obtain ⟨p, hpt, tp⟩ := ht.get hxv
    have hpm : p ∈ pts t := List.mem_of_getElem? hpt
    refine wpAny_assign_Name (wpAny_storeName_local kinds n4 (fun h5 n5 s5 => ?_) hp)
    refine wpAny_tests_nil ?_
    show wpAny _ _ _ _ _ _
    rw [eval_Name _ _ _ hyd]
    refine wpAny_bind (wpAny_standAt (wpAny_loadName_local hkind kinds n5 (v := v) (by simp) ?_))
    refine Constant_bool ?_
    have up : ∀ b o, b ≠ C → h4.get? b = some o → h5.get? b = some o := fun b o hb e => (s5.2 b hb).trans e
    have kept : ∀ b o, s1.heap.get? b = some o → h5.get? b = some o := fun b o e => up b o (Nat.ne_of_lt (Nat.lt_of_lt_of_le (Heap.lt_size e) (Nat.le_of_succ_le nC'))) (k4 b o e)
    have seqs : ∀ (a : Addr) (u : Obj) (vs : Array Value) (n : Nat), s1.heap.get? a = some u → u.data = .seq vs n → h5.get? a = some u := fun a u _ _ e _ => kept a u e
    have dps : ∀ r ∈ dd ((pts t).take i), dep r ≤ 8 := fun r hr => by
      have m1 := List.mem_of_mem_take ((mem_dd _).mp hr)
      have := pts_dep t r m1
      omega
    have d5 : DictN X.w h5 D xs := d4.at fun o e => up D o hDC e
    have all5 : AllN h5 xs := (allN_of I1 e4 r4 t4 dps).stay seqs
    have key5 : NestedIs h5 (nk p) v := NestedIs.at seqs _ _ (tp.nested I1 ru)
    have kd : (nk p).depth ≤ 8 := by
      have := nk_depth p
      have := pts_dep t p hpm
      omega
    have led : Led xs := by
      cases i with
      | zero =>
        left
        have e4 : xs.map (·.1) = [] := e4
        exact List.map_eq_nil_iff.mp e4
      | succ i =>
        right
        obtain ⟨r, er⟩ := pts_head t
        have e0 : (pts t).take (i + 1) = t :: r.take i := by rw [er]; rfl
        rw [e0] at e4 t4
        obtain ⟨r', er'⟩ := dd_head t (r.take i)
        rw [er'] at e4 t4
        cases t4 with
        | @cons v1 t1 ws' ts' a b =>
        cases xs with
        | nil => cases e4
        | cons x xs =>
          cases r4 with
          | cons ra rb =>
            cases a with
            | nm s =>
              exfalso
              have : (pts (.nm s)).length = 1 := rfl
              rw [hlen] at hi
              omega
            | one h1 h2 => exact ⟨x, xs, _, rfl, ra⟩
            | two h1 h2 h3 => exact ⟨x, xs, _, rfl, ra⟩
    have hxl : xs.length ≤ sizeLine := by
      have e5 := congrArg List.length e4
      rw [List.length_map, List.length_map] at e5
      have := length_dd ((pts t).take i)
      rw [List.length_take] at this
      have := pts_len t
      omega
    have key4 : (lay xs (nk p) v (Value.bool true)).map (·.1) = (dd ((pts t).take (i + 1))).map nk := by
      rw [lay_keys, e4, take_more hpt, dd_snoc]
      unfold ins
      by_cases mm : p ∈ dd ((pts t).take i)
      · rw [if_pos mm, if_pos (List.mem_map.mpr ⟨p, mm, rfl⟩)]
      · rw [if_neg mm, if_neg (fun z => ?_), List.map_append]
        · rfl
        · obtain ⟨z1, z2, z3⟩ := List.mem_map.mp z
          exact mm (nk_inj z3 ▸ z2)
    have memk : nk p ∈ xs.map (·.1) ↔ p ∈ dd ((pts t).take i) := by
      rw [e4, List.mem_map]
      exact ⟨fun ⟨z1, z2, z3⟩ => nk_inj z3 ▸ z2, fun z => ⟨p, z, rfl⟩⟩
    refine set_n (s := { s1 with heap := h5, toks := tk4 + 1 }) (w := X.w) hu key5 kd d5 all5 led (form_of tp ru) hxl fun h6 tk6 d6 s6 => ⟨⟨?_, h6, tk6, _, _, if p ∈ dd ((pts t).take i) then ws else ws ++ [xv], rfl, n5.sameBut s6 (Ne.symm hDC), d6, key4, ?_, ?_, fun b o e => ?_⟩, ?_⟩
    · rw [hlen] at hi
      omega
    · rw [lay_vals]
      by_cases mm : p ∈ dd ((pts t).take i)
      · rw [if_pos mm, if_pos (memk.mpr mm)]
        exact r4
      · rw [if_neg mm, if_neg (fun z => mm (memk.mp z))]
        exact r4.append (.cons ru .nil)
    · rw [take_more hpt, dd_snoc]
      unfold ins
      by_cases mm : p ∈ dd ((pts t).take i)
      · rw [if_pos mm, if_pos mm]
        exact t4
      · rw [if_neg mm, if_neg mm]
        exact t4.app (.cons tp .nil)
    · exact (s6.2 b (Nat.ne_of_lt (Nat.lt_of_lt_of_le (Heap.lt_size e) (Nat.le_of_succ_le nD')))).trans (kept b o e)
    · have offs : ∀ b : Addr, b ≤ s1.heap.objs.size → ∀ o, h4.get? b = some o → h6.get? b = some o := fun b hb o e =>
        (s6.2 b (Nat.ne_of_lt (Nat.lt_of_le_of_lt hb nD'))).trans (up b o (Nat.ne_of_lt (Nat.lt_of_le_of_lt hb nC')) e)
      obtain ⟨z1, z2⟩ := st
      exact ⟨z1.at fun o e => offs _ (Nat.le_refl _) o e, z2.at fun o e => offs _ (Nat.le_of_lt hlt) o e⟩
end K6

set_option Elab.async false
set_option linter.all false
set_option maxRecDepth 100000
set_option maxHeartbeats 4000000
/-! Rules of our own: list(a dict of terms); set(a list of texts), its length, sorted(..) of it. -/
namespace K6
open PySem PySem.Spec PyProof.Rows L2

/-! ### list(d) -/
theorem vals_of_at : ∀ {ws : List V} {us vs : List Value}, Vals ws us → us.length = vs.length → (∀ (i : Nat) (v : Value), vs[i]? = some v → us[i]? = some v) → Vals ws vs := fun {ws us vs} r hl h => by
  have e : us = vs := by
    apply List.ext_getElem? 
    intro i
    cases q : vs[i]? with
    | none =>
      have : vs.length ≤ i := List.getElem?_eq_none_iff.mp q
      exact List.getElem?_eq_none_iff.mpr (by omega)
    | some v => exact h i v q
  rw [← e]
  exact r
theorem call_listN {X : Cx} (hc : X.calm = true) : CallR X (.type "list") (fun xs H Q => ∃ (a : Addr) (ws : List V) (ts : List Tm), xs = [.ref a] ∧ H a = some (DicO X.w a ws ts) ∧ ws.length ≤ sizeLine ∧ ∀ p, H p = none → Q (.ref p) (upd H p (.lst ws))) := by
  intro pins s σ H xs us Q I r h
  obtain ⟨a, ws, ts, rfl, ha, hz, q⟩ := h
  obtain ⟨u, rfl, rx⟩ := vals1 r
  cases rx
  obtain ⟨lo, ys, ⟨o, es, ep, ho, hex, hd, he, hn⟩, hk, rv⟩ := (I.hok a _ ha).1
  have hsz : es.size = ws.length := by
    have := rv.length
    rw [List.length_map] at this
    rw [ent_size he]
    omega
  refine PySem.W.kdl_call (KdlSrc.rawDict lo) (I.ok.hd hc) (⟨o, ho, hex, hd⟩ : s.heap.DictRaw a es ep) (by rw [hsz]; exact hz) fun h' tk acc c keep get its => ?_
  refine ⟨.ref s.heap.objs.size, upd H s.heap.objs.size (.lst ws), I.laid (t' := tk) keep (Nat.le_refl _) ⟨hz, acc.toList, c, ?_, get⟩, rfl, q _ (I.hok.fresh (Nat.le_refl _))⟩
  refine vals_of_at rv (by rw [List.length_map, ← ent_size he, ← its.1]; simp) fun i v hv => ?_
  rw [Array.getElem?_toList] at hv
  obtain ⟨hi, rfl⟩ := its.2 i v hv
  have e := ent_at he i
  rw [Array.getElem?_eq_getElem hi] at e
  rw [List.getElem?_map]
  cases q : ys[i]? with
  | none => rw [q] at e; cases e
  | some y =>
    rw [q] at e
    have e : es[i] = entN X.w y := Option.some.inj e
    rw [e]
    rfl

/-! ### a set of texts -/
def txt (e : Int × Value) : Str := strOf e.2
def GoodS (w : World) (e : Int × Value) : Prop := ∃ x tk, e.2 = Value.str x tk ∧ e.1 = hashStr w x
def setObj (w : World) : Obj := { cls := .type "set", dict := none, data := .set #[] 0 (.fresh 0 0 (!w.params.followText "set-order")) }
structure SetIn (w : World) (S : List Str) (es : Array (Int × Value)) (t : SetTable) : Prop where
  good : ∀ e ∈ es.toList, GoodS w e
  nd : (es.toList.map txt).Nodup
  mem : ∀ x, x ∈ es.toList.map txt ↔ x ∈ S
  few : es.size ≤ S.length
  scan : es.size < scanBound
  fit : t.fits es.size = true
  ris : Ris t.place.toList
  led : w.params.followText "set-order" = true ∨ t.led = true
/-- at a the set of the texts of the list S -/
def SetS (w : World) (h : Heap) (a : Addr) (S : List Str) : Prop := ∃ o es ep t, h.get? a = some o ∧ o.ExactSet ∧ o.data = .set es ep t ∧ SetIn w S es t
theorem SetS.at {w : World} {h h' : Heap} {a : Addr} {S : List Str} (x : SetS w h a S) (k : ∀ o, h.get? a = some o → h'.get? a = some o) : SetS w h' a S :=
  let ⟨o, es, ep, t, ho, r⟩ := x; ⟨o, es, ep, t, k o ho, r⟩
theorem setIn_none (w : World) : SetIn w [] #[] (.fresh 0 0 (!w.params.followText "set-order")) where
  good := fun e he => by simp at he
  nd := by simp
  mem := fun x => by simp
  few := Nat.le_refl _
  scan := by decide
  fit := by rfl
  ris := List.Pairwise.nil
  led := by
    show _ ∨ (!w.params.followText "set-order") = true
    cases w.params.followText "set-order"
    · exact .inr rfl
    · exact .inl rfl
theorem setS_none {w : World} {h : Heap} {a : Addr} (ho : h.get? a = some (setObj w)) : SetS w h a [] := ⟨_, #[], 0, _, ho, ⟨rfl, rfl, rfl⟩, rfl, setIn_none w⟩
section
variable {P : Program} {w : World} {A : Around} {E : Value → Shared → Prop} {s : Shared} {a : Addr} {S : List Str}
theorem goodS_elems {l : List (Int × Value)} (g : ∀ e ∈ l, GoodS w e) : ElemsOf (PySem.strKind P w) l := fun e he => by
  obtain ⟨x, tk, h1, h2⟩ := g e he
  exact ⟨⟨x, by rw [h1]; exact strKind_is P w x tk, h2⟩, by rw [h1]; rfl⟩
theorem goodS_is {e : Int × Value} (g : GoodS w e) (x : Str) : (PySem.strKind P w).is x e.2 = true ↔ txt e = x := by
  obtain ⟨y, tk, h1, _⟩ := g
  have hy := strKind_is P w y tk
  unfold txt
  rw [h1]
  show _ ↔ y = x
  constructor
  · intro q
    exact (PySem.strKind P w).inj _ _ _ hy q
  · rintro rfl
    exact hy
/-- the table stored, laid anew where it has become too full -/
theorem store_tail {g : Bool → Sem Unit} (hg : ∀ (b : Bool) (s₁ : Shared) (Q' : Unit → Shared → Prop), Q' () s₁ → wpAny (model P w) A (g b) Q' E s₁)
    {o : Obj} {es : Array (Int × Value)} {ep : Nat} {t : SetTable} (ho : s.heap.get? a = some o) (hex : o.ExactSet) (hd : o.data = .set es ep t) {es1 : Array (Int × Value)} {t1 : SetTable} (n1 : SetIn w S es1 t1) {was : Bool} {R : Option Bool → Shared → Prop}
    (hR : ∀ h', Heap.SameBut a s.heap h' → SetS w h' a S → R (some true) { s with heap := h' }) :
    wpAny (model P w) A (storeSet a es1 t1 >>= fun _ => if (!was && t1.tooFull) = true then g (relayAll t1 es1 (SetTable.grown es1.size)).2.2 >>= fun _ =>
        storeSet a (relayAll t1 es1 (SetTable.grown es1.size)).1 (relayAll t1 es1 (SetTable.grown es1.size)).2.1 >>= fun _ => pure (some true) else pure (some true)) R E s := by
  refine wpAny_bind (wpAny_storeSet_of ho hd ?_ (fits_of_scanBound n1.scan))
  have ho1 := store_at (es' := es1) (t' := t1) ho hd
  have b1 := Heap.SameBut.update s.heap a (Obj.putSet es1 t1)
  by_cases c : (!was && t1.tooFull) = true
  · rw [if_pos c]
    have pm := relayAll_perm t1 es1 (SetTable.grown es1.size)
    have f2 := relayAll_fits t1 es1 (SetTable.grown es1.size)
    have r2 := relayAll_ris t1 es1 (SetTable.grown es1.size)
    have l2 := relayAll_led t1 es1 (SetTable.grown es1.size)
    generalize relayAll t1 es1 (SetTable.grown es1.size) = Z at pm f2 r2 l2 ⊢
    obtain ⟨es2, t2, gave⟩ := Z
    dsimp only at pm f2 r2 l2 ⊢
    have hsz : es2.size = es1.size := by rw [← Array.length_toList, pm.length_eq, Array.length_toList]
    refine wpAny_bind (hg _ _ _ (wpAny_bind (wpAny_storeSet_of ho1 rfl ?_ (fits_of_scanBound (by rw [hsz]; exact n1.scan)))))
    refine wpAny_pure (hR _ (b1.trans (Heap.SameBut.update _ a _)) ⟨_, es2, _, t2, store_at (es' := es2) (t' := t2) ho1 rfl, hex, rfl, ?_⟩)
    exact { good := fun e he => n1.good e (pm.mem_iff.mp he), nd := (pm.map txt).nodup_iff.mpr n1.nd, mem := fun x => (pm.map txt).mem_iff.trans (n1.mem x), few := by rw [hsz]; exact n1.few, scan := by rw [hsz]; exact n1.scan, fit := f2, ris := r2, led := n1.led.imp id fun z => by rw [l2]; exact z }
  · rw [if_neg c]
    exact wpAny_pure (hR _ b1 ⟨_, es1, _, t1, ho1, hex, rfl, n1⟩)
theorem add_s {x : Str} {tk : Tok} {Q : Bool → Shared → Prop} (R : SetS w s.heap a S) (room : S.length + 1 < scanBound)
    (hQ : ∀ h' b, Heap.SameBut a s.heap h' → SetS w h' a (S ++ [x]) → Q b { s with heap := h' }) :
    wpAny (model P w) A (setAddHashed a (.str x tk) ((PySem.strKind P w).hash x)) Q E s := by
  obtain ⟨o, es, ep, t, ho, hex, hd, n⟩ := R
  have hkey : (PySem.strKind P w).is x (.str x tk) = true := strKind_is P w x tk
  have hsc : (Value.str x tk).scannable = true := rfl
  have hel : ElemsOf (PySem.strKind P w) es.toList := goodS_elems n.good
  unfold setAddHashed setAddHashedIn
  refine wpAny_holding (wpAny_bind (wpAny_setState_of ho hd n.fit ?_))
  dsimp only
  rw [byScan_of hsc n.scan hel]
  simp only [↓reduceIte]
  unfold setAddByScan
  refine wpAny_bind (wpAny_bind (wpAny_rule (wpAny_bind (wpAny_setScan_of hkey ho hd n.fit hel ?_))))
  have isAt : ∀ e ∈ es.toList, ((PySem.strKind P w).is x e.2 = true ↔ txt e = x) := fun e he => goodS_is (n.good e he) x
  cases hf : List.findIdx? (fun e => (PySem.strKind P w).is x e.2) es.toList with
  | some j =>
    dsimp only
    obtain ⟨hj, pj, _⟩ := List.findIdx?_eq_some_iff_getElem.mp hf
    have hx : x ∈ S := (n.mem x).mp (List.mem_map.mpr ⟨_, List.getElem_mem hj, (isAt _ (List.getElem_mem hj)).mp pj⟩)
    refine wpAny_pure (wpAny_pure (hQ s.heap _ (Heap.SameBut.refl a s.heap) ⟨o, es, ep, t, ho, hex, hd, { n with mem := fun y => ?_, few := ?_ }⟩))
    · rw [n.mem y, List.mem_append, List.mem_singleton]
      exact ⟨.inl, fun z => z.elim id fun e => e ▸ hx⟩
    · rw [List.length_append]
      exact Nat.le_trans n.few (Nat.le_add_right _ _)
  | none =>
    dsimp only
    have hx : x ∉ es.toList.map txt := fun z => by
      obtain ⟨e, he, q⟩ := List.mem_map.mp z
      have c := List.findIdx?_eq_none_iff.mp hf e he
      rw [(isAt e he).mpr q] at c
      cases c
    have hgw : ∀ (b : Bool) {s₁ : Shared} {Q' : Unit → Shared → Prop}, Q' () s₁ → wpAny (model P w) A (match b with | true => rule "set.scan.the-table-gave-way" | false => pure ()) Q' E s₁ :=
      fun b s₁ Q' q => by cases b <;> first | exact wpAny_pure q | exact wpAny_rule q
    have pm := layNew_perm t es ((PySem.strKind P w).hash x) (.str x tk)
    have f1 := layNew_fits t es ((PySem.strKind P w).hash x) (.str x tk)
    have r1 := layNew_ris t es ((PySem.strKind P w).hash x) (.str x tk) n.ris
    have l1 := layNew_led t es ((PySem.strKind P w).hash x) (.str x tk)
    generalize layNew t es ((PySem.strKind P w).hash x) (.str x tk) = Z at pm f1 r1 l1 ⊢
    obtain ⟨es1, t1, was, gave⟩ := Z
    dsimp only at pm f1 r1 l1 ⊢
    rw [Array.toList_push] at pm
    have pc : es1.toList.Perm (((PySem.strKind P w).hash x, Value.str x tk) :: es.toList) := pm.trans (List.perm_append_singleton _ _)
    have pk : (es1.toList.map txt).Perm (x :: es.toList.map txt) := pc.map txt
    have hsz : es1.size = es.size + 1 := by rw [← Array.length_toList, pc.length_eq, List.length_cons, Array.length_toList]
    have few := n.few
    have n1 : ∀ t' : SetTable, t'.fits es1.size = true → t'.place = t1.place → t'.led = t1.led → SetIn w (S ++ [x]) es1 t' := fun t' q1 q2 q3 =>
      { good := fun e he => by
          rcases List.mem_cons.mp (pc.mem_iff.mp he) with z | z
          · rw [z]; exact ⟨x, tk, rfl, rfl⟩
          · exact n.good e z
        nd := pk.nodup_iff.mpr (List.nodup_cons.mpr ⟨hx, n.nd⟩)
        mem := fun y => by
          rw [pk.mem_iff, List.mem_cons, n.mem y, List.mem_append, List.mem_singleton]
          exact Or.comm
        few := by rw [hsz, List.length_append]; exact Nat.succ_le_succ few
        scan := by rw [hsz]; omega
        fit := q1
        ris := by rw [q2]; exact r1
        led := n.led.imp id fun z => by rw [q3, l1]; exact z }
    refine wpAny_bind (hgw _ ?_)
    split
    · refine wpAny_bind ?_
      rw [hashByValue_scannable 8 hsc]
      refine wpAny_pure ?_
      refine store_tail ?_ ho hex hd (n1 _ ?_ ?_ ?_) ?_
      · intro b s₁ Q' q; cases b <;> first | exact wpAny_pure q | exact wpAny_rule q
      · first | (split <;> first | exact f1 | exact SetTable.fits_plain_off f1) | exact f1
      · first | (split <;> rfl) | rfl
      · first | (split <;> rfl) | rfl
      · intro h' sb r; dsimp only; exact wpAny_pure (hQ h' _ sb r)
    · refine wpAny_bind (wpAny_pure ?_)
      simp only [↓reduceIte]
      refine store_tail ?_ ho hex hd (n1 _ f1 rfl rfl) ?_
      · intro b s₁ Q' q; cases b <;> first | exact wpAny_pure q | exact wpAny_rule q
      · intro h' sb r; dsimp only; exact wpAny_pure (hQ h' _ sb r)
end
end K6

set_option Elab.async false
set_option linter.all false
set_option maxRecDepth 100000
set_option maxHeartbeats 8000000
namespace K6
open PySem PySem.Spec PyProof.Rows L2
section
variable {P : Program} {w : World} {A : Around} {E : Value → Shared → Prop} {s : Shared}
/-- the loop that fills a set from a walk over texts -/
theorem fill_s {I : Addr} {fp wr : List Addr} {G : Array GenState → Array GenState → Prop} {n : Nat} {Pv : Nat → Value → Prop} {St : Nat → Shared → Prop} {R : Result → Shared → Prop}
    (W : WalksS P w A.in1 I fp wr G n Pv St) (a : Addr) (ha : a ∉ fp) (S : List Str) (hn : n = S.length) (hb : S.length + 1 < scanBound) (hval : ∀ i v, Pv i v → ∃ x t, S[i]? = some x ∧ v = .str x t)
    (hR : ∀ s', Moved (a :: wr) G s s' → SetS w s'.heap a S → R (.ok (.ret .none)) s') :
    ∀ (m i : Nat) (s1 : Shared), n = i + m → St i s1 → SetS w s1.heap a (S.take i) → Moved (a :: wr) G s s1 ∨ s1 = s → codeAny (model P w) A (.builtin "set.update.loop" ⟨[.ref a, .ref I], []⟩) R s1 := by
  have aw : a ∉ wr := fun h => ha (W.sub _ h)
  have more : ∀ {s1 s2 : Shared}, Moved (a :: wr) G s s1 ∨ s1 = s → Moved (a :: wr) G s1 s2 → Moved (a :: wr) G s s2 := fun h m => by
    rcases h with h | rfl
    · exact Moved.trans W.gtrans h m
    · exact m
  intro m
  induction m with
  | zero =>
    intro i s1 hi hst hS hm0
    have hin : i = n := by omega
    subst hin
    refine codeAny_builtin F.entry_set_update_loop ?_
    rw [Around.under_plainId F.plain_set_update_loop _]
    show wpAny _ A.in1 (pyNext (.ref I) >>= _) _ _ s1
    refine wpAny_bind (W.done s1 _ _ hst fun s2 hm => ?_)
    have m2 : Moved (a :: wr) G s1 s2 := hm.mono fun b hb => List.mem_cons_of_mem _ hb
    rw [List.take_of_length_le (Nat.le_of_eq hn.symm)] at hS
    show wpAny _ A.in1 (ret Value.none) _ _ s2
    exact wpAny_pure (hR s2 (more hm0 m2) (hS.at fun o e => hm.heap a o aw e))
  | succ m ih =>
    intro i s1 hi hst hS hm0
    have hlt : i < n := by omega
    refine codeAny_builtin F.entry_set_update_loop ?_
    rw [Around.under_plainId F.plain_set_update_loop _]
    show wpAny _ A.in1 (pyNext (.ref I) >>= _) _ _ s1
    refine wpAny_bind (W.item i s1 _ _ hlt hst fun v s2 hP hst2 hm => ?_)
    obtain ⟨x, t, hx, rfl⟩ := hval i v hP
    have m2 : Moved (a :: wr) G s1 s2 := hm.mono fun b hb => List.mem_cons_of_mem _ hb
    have hS2 : SetS w s2.heap a (S.take i) := hS.at fun o e => hm.heap a o aw e
    have hlen : (S.take i).length + 1 < scanBound := by
      have := List.length_take_le i S
      omega
    show wpAny _ A.in1 (holding [Value.str x t] (setAdd a (.str x t)) >>= _) _ _ s2
    refine wpAny_bind (wpAny_holding ?_)
    unfold setAdd
    refine wpAny_holding (wpAny_bind ((PySem.strKind P w).pyHash (k := x) (strKind_is _ _ _ _) ?_))
    refine add_s (s := { s2 with toks := s2.toks + 1 }) hS2 hlen fun h3 b sb hS3 => ?_
    rw [← take_more hx] at hS3
    have m3 : Moved (a :: wr) G s1 { s2 with heap := h3, toks := s2.toks + 1 } := m2.then_heap (Nat.le_succ _) fun c o hc e => by
      rw [sb.2 c fun z : c = a => hc (by rw [z]; exact List.mem_cons_self)]
      exact e
    refine wpAny_pure ⟨plainId_quiet F.plain_set_update_loop _, ih (i + 1) _ (by omega) (W.frame _ s2 _ _ hst2 (Nat.le_succ _) fun c hc o e => ?_) hS3 (.inl (more hm0 m3))⟩
    rw [sb.2 c fun z : c = a => ha (by rw [← z]; exact hc)]
    exact e
/-- set(l), l a list of texts -/
theorem call_set_s {l : Addr} {items : Array Value} (S : List Str) {Q : Value → Shared → Prop} (hh : A.handled = none) (hl : s.heap.IsList l items) (hit : StrsAre items.toList S) (hb : S.length + 1 < scanBound)
    (h : ∀ (h' : Heap) (tk : Nat), SetS w h' s.heap.objs.size S → (∀ b o, s.heap.get? b = some o → h'.get? b = some o) → Q (.ref s.heap.objs.size) { s with heap := h', toks := tk }) :
    wpAny (model P w) A (call (.type "set") [.ref l]) Q E s := by
  have hsz : items.size = S.length := by
    rw [← Array.length_toList]
    exact StrsAre.len_eq hit
  generalize hX : setObj w = X0
  have hX' : X0 = { cls := .type "set", dict := none, data := .set #[] 0 (.fresh 0 0 (!w.params.followText "set-order")) } := hX.symm
  obtain ⟨c, tl, hmro⟩ := F.called_set.mro
  have hmade := F.called_set.made
  have hsub := F.called_set.sub
  refine wpAny_call (codeAny_of_tree ?_)
  show wpAny _ _ (callAny (.type "set") _) _ _ _
  refine wpAny_pure ⟨Code.quiet_builtin _ (by decide +kernel), codeAny_builtin F.entry_type_call ?_⟩
  rw [Around.under_plain (weight_type_call_type "set" [.ref l] []) rfl]
  have h1 := F.called_set.notType
  have h2 := F.called_set.canCreate
  have hct := F.typeCall_set_1 (.ref l)
  repeat (any_goals (first | assumption | wp_step))
  refine codeAny_mono (code_set_led1 (.ref l) (E := E) (Q₁ := fun obj s1 => obj = .ref s.heap.objs.size ∧ s1 = { s with heap := s.heap.push X0 }) ⟨rfl, by rw [hX']⟩) fun r s1 hr => ?_
  cases r with
  | error e => exact hr
  | ok fl => ?_
  cases fl with
  | next => exact hr.elim
  | brk => exact hr.elim
  | cont => exact hr.elim
  | ret obj => ?_
  obtain ⟨rfl, rfl⟩ := hr
  have hS : (s.heap.push X0).get? s.heap.objs.size = some X0 := Heap.get?_push_size _ (by rw [hX']; rfl)
  have hT : Shared.TypeIs { s with heap := s.heap.push X0 } (.ref s.heap.objs.size) "set" := ⟨_, hS, by rw [hX']⟩
  have hli := F.called_set.init.lookup
  have hbi := F.called_set.init.bind (.ref s.heap.objs.size)
  repeat (any_goals (first | assumption | wp_step))
  refine codeAny_mono (codeAny_call_builtin (R := wants (fun r s2 => r = .none ∧ ∃ h' tk, s2 = { s with heap := h', toks := tk } ∧ SetS w h' s.heap.objs.size S ∧ (∀ b o, s.heap.get? b = some o → h'.get? b = some o)) E)
    F.called_set.init.plain F.entry_set_init (check_set_init_1 hT ?_)) fun r2 s2 hr2 => ?_
  · obtain ⟨ol, hol, hcl, nl, hdl⟩ := hl
    obtain ⟨ocls, odict, odata, oslots⟩ := ol
    simp only at hcl hdl
    subst hcl hdl
    have hol2 : (s.heap.push X0).get? l = some { cls := .type "list", dict := odict, data := .seq items nl, slots := oslots } := Heap.get?_push_of_some _ hol
    have hsls := F.sub_list_set
    have hslf := F.sub_list_frozenset
    have hne : (Value.type "list" == Value.type "dict") = false := by decide
    have hl1 : (s.heap.push X0).IsList l items := ⟨_, hol2, rfl, nl, rfl⟩
    have size1 : (s.heap.push X0).objs.size = s.heap.objs.size + 1 := Heap.size_push ..
    subst hX'
    unfold Builtin.«set.__init__» noKeywords Builtin.Frozenset.updateFrom
    generalize hPI : pyIter = PI
    wp_walk
    subst hPI
    refine wpAny_pyIter_list hl1 ?_
    refine wpAny_bind (wpAny_runValue ?_)
    have hlS : l < s.heap.objs.size := Heap.lt_size hol
    have hneI : l ≠ s.heap.objs.size + 1 := Nat.ne_of_lt (Nat.lt_succ_of_lt hlS)
    rw [← size1] at hneI
    have hnf : s.heap.objs.size ∉ [s.heap.objs.size + 1, l] := by
      simp only [List.mem_cons, List.mem_singleton, List.not_mem_nil, or_false, not_or]
      exact ⟨Nat.ne_of_lt (Nat.lt_succ_self _), Nat.ne_of_gt hlS⟩
    have hval : ∀ (i : Nat) (v : Value), items[i]? = some v → ∃ x t, S[i]? = some x ∧ v = .str x t := fun i v hv => by
      have hi : i < S.length := by rw [← hsz]; exact (Array.getElem?_eq_some_iff.mp hv).1
      obtain ⟨t, e⟩ := SS.strs_at hit i v (by rw [Array.getElem?_toList]; exact hv)
      refine ⟨S[i], t, List.getElem?_eq_getElem hi, ?_⟩
      rw [e, List.getD_eq_getElem?_getD, List.getElem?_eq_getElem hi]
      rfl
    rw [← size1] at hnf
    refine fill_s ((Walks.list (by simp [hh]) _ l hneI items).toS) s.heap.objs.size hnf S hsz hb hval ?hR items.size 0 _ (Nat.zero_add _).symm ⟨⟨_, Heap.get?_push_size _ rfl, rfl, rfl⟩, hl1.push _⟩ ?hS0 (.inr rfl)
    case hS0 => exact setS_none (Heap.get?_push_of_some _ hS)
    case hR =>
      intro s3 hm hS3
      obtain ⟨h3, g3, d3, tk3, os3⟩ := s3
      have eg : g3 = s.gens := hm.gens
      have ed : d3 = s.drawn := hm.drawn
      have eo : os3 = s.os := hm.os
      subst eg ed eo
      show wpAny _ _ _ _ _ _
      refine wpAny_pure ?_
      show wpAny _ _ (ret Value.none) _ _ _
      refine wpAny_pure ⟨rfl, h3, tk3, rfl, hS3, fun b o e => ?_⟩
      have hb0 : b < s.heap.objs.size := Heap.lt_size e
      refine hm.heap b o (fun z => ?_) (Heap.get?_push_of_some _ (Heap.get?_push_of_some _ e))
      simp only [List.mem_cons, List.mem_singleton, List.not_mem_nil, or_false] at z
      rcases z with z | z
      · exact absurd z (Nat.ne_of_lt hb0)
      · rw [size1] at z
        exact absurd z (Nat.ne_of_lt (Nat.lt_succ_of_lt hb0))
  · cases r2 with
    | error e => exact hr2
    | ok fl2 => ?_
    cases fl2 with
    | next => exact hr2.elim
    | brk => exact hr2.elim
    | cont => exact hr2.elim
    | ret r => ?_
    obtain ⟨rfl, h', tk, rfl, hS', hk'⟩ := hr2
    repeat (any_goals (first | assumption | wp_step))
    exact h _ _ hS' hk'
end
end K6

set_option Elab.async false
set_option linter.all false
set_option maxRecDepth 100000
set_option maxHeartbeats 8000000
namespace K6
open PySem PySem.Spec PyProof.Rows L2
def SetTO (w : World) (a : Addr) (S : List Str) : HO := .ext fun h => SetS w h a S
theorem setTO_new {w : World} {P : Program} {H : Hp} {h : Heap} {a : Addr} {S : List Str} (R : SetS w h a S) : ObjOk P w H h a (SetTO w a S) := by
  have ⟨o, _, _, _, ho, _⟩ := R
  exact ⟨R, ⟨o, ho⟩, fun h1 h2 p k => p.at k⟩
section
variable {X : Cx}
theorem cr_setS (hc : X.calm = true) : CallR X (.type "set") (fun xs H Q => ∃ (l : Addr) (S : List Str), xs = [.ref l] ∧ SqL X.K H l (S.map V.str) ∧ S.length + 1 < scanBound ∧ ∀ a, H a = none → Q (.ref a) (upd H a (SetTO X.w a S))) := by
  intro pins s σ H xs us Q I r h
  obtain ⟨l, S, rfl, hq, hb, q⟩ := h
  obtain ⟨u, rfl, rx⟩ := vals1 r
  cases rx
  obtain ⟨its, rv, pl, hz⟩ := I.list hq
  refine call_set_s S (I.ok.hd hc) pl.isList (by simpa using strsAre_of rv) hb fun h' tk hS keep => ?_
  exact ⟨.ref s.heap.objs.size, upd H s.heap.objs.size (SetTO X.w s.heap.objs.size S), I.laid (t' := tk) keep (Nat.le_refl _) (setTO_new hS), rfl, q _ (I.hok.fresh (Nat.le_refl _))⟩
theorem nodup_len {a b : List Str} (ha : a.Nodup) (hb : b.Nodup) (h : ∀ x, x ∈ a ↔ x ∈ b) : a.length = b.length := by
  have p : a.Perm b := (List.perm_ext_iff_of_nodup ha hb).mpr h
  exact p.length_eq
theorem cr_lenS : CallR X (.builtin "len") (fun xs H Q => ∃ (a : Addr) (S : List Str), xs = [.ref a] ∧ H a = some (SetTO X.w a S) ∧ S.Nodup ∧ Q (.int S.length) H) := by
  intro pins s σ H xs us Q I r h
  obtain ⟨a, S, rfl, ha, nd, q⟩ := h
  obtain ⟨u, rfl, rx⟩ := vals1 r
  cases rx
  obtain ⟨o, es, ep, t, ho, hex, hd, n⟩ := (I.hok a _ ha).1
  have e : es.size = S.length := by
    rw [← Array.length_toList, ← List.length_map (f := txt)]
    exact nodup_len n.nd nd n.mem
  refine call_len_set ho hex hd n.fit (by have := n.scan; unfold scanBound at this; omega) ⟨.int S.length, H, I.tok _, ⟨_, by rw [e]⟩, q⟩
theorem cr_sortedT (hc : X.calm = true) : CallR X (.builtin "sorted") (fun xs H Q => ∃ (a : Addr) (S : List Str), xs = [.ref a] ∧ H a = some (SetTO X.w a S) ∧ S.length < 64 ∧
    ∀ (ys : List Str) (p : Addr), ys.Nodup → (∀ x, x ∈ ys ↔ x ∈ S) → sortedS ys = true → H p = none → Q (.ref p) (upd H p (.lst (ys.map V.str)))) := by
  intro pins s σ H xs us Q I r h
  obtain ⟨a, S, rfl, ha, h64, q⟩ := h
  obtain ⟨u, rfl, rx⟩ := vals1 r
  cases rx
  obtain ⟨o, es, ep, t, ho, hex, hd, n⟩ := (I.hok a _ ha).1
  refine Calls.call_function_entry kind_sorted plain_sorted entry_sorted (args_sorted1 _) ?_
  unfold Builtin.«sorted»
  refine wpAny_bind (m := checkCount "sorted" 1 1 _) (wpAny_pure ?_)
  refine wpAny_bind (collect_set (A := X.A.in1) (I.ok.hd hc) ⟨o, ho, hex.1, hd⟩ n.fit n.scan n.ris n.led fun s1 vs keep size gens os pm => ?_)
  have few : vs.length < 64 := by
    rw [pm.length_eq, List.length_map, Array.length_toList]
    exact Nat.lt_of_le_of_lt n.few h64
  have hsa : StrsAre vs (vs.map strOf) := strsAre_map vs fun v hv => by
    obtain ⟨e, he, rfl⟩ := List.mem_map.mp (pm.mem_iff.mp hv)
    obtain ⟨x, tk, h1, _⟩ := n.good e he
    exact ⟨x, tk, h1⟩
  have pk : (vs.map strOf).Perm (es.toList.map txt) := by
    have z := pm.map strOf
    rw [List.map_map] at z
    exact z
  refine wpAny_bind (wpAny_newList ?_ (by rw [sizeLine_eq]; omega))
  have hoL : (s1.heap.push (seqObj "list" vs.toArray 0)).get? s1.heap.objs.size = some (seqObj "list" vs.toArray 0) := Heap.get?_push_size _ rfl
  refine wpAny_bind (wpAny_holding (wpAny_call_entry slot_list_sort ⟨_, hoL, rfl⟩ entry_list_sort
    (list_sort_treeK strKind_oneLt hoL hsa.keysOf (fun v1 v2 rest e => keyKind_strs (ss := vs.map strOf) (by rw [← e]; exact hsa)) few fun st a1 a2 => ⟨_, rfl, ?_⟩) (args_list_sort _)))
  obtain ⟨ys, b1, b2, b3⟩ := sorted_out_str hsa a1 a2
  generalize (arrOf st).map (·.2) = out at b1
  obtain ⟨c, hc'⟩ := sortedHeap_at (vs := vs) (out := out) hoL
  have py : ys.Perm (es.toList.map txt) := b2.trans pk
  have hlen : (ys.map V.str).length ≤ sizeLine := by
    rw [List.length_map, b2.length_eq, List.length_map, sizeLine_eq]
    omega
  have hn : H s1.heap.objs.size = none := I.hok.fresh size
  have k2 : ∀ b o, s.heap.get? b = some o → (sortedHeap (s1.heap.push (seqObj "list" vs.toArray 0)) s1.heap.objs.size vs out).get? b = some o := fun b o e => by
    have z := keep b o e
    have hlt := Heap.lt_size z
    rw [sortedHeap_old (Nat.ne_of_lt hlt) (by rw [size_push']; exact Nat.lt_succ_of_lt hlt)]
    exact Heap.get?_push_of_some _ z
  have J := I.call' (s' := { s1 with heap := sortedHeap (s1.heap.push (seqObj "list" vs.toArray 0)) s1.heap.objs.size vs out }) (ch := []) (H' := upd H s1.heap.objs.size (.lst (ys.map V.str))) os (Un.laid k2 size hn)
    (I.hok.laid k2 size ⟨hlen, out.toList, c, vals_of_strs b1, hc'⟩) (by show AllBare s1.gens; rw [gens]; exact I.bare) (fun _ z => nomatch z)
  refine wpAny_pure ⟨_, rfl, .ref s1.heap.objs.size, _, J, rfl, q ys _ (py.nodup_iff.mpr n.nd) (fun x => py.mem_iff.trans (n.mem x)) b3 hn⟩
end
end K6
namespace K6
open PySem PySem.Spec PyProof.Rows L2
theorem rising_le : ∀ (l : List Str) (p : Str), risingS p l = true → ∀ x ∈ l, p.cps.toList ≤ x.cps.toList
  | [], _, _, _, m => nomatch m
  | y :: l, p, h, x, m => by
    have h : (!ltCps y.cps.toList p.cps.toList && risingS y l) = true := h
    rw [Bool.and_eq_true, ltCps_eq, Bool.not_eq_true', decide_eq_false_iff_not] at h
    have py : p.cps.toList ≤ y.cps.toList := List.not_lt.mp h.1
    rcases List.mem_cons.mp m with rfl | m
    · exact py
    · exact List.le_trans py (rising_le l y h.2 x m)
theorem rising_pair : ∀ (l : List Str) (p : Str), risingS p l = true → (p :: l).Pairwise fun a b => a.cps.toList ≤ b.cps.toList
  | [], _, _ => List.pairwise_cons.mpr ⟨fun _ m => (nomatch m), List.Pairwise.nil⟩
  | y :: l, p, h => by
    have h' : (!ltCps y.cps.toList p.cps.toList && risingS y l) = true := h
    rw [Bool.and_eq_true] at h'
    exact List.pairwise_cons.mpr ⟨rising_le (y :: l) p h, rising_pair l y h'.2⟩
theorem sorted_pair : ∀ (l : List Str), sortedS l = true → l.Pairwise fun a b => a.cps.toList ≤ b.cps.toList
  | [], _ => List.Pairwise.nil
  | y :: l, h => rising_pair l y h
/-- the ascending list of given texts is one -/
theorem sorted_one {a b : List Str} (ha : a.Nodup) (hb : b.Nodup) (h : ∀ x, x ∈ a ↔ x ∈ b) (sa : sortedS a = true) (sb : sortedS b = true) : a = b :=
  List.Perm.eq_of_pairwise (le := fun x y => x.cps.toList ≤ y.cps.toList) (fun x y _ _ h1 h2 => cl_inj (List.le_antisymm h1 h2)) (sorted_pair a sa) (sorted_pair b sb) ((List.perm_ext_iff_of_nodup ha hb).mpr h)
end K6

set_option Elab.async false
set_option linter.all false
set_option maxRecDepth 100000
set_option maxHeartbeats 8000000
/-! Short words: a def that keeps a promise, the module's constants, comprehensions that leave the heap as it was. -/
namespace K6
open PySem PySem.Spec PyProof.Rows L2
def top (i : Nat) : Stmt := PySem.Challenge.pw_sealedtalk_k06_whole_terms_and_wordings.main.body.getD i (.Pass ⟨0, 0, 0, 0⟩)
/-- the name x stands for a def that keeps the promise sp, k rooms below -/
def Def (P : Program) (w : World) (K : PySem.W.Frag) (mg : Str → Option Value) (base : Heap) (k : Nat) (x : Str) (ps : List Str) (sp : Sp) : Prop :=
  ∃ f fd, FnOk P w K mg base CX0 k f fd ps sp ∧ mg x = some (.ref f) ∧ PySem.W.keepIn K (.ref f) = true ∧ Binds K fd ps []
/-- the def st stands at the name x -/
def At (K : PySem.W.Frag) (mg : Str → Option Value) (x : Str) (st : Stmt) (ps : List Str) : Prop :=
  ∃ f fd, Fun K x x st f fd ∧ mg x = some (.ref f) ∧ Binds K fd ps []
section
variable {P : Program} {w : World} {K : PySem.W.Frag} {mg : Str → Option Value} {base : Heap}
theorem Def.mono {j k : Nat} {x : Str} {ps : List Str} {sp : Sp} (D : Def P w K mg base j x ps sp) (h : j ≤ k) : Def P w K mg base k x ps sp :=
  let ⟨f, fd, a, b⟩ := D; ⟨f, fd, a.mono h, b⟩
theorem Def.imp {k : Nat} {x : Str} {ps : List Str} {sp sp' : Sp} (D : Def P w K mg base k x ps sp) (h : ∀ vs H Q E, sp' vs H Q E → sp vs H Q E) : Def P w K mg base k x ps sp' :=
  let ⟨f, fd, a, b⟩ := D; ⟨f, fd, a.imp h, b⟩
theorem At.ok {x : Str} {st : Stmt} {ps N : List Str} {k : Nat} {sp : Sp} (D : At K mg x st ps) (S : FnScope N ps (defScope st)) (len : ∀ vs H Q E, sp vs H Q E → vs.length = ps.length)
    (hbody : ∀ (f : Addr) (cdv : Value) (A : Around) (outer : List Env) (s : Shared) (H : Hp) (vs : List V) (Q : VK) (E : XK), Room k (A.deeper (envOfC x (defScope st) s.heap.objs.size f cdv)) → sp vs H Q E →
      ∃ t, PSs (cxOf CX0 P w K mg base N x (defScope st) f cdv A outer s H E).nox (defBody st) t ∧ t { nx := fun _ H' => Q .non H', rt := Q } (start N vs) H) : Def P w K mg base (k + 1) x ps sp := by
  obtain ⟨f, fd, F, m, b⟩ := D
  exact ⟨f, fd, F.ok S len (fun cdv A outer s H vs Q E => hbody f cdv A outer s H vs Q E), m, F.kp, b⟩
/-- a promise that no call can ask for -/
theorem At.no {x : Str} {st : Stmt} {ps : List Str} {sp : Sp} (D : At K mg x st ps) (no : ∀ vs H Q E, ¬ sp vs H Q E) : Def P w K mg base 0 x ps sp := by
  obtain ⟨f, fd, F, m, b⟩ := D
  exact ⟨f, fd, ⟨fun vs H Q E h => absurd h (no vs H Q E), fun A outer s H args us vs Q E _ _ _ _ h => absurd h (no vs H Q E)⟩, m, F.kp, b⟩
end
section
variable {X : Cx} {k : Nat} {sp : Sp} {ps : List Str} {x : Str} {p pos : Pos} {e : Expr} {es : List Expr} {t : TA}
theorem pe_def (D : Def X.prog X.w X.K X.mg X.base k x ps sp) (hr : Room k X.A) (ha : PA X (e :: es) t) (hg : Gl X x := by rfl) (hdb : (x == ("__debug__" : Str)) = false := by decide)
    (he : starEach (e :: es) X.env = (false, eval e X.env) :: starEach es X.env := by rfl) (hpl : (backTo pos (starEach es X.env)).any (·.1) = false := by rfl) :
    PE X (.Call (.Name x p) (e :: es) [] pos) (tCall sp [] E0 t) := by
  obtain ⟨f, fd, F, m, kp, b⟩ := D
  exact pe_call F hr hg m kp b .nil pass0 ha hdb he hpl
theorem pe_cs {z : Str} (h : ∃ t, X.mg x = some (.str z t)) (hg : Gl X x := by rfl) (hd : (x == ("__debug__" : Str)) = false := by decide) : PE X (.Name x pos) (tC (.str z)) := by
  obtain ⟨t, h⟩ := h
  exact pe_glob hg h ⟨t, rfl⟩ hd
theorem pe_ci {z : Int} (h : ∃ t, X.mg x = some (.int z t)) (hg : Gl X x := by rfl) (hd : (x == ("__debug__" : Str)) = false := by decide) : PE X (.Name x pos) (tC (.int z)) := by
  obtain ⟨t, h⟩ := h
  exact pe_glob hg h ⟨t, rfl⟩ hd
theorem pe_cr {a : Addr} (h : X.mg x = some (.ref a)) (hg : Gl X x := by rfl) (hd : (x == ("__debug__" : Str)) = false := by decide) : PE X (.Name x pos) (tC (.ref a)) := pe_glob hg h rfl hd
theorem pe_ty {T : String} (m : X.mg x = none) (hv : bootBuiltins x = some (.type T)) (hg : Gl X x := by rfl) (hn : x ≠ "__name__" := by decide) (hd : (x == ("__debug__" : Str)) = false := by decide) : PE X (.Name x pos) (tC (.ty T)) :=
  pe_bltn hg m hv rfl hn hd
theorem pe_b {id : String} {r : List V → Hp → VK → Prop} (hc : CallR X (.builtin id) r) (m : X.mg x = none) (hv : bootBuiltins x = some (.builtin id)) (ha : PA X (e :: es) t) (hg : Gl X x := by rfl) (hn : x ≠ "__name__" := by decide) (hdb : (x == ("__debug__" : Str)) = false := by decide)
    (he : starEach (e :: es) X.env = (false, eval e X.env) :: starEach es X.env := by rfl) (hpl : (backTo pos (starEach es X.env)).any (·.1) = false := by rfl) : PE X (.Call (.Name x p) (e :: es) [] pos) (tCB r t) :=
  pe_callB hc hg m hv ha hn hdb he hpl
theorem pe_t {T : String} {r : List V → Hp → VK → Prop} (hc : CallR X (.type T) r) (m : X.mg x = none) (hv : bootBuiltins x = some (.type T)) (ha : PA X (e :: es) t) (hg : Gl X x := by rfl) (hn : x ≠ "__name__" := by decide) (hdb : (x == ("__debug__" : Str)) = false := by decide)
    (he : starEach (e :: es) X.env = (false, eval e X.env) :: starEach es X.env := by rfl) (hpl : (backTo pos (starEach es X.env)).any (·.1) = false := by rfl) : PE X (.Call (.Name x p) (e :: es) [] pos) (tCB r t) :=
  pe_callTy hc hg m hv ha hn hdb he hpl
end
/-- the built-in names that the module leaves alone -/
structure Bt (mg : Str → Option Value) : Prop where
  isinstance : mg "isinstance" = none
  str : mg "str" = none
  tuple : mg "tuple" = none
  list : mg "list" = none
  dict : mg "dict" = none
  bool : mg "bool" = none
  int : mg "int" = none
  set : mg "set" = none
  len : mg "len" = none
  all : mg "all" = none
  sum : mg "sum" = none
  max : mg "max" = none
  sorted : mg "sorted" = none
  range : mg "range" = none
theorem boot_all : bootBuiltins "all" = some (.builtin "all") := by decide +kernel
theorem boot_sum : bootBuiltins "sum" = some (.builtin "sum") := by decide +kernel
theorem boot_max : bootBuiltins "max" = some (.builtin "max") := by decide +kernel
theorem boot_sortd : bootBuiltins "sorted" = some (.builtin "sorted") := by decide +kernel
theorem boot_isi : bootBuiltins "isinstance" = some (.builtin "isinstance") := by decide +kernel
theorem boot_ty_str : bootBuiltins "str" = some (.type "str") := by decide +kernel
theorem boot_ty_tuple : bootBuiltins "tuple" = some (.type "tuple") := by decide +kernel
theorem boot_ty_list : bootBuiltins "list" = some (.type "list") := by decide +kernel
theorem boot_ty_dict : bootBuiltins "dict" = some (.type "dict") := by decide +kernel
theorem boot_ty_bool : bootBuiltins "bool" = some (.type "bool") := by decide +kernel
theorem boot_ty_int : bootBuiltins "int" = some (.type "int") := by decide +kernel
theorem boot_ty_set : bootBuiltins "set" = some (.type "set") := by decide +kernel
theorem boot_ln : bootBuiltins "len" = some (.builtin "len") := by decide +kernel

/-! ### heaps -/
theorem same_new {H : Hp} {p : Addr} (h : H p = none) (o : HO) : Same H (upd H p o) := fun b u q => by rw [upd_ne (ne_of_none q h)]; exact q
theorem tups_new {K : PySem.W.Frag} {H : Hp} {p : Addr} (h : H p = none) (o : HO) : Tups K H (upd H p o) := tups_same (same_new h o)
theorem tups_lst {K : PySem.W.Frag} {H : Hp} {p : Addr} {ys zs : List V} (h : H p = some (.lst ys)) : Tups K H (upd H p (.lst zs)) := by
  have ne : ∀ b u, H b = some u → u ≠ .lst ys → b ≠ p := fun b u q d z => by
    subst z
    rw [h] at q
    exact d (Option.some.inj q).symm
  rintro b xs ((q | ⟨o, q⟩) | q)
  · exact .inl (.inl (by rw [upd_ne (ne _ _ q (by intro z; cases z))]; exact q))
  · exact .inl (.inr ⟨o, by rw [upd_ne (ne _ _ q (by intro z; cases z))]; exact q⟩)
  · exact .inr q
theorem same_sqt {K : PySem.W.Frag} {H H' : Hp} {a : Addr} {xs : List V} (e : Same H H') (h : SqT K H a xs) : SqT K H' a xs := tups_same e a xs h
/-- what stood in H stands; D is new and may be written -/
theorem same_upd {H H1 : Hp} {D : Addr} {o : HO} (nD : H D = none) (e : Same H H1) : Same H (upd H1 D o) := fun b u q => by
  rw [upd_ne (ne_of_none q nD)]
  exact e b u q

/-! ### comprehensions -/
/-- [e for x in ..]: G holds of the heap throughout; R tells what the i-th element is -/
theorem lc_ev {K : PySem.W.Frag} {J : It} {xs : List V} {G0 : Hp → Prop} (w : Walk J xs.length G0 (YAt xs)) {te : TE} {sl : Nat} {vs : List Nat} {σ : L2.St} {H1 : Hp} {D : Addr} {Qd : Hp → Prop}
    (G : Hp → Prop) (R : Nat → V → Hp → Prop) (hz : xs.length ≤ sizeLine) (g0 : G (upd H1 D (.lst []))) (gG : ∀ H, G H → G0 H) (gD : ∀ H ys zs, G H → H D = some (.lst ys) → G (upd H D (.lst zs)))
    (mono : ∀ i y H H', Tups K H H' → R i y H → R i y H') (wp : ∀ x, wipe ((wipe σ vs).set sl (some x)) vs = wipe σ vs)
    (hs : ∀ (i : Nat) (x : V) (H : Hp) (Q : VK), xs[i]? = some x → G H → (∀ y H', G H' → Tups K H H' → (∀ ys, H D = some (.lst ys) → H' D = some (.lst ys)) → R i y H' → Q y H') → te ((wipe σ vs).set sl (some x)) H Q)
    (hd : ∀ (H : Hp) (ys : List V), G H → H D = some (.lst ys) → ys.length = xs.length → (∀ i y, ys[i]? = some y → R i y H) → Qd H) :
    ∃ W : Nat → Nat → Hp → Prop, (∃ m, W 0 m (upd H1 D (.lst []))) ∧ ∀ i m H, W i m H →
      (J.stop i H ∧ Qd H) ∨ (J.go i H ∧ ∃ Nx : Hp → Prop, (∀ H', Nx H' → ∃ m', m' < m ∧ W (i + 1) m' H') ∧ ∀ x H', J.yld i H x H' → gName sl x (wipe σ vs) H' fun σ2 H2 => wipe σ2 vs = wipe σ vs ∧ tYes σ2 H2 fun b H3 =>
        if b = true then te σ2 H3 fun y H4 => ∃ acc, H4 D = some (.lst acc) ∧ acc.length < sizeLine ∧ Nx (upd H4 D (.lst (acc ++ [y]))) else Nx H3) := by
  refine lc_it w (fun i H => G H ∧ ∃ ys, H D = some (.lst ys) ∧ ys.length = i ∧ ∀ j y, ys[j]? = some y → R j y H) ⟨g0, [], upd_same, rfl, fun j y e => by simp at e⟩ (fun i H _ p => gG H p.1) ?_ ?_
  · rintro i x H H' hi ⟨g, ys, hD, hl, hr⟩ ⟨rfl, hx⟩
    refine ⟨wp x, ?_⟩
    dsimp only [tYes]
    rw [if_pos rfl]
    refine hs i x _ _ hx g fun y H4 g4 t4 k4 r4 => ⟨ys, k4 ys hD, by omega, gD H4 ys _ g4 (k4 ys hD), ys ++ [y], upd_same, by rw [List.length_append, hl]; rfl, fun j z hz' => ?_⟩
    have tl := tups_lst (K := K) (zs := ys ++ [y]) (k4 ys hD)
    by_cases c : j < ys.length
    · rw [List.getElem?_append_left c] at hz'
      exact mono _ _ _ _ tl (mono _ _ _ _ t4 (hr j z hz'))
    · rw [List.getElem?_append_right (Nat.le_of_not_lt c)] at hz'
      have e0 : j - ys.length = 0 := by
        have := (List.getElem?_eq_some_iff.mp hz').1
        simp at this
        omega
      have ej : j = i := by omega
      rw [e0] at hz'
      have ez : y = z := by simpa using hz'
      rw [← ez, ej]
      exact mono _ _ _ _ tl r4
  · rintro H ⟨g, ys, hD, hl, hr⟩
    exact hd H ys g hD hl hr
/-- .. where the elements leave all that was tracked as it was -/
theorem lc_same {K : PySem.W.Frag} {J : It} {xs : List V} {G0 : Hp → Prop} (w : Walk J xs.length G0 (YAt xs)) {te : TE} {sl : Nat} {vs : List Nat} {σ : L2.St} {H1 : Hp} {D : Addr} {Qd : Hp → Prop} (nD : H1 D = none)
    (R : Nat → V → Hp → Prop) (hz : xs.length ≤ sizeLine) (gG : ∀ H, Same H1 H → G0 H)
    (mono : ∀ i y H H', Tups K H H' → R i y H → R i y H') (wp : ∀ x, wipe ((wipe σ vs).set sl (some x)) vs = wipe σ vs)
    (hs : ∀ (i : Nat) (x : V) (H : Hp) (Q : VK), xs[i]? = some x → Same H1 H → (∀ y H', Same H H' → R i y H' → Q y H') → te ((wipe σ vs).set sl (some x)) H Q)
    (hd : ∀ (H : Hp) (ys : List V), Same H1 H → H D = some (.lst ys) → ys.length = xs.length → (∀ i y, ys[i]? = some y → R i y H) → Qd H) :
    ∃ W : Nat → Nat → Hp → Prop, (∃ m, W 0 m (upd H1 D (.lst []))) ∧ ∀ i m H, W i m H →
      (J.stop i H ∧ Qd H) ∨ (J.go i H ∧ ∃ Nx : Hp → Prop, (∀ H', Nx H' → ∃ m', m' < m ∧ W (i + 1) m' H') ∧ ∀ x H', J.yld i H x H' → gName sl x (wipe σ vs) H' fun σ2 H2 => wipe σ2 vs = wipe σ vs ∧ tYes σ2 H2 fun b H3 =>
        if b = true then te σ2 H3 fun y H4 => ∃ acc, H4 D = some (.lst acc) ∧ acc.length < sizeLine ∧ Nx (upd H4 D (.lst (acc ++ [y]))) else Nx H3) :=
  lc_ev (K := K) w (Same H1) R hz (same_new nD _) gG (fun H ys zs g _ => same_upd nD g) mono wp
    (fun i x H Q hx g q => hs i x H Q hx g fun y H' e r => q y H' (g.trans e) (tups_same e) (fun ys h => e _ _ h) r) hd
theorem iteDT {c A B : Prop} [Decidable c] (hc : c) (h : A) : if decide c = true then A else B := by
  rw [if_pos (decide_eq_true hc)]
  exact h
theorem iteDF {c A B : Prop} [Decidable c] (hc : ¬ c) (h : B) : if decide c = true then A else B := by
  rw [if_neg (by rw [decide_eq_false hc]; exact Bool.false_ne_true)]
  exact h
theorem iteNT {c A B : Prop} [Decidable c] (hc : ¬ c) (h : A) : if (!decide c) = true then A else B := by
  rw [decide_eq_false hc]
  exact iteT h
theorem iteB {b : Bool} {A B : Prop} (hb : b = true) (h : A) : if b = true then A else B := by
  rw [if_pos hb]
  exact h
theorem iteN {b : Bool} {A B : Prop} (hb : b = false) (h : B) : if b = true then A else B := by
  rw [hb]
  exact iteF h
theorem dp_of {k : Nat} {A : Around} (hr : Room k A) : A.units + 65 < cLine := by
  have := hr.un
  omega
theorem dp8 {k : Nat} {A : Around} (hr : Room k A) : A.units + 8 < cLine := by
  have := hr.un
  omega
/-! ### rules whose reading names the written part: K said from outside, for a comprehension's block -/
theorem ixT {X : Cx} (K : PySem.W.Frag) (h : X.K = K := by rfl) : IxR X (rIxT K) := by
  subst h
  exact ix_tup
theorem ixL {X : Cx} (K : PySem.W.Frag) (h : X.K = K := by rfl) : IxR X (rIxL K) := by
  subst h
  exact ix_list
theorem ixQ {X : Cx} (K : PySem.W.Frag) (h : X.K = K := by rfl) : IxR X (rIx K) := by
  subst h
  exact ix_seq
theorem notInD {X : Cx} (K : PySem.W.Frag) (hu : X.A.units + 65 < cLine) (h : X.K = K := by rfl) : OpR X (compareOp .NotIn) (rNotInD K) := by
  subst h
  exact op_notInD hu
theorem piL {X : Cx} {tg l : Expr} {tl : TE} (K : PySem.W.Frag) (hl : PE X l tl) (h : X.K = K := by rfl) : PI X tg l (iList K tl) := by
  subst h
  exact pi_list hl
theorem at0 {α : Type} {a : α} {l : List α} : atI (a :: l) 0 = some a := atI_nat (j := 0) rfl
theorem at1 {α : Type} {a b : α} {l : List α} : atI (a :: b :: l) 1 = some b := atI_nat (j := 1) rfl
theorem at2 {α : Type} {a b c : α} {l : List α} : atI (a :: b :: c :: l) 2 = some c := atI_nat (j := 2) rfl
end K6

set_option Elab.async false
set_option linter.all false
set_option maxRecDepth 100000
set_option maxHeartbeats 8000000
/-! checks.py -/
namespace K6
open PySem PySem.Spec PyProof.Rows L2
/-- the module's constants -/
structure Cs (K : PySem.W.Frag) (w : World) (mg : Str → Option Value) (aN aL : Addr) : Prop where
  small : ∃ t, mg "SMALL" = some (.str "abcdefghijklmnopqrstuvwxyz" t)
  letters : ∃ t, mg "MOST_LETTERS" = some (.int 8 t)
  pair : ∃ t, mg "PAIR" = some (.str "pair" t)
  box : ∃ t, mg "BOX" = some (.str "box" t)
  half : ∃ t, mg "HALF" = some (.str "half" t)
  shut : ∃ t, mg "SHUT" = some (.str "shut" t)
  mark : ∃ t, mg "MARK" = some (.str "mark" t)
  mix : ∃ t, mg "MIX" = some (.str "mix" t)
  var : ∃ t, mg "VAR" = some (.str "var" t)
  amp : ∃ t, mg "AND" = some (.str " & " t)
  names : ∃ t, mg "MOST_NAMES" = some (.int 40 t)
  depth : ∃ t, mg "MOST_DEPTH" = some (.int 12 t)
  named : mg "NAMED" = some (.ref aN)
  namedT : ∀ H, SqT K H aN [.str "half", .str "shut", .str "mark"]
  lengths : mg "LENGTHS" = some (.ref aL)
  low : (aL == sysModules) = false
  lenOne : ∀ k : T1, KDct K w aL k.tag (.int 2)
  lenTwo : ∀ k : T2, KDct K w aL k.tag (.int 3)
theorem tyx_tup {K : PySem.W.Frag} {H : Hp} {p : Addr} {xs : List V} (h : SqT K H p xs) : TyX K H (.ref p) (.type "tuple") := by
  rcases h with (h | ⟨o, h⟩) | ⟨o, its, n, h, c, _⟩
  · exact .base (.tup h)
  · exact .fTuple h
  · exact .kTuple h c
theorem tyx_lst {K : PySem.W.Frag} {H : Hp} {p : Addr} {xs : List V} (h : SqL K H p xs) : TyX K H (.ref p) (.type "list") := by
  rcases h with (h | ⟨o, h⟩) | ⟨o, its, n, h, c, _⟩
  · exact .base (.lst h)
  · exact .base (.frz h)
  · exact .kList h c
theorem small_of {n : Nat} (h : n ≤ 1000000) : n ≤ sizeLine := by rw [sizeLine_eq]; omega
/-- is_name: of a name True, of a tuple False -/
def NmCase (K : PySem.W.Frag) (H : Hp) (v : V) (b : Bool) : Prop := (∃ s, v = .str s ∧ IsNm s ∧ b = true) ∨ (∃ p xs, v = .ref p ∧ SqT K H p xs ∧ b = false)
def spName (K : PySem.W.Frag) : Sp := fun vs H Q _ => ∃ v b, vs = [v] ∧ NmCase K H v b ∧ ∀ H', Same H H' → Q (.bl b) H'
def signs (z : Str) : List V := z.cps.toList.map fun c => V.str ⟨#[c]⟩
theorem walk_signs (z : Str) : Walk (Its z) (signs z).length (fun _ => True) (YAt (signs z)) := by
  have e : (signs z).length = z.cps.size := by simp [signs]
  rw [e]
  refine (walk_str (z := z)).mono (fun _ h => h) fun i H x H' hi _ ⟨e1, c, e2, e3⟩ => ⟨e1, ?_⟩
  unfold signs
  rw [List.getElem?_map, Array.getElem?_toList, e2, e3]
  rfl
theorem small_letters : (cl "abcdefghijklmnopqrstuvwxyz") = List.range' 97 26 := by decide +kernel
theorem mem_small {c : Nat} : c ∈ cl "abcdefghijklmnopqrstuvwxyz" ↔ Let c := by
  rw [small_letters, List.mem_range'_1]
  unfold Let
  omega
abbrev s_is_name : Stmt := top 3
abbrev N_is_name : List Str := ["thing", "letter"]
theorem sc_is_name : FnScope N_is_name ["thing"] (defScope s_is_name) := ⟨rfl, rfl, rfl, by decide +kernel, rfl, by decide +kernel, by decide +kernel⟩
section
variable {P : Program} {w : World} {K : PySem.W.Frag} {mg : Str → Option Value} {base : Heap} {aN aL : Addr}
theorem ok_is_name (D : At K mg "is_name" s_is_name ["thing"]) (B : Bt mg) (C : Cs K w mg aN aL) : Def P w K mg base 1 "is_name" ["thing"] (spName K) := by
  refine D.ok sc_is_name (fun vs H Q E h => ?_) (fun f cdv A outer s H vs Q E hr h => ?_)
  · obtain ⟨v, b, rfl, _⟩ := h
    rfl
  obtain ⟨v, b, rfl, hc, q⟩ := h
  refine ⟨_, (pss_cons (ps_if (PW.pt (pw_or (pt_not (pt_val (pe_b call_isi B.isinstance boot_isi (pa_cons (pv 0) (pa_cons (pe_ty B.str boot_ty_str) pa_nil))))) (pw_or1 (pt_not (pt_chain op_le op_le pe_int (pe_b call_len_str B.len boot_ln (pa_cons (pv 0) pa_nil)) (pe_ci C.letters)))))) (pss_one (ps_ret pe_bl)) pss_nil)
    (pss_one (ps_ret (pe_b (cr_all rfl) B.all boot_all (pa_cons (pe_lc rfl sc_is_name.nd (pi_str (pv 0)) (blkOk_by (own := [("letter", 1)]) (N := N_is_name) (sc := defScope s_is_name) (by decide +kernel)) (fun _ _ _ _ _ => pg_name (i := 1) sc_is_name.nd rfl (Or.inl rfl)) (fun _ _ _ _ _ => pts_nil) (fun _ _ _ _ _ => (pe_cmpR op_in_sign (pv 1) (pe_cs C.small) (by rfl)))) pa_nil))))), ?_⟩
  rcases hc with ⟨x, rfl, hx, rfl⟩ | ⟨p, xs, rfl, hp, rfl⟩
  · refine ⟨_, rfl, _, _, _, _, true, rfl, .ty "str", .base (.str x), kit_ty (by decide +kernel), _, rfl, ?_⟩
    refine iteF ?_
    have l1 : (1 : Int) ≤ (x.length : Int) := by have := hx.lo; have := len_cl x; omega
    have l2 : (x.length : Int) ≤ 8 := by have := hx.hi; have := len_cl x; omega
    refine ⟨_, rfl, _, rfl, small_of (by omega), _, _, rfl, rfl, _, rfl, ?_⟩
    refine iteDT l1 ⟨_, _, rfl, rfl, _, rfl, ?_⟩
    show if (!decide _) = true then _ else _
    refine iteNS l2 ?_
    refine ⟨_, rfl, x, rfl, fun D nD => ?_⟩
    refine lc_same (K := K) (walk_signs x) nD (fun _ y _ => y = .bl true) (by unfold signs; rw [List.length_map]; exact small_of (by have := hx.hi; unfold cl at this; omega)) (fun _ _ => trivial) (fun _ _ _ _ _ h => h) (fun _ => rfl) ?_ ?_
    · intro i y H' Q' hy e q'
      have hy' : ∃ c, c ∈ cl x ∧ y = .str ⟨#[c]⟩ := by
        unfold signs at hy
        rw [List.getElem?_map] at hy
        cases hc : (cl x)[i]? with
        | none => rw [hc] at hy; cases hy
        | some c =>
          rw [hc] at hy
          exact ⟨c, List.mem_of_getElem? hc, (Option.some.inj hy).symm⟩
      obtain ⟨c, hc, rfl⟩ := hy'
      refine ⟨_, rfl, c, _, rfl, rfl, ?_⟩
      refine q' _ _ (Same.refl _) ?_
      rw [decide_eq_true (mem_small.mpr (hx.all c hc))]
    · intro H' ys e hD hl hr'
      have hys : ys = (List.replicate ys.length true).map V.bl := by
        apply List.ext_getElem?
        intro i
        rw [List.getElem?_map, List.getElem?_replicate]
        cases hi : ys[i]? with
        | none =>
          rw [if_neg (by have := List.getElem?_eq_none_iff.mp hi; omega)]
          rfl
        | some y =>
          rw [if_pos (List.getElem?_eq_some_iff.mp hi).1, hr' i y hi]
          rfl
      refine ⟨D, _, rfl, SqL.of (hys ▸ hD), ?_⟩
      have ea : (List.replicate ys.length true).all id = true := by simp
      rw [ea]
      exact q H' e
  · refine ⟨_, rfl, _, _, _, _, false, rfl, .ty "str", tyx_tup hp, kit_ty (by decide +kernel), _, rfl, ?_⟩
    exact iteT (q H (Same.refl _))
end
abbrev s_is_name_dict : Stmt := top 4
abbrev N_is_name_dict : List Str := ["thing", "key"]
theorem sc_is_name_dict : FnScope N_is_name_dict ["thing"] (defScope s_is_name_dict) := ⟨rfl, rfl, rfl, by decide +kernel, rfl, by decide +kernel, by decide +kernel⟩
/-- a dict from names to names, as pairs -/
def nmK (ps : List (Str × Str)) : List (Key × V) := ps.map fun p => (Sum.inr p.1, V.str p.2)
theorem val_nmK : ∀ (ps : List (Str × Str)) (i : Nat) (p : Str × Str), (ps.map (·.1)).Nodup → ps[i]? = some p → valV (nmK ps) (Sum.inr p.1) = some (.str p.2)
  | [], _, _, _, h => by simp at h
  | q :: ps, 0, p, _, h => by
    have e : q = p := by simpa using h
    subst e
    exact valV_pos rfl
  | q :: ps, i + 1, p, nd, h => by
    rw [List.map_cons, List.nodup_cons] at nd
    have h' : ps[i]? = some p := by simpa using h
    have ne : ¬ (Sum.inr q.1 : Key) = Sum.inr p.1 := fun e => nd.1 (by
      rw [Sum.inr.inj e]
      exact List.mem_map.mpr ⟨p, List.mem_of_getElem? h', rfl⟩)
    exact (valV_neg ne).trans (val_nmK ps i p nd.2 h')
def spNameDict (K : PySem.W.Frag) : Sp := fun vs H Q _ => ∃ (d : Addr) (ps : List (Str × Str)), vs = [.ref d] ∧ H d = some (.dK (nmK ps)) ∧ (ps.map (·.1)).Nodup ∧ (∀ p ∈ ps, IsNm p.1 ∧ IsNm p.2) ∧ ps.length ≤ 1000 ∧ ∀ H', Same H H' → Q (.bl true) H'
theorem all_true {ys : List V} (h : ∀ (i : Nat) y, ys[i]? = some y → y = .bl true) : ys = (List.replicate ys.length true).map V.bl := by
  apply List.ext_getElem?
  intro i
  rw [List.getElem?_map, List.getElem?_replicate]
  cases hi : ys[i]? with
  | none =>
    rw [if_neg (by have := List.getElem?_eq_none_iff.mp hi; omega)]
    rfl
  | some y =>
    rw [if_pos (List.getElem?_eq_some_iff.mp hi).1, h i y hi]
    rfl
section
variable {P : Program} {w : World} {K : PySem.W.Frag} {mg : Str → Option Value} {base : Heap} {aN aL : Addr}
theorem ok_is_name_dict (D : At K mg "is_name_dict" s_is_name_dict ["thing"]) (B : Bt mg) (D_is_name : Def P w K mg base 1 "is_name" ["thing"] (spName K)) : Def P w K mg base 2 "is_name_dict" ["thing"] (spNameDict K) := by
  refine D.ok sc_is_name_dict (fun vs H Q E h => ?_) (fun f cdv A outer s H vs Q E hr h => ?_)
  · obtain ⟨d, ps, rfl, _⟩ := h
    rfl
  obtain ⟨d, ps, rfl, hd, nd, ok, few, q⟩ := h
  refine ⟨_, (pss_one (ps_ret (pe_and (pe_b call_isi B.isinstance boot_isi (pa_cons (pv 0) (pa_cons (pe_ty B.dict boot_ty_dict) pa_nil))) (pe_one (pe_b (cr_all rfl) B.all boot_all (pa_cons (pe_lock (pe_lc rfl sc_is_name_dict.nd (pi_keys (pv 0)) (blkOk_by (own := [("key", 1)]) (N := N_is_name_dict) (sc := defScope s_is_name_dict) (by decide +kernel)) (fun _ _ _ _ _ => pg_name (i := 1) sc_is_name_dict.nd rfl (Or.inl rfl)) (fun _ _ _ _ _ => pts_nil) (fun _ _ _ _ _ => (pe_and (pe_def D_is_name (hr.mono (by omega)) (pa_cons (pv 1) pa_nil)) (pe_one (pe_def D_is_name (hr.mono (by omega)) (pa_cons (pe_dget (hu_of hr) (pv 0) (pv 1) (fun _ _ => rfl)) pa_nil))))))) pa_nil)))))), ?_⟩

  refine ⟨_, rfl, _, _, _, _, true, rfl, .ty "dict", .base (.dK hd), kit_ty (by decide +kernel), _, rfl, ?_⟩
  refine iteT ?_
  refine ⟨d, _, hd, trivial, fun od => ?_⟩
  refine ⟨_, rfl, d, od, rfl, .inl ⟨_, upd_same, fun L nL => ?_⟩⟩
  have nLd : L ≠ d := fun e => by rw [e, upd_same] at nL; cases nL
  have w := (walk_keys (d := d) (o := od) (kvs := nmK ps)).mono (G' := fun H => H d = some (.frz od (.dK (nmK ps)))) (Y' := YAt (ps.map fun p => V.str p.1)) (fun _ h => h) (fun i H x H' hi _ ⟨e1, k, v, e2, e3⟩ => ⟨e1, by
    unfold nmK at e2
    rw [List.getElem?_map] at e2 ⊢
    cases hp : ps[i]? with
    | none => rw [hp] at e2; cases e2
    | some p =>
      rw [hp] at e2
      have e2 : ((Sum.inr p.1 : Key), V.str p.2) = (k, v) := Option.some.inj e2
      have e4 : (Sum.inr p.1 : Key) = k := congrArg Prod.fst e2
      rw [e3, ← e4]
      rfl⟩)
  have hlen : (nmK ps).length = (ps.map fun p => V.str p.1).length := by unfold nmK; rw [List.length_map, List.length_map]
  rw [hlen] at w
  refine lc_same (K := K) w nL (fun _ y _ => y = .bl true) (by rw [List.length_map]; exact small_of (by omega)) (fun H' e => e _ _ upd_same) (fun _ _ _ _ _ h => h) (fun _ => rfl) ?_ ?_
  · intro i y H' Q' hy e q'
    rw [List.getElem?_map] at hy
    cases hp : ps[i]? with
    | none => rw [hp] at hy; cases hy
    | some p =>
      rw [hp] at hy
      obtain rfl : V.str p.1 = y := Option.some.inj hy
      have okp := ok p (List.mem_of_getElem? hp)
      refine ⟨_, rfl, _, true, rfl, .inl ⟨_, rfl, okp.1, rfl⟩, fun H2 e2 => ⟨_, rfl, ?_⟩⟩
      refine iteT ?_
      refine ⟨_, rfl, _, rfl, d, _, rfl, .inl ⟨_, Sum.inr p.1, .inr ⟨od, e2 _ _ (e _ _ upd_same)⟩, rfl, (val_nmK ps i p nd hp).symm⟩, ?_⟩
      exact ⟨_, true, rfl, .inl ⟨_, rfl, okp.2, rfl⟩, fun H3 e3 => q' _ _ (e2.trans e3) rfl⟩
  · intro H' ys e hD hl hr'
    refine ⟨e _ _ upd_same, L, List.replicate ys.length true, rfl, SqL.of ?_, ?_⟩
    · rw [upd_ne nLd, ← all_true hr']
      exact hD
    · have ea : (List.replicate ys.length true).all id = true := by simp
      rw [ea]
      refine q _ fun b o hb => ?_
      by_cases c : b = d
      · rw [c, upd_same]
        rw [c, hd] at hb
        exact hb
      · rw [upd_ne c]
        exact e b o (by rw [upd_ne c]; exact hb)
end
end K6

set_option Elab.async false
set_option linter.all false
set_option maxRecDepth 100000
set_option maxHeartbeats 8000000
/-! terms.py: is_leaf, measure, has_form, is_term, check_term -/
namespace K6
open PySem PySem.Spec PyProof.Rows L2
/-! ### one view of the compound terms -/
def kids : Tm → List Tm
  | .nm _ => []
  | .one _ a => [a]
  | .two _ a b => [a, b]
def tag : Tm → Str
  | .nm s => s
  | .one k _ => k.tag
  | .two k _ _ => k.tag
theorem TmIn.view {K : PySem.W.Frag} {H : Hp} {v : V} {t : Tm} (h : TmIn K H v t) :
    (∃ s, t = .nm s ∧ v = .str s) ∨ (isN t = false ∧ ∃ p vs, v = .ref p ∧ SqT K H p (.str (tag t) :: vs) ∧ Tms K H vs (kids t)) := by
  cases h with
  | nm s => exact .inl ⟨s, rfl, rfl⟩
  | one h a => exact .inr ⟨rfl, _, _, rfl, h, .cons a .nil⟩
  | two h a b => exact .inr ⟨rfl, _, _, rfl, h, .cons a (.cons b .nil)⟩
theorem isN_nm {t : Tm} (h : isN t = false) : ∀ s, t ≠ .nm s := fun s e => by subst e; cases h
theorem kids_dep {t a : Tm} (h : a ∈ kids t) : dep a + 1 ≤ dep t := by
  cases t with
  | nm s => cases h
  | one k b => rw [List.mem_singleton.mp h]; exact Nat.le_refl _
  | two k b c =>
    have e : dep (.two k b c) = max (dep b) (dep c) + 1 := rfl
    rcases List.mem_cons.mp h with rfl | h
    · omega
    · rw [List.mem_singleton.mp h]; omega
theorem kids_ok {t a : Tm} (ok : Ok t) (h : a ∈ kids t) : Ok a := by
  cases t with
  | nm s => cases h
  | one k b => rw [List.mem_singleton.mp h]; exact ok.one
  | two k b c =>
    rcases List.mem_cons.mp h with rfl | h
    · exact ok.fst
    · rw [List.mem_singleton.mp h]; exact ok.snd
theorem kids_siz {t : Tm} (h : isN t = false) : (((kids t).map fun a => (siz a : Int)).sum : Int) = siz t := by
  cases t with
  | nm s => cases h
  | one k b => simp [kids, siz]
  | two k b c => simp [kids, siz]
theorem kids_len {t : Tm} (h : isN t = false) : 1 ≤ (kids t).length ∧ (kids t).length ≤ 2 := by
  cases t with
  | nm s => cases h
  | one k b => exact ⟨Nat.le_refl _, by show 1 ≤ 2; decide⟩
  | two k b c => exact ⟨by show 1 ≤ 2; decide, Nat.le_refl _⟩
theorem kids_max {t : Tm} (h : isN t = false) {m : Int} (hm : m ∈ (kids t).map fun a => (dep a : Int)) (hle : ∀ y ∈ (kids t).map fun a => (dep a : Int), y ≤ m) : 1 + m = dep t := by
  cases t with
  | nm s => cases h
  | one k b =>
    have : m = dep b := by simpa [kids] using hm
    show 1 + m = ((dep b + 1 : Nat) : Int)
    omega
  | two k b c =>
    have h1 : m = dep b ∨ m = dep c := by simpa [kids] using hm
    have h2 := hle (dep b) (by simp [kids])
    have h3 := hle (dep c) (by simp [kids])
    show 1 + m = ((max (dep b) (dep c) + 1 : Nat) : Int)
    omega
theorem kids_lvs {t : Tm} (h : isN t = false) : lvs t = (kids t).flatMap lvs := by
  cases t with
  | nm s => cases h
  | one k b => simp [kids, lvs]
  | two k b c => simp [kids, lvs]
theorem kids_pts {t : Tm} (h : isN t = false) : pts t = t :: (kids t).flatMap pts := by
  cases t with
  | nm s => cases h
  | one k b => simp [kids, pts]
  | two k b c => simp [kids, pts]
def named : Tm → Bool
  | .one .half _ => true
  | .two .shut _ _ => true
  | .two .mark _ _ => true
  | _ => false
theorem named_in1 : ∀ k : T1, inV (.str k.tag) [.str "half", .str "shut", .str "mark"] = (match k with | .half => true | .mix => false) := by
  intro k
  cases k <;> decide +kernel
theorem named_in2 : ∀ k : T2, inV (.str k.tag) [.str "half", .str "shut", .str "mark"] = (match k with | .shut => true | .mark => true | _ => false) := by
  intro k
  cases k <;> decide +kernel
theorem named_in {t : Tm} (h : isN t = false) : inV (.str (tag t)) [.str "half", .str "shut", .str "mark"] = named t := by
  cases t with
  | nm s => cases h
  | one k b => refine (named_in1 k).trans ?_; cases k <;> rfl
  | two k b c => refine (named_in2 k).trans ?_; cases k <;> rfl
theorem named_kid {t : Tm} (ok : Ok t) (h : named t = true) : ∃ s r, kids t = .nm s :: r ∧ IsNm s := by
  match t, ok, h with
  | .one .half a, ok, _ =>
    obtain ⟨s, rfl⟩ := isN_iff ok.1
    exact ⟨s, [], rfl, ok.2⟩
  | .two .shut a b, ok, _ =>
    obtain ⟨s, rfl⟩ := isN_iff ok.1
    exact ⟨s, [b], rfl, ok.2.1⟩
  | .two .mark a b, ok, _ =>
    obtain ⟨s, rfl⟩ := isN_iff ok.1
    exact ⟨s, [b], rfl, ok.2.1⟩
theorem Cs.len {K : PySem.W.Frag} {w : World} {mg : Str → Option Value} {aN aL : Addr} (C : Cs K w mg aN aL) {t : Tm} (h : isN t = false) : KDct K w aL (tag t) (.int ((kids t).length + 1 : Nat)) := by
  cases t with
  | nm s => cases h
  | one k b => exact C.lenOne k
  | two k b c => exact C.lenTwo k
theorem op_notin_kd {X : Cx} : OpR X (compareOp .NotIn) (fun x y H Q => ∃ (p : Addr) (z : Str) (v : V), x = .str z ∧ y = .ref p ∧ KDct X.K X.w p z v ∧ (p == sysModules) = false ∧ Q (.bl false) H) := by
  intro pins s σ H x y v u Q I rx ry h
  obtain ⟨p, z, r, rfl, rfl, ⟨es, n, u0, hl, hk, e, ru⟩, lo, q⟩ := h
  obtain ⟨t, rfl⟩ := rx
  cases ry
  have hm := PySem.W.mapOf_K (prog := X.prog) (w := X.w) I.kIn hl hk
  refine wpAny_notIn_of (strKind_is X.prog X.w z t) lo hm ⟨.bl false, H, I.tok _, ?_, q⟩
  rw [PySem.W.find_K hl e]
  rfl
/-- t[1:] of a tuple -/
theorem cut1 (v : V) (vs : List V) : cutV (v :: vs) (some 1) none = vs := by
  unfold cutV
  have e1 : HT.sIx (v :: vs).length 0 (some 1) = 1 := by
    have := HT.sIx_nat (v :: vs).length 0 1
    rw [show ((1 : Nat) : Int) = 1 from rfl] at this
    rw [this, List.length_cons]
    omega
  rw [e1, HT.sIx_none]
  show (vs.take _) = vs
  rw [List.take_of_length_le (by rw [List.length_cons]; omega)]
theorem no_cut1 (v : V) (vs : List V) : ¬ (HT.sIx (v :: vs).length 0 (some 1) = 0 ∧ HT.sIx (v :: vs).length (v :: vs).length none = (v :: vs).length) := by
  rintro ⟨h, _⟩
  have := HT.sIx_nat (v :: vs).length 0 1
  rw [show ((1 : Nat) : Int) = 1 from rfl] at this
  rw [this, List.length_cons] at h
  omega
theorem list_of {α : Type} {ys : List V} {l : List α} {f : α → V} (hl : ys.length = l.length) (h : ∀ (i : Nat) y x, ys[i]? = some y → l[i]? = some x → y = f x) : ys = l.map f := by
  apply List.ext_getElem?
  intro i
  rw [List.getElem?_map]
  cases hi : ys[i]? with
  | none =>
    have : ys.length ≤ i := List.getElem?_eq_none_iff.mp hi
    rw [List.getElem?_eq_none_iff.mpr (by omega)]
    rfl
  | some y =>
    obtain ⟨x, hx⟩ : ∃ x, l[i]? = some x := by
      have := (List.getElem?_eq_some_iff.mp hi).1
      exact ⟨_, List.getElem?_eq_getElem (by omega)⟩
    rw [hx, h i y x hi hx]
    rfl
/-- what measure tells of a part, as data -/
def rowD (t : Tm) : PyData := .tuple [.int (siz t), .int (dep t)]
theorem rows_none : ∀ l : List Tm, ((l.map rowD).any fun z => PyData.eqv z .none) = false
  | [] => rfl
  | t :: l => by
    rw [List.map_cons, List.any_cons, rows_none l]
    simp [rowD, PyData.eqv]
theorem rows_shape : ∀ l : List Tm, PyData.canLayAll0 (l.map rowD) = true ∧ PyData.depthAll (l.map rowD) ≤ 1
  | [] => by simp [PyData.canLayAll0, PyData.depthAll]
  | t :: l => by
    obtain ⟨h1, h2⟩ := rows_shape l
    simp only [List.map_cons, PyData.canLayAll0, PyData.depthAll, h1, rowD, PyData.canLay0, PyData.depth, Bool.and_true]
    exact ⟨trivial, by omega⟩
theorem rows_shaped (l : List Tm) : SeqAt.shaped (.list (l.map rowD)) = true := by
  obtain ⟨h1, h2⟩ := rows_shape l
  show ((PyData.list (l.map rowD)).canLay0 && decide ((PyData.list (l.map rowD)).depth ≤ 64)) = true
  rw [Bool.and_eq_true]
  refine ⟨by simp only [PyData.canLay0]; exact h1, decide_eq_true ?_⟩
  simp only [PyData.depth]
  omega
theorem dp_rows {K : PySem.W.Frag} {H : Hp} : ∀ {l : List Tm} {rows : List V}, rows.length = l.length → (∀ (i : Nat) y, rows[i]? = some y → ∃ a r, l[i]? = some a ∧ y = .ref r ∧ SqT K H r [.int (siz a), .int (dep a)]) → DpAll K H rows (l.map rowD)
  | [], [], _, _ => .nil
  | t :: l, y :: rows, hl, h => by
    obtain ⟨a, r, ha, rfl, hr⟩ := h 0 y rfl
    have ea : t = a := by simpa using ha
    subst ea
    refine .cons (.tup hr (.cons (.int _) (.cons (.int _) .nil))) (dp_rows (by simpa using hl) fun i z hz => ?_)
    obtain ⟨b, r', hb, q⟩ := h (i + 1) z (by simpa using hz)
    exact ⟨b, r', by simpa using hb, q⟩
  | [], _ :: _, hl, _ => by simp at hl
  | _ :: _, [], hl, _ => by simp at hl
abbrev s_is_leaf : Stmt := top 22
abbrev N_is_leaf : List Str := ["thing", "open_so"]
theorem sc_is_leaf : FnScope N_is_leaf ["thing", "open_so"] (defScope s_is_leaf) := ⟨rfl, rfl, rfl, by decide +kernel, rfl, by decide +kernel, by decide +kernel⟩
abbrev s_measure : Stmt := top 23
abbrev N_measure : List Str := ["thing", "open_so", "room", "rows", "part", "row"]
theorem sc_measure : FnScope N_measure ["thing", "open_so", "room"] (defScope s_measure) := ⟨rfl, rfl, rfl, by decide +kernel, rfl, by decide +kernel, by decide +kernel⟩
abbrev s_has_form : Stmt := top 24
abbrev N_has_form : List Str := ["thing", "open_so", "found"]
theorem sc_has_form : FnScope N_has_form ["thing", "open_so"] (defScope s_has_form) := ⟨rfl, rfl, rfl, by decide +kernel, rfl, by decide +kernel, by decide +kernel⟩
abbrev s_is_term : Stmt := top 25
abbrev N_is_term : List Str := ["thing"]
theorem sc_is_term : FnScope N_is_term ["thing"] (defScope s_is_term) := ⟨rfl, rfl, rfl, by decide +kernel, rfl, by decide +kernel, by decide +kernel⟩
abbrev s_check_term : Stmt := top 26
abbrev N_check_term : List Str := ["term"]
theorem sc_check_term : FnScope N_check_term ["term"] (defScope s_check_term) := ⟨rfl, rfl, rfl, by decide +kernel, rfl, by decide +kernel, by decide +kernel⟩
def spLeaf (K : PySem.W.Frag) : Sp := fun vs H Q _ => ∃ v b, vs = [v, .bl false] ∧ NmCase K H v b ∧ ∀ H', Same H H' → Q (.bl b) H'
def spMeas (K : PySem.W.Frag) (n : Nat) : Sp := fun vs H Q _ => ∃ v t room, vs = [v, .bl false, .int room] ∧ TmIn K H v t ∧ Ok t ∧ dep t ≤ n ∧ (dep t : Int) ≤ room ∧
  ∀ H' p, Same H H' → H' p = some (.tup [.int (siz t), .int (dep t)]) → Q (.ref p) H'
def spForm (K : PySem.W.Frag) (n : Nat) : Sp := fun vs H Q _ => ∃ v t, vs = [v, .bl false] ∧ TmIn K H v t ∧ Ok t ∧ dep t ≤ n ∧ ∀ H', Same H H' → Q (.bl true) H'
def spIsT (K : PySem.W.Frag) (n : Nat) : Sp := fun vs H Q _ => ∃ v t, vs = [v] ∧ TmIn K H v t ∧ Ok t ∧ dep t ≤ n ∧ ∀ H', Same H H' → Q (.bl true) H'
def spChk (K : PySem.W.Frag) (n : Nat) : Sp := fun vs H Q _ => ∃ v t, vs = [v] ∧ TmIn K H v t ∧ Ok t ∧ dep t ≤ n ∧ ∀ H', Same H H' → Q .non H'
section
variable {P : Program} {w : World} {K : PySem.W.Frag} {mg : Str → Option Value} {base : Heap} {aN aL : Addr}
theorem ok_is_leaf (D : At K mg "is_leaf" s_is_leaf ["thing", "open_so"]) (B : Bt mg) (C : Cs K w mg aN aL) (D_is_name : Def P w K mg base 1 "is_name" ["thing"] (spName K)) : Def P w K mg base 2 "is_leaf" ["thing", "open_so"] (spLeaf K) := by
  refine D.ok sc_is_leaf (fun vs H Q E h => ?_) (fun f cdv A outer s H vs Q E hr h => ?_)
  · obtain ⟨v, b, rfl, _⟩ := h
    rfl
  obtain ⟨v, b, rfl, hc, q⟩ := h
  refine ⟨_, (pss_cons (ps_if (pt_val (pe_def D_is_name (hr.mono (by omega)) (pa_cons (pv 0) pa_nil))) (pss_one (ps_ret pe_bl)) pss_nil)
    (pss_one (ps_ret (pe_and (pv 1) (pe_and (pe_b call_isi B.isinstance boot_isi (pa_cons (pv 0) (pa_cons (pe_ty B.tuple boot_ty_tuple) pa_nil))) (pe_and (pe_cmpR op_eq (pe_b call_len_seq B.len boot_ln (pa_cons (pv 0) pa_nil)) pe_int (nomark _)) (pe_and (pe_cmpR op_eq (pe_ix (ixT K) (pv 0) pe_int (fun _ _ => rfl)) (pe_cs C.var) (nomark _)) (pe_one (pe_def D_is_name (hr.mono (by omega)) (pa_cons (pe_ix (ixT K) (pv 0) pe_int (fun _ _ => rfl)) pa_nil)))))))))), ?_⟩
  refine ⟨_, rfl, v, b, rfl, hc, fun H1 e1 => ⟨_, rfl, ?_⟩⟩
  rcases hc with ⟨x, rfl, hx, rfl⟩ | ⟨p, xs, rfl, hp, rfl⟩
  · exact iteT (q _ e1)
  · exact iteF ⟨_, rfl, _, rfl, iteF (q _ e1)⟩
theorem ok_meas_succ {n : Nat} (D : At K mg "measure" s_measure ["thing", "open_so", "room"]) (B : Bt mg) (C : Cs K w mg aN aL) (D_is_leaf : Def P w K mg base 2 "is_leaf" ["thing", "open_so"] (spLeaf K))
    (D_measure : Def P w K mg base (n + 2) "measure" ["thing", "open_so", "room"] (spMeas K n)) : Def P w K mg base (n + 3) "measure" ["thing", "open_so", "room"] (spMeas K (n + 1)) := by
  refine D.ok sc_measure (fun vs H Q E h => ?_) (fun f cdv A outer s H vs Q E hr h => ?_)
  · obtain ⟨v, t, room, rfl, _⟩ := h
    rfl
  obtain ⟨v, t, room, rfl, ht, ok, hn, hroom, q⟩ := h
  refine ⟨_, (pss_cons (ps_if (pt_val (pe_def D_is_leaf (hr.mono (by omega)) (pa_cons (pv 0) (pa_cons (pv 1) pa_nil)))) (pss_one (ps_ret (pe_tup (pa_cons pe_int (pa_cons pe_int pa_nil))))) pss_nil)
    (pss_cons (ps_if (PW.pt (pw_or (pt_cmpR op_eq (pv 2) pe_int (nomark _)) (pw_or (pt_not (pt_val (pe_b call_isi B.isinstance boot_isi (pa_cons (pv 0) (pa_cons (pe_ty B.tuple boot_ty_tuple) pa_nil))))) (pw_or (pt_cmpR op_eq (pe_b call_len_seq B.len boot_ln (pa_cons (pv 0) pa_nil)) pe_int (nomark _)) (pw_or1 (pt_not (pt_val (pe_b call_isi B.isinstance boot_isi (pa_cons (pe_ix (ixT K) (pv 0) pe_int (fun _ _ => rfl)) (pa_cons (pe_ty B.str boot_ty_str) pa_nil)))))))))) (pss_one (ps_ret pe_non)) pss_nil)
    (pss_cons (ps_if (PW.pt (pw_or (pt_cmpR op_notin_kd (pe_ix (ixT K) (pv 0) pe_int (fun _ _ => rfl)) (pe_cr C.lengths) (by rfl)) (pw_or1 (pt_cmpR op_ne (pe_b call_len_seq B.len boot_ln (pa_cons (pv 0) pa_nil)) (pe_ix ix_kdict (pe_cr C.lengths) (pe_ix (ixT K) (pv 0) pe_int (fun _ _ => rfl)) (fun _ _ => rfl)) (nomark _))))) (pss_one (ps_ret pe_non)) pss_nil)
    (pss_cons (ps_if (PW.pt (pw_and (pt_cmpR op_in_seq (pe_ix (ixT K) (pv 0) pe_int (fun _ _ => rfl)) (pe_cr C.named) (by rfl)) (pw_and1 (pt_not (pt_val (pe_def D_is_leaf (hr.mono (by omega)) (pa_cons (pe_ix (ixT K) (pv 0) pe_int (fun _ _ => rfl)) (pa_cons (pv 1) pa_nil)))))))) (pss_one (ps_ret pe_non)) pss_nil)
    (pss_cons (ps_setLc (i := 3) rfl sc_measure.nd rfl rfl (sw_true rfl rfl rfl (by decide +kernel)) (pi_tup (pe_slice sl_tup (pv 0) (po_some pe_int) po_none)) (blkOk_by (own := [("part", 4)]) (N := N_measure) (sc := defScope s_measure) (by decide +kernel)) (fun _ _ _ _ _ => pg_name (i := 4) sc_measure.nd rfl (Or.inl rfl)) (fun _ _ _ _ _ => pts_nil) (fun _ _ _ _ _ => (pe_def D_measure (hr.mono (by omega)) (pa_cons (pv 4) (pa_cons (pv 1) (pa_cons (pe_op op_sub (pv 2) pe_int) pa_nil))))))
    (pss_cons (ps_if (pt_cmpR (op_inD (dp_of hr)) pe_non (pv 3) (by rfl)) (pss_one (ps_ret pe_non)) pss_nil)
    (pss_one (ps_ret (pe_tup (pa_cons (pe_b (cr_sum rfl) B.sum boot_sum (pa_cons (pe_lc rfl sc_measure.nd (piL K (pv 3)) (blkOk_by (own := [("row", 5)]) (N := N_measure) (sc := defScope s_measure) (by decide +kernel)) (fun _ _ _ _ _ => pg_name (i := 5) sc_measure.nd rfl (Or.inl rfl)) (fun _ _ _ _ _ => pts_nil) (fun _ _ _ _ _ => (pe_ix (ixT K) (pv 5) pe_int (fun _ _ => rfl)))) pa_nil)) (pa_cons (pe_op op_add pe_int (pe_b (cr_max rfl) B.max boot_max (pa_cons (pe_lc rfl sc_measure.nd (piL K (pv 3)) (blkOk_by (own := [("row", 5)]) (N := N_measure) (sc := defScope s_measure) (by decide +kernel)) (fun _ _ _ _ _ => pg_name (i := 5) sc_measure.nd rfl (Or.inl rfl)) (fun _ _ _ _ _ => pts_nil) (fun _ _ _ _ _ => (pe_ix (ixT K) (pv 5) pe_int (fun _ _ => rfl)))) pa_nil))) pa_nil))))))))))), ?_⟩
  rcases ht.view with ⟨x, rfl, rfl⟩ | ⟨hN, p, us, rfl, hp, hk⟩
  · refine ⟨_, rfl, _, rfl, _, true, rfl, .inl ⟨x, rfl, ok, rfl⟩, fun H1 e1 => ⟨_, rfl, ?_⟩⟩
    refine iteT ⟨small_of (by decide), fun r nr => ?_⟩
    exact q _ _ (e1.trans (same_new nr _)) upd_same
  · refine ⟨_, rfl, _, rfl, _, false, rfl, .inr ⟨p, _, rfl, hp, rfl⟩, fun H1 e1 => ⟨_, rfl, ?_⟩⟩
    refine iteF ?_
    have hp1 := same_sqt e1 hp
    have hk1 : Tms K H1 us (kids t) := hk.same e1
    have hd2 : 2 ≤ dep t := by
      obtain ⟨k1, _⟩ := kids_len hN
      cases hkk : kids t with
      | nil => rw [hkk] at k1; simp at k1
      | cons a r =>
        have := kids_dep (t := t) (a := a) (by rw [hkk]; exact List.mem_cons_self)
        have := dep_pos a
        omega
    have l2 := kids_len hN
    have lu := hk.len
    refine ⟨_, rfl, rfl, _, rfl, ?_⟩
    refine iteDF (fun e => by injection e with e; omega) ?_
    refine ⟨_, rfl, _, _, _, _, true, rfl, .ty "tuple", tyx_tup hp1, kit_ty (by decide +kernel), _, rfl, iteF ?_⟩
    refine ⟨_, rfl, p, _, rfl, .inr hp1, rfl, _, rfl, ?_⟩
    refine iteDF (fun e => by injection e with e; rw [List.length_cons] at e; omega) ?_
    refine ⟨_, rfl, p, _, 0, _, rfl, rfl, hp1, at0, _, _, _, _, true, rfl, .ty "str", .base (.str _), kit_ty (by decide +kernel), _, rfl, iteF ?_⟩
    -- the written lengths
    refine ⟨_, rfl, p, _, 0, _, rfl, rfl, hp1, at0, aL, _, _, rfl, rfl, C.len hN, C.low, _, rfl, iteF ?_⟩
    refine ⟨_, rfl, p, _, rfl, .inr hp1, _, rfl, p, _, 0, _, rfl, rfl, hp1, at0, aL, _, _, rfl, rfl, C.len hN, rfl, _, rfl, ?_⟩
    refine iteNS (by rw [List.length_cons, lu]) ?_
    -- a name where one has to stand
    refine ⟨_, rfl, p, _, 0, _, rfl, rfl, hp1, at0, aN, _, rfl, .inr (C.namedT H1), rfl, rfl, _, rfl, ?_⟩
    rw [show (if false = true then !inV (.str (tag t)) [.str "half", .str "shut", .str "mark"] else inV (.str (tag t)) [.str "half", .str "shut", .str "mark"]) = named t from named_in hN]
    cases hnm : named t
    case' false => refine iteF ?_
    case' true =>
      obtain ⟨x, r, hkk, hx⟩ := named_kid ok hnm
      rw [hkk] at hk1
      cases hk1 with
      | @cons v0 t0 vs0 ts0 ha hb => ?_
      cases ha
      refine iteT ⟨_, rfl, p, _, 1, _, rfl, rfl, hp1, at1, _, rfl, _, true, rfl, .inl ⟨x, rfl, hx, rfl⟩, fun H2 e12 => ⟨_, rfl, ?_⟩⟩
      have e1 := e1.trans e12
      refine iteF ?_
      generalize H2 = H1 at e1 ⊢
      have hp1 := same_sqt e1 hp
      have hk1 := hk.same e1
    all_goals
      refine ⟨_, rfl, _, rfl, p, _, rfl, hp1, no_cut1 _ _, fun sl nsl => ?_⟩
      rw [cut1]
      refine ⟨sl, rfl, ⟨_, SqT.of upd_same⟩, fun L nL => ?_⟩
      have es : ∀ o, Same H1 (upd H1 sl o) := fun o => same_new nsl o
      refine lc_same (K := K) (walk_tup (K := K) (a := sl)) nL (fun i y H' => ∃ a r, (kids t)[i]? = some a ∧ y = .ref r ∧ SqT K H' r [.int (siz a), .int (dep a)]) (by rw [lu]; exact small_of (by omega)) (fun H' e => SqT.of (e _ _ upd_same))
        (fun i y Ha Hb tt ⟨a, r, h1, h2, h3⟩ => ⟨a, r, h1, h2, tt _ _ h3⟩) (fun _ => rfl) ?_ ?_
      · intro i y H2 Q2 hy e2 q2
        obtain ⟨a, ha, ta⟩ := hk1.get hy
        have ham := List.mem_of_getElem? ha
        have hda := kids_dep ham
        refine ⟨_, rfl, _, rfl, _, rfl, _, _, rfl, rfl, y, a, _, rfl, ta.same ((es _).trans e2), kids_ok ok ham, by omega, by omega, fun H3 r e3 hr3 => ?_⟩
        exact q2 _ _ e3 ⟨a, r, ha, rfl, SqT.of hr3⟩
      · intro H2 rows e2 hL hlen hrows
        have e02 : Same H H2 := e1.trans ((es _).trans e2)
        rw [lu] at hlen
        have dpr : DpAll K H2 rows ((kids t).map rowD) := dp_rows hlen hrows
        refine ⟨_, rfl, .none, (kids t).map rowD, .non, .lst (SqL.of hL) dpr, rfl, rows_shaped _, ?_⟩
        rw [rows_none]
        refine ⟨_, rfl, iteF ?_⟩
        refine ⟨_, rfl, L, rfl, ⟨_, SqL.of hL⟩, fun L2 nL2 => ?_⟩
        refine lc_same (K := K) (walk_list (K := K) (a := L) (xs := rows)) nL2 (fun i y H' => ∃ a, (kids t)[i]? = some a ∧ y = .int (siz a)) (by rw [hlen]; exact small_of (by omega)) (fun H' e => SqL.of (e _ _ hL))
          (fun _ _ _ _ _ h => h) (fun _ => rfl) ?_ ?_
        · intro i y H3 Q3 hy e3 q3
          obtain ⟨a, r, ha, rfl, hr3⟩ := hrows i y hy
          exact ⟨_, rfl, r, _, 0, _, rfl, rfl, same_sqt e3 hr3, at0, q3 _ _ (Same.refl _) ⟨a, ha, rfl⟩⟩
        · intro H3 ys e3 hL2 hl3 hys
          have ey : ys = ((kids t).map fun a => (siz a : Int)).map V.int := by
            rw [List.map_map]
            refine list_of (hl3.trans hlen) fun i y a hy ha => ?_
            obtain ⟨b, hb, rfl⟩ := hys i y hy
            rw [ha] at hb
            cases hb
            rfl
          refine ⟨L2, _, rfl, SqL.of (by rw [← ey]; exact hL2), ?_⟩
          rw [kids_siz hN]
          refine ⟨_, rfl, L, rfl, ⟨_, SqL.of (e3 _ _ hL)⟩, fun L3 nL3 => ?_⟩
          refine lc_same (K := K) (walk_list (K := K) (a := L) (xs := rows)) nL3 (fun i y H' => ∃ a, (kids t)[i]? = some a ∧ y = .int (dep a)) (by rw [hlen]; exact small_of (by omega)) (fun H' e => SqL.of (e _ _ (e3 _ _ hL)))
            (fun _ _ _ _ _ h => h) (fun _ => rfl) ?_ ?_
          · intro i y H4 Q4 hy e4 q4
            obtain ⟨a, r, ha, rfl, hr3⟩ := hrows i y hy
            exact ⟨_, rfl, r, _, 1, _, rfl, rfl, same_sqt (e3.trans e4) hr3, at1, q4 _ _ (Same.refl _) ⟨a, ha, rfl⟩⟩
          · intro H4 ys2 e4 hL3 hl4 hys2
            have ey2 : ys2 = ((kids t).map fun a => (dep a : Int)).map V.int := by
              rw [List.map_map]
              refine list_of (hl4.trans hlen) fun i y a hy ha => ?_
              obtain ⟨b, hb, rfl⟩ := hys2 i y hy
              rw [ha] at hb
              cases hb
              rfl
            refine ⟨L3, _, rfl, SqL.of (by rw [← ey2]; exact hL3), by rw [List.length_map]; omega, fun m hm hle => ⟨1, m, rfl, rfl, small_of (by show 2 ≤ 1000000; decide), fun r nr => ?_⟩⟩
            exact q _ _ (e02.trans (e3.trans (e4.trans (same_new nr _)))) (by rw [upd_same, ← kids_max hN hm hle])
theorem ok_measure (D : At K mg "measure" s_measure ["thing", "open_so", "room"]) (B : Bt mg) (C : Cs K w mg aN aL) (D_is_leaf : Def P w K mg base 2 "is_leaf" ["thing", "open_so"] (spLeaf K)) :
    ∀ n : Nat, Def P w K mg base (n + 2) "measure" ["thing", "open_so", "room"] (spMeas K n)
  | 0 => (D.no fun vs H Q E h => by
      obtain ⟨v, t, room, _, _, _, h, _⟩ := h
      have := dep_pos t
      omega).mono (by omega)
  | n + 1 => ok_meas_succ D B C D_is_leaf (ok_measure D B C D_is_leaf n)
theorem ok_has_form (D : At K mg "has_form" s_has_form ["thing", "open_so"]) (C : Cs K w mg aN aL) (D_measure : Def P w K mg base 7 "measure" ["thing", "open_so", "room"] (spMeas K 5)) : Def P w K mg base 8 "has_form" ["thing", "open_so"] (spForm K 5) := by
  refine D.ok sc_has_form (fun vs H Q E h => ?_) (fun f cdv A outer s H vs Q E hr h => ?_)
  · obtain ⟨v, t, rfl, _⟩ := h
    rfl
  obtain ⟨v, t, rfl, ht, ok, hn, q⟩ := h
  refine ⟨_, (pss_cons (ps_set (i := 2) sc_has_form.nd rfl (Or.inl rfl) (pe_def D_measure (hr.mono (by omega)) (pa_cons (pv 0) (pa_cons (pv 1) (pa_cons (pe_ci C.depth) pa_nil)))))
    (pss_one (ps_ret (pe_and (pe_cmpR op_notN (pv 2) pe_non (nomark _)) (pe_one (pe_cmpR op_le (pe_ix (ixT K) (pv 2) pe_int (fun _ _ => rfl)) (pe_ci C.names) (nomark _))))))), ?_⟩
  refine ⟨_, rfl, _, rfl, v, t, 12, rfl, ht, ok, hn, by omega, fun H1 p e1 hp => ?_⟩
  refine ⟨_, rfl, rfl, _, rfl, ?_⟩
  refine iteT ?_
  refine ⟨_, rfl, p, _, 0, _, rfl, rfl, SqT.of hp, at0, _, _, rfl, rfl, ?_⟩
  have h40 := siz_le t 4 hn
  show Q (.bl (decide ((siz t : Int) ≤ 40))) H1
  rw [decide_eq_true (by omega)]
  exact q _ e1
theorem ok_is_term (D : At K mg "is_term" s_is_term ["thing"]) (D_has_form : Def P w K mg base 8 "has_form" ["thing", "open_so"] (spForm K 5)) : Def P w K mg base 9 "is_term" ["thing"] (spIsT K 5) := by
  refine D.ok sc_is_term (fun vs H Q E h => ?_) (fun f cdv A outer s H vs Q E hr h => ?_)
  · obtain ⟨v, t, rfl, _⟩ := h
    rfl
  obtain ⟨v, t, rfl, ht, ok, hn, q⟩ := h
  refine ⟨_, (pss_one (ps_ret (pe_def D_has_form (hr.mono (by omega)) (pa_cons (pv 0) (pa_cons pe_bl pa_nil))))), ?_⟩
  exact ⟨_, rfl, v, t, rfl, ht, ok, hn, q⟩
theorem ok_check_term (D : At K mg "check_term" s_check_term ["term"]) (D_is_term : Def P w K mg base 9 "is_term" ["thing"] (spIsT K 5)) : Def P w K mg base 10 "check_term" ["term"] (spChk K 5) := by
  refine D.ok sc_check_term (fun vs H Q E h => ?_) (fun f cdv A outer s H vs Q E hr h => ?_)
  · obtain ⟨v, t, rfl, _⟩ := h
    rfl
  obtain ⟨v, t, rfl, ht, ok, hn, q⟩ := h
  refine ⟨_, (pss_one (ps_if (pt_not (pt_val (pe_def D_is_term (hr.mono (by omega)) (pa_cons (pv 0) pa_nil)))) (pss_one ps_never) pss_nil)), ?_⟩
  exact ⟨_, rfl, v, t, rfl, ht, ok, hn, fun H1 e1 => ⟨_, rfl, iteF (q _ e1)⟩⟩
end
end K6

set_option Elab.async false
set_option linter.all false
set_option maxRecDepth 100000
set_option maxHeartbeats 8000000
/-! terms.py: leaves, names_of, all_parts, parts_of, size_of, depth_of, replaced, renamed -/
namespace K6
open PySem PySem.Spec PyProof.Rows L2
theorem tag_var1 : ∀ k : T1, decide (V.str k.tag = V.str "var") = false := by
  intro k
  cases k <;> decide +kernel
theorem tag_var2 : ∀ k : T2, decide (V.str k.tag = V.str "var") = false := by
  intro k
  cases k <;> decide +kernel
theorem tag_var {t : Tm} (h : isN t = false) : decide (V.str (tag t) = V.str "var") = false := by
  cases t with
  | nm s => cases h
  | one k b => exact tag_var1 k
  | two k b c => exact tag_var2 k
theorem one_small {α : Type} {a : α} : ([a] : List α).length ≤ sizeLine := small_of (by show 1 ≤ 1000000; decide)
theorem TmIn.make {K : PySem.W.Frag} {H : Hp} {p : Addr} {vs : List V} {t : Tm} (hN : isN t = false) (h : SqT K H p (.str (tag t) :: vs)) (hk : Tms K H vs (kids t)) : TmIn K H (.ref p) t := by
  cases t with
  | nm s => cases hN
  | one k b =>
    cases hk with
    | cons a r => cases r; exact .one h a
  | two k b c =>
    cases hk with
    | cons a r => cases r with
      | cons b r => cases r; exact .two h a b
theorem kids_ren {f : Str → Str} {t : Tm} : kids (ren f t) = (kids t).map (ren f) := by
  cases t <;> rfl
theorem tag_ren {f : Str → Str} {t : Tm} (h : isN t = false) : tag (ren f t) = tag t := by
  cases t with
  | nm s => cases h
  | one k b => rfl
  | two k b c => rfl
/-- what a row of names gives for a name -/
def rep (ps : List (Str × Str)) (x : Str) : Str := match ps.find? fun p => decide (p.1 = x) with
  | some p => p.2
  | none => x
theorem rep_get (x : Str) : ∀ ps : List (Str × Str), ((valV (nmK ps) (Sum.inr x)).getD (.str x)) = V.str (rep ps x)
  | [] => rfl
  | p :: ps => by
    by_cases h : p.1 = x
    · have e : valV (nmK (p :: ps)) (Sum.inr x) = some (.str p.2) := valV_pos (congrArg Sum.inr h)
      rw [e]
      unfold rep
      rw [List.find?_cons, decide_eq_true h]
      rfl
    · have e : valV (nmK (p :: ps)) (Sum.inr x) = valV (nmK ps) (Sum.inr x) := valV_neg (fun e => h (Sum.inr.inj e))
      rw [e, rep_get x ps]
      unfold rep
      rw [List.find?_cons, decide_eq_false h]
theorem rep_nm {ps : List (Str × Str)} (h : ∀ p ∈ ps, IsNm p.2) {x : Str} (hx : IsNm x) : IsNm (rep ps x) := by
  unfold rep
  split
  · exact h _ (List.mem_of_find?_eq_some ‹_›)
  · exact hx
/-- [y for x in .. for y in f(x)]: the rows that f gives, one behind the other -/
theorem lc2_flat {K : PySem.W.Frag} {J : It} {xs : List V} {G0 : Hp → Prop} (w : Walk J xs.length G0 (YAt xs)) {wi1 : TI} {te : TE} {sl sl1 : Nat} {vs vs1 : List Nat} {σ : L2.St} {H1 : Hp} {D : Addr} {Qd : Hp → Prop} (nD : H1 D = none)
    (R : Nat → List V → Hp → Prop) (m : Nat) (hz : xs.length * m ≤ sizeLine) (gG : ∀ H, Same H1 H → G0 H)
    (mono : ∀ i y H H', Tups K H H' → R i y H → R i y H') (wp : ∀ x, wipe ((wipe σ vs).set sl (some x)) vs = wipe σ vs)
    (wp1 : ∀ x y, wipe ((wipe ((wipe σ vs).set sl (some x)) vs1).set sl1 (some y)) vs1 = wipe ((wipe σ vs).set sl (some x)) vs1)
    (ht : ∀ x y H Q, Q y H → te ((wipe ((wipe σ vs).set sl (some x)) vs1).set sl1 (some y)) H Q)
    (hs : ∀ (i : Nat) (x : V) (H : Hp) (R' : It → Hp → Prop), xs[i]? = some x → Same H1 H → (∀ a us H', Same H H' → H a = none → H' a = some (.lst us) → us.length ≤ m → R i us H' → R' (Itl K a) H') → wi1 ((wipe σ vs).set sl (some x)) H R')
    (hd : ∀ (H : Hp) (bs : List (List V)), Same H1 H → H D = some (.lst bs.flatten) → bs.length = xs.length → (∀ i b, bs[i]? = some b → R i b H) → Qd H) :
    ∃ W : Nat → Nat → Hp → Prop, (∃ m, W 0 m (upd H1 D (.lst []))) ∧ ∀ i m H, W i m H →
      (J.stop i H ∧ Qd H) ∨ (J.go i H ∧ ∃ Nx : Hp → Prop, (∀ H', Nx H' → ∃ m', m' < m ∧ W (i + 1) m' H') ∧ ∀ x H', J.yld i H x H' → gName sl x (wipe σ vs) H' fun σ2 H2 => wipe σ2 vs = wipe σ vs ∧ tYes σ2 H2 fun b H3 =>
        if b = true then wi1 σ2 H3 fun J1 H4 => ∃ W1 : Nat → Nat → Hp → Prop, (∃ m, W1 0 m H4) ∧ ∀ j k H, W1 j k H →
          (J1.stop j H ∧ Nx H) ∨ (J1.go j H ∧ ∃ Nx1 : Hp → Prop, (∀ H', Nx1 H' → ∃ k', k' < k ∧ W1 (j + 1) k' H') ∧ ∀ x H', J1.yld j H x H' → gName sl1 x (wipe σ2 vs1) H' fun σ3 H5 => wipe σ3 vs1 = wipe σ2 vs1 ∧ tYes σ3 H5 fun b H6 =>
            if b = true then te σ3 H6 fun y H7 => ∃ acc, H7 D = some (.lst acc) ∧ acc.length < sizeLine ∧ Nx1 (upd H7 D (.lst (acc ++ [y]))) else Nx1 H6)
        else Nx H3) := by
  refine ⟨fun i k H => k = xs.length - i ∧ i ≤ xs.length ∧ Same H1 H ∧ ∃ bs : List (List V), H D = some (.lst bs.flatten) ∧ bs.length = i ∧ bs.flatten.length ≤ i * m ∧ ∀ j b, bs[j]? = some b → R j b H,
    ⟨xs.length, by simp, Nat.zero_le _, same_new nD _, [], upd_same, rfl, by simp, fun j b e => by simp at e⟩, ?_⟩
  rintro i k H ⟨rfl, hi, e1, bs, hD, hl, hm, hr⟩
  have q := gG H e1
  by_cases hlt : i < xs.length
  · refine .inr ⟨w.goes i H hlt q, fun H => i + 1 ≤ xs.length ∧ Same H1 H ∧ ∃ bs : List (List V), H D = some (.lst bs.flatten) ∧ bs.length = i + 1 ∧ bs.flatten.length ≤ (i + 1) * m ∧ ∀ j b, bs[j]? = some b → R j b H,
      fun H' p' => ⟨xs.length - (i + 1), by omega, rfl, p'⟩, fun x H' y => ?_⟩
    obtain ⟨rfl, hx⟩ := w.yields i H x H' hlt q y
    refine ⟨wp x, ?_⟩
    dsimp only [tYes]
    rw [if_pos rfl]
    refine hs i x _ _ hx e1 fun a us H4 e4 na hus hml ru => ?_
    have aD : a ≠ D := fun e => by rw [e, hD] at na; cases na
    have h4D := e4 _ _ hD
    refine ⟨fun j k H => k = us.length - j ∧ j ≤ us.length ∧ H = upd H4 D (.lst (bs.flatten ++ us.take j)), ⟨us.length, by simp, Nat.zero_le _, ?_⟩, ?_⟩
    · funext b
      by_cases c : b = D
      · rw [c, upd_same, h4D]; simp
      · rw [upd_ne c]
    · rintro j k H ⟨rfl, hj, rfl⟩
      have hq : SqL K (upd H4 D (.lst (bs.flatten ++ us.take j))) a us := SqL.of (by rw [upd_ne aD]; exact hus)
      by_cases hju : j < us.length
      · refine .inr ⟨(walk_list (K := K) (a := a) (xs := us)).goes j _ hju hq, fun H => j + 1 ≤ us.length ∧ H = upd H4 D (.lst (bs.flatten ++ us.take (j + 1))), fun H' p' => ⟨us.length - (j + 1), by omega, rfl, p'⟩, fun y H' hy => ?_⟩
        obtain ⟨rfl, hyy⟩ := (walk_list (K := K) (a := a) (xs := us)).yields j _ y H' hju hq hy
        refine ⟨wp1 x y, ?_⟩
        dsimp only
        rw [if_pos rfl]
        refine ht x y _ _ ⟨_, upd_same, ?_, hju, ?_⟩
        · rw [List.length_append, List.length_take]
          have : (i + 1) * m ≤ xs.length * m := Nat.mul_le_mul_right m hlt
          rw [Nat.succ_mul] at this
          omega
        · have et : us.take (j + 1) = us.take j ++ [y] := take_more hyy
          rw [et, upd_upd, List.append_assoc]
      · have e : j = us.length := by omega
        subst e
        rw [List.take_length]
        refine .inl ⟨by rw [List.take_length] at hq; exact (walk_list (K := K) (a := a) (xs := us)).stops _ hq, hlt, same_upd nD (e1.trans e4), bs ++ [us], ?_, ?_, ?_, ?_⟩
        · rw [upd_same]; simp
        · rw [List.length_append, hl]; rfl
        · rw [List.flatten_append, List.length_append, Nat.succ_mul]
          have e1 : ([us] : List (List V)).flatten.length = us.length := by simp
          omega
        · intro j b hb
          have tl := tups_lst (K := K) (zs := bs.flatten ++ us) h4D
          by_cases c : j < bs.length
          · rw [List.getElem?_append_left c] at hb
            exact mono _ _ _ _ tl (mono _ _ _ _ (tups_same e4) (hr j b hb))
          · rw [List.getElem?_append_right (Nat.le_of_not_lt c)] at hb
            have e0 : j - bs.length = 0 := by
              have := (List.getElem?_eq_some_iff.mp hb).1
              simp at this
              omega
            have ej : j = i := by omega
            rw [e0] at hb
            have ez : us = b := by simpa using hb
            rw [← ez, ej]
            exact mono _ _ _ _ tl ru
  · have e : i = xs.length := by omega
    subst e
    exact .inl ⟨w.stops H q, hd H bs e1 hD hl hr⟩
theorem flat_of {α β : Type} {g : β → List α} : ∀ {bs : List (List α)} {l : List β}, bs.length = l.length → (∀ (i : Nat) b x, bs[i]? = some b → l[i]? = some x → b = g x) → bs.flatten = l.flatMap g
  | [], [], _, _ => rfl
  | b :: bs, x :: l, hl, h => by
    rw [List.flatten_cons, List.flatMap_cons, h 0 b x rfl rfl, flat_of (by simpa using hl) fun i b x hb hx => h (i + 1) b x (by simpa using hb) (by simpa using hx)]
  | [], _ :: _, hl, _ => by simp at hl
  | _ :: _, [], hl, _ => by simp at hl
theorem flat_tms {K : PySem.W.Frag} {H : Hp} {g : Tm → List Tm} : ∀ {bs : List (List V)} {l : List Tm}, bs.length = l.length → (∀ (i : Nat) b x, bs[i]? = some b → l[i]? = some x → Tms K H b (g x)) → Tms K H bs.flatten (l.flatMap g)
  | [], [], _, _ => .nil
  | b :: bs, x :: l, hl, h => by
    rw [List.flatten_cons, List.flatMap_cons]
    exact (h 0 b x rfl rfl).app (flat_tms (by simpa using hl) fun i b x hb hx => h (i + 1) b x (by simpa using hb) (by simpa using hx))
  | [], _ :: _, hl, _ => by simp at hl
  | _ :: _, [], hl, _ => by simp at hl
theorem tms_of {K : PySem.W.Frag} {H : Hp} {f : Tm → Tm} : ∀ {ys : List V} {l : List Tm}, ys.length = l.length → (∀ (i : Nat) y x, ys[i]? = some y → l[i]? = some x → TmIn K H y (f x)) → Tms K H ys (l.map f)
  | [], [], _, _ => .nil
  | y :: ys, x :: l, hl, h => by
    rw [List.map_cons]
    exact .cons (h 0 y x rfl rfl) (tms_of (by simpa using hl) fun i b x hb hx => h (i + 1) b x (by simpa using hb) (by simpa using hx))
  | [], _ :: _, hl, _ => by simp at hl
  | _ :: _, [], hl, _ => by simp at hl
theorem pow_le {n m : Nat} (h : n ≤ m) : 2 ^ n ≤ 2 ^ m := Nat.pow_le_pow_right (by decide) h
theorem siz8 {t : Tm} (h : dep t ≤ 8) : siz t ≤ 128 := siz_le t 7 h
theorem cnt8 {t : Tm} (h : dep t ≤ 8) : cnt t ≤ 255 := cnt_le t 8 h
abbrev s_leaves : Stmt := top 27
abbrev N_leaves : List Str := ["term", "part", "leaf"]
theorem sc_leaves : FnScope N_leaves ["term"] (defScope s_leaves) := ⟨rfl, rfl, rfl, by decide +kernel, rfl, by decide +kernel, by decide +kernel⟩
abbrev s_names_of : Stmt := top 28
abbrev N_names_of : List Str := ["term"]
theorem sc_names_of : FnScope N_names_of ["term"] (defScope s_names_of) := ⟨rfl, rfl, rfl, by decide +kernel, rfl, by decide +kernel, by decide +kernel⟩
abbrev s_all_parts : Stmt := top 29
abbrev N_all_parts : List Str := ["term", "part", "inner"]
theorem sc_all_parts : FnScope N_all_parts ["term"] (defScope s_all_parts) := ⟨rfl, rfl, rfl, by decide +kernel, rfl, by decide +kernel, by decide +kernel⟩
abbrev s_parts_of : Stmt := top 30
abbrev N_parts_of : List Str := ["term", "part"]
theorem sc_parts_of : FnScope N_parts_of ["term"] (defScope s_parts_of) := ⟨rfl, rfl, rfl, by decide +kernel, rfl, by decide +kernel, by decide +kernel⟩
abbrev s_size_of : Stmt := top 31
abbrev N_size_of : List Str := ["term"]
theorem sc_size_of : FnScope N_size_of ["term"] (defScope s_size_of) := ⟨rfl, rfl, rfl, by decide +kernel, rfl, by decide +kernel, by decide +kernel⟩
abbrev s_depth_of : Stmt := top 32
abbrev N_depth_of : List Str := ["term"]
theorem sc_depth_of : FnScope N_depth_of ["term"] (defScope s_depth_of) := ⟨rfl, rfl, rfl, by decide +kernel, rfl, by decide +kernel, by decide +kernel⟩
abbrev s_replaced : Stmt := top 33
abbrev N_replaced : List Str := ["term", "names", "part"]
theorem sc_replaced : FnScope N_replaced ["term", "names"] (defScope s_replaced) := ⟨rfl, rfl, rfl, by decide +kernel, rfl, by decide +kernel, by decide +kernel⟩
abbrev s_renamed : Stmt := top 34
abbrev N_renamed : List Str := ["term", "names"]
theorem sc_renamed : FnScope N_renamed ["term", "names"] (defScope s_renamed) := ⟨rfl, rfl, rfl, by decide +kernel, rfl, by decide +kernel, by decide +kernel⟩
def spLeaves (K : PySem.W.Frag) (n : Nat) : Sp := fun vs H Q _ => ∃ v t, vs = [v] ∧ TmIn K H v t ∧ dep t ≤ n ∧ ∀ H' p, Same H H' → H p = none → H' p = some (.lst ((lvs t).map V.str)) → Q (.ref p) H'
def spNamesOf (K : PySem.W.Frag) : Sp := fun vs H Q _ => ∃ v t, vs = [v] ∧ TmIn K H v t ∧ Ok t ∧ dep t ≤ 5 ∧ ∀ H' p ys, Same H H' → H p = none → H' p = some (.lst (ys.map V.str)) → ys.Nodup → (∀ x, x ∈ ys ↔ x ∈ lvs t) → sortedS ys = true → Q (.ref p) H'
def spAllParts (K : PySem.W.Frag) (n : Nat) : Sp := fun vs H Q _ => ∃ v t, vs = [v] ∧ TmIn K H v t ∧ dep t ≤ n ∧ ∀ H' p us, Same H H' → H p = none → H' p = some (.lst us) → Tms K H' us (pts t) → Q (.ref p) H'
def spPartsOf (K : PySem.W.Frag) : Sp := fun vs H Q _ => ∃ v t, vs = [v] ∧ TmIn K H v t ∧ Ok t ∧ dep t ≤ 5 ∧ ∀ H' p us, Same H H' → H p = none → H' p = some (.lst us) → Tms K H' us (dd (pts t)) → Q (.ref p) H'
def spSizeOf (K : PySem.W.Frag) : Sp := fun vs H Q _ => ∃ v t, vs = [v] ∧ TmIn K H v t ∧ Ok t ∧ dep t ≤ 5 ∧ ∀ H', Same H H' → Q (.int (siz t)) H'
def spDepthOf (K : PySem.W.Frag) : Sp := fun vs H Q _ => ∃ v t, vs = [v] ∧ TmIn K H v t ∧ Ok t ∧ dep t ≤ 5 ∧ ∀ H', Same H H' → Q (.int (dep t)) H'
def spRepl (K : PySem.W.Frag) (n : Nat) : Sp := fun vs H Q _ => ∃ v d t ps, vs = [v, .ref d] ∧ TmIn K H v t ∧ dep t ≤ n ∧ H d = some (.dK (nmK ps)) ∧ ∀ H' y, Same H H' → TmIn K H' y (ren (rep ps) t) → Q y H'
def spRen (K : PySem.W.Frag) : Sp := fun vs H Q _ => ∃ v d t ps, vs = [v, .ref d] ∧ TmIn K H v t ∧ Ok t ∧ dep t ≤ 5 ∧ H d = some (.dK (nmK ps)) ∧ (ps.map (·.1)).Nodup ∧ (∀ p ∈ ps, IsNm p.1 ∧ IsNm p.2) ∧ ps.length ≤ 1000 ∧ ∀ H' y, Same H H' → TmIn K H' y (ren (rep ps) t) → Q y H'
section
variable {P : Program} {w : World} {K : PySem.W.Frag} {mg : Str → Option Value} {base : Heap} {aN aL : Addr}
theorem ok_leaves_succ {n : Nat} (hn8 : n + 1 ≤ 8) (D : At K mg "leaves" s_leaves ["term"]) (B : Bt mg) (C : Cs K w mg aN aL) (D_leaves : Def P w K mg base n "leaves" ["term"] (spLeaves K n)) : Def P w K mg base (n + 1) "leaves" ["term"] (spLeaves K (n + 1)) := by
  refine D.ok sc_leaves (fun vs H Q E h => ?_) (fun f cdv A outer s H vs Q E hr h => ?_)
  · obtain ⟨v, t, rfl, _⟩ := h
    rfl
  obtain ⟨v, t, rfl, ht, hn, q⟩ := h
  refine ⟨_, (pss_cons (ps_if (PW.pt (pw_or (pt_val (pe_b call_isi B.isinstance boot_isi (pa_cons (pv 0) (pa_cons (pe_ty B.str boot_ty_str) pa_nil)))) (pw_or1 (pt_cmpR op_eq (pe_ix (ixT K) (pv 0) pe_int (fun _ _ => rfl)) (pe_cs C.var) (nomark _))))) (pss_one (ps_ret (pe_lst (pa_cons (pv 0) pa_nil)))) pss_nil)
    (pss_one (ps_ret (pe_lc2 rfl sc_leaves.nd (pi_tup (pe_slice sl_tup (pv 0) (po_some pe_int) po_none)) (blkOk_by (own := [("part", 1), ("leaf", 2)]) (N := N_leaves) (sc := defScope s_leaves) (by decide +kernel)) (vs1 := [2]) (by decide) (fun _ _ _ _ _ => pg_name (i := 1) sc_leaves.nd rfl (Or.inl rfl)) (fun _ _ _ _ _ => pts_nil) (fun _ _ _ _ _ => (piL K (pe_def D_leaves (hr.mono (by omega)) (pa_cons (pv 1) pa_nil)))) (fun _ _ _ _ _ => pg_name (i := 2) sc_leaves.nd rfl (Or.inl rfl)) (fun _ _ _ _ _ => pts_nil) (fun _ _ _ _ _ => (pv 2)))))), ?_⟩
  rcases ht.view with ⟨x, rfl, rfl⟩ | ⟨hN, p, us, rfl, hp, hk⟩
  · refine ⟨_, rfl, _, _, _, _, true, rfl, .ty "str", .base (.str x), kit_ty (by decide +kernel), _, rfl, iteT ?_⟩
    exact ⟨_, rfl, one_small, fun r nr => q _ _ (same_new nr _) nr upd_same⟩
  · refine ⟨_, rfl, _, _, _, _, false, rfl, .ty "str", tyx_tup hp, kit_ty (by decide +kernel), _, rfl, iteF ?_⟩
    refine ⟨_, rfl, p, _, 0, _, rfl, rfl, hp, at0, rfl, _, rfl, ?_⟩
    rw [tag_var hN]
    refine iteF ?_
    refine ⟨_, rfl, _, rfl, p, _, rfl, hp, no_cut1 _ _, fun sl nsl => ?_⟩
    rw [cut1]
    refine ⟨sl, rfl, ⟨_, SqT.of upd_same⟩, fun L nL => ?_⟩
    have es : ∀ o, Same H (upd H sl o) := fun o => same_new nsl o
    have l2 := kids_len hN
    have lu := hk.len
    refine lc2_flat (K := K) (walk_tup (K := K) (a := sl)) nL (fun i b _ => ∀ a, (kids t)[i]? = some a → b = (lvs a).map V.str) 128 (by rw [lu]; exact small_of (by omega)) (fun H' e => SqT.of (e _ _ upd_same))
      (fun _ _ _ _ _ h => h) (fun _ => rfl) (fun _ _ => rfl) (fun x y H Q h => ⟨_, rfl, h⟩) ?_ ?_
    · intro i y H2 R2 hy e2 q2
      obtain ⟨a, ha, ta⟩ := hk.get hy
      have hda := kids_dep (List.mem_of_getElem? ha)
      refine ⟨_, rfl, y, a, rfl, ta.same ((es _).trans e2), by omega, fun H3 r e3 nr hr3 => ?_⟩
      refine ⟨r, rfl, ⟨_, SqL.of hr3⟩, q2 _ _ _ e3 nr hr3 ?_ fun b hb => ?_⟩
      · rw [List.length_map, lvs_len]
        exact siz8 (by omega)
      · rw [ha] at hb
        cases hb
        rfl
    · intro H2 bs e2 hL hl hb
      refine q _ _ ((es _).trans e2) (by cases hh : H L with | none => rfl | some o => rw [(es _) _ _ hh] at nL; cases nL) ?_
      rw [hL, kids_lvs hN, List.map_flatMap, flat_of (l := kids t) (hl.trans lu) fun i b a hbi ha => hb i b hbi a ha]
theorem ok_leaves (D : At K mg "leaves" s_leaves ["term"]) (B : Bt mg) (C : Cs K w mg aN aL) : ∀ n, n ≤ 8 → Def P w K mg base n "leaves" ["term"] (spLeaves K n)
  | 0, _ => D.no fun vs H Q E h => by
      obtain ⟨v, t, _, _, h, _⟩ := h
      have := dep_pos t
      omega
  | n + 1, h => ok_leaves_succ h D B C (ok_leaves D B C n (by omega))
theorem ok_names_of (D : At K mg "names_of" s_names_of ["term"]) (B : Bt mg) (D_check_term : Def P w K mg base 10 "check_term" ["term"] (spChk K 5)) (D_leaves : Def P w K mg base 8 "leaves" ["term"] (spLeaves K 8)) : Def P w K mg base 11 "names_of" ["term"] (spNamesOf K) := by
  refine D.ok sc_names_of (fun vs H Q E h => ?_) (fun f cdv A outer s H vs Q E hr h => ?_)
  · obtain ⟨v, t, rfl, _⟩ := h
    rfl
  obtain ⟨v, t, rfl, ht, ok, hn, q⟩ := h
  refine ⟨_, (pss_cons (ps_expr (pe_def D_check_term (hr.mono (by omega)) (pa_cons (pv 0) pa_nil)))
    (pss_one (ps_ret (pe_b (cr_sortedT rfl) B.sorted boot_sortd (pa_cons (pe_t (cr_setS rfl) B.set boot_ty_set (pa_cons (pe_def D_leaves (hr.mono (by omega)) (pa_cons (pv 0) pa_nil)) pa_nil)) pa_nil))))), ?_⟩
  refine ⟨_, rfl, v, t, rfl, ht, ok, hn, fun H1 e1 => ?_⟩
  refine ⟨_, rfl, v, t, rfl, ht.same e1, by omega, fun H2 r e2 nr hr2 => ?_⟩
  have h16 := siz_le t 4 hn
  refine ⟨r, lvs t, rfl, SqL.of hr2, by rw [lvs_len]; unfold scanBound; omega, fun a na => ?_⟩
  refine ⟨a, lvs t, rfl, upd_same, by rw [lvs_len]; omega, fun ys p nd hm hs np => ?_⟩
  refine q _ _ ys ((e1.trans e2).trans ((same_new na _).trans (same_new np _))) ?_ upd_same nd hm hs
  cases hh : H p with
  | none => rfl
  | some o => rw [((e1.trans e2).trans (same_new na _)) _ _ hh] at np; cases np
theorem ok_all_parts_succ {n : Nat} (hn8 : n + 1 ≤ 8) (D : At K mg "all_parts" s_all_parts ["term"]) (B : Bt mg) (C : Cs K w mg aN aL) (D_all_parts : Def P w K mg base n "all_parts" ["term"] (spAllParts K n)) : Def P w K mg base (n + 1) "all_parts" ["term"] (spAllParts K (n + 1)) := by
  refine D.ok sc_all_parts (fun vs H Q E h => ?_) (fun f cdv A outer s H vs Q E hr h => ?_)
  · obtain ⟨v, t, rfl, _⟩ := h
    rfl
  obtain ⟨v, t, rfl, ht, hn, q⟩ := h
  refine ⟨_, (pss_cons (ps_if (pt_val (pe_b call_isi B.isinstance boot_isi (pa_cons (pv 0) (pa_cons (pe_ty B.str boot_ty_str) pa_nil)))) (pss_one (ps_ret (pe_lst (pa_cons (pv 0) pa_nil)))) pss_nil)
    (pss_one (ps_ret (pe_op op_cat (pe_lst (pa_cons (pv 0) pa_nil)) (pe_lc2 rfl sc_all_parts.nd (pi_tup (pe_slice sl_tup (pv 0) (po_some pe_int) po_none)) (blkOk_by (own := [("part", 1), ("inner", 2)]) (N := N_all_parts) (sc := defScope s_all_parts) (by decide +kernel)) (vs1 := [2]) (by decide) (fun _ _ _ _ _ => pg_name (i := 1) sc_all_parts.nd rfl (Or.inl rfl)) (fun _ _ _ _ _ => pts_nil) (fun _ _ _ _ _ => (piL K (pe_def D_all_parts (hr.mono (by omega)) (pa_cons (pv 1) pa_nil)))) (fun _ _ _ _ _ => pg_name (i := 2) sc_all_parts.nd rfl (Or.inl rfl)) (fun _ _ _ _ _ => pts_nil) (fun _ _ _ _ _ => (pv 2))))))), ?_⟩
  rcases ht.view with ⟨x, rfl, rfl⟩ | ⟨hN, p, us, rfl, hp, hk⟩
  · refine ⟨_, rfl, _, _, _, _, true, rfl, .ty "str", .base (.str x), kit_ty (by decide +kernel), _, rfl, iteT ?_⟩
    exact ⟨_, rfl, one_small, fun r nr => q _ _ _ (same_new nr _) nr upd_same (.cons (.nm x) .nil)⟩
  · refine ⟨_, rfl, _, _, _, _, false, rfl, .ty "str", tyx_tup hp, kit_ty (by decide +kernel), _, rfl, iteF ?_⟩
    refine ⟨_, rfl, one_small, fun l1 nl1 => ?_⟩
    have e0 : Same H (upd H l1 (.lst [.ref p])) := same_new nl1 _
    have hp1 := same_sqt e0 hp
    have hk1 := hk.same e0
    refine ⟨_, rfl, _, rfl, p, _, rfl, hp1, no_cut1 _ _, fun sl nsl => ?_⟩
    rw [cut1]
    refine ⟨sl, rfl, ⟨_, SqT.of upd_same⟩, fun L nL => ?_⟩
    have es : ∀ o, Same (upd H l1 (.lst [.ref p])) (upd (upd H l1 (.lst [.ref p])) sl o) := fun o => same_new nsl o
    have l2 := kids_len hN
    have lu := hk.len
    refine lc2_flat (K := K) (walk_tup (K := K) (a := sl)) nL (fun i b H' => ∀ a, (kids t)[i]? = some a → Tms K H' b (pts a)) 255 (by rw [lu]; exact small_of (by omega)) (fun H' e => SqT.of (e _ _ upd_same))
      (fun _ _ _ _ tt h a ha => (h a ha).at tt) (fun _ => rfl) (fun _ _ => rfl) (fun x y H Q h => ⟨_, rfl, h⟩) ?_ ?_
    · intro i y H2 R2 hy e2 q2
      obtain ⟨a, ha, ta⟩ := hk1.get hy
      have hda := kids_dep (List.mem_of_getElem? ha)
      refine ⟨_, rfl, y, a, rfl, ta.same ((es _).trans e2), by omega, fun H3 r us3 e3 nr hr3 tr3 => ?_⟩
      refine ⟨r, rfl, ⟨_, SqL.of hr3⟩, q2 _ _ _ e3 nr hr3 ?_ fun b hb => ?_⟩
      · rw [tr3.len, pts_len]
        exact cnt8 (by omega)
      · rw [ha] at hb
        cases hb
        exact tr3
    · intro H2 bs e2 hL hl hb
      have e02 := (es _).trans e2
      have hfl : Tms K H2 bs.flatten ((kids t).flatMap pts) := flat_tms (hl.trans lu) fun i b a hbi ha => hb i b hbi a ha
      have hcn : (V.ref p :: bs.flatten).length = cnt t := by
        have := hfl.len
        have e := kids_pts hN
        rw [← pts_len, e, List.length_cons, List.length_cons, this]
      have c8 := cnt8 (t := t) (by omega)
      refine ⟨l1, L, [.ref p], bs.flatten, rfl, rfl, e02 _ _ upd_same, hL, ?_, fun r nr => ?_⟩
      · have : ([V.ref p] : List V).length + bs.flatten.length = cnt t := by rw [← hcn, List.length_cons]; simp; omega
        rw [this]
        exact small_of (by omega)
      · have e03 : Same H (upd H2 r (.lst ([.ref p] ++ bs.flatten))) := (e0.trans e02).trans (same_new nr _)
        refine q _ _ _ e03 ?_ upd_same ?_
        · cases hh : H r with
          | none => rfl
          | some o => rw [(e0.trans e02) _ _ hh] at nr; cases nr
        · rw [kids_pts hN]
          exact .cons (ht.same e03) (hfl.same (same_new nr _))
theorem ok_all_parts (D : At K mg "all_parts" s_all_parts ["term"]) (B : Bt mg) (C : Cs K w mg aN aL) : ∀ n, n ≤ 8 → Def P w K mg base n "all_parts" ["term"] (spAllParts K n)
  | 0, _ => D.no fun vs H Q E h => by
      obtain ⟨v, t, _, _, h, _⟩ := h
      have := dep_pos t
      omega
  | n + 1, h => ok_all_parts_succ h D B C (ok_all_parts D B C n (by omega))
theorem ok_parts_of (D : At K mg "parts_of" s_parts_of ["term"]) (B : Bt mg) (D_check_term : Def P w K mg base 10 "check_term" ["term"] (spChk K 5)) (D_all_parts : Def P w K mg base 8 "all_parts" ["term"] (spAllParts K 8)) : Def P w K mg base 11 "parts_of" ["term"] (spPartsOf K) := by
  refine D.ok sc_parts_of (fun vs H Q E h => ?_) (fun f cdv A outer s H vs Q E hr h => ?_)
  · obtain ⟨v, t, rfl, _⟩ := h
    rfl
  obtain ⟨v, t, rfl, ht, ok, hn, q⟩ := h
  refine ⟨_, (pss_cons (ps_expr (pe_def D_check_term (hr.mono (by omega)) (pa_cons (pv 0) pa_nil)))
    (pss_one (ps_ret (pe_t (call_listN rfl) B.list boot_ty_list (pa_cons (pe_dcN rfl (dp8 hr) (pe_def D_all_parts (hr.mono (by omega)) (pa_cons (pv 0) pa_nil)) rfl (by decide +kernel) rfl (by decide +kernel) rfl rfl (fun _ => rfl)) pa_nil))))), ?_⟩
  refine ⟨_, rfl, v, t, rfl, ht, ok, hn, fun H1 e1 => ?_⟩
  refine ⟨_, rfl, v, t, rfl, ht.same e1, by omega, fun H2 r us e2 nr hr2 tr2 => ?_⟩
  have c8 := cnt8 (t := t) (by omega)
  refine ⟨r, us, t, rfl, SqL.of hr2, tr2, by omega, small_of (by omega), fun D ws nD hws => ?_⟩
  refine ⟨D, ws, _, rfl, upd_same, ?_, fun p np => ?_⟩
  · have := hws.len
    have := length_dd (pts t)
    have := pts_len t
    exact small_of (by omega)
  · have e3 := (same_new (H := H2) nD (DicO w D ws (dd (pts t)))).trans (same_new np (.lst ws))
    refine q _ _ ws ((e1.trans e2).trans e3) ?_ upd_same (hws.same e3)
    cases hh : H p with
    | none => rfl
    | some o => rw [((e1.trans e2).trans (same_new nD _)) _ _ hh] at np; cases np
theorem ok_size_of (D : At K mg "size_of" s_size_of ["term"]) (B : Bt mg) (D_check_term : Def P w K mg base 10 "check_term" ["term"] (spChk K 5)) (D_leaves : Def P w K mg base 8 "leaves" ["term"] (spLeaves K 8)) : Def P w K mg base 11 "size_of" ["term"] (spSizeOf K) := by
  refine D.ok sc_size_of (fun vs H Q E h => ?_) (fun f cdv A outer s H vs Q E hr h => ?_)
  · obtain ⟨v, t, rfl, _⟩ := h
    rfl
  obtain ⟨v, t, rfl, ht, ok, hn, q⟩ := h
  refine ⟨_, (pss_cons (ps_expr (pe_def D_check_term (hr.mono (by omega)) (pa_cons (pv 0) pa_nil)))
    (pss_one (ps_ret (pe_b call_len_seq B.len boot_ln (pa_cons (pe_def D_leaves (hr.mono (by omega)) (pa_cons (pv 0) pa_nil)) pa_nil))))), ?_⟩
  refine ⟨_, rfl, v, t, rfl, ht, ok, hn, fun H1 e1 => ?_⟩
  refine ⟨_, rfl, v, t, rfl, ht.same e1, by omega, fun H2 r e2 nr hr2 => ?_⟩
  refine ⟨r, _, rfl, .inl (SqL.of hr2), ?_⟩
  rw [List.length_map, lvs_len]
  exact q _ (e1.trans e2)
theorem ok_depth_of (D : At K mg "depth_of" s_depth_of ["term"]) (C : Cs K w mg aN aL) (D_check_term : Def P w K mg base 10 "check_term" ["term"] (spChk K 5)) (D_measure : Def P w K mg base 7 "measure" ["thing", "open_so", "room"] (spMeas K 5)) : Def P w K mg base 11 "depth_of" ["term"] (spDepthOf K) := by
  refine D.ok sc_depth_of (fun vs H Q E h => ?_) (fun f cdv A outer s H vs Q E hr h => ?_)
  · obtain ⟨v, t, rfl, _⟩ := h
    rfl
  obtain ⟨v, t, rfl, ht, ok, hn, q⟩ := h
  refine ⟨_, (pss_cons (ps_expr (pe_def D_check_term (hr.mono (by omega)) (pa_cons (pv 0) pa_nil)))
    (pss_one (ps_ret (pe_ix (ixT K) (pe_def D_measure (hr.mono (by omega)) (pa_cons (pv 0) (pa_cons pe_bl (pa_cons (pe_ci C.depth) pa_nil)))) pe_int (fun _ _ => rfl))))), ?_⟩
  refine ⟨_, rfl, v, t, rfl, ht, ok, hn, fun H1 e1 => ?_⟩
  refine ⟨_, rfl, v, t, 12, rfl, ht.same e1, ok, hn, by omega, fun H2 p e2 hp => ?_⟩
  exact ⟨p, _, 1, _, rfl, rfl, SqT.of hp, at1, q _ (e1.trans e2)⟩
theorem ok_replaced_succ {n : Nat} (D : At K mg "replaced" s_replaced ["term", "names"]) (B : Bt mg) (D_replaced : Def P w K mg base n "replaced" ["term", "names"] (spRepl K n)) : Def P w K mg base (n + 1) "replaced" ["term", "names"] (spRepl K (n + 1)) := by
  refine D.ok sc_replaced (fun vs H Q E h => ?_) (fun f cdv A outer s H vs Q E hr h => ?_)
  · obtain ⟨v, d, t, ps, rfl, _⟩ := h
    rfl
  obtain ⟨v, d, t, ps, rfl, ht, hn, hd, q⟩ := h
  refine ⟨_, (pss_cons (ps_if (pt_val (pe_b call_isi B.isinstance boot_isi (pa_cons (pv 0) (pa_cons (pe_ty B.str boot_ty_str) pa_nil)))) (pss_one (ps_ret (pe_dget2 (hu_of hr) (pv 1) (pv 0) (pv 0) ⟨rfl, rfl, rfl, rfl⟩))) pss_nil)
    (pss_one (ps_ret (pe_op op_catT (pe_tup (pa_cons (pe_ix (ixT K) (pv 0) pe_int (fun _ _ => rfl)) pa_nil)) (pe_t call_tuple_of B.tuple boot_ty_tuple (pa_cons (pe_lc rfl sc_replaced.nd (pi_tup (pe_slice sl_tup (pv 0) (po_some pe_int) po_none)) (blkOk_by (own := [("part", 2)]) (N := N_replaced) (sc := defScope s_replaced) (by decide +kernel)) (fun _ _ _ _ _ => pg_name (i := 2) sc_replaced.nd rfl (Or.inl rfl)) (fun _ _ _ _ _ => pts_nil) (fun _ _ _ _ _ => (pe_def D_replaced (hr.mono (by omega)) (pa_cons (pv 2) (pa_cons (pv 1) pa_nil))))) pa_nil)))))), ?_⟩
  rcases ht.view with ⟨x, rfl, rfl⟩ | ⟨hN, p, us, rfl, hp, hk⟩
  · refine ⟨_, rfl, _, _, _, _, true, rfl, .ty "str", .base (.str x), kit_ty (by decide +kernel), _, rfl, iteT ?_⟩
    refine ⟨_, rfl, d, rfl, .inl ⟨_, .inl hd⟩, _, rfl, _, rfl, _, .inl ⟨_, Sum.inr x, .inl hd, rfl, rfl⟩, ?_⟩
    rw [rep_get]
    exact q _ _ (Same.refl _) (.nm _)
  · refine ⟨_, rfl, _, _, _, _, false, rfl, .ty "str", tyx_tup hp, kit_ty (by decide +kernel), _, rfl, iteF ?_⟩
    refine ⟨_, rfl, p, _, 0, _, rfl, rfl, hp, at0, one_small, fun l1 nl1 => ?_⟩
    have e0 : Same H (upd H l1 (.tup [.str (tag t)])) := same_new nl1 _
    have hp1 := same_sqt e0 hp
    have hk1 := hk.same e0
    refine ⟨_, rfl, _, rfl, p, _, rfl, hp1, no_cut1 _ _, fun sl nsl => ?_⟩
    rw [cut1]
    refine ⟨sl, rfl, ⟨_, SqT.of upd_same⟩, fun L nL => ?_⟩
    have es : ∀ o, Same (upd H l1 (.tup [.str (tag t)])) (upd (upd H l1 (.tup [.str (tag t)])) sl o) := fun o => same_new nsl o
    have l2 := kids_len hN
    have lu := hk.len
    refine lc_same (K := K) (walk_tup (K := K) (a := sl)) nL (fun i y H' => ∀ a, (kids t)[i]? = some a → TmIn K H' y (ren (rep ps) a)) (by rw [lu]; exact small_of (by omega)) (fun H' e => SqT.of (e _ _ upd_same))
      (fun _ _ _ _ tt h a ha => (h a ha).at tt) (fun _ => rfl) ?_ ?_
    · intro i y H2 Q2 hy e2 q2
      obtain ⟨a, ha, ta⟩ := hk1.get hy
      have hda := kids_dep (List.mem_of_getElem? ha)
      refine ⟨_, rfl, _, rfl, y, d, a, ps, rfl, ta.same ((es _).trans e2), by omega, ((e0.trans (es _)).trans e2) _ _ hd, fun H3 z e3 hz => q2 _ _ e3 fun b hb => ?_⟩
      rw [ha] at hb
      cases hb
      exact hz
    · intro H2 ys e2 hL hl hy
      have e02 := (es _).trans e2
      have hys : Tms K H2 ys (kids (ren (rep ps) t)) := by
        rw [kids_ren]
        exact tms_of (hl.trans lu) fun i y a hyi ha => hy i y hyi a ha
      refine ⟨L, ys, rfl, .inl ⟨SqL.of hL, fun r nr => ?_⟩⟩
      have e3 : Same H2 (upd H2 r (.tup ys)) := same_new nr _
      refine ⟨l1, r, [.str (tag t)], ys, rfl, rfl, SqT.of (e3 _ _ (e02 _ _ upd_same)), SqT.of upd_same, by simp, ?_, fun z => ?_, fun _ m nm => ?_⟩
      · rw [hl, lu]
        exact small_of (by simp; omega)
      · exfalso
        rw [z, List.length_nil] at hl
        omega
      · have e4 : Same (upd H2 r (.tup ys)) (upd (upd H2 r (.tup ys)) m (.tup ([.str (tag t)] ++ ys))) := same_new nm _
        refine q _ _ (((e0.trans e02).trans e3).trans e4) (TmIn.make ?_ ?_ (hys.same (e3.trans e4)))
        · exact (isN_ren _ _).trans hN
        · rw [tag_ren hN]
          exact SqT.of upd_same
theorem ok_replaced (D : At K mg "replaced" s_replaced ["term", "names"]) (B : Bt mg) : ∀ n, Def P w K mg base n "replaced" ["term", "names"] (spRepl K n)
  | 0 => D.no fun vs H Q E h => by
      obtain ⟨v, d, t, ps, _, _, h, _⟩ := h
      have := dep_pos t
      omega
  | n + 1 => ok_replaced_succ D B (ok_replaced D B n)
theorem ok_renamed (D : At K mg "renamed" s_renamed ["term", "names"]) (D_check_term : Def P w K mg base 10 "check_term" ["term"] (spChk K 5)) (D_is_name_dict : Def P w K mg base 2 "is_name_dict" ["thing"] (spNameDict K)) (D_replaced : Def P w K mg base 5 "replaced" ["term", "names"] (spRepl K 5)) : Def P w K mg base 11 "renamed" ["term", "names"] (spRen K) := by
  refine D.ok sc_renamed (fun vs H Q E h => ?_) (fun f cdv A outer s H vs Q E hr h => ?_)
  · obtain ⟨v, d, t, ps, rfl, _⟩ := h
    rfl
  obtain ⟨v, d, t, ps, rfl, ht, ok, hn, hd, nd, hps, hl, q⟩ := h
  refine ⟨_, (pss_cons (ps_expr (pe_def D_check_term (hr.mono (by omega)) (pa_cons (pv 0) pa_nil)))
    (pss_cons (ps_if (pt_not (pt_val (pe_def D_is_name_dict (hr.mono (by omega)) (pa_cons (pv 1) pa_nil)))) (pss_one ps_never) pss_nil)
    (pss_one (ps_ret (pe_def D_replaced (hr.mono (by omega)) (pa_cons (pv 0) (pa_cons (pv 1) pa_nil))))))), ?_⟩
  refine ⟨_, rfl, v, t, rfl, ht, ok, hn, fun H1 e1 => ?_⟩
  refine ⟨_, rfl, d, ps, rfl, e1 _ _ hd, nd, hps, hl, fun H2 e2 => ⟨_, rfl, iteF ?_⟩⟩
  exact ⟨_, rfl, _, rfl, v, d, t, ps, rfl, ht.same (e1.trans e2), hn, (e1.trans e2) _ _ hd, fun H3 y e3 hy => q _ _ ((e1.trans e2).trans e3) hy⟩
end
end K6

set_option Elab.async false
set_option linter.all false
set_option maxRecDepth 100000
set_option maxHeartbeats 8000000
/-! wordings.py: spelled, worded -/
namespace K6
open PySem PySem.Spec PyProof.Rows L2
theorem cl_app (x y : Str) : cl (x ++ y) = cl x ++ cl y := by
  show (x.cps ++ y.cps).toList = x.cps.toList ++ y.cps.toList
  simp
theorem mk_of {x : Str} {a : List Nat} (h : cl x = a) : x = mks a := cl_inj h
theorem q_lpar : ("(" : Str) = mks [40] := by decide +kernel
theorem q_rpar : (")" : Str) = mks [41] := by decide +kernel
theorem q_amp : (" & " : Str) = mks [32, 38, 32] := by decide +kernel
theorem q_lbr : ("[" : Str) = mks [91] := by decide +kernel
theorem q_rbr : ("]" : Str) = mks [93] := by decide +kernel
theorem q_lt : ("<" : Str) = mks [60] := by decide +kernel
theorem q_gt : (">" : Str) = mks [62] := by decide +kernel
theorem q_half : ("half " : Str) = mks [104, 97, 108, 102, 32] := by decide +kernel
theorem q_lcu : ("{" : Str) = mks [123] := by decide +kernel
theorem q_rcu : ("}" : Str) = mks [125] := by decide +kernel
theorem q_bang : ("!" : Str) = mks [33] := by decide +kernel
theorem q_mix : ("mix(" : Str) = mks [109, 105, 120, 40] := by decide +kernel
def rCatX : R2 := fun x y H Q => ∃ i j, x = .str i ∧ y = .str j ∧ i.length + j.length ≤ sizeLine ∧ Q (.str (i ++ j)) H
theorem op_addS {X : Cx} : OpR X (binaryOp .Add) rCatX := op_add_str
theorem q_ws (t : Tm) : ws t = mks (wd t) := rfl
theorem addS {x y : Str} {a b : List Nat} (hx : x = mks a) (hy : y = mks b) (h : a.length + b.length ≤ 100000) {Q : VK} {H : Hp} (q : Q (.str (mks (a ++ b))) H) : rCatX (.str x) (.str y) H Q := by
  subst hx hy
  refine ⟨_, _, rfl, rfl, ?_, ?_⟩
  · rw [len_mks, len_mks]
    exact small_of (by omega)
  · rw [mks_app]
    exact q
theorem addC {x y : Str} {a b : List Nat} {σ : L2.St} (hx : x = mks a) (hy : y = mks b) (h : a.length + b.length ≤ 100000) {Q : VK} {H : Hp} (q : Q (.str (mks (a ++ b))) H) : tC (.str y) σ H (fun z H2 => rCatX (.str x) z H2 Q) := addS hx hy h q
theorem wd8 {t : Tm} (ok : Ok t) (h : dep t ≤ 8) : (wd t).length ≤ 3060 := by
  have := wd_len t ok
  have := cnt8 h
  omega
abbrev s_spelled : Stmt := top 37
abbrev N_spelled : List Str := ["term", "parts", "part", "bare"]
theorem sc_spelled : FnScope N_spelled ["term"] (defScope s_spelled) := ⟨rfl, rfl, rfl, by decide +kernel, rfl, by decide +kernel, by decide +kernel⟩
abbrev s_worded : Stmt := top 38
abbrev N_worded : List Str := ["term"]
theorem sc_worded : FnScope N_worded ["term"] (defScope s_worded) := ⟨rfl, rfl, rfl, by decide +kernel, rfl, by decide +kernel, by decide +kernel⟩
def spSpelled (K : PySem.W.Frag) (n : Nat) : Sp := fun vs H Q _ => ∃ v t, vs = [v] ∧ TmIn K H v t ∧ Ok t ∧ dep t ≤ n ∧ ∀ H', Same H H' → Q (.str (ws t)) H'
section
variable {P : Program} {w : World} {K : PySem.W.Frag} {mg : Str → Option Value} {base : Heap} {aN aL : Addr}
theorem ok_spelled_succ {n : Nat} (hn8 : n + 1 ≤ 8) (D : At K mg "spelled" s_spelled ["term"]) (B : Bt mg) (C : Cs K w mg aN aL) (D_spelled : Def P w K mg base n "spelled" ["term"] (spSpelled K n)) : Def P w K mg base (n + 1) "spelled" ["term"] (spSpelled K (n + 1)) := by
  refine D.ok sc_spelled (fun vs H Q E h => ?_) (fun f cdv A outer s H vs Q E hr h => ?_)
  · obtain ⟨v, t, rfl, _⟩ := h
    rfl
  obtain ⟨v, t, rfl, ht, ok, hn, q⟩ := h
  refine ⟨_, (pss_cons (ps_if (pt_val (pe_b call_isi B.isinstance boot_isi (pa_cons (pv 0) (pa_cons (pe_ty B.str boot_ty_str) pa_nil)))) (pss_one (ps_ret (pv 0))) pss_nil)
    (pss_cons (ps_if (pt_cmpR op_eq (pe_ix (ixT K) (pv 0) pe_int (fun _ _ => rfl)) (pe_cs C.var) (nomark _)) (pss_one (ps_ret (pe_op op_addS pe_str (pe_ix (ixT K) (pv 0) pe_int (fun _ _ => rfl))))) pss_nil)
    (pss_cons (ps_setLc (i := 1) rfl sc_spelled.nd rfl rfl (sw_true rfl rfl rfl (by decide +kernel)) (pi_tup (pe_slice sl_tup (pv 0) (po_some pe_int) po_none)) (blkOk_by (own := [("part", 2)]) (N := N_spelled) (sc := defScope s_spelled) (by decide +kernel)) (fun _ _ _ _ _ => pg_name (i := 2) sc_spelled.nd rfl (Or.inl rfl)) (fun _ _ _ _ _ => pts_nil) (fun _ _ _ _ _ => (pe_def D_spelled (hr.mono (by omega)) (pa_cons (pv 2) pa_nil))))
    (pss_cons (ps_if (pt_cmpR op_eq (pe_ix (ixT K) (pv 0) pe_int (fun _ _ => rfl)) (pe_cs C.pair) (nomark _)) (pss_one (ps_ret (pe_op op_addS (pe_op op_addS (pe_op op_addS (pe_op op_addS pe_str (pe_ix (ixL K) (pv 1) pe_int (fun _ _ => rfl))) (pe_cs C.amp)) (pe_ix (ixL K) (pv 1) pe_int (fun _ _ => rfl))) pe_str))) pss_nil)
    (pss_cons (ps_if (pt_cmpR op_eq (pe_ix (ixT K) (pv 0) pe_int (fun _ _ => rfl)) (pe_cs C.box) (nomark _)) (pss_cons (ps_set (i := 3) sc_spelled.nd rfl (Or.inl rfl) (pe_or (pe_b call_isi B.isinstance boot_isi (pa_cons (pe_ix (ixT K) (pv 0) pe_int (fun _ _ => rfl)) (pa_cons (pe_ty B.str boot_ty_str) pa_nil))) (pe_one (pe_cmpR op_eq (pe_ix (ixT K) (pe_ix (ixT K) (pv 0) pe_int (fun _ _ => rfl)) pe_int (fun _ _ => rfl)) (pe_cs C.var) (nomark _)))))
     (pss_one (ps_ret (pe_op op_addS (pe_op op_addS (pe_op op_addS pe_str (pe_ix (ixL K) (pv 1) pe_int (fun _ _ => rfl))) pe_str) (pe_ifExp (pt_val (pv 3)) (pe_ix (ixL K) (pv 1) pe_int (fun _ _ => rfl)) (pe_op op_addS (pe_op op_addS pe_str (pe_ix (ixL K) (pv 1) pe_int (fun _ _ => rfl))) pe_str)))))) pss_nil)
    (pss_cons (ps_if (pt_cmpR op_eq (pe_ix (ixT K) (pv 0) pe_int (fun _ _ => rfl)) (pe_cs C.half) (nomark _)) (pss_one (ps_ret (pe_op op_addS pe_str (pe_ix (ixL K) (pv 1) pe_int (fun _ _ => rfl))))) pss_nil)
    (pss_cons (ps_if (pt_cmpR op_eq (pe_ix (ixT K) (pv 0) pe_int (fun _ _ => rfl)) (pe_cs C.shut) (nomark _)) (pss_one (ps_ret (pe_op op_addS (pe_op op_addS (pe_op op_addS pe_str (pe_ix (ixL K) (pv 1) pe_int (fun _ _ => rfl))) pe_str) (pe_ix (ixL K) (pv 1) pe_int (fun _ _ => rfl))))) pss_nil)
    (pss_cons (ps_if (pt_cmpR op_eq (pe_ix (ixT K) (pv 0) pe_int (fun _ _ => rfl)) (pe_cs C.mark) (nomark _)) (pss_one (ps_ret (pe_op op_addS (pe_op op_addS (pe_op op_addS (pe_op op_addS pe_str (pe_ix (ixL K) (pv 1) pe_int (fun _ _ => rfl))) pe_str) (pe_ix (ixL K) (pv 1) pe_int (fun _ _ => rfl))) pe_str))) pss_nil)
    (pss_one (ps_ret (pe_op op_addS (pe_op op_addS pe_str (pe_ix (ixL K) (pv 1) pe_int (fun _ _ => rfl))) pe_str))))))))))), ?_⟩
  rcases ht.view with ⟨x, rfl, rfl⟩ | ⟨hN, p, us, rfl, hp, hk⟩
  · refine ⟨_, rfl, _, _, _, _, true, rfl, .ty "str", .base (.str x), kit_ty (by decide +kernel), _, rfl, iteT ?_⟩
    refine ⟨_, rfl, ?_⟩
    exact q _ (Same.refl _)
  · refine ⟨_, rfl, _, _, _, _, false, rfl, .ty "str", tyx_tup hp, kit_ty (by decide +kernel), _, rfl, iteF ?_⟩
    refine ⟨_, rfl, p, _, 0, _, rfl, rfl, hp, at0, rfl, _, rfl, ?_⟩
    rw [tag_var hN]
    refine iteF ?_
    refine ⟨_, rfl, _, rfl, p, _, rfl, hp, no_cut1 _ _, fun sl nsl => ?_⟩
    rw [cut1]
    refine ⟨sl, rfl, ⟨_, SqT.of upd_same⟩, fun L nL => ?_⟩
    have es : ∀ o, Same H (upd H sl o) := fun o => same_new nsl o
    have l2 := kids_len hN
    have lu := hk.len
    refine lc_same (K := K) (walk_tup (K := K) (a := sl)) nL (fun i y H' => ∀ a, (kids t)[i]? = some a → y = .str (ws a)) (by rw [lu]; exact small_of (by omega)) (fun H' e => SqT.of (e _ _ upd_same))
      (fun _ _ _ _ _ h => h) (fun _ => rfl) ?_ ?_
    · intro i y H2 Q2 hy e2 q2
      obtain ⟨a, ha, ta⟩ := hk.get hy
      have ham := List.mem_of_getElem? ha
      have hda := kids_dep ham
      refine ⟨_, rfl, y, a, rfl, ta.same ((es _).trans e2), kids_ok ok ham, by omega, fun H3 e3 => q2 _ _ e3 fun b hb => ?_⟩
      rw [ha] at hb
      cases hb
      rfl
    · intro H2 ys e2 hL hl hy
      have e1 := (es _).trans e2
      have ey : ys = (kids t).map fun a => V.str (ws a) := list_of (hl.trans lu) fun i y a hyi ha => hy i y hyi a ha
      subst ey
      have hL := SqL.of (K := K) hL
      have hp := same_sqt e1 hp
      have hk := hk.same e1
      have q := fun (H' : Hp) (e : Same H2 H') => q H' (e1.trans e)
      have q0 := q H2 (Same.refl _)
      clear hy hl nL es nsl e2 l2 lu e1
      match t, ok, hN, hp, hk, hL, q0, hn, q with
      | .two .pair a b, ok, _, hp, hk, hL, q0, hn, _ =>
        have wa := wd8 ok.fst (by have : dep (.two .pair a b) = max (dep a) (dep b) + 1 := rfl; omega)
        have wb := wd8 ok.snd (by have : dep (.two .pair a b) = max (dep a) (dep b) + 1 := rfl; omega)
        refine ⟨_, rfl, p, _, 0, _, rfl, rfl, hp, at0, rfl, _, rfl, iteB (show decide (V.str T2.pair.tag = V.str "pair") = true by decide +kernel) ?_⟩
        refine ⟨_, rfl, L, _, 0, _, rfl, rfl, hL, at0, addS q_lpar (q_ws a) ?_ ?_⟩
        · simp only [List.length_append, List.length_cons, List.length_nil]; omega
        refine addC rfl q_amp ?_ ?_
        · simp only [List.length_append, List.length_cons, List.length_nil]; omega
        refine ⟨_, rfl, L, _, 1, _, rfl, rfl, hL, at1, ?_⟩
        refine addS rfl (q_ws b) ?_ ?_
        · simp only [List.length_append, List.length_cons, List.length_nil]; omega
        refine addC rfl q_rpar ?_ ?_
        · simp only [List.length_append, List.length_cons, List.length_nil]; omega
        refine (show mks _ = ws (.two .pair a b) from ?_) ▸ q0
        unfold ws
        simp only [wd, List.append_assoc]
      | .two .box a b, ok, _, hp, hk, hL, q0, hn, _ =>
        have wa := wd8 ok.fst (by have : dep (.two .box a b) = max (dep a) (dep b) + 1 := rfl; omega)
        have wb := wd8 ok.snd (by have : dep (.two .box a b) = max (dep a) (dep b) + 1 := rfl; omega)
        refine ⟨_, rfl, p, _, 0, _, rfl, rfl, hp, at0, rfl, _, rfl, iteN (show decide (V.str T2.box.tag = V.str "pair") = false by decide +kernel) ?_⟩
        refine ⟨_, rfl, p, _, 0, _, rfl, rfl, hp, at0, rfl, _, rfl, iteB (show decide (V.str T2.box.tag = V.str "box") = true by decide +kernel) ?_⟩
        cases hk with
        | @cons va _ _ _ ha hb =>
        rcases ha.view with ⟨x, ea, rfl⟩ | ⟨hNa, pa, ua, rfl, hpa, hka⟩
        · subst ea
          refine ⟨_, rfl, p, _, 1, _, rfl, rfl, hp, at1, _, _, _, _, true, rfl, .ty "str", .base (.str x), kit_ty (by decide +kernel), _, rfl, iteT ?_⟩
          refine ⟨_, rfl, L, _, 1, _, rfl, rfl, hL, at1, addS q_lbr (q_ws b) ?_ ?_⟩
          · simp only [List.length_append, List.length_cons, List.length_nil]; omega
          refine addC rfl q_rbr ?_ ?_
          · simp only [List.length_append, List.length_cons, List.length_nil]; omega
          refine ⟨_, rfl, _, rfl, iteT ?_⟩
          refine ⟨_, rfl, L, _, 0, _, rfl, rfl, hL, at0, ?_⟩
          refine addS rfl (q_ws (.nm x)) ?_ ?_
          · simp only [List.length_append, List.length_cons, List.length_nil]; omega
          refine (show mks _ = ws (.two .box (.nm x) b) from ?_) ▸ q0
          unfold ws
          simp only [wd, isN, if_true, List.append_assoc]
        · refine ⟨_, rfl, p, _, 1, _, rfl, rfl, hp, at1, _, _, _, _, false, rfl, .ty "str", tyx_tup hpa, kit_ty (by decide +kernel), _, rfl, iteF ?_⟩
          refine ⟨_, rfl, p, _, 1, _, rfl, rfl, hp, at1, pa, _, 0, _, rfl, rfl, hpa, at0, rfl, ?_⟩
          rw [tag_var hNa]
          refine ⟨_, rfl, L, _, 1, _, rfl, rfl, hL, at1, addS q_lbr (q_ws b) ?_ ?_⟩
          · simp only [List.length_append, List.length_cons, List.length_nil]; omega
          refine addC rfl q_rbr ?_ ?_
          · simp only [List.length_append, List.length_cons, List.length_nil]; omega
          refine ⟨_, rfl, _, rfl, iteF ?_⟩
          refine ⟨_, rfl, L, _, 0, _, rfl, rfl, hL, at0, addS q_lt (q_ws a) ?_ ?_⟩
          · simp only [List.length_append, List.length_cons, List.length_nil]; omega
          refine addC rfl q_gt ?_ ?_
          · simp only [List.length_append, List.length_cons, List.length_nil]; omega
          refine addS rfl rfl ?_ ?_
          · simp only [List.length_append, List.length_cons, List.length_nil]; omega
          refine (show mks _ = ws (.two .box a b) from ?_) ▸ q0
          unfold ws
          simp only [wd, hNa, if_false, Bool.false_eq_true, List.append_assoc]
      | .two .shut a b, ok, _, hp, hk, hL, q0, hn, _ =>
        have wa := wd8 ok.fst (by have : dep (.two .shut a b) = max (dep a) (dep b) + 1 := rfl; omega)
        have wb := wd8 ok.snd (by have : dep (.two .shut a b) = max (dep a) (dep b) + 1 := rfl; omega)
        refine ⟨_, rfl, p, _, 0, _, rfl, rfl, hp, at0, rfl, _, rfl, iteN (show decide (V.str T2.shut.tag = V.str "pair") = false by decide +kernel) ?_⟩
        refine ⟨_, rfl, p, _, 0, _, rfl, rfl, hp, at0, rfl, _, rfl, iteN (show decide (V.str T2.shut.tag = V.str "box") = false by decide +kernel) ?_⟩
        refine ⟨_, rfl, p, _, 0, _, rfl, rfl, hp, at0, rfl, _, rfl, iteN (show decide (V.str T2.shut.tag = V.str "half") = false by decide +kernel) ?_⟩
        refine ⟨_, rfl, p, _, 0, _, rfl, rfl, hp, at0, rfl, _, rfl, iteB (show decide (V.str T2.shut.tag = V.str "shut") = true by decide +kernel) ?_⟩
        refine ⟨_, rfl, L, _, 1, _, rfl, rfl, hL, at1, addS q_lcu (q_ws b) ?_ ?_⟩
        · simp only [List.length_append, List.length_cons, List.length_nil]; omega
        refine addC rfl q_rcu ?_ ?_
        · simp only [List.length_append, List.length_cons, List.length_nil]; omega
        refine ⟨_, rfl, L, _, 0, _, rfl, rfl, hL, at0, ?_⟩
        refine addS rfl (q_ws a) ?_ ?_
        · simp only [List.length_append, List.length_cons, List.length_nil]; omega
        refine (show mks _ = ws (.two .shut a b) from ?_) ▸ q0
        unfold ws
        simp only [wd, List.append_assoc]
      | .two .mark a b, ok, _, hp, hk, hL, q0, hn, _ =>
        have wa := wd8 ok.fst (by have : dep (.two .mark a b) = max (dep a) (dep b) + 1 := rfl; omega)
        have wb := wd8 ok.snd (by have : dep (.two .mark a b) = max (dep a) (dep b) + 1 := rfl; omega)
        refine ⟨_, rfl, p, _, 0, _, rfl, rfl, hp, at0, rfl, _, rfl, iteN (show decide (V.str T2.mark.tag = V.str "pair") = false by decide +kernel) ?_⟩
        refine ⟨_, rfl, p, _, 0, _, rfl, rfl, hp, at0, rfl, _, rfl, iteN (show decide (V.str T2.mark.tag = V.str "box") = false by decide +kernel) ?_⟩
        refine ⟨_, rfl, p, _, 0, _, rfl, rfl, hp, at0, rfl, _, rfl, iteN (show decide (V.str T2.mark.tag = V.str "half") = false by decide +kernel) ?_⟩
        refine ⟨_, rfl, p, _, 0, _, rfl, rfl, hp, at0, rfl, _, rfl, iteN (show decide (V.str T2.mark.tag = V.str "shut") = false by decide +kernel) ?_⟩
        refine ⟨_, rfl, p, _, 0, _, rfl, rfl, hp, at0, rfl, _, rfl, iteB (show decide (V.str T2.mark.tag = V.str "mark") = true by decide +kernel) ?_⟩
        refine ⟨_, rfl, L, _, 1, _, rfl, rfl, hL, at1, addS q_lpar (q_ws b) ?_ ?_⟩
        · simp only [List.length_append, List.length_cons, List.length_nil]; omega
        refine addC rfl q_bang ?_ ?_
        · simp only [List.length_append, List.length_cons, List.length_nil]; omega
        refine ⟨_, rfl, L, _, 0, _, rfl, rfl, hL, at0, ?_⟩
        refine addS rfl (q_ws a) ?_ ?_
        · simp only [List.length_append, List.length_cons, List.length_nil]; omega
        refine addC rfl q_rpar ?_ ?_
        · simp only [List.length_append, List.length_cons, List.length_nil]; omega
        refine (show mks _ = ws (.two .mark a b) from ?_) ▸ q0
        unfold ws
        simp only [wd, List.append_assoc]
      | .one .half a, ok, _, hp, hk, hL, q0, hn, _ =>
        have wa := wd8 ok.one (by have : dep (.one .half a) = dep a + 1 := rfl; omega)
        refine ⟨_, rfl, p, _, 0, _, rfl, rfl, hp, at0, rfl, _, rfl, iteN (show decide (V.str T1.half.tag = V.str "pair") = false by decide +kernel) ?_⟩
        refine ⟨_, rfl, p, _, 0, _, rfl, rfl, hp, at0, rfl, _, rfl, iteN (show decide (V.str T1.half.tag = V.str "box") = false by decide +kernel) ?_⟩
        refine ⟨_, rfl, p, _, 0, _, rfl, rfl, hp, at0, rfl, _, rfl, iteB (show decide (V.str T1.half.tag = V.str "half") = true by decide +kernel) ?_⟩
        refine ⟨_, rfl, L, _, 0, _, rfl, rfl, hL, at0, addS q_half (q_ws a) ?_ ?_⟩
        · simp only [List.length_append, List.length_cons, List.length_nil]; omega
        exact q0
      | .one .mix a, ok, _, hp, hk, hL, q0, hn, _ =>
        have wa := wd8 ok.one (by have : dep (.one .mix a) = dep a + 1 := rfl; omega)
        refine ⟨_, rfl, p, _, 0, _, rfl, rfl, hp, at0, rfl, _, rfl, iteN (show decide (V.str T1.mix.tag = V.str "pair") = false by decide +kernel) ?_⟩
        refine ⟨_, rfl, p, _, 0, _, rfl, rfl, hp, at0, rfl, _, rfl, iteN (show decide (V.str T1.mix.tag = V.str "box") = false by decide +kernel) ?_⟩
        refine ⟨_, rfl, p, _, 0, _, rfl, rfl, hp, at0, rfl, _, rfl, iteN (show decide (V.str T1.mix.tag = V.str "half") = false by decide +kernel) ?_⟩
        refine ⟨_, rfl, p, _, 0, _, rfl, rfl, hp, at0, rfl, _, rfl, iteN (show decide (V.str T1.mix.tag = V.str "shut") = false by decide +kernel) ?_⟩
        refine ⟨_, rfl, p, _, 0, _, rfl, rfl, hp, at0, rfl, _, rfl, iteN (show decide (V.str T1.mix.tag = V.str "mark") = false by decide +kernel) ?_⟩
        refine ⟨_, rfl, L, _, 0, _, rfl, rfl, hL, at0, addS q_mix (q_ws a) ?_ ?_⟩
        · simp only [List.length_append, List.length_cons, List.length_nil]; omega
        refine addC rfl q_rpar ?_ ?_
        · simp only [List.length_append, List.length_cons, List.length_nil]; omega
        refine (show mks _ = ws (.one .mix a) from ?_) ▸ q0
        unfold ws
        simp only [wd, List.append_assoc]
theorem ok_spelled (D : At K mg "spelled" s_spelled ["term"]) (B : Bt mg) (C : Cs K w mg aN aL) : ∀ n, n ≤ 8 → Def P w K mg base n "spelled" ["term"] (spSpelled K n)
  | 0, _ => D.no fun vs H Q E h => by
      obtain ⟨v, t, _, _, _, h, _⟩ := h
      have := dep_pos t
      omega
  | n + 1, h => ok_spelled_succ h D B C (ok_spelled D B C n (by omega))
def spWorded (K : PySem.W.Frag) : Sp := fun vs H Q _ => ∃ v t, vs = [v] ∧ TmIn K H v t ∧ Ok t ∧ dep t ≤ 5 ∧ ∀ H', Same H H' → Q (.str (ws t)) H'
theorem ok_worded (D : At K mg "worded" s_worded ["term"]) (D_check_term : Def P w K mg base 10 "check_term" ["term"] (spChk K 5)) (D_spelled : Def P w K mg base 8 "spelled" ["term"] (spSpelled K 8)) : Def P w K mg base 11 "worded" ["term"] (spWorded K) := by
  refine D.ok sc_worded (fun vs H Q E h => ?_) (fun f cdv A outer s H vs Q E hr h => ?_)
  · obtain ⟨v, t, rfl, _⟩ := h
    rfl
  obtain ⟨v, t, rfl, ht, ok, hn, q⟩ := h
  refine ⟨_, (pss_cons (ps_expr (pe_def D_check_term (hr.mono (by omega)) (pa_cons (pv 0) pa_nil)))
    (pss_one (ps_ret (pe_def D_spelled (hr.mono (by omega)) (pa_cons (pv 0) pa_nil))))), ?_⟩
  refine ⟨_, rfl, v, t, rfl, ht, ok, hn, fun H1 e1 => ?_⟩
  exact ⟨_, rfl, v, t, rfl, ht.same e1, ok, by omega, fun H2 e2 => q _ (e1.trans e2)⟩
end
end K6

set_option Elab.async false
set_option linter.all false
set_option maxRecDepth 100000
set_option maxHeartbeats 8000000
/-! places in a text -/
namespace K6
open PySem PySem.Spec PyProof.Rows L2
/-- from place i on the text z goes on with r -/
def Sf (z : Str) (i : Nat) (r : List Nat) : Prop := ∃ p, cl z = p ++ r ∧ p.length = i
theorem Sf.zero (l : List Nat) : Sf (mks l) 0 l := ⟨[], rfl, rfl⟩
theorem Sf.step {z : Str} {i : Nat} {a r : List Nat} (h : Sf z i (a ++ r)) : Sf z (i + a.length) r := by
  obtain ⟨p, h, rfl⟩ := h
  exact ⟨p ++ a, by rw [h, List.append_assoc], by rw [List.length_append]⟩
theorem Sf.len {z : Str} {i : Nat} {r : List Nat} (h : Sf z i r) : z.length = i + r.length := by
  obtain ⟨p, h, rfl⟩ := h
  rw [len_cl, h, List.length_append]
theorem Sf.drop {z : Str} {i : Nat} {r : List Nat} (h : Sf z i r) : (cl z).drop i = r := by
  obtain ⟨p, h, rfl⟩ := h
  rw [h, List.drop_left]
theorem Sf.cut {z : Str} {i j : Nat} {a r : List Nat} (h : Sf z i (a ++ r)) (hj : j = i + a.length) : cutS z (some (i : Int)) (some (j : Int)) = mks a := by
  have hl := h.len
  rw [List.length_append] at hl
  unfold cutS
  rw [HT.sIx_nat, HT.sIx_nat, Nat.min_eq_left (by omega), Nat.min_eq_left (by omega), h.drop]
  have : j - i = a.length := by omega
  rw [this, List.take_left]
  rfl
theorem Sf.at {z : Str} {i : Nat} {c : Nat} {r : List Nat} (h : Sf z i (c :: r)) : atI z.cps.toList (i : Int) = some c := by
  obtain ⟨p, h, rfl⟩ := h
  refine atI_nat (j := p.length) ?_
  show (cl z)[p.length]? = some c
  rw [h, List.getElem?_append_right (Nat.le_refl _), Nat.sub_self]
  rfl
theorem fromI (n i : Nat) : fromIndex n (i : Int) = i := by
  unfold fromIndex
  rw [if_neg (by omega)]
  omega
theorem Sf.sw {z b : Str} {i : Nat} {r : List Nat} (h : Sf z i r) : Txt.startswith3 z b (i : Int) = (r.take (cl b).length == cl b) := by
  have hl := h.len
  unfold Txt.startswith3
  rw [fromI]
  have e : Builtin.Str.subAt z b i = (r.take (cl b).length == cl b) := by
    rw [PySem.StrLaws.subAt_eq]
    show (((cl z).drop i).take b.length == cl b) = _
    rw [h.drop, len_cl]
  rw [e]
  by_cases c : (r.take (cl b).length == cl b) = true
  · rw [c, Bool.and_true]
    refine decide_eq_true ?_
    have e1 := congrArg List.length (eq_of_beq c)
    rw [List.length_take] at e1
    have := len_cl b
    omega
  · rw [Bool.not_eq_true] at c
    rw [c, Bool.and_false]
theorem Sf.yes {z b : Str} {i : Nat} {a r : List Nat} (h : Sf z i (a ++ r)) (hb : b = mks a) : Txt.startswith3 z b (i : Int) = true := by
  subst hb
  rw [h.sw]
  show ((a ++ r).take a.length == a) = true
  rw [List.take_left]
  exact beq_self_eq_true a
theorem Sf.no {z b : Str} {i : Nat} {r : List Nat} (h : Sf z i r) (a : List Nat) (hb : b = mks a) (hn : ∀ q, r ≠ a ++ q) : Txt.startswith3 z b (i : Int) = false := by
  subst hb
  rw [h.sw]
  show (r.take a.length == a) = false
  refine beq_eq_false_iff_ne.mpr fun e => hn (r.drop a.length) ?_
  have q := List.take_append_drop a.length r
  rw [e] at q
  exact q.symm
theorem Sf.no1 {z b : Str} {i c d : Nat} {r : List Nat} (h : Sf z i (c :: r)) (hb : b = mks [d]) (hn : c ≠ d) : Txt.startswith3 z b (i : Int) = false :=
  h.no [d] hb fun q e => hn (List.cons.inj e).1
/-- what follows a wording is not '(' and not ' ' without ' & ' -/
theorem Fol.no40 {r : List Nat} (h : Fol r) (q : List Nat) : r ≠ [40] ++ q := by
  rintro rfl
  rcases h with h | ⟨c, q', h, hc⟩
  · cases h
  · have e : 40 = c := (List.cons.inj h).1
    subst e
    omega
theorem Fol.amp {r : List Nat} (h : Fol r) {q : List Nat} (e : r = [32] ++ q) : ∃ q', r = [32, 38, 32] ++ q' := by
  subst e
  rcases h with h | ⟨c, q', h, hc⟩
  · cases h
  · obtain ⟨e, e2⟩ := List.cons.inj h
    subst e
    rcases hc with hc | hc | hc | hc | hc | ⟨_, q2, hc⟩
    · omega
    · omega
    · omega
    · omega
    · omega
    · have e2 : q = q' := e2
      exact ⟨q2, by rw [e2, hc]; rfl⟩
theorem nm_cons {s : Str} (h : IsNm s) : ∃ c q, cl s = c :: q ∧ Let c := nm_head h
end K6

set_option Elab.async false
set_option linter.all false
set_option maxRecDepth 100000
set_option maxHeartbeats 8000000
/-! wordings.py: word_end, leaf_at, behind -/
namespace K6
open PySem PySem.Spec PyProof.Rows L2
theorem nm_let {s : Str} (h : IsNm s) : ∀ c ∈ cl s, Let c := h.all
theorem two_small {α : Type} {a b : α} : ([a, b] : List α).length ≤ sizeLine := small_of (by show 2 ≤ 1000000; decide)
theorem three_small {α : Type} {a b c : α} : ([a, b, c] : List α).length ≤ sizeLine := small_of (by show 3 ≤ 1000000; decide)
theorem one_str (c : Nat) : mks [c] = ⟨#[c]⟩ := rfl
abbrev s_word_end : Stmt := top 39
abbrev N_word_end : List Str := ["text", "at"]
theorem sc_word_end : FnScope N_word_end ["text", "at"] (defScope s_word_end) := ⟨rfl, rfl, rfl, by decide +kernel, rfl, by decide +kernel, by decide +kernel⟩
abbrev s_leaf_at : Stmt := top 40
abbrev N_leaf_at : List Str := ["text", "at", "first", "end"]
theorem sc_leaf_at : FnScope N_leaf_at ["text", "at"] (defScope s_leaf_at) := ⟨rfl, rfl, rfl, by decide +kernel, rfl, by decide +kernel, by decide +kernel⟩
abbrev s_behind : Stmt := top 41
abbrev N_behind : List Str := ["text", "found", "mark"]
theorem sc_behind : FnScope N_behind ["text", "found", "mark"] (defScope s_behind) := ⟨rfl, rfl, rfl, by decide +kernel, rfl, by decide +kernel, by decide +kernel⟩
def spWordEnd : Sp := fun vs H Q _ => ∃ (z : Str) (i : Nat) (a r : List Nat), vs = [.str z, .int (i : Int)] ∧ Sf z i (a ++ r) ∧ (∀ c ∈ a, Let c) ∧ NoLet r ∧ z.length ≤ 10000 ∧ Q (.int ((i + a.length : Nat) : Int)) H
def spLeafAt (K : PySem.W.Frag) : Sp := fun vs H Q _ => ∃ (z : Str) (i : Nat) (s : Str) (r : List Nat), vs = [.str z, .int (i : Int)] ∧ IsNm s ∧ Sf z i (cl s ++ r) ∧ NoLet r ∧ z.length ≤ 10000 ∧ ∀ H' p, Same H H' → H' p = some (.tup [.str s, .int ((i + (cl s).length : Nat) : Int)]) → Q (.ref p) H'
def spBehind (K : PySem.W.Frag) : Sp := fun vs H Q _ => ∃ (z : Str) (i : Nat) (v : V) (p : Addr) (m : Str) (a r : List Nat), vs = [.str z, .ref p, .str m] ∧ m = mks a ∧ SqT K H p [v, .int (i : Int)] ∧ Sf z i (a ++ r) ∧ z.length ≤ 10000 ∧ ∀ H' p', Same H H' → H' p' = some (.tup [v, .int ((i + a.length : Nat) : Int)]) → Q (.ref p') H'
section
variable {P : Program} {w : World} {K : PySem.W.Frag} {mg : Str → Option Value} {base : Heap} {aN aL : Addr}
theorem ok_word_end (D : At K mg "word_end" s_word_end ["text", "at"]) (B : Bt mg) (C : Cs K w mg aN aL) : Def P w K mg base 1 "word_end" ["text", "at"] spWordEnd := by
  refine D.ok sc_word_end (fun vs H Q E h => ?_) (fun f cdv A outer s H vs Q E hr h => ?_)
  · obtain ⟨z, i, a, r, rfl, _⟩ := h
    rfl
  obtain ⟨z, i, a, r, rfl, hs, ha, hN, hz, q⟩ := h
  refine ⟨_, (pss_cons (ps_while PassesOwn.never (PW.pt (pw_and (pt_cmpR op_lt (pv 1) (pe_b call_len_str B.len boot_ln (pa_cons (pv 0) pa_nil)) (nomark _)) (pw_and1 (pt_cmpR op_in_sign (pe_ix ix_str (pv 0) (pv 1) (fun _ _ => rfl)) (pe_cs C.small) (by rfl))))) (pss_one (ps_aug (i := 1) sc_word_end.nd rfl (Or.inl rfl) pe_int ip_add)))
    (pss_one (ps_ret (pv 1)))), ?_⟩
  refine ⟨fun m σ H' => H' = H ∧ ∃ (k : Nat) (b : List Nat), m = b.length ∧ σ = [some (.str z), some (.int (k : Int))] ∧ Sf z k (b ++ r) ∧ (∀ c ∈ b, Let c) ∧ k + b.length = i + a.length, ⟨_, rfl, i, a, rfl, rfl, hs, ha, rfl⟩, ?_⟩
  rintro m σ H' ⟨rfl, k, b, rfl, rfl, hk, hb, he⟩
  have hl := hk.len
  rw [List.length_append] at hl
  cases b with
  | cons c b =>
    rw [List.length_cons] at hl he
    refine ⟨_, rfl, _, rfl, z, rfl, small_of (by omega), _, _, rfl, rfl, _, rfl, iteDT (by omega) ?_⟩
    refine ⟨_, rfl, _, rfl, z, _, c, rfl, rfl, small_of (by omega), Sf.at (r := b ++ r) hk, c, _, rfl, rfl, _, rfl, ?_⟩
    refine iteB (decide_eq_true (mem_small.mpr (hb c List.mem_cons_self))) ?_
    refine ⟨_, fun σ' H' h => h, ?_⟩
    refine ⟨_, rfl, _, _, rfl, rfl, ?_⟩
    refine ⟨b.length, by rw [List.length_cons]; exact Nat.lt_succ_self _, rfl, k + 1, b, rfl, by rw [Int.natCast_succ]; rfl, Sf.step (a := [c]) hk, fun d hd => hb d (List.mem_cons_of_mem _ hd), by omega⟩
  | nil =>
    have he : k = i + a.length := he
    subst he
    have hk : Sf z (i + a.length) r := hk
    cases r with
    | nil =>
      refine ⟨_, rfl, _, rfl, z, rfl, small_of (by omega), _, _, rfl, rfl, _, rfl, iteDF (by simp at hl; omega) ?_⟩
      refine iteF ?_
      exact ⟨_, rfl, q⟩
    | cons c r =>
      rw [List.length_cons] at hl
      refine ⟨_, rfl, _, rfl, z, rfl, small_of (by omega), _, _, rfl, rfl, _, rfl, iteDT (by omega) ?_⟩
      refine ⟨_, rfl, _, rfl, z, _, c, rfl, rfl, small_of (by omega), Sf.at hk, c, _, rfl, rfl, _, rfl, ?_⟩
      refine iteN (decide_eq_false fun h => hN c r rfl (mem_small.mp h)) ?_
      exact ⟨_, rfl, q⟩
theorem ok_leaf_at (D : At K mg "leaf_at" s_leaf_at ["text", "at"]) (B : Bt mg) (C : Cs K w mg aN aL) (D_word_end : Def P w K mg base 1 "word_end" ["text", "at"] spWordEnd) (D_is_name : Def P w K mg base 1 "is_name" ["thing"] (spName K)) : Def P w K mg base 2 "leaf_at" ["text", "at"] (spLeafAt K) := by
  refine D.ok sc_leaf_at (fun vs H Q E h => ?_) (fun f cdv A outer s H vs Q E hr h => ?_)
  · obtain ⟨z, i, a, r, rfl, _⟩ := h
    rfl
  obtain ⟨z, i, x, r, rfl, hx, hs, hN, hz, q⟩ := h
  refine ⟨_, (pss_cons (ps_set (i := 2) sc_leaf_at.nd rfl (Or.inl rfl) (pe_op op_add (pv 1) (pe_t call_int1 B.int boot_ty_int (pa_cons (pe_cmpR op_eq (pe_slice sl_str (pv 0) (po_some (pv 1)) (po_some (pe_op op_add (pv 1) pe_int))) pe_str (nomark _)) pa_nil))))
    (pss_cons (ps_set (i := 3) sc_leaf_at.nd rfl (Or.inl rfl) (pe_def D_word_end (hr.mono (by omega)) (pa_cons (pv 0) (pa_cons (pv 2) pa_nil))))
    (pss_cons (ps_if (pt_not (pt_val (pe_def D_is_name (hr.mono (by omega)) (pa_cons (pe_slice sl_str (pv 0) (po_some (pv 2)) (po_some (pv 3))) pa_nil)))) (pss_one (ps_ret pe_non)) pss_nil)
    (pss_one (ps_ret (pe_tup (pa_cons (pe_ifExp (pt_cmpR op_eq (pv 2) (pv 1) (nomark _)) (pe_slice sl_str (pv 0) (po_some (pv 1)) (po_some (pv 3))) (pe_tup (pa_cons (pe_cs C.var) (pa_cons (pe_slice sl_str (pv 0) (po_some (pv 2)) (po_some (pv 3))) pa_nil)))) (pa_cons (pv 3) pa_nil)))))))), ?_⟩
  obtain ⟨c, y, ex, hc⟩ := nm_cons hx
  have hzs : z.length ≤ sizeLine := small_of (by omega)
  have ec : cutS z (some (i : Int)) (some ((i : Int) + 1)) = mks [c] := Sf.cut (a := [c]) (r := y ++ r) (by rw [ex] at hs; exact hs) rfl
  have eq : decide (V.str (mks [c]) = V.str "?") = false := decide_eq_false fun e => by
    have e1 : mks [c] = "?" := V.str.inj e
    have e2 : cl ("?" : Str) = [63] := by decide +kernel
    have e3 := congrArg cl e1
    rw [cl_mks, e2] at e3
    have := (List.cons.inj e3).1
    unfold Let at hc
    omega
  refine ⟨_, rfl, _, rfl, _, rfl, _, rfl, _, rfl, _, _, rfl, rfl, _, rfl, z, rfl, hzs, rfl, ?_⟩
  rw [ec, eq]
  refine .inr ⟨false, rfl, _, _, rfl, rfl, ?_⟩
  simp only [Bool.false_eq_true, if_false, Int.add_zero]
  have es : cutS z (some (i : Int)) (some ((i + (cl x).length : Nat) : Int)) = x := (hs.cut rfl).trans (mks_cl x)
  refine ⟨_, rfl, _, rfl, z, i, cl x, r, rfl, hs, nm_let hx, hN, hz, ?_⟩
  refine ⟨_, rfl, _, rfl, _, rfl, _, rfl, _, rfl, z, rfl, hzs, _, true, rfl, by rw [es]; exact .inl ⟨x, rfl, hx, rfl⟩, fun H1 e1 => ⟨_, rfl, iteF ?_⟩⟩
  refine ⟨_, rfl, _, rfl, rfl, _, rfl, iteB (decide_eq_true rfl) ?_⟩
  refine ⟨_, rfl, _, rfl, _, rfl, _, rfl, _, rfl, z, rfl, hzs, ?_⟩
  rw [es]
  exact ⟨_, rfl, two_small, fun p np => q _ p (e1.trans (same_new np _)) upd_same⟩
theorem ok_behind (D : At K mg "behind" s_behind ["text", "found", "mark"]) (B : Bt mg) : Def P w K mg base 1 "behind" ["text", "found", "mark"] (spBehind K) := by
  refine D.ok sc_behind (fun vs H Q E h => ?_) (fun f cdv A outer s H vs Q E hr h => ?_)
  · obtain ⟨z, i, v, p, m, a, r, rfl, _⟩ := h
    rfl
  obtain ⟨z, i, v, p, m, a, r, rfl, rfl, hp, hs, hz, q⟩ := h
  refine ⟨_, (pss_cons (ps_if (PW.pt (pw_or (pt_cmpR op_isN (pv 1) pe_non (nomark _)) (pw_or1 (pt_not (pt_val (pe_bm PySem.F.plainAttrs_str PySem.F.slot_str_startswith PySem.F.type_str_startswith mt_startswith3 (pv 0) (pa_cons (pv 2) (pa_cons (pe_ix (ixT K) (pv 1) pe_int (fun _ _ => rfl)) pa_nil)))))))) (pss_one (ps_ret pe_non)) pss_nil)
    (pss_one (ps_ret (pe_tup (pa_cons (pe_ix (ixT K) (pv 1) pe_int (fun _ _ => rfl)) (pa_cons (pe_op op_add (pe_ix (ixT K) (pv 1) pe_int (fun _ _ => rfl)) (pe_b call_len_str B.len boot_ln (pa_cons (pv 2) pa_nil))) pa_nil)))))), ?_⟩
  refine ⟨_, rfl, rfl, _, rfl, iteF ?_⟩
  refine ⟨_, rfl, rfl, _, rfl, _, rfl, p, _, 1, _, rfl, rfl, hp, at1, z, _, _, rfl, rfl, ?_⟩
  rw [hs.yes rfl]
  refine ⟨_, rfl, iteF ?_⟩
  refine ⟨_, rfl, p, _, 0, _, rfl, rfl, hp, at0, _, rfl, p, _, 1, _, rfl, rfl, hp, at1, _, rfl, _, rfl, small_of ?_, _, _, rfl, rfl, two_small, fun r nr => q _ r (same_new nr _) ?_⟩
  · have := hs.len
    rw [List.length_append] at this
    rw [len_mks]
    omega
  · rw [upd_same, len_mks]
    rfl
end
end K6

set_option Elab.async false
set_option linter.all false
set_option maxRecDepth 100000
set_option maxHeartbeats 8000000
/-! wordings.py: round_at, box_at, shut_at, word_at, term_at -/
namespace K6
open PySem PySem.Spec PyProof.Rows L2
theorem amp_len : (" & " : Str).length = 3 := by decide +kernel
theorem sw_let {s : Str} (h : IsNm s) {d : Nat} (hd : ¬ Let d) {b : Str} (hb : b = mks [d]) {z : Str} {i : Nat} {r : List Nat} (hs : Sf z i (cl s ++ r)) : Txt.startswith3 z b (i : Int) = false := by
  obtain ⟨c, y, ex, hc⟩ := nm_head h
  rw [ex] at hs
  exact hs.no1 (c := c) hb fun e => hd (e ▸ hc)
abbrev s_round_at : Stmt := top 42
abbrev N_round_at : List Str := ["text", "at", "room", "first", "second"]
theorem sc_round_at : FnScope N_round_at ["text", "at", "room"] (defScope s_round_at) := ⟨rfl, rfl, rfl, by decide +kernel, rfl, by decide +kernel, by decide +kernel⟩
abbrev s_box_at : Stmt := top 43
abbrev N_box_at : List Str := ["text", "at", "room", "first", "second"]
theorem sc_box_at : FnScope N_box_at ["text", "at", "room"] (defScope s_box_at) := ⟨rfl, rfl, rfl, by decide +kernel, rfl, by decide +kernel, by decide +kernel⟩
abbrev s_shut_at : Stmt := top 44
abbrev N_shut_at : List Str := ["text", "at", "room", "first", "second"]
theorem sc_shut_at : FnScope N_shut_at ["text", "at", "room"] (defScope s_shut_at) := ⟨rfl, rfl, rfl, by decide +kernel, rfl, by decide +kernel, by decide +kernel⟩
abbrev s_word_at : Stmt := top 45
abbrev N_word_at : List Str := ["text", "at", "room", "end", "found"]
theorem sc_word_at : FnScope N_word_at ["text", "at", "room"] (defScope s_word_at) := ⟨rfl, rfl, rfl, by decide +kernel, rfl, by decide +kernel, by decide +kernel⟩
abbrev s_term_at : Stmt := top 46
abbrev N_term_at : List Str := ["text", "at", "room"]
theorem sc_term_at : FnScope N_term_at ["text", "at", "room"] (defScope s_term_at) := ⟨rfl, rfl, rfl, by decide +kernel, rfl, by decide +kernel, by decide +kernel⟩
/-- at place i of z stands t's wording, and r behind it; there is room for t -/
structure Rt (z : Str) (i : Nat) (t : Tm) (r : List Nat) (n : Nat) (room : Int) : Prop where
  ok : Ok t
  dp : dep t ≤ n
  rm : (dep t : Int) ≤ room
  sf : Sf z i (wd t ++ r)
  fo : Fol r
  sz : z.length ≤ 10000
def spRead (K : PySem.W.Frag) (n : Nat) (u : Int) (S : Tm → Prop) : Sp := fun vs H Q _ => ∃ (z : Str) (i : Nat) (room : Int) (t : Tm) (r : List Nat), vs = [.str z, .int (i : Int), .int room] ∧ S t ∧ Rt z i t r n (room + u) ∧
  ∀ H' p v, Same H H' → H' p = some (.tup [v, .int ((i + (wd t).length : Nat) : Int)]) → TmIn K H' v t → Q (.ref p) H'
def isR : Tm → Prop
  | .two .pair _ _ => True
  | .two .mark _ _ => True
  | _ => False
def isB : Tm → Prop
  | .two .box _ _ => True
  | _ => False
def isS : Tm → Prop
  | .two .shut _ _ => True
  | _ => False
def isW : Tm → Prop
  | .nm _ => True
  | .one _ _ => True
  | _ => False
theorem d2a (k : T2) (a b : Tm) : dep a + 1 ≤ dep (.two k a b) := by
  have : dep (.two k a b) = max (dep a) (dep b) + 1 := rfl
  omega
theorem d2b (k : T2) (a b : Tm) : dep b + 1 ≤ dep (.two k a b) := by
  have : dep (.two k a b) = max (dep a) (dep b) + 1 := rfl
  omega
theorem d1 (k : T1) (a : Tm) : dep a + 1 = dep (.one k a) := rfl
section
variable {P : Program} {w : World} {K : PySem.W.Frag} {mg : Str → Option Value} {base : Heap} {aN aL : Addr}
theorem ok_round_at {n : Nat} (D : At K mg "round_at" s_round_at ["text", "at", "room"]) (B : Bt mg) (C : Cs K w mg aN aL) (D_term_at : Def P w K mg base (2 * n + 3) "term_at" ["text", "at", "room"] (spRead K n 0 fun _ => True))
    (D_behind : Def P w K mg base 1 "behind" ["text", "found", "mark"] (spBehind K)) (D_leaf_at : Def P w K mg base 2 "leaf_at" ["text", "at"] (spLeafAt K)) : Def P w K mg base (2 * n + 4) "round_at" ["text", "at", "room"] (spRead K (n + 1) 1 isR) := by
  refine D.ok sc_round_at (fun vs H Q E h => ?_) (fun f cdv A outer s H vs Q E hr h => ?_)
  · obtain ⟨z, i, room, t, r, rfl, _⟩ := h
    rfl
  obtain ⟨z, i, room, t, r, rfl, hS, hR, q⟩ := h
  refine ⟨_, (pss_cons (ps_set (i := 3) sc_round_at.nd rfl (Or.inl rfl) (pe_def D_term_at (hr.mono (by omega)) (pa_cons (pv 0) (pa_cons (pe_op op_add (pv 1) pe_int) (pa_cons (pv 2) pa_nil)))))
    (pss_cons (ps_if (pt_cmpR op_isN (pv 3) pe_non (nomark _)) (pss_one (ps_ret pe_non)) pss_nil)
    (pss_cons (ps_if (pt_val (pe_bm PySem.F.plainAttrs_str PySem.F.slot_str_startswith PySem.F.type_str_startswith mt_startswith3 (pv 0) (pa_cons (pe_cs C.amp) (pa_cons (pe_ix (ixT K) (pv 3) pe_int (fun _ _ => rfl)) pa_nil)))) (pss_cons (ps_set (i := 4) sc_round_at.nd rfl (Or.inl rfl) (pe_def D_behind (hr.mono (by omega)) (pa_cons (pv 0) (pa_cons (pe_def D_term_at (hr.mono (by omega)) (pa_cons (pv 0) (pa_cons (pe_op op_add (pe_ix (ixT K) (pv 3) pe_int (fun _ _ => rfl)) (pe_b call_len_str B.len boot_ln (pa_cons (pe_cs C.amp) pa_nil))) (pa_cons (pv 2) pa_nil)))) (pa_cons pe_str pa_nil)))))
     (pss_one (ps_ret (pe_ifExp (pt_cmpR op_isN (pv 4) pe_non (nomark _)) pe_non (pe_tup (pa_cons (pe_tup (pa_cons (pe_cs C.pair) (pa_cons (pe_ix (ixT K) (pv 3) pe_int (fun _ _ => rfl)) (pa_cons (pe_ix (ixT K) (pv 4) pe_int (fun _ _ => rfl)) pa_nil)))) (pa_cons (pe_ix (ixT K) (pv 4) pe_int (fun _ _ => rfl)) pa_nil))))))) pss_nil)
    (pss_cons (ps_if (pt_not (pt_val (pe_bm PySem.F.plainAttrs_str PySem.F.slot_str_startswith PySem.F.type_str_startswith mt_startswith3 (pv 0) (pa_cons pe_str (pa_cons (pe_ix (ixT K) (pv 3) pe_int (fun _ _ => rfl)) pa_nil))))) (pss_one (ps_ret pe_non)) pss_nil)
    (pss_cons (ps_set (i := 4) sc_round_at.nd rfl (Or.inl rfl) (pe_def D_behind (hr.mono (by omega)) (pa_cons (pv 0) (pa_cons (pe_def D_leaf_at (hr.mono (by omega)) (pa_cons (pv 0) (pa_cons (pe_op op_add (pe_ix (ixT K) (pv 3) pe_int (fun _ _ => rfl)) pe_int) pa_nil))) (pa_cons pe_str pa_nil)))))
    (pss_one (ps_ret (pe_ifExp (pt_cmpR op_isN (pv 4) pe_non (nomark _)) pe_non (pe_tup (pa_cons (pe_tup (pa_cons (pe_cs C.mark) (pa_cons (pe_ix (ixT K) (pv 4) pe_int (fun _ _ => rfl)) (pa_cons (pe_ix (ixT K) (pv 3) pe_int (fun _ _ => rfl)) pa_nil)))) (pa_cons (pe_ix (ixT K) (pv 4) pe_int (fun _ _ => rfl)) pa_nil))))))))))), ?_⟩
  obtain ⟨ok, dp, rm, sf, fo, sz⟩ := hR
  match t, hS, ok, dp, rm, sf, q with
  | .two .pair a b, _, ok, dp, rm, sf, q =>
    have da := d2a .pair a b
    have db := d2b .pair a b
    simp only [wd, List.append_assoc] at sf
    have s1 := sf.step
    have s2 := s1.step
    have s3 := s2.step
    have s4 := s3.step
    refine ⟨_, rfl, _, rfl, _, _, rfl, rfl, _, rfl, z, i + [40].length, room, a, _, rfl, trivial, ⟨ok.fst, by omega, by omega, s1, fol_and, sz⟩, fun H1 p1 v1 e1 h1 t1 => ?_⟩
    refine ⟨_, rfl, rfl, _, rfl, iteF ?_⟩
    refine ⟨_, rfl, rfl, _, rfl, p1, _, 1, _, rfl, rfl, SqT.of h1, at1, z, _, _, rfl, rfl, ?_⟩
    rw [Sf.yes s2 q_amp]
    refine ⟨_, rfl, iteT ?_⟩
    refine ⟨_, rfl, _, rfl, _, rfl, p1, _, 1, _, rfl, rfl, SqT.of h1, at1, _, rfl, small_of (by rw [amp_len]; decide), ?_⟩
    rw [amp_len]
    refine ⟨_, _, rfl, rfl, _, rfl, z, _, room, b, _, rfl, trivial, ⟨ok.snd, by omega, by omega, s3, fol_cons (.inl rfl), sz⟩, fun H2 p2 v2 e2 h2 t2 => ?_⟩
    refine ⟨z, _, v2, p2, _, [41], r, rfl, q_rpar, SqT.of h2, s4, sz, fun H3 p3 e3 h3 => ?_⟩
    have h1 := (e2.trans e3) _ _ h1
    refine ⟨_, rfl, rfl, _, rfl, iteF ?_⟩
    refine ⟨_, rfl, p1, _, 0, _, rfl, rfl, SqT.of h1, at0, _, rfl, p3, _, 0, _, rfl, rfl, SqT.of h3, at0, three_small, fun o no => ?_⟩
    have e4 := same_new no (.tup [.str "pair", v1, v2])
    refine ⟨_, rfl, p3, _, 1, _, rfl, rfl, SqT.of (e4 _ _ h3), at1, two_small, fun m nm => ?_⟩
    have e5 := same_new nm (.tup [.ref o, .int ((i + [40].length + (wd a).length + [32, 38, 32].length + (wd b).length + [41].length : Nat) : Int)])
    have e35 := e3.trans (e4.trans e5)
    refine q _ m (.ref o) (e1.trans (e2.trans e35)) ?_ (.two (SqT.of (e5 _ _ upd_same)) (t1.same (e2.trans e35)) (t2.same e35))
    have el : i + [40].length + (wd a).length + [32, 38, 32].length + (wd b).length + [41].length = i + (wd (.two .pair a b)).length := by
      simp only [wd, List.length_append]
      omega
    rw [← el]
    exact upd_same
  | .two .mark a b, _, ok, dp, rm, sf, q =>
    have da := d2a .mark a b
    have db := d2b .mark a b
    obtain ⟨x, rfl⟩ := isN_iff ok.1
    simp only [wd, List.append_assoc] at sf
    have s1 := sf.step
    have s2 := s1.step
    have s3 := s2.step
    have s4 := s3.step
    refine ⟨_, rfl, _, rfl, _, _, rfl, rfl, _, rfl, z, i + [40].length, room, b, _, rfl, trivial, ⟨ok.snd, by omega, by omega, s1, fol_cons (by decide), sz⟩, fun H1 p1 v1 e1 h1 t1 => ?_⟩
    refine ⟨_, rfl, rfl, _, rfl, iteF ?_⟩
    refine ⟨_, rfl, rfl, _, rfl, p1, _, 1, _, rfl, rfl, SqT.of h1, at1, z, _, _, rfl, rfl, ?_⟩
    rw [s2.no [32, 38, 32] q_amp fun q e => by cases e]
    refine ⟨_, rfl, iteF ?_⟩
    refine ⟨_, rfl, rfl, _, rfl, p1, _, 1, _, rfl, rfl, SqT.of h1, at1, z, _, _, rfl, rfl, ?_⟩
    rw [Sf.yes s2 q_bang]
    refine ⟨_, rfl, iteF ?_⟩
    refine ⟨_, rfl, _, rfl, _, rfl, p1, _, 1, _, rfl, rfl, SqT.of h1, at1, _, _, rfl, rfl, z, _, x, _, rfl, ok.2.1, s3, noLet_cons (by unfold Let; omega), sz, fun H2 p2 e2 h2 => ?_⟩
    refine ⟨z, _, .str x, p2, _, [41], r, rfl, q_rpar, SqT.of h2, s4, sz, fun H3 p3 e3 h3 => ?_⟩
    have h1 := (e2.trans e3) _ _ h1
    refine ⟨_, rfl, rfl, _, rfl, iteF ?_⟩
    refine ⟨_, rfl, p3, _, 0, _, rfl, rfl, SqT.of h3, at0, _, rfl, p1, _, 0, _, rfl, rfl, SqT.of h1, at0, three_small, fun o no => ?_⟩
    have e4 := same_new no (.tup [.str "mark", .str x, v1])
    refine ⟨_, rfl, p3, _, 1, _, rfl, rfl, SqT.of (e4 _ _ h3), at1, two_small, fun m nm => ?_⟩
    have e5 := same_new nm (.tup [.ref o, .int ((i + [40].length + (wd b).length + [33].length + (cl x).length + [41].length : Nat) : Int)])
    have e35 := e3.trans (e4.trans e5)
    refine q _ m (.ref o) (e1.trans (e2.trans e35)) ?_ (.two (SqT.of (e5 _ _ upd_same)) (.nm x) (t1.same (e2.trans e35)))
    have el : i + [40].length + (wd b).length + [33].length + (cl x).length + [41].length = i + (wd (.two .mark (.nm x) b)).length := by
      simp only [wd, List.length_append]
      omega
    rw [← el]
    exact upd_same
theorem ok_box_at {n : Nat} (D : At K mg "box_at" s_box_at ["text", "at", "room"]) (B : Bt mg) (C : Cs K w mg aN aL) (D_term_at : Def P w K mg base (2 * n + 3) "term_at" ["text", "at", "room"] (spRead K n 0 fun _ => True))
    (D_behind : Def P w K mg base 1 "behind" ["text", "found", "mark"] (spBehind K)) (D_leaf_at : Def P w K mg base 2 "leaf_at" ["text", "at"] (spLeafAt K)) : Def P w K mg base (2 * n + 4) "box_at" ["text", "at", "room"] (spRead K (n + 1) 1 isB) := by
  refine D.ok sc_box_at (fun vs H Q E h => ?_) (fun f cdv A outer s H vs Q E hr h => ?_)
  · obtain ⟨z, i, room, t, r, rfl, _⟩ := h
    rfl
  obtain ⟨z, i, room, t, r, rfl, hS, hR, q⟩ := h
  refine ⟨_, (pss_cons (ps_set (i := 3) sc_box_at.nd rfl (Or.inl rfl) (pe_def D_behind (hr.mono (by omega)) (pa_cons (pv 0) (pa_cons (pe_def D_term_at (hr.mono (by omega)) (pa_cons (pv 0) (pa_cons (pe_op op_add (pv 1) pe_int) (pa_cons (pv 2) pa_nil)))) (pa_cons pe_str pa_nil)))))
    (pss_cons (ps_if (pt_cmpR op_isN (pv 3) pe_non (nomark _)) (pss_one (ps_ret pe_non)) pss_nil)
    (pss_cons (ps_if (pt_val (pe_bm PySem.F.plainAttrs_str PySem.F.slot_str_startswith PySem.F.type_str_startswith mt_startswith3 (pv 0) (pa_cons pe_str (pa_cons (pe_ix (ixT K) (pv 3) pe_int (fun _ _ => rfl)) pa_nil)))) (pss_one (ps_set (i := 4) sc_box_at.nd rfl (Or.inl rfl) (pe_def D_behind (hr.mono (by omega)) (pa_cons (pv 0) (pa_cons (pe_def D_term_at (hr.mono (by omega)) (pa_cons (pv 0) (pa_cons (pe_op op_add (pe_ix (ixT K) (pv 3) pe_int (fun _ _ => rfl)) pe_int) (pa_cons (pv 2) pa_nil)))) (pa_cons pe_str pa_nil)))))) (pss_one (ps_set (i := 4) sc_box_at.nd rfl (Or.inl rfl) (pe_def D_leaf_at (hr.mono (by omega)) (pa_cons (pv 0) (pa_cons (pe_ix (ixT K) (pv 3) pe_int (fun _ _ => rfl)) pa_nil))))))
    (pss_one (ps_ret (pe_ifExp (pt_cmpR op_isN (pv 4) pe_non (nomark _)) pe_non (pe_tup (pa_cons (pe_tup (pa_cons (pe_cs C.box) (pa_cons (pe_ix (ixT K) (pv 4) pe_int (fun _ _ => rfl)) (pa_cons (pe_ix (ixT K) (pv 3) pe_int (fun _ _ => rfl)) pa_nil)))) (pa_cons (pe_ix (ixT K) (pv 4) pe_int (fun _ _ => rfl)) pa_nil))))))))), ?_⟩
  obtain ⟨ok, dp, rm, sf, fo, sz⟩ := hR
  match t, hS, ok, dp, rm, sf, q with
  | .two .box a b, _, ok, dp, rm, sf, q =>
    have da := d2a .box a b
    have db := d2b .box a b
    simp only [wd, List.append_assoc] at sf
    have s1 := sf.step
    have s2 := s1.step
    have s3 := s2.step
    refine ⟨_, rfl, _, rfl, _, rfl, _, _, rfl, rfl, _, rfl, z, i + [91].length, room, b, _, rfl, trivial, ⟨ok.snd, by omega, by omega, s1, fol_cons (by decide), sz⟩, fun H1 p1 v1 e1 h1 t1 => ?_⟩
    refine ⟨z, _, v1, p1, _, [93], _, rfl, q_rbr, SqT.of h1, s2, sz, fun H2 p2 e2 h2 => ?_⟩
    refine ⟨_, rfl, rfl, _, rfl, iteF ?_⟩
    refine ⟨_, rfl, rfl, _, rfl, p2, _, 1, _, rfl, rfl, SqT.of h2, at1, z, _, _, rfl, rfl, ?_⟩
    cases hNa : isN a
    case' true =>
      obtain ⟨x, rfl⟩ := isN_iff hNa
      simp only [isN, if_true, wd] at s3
      rw [sw_let ok.1 (by unfold Let; omega) q_lt s3]
      refine ⟨_, rfl, iteF ?_⟩
      refine ⟨_, rfl, _, rfl, p2, _, 1, _, rfl, rfl, SqT.of h2, at1, z, _, x, r, rfl, ok.1, s3, fo.noLet, sz, fun H3 p3 e3 h3 => ?_⟩
      have t3 : TmIn K H3 (.str x) (.nm x) := .nm x
      generalize hv3 : V.str x = v3 at h3 t3
      have el : i + [91].length + (wd b).length + [93].length + (cl x).length = i + (wd (.two .box (.nm x) b)).length := by
        simp only [wd, isN, if_true, List.length_append]
        omega
    case' false =>
      rw [hNa] at s3
      simp only [Bool.false_eq_true, if_false, List.append_assoc] at s3
      have s4 := s3.step
      have s5 := s4.step
      rw [Sf.yes s3 q_lt]
      refine ⟨_, rfl, iteT ?_⟩
      refine ⟨_, rfl, _, rfl, _, rfl, p2, _, 1, _, rfl, rfl, SqT.of h2, at1, _, _, rfl, rfl, _, rfl, z, i + [91].length + (wd b).length + [93].length + [60].length, room, a, _, rfl, trivial, ⟨ok.fst, by omega, by omega, s4, fol_cons (by decide), sz⟩, fun H4 p4 v3 e4' h4 t4 => ?_⟩
      refine ⟨z, _, v3, p4, _, [62], r, rfl, q_gt, SqT.of h4, s5, sz, fun H3 p3 e3' h3 => ?_⟩
      have t3 : TmIn K H3 v3 a := t4.same e3'
      have e3 := e4'.trans e3'
      have el : i + [91].length + (wd b).length + [93].length + [60].length + (wd a).length + [62].length = i + (wd (.two .box a b)).length := by
        simp only [wd, hNa, Bool.false_eq_true, if_false, List.length_append]
        omega
    all_goals
      have h2 := e3 _ _ h2
      refine ⟨_, rfl, rfl, _, rfl, iteF ?_⟩
      refine ⟨_, rfl, p3, _, 0, _, rfl, rfl, SqT.of h3, at0, _, rfl, p2, _, 0, _, rfl, rfl, SqT.of h2, at0, three_small, fun o no => ?_⟩
      have e4 := same_new no (.tup [.str "box", v3, v1])
      refine ⟨_, rfl, p3, _, 1, _, rfl, rfl, SqT.of (e4 _ _ h3), at1, two_small, fun m nm => ?_⟩
      rw [el]
      have e5 := fun q => same_new nm q
      have e35 := fun q => e2.trans (e3.trans (e4.trans (e5 q)))
      refine q _ m (.ref o) (e1.trans (e35 _)) upd_same (.two (SqT.of (e5 _ _ _ upd_same)) (t3.same (e4.trans (e5 _))) (t1.same (e35 _)))
theorem ok_shut_at {n : Nat} (D : At K mg "shut_at" s_shut_at ["text", "at", "room"]) (B : Bt mg) (C : Cs K w mg aN aL) (D_term_at : Def P w K mg base (2 * n + 3) "term_at" ["text", "at", "room"] (spRead K n 0 fun _ => True))
    (D_behind : Def P w K mg base 1 "behind" ["text", "found", "mark"] (spBehind K)) (D_leaf_at : Def P w K mg base 2 "leaf_at" ["text", "at"] (spLeafAt K)) : Def P w K mg base (2 * n + 4) "shut_at" ["text", "at", "room"] (spRead K (n + 1) 1 isS) := by
  refine D.ok sc_shut_at (fun vs H Q E h => ?_) (fun f cdv A outer s H vs Q E hr h => ?_)
  · obtain ⟨z, i, room, t, r, rfl, _⟩ := h
    rfl
  obtain ⟨z, i, room, t, r, rfl, hS, hR, q⟩ := h
  refine ⟨_, (pss_cons (ps_set (i := 3) sc_shut_at.nd rfl (Or.inl rfl) (pe_def D_behind (hr.mono (by omega)) (pa_cons (pv 0) (pa_cons (pe_def D_term_at (hr.mono (by omega)) (pa_cons (pv 0) (pa_cons (pe_op op_add (pv 1) pe_int) (pa_cons (pv 2) pa_nil)))) (pa_cons pe_str pa_nil)))))
    (pss_cons (ps_if (pt_cmpR op_isN (pv 3) pe_non (nomark _)) (pss_one (ps_ret pe_non)) pss_nil)
    (pss_cons (ps_set (i := 4) sc_shut_at.nd rfl (Or.inl rfl) (pe_def D_leaf_at (hr.mono (by omega)) (pa_cons (pv 0) (pa_cons (pe_ix (ixT K) (pv 3) pe_int (fun _ _ => rfl)) pa_nil))))
    (pss_one (ps_ret (pe_ifExp (pt_cmpR op_isN (pv 4) pe_non (nomark _)) pe_non (pe_tup (pa_cons (pe_tup (pa_cons (pe_cs C.shut) (pa_cons (pe_ix (ixT K) (pv 4) pe_int (fun _ _ => rfl)) (pa_cons (pe_ix (ixT K) (pv 3) pe_int (fun _ _ => rfl)) pa_nil)))) (pa_cons (pe_ix (ixT K) (pv 4) pe_int (fun _ _ => rfl)) pa_nil))))))))), ?_⟩
  obtain ⟨ok, dp, rm, sf, fo, sz⟩ := hR
  match t, hS, ok, dp, rm, sf, q with
  | .two .shut a b, _, ok, dp, rm, sf, q =>
    have da := d2a .shut a b
    have db := d2b .shut a b
    obtain ⟨x, rfl⟩ := isN_iff ok.1
    simp only [wd, List.append_assoc] at sf
    have s1 := sf.step
    have s2 := s1.step
    have s3 := s2.step
    refine ⟨_, rfl, _, rfl, _, rfl, _, _, rfl, rfl, _, rfl, z, i + [123].length, room, b, _, rfl, trivial, ⟨ok.snd, by omega, by omega, s1, fol_cons (by decide), sz⟩, fun H1 p1 v1 e1 h1 t1 => ?_⟩
    refine ⟨z, _, v1, p1, _, [125], _, rfl, q_rcu, SqT.of h1, s2, sz, fun H2 p2 e2 h2 => ?_⟩
    refine ⟨_, rfl, rfl, _, rfl, iteF ?_⟩
    refine ⟨_, rfl, _, rfl, p2, _, 1, _, rfl, rfl, SqT.of h2, at1, z, _, x, r, rfl, ok.2.1, s3, fo.noLet, sz, fun H3 p3 e3 h3 => ?_⟩
    have h2 := e3 _ _ h2
    refine ⟨_, rfl, rfl, _, rfl, iteF ?_⟩
    refine ⟨_, rfl, p3, _, 0, _, rfl, rfl, SqT.of h3, at0, _, rfl, p2, _, 0, _, rfl, rfl, SqT.of h2, at0, three_small, fun o no => ?_⟩
    have e4 := same_new no (.tup [.str "shut", .str x, v1])
    refine ⟨_, rfl, p3, _, 1, _, rfl, rfl, SqT.of (e4 _ _ h3), at1, two_small, fun m nm => ?_⟩
    have e5 := same_new nm (.tup [.ref o, .int ((i + [123].length + (wd b).length + [125].length + (cl x).length : Nat) : Int)])
    have e35 := e2.trans (e3.trans (e4.trans e5))
    refine q _ m (.ref o) (e1.trans e35) ?_ (.two (SqT.of (e5 _ _ upd_same)) (.nm x) (t1.same e35))
    have el : i + [123].length + (wd b).length + [125].length + (cl x).length = i + (wd (.two .shut (.nm x) b)).length := by
      simp only [wd, List.length_append]
      omega
    rw [← el]
    exact upd_same
theorem ok_word_at {n : Nat} (D : At K mg "word_at" s_word_at ["text", "at", "room"]) (B : Bt mg) (C : Cs K w mg aN aL) (D_word_end : Def P w K mg base 1 "word_end" ["text", "at"] spWordEnd) (D_term_at : Def P w K mg base (2 * n + 3) "term_at" ["text", "at", "room"] (spRead K n 0 fun _ => True))
    (D_behind : Def P w K mg base 1 "behind" ["text", "found", "mark"] (spBehind K)) (D_leaf_at : Def P w K mg base 2 "leaf_at" ["text", "at"] (spLeafAt K)) : Def P w K mg base (2 * n + 4) "word_at" ["text", "at", "room"] (spRead K (n + 1) 1 isW) := by
  refine D.ok sc_word_at (fun vs H Q E h => ?_) (fun f cdv A outer s H vs Q E hr h => ?_)
  · obtain ⟨z, i, room, t, r, rfl, _⟩ := h
    rfl
  obtain ⟨z, i, room, t, r, rfl, hS, hR, q⟩ := h
  refine ⟨_, (pss_cons (ps_set (i := 3) sc_word_at.nd rfl (Or.inl rfl) (pe_def D_word_end (hr.mono (by omega)) (pa_cons (pv 0) (pa_cons (pv 1) pa_nil))))
    (pss_cons (ps_if (PW.pt (pw_and (pt_cmpR op_eq (pe_slice sl_str (pv 0) (po_some (pv 1)) (po_some (pv 3))) (pe_cs C.mix) (nomark _)) (pw_and1 (pt_val (pe_bm PySem.F.plainAttrs_str PySem.F.slot_str_startswith PySem.F.type_str_startswith mt_startswith3 (pv 0) (pa_cons pe_str (pa_cons (pv 3) pa_nil))))))) (pss_cons (ps_set (i := 4) sc_word_at.nd rfl (Or.inl rfl) (pe_def D_behind (hr.mono (by omega)) (pa_cons (pv 0) (pa_cons (pe_def D_term_at (hr.mono (by omega)) (pa_cons (pv 0) (pa_cons (pe_op op_add (pv 3) pe_int) (pa_cons (pv 2) pa_nil)))) (pa_cons pe_str pa_nil)))))
     (pss_one (ps_ret (pe_ifExp (pt_cmpR op_isN (pv 4) pe_non (nomark _)) pe_non (pe_tup (pa_cons (pe_tup (pa_cons (pe_cs C.mix) (pa_cons (pe_ix (ixT K) (pv 4) pe_int (fun _ _ => rfl)) pa_nil))) (pa_cons (pe_ix (ixT K) (pv 4) pe_int (fun _ _ => rfl)) pa_nil))))))) pss_nil)
    (pss_cons (ps_if (PW.pt (pw_and (pt_cmpR op_eq (pe_slice sl_str (pv 0) (po_some (pv 1)) (po_some (pv 3))) (pe_cs C.half) (nomark _)) (pw_and (pt_val (pe_bm PySem.F.plainAttrs_str PySem.F.slot_str_startswith PySem.F.type_str_startswith mt_startswith3 (pv 0) (pa_cons pe_str (pa_cons (pv 3) pa_nil)))) (pw_and1 (pt_not (pt_val (pe_bm PySem.F.plainAttrs_str PySem.F.slot_str_startswith PySem.F.type_str_startswith mt_startswith3 (pv 0) (pa_cons (pe_cs C.amp) (pa_cons (pv 3) pa_nil))))))))) (pss_cons (ps_set (i := 4) sc_word_at.nd rfl (Or.inl rfl) (pe_def D_leaf_at (hr.mono (by omega)) (pa_cons (pv 0) (pa_cons (pe_op op_add (pv 3) pe_int) pa_nil))))
     (pss_one (ps_ret (pe_ifExp (pt_cmpR op_isN (pv 4) pe_non (nomark _)) pe_non (pe_tup (pa_cons (pe_tup (pa_cons (pe_cs C.half) (pa_cons (pe_ix (ixT K) (pv 4) pe_int (fun _ _ => rfl)) pa_nil))) (pa_cons (pe_ix (ixT K) (pv 4) pe_int (fun _ _ => rfl)) pa_nil))))))) pss_nil)
    (pss_one (ps_ret (pe_def D_leaf_at (hr.mono (by omega)) (pa_cons (pv 0) (pa_cons (pv 1) pa_nil)))))))), ?_⟩
  obtain ⟨ok, dp, rm, sf, fo, sz⟩ := hR
  have hzs : z.length ≤ sizeLine := small_of (by omega)
  match t, hS, ok, dp, rm, sf, q with
  | .nm x, _, ok, dp, rm, sf, q =>
    have sf : Sf z i (cl x ++ r) := sf
    have s1 := sf.step
    have ex : cutS z (some (i : Int)) (some ((i + (cl x).length : Nat) : Int)) = x := (sf.cut rfl).trans (mks_cl x)
    refine ⟨_, rfl, _, rfl, z, i, cl x, r, rfl, sf, nm_let ok, fo.noLet, sz, ?_⟩
    refine ⟨_, rfl, _, rfl, _, rfl, _, rfl, _, rfl, z, rfl, hzs, rfl, ?_⟩
    rw [ex]
    refine ⟨_, rfl, ?_⟩
    cases decide (V.str x = V.str "mix")
    case' false => refine iteF (iteF ?_)
    case' true =>
      refine iteT ⟨_, rfl, rfl, _, rfl, z, _, _, rfl, rfl, ?_⟩
      rw [s1.no [40] q_lpar fo.no40]
      refine ⟨_, rfl, iteF ?_⟩
    all_goals
      refine ⟨_, rfl, _, rfl, _, rfl, _, rfl, _, rfl, z, rfl, hzs, rfl, ?_⟩
      rw [ex]
      refine ⟨_, rfl, ?_⟩
      cases decide (V.str x = V.str "half")
      case' false => refine iteF (iteF ?_)
      case' true =>
        refine iteT ⟨_, rfl, rfl, _, rfl, z, _, _, rfl, rfl, ?_⟩
        cases hsp : Txt.startswith3 z " " ((i + (cl x).length : Nat) : Int)
        case' false => refine ⟨_, rfl, iteF (iteF ?_)⟩
        case' true =>
          have hr2 : ∃ y, r = [32] ++ y := by
            rw [s1.sw] at hsp
            have e := eq_of_beq hsp
            have e2 : cl (" " : Str) = [32] := by decide +kernel
            rw [e2] at e
            refine ⟨r.drop 1, ?_⟩
            have := List.take_append_drop 1 r
            rw [← this]
            simp only [List.length_singleton] at e
            rw [e]
            rfl
          obtain ⟨y, hy⟩ := hr2
          obtain ⟨y2, hy2⟩ := fo.amp hy
          refine ⟨_, rfl, iteT ⟨_, rfl, rfl, _, rfl, z, _, _, rfl, rfl, ?_⟩⟩
          rw [hy2] at s1
          rw [Sf.yes s1 q_amp]
          refine ⟨_, rfl, iteF ?_⟩
      all_goals exact ⟨_, rfl, _, rfl, z, i, x, _, rfl, ok, sf, fo.noLet, sz, fun H2 p e2 h2 => q _ p _ e2 h2 (.nm x)⟩
  | .one .half a, _, ok, dp, rm, sf, q =>
    obtain ⟨x, rfl⟩ := isN_iff ok.1
    have sf : Sf z i ([104, 97, 108, 102] ++ ([32] ++ (cl x ++ r))) := sf
    have s1 := sf.step
    have s2 := s1.step
    have ex : cutS z (some (i : Int)) (some ((i + [104, 97, 108, 102].length : Nat) : Int)) = mks [104, 97, 108, 102] := sf.cut rfl
    refine ⟨_, rfl, _, rfl, z, i, [104, 97, 108, 102], _, rfl, sf, half_let, noLet_cons (by unfold Let; omega), sz, ?_⟩
    refine ⟨_, rfl, _, rfl, _, rfl, _, rfl, _, rfl, z, rfl, hzs, rfl, ?_⟩
    rw [ex]
    refine ⟨_, rfl, iteN (show decide (V.str (mks [104, 97, 108, 102]) = V.str "mix") = false by decide +kernel) (iteF ?_)⟩
    refine ⟨_, rfl, _, rfl, _, rfl, _, rfl, _, rfl, z, rfl, hzs, rfl, ?_⟩
    rw [ex]
    refine ⟨_, rfl, iteB (show decide (V.str (mks [104, 97, 108, 102]) = V.str "half") = true by decide +kernel) ?_⟩
    refine ⟨_, rfl, rfl, _, rfl, z, _, _, rfl, rfl, ?_⟩
    rw [Sf.yes s1 (show (" " : Str) = mks [32] by decide +kernel)]
    refine ⟨_, rfl, iteT ⟨_, rfl, rfl, _, rfl, z, _, _, rfl, rfl, ?_⟩⟩
    rw [s1.no [32, 38, 32] q_amp fun y e => by
      obtain ⟨c, y2, e2, hc⟩ := nm_head ok.2
      rw [e2] at e
      have e3 := (List.cons.inj e).2
      have e4 := (List.cons.inj e3).1
      unfold Let at hc
      omega]
    refine ⟨_, rfl, iteT ?_⟩
    refine ⟨_, rfl, _, rfl, _, _, rfl, rfl, z, i + [104, 97, 108, 102].length + [32].length, x, r, rfl, ok.2, s2, fo.noLet, sz, fun H3 p3 e3 h3 => ?_⟩
    refine ⟨_, rfl, rfl, _, rfl, iteF ?_⟩
    refine ⟨_, rfl, p3, _, 0, _, rfl, rfl, SqT.of h3, at0, two_small, fun o no => ?_⟩
    have e4 := same_new no (.tup [.str "half", .str x])
    refine ⟨_, rfl, p3, _, 1, _, rfl, rfl, SqT.of (e4 _ _ h3), at1, two_small, fun m nm => ?_⟩
    have el : i + [104, 97, 108, 102].length + [32].length + (cl x).length = i + (wd (.one .half (.nm x))).length := by
      simp only [wd, List.length_append, List.length_cons, List.length_nil]
      omega
    rw [el]
    have e5 := fun q => same_new nm q
    refine q _ m (.ref o) (e3.trans (e4.trans (e5 _))) upd_same (.one (SqT.of (e5 _ _ _ upd_same)) (.nm x))
  | .one .mix a, _, ok, dp, rm, sf, q =>
    have da := d1 .mix a
    simp only [wd, List.append_assoc] at sf
    have sf : Sf z i ([109, 105, 120] ++ ([40] ++ (wd a ++ ([41] ++ r)))) := sf
    have s1 := sf.step
    have s2 := s1.step
    have s3 := s2.step
    have ex : cutS z (some (i : Int)) (some ((i + [109, 105, 120].length : Nat) : Int)) = mks [109, 105, 120] := sf.cut rfl
    refine ⟨_, rfl, _, rfl, z, i, [109, 105, 120], _, rfl, sf, mix_let, noLet_cons (by unfold Let; omega), sz, ?_⟩
    refine ⟨_, rfl, _, rfl, _, rfl, _, rfl, _, rfl, z, rfl, hzs, rfl, ?_⟩
    rw [ex]
    refine ⟨_, rfl, iteB (show decide (V.str (mks [109, 105, 120]) = V.str "mix") = true by decide +kernel) ?_⟩
    refine ⟨_, rfl, rfl, _, rfl, z, _, _, rfl, rfl, ?_⟩
    rw [Sf.yes s1 q_lpar]
    refine ⟨_, rfl, iteT ?_⟩
    refine ⟨_, rfl, _, rfl, _, rfl, _, _, rfl, rfl, _, rfl, z, i + [109, 105, 120].length + [40].length, room, a, _, rfl, trivial, ⟨ok.one, by omega, by omega, s2, fol_cons (by decide), sz⟩, fun H1 p1 v1 e1 h1 t1 => ?_⟩
    refine ⟨z, _, v1, p1, _, [41], r, rfl, q_rpar, SqT.of h1, s3, sz, fun H3 p3 e3 h3 => ?_⟩
    refine ⟨_, rfl, rfl, _, rfl, iteF ?_⟩
    refine ⟨_, rfl, p3, _, 0, _, rfl, rfl, SqT.of h3, at0, two_small, fun o no => ?_⟩
    have e4 := same_new no (.tup [.str "mix", v1])
    refine ⟨_, rfl, p3, _, 1, _, rfl, rfl, SqT.of (e4 _ _ h3), at1, two_small, fun m nm => ?_⟩
    have el : i + [109, 105, 120].length + [40].length + (wd a).length + [41].length = i + (wd (.one .mix a)).length := by
      simp only [wd, List.length_append, List.length_cons, List.length_nil]
      omega
    rw [el]
    have e5 := fun q => same_new nm q
    have e35 := fun q => e3.trans (e4.trans (e5 q))
    refine q _ m (.ref o) (e1.trans (e35 _)) upd_same (.one (SqT.of (e5 _ _ _ upd_same)) (t1.same (e35 _)))
theorem ok_term_at_succ {n : Nat} (D : At K mg "term_at" s_term_at ["text", "at", "room"]) (B : Bt mg) (C : Cs K w mg aN aL)
    (D_round_at : Def P w K mg base (2 * n + 4) "round_at" ["text", "at", "room"] (spRead K (n + 1) 1 isR)) (D_box_at : Def P w K mg base (2 * n + 4) "box_at" ["text", "at", "room"] (spRead K (n + 1) 1 isB))
    (D_shut_at : Def P w K mg base (2 * n + 4) "shut_at" ["text", "at", "room"] (spRead K (n + 1) 1 isS)) (D_word_at : Def P w K mg base (2 * n + 4) "word_at" ["text", "at", "room"] (spRead K (n + 1) 1 isW)) :
    Def P w K mg base (2 * n + 5) "term_at" ["text", "at", "room"] (spRead K (n + 1) 0 fun _ => True) := by
  refine D.ok sc_term_at (fun vs H Q E h => ?_) (fun f cdv A outer s H vs Q E hr h => ?_)
  · obtain ⟨z, i, room, t, r, rfl, _⟩ := h
    rfl
  obtain ⟨z, i, room, t, r, rfl, hS, hR, q⟩ := h
  refine ⟨_, (pss_cons (ps_if (pt_cmpR op_eq (pv 2) pe_int (nomark _)) (pss_one (ps_ret pe_non)) pss_nil)
    (pss_cons (ps_if (pt_val (pe_bm PySem.F.plainAttrs_str PySem.F.slot_str_startswith PySem.F.type_str_startswith mt_startswith3 (pv 0) (pa_cons pe_str (pa_cons (pv 1) pa_nil)))) (pss_one (ps_ret (pe_def D_round_at (hr.mono (by omega)) (pa_cons (pv 0) (pa_cons (pv 1) (pa_cons (pe_op op_sub (pv 2) pe_int) pa_nil)))))) pss_nil)
    (pss_cons (ps_if (pt_val (pe_bm PySem.F.plainAttrs_str PySem.F.slot_str_startswith PySem.F.type_str_startswith mt_startswith3 (pv 0) (pa_cons pe_str (pa_cons (pv 1) pa_nil)))) (pss_one (ps_ret (pe_def D_box_at (hr.mono (by omega)) (pa_cons (pv 0) (pa_cons (pv 1) (pa_cons (pe_op op_sub (pv 2) pe_int) pa_nil)))))) pss_nil)
    (pss_cons (ps_if (pt_val (pe_bm PySem.F.plainAttrs_str PySem.F.slot_str_startswith PySem.F.type_str_startswith mt_startswith3 (pv 0) (pa_cons pe_str (pa_cons (pv 1) pa_nil)))) (pss_one (ps_ret (pe_def D_shut_at (hr.mono (by omega)) (pa_cons (pv 0) (pa_cons (pv 1) (pa_cons (pe_op op_sub (pv 2) pe_int) pa_nil)))))) pss_nil)
    (pss_one (ps_ret (pe_def D_word_at (hr.mono (by omega)) (pa_cons (pv 0) (pa_cons (pv 1) (pa_cons (pe_op op_sub (pv 2) pe_int) pa_nil)))))))))), ?_⟩
  have hpos := dep_pos t
  have hrm := hR.rm
  have R1 : Rt z i t r (n + 1) (room - 1 + 1) := ⟨hR.ok, hR.dp, by omega, hR.sf, hR.fo, hR.sz⟩
  refine ⟨_, rfl, rfl, _, rfl, iteN (decide_eq_false fun e => by have := V.int.inj e; omega) ?_⟩
  have ok := hR.ok
  have sf := hR.sf
  clear hpos hrm hR
  match t, R1, ok, sf, q with
  | .two .pair a b, R1, ok, sf, q =>
    have sf : Sf z i ([40] ++ _) := sf
    refine ⟨_, rfl, rfl, _, rfl, z, _, _, rfl, rfl, ?_⟩
    rw [Sf.yes sf q_lpar]
    refine ⟨_, rfl, iteT ?_⟩
    exact ⟨_, rfl, _, rfl, _, rfl, _, _, rfl, rfl, z, i, room - 1, .two .pair a b, r, rfl, trivial, R1, q⟩
  | .two .mark a b, R1, ok, sf, q =>
    have sf : Sf z i ([40] ++ _) := sf
    refine ⟨_, rfl, rfl, _, rfl, z, _, _, rfl, rfl, ?_⟩
    rw [Sf.yes sf q_lpar]
    refine ⟨_, rfl, iteT ?_⟩
    exact ⟨_, rfl, _, rfl, _, rfl, _, _, rfl, rfl, z, i, room - 1, .two .mark a b, r, rfl, trivial, R1, q⟩
  | .two .box a b, R1, ok, sf, q =>
    have sf : Sf z i ([91] ++ _) := sf
    refine ⟨_, rfl, rfl, _, rfl, z, _, _, rfl, rfl, ?_⟩
    rw [sf.no1 (c := 91) q_lpar (by omega)]
    refine ⟨_, rfl, iteF ?_⟩
    refine ⟨_, rfl, rfl, _, rfl, z, _, _, rfl, rfl, ?_⟩
    rw [Sf.yes sf q_lbr]
    refine ⟨_, rfl, iteT ?_⟩
    exact ⟨_, rfl, _, rfl, _, rfl, _, _, rfl, rfl, z, i, room - 1, .two .box a b, r, rfl, trivial, R1, q⟩
  | .two .shut a b, R1, ok, sf, q =>
    have sf : Sf z i ([123] ++ _) := sf
    refine ⟨_, rfl, rfl, _, rfl, z, _, _, rfl, rfl, ?_⟩
    rw [sf.no1 (c := 123) q_lpar (by omega)]
    refine ⟨_, rfl, iteF ?_⟩
    refine ⟨_, rfl, rfl, _, rfl, z, _, _, rfl, rfl, ?_⟩
    rw [sf.no1 (c := 123) q_lbr (by omega)]
    refine ⟨_, rfl, iteF ?_⟩
    refine ⟨_, rfl, rfl, _, rfl, z, _, _, rfl, rfl, ?_⟩
    rw [Sf.yes sf q_lcu]
    refine ⟨_, rfl, iteT ?_⟩
    exact ⟨_, rfl, _, rfl, _, rfl, _, _, rfl, rfl, z, i, room - 1, .two .shut a b, r, rfl, trivial, R1, q⟩
  | .nm x, R1, ok, sf, q =>
    have sf : Sf z i (cl x ++ r) := sf
    refine ⟨_, rfl, rfl, _, rfl, z, _, _, rfl, rfl, ?_⟩
    rw [sw_let ok (by unfold Let; omega) q_lpar sf]
    refine ⟨_, rfl, iteF ?_⟩
    refine ⟨_, rfl, rfl, _, rfl, z, _, _, rfl, rfl, ?_⟩
    rw [sw_let ok (by unfold Let; omega) q_lbr sf]
    refine ⟨_, rfl, iteF ?_⟩
    refine ⟨_, rfl, rfl, _, rfl, z, _, _, rfl, rfl, ?_⟩
    rw [sw_let ok (by unfold Let; omega) q_lcu sf]
    refine ⟨_, rfl, iteF ?_⟩
    exact ⟨_, rfl, _, rfl, _, rfl, _, _, rfl, rfl, z, i, room - 1, .nm x, r, rfl, trivial, R1, q⟩
  | .one .half a, R1, ok, sf, q =>
    have sf : Sf z i (104 :: _) := sf
    refine ⟨_, rfl, rfl, _, rfl, z, _, _, rfl, rfl, ?_⟩
    rw [sf.no1 (c := 104) q_lpar (by omega)]
    refine ⟨_, rfl, iteF ?_⟩
    refine ⟨_, rfl, rfl, _, rfl, z, _, _, rfl, rfl, ?_⟩
    rw [sf.no1 (c := 104) q_lbr (by omega)]
    refine ⟨_, rfl, iteF ?_⟩
    refine ⟨_, rfl, rfl, _, rfl, z, _, _, rfl, rfl, ?_⟩
    rw [sf.no1 (c := 104) q_lcu (by omega)]
    refine ⟨_, rfl, iteF ?_⟩
    exact ⟨_, rfl, _, rfl, _, rfl, _, _, rfl, rfl, z, i, room - 1, .one .half a, r, rfl, trivial, R1, q⟩
  | .one .mix a, R1, ok, sf, q =>
    have sf : Sf z i (109 :: _) := sf
    refine ⟨_, rfl, rfl, _, rfl, z, _, _, rfl, rfl, ?_⟩
    rw [sf.no1 (c := 109) q_lpar (by omega)]
    refine ⟨_, rfl, iteF ?_⟩
    refine ⟨_, rfl, rfl, _, rfl, z, _, _, rfl, rfl, ?_⟩
    rw [sf.no1 (c := 109) q_lbr (by omega)]
    refine ⟨_, rfl, iteF ?_⟩
    refine ⟨_, rfl, rfl, _, rfl, z, _, _, rfl, rfl, ?_⟩
    rw [sf.no1 (c := 109) q_lcu (by omega)]
    refine ⟨_, rfl, iteF ?_⟩
    exact ⟨_, rfl, _, rfl, _, rfl, _, _, rfl, rfl, z, i, room - 1, .one .mix a, r, rfl, trivial, R1, q⟩
theorem ok_term_at (D : At K mg "term_at" s_term_at ["text", "at", "room"]) (DR : At K mg "round_at" s_round_at ["text", "at", "room"]) (DB : At K mg "box_at" s_box_at ["text", "at", "room"]) (DS : At K mg "shut_at" s_shut_at ["text", "at", "room"]) (DW : At K mg "word_at" s_word_at ["text", "at", "room"])
    (B : Bt mg) (C : Cs K w mg aN aL) (D_word_end : Def P w K mg base 1 "word_end" ["text", "at"] spWordEnd) (D_behind : Def P w K mg base 1 "behind" ["text", "found", "mark"] (spBehind K)) (D_leaf_at : Def P w K mg base 2 "leaf_at" ["text", "at"] (spLeafAt K)) :
    ∀ n, Def P w K mg base (2 * n + 3) "term_at" ["text", "at", "room"] (spRead K n 0 fun _ => True)
  | 0 => (D.no fun vs H Q E h => by
      obtain ⟨z, i, room, t, r, _, _, h, _⟩ := h
      have := dep_pos t
      have := h.dp
      omega).mono (by omega)
  | n + 1 =>
    have ih := ok_term_at D DR DB DS DW B C D_word_end D_behind D_leaf_at n
    ok_term_at_succ D B C (ok_round_at DR B C ih D_behind D_leaf_at) (ok_box_at DB B C ih D_behind D_leaf_at) (ok_shut_at DS B C ih D_behind D_leaf_at) (ok_word_at DW B C D_word_end ih D_behind D_leaf_at)
end
end K6

set_option Elab.async false
set_option linter.all false
set_option maxRecDepth 100000
set_option maxHeartbeats 8000000
/-! wordings.py: read_any, read_term -/
namespace K6
open PySem PySem.Spec PyProof.Rows L2
abbrev s_read_any : Stmt := top 47
abbrev N_read_any : List Str := ["text", "open_so", "found"]
theorem sc_read_any : FnScope N_read_any ["text", "open_so"] (defScope s_read_any) := ⟨rfl, rfl, rfl, by decide +kernel, rfl, by decide +kernel, by decide +kernel⟩
abbrev s_read_term : Stmt := top 48
abbrev N_read_term : List Str := ["text", "term"]
theorem sc_read_term : FnScope N_read_term ["text"] (defScope s_read_term) := ⟨rfl, rfl, rfl, by decide +kernel, rfl, by decide +kernel, by decide +kernel⟩
def spReadAny (K : PySem.W.Frag) : Sp := fun vs H Q _ => ∃ t, vs = [.str (ws t), .bl false] ∧ Ok t ∧ dep t ≤ 5 ∧ ∀ H' v, Same H H' → TmIn K H' v t → Q v H'
def spReadTerm (K : PySem.W.Frag) : Sp := fun vs H Q _ => ∃ t, vs = [.str (ws t)] ∧ Ok t ∧ dep t ≤ 5 ∧ ∀ H' v, Same H H' → TmIn K H' v t → Q v H'
section
variable {P : Program} {w : World} {K : PySem.W.Frag} {mg : Str → Option Value} {base : Heap} {aN aL : Addr}
theorem ok_read_any (D : At K mg "read_any" s_read_any ["text", "open_so"]) (C : Cs K w mg aN aL) (D_term_at : Def P w K mg base 13 "term_at" ["text", "at", "room"] (spRead K 5 0 fun _ => True))
    (D_has_form : Def P w K mg base 8 "has_form" ["thing", "open_so"] (spForm K 5)) (D_spelled : Def P w K mg base 8 "spelled" ["term"] (spSpelled K 8)) : Def P w K mg base 14 "read_any" ["text", "open_so"] (spReadAny K) := by
  refine D.ok sc_read_any (fun vs H Q E h => ?_) (fun f cdv A outer s H vs Q E hr h => ?_)
  · obtain ⟨t, rfl, _⟩ := h
    rfl
  obtain ⟨t, rfl, ok, hn, q⟩ := h
  refine ⟨_, (pss_cons (ps_set (i := 2) sc_read_any.nd rfl (Or.inl rfl) (pe_def D_term_at (hr.mono (by omega)) (pa_cons (pv 0) (pa_cons pe_int (pa_cons (pe_ci C.depth) pa_nil)))))
    (pss_cons (ps_if (PW.pt (pw_or (pt_cmpR op_isN (pv 2) pe_non (nomark _)) (pw_or (pt_not (pt_val (pe_def D_has_form (hr.mono (by omega)) (pa_cons (pe_ix (ixT K) (pv 2) pe_int (fun _ _ => rfl)) (pa_cons (pv 1) pa_nil))))) (pw_or1 (pt_cmpR op_ne (pe_def D_spelled (hr.mono (by omega)) (pa_cons (pe_ix (ixT K) (pv 2) pe_int (fun _ _ => rfl)) pa_nil)) (pv 0) (nomark _)))))) (pss_one (ps_ret pe_non)) pss_nil)
    (pss_one (ps_ret (pe_ix (ixT K) (pv 2) pe_int (fun _ _ => rfl)))))), ?_⟩
  have hw := wd8 ok (by omega)
  have sf : Sf (ws t) 0 (wd t ++ []) := by
    rw [List.append_nil]
    exact Sf.zero _
  refine ⟨_, rfl, ws t, 0, 12, t, [], rfl, trivial, ⟨ok, hn, by omega, sf, fol_nil, by unfold ws; rw [len_mks]; omega⟩, fun H1 p v e1 h1 t1 => ?_⟩
  refine ⟨_, rfl, rfl, _, rfl, iteF ?_⟩
  refine ⟨_, rfl, p, _, 0, _, rfl, rfl, SqT.of h1, at0, _, rfl, v, t, rfl, t1, ok, hn, fun H2 e2 => ⟨_, rfl, iteF ?_⟩⟩
  refine ⟨_, rfl, p, _, 0, _, rfl, rfl, SqT.of (e2 _ _ h1), at0, v, t, rfl, t1.same e2, ok, by omega, fun H3 e3 => ?_⟩
  refine ⟨_, rfl, rfl, _, rfl, iteN ?_ ?_⟩
  · rw [decide_eq_true rfl]
    rfl
  · exact ⟨_, rfl, p, _, 0, _, rfl, rfl, SqT.of (e3 _ _ (e2 _ _ h1)), at0, q _ _ (e1.trans (e2.trans e3)) (t1.same (e2.trans e3))⟩
theorem notNon {K : PySem.W.Frag} {H : Hp} {v : V} {t : Tm} (h : TmIn K H v t) : decide (v = V.non) = false := by
  refine decide_eq_false fun e => ?_
  subst e
  cases h
theorem ok_read_term (D : At K mg "read_term" s_read_term ["text"]) (B : Bt mg) (D_read_any : Def P w K mg base 14 "read_any" ["text", "open_so"] (spReadAny K)) : Def P w K mg base 15 "read_term" ["text"] (spReadTerm K) := by
  refine D.ok sc_read_term (fun vs H Q E h => ?_) (fun f cdv A outer s H vs Q E hr h => ?_)
  · obtain ⟨t, rfl, _⟩ := h
    rfl
  obtain ⟨t, rfl, ok, hn, q⟩ := h
  refine ⟨_, (pss_cons (ps_if (pt_not (pt_val (pe_b call_isi B.isinstance boot_isi (pa_cons (pv 0) (pa_cons (pe_ty B.str boot_ty_str) pa_nil))))) (pss_one ps_never) pss_nil)
    (pss_cons (ps_set (i := 1) sc_read_term.nd rfl (Or.inl rfl) (pe_def D_read_any (hr.mono (by omega)) (pa_cons (pv 0) (pa_cons pe_bl pa_nil))))
    (pss_cons (ps_if (pt_cmpR op_isN (pv 1) pe_non (nomark _)) (pss_one ps_never) pss_nil)
    (pss_one (ps_ret (pv 1)))))), ?_⟩
  refine ⟨_, rfl, _, _, _, _, true, rfl, .ty "str", .base (.str _), kit_ty (by decide +kernel), _, rfl, iteF ?_⟩
  refine ⟨_, rfl, t, rfl, ok, hn, fun H1 v e1 t1 => ?_⟩
  refine ⟨_, rfl, rfl, _, rfl, iteN (notNon t1) ?_⟩
  exact ⟨_, rfl, q _ _ e1 t1⟩
end
end K6

set_option Elab.async false
set_option linter.all false
set_option maxRecDepth 100000
set_option maxHeartbeats 8000000
/-! the law's own helpers: the bag and the draws -/
namespace K6
open PySem PySem.Spec PyProof.Rows L2
theorem at3 {α : Type} {a b c d : α} {l : List α} : atI (a :: b :: c :: d :: l) 3 = some d := atI_nat (j := 3) rfl
theorem at4 {α : Type} {a b c d e : α} {l : List α} : atI (a :: b :: c :: d :: e :: l) 4 = some e := atI_nat (j := 4) rfl
theorem iteE {b : Bool} {A B : Prop} (h1 : b = true → A) (h2 : b = false → B) : if b = true then A else B := by
  cases b with
  | true => exact iteT (h1 rfl)
  | false => exact iteF (h2 rfl)
/-- all that is not at L stands -/
def Sb (L : Addr) (H H' : Hp) : Prop := ∀ b o, b ≠ L → H b = some o → H' b = some o
theorem Sb.of {L : Addr} {H H' : Hp} (e : Same H H') : Sb L H H' := fun b o _ h => e b o h
theorem Sb.trans {L : Addr} {H H1 H2 : Hp} (a : Sb L H H1) (b : Sb L H1 H2) : Sb L H H2 := fun p o n h => b p o n (a p o n h)
theorem Sb.upd {L : Addr} {H H1 : Hp} (o : HO) (a : Sb L H H1) : Sb L H (upd H1 L o) := fun p q n h => by
  rw [upd_ne n]
  exact a p q n h
theorem Sb.tups {K : PySem.W.Frag} {L : Addr} {H H' : Hp} {xs : List V} (hL : H L = some (.lst xs)) (e : Sb L H H') : Tups K H H' := by
  rintro p ys ((h | ⟨o, h⟩) | h)
  · exact .inl (.inl (e _ _ (fun z => by rw [z, hL] at h; cases h) h))
  · exact .inl (.inr ⟨o, e _ _ (fun z => by rw [z, hL] at h; cases h) h⟩)
  · exact .inr h
def BagV (l : Addr) (a b c d : Int) : HO := .lst [.ref l, .int a, .int b, .int c, .int d]
/-- the bag lies at L, its numbers at l -/
abbrev BagL (H : Hp) (L l : Addr) : Prop := ∃ (ns : List Int) (a b c d : Int), H L = some (BagV l a b c d) ∧ H l = some (.lst (ns.map V.int)) ∧ 0 ≤ a
abbrev Bag (H : Hp) (L : Addr) : Prop := ∃ l, BagL H L l
theorem Bag.lst {H : Hp} {L : Addr} (h : Bag H L) : ∃ xs, H L = some (.lst xs) := by
  obtain ⟨l, ns, a, b, c, d, h, _⟩ := h
  exact ⟨_, h⟩
theorem Bag.ne {H : Hp} {L l : Addr} {a b c d : Int} {ns : List Int} (h : H L = some (BagV l a b c d)) (hl : H l = some (.lst (ns.map V.int))) : l ≠ L := fun e => by
  rw [e, h] at hl
  have hl := HO.lst.inj (Option.some.inj hl)
  cases ns with
  | nil => cases hl
  | cons n ns => exact V.noConfusion (List.cons.inj hl).1
theorem Bag.same {H H' : Hp} {L : Addr} (e : Same H H') (h : Bag H L) : Bag H' L := by
  obtain ⟨l, ns, a, b, c, d, h, hl, ha⟩ := h
  exact ⟨l, ns, a, b, c, d, e _ _ h, e _ _ hl, ha⟩
theorem BagL.same {H H' : Hp} {L l : Addr} (e : Same H H') (h : BagL H L l) : BagL H' L l := by
  obtain ⟨ns, a, b, c, d, h, hl, ha⟩ := h
  exact ⟨ns, a, b, c, d, e _ _ h, e _ _ hl, ha⟩
theorem BagL.none {H H1 : Hp} {L l D : Addr} (h : BagL H L l) (nD : H D = none) (b : BagL H1 L l) (o : HO) : BagL (upd H1 D o) L l := by
  obtain ⟨ns, a, b', c, d, h1, h2, _⟩ := h
  obtain ⟨ns, a, b, c, d, h, hl, ha⟩ := b
  exact ⟨ns, a, b, c, d, by rw [upd_ne (ne_of_none h1 nD)]; exact h, by rw [upd_ne (ne_of_none h2 nD)]; exact hl, ha⟩
theorem Bag.tups {K : PySem.W.Frag} {L : Addr} {H H' : Hp} (h : Bag H L) (e : Sb L H H') : Tups K H H' := by
  obtain ⟨xs, h⟩ := h.lst
  exact e.tups h
theorem cut_ints (ns : List Int) (lo hi : Option Int) : ∃ ms : List Int, cutV (ns.map V.int) lo hi = ms.map V.int := by
  refine ⟨(ns.drop (HT.sIx (ns.map V.int).length 0 lo)).take (HT.sIx (ns.map V.int).length (ns.map V.int).length hi - HT.sIx (ns.map V.int).length 0 lo), ?_⟩
  unfold cutV
  rw [List.map_take, List.map_drop]
theorem at_get {α : Type} {l : List α} {a : Int} (h0 : 0 ≤ a) (h : a < l.length) : ∃ x, atI l a = some x ∧ x ∈ l := by
  obtain ⟨j, rfl⟩ : ∃ j : Nat, a = j := ⟨a.toNat, by omega⟩
  have hj : j < l.length := by omega
  exact ⟨l[j], atI_nat (List.getElem?_eq_getElem hj), List.getElem_mem hj⟩
theorem mulmod {x y m : Int} (h0 : 0 < m) (h1 : m < 2 ^ 60) : CMul (x % m) y := by
  have := Int.emod_nonneg x (show m ≠ 0 by omega)
  have := Int.emod_lt_of_pos x h0
  exact .inl ⟨by omega, by omega⟩
abbrev s__law_bag : Stmt := top 50
abbrev N__law_bag : List Str := ["_law_script", "_law_seed", "_law_cell"]
theorem sc__law_bag : FnScope N__law_bag ["_law_script"] (defScope s__law_bag) := ⟨rfl, rfl, rfl, by decide +kernel, rfl, by decide +kernel, by decide +kernel⟩
abbrev s__law_draw : Stmt := top 51
abbrev N__law_draw : List Str := ["_law_bag_here", "_law_many", "_law_cell", "_law_digit", "_law_mixed"]
theorem sc__law_draw : FnScope N__law_draw ["_law_bag_here", "_law_many"] (defScope s__law_draw) := ⟨rfl, rfl, rfl, by decide +kernel, rfl, by decide +kernel, by decide +kernel⟩
def spBag (K : PySem.W.Frag) : Sp := fun vs H Q _ => ∃ (a : Addr) (ns : List Int), vs = [.ref a] ∧ SqL K H a (ns.map V.int) ∧ ns.length ≤ 1000 ∧ ∀ H' L, Same H H' → H L = none → Bag H' L → Q (.ref L) H'
def spDrawL : Sp := fun vs H Q _ => ∃ (L l : Addr) (many : Int), vs = [.ref L, .int many] ∧ BagL H L l ∧ 0 < many ∧ many < 1000000 ∧ ∀ H' d, Sb L H H' → BagL H' L l → 0 ≤ d → d < many → Q (.int d) H'
def spDraw : Sp := fun vs H Q _ => ∃ (L : Addr) (many : Int), vs = [.ref L, .int many] ∧ Bag H L ∧ 0 < many ∧ many < 1000000 ∧ ∀ H' d, Sb L H H' → Bag H' L → 0 ≤ d → d < many → Q (.int d) H'
section
variable {P : Program} {w : World} {K : PySem.W.Frag} {mg : Str → Option Value} {base : Heap} {aN aL : Addr}
theorem ok__law_bag (D : At K mg "_law_bag" s__law_bag ["_law_script"]) (B : Bt mg) : Def P w K mg base 1 "_law_bag" ["_law_script"] (spBag K) := by
  refine D.ok sc__law_bag (fun vs H Q E h => ?_) (fun f cdv A outer s H vs Q E hr h => ?_)
  · obtain ⟨a, ns, rfl, _⟩ := h
    rfl
  obtain ⟨a, ns, rfl, ha, hn, q⟩ := h
  refine ⟨_, (pss_cons (ps_set (i := 1) sc__law_bag.nd rfl (Or.inl rfl) pe_int)
    (pss_cons (ps_for PassesOwn.never rfl (piL K (pe_slice sl_list (pv 0) po_none (po_some pe_int))) (pg_name (i := 2) sc__law_bag.nd rfl (Or.inl rfl)) (pss_one (ps_set (i := 1) sc__law_bag.nd rfl (Or.inl rfl) (pe_op op_mod (pe_t call_int1 B.int boot_ty_int (pa_cons (pe_op op_add (pe_op op_add (pe_op op_mul (pv 1) pe_int) (pv 2)) pe_int) pa_nil)) pe_int))))
    (pss_one (ps_ret (pe_lst (pa_cons (pe_t call_list_of B.list boot_ty_list (pa_cons (pe_slice sl_list (pv 0) po_none (po_some pe_int)) pa_nil)) (pa_cons pe_int (pa_cons pe_int (pa_cons pe_int (pa_cons (pv 1) pa_nil)))))))))), ?_⟩
  obtain ⟨ms, em⟩ := cut_ints ns none (some 63)
  refine ⟨_, rfl, _, rfl, a, _, rfl, ha, fun p1 np1 => ?_⟩
  have e1 : Same H (upd H p1 (.lst (cutV (ns.map V.int) none (some 63)))) := same_new np1 _
  rw [em] at e1 ⊢
  refine ⟨p1, rfl, ⟨_, SqL.of upd_same⟩, for_it (walk_list (K := K) (a := p1) (xs := ms.map V.int)) (fun _ σ H' => H' = upd H p1 (.lst (ms.map V.int)) ∧ ∃ (z : Int) (y : Option V), σ = [some (.ref a), some (.int z), y]) ⟨rfl, _, _, rfl⟩ ?_ ?_ ?_⟩
  · rintro i σ H' _ ⟨rfl, _⟩
    exact SqL.of upd_same
  · rintro i x σ H' H2 hi ⟨rfl, z, y, rfl⟩ ⟨rfl, hx⟩
    rw [List.getElem?_map] at hx
    cases hc : ms[i]? with
    | none => rw [hc] at hx; cases hx
    | some c =>
      rw [hc] at hx
      obtain rfl : V.int c = x := Option.some.inj hx
      refine ⟨_, rfl, _, _, rfl, rfl, .inr ⟨by decide, by decide⟩, _, rfl, _, _, rfl, rfl, _, _, rfl, rfl, .inl ⟨_, rfl, _, _, rfl, rfl, by show (0 : Int) < _; decide, ?_⟩⟩
      exact ⟨rfl, _, _, rfl⟩
  · rintro σ H' ⟨rfl, z, y, rfl⟩
    have ha1 : SqL K (upd H p1 (.lst (ms.map V.int))) a (ns.map V.int) := by
      rcases ha with (h | ⟨o, h⟩) | h
      · exact .inl (.inl (e1 _ _ h))
      · exact .inl (.inr ⟨o, e1 _ _ h⟩)
      · exact .inr h
    refine ⟨_, rfl, _, rfl, a, _, rfl, ha1, fun p2 np2 => ?_⟩
    rw [em]
    refine ⟨p2, _, rfl, .inl (SqL.of upd_same), fun l nl => ?_⟩
    refine ⟨_, rfl, small_of (by show 5 ≤ 1000000; decide), fun L nL => ?_⟩
    have e2 := (same_new np2 (.lst (ms.map V.int))).trans ((same_new nl (.lst (ms.map V.int))).trans (same_new nL (BagV l 0 0 0 z)))
    refine q _ L (e1.trans e2) ?_ ⟨l, ms, 0, 0, 0, z, upd_same, ?_, Int.le_refl _⟩
    · cases hh : H L with
      | none => rfl
      | some o =>
        have := (e1.trans ((same_new np2 (.lst (ms.map V.int))).trans (same_new nl (.lst (ms.map V.int))))) _ _ hh
        rw [this] at nL
        cases nL
    · exact (same_new nL (BagV l 0 0 0 z)) _ _ upd_same
theorem ok__law_drawL (D : At K mg "_law_draw" s__law_draw ["_law_bag_here", "_law_many"]) (B : Bt mg) : Def P w K mg base 1 "_law_draw" ["_law_bag_here", "_law_many"] spDrawL := by
  refine D.ok sc__law_draw (fun vs H Q E h => ?_) (fun f cdv A outer s H vs Q E hr h => ?_)
  · obtain ⟨L, l, many, rfl, _⟩ := h
    rfl
  obtain ⟨L, l, many, rfl, hB, m0, m1, q⟩ := h
  refine ⟨_, (pss_cons (ps_asg (pe_op op_add (pe_ix (ixL K) (pv 0) pe_int (fun _ _ => rfl)) pe_int) (pg_sub (pv 0) pe_int set_list))
    (pss_cons (ps_if (PW.pt (pw_and (pt_cmpR op_eq (pe_ix (ixL K) (pv 0) pe_int (fun _ _ => rfl)) pe_int (nomark _)) (pw_and1 (pt_cmpR op_lt (pe_ix (ixL K) (pv 0) pe_int (fun _ _ => rfl)) (pe_b call_len_seq B.len boot_ln (pa_cons (pe_ix (ixL K) (pv 0) pe_int (fun _ _ => rfl)) pa_nil)) (nomark _))))) (pss_cons (ps_set (i := 2) sc__law_draw.nd rfl (Or.inl rfl) (pe_ix (ixL K) (pe_ix (ixL K) (pv 0) pe_int (fun _ _ => rfl)) (pe_ix (ixL K) (pv 0) pe_int (fun _ _ => rfl)) (fun _ _ => rfl)))
     (pss_cons (ps_asg (pe_op op_add (pe_ix (ixL K) (pv 0) pe_int (fun _ _ => rfl)) pe_int) (pg_sub (pv 0) pe_int set_list))
     (pss_one (ps_if (pt_cmpR op_ge (pv 2) (pe_op op_pow pe_int pe_int) (nomark _)) (pss_one (ps_asg (pv 2) (pg_sub (pv 0) pe_int set_list))) (pss_one (ps_asg (pe_op op_mod (pe_t call_int1 B.int boot_ty_int (pa_cons (pe_op op_add (pe_op op_add (pe_op op_mul (pe_ix (ixL K) (pv 0) pe_int (fun _ _ => rfl)) pe_int) (pv 2)) pe_int) pa_nil)) pe_int) (pg_sub (pv 0) pe_int set_list))))))) pss_nil)
    (pss_cons (ps_if (pt_cmpR op_gt (pe_ix (ixL K) (pv 0) pe_int (fun _ _ => rfl)) pe_int (nomark _)) (pss_cons (ps_set (i := 3) sc__law_draw.nd rfl (Or.inl rfl) (pe_op op_mod (pe_t call_int1 B.int boot_ty_int (pa_cons (pe_ix (ixL K) (pv 0) pe_int (fun _ _ => rfl)) pa_nil)) (pv 1)))
     (pss_cons (ps_asg (pe_op op_fdiv (pe_ix (ixL K) (pv 0) pe_int (fun _ _ => rfl)) (pv 1)) (pg_sub (pv 0) pe_int set_list))
     (pss_one (ps_ret (pv 3))))) pss_nil)
    (pss_cons (ps_set (i := 4) sc__law_draw.nd rfl (Or.inl rfl) (pe_op op_mod (pe_t call_int1 B.int boot_ty_int (pa_cons (pe_op op_add (pe_op op_add (pe_op op_mul (pe_ix (ixL K) (pv 0) pe_int (fun _ _ => rfl)) pe_int) (pe_op op_mul (pe_ix (ixL K) (pv 0) pe_int (fun _ _ => rfl)) pe_int)) pe_int) pa_nil)) pe_int))
    (pss_cons (ps_set (i := 4) sc__law_draw.nd rfl (Or.inl rfl) (pe_op op_mod (pe_t call_int1 B.int boot_ty_int (pa_cons (pe_op op_mul (pv 4) (pe_op op_add (pe_op op_fdiv (pv 4) pe_int) pe_int)) pa_nil)) pe_int))
    (pss_cons (ps_set (i := 4) sc__law_draw.nd rfl (Or.inl rfl) (pe_op op_mod (pe_t call_int1 B.int boot_ty_int (pa_cons (pe_op op_mul (pv 4) (pe_op op_add (pe_op op_fdiv (pv 4) pe_int) pe_int)) pa_nil)) pe_int))
    (pss_one (ps_ret (pe_op op_mod (pe_t call_int1 B.int boot_ty_int (pa_cons (pe_op op_fdiv (pv 4) pe_int) pa_nil)) (pv 1)))))))))), ?_⟩
  obtain ⟨ns, a, b, c, d, hL, hl, ha⟩ := hB
  have nlL := Bag.ne hL hl
  have hS0 : SqL K H L [.ref l, .int a, .int b, .int c, .int d] := SqL.of hL
  refine ⟨_, rfl, L, _, 3, _, rfl, rfl, hS0, at3, _, _, rfl, rfl, _, rfl, L, _, 3, 3, rfl, rfl, hL, rfl, ?_⟩
  have fin : ∀ (a b c d z : Int), 0 ≤ a → 0 ≤ z → z < many → Q (.int z) (upd H L (BagV l a b c d)) := fun a b c d z h0 h1 h2 =>
    q _ z (Sb.upd _ (Sb.of (Same.refl H))) ⟨ns, a, b, c, d, upd_same, by rw [upd_ne nlL]; exact hl, h0⟩ h1 h2
  have hS : ∀ a b c d, SqL K (upd H L (BagV l a b c d)) L [.ref l, .int a, .int b, .int c, .int d] := fun a b c d => SqL.of upd_same
  have hI : ∀ a b c d, SqL K (upd H L (BagV l a b c d)) l (ns.map V.int) := fun a b c d => SqL.of (by rw [upd_ne nlL]; exact hl)
  refine ⟨_, rfl, L, _, 2, _, rfl, rfl, SqL.of upd_same, at2, rfl, _, rfl, ?_⟩
  cases decide (V.int b = V.int 0)
  case' false =>
    refine iteF (iteF ?_)
    have hpos : 0 ≤ a := ha
  case' true =>
    refine iteT ⟨_, rfl, L, _, 1, _, rfl, rfl, SqL.of upd_same, at1, _, rfl, L, _, 0, _, rfl, rfl, SqL.of upd_same, at0, l, _, rfl, .inl (hI a b (c + 1) d), _, _, rfl, rfl, _, rfl, ?_⟩
    cases hlt : decide (a < (((ns.map V.int).length : Nat) : Int))
    case' false =>
      refine iteF ?_
      have hpos : 0 ≤ a := ha
    case' true =>
      refine iteT ?_
      obtain ⟨x, hx, hm⟩ := at_get ha (of_decide_eq_true hlt)
      obtain ⟨k, _, rfl⟩ := List.mem_map.mp hm
      refine ⟨_, rfl, L, _, 0, _, rfl, rfl, SqL.of upd_same, at0, _, rfl, L, _, 1, _, rfl, rfl, SqL.of upd_same, at1, l, _, a, _, rfl, rfl, hI a b (c + 1) d, hx, ?_⟩
      refine ⟨_, rfl, L, _, 1, _, rfl, rfl, SqL.of upd_same, at1, _, _, rfl, rfl, _, rfl, L, _, 1, 1, rfl, rfl, upd_same, rfl, ?_⟩
      rw [upd_upd]
      have hpos : 0 ≤ a + 1 := by omega
      refine ⟨_, rfl, _, _, rfl, rfl, ⟨by decide, by decide, by decide⟩, _, _, rfl, rfl, _, rfl, ?_⟩
      refine iteE (fun _ => ?_) (fun _ => ?_)
      case' refine_1 =>
        refine ⟨_, rfl, _, rfl, L, _, 2, 2, rfl, rfl, upd_same, rfl, ?_⟩
        rw [upd_upd]
      case' refine_2 =>
        refine ⟨_, rfl, L, _, 4, _, rfl, rfl, SqL.of upd_same, at4, _, _, rfl, rfl, .inr ⟨by decide, by decide⟩, _, rfl, _, _, rfl, rfl, _, _, rfl, rfl, .inl ⟨_, rfl, _, _, rfl, rfl, by show (0 : Int) < _; decide, _, rfl, L, _, 4, 4, rfl, rfl, upd_same, rfl, ?_⟩⟩
        rw [upd_upd]
  all_goals
    refine ⟨_, rfl, L, _, 2, _, rfl, rfl, SqL.of upd_same, at2, _, _, rfl, rfl, _, rfl, ?_⟩
    refine iteE (fun hp => ?_) (fun _ => ?_)
    · refine ⟨_, rfl, L, _, 2, _, rfl, rfl, SqL.of upd_same, at2, .inl ⟨_, rfl, _, rfl, _, _, rfl, rfl, m0, ?_⟩⟩
      refine ⟨_, rfl, L, _, 2, _, rfl, rfl, SqL.of upd_same, at2, _, rfl, _, _, rfl, rfl, ⟨m0, by omega⟩, _, rfl, L, _, 2, 2, rfl, rfl, upd_same, rfl, ?_⟩
      rw [upd_upd]
      exact ⟨_, rfl, fin _ _ _ _ _ hpos (Int.emod_nonneg _ (by omega)) (Int.emod_lt_of_pos _ m0)⟩
    · refine ⟨_, rfl, L, _, 4, _, rfl, rfl, SqL.of upd_same, at4, _, _, rfl, rfl, .inr ⟨by decide, by decide⟩, _, rfl, L, _, 3, _, rfl, rfl, SqL.of upd_same, at3, _, _, rfl, rfl, .inr ⟨by decide, by decide⟩, _, _, rfl, rfl, _, _, rfl, rfl, .inl ⟨_, rfl, _, _, rfl, rfl, by show (0 : Int) < _; decide, ?_⟩⟩
      refine ⟨_, rfl, _, rfl, _, _, rfl, rfl, ⟨by decide, by decide⟩, _, _, rfl, rfl, _, _, rfl, rfl, mulmod (by decide) (by decide), .inl ⟨_, rfl, _, _, rfl, rfl, by show (0 : Int) < _; decide, ?_⟩⟩
      refine ⟨_, rfl, _, rfl, _, _, rfl, rfl, ⟨by decide, by decide⟩, _, _, rfl, rfl, _, _, rfl, rfl, mulmod (by decide) (by decide), .inl ⟨_, rfl, _, _, rfl, rfl, by show (0 : Int) < _; decide, ?_⟩⟩
      exact ⟨_, rfl, _, _, rfl, rfl, ⟨by decide, by decide⟩, .inl ⟨_, rfl, _, rfl, _, _, rfl, rfl, m0, fin _ _ _ _ _ hpos (Int.emod_nonneg _ (by omega)) (Int.emod_lt_of_pos _ m0)⟩⟩
theorem ok__law_draw (D : Def P w K mg base 1 "_law_draw" ["_law_bag_here", "_law_many"] spDrawL) : Def P w K mg base 1 "_law_draw" ["_law_bag_here", "_law_many"] spDraw :=
  D.imp fun vs H Q E ⟨L, many, e, ⟨l, hB⟩, m0, m1, q⟩ => ⟨L, l, many, e, hB, m0, m1, fun H' d e hB d0 d1 => q H' d e ⟨l, hB⟩ d0 d1⟩
end
end K6

set_option Elab.async false
set_option linter.all false
set_option maxRecDepth 100000
set_option maxHeartbeats 8000000
/-! the law's own helpers: terms that are drawn -/
namespace K6
open PySem PySem.Spec PyProof.Rows L2
abbrev s__law_pick : Stmt := top 54
abbrev N__law_pick : List Str := ["_law_bag_here", "_law_things"]
theorem sc__law_pick : FnScope N__law_pick ["_law_bag_here", "_law_things"] (defScope s__law_pick) := ⟨rfl, rfl, rfl, by decide +kernel, rfl, by decide +kernel, by decide +kernel⟩
abbrev s__law_leaf : Stmt := top 55
abbrev N__law_leaf : List Str := ["_law_bag_here", "_law_names_here", "_law_variables"]
theorem sc__law_leaf : FnScope N__law_leaf ["_law_bag_here", "_law_names_here", "_law_variables"] (defScope s__law_leaf) := ⟨rfl, rfl, rfl, by decide +kernel, rfl, by decide +kernel, by decide +kernel⟩
abbrev s__law_pattern : Stmt := top 56
abbrev N__law_pattern : List Str := ["_law_bag_here", "_law_names_here", "_law_variables", "_law_depth", "_law_kind", "_law_first", "_law_key", "_law_leaf_here", "_law_inner"]
theorem sc__law_pattern : FnScope N__law_pattern ["_law_bag_here", "_law_names_here", "_law_variables", "_law_depth"] (defScope s__law_pattern) := ⟨rfl, rfl, rfl, by decide +kernel, rfl, by decide +kernel, by decide +kernel⟩
abbrev s__law_term : Stmt := top 57
abbrev N__law_term : List Str := ["_law_bag_here", "_law_names_here", "_law_depth"]
theorem sc__law_term : FnScope N__law_term ["_law_bag_here", "_law_names_here", "_law_depth"] (defScope s__law_term) := ⟨rfl, rfl, rfl, by decide +kernel, rfl, by decide +kernel, by decide +kernel⟩
/-- the bag, the two names, no variables -/
structure Ctx (H : Hp) (L l p q : Addr) (n0 n1 : Str) : Prop where
  bag : BagL H L l
  nms : H p = some (.lst [.str n0, .str n1])
  pL : p ≠ L
  vrs : H q = some (.lst [])
  qL : q ≠ L
  ok0 : IsNm n0
  ok1 : IsNm n1
theorem Ctx.step {H H' : Hp} {L l p q : Addr} {n0 n1 : Str} (c : Ctx H L l p q n0 n1) (e : Sb L H H') (b : BagL H' L l) : Ctx H' L l p q n0 n1 :=
  ⟨b, e _ _ c.pL c.nms, c.pL, e _ _ c.qL c.vrs, c.qL, c.ok0, c.ok1⟩
def Two (n0 n1 : Str) (t : Tm) : Prop := Ok t ∧ ∀ s ∈ lvs t, s = n0 ∨ s = n1
theorem Two.nm {n0 n1 : Str} {s : Str} (h0 : IsNm n0) (h1 : IsNm n1) (h : s = n0 ∨ s = n1) : Two n0 n1 (.nm s) := by
  refine ⟨?_, fun x hx => ?_⟩
  · rcases h with rfl | rfl
    · exact h0
    · exact h1
  · rw [List.mem_singleton.mp hx]
    exact h
def spPick : Sp := fun vs H Q _ => ∃ (L l p : Addr) (xs : List V), vs = [.ref L, .ref p] ∧ BagL H L l ∧ H p = some (.lst xs) ∧ p ≠ L ∧ 0 < xs.length ∧ xs.length < 1000000 ∧ ∀ H' x, Sb L H H' → BagL H' L l → x ∈ xs → Q x H'
def spLeafD : Sp := fun vs H Q _ => ∃ (L l p q : Addr) (n0 n1 : Str), vs = [.ref L, .ref p, .ref q] ∧ Ctx H L l p q n0 n1 ∧ ∀ H' s, Sb L H H' → BagL H' L l → (s = n0 ∨ s = n1) → Q (.str s) H'
def spPat (K : PySem.W.Frag) (n : Nat) : Sp := fun vs H Q _ => ∃ (L l p q : Addr) (n0 n1 : Str) (m : Int), vs = [.ref L, .ref p, .ref q, .int m] ∧ Ctx H L l p q n0 n1 ∧ 1 ≤ m ∧ m ≤ n ∧ ∀ H' v t, Sb L H H' → BagL H' L l → TmIn K H' v t → Two n0 n1 t → (dep t : Int) ≤ m → Q v H'
def spTerm (K : PySem.W.Frag) : Sp := fun vs H Q _ => ∃ (L l p : Addr) (n0 n1 : Str), vs = [.ref L, .ref p, .int 4] ∧ BagL H L l ∧ H p = some (.lst [.str n0, .str n1]) ∧ p ≠ L ∧ IsNm n0 ∧ IsNm n1 ∧ ∀ H' v t, Sb L H H' → BagL H' L l → TmIn K H' v t → Two n0 n1 t → dep t ≤ 4 → Q v H'
section
variable {P : Program} {w : World} {K : PySem.W.Frag} {mg : Str → Option Value} {base : Heap} {aN aL : Addr}
theorem ok__law_pick (D : At K mg "_law_pick" s__law_pick ["_law_bag_here", "_law_things"]) (B : Bt mg) (D__law_draw : Def P w K mg base 1 "_law_draw" ["_law_bag_here", "_law_many"] spDrawL) : Def P w K mg base 2 "_law_pick" ["_law_bag_here", "_law_things"] spPick := by
  refine D.ok sc__law_pick (fun vs H Q E h => ?_) (fun f cdv A outer s H vs Q E hr h => ?_)
  · obtain ⟨L, l, p, xs, rfl, _⟩ := h
    rfl
  obtain ⟨L, l, p, xs, rfl, hB, hp, pL, h0, h1, q⟩ := h
  refine ⟨_, (pss_one (ps_ret (pe_ix (ixL K) (pv 1) (pe_def D__law_draw (hr.mono (by omega)) (pa_cons (pv 0) (pa_cons (pe_b call_len_seq B.len boot_ln (pa_cons (pv 1) pa_nil)) pa_nil))) (fun _ _ => rfl)))), ?_⟩
  refine ⟨_, rfl, _, rfl, _, rfl, p, xs, rfl, .inl (SqL.of hp), L, l, _, rfl, hB, by omega, by omega, fun H1 d e1 hB1 d0 d1 => ?_⟩
  obtain ⟨x, hx, hm⟩ := at_get d0 d1
  exact ⟨p, xs, d, x, rfl, rfl, SqL.of (e1 _ _ pL hp), hx, q _ _ e1 hB1 hm⟩
theorem ok__law_leaf (D : At K mg "_law_leaf" s__law_leaf ["_law_bag_here", "_law_names_here", "_law_variables"]) (B : Bt mg) (D__law_draw : Def P w K mg base 1 "_law_draw" ["_law_bag_here", "_law_many"] spDrawL) (D__law_pick : Def P w K mg base 2 "_law_pick" ["_law_bag_here", "_law_things"] spPick) :
    Def P w K mg base 3 "_law_leaf" ["_law_bag_here", "_law_names_here", "_law_variables"] spLeafD := by
  refine D.ok sc__law_leaf (fun vs H Q E h => ?_) (fun f cdv A outer s H vs Q E hr h => ?_)
  · obtain ⟨L, l, p, y, n0, n1, rfl, _⟩ := h
    rfl
  obtain ⟨L, l, p, y, n0, n1, rfl, c, q⟩ := h
  refine ⟨_, (pss_cons (ps_if (PW.pt (pw_and (pt_cmpR op_gt (pe_b call_len_seq B.len boot_ln (pa_cons (pv 2) pa_nil)) pe_int (nomark _)) (pw_and1 (PW.pt (pw_or (pt_cmpR op_eq (pe_b call_len_seq B.len boot_ln (pa_cons (pv 1) pa_nil)) pe_int (nomark _)) (pw_or1 (pt_cmpR op_gt (pe_def D__law_draw (hr.mono (by omega)) (pa_cons (pv 0) (pa_cons pe_int pa_nil))) pe_int (nomark _)))))))) (pss_one (ps_ret (pe_tup (pa_cons pe_str (pa_cons (pe_def D__law_pick (hr.mono (by omega)) (pa_cons (pv 0) (pa_cons (pv 2) pa_nil))) pa_nil))))) pss_nil)
    (pss_one (ps_ret (pe_def D__law_pick (hr.mono (by omega)) (pa_cons (pv 0) (pa_cons (pv 1) pa_nil)))))), ?_⟩
  refine ⟨_, rfl, y, _, rfl, .inl (SqL.of c.vrs), _, _, rfl, rfl, _, rfl, iteDF (by simp) (iteF ?_)⟩
  refine ⟨_, rfl, _, rfl, L, l, p, _, rfl, c.bag, c.nms, c.pL, by show 0 < 2; decide, by show 2 < 1000000; decide, fun H1 x e1 hB1 hx => ?_⟩
  rcases List.mem_cons.mp hx with rfl | hx
  · exact q _ _ e1 hB1 (.inl rfl)
  · rw [List.mem_singleton.mp hx]
    exact q _ _ e1 hB1 (.inr rfl)
theorem ok__law_pattern_succ {n : Nat} (D : At K mg "_law_pattern" s__law_pattern ["_law_bag_here", "_law_names_here", "_law_variables", "_law_depth"]) (D__law_draw : Def P w K mg base 1 "_law_draw" ["_law_bag_here", "_law_many"] spDrawL)
    (D__law_leaf : Def P w K mg base 3 "_law_leaf" ["_law_bag_here", "_law_names_here", "_law_variables"] spLeafD) (D__law_pattern : Def P w K mg base (n + 3) "_law_pattern" ["_law_bag_here", "_law_names_here", "_law_variables", "_law_depth"] (spPat K n)) :
    Def P w K mg base (n + 4) "_law_pattern" ["_law_bag_here", "_law_names_here", "_law_variables", "_law_depth"] (spPat K (n + 1)) := by
  refine D.ok sc__law_pattern (fun vs H Q E h => ?_) (fun f cdv A outer s H vs Q E hr h => ?_)
  · obtain ⟨L, l, p, y, n0, n1, m, rfl, _⟩ := h
    rfl
  obtain ⟨L, l, p, y, n0, n1, m, rfl, c, m1, mn, q⟩ := h
  refine ⟨_, (pss_cons (ps_set (i := 4) sc__law_pattern.nd rfl (Or.inl rfl) (pe_def D__law_draw (hr.mono (by omega)) (pa_cons (pv 0) (pa_cons pe_int pa_nil))))
    (pss_cons (ps_if (PW.pt (pw_or (pt_cmpR op_eq (pv 3) pe_int (nomark _)) (pw_or1 (pt_cmpR op_lt (pv 4) pe_int (nomark _))))) (pss_one (ps_ret (pe_def D__law_leaf (hr.mono (by omega)) (pa_cons (pv 0) (pa_cons (pv 1) (pa_cons (pv 2) pa_nil)))))) pss_nil)
    (pss_cons (ps_if (pt_cmpR op_lt (pv 4) pe_int (nomark _)) (pss_cons (ps_set (i := 5) sc__law_pattern.nd rfl (Or.inl rfl) (pe_def D__law_pattern (hr.mono (by omega)) (pa_cons (pv 0) (pa_cons (pv 1) (pa_cons (pv 2) (pa_cons (pe_op op_sub (pv 3) pe_int) pa_nil))))))
     (pss_one (ps_ret (pe_tup (pa_cons pe_str (pa_cons (pv 5) (pa_cons (pe_def D__law_pattern (hr.mono (by omega)) (pa_cons (pv 0) (pa_cons (pv 1) (pa_cons (pv 2) (pa_cons (pe_op op_sub (pv 3) pe_int) pa_nil))))) pa_nil))))))) pss_nil)
    (pss_cons (ps_if (pt_cmpR op_lt (pv 4) pe_int (nomark _)) (pss_cons (ps_set (i := 6) sc__law_pattern.nd rfl (Or.inl rfl) (pe_def D__law_leaf (hr.mono (by omega)) (pa_cons (pv 0) (pa_cons (pv 1) (pa_cons (pv 2) pa_nil)))))
     (pss_cons (ps_if (pt_cmpR op_eq (pe_def D__law_draw (hr.mono (by omega)) (pa_cons (pv 0) (pa_cons pe_int pa_nil))) pe_int (nomark _)) (pss_one (ps_set (i := 6) sc__law_pattern.nd rfl (Or.inl rfl) (pe_def D__law_pattern (hr.mono (by omega)) (pa_cons (pv 0) (pa_cons (pv 1) (pa_cons (pv 2) (pa_cons (pe_op op_sub (pv 3) pe_int) pa_nil))))))) pss_nil)
     (pss_one (ps_ret (pe_tup (pa_cons pe_str (pa_cons (pv 6) (pa_cons (pe_def D__law_pattern (hr.mono (by omega)) (pa_cons (pv 0) (pa_cons (pv 1) (pa_cons (pv 2) (pa_cons (pe_op op_sub (pv 3) pe_int) pa_nil))))) pa_nil)))))))) pss_nil)
    (pss_cons (ps_set (i := 7) sc__law_pattern.nd rfl (Or.inl rfl) (pe_def D__law_leaf (hr.mono (by omega)) (pa_cons (pv 0) (pa_cons (pv 1) (pa_cons (pv 2) pa_nil)))))
    (pss_cons (ps_if (pt_cmpR op_eq (pv 4) pe_int (nomark _)) (pss_one (ps_ret (pe_tup (pa_cons pe_str (pa_cons (pv 7) pa_nil))))) pss_nil)
    (pss_cons (ps_set (i := 8) sc__law_pattern.nd rfl (Or.inl rfl) (pe_def D__law_pattern (hr.mono (by omega)) (pa_cons (pv 0) (pa_cons (pv 1) (pa_cons (pv 2) (pa_cons (pe_op op_sub (pv 3) pe_int) pa_nil))))))
    (pss_cons (ps_if (pt_cmpR op_eq (pv 4) pe_int (nomark _)) (pss_one (ps_ret (pe_tup (pa_cons pe_str (pa_cons (pv 7) (pa_cons (pv 8) pa_nil)))))) pss_nil)
    (pss_cons (ps_if (pt_cmpR op_eq (pv 4) pe_int (nomark _)) (pss_one (ps_ret (pe_tup (pa_cons pe_str (pa_cons (pv 7) (pa_cons (pv 8) pa_nil)))))) pss_nil)
    (pss_one (ps_ret (pe_tup (pa_cons pe_str (pa_cons (pv 8) pa_nil)))))))))))))), ?_⟩
  refine ⟨_, rfl, L, l, 14, rfl, c.bag, by decide, by decide, fun H1 d e1 hB1 d0 d1 => ?_⟩
  have c1 := c.step e1 hB1
  have leaf : ∀ H2 s, Sb L H H2 → BagL H2 L l → (s = n0 ∨ s = n1) → Q (.str s) H2 := fun H2 s e hb hs => q _ _ _ e hb (.nm s) (Two.nm c.ok0 c.ok1 hs) (by show (1 : Int) ≤ m; exact m1)
  refine ⟨_, rfl, rfl, _, rfl, ?_⟩
  refine iteE (fun _ => iteT ⟨_, rfl, _, rfl, _, rfl, L, l, p, y, n0, n1, rfl, c1, fun H2 s e2 hb hs => leaf _ _ (e1.trans e2) hb hs⟩) (fun hm => ?_)
  have hm : 2 ≤ m := by
    have := of_decide_eq_false hm
    have : m ≠ 1 := fun e => this (by rw [e])
    omega
  have mk2 : ∀ (k : T2) H3 v2 v3 t2 t3, Sb L H H3 → BagL H3 L l → TmIn K H3 v2 t2 → TmIn K H3 v3 t3 → Ok (.two k t2 t3) → Two n0 n1 t2 → Two n0 n1 t3 → (dep t2 : Int) ≤ m - 1 → (dep t3 : Int) ≤ m - 1 → ∀ o, H3 o = none → Q (.ref o) (upd H3 o (.tup [.str k.tag, v2, v3])) := by
    intro k H3 v2 v3 t2 t3 e hb h2 h3 ok w2 w3 d2 d3 o no
    have e4 := same_new no (.tup [.str k.tag, v2, v3])
    refine q _ _ _ (e.trans (Sb.of e4)) (BagL.same e4 hb) (.two (SqT.of upd_same) (h2.same e4) (h3.same e4)) ⟨ok, fun x hx => ?_⟩ ?_
    · rcases List.mem_append.mp (show x ∈ lvs t2 ++ lvs t3 from hx) with hx | hx
      · exact w2.2 x hx
      · exact w3.2 x hx
    · have : dep (.two k t2 t3) = max (dep t2) (dep t3) + 1 := rfl
      omega
  have mk1 : ∀ (k : T1) H3 v2 t2, Sb L H H3 → BagL H3 L l → TmIn K H3 v2 t2 → Ok (.one k t2) → Two n0 n1 t2 → (dep t2 : Int) ≤ m - 1 → ∀ o, H3 o = none → Q (.ref o) (upd H3 o (.tup [.str k.tag, v2])) := by
    intro k H3 v2 t2 e hb h2 ok w2 d2 o no
    have e4 := same_new no (.tup [.str k.tag, v2])
    refine q _ _ _ (e.trans (Sb.of e4)) (BagL.same e4 hb) (.one (SqT.of upd_same) (h2.same e4)) ⟨ok, fun x hx => w2.2 x hx⟩ ?_
    have : dep (.one k t2) = dep t2 + 1 := rfl
    omega
  refine ⟨_, rfl, _, _, rfl, rfl, _, rfl, ?_⟩
  refine iteE (fun _ => ⟨_, rfl, _, rfl, _, rfl, L, l, p, y, n0, n1, rfl, c1, fun H2 s e2 hb hs => leaf _ _ (e1.trans e2) hb hs⟩) (fun _ => ?_)
  refine ⟨_, rfl, _, _, rfl, rfl, _, rfl, ?_⟩
  refine iteE (fun _ => ?_) (fun _ => ?_)
  · refine ⟨_, rfl, _, rfl, _, rfl, _, rfl, _, _, rfl, rfl, L, l, p, y, n0, n1, m - 1, rfl, c1, by omega, by omega, fun H2 v2 t2 e2 hB2 ht2 w2 g2 => ?_⟩
    have c2 := c1.step e2 hB2
    refine ⟨_, rfl, _, rfl, _, rfl, _, rfl, _, rfl, _, _, rfl, rfl, L, l, p, y, n0, n1, m - 1, rfl, c2, by omega, by omega, fun H3 v3 t3 e3 hB3 ht3 w3 g3 => ?_⟩
    exact ⟨three_small, fun o no => mk2 .pair _ _ _ _ _ (e1.trans (e2.trans e3)) hB3 (ht2.at (Bag.tups ⟨l, hB2⟩ e3)) ht3 ⟨w2.1, w3.1⟩ w2 w3 g2 g3 o no⟩
  · refine ⟨_, rfl, _, _, rfl, rfl, _, rfl, ?_⟩
    refine iteE (fun _ => ?_) (fun _ => ?_)
    · refine ⟨_, rfl, _, rfl, _, rfl, L, l, p, y, n0, n1, rfl, c1, fun H2 x e2 hB2 hx => ?_⟩
      have c2 := c1.step e2 hB2
      refine ⟨_, rfl, L, l, 5, rfl, hB2, by decide, by decide, fun H3 d' e3 hB3 _ _ => ?_⟩
      have c3 := c2.step e3 hB3
      refine ⟨rfl, _, rfl, ?_⟩
      refine iteE (fun _ => ?_) (fun _ => ?_)
      case' refine_1 =>
        refine ⟨_, rfl, _, rfl, _, rfl, _, rfl, _, _, rfl, rfl, L, l, p, y, n0, n1, m - 1, rfl, c3, by omega, by omega, fun H4 v4 t4 e4 hB4 ht4 w4 g4 => ?_⟩
        have c4 := c3.step e4 hB4
        have e14 := e1.trans (e2.trans (e3.trans e4))
      case' refine_2 =>
        have c4 := c3
        have hB4 := hB3
        have e14 := e1.trans (e2.trans e3)
        have ht4 : TmIn K H3 (.str x) (.nm x) := .nm x
        have w4 := Two.nm c.ok0 c.ok1 hx
        have g4 : (dep (.nm x) : Int) ≤ m - 1 := by show (1 : Int) ≤ m - 1; omega
      all_goals
        refine ⟨_, rfl, _, rfl, _, rfl, _, rfl, _, rfl, _, _, rfl, rfl, L, l, p, y, n0, n1, m - 1, rfl, c4, by omega, by omega, fun H5 v5 t5 e5 hB5 ht5 w5 g5 => ?_⟩
        exact ⟨three_small, fun o no => mk2 .box _ _ _ _ _ (e14.trans e5) hB5 (ht4.at (Bag.tups ⟨l, hB4⟩ e5)) ht5 ⟨w4.1, w5.1⟩ w4 w5 g4 g5 o no⟩
    · refine ⟨_, rfl, _, rfl, _, rfl, L, l, p, y, n0, n1, rfl, c1, fun H2 x e2 hB2 hx => ?_⟩
      have c2 := c1.step e2 hB2
      have wx := Two.nm c.ok0 c.ok1 hx
      have gx : (dep (.nm x) : Int) ≤ m - 1 := by show (1 : Int) ≤ m - 1; omega
      refine ⟨_, rfl, rfl, _, rfl, ?_⟩
      refine iteE (fun _ => ?_) (fun _ => ?_)
      · exact ⟨_, rfl, two_small, fun o no => mk1 .half _ _ (.nm x) (e1.trans e2) hB2 (.nm x) ⟨rfl, wx.1⟩ wx gx o no⟩
      · refine ⟨_, rfl, _, rfl, _, rfl, _, rfl, _, _, rfl, rfl, L, l, p, y, n0, n1, m - 1, rfl, c2, by omega, by omega, fun H4 v4 t4 e4 hB4 ht4 w4 g4 => ?_⟩
        have e14 := e1.trans (e2.trans e4)
        refine ⟨_, rfl, rfl, _, rfl, ?_⟩
        refine iteE (fun _ => ?_) (fun _ => ?_)
        · exact ⟨_, rfl, _, rfl, three_small, fun o no => mk2 .shut _ _ _ (.nm x) _ e14 hB4 (.nm x) ht4 ⟨rfl, wx.1, w4.1⟩ wx w4 gx g4 o no⟩
        · refine ⟨_, rfl, rfl, _, rfl, ?_⟩
          refine iteE (fun _ => ?_) (fun _ => ?_)
          · exact ⟨_, rfl, _, rfl, three_small, fun o no => mk2 .mark _ _ _ (.nm x) _ e14 hB4 (.nm x) ht4 ⟨rfl, wx.1, w4.1⟩ wx w4 gx g4 o no⟩
          · exact ⟨_, rfl, two_small, fun o no => mk1 .mix _ _ _ e14 hB4 ht4 w4.1 w4 g4 o no⟩
theorem ok__law_pattern (D : At K mg "_law_pattern" s__law_pattern ["_law_bag_here", "_law_names_here", "_law_variables", "_law_depth"]) (D__law_draw : Def P w K mg base 1 "_law_draw" ["_law_bag_here", "_law_many"] spDrawL)
    (D__law_leaf : Def P w K mg base 3 "_law_leaf" ["_law_bag_here", "_law_names_here", "_law_variables"] spLeafD) : ∀ n, Def P w K mg base (n + 3) "_law_pattern" ["_law_bag_here", "_law_names_here", "_law_variables", "_law_depth"] (spPat K n)
  | 0 => (D.no fun vs H Q E h => by
      obtain ⟨L, l, p, y, n0, n1, m, _, _, h1, h2, _⟩ := h
      omega).mono (by omega)
  | n + 1 => ok__law_pattern_succ D D__law_draw D__law_leaf (ok__law_pattern D D__law_draw D__law_leaf n)
theorem ok__law_term (D : At K mg "_law_term" s__law_term ["_law_bag_here", "_law_names_here", "_law_depth"]) (D__law_pattern : Def P w K mg base 7 "_law_pattern" ["_law_bag_here", "_law_names_here", "_law_variables", "_law_depth"] (spPat K 4)) :
    Def P w K mg base 8 "_law_term" ["_law_bag_here", "_law_names_here", "_law_depth"] (spTerm K) := by
  refine D.ok sc__law_term (fun vs H Q E h => ?_) (fun f cdv A outer s H vs Q E hr h => ?_)
  · obtain ⟨L, l, p, n0, n1, rfl, _⟩ := h
    rfl
  obtain ⟨L, l, p, n0, n1, rfl, hB, hp, pL, ok0, ok1, q⟩ := h
  refine ⟨_, (pss_one (ps_ret (pe_def D__law_pattern (hr.mono (by omega)) (pa_cons (pv 0) (pa_cons (pv 1) (pa_cons (pe_lst pa_nil) (pa_cons (pv 2) pa_nil))))))), ?_⟩
  refine ⟨_, rfl, _, rfl, small_of (by show 0 ≤ 1000000; decide), fun y ny => ?_⟩
  have e0 : Same H (upd H y (.lst [])) := same_new ny _
  have yL : y ≠ L := fun e => by
    obtain ⟨xs, h⟩ := Bag.lst ⟨l, hB⟩
    rw [e, h] at ny
    cases ny
  refine ⟨_, rfl, L, l, p, y, n0, n1, 4, rfl, ⟨BagL.same e0 hB, e0 _ _ hp, pL, upd_same, yL, ok0, ok1⟩, by decide, by decide, fun H1 v t e1 hB1 ht wt gt => ?_⟩
  exact q _ _ _ ((Sb.of e0).trans e1) hB1 ht wt (by omega)
end
end K6

set_option Elab.async false
set_option linter.all false
set_option maxRecDepth 100000
set_option maxHeartbeats 8000000
/-! the law's own helpers: same -/
namespace K6
open PySem PySem.Spec PyProof.Rows L2
abbrev s__law_same : Stmt := top 52
abbrev N__law_same : List Str := ["_law_actual", "_law_due", "_law_key", "_law_k"]
theorem sc__law_same : FnScope N__law_same ["_law_actual", "_law_due"] (defScope s__law_same) := ⟨rfl, rfl, rfl, by decide +kernel, rfl, by decide +kernel, by decide +kernel⟩
/-- two values of one shape -/
def Sm (K : PySem.W.Frag) (H : Hp) : Nat → V → V → Prop
  | 0, _, _ => False
  | n + 1, a, d => (∃ i, a = .int i ∧ d = .int i) ∨ (∃ x, a = .str x ∧ d = .str x) ∨ ∃ (p y : Addr) (us vs : List V), a = .ref p ∧ d = .ref y ∧ ((SqL K H p us ∧ SqL K H y vs) ∨ (SqT K H p us ∧ SqT K H y vs)) ∧ us.length = vs.length ∧ us.length ≤ 100000 ∧
      ∀ (i : Nat) u v, us[i]? = some u → vs[i]? = some v → Sm K H n u v
theorem same_sql {K : PySem.W.Frag} {H H' : Hp} (e : Same H H') {p : Addr} {xs : List V} (h : SqL K H p xs) : SqL K H' p xs := by
  rcases h with (h | ⟨o, h⟩) | h
  · exact .inl (.inl (e _ _ h))
  · exact .inl (.inr ⟨o, e _ _ h⟩)
  · exact .inr h
theorem sm_same {K : PySem.W.Frag} {H H' : Hp} (e : Same H H') : ∀ {n : Nat} {a d : V}, Sm K H n a d → Sm K H' n a d
  | 0, _, _, h => h
  | n + 1, a, d, h => by
    rcases h with h | h | ⟨p, y, us, vs, h1, h2, h3, h4, h5, h6⟩
    · exact .inl h
    · exact .inr (.inl h)
    · refine .inr (.inr ⟨p, y, us, vs, h1, h2, ?_, h4, h5, fun i u v a b => sm_same e (h6 i u v a b)⟩)
      rcases h3 with ⟨a, b⟩ | ⟨a, b⟩
      · exact .inl ⟨same_sql e a, same_sql e b⟩
      · exact .inr ⟨same_sqt e a, same_sqt e b⟩
theorem sm_tm {K : PySem.W.Frag} {H : Hp} : ∀ (n : Nat) {a d : V} {t : Tm}, TmIn K H a t → TmIn K H d t → dep t ≤ n → Sm K H n a d
  | 0, _, _, t, _, _, h => by
    have := dep_pos t
    omega
  | n + 1, a, d, t, ha, hd, h => by
    rcases ha.view with ⟨x, rfl, rfl⟩ | ⟨hN, p, us, rfl, hp, hk⟩
    · cases hd
      exact .inr (.inl ⟨x, rfl, rfl⟩)
    · rcases hd.view with ⟨x, rfl, rfl⟩ | ⟨_, y, vs, rfl, hy, hl⟩
      · cases hN
      · have l1 := hk.len
        have l2 := hl.len
        have l3 := kids_len hN
        refine .inr (.inr ⟨p, y, _, _, rfl, rfl, .inr ⟨hp, hy⟩, by rw [List.length_cons, List.length_cons, l1, l2], by rw [List.length_cons, l1]; omega, fun i u v hu hv => ?_⟩)
        cases i with
        | zero =>
          have e1 : V.str (tag t) = u := by simpa using hu
          have e2 : V.str (tag t) = v := by simpa using hv
          subst e1 e2
          cases hkk : kids t with
          | nil => rw [hkk] at l3; simp at l3
          | cons b r =>
            have := kids_dep (t := t) (a := b) (by rw [hkk]; exact List.mem_cons_self)
            have := dep_pos b
            cases n with
            | zero => omega
            | succ n => exact .inr (.inl ⟨_, rfl, rfl⟩)
        | succ i =>
          obtain ⟨b, hb, tb⟩ := hk.get (i := i) (v := u) (by simpa using hu)
          obtain ⟨c, hc, tc⟩ := hl.get (i := i) (v := v) (by simpa using hv)
          rw [hb] at hc
          cases hc
          have := kids_dep (List.mem_of_getElem? hb)
          exact sm_tm n tb tc (by omega)
theorem sm_tms {K : PySem.W.Frag} {H : Hp} {n : Nat} {p y : Addr} {us vs : List V} {ts : List Tm} (h1 : SqL K H p us) (h2 : SqL K H y vs) (t1 : Tms K H us ts) (t2 : Tms K H vs ts) (hd : ∀ t ∈ ts, dep t ≤ n) (hl : ts.length ≤ 100000) : Sm K H (n + 1) (.ref p) (.ref y) := by
  refine .inr (.inr ⟨p, y, us, vs, rfl, rfl, .inl ⟨h1, h2⟩, t1.len.trans t2.len.symm, by rw [t1.len]; exact hl, fun i u v hu hv => ?_⟩)
  obtain ⟨b, hb, tb⟩ := t1.get hu
  obtain ⟨c, hc, tc⟩ := t2.get hv
  rw [hb] at hc
  cases hc
  exact sm_tm n tb tc (hd b (List.mem_of_getElem? hb))
theorem sm_strs {K : PySem.W.Frag} {H : Hp} {p y : Addr} {xs : List Str} (h1 : SqL K H p (xs.map V.str)) (h2 : SqL K H y (xs.map V.str)) (hl : xs.length ≤ 100000) : Sm K H 2 (.ref p) (.ref y) := by
  refine .inr (.inr ⟨p, y, _, _, rfl, rfl, .inl ⟨h1, h2⟩, rfl, by rw [List.length_map]; exact hl, fun i u v hu hv => ?_⟩)
  rw [hu] at hv
  cases hv
  rw [List.getElem?_map] at hu
  cases hx : xs[i]? with
  | none => rw [hx] at hu; cases hu
  | some x =>
    rw [hx] at hu
    obtain rfl : V.str x = u := Option.some.inj hu
    exact .inr (.inl ⟨x, rfl, rfl⟩)
theorem sm_ints {K : PySem.W.Frag} {H : Hp} {p y : Addr} {xs : List Int} (h1 : SqL K H p (xs.map V.int)) (h2 : SqL K H y (xs.map V.int)) (hl : xs.length ≤ 100000) : Sm K H 2 (.ref p) (.ref y) := by
  refine .inr (.inr ⟨p, y, _, _, rfl, rfl, .inl ⟨h1, h2⟩, rfl, by rw [List.length_map]; exact hl, fun i u v hu hv => ?_⟩)
  rw [hu] at hv
  cases hv
  rw [List.getElem?_map] at hu
  cases hx : xs[i]? with
  | none => rw [hx] at hu; cases hu
  | some x =>
    rw [hx] at hu
    obtain rfl : V.int x = u := Option.some.inj hu
    exact .inl ⟨x, rfl, rfl⟩
theorem rix_of {K : PySem.W.Frag} {H : Hp} {Q : VK} {p : Addr} {us : List V} {i : Int} {u : V} (h : SqL K H p us ∨ SqT K H p us) (a : atI us i = some u) (q : Q u H) : rIx K (.ref p) (.int i) H Q := by
  rcases h with h | h
  · exact .inl ⟨p, us, i, u, rfl, rfl, h, a, q⟩
  · exact .inr (.inl ⟨p, us, i, u, rfl, rfl, h, a, q⟩)
def spSame (K : PySem.W.Frag) (n : Nat) : Sp := fun vs H Q _ => ∃ a d, vs = [a, d] ∧ Sm K H n a d ∧ ∀ H', Same H H' → Q (.bl true) H'
section
variable {P : Program} {w : World} {K : PySem.W.Frag} {mg : Str → Option Value} {base : Heap} {aN aL : Addr}
theorem ok__law_same_succ {n : Nat} (D : At K mg "_law_same" s__law_same ["_law_actual", "_law_due"]) (B : Bt mg) (D__law_same : Def P w K mg base n "_law_same" ["_law_actual", "_law_due"] (spSame K n)) : Def P w K mg base (n + 1) "_law_same" ["_law_actual", "_law_due"] (spSame K (n + 1)) := by
  refine D.ok sc__law_same (fun vs H Q E h => ?_) (fun f cdv A outer s H vs Q E hr h => ?_)
  · obtain ⟨a, d, rfl, _⟩ := h
    rfl
  obtain ⟨a, d, rfl, hS, q⟩ := h
  refine ⟨_, (pss_cons (ps_if (pt_cmpR op_isN (pv 1) pe_non (nomark _)) (pss_one (ps_ret (pe_cmpR op_isN (pv 0) pe_non (nomark _)))) pss_nil)
    (pss_cons (ps_if (PW.pt (pw_or (pt_val (pe_b call_isi B.isinstance boot_isi (pa_cons (pv 1) (pa_cons (pe_ty B.bool boot_ty_bool) pa_nil)))) (pw_or1 (pt_val (pe_b call_isi B.isinstance boot_isi (pa_cons (pv 0) (pa_cons (pe_ty B.bool boot_ty_bool) pa_nil))))))) (pss_one (ps_ret (pe_and (pe_b call_isi B.isinstance boot_isi (pa_cons (pv 1) (pa_cons (pe_ty B.bool boot_ty_bool) pa_nil))) (pe_and (pe_b call_isi B.isinstance boot_isi (pa_cons (pv 0) (pa_cons (pe_ty B.bool boot_ty_bool) pa_nil))) (pe_one (pe_cmpR op_eq (pv 0) (pv 1) (nomark _))))))) pss_nil)
    (pss_cons (ps_if (pt_val (pe_b call_isi B.isinstance boot_isi (pa_cons (pv 1) (pa_cons (pe_ty B.int boot_ty_int) pa_nil)))) (pss_one (ps_ret (pe_and (pe_b call_isi B.isinstance boot_isi (pa_cons (pv 0) (pa_cons (pe_ty B.int boot_ty_int) pa_nil))) (pe_one (pe_cmpR op_eq (pv 0) (pv 1) (nomark _)))))) pss_nil)
    (pss_cons (ps_if (pt_val (pe_b call_isi B.isinstance boot_isi (pa_cons (pv 1) (pa_cons (pe_ty B.str boot_ty_str) pa_nil)))) (pss_one (ps_ret (pe_and (pe_b call_isi B.isinstance boot_isi (pa_cons (pv 0) (pa_cons (pe_ty B.str boot_ty_str) pa_nil))) (pe_one (pe_cmpR op_eq (pv 0) (pv 1) (nomark _)))))) pss_nil)
    (pss_cons (ps_if (pt_val (pe_b call_isi B.isinstance boot_isi (pa_cons (pv 1) (pa_cons (pe_ty B.dict boot_ty_dict) pa_nil)))) pss_never pss_nil)
    (pss_cons (ps_if (PW.pt (pw_or (pt_cmpR op_ne (pe_b call_isi B.isinstance boot_isi (pa_cons (pv 1) (pa_cons (pe_ty B.list boot_ty_list) pa_nil))) (pe_b call_isi B.isinstance boot_isi (pa_cons (pv 0) (pa_cons (pe_ty B.list boot_ty_list) pa_nil))) (nomark _)) (pw_or1 (pt_not (pt_val (pe_b call_isiT B.isinstance boot_isi (pa_cons (pv 0) (pa_cons (pe_tup (pa_cons (pe_ty B.list boot_ty_list) (pa_cons (pe_ty B.tuple boot_ty_tuple) pa_nil))) pa_nil)))))))) (pss_one (ps_ret pe_bl)) pss_nil)
    (pss_cons (ps_if (pt_cmpR op_ne (pe_b call_len_seq B.len boot_ln (pa_cons (pv 0) pa_nil)) (pe_b call_len_seq B.len boot_ln (pa_cons (pv 1) pa_nil)) (nomark _)) (pss_one (ps_ret pe_bl)) pss_nil)
    (pss_one (ps_ret (pe_cmpR op_eq (pe_b call_len_seq B.len boot_ln (pa_cons (pe_lc rfl sc__law_same.nd (pi_range1 (by rfl) B.range (pa_cons (pe_b call_len_seq B.len boot_ln (pa_cons (pv 1) pa_nil)) pa_nil)) (blkOk_by (own := [("_law_k", 3)]) (N := N__law_same) (sc := defScope s__law_same) (by decide +kernel)) (fun _ _ _ _ _ => pg_name (i := 3) sc__law_same.nd rfl (Or.inl rfl)) (fun _ _ _ _ _ => pts_one (pt_not (pt_val (pe_def D__law_same (hr.mono (by omega)) (pa_cons (pe_ix (ixQ K) (pv 0) (pv 3) (fun _ _ => rfl)) (pa_cons (pe_ix (ixQ K) (pv 1) (pv 3) (fun _ _ => rfl)) pa_nil)))))) (fun _ _ _ _ _ => (pv 3))) pa_nil)) pe_int (nomark _))))))))))), ?_⟩
  rcases hS with ⟨i, rfl, rfl⟩ | ⟨x, rfl, rfl⟩ | ⟨p, y, us, vs, rfl, rfl, hq, hl, hz, hk⟩
  · refine ⟨_, rfl, rfl, _, rfl, iteN (decide_eq_false fun e => by cases e) ?_⟩
    refine ⟨_, rfl, _, _, _, _, false, rfl, .ty "bool", .base (.int i), kit_ty (by decide +kernel), _, rfl, iteF ?_⟩
    refine ⟨_, rfl, _, _, _, _, false, rfl, .ty "bool", .base (.int i), kit_ty (by decide +kernel), _, rfl, iteF ?_⟩
    refine ⟨_, rfl, _, _, _, _, true, rfl, .ty "int", .base (.int i), kit_ty (by decide +kernel), _, rfl, iteT ?_⟩
    refine ⟨_, rfl, _, _, _, _, true, rfl, .ty "int", .base (.int i), kit_ty (by decide +kernel), _, rfl, iteT ?_⟩
    refine ⟨_, rfl, _, rfl, rfl, ?_⟩
    rw [decide_eq_true rfl]
    exact q _ (Same.refl _)
  · refine ⟨_, rfl, rfl, _, rfl, iteN (decide_eq_false fun e => by cases e) ?_⟩
    refine ⟨_, rfl, _, _, _, _, false, rfl, .ty "bool", .base (.str x), kit_ty (by decide +kernel), _, rfl, iteF ?_⟩
    refine ⟨_, rfl, _, _, _, _, false, rfl, .ty "bool", .base (.str x), kit_ty (by decide +kernel), _, rfl, iteF ?_⟩
    refine ⟨_, rfl, _, _, _, _, false, rfl, .ty "int", .base (.str x), kit_ty (by decide +kernel), _, rfl, iteF ?_⟩
    refine ⟨_, rfl, _, _, _, _, true, rfl, .ty "str", .base (.str x), kit_ty (by decide +kernel), _, rfl, iteT ?_⟩
    refine ⟨_, rfl, _, _, _, _, true, rfl, .ty "str", .base (.str x), kit_ty (by decide +kernel), _, rfl, iteT ?_⟩
    refine ⟨_, rfl, _, rfl, rfl, ?_⟩
    rw [decide_eq_true rfl]
    exact q _ (Same.refl _)
  · refine ⟨_, rfl, rfl, _, rfl, iteN (decide_eq_false fun e => by cases e) ?_⟩
    have seq : (SqL K H p us ∨ SqT K H p us) ∧ (SqL K H y vs ∨ SqT K H y vs) := by
      rcases hq with ⟨h1, h2⟩ | ⟨h1, h2⟩
      · exact ⟨.inl h1, .inl h2⟩
      · exact ⟨.inr h1, .inr h2⟩
    have hsz : us.length ≤ sizeLine := small_of (by omega)
    rcases hq with ⟨h1, h2⟩ | ⟨h1, h2⟩
    case' inl =>
      have ty1 := tyx_lst h1
      have ty2 := tyx_lst h2
      refine ⟨_, rfl, _, _, _, _, false, rfl, .ty "bool", ty2, kit_ty (by decide +kernel), _, rfl, iteF ?_⟩
      refine ⟨_, rfl, _, _, _, _, false, rfl, .ty "bool", ty1, kit_ty (by decide +kernel), _, rfl, iteF ?_⟩
      refine ⟨_, rfl, _, _, _, _, false, rfl, .ty "int", ty2, kit_ty (by decide +kernel), _, rfl, iteF ?_⟩
      refine ⟨_, rfl, _, _, _, _, false, rfl, .ty "str", ty2, kit_ty (by decide +kernel), _, rfl, iteF ?_⟩
      refine ⟨_, rfl, _, _, _, _, false, rfl, .ty "dict", ty2, kit_ty (by decide +kernel), _, rfl, iteF ?_⟩
      refine ⟨_, rfl, _, _, _, _, true, rfl, .ty "list", ty2, kit_ty (by decide +kernel), ?_⟩
      refine ⟨_, rfl, _, _, _, _, true, rfl, .ty "list", ty1, kit_ty (by decide +kernel), rfl, _, rfl, iteN (by rw [decide_eq_true rfl]; rfl) ?_⟩
      refine ⟨_, rfl, two_small, fun T nT => ?_⟩
      have eT := same_new nT (.tup [.ty "list", .ty "tuple"])
      refine ⟨_, T, _, _, _, true, rfl, upd_same, .cons (.ty "list") (.cons (.ty "tuple") .nil), tyx_lst (same_sql eT h1), kitAny_cons (b := true) (kit_ty (by decide +kernel)) (fun e => nomatch e) (fun _ => rfl), _, rfl, iteF ?_⟩
    case' inr =>
      have ty1 := tyx_tup h1
      have ty2 := tyx_tup h2
      refine ⟨_, rfl, _, _, _, _, false, rfl, .ty "bool", ty2, kit_ty (by decide +kernel), _, rfl, iteF ?_⟩
      refine ⟨_, rfl, _, _, _, _, false, rfl, .ty "bool", ty1, kit_ty (by decide +kernel), _, rfl, iteF ?_⟩
      refine ⟨_, rfl, _, _, _, _, false, rfl, .ty "int", ty2, kit_ty (by decide +kernel), _, rfl, iteF ?_⟩
      refine ⟨_, rfl, _, _, _, _, false, rfl, .ty "str", ty2, kit_ty (by decide +kernel), _, rfl, iteF ?_⟩
      refine ⟨_, rfl, _, _, _, _, false, rfl, .ty "dict", ty2, kit_ty (by decide +kernel), _, rfl, iteF ?_⟩
      refine ⟨_, rfl, _, _, _, _, false, rfl, .ty "list", ty2, kit_ty (by decide +kernel), ?_⟩
      refine ⟨_, rfl, _, _, _, _, false, rfl, .ty "list", ty1, kit_ty (by decide +kernel), rfl, _, rfl, iteN (by rw [decide_eq_true rfl]; rfl) ?_⟩
      refine ⟨_, rfl, two_small, fun T nT => ?_⟩
      have eT := same_new nT (.tup [.ty "list", .ty "tuple"])
      refine ⟨_, T, _, _, _, true, rfl, upd_same, .cons (.ty "list") (.cons (.ty "tuple") .nil), tyx_tup (same_sqt eT h1), kitAny_cons (b := false) (kit_ty (by decide +kernel)) (fun _ => kitAny_cons (b := true) (kit_ty (by decide +kernel)) (fun e => nomatch e) (fun _ => rfl)) (fun e => nomatch e), _, rfl, iteF ?_⟩
    all_goals
      have seq1 : ∀ {H'}, Same H H' → (SqL K H' p us ∨ SqT K H' p us) ∧ (SqL K H' y vs ∨ SqT K H' y vs) := fun e => ⟨seq.1.imp (same_sql e) (same_sqt e), seq.2.imp (same_sql e) (same_sqt e)⟩
      refine ⟨_, rfl, p, us, rfl, (seq1 eT).1, _, rfl, y, vs, rfl, (seq1 eT).2, rfl, _, rfl, iteN (by rw [hl, decide_eq_true rfl]; rfl) ?_⟩
      refine ⟨_, rfl, y, vs, rfl, (seq1 eT).2, _, rfl, by omega, by omega, fun L nL => ?_⟩
      have nn : ((vs.length : Nat) : Int).toNat = vs.length := Int.toNat_natCast _
      rw [nn]
      refine lc_it (walk_range (lo := 0) (n := vs.length)) (fun i H' => Same (upd H T (.tup [.ty "list", .ty "tuple"])) H' ∧ H' L = some (.lst [])) ⟨same_new nL _, upd_same⟩ (fun _ _ _ _ => trivial) ?_ ?_
      · rintro i x H2 H3 hi ⟨e2, hL⟩ ⟨rfl, rfl⟩
        refine ⟨rfl, ?_⟩
        obtain ⟨u, hu⟩ : ∃ u, us[i]? = some u := ⟨_, List.getElem?_eq_getElem (by omega)⟩
        obtain ⟨v, hv⟩ : ∃ v, vs[i]? = some v := ⟨_, List.getElem?_eq_getElem hi⟩
        have e02 := eT.trans e2
        refine ⟨_, rfl, _, rfl, rix_of (seq1 e02).1 (by rw [Int.zero_add]; exact atI_nat hu) ?_⟩
        refine ⟨_, rfl, _, rfl, rix_of (seq1 e02).2 (by rw [Int.zero_add]; exact atI_nat hv) ?_⟩
        refine ⟨u, v, rfl, sm_same e02 (hk i u v hu hv), fun H4 e4 => ⟨_, rfl, iteF ⟨e2.trans e4, e4 _ _ hL⟩⟩⟩
      · rintro H2 ⟨e2, hL⟩
        refine ⟨L, [], rfl, .inl (SqL.of hL), rfl, ?_⟩
        show Q (.bl (decide (V.int ((0 : Nat) : Int) = V.int 0))) H2
        rw [show decide (V.int ((0 : Nat) : Int) = V.int 0) = true by decide +kernel]
        exact q _ (eT.trans e2)
theorem ok__law_same (D : At K mg "_law_same" s__law_same ["_law_actual", "_law_due"]) (B : Bt mg) : ∀ n, Def P w K mg base n "_law_same" ["_law_actual", "_law_due"] (spSame K n)
  | 0 => D.no fun vs H Q E h => by
      obtain ⟨a, d, _, h, _⟩ := h
      exact h
  | n + 1 => ok__law_same_succ D B (ok__law_same D B n)
end
end K6

set_option Elab.async false
set_option linter.all false
set_option maxRecDepth 100000
set_option maxHeartbeats 8000000
/-! the law's own helpers: two names -/
namespace K6
open PySem PySem.Spec PyProof.Rows L2
theorem notInQ {X : Cx} (K : PySem.W.Frag) (h : X.K = K := by rfl) : OpR X (compareOp .NotIn) (rIn K true) := by
  subst h
  exact op_notIn_seq
theorem joinL_nil : ∀ cs : List Nat, TL.joinL [] (cs.map fun c => [c]) = cs
  | [] => rfl
  | [c] => rfl
  | c :: d :: r => by
    show [c] ++ ([] ++ TL.joinL [] ((d :: r).map fun c => [c])) = _
    rw [joinL_nil (d :: r)]
    rfl
theorem join_ones (cs : List Nat) : Txt.join "" (cs.map fun c => mks [c]) = mks cs := by
  apply cl_inj
  rw [TL.join_eq]
  refine (TL.tl_join _ _).trans ?_
  rw [show TL.tl ("" : Str) = [] by decide +kernel, List.map_map]
  exact joinL_nil cs
theorem inV_str (s : Str) (xs : List Str) : inV (.str s) (xs.map V.str) = decide (s ∈ xs) := by
  unfold inV
  rw [List.any_map]
  rw [Bool.eq_iff_iff, List.any_eq_true, decide_eq_true_eq]
  constructor
  · rintro ⟨x, hx, e⟩
    have e : (x == s) = true := e
    rw [← eq_of_beq e]
    exact hx
  · intro h
    exact ⟨s, h, beq_self_eq_true s⟩
theorem flat_strs (xs : List Str) : (xs.map V.str).all flatV = true := by
  rw [List.all_map, List.all_eq_true]
  intro x _
  rfl
theorem letters25 : cl "abcdefghijklmnoprstuvwxyz" = List.range' 97 16 ++ List.range' 114 9 := by decide +kernel
theorem let25 {c : Nat} (h : c ∈ cl "abcdefghijklmnoprstuvwxyz") : Let c := by
  rw [letters25, List.mem_append, List.mem_range'_1, List.mem_range'_1] at h
  unfold Let
  omega
theorem isNm_of {l : List Nat} (h1 : 1 ≤ l.length) (h2 : l.length ≤ 8) (h3 : ∀ c ∈ l, Let c) : IsNm (mks l) := ⟨h1, h2, h3⟩
theorem words6 : ∀ x ∈ (["half", "mix", "pair", "box", "var", "heard"] : List Str), 1 ≤ (cl x).length ∧ (cl x).length ≤ 8 ∧ ∀ c ∈ cl x, 97 ≤ c ∧ c ≤ 122 := by decide +kernel
theorem ones_of : ∀ {ys : List V}, (∀ (i : Nat) y, ys[i]? = some y → ∃ c, Let c ∧ y = .str (mks [c])) → ∃ cs : List Nat, ys = (cs.map fun c => mks [c]).map V.str ∧ (∀ c ∈ cs, Let c) ∧ cs.length = ys.length
  | [], _ => ⟨[], rfl, fun _ h => (List.not_mem_nil h).elim, rfl⟩
  | y :: ys, h => by
    obtain ⟨c, hc, rfl⟩ := h 0 y rfl
    obtain ⟨cs, e, hcs, hl⟩ := ones_of (ys := ys) fun i y hy => h (i + 1) y (by simpa using hy)
    refine ⟨c :: cs, by rw [e]; rfl, fun d hd => ?_, by rw [List.length_cons, List.length_cons, hl]⟩
    rcases List.mem_cons.mp hd with rfl | hd
    · exact hc
    · exact hcs d hd
theorem ones_sum : ∀ cs : List Nat, ((cs.map fun c => mks [c]).map (·.length)).sum = cs.length
  | [] => rfl
  | c :: cs => by
    rw [List.map_cons, List.map_cons, List.sum_cons, ones_sum cs, List.length_cons, len_mks]
    show 1 + cs.length = _
    omega
theorem len_nil : ("" : Str).length = 0 := by decide +kernel
theorem len25 : (cl "abcdefghijklmnoprstuvwxyz").length = 25 := by decide +kernel
theorem q_y : ("y" : Str) = mks [121] := by decide +kernel
theorem ay_ne : mks [97, 121] ≠ mks [98, 121] := by decide +kernel
theorem small25 : ("abcdefghijklmnoprstuvwxyz" : Str).length ≤ sizeLine := small_of (by rw [len_cl, len25]; decide)
abbrev s__law_names : Stmt := top 53
abbrev N__law_names : List Str := ["_law_bag_here", "_law_many", "_law_letters", "_law_names_here", "_law_k", "_law_size", "_law_name", "_law_at", "_law_letter"]
theorem sc__law_names : FnScope N__law_names ["_law_bag_here", "_law_many"] (defScope s__law_names) := ⟨rfl, rfl, rfl, by decide +kernel, rfl, by decide +kernel, by decide +kernel⟩
def spNames (K : PySem.W.Frag) : Sp := fun vs H Q _ => ∃ (L l : Addr), vs = [.ref L, .int 2] ∧ BagL H L l ∧ ∀ H' p n0 n1, Sb L H H' → BagL H' L l → H p = none → H' p = some (.lst [.str n0, .str n1]) → IsNm n0 → IsNm n1 → n0 ≠ n1 → Q (.ref p) H'
/-- the names so far -/
structure NmsAt (H : Hp) (L l N : Addr) (xs : List Str) (H' : Hp) : Prop where
  sb : Sb L H H'
  bag : BagL H' L l
  lst : H' N = some (.lst (xs.map V.str))
theorem NmsAt.step {H H1 H2 : Hp} {L l N : Addr} {xs : List Str} (h : NmsAt H L l N xs H1) (nL : N ≠ L) (e : Sb L H1 H2) (b : BagL H2 L l) : NmsAt H L l N xs H2 := ⟨h.sb.trans e, b, e _ _ nL h.lst⟩
theorem NmsAt.same {H H1 H2 : Hp} {L l N : Addr} {xs : List Str} (h : NmsAt H L l N xs H1) (e : Same H1 H2) : NmsAt H L l N xs H2 := ⟨h.sb.trans (Sb.of e), BagL.same e h.bag, e _ _ h.lst⟩
theorem NmsAt.off {H H7 H8 : Hp} {L l N D : Addr} {xs : List Str} (h : NmsAt H L l N xs H7) (nD : H7 D = none) (h8 : NmsAt H L l N xs H8) (o : HO) : NmsAt H L l N xs (upd H8 D o) :=
  ⟨fun b u n q => by rw [upd_ne (ne_of_none (h.sb b u n q) nD)]; exact h8.sb b u n q, BagL.none h.bag nD h8.bag o, by rw [upd_ne (ne_of_none h.lst nD)]; exact h8.lst⟩
theorem mem_nonempty {α : Type} {l : List α} {x : α} (h : x ∈ l) : l ≠ [] := fun e => by
  rw [e] at h
  exact List.not_mem_nil h
section
variable {P : Program} {w : World} {K : PySem.W.Frag} {mg : Str → Option Value} {base : Heap} {aN aL : Addr}
theorem ok__law_names (D : At K mg "_law_names" s__law_names ["_law_bag_here", "_law_many"]) (B : Bt mg) (D__law_draw : Def P w K mg base 1 "_law_draw" ["_law_bag_here", "_law_many"] spDrawL) : Def P w K mg base 2 "_law_names" ["_law_bag_here", "_law_many"] (spNames K) := by
  refine D.ok sc__law_names (fun vs H Q E h => ?_) (fun f cdv A outer s H vs Q E hr h => ?_)
  · obtain ⟨L, l, rfl, _⟩ := h
    rfl
  obtain ⟨L, l, rfl, hB, q⟩ := h
  refine ⟨_, (pss_cons (ps_set (i := 2) sc__law_names.nd rfl (Or.inr rfl) pe_str)
    (pss_cons (ps_set (i := 3) sc__law_names.nd rfl (Or.inr rfl) (pe_lst pa_nil))
    (pss_cons (ps_for PassesOwn.never rfl (pi_range1 (by rfl) B.range (pa_cons (pv 1) pa_nil)) (pg_name (i := 4) sc__law_names.nd rfl (Or.inl rfl)) (pss_cons (ps_set (i := 5) sc__law_names.nd rfl (Or.inl rfl) (pe_ix (ixL K) (pe_lst (pa_cons pe_int (pa_cons pe_int (pa_cons pe_int (pa_cons pe_int (pa_cons pe_int pa_nil)))))) (pe_def D__law_draw (hr.mono (by omega)) (pa_cons (pv 0) (pa_cons pe_int pa_nil))) (fun _ _ => rfl)))
     (pss_cons (ps_set (i := 6) sc__law_names.nd rfl (Or.inl rfl) (pe_join pe_str (pe_lc rfl sc__law_names.nd (pi_range1 (by rfl) B.range (pa_cons (pv 5) pa_nil)) (blkOk_by (own := [("_law_at", 7)]) (N := N__law_names) (sc := defScope s__law_names) (by decide +kernel)) (fun _ _ _ _ _ => pg_name (i := 7) sc__law_names.nd rfl (Or.inl rfl)) (fun _ _ _ _ _ => pts_nil) (fun _ _ _ _ _ => (pe_ix ix_str (pv 2) (pe_def D__law_draw (hr.mono (by omega)) (pa_cons (pv 0) (pa_cons pe_int pa_nil))) (fun _ _ => rfl))))))
     (pss_cons (ps_if (pt_cmpR op_eq (pe_def D__law_draw (hr.mono (by omega)) (pa_cons (pv 0) (pa_cons pe_int pa_nil))) pe_int (nomark _)) (pss_one (ps_set (i := 6) sc__law_names.nd rfl (Or.inl rfl) (pe_ix (ixL K) (pe_lst (pa_cons pe_str (pa_cons pe_str (pa_cons pe_str (pa_cons pe_str (pa_cons pe_str (pa_cons pe_str pa_nil))))))) (pe_def D__law_draw (hr.mono (by omega)) (pa_cons (pv 0) (pa_cons pe_int pa_nil))) (fun _ _ => rfl)))) pss_nil)
     (pss_cons (ps_if (pt_cmpR op_in_seq (pv 6) (pv 3) (by rfl)) (pss_one (ps_set (i := 6) sc__law_names.nd rfl (Or.inl rfl) (pe_ix (ixL K) (pe_lc rfl sc__law_names.nd (pi_str (pv 2)) (blkOk_by (own := [("_law_letter", 8)]) (N := N__law_names) (sc := defScope s__law_names) (by decide +kernel)) (fun _ _ _ _ _ => pg_name (i := 8) sc__law_names.nd rfl (Or.inl rfl)) (fun _ _ _ _ _ => pts_one (pt_cmpR (notInQ K) (pe_op op_addS (pv 8) pe_str) (pv 3) (by rfl))) (fun _ _ _ _ _ => (pe_op op_addS (pv 8) pe_str))) pe_int (fun _ _ => rfl)))) pss_nil)
     (pss_one (ps_expr (pe_bm PySem.F.plainAttrs_list PySem.F.slot_list_append PySem.F.type_list_append mt_append (pv 3) (pa_cons (pv 6) pa_nil)))))))))
    (pss_one (ps_ret (pv 3)))))), ?_⟩
  refine ⟨small_of (by show 0 ≤ 1000000; decide), fun N nN => ?_⟩
  have nNL : N ≠ L := fun e => by
    obtain ⟨ns, a, b, c, d, h, _⟩ := hB
    rw [e, h] at nN
    cases nN
  have e0 : Same H (upd H N (.lst [])) := same_new nN _
  refine ⟨_, rfl, 2, rfl, by decide, by decide, ?_⟩
  refine for_it (walk_range (lo := 0) (n := (2 : Int).toNat)) (fun i σ H' => ∃ (xs : List Str) (y4 y5 y6 y7 y8 : Option V), xs.length = i ∧ xs.Nodup ∧ (∀ x ∈ xs, IsNm x) ∧ NmsAt H L l N xs H' ∧
    σ = [some (.ref L), some (.int 2), some (.str "abcdefghijklmnoprstuvwxyz"), some (.ref N), y4, y5, y6, y7, y8]) ⟨[], _, _, _, _, _, rfl, List.nodup_nil, fun _ h => (List.not_mem_nil h).elim, ⟨Sb.of e0, BagL.same e0 hB, upd_same⟩, rfl⟩ (fun _ _ _ _ _ => trivial) ?_ ?_
  · rintro i x σ H0 H1 hi ⟨xs, y4, y5, y6, y7, y8, hxl, hnd, hok, hA, rfl⟩ ⟨rfl, rfl⟩
    have L1 : ∀ {D o}, H1 D = none → H1 L = some o → D ≠ L := fun nD h e => by rw [e, h] at nD; cases nD
    obtain ⟨oL, hoL⟩ : ∃ o, H1 L = some o := by
      obtain ⟨ns, a, b, c, d, h, _⟩ := hA.bag
      exact ⟨_, h⟩
    refine ⟨small_of (by show 5 ≤ 1000000; decide), fun p1 np1 => ?_⟩
    have hA1 := hA.same (same_new np1 (.lst [.int 1, .int 1, .int 2, .int 3, .int 8]))
    refine ⟨_, rfl, L, l, 5, rfl, hA1.bag, by decide, by decide, fun H2 d e2 hB2 d0 d1 => ?_⟩
    have hA2 := hA1.step nNL e2 hB2
    have hp1 := e2 p1 _ (L1 np1 hoL) upd_same
    obtain ⟨x, hx, hm⟩ := at_get (l := [V.int 1, .int 1, .int 2, .int 3, .int 8]) d0 d1
    have hk : ∃ k : Nat, x = .int (k : Int) ∧ 1 ≤ k ∧ k ≤ 8 := by
      simp only [List.mem_cons, List.not_mem_nil, or_false] at hm
      rcases hm with rfl | rfl | rfl | rfl | rfl
      · exact ⟨1, rfl, by decide, by decide⟩
      · exact ⟨1, rfl, by decide, by decide⟩
      · exact ⟨2, rfl, by decide, by decide⟩
      · exact ⟨3, rfl, by decide, by decide⟩
      · exact ⟨8, rfl, by decide, by decide⟩
    obtain ⟨k, rfl, k1, k8⟩ := hk
    refine ⟨p1, _, d, _, rfl, rfl, SqL.of hp1, hx, ?_⟩
    refine ⟨⟨_, rfl⟩, _, rfl, (k : Int), rfl, by omega, by omega, fun D nD => ?_⟩
    rw [Int.toNat_natCast]
    have wl : ((List.range k).map fun i : Nat => V.int (0 + (i : Int))).length = k := by rw [List.length_map, List.length_range]
    have wk : Walk (Itr 0 k) ((List.range k).map fun i : Nat => V.int (0 + (i : Int))).length (fun _ => True) (YAt ((List.range k).map fun i : Nat => V.int (0 + (i : Int)))) := by
      rw [wl]
      refine walk_range.mono (fun _ h => h) fun i H x H' hi _ ⟨e, h⟩ => ⟨e, ?_⟩
      rw [List.getElem?_map, List.getElem?_range hi, h]
      rfl
    have DL : D ≠ L := fun e => by
      obtain ⟨ns, a, b, c, d, h, _⟩ := hB2
      rw [e, h] at nD
      cases nD
    refine lc_ev (K := K) wk (fun H' => Sb L H2 H' ∧ BagL H' L l) (fun _ y _ => ∃ c, Let c ∧ y = .str (mks [c])) (by rw [wl]; exact small_of (by omega)) ⟨Sb.of (same_new nD _), BagL.same (same_new nD _) hB2⟩ (fun _ _ => trivial)
      (fun H3 ys zs ⟨e, b⟩ hD => ⟨fun b o n h => by rw [upd_ne (ne_of_none h nD)]; exact e b o n h, BagL.none hB2 nD b _⟩) (fun _ _ _ _ _ h => h) (fun _ => rfl) ?_ ?_
    · rintro j y H3 Q3 _ ⟨e3, b3⟩ q3
      refine ⟨_, rfl, _, rfl, L, l, 25, rfl, b3, by decide, by decide, fun H4 d e4 b4 d0 d1 => ?_⟩
      obtain ⟨c, hc, hcm⟩ := at_get (l := cl "abcdefghijklmnoprstuvwxyz") d0 (by rw [len25]; exact d1)
      exact ⟨_, d, c, rfl, rfl, small25, hc, q3 _ _ ⟨e3.trans e4, b4⟩ (Bag.tups ⟨l, b3⟩ e4) (fun ys h => e4 _ _ DL h) ⟨c, let25 hcm, rfl⟩⟩
    · rintro H3 ys ⟨e3, b3⟩ hD hyl hys
      obtain ⟨cs, rfl, hcs, hcl⟩ := ones_of hys
      rw [wl] at hyl
      have hA3 := hA2.step nNL e3 b3
      refine ⟨_, D, _, rfl, rfl, .inl (SqL.of hD), by rw [ones_sum, len_nil, Nat.mul_zero]; omega, ?_⟩
      rw [join_ones]
      have hnm : IsNm (mks cs) := isNm_of (by omega) (by omega) hcs
      generalize mks cs = nm at hnm
      refine ⟨_, rfl, L, l, 12, rfl, hA3.bag, by decide, by decide, fun H4 d e4 b4 d0 d1 => ⟨rfl, _, rfl, ?_⟩⟩
      have hA4 := hA3.step nNL e4 b4
      refine iteE (fun _ => ?_) (fun _ => ?_)
      case' refine_1 =>
        refine ⟨small_of (by show 6 ≤ 1000000; decide), fun p2 np2 => ?_⟩
        have hA5 := hA4.same (same_new np2 (.lst [.str "half", .str "mix", .str "pair", .str "box", .str "var", .str "heard"]))
        refine ⟨_, rfl, L, l, 6, rfl, hA5.bag, by decide, by decide, fun H6 d e6 hB6 d0 d1 => ?_⟩
        have hA7 := hA5.step nNL e6 hB6
        have p2L : p2 ≠ L := fun e => by
          obtain ⟨ns, a, b, c, d, h, _⟩ := b4
          rw [e, h] at np2
          cases np2
        have hp2 := e6 p2 _ p2L upd_same
        obtain ⟨x, hx, hm⟩ := at_get (l := (["half", "mix", "pair", "box", "var", "heard"] : List Str).map V.str) d0 d1
        obtain ⟨nm2, hm2, rfl⟩ := List.mem_map.mp hm
        obtain ⟨w1, w2, w3⟩ := words6 nm2 hm2
        have hnm7 : IsNm nm2 := ⟨w1, w2, w3⟩
        refine ⟨p2, _, d, _, rfl, rfl, SqL.of hp2, hx, ?_⟩
      case' refine_2 =>
        have hA7 := hA4
        have hnm7 := hnm
      all_goals
        refine ⟨_, rfl, _, rfl, N, _, rfl, .inl (SqL.of hA7.lst), rfl, flat_strs xs, _, rfl, ?_⟩
        rw [show ∀ b c : Bool, (if false = true then b else c) = c from fun _ _ => rfl, inV_str]
        have app : ∀ H8 nm8, NmsAt H L l N xs H8 → IsNm nm8 → nm8 ∉ xs → NmsAt H L l N (xs ++ [nm8]) (upd H8 N (.lst (xs.map V.str ++ [.str nm8]))) ∧ (xs ++ [nm8]).length = i + 1 ∧ (xs ++ [nm8]).Nodup ∧ ∀ x ∈ xs ++ [nm8], IsNm x := by
          intro H8 nm8 hA8 h8 n8
          refine ⟨⟨fun b o n h => by rw [upd_ne (ne_of_none h nN)]; exact hA8.sb b o n h, BagL.none hB nN hA8.bag _, by rw [upd_same, List.map_append]; rfl⟩, by rw [List.length_append, hxl]; rfl, ?_, fun x hx => ?_⟩
          · rw [List.nodup_append]
            refine ⟨hnd, List.pairwise_singleton _ _, fun a ha b hb => ?_⟩
            rw [List.mem_singleton.mp hb]
            intro e
            exact n8 (e ▸ ha)
          · rcases List.mem_append.mp hx with hx | hx
            · exact hok x hx
            · rw [List.mem_singleton.mp hx]
              exact h8
        refine iteE (fun hin => ?_) (fun hin => ?_)
        case' refine_1 =>
          refine ⟨_, rfl, _, rfl, fun D nD => ?_⟩
          refine lc_it (walk_signs "abcdefghijklmnoprstuvwxyz") (fun i H' => NmsAt H L l N xs H' ∧ ∃ zs : List Str, H' D = some (.lst (zs.map V.str)) ∧ (∀ z ∈ zs, IsNm z ∧ z ∉ xs) ∧ zs.length ≤ i ∧ (1 ≤ i → mks [97, 121] ∉ xs → zs ≠ []) ∧ (2 ≤ i → mks [98, 121] ∉ xs → zs ≠ [])) ?_ (fun _ _ _ _ => trivial) ?_ ?_
          · exact ⟨hA7.same (same_new nD _), [], upd_same, fun _ h => (List.not_mem_nil h).elim, Nat.le_refl _, fun h => by omega, fun h => by omega⟩
          · rintro j y H8 H9 hj ⟨hA8, zs, hzs, hz, hzl, ha, hb⟩ ⟨rfl, hy⟩
            refine ⟨rfl, ?_⟩
            have hsl : (signs "abcdefghijklmnoprstuvwxyz").length = 25 := by
              show (List.map _ (cl "abcdefghijklmnoprstuvwxyz")).length = 25
              rw [List.length_map, len25]
            obtain ⟨c, hc, rfl⟩ : ∃ c, (cl "abcdefghijklmnoprstuvwxyz")[j]? = some c ∧ y = .str (mks [c]) := by
              unfold signs at hy
              rw [List.getElem?_map] at hy
              cases hcc : (cl "abcdefghijklmnoprstuvwxyz")[j]? with
              | none => rw [hcc] at hy; cases hy
              | some c =>
                rw [hcc] at hy
                exact ⟨c, rfl, (Option.some.inj hy).symm⟩
            have lc := let25 (List.mem_of_getElem? hc)
            have okc : IsNm (mks ([c] ++ [121])) := isNm_of (by show 1 ≤ 2; decide) (by show 2 ≤ 8; decide) fun d hd => by
              rcases List.mem_cons.mp hd with rfl | hd
              · exact lc
              · rw [List.mem_singleton.mp hd]
                unfold Let
                omega
            refine ⟨_, rfl, ?_⟩
            refine addC (a := [c]) (b := [121]) rfl q_y (by show 2 ≤ 100000; decide) ?_
            refine ⟨_, rfl, N, _, rfl, .inl (SqL.of hA8.lst), rfl, flat_strs xs, _, rfl, ?_⟩
            rw [show ∀ b c : Bool, (if true = true then b else c) = b from fun _ _ => rfl, inV_str]
            refine iteE (fun hno => ?_) (fun hno => ?_)
            · have hno : mks ([c] ++ [121]) ∉ xs := by
                have := hno
                simpa using this
              refine ⟨_, rfl, ?_⟩
              refine addC (a := [c]) (b := [121]) rfl q_y (by show 2 ≤ 100000; decide) ?_
              refine ⟨_, hzs, ?_, ?_⟩
              · rw [List.length_map]
                exact Nat.lt_of_lt_of_le (show zs.length < 1000 by omega) (small_of (by decide))
              · refine ⟨hA7.off nD hA8 _, zs ++ [mks ([c] ++ [121])], by rw [upd_same, List.map_append]; rfl, fun z hz' => ?_, by rw [List.length_append]; show zs.length + 1 ≤ j + 1; omega, fun _ _ => by simp, fun _ _ => by simp⟩
                rcases List.mem_append.mp hz' with hz' | hz'
                · exact hz z hz'
                · rw [List.mem_singleton.mp hz']
                  exact ⟨okc, hno⟩
            · have hyes : mks ([c] ++ [121]) ∈ xs := by
                have := hno
                simpa using this
              refine ⟨hA8, zs, hzs, hz, by omega, fun h1 h2 => ?_, fun h1 h2 => ?_⟩
              · by_cases j0 : j = 0
                · exfalso
                  subst j0
                  have e : (cl "abcdefghijklmnoprstuvwxyz")[0]? = some 97 := by decide +kernel
                  rw [e] at hc
                  cases hc
                  exact h2 hyes
                · exact ha (by omega) h2
              · by_cases j1 : j = 1
                · exfalso
                  subst j1
                  have e : (cl "abcdefghijklmnoprstuvwxyz")[1]? = some 98 := by decide +kernel
                  rw [e] at hc
                  cases hc
                  exact h2 hyes
                · exact hb (by omega) h2
          rintro H8 ⟨hA8, zs, hzs, hz, hzl, ha, hb⟩
          have hsl : (signs "abcdefghijklmnoprstuvwxyz").length = 25 := by
            show (List.map _ (cl "abcdefghijklmnoprstuvwxyz")).length = 25
            rw [List.length_map, len25]
          rw [hsl] at ha hb
          have hne : zs ≠ [] := by
            by_cases h1 : mks [97, 121] ∈ xs
            · by_cases h2 : mks [98, 121] ∈ xs
              · exfalso
                match xs, hi, hxl, h1, h2 with
                | [], _, _, h1, _ => exact List.not_mem_nil h1
                | [x], _, _, h1, h2 => exact ay_ne ((List.mem_singleton.mp h1).trans (List.mem_singleton.mp h2).symm)
                | x :: y :: r, hi, hxl, _, _ =>
                  have hi : i < 2 := hi
                  rw [List.length_cons, List.length_cons] at hxl
                  omega
              · exact hb (by decide) h2
            · exact ha (by decide) h1
          obtain ⟨nm8, r, rfl⟩ := List.exists_cons_of_ne_nil hne
          obtain ⟨hnm8, hno8⟩ := hz nm8 List.mem_cons_self
          refine ⟨D, _, 0, _, rfl, rfl, SqL.of hzs, at0, ?_⟩
        case' refine_2 =>
          have hA8 := hA7
          have hnm8 := hnm7
          have hno8 := of_decide_eq_false hin
        all_goals
          refine ⟨_, rfl, .inl ⟨rfl, _, SqL.of hA8.lst⟩, _, rfl, N, _, _, rfl, rfl, hA8.lst, ?_, ?_⟩
          · rw [List.length_map]
            exact Nat.lt_of_lt_of_le (show xs.length < 1000 by have hi : i < 2 := hi; omega) (small_of (by decide))
          · obtain ⟨a1, a2, a3, a4⟩ := app _ _ hA8 hnm8 hno8
            exact ⟨_, _, _, _, _, _, a2, a3, a4, a1, rfl⟩
  · rintro σ H1 ⟨xs, y4, y5, y6, y7, y8, hxl, hnd, hok, hA, rfl⟩
    have hxl : xs.length = 2 := hxl
    match xs, hxl, hnd, hok, hA with
    | [n0, n1], _, hnd, hok, hA =>
      refine ⟨_, rfl, q _ N n0 n1 hA.sb hA.bag nN hA.lst (hok _ List.mem_cons_self) (hok _ (List.mem_cons_of_mem _ List.mem_cons_self)) fun e => ?_⟩
      subst e
      simp at hnd
end
end K6

set_option Elab.async false
set_option linter.all false
set_option maxRecDepth 100000
set_option maxHeartbeats 8000000
/-! small facts that the law asks for -/
namespace K6
open PySem PySem.Spec PyProof.Rows L2
theorem dp64 {k : Nat} {A : Around} (hr : Room k A) : A.units + 64 < cLine := Nat.lt_of_succ_lt (dp_of hr)
theorem occ_in {z : Str} {l a r : List Nat} (h : cl z = l ++ (a ++ r)) : (Builtin.Str.occurrences z (mks a) 0 z.length 1).isEmpty = false := by
  rcases PySem.StrLaws.occ_head z (mks a) 1 (Nat.le_refl 1) with ⟨_, hn⟩ | ⟨i, q, e, _⟩
  · exfalso
    have hl : z.length = l.length + (a.length + r.length) := by rw [len_cl, h, List.length_append, List.length_append]
    refine hn l.length ⟨?_, ?_⟩
    · rw [len_mks]
      omega
    · rw [PySem.StrLaws.subAt_eq]
      show (((cl z).drop l.length).take (mks a).length == a) = true
      rw [h, List.drop_left, len_mks, List.take_left]
      exact beq_self_eq_true a
  · rw [e]
    rfl
theorem strOk_of {x : Str} (h : ∀ c ∈ cl x, c < 0x110000) : PyData.strOk x = true := by
  unfold PyData.strOk
  rw [← Array.all_toList, List.all_eq_true]
  intro c hc
  exact decide_eq_true (h c hc)
theorem nm_strOk {x : Str} (h : IsNm x) : PyData.strOk x = true := strOk_of fun c hc => by
  have := h.all c hc
  unfold Let at this
  omega
theorem tag1_ok : ∀ k : T1, PyData.strOk k.tag = true := by
  intro k
  cases k <;> decide +kernel
theorem tag2_ok : ∀ k : T2, PyData.strOk k.tag = true := by
  intro k
  cases k <;> decide +kernel
theorem dat_lay : ∀ t, Ok t → (dat t).canLay0 = true
  | .nm s, h => nm_strOk h
  | .one k a, h => by simp [dat, PyData.canLay0, PyData.canLayAll0, dat_lay a h.one, tag1_ok]
  | .two k a b, h => by simp [dat, PyData.canLay0, PyData.canLayAll0, dat_lay a h.fst, dat_lay b h.snd, tag2_ok]
theorem wd_low : ∀ t, Ok t → ∀ c ∈ wd t, c < 128
  | .nm s, h, c, hc => by
    have := h.all c hc
    unfold Let at this
    omega
  | .one .half a, h, c, hc => by
    simp only [wd, List.mem_append, List.mem_cons, List.not_mem_nil, or_false] at hc
    rcases hc with hc | hc
    · omega
    · exact wd_low a h.one c hc
  | .one .mix a, h, c, hc => by
    simp only [wd, List.mem_append, List.mem_cons, List.not_mem_nil, or_false] at hc
    rcases hc with hc | hc | hc
    · omega
    · exact wd_low a h.one c hc
    · omega
  | .two .pair a b, h, c, hc => by
    simp only [wd, List.mem_append, List.mem_cons, List.not_mem_nil, or_false] at hc
    rcases hc with hc | hc | hc | hc | hc
    · omega
    · exact wd_low a h.fst c hc
    · omega
    · exact wd_low b h.snd c hc
    · omega
  | .two .box a b, h, c, hc => by
    have ia := wd_low a h.fst c
    have ib := wd_low b h.snd c
    cases hN : isN a with
    | true =>
      simp only [wd, hN, if_true, List.mem_append, List.mem_cons, List.not_mem_nil, or_false] at hc
      rcases hc with hc | hc | hc | hc
      · omega
      · exact ib hc
      · omega
      · exact ia hc
    | false =>
      simp only [wd, hN, Bool.false_eq_true, if_false, List.mem_append, List.mem_cons, List.not_mem_nil, or_false] at hc
      rcases hc with hc | hc | hc | hc | hc | hc
      · omega
      · exact ib hc
      · omega
      · omega
      · exact ia hc
      · omega
  | .two .shut a b, h, c, hc => by
    simp only [wd, List.mem_append, List.mem_cons, List.not_mem_nil, or_false] at hc
    rcases hc with hc | hc | hc | hc
    · omega
    · exact wd_low b h.snd c hc
    · omega
    · exact wd_low a h.fst c hc
  | .two .mark a b, h, c, hc => by
    simp only [wd, List.mem_append, List.mem_cons, List.not_mem_nil, or_false] at hc
    rcases hc with hc | hc | hc | hc | hc
    · omega
    · exact wd_low b h.snd c hc
    · omega
    · exact wd_low a h.fst c hc
    · omega
theorem ws_strOk {t : Tm} (h : Ok t) : PyData.strOk (ws t) = true := strOk_of fun c hc => by
  have := wd_low t h c hc
  omega
theorem dat_shaped {t : Tm} (ok : Ok t) (h : dep t ≤ 60) : SeqAt.shaped (dat t) = true := by
  show ((dat t).canLay0 && decide ((dat t).depth ≤ 64)) = true
  rw [dat_lay t ok, Bool.true_and]
  have := dat_dep t
  exact decide_eq_true (by omega)
theorem dats_lay : ∀ ts : List Tm, (∀ t ∈ ts, Ok t) → PyData.canLayAll0 (ts.map dat) = true
  | [], _ => by simp [PyData.canLayAll0]
  | t :: ts, h => by simp [PyData.canLayAll0, dat_lay t (h t List.mem_cons_self), dats_lay ts fun u hu => h u (List.mem_cons_of_mem _ hu)]
theorem dats_dep : ∀ ts : List Tm, (∀ t ∈ ts, dep t ≤ 60) → PyData.depthAll (ts.map dat) ≤ 60
  | [], _ => by simp [PyData.depthAll]
  | t :: ts, h => by
    have h1 := dats_dep ts fun u hu => h u (List.mem_cons_of_mem _ hu)
    have h2 := dat_dep t
    have h3 := h t List.mem_cons_self
    simp only [List.map_cons, PyData.depthAll]
    omega
theorem dats_shaped {ts : List Tm} (ok : ∀ t ∈ ts, Ok t) (h : ∀ t ∈ ts, dep t ≤ 60) : SeqAt.shaped (.list (ts.map dat)) = true := by
  show ((PyData.list (ts.map dat)).canLay0 && decide ((PyData.list (ts.map dat)).depth ≤ 64)) = true
  rw [Bool.and_eq_true]
  refine ⟨by simp only [PyData.canLay0]; exact dats_lay ts ok, decide_eq_true ?_⟩
  have := dats_dep ts h
  simp only [PyData.depth]
  omega
theorem dat_any (t : Tm) (ts : List Tm) : ((ts.map dat).any fun z => PyData.eqv z (dat t)) = decide (t ∈ ts) := by
  rw [Bool.eq_iff_iff, List.any_eq_true, decide_eq_true_eq]
  constructor
  · rintro ⟨x, hx, e⟩
    obtain ⟨u, hu, rfl⟩ := List.mem_map.mp hx
    rw [dat_eqv] at e
    rw [← of_decide_eq_true e]
    exact hu
  · intro h
    exact ⟨dat t, List.mem_map.mpr ⟨t, h, rfl⟩, by rw [dat_eqv]; exact decide_eq_true rfl⟩
theorem str_lay : ∀ xs : List Str, (∀ x ∈ xs, PyData.strOk x = true) → PyData.canLayAll0 (xs.map PyData.str) = true ∧ PyData.depthAll (xs.map PyData.str) = 0 ∧ PyData.eqvAll (xs.map PyData.str) (xs.map PyData.str) = true
  | [], _ => by simp [PyData.canLayAll0, PyData.depthAll, PyData.eqvAll]
  | x :: xs, h => by
    obtain ⟨h1, h2, h3⟩ := str_lay xs fun y hy => h y (List.mem_cons_of_mem _ hy)
    simp only [List.map_cons, PyData.canLayAll0, PyData.depthAll, PyData.eqvAll, PyData.canLay0, PyData.depth, PyData.eqv, h1, h2, h3, h x List.mem_cons_self]
    simp
theorem str_shaped {xs : List Str} (h : ∀ x ∈ xs, PyData.strOk x = true) : SeqAt.shaped (.list (xs.map PyData.str)) = true := by
  obtain ⟨h1, h2, h3⟩ := str_lay xs h
  show ((PyData.list (xs.map PyData.str)).canLay0 && decide ((PyData.list (xs.map PyData.str)).depth ≤ 64)) = true
  rw [Bool.and_eq_true]
  refine ⟨by simp only [PyData.canLay0]; exact h1, decide_eq_true ?_⟩
  simp only [PyData.depth, h2]
  omega
theorem str_eqv {xs : List Str} (h : ∀ x ∈ xs, PyData.strOk x = true) : PyData.eqv (.list (xs.map PyData.str)) (.list (xs.map PyData.str)) = true := by
  simp only [PyData.eqv]
  exact (str_lay xs h).2.2
theorem dp_strs {K : PySem.W.Frag} {H : Hp} : ∀ xs : List Str, DpAll K H (xs.map V.str) (xs.map PyData.str)
  | [] => .nil
  | x :: xs => .cons (.str x) (dp_strs xs)
theorem sm_mono {K : PySem.W.Frag} {H : Hp} : ∀ {n m : Nat} {a d : V}, n ≤ m → Sm K H n a d → Sm K H m a d
  | 0, _, _, _, _, h => h.elim
  | n + 1, 0, _, _, h, _ => by omega
  | n + 1, m + 1, a, d, hm, h => by
    rcases h with h | h | ⟨p, y, us, vs, h1, h2, h3, h4, h5, h6⟩
    · exact .inl h
    · exact .inr (.inl h)
    · exact .inr (.inr ⟨p, y, us, vs, h1, h2, h3, h4, h5, fun i u v a b => sm_mono (by omega) (h6 i u v a b)⟩)
/-- [x for x in xs if test]: those that the test keeps -/
theorem lc_keep {K : PySem.W.Frag} {J : It} {xs : List V} {ts : List Tm} {G0 : Hp → Prop} (w : Walk J xs.length G0 (YAt xs)) {tt : TT} {te : TE} {sl : Nat} {vs : List Nat} {σ : L2.St} {H1 : Hp} {D : Addr} {Qd : Hp → Prop} (nD : H1 D = none)
    (ht : Tms K H1 xs ts) (keep : Tm → Bool) (hz : xs.length ≤ sizeLine) (gG : ∀ H, Same H1 H → G0 H) (wp : ∀ x, wipe ((wipe σ vs).set sl (some x)) vs = wipe σ vs)
    (hte : ∀ x H Q, Q x H → te ((wipe σ vs).set sl (some x)) H Q)
    (hs : ∀ (x : V) (t : Tm) (H : Hp) (Q : Bool → Hp → Prop), TmIn K H x t → t ∈ ts → Same H1 H → (∀ H', Same H H' → Q (keep t) H') → tt ((wipe σ vs).set sl (some x)) H Q)
    (hd : ∀ (H : Hp) (ys : List V), Same H1 H → H D = some (.lst ys) → Tms K H ys (ts.filter keep) → Qd H) :
    ∃ W : Nat → Nat → Hp → Prop, (∃ m, W 0 m (upd H1 D (.lst []))) ∧ ∀ i m H, W i m H →
      (J.stop i H ∧ Qd H) ∨ (J.go i H ∧ ∃ Nx : Hp → Prop, (∀ H', Nx H' → ∃ m', m' < m ∧ W (i + 1) m' H') ∧ ∀ x H', J.yld i H x H' → gName sl x (wipe σ vs) H' fun σ2 H2 => wipe σ2 vs = wipe σ vs ∧ tt σ2 H2 fun b H3 =>
        if b = true then te σ2 H3 fun y H4 => ∃ acc, H4 D = some (.lst acc) ∧ acc.length < sizeLine ∧ Nx (upd H4 D (.lst (acc ++ [y]))) else Nx H3) := by
  refine lc_it w (fun i H => Same H1 H ∧ ∃ ys, H D = some (.lst ys) ∧ Tms K H1 ys ((ts.take i).filter keep)) ⟨same_new nD _, [], upd_same, .nil⟩ (fun i H _ p => gG H p.1) ?_ ?_
  · rintro i x H H' hi ⟨e, ys, hD, hy⟩ ⟨rfl, hx⟩
    refine ⟨wp x, ?_⟩
    obtain ⟨t, hti, htx⟩ := ht.get hx
    refine hs x t _ _ (htx.same e) (List.mem_of_getElem? hti) e fun H3 e3 => ?_
    have et : ts.take (i + 1) = ts.take i ++ [t] := take_more hti
    cases hk : keep t with
    | true =>
      rw [if_pos rfl]
      refine hte x _ _ ⟨ys, e3 _ _ hD, ?_, same_upd nD (e.trans e3), ys ++ [x], upd_same, ?_⟩
      · have h1 := hy.len
        have h2 := List.length_filter_le keep (ts.take i)
        have h3 : (ts.take i).length ≤ i := by rw [List.length_take]; exact Nat.min_le_left _ _
        omega
      · rw [et, List.filter_append]
        have : [t].filter keep = [t] := by simp [hk]
        rw [this]
        exact hy.app (.cons htx .nil)
    | false =>
      rw [if_neg (by simp)]
      refine ⟨e.trans e3, ys, e3 _ _ hD, ?_⟩
      rw [et, List.filter_append]
      have : [t].filter keep = [] := by simp [hk]
      rw [this, List.append_nil]
      exact hy
  · rintro H ⟨e, ys, hD, hy⟩
    have : ts.take xs.length = ts := by rw [ht.len, List.take_length]
    rw [this] at hy
    exact hd H ys e hD (hy.same e)
/-- [f(x) for x in xs], f gives a term -/
theorem lc_terms {K : PySem.W.Frag} {J : It} {xs : List V} {ts : List Tm} {G0 : Hp → Prop} (w : Walk J xs.length G0 (YAt xs)) {te : TE} {sl : Nat} {vs : List Nat} {σ : L2.St} {H1 : Hp} {D : Addr} {Qd : Hp → Prop} (nD : H1 D = none)
    (ht : Tms K H1 xs ts) (g : Tm → Tm) (hz : xs.length ≤ sizeLine) (gG : ∀ H, Same H1 H → G0 H) (wp : ∀ x, wipe ((wipe σ vs).set sl (some x)) vs = wipe σ vs)
    (hs : ∀ (x : V) (t : Tm) (H : Hp) (Q : VK), TmIn K H x t → t ∈ ts → Same H1 H → (∀ H' y, Same H H' → TmIn K H' y (g t) → Q y H') → te ((wipe σ vs).set sl (some x)) H Q)
    (hd : ∀ (H : Hp) (ys : List V), Same H1 H → H D = some (.lst ys) → Tms K H ys (ts.map g) → Qd H) :
    ∃ W : Nat → Nat → Hp → Prop, (∃ m, W 0 m (upd H1 D (.lst []))) ∧ ∀ i m H, W i m H →
      (J.stop i H ∧ Qd H) ∨ (J.go i H ∧ ∃ Nx : Hp → Prop, (∀ H', Nx H' → ∃ m', m' < m ∧ W (i + 1) m' H') ∧ ∀ x H', J.yld i H x H' → gName sl x (wipe σ vs) H' fun σ2 H2 => wipe σ2 vs = wipe σ vs ∧ tYes σ2 H2 fun b H3 =>
        if b = true then te σ2 H3 fun y H4 => ∃ acc, H4 D = some (.lst acc) ∧ acc.length < sizeLine ∧ Nx (upd H4 D (.lst (acc ++ [y]))) else Nx H3) := by
  refine lc_same (K := K) w nD (fun i y H => ∀ t, ts[i]? = some t → TmIn K H y (g t)) hz gG (fun _ _ _ _ tt h t ht => (h t ht).at tt) wp ?_ ?_
  · intro i x H Q hx e q
    obtain ⟨t, hti, htx⟩ := ht.get hx
    refine hs x t H Q (htx.same e) (List.mem_of_getElem? hti) e fun H' y e' hy => q y H' e' fun u hu => ?_
    rw [hti] at hu
    cases hu
    exact hy
  · intro H ys e hD hl hy
    exact hd H ys e hD (tms_of (hl.trans ht.len) fun i y t hyi hti => hy i y hyi t hti)
/-- [worded(x) for x in xs] -/
theorem lc_words {K : PySem.W.Frag} {J : It} {xs : List V} {ts : List Tm} {G0 : Hp → Prop} (w : Walk J xs.length G0 (YAt xs)) {te : TE} {sl : Nat} {vs : List Nat} {σ : L2.St} {H1 : Hp} {D : Addr} {Qd : Hp → Prop} (nD : H1 D = none)
    (ht : Tms K H1 xs ts) (hz : xs.length ≤ sizeLine) (gG : ∀ H, Same H1 H → G0 H) (wp : ∀ x, wipe ((wipe σ vs).set sl (some x)) vs = wipe σ vs)
    (hs : ∀ (x : V) (t : Tm) (H : Hp) (Q : VK), TmIn K H x t → t ∈ ts → (∀ H', Same H H' → Q (.str (ws t)) H') → te ((wipe σ vs).set sl (some x)) H Q)
    (hd : ∀ H : Hp, Same H1 H → H D = some (.lst ((ts.map ws).map V.str)) → Qd H) :
    ∃ W : Nat → Nat → Hp → Prop, (∃ m, W 0 m (upd H1 D (.lst []))) ∧ ∀ i m H, W i m H →
      (J.stop i H ∧ Qd H) ∨ (J.go i H ∧ ∃ Nx : Hp → Prop, (∀ H', Nx H' → ∃ m', m' < m ∧ W (i + 1) m' H') ∧ ∀ x H', J.yld i H x H' → gName sl x (wipe σ vs) H' fun σ2 H2 => wipe σ2 vs = wipe σ vs ∧ tYes σ2 H2 fun b H3 =>
        if b = true then te σ2 H3 fun y H4 => ∃ acc, H4 D = some (.lst acc) ∧ acc.length < sizeLine ∧ Nx (upd H4 D (.lst (acc ++ [y]))) else Nx H3) := by
  refine lc_same (K := K) w nD (fun i y _ => ∀ t, ts[i]? = some t → y = .str (ws t)) hz gG (fun _ _ _ _ _ h => h) wp ?_ ?_
  · intro i x H Q hx e q
    obtain ⟨t, hti, htx⟩ := ht.get hx
    refine hs x t H Q (htx.same e) (List.mem_of_getElem? hti) fun H' e' => q _ H' e' fun u hu => ?_
    rw [hti] at hu
    cases hu
    rfl
  · intro H ys e hD hl hy
    refine hd H e ?_
    rw [hD, List.map_map, list_of (f := V.str ∘ ws) (hl.trans ht.len) fun i y t hyi hti => hy i y hyi t hti]
theorem two_pts {n0 n1 : Str} {t p : Tm} (h : Two n0 n1 t) (hp : p ∈ pts t) : Two n0 n1 p := ⟨(pts_ok t h.1 p hp).1, fun s hs => h.2 s (pts_lvs t p hp s hs)⟩
theorem wd_sub {t p : Tm} (hp : p ∈ pts t) : (Builtin.Str.occurrences (ws t) (ws p) 0 (ws t).length 1).isEmpty = false := by
  obtain ⟨l, r, e⟩ := pts_wd t p hp
  exact occ_in (z := ws t) (l := l) (a := wd p) (r := r) e
theorem nodup_ws : ∀ {ts : List Tm}, ts.Nodup → (∀ t ∈ ts, Ok t) → (ts.map ws).Nodup
  | [], _, _ => List.nodup_nil
  | t :: ts, h, ok => by
    rw [List.nodup_cons] at h
    rw [List.map_cons, List.nodup_cons]
    refine ⟨fun m => ?_, nodup_ws h.2 fun u hu => ok u (List.mem_cons_of_mem _ hu)⟩
    obtain ⟨u, hu, e⟩ := List.mem_map.mp m
    have := ws_inj (ok u (List.mem_cons_of_mem _ hu)) (ok t List.mem_cons_self) e
    exact h.1 (this ▸ hu)
theorem nodup_more {a b : List Tm} (ha : a.Nodup) (hb : b.Nodup) : (a ++ b.filter fun x => !decide (x ∈ a)).Nodup := by
  rw [List.nodup_append]
  refine ⟨ha, hb.filter _, fun x hx y hy e => ?_⟩
  subst e
  have := (List.mem_filter.mp hy).2
  simp [hx] at this
theorem not_dec (a : List Tm) : (fun x => decide (x ∉ a)) = fun x => !decide (x ∈ a) := by
  funext x
  exact decide_not
/-- the renaming of the law -/
def tbl (n0 n1 : Str) : List (Str × Str) := [(n0, "qx"), (n1, "qy")]
theorem q_xy : ("qx" : Str) ≠ "qy" := by decide +kernel
theorem nm_qx : IsNm "qx" := ⟨by decide +kernel, by decide +kernel, by unfold Let; decide +kernel⟩
theorem nm_qy : IsNm "qy" := ⟨by decide +kernel, by decide +kernel, by unfold Let; decide +kernel⟩
theorem tbl_ok {n0 n1 : Str} (h0 : IsNm n0) (h1 : IsNm n1) : ∀ p ∈ tbl n0 n1, IsNm p.1 ∧ IsNm p.2 := by
  intro p hp
  rcases List.mem_cons.mp hp with rfl | hp
  · exact ⟨h0, nm_qx⟩
  · rw [List.mem_singleton.mp hp]
    exact ⟨h1, nm_qy⟩
theorem tbl_merge {n0 n1 : Str} (h : n0 ≠ n1) : mergeK [] [(Sum.inr n0, V.str "qx"), (Sum.inr n1, V.str "qy")] = nmK (tbl n0 n1) := by
  have hd : decide ((Sum.inr n0 : Key) = Sum.inr n1) = false := decide_eq_false fun e => h (Sum.inr.inj e)
  show putK (putK [] (Sum.inr n0) (V.str "qx")) (Sum.inr n1) (V.str "qy") = _
  have e1 : putK ([] : List (Key × V)) (Sum.inr n0) (V.str "qx") = [(Sum.inr n0, V.str "qx")] := rfl
  rw [e1]
  unfold putK
  rw [List.any_cons, hd]
  rfl
theorem tbl_nodup {n0 n1 : Str} (h : n0 ≠ n1) : ((tbl n0 n1).map (·.1)).Nodup := by
  show [n0, n1].Nodup
  simp [h]
theorem rep_0 (n0 n1 : Str) : rep (tbl n0 n1) n0 = "qx" := by
  unfold rep tbl
  rw [List.find?_cons, decide_eq_true rfl]
theorem rep_1 {n0 n1 : Str} (h : n0 ≠ n1) : rep (tbl n0 n1) n1 = "qy" := by
  unfold rep tbl
  rw [List.find?_cons, decide_eq_false h, List.find?_cons, decide_eq_true rfl]
theorem rep_one {n0 n1 : Str} (h : n0 ≠ n1) {x y : Str} (hx : x = n0 ∨ x = n1) (hy : y = n0 ∨ y = n1) (e : rep (tbl n0 n1) x = rep (tbl n0 n1) y) : x = y := by
  rcases hx with rfl | rfl <;> rcases hy with rfl | rfl
  · rfl
  · rw [rep_0, rep_1 h] at e
    exact absurd e q_xy
  · rw [rep_0, rep_1 h] at e
    exact absurd e.symm q_xy
  · rfl
theorem ren_ok {n0 n1 : Str} (h0 : IsNm n0) (h1 : IsNm n1) {t : Tm} (h : Two n0 n1 t) : Ok (ren (rep (tbl n0 n1)) t) :=
  h.1.ren fun s hs => rep_nm (fun p hp => (tbl_ok h0 h1 p hp).2) (lvs_nm t h.1 s hs)
theorem ren_dd {n0 n1 : Str} (hne : n0 ≠ n1) {t : Tm} (h : Two n0 n1 t) : dd (pts (ren (rep (tbl n0 n1)) t)) = (dd (pts t)).map (ren (rep (tbl n0 n1))) :=
  dd_ren t fun x hx y hy e => rep_one hne (h.2 x hx) (h.2 y hy) e
theorem two_len {n0 n1 : Str} : ∀ {ys : List Str}, ys.Nodup → (∀ x ∈ ys, x = n0 ∨ x = n1) → ys.length ≤ 2
  | [], _, _ => by decide
  | [x], _, _ => by show 1 ≤ 2; decide
  | [x, y], _, _ => Nat.le_refl _
  | x :: y :: z :: r, nd, h => by
    exfalso
    have hx := h x (by simp)
    have hy := h y (by simp)
    have hz := h z (by simp)
    rw [List.nodup_cons, List.nodup_cons] at nd
    obtain ⟨h1, h2, _⟩ := nd
    have xy : x ≠ y := fun e => h1 (by rw [e]; simp)
    have xz : x ≠ z := fun e => h1 (by rw [e]; simp)
    have yz : y ≠ z := fun e => h2 (by rw [e]; simp)
    rcases hx with rfl | rfl <;> rcases hy with rfl | rfl <;> rcases hz with rfl | rfl <;> first | exact xy rfl | exact xz rfl | exact yz rfl
end K6

set_option Elab.async false
set_option linter.all false
set_option maxRecDepth 100000
set_option maxHeartbeats 16000000
/-! the law -/
namespace K6
open PySem PySem.Spec PyProof.Rows L2
theorem terms_of {K : PySem.W.Frag} {H : Hp} {S : Tm → Prop} {n : Nat} : ∀ {vs : List V}, (∀ (i : Nat) y, vs[i]? = some y → ∃ t, TmIn K H y t ∧ S t ∧ dep t ≤ n) → ∃ ts : List Tm, Tms K H vs ts ∧ ∀ t ∈ ts, S t ∧ dep t ≤ n
  | [], _ => ⟨[], .nil, fun _ h => (List.not_mem_nil h).elim⟩
  | v :: vs, h => by
    obtain ⟨t, ht, st⟩ := h 0 v rfl
    obtain ⟨ts, hts, sts⟩ := terms_of (vs := vs) fun i y hy => h (i + 1) y (by simpa using hy)
    refine ⟨t :: ts, .cons ht hts, fun u hu => ?_⟩
    rcases List.mem_cons.mp hu with rfl | hu
    · exact st
    · exact sts u hu
abbrev s_law : Stmt := top 58
abbrev N_law : List Str := ["_law_script", "_law_bag_here", "_law_names_here", "_law_terms", "_law_every", "_law_term_here", "_law_part", "_law_words", "_law_table", "_law_other", "_law_again", "_law_one", "_law_whole", "_law_due", "_law_rest", "_law_turn"]
theorem sc_law : FnScope N_law ["_law_script"] (defScope s_law) := ⟨rfl, rfl, rfl, by decide +kernel, rfl, by decide +kernel, by decide +kernel⟩
def spLaw (K : PySem.W.Frag) : Sp := fun vs H Q _ => ∃ (a : Addr) (ns : List Int), vs = [.ref a] ∧ SqL K H a (ns.map V.int) ∧ ns.length ≤ 1000 ∧ ∀ H', Q (.bl true) H'
/-- what the defs promise -/
structure Ds (P : Program) (w : World) (K : PySem.W.Frag) (mg : Str → Option Value) (base : Heap) : Prop where
  bag : Def P w K mg base 1 "_law_bag" ["_law_script"] (spBag K)
  names : Def P w K mg base 2 "_law_names" ["_law_bag_here", "_law_many"] (spNames K)
  draw : Def P w K mg base 1 "_law_draw" ["_law_bag_here", "_law_many"] spDrawL
  term : Def P w K mg base 8 "_law_term" ["_law_bag_here", "_law_names_here", "_law_depth"] (spTerm K)
  parts : Def P w K mg base 11 "parts_of" ["term"] (spPartsOf K)
  worded : Def P w K mg base 11 "worded" ["term"] (spWorded K)
  renamed : Def P w K mg base 11 "renamed" ["term", "names"] (spRen K)
  read : Def P w K mg base 15 "read_term" ["text"] (spReadTerm K)
  same : Def P w K mg base 6 "_law_same" ["_law_actual", "_law_due"] (spSame K 6)
  nms : Def P w K mg base 11 "names_of" ["term"] (spNamesOf K)
  size : Def P w K mg base 11 "size_of" ["term"] (spSizeOf K)
  depth : Def P w K mg base 11 "depth_of" ["term"] (spDepthOf K)
section
variable {P : Program} {w : World} {K : PySem.W.Frag} {mg : Str → Option Value} {base : Heap} {aN aL : Addr}
theorem ok_law {f : Addr} {fd : FuncData} (F : Fun K "law" "law" s_law f fd) (B : Bt mg) (S : Ds P w K mg base) : FnOk P w K mg base CX0 16 f fd ["_law_script"] (spLaw K) := by
  obtain ⟨D__law_bag, D__law_names, D__law_draw, D__law_term, D_parts_of, D_worded, D_renamed, D_read_term, D__law_same, D_names_of, D_size_of, D_depth_of⟩ := S
  refine F.ok sc_law (fun vs H Q E h => ?_) (fun cdv A outer s H vs Q E hr h => ?_)
  · obtain ⟨a, ns, rfl, _⟩ := h
    rfl
  obtain ⟨a, ns, rfl, ha, hn, q⟩ := h
  refine ⟨_, (pss_cons (ps_set (i := 1) sc_law.nd rfl (Or.inr rfl) (pe_def D__law_bag (hr.mono (by omega)) (pa_cons (pv 0) pa_nil)))
    (pss_cons (ps_set (i := 2) sc_law.nd rfl (Or.inr rfl) (pe_def D__law_names (hr.mono (by omega)) (pa_cons (pv 1) (pa_cons pe_int pa_nil))))
    (pss_cons (ps_setLc (i := 3) rfl sc_law.nd rfl rfl (sw_true rfl rfl rfl (by decide +kernel)) (pi_range1 (by rfl) B.range (pa_cons (pe_op op_add pe_int (pe_def D__law_draw (hr.mono (by omega)) (pa_cons (pv 1) (pa_cons pe_int pa_nil)))) pa_nil)) (blkOk_by (own := [("_law_turn", 15)]) (N := N_law) (sc := defScope s_law) (by decide +kernel)) (fun _ _ _ _ _ => pg_name (i := 15) sc_law.nd rfl (Or.inl rfl)) (fun _ _ _ _ _ => pts_nil) (fun _ _ _ _ _ => (pe_def D__law_term (hr.mono (by omega)) (pa_cons (pv 1) (pa_cons (pv 2) (pa_cons pe_int pa_nil))))))
    (pss_cons (ps_set (i := 4) sc_law.nd rfl (Or.inr rfl) (pe_lst pa_nil))
    (pss_cons (ps_for PassesOwn.never rfl (piL K (pv 3)) (pg_name (i := 5) sc_law.nd rfl (Or.inl rfl)) (pss_cons (ps_set (i := 4) sc_law.nd rfl (Or.inr rfl) (pe_op op_cat (pv 4) (pe_lc rfl sc_law.nd (piL K (pe_def D_parts_of (hr.mono (by omega)) (pa_cons (pv 5) pa_nil))) (blkOk_by (own := [("_law_part", 6)]) (N := N_law) (sc := defScope s_law) (by decide +kernel)) (fun _ _ _ _ _ => pg_name (i := 6) sc_law.nd rfl (Or.inl rfl)) (fun _ _ _ _ _ => pts_one (pt_cmpR (notInD K (dp_of hr)) (pv 6) (pv 4) (by rfl))) (fun _ _ _ _ _ => (pv 6)))))
     (pss_one (ps_for PassesOwn.never rfl (piL K (pe_def D_parts_of (hr.mono (by omega)) (pa_cons (pv 5) pa_nil))) (pg_name (i := 6) sc_law.nd rfl (Or.inl rfl)) (pss_one (ps_if (pt_cmpR op_notin_str (pe_def D_worded (hr.mono (by omega)) (pa_cons (pv 6) pa_nil)) (pe_def D_worded (hr.mono (by omega)) (pa_cons (pv 5) pa_nil)) (by rfl)) (pss_one (ps_ret pe_bl)) pss_nil))))))
    (pss_cons (ps_setLc (i := 7) rfl sc_law.nd rfl rfl (sw_true rfl rfl rfl (by decide +kernel)) (piL K (pv 4)) (blkOk_by (own := [("_law_part", 6)]) (N := N_law) (sc := defScope s_law) (by decide +kernel)) (fun _ _ _ _ _ => pg_name (i := 6) sc_law.nd rfl (Or.inl rfl)) (fun _ _ _ _ _ => pts_nil) (fun _ _ _ _ _ => (pe_def D_worded (hr.mono (by omega)) (pa_cons (pv 6) pa_nil))))
    (pss_cons (ps_if (pt_cmpR op_ne (pe_b cr_lenS B.len boot_ln (pa_cons (pe_t (cr_setS rfl) B.set boot_ty_set (pa_cons (pv 7) pa_nil)) pa_nil)) (pe_b call_len_seq B.len boot_ln (pa_cons (pv 4) pa_nil)) (nomark _)) (pss_one (ps_ret pe_bl)) pss_nil)
    (pss_cons (ps_set (i := 8) sc_law.nd rfl (Or.inr rfl) (pe_disp (pps_cons (pe_ix (ixL K) (pv 2) pe_int (fun _ _ => rfl)) pe_str (pps_cons (pe_ix (ixL K) (pv 2) pe_int (fun _ _ => rfl)) pe_str pps_nil)) rfl rfl (fun h => nomatch h) (by show 2 ≤ 15; decide)))
    (pss_cons (ps_for PassesOwn.never rfl (piL K (pv 3)) (pg_name (i := 5) sc_law.nd rfl (Or.inl rfl)) (pss_cons (ps_set (i := 9) sc_law.nd rfl (Or.inl rfl) (pe_def D_renamed (hr.mono (by omega)) (pa_cons (pv 5) (pa_cons (pv 8) pa_nil))))
     (pss_cons (ps_if (pt_not (pt_val (pe_def D__law_same (hr.mono (by omega)) (pa_cons (pe_def D_read_term (hr.mono (by omega)) (pa_cons (pe_def D_worded (hr.mono (by omega)) (pa_cons (pv 9) pa_nil)) pa_nil)) (pa_cons (pv 9) pa_nil))))) (pss_one (ps_ret pe_bl)) pss_nil)
     (pss_cons (ps_if (pt_not (pt_val (pe_def D__law_same (hr.mono (by omega)) (pa_cons (pe_def D_parts_of (hr.mono (by omega)) (pa_cons (pv 9) pa_nil)) (pa_cons (pe_lc rfl sc_law.nd (piL K (pe_def D_parts_of (hr.mono (by omega)) (pa_cons (pv 5) pa_nil))) (blkOk_by (own := [("_law_part", 6)]) (N := N_law) (sc := defScope s_law) (by decide +kernel)) (fun _ _ _ _ _ => pg_name (i := 6) sc_law.nd rfl (Or.inl rfl)) (fun _ _ _ _ _ => pts_nil) (fun _ _ _ _ _ => (pe_def D_renamed (hr.mono (by omega)) (pa_cons (pv 6) (pa_cons (pv 8) pa_nil))))) pa_nil))))) (pss_one (ps_ret pe_bl)) pss_nil)
     (pss_cons (ps_setLc (i := 10) rfl sc_law.nd rfl rfl (sw_true rfl rfl rfl (by decide +kernel)) (piL K (pe_def D_parts_of (hr.mono (by omega)) (pa_cons (pv 5) pa_nil))) (blkOk_by (own := [("_law_part", 6)]) (N := N_law) (sc := defScope s_law) (by decide +kernel)) (fun _ _ _ _ _ => pg_name (i := 6) sc_law.nd rfl (Or.inl rfl)) (fun _ _ _ _ _ => pts_nil) (fun _ _ _ _ _ => (pe_def D_renamed (hr.mono (by omega)) (pa_cons (pe_def D_read_term (hr.mono (by omega)) (pa_cons (pe_def D_worded (hr.mono (by omega)) (pa_cons (pv 6) pa_nil)) pa_nil)) (pa_cons (pv 8) pa_nil)))))
     (pss_one (ps_if (pt_cmpR (op_neD (dp64 hr)) (pe_lc rfl sc_law.nd (piL K (pe_def D_parts_of (hr.mono (by omega)) (pa_cons (pv 9) pa_nil))) (blkOk_by (own := [("_law_part", 6)]) (N := N_law) (sc := defScope s_law) (by decide +kernel)) (fun _ _ _ _ _ => pg_name (i := 6) sc_law.nd rfl (Or.inl rfl)) (fun _ _ _ _ _ => pts_nil) (fun _ _ _ _ _ => (pe_def D_worded (hr.mono (by omega)) (pa_cons (pv 6) pa_nil)))) (pe_lc rfl sc_law.nd (piL K (pv 10)) (blkOk_by (own := [("_law_part", 6)]) (N := N_law) (sc := defScope s_law) (by decide +kernel)) (fun _ _ _ _ _ => pg_name (i := 6) sc_law.nd rfl (Or.inl rfl)) (fun _ _ _ _ _ => pts_nil) (fun _ _ _ _ _ => (pe_def D_worded (hr.mono (by omega)) (pa_cons (pv 6) pa_nil)))) (nomark _)) (pss_one (ps_ret pe_bl)) pss_nil)))))))
    (pss_cons (ps_set (i := 11) sc_law.nd rfl (Or.inr rfl) (pe_ix (ixL K) (pv 3) pe_int (fun _ _ => rfl)))
    (pss_cons (ps_set (i := 9) sc_law.nd rfl (Or.inl rfl) (pe_ix (ixL K) (pv 3) pe_int (fun _ _ => rfl)))
    (pss_cons (ps_set (i := 12) sc_law.nd rfl (Or.inl rfl) (pe_tup (pa_cons pe_str (pa_cons (pv 11) (pa_cons (pv 9) pa_nil)))))
    (pss_cons (ps_if (pt_not (pt_val (pe_def D__law_same (hr.mono (by omega)) (pa_cons (pe_def D_names_of (hr.mono (by omega)) (pa_cons (pv 12) pa_nil)) (pa_cons (pe_b (cr_sortedT rfl) B.sorted boot_sortd (pa_cons (pe_t (cr_setS rfl) B.set boot_ty_set (pa_cons (pe_op op_cat (pe_def D_names_of (hr.mono (by omega)) (pa_cons (pv 11) pa_nil)) (pe_def D_names_of (hr.mono (by omega)) (pa_cons (pv 9) pa_nil))) pa_nil)) pa_nil)) pa_nil))))) (pss_one (ps_ret pe_bl)) pss_nil)
    (pss_cons (ps_set (i := 13) sc_law.nd rfl (Or.inl rfl) (pe_lst (pa_cons (pe_op op_add (pe_def D_size_of (hr.mono (by omega)) (pa_cons (pv 11) pa_nil)) (pe_def D_size_of (hr.mono (by omega)) (pa_cons (pv 9) pa_nil))) (pa_cons (pe_op op_add pe_int (pe_b (call_max2 rfl) B.max boot_max (pa_cons (pe_def D_depth_of (hr.mono (by omega)) (pa_cons (pv 11) pa_nil)) (pa_cons (pe_def D_depth_of (hr.mono (by omega)) (pa_cons (pv 9) pa_nil)) pa_nil)))) pa_nil))))
    (pss_cons (ps_if (pt_not (pt_val (pe_def D__law_same (hr.mono (by omega)) (pa_cons (pe_lst (pa_cons (pe_def D_size_of (hr.mono (by omega)) (pa_cons (pv 12) pa_nil)) (pa_cons (pe_def D_depth_of (hr.mono (by omega)) (pa_cons (pv 12) pa_nil)) pa_nil))) (pa_cons (pv 13) pa_nil))))) (pss_one (ps_ret pe_bl)) pss_nil)
    (pss_cons (ps_setLc (i := 14) rfl sc_law.nd rfl rfl (sw_true rfl rfl rfl (by decide +kernel)) (piL K (pe_def D_parts_of (hr.mono (by omega)) (pa_cons (pv 9) pa_nil))) (blkOk_by (own := [("_law_part", 6)]) (N := N_law) (sc := defScope s_law) (by decide +kernel)) (fun _ _ _ _ _ => pg_name (i := 6) sc_law.nd rfl (Or.inl rfl)) (fun _ _ _ _ _ => pts_one (pt_cmpR (notInD K (dp_of hr)) (pv 6) (pe_def D_parts_of (hr.mono (by omega)) (pa_cons (pv 11) pa_nil)) (by rfl))) (fun _ _ _ _ _ => (pv 6)))
    (pss_one (ps_ret (pe_def D__law_same (hr.mono (by omega)) (pa_cons (pe_def D_parts_of (hr.mono (by omega)) (pa_cons (pv 12) pa_nil)) (pa_cons (pe_op op_cat (pe_op op_cat (pe_lst (pa_cons (pv 12) pa_nil)) (pe_def D_parts_of (hr.mono (by omega)) (pa_cons (pv 11) pa_nil))) (pv 14)) pa_nil))))))))))))))))))))), ?_⟩
  refine ⟨_, rfl, a, ns, rfl, ha, hn, fun H1 L e1 nL ⟨l, hB1⟩ => ?_⟩
  refine ⟨_, rfl, L, l, rfl, hB1, fun H2 N n0 n1 e2 hB2 nN hN ok0 ok1 hne => ?_⟩
  refine ⟨_, rfl, L, l, 3, rfl, hB2, by decide, by decide, fun H3 d e3 hB3 d0 d1 => ?_⟩
  have offL : ∀ {H' : Hp} {p : Addr}, BagL H' L l → H' p = none → p ≠ L := fun hb hp e => by
    obtain ⟨ns, a, b, c, d, h, _⟩ := hb
    rw [e, h] at hp
    cases hp
  have NL : N ≠ L := offL hB1 nN
  have hN3 := e3 _ _ NL hN
  refine ⟨_, _, rfl, rfl, 2 + d, rfl, by omega, by omega, fun T nT => ?_⟩
  obtain ⟨k, hk⟩ : ∃ k : Nat, 2 + d = k := ⟨(2 + d).toNat, by omega⟩
  rw [hk, Int.toNat_natCast]
  have k2 : 2 ≤ k := by omega
  have k4 : k ≤ 4 := by omega
  have wl : ((List.range k).map fun i : Nat => V.int (0 + (i : Int))).length = k := by rw [List.length_map, List.length_range]
  have wk : Walk (Itr 0 k) ((List.range k).map fun i : Nat => V.int (0 + (i : Int))).length (fun _ => True) (YAt ((List.range k).map fun i : Nat => V.int (0 + (i : Int)))) := by
    rw [wl]
    refine walk_range.mono (fun _ h => h) fun i H x H' hi _ ⟨e, h⟩ => ⟨e, ?_⟩
    rw [List.getElem?_map, List.getElem?_range hi, h]
    rfl
  have TL : T ≠ L := offL hB3 nT
  have NT : N ≠ T := fun e => by rw [← e, hN3] at nT; cases nT
  refine lc_ev (K := K) wk (fun H' => H' N = some (.lst [.str n0, .str n1]) ∧ BagL H' L l) (fun _ y H' => ∃ t, TmIn K H' y t ∧ Two n0 n1 t ∧ dep t ≤ 4) (by rw [wl]; exact small_of (by omega)) ⟨(same_new nT _) _ _ hN3, BagL.same (same_new nT _) hB3⟩ (fun _ _ => trivial)
    (fun H4 ys zs ⟨h1, h2⟩ hD => ⟨by rw [upd_ne NT]; exact h1, BagL.none hB3 nT h2 _⟩) (fun _ _ _ _ tt ⟨t, h1, h2⟩ => ⟨t, h1.at tt, h2⟩) (fun _ => rfl) ?_ ?_
  · rintro i x H4 Q4 hx ⟨hN4, hB4⟩ q4
    refine ⟨_, rfl, _, rfl, L, l, N, n0, n1, rfl, hB4, hN4, NL, ok0, ok1, fun H5 v t e5 hB5 ht wt gt => ?_⟩
    exact q4 _ _ ⟨e5 _ _ NL hN4, hB5⟩ (Bag.tups ⟨l, hB4⟩ e5) (fun ys h => e5 _ _ TL h) ⟨t, ht, wt, gt⟩
  rintro H4 vs ⟨hN4, hB4⟩ hT hvl hvs
  rw [wl] at hvl
  obtain ⟨ts, hts, htw⟩ : ∃ ts : List Tm, Tms K H4 vs ts ∧ ∀ t ∈ ts, Two n0 n1 t ∧ dep t ≤ 4 := terms_of hvs
  have htl : ts.length = k := hts.len.symm.trans hvl
  clear hvs wk wl nT e3 hB3 d0 d1 hk
  -- the parts of all terms
  refine ⟨small_of (by show 0 ≤ 1000000; decide), fun e0 ne0 => ?_⟩
  have eA : Same H4 (upd H4 e0 (.lst [])) := same_new ne0 _
  refine ⟨_, rfl, T, rfl, ⟨_, SqL.of (eA _ _ hT)⟩, ?_⟩
  refine for_it (walk_list (K := K) (a := T) (xs := vs)) (fun i σ H' => Same H4 H' ∧ ∃ (ea : Addr) (es : List V) (ets : List Tm) (y5 y6 : Option V), H' ea = some (.lst es) ∧ Tms K H' es ets ∧ ets.Nodup ∧ (∀ t ∈ ets, Two n0 n1 t ∧ dep t ≤ 4) ∧ ets.length ≤ i * 15 ∧
    σ = [some (.ref a), some (.ref L), some (.ref N), some (.ref T), some (.ref ea), y5, y6, none, none, none, none, none, none, none, none, none]) ?_ ?_ ?_ ?_
  · exact ⟨eA, e0, [], [], none, none, upd_same, .nil, List.nodup_nil, fun _ h => (List.not_mem_nil h).elim, Nat.zero_le _, rfl⟩
  · rintro i σ H' _ ⟨e, _⟩
    exact SqL.of (e _ _ hT)
  · rintro i x σ H0 H5 hi ⟨e5, ea, es, ets, y5, y6, hea, hes, hnd, het, hel, rfl⟩ ⟨rfl, hx⟩
    obtain ⟨t, hti, htx⟩ := hts.get hx
    obtain ⟨tw, td⟩ := htw t (List.mem_of_getElem? hti)
    have htx5 := htx.same e5
    have c15 : (dd (pts t)).length ≤ 15 := by
      have h1 := length_dd (pts t)
      have h2 := pts_len t
      have h3 := cnt_le t 4 td
      omega
    have mem_p : ∀ r ∈ dd (pts t), Two n0 n1 r ∧ dep r ≤ 4 := fun r hr => by
      have rm := (mem_dd _).mp hr
      exact ⟨two_pts tw rm, Nat.le_trans (pts_dep t r rm) td⟩
    refine ⟨_, rfl, _, rfl, x, t, rfl, htx5, tw.1, by omega, fun H6 p us e6 np hp hus => ⟨p, rfl, ⟨_, SqL.of hp⟩, fun D nD => ?_⟩⟩
    refine lc_keep (K := K) (walk_list (K := K) (a := p) (xs := us)) nD hus (fun r => !decide (r ∈ ets)) (small_of (by rw [hus.len]; omega)) (fun H e => SqL.of (e _ _ hp)) (fun _ => rfl) (fun x H Q h => ⟨_, rfl, h⟩) ?_ ?_
    · intro y r H7 Q7 hy hr e7 q7
      obtain ⟨w1, w2⟩ := mem_p r hr
      refine ⟨_, rfl, _, rfl, dat r, ets.map dat, hy.dp, .lst (SqL.of ((e6.trans e7) _ _ hea)) (hes.same (e6.trans e7)).dp, dat_shaped w1.1 (by omega), dats_shaped (fun u hu => (het u hu).1.1) (fun u hu => by have := (het u hu).2; omega), _, rfl, ?_⟩
      rw [dat_any]
      exact q7 _ (Same.refl _)
    · intro H7 ys e7 hD hys
      have l1 := hes.len
      have l2 := hys.len
      have l3 := List.length_filter_le (fun r => !decide (r ∈ ets)) (dd (pts t))
      have i4 : i < 4 := by omega
      refine ⟨ea, D, es, ys, rfl, rfl, (e6.trans e7) _ _ hea, hD, small_of (by omega), fun e8 ne8 => ?_⟩
      have e58 := e6.trans (e7.trans (same_new ne8 (.lst (es ++ ys))))
      refine ⟨_, rfl, x, t, rfl, htx5.same e58, tw.1, by omega, fun H9 p2 us2 e9 np2 hp2 hus2 => ⟨p2, rfl, ⟨_, SqL.of hp2⟩, ?_⟩⟩
      have h8 := e9 _ _ (upd_same : upd H7 e8 (.lst (es ++ ys)) e8 = _)
      refine for_it (walk_list (K := K) (a := p2) (xs := us2)) (fun j σ H' => Same H9 H' ∧ ∃ y6 : Option V, σ = [some (.ref a), some (.ref L), some (.ref N), some (.ref T), some (.ref e8), some x, y6, none, none, none, none, none, none, none, none, none]) ⟨Same.refl _, _, rfl⟩ ?_ ?_ ?_
      · rintro j σ H' _ ⟨e, _⟩
        exact SqL.of (e _ _ hp2)
      · rintro j y σ H0 H10 hj ⟨e10, y6', rfl⟩ ⟨rfl, hy⟩
        obtain ⟨r, hri, hry⟩ := hus2.get hy
        have hrm := List.mem_of_getElem? hri
        obtain ⟨w1, w2⟩ := mem_p r hrm
        refine ⟨_, rfl, y, r, rfl, hry.same e10, w1.1, by omega, fun H11 e11 => ?_⟩
        refine ⟨_, rfl, x, t, rfl, htx5.same (e58.trans (e9.trans (e10.trans e11))), tw.1, by omega, fun H12 e12 => ?_⟩
        refine ⟨_, _, rfl, rfl, _, rfl, ?_⟩
        rw [wd_sub ((mem_dd _).mp hrm)]
        exact iteF ⟨e10.trans (e11.trans e12), _, rfl⟩
      · rintro σ H10 ⟨e10, y6', rfl⟩
        have e89 := (same_new ne8 (.lst (es ++ ys))).trans (e9.trans e10)
        refine ⟨e5.trans (e58.trans (e9.trans e10)), e8, es ++ ys, ets ++ (dd (pts t)).filter fun r => !decide (r ∈ ets), _, _, e10 _ _ h8, (hes.same (e58.trans (e9.trans e10))).app (hys.same e89), nodup_more hnd (nodup_dd _), fun u hu => ?_, ?_, rfl⟩
        · rcases List.mem_append.mp hu with hu | hu
          · exact het u hu
          · exact mem_p u (List.mem_filter.mp hu).1
        · rw [List.length_append]
          omega
  rintro σ H5 ⟨e5, ea, es, ets, y5, y6, hea, hes, hnd, het, hel, rfl⟩
  have l1 := hes.len
  have hle : ets.length ≤ 60 := by
    have : vs.length ≤ 4 := by omega
    omega
  have hT5 := e5 _ _ hT
  have hN5 := e5 _ _ hN4
  -- unlike terms, unlike wordings
  refine ⟨_, rfl, ea, rfl, ⟨_, SqL.of hea⟩, fun D1 nD1 => ?_⟩
  refine lc_words (K := K) (walk_list (K := K) (a := ea) (xs := es)) nD1 hes (small_of (by omega)) (fun H e => SqL.of (e _ _ hea)) (fun _ => rfl) (fun x t H Q h1 h2 h3 => ⟨_, rfl, x, t, rfl, h1, (het t h2).1.1, by have := (het t h2).2; omega, h3⟩) ?_
  intro H6 e6 hD1
  have hwn : (ets.map ws).Nodup := nodup_ws hnd fun t ht => (het t ht).1.1
  refine ⟨_, rfl, D1, ets.map ws, rfl, SqL.of hD1, by rw [List.length_map]; unfold scanBound; omega, fun a1 na1 => ⟨a1, ets.map ws, rfl, upd_same, hwn, ?_⟩⟩
  have e7 := same_new na1 (SetTO w a1 (ets.map ws))
  refine ⟨_, rfl, ea, es, rfl, .inl (SqL.of (e7 _ _ (e6 _ _ hea))), rfl, _, rfl, iteN ?_ ?_⟩
  · rw [List.length_map, l1, decide_eq_true rfl]
    rfl
  -- names for names
  have e67 := e6.trans e7
  intro dT ndT
  have e8 := same_new ndT (.dK [])
  refine ⟨_, rfl, N, _, 0, _, rfl, rfl, SqL.of ((e67.trans e8) _ _ hN5), at0, _, rfl, N, _, 1, _, rfl, rfl, SqL.of ((e67.trans e8) _ _ hN5), at1, upd_same, [(Sum.inr n0, V.str "qx"), (Sum.inr n1, V.str "qy")], rfl, by show 2 ≤ 15; decide, ?_⟩
  rw [upd_upd, tbl_merge hne]
  have e9 := same_new ndT (.dK (nmK (tbl n0 n1)))
  have e59 := e5.trans (e67.trans e9)
  have hdT : upd (upd H6 a1 (SetTO w a1 (ets.map ws))) dT (.dK (nmK (tbl n0 n1))) dT = some (.dK (nmK (tbl n0 n1))) := upd_same
  have hT9e := e59 _ _ hT
  obtain ⟨H9, hH9⟩ : ∃ H9, H9 = upd (upd H6 a1 (SetTO w a1 (ets.map ws))) dT (.dK (nmK (tbl n0 n1))) := ⟨_, rfl⟩
  have eH9 : Same H9 (upd (upd H6 a1 (SetTO w a1 (ets.map ws))) dT (.dK (nmK (tbl n0 n1)))) := by rw [hH9]; exact Same.refl _
  have e59 : Same H4 H9 := by rw [hH9]; exact e59
  have hdT : H9 dT = some (.dK (nmK (tbl n0 n1))) := by rw [hH9]; exact upd_same
  have hT9 := e59 _ _ hT
  clear e9 e8 ndT e67 na1 e7 hD1 e6 nD1 hN5 hT5 hea hes e5
  refine ⟨_, rfl, T, rfl, ⟨_, SqL.of hT9e⟩, ?_⟩
  have tnd := tbl_nodup hne
  have tok := tbl_ok ok0 ok1
  have tl2 : (tbl n0 n1).length ≤ 1000 := by show 2 ≤ 1000; decide
  refine for_it (walk_list (K := K) (a := T) (xs := vs)) (fun i σ H' => Same H9 H' ∧ ∃ (y5 y6 y9 y10 : Option V),
    σ = [some (.ref a), some (.ref L), some (.ref N), some (.ref T), some (.ref ea), y5, y6, some (.ref D1), some (.ref dT), y9, y10, none, none, none, none, none]) ?_ ?_ ?_ ?_
  · exact ⟨eH9, _, _, _, _, rfl⟩
  · rintro i σ H' _ ⟨e, _⟩
    exact SqL.of (e _ _ hT9)
  · rintro i x σ H0 H10 hi ⟨e10, z5, z6, z9, z10, rfl⟩ ⟨rfl, hx⟩
    obtain ⟨t, hti, htx⟩ := hts.get hx
    obtain ⟨tw, td⟩ := htw t (List.mem_of_getElem? hti)
    have hx10 := htx.same (e59.trans e10)
    have hd10 := e10 _ _ hdT
    have hu := ren_ok ok0 ok1 tw
    have hdu : dep (ren (rep (tbl n0 n1)) t) = dep t := dep_ren _ _
    have c15 : (dd (pts t)).length ≤ 15 := by
      have h1 := length_dd (pts t)
      have h2 := pts_len t
      have h3 := cnt_le t 4 td
      omega
    have mem_p : ∀ r ∈ dd (pts t), Two n0 n1 r ∧ dep r ≤ 4 := fun r hr => by
      have rm := (mem_dd _).mp hr
      exact ⟨two_pts tw rm, Nat.le_trans (pts_dep t r rm) td⟩
    refine ⟨_, rfl, _, rfl, x, dT, t, tbl n0 n1, rfl, hx10, tw.1, by omega, hd10, tnd, tok, tl2, fun H11 ov e11 hov => ?_⟩
    -- read back
    refine ⟨_, rfl, ov, _, rfl, hov, hu, by omega, fun H12 e12 => ?_⟩
    refine ⟨_, rfl, hu, by omega, fun H13 rv e13 hrv => ?_⟩
    refine ⟨_, rfl, rv, ov, rfl, sm_tm 6 hrv (hov.same (e12.trans e13)) (by omega), fun H14 e14 => ⟨_, rfl, iteF ?_⟩⟩
    have e1114 := e12.trans (e13.trans e14)
    -- the parts
    refine ⟨_, rfl, ov, _, rfl, hov.same e1114, hu, by omega, fun H15 p1 us1 e15 np1 hp1 hus1 => ?_⟩
    have e1015 := e11.trans (e1114.trans e15)
    refine ⟨_, rfl, x, t, rfl, hx10.same e1015, tw.1, by omega, fun H16 p2 us2 e16 np2 hp2 hus2 => ⟨p2, rfl, ⟨_, SqL.of hp2⟩, fun D2 nD2 => ?_⟩⟩
    have e1016 := e1015.trans e16
    refine lc_terms (K := K) (walk_list (K := K) (a := p2) (xs := us2)) nD2 hus2 (ren (rep (tbl n0 n1))) (small_of (by rw [hus2.len]; omega)) (fun H e => SqL.of (e _ _ hp2)) (fun _ => rfl) (fun y r H Q h1 h2 h3 h4 => ?_) ?_
    · obtain ⟨w1, w2⟩ := mem_p r h2
      exact ⟨_, rfl, _, rfl, y, dT, r, tbl n0 n1, rfl, h1, w1.1, by omega, (e1016.trans h3) _ _ hd10, tnd, tok, tl2, h4⟩
    intro H17 ys e17 hD2 hys
    rw [← ren_dd hne tw] at hys
    refine ⟨_, _, rfl, sm_tms (n := 5) (SqL.of ((e16.trans e17) _ _ hp1)) (SqL.of hD2) (hus1.same (e16.trans e17)) hys (fun r hr => ?_) ?_, fun H18 e18 => ⟨_, rfl, iteF ?_⟩⟩
    · have := pts_dep _ r ((mem_dd _).mp hr)
      omega
    · rw [ren_dd hne tw, List.length_map]
      omega
    have e1018 := e1016.trans (e17.trans e18)
    -- again
    refine ⟨_, rfl, x, t, rfl, hx10.same e1018, tw.1, by omega, fun H19 p3 us3 e19 np3 hp3 hus3 => ⟨p3, rfl, ⟨_, SqL.of hp3⟩, fun D3 nD3 => ?_⟩⟩
    have e1019 := e1018.trans e19
    refine lc_terms (K := K) (walk_list (K := K) (a := p3) (xs := us3)) nD3 hus3 (ren (rep (tbl n0 n1))) (small_of (by rw [hus3.len]; omega)) (fun H e => SqL.of (e _ _ hp3)) (fun _ => rfl) (fun y r H Q h1 h2 h3 h4 => ?_) ?_
    · obtain ⟨w1, w2⟩ := mem_p r h2
      refine ⟨_, rfl, y, r, rfl, h1, w1.1, by omega, fun H20 e20 => ?_⟩
      refine ⟨r, rfl, w1.1, by omega, fun H21 rv e21 hrv => ?_⟩
      exact ⟨_, rfl, rv, dT, r, tbl n0 n1, rfl, hrv, w1.1, by omega, (e1019.trans (h3.trans (e20.trans e21))) _ _ hd10, tnd, tok, tl2, fun H22 z e22 hz => h4 _ _ (e20.trans (e21.trans e22)) hz⟩
    intro H20 ys3 e20 hD3 hys3
    rw [← ren_dd hne tw] at hys3
    have e1120 := (e1114.trans e15).trans (e16.trans (e17.trans (e18.trans (e19.trans e20))))
    have mem_u : ∀ r ∈ dd (pts (ren (rep (tbl n0 n1)) t)), Ok r ∧ dep r ≤ 4 := fun r hr => by
      have h1 := pts_ok _ hu r ((mem_dd _).mp hr)
      exact ⟨h1.1, by omega⟩
    have c15u : (dd (pts (ren (rep (tbl n0 n1)) t))).length ≤ 15 := by
      rw [ren_dd hne tw, List.length_map]
      exact c15
    refine ⟨_, rfl, ov, _, rfl, hov.same e1120, hu, by omega, fun H21 p4 us4 e21 np4 hp4 hus4 => ⟨p4, rfl, ⟨_, SqL.of hp4⟩, fun D4 nD4 => ?_⟩⟩
    refine lc_words (K := K) (walk_list (K := K) (a := p4) (xs := us4)) nD4 hus4 (small_of (by rw [hus4.len]; omega)) (fun H e => SqL.of (e _ _ hp4)) (fun _ => rfl) (fun y r H Q h1 h2 h3 => ⟨_, rfl, y, r, rfl, h1, (mem_u r h2).1, by have := (mem_u r h2).2; omega, h3⟩) ?_
    intro H22 e22 hD4
    have hD3' := (e21.trans e22) _ _ hD3
    refine ⟨_, rfl, D3, rfl, ⟨_, SqL.of hD3'⟩, fun D5 nD5 => ?_⟩
    refine lc_words (K := K) (walk_list (K := K) (a := D3) (xs := ys3)) nD5 (hys3.same (e21.trans e22)) (small_of (by rw [hys3.len]; omega)) (fun H e => SqL.of (e _ _ hD3')) (fun _ => rfl) (fun y r H Q h1 h2 h3 => ⟨_, rfl, y, r, rfl, h1, (mem_u r h2).1, by have := (mem_u r h2).2; omega, h3⟩) ?_
    intro H23 e23 hD5
    have sok : ∀ z ∈ (dd (pts (ren (rep (tbl n0 n1)) t))).map ws, PyData.strOk z = true := fun z hz => by
      obtain ⟨r, hr, rfl⟩ := List.mem_map.mp hz
      exact ws_strOk (mem_u r hr).1
    refine ⟨_, _, .lst (SqL.of (e23 _ _ hD4)) (dp_strs _), .lst (SqL.of hD5) (dp_strs _), str_shaped sok, str_shaped sok, _, rfl, iteN (by rw [str_eqv sok]; rfl) ?_⟩
    exact ⟨e10.trans (e11.trans (e1120.trans (e21.trans (e22.trans e23)))), _, _, _, _, rfl⟩
  rintro σ H10 ⟨e10, z5, z6, z9, z10, rfl⟩
  have e410 : Same H4 H10 := e59.trans e10
  have hT10 := e410 _ _ hT
  clear hT9e eH9 hH9 e59 hdT hT9 e10
  cases hts with
  | nil =>
    exfalso
    rw [← htl] at k2
    exact absurd k2 (by decide)
  | @cons v0 t0 vs1 ts1 h0 hts1 =>
  cases hts1 with
  | nil =>
    exfalso
    rw [← htl] at k2
    have k2 : 2 ≤ 1 := k2
    omega
  | @cons v1 t1 vr tr h1 hr1 =>
  obtain ⟨w0, d0⟩ := htw t0 List.mem_cons_self
  obtain ⟨w1, d1⟩ := htw t1 (List.mem_cons_of_mem _ List.mem_cons_self)
  have h0 := h0.same e410
  have h1 := h1.same e410
  have hdw : dep (.two .pair t0 t1) = max (dep t0) (dep t1) + 1 := rfl
  have hsw : siz (.two .pair t0 t1) = siz t0 + siz t1 := rfl
  have dw : dep (.two .pair t0 t1) ≤ 5 := by omega
  have okw : Ok (.two .pair t0 t1) := ⟨w0.1, w1.1⟩
  have lw : lvs (.two .pair t0 t1) = lvs t0 ++ lvs t1 := rfl
  refine ⟨_, rfl, T, _, 0, _, rfl, rfl, SqL.of hT10, at0, ?_⟩
  refine ⟨_, rfl, T, _, 1, _, rfl, rfl, SqL.of hT10, at1, ?_⟩
  refine ⟨_, rfl, _, rfl, three_small, fun wA nwA => ?_⟩
  have e11 := same_new nwA (.tup [.str "pair", v0, v1])
  have hW : TmIn K (upd H10 wA (.tup [.str "pair", v0, v1])) (.ref wA) (.two .pair t0 t1) := .two (SqT.of upd_same) (h0.same e11) (h1.same e11)
  have h0 := h0.same e11
  have h1 := h1.same e11
  clear e11 nwA hT10 e410
  -- names
  refine ⟨_, rfl, .ref wA, _, rfl, hW, okw, dw, fun H12 p1 ys1 e12 np1 hp1 nd1 mem1 srt1 => ?_⟩
  refine ⟨_, rfl, v0, t0, rfl, h0.same e12, w0.1, by omega, fun H13 p2 ys2 e13 np2 hp2 nd2 mem2 srt2 => ?_⟩
  refine ⟨_, rfl, v1, t1, rfl, h1.same (e12.trans e13), w1.1, by omega, fun H14 p3 ys3 e14 np3 hp3 nd3 mem3 srt3 => ?_⟩
  have l2 := two_len nd2 fun x hx => w0.2 x ((mem2 x).mp hx)
  have l3 := two_len nd3 fun x hx => w1.2 x ((mem3 x).mp hx)
  refine ⟨p2, p3, _, _, rfl, rfl, e14 _ _ hp2, hp3, by rw [List.length_map, List.length_map]; exact small_of (by omega), fun p4 np4 => ?_⟩
  refine ⟨p4, ys2 ++ ys3, rfl, SqL.of (by rw [upd_same, List.map_append]), by rw [List.length_append]; unfold scanBound; omega, fun s5 ns5 => ?_⟩
  refine ⟨s5, ys2 ++ ys3, rfl, upd_same, by rw [List.length_append]; omega, fun ys p5 nd5 mem5 srt5 np5 => ?_⟩
  have ey : ys1 = ys := sorted_one nd1 nd5 (fun x => by rw [mem1, mem5, List.mem_append, mem2, mem3, lw, List.mem_append]) srt1 srt5
  subst ey
  have l1 := two_len nd1 fun x hx => by
    have := (mem1 x).mp hx
    rw [lw, List.mem_append] at this
    rcases this with h | h
    · exact w0.2 x h
    · exact w1.2 x h
  have e1216 := (e13.trans e14).trans ((same_new np4 (.lst (ys2.map V.str ++ ys3.map V.str))).trans (same_new ns5 (SetTO w s5 (ys2 ++ ys3))))
  refine ⟨_, _, rfl, sm_mono (by decide) (sm_strs (SqL.of ((e1216.trans (same_new np5 (.lst (ys1.map V.str)))) _ _ hp1)) (SqL.of upd_same) (by omega)), fun H17 e17 => ⟨_, rfl, iteF ?_⟩⟩
  have e1117 := e12.trans ((e1216.trans (same_new np5 (.lst (ys1.map V.str)))).trans e17)
  have h0 := h0.same e1117
  have h1 := h1.same e1117
  have hW := hW.same e1117
  clear e1117 e17 e1216 np5 np4 ns5 hp1 hp2 hp3 e12 e13 e14 np1 np2 np3
  -- sizes and depths
  refine ⟨_, rfl, v0, t0, rfl, h0, w0.1, by omega, fun H18 e18 => ?_⟩
  refine ⟨_, rfl, v1, t1, rfl, h1.same e18, w1.1, by omega, fun H19 e19 => ?_⟩
  refine ⟨_, _, rfl, rfl, ?_⟩
  have e20 := e18.trans e19
  refine ⟨_, rfl, v0, t0, rfl, h0.same e20, w0.1, by omega, fun H21 e21 => ?_⟩
  refine ⟨_, rfl, v1, t1, rfl, h1.same (e20.trans e21), w1.1, by omega, fun H22 e22 => ?_⟩
  refine ⟨_, _, rfl, _, _, rfl, rfl, two_small, fun p6 np6 => ?_⟩
  have e23 := (e20.trans e21).trans (e22.trans (same_new np6 (.lst [.int (siz t0 + siz t1 : Int), .int (1 + (if (dep t1 : Int) > dep t0 then (dep t1 : Int) else dep t0))])))
  refine ⟨_, rfl, .ref wA, _, rfl, hW.same e23, okw, dw, fun H24 e24 => ?_⟩
  refine ⟨_, rfl, .ref wA, _, rfl, hW.same (e23.trans e24), okw, dw, fun H25 e25 => ?_⟩
  refine ⟨two_small, fun p7 np7 => ?_⟩
  have e26 := same_new np7 (.lst [.int (siz (.two .pair t0 t1) : Int), .int (dep (.two .pair t0 t1) : Int)])
  have hp6 := (e24.trans (e25.trans e26)) p6 _ upd_same
  have ei : (1 + (if (dep t1 : Int) > dep t0 then (dep t1 : Int) else dep t0)) = (dep (.two .pair t0 t1) : Int) := by
    rw [hdw]
    split <;> omega
  have ej : (siz t0 + siz t1 : Int) = (siz (.two .pair t0 t1) : Int) := by
    rw [hsw]
    omega
  have hp6 : upd H25 p7 (.lst [.int (siz (.two .pair t0 t1) : Int), .int (dep (.two .pair t0 t1) : Int)]) p6 = some (.lst [.int (siz (.two .pair t0 t1) : Int), .int (dep (.two .pair t0 t1) : Int)]) := by
    refine hp6.trans ?_
    show some (HO.lst [V.int (siz t0 + siz t1 : Int), V.int (1 + (if (dep t1 : Int) > dep t0 then (dep t1 : Int) else dep t0))]) = _
    rw [ei, ej]
  refine ⟨_, rfl, _, _, rfl, sm_mono (by decide) (sm_ints (xs := [(siz (.two .pair t0 t1) : Int), (dep (.two .pair t0 t1) : Int)]) (SqL.of upd_same) (SqL.of hp6) (by show 2 ≤ 100000; decide)), fun H27 e27 => ⟨_, rfl, iteF ?_⟩⟩
  have e1727 := (e23.trans e24).trans (e25.trans (e26.trans e27))
  have h0 := h0.same e1727
  have h1 := h1.same e1727
  have hW := hW.same e1727
  clear e1727 e27 hp6 e26 e25 e24 e23 np6 np7 e22 e21 e20 e19 e18
  -- the parts of the whole
  have c15 : ∀ {t : Tm}, dep t ≤ 4 → (dd (pts t)).length ≤ 15 := fun {t} h => by
    have h1 := length_dd (pts t)
    have h2 := pts_len t
    have h3 := cnt_le t 4 h
    omega
  have mem_p : ∀ {t : Tm}, Two n0 n1 t → dep t ≤ 4 → ∀ r ∈ dd (pts t), Ok r ∧ dep r ≤ 4 := fun {t} tw td r hr => by
    have rm := (mem_dd _).mp hr
    exact ⟨(two_pts tw rm).1, Nat.le_trans (pts_dep t r rm) td⟩
  refine ⟨_, rfl, v1, t1, rfl, h1, w1.1, by omega, fun H28 p8 us8 e28 np8 hp8 hus8 => ⟨p8, rfl, ⟨_, SqL.of hp8⟩, fun D8 nD8 => ?_⟩⟩
  have h0 := h0.same e28
  have hW := hW.same e28
  refine lc_keep (K := K) (walk_list (K := K) (a := p8) (xs := us8)) nD8 hus8 (fun r => !decide (r ∈ dd (pts t0))) (small_of (by rw [hus8.len]; have := c15 d1; omega)) (fun H e => SqL.of (e _ _ hp8)) (fun _ => rfl) (fun x H Q h => ⟨_, rfl, h⟩) ?_ ?_
  · intro y r H29 Q29 hy hr e29 q29
    obtain ⟨m1, m2⟩ := mem_p w1 d1 r hr
    refine ⟨_, rfl, _, rfl, v0, t0, rfl, h0.same e29, w0.1, by omega, fun H30 p9 us9 e30 np9 hp9 hus9 => ?_⟩
    refine ⟨dat r, (dd (pts t0)).map dat, (hy.same e30).dp, .lst (SqL.of hp9) hus9.dp, dat_shaped m1 (by omega), dats_shaped (fun u hu => (mem_p w0 d0 u hu).1) (fun u hu => by have := (mem_p w0 d0 u hu).2; omega), _, rfl, ?_⟩
    rw [dat_any]
    exact q29 _ e30
  intro H29 ys8 e29 hD8 hys8
  have h0 := h0.same e29
  have hW := hW.same e29
  refine ⟨_, rfl, .ref wA, _, rfl, hW, okw, dw, fun H30 pA usA e30 npA hpA husA => ?_⟩
  refine ⟨_, rfl, one_small, fun pB npB => ?_⟩
  have e31 := same_new npB (.lst [.ref wA])
  refine ⟨_, rfl, v0, t0, rfl, h0.same (e30.trans e31), w0.1, by omega, fun H32 pC usC e32 npC hpC husC => ?_⟩
  have lC := husC.len
  have l8 := hys8.len
  have lf := List.length_filter_le (fun r => !decide (r ∈ dd (pts t0))) (dd (pts t1))
  have c0 := c15 d0
  have c1 := c15 d1
  refine ⟨pB, pC, _, _, rfl, rfl, e32 _ _ upd_same, hpC, by simp only [List.length_cons, List.length_nil]; exact small_of (by omega), fun pD npD => ?_⟩
  have e33 := same_new npD (.lst ([.ref wA] ++ usC))
  have e3033 := e30.trans (e31.trans (e32.trans e33))
  refine ⟨_, rfl, pD, D8, _, _, rfl, rfl, upd_same, e3033 _ _ hD8, by simp only [List.length_append, List.length_cons, List.length_nil]; exact small_of (by omega), fun pE npE => ?_⟩
  have e34 := same_new npE (.lst ([.ref wA] ++ usC ++ ys8))
  have e3134 := e31.trans (e32.trans (e33.trans e34))
  have ed : dd (pts (.two .pair t0 t1)) = [.two .pair t0 t1] ++ dd (pts t0) ++ (dd (pts t1)).filter fun r => !decide (r ∈ dd (pts t0)) := by
    rw [dd_pair, not_dec, List.append_assoc]
    rfl
  have hall : Tms K (upd (upd H32 pD (.lst ([.ref wA] ++ usC))) pE (.lst ([.ref wA] ++ usC ++ ys8))) ([.ref wA] ++ usC ++ ys8) (dd (pts (.two .pair t0 t1))) := by
    rw [ed]
    exact Tms.app (Tms.app (.cons (hW.same (e30.trans e3134)) .nil) (husC.same (e33.trans e34))) (hys8.same (e30.trans e3134))
  refine ⟨_, _, rfl, sm_tms (n := 5) (SqL.of (e3134 _ _ hpA)) (SqL.of upd_same) (husA.same e3134) hall (fun r hr => ?_) ?_, fun H35 _ => q _⟩
  · have := pts_dep _ r ((mem_dd _).mp hr)
    omega
  · rw [ed]
    simp only [List.length_append, List.length_cons, List.length_nil]
    omega
end
end K6

set_option Elab.async false
set_option linter.all false
set_option maxRecDepth 100000
set_option maxHeartbeats 8000000
/-! the program's top -/
namespace K6
open PySem PySem.Spec PyProof.Rows L2
def BD (x : Str) (st : Stmt) (ps : List Str) : Prop := ∀ (kV doc pm : Value) (an : Option Addr) (cdv ct : Value) (us : List Value), us.length = ps.length → bindArgs (PySem.W.fnOf x x (defArgs st) (defBody st) (defScope st) .none kV doc pm an cdv ct) ⟨us, []⟩ = pure (ps.zip us)
theorem at_mk {K : PySem.W.Frag} {h : Heap} {mg : Str → Option Value} (X : K.In h) (G : h.Ns mainGlobals mg) {x : Str} {st : Stmt} {ps : List Str} (b : BD x st ps) {f : Addr} {od an : Option Addr} {sl : Array (Option Value)} {oc kV dc pm cd ct : Value}
    (a : PySem.W.nsIn K mainGlobals x = some (some (.ref f))) (l : K.lookup f = some ⟨oc, od, .func (PySem.W.fnOf x x (defArgs st) (defBody st) (defScope st) .none kV dc pm an cd ct), sl⟩) (c : PySem.W.codeIn K cd x = true) (k : PySem.W.keepIn K (.ref f) = true) : At K mg x st ps :=
  have F := fun_mk (st := st) l c k
  ⟨f, _, F, PySem.W.mg_of X G a, F.binds b⟩
theorem bd_is_name : BD "is_name" s_is_name ["thing"] := fun _ _ _ _ _ _ us hl => match us, hl with | [_], _ => rfl
theorem bd_is_name_dict : BD "is_name_dict" s_is_name_dict ["thing"] := fun _ _ _ _ _ _ us hl => match us, hl with | [_], _ => rfl
theorem bd_is_leaf : BD "is_leaf" s_is_leaf ["thing", "open_so"] := fun _ _ _ _ _ _ us hl => match us, hl with | [_, _], _ => rfl
theorem bd_measure : BD "measure" s_measure ["thing", "open_so", "room"] := fun _ _ _ _ _ _ us hl => match us, hl with | [_, _, _], _ => rfl
theorem bd_has_form : BD "has_form" s_has_form ["thing", "open_so"] := fun _ _ _ _ _ _ us hl => match us, hl with | [_, _], _ => rfl
theorem bd_is_term : BD "is_term" s_is_term ["thing"] := fun _ _ _ _ _ _ us hl => match us, hl with | [_], _ => rfl
theorem bd_check_term : BD "check_term" s_check_term ["term"] := fun _ _ _ _ _ _ us hl => match us, hl with | [_], _ => rfl
theorem bd_leaves : BD "leaves" s_leaves ["term"] := fun _ _ _ _ _ _ us hl => match us, hl with | [_], _ => rfl
theorem bd_names_of : BD "names_of" s_names_of ["term"] := fun _ _ _ _ _ _ us hl => match us, hl with | [_], _ => rfl
theorem bd_all_parts : BD "all_parts" s_all_parts ["term"] := fun _ _ _ _ _ _ us hl => match us, hl with | [_], _ => rfl
theorem bd_parts_of : BD "parts_of" s_parts_of ["term"] := fun _ _ _ _ _ _ us hl => match us, hl with | [_], _ => rfl
theorem bd_size_of : BD "size_of" s_size_of ["term"] := fun _ _ _ _ _ _ us hl => match us, hl with | [_], _ => rfl
theorem bd_depth_of : BD "depth_of" s_depth_of ["term"] := fun _ _ _ _ _ _ us hl => match us, hl with | [_], _ => rfl
theorem bd_replaced : BD "replaced" s_replaced ["term", "names"] := fun _ _ _ _ _ _ us hl => match us, hl with | [_, _], _ => rfl
theorem bd_renamed : BD "renamed" s_renamed ["term", "names"] := fun _ _ _ _ _ _ us hl => match us, hl with | [_, _], _ => rfl
theorem bd_spelled : BD "spelled" s_spelled ["term"] := fun _ _ _ _ _ _ us hl => match us, hl with | [_], _ => rfl
theorem bd_worded : BD "worded" s_worded ["term"] := fun _ _ _ _ _ _ us hl => match us, hl with | [_], _ => rfl
theorem bd_word_end : BD "word_end" s_word_end ["text", "at"] := fun _ _ _ _ _ _ us hl => match us, hl with | [_, _], _ => rfl
theorem bd_leaf_at : BD "leaf_at" s_leaf_at ["text", "at"] := fun _ _ _ _ _ _ us hl => match us, hl with | [_, _], _ => rfl
theorem bd_behind : BD "behind" s_behind ["text", "found", "mark"] := fun _ _ _ _ _ _ us hl => match us, hl with | [_, _, _], _ => rfl
theorem bd_round_at : BD "round_at" s_round_at ["text", "at", "room"] := fun _ _ _ _ _ _ us hl => match us, hl with | [_, _, _], _ => rfl
theorem bd_box_at : BD "box_at" s_box_at ["text", "at", "room"] := fun _ _ _ _ _ _ us hl => match us, hl with | [_, _, _], _ => rfl
theorem bd_shut_at : BD "shut_at" s_shut_at ["text", "at", "room"] := fun _ _ _ _ _ _ us hl => match us, hl with | [_, _, _], _ => rfl
theorem bd_word_at : BD "word_at" s_word_at ["text", "at", "room"] := fun _ _ _ _ _ _ us hl => match us, hl with | [_, _, _], _ => rfl
theorem bd_term_at : BD "term_at" s_term_at ["text", "at", "room"] := fun _ _ _ _ _ _ us hl => match us, hl with | [_, _, _], _ => rfl
theorem bd_read_any : BD "read_any" s_read_any ["text", "open_so"] := fun _ _ _ _ _ _ us hl => match us, hl with | [_, _], _ => rfl
theorem bd_read_term : BD "read_term" s_read_term ["text"] := fun _ _ _ _ _ _ us hl => match us, hl with | [_], _ => rfl
theorem bd__law_bag : BD "_law_bag" s__law_bag ["_law_script"] := fun _ _ _ _ _ _ us hl => match us, hl with | [_], _ => rfl
theorem bd__law_draw : BD "_law_draw" s__law_draw ["_law_bag_here", "_law_many"] := fun _ _ _ _ _ _ us hl => match us, hl with | [_, _], _ => rfl
theorem bd__law_same : BD "_law_same" s__law_same ["_law_actual", "_law_due"] := fun _ _ _ _ _ _ us hl => match us, hl with | [_, _], _ => rfl
theorem bd__law_names : BD "_law_names" s__law_names ["_law_bag_here", "_law_many"] := fun _ _ _ _ _ _ us hl => match us, hl with | [_, _], _ => rfl
theorem bd__law_pick : BD "_law_pick" s__law_pick ["_law_bag_here", "_law_things"] := fun _ _ _ _ _ _ us hl => match us, hl with | [_, _], _ => rfl
theorem bd__law_leaf : BD "_law_leaf" s__law_leaf ["_law_bag_here", "_law_names_here", "_law_variables"] := fun _ _ _ _ _ _ us hl => match us, hl with | [_, _, _], _ => rfl
theorem bd__law_pattern : BD "_law_pattern" s__law_pattern ["_law_bag_here", "_law_names_here", "_law_variables", "_law_depth"] := fun _ _ _ _ _ _ us hl => match us, hl with | [_, _, _, _], _ => rfl
theorem bd__law_term : BD "_law_term" s__law_term ["_law_bag_here", "_law_names_here", "_law_depth"] := fun _ _ _ _ _ _ us hl => match us, hl with | [_, _, _], _ => rfl
theorem bd_law : BD "law" s_law ["_law_script"] := fun _ _ _ _ _ _ us hl => match us, hl with | [_], _ => rfl
/-- the program's defs -/
structure As (K : PySem.W.Frag) (mg : Str → Option Value) : Prop where
  a_is_name : At K mg "is_name" s_is_name ["thing"]
  a_is_name_dict : At K mg "is_name_dict" s_is_name_dict ["thing"]
  a_is_leaf : At K mg "is_leaf" s_is_leaf ["thing", "open_so"]
  a_measure : At K mg "measure" s_measure ["thing", "open_so", "room"]
  a_has_form : At K mg "has_form" s_has_form ["thing", "open_so"]
  a_is_term : At K mg "is_term" s_is_term ["thing"]
  a_check_term : At K mg "check_term" s_check_term ["term"]
  a_leaves : At K mg "leaves" s_leaves ["term"]
  a_names_of : At K mg "names_of" s_names_of ["term"]
  a_all_parts : At K mg "all_parts" s_all_parts ["term"]
  a_parts_of : At K mg "parts_of" s_parts_of ["term"]
  a_size_of : At K mg "size_of" s_size_of ["term"]
  a_depth_of : At K mg "depth_of" s_depth_of ["term"]
  a_replaced : At K mg "replaced" s_replaced ["term", "names"]
  a_renamed : At K mg "renamed" s_renamed ["term", "names"]
  a_spelled : At K mg "spelled" s_spelled ["term"]
  a_worded : At K mg "worded" s_worded ["term"]
  a_word_end : At K mg "word_end" s_word_end ["text", "at"]
  a_leaf_at : At K mg "leaf_at" s_leaf_at ["text", "at"]
  a_behind : At K mg "behind" s_behind ["text", "found", "mark"]
  a_round_at : At K mg "round_at" s_round_at ["text", "at", "room"]
  a_box_at : At K mg "box_at" s_box_at ["text", "at", "room"]
  a_shut_at : At K mg "shut_at" s_shut_at ["text", "at", "room"]
  a_word_at : At K mg "word_at" s_word_at ["text", "at", "room"]
  a_term_at : At K mg "term_at" s_term_at ["text", "at", "room"]
  a_read_any : At K mg "read_any" s_read_any ["text", "open_so"]
  a_read_term : At K mg "read_term" s_read_term ["text"]
  a__law_bag : At K mg "_law_bag" s__law_bag ["_law_script"]
  a__law_draw : At K mg "_law_draw" s__law_draw ["_law_bag_here", "_law_many"]
  a__law_same : At K mg "_law_same" s__law_same ["_law_actual", "_law_due"]
  a__law_names : At K mg "_law_names" s__law_names ["_law_bag_here", "_law_many"]
  a__law_pick : At K mg "_law_pick" s__law_pick ["_law_bag_here", "_law_things"]
  a__law_leaf : At K mg "_law_leaf" s__law_leaf ["_law_bag_here", "_law_names_here", "_law_variables"]
  a__law_pattern : At K mg "_law_pattern" s__law_pattern ["_law_bag_here", "_law_names_here", "_law_variables", "_law_depth"]
  a__law_term : At K mg "_law_term" s__law_term ["_law_bag_here", "_law_names_here", "_law_depth"]
section
variable {P : Program} {w : World} {K : PySem.W.Frag} {mg : Str → Option Value} {base : Heap} {aN aL : Addr}
theorem ds_mk (A : As K mg) (B : Bt mg) (C : Cs K w mg aN aL) : Ds P w K mg base := by
  have D_is_name := ok_is_name (P := P) (w := w) (base := base) A.a_is_name B C
  have D_is_name_dict := ok_is_name_dict A.a_is_name_dict B D_is_name
  have D_is_leaf := ok_is_leaf A.a_is_leaf B C D_is_name
  have D_measure := ok_measure A.a_measure B C D_is_leaf 5
  have D_has_form := ok_has_form A.a_has_form C D_measure
  have D_is_term := ok_is_term A.a_is_term D_has_form
  have D_check_term := ok_check_term A.a_check_term D_is_term
  have D_leaves := ok_leaves (P := P) (w := w) (base := base) A.a_leaves B C 8 (Nat.le_refl 8)
  have D_all_parts := ok_all_parts (P := P) (w := w) (base := base) A.a_all_parts B C 8 (Nat.le_refl 8)
  have D_replaced := ok_replaced (P := P) (w := w) (base := base) A.a_replaced B 5
  have D_spelled := ok_spelled (P := P) (w := w) (base := base) A.a_spelled B C 8 (Nat.le_refl 8)
  have D_word_end := ok_word_end (P := P) (w := w) (base := base) A.a_word_end B C
  have D_leaf_at := ok_leaf_at A.a_leaf_at B C D_word_end D_is_name
  have D_behind := ok_behind (P := P) (w := w) (base := base) A.a_behind B
  have D_term_at := ok_term_at A.a_term_at A.a_round_at A.a_box_at A.a_shut_at A.a_word_at B C D_word_end D_behind D_leaf_at 5
  have D_read_any := ok_read_any A.a_read_any C D_term_at D_has_form D_spelled
  have D_draw := ok__law_drawL (P := P) (w := w) (base := base) A.a__law_draw B
  have D_pick := ok__law_pick A.a__law_pick B D_draw
  have D_leaf := ok__law_leaf A.a__law_leaf B D_draw D_pick
  have D_pattern := ok__law_pattern A.a__law_pattern D_draw D_leaf 4
  exact {
    bag := ok__law_bag A.a__law_bag B
    names := ok__law_names A.a__law_names B D_draw
    draw := D_draw
    term := ok__law_term A.a__law_term D_pattern
    parts := ok_parts_of A.a_parts_of B D_check_term D_all_parts
    worded := ok_worded A.a_worded D_check_term D_spelled
    renamed := ok_renamed A.a_renamed D_check_term D_is_name_dict D_replaced
    read := ok_read_term A.a_read_term B D_read_any
    same := ok__law_same A.a__law_same B 6
    nms := ok_names_of A.a_names_of B D_check_term D_leaves
    size := ok_size_of A.a_size_of B D_check_term D_leaves
    depth := ok_depth_of A.a_depth_of C D_check_term D_measure }
end
theorem bt_mk {K : PySem.W.Frag} {h : Heap} {mg : Str → Option Value} (X : K.In h) (G : h.Ns mainGlobals mg)
    (z_isinstance : PySem.W.nsIn K mainGlobals "isinstance" = some none) (z_str : PySem.W.nsIn K mainGlobals "str" = some none) (z_tuple : PySem.W.nsIn K mainGlobals "tuple" = some none) (z_list : PySem.W.nsIn K mainGlobals "list" = some none) (z_dict : PySem.W.nsIn K mainGlobals "dict" = some none) (z_bool : PySem.W.nsIn K mainGlobals "bool" = some none) (z_int : PySem.W.nsIn K mainGlobals "int" = some none) (z_set : PySem.W.nsIn K mainGlobals "set" = some none) (z_len : PySem.W.nsIn K mainGlobals "len" = some none) (z_all : PySem.W.nsIn K mainGlobals "all" = some none) (z_sum : PySem.W.nsIn K mainGlobals "sum" = some none) (z_max : PySem.W.nsIn K mainGlobals "max" = some none) (z_sorted : PySem.W.nsIn K mainGlobals "sorted" = some none) (z_range : PySem.W.nsIn K mainGlobals "range" = some none) : Bt mg :=
  ⟨PySem.W.mg_none_of X G z_isinstance, PySem.W.mg_none_of X G z_str, PySem.W.mg_none_of X G z_tuple, PySem.W.mg_none_of X G z_list, PySem.W.mg_none_of X G z_dict, PySem.W.mg_none_of X G z_bool, PySem.W.mg_none_of X G z_int, PySem.W.mg_none_of X G z_set, PySem.W.mg_none_of X G z_len, PySem.W.mg_none_of X G z_all, PySem.W.mg_none_of X G z_sum, PySem.W.mg_none_of X G z_max, PySem.W.mg_none_of X G z_sorted, PySem.W.mg_none_of X G z_range⟩
theorem cs_mk {K : PySem.W.Frag} {w : World} {h : Heap} {mg : Str → Option Value} (X : K.In h) (G : h.Ns mainGlobals mg) {aN aL : Addr} {dN : Option Addr} {nN nL : Nat} {slN : Array (Option Value)} {es : Array DictEntry} {t1 t2 t3 t4 t5 t6 t7 t8 t9 t10 t11 t12 u1 u2 u3 v1 v2 v3 v4 v5 v6 : Tok}
    (c_small : PySem.W.nsIn K mainGlobals "SMALL" = some (some (.str "abcdefghijklmnopqrstuvwxyz" t1)))
    (c_letters : PySem.W.nsIn K mainGlobals "MOST_LETTERS" = some (some (.int 8 t2)))
    (c_pair : PySem.W.nsIn K mainGlobals "PAIR" = some (some (.str "pair" t3)))
    (c_box : PySem.W.nsIn K mainGlobals "BOX" = some (some (.str "box" t4)))
    (c_half : PySem.W.nsIn K mainGlobals "HALF" = some (some (.str "half" t5)))
    (c_shut : PySem.W.nsIn K mainGlobals "SHUT" = some (some (.str "shut" t6)))
    (c_mark : PySem.W.nsIn K mainGlobals "MARK" = some (some (.str "mark" t7)))
    (c_mix : PySem.W.nsIn K mainGlobals "MIX" = some (some (.str "mix" t8)))
    (c_var : PySem.W.nsIn K mainGlobals "VAR" = some (some (.str "var" t9)))
    (c_amp : PySem.W.nsIn K mainGlobals "AND" = some (some (.str " & " t10)))
    (c_names : PySem.W.nsIn K mainGlobals "MOST_NAMES" = some (some (.int 40 t11)))
    (c_depth : PySem.W.nsIn K mainGlobals "MOST_DEPTH" = some (some (.int 12 t12)))
    (n1 : PySem.W.nsIn K mainGlobals "NAMED" = some (some (.ref aN)))
    (n2 : K.lookup aN = some ⟨.type "tuple", dN, .seq #[.str "half" u1, .str "shut" u2, .str "mark" u3] nN, slN⟩)
    (l1 : PySem.W.nsIn K mainGlobals "LENGTHS" = some (some (.ref aL)))
    (l2 : K.lookup aL = some ⟨.type "dict", none, .dict es nL, #[]⟩)
    (l3 : PySem.W.KeysLit w.params es.toList)
    (l4 : (aL == sysModules) = false)
    (g_half : PySem.W.nsIn K aL "half" = some (some (.int 2 v1)))
    (g_mix : PySem.W.nsIn K aL "mix" = some (some (.int 2 v2)))
    (g_pair : PySem.W.nsIn K aL "pair" = some (some (.int 3 v3)))
    (g_box : PySem.W.nsIn K aL "box" = some (some (.int 3 v4)))
    (g_shut : PySem.W.nsIn K aL "shut" = some (some (.int 3 v5)))
    (g_mark : PySem.W.nsIn K aL "mark" = some (some (.int 3 v6)))
    : Cs K w mg aN aL where
  small := ⟨_, PySem.W.mg_of X G c_small⟩
  letters := ⟨_, PySem.W.mg_of X G c_letters⟩
  pair := ⟨_, PySem.W.mg_of X G c_pair⟩
  box := ⟨_, PySem.W.mg_of X G c_box⟩
  half := ⟨_, PySem.W.mg_of X G c_half⟩
  shut := ⟨_, PySem.W.mg_of X G c_shut⟩
  mark := ⟨_, PySem.W.mg_of X G c_mark⟩
  mix := ⟨_, PySem.W.mg_of X G c_mix⟩
  var := ⟨_, PySem.W.mg_of X G c_var⟩
  amp := ⟨_, PySem.W.mg_of X G c_amp⟩
  names := ⟨_, PySem.W.mg_of X G c_names⟩
  depth := ⟨_, PySem.W.mg_of X G c_depth⟩
  named := PySem.W.mg_of X G n1
  namedT := fun H => .inr ⟨_, _, _, n2, rfl, rfl, small_of (by show 3 ≤ 1000000; decide), .cons ⟨_, rfl⟩ (.cons ⟨_, rfl⟩ (.cons ⟨_, rfl⟩ .nil))⟩
  lengths := PySem.W.mg_of X G l1
  low := l4
  lenOne := fun k => match k with
    | .half => ⟨es, nL, _, l2, l3, g_half, ⟨_, rfl⟩⟩
    | .mix => ⟨es, nL, _, l2, l3, g_mix, ⟨_, rfl⟩⟩
  lenTwo := fun k => match k with
    | .pair => ⟨es, nL, _, l2, l3, g_pair, ⟨_, rfl⟩⟩
    | .box => ⟨es, nL, _, l2, l3, g_box, ⟨_, rfl⟩⟩
    | .shut => ⟨es, nL, _, l2, l3, g_shut, ⟨_, rfl⟩⟩
    | .mark => ⟨es, nL, _, l2, l3, g_mark, ⟨_, rfl⟩⟩
theorem all_mk {P : Program} {w : World} {K : PySem.W.Frag} {h : Heap} {mg : Str → Option Value} {fa aN aL : Addr} (X : K.In h) (G : h.Ns mainGlobals mg) (hfa : mg "law" = some (.ref fa)) (A : As K mg) (B : Bt mg) (C : Cs K w mg aN aL) (L : At K mg "law" s_law ["_law_script"]) :
    ∃ fd : FuncData, (∀ (s : Shared) (v : Value), BindsTo s fd ⟨[v], []⟩ [("_law_script", v)]) ∧ ∀ base : Heap, K.In base → base.Ns mainGlobals mg → FnOk P w K mg base CX0 16 fa fd ["_law_script"] (spLaw K) := by
  obtain ⟨f, fd, F, m, b⟩ := L
  have e := hfa.symm.trans m
  cases e
  refine ⟨fd, fun s v => ?_, fun base _ _ => ok_law F B (ds_mk A B C)⟩
  obtain ⟨oc, od, kV, doc, pm, an, cdv, ct, osl, rfl, _⟩ := F.ex
  exact .of_eq (bd_law kV doc pm an cdv ct [v] rfl)
theorem walk {l : PySem.W.OpenLaw} {q : Program} {loose : List Str} {XP : (Str → Option Value) → Heap → Prop} {YP : World → Heap → Prop} {d : DefRec} {K : Params → PySem.W.Frag} (hn : l.most = some 63) (hdf : d.params.defaults = [])
    (hY : ∀ (w : World) (h : Heap), YP w h → (K w.params).In h)
    (F : ∀ (w : World) (mg : Str → Option Value) (fa : Addr) (h : Heap), (K w.params).In h → h.Ns mainGlobals mg → mg d.name = some (.ref fa) →
      ∃ fd : FuncData, (∀ (s : Shared) (v : Value), BindsTo s fd ⟨[v], []⟩ [("_law_script", v)]) ∧ ∀ base : Heap, (K w.params).In base → base.Ns mainGlobals mg → FnOk l.prog w (K w.params) mg base CX0 16 fa fd ["_law_script"] (spLaw (K w.params))) :
    PySem.W.WalkO q loose XP YP l.row.toRowW d [] (fun f vs => PySem.call f vs) :=
  L2.walk_ofB (n := 63) (k := 16) (x := "_law_script") (CX := fun _ => CX0) (sp := fun w => spLaw (K w.params)) hn (by decide) hdf ⟨rfl, by decide, by decide⟩ hY F (fun _ _ a ns hl _ _ hS => ⟨a, ns, rfl, hS, Nat.le_trans hl (by decide), fun _ => rfl⟩) fun _ _ _ _ _ z => z
end K6

set_option Elab.async false
set_option maxRecDepth 100000
open PySem PySem.W PyProof.Rows
set_option maxRecDepth 100000 in
set_option maxHeartbeats 0 in
theorem PySem.Challenge.cw_sealedtalk_k06_whole_terms_and_wordings_holds : PySem.Challenge.rw_sealedtalk_k06_whole_terms_and_wordings.Holds := by
  w_on; o_law; k_head; (case hw => w_witness2)
  k_fill
  refine K6.walk (l := PySem.Challenge.rw_sealedtalk_k06_whole_terms_and_wordings) rfl rfl (fun w h Y => PySem.W.kIn_of Y) ?F
  case F =>
    intro w mg fa h KX G hmg
    refine' K6.all_mk KX G hmg (K6.As.mk 
      (K6.at_mk KX G K6.bd_is_name ?a0 ?l0 ?c0 ?k0)
      (K6.at_mk KX G K6.bd_is_name_dict ?a1 ?l1 ?c1 ?k1)
      (K6.at_mk KX G K6.bd_is_leaf ?a2 ?l2 ?c2 ?k2)
      (K6.at_mk KX G K6.bd_measure ?a3 ?l3 ?c3 ?k3)
      (K6.at_mk KX G K6.bd_has_form ?a4 ?l4 ?c4 ?k4)
      (K6.at_mk KX G K6.bd_is_term ?a5 ?l5 ?c5 ?k5)
      (K6.at_mk KX G K6.bd_check_term ?a6 ?l6 ?c6 ?k6)
      (K6.at_mk KX G K6.bd_leaves ?a7 ?l7 ?c7 ?k7)
      (K6.at_mk KX G K6.bd_names_of ?a8 ?l8 ?c8 ?k8)
      (K6.at_mk KX G K6.bd_all_parts ?a9 ?l9 ?c9 ?k9)
      (K6.at_mk KX G K6.bd_parts_of ?a10 ?l10 ?c10 ?k10)
      (K6.at_mk KX G K6.bd_size_of ?a11 ?l11 ?c11 ?k11)
      (K6.at_mk KX G K6.bd_depth_of ?a12 ?l12 ?c12 ?k12)
      (K6.at_mk KX G K6.bd_replaced ?a13 ?l13 ?c13 ?k13)
      (K6.at_mk KX G K6.bd_renamed ?a14 ?l14 ?c14 ?k14)
      (K6.at_mk KX G K6.bd_spelled ?a15 ?l15 ?c15 ?k15)
      (K6.at_mk KX G K6.bd_worded ?a16 ?l16 ?c16 ?k16)
      (K6.at_mk KX G K6.bd_word_end ?a17 ?l17 ?c17 ?k17)
      (K6.at_mk KX G K6.bd_leaf_at ?a18 ?l18 ?c18 ?k18)
      (K6.at_mk KX G K6.bd_behind ?a19 ?l19 ?c19 ?k19)
      (K6.at_mk KX G K6.bd_round_at ?a20 ?l20 ?c20 ?k20)
      (K6.at_mk KX G K6.bd_box_at ?a21 ?l21 ?c21 ?k21)
      (K6.at_mk KX G K6.bd_shut_at ?a22 ?l22 ?c22 ?k22)
      (K6.at_mk KX G K6.bd_word_at ?a23 ?l23 ?c23 ?k23)
      (K6.at_mk KX G K6.bd_term_at ?a24 ?l24 ?c24 ?k24)
      (K6.at_mk KX G K6.bd_read_any ?a25 ?l25 ?c25 ?k25)
      (K6.at_mk KX G K6.bd_read_term ?a26 ?l26 ?c26 ?k26)
      (K6.at_mk KX G K6.bd__law_bag ?a27 ?l27 ?c27 ?k27)
      (K6.at_mk KX G K6.bd__law_draw ?a28 ?l28 ?c28 ?k28)
      (K6.at_mk KX G K6.bd__law_same ?a29 ?l29 ?c29 ?k29)
      (K6.at_mk KX G K6.bd__law_names ?a30 ?l30 ?c30 ?k30)
      (K6.at_mk KX G K6.bd__law_pick ?a31 ?l31 ?c31 ?k31)
      (K6.at_mk KX G K6.bd__law_leaf ?a32 ?l32 ?c32 ?k32)
      (K6.at_mk KX G K6.bd__law_pattern ?a33 ?l33 ?c33 ?k33)
      (K6.at_mk KX G K6.bd__law_term ?a34 ?l34 ?c34 ?k34)) (K6.bt_mk KX G ?z_isinstance ?z_str ?z_tuple ?z_list ?z_dict ?z_bool ?z_int ?z_set ?z_len ?z_all ?z_sum ?z_max ?z_sorted ?z_range) (K6.cs_mk KX G ?c_small ?c_letters ?c_pair ?c_box ?c_half ?c_shut ?c_mark ?c_mix ?c_var ?c_amp ?c_names ?c_depth ?n1 ?n2 ?m1 ?m2 ?m3 ?m4 ?g_half ?g_mix ?g_pair ?g_box ?g_shut ?g_mark) (K6.at_mk KX G K6.bd_law ?a35 ?l35 ?c35 ?k35)
    (case a0 => k_is); (case l0 => k_is); (case c0 => k_is); (case k0 => k_is)
    (case a1 => k_is); (case l1 => k_is); (case c1 => k_is); (case k1 => k_is)
    (case a2 => k_is); (case l2 => k_is); (case c2 => k_is); (case k2 => k_is)
    (case a3 => k_is); (case l3 => k_is); (case c3 => k_is); (case k3 => k_is)
    (case a4 => k_is); (case l4 => k_is); (case c4 => k_is); (case k4 => k_is)
    (case a5 => k_is); (case l5 => k_is); (case c5 => k_is); (case k5 => k_is)
    (case a6 => k_is); (case l6 => k_is); (case c6 => k_is); (case k6 => k_is)
    (case a7 => k_is); (case l7 => k_is); (case c7 => k_is); (case k7 => k_is)
    (case a8 => k_is); (case l8 => k_is); (case c8 => k_is); (case k8 => k_is)
    (case a9 => k_is); (case l9 => k_is); (case c9 => k_is); (case k9 => k_is)
    (case a10 => k_is); (case l10 => k_is); (case c10 => k_is); (case k10 => k_is)
    (case a11 => k_is); (case l11 => k_is); (case c11 => k_is); (case k11 => k_is)
    (case a12 => k_is); (case l12 => k_is); (case c12 => k_is); (case k12 => k_is)
    (case a13 => k_is); (case l13 => k_is); (case c13 => k_is); (case k13 => k_is)
    (case a14 => k_is); (case l14 => k_is); (case c14 => k_is); (case k14 => k_is)
    (case a15 => k_is); (case l15 => k_is); (case c15 => k_is); (case k15 => k_is)
    (case a16 => k_is); (case l16 => k_is); (case c16 => k_is); (case k16 => k_is)
    (case a17 => k_is); (case l17 => k_is); (case c17 => k_is); (case k17 => k_is)
    (case a18 => k_is); (case l18 => k_is); (case c18 => k_is); (case k18 => k_is)
    (case a19 => k_is); (case l19 => k_is); (case c19 => k_is); (case k19 => k_is)
    (case a20 => k_is); (case l20 => k_is); (case c20 => k_is); (case k20 => k_is)
    (case a21 => k_is); (case l21 => k_is); (case c21 => k_is); (case k21 => k_is)
    (case a22 => k_is); (case l22 => k_is); (case c22 => k_is); (case k22 => k_is)
    (case a23 => k_is); (case l23 => k_is); (case c23 => k_is); (case k23 => k_is)
    (case a24 => k_is); (case l24 => k_is); (case c24 => k_is); (case k24 => k_is)
    (case a25 => k_is); (case l25 => k_is); (case c25 => k_is); (case k25 => k_is)
    (case a26 => k_is); (case l26 => k_is); (case c26 => k_is); (case k26 => k_is)
    (case a27 => k_is); (case l27 => k_is); (case c27 => k_is); (case k27 => k_is)
    (case a28 => k_is); (case l28 => k_is); (case c28 => k_is); (case k28 => k_is)
    (case a29 => k_is); (case l29 => k_is); (case c29 => k_is); (case k29 => k_is)
    (case a30 => k_is); (case l30 => k_is); (case c30 => k_is); (case k30 => k_is)
    (case a31 => k_is); (case l31 => k_is); (case c31 => k_is); (case k31 => k_is)
    (case a32 => k_is); (case l32 => k_is); (case c32 => k_is); (case k32 => k_is)
    (case a33 => k_is); (case l33 => k_is); (case c33 => k_is); (case k33 => k_is)
    (case a34 => k_is); (case l34 => k_is); (case c34 => k_is); (case k34 => k_is)
    (case a35 => k_is); (case l35 => k_is); (case c35 => k_is); (case k35 => k_is)
    (case z_isinstance => k_is); (case z_str => k_is); (case z_tuple => k_is); (case z_list => k_is); (case z_dict => k_is); (case z_bool => k_is); (case z_int => k_is); (case z_set => k_is); (case z_len => k_is); (case z_all => k_is); (case z_sum => k_is); (case z_max => k_is); (case z_sorted => k_is); (case z_range => k_is)
    (case c_small => k_is); (case c_letters => k_is); (case c_pair => k_is); (case c_box => k_is); (case c_half => k_is); (case c_shut => k_is); (case c_mark => k_is); (case c_mix => k_is); (case c_var => k_is); (case c_amp => k_is); (case c_names => k_is); (case c_depth => k_is)
    (case n1 => k_is); (case n2 => k_is); (case m1 => k_is); (case m2 => k_is)
    (case m3 => exact ⟨⟨_, _, rfl, rfl⟩, ⟨_, _, rfl, rfl⟩, ⟨_, _, rfl, rfl⟩, ⟨_, _, rfl, rfl⟩, ⟨_, _, rfl, rfl⟩, ⟨_, _, rfl, rfl⟩, True.intro⟩)
    (case m4 => rfl)
    (case g_half => k_is); (case g_mix => k_is); (case g_pair => k_is); (case g_box => k_is); (case g_shut => k_is); (case g_mark => k_is)
