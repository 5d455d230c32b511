import PyProof.Rows.All
import Wide.All
import OpenK.AllK
import Wide.FinOn
import HandS.ForMost
import HandS.ForExc
import HandS.DictComp
import HandS.Defaults
import HandS.ClsMeth
import HandS.IsInst
import HandS.TupAny
import HandS.SetKeys
import HandS.DictTup
import HandS.Flow
import HandS.NestedK
import HandS.CallLocal
import HandS.OwnEq
import HandS.Wide
import HandS.Conv
import HandS.Style
import HandS.Codes
import HandS.SlotsOwn
import HandS.Head2
import HandS.HeadHook2
import HandS.HeadEnd
import HandS.EndBits
import PySem.Challenge.RW_tailtables_k52_whole_tallest_solve
import HandS.TupLe
import HandS.More
import HandS.Walk
import HandS.IterVal
import KE.KOwnIter
import HandS.Strs
import PyProof.DictTable
import HandS.SortKw
import HandS.NamedTupSort
import KE.KSortKey
import KE.KSortAsk
import KE.DatumOrd
import HandS.Set
import HandS.HeadHook4
import HandS.HeadNt
import HandS.HeadWalk
set_option Elab.async false
set_option linter.all false
set_option maxRecDepth 100000
set_option maxHeartbeats 4000000
namespace KM
/-! scripts, their order, their sums -/
structure Sc where
  n : Nat
  b : List Bool
deriving DecidableEq

def ltB : List Bool → List Bool → Bool
  | [], [] => false
  | [], _ :: _ => true
  | _ :: _, [] => false
  | x :: xs, y :: ys => if x = y then ltB xs ys else (!x && y)
def Sc.lt (s t : Sc) : Bool := if s.n = t.n then ltB s.b t.b else decide (s.n < t.n)

theorem ltB_irr : ∀ x : List Bool, ltB x x = false
  | [] => rfl
  | x :: xs => by simp [ltB, ltB_irr xs]
theorem ltB_trans : ∀ {x y z : List Bool}, ltB x y = true → ltB y z = true → ltB x z = true
  | [], [], _, h, _ => by simp [ltB] at h
  | [], _ :: _, [], _, h => by simp [ltB] at h
  | [], _ :: _, _ :: _, _, _ => rfl
  | _ :: _, [], _, h, _ => by simp [ltB] at h
  | _ :: _, _ :: _, [], _, h => by simp [ltB] at h
  | a :: xs, b :: ys, c :: zs, h, g => by
    have ih := @ltB_trans xs ys zs
    revert h g
    unfold ltB
    cases a <;> cases b <;> cases c <;> simp
    · exact ih
    · exact ih
theorem ltB_tri : ∀ x y : List Bool, ltB x y = true ∨ x = y ∨ ltB y x = true
  | [], [] => .inr (.inl rfl)
  | [], _ :: _ => .inl rfl
  | _ :: _, [] => .inr (.inr rfl)
  | a :: xs, b :: ys => by
    have ih := ltB_tri xs ys
    unfold ltB
    cases a <;> cases b <;> simp <;> exact ih
theorem ltB_app : ∀ (p x y : List Bool), ltB (p ++ x) (p ++ y) = ltB x y
  | [], _, _ => rfl
  | a :: p, x, y => by
    show (if a = a then ltB (p ++ x) (p ++ y) else (!a && a)) = ltB x y
    rw [if_pos rfl]
    exact ltB_app p x y
theorem Sc.lt_irr (s : Sc) : s.lt s = false := by unfold Sc.lt; rw [if_pos rfl]; exact ltB_irr _
theorem Sc.lt_trans {s t u : Sc} (h : s.lt t = true) (g : t.lt u = true) : s.lt u = true := by
  unfold Sc.lt at *
  split at h <;> split at g
  · rename_i a b; rw [if_pos (a.trans b)]; exact ltB_trans h g
  · rename_i a b; have := of_decide_eq_true g; rw [if_neg (by omega)]; exact decide_eq_true (by omega)
  · rename_i a b; have := of_decide_eq_true h; rw [if_neg (by omega)]; exact decide_eq_true (by omega)
  · have := of_decide_eq_true h; have := of_decide_eq_true g; rw [if_neg (by omega)]; exact decide_eq_true (by omega)
theorem Sc.lt_tri (s t : Sc) : s.lt t = true ∨ s = t ∨ t.lt s = true := by
  unfold Sc.lt
  by_cases e : s.n = t.n
  · rw [if_pos e, if_pos e.symm]
    rcases ltB_tri s.b t.b with h | h | h
    · exact .inl h
    · refine .inr (.inl ?_)
      obtain ⟨n, b⟩ := s
      obtain ⟨m, c⟩ := t
      simp only at e h
      rw [e, h]
    · exact .inr (.inr h)
  · rw [if_neg e, if_neg (Ne.symm e)]
    rcases Nat.lt_or_ge s.n t.n with h | h
    · exact .inl (decide_eq_true h)
    · exact .inr (.inr (decide_eq_true (by omega)))
theorem Sc.lt_asym {s t : Sc} (h : s.lt t = true) : t.lt s = false := by
  cases g : t.lt s with
  | false => rfl
  | true => have := Sc.lt_trans h g; rw [Sc.lt_irr] at this; cases this
theorem Sc.lt_le {s t : Sc} (h : s.lt t = true) : s.n ≤ t.n := by
  unfold Sc.lt at h
  split at h
  · omega
  · have := of_decide_eq_true h; omega

abbrev OS := Option Sc
def mn : OS → OS → OS
  | none, y => y
  | some x, none => some x
  | some x, some y => if y.lt x = true then some y else some x
def pl : OS → OS → OS
  | some x, some y => if x.n + y.n > 1000 then none else some ⟨x.n + y.n, x.b ++ y.b⟩
  | _, _ => none
/-- a ≤ b, none the greatest -/
def leO : OS → OS → Prop
  | _, none => True
  | none, some _ => False
  | some x, some y => y.lt x = false
theorem leO_refl (a : OS) : leO a a := by cases a <;> simp [leO, Sc.lt_irr]
theorem leO_trans {a b c : OS} (h : leO a b) (g : leO b c) : leO a c := by
  cases a <;> cases b <;> cases c <;> simp [leO] at *
  rename_i x y z
  cases e : z.lt x with
  | false => rfl
  | true =>
    rcases Sc.lt_tri x y with q | q | q
    · rw [Sc.lt_trans e q] at g; cases g
    · rw [← q] at g; rw [e] at g; cases g
    · rw [q] at h; cases h
theorem leO_antisymm {a b : OS} (h : leO a b) (g : leO b a) : a = b := by
  cases a <;> cases b <;> simp [leO] at *
  rename_i x y
  rcases Sc.lt_tri x y with q | q | q
  · rw [q] at g; cases g
  · exact q
  · rw [q] at h; cases h
theorem leO_total (a b : OS) : leO a b ∨ leO b a := by
  cases a <;> cases b <;> simp [leO]
  rename_i x y
  cases e : y.lt x with
  | false => exact .inl rfl
  | true => exact .inr (Sc.lt_asym e)
theorem mn_le_left (a b : OS) : leO (mn a b) a := by
  cases a with
  | none => trivial
  | some x =>
    cases b with
    | none => exact Sc.lt_irr x
    | some y =>
      show leO (if y.lt x = true then some y else some x) (some x)
      cases e : y.lt x with
      | true => rw [if_pos rfl]; exact Sc.lt_asym e
      | false => rw [if_neg Bool.false_ne_true]; exact Sc.lt_irr x
theorem mn_le_right (a b : OS) : leO (mn a b) b := by
  cases a with
  | none => exact leO_refl b
  | some x =>
    cases b with
    | none => trivial
    | some y =>
      show leO (if y.lt x = true then some y else some x) (some y)
      cases e : y.lt x with
      | true => rw [if_pos rfl]; exact Sc.lt_irr y
      | false => rw [if_neg Bool.false_ne_true]; exact e
theorem le_mn {a b c : OS} (h : leO c a) (g : leO c b) : leO c (mn a b) := by
  cases a with
  | none => exact g
  | some x =>
    cases b with
    | none => exact h
    | some y =>
      show leO c (if y.lt x = true then some y else some x)
      split
      · exact g
      · exact h
theorem mn_eq_or (a b : OS) : mn a b = a ∨ mn a b = b := by
  cases a with
  | none => exact .inr rfl
  | some x =>
    cases b with
    | none => exact .inl rfl
    | some y =>
      show (if y.lt x = true then some y else some x) = _ ∨ (if y.lt x = true then some y else some x) = _
      split
      · exact .inr rfl
      · exact .inl rfl
theorem mn_of_le {a b : OS} (h : leO a b) : mn a b = a := leO_antisymm (mn_le_left a b) (le_mn (leO_refl a) h)
theorem mn_of_ge {a b : OS} (h : leO b a) : mn a b = b := leO_antisymm (mn_le_right a b) (le_mn h (leO_refl b))
theorem mn_comm (a b : OS) : mn a b = mn b a := leO_antisymm (le_mn (mn_le_right a b) (mn_le_left a b)) (le_mn (mn_le_right b a) (mn_le_left b a))
theorem mn_assoc (a b c : OS) : mn (mn a b) c = mn a (mn b c) :=
  leO_antisymm (le_mn (leO_trans (mn_le_left _ _) (mn_le_left _ _)) (le_mn (leO_trans (mn_le_left _ _) (mn_le_right _ _)) (mn_le_right _ _)))
    (le_mn (le_mn (mn_le_left _ _) (leO_trans (mn_le_right _ _) (mn_le_left _ _))) (leO_trans (mn_le_right _ _) (mn_le_right _ _)))
theorem mn_self (a : OS) : mn a a = a := mn_of_le (leO_refl a)
theorem mn_none (a : OS) : mn a none = a := by cases a <;> rfl
theorem none_mn (a : OS) : mn none a = a := rfl

/-! ### sums -/
theorem pl_none (a : OS) : pl a none = none := by cases a <;> rfl
theorem none_pl (a : OS) : pl none a = none := rfl
theorem pl_some {x y : Sc} : pl (some x) (some y) = if x.n + y.n > 1000 then none else some ⟨x.n + y.n, x.b ++ y.b⟩ := rfl
theorem pl_eq_some {a b : OS} {s : Sc} (h : pl a b = some s) : ∃ x y, a = some x ∧ b = some y ∧ s = ⟨x.n + y.n, x.b ++ y.b⟩ ∧ x.n + y.n ≤ 1000 := by
  cases a with
  | none => cases h
  | some x =>
    cases b with
    | none => cases h
    | some y =>
      rw [pl_some] at h
      split at h
      · cases h
      · cases h; exact ⟨x, y, rfl, rfl, rfl, by omega⟩
/-- monotone on the right -/
theorem pl_mono {a b : OS} (c : OS) (h : leO a b) : leO (pl c a) (pl c b) := by
  cases c with
  | none => exact leO_refl _
  | some z =>
    cases b with
    | none => cases a <;> simp [pl, leO]
    | some y =>
      cases a with
      | none => simp [leO] at h
      | some x =>
        have h' : y.lt x = false := h
        have hn : x.n ≤ y.n := by
          rcases Sc.lt_tri x y with q | q | q
          · exact Sc.lt_le q
          · rw [q]; exact Nat.le_refl _
          · rw [q] at h'; cases h'
        rw [pl_some, pl_some]
        by_cases e : z.n + y.n > 1000
        · rw [if_pos e]; cases (if z.n + x.n > 1000 then none else some (⟨z.n + x.n, z.b ++ x.b⟩ : Sc)) <;> trivial
        · rw [if_neg e, if_neg (by omega)]
          show Sc.lt _ _ = false
          unfold Sc.lt at h' ⊢
          by_cases q : y.n = x.n
          · rw [if_pos q] at h'
            rw [if_pos (by simp [q])]
            show ltB (z.b ++ y.b) (z.b ++ x.b) = false
            rw [ltB_app]; exact h'
          · rw [if_neg q] at h'
            rw [if_neg (by show ¬ z.n + y.n = z.n + x.n; omega)]
            have := of_decide_eq_false h'
            exact decide_eq_false (by show ¬ z.n + y.n < z.n + x.n; omega)
/-- a sum in front of a least one -/
theorem pl_mn (c a b : OS) : pl c (mn a b) = mn (pl c a) (pl c b) := by
  rcases leO_total a b with h | h
  · rw [mn_of_le h, mn_of_le (pl_mono c h)]
  · rw [mn_of_ge h, mn_of_ge (pl_mono c h)]
theorem pl_assoc (a b c : OS) : pl (pl a b) c = pl a (pl b c) := by
  cases a with
  | none => rfl
  | some x =>
    cases b with
    | none => rfl
    | some y =>
      cases c with
      | none => rw [pl_none, pl_none, pl_none]
      | some z =>
        rw [pl_some, pl_some]
        by_cases h1 : x.n + y.n > 1000
        · rw [if_pos h1, none_pl]
          by_cases h2 : y.n + z.n > 1000
          · rw [if_pos h2, pl_none]
          · rw [if_neg h2, pl_some, if_pos (by show x.n + (y.n + z.n) > 1000; omega)]
        · rw [if_neg h1, pl_some]
          by_cases h2 : y.n + z.n > 1000
          · rw [if_pos h2, pl_none, if_pos (by show x.n + y.n + z.n > 1000; omega)]
          · rw [if_neg h2, pl_some]
            by_cases h3 : x.n + y.n + z.n > 1000
            · rw [if_pos h3, if_pos (by show x.n + (y.n + z.n) > 1000; omega)]
            · rw [if_neg h3, if_neg (by show ¬ x.n + (y.n + z.n) > 1000; omega)]
              simp [Nat.add_assoc]
/-- at least so many steps -/
def big (n : Nat) (a : OS) : Prop := ∀ s, a = some s → n ≤ s.n
theorem big_none (n : Nat) : big n none := fun _ h => nomatch h
theorem big_zero (a : OS) : big 0 a := fun _ _ => Nat.zero_le _
theorem big_mono {m n : Nat} {a : OS} (h : m ≤ n) (g : big n a) : big m a := fun s e => Nat.le_trans h (g s e)
theorem big_mn {n : Nat} {a b : OS} (h : big n a) (g : big n b) : big n (mn a b) := by
  rcases mn_eq_or a b with e | e <;> rw [e] <;> assumption
theorem big_pl {m n : Nat} {a b : OS} (h : big m a) (g : big n b) : big (m + n) (pl a b) := fun s e => by
  obtain ⟨x, y, rfl, rfl, rfl, _⟩ := pl_eq_some e
  have := h x rfl
  have := g y rfl
  show m + n ≤ x.n + y.n
  omega
theorem big_of_le {n : Nat} {a b : OS} (h : leO a b) (g : big n a) : big n b := fun s e => by
  subst e
  cases a with
  | none => simp [leO] at h
  | some x =>
    have h' : s.lt x = false := h
    have := g x rfl
    rcases Sc.lt_tri x s with q | q | q
    · have := Sc.lt_le q; omega
    · rw [← q]; exact this
    · rw [q] at h'; cases h'
/-- alike below so many steps -/
def eqv (n : Nat) (a b : OS) : Prop := a = b ∨ (big n a ∧ big n b)
theorem eqv_refl (n : Nat) (a : OS) : eqv n a a := .inl rfl
theorem eqv_zero (a b : OS) : eqv 0 a b := .inr ⟨big_zero a, big_zero b⟩
theorem eqv_symm {n : Nat} {a b : OS} (h : eqv n a b) : eqv n b a := h.elim (fun e => .inl e.symm) fun e => .inr ⟨e.2, e.1⟩
theorem eqv_mono {m n : Nat} {a b : OS} (h : m ≤ n) (g : eqv n a b) : eqv m a b := g.elim .inl fun e => .inr ⟨big_mono h e.1, big_mono h e.2⟩
/-- the greater of two is no matter where the lesser is small -/
theorem mn_small {n : Nat} {a b : OS} (hb : big n b) : mn a b = a ∨ big n (mn a b) := by
  cases a with
  | none => exact .inr hb
  | some x =>
    by_cases h : n ≤ x.n
    · exact .inr (big_mn (fun s e => by cases e; exact h) hb)
    · refine .inl (mn_of_le ?_)
      cases b with
      | none => trivial
      | some y =>
        have := hb y rfl
        show y.lt x = false
        unfold Sc.lt
        rw [if_neg (by omega)]
        exact decide_eq_false (by omega)
theorem eqv_mn {n : Nat} {a a' b b' : OS} (h : eqv n a a') (g : eqv n b b') : eqv n (mn a b) (mn a' b') := by
  rcases h with rfl | ⟨h1, h2⟩
  · rcases g with rfl | ⟨g1, g2⟩
    · exact .inl rfl
    · cases a with
      | none => exact .inr ⟨g1, g2⟩
      | some x =>
        by_cases hx : n ≤ x.n
        · exact .inr ⟨big_mn (fun s e => by cases e; exact hx) g1, big_mn (fun s e => by cases e; exact hx) g2⟩
        · refine .inl ?_
          have k : ∀ c, big n c → mn (some x) c = some x := fun c hc => by
            rcases mn_small (a := some x) hc with e | e
            · exact e
            · rcases mn_eq_or (some x) c with q | q
              · exact q
              · have z := mn_le_left (some x) c
                have := big_of_le z e x rfl
                omega
          rw [k _ g1, k _ g2]
  · rcases g with rfl | ⟨g1, g2⟩
    · cases b with
      | none => rw [mn_none, mn_none]; exact .inr ⟨h1, h2⟩
      | some x =>
        by_cases hx : n ≤ x.n
        · exact .inr ⟨big_mn h1 (fun s e => by cases e; exact hx), big_mn h2 (fun s e => by cases e; exact hx)⟩
        · refine .inl ?_
          have k : ∀ c, big n c → mn c (some x) = some x := fun c hc => by
            rw [mn_comm]
            rcases mn_small (a := some x) hc with e | e
            · exact e
            · rcases mn_eq_or (some x) c with q | q
              · exact q
              · have z := mn_le_left (some x) c
                have := big_of_le z e x rfl
                omega
          rw [k _ h1, k _ h2]
    · exact .inr ⟨big_mn h1 g1, big_mn h2 g2⟩
theorem eqv_pl {n : Nat} {a a' b b' : OS} (h : eqv n a a') (g : eqv n b b') : eqv n (pl a b) (pl a' b') := by
  have z : ∀ (x y : OS), big n y → big n (pl x y) := fun x y hy => by
    have := big_pl (big_zero x) hy
    rwa [Nat.zero_add] at this
  rcases h with rfl | ⟨h1, h2⟩
  · rcases g with rfl | ⟨g1, g2⟩
    · exact .inl rfl
    · exact .inr ⟨z _ _ g1, z _ _ g2⟩
  · exact .inr ⟨big_pl (n := 0) h1 (big_zero _), big_pl (n := 0) h2 (big_zero _)⟩
theorem eqv_step {n : Nat} {c : Sc} {a b : OS} (hc : 1 ≤ c.n) (h : eqv n a b) : eqv (n + 1) (pl (some c) a) (pl (some c) b) := by
  rcases h with rfl | ⟨h1, h2⟩
  · exact .inl rfl
  · have hb : big 1 (some c) := fun s e => by cases e; exact hc
    have e : n + 1 = 1 + n := by omega
    rw [e]
    exact .inr ⟨big_pl hb h1, big_pl hb h2⟩
/-- not beyond 1,000 steps -/
def small (a : OS) : Prop := ∀ s, a = some s → s.n ≤ 1000
theorem small_mn {a b : OS} (h : small a) (g : small b) : small (mn a b) := by
  rcases mn_eq_or a b with e | e <;> rw [e] <;> assumption
theorem small_pl (a b : OS) : small (pl a b) := fun s e => by
  obtain ⟨x, y, rfl, rfl, rfl, h⟩ := pl_eq_some e
  exact h
theorem eqv_small {a b : OS} (ha : small a) (hb : small b) (h : eqv 1001 a b) : a = b := by
  rcases h with e | ⟨h1, h2⟩
  · exact e
  · cases a with
    | none =>
      cases b with
      | none => rfl
      | some y => have := h2 y rfl; have := hb y rfl; omega
    | some x => have := h1 x rfl; have := ha x rfl; omega
/-- bits are no more than steps -/
def okS (a : OS) : Prop := ∀ s, a = some s → s.b.length ≤ s.n
theorem okS_none : okS none := fun _ h => nomatch h
theorem okS_mn {a b : OS} (h : okS a) (g : okS b) : okS (mn a b) := by
  rcases mn_eq_or a b with e | e <;> rw [e] <;> assumption
theorem okS_pl {a b : OS} (h : okS a) (g : okS b) : okS (pl a b) := fun s e => by
  obtain ⟨x, y, rfl, rfl, rfl, _⟩ := pl_eq_some e
  have := h x rfl
  have := g y rfl
  show (x.b ++ y.b).length ≤ x.n + y.n
  rw [List.length_append]; omega
end KM

namespace KM
/-! bodies, tables, how bodies end -/
inductive Bd (ν : Type) where
  | leaf (r : Bool)
  | call (f : ν)
  | test (y n : Bd ν)
  | push (c : ν) (b : Bd ν)
variable {ν : Type} [DecidableEq ν]
def Bd.calls : Bd ν → List ν
  | .leaf _ => []
  | .call f => [f]
  | .test y n => y.calls ++ n.calls
  | .push _ b => b.calls
def Bd.pushes : Bd ν → List ν
  | .leaf _ => []
  | .call _ => []
  | .test y n => y.pushes ++ n.pushes
  | .push c b => c :: b.pushes
def up {α : Type} (F : ν → α) (k : ν) (v : α) : ν → α := fun x => if x = k then v else F x
theorem up_same {α : Type} {F : ν → α} {k : ν} {v : α} : up F k v k = v := if_pos rfl
theorem up_ne {α : Type} {F : ν → α} {k x : ν} {v : α} (h : x ≠ k) : up F k v x = F x := if_neg h
theorem up_self {α : Type} {F : ν → α} {k : ν} : up F k (F k) = F := by
  funext x; unfold up; split
  · rename_i e; rw [e]
  · rfl
structure Tb (ν : Type) where
  fs : List ν
  cs : List ν
  bd : ν → Bd ν
  kd : ν → Bool
  am : ν → Bd ν
  wt : ν → Nat
/-- a case pushes only cases behind it -/
def Ord (am : ν → Bd ν) : List ν → Prop
  | [] => True
  | c :: l => (∀ d ∈ (am c).pushes, d ∈ l) ∧ c ∉ l ∧ Ord am l
structure Tb.Ok (T : Tb ν) : Prop where
  nd : T.fs.Nodup
  ord : Ord T.am T.cs
  bc : ∀ f ∈ T.fs, ∀ g ∈ (T.bd f).calls, g ∈ T.fs
  bp : ∀ f ∈ T.fs, ∀ c ∈ (T.bd f).pushes, c ∈ T.cs
  ac : ∀ c ∈ T.cs, ∀ g ∈ (T.am c).calls, g ∈ T.fs
theorem Ord.sub {am : ν → Bd ν} : ∀ {l : List ν}, Ord am l → ∀ c ∈ l, ∀ d ∈ (am c).pushes, d ∈ l
  | c :: l, h, d, hd, e, he => by
    rcases List.mem_cons.mp hd with rfl | q
    · exact List.mem_cons_of_mem _ (h.1 e he)
    · exact List.mem_cons_of_mem _ (Ord.sub h.2.2 d q e he)
theorem Tb.Ok.ap {T : Tb ν} (o : T.Ok) : ∀ c ∈ T.cs, ∀ d ∈ (T.am c).pushes, d ∈ T.cs := o.ord.sub

/-! ### ends in general -/
abbrev Env (ν E : Type) := ν → E
abbrev Arm (ν E : Type) := ν → Bool × E
def Cg {E : Type} (en : Env ν E → Arm ν E → Bd ν → E) : Prop := ∀ F F' A A' b, (∀ f ∈ b.calls, F f = F' f) → (∀ c ∈ b.pushes, A c = A' c) → en F A b = en F' A' b
section
variable {E : Type} (en : Env ν E → Arm ν E → Bd ν → E) (e0 : E) (T : Tb ν)
def armsL (F : Env ν E) (l : List ν) : Arm ν E := l.foldr (fun c A => up A c (T.kd c, en F A (T.am c))) (fun c => (T.kd c, e0))
def armsC (F : Env ν E) : Arm ν E := armsL en e0 T F T.cs
def stepF (A : Arm ν E) (G : Env ν E) (f : ν) : Env ν E := up G f (en G A (T.bd f))
def rnd (l : List ν) (F : Env ν E) : Env ν E := l.foldl (stepF en T (armsC en e0 T F)) F
variable {en e0 T}
theorem armsL_ok (cg : Cg en) (F : Env ν E) : ∀ {l : List ν}, Ord T.am l → ∀ c ∈ l, armsL en e0 T F l c = (T.kd c, en F (armsL en e0 T F l) (T.am c))
  | c0 :: l, h, c, hc => by
    obtain ⟨h1, h2, h3⟩ := h
    have e : armsL en e0 T F (c0 :: l) = up (armsL en e0 T F l) c0 (T.kd c0, en F (armsL en e0 T F l) (T.am c0)) := rfl
    rcases List.mem_cons.mp hc with rfl | q
    · have ne : ∀ d ∈ (T.am c).pushes, d ≠ c := fun d hd z => h2 (z ▸ h1 d hd)
      rw [e, up_same]
      exact Prod.ext rfl (cg F F _ _ (T.am c) (fun _ _ => rfl) (fun d hd => (up_ne (ne d hd)).symm))
    · have hne : c ≠ c0 := fun z => h2 (z ▸ q)
      have ne : ∀ d ∈ (T.am c).pushes, d ≠ c0 := fun d hd z => h2 (z ▸ Ord.sub h3 c q d hd)
      rw [e, up_ne hne, armsL_ok cg F h3 c q]
      exact Prod.ext rfl (cg F F _ _ (T.am c) (fun _ _ => rfl) (fun d hd => (up_ne (ne d hd)).symm))
theorem armsC_ok (cg : Cg en) (o : T.Ok) (F : Env ν E) : ∀ c ∈ T.cs, armsC en e0 T F c = (T.kd c, en F (armsC en e0 T F) (T.am c)) := armsL_ok cg F o.ord
theorem armsC_kd (F : Env ν E) (c : ν) : (armsC en e0 T F c).1 = T.kd c := by
  unfold armsC
  generalize T.cs = l
  induction l with
  | nil => rfl
  | cons c0 l ih =>
    show (up (armsL en e0 T F l) c0 _ c).1 = _
    by_cases h : c = c0
    · rw [h, up_same]
    · rw [up_ne h]; exact ih
/-- a row of cases in which each stands behind those that it pushes; what it yields is the arms -/
theorem arms_any (cg : Cg en) (o : T.Ok) {F : Env ν E} {A : Arm ν E} {c : ν} (hc : c ∈ T.cs) (h : ∀ d ∈ (T.am c).pushes, A d = armsC en e0 T F d) : en F A (T.am c) = (armsC en e0 T F c).2 := by
  rw [armsC_ok cg o F c hc]
  exact cg _ _ _ _ _ (fun _ _ => rfl) h
theorem rnd_not {l : List ν} {A : Arm ν E} {f : ν} : ∀ {F : Env ν E}, f ∉ l → l.foldl (stepF en T A) F f = F f := by
  induction l with
  | nil => intro F _; rfl
  | cons a l ih =>
    intro F h
    rw [List.foldl_cons, ih (fun z => h (List.mem_cons_of_mem _ z))]
    exact up_ne (fun z => h (by rw [z]; exact List.mem_cons_self))
/-- no change in a round: a solution -/
theorem fix_of {A : Arm ν E} : ∀ {l : List ν} {F : Env ν E}, l.Nodup → l.foldl (stepF en T A) F = F → ∀ f ∈ l, F f = en F A (T.bd f) := by
  intro l
  induction l with
  | nil => intro F _ _ f hf; cases hf
  | cons a l ih =>
    intro F nd h f hf
    rw [List.foldl_cons] at h
    obtain ⟨na, nd'⟩ := List.nodup_cons.mp nd
    have e1 : F a = en F A (T.bd a) := by
      have : l.foldl (stepF en T A) (stepF en T A F a) a = F a := by rw [h]
      rw [rnd_not na] at this
      rw [← this]
      exact up_same
    have e2 : stepF en T A F a = F := by
      show up F a (en F A (T.bd a)) = F
      rw [← e1]; exact up_self
    rw [e2] at h
    rcases List.mem_cons.mp hf with rfl | q
    · exact e1
    · exact ih nd' h f q
theorem rnd_of_fix {A : Arm ν E} : ∀ {l : List ν} {F : Env ν E}, (∀ f ∈ l, F f = en F A (T.bd f)) → l.foldl (stepF en T A) F = F := by
  intro l
  induction l with
  | nil => intro F _; rfl
  | cons a l ih =>
    intro F h
    rw [List.foldl_cons]
    have e2 : stepF en T A F a = F := by
      show up F a (en F A (T.bd a)) = F
      rw [← h a List.mem_cons_self]; exact up_self
    rw [e2]
    exact ih fun f hf => h f (List.mem_cons_of_mem _ hf)
end
def iter {α : Type} (R : α → α) : Nat → α → α
  | 0, x => x
  | k + 1, x => R (iter R k x)
theorem iter_succ' {α : Type} (R : α → α) (x : α) : ∀ k, iter R (k + 1) x = iter R k (R x)
  | 0 => rfl
  | k + 1 => by
    show R (iter R (k + 1) x) = R (iter R k (R x))
    rw [iter_succ' R x k]
/-- once it stands it stands for ever -/
theorem iter_stand {α : Type} {R : α → α} {x : α} {k : Nat} (h : R (iter R k x) = iter R k x) : ∀ j, iter R (k + j) x = iter R k x
  | 0 => rfl
  | j + 1 => by
    show R (iter R (k + j) x) = _
    rw [iter_stand h j, h]
theorem iter_stand2 {α : Type} {R : α → α} {x : α} {k m : Nat} (h : R (iter R k x) = iter R k x) (g : R (iter R m x) = iter R m x) : iter R k x = iter R m x := by
  have a := iter_stand h m
  have b := iter_stand g k
  rw [Nat.add_comm] at b
  rw [← a, ← b]

/-! ### least scripts -/
abbrev E2 := OS × OS
def one : OS := some ⟨1, []⟩
def bitS (b : Bool) : OS := some ⟨1, [b]⟩
def lend (F : Env ν E2) (A : Arm ν E2) : Bd ν → E2
  | .leaf r => if r then (none, one) else (one, none)
  | .call f => (pl one (F f).1, pl one (F f).2)
  | .test y n => (mn (pl (bitS true) (lend F A y).1) (pl (bitS false) (lend F A n).1), mn (pl (bitS true) (lend F A y).2) (pl (bitS false) (lend F A n).2))
  | .push c b =>
    let r := pl one (lend F A b).1
    let x := pl one (lend F A b).2
    let en := pl (if (A c).1 then r else x) one
    if (A c).1 then (pl en (A c).2.1, mn x (pl en (A c).2.2)) else (mn r (pl en (A c).2.1), pl en (A c).2.2)
theorem lend_cg : Cg (lend (ν := ν)) := by
  intro F F' A A' b
  induction b with
  | leaf r => intro _ _; rfl
  | call f => intro h _; simp only [lend]; rw [h f (by simp [Bd.calls])]
  | test y n iy iN =>
    intro h g
    simp only [lend]
    rw [iy (fun f q => h f (by simp [Bd.calls, q])) (fun c q => g c (by simp [Bd.pushes, q])), iN (fun f q => h f (by simp [Bd.calls, q])) (fun c q => g c (by simp [Bd.pushes, q]))]
  | push c b ib =>
    intro h g
    simp only [lend]
    rw [ib (fun f q => h f (by simpa [Bd.calls] using q)) (fun d q => g d (by simp [Bd.pushes, q])), g c (by simp [Bd.pushes])]
def smallE (e : E2) : Prop := small e.1 ∧ small e.2
def bigE (n : Nat) (e : E2) : Prop := big n e.1 ∧ big n e.2
def okE (e : E2) : Prop := okS e.1 ∧ okS e.2
def eqvE (n : Nat) (e e' : E2) : Prop := eqv n e.1 e'.1 ∧ eqv n e.2 e'.2
theorem small_one : small one := fun s e => by cases e; show 1 ≤ 1000; decide
theorem okS_one : okS one := fun s e => by cases e; show 0 ≤ 1; decide
theorem okS_bit (b : Bool) : okS (bitS b) := fun s e => by cases e; show 1 ≤ 1; decide
theorem big_one : big 1 one := fun s e => by cases e; exact Nat.le_refl 1
theorem big_bit (b : Bool) : big 1 (bitS b) := fun s e => by cases e; exact Nat.le_refl 1
theorem lend_small (F : Env ν E2) (A : Arm ν E2) (b : Bd ν) : smallE (lend F A b) := by
  cases b with
  | leaf r => cases r <;> exact ⟨by first | exact small_one | exact (fun _ h => nomatch h), by first | exact small_one | exact (fun _ h => nomatch h)⟩
  | call f => exact ⟨small_pl _ _, small_pl _ _⟩
  | test y n => exact ⟨small_mn (small_pl _ _) (small_pl _ _), small_mn (small_pl _ _) (small_pl _ _)⟩
  | push c b =>
    simp only [lend]
    split
    · exact ⟨small_pl _ _, small_mn (small_pl _ _) (small_pl _ _)⟩
    · exact ⟨small_mn (small_pl _ _) (small_pl _ _), small_pl _ _⟩
theorem lend_ok {F : Env ν E2} {A : Arm ν E2} : ∀ {b : Bd ν}, (∀ f ∈ b.calls, okE (F f)) → (∀ c ∈ b.pushes, okE (A c).2) → okE (lend F A b) := by
  intro b
  induction b with
  | leaf r => intro _ _; cases r <;> exact ⟨by first | exact okS_one | exact okS_none, by first | exact okS_one | exact okS_none⟩
  | call f => intro h _; have := h f (by simp [Bd.calls]); exact ⟨okS_pl okS_one this.1, okS_pl okS_one this.2⟩
  | test y n iy iN =>
    intro h g
    have a := iy (fun f q => h f (by simp [Bd.calls, q])) (fun c q => g c (by simp [Bd.pushes, q]))
    have b := iN (fun f q => h f (by simp [Bd.calls, q])) (fun c q => g c (by simp [Bd.pushes, q]))
    exact ⟨okS_mn (okS_pl (okS_bit _) a.1) (okS_pl (okS_bit _) b.1), okS_mn (okS_pl (okS_bit _) a.2) (okS_pl (okS_bit _) b.2)⟩
  | push c b ib =>
    intro h g
    have a := ib (fun f q => h f (by simpa [Bd.calls] using q)) (fun d q => g d (by simp [Bd.pushes, q]))
    have k := g c (by simp [Bd.pushes])
    have r := okS_pl okS_one a.1
    have x := okS_pl okS_one a.2
    simp only [lend]
    split
    · exact ⟨okS_pl (okS_pl r okS_one) k.1, okS_mn x (okS_pl (okS_pl r okS_one) k.2)⟩
    · exact ⟨okS_mn r (okS_pl (okS_pl x okS_one) k.1), okS_pl (okS_pl x okS_one) k.2⟩
theorem lend_big {F : Env ν E2} {A : Arm ν E2} : ∀ {b : Bd ν}, bigE 1 (lend F A b) := by
  intro b
  have z : ∀ {a c : OS}, big 1 a → big 1 (pl a c) := fun {a c} h => by
    have := big_pl h (big_zero c)
    simpa using this
  induction b with
  | leaf r => cases r <;> exact ⟨by first | exact big_one | exact big_none _, by first | exact big_one | exact big_none _⟩
  | call f => exact ⟨z big_one, z big_one⟩
  | test y n iy iN => exact ⟨big_mn (z (big_bit _)) (z (big_bit _)), big_mn (z (big_bit _)) (z (big_bit _))⟩
  | push c b ib =>
    simp only [lend]
    split
    · exact ⟨z (z (z big_one)), big_mn (z big_one) (z (z (z big_one)))⟩
    · exact ⟨big_mn (z big_one) (z (z (z big_one))), z (z (z big_one))⟩
theorem lend_eqv {F F' : Env ν E2} {A A' : Arm ν E2} {n : Nat} : ∀ {b : Bd ν}, (∀ f ∈ b.calls, eqvE n (F f) (F' f)) → (∀ c ∈ b.pushes, (A c).1 = (A' c).1 ∧ eqvE (n + 1) (A c).2 (A' c).2) → eqvE (n + 1) (lend F A b) (lend F' A' b) := by
  intro b
  induction b with
  | leaf r => intro _ _; exact ⟨eqv_refl _ _, eqv_refl _ _⟩
  | call f => intro h _; have := h f (by simp [Bd.calls]); exact ⟨eqv_step (Nat.le_refl 1) this.1, eqv_step (Nat.le_refl 1) this.2⟩
  | test y n iy iN =>
    intro h g
    have a := iy (fun f q => h f (by simp [Bd.calls, q])) (fun c q => g c (by simp [Bd.pushes, q]))
    have b := iN (fun f q => h f (by simp [Bd.calls, q])) (fun c q => g c (by simp [Bd.pushes, q]))
    exact ⟨eqv_mn (eqv_pl (eqv_refl _ _) a.1) (eqv_pl (eqv_refl _ _) b.1), eqv_mn (eqv_pl (eqv_refl _ _) a.2) (eqv_pl (eqv_refl _ _) b.2)⟩
  | push c b ib =>
    intro h g
    have a := ib (fun f q => h f (by simpa [Bd.calls] using q)) (fun d q => g d (by simp [Bd.pushes, q]))
    obtain ⟨k1, k2⟩ := g c (by simp [Bd.pushes])
    have r := eqv_pl (eqv_refl (n + 1) one) a.1
    have x := eqv_pl (eqv_refl (n + 1) one) a.2
    simp only [lend]
    rw [← k1]
    cases (A c).1 with
    | true => exact ⟨eqv_pl (eqv_pl r (eqv_refl _ _)) k2.1, eqv_mn x (eqv_pl (eqv_pl r (eqv_refl _ _)) k2.2)⟩
    | false => exact ⟨eqv_mn r (eqv_pl (eqv_pl x (eqv_refl _ _)) k2.1), eqv_pl (eqv_pl x (eqv_refl _ _)) k2.2⟩
abbrev eN : E2 := (none, none)
abbrev larms (T : Tb ν) (F : Env ν E2) : Arm ν E2 := armsC lend eN T F
section
variable {T : Tb ν}
theorem larms_eqv (o : T.Ok) {F F' : Env ν E2} {n : Nat} (h : ∀ f ∈ T.fs, eqvE n (F f) (F' f)) : ∀ c ∈ T.cs, (larms T F c).1 = (larms T F' c).1 ∧ eqvE (n + 1) (larms T F c).2 (larms T F' c).2 := by
  have key : ∀ l : List ν, Ord T.am l → (∀ c ∈ l, c ∈ T.cs) → ∀ c ∈ l, (larms T F c).1 = (larms T F' c).1 ∧ eqvE (n + 1) (larms T F c).2 (larms T F' c).2 := by
    intro l
    induction l with
    | nil => intro _ _ c hc; cases hc
    | cons c0 l ih =>
      intro hO hs c hc
      have ih' := ih hO.2.2 (fun d q => hs d (List.mem_cons_of_mem _ q))
      rcases List.mem_cons.mp hc with rfl | q
      · refine ⟨by rw [armsC_kd, armsC_kd], ?_⟩
        have hc' := hs c List.mem_cons_self
        rw [show larms T F c = _ from armsC_ok lend_cg o F c hc', show larms T F' c = _ from armsC_ok lend_cg o F' c hc']
        exact lend_eqv (fun f q => h f (o.ac c hc' f q)) (fun d q => ih' d (hO.1 d q))
      · exact ih' c q
  exact key T.cs o.ord fun _ q => q
abbrev lrnd (T : Tb ν) (l : List ν) : Env ν E2 → Env ν E2 := rnd lend eN T l
theorem lrnd_eqv (o : T.Ok) {l : List ν} (hl : ∀ f, f ∈ l ↔ f ∈ T.fs) {F F' : Env ν E2} {n : Nat} (h : ∀ f ∈ T.fs, eqvE n (F f) (F' f)) : ∀ f ∈ T.fs, eqvE (n + 1) (lrnd T l F f) (lrnd T l F' f) := by
  have ha := larms_eqv o h
  have key : ∀ (r : List ν) (G G' : Env ν E2), (∀ f ∈ r, f ∈ T.fs) → (∀ f ∈ T.fs, eqvE n (G f) (G' f)) → (∀ f ∈ T.fs, f ∉ r → eqvE (n + 1) (G f) (G' f)) → ∀ f ∈ T.fs, eqvE (n + 1) (r.foldl (stepF lend T (larms T F)) G f) (r.foldl (stepF lend T (larms T F')) G' f) := by
    intro r
    induction r with
    | nil => intro G G' _ _ h2 f hf; exact h2 f hf (by simp)
    | cons a r ih =>
      intro G G' h0 h1 h2
      have haf := h0 a List.mem_cons_self
      have new : eqvE (n + 1) (lend G (larms T F) (T.bd a)) (lend G' (larms T F') (T.bd a)) := lend_eqv (fun f q => h1 f (o.bc a haf f q)) (fun c q => ha c (o.bp a haf c q))
      refine ih _ _ (fun f q => h0 f (List.mem_cons_of_mem _ q)) (fun f hf => ?_) (fun f hf hn => ?_)
      · by_cases e : f = a
        · subst e
          show eqvE n (up G f _ f) (up G' f _ f)
          rw [up_same, up_same]
          exact ⟨eqv_mono (Nat.le_succ n) new.1, eqv_mono (Nat.le_succ n) new.2⟩
        · show eqvE n (up G a _ f) (up G' a _ f)
          rw [up_ne e, up_ne e]; exact h1 f hf
      · by_cases e : f = a
        · subst e
          show eqvE (n + 1) (up G f _ f) (up G' f _ f)
          rw [up_same, up_same]; exact new
        · show eqvE (n + 1) (up G a _ f) (up G' a _ f)
          rw [up_ne e, up_ne e]
          exact h2 f hf (fun z => (List.mem_cons.mp z).elim e hn)
  exact key l F F' (fun f q => (hl f).mp q) h fun f hf hn => absurd ((hl f).mpr hf) hn
def F0 : Env ν E2 := fun _ => eN
theorem iter_off {E : Type} {en : Env ν E → Arm ν E → Bd ν → E} {e0 : E} {l : List ν} {x : Env ν E} {f : ν} (hf : f ∉ l) : ∀ k, iter (rnd en e0 T l) k x f = x f
  | 0 => rfl
  | k + 1 => by
    show (l.foldl (stepF en T (armsC en e0 T (iter (rnd en e0 T l) k x))) (iter (rnd en e0 T l) k x)) f = _
    rw [rnd_not hf]; exact iter_off hf k
theorem fold_P {P : E2 → Prop} {A : Arm ν E2} : ∀ (l : List ν) (G : Env ν E2), (∀ f, f ∉ l → P (G f)) → (∀ (G : Env ν E2) f, f ∈ l → P (lend G A (T.bd f))) → ∀ f, P (l.foldl (stepF lend T A) G f) := by
  intro l
  induction l with
  | nil => intro G h _ f; exact h f (by simp)
  | cons a l ih =>
    intro G h g
    refine ih _ (fun f hf => ?_) (fun G f hf => g G f (List.mem_cons_of_mem _ hf))
    by_cases e : f = a
    · subst e; show P (up G f _ f); rw [up_same]; exact g G f List.mem_cons_self
    · show P (up G a _ f); rw [up_ne e]; exact h f (fun z => (List.mem_cons.mp z).elim e hf)
theorem iter_small {l : List ν} : ∀ (k : Nat) (f : ν), smallE (iter (lrnd T l) k F0 f)
  | 0, f => ⟨(fun _ h => nomatch h), (fun _ h => nomatch h)⟩
  | k + 1, f => fold_P (P := smallE) l _ (fun f _ => iter_small k f) (fun _ _ _ => lend_small _ _ _) f
/-- the rounds come to a stand -/
theorem least_stands (o : T.Ok) {l : List ν} (hl : ∀ f, f ∈ l ↔ f ∈ T.fs) : lrnd T l (iter (lrnd T l) 1001 F0) = iter (lrnd T l) 1001 F0 := by
  have h : ∀ k, ∀ f ∈ T.fs, eqvE k (iter (lrnd T l) k F0 f) (iter (lrnd T l) (k + 1) F0 f) := by
    intro k
    induction k with
    | zero => intro f _; exact ⟨eqv_zero _ _, eqv_zero _ _⟩
    | succ k ih => exact lrnd_eqv o hl ih
  funext f
  by_cases hf : f ∈ T.fs
  · have e := h 1001 f hf
    have s1 := iter_small (T := T) (l := l) 1001 f
    have s2 := iter_small (T := T) (l := l) 1002 f
    exact (Prod.ext (eqv_small s1.1 s2.1 e.1) (eqv_small s1.2 s2.2 e.2)).symm
  · have hf' : f ∉ l := fun z => hf ((hl f).mp z)
    exact (iter_off (x := F0) (en := lend) (e0 := eN) (T := T) hf' 1002).trans (iter_off (x := F0) (en := lend) (e0 := eN) (T := T) hf' 1001).symm
/-- a solution -/
structure LFix (T : Tb ν) (F : Env ν E2) : Prop where
  fix : ∀ f ∈ T.fs, F f = lend F (larms T F) (T.bd f)
theorem LFix.small {F : Env ν E2} (h : LFix T F) : ∀ f ∈ T.fs, smallE (F f) := fun f hf => by rw [h.fix f hf]; exact lend_small _ _ _
theorem LFix.big {F : Env ν E2} (h : LFix T F) : ∀ f ∈ T.fs, bigE 1 (F f) := fun f hf => by rw [h.fix f hf]; exact lend_big
theorem LFix.uniq (o : T.Ok) {F F' : Env ν E2} (h : LFix T F) (h' : LFix T F') : ∀ f ∈ T.fs, F f = F' f := by
  have key : ∀ k, ∀ f ∈ T.fs, eqvE k (F f) (F' f) := by
    intro k
    induction k with
    | zero => intro f _; exact ⟨eqv_zero _ _, eqv_zero _ _⟩
    | succ k ih =>
      intro f hf
      rw [h.fix f hf, h'.fix f hf]
      exact lend_eqv (fun g q => ih g (o.bc f hf g q)) (fun c q => larms_eqv o ih c (o.bp f hf c q))
  intro f hf
  exact Prod.ext (eqv_small (h.small f hf).1 (h'.small f hf).1 (key 1001 f hf).1) (eqv_small (h.small f hf).2 (h'.small f hf).2 (key 1001 f hf).2)
theorem LFix.of (o : T.Ok) {l : List ν} (hl : ∀ f, f ∈ l ↔ f ∈ T.fs) (nd : l.Nodup) {F : Env ν E2} (h : lrnd T l F = F) : LFix T F := ⟨fun f hf => fix_of nd h f ((hl f).mpr hf)⟩
end
end KM

namespace KM
variable {ν : Type} [DecidableEq ν]
/-! ### what all least scripts keep -/
structure Closed (P : E2 → Prop) : Prop where
  nul : P eN
  end_ : ∀ (ν : Type) [DecidableEq ν] (F : Env ν E2) (A : Arm ν E2) (b : Bd ν), (∀ f, P (F f)) → (∀ c, P (A c).2) → P (lend F A b)
section
variable {T : Tb ν} {P : E2 → Prop}
theorem Closed.arms (h : Closed P) {F : Env ν E2} (hF : ∀ f, P (F f)) : ∀ c, P (larms T F c).2 := by
  show ∀ c, P (armsL lend eN T F T.cs c).2
  generalize T.cs = l
  induction l with
  | nil => intro c; exact h.nul
  | cons c0 l ih =>
    intro c
    show P (up (armsL lend eN T F l) c0 (T.kd c0, lend F (armsL lend eN T F l) (T.am c0)) c).2
    by_cases e : c = c0
    · subst e; rw [up_same]; exact h.end_ ν F _ _ hF ih
    · rw [up_ne e]; exact ih c
theorem Closed.fold (h : Closed P) {A : Arm ν E2} (hA : ∀ c, P (A c).2) : ∀ (l : List ν) (G : Env ν E2), (∀ f, P (G f)) → ∀ f, P (l.foldl (stepF lend T A) G f) := by
  intro l
  induction l with
  | nil => intro G hG f; exact hG f
  | cons a l ih =>
    intro G hG
    refine ih _ fun f => ?_
    show P (up G a (lend G A (T.bd a)) f)
    by_cases e : f = a
    · subst e; rw [up_same]; exact h.end_ ν G A _ hG hA
    · rw [up_ne e]; exact hG f
theorem Closed.iter (h : Closed P) {l : List ν} : ∀ (k : Nat) (f : ν), P (iter (lrnd T l) k F0 f)
  | 0, f => h.nul
  | k + 1, f => h.fold (h.arms (Closed.iter h k)) l _ (Closed.iter h k) f
end
theorem closed_ok : Closed okE := ⟨⟨okS_none, okS_none⟩, fun ν _ F A b hF hA => lend_ok (fun f _ => hF f) fun c _ => hA c⟩
theorem closed_small : Closed smallE := ⟨⟨(fun _ h => nomatch h), (fun _ h => nomatch h)⟩, fun ν _ F A b hF hA => lend_small F A b⟩
/-- one begins the other -/
def cmp (x y : List Bool) : Prop := x <+: y ∨ y <+: x
theorem cmp_app {p q r : List Bool} (h : cmp (p ++ q) r) : cmp p r := by
  rcases h with h | h
  · exact .inl (List.IsPrefix.trans (List.prefix_append p q) h)
  · exact List.prefix_or_prefix_of_prefix (List.prefix_append p q) h
theorem cmp_comm {x y : List Bool} (h : cmp x y) : cmp y x := h.elim .inr .inl
theorem cmp_cancel {p x y : List Bool} (h : cmp (p ++ x) (p ++ y)) : cmp x y := by
  rcases h with h | h
  · exact .inl ((List.prefix_append_right_inj p).mp h)
  · exact .inr ((List.prefix_append_right_inj p).mp h)
def incE (e : E2) : Prop := ∀ x y, e.1 = some x → e.2 = some y → ¬ cmp x.b y.b
theorem one_bits {a : OS} {s : Sc} (h : pl one a = some s) : ∃ x, a = some x ∧ s.b = x.b ∧ s.n = x.n + 1 := by
  obtain ⟨x, y, e1, e2, rfl, _⟩ := pl_eq_some h
  cases e1
  exact ⟨y, e2, rfl, Nat.add_comm _ _⟩
theorem bit_bits {a : OS} {t : Bool} {s : Sc} (h : pl (bitS t) a = some s) : ∃ x, a = some x ∧ s.b = t :: x.b ∧ s.n = x.n + 1 := by
  obtain ⟨x, y, e1, e2, rfl, _⟩ := pl_eq_some h
  cases e1
  exact ⟨y, e2, rfl, Nat.add_comm _ _⟩
theorem pl_one_bits {a : OS} {s : Sc} (h : pl a one = some s) : ∃ x, a = some x ∧ s.b = x.b ∧ s.n = x.n + 1 := by
  obtain ⟨x, y, e1, e2, rfl, _⟩ := pl_eq_some h
  cases e2
  exact ⟨x, e1, List.append_nil _, rfl⟩
theorem mn_some {a b : OS} {s : Sc} (h : mn a b = some s) : a = some s ∨ b = some s := by
  rcases mn_eq_or a b with e | e
  · left; rw [← e]; exact h
  · right; rw [← e]; exact h
/-- what enters a frame, and how an arm ends behind it -/
theorem enter_bits {e w : OS} {s : Sc} (h : pl (pl (pl one e) one) w = some s) : ∃ x y, e = some x ∧ w = some y ∧ s.b = x.b ++ y.b ∧ s.n = x.n + 2 + y.n := by
  obtain ⟨u, y, e1, e2, rfl, _⟩ := pl_eq_some h
  obtain ⟨v, e3, b3, n3⟩ := pl_one_bits e1
  obtain ⟨x, e4, b4, n4⟩ := one_bits e3
  exact ⟨x, y, e4, e2, by show u.b ++ y.b = _; rw [b3, b4], by show u.n + y.n = _; omega⟩
theorem closed_inc : Closed incE := by
  refine ⟨(fun x y h => nomatch h), fun ν _ F A b hF hA => ?_⟩
  induction b with
  | leaf r =>
    cases r with
    | true => intro x y h _; exact nomatch (show (none : OS) = some x from h)
    | false => intro x y _ g; exact nomatch (show (none : OS) = some y from g)
  | call f =>
    intro x y h g c
    obtain ⟨x', e1, b1, _⟩ := one_bits h
    obtain ⟨y', e2, b2, _⟩ := one_bits g
    rw [b1, b2] at c
    exact hF f x' y' e1 e2 c
  | test yb nb iy iN =>
    intro x y h g c
    have no : ∀ {u v : List Bool}, ¬ cmp (true :: u) (false :: v) := fun {u v} z => by
      rcases z with z | z <;> simp at z
    have tl : ∀ {t : Bool} {u v : List Bool}, cmp (t :: u) (t :: v) → cmp u v := fun {t u v} z => cmp_cancel (p := [t]) z
    rcases mn_some h with h | h <;> rcases mn_some g with g | g
    · obtain ⟨x', e1, b1, _⟩ := bit_bits h
      obtain ⟨y', e2, b2, _⟩ := bit_bits g
      rw [b1, b2] at c
      exact iy x' y' e1 e2 (tl c)
    · obtain ⟨x', e1, b1, _⟩ := bit_bits h
      obtain ⟨y', e2, b2, _⟩ := bit_bits g
      rw [b1, b2] at c
      exact no c
    · obtain ⟨x', e1, b1, _⟩ := bit_bits h
      obtain ⟨y', e2, b2, _⟩ := bit_bits g
      rw [b1, b2] at c
      exact no (cmp_comm c)
    · obtain ⟨x', e1, b1, _⟩ := bit_bits h
      obtain ⟨y', e2, b2, _⟩ := bit_bits g
      rw [b1, b2] at c
      exact iN x' y' e1 e2 (tl c)
  | push cc b ib =>
    intro x y h g c
    have hc := hA cc
    cases hk : (A cc).1 with
    | true =>
      simp only [lend, hk, if_true] at h g
      obtain ⟨x1, y1, e1, e2, b1, _⟩ := enter_bits h
      rcases mn_some g with g | g
      · obtain ⟨y', e3, b3, _⟩ := one_bits g
        rw [b1, b3] at c
        exact ib x1 y' e1 e3 (cmp_app c)
      · obtain ⟨x2, y2, e3, e4, b3, _⟩ := enter_bits g
        rw [e1] at e3; cases e3
        rw [b1, b3] at c
        exact hc y1 y2 e2 e4 (cmp_cancel c)
    | false =>
      simp only [lend, hk, if_false, Bool.false_eq_true] at h g
      obtain ⟨x1, y1, e1, e2, b1, _⟩ := enter_bits g
      rcases mn_some h with h | h
      · obtain ⟨y', e3, b3, _⟩ := one_bits h
        rw [b1, b3] at c
        exact ib y' x1 e3 e1 (cmp_comm (cmp_app (cmp_comm c)))
      · obtain ⟨x2, y2, e3, e4, b3, _⟩ := enter_bits h
        rw [e1] at e3; cases e3
        rw [b1, b3] at c
        exact hc y2 y1 e4 e2 (cmp_cancel c)

/-! ### so few rounds are enough -/
def leN (a b : OS) : Prop := ∀ s, b = some s → ∃ r, a = some r ∧ r.n ≤ s.n
theorem leN_refl (a : OS) : leN a a := fun s e => ⟨s, e, Nat.le_refl _⟩
theorem leN_none (a : OS) : leN a none := fun _ h => nomatch h
theorem leN_mn {a a' b b' : OS} (h : leN a a') (g : leN b b') : leN (mn a b) (mn a' b') := fun s e => by
  have low : ∀ {x y : OS} {r : Sc}, leO y x → x = some r → ∃ q, y = some q ∧ q.n ≤ r.n := fun {x y r} k e => by
    subst e
    cases y with
    | none => exact k.elim
    | some q =>
      refine ⟨q, rfl, ?_⟩
      have k' : r.lt q = false := k
      rcases Sc.lt_tri q r with z | z | z
      · exact Sc.lt_le z
      · rw [z]; exact Nat.le_refl _
      · rw [z] at k'; cases k'
  rcases mn_some e with e | e
  · obtain ⟨r, e1, l1⟩ := h s e
    obtain ⟨q, e2, l2⟩ := low (mn_le_left a b) e1
    exact ⟨q, e2, by omega⟩
  · obtain ⟨r, e1, l1⟩ := g s e
    obtain ⟨q, e2, l2⟩ := low (mn_le_right a b) e1
    exact ⟨q, e2, by omega⟩
theorem leN_pl {a a' b b' : OS} (h : leN a a') (g : leN b b') : leN (pl a b) (pl a' b') := fun s e => by
  obtain ⟨x, y, rfl, rfl, rfl, hs⟩ := pl_eq_some e
  obtain ⟨x', rfl, lx⟩ := h x rfl
  obtain ⟨y', rfl, ly⟩ := g y rfl
  exact ⟨⟨x'.n + y'.n, x'.b ++ y'.b⟩, by rw [pl_some, if_neg (by omega)], by show x'.n + y'.n ≤ x.n + y.n; omega⟩
def leE (e e' : E2) : Prop := leN e.1 e'.1 ∧ leN e.2 e'.2
theorem lend_leE {F F' : Env ν E2} {A A' : Arm ν E2} : ∀ {b : Bd ν}, (∀ f ∈ b.calls, leE (F f) (F' f)) → (∀ c ∈ b.pushes, (A c).1 = (A' c).1 ∧ leE (A c).2 (A' c).2) → leE (lend F A b) (lend F' A' b) := by
  intro b
  induction b with
  | leaf r => intro _ _; exact ⟨leN_refl _, leN_refl _⟩
  | call f => intro h _; have := h f (by simp [Bd.calls]); exact ⟨leN_pl (leN_refl _) this.1, leN_pl (leN_refl _) this.2⟩
  | test y n iy iN =>
    intro h g
    have a := iy (fun f q => h f (by simp [Bd.calls, q])) (fun c q => g c (by simp [Bd.pushes, q]))
    have b := iN (fun f q => h f (by simp [Bd.calls, q])) (fun c q => g c (by simp [Bd.pushes, q]))
    exact ⟨leN_mn (leN_pl (leN_refl _) a.1) (leN_pl (leN_refl _) b.1), leN_mn (leN_pl (leN_refl _) a.2) (leN_pl (leN_refl _) b.2)⟩
  | push c b ib =>
    intro h g
    have a := ib (fun f q => h f (by simpa [Bd.calls] using q)) (fun d q => g d (by simp [Bd.pushes, q]))
    obtain ⟨k1, k2⟩ := g c (by simp [Bd.pushes])
    have r := leN_pl (leN_refl one) a.1
    have x := leN_pl (leN_refl one) a.2
    simp only [lend]
    rw [← k1]
    cases (A c).1 with
    | true => exact ⟨leN_pl (leN_pl r (leN_refl _)) k2.1, leN_mn x (leN_pl (leN_pl r (leN_refl _)) k2.2)⟩
    | false => exact ⟨leN_mn r (leN_pl (leN_pl x (leN_refl _)) k2.1), leN_pl (leN_pl x (leN_refl _)) k2.2⟩
section
variable {T : Tb ν}
theorem larms_leE (o : T.Ok) {F F' : Env ν E2} (h : ∀ f ∈ T.fs, leE (F f) (F' f)) : ∀ c ∈ T.cs, (larms T F c).1 = (larms T F' c).1 ∧ leE (larms T F c).2 (larms T F' c).2 := by
  have key : ∀ l : List ν, Ord T.am l → (∀ c ∈ l, c ∈ T.cs) → ∀ c ∈ l, (larms T F c).1 = (larms T F' c).1 ∧ leE (larms T F c).2 (larms T F' c).2 := by
    intro l
    induction l with
    | nil => intro _ _ c hc; cases hc
    | cons c0 l ih =>
      intro hO hs c hc
      have ih' := ih hO.2.2 (fun d q => hs d (List.mem_cons_of_mem _ q))
      rcases List.mem_cons.mp hc with rfl | q
      · refine ⟨by rw [armsC_kd, armsC_kd], ?_⟩
        have hc' := hs c List.mem_cons_self
        rw [show larms T F c = _ from armsC_ok lend_cg o F c hc', show larms T F' c = _ from armsC_ok lend_cg o F' c hc']
        exact lend_leE (fun f q => h f (o.ac c hc' f q)) (fun d q => ih' d (hO.1 d q))
      · exact ih' c q
  exact key T.cs o.ord fun _ q => q
theorem lrnd_leE (o : T.Ok) {F : Env ν E2} (fx : LFix T F) {l : List ν} (hl : ∀ f ∈ l, f ∈ T.fs) {G : Env ν E2} (h : ∀ f ∈ T.fs, leE (F f) (G f)) : ∀ f ∈ T.fs, leE (F f) (lrnd T l G f) := by
  have ha := larms_leE o h
  have key : ∀ (r : List ν) (G' : Env ν E2), (∀ f ∈ r, f ∈ T.fs) → (∀ f ∈ T.fs, leE (F f) (G' f)) → ∀ f ∈ T.fs, leE (F f) (r.foldl (stepF lend T (larms T G)) G' f) := by
    intro r
    induction r with
    | nil => intro G' _ h1 f hf; exact h1 f hf
    | cons a r ih =>
      intro G' h0 h1
      have haf := h0 a List.mem_cons_self
      refine ih _ (fun f q => h0 f (List.mem_cons_of_mem _ q)) fun f hf => ?_
      show leE (F f) (up G' a (lend G' (larms T G) (T.bd a)) f)
      by_cases e : f = a
      · subst e
        rw [up_same, fx.fix f hf]
        exact lend_leE (fun g q => h1 g (o.bc f hf g q)) (fun c q => ha c (o.bp f hf c q))
      · rw [up_ne e]; exact h1 f hf
  exact key l G hl h
def fin (t : Nat) : OS → Bool
  | some s => decide (s.n < t)
  | none => false
def cnt (l : List ν) (F : Env ν E2) (t : Nat) : Nat := (l.filter fun f => fin t (F f).1).length + (l.filter fun f => fin t (F f).2).length
theorem fin_mono {t u : Nat} (h : t ≤ u) {a : OS} (g : fin t a = true) : fin u a = true := by
  cases a with
  | none => cases g
  | some s => have := of_decide_eq_true g; exact decide_eq_true (by omega)
theorem filter_mono {p q : ν → Bool} (h : ∀ x, p x = true → q x = true) : ∀ l : List ν, (l.filter p).length ≤ (l.filter q).length
  | [] => Nat.le_refl _
  | x :: l => by
    have ih := filter_mono h l
    cases hp : p x with
    | true => rw [List.filter_cons_of_pos hp, List.filter_cons_of_pos (h x hp)]; simp; exact ih
    | false =>
      rw [List.filter_cons_of_neg (by simp [hp])]
      cases hq : q x with
      | true => rw [List.filter_cons_of_pos hq]; simp; omega
      | false => rw [List.filter_cons_of_neg (by simp [hq])]; exact ih
theorem filter_more {p q : ν → Bool} (h : ∀ x, p x = true → q x = true) {y : ν} (h1 : p y = false) (h2 : q y = true) : ∀ l : List ν, y ∈ l → (l.filter p).length + 1 ≤ (l.filter q).length
  | [], hy => by cases hy
  | x :: l, hy => by
    rcases List.mem_cons.mp hy with rfl | hy
    · rw [List.filter_cons_of_neg (by simp [h1]), List.filter_cons_of_pos h2]
      have := filter_mono h l
      simp; omega
    · have ih := filter_more h h1 h2 l hy
      cases hp : p x with
      | true => rw [List.filter_cons_of_pos hp, List.filter_cons_of_pos (h x hp)]; simp; omega
      | false =>
        rw [List.filter_cons_of_neg (by simp [hp])]
        cases hq : q x with
        | true => rw [List.filter_cons_of_pos hq]; simp; omega
        | false => rw [List.filter_cons_of_neg (by simp [hq])]; exact ih
theorem cnt_le (l : List ν) (F : Env ν E2) (t : Nat) : cnt l F t ≤ 2 * l.length := by
  have a := List.length_filter_le (fun f => fin t (F f).1) l
  have b := List.length_filter_le (fun f => fin t (F f).2) l
  unfold cnt; omega
/-- the least number from t on with a property -/
theorem least_from {P : Nat → Prop} (t : Nat) (h : ∃ m, t ≤ m ∧ P m) : ∃ m, t ≤ m ∧ P m ∧ ∀ j, t ≤ j → j < m → ¬ P j := by
  obtain ⟨m, h1, h2⟩ := h
  have key : ∀ d t, t + d = m → ∃ m, t ≤ m ∧ P m ∧ ∀ j, t ≤ j → j < m → ¬ P j := by
    intro d
    induction d with
    | zero => intro t e; exact ⟨m, by omega, h2, fun j a b => by omega⟩
    | succ d ih =>
      intro t e
      by_cases hp : P t
      · exact ⟨t, Nat.le_refl _, hp, fun j a b => by omega⟩
      · obtain ⟨m', a, b, c⟩ := ih (t + 1) (by omega)
        refine ⟨m', by omega, b, fun j x y => ?_⟩
        by_cases z : j = t
        · rw [z]; exact hp
        · exact c j (by omega) y
  exact key (m - t) t (by omega)
theorem rounds (o : T.Ok) {F : Env ν E2} (fx : LFix T F) (h0 : ∀ f, f ∉ T.fs → F f = eN) : ∀ k, iter (lrnd T T.fs) k F0 = F ∨ ((∀ f ∈ T.fs, leE (F f) (iter (lrnd T T.fs) k F0 f)) ∧ ∃ t, (∀ f ∈ T.fs, eqvE t (iter (lrnd T T.fs) k F0 f) (F f)) ∧ k ≤ cnt T.fs F t) := by
  have stand : lrnd T T.fs F = F := rnd_of_fix fx.fix
  intro k
  induction k with
  | zero => exact .inr ⟨fun f _ => ⟨leN_none _, leN_none _⟩, 0, fun f _ => ⟨eqv_zero _ _, eqv_zero _ _⟩, Nat.zero_le _⟩
  | succ k ih =>
    rcases ih with e | ⟨low, t, ag, hk⟩
    · left
      show lrnd T T.fs (iter (lrnd T T.fs) k F0) = F
      rw [e, stand]
    · generalize hG : iter (lrnd T T.fs) k F0 = G at low ag
      have off : ∀ f, f ∉ T.fs → G f = F f := fun f hf => by
        rw [← hG, iter_off hf k, h0 f hf]; rfl
      have goal : iter (lrnd T T.fs) (k + 1) F0 = lrnd T T.fs G := by rw [← hG]; rfl
      rw [goal]
      let P : Nat → Prop := fun m => ∃ f ∈ T.fs, (∃ s, (F f).1 = some s ∧ s.n = m) ∨ (∃ s, (F f).2 = some s ∧ s.n = m)
      by_cases hP : ∃ m, t ≤ m ∧ P m
      · right
        obtain ⟨u, tu, ⟨f0, hf0, hs⟩, no⟩ := least_from t hP
        have up1 : ∀ (a g : OS), eqv t g a → leN a g → (∀ s, a = some s → t ≤ s.n → u ≤ s.n) → eqv u g a := fun a g e l n => by
          rcases e with e | ⟨e1, e2⟩
          · exact .inl e
          · refine .inr ⟨fun s hs => ?_, fun s hs => n s hs (e2 s hs)⟩
            obtain ⟨r, hr, lr⟩ := l s hs
            have := n r hr (e2 r hr)
            omega
        have ag' : ∀ f ∈ T.fs, eqvE u (G f) (F f) := fun f hf => by
          refine ⟨up1 _ _ (ag f hf).1 (low f hf).1 fun s hs ht => ?_, up1 _ _ (ag f hf).2 (low f hf).2 fun s hs ht => ?_⟩
          · by_cases q : u ≤ s.n
            · exact q
            · exact absurd ⟨f, hf, .inl ⟨s, hs, rfl⟩⟩ (no s.n ht (by omega))
          · by_cases q : u ≤ s.n
            · exact q
            · exact absurd ⟨f, hf, .inr ⟨s, hs, rfl⟩⟩ (no s.n ht (by omega))
        refine ⟨lrnd_leE o fx (fun _ q => q) low, u + 1, ?_, ?_⟩
        · have := lrnd_eqv o (l := T.fs) (fun _ => Iff.rfl) ag'
          rw [stand] at this
          exact this
        · have m1 : ∀ (p : E2 → OS), ∀ x : ν, fin t (p (F x)) = true → fin (u + 1) (p (F x)) = true := fun p x => fin_mono (by omega)
          rcases hs with ⟨s, e, n⟩ | ⟨s, e, n⟩
          · have a := filter_more (p := fun f => fin t (F f).1) (q := fun f => fin (u + 1) (F f).1) (m1 (·.1)) (y := f0) (by simp [e, fin]; omega) (by simp [e, fin]; omega) T.fs hf0
            have b := filter_mono (p := fun f => fin t (F f).2) (q := fun f => fin (u + 1) (F f).2) (m1 (·.2)) T.fs
            unfold cnt at hk ⊢; omega
          · have a := filter_more (p := fun f => fin t (F f).2) (q := fun f => fin (u + 1) (F f).2) (m1 (·.2)) (y := f0) (by simp [e, fin]; omega) (by simp [e, fin]; omega) T.fs hf0
            have b := filter_mono (p := fun f => fin t (F f).1) (q := fun f => fin (u + 1) (F f).1) (m1 (·.1)) T.fs
            unfold cnt at hk ⊢; omega
      · left
        have e1 : ∀ (a g : OS), eqv t g a → leN a g → (∀ s, a = some s → ¬ t ≤ s.n) → g = a := fun a g e l n => by
          rcases e with e | ⟨e1, e2⟩
          · exact e
          · have ha : a = none := by
              cases a with
              | none => rfl
              | some s => exact absurd (e2 s rfl) (n s rfl)
            cases g with
            | none => exact ha.symm
            | some r =>
              obtain ⟨q, hq, _⟩ := l r rfl
              rw [ha] at hq; cases hq
        have eG : G = F := by
          funext f
          by_cases hf : f ∈ T.fs
          · exact Prod.ext (e1 _ _ (ag f hf).1 (low f hf).1 fun s hs ht => hP ⟨s.n, ht, f, hf, .inl ⟨s, hs, rfl⟩⟩) (e1 _ _ (ag f hf).2 (low f hf).2 fun s hs ht => hP ⟨s.n, ht, f, hf, .inr ⟨s, hs, rfl⟩⟩)
          · exact off f hf
        rw [eG, stand]
/-- THE LEAST SCRIPTS of a table -/
def lst (T : Tb ν) : Env ν E2 := iter (lrnd T T.fs) 1001 F0
theorem lst_fix (o : T.Ok) : LFix T (lst T) := LFix.of o (fun _ => Iff.rfl) o.nd (least_stands o fun _ => Iff.rfl)
theorem lst_off {f : ν} (hf : f ∉ T.fs) : lst T f = eN := iter_off hf 1001
theorem lst_P {P : E2 → Prop} (h : Closed P) (f : ν) : P (lst T f) := h.iter 1001 f
/-- the law's rounds -/
theorem law_rounds (o : T.Ok) : iter (lrnd T T.fs) (2 * T.fs.length + 1) F0 = lst T := by
  rcases rounds o (lst_fix o) (fun f hf => lst_off hf) (2 * T.fs.length + 1) with e | ⟨_, t, _, hk⟩
  · exact e
  · have := cnt_le T.fs (lst T) t
    omega
/-- the program's rounds, in any order -/
theorem prog_rounds (o : T.Ok) {l : List ν} (hl : ∀ f, f ∈ l ↔ f ∈ T.fs) (nd : l.Nodup) : iter (lrnd T l) 1001 F0 = lst T := by
  have h1 := LFix.of o hl nd (least_stands o hl)
  funext f
  by_cases hf : f ∈ T.fs
  · exact h1.uniq o (lst_fix o) f hf
  · rw [lst_off hf]; exact iter_off (fun z => hf ((hl f).mp z)) 1001
end
end KM

namespace KM
variable {ν : Type} [DecidableEq ν]
/-! ### which ends there are -/
abbrev B2 := Bool × Bool
def cen (F : Env ν B2) (A : Arm ν B2) : Bd ν → B2
  | .leaf r => (!r, r)
  | .call f => F f
  | .test y n => ((cen F A y).1 || (cen F A n).1, (cen F A y).2 || (cen F A n).2)
  | .push c b => if (A c).1 then ((cen F A b).1 && (A c).2.1, (cen F A b).2 || ((cen F A b).1 && (A c).2.2)) else ((cen F A b).1 || ((cen F A b).2 && (A c).2.1), (cen F A b).2 && (A c).2.2)
theorem cen_cg : Cg (cen (ν := ν)) := by
  intro F F' A A' b
  induction b with
  | leaf r => intro _ _; rfl
  | call f => intro h _; exact h f (by simp [Bd.calls])
  | test y n iy iN =>
    intro h g
    simp only [cen]
    rw [iy (fun f q => h f (by simp [Bd.calls, q])) (fun c q => g c (by simp [Bd.pushes, q])), iN (fun f q => h f (by simp [Bd.calls, q])) (fun c q => g c (by simp [Bd.pushes, q]))]
  | push c b ib =>
    intro h g
    simp only [cen]
    rw [ib (fun f q => h f (by simpa [Bd.calls] using q)) (fun d q => g d (by simp [Bd.pushes, q])), g c (by simp [Bd.pushes])]
def leB (a b : Bool) : Prop := a = true → b = true
def leB2 (e e' : B2) : Prop := leB e.1 e'.1 ∧ leB e.2 e'.2
theorem cen_mono {F F' : Env ν B2} {A A' : Arm ν B2} : ∀ {b : Bd ν}, (∀ f ∈ b.calls, leB2 (F f) (F' f)) → (∀ c ∈ b.pushes, (A c).1 = (A' c).1 ∧ leB2 (A c).2 (A' c).2) → leB2 (cen F A b) (cen F' A' b) := by
  intro b
  induction b with
  | leaf r => intro _ _; exact ⟨id, id⟩
  | call f => intro h _; exact h f (by simp [Bd.calls])
  | test y n iy iN =>
    intro h g
    have a := iy (fun f q => h f (by simp [Bd.calls, q])) (fun c q => g c (by simp [Bd.pushes, q]))
    have b := iN (fun f q => h f (by simp [Bd.calls, q])) (fun c q => g c (by simp [Bd.pushes, q]))
    obtain ⟨a1, a2⟩ := a
    obtain ⟨b1, b2⟩ := b
    refine ⟨fun z => ?_, fun z => ?_⟩
    · simp only [cen, Bool.or_eq_true] at z ⊢
      exact z.imp a1 b1
    · simp only [cen, Bool.or_eq_true] at z ⊢
      exact z.imp a2 b2
  | push c b ib =>
    intro h g
    obtain ⟨a1, a2⟩ := ib (fun f q => h f (by simpa [Bd.calls] using q)) (fun d q => g d (by simp [Bd.pushes, q]))
    obtain ⟨k1, k2, k3⟩ := g c (by simp [Bd.pushes])
    simp only [cen]
    rw [← k1]
    cases (A c).1 with
    | true =>
      refine ⟨fun z => ?_, fun z => ?_⟩
      · simp only [if_true, Bool.and_eq_true] at z ⊢
        exact ⟨a1 z.1, k2 z.2⟩
      · simp only [if_true, Bool.and_eq_true, Bool.or_eq_true] at z ⊢
        exact z.imp a2 fun q => ⟨a1 q.1, k3 q.2⟩
    | false =>
      refine ⟨fun z => ?_, fun z => ?_⟩
      · simp only [Bool.false_eq_true, if_false, Bool.and_eq_true, Bool.or_eq_true] at z ⊢
        exact z.imp a1 fun q => ⟨a2 q.1, k2 q.2⟩
      · simp only [Bool.false_eq_true, if_false, Bool.and_eq_true] at z ⊢
        exact ⟨a2 z.1, k3 z.2⟩
abbrev bN : B2 := (false, false)
abbrev carms (T : Tb ν) (F : Env ν B2) : Arm ν B2 := armsC cen bN T F
abbrev crnd (T : Tb ν) (l : List ν) : Env ν B2 → Env ν B2 := rnd cen bN T l
def C0 : Env ν B2 := fun _ => bN
section
variable {T : Tb ν}
theorem carms_mono {F F' : Env ν B2} (h : ∀ f, leB2 (F f) (F' f)) : ∀ c, (carms T F c).1 = (carms T F' c).1 ∧ leB2 (carms T F c).2 (carms T F' c).2 := by
  show ∀ c, (armsL cen bN T F T.cs c).1 = (armsL cen bN T F' T.cs c).1 ∧ leB2 (armsL cen bN T F T.cs c).2 (armsL cen bN T F' T.cs c).2
  generalize T.cs = l
  induction l with
  | nil => intro c; exact ⟨rfl, id, id⟩
  | cons c0 l ih =>
    intro c
    show (up (armsL cen bN T F l) c0 _ c).1 = (up (armsL cen bN T F' l) c0 _ c).1 ∧ leB2 (up (armsL cen bN T F l) c0 _ c).2 (up (armsL cen bN T F' l) c0 _ c).2
    by_cases e : c = c0
    · subst e; rw [up_same, up_same]; exact ⟨rfl, cen_mono (fun f _ => h f) fun d _ => ih d⟩
    · rw [up_ne e, up_ne e]; exact ih c
theorem crnd_mono {l : List ν} {F F' : Env ν B2} (h : ∀ f, leB2 (F f) (F' f)) : ∀ f, leB2 (crnd T l F f) (crnd T l F' f) := by
  have ha := carms_mono (T := T) h
  have key : ∀ (r : List ν) (G G' : Env ν B2), (∀ f, leB2 (G f) (G' f)) → ∀ f, leB2 (r.foldl (stepF cen T (carms T F)) G f) (r.foldl (stepF cen T (carms T F')) G' f) := by
    intro r
    induction r with
    | nil => intro G G' h f; exact h f
    | cons a r ih =>
      intro G G' hG
      refine ih _ _ fun f => ?_
      show leB2 (up G a (cen G (carms T F) (T.bd a)) f) (up G' a (cen G' (carms T F') (T.bd a)) f)
      by_cases e : f = a
      · subst e; rw [up_same, up_same]; exact cen_mono (fun g _ => hG g) fun c _ => ha c
      · rw [up_ne e, up_ne e]; exact hG f
  exact key l F F' h
theorem c_inc {l : List ν} : ∀ k f, leB2 (iter (crnd T l) k C0 f) (iter (crnd T l) (k + 1) C0 f)
  | 0, f => ⟨(fun h => nomatch (show false = true from h)), (fun h => nomatch (show false = true from h))⟩
  | k + 1, f => crnd_mono (c_inc k) f
def cntB (l : List ν) (F : Env ν B2) : Nat := (l.filter fun f => (F f).1).length + (l.filter fun f => (F f).2).length
theorem cntB_le (l : List ν) (F : Env ν B2) : cntB l F ≤ 2 * l.length := by
  have a := List.length_filter_le (fun f => (F f).1) l
  have b := List.length_filter_le (fun f => (F f).2) l
  unfold cntB; omega
theorem cntB_more {l : List ν} {F F' : Env ν B2} (h : ∀ f, leB2 (F f) (F' f)) (hn : ∃ f ∈ l, F f ≠ F' f) : cntB l F + 1 ≤ cntB l F' := by
  obtain ⟨f, hf, hne⟩ := hn
  have m1 := filter_mono (p := fun f => (F f).1) (q := fun f => (F' f).1) (fun x => (h x).1) l
  have m2 := filter_mono (p := fun f => (F f).2) (q := fun f => (F' f).2) (fun x => (h x).2) l
  have h1 := (h f).1
  have h2 := (h f).2
  by_cases e1 : (F f).1 = (F' f).1
  · have e2 : (F f).2 ≠ (F' f).2 := fun z => hne (Prod.ext e1 z)
    have q : (F f).2 = false ∧ (F' f).2 = true := by
      cases a : (F f).2 <;> cases b : (F' f).2 <;> simp_all [leB]
    have := filter_more (p := fun f => (F f).2) (q := fun f => (F' f).2) (fun x => (h x).2) q.1 q.2 l hf
    unfold cntB; omega
  · have q : (F f).1 = false ∧ (F' f).1 = true := by
      cases a : (F f).1 <;> cases b : (F' f).1 <;> simp_all [leB]
    have := filter_more (p := fun f => (F f).1) (q := fun f => (F' f).1) (fun x => (h x).1) q.1 q.2 l hf
    unfold cntB; omega
theorem can_stands {l : List ν} : crnd T l (iter (crnd T l) (2 * l.length + 1) C0) = iter (crnd T l) (2 * l.length + 1) C0 := by
  have key : ∀ k, (∃ j, j ≤ k ∧ crnd T l (iter (crnd T l) j C0) = iter (crnd T l) j C0) ∨ k ≤ cntB l (iter (crnd T l) k C0) := by
    intro k
    induction k with
    | zero => exact .inr (Nat.zero_le _)
    | succ k ih =>
      rcases ih with ⟨j, hj, e⟩ | hk
      · exact .inl ⟨j, by omega, e⟩
      · by_cases e : crnd T l (iter (crnd T l) k C0) = iter (crnd T l) k C0
        · exact .inl ⟨k, by omega, e⟩
        · right
          have hn : ∃ f ∈ l, iter (crnd T l) k C0 f ≠ iter (crnd T l) (k + 1) C0 f := by
            by_cases q : ∃ f ∈ l, iter (crnd T l) k C0 f ≠ iter (crnd T l) (k + 1) C0 f
            · exact q
            · refine absurd (funext fun f => ?_) e
              by_cases hf : f ∈ l
              · by_cases z : iter (crnd T l) k C0 f = iter (crnd T l) (k + 1) C0 f
                · exact z.symm
                · exact absurd ⟨f, hf, z⟩ q
              · exact rnd_not hf
          have := cntB_more (c_inc k) hn
          omega
  rcases key (2 * l.length + 1) with ⟨j, hj, e⟩ | h
  · have z := iter_stand e (2 * l.length + 1 - j)
    rw [show j + (2 * l.length + 1 - j) = 2 * l.length + 1 by omega] at z
    rw [z, e]
  · have := cntB_le l (iter (crnd T l) (2 * l.length + 1) C0)
    omega
/-- THE POSSIBLE ENDS, as the rounds in the order l find them -/
def cst (T : Tb ν) (l : List ν) : Env ν B2 := iter (crnd T l) (2 * l.length + 1) C0
theorem cst_fix {l : List ν} (hl : ∀ f, f ∈ l ↔ f ∈ T.fs) (nd : l.Nodup) : ∀ f ∈ T.fs, cst T l f = cen (cst T l) (carms T (cst T l)) (T.bd f) := fun f hf => fix_of nd can_stands f ((hl f).mpr hf)

/-! ### where there is a least script there is an end -/
def hasE (F : E2) (n : Nat) (C : B2) : Prop := (∀ s, F.1 = some s → s.n ≤ n → C.1 = true) ∧ (∀ s, F.2 = some s → s.n ≤ n → C.2 = true)
theorem lend_has {F : Env ν E2} {A : Arm ν E2} {C : Env ν B2} {B : Arm ν B2} {n : Nat} : ∀ {b : Bd ν}, (∀ f ∈ b.calls, hasE (F f) n (C f)) → (∀ c ∈ b.pushes, (A c).1 = (B c).1 ∧ hasE (A c).2 (n + 1) (B c).2) → hasE (lend F A b) (n + 1) (cen C B b) := by
  intro b
  induction b with
  | leaf r =>
    intro _ _
    cases r
    · exact ⟨(fun _ _ _ => rfl), (fun s h _ => nomatch (show (none : OS) = some s from h))⟩
    · exact ⟨(fun s h _ => nomatch (show (none : OS) = some s from h)), (fun _ _ _ => rfl)⟩
  | call f =>
    intro h _
    have := h f (by simp [Bd.calls])
    refine ⟨fun s e l => ?_, fun s e l => ?_⟩
    · obtain ⟨x, e1, _, n1⟩ := one_bits e; exact this.1 x e1 (by omega)
    · obtain ⟨x, e1, _, n1⟩ := one_bits e; exact this.2 x e1 (by omega)
  | test y n' iy iN =>
    intro h g
    have a := iy (fun f q => h f (by simp [Bd.calls, q])) (fun c q => g c (by simp [Bd.pushes, q]))
    have b := iN (fun f q => h f (by simp [Bd.calls, q])) (fun c q => g c (by simp [Bd.pushes, q]))
    refine ⟨fun s e l => ?_, fun s e l => ?_⟩
    · simp only [cen, Bool.or_eq_true]
      rcases mn_some e with e | e
      · obtain ⟨x, e1, _, n1⟩ := bit_bits e; exact .inl (a.1 x e1 (by omega))
      · obtain ⟨x, e1, _, n1⟩ := bit_bits e; exact .inr (b.1 x e1 (by omega))
    · simp only [cen, Bool.or_eq_true]
      rcases mn_some e with e | e
      · obtain ⟨x, e1, _, n1⟩ := bit_bits e; exact .inl (a.2 x e1 (by omega))
      · obtain ⟨x, e1, _, n1⟩ := bit_bits e; exact .inr (b.2 x e1 (by omega))
  | push c b ib =>
    intro h g
    have a := ib (fun f q => h f (by simpa [Bd.calls] using q)) (fun d q => g d (by simp [Bd.pushes, q]))
    obtain ⟨k1, k2⟩ := g c (by simp [Bd.pushes])
    simp only [lend, cen]
    rw [← k1]
    cases (A c).1 with
    | true =>
      refine ⟨fun s e l => ?_, fun s e l => ?_⟩
      · obtain ⟨x, y, e1, e2, _, n1⟩ := enter_bits e
        simp only [if_true, Bool.and_eq_true]
        exact ⟨a.1 x e1 (by omega), k2.1 y e2 (by omega)⟩
      · simp only [if_true, Bool.and_eq_true, Bool.or_eq_true]
        rcases mn_some e with e | e
        · obtain ⟨x, e1, _, n1⟩ := one_bits e; exact .inl (a.2 x e1 (by omega))
        · obtain ⟨x, y, e1, e2, _, n1⟩ := enter_bits e
          exact .inr ⟨a.1 x e1 (by omega), k2.2 y e2 (by omega)⟩
    | false =>
      refine ⟨fun s e l => ?_, fun s e l => ?_⟩
      · simp only [Bool.false_eq_true, if_false, Bool.and_eq_true, Bool.or_eq_true]
        rcases mn_some e with e | e
        · obtain ⟨x, e1, _, n1⟩ := one_bits e; exact .inl (a.1 x e1 (by omega))
        · obtain ⟨x, y, e1, e2, _, n1⟩ := enter_bits e
          exact .inr ⟨a.2 x e1 (by omega), k2.1 y e2 (by omega)⟩
      · obtain ⟨x, y, e1, e2, _, n1⟩ := enter_bits e
        simp only [Bool.false_eq_true, if_false, Bool.and_eq_true]
        exact ⟨a.2 x e1 (by omega), k2.2 y e2 (by omega)⟩
theorem larms_has (o : T.Ok) {F : Env ν E2} {C : Env ν B2} {n : Nat} (h : ∀ f ∈ T.fs, hasE (F f) n (C f)) : ∀ c ∈ T.cs, (larms T F c).1 = (carms T C c).1 ∧ hasE (larms T F c).2 (n + 1) (carms T C c).2 := by
  have key : ∀ l : List ν, Ord T.am l → (∀ c ∈ l, c ∈ T.cs) → ∀ c ∈ l, (larms T F c).1 = (carms T C c).1 ∧ hasE (larms T F c).2 (n + 1) (carms T C c).2 := by
    intro l
    induction l with
    | nil => intro _ _ c hc; cases hc
    | cons c0 l ih =>
      intro hO hs c hc
      have ih' := ih hO.2.2 (fun d q => hs d (List.mem_cons_of_mem _ q))
      rcases List.mem_cons.mp hc with rfl | q
      · refine ⟨by rw [armsC_kd, armsC_kd], ?_⟩
        have hc' := hs c List.mem_cons_self
        rw [show larms T F c = _ from armsC_ok lend_cg o F c hc', show carms T C c = _ from armsC_ok cen_cg o C c hc']
        exact lend_has (fun f q => h f (o.ac c hc' f q)) (fun d q => ih' d (hO.1 d q))
      · exact ih' c q
  exact key T.cs o.ord fun _ q => q
/-- the least scripts and the possible ends -/
theorem has_all (o : T.Ok) {F : Env ν E2} (fx : LFix T F) {C : Env ν B2} (fc : ∀ f ∈ T.fs, C f = cen C (carms T C) (T.bd f)) : ∀ n, ∀ f ∈ T.fs, hasE (F f) n (C f) := by
  intro n
  induction n with
  | zero =>
    intro f hf
    refine ⟨fun s e l => ?_, fun s e l => ?_⟩
    · have := (fx.big f hf).1 s e; omega
    · have := (fx.big f hf).2 s e; omega
  | succ n ih =>
    intro f hf
    rw [fx.fix f hf, fc f hf]
    exact lend_has (fun g q => ih g (o.bc f hf g q)) (fun c q => larms_has o ih c (o.bp f hf c q))
end

/-! ### what is visited -/
/-- ent: whether a push of c over b is entered -/
inductive Vis (T : Tb ν) (ent : ν → Bd ν → Bool) (b0 : Bd ν) : Bd ν → Prop where
  | here : Vis T ent b0 b0
  | ty {y n : Bd ν} : Vis T ent b0 (.test y n) → Vis T ent b0 y
  | tn {y n : Bd ν} : Vis T ent b0 (.test y n) → Vis T ent b0 n
  | pb {c : ν} {b : Bd ν} : Vis T ent b0 (.push c b) → Vis T ent b0 b
  | pa {c : ν} {b : Bd ν} : Vis T ent b0 (.push c b) → ent c b = true → Vis T ent b0 (T.am c)
/-- .. through calls too -/
inductive VisC (T : Tb ν) (ent : ν → Bd ν → Bool) (b0 : Bd ν) : Bd ν → Prop where
  | here : VisC T ent b0 b0
  | ty {y n : Bd ν} : VisC T ent b0 (.test y n) → VisC T ent b0 y
  | tn {y n : Bd ν} : VisC T ent b0 (.test y n) → VisC T ent b0 n
  | pb {c : ν} {b : Bd ν} : VisC T ent b0 (.push c b) → VisC T ent b0 b
  | pa {c : ν} {b : Bd ν} : VisC T ent b0 (.push c b) → ent c b = true → VisC T ent b0 (T.am c)
  | cl {f : ν} : VisC T ent b0 (.call f) → VisC T ent b0 (T.bd f)
section
variable {T : Tb ν} {ent : ν → Bd ν → Bool} {b0 b1 b2 : Bd ν}
theorem Vis.trans (h : Vis T ent b0 b1) (g : Vis T ent b1 b2) : Vis T ent b0 b2 := by
  induction g with
  | here => exact h
  | ty _ ih => exact .ty ih
  | tn _ ih => exact .tn ih
  | pb _ ih => exact .pb ih
  | pa _ e ih => exact .pa ih e
theorem VisC.trans (h : VisC T ent b0 b1) (g : VisC T ent b1 b2) : VisC T ent b0 b2 := by
  induction g with
  | here => exact h
  | ty _ ih => exact .ty ih
  | tn _ ih => exact .tn ih
  | pb _ ih => exact .pb ih
  | pa _ e ih => exact .pa ih e
  | cl _ ih => exact .cl ih
theorem Vis.toC (h : Vis T ent b0 b1) : VisC T ent b0 b1 := by
  induction h with
  | here => exact .here
  | ty _ ih => exact .ty ih
  | tn _ ih => exact .tn ih
  | pb _ ih => exact .pb ih
  | pa _ e ih => exact .pa ih e
end
/-- the functions that a run of f calls, and f -/
def Rch (T : Tb ν) (ent : ν → Bd ν → Bool) (f t : ν) : Prop := VisC T ent (T.bd f) (.call t)
def InS (T : Tb ν) (ent : ν → Bd ν → Bool) (f t : ν) : Prop := t = f ∨ Rch T ent f t
theorem InS.sub {T : Tb ν} {ent : ν → Bd ν → Bool} {f g t : ν} (h : InS T ent f g) (k : InS T ent g t) : InS T ent f t := by
  rcases h with rfl | h
  · exact k
  · rcases k with rfl | k
    · exact .inr h
    · exact .inr (VisC.trans (.cl h) k)
theorem InS.step {T : Tb ν} {ent : ν → Bd ν → Bool} {f g t : ν} (h : InS T ent f g) (k : Vis T ent (T.bd g) (.call t)) : InS T ent f t := h.sub (.inr k.toC)
theorem vis_fs {T : Tb ν} (o : T.Ok) {ent : ν → Bd ν → Bool} {f : ν} (hf : f ∈ T.fs) : ∀ {b : Bd ν}, VisC T ent (T.bd f) b → (∀ g ∈ b.calls, g ∈ T.fs) ∧ (∀ c ∈ b.pushes, c ∈ T.cs) := by
  intro b h
  induction h with
  | here => exact ⟨o.bc f hf, o.bp f hf⟩
  | ty _ ih => exact ⟨fun g q => ih.1 g (by simp [Bd.calls, q]), fun c q => ih.2 c (by simp [Bd.pushes, q])⟩
  | tn _ ih => exact ⟨fun g q => ih.1 g (by simp [Bd.calls, q]), fun c q => ih.2 c (by simp [Bd.pushes, q])⟩
  | pb _ ih => exact ⟨fun g q => ih.1 g (by simpa [Bd.calls] using q), fun c q => ih.2 c (by simp [Bd.pushes, q])⟩
  | @pa c b _ e ih =>
    have hc := ih.2 c (by simp [Bd.pushes])
    exact ⟨o.ac c hc, o.ap c hc⟩
  | @cl g _ ih =>
    have hg := ih.1 g (by simp [Bd.calls])
    exact ⟨o.bc g hg, o.bp g hg⟩
theorem InS.fs {T : Tb ν} (o : T.Ok) {ent : ν → Bd ν → Bool} {f t : ν} (hf : f ∈ T.fs) (h : InS T ent f t) : t ∈ T.fs := by
  rcases h with rfl | h
  · exact hf
  · exact (vis_fs o hf h).1 t (by simp [Bd.calls])
end KM

namespace KM
variable {ν : Type} [DecidableEq ν]
/-! ### the walk over what is reached -/
def Bd.size : Bd ν → Nat
  | .leaf _ => 1
  | .call _ => 1
  | .test y n => y.size + n.size + 1
  | .push _ b => b.size + 1
theorem Bd.size_pos : ∀ b : Bd ν, 1 ≤ b.size
  | .leaf _ => Nat.le_refl 1
  | .call _ => Nat.le_refl 1
  | .test _ _ => Nat.le_add_left 1 _
  | .push _ _ => Nat.le_add_left 1 _
structure RS (ν : Type) where
  ca : List ν
  en : List ν
  st : List (Bd ν)
def sumS (l : List (Bd ν)) : Nat := (l.map Bd.size).sum
theorem sumS_app (l r : List (Bd ν)) : sumS (l ++ r) = sumS l + sumS r := by unfold sumS; rw [List.map_append, List.sum_append]
def pool (l seen : List ν) (g : ν → Bd ν) : Nat := ((l.filter fun x => decide (x ∉ seen)).map fun x => (g x).size).sum
theorem pool_add {seen : List ν} {g : ν → Bd ν} {t : ν} (ht : t ∉ seen) : ∀ {l : List ν}, l.Nodup → t ∈ l → pool l (seen ++ [t]) g + (g t).size = pool l seen g := by
  have same : ∀ l : List ν, t ∉ l → pool l (seen ++ [t]) g = pool l seen g := by
    intro l
    induction l with
    | nil => intro _; rfl
    | cons a l ih =>
      intro h
      have ha : t ≠ a := fun z => h (by rw [z]; exact List.mem_cons_self)
      have ih := ih fun z => h (List.mem_cons_of_mem _ z)
      unfold pool at ih ⊢
      by_cases q : a ∈ seen
      · rw [List.filter_cons_of_neg (by simp [q]), List.filter_cons_of_neg (by simp [q])]; exact ih
      · rw [List.filter_cons_of_pos (by simp [q, Ne.symm ha]), List.filter_cons_of_pos (by simp [q])]
        simp only [List.map_cons, List.sum_cons]; omega
  intro l
  induction l with
  | nil => intro _ h; cases h
  | cons a l ih =>
    intro nd h
    obtain ⟨na, nd⟩ := List.nodup_cons.mp nd
    rcases List.mem_cons.mp h with rfl | h
    · have e := same l na
      unfold pool at e ⊢
      rw [List.filter_cons_of_neg (by simp), List.filter_cons_of_pos (by simp [ht])]
      simp only [List.map_cons, List.sum_cons]; omega
    · have hne : a ≠ t := fun z => na (z ▸ h)
      have ih := ih nd h
      unfold pool at ih ⊢
      by_cases q : a ∈ seen
      · rw [List.filter_cons_of_neg (by simp [q]), List.filter_cons_of_neg (by simp [q])]; exact ih
      · rw [List.filter_cons_of_pos (by simp [q, hne]), List.filter_cons_of_pos (by simp [q])]
        simp only [List.map_cons, List.sum_cons]; omega
section
variable (T : Tb ν) (ent : ν → Bd ν → Bool)
def rstep (s : RS ν) (r : List (Bd ν)) : Bd ν → RS ν
  | .leaf _ => ⟨s.ca, s.en, r⟩
  | .call t => if t ∈ s.ca then ⟨s.ca, s.en, r⟩ else ⟨s.ca ++ [t], s.en, r ++ [T.bd t]⟩
  | .test y n => ⟨s.ca, s.en, r ++ [y, n]⟩
  | .push c b => if c ∈ s.en ∨ ent c b = false then ⟨s.ca, s.en, r ++ [b]⟩ else ⟨s.ca, s.en ++ [c], r ++ [T.am c] ++ [b]⟩
def rmeas (s : RS ν) : Nat := sumS s.st + pool T.fs s.ca T.bd + pool T.cs s.en T.am
structure RInv (b0 : Bd ν) (s : RS ν) : Prop where
  st : ∀ b ∈ s.st, VisC T ent b0 b
  ca : ∀ t ∈ s.ca, VisC T ent b0 (.call t)
  nd : s.ca.Nodup
  cl : ∃ P : Bd ν → Prop, (P b0 ∨ b0 ∈ s.st) ∧ (∀ y n, P (.test y n) → (P y ∨ y ∈ s.st) ∧ (P n ∨ n ∈ s.st)) ∧ (∀ c b, P (.push c b) → (P b ∨ b ∈ s.st) ∧ (ent c b = true → c ∈ s.en)) ∧ (∀ t, P (.call t) → t ∈ s.ca) ∧
    (∀ t ∈ s.ca, P (T.bd t) ∨ T.bd t ∈ s.st) ∧ (∀ c ∈ s.en, P (T.am c) ∨ T.am c ∈ s.st)
variable {T ent}
theorem RInv.start (b0 : Bd ν) : RInv T ent b0 ⟨[], [], [b0]⟩ :=
  ⟨fun b h => by rw [List.mem_singleton.mp h]; exact .here, (fun _ h => nomatch h), List.nodup_nil, fun _ => False, .inr (by simp), fun _ _ h => h.elim, fun _ _ h => h.elim, fun _ h => h.elim, (fun _ h => nomatch h), (fun _ h => nomatch h)⟩
theorem RInv.step {b0 b : Bd ν} {s : RS ν} {r : List (Bd ν)} (h : RInv T ent b0 s) (e : s.st = r ++ [b]) : RInv T ent b0 (rstep T ent s r b) := by
  obtain ⟨hs, hc, hn, P, p0, p1, p2, p3, p4, p5⟩ := h
  rw [e] at hs p0 p1 p2 p4 p5
  have hb : VisC T ent b0 b := hs b (by simp)
  have hr : ∀ x ∈ r, VisC T ent b0 x := fun x q => hs x (by simp [q])
  -- what stood on the pile: done now (b), or still there
  have mv : ∀ {st' : List (Bd ν)} (x : Bd ν), (∀ z ∈ r, z ∈ st') → (P x ∨ x ∈ r ++ [b]) → ((P x ∨ x = b) ∨ x ∈ st') := fun {st'} x sub q => by
    rcases q with q | q
    · exact .inl (.inl q)
    · rcases List.mem_append.mp q with q | q
      · exact .inr (sub x q)
      · exact .inl (.inr (List.mem_singleton.mp q))
  cases b with
  | leaf k =>
    refine ⟨hr, hc, hn, fun x => P x ∨ x = .leaf k, mv _ (fun _ z => z) p0, fun y n q => ?_, fun c b q => ?_, fun t q => ?_, fun t q => mv _ (fun _ z => z) (p4 t q), fun c q => mv _ (fun _ z => z) (p5 c q)⟩
    · rcases q with q | q
      · exact ⟨mv _ (fun _ z => z) (p1 y n q).1, mv _ (fun _ z => z) (p1 y n q).2⟩
      · cases q
    · rcases q with q | q
      · exact ⟨mv _ (fun _ z => z) (p2 c b q).1, (p2 c b q).2⟩
      · cases q
    · rcases q with q | q
      · exact p3 t q
      · cases q
  | call t0 =>
    simp only [rstep]
    by_cases m : t0 ∈ s.ca
    · rw [if_pos m]
      refine ⟨hr, hc, hn, fun x => P x ∨ x = .call t0, mv _ (fun _ z => z) p0, fun y n q => ?_, fun c b q => ?_, fun t q => ?_, fun t q => mv _ (fun _ z => z) (p4 t q), fun c q => mv _ (fun _ z => z) (p5 c q)⟩
      · rcases q with q | q
        · exact ⟨mv _ (fun _ z => z) (p1 y n q).1, mv _ (fun _ z => z) (p1 y n q).2⟩
        · cases q
      · rcases q with q | q
        · exact ⟨mv _ (fun _ z => z) (p2 c b q).1, (p2 c b q).2⟩
        · cases q
      · rcases q with q | q
        · exact p3 t q
        · cases q; exact m
    · rw [if_neg m]
      have sub : ∀ z ∈ r, z ∈ r ++ [T.bd t0] := fun z q => by simp [q]
      refine ⟨fun x q => ?_, fun t q => ?_, ?_, fun x => P x ∨ x = .call t0, mv _ sub p0, fun y n q => ?_, fun c b q => ?_, fun t q => ?_, fun t q => ?_, fun c q => mv _ sub (p5 c q)⟩
      · rcases List.mem_append.mp q with q | q
        · exact hr x q
        · rw [List.mem_singleton.mp q]; exact .cl hb
      · rcases List.mem_append.mp q with q | q
        · exact hc t q
        · rw [List.mem_singleton.mp q]; exact hb
      · exact List.nodup_append.mpr ⟨hn, by simp, fun a ha b hb' z => by rw [List.mem_singleton.mp hb'] at z; exact m (z ▸ ha)⟩
      · rcases q with q | q
        · exact ⟨mv _ sub (p1 y n q).1, mv _ sub (p1 y n q).2⟩
        · cases q
      · rcases q with q | q
        · exact ⟨mv _ sub (p2 c b q).1, (p2 c b q).2⟩
        · cases q
      · rcases q with q | q
        · exact List.mem_append_left _ (p3 t q)
        · cases q; simp
      · rcases List.mem_append.mp q with q | q
        · exact mv _ sub (p4 t q)
        · rw [List.mem_singleton.mp q]; exact .inr (by simp)
  | test y0 n0 =>
    have sub : ∀ z ∈ r, z ∈ r ++ [y0, n0] := fun z q => by simp [q]
    refine ⟨fun x q => ?_, hc, hn, fun x => P x ∨ x = .test y0 n0, mv _ sub p0, fun y n q => ?_, fun c b q => ?_, fun t q => ?_, fun t q => mv _ sub (p4 t q), fun c q => mv _ sub (p5 c q)⟩
    · rcases List.mem_append.mp q with q | q
      · exact hr x q
      · rcases List.mem_cons.mp q with rfl | q
        · exact .ty hb
        · rw [List.mem_singleton.mp q]; exact .tn hb
    · rcases q with q | q
      · exact ⟨mv _ sub (p1 y n q).1, mv _ sub (p1 y n q).2⟩
      · cases q
        exact ⟨.inr (by simp [rstep]), .inr (by simp [rstep])⟩
    · rcases q with q | q
      · exact ⟨mv _ sub (p2 c b q).1, (p2 c b q).2⟩
      · cases q
    · rcases q with q | q
      · exact p3 t q
      · cases q
  | push c0 bb =>
    simp only [rstep]
    by_cases m : c0 ∈ s.en ∨ ent c0 bb = false
    · rw [if_pos m]
      have sub : ∀ z ∈ r, z ∈ r ++ [bb] := fun z q => by simp [q]
      refine ⟨fun x q => ?_, hc, hn, fun x => P x ∨ x = .push c0 bb, mv _ sub p0, fun y n q => ?_, fun c b q => ?_, fun t q => ?_, fun t q => mv _ sub (p4 t q), fun c q => mv _ sub (p5 c q)⟩
      · rcases List.mem_append.mp q with q | q
        · exact hr x q
        · rw [List.mem_singleton.mp q]; exact .pb hb
      · rcases q with q | q
        · exact ⟨mv _ sub (p1 y n q).1, mv _ sub (p1 y n q).2⟩
        · cases q
      · rcases q with q | q
        · exact ⟨mv _ sub (p2 c b q).1, (p2 c b q).2⟩
        · cases q
          refine ⟨.inr (by simp), fun z => ?_⟩
          rcases m with m | m
          · exact m
          · rw [m] at z; cases z
      · rcases q with q | q
        · exact p3 t q
        · cases q
    · rw [if_neg m]
      have he : ent c0 bb = true := by
        cases q : ent c0 bb with
        | true => rfl
        | false => exact absurd (.inr q) m
      have sub : ∀ z ∈ r, z ∈ r ++ [T.am c0] ++ [bb] := fun z q => by simp [q]
      refine ⟨fun x q => ?_, hc, hn, fun x => P x ∨ x = .push c0 bb, mv _ sub p0, fun y n q => ?_, fun c b q => ?_, fun t q => ?_, fun t q => mv _ sub (p4 t q), fun c q => ?_⟩
      · rcases List.mem_append.mp q with q | q
        · rcases List.mem_append.mp q with q | q
          · exact hr x q
          · rw [List.mem_singleton.mp q]; exact .pa hb he
        · rw [List.mem_singleton.mp q]; exact .pb hb
      · rcases q with q | q
        · exact ⟨mv _ sub (p1 y n q).1, mv _ sub (p1 y n q).2⟩
        · cases q
      · rcases q with q | q
        · exact ⟨mv _ sub (p2 c b q).1, fun z => List.mem_append_left _ ((p2 c b q).2 z)⟩
        · cases q
          exact ⟨.inr (by simp), fun _ => by simp⟩
      · rcases q with q | q
        · exact p3 t q
        · cases q
      · rcases List.mem_append.mp q with q | q
        · exact mv _ sub (p5 c q)
        · rw [List.mem_singleton.mp q]; exact .inr (by simp)
theorem RInv.less (o : T.Ok) {f : ν} (hf : f ∈ T.fs) {b : Bd ν} {s : RS ν} {r : List (Bd ν)} (h : RInv T ent (T.bd f) s) (e : s.st = r ++ [b]) (ncs : T.cs.Nodup) : rmeas T (rstep T ent s r b) + 1 = rmeas T s := by
  have hb := vis_fs o hf (h.st b (by rw [e]; simp))
  have es : sumS s.st = sumS r + b.size := by rw [e, sumS_app]; simp [sumS]
  unfold rmeas
  rw [es]
  cases b with
  | leaf k => simp only [rstep, Bd.size]; omega
  | call t =>
    simp only [rstep]
    by_cases m : t ∈ s.ca
    · rw [if_pos m]; simp only [Bd.size]; omega
    · rw [if_neg m]
      have := pool_add (g := T.bd) m o.nd (hb.1 t (by simp [Bd.calls]))
      simp only [Bd.size]
      rw [sumS_app]
      have e2 : sumS [T.bd t] = (T.bd t).size := by simp [sumS]
      omega
  | test y n =>
    simp only [rstep, Bd.size]
    rw [sumS_app]
    have e2 : sumS [y, n] = y.size + n.size := by simp [sumS]
    omega
  | push c bb =>
    simp only [rstep]
    by_cases m : c ∈ s.en ∨ ent c bb = false
    · rw [if_pos m]
      simp only [Bd.size]
      rw [sumS_app]
      have e2 : sumS [bb] = bb.size := by simp [sumS]
      omega
    · rw [if_neg m]
      have := pool_add (g := T.am) (fun z => m (.inl z)) ncs (hb.2 c (by simp [Bd.pushes]))
      simp only [Bd.size]
      rw [sumS_app, sumS_app]
      have e2 : sumS [bb] = bb.size := by simp [sumS]
      have e3 : sumS [T.am c] = (T.am c).size := by simp [sumS]
      omega
theorem RInv.done {b0 : Bd ν} {s : RS ν} (h : RInv T ent b0 s) (e : s.st = []) : ∀ t, t ∈ s.ca ↔ VisC T ent b0 (.call t) := by
  intro t
  refine ⟨h.ca t, fun v => ?_⟩
  obtain ⟨P, p0, p1, p2, p3, p4, p5⟩ := h.cl
  have no : ∀ x : Bd ν, ¬ x ∈ s.st := fun x q => by rw [e] at q; cases q
  have all : ∀ b, VisC T ent b0 b → P b := by
    intro b v
    induction v with
    | here => exact p0.resolve_right (no _)
    | ty _ ih => exact (p1 _ _ ih).1.resolve_right (no _)
    | tn _ ih => exact (p1 _ _ ih).2.resolve_right (no _)
    | pb _ ih => exact (p2 _ _ ih).1.resolve_right (no _)
    | pa _ q ih => exact (p5 _ ((p2 _ _ ih).2 q)).resolve_right (no _)
    | cl _ ih => exact (p4 _ (p3 _ ih)).resolve_right (no _)
  exact p3 t (all _ v)
end
theorem Ord.nodup {am : ν → Bd ν} : ∀ {l : List ν}, Ord am l → l.Nodup
  | [], _ => List.nodup_nil
  | _ :: _, h => List.nodup_cons.mpr ⟨h.2.1, Ord.nodup h.2.2⟩

/-! ### heights -/
abbrev TL (ν : Type) := List (ν × Nat)
/-- each entry has one as great -/
def dom (d L : TL ν) : Prop := ∀ p ∈ d, ∃ q ∈ L, q.1 = p.1 ∧ p.2 ≤ q.2
def eqT (d L : TL ν) : Prop := dom d L ∧ dom L d
def shiftT (g : Nat) (L : TL ν) : TL ν := L.map fun p => (p.1, p.2 + g)
theorem dom_refl (d : TL ν) : dom d d := fun p h => ⟨p, h, rfl, Nat.le_refl _⟩
theorem dom_trans {a b c : TL ν} (h : dom a b) (g : dom b c) : dom a c := fun p q => by
  obtain ⟨r, h1, h2, h3⟩ := h p q
  obtain ⟨t, g1, g2, g3⟩ := g r h1
  exact ⟨t, g1, g2.trans h2, Nat.le_trans h3 g3⟩
theorem dom_app {a b c d : TL ν} (h : dom a c) (g : dom b d) : dom (a ++ b) (c ++ d) := fun p q => by
  rcases List.mem_append.mp q with q | q
  · obtain ⟨r, h1, h2⟩ := h p q; exact ⟨r, List.mem_append_left _ h1, h2⟩
  · obtain ⟨r, h1, h2⟩ := g p q; exact ⟨r, List.mem_append_right _ h1, h2⟩
theorem dom_shift {a b : TL ν} (g : Nat) (h : dom a b) : dom (shiftT g a) (shiftT g b) := fun p q => by
  obtain ⟨r, hr, rfl⟩ := List.mem_map.mp q
  obtain ⟨t, h1, h2, h3⟩ := h r hr
  exact ⟨(t.1, t.2 + g), List.mem_map.mpr ⟨t, h1, rfl⟩, h2, Nat.add_le_add_right h3 g⟩
theorem eqT_refl (d : TL ν) : eqT d d := ⟨dom_refl d, dom_refl d⟩
theorem eqT_trans {a b c : TL ν} (h : eqT a b) (g : eqT b c) : eqT a c := ⟨dom_trans h.1 g.1, dom_trans g.2 h.2⟩
theorem eqT_app {a b c d : TL ν} (h : eqT a c) (g : eqT b d) : eqT (a ++ b) (c ++ d) := ⟨dom_app h.1 g.1, dom_app h.2 g.2⟩
theorem eqT_shift {a b : TL ν} (g : Nat) (h : eqT a b) : eqT (shiftT g a) (shiftT g b) := ⟨dom_shift g h.1, dom_shift g h.2⟩
def hvL (l : TL ν) (x : ν → Nat) : Nat := l.foldr (fun p m => max (p.2 + x p.1) m) 0
theorem hvL_ge {l : TL ν} {x : ν → Nat} {p : ν × Nat} (h : p ∈ l) : p.2 + x p.1 ≤ hvL l x := by
  induction l with
  | nil => cases h
  | cons a l ih =>
    show _ ≤ max (a.2 + x a.1) (hvL l x)
    rcases List.mem_cons.mp h with rfl | h
    · omega
    · have := ih h; omega
theorem hvL_le {l : TL ν} {x : ν → Nat} {m : Nat} (h : ∀ p ∈ l, p.2 + x p.1 ≤ m) : hvL l x ≤ m := by
  induction l with
  | nil => exact Nat.zero_le _
  | cons a l ih =>
    show max (a.2 + x a.1) (hvL l x) ≤ m
    have := ih fun p q => h p (List.mem_cons_of_mem _ q)
    have := h a List.mem_cons_self
    omega
theorem hvL_dom {a b : TL ν} {x : ν → Nat} (h : dom a b) : hvL a x ≤ hvL b x := hvL_le fun p q => by
  obtain ⟨r, h1, h2, h3⟩ := h p q
  have := hvL_ge (x := x) h1
  rw [h2] at this; omega
theorem hvL_eqT {a b : TL ν} {x : ν → Nat} (h : eqT a b) : hvL a x = hvL b x := Nat.le_antisymm (hvL_dom h.1) (hvL_dom h.2)
theorem hvL_mono {l : TL ν} {x y : ν → Nat} (h : ∀ p ∈ l, x p.1 ≤ y p.1) : hvL l x ≤ hvL l y := hvL_le fun p q => by
  have := hvL_ge (x := y) q
  have := h p q
  omega
def dec1 (x y : ν → Nat) : ν → Nat := fun i => if x i = y i then y i else y i - 1
theorem dec1_le (x y : ν → Nat) (i : ν) : dec1 x y i ≤ y i := by
  unfold dec1; split <;> omega
theorem dec1_eq {x y : ν → Nat} {i : ν} (h : x i = y i) : dec1 x y i = y i := if_pos h
theorem dec1_ne {x y : ν → Nat} {i : ν} (h : x i ≠ y i) : dec1 x y i = y i - 1 := if_neg h
section
variable (tp : ν → TL ν)
def turnF (S : List ν) (x : ν → Nat) : ν → Nat := S.foldl (fun x i => up x i (max (x i) (hvL (tp i) x))) x
abbrev hI (S : List ν) (k : Nat) : ν → Nat := iter (turnF tp S) k fun _ => 0
/-- S and what it leans on; z is no function -/
def Cl (z : ν) (S : List ν) : Prop := ∀ i ∈ S, ∀ p ∈ tp i, p.1 = z ∨ p.1 ∈ S
def Post (C : List ν) (y : ν → Nat) : Prop := ∀ i ∈ C, hvL (tp i) y ≤ y i
variable {tp}
theorem turn_ge {S : List ν} {x : ν → Nat} (i : ν) : x i ≤ turnF tp S x i := by
  unfold turnF
  induction S generalizing x with
  | nil => exact Nat.le_refl _
  | cons a S ih =>
    rw [List.foldl_cons]
    refine Nat.le_trans ?_ ih
    by_cases e : i = a
    · subst e; rw [up_same]; omega
    · rw [up_ne e]; exact Nat.le_refl _
theorem turn_mono {S : List ν} {x y : ν → Nat} (h : ∀ i, x i ≤ y i) (i : ν) : turnF tp S x i ≤ turnF tp S y i := by
  unfold turnF
  induction S generalizing x y with
  | nil => exact h i
  | cons a S ih =>
    rw [List.foldl_cons, List.foldl_cons]
    refine ih fun j => ?_
    by_cases e : j = a
    · subst e; rw [up_same, up_same]
      have := h j
      have := hvL_mono (l := tp j) fun p _ => h p.1
      omega
    · rw [up_ne e, up_ne e]; exact h j
theorem turn_off {S : List ν} {x : ν → Nat} {i : ν} (h : i ∉ S) : turnF tp S x i = x i := by
  unfold turnF
  induction S generalizing x with
  | nil => rfl
  | cons a S ih =>
    rw [List.foldl_cons, ih fun z => h (List.mem_cons_of_mem _ z)]
    exact up_ne fun z => h (by rw [z]; exact List.mem_cons_self)
/-- each turn takes in what stood ahead of it -/
theorem turn_hv {S : List ν} {x : ν → Nat} {i : ν} (h : i ∈ S) : hvL (tp i) x ≤ turnF tp S x i := by
  have key : ∀ (S : List ν) (x w : ν → Nat), (∀ j, x j ≤ w j) → i ∈ S → hvL (tp i) x ≤ S.foldl (fun x i => up x i (max (x i) (hvL (tp i) x))) w i := by
    intro S
    induction S with
    | nil => intro _ _ _ h; cases h
    | cons a S ih =>
      intro x w hw h
      rw [List.foldl_cons]
      have hw' : ∀ j, x j ≤ up w a (max (w a) (hvL (tp a) w)) j := fun j => by
        by_cases e : j = a
        · subst e; rw [up_same]; have := hw j; omega
        · rw [up_ne e]; exact hw j
      rcases List.mem_cons.mp h with rfl | h
      · have g := turn_ge (tp := tp) (S := S) (x := up w i (max (w i) (hvL (tp i) w))) i
        rw [up_same] at g
        have := hvL_mono (l := tp i) fun p _ => hw p.1
        exact Nat.le_trans (by omega) g
      · exact ih x _ hw' h
  exact key S x x (fun _ => Nat.le_refl _) h
/-- below every solution over a closed part -/
theorem turn_below {z : ν} {S C : List ν} {x y : ν → Nat} (cl : Cl tp z C) (hp : Post tp C y) (hz : x z = 0) (nz : z ∉ S) (h : ∀ i ∈ C, x i ≤ y i) : ∀ i ∈ C, turnF tp S x i ≤ y i := by
  have key : ∀ (S : List ν) (x : ν → Nat), z ∉ S → x z = 0 → (∀ i ∈ C, x i ≤ y i) → ∀ i ∈ C, S.foldl (fun x i => up x i (max (x i) (hvL (tp i) x))) x i ≤ y i := by
    intro S
    induction S with
    | nil => intro x _ _ h; exact h
    | cons a S ih =>
      intro x nz hz h
      rw [List.foldl_cons]
      have na : z ≠ a := fun e => nz (by rw [e]; exact List.mem_cons_self)
      refine ih _ (fun q => nz (List.mem_cons_of_mem _ q)) (by rw [up_ne na]; exact hz) fun i hi => ?_
      by_cases e : i = a
      · subst e
        rw [up_same]
        have h1 := h i hi
        have h2 : hvL (tp i) x ≤ hvL (tp i) y := hvL_mono fun p hp' => by
          rcases cl i hi p hp' with q | q
          · rw [q, hz]; exact Nat.zero_le _
          · exact h _ q
        have h3 := hp i hi
        omega
      · rw [up_ne e]; exact h i hi
  exact key S x nz hz h
theorem hI_z {z : ν} {S : List ν} (nz : z ∉ S) : ∀ k, hI tp S k z = 0
  | 0 => rfl
  | k + 1 => by
    show turnF tp S (hI tp S k) z = 0
    rw [turn_off nz]; exact hI_z nz k
theorem hI_below {z : ν} {S C : List ν} {y : ν → Nat} (cl : Cl tp z C) (hp : Post tp C y) (nz : z ∉ S) : ∀ k, ∀ i ∈ C, hI tp S k i ≤ y i
  | 0, i, _ => Nat.zero_le _
  | k + 1, i, hi => turn_below cl hp (hI_z nz k) nz (hI_below cl hp nz k) i hi
theorem stand_post {S : List ν} {x : ν → Nat} (h : turnF tp S x = x) : Post tp S x := fun i hi => by
  have := turn_hv (tp := tp) (x := x) hi
  rw [h] at this; exact this
/-- where there is a solution, as many turns as functions are enough -/
theorem hI_stands {z : ν} {S : List ν} (nd : S.Nodup) (cl : Cl tp z S) (nz : z ∉ S) (h : ∃ y, Post tp S y) : turnF tp S (hI tp S S.length) = hI tp S S.length := by
  -- a solution of least sum
  have mini : ∃ y, Post tp S y ∧ ∀ y', Post tp S y' → (S.map y).sum ≤ (S.map y').sum := by
    obtain ⟨y, hy⟩ := h
    have key : ∀ n y, Post tp S y → (S.map y).sum = n → ∃ y, Post tp S y ∧ ∀ y', Post tp S y' → (S.map y).sum ≤ (S.map y').sum := by
      intro n
      induction n using Nat.strongRecOn with
      | ind n ih =>
        intro y hy e
        by_cases q : ∃ y', Post tp S y' ∧ (S.map y').sum < n
        · obtain ⟨y', h1, h2⟩ := q
          exact ih _ h2 y' h1 rfl
        · refine ⟨y, hy, fun y' h1 => ?_⟩
          by_cases w : (S.map y').sum < n
          · exact absurd ⟨y', h1, w⟩ q
          · omega
    exact key _ y hy rfl
  obtain ⟨y, hy, hmin⟩ := mini
  have below := hI_below cl hy nz
  let D : Nat → List ν := fun k => S.filter fun i => decide (hI tp S k i = y i)
  have mono : ∀ k i, hI tp S k i ≤ hI tp S (k + 1) i := fun k i => turn_ge i
  have dsub : ∀ k i, i ∈ S → hI tp S k i = y i → hI tp S (k + 1) i = y i := fun k i hi e => by
    have := mono k i
    have := below (k + 1) i hi
    omega
  have grow : ∀ k, (∀ i ∈ S, hI tp S (k + 1) i = y i) ∨ ∃ i ∈ S, hI tp S k i ≠ y i ∧ hI tp S (k + 1) i = y i := by
    intro k
    by_cases q : ∃ i ∈ S, hI tp S k i ≠ y i ∧ hI tp S (k + 1) i = y i
    · exact .inr q
    · left
      by_cases w : ∃ i ∈ S, hI tp S (k + 1) i ≠ y i
      · exfalso
        obtain ⟨i0, h0, n0⟩ := w
        generalize hy' : dec1 (hI tp S (k + 1)) y = y'
        have dl : ∀ i, y' i ≤ y i := fun i => by rw [← hy']; exact dec1_le _ _ i
        have de : ∀ {i}, hI tp S (k + 1) i = y i → y' i = y i := fun {i} h => by rw [← hy']; exact dec1_eq h
        have dn : ∀ {i}, hI tp S (k + 1) i ≠ y i → y' i = y i - 1 := fun {i} h => by rw [← hy']; exact dec1_ne h
        have post : Post tp S y' := fun i hi => by
          by_cases e : hI tp S (k + 1) i = y i
          · have e1 : y' i = y i := de e
            rw [e1]
            exact Nat.le_trans (hvL_mono fun p _ => dl _) (hy i hi)
          · have e1 : y' i = y i - 1 := dn e
            rw [e1]
            have lt : hI tp S (k + 1) i < y i := by have := below (k + 1) i hi; omega
            have hv := turn_hv (tp := tp) (x := hI tp S k) hi
            have hv' : hvL (tp i) (hI tp S k) ≤ hI tp S (k + 1) i := hv
            refine hvL_le fun p hp => ?_
            have g1 := hvL_ge (x := hI tp S k) hp
            have g2 := hvL_ge (x := y) hp
            have g3 := hy i hi
            rcases cl i hi p hp with z1 | z1
            · have := dl p.1
              -- the name that is no function
              by_cases ez : y p.1 = 0
              · rw [z1, hI_z nz] at g1; omega
              · by_cases ee : hI tp S (k + 1) p.1 = y p.1
                · rw [z1, hI_z nz] at ee; rw [z1] at ez; omega
                · have := dn ee
                  omega
            · by_cases ep : hI tp S (k + 1) p.1 = y p.1
              · have e2 := de ep
                have e3 : hI tp S k p.1 = y p.1 := by
                  by_cases z2 : hI tp S k p.1 = y p.1
                  · exact z2
                  · exact absurd ⟨p.1, z1, z2, ep⟩ q
                omega
              · have e2 := dn ep
                have : hI tp S (k + 1) p.1 < y p.1 := by have := below (k + 1) p.1 z1; omega
                omega
        have hs := hmin y' post
        have less : ∀ l : List ν, (∀ i ∈ l, i ∈ S) → (l.map y').sum ≤ (l.map y).sum ∧ (i0 ∈ l → (l.map y').sum < (l.map y).sum) := by
          intro l
          induction l with
          | nil => intro _; exact ⟨Nat.le_refl _, fun z => nomatch z⟩
          | cons a l ih =>
            intro hl
            have ih := ih fun i q => hl i (List.mem_cons_of_mem _ q)
            have ha := dl a
            simp only [List.map_cons, List.sum_cons]
            refine ⟨by omega, fun z => ?_⟩
            rcases List.mem_cons.mp z with z | z
            · have := dn (i := a) (z ▸ n0)
              have := below (k + 1) a (hl a List.mem_cons_self)
              have : hI tp S (k + 1) a ≠ y a := z ▸ n0
              omega
            · have := ih.2 z; omega
        have := (less S fun _ q => q).2 h0
        omega
      · intro i hi
        by_cases e : hI tp S (k + 1) i = y i
        · exact e
        · exact absurd ⟨i, hi, e⟩ w
  have cnt : ∀ k, (∀ i ∈ S, hI tp S k i = y i) ∨ k ≤ (D k).length := by
    intro k
    induction k with
    | zero => exact .inr (Nat.zero_le _)
    | succ k ih =>
      rcases ih with e | hk
      · exact .inl fun i hi => dsub k i hi (e i hi)
      · rcases grow k with e | ⟨i, hi, n1, e1⟩
        · exact .inl e
        · right
          have m : ∀ l : List ν, (∀ j ∈ l, j ∈ S) → (l.filter fun j => decide (hI tp S k j = y j)).length ≤ (l.filter fun j => decide (hI tp S (k + 1) j = y j)).length ∧ (i ∈ l → (l.filter fun j => decide (hI tp S k j = y j)).length + 1 ≤ (l.filter fun j => decide (hI tp S (k + 1) j = y j)).length) := by
            intro l
            induction l with
            | nil => intro _; exact ⟨Nat.le_refl _, fun z => nomatch z⟩
            | cons a l ih =>
              intro hl
              have ih := ih fun j q => hl j (List.mem_cons_of_mem _ q)
              by_cases p1 : hI tp S k a = y a
              · have p2 := dsub k a (hl a List.mem_cons_self) p1
                rw [List.filter_cons_of_pos (by simp [p1]), List.filter_cons_of_pos (by simp [p2])]
                simp only [List.length_cons]
                refine ⟨by omega, fun z => ?_⟩
                rcases List.mem_cons.mp z with z | z
                · exact absurd (z ▸ p1) n1
                · have := ih.2 z; omega
              · rw [List.filter_cons_of_neg (by simp [p1])]
                by_cases p2 : hI tp S (k + 1) a = y a
                · rw [List.filter_cons_of_pos (by simp [p2])]
                  simp only [List.length_cons]
                  exact ⟨by omega, fun _ => by omega⟩
                · rw [List.filter_cons_of_neg (by simp [p2])]
                  refine ⟨ih.1, fun z => ?_⟩
                  rcases List.mem_cons.mp z with z | z
                  · exact absurd (z ▸ e1) p2
                  · exact ih.2 z
          have := (m S fun _ q => q).2 hi
          have hk' : k ≤ (S.filter fun j => decide (hI tp S k j = y j)).length := hk
          show k + 1 ≤ (S.filter fun j => decide (hI tp S (k + 1) j = y j)).length
          omega
  have full : ∀ i ∈ S, hI tp S S.length i = y i := by
    rcases cnt S.length with e | h
    · exact e
    · intro i hi
      have hl : (S.filter fun j => decide (hI tp S S.length j = y j)).length = S.length := Nat.le_antisymm (List.length_filter_le _ _) h
      have := List.length_filter_eq_length_iff.mp hl i hi
      exact of_decide_eq_true this
  funext i
  by_cases hi : i ∈ S
  · have a := below (S.length + 1) i hi
    have b := mono S.length i
    have c := full i hi
    have d : turnF tp S (hI tp S S.length) i = hI tp S (S.length + 1) i := rfl
    rw [d]; omega
  · exact turn_off hi
end
end KM

namespace KM
variable {ν : Type} [DecidableEq ν]
/-! ### routes -/
inductive RW where
  | call | enter | push
deriving DecidableEq
structure RK (ν : Type) where
  w : RW
  n : ν
  g : Nat
deriving DecidableEq
abbrev RL (ν : Type) := List (RK ν × Sc)
def shiftR (pre : OS) (g : Nat) (L : RL ν) : RL ν := L.filterMap fun e => (pl pre (some e.2)).map fun s => (⟨e.1.w, e.1.n, e.1.g + g⟩, s)
theorem mem_shiftR {pre : OS} {g : Nat} {L : RL ν} {x : RK ν × Sc} : x ∈ shiftR pre g L ↔ ∃ e ∈ L, ∃ s, pl pre (some e.2) = some s ∧ x = (⟨e.1.w, e.1.n, e.1.g + g⟩, s) := by
  unfold shiftR
  rw [List.mem_filterMap]
  constructor
  · rintro ⟨e, he, h⟩
    obtain ⟨s, h1, h2⟩ := Option.map_eq_some_iff.mp h
    exact ⟨e, he, s, h1, h2.symm⟩
  · rintro ⟨e, he, s, h1, rfl⟩
    exact ⟨e, he, Option.map_eq_some_iff.mpr ⟨s, h1, rfl⟩⟩
def entS (F : Env ν E2) (A : Arm ν E2) (c : ν) (b : Bd ν) : OS := if (A c).1 then (lend F A b).1 else (lend F A b).2
def befS (F : Env ν E2) (A : Arm ν E2) (c : ν) (b : Bd ν) : OS := pl (pl one (entS F A c b)) one
section
variable (z : ν) (wt : ν → Nat) (F : Env ν E2) (A : Arm ν E2)
def rtl (R : ν → RL ν) : Bd ν → RL ν
  | .leaf _ => []
  | .call f => [(⟨.call, f, 0⟩, ⟨1, []⟩)]
  | .test y n => shiftR (bitS true) 0 (rtl R y) ++ shiftR (bitS false) 0 (rtl R n)
  | .push c b => [(⟨.push, z, wt c⟩, ⟨1, []⟩)] ++ shiftR one (wt c) (rtl R b) ++ (shiftR (befS F A c b) 0 [(⟨.enter, c, 0⟩, ⟨0, []⟩)] ++ shiftR (befS F A c b) 0 (R c))
end
structure Good (L : RL ν) (e : E2) : Prop where
  pos : ∀ x ∈ L, 1 ≤ x.2.n
  small : ∀ x ∈ L, x.2.n ≤ 1000
  ok : ∀ x ∈ L, x.2.b.length ≤ x.2.n
  pre : ∀ x ∈ L, ∀ y ∈ L, x.2.n = y.2.n → x.2.b <+: y.2.b → x.2.b = y.2.b
  lo : ∀ x ∈ L, ∀ s, (e.1 = some s ∨ e.2 = some s) → cmp x.2.b s.b → x.2.n ≤ s.n
theorem pl_get {a : OS} {x s : Sc} (h : pl a (some x) = some s) : ∃ p, a = some p ∧ s.n = p.n + x.n ∧ s.b = p.b ++ x.b ∧ s.n ≤ 1000 := by
  obtain ⟨p, y, e1, e2, rfl, l⟩ := pl_eq_some h
  cases e2
  exact ⟨p, e1, rfl, rfl, l⟩
theorem bef_bits {F : Env ν E2} {A : Arm ν E2} {c : ν} {b : Bd ν} {p : Sc} (h : befS F A c b = some p) : ∃ e, entS F A c b = some e ∧ p.n = e.n + 2 ∧ p.b = e.b := by
  obtain ⟨u, h1, h2, h3⟩ := pl_one_bits h
  obtain ⟨e, h4, h5, h6⟩ := one_bits h1
  exact ⟨e, h4, by omega, h2.trans h5⟩
theorem pref_app_l {p q r : List Bool} (h : p ++ q <+: r) : p <+: r := List.IsPrefix.trans (List.prefix_append p q) h
theorem rtl_good {z : ν} {wt : ν → Nat} {F : Env ν E2} {A : Arm ν E2} {R : ν → RL ν} (hF : ∀ f, incE (F f)) (hA : ∀ c, incE (A c).2) (oF : ∀ f, okE (F f)) (oA : ∀ c, okE (A c).2) : ∀ b : Bd ν, (∀ c ∈ b.pushes, Good (R c) (A c).2) → Good (rtl z wt F A R b) (lend F A b) := by
  intro b
  induction b with
  | leaf r => intro _; exact ⟨(fun _ h => nomatch h), (fun _ h => nomatch h), (fun _ h => nomatch h), (fun _ h => nomatch h), (fun _ h => nomatch h)⟩
  | call f =>
    intro _
    have bg := lend_big (F := F) (A := A) (b := .call f)
    refine ⟨fun x h => ?_, fun x h => ?_, fun x h => ?_, fun x h y h' _ _ => ?_, fun x h s e _ => ?_⟩ <;> rw [List.mem_singleton.mp h]
    · exact Nat.le_refl 1
    · show 1 ≤ 1000; decide
    · show 0 ≤ 1; decide
    · rw [List.mem_singleton.mp h']
    · rcases e with e | e
      · exact bg.1 s e
      · exact bg.2 s e
  | test y n iy iN =>
    intro hR
    have gy := iy fun c q => hR c (by simp [Bd.pushes, q])
    have gn := iN fun c q => hR c (by simp [Bd.pushes, q])
    have mem : ∀ x, x ∈ rtl z wt F A R (.test y n) → (∃ e ∈ rtl z wt F A R y, x.2.n = 1 + e.2.n ∧ x.2.b = true :: e.2.b ∧ x.2.n ≤ 1000) ∨ (∃ e ∈ rtl z wt F A R n, x.2.n = 1 + e.2.n ∧ x.2.b = false :: e.2.b ∧ x.2.n ≤ 1000) := fun x h => by
      rcases List.mem_append.mp h with h | h
      · obtain ⟨e, he, s, h1, rfl⟩ := mem_shiftR.mp h
        obtain ⟨p, hp, h2, h3, h4⟩ := pl_get h1
        cases hp
        exact .inl ⟨e, he, h2, h3, h4⟩
      · obtain ⟨e, he, s, h1, rfl⟩ := mem_shiftR.mp h
        obtain ⟨p, hp, h2, h3, h4⟩ := pl_get h1
        cases hp
        exact .inr ⟨e, he, h2, h3, h4⟩
    have no : ∀ {u v : List Bool}, ¬ cmp (true :: u) (false :: v) := fun {u v} q => by rcases q with q | q <;> simp at q
    have tl : ∀ {t : Bool} {u v : List Bool}, cmp (t :: u) (t :: v) → cmp u v := fun {t u v} q => cmp_cancel (p := [t]) q
    have tp : ∀ {t : Bool} {u v : List Bool}, (t :: u) <+: (t :: v) → u <+: v := fun {t u v} q => (List.prefix_append_right_inj [t]).mp q
    refine ⟨fun x h => ?_, fun x h => ?_, fun x h => ?_, fun x h x' h' en ep => ?_, fun x h s e cm => ?_⟩
    · rcases mem x h with ⟨e, _, h1, _, _⟩ | ⟨e, _, h1, _, _⟩ <;> omega
    · rcases mem x h with ⟨e, _, _, _, h1⟩ | ⟨e, _, _, _, h1⟩ <;> exact h1
    · rcases mem x h with ⟨e, he, h1, h2, _⟩ | ⟨e, he, h1, h2, _⟩
      · have := gy.ok e he; rw [h2, h1]; simp; omega
      · have := gn.ok e he; rw [h2, h1]; simp; omega
    · rcases mem x h with ⟨e, he, h1, h2, _⟩ | ⟨e, he, h1, h2, _⟩ <;> rcases mem x' h' with ⟨e', he', h1', h2', _⟩ | ⟨e', he', h1', h2', _⟩ <;> rw [h2, h2'] at ep
      · rw [h2, h2', gy.pre e he e' he' (by omega) (tp ep)]
      · exact absurd (.inl ep) no
      · exact absurd (.inr ep) no
      · rw [h2, h2', gn.pre e he e' he' (by omega) (tp ep)]
    · have se : ∃ (k : Bool) (s' : Sc), s.b = k :: s'.b ∧ s.n = s'.n + 1 ∧ ((k = true ∧ ((lend F A y).1 = some s' ∨ (lend F A y).2 = some s')) ∨ (k = false ∧ ((lend F A n).1 = some s' ∨ (lend F A n).2 = some s'))) := by
        rcases e with e | e
        · rcases mn_some e with e | e
          · obtain ⟨s', e1, b1, n1⟩ := bit_bits e; exact ⟨true, s', b1, n1, .inl ⟨rfl, .inl e1⟩⟩
          · obtain ⟨s', e1, b1, n1⟩ := bit_bits e; exact ⟨false, s', b1, n1, .inr ⟨rfl, .inl e1⟩⟩
        · rcases mn_some e with e | e
          · obtain ⟨s', e1, b1, n1⟩ := bit_bits e; exact ⟨true, s', b1, n1, .inl ⟨rfl, .inr e1⟩⟩
          · obtain ⟨s', e1, b1, n1⟩ := bit_bits e; exact ⟨false, s', b1, n1, .inr ⟨rfl, .inr e1⟩⟩
      obtain ⟨k, s', b1, n1, q⟩ := se
      rw [b1] at cm
      rcases mem x h with ⟨e, he, h1, h2, _⟩ | ⟨e, he, h1, h2, _⟩ <;> rw [h2] at cm <;> rcases q with ⟨rfl, q⟩ | ⟨rfl, q⟩
      · have := gy.lo e he s' q (tl cm); omega
      · exact absurd cm no
      · exact absurd (cmp_comm cm) no
      · have := gn.lo e he s' q (tl cm); omega
  | push c b ib =>
    intro hR
    have gb := ib fun d q => hR d (by simp [Bd.pushes, q])
    have gc := hR c (by simp [Bd.pushes])
    have hc : incE (lend F A b) := closed_inc.end_ ν F A b hF hA
    have bigb := lend_big (F := F) (A := A) (b := b)
    have okb : okE (lend F A b) := closed_ok.end_ ν F A b oF oA
    -- the end that enters, the other end
    have ent_or : ∀ e, entS F A c b = some e → (lend F A b).1 = some e ∨ (lend F A b).2 = some e := fun e h => by
      unfold entS at h
      split at h
      · exact .inl h
      · exact .inr h
    have ent_pos : ∀ e, entS F A c b = some e → 1 ≤ e.n := fun e h => by
      rcases ent_or e h with q | q
      · exact bigb.1 e q
      · exact bigb.2 e q
    have ent_ok : ∀ e, entS F A c b = some e → e.b.length ≤ e.n := fun e h => by
      rcases ent_or e h with q | q
      · exact okb.1 e q
      · exact okb.2 e q
    -- how the push ends: the other end of its body, or by the arm
    have ends : ∀ s, ((lend F A (.push c b)).1 = some s ∨ (lend F A (.push c b)).2 = some s) →
        (∃ o, (∀ e, entS F A c b = some e → ¬ cmp e.b o.b) ∧ ((lend F A b).1 = some o ∨ (lend F A b).2 = some o) ∧ s.b = o.b ∧ s.n = o.n + 1) ∨ (∃ e w, entS F A c b = some e ∧ ((A c).2.1 = some w ∨ (A c).2.2 = some w) ∧ s.b = e.b ++ w.b ∧ s.n = e.n + 2 + w.n) := by
      intro s h
      unfold entS
      simp only [lend] at h
      cases hk : (A c).1 with
      | true =>
        simp only [hk, if_true] at h ⊢
        rcases h with h | h
        · obtain ⟨x, y, e1, e2, b1, n1⟩ := enter_bits h
          exact .inr ⟨x, y, e1, .inl e2, b1, n1⟩
        · rcases mn_some h with h | h
          · obtain ⟨o, e1, b1, n1⟩ := one_bits h
            exact .inl ⟨o, fun e he => hc e o he e1, .inr e1, b1, n1⟩
          · obtain ⟨x, y, e1, e2, b1, n1⟩ := enter_bits h
            exact .inr ⟨x, y, e1, .inr e2, b1, n1⟩
      | false =>
        simp only [hk, Bool.false_eq_true, if_false] at h ⊢
        rcases h with h | h
        · rcases mn_some h with h | h
          · obtain ⟨o, e1, b1, n1⟩ := one_bits h
            exact .inl ⟨o, fun e he q => hc o e e1 he (cmp_comm q), .inl e1, b1, n1⟩
          · obtain ⟨x, y, e1, e2, b1, n1⟩ := enter_bits h
            exact .inr ⟨x, y, e1, .inl e2, b1, n1⟩
        · obtain ⟨x, y, e1, e2, b1, n1⟩ := enter_bits h
          exact .inr ⟨x, y, e1, .inr e2, b1, n1⟩
    -- what the routes are
    have mem : ∀ x, x ∈ rtl z wt F A R (.push c b) → (x.2 = ⟨1, []⟩) ∨ (∃ e ∈ rtl z wt F A R b, x.2.n = e.2.n + 1 ∧ x.2.b = e.2.b ∧ x.2.n ≤ 1000) ∨ (∃ e, entS F A c b = some e ∧ ∃ r : Sc, ((r = ⟨0, []⟩) ∨ ∃ k, (k, r) ∈ R c) ∧ x.2.n = e.n + 2 + r.n ∧ x.2.b = e.b ++ r.b ∧ x.2.n ≤ 1000) := by
      intro x h
      rcases List.mem_append.mp h with h | h
      · rcases List.mem_append.mp h with h | h
        · exact .inl (by rw [List.mem_singleton.mp h])
        · obtain ⟨e, he, s, h1, rfl⟩ := mem_shiftR.mp h
          obtain ⟨p, hp, h2, h3, h4⟩ := pl_get h1
          cases hp
          exact .inr (.inl ⟨e, he, by show s.n = _; rw [h2]; exact Nat.add_comm _ _, h3, h4⟩)
      · right; right
        rcases List.mem_append.mp h with h | h
        · obtain ⟨e, he, s, h1, rfl⟩ := mem_shiftR.mp h
          obtain ⟨p, hp, h2, h3, h4⟩ := pl_get h1
          obtain ⟨q, hq, n1, b1⟩ := bef_bits hp
          rw [List.mem_singleton.mp he] at h2 h3
          exact ⟨q, hq, ⟨0, []⟩, .inl rfl, by show s.n = _; rw [h2, n1], by show s.b = _; rw [h3, b1], h4⟩
        · obtain ⟨e, he, s, h1, rfl⟩ := mem_shiftR.mp h
          obtain ⟨p, hp, h2, h3, h4⟩ := pl_get h1
          obtain ⟨q, hq, n1, b1⟩ := bef_bits hp
          exact ⟨q, hq, e.2, .inr ⟨e.1, he⟩, by show s.n = _; rw [h2, n1], by show s.b = _; rw [h3, b1], h4⟩
    have rpos : ∀ r : Sc, ((r = ⟨0, []⟩) ∨ ∃ k, (k, r) ∈ R c) → r = ⟨0, []⟩ ∨ 1 ≤ r.n := fun r h => h.imp id fun ⟨k, hk⟩ => gc.pos _ hk
    refine ⟨fun x h => ?_, fun x h => ?_, fun x h => ?_, fun x h x' h' en ep => ?_, fun x h s es cm => ?_⟩
    · rcases mem x h with h | ⟨e, _, h1, _, _⟩ | ⟨e, _, r, _, h1, _, _⟩
      · rw [h]; exact Nat.le_refl 1
      · omega
      · omega
    · rcases mem x h with h | ⟨e, _, _, _, h1⟩ | ⟨e, _, r, _, _, _, h1⟩
      · rw [h]; show 1 ≤ 1000; decide
      · exact h1
      · exact h1
    · rcases mem x h with h | ⟨e, he, h1, h2, _⟩ | ⟨e, he, r, hr, h1, h2, _⟩
      · rw [h]; show 0 ≤ 1; decide
      · have := gb.ok e he; rw [h2]; omega
      · have := ent_ok e he
        have hr' : r.b.length ≤ r.n := by
          rcases hr with rfl | ⟨k, hk⟩
          · exact Nat.le_refl 0
          · exact gc.ok _ hk
        rw [h2, List.length_append]; omega
    · rcases mem x h with h1 | ⟨e, he, n1, b1, _⟩ | ⟨e, he, r, hr, n1, b1, _⟩ <;> rcases mem x' h' with h1' | ⟨e', he', n1', b1', _⟩ | ⟨e', he', r', hr', n1', b1', _⟩
      · rw [h1, h1']
      · have := gb.pos e' he'; rw [h1] at en; have : (1 : Nat) = x'.2.n := en; omega
      · have := ent_pos e' he'; rw [h1] at en; have : (1 : Nat) = x'.2.n := en; omega
      · have := gb.pos e he; rw [h1'] at en; have : x.2.n = (1 : Nat) := en; omega
      · rw [b1, b1'] at ep ⊢
        exact gb.pre e he e' he' (by omega) ep
      · exfalso
        rw [b1, b1'] at ep
        have cm : cmp e.2.b e'.b := List.prefix_or_prefix_of_prefix ep (List.prefix_append _ _)
        have := gb.lo e he e' (ent_or e' he') cm
        omega
      · have := ent_pos e he; rw [h1'] at en; have : x.2.n = (1 : Nat) := en; omega
      · exfalso
        rw [b1, b1'] at ep
        have cm : cmp e'.2.b e.b := .inr (pref_app_l ep)
        have := gb.lo e' he' e (ent_or e he) cm
        omega
      · rw [he] at he'; cases he'
        rw [b1, b1'] at ep ⊢
        have ep' : r.b <+: r'.b := (List.prefix_append_right_inj _).mp ep
        have en' : r.n = r'.n := by omega
        rcases hr with rfl | ⟨k, hk⟩
        · rcases rpos r' hr' with q | q
          · rw [q]
          · have : (0 : Nat) = r'.n := en'; omega
        · rcases hr' with rfl | ⟨k', hk'⟩
          · have p1 : 1 ≤ r.n := gc.pos _ hk
            have p2 : r.n = (0 : Nat) := en'
            omega
          · rw [gc.pre _ hk _ hk' en' ep']
    · rcases ends s es with ⟨o, no, ho, bo, nO⟩ | ⟨e, w, he, hw, bs, ns⟩
      · rcases mem x h with h1 | ⟨e, he, n1, b1, _⟩ | ⟨e, he, r, hr, n1, b1, _⟩
        · rw [h1]; show 1 ≤ s.n; omega
        · rw [b1, bo] at cm
          have := gb.lo e he o ho cm; omega
        · rw [b1, bo] at cm
          exact absurd (cmp_app cm) (no e he)
      · rcases mem x h with h1 | ⟨e', he', n1, b1, _⟩ | ⟨e', he', r, hr, n1, b1, _⟩
        · rw [h1]; show 1 ≤ s.n; omega
        · rw [b1, bs] at cm
          have := gb.lo e' he' e (ent_or e he) (cmp_comm (cmp_app (cmp_comm cm))); omega
        · rw [he] at he'; cases he'
          rw [b1, bs] at cm
          have cm' := cmp_cancel cm
          rcases hr with rfl | ⟨k, hk⟩
          · have : x.2.n = e.n + 2 + 0 := n1; omega
          · have p1 : r.n ≤ w.n := gc.lo _ hk w hw cm'
            omega

/-! ### what the routes give -/
def ctr (need : Nat) (h : ν → Nat) (x : ν → OS) (k : RK ν) (a : OS) : OS :=
  match k.w with
  | .push => if k.g = need then a else none
  | .call => if k.g + h k.n = need then pl a (x k.n) else none
  | .enter => none
def Mm (need : Nat) (h : ν → Nat) (x : ν → OS) (L : RL ν) : OS := L.foldr (fun e m => mn (ctr need h x e.1 (some e.2)) m) none
theorem Mm_le {need : Nat} {h : ν → Nat} {x : ν → OS} {L : RL ν} {e : RK ν × Sc} (he : e ∈ L) : leO (Mm need h x L) (ctr need h x e.1 (some e.2)) := by
  induction L with
  | nil => cases he
  | cons a L ih =>
    show leO (mn (ctr need h x a.1 (some a.2)) (Mm need h x L)) _
    rcases List.mem_cons.mp he with rfl | he
    · exact mn_le_left _ _
    · exact leO_trans (mn_le_right _ _) (ih he)
theorem le_Mm {need : Nat} {h : ν → Nat} {x : ν → OS} {L : RL ν} {a : OS} (g : ∀ e ∈ L, leO a (ctr need h x e.1 (some e.2))) : leO a (Mm need h x L) := by
  induction L with
  | nil => cases a <;> trivial
  | cons b L ih => exact le_mn (g b List.mem_cons_self) (ih fun e he => g e (List.mem_cons_of_mem _ he))
theorem Mm_app {need : Nat} {h : ν → Nat} {x : ν → OS} (L L' : RL ν) : Mm need h x (L ++ L') = mn (Mm need h x L) (Mm need h x L') := by
  induction L with
  | nil => rfl
  | cons a L ih =>
    show mn _ (Mm need h x (L ++ L')) = mn (mn _ (Mm need h x L)) _
    rw [ih, mn_assoc]
theorem ltB_app_r : ∀ {x y : List Bool} (u v : List Bool), ltB x y = true → ¬ x <+: y → ltB (x ++ u) (y ++ v) = true
  | [], y, _, _, _, n => absurd (List.nil_prefix) n
  | _ :: _, [], _, _, h, _ => by simp [ltB] at h
  | a :: xs, b :: ys, u, v, h, n => by
    show (if a = b then ltB (xs ++ u) (ys ++ v) else (!a && b)) = true
    have h' : (if a = b then ltB xs ys else (!a && b)) = true := h
    by_cases e : a = b
    · subst e
      rw [if_pos rfl] at h' ⊢
      exact ltB_app_r u v h' fun q => n ((List.prefix_append_right_inj [a]).mpr q)
    · rw [if_neg e] at h' ⊢; exact h'
/-- a lesser script in front, where it does not begin the other -/
theorem pl_mono_l {m s : Sc} (o : OS) (h : leO (some m) (some s)) (c : m.n = s.n → m.b <+: s.b → m.b = s.b) : leO (pl (some m) o) (pl (some s) o) := by
  cases o with
  | none => rw [pl_none, pl_none]; trivial
  | some t =>
    rw [pl_some, pl_some]
    have h' : s.lt m = false := h
    have hn : m.n ≤ s.n := by
      rcases Sc.lt_tri m s with q | q | q
      · exact Sc.lt_le q
      · rw [q]; exact Nat.le_refl _
      · rw [q] at h'; cases h'
    by_cases e1 : s.n + t.n > 1000
    · rw [if_pos e1]; split <;> trivial
    · rw [if_neg e1, if_neg (by omega)]
      show Sc.lt _ _ = false
      by_cases e2 : m.n = s.n
      · by_cases e3 : m.b <+: s.b
        · have e4 := c e2 e3
          rw [show (⟨s.n + t.n, s.b ++ t.b⟩ : Sc) = ⟨m.n + t.n, m.b ++ t.b⟩ by rw [e2, e4]]
          exact Sc.lt_irr _
        · have lt : ltB m.b s.b = true := by
            rcases ltB_tri m.b s.b with q | q | q
            · exact q
            · exact absurd (q ▸ List.prefix_refl _) e3
            · unfold Sc.lt at h'; rw [if_pos e2.symm, q] at h'; cases h'
          have := ltB_app_r t.b t.b lt e3
          refine Sc.lt_asym (s := ⟨m.n + t.n, m.b ++ t.b⟩) ?_
          unfold Sc.lt
          rw [if_pos (by show m.n + t.n = s.n + t.n; omega)]
          exact this
      · unfold Sc.lt
        rw [if_neg (by show ¬ s.n + t.n = m.n + t.n; omega)]
        exact decide_eq_false (by show ¬ s.n + t.n < m.n + t.n; omega)
/-- a dict of routes, the least script for each key -/
def Cov (d L : RL ν) : Prop := (∀ e ∈ d, e ∈ L) ∧ ∀ e ∈ L, ∃ m, (e.1, m) ∈ d ∧ leO (some m) (some e.2)
theorem Cov.refl (L : RL ν) : Cov L L := ⟨fun _ h => h, fun e h => ⟨e.2, h, leO_refl _⟩⟩
theorem Cov.trans {a b c : RL ν} (h : Cov a b) (g : Cov b c) : Cov a c := ⟨fun e q => g.1 e (h.1 e q), fun e q => by
  obtain ⟨m, h1, h2⟩ := g.2 e q
  obtain ⟨k, h3, h4⟩ := h.2 _ h1
  exact ⟨k, h3, leO_trans h4 h2⟩⟩
theorem Cov.app {a b c d : RL ν} (h : Cov a c) (g : Cov b d) : Cov (a ++ b) (c ++ d) := ⟨fun e q => by
    rcases List.mem_append.mp q with q | q
    · exact List.mem_append_left _ (h.1 e q)
    · exact List.mem_append_right _ (g.1 e q), fun e q => by
    rcases List.mem_append.mp q with q | q
    · obtain ⟨m, h1, h2⟩ := h.2 e q; exact ⟨m, List.mem_append_left _ h1, h2⟩
    · obtain ⟨m, h1, h2⟩ := g.2 e q; exact ⟨m, List.mem_append_right _ h1, h2⟩⟩
theorem Cov.shift {a b : RL ν} (pre : OS) (g : Nat) (h : Cov a b) : Cov (shiftR pre g a) (shiftR pre g b) := ⟨fun x q => by
    obtain ⟨e, he, s, h1, rfl⟩ := mem_shiftR.mp q
    exact mem_shiftR.mpr ⟨e, h.1 e he, s, h1, rfl⟩, fun x q => by
    obtain ⟨e, he, s, h1, rfl⟩ := mem_shiftR.mp q
    obtain ⟨m, h2, h3⟩ := h.2 e he
    have h4 := pl_mono pre h3
    rw [h1] at h4
    cases h5 : pl pre (some m) with
    | none => rw [h5] at h4; exact h4.elim
    | some t => rw [h5] at h4; exact ⟨t, mem_shiftR.mpr ⟨_, h2, t, h5, rfl⟩, h4⟩⟩
theorem Mm_cov {need : Nat} {h : ν → Nat} {x : ν → OS} {d L : RL ν} (c : Cov d L) (pre : ∀ x ∈ L, ∀ y ∈ L, x.2.n = y.2.n → x.2.b <+: y.2.b → x.2.b = y.2.b) : Mm need h x d = Mm need h x L := by
  refine leO_antisymm (le_Mm fun e he => ?_) (le_Mm fun e he => Mm_le (c.1 e he))
  obtain ⟨m, h1, h2⟩ := c.2 e he
  refine leO_trans (Mm_le h1) ?_
  show leO (ctr need h x e.1 (some m)) (ctr need h x e.1 (some e.2))
  unfold ctr
  split
  · split
    · exact h2
    · trivial
  · split
    · exact pl_mono_l _ h2 (pre _ (c.1 _ h1) _ he)
    · trivial
  · trivial
theorem Mm_shift {h : ν → Nat} {x : ν → OS} {pre : OS} {g need : Nat} (L : RL ν) : Mm need h x (shiftR pre g L) = if g ≤ need then pl pre (Mm (need - g) h x L) else none := by
  induction L with
  | nil => show none = _; split <;> simp [Mm, pl_none]
  | cons e L ih =>
    have step : Mm need h x (shiftR pre g (e :: L)) = mn (ctr need h x ⟨e.1.w, e.1.n, e.1.g + g⟩ (pl pre (some e.2))) (Mm need h x (shiftR pre g L)) := by
      unfold shiftR
      rw [List.filterMap_cons]
      cases q : pl pre (some e.2) with
      | none =>
        have z : ctr need h x ⟨e.1.w, e.1.n, e.1.g + g⟩ (none : OS) = none := by
          unfold ctr
          split
          · split <;> rfl
          · split <;> simp [none_pl]
          · rfl
        rw [z]; rfl
      | some s => rfl
    rw [step, ih]
    have c : ctr need h x ⟨e.1.w, e.1.n, e.1.g + g⟩ (pl pre (some e.2)) = if g ≤ need then pl pre (ctr (need - g) h x e.1 (some e.2)) else none := by
      unfold ctr
      cases e.1.w with
      | push =>
        show (if e.1.g + g = need then _ else none) = if g ≤ need then pl pre (if e.1.g = need - g then _ else none) else none
        by_cases q : g ≤ need
        · rw [if_pos q]
          by_cases r : e.1.g = need - g
          · rw [if_pos r, if_pos (by omega)]
          · rw [if_neg r, if_neg (by omega), pl_none]
        · rw [if_neg q, if_neg (by omega)]
      | call =>
        show (if e.1.g + g + h e.1.n = need then _ else none) = if g ≤ need then pl pre (if e.1.g + h e.1.n = need - g then _ else none) else none
        by_cases q : g ≤ need
        · rw [if_pos q]
          by_cases r : e.1.g + h e.1.n = need - g
          · rw [if_pos r, if_pos (by omega), pl_assoc]
          · rw [if_neg r, if_neg (by omega), pl_none]
        · rw [if_neg q, if_neg (by omega)]
      | enter =>
        show none = if g ≤ need then pl pre none else none
        rw [pl_none]; split <;> rfl
    rw [c]
    split
    · show mn _ _ = pl pre (mn _ _)
      rw [pl_mn]; rfl
    · rfl
end KM

namespace KM
variable {ν : Type} [DecidableEq ν]
/-! ### the law's own equations -/
def zero : OS := some ⟨0, []⟩
def two : OS := some ⟨2, []⟩
def grd (need : Int) (a : OS) : OS := if need ≤ 0 then (if need = 0 then zero else none) else a
section
variable (wt : ν → Nat) (F : Env ν E2) (A : Arm ν E2) (hK : ν → Option Nat) (xK : ν → OS)
def tigB (arm : ν → Int → OS) : Bd ν → Int → OS
  | .leaf _, need => grd need none
  | .call f, need => grd need (if (hK f).map (fun m => (m : Int)) = some need then pl one (xK f) else none)
  | .test y n, need => grd need (mn (pl (bitS true) (tigB arm y need)) (pl (bitS false) (tigB arm n need)))
  | .push c b, need => grd need (mn (pl one (tigB arm b (need - wt c))) (pl (pl two (entS F A c b)) (arm c need)))
end
theorem tigB_zero {wt : ν → Nat} {F : Env ν E2} {A : Arm ν E2} {hK : ν → Option Nat} {xK : ν → OS} {arm : ν → Int → OS} (b : Bd ν) : tigB wt F A hK xK arm b 0 = zero := by cases b <;> rfl
theorem tigB_neg {wt : ν → Nat} {F : Env ν E2} {A : Arm ν E2} {hK : ν → Option Nat} {xK : ν → OS} {arm : ν → Int → OS} (b : Bd ν) {n : Int} (h : n < 0) : tigB wt F A hK xK arm b n = none := by
  have e : ∀ a, grd n a = none := fun a => by unfold grd; rw [if_pos (by omega), if_neg (by omega)]
  cases b <;> exact e _
theorem bef_two (F : Env ν E2) (A : Arm ν E2) (c : ν) (b : Bd ν) (w : OS) : pl (befS F A c b) w = pl (pl two (entS F A c b)) w := by
  have e : ∀ a : OS, pl (pl one a) one = pl two a := fun a => by
    cases a with
    | none => rfl
    | some x =>
      show pl (pl (some ⟨1, []⟩) (some x)) (some ⟨1, []⟩) = pl (some ⟨2, []⟩) (some x)
      rw [pl_some, pl_some]
      by_cases h : 1 + x.n > 1000
      · rw [if_pos h, if_pos (by show 2 + x.n > 1000; omega)]; rfl
      · rw [if_neg h, pl_some]
        by_cases g : 1 + x.n + 1 > 1000
        · rw [if_pos g, if_pos (by show 2 + x.n > 1000; omega)]
        · rw [if_neg g, if_neg (by show ¬ 2 + x.n > 1000; omega)]
          show some (⟨1 + x.n + 1, [] ++ x.b ++ []⟩ : Sc) = some ⟨2 + x.n, [] ++ x.b⟩
          rw [List.append_nil, show 1 + x.n + 1 = 2 + x.n by omega]
  show pl (pl (pl one (entS F A c b)) one) w = _
  rw [e]
theorem le_one_pl (a : OS) : leO one (pl one a) := by
  cases h : pl one a with
  | none => trivial
  | some s =>
    obtain ⟨x, e1, b1, n1⟩ := one_bits h
    show Sc.lt s ⟨1, []⟩ = false
    unfold Sc.lt
    split
    · cases s.b <;> rfl
    · exact decide_eq_false (by show ¬ s.n < 1; omega)
/-- the parts of a body -/
inductive Sub (b0 : Bd ν) : Bd ν → Prop where
  | here : Sub b0 b0
  | ty {y n : Bd ν} : Sub b0 (.test y n) → Sub b0 y
  | tn {y n : Bd ν} : Sub b0 (.test y n) → Sub b0 n
  | pb {c : ν} {b : Bd ν} : Sub b0 (.push c b) → Sub b0 b
theorem tight_body {z : ν} {wt : ν → Nat} {F : Env ν E2} {A : Arm ν E2} {hK : ν → Option Nat} {xK : ν → OS} {arm : ν → Int → OS} {R : ν → RL ν} {h : ν → Nat} {x : ν → OS} {b0 : Bd ν}
    (hc : ∀ f, Sub b0 (.call f) → hK f = some (h f) ∧ xK f = x f)
    (hp : ∀ c b, Sub b0 (.push c b) → entS F A c b ≠ none → ∀ need : Nat, 0 < need → Mm need h x (R c) = arm c need) :
    ∀ b, Sub b0 b → ∀ need : Nat, 0 < need → Mm need h x (rtl z wt F A R b) = tigB wt F A hK xK arm b need := by
  intro b
  have gp : ∀ {need : Nat} (a : OS), 0 < need → grd (need : Int) a = a := fun {need} a q => by unfold grd; rw [if_neg (by omega)]
  induction b with
  | leaf r => intro _ need hn; simp only [tigB]; rw [gp _ hn]; rfl
  | call f =>
    intro hs need hn
    obtain ⟨h1, h2⟩ := hc f hs
    simp only [tigB]
    rw [gp _ hn]
    show mn (if 0 + h f = need then pl one (x f) else none) none = _
    rw [mn_none, h1, h2]
    by_cases e : h f = need
    · rw [if_pos (by omega), if_pos (by simp [e])]
    · rw [if_neg (by omega), if_neg (by simp; omega)]
  | test y n iy iN =>
    intro hs need hn
    simp only [tigB]
    rw [gp _ hn]
    show Mm need h x (shiftR (bitS true) 0 (rtl z wt F A R y) ++ shiftR (bitS false) 0 (rtl z wt F A R n)) = _
    rw [Mm_app, Mm_shift, Mm_shift, if_pos (Nat.zero_le _), if_pos (Nat.zero_le _), Nat.sub_zero, iy (.ty hs) need hn, iN (.tn hs) need hn]
  | push c b ib =>
    intro hs need hn
    simp only [tigB]
    rw [gp _ hn]
    show Mm need h x ([(⟨.push, z, wt c⟩, ⟨1, []⟩)] ++ shiftR one (wt c) (rtl z wt F A R b) ++ (shiftR (befS F A c b) 0 [(⟨.enter, c, 0⟩, ⟨0, []⟩)] ++ shiftR (befS F A c b) 0 (R c))) = _
    have e0 : Mm (need - 0) h x [((⟨.enter, c, 0⟩ : RK ν), (⟨0, []⟩ : Sc))] = none := rfl
    have e1 : Mm need h x [((⟨.push, z, wt c⟩ : RK ν), (⟨1, []⟩ : Sc))] = if wt c = need then one else none := by
      show mn (if wt c = need then one else none) none = _
      rw [mn_none]
    rw [Mm_app, Mm_app, Mm_app, Mm_shift, Mm_shift, Mm_shift, if_pos (Nat.zero_le need), if_pos (Nat.zero_le need), e0, pl_none, none_mn, e1, Nat.sub_zero]
    have p1 : mn (if wt c = need then one else none) (if wt c ≤ need then pl one (Mm (need - wt c) h x (rtl z wt F A R b)) else none) = pl one (tigB wt F A hK xK arm b (need - wt c)) := by
      by_cases e : wt c = need
      · rw [if_pos e, if_pos (by omega), show ((need : Int) - wt c) = 0 by omega, tigB_zero, mn_of_le (le_one_pl _)]
        rfl
      · rw [if_neg e, none_mn]
        by_cases q : wt c ≤ need
        · rw [if_pos q, ib (.pb hs) (need - wt c) (by omega)]
          rw [show ((need - wt c : Nat) : Int) = (need : Int) - wt c by omega]
        · rw [if_neg q, tigB_neg b (by omega), pl_none]
    rw [p1]
    by_cases q : entS F A c b = none
    · have : befS F A c b = none := by unfold befS; rw [q]; rfl
      rw [this, q, none_pl, pl_none, none_pl]
    · rw [hp c b hs q need hn, bef_two]

/-! ### routes and equations of the arms -/
section
variable (T : Tb ν) (z : ν) (wt : ν → Nat) (F : Env ν E2) (A : Arm ν E2)
def rEn : Env ν (RL ν) → Arm ν (RL ν) → Bd ν → RL ν := fun _ R b => rtl z wt F A (fun c => (R c).2) b
def rarms : Arm ν (RL ν) := armsC (rEn z wt F A) [] T (fun _ => [])
/-- THE ROUTES of a body -/
def rts (b : Bd ν) : RL ν := rtl z wt F A (fun c => (rarms T z wt F A c).2) b
def tEn (hK : ν → Option Nat) (xK : ν → OS) : Env ν (Int → OS) → Arm ν (Int → OS) → Bd ν → (Int → OS) := fun _ R b => tigB wt F A hK xK (fun c => (R c).2) b
def tarms (hK : ν → Option Nat) (xK : ν → OS) : Arm ν (Int → OS) := armsC (tEn wt F A hK xK) (fun _ => none) T (fun _ _ => none)
/-- THE LAW'S EQUATION of a body -/
def tig (hK : ν → Option Nat) (xK : ν → OS) (b : Bd ν) : Int → OS := tigB wt F A hK xK (fun c => (tarms T wt F A hK xK c).2) b
end
theorem rtl_cg {z : ν} {wt : ν → Nat} {F : Env ν E2} {A : Arm ν E2} {R R' : ν → RL ν} : ∀ {b : Bd ν}, (∀ c ∈ b.pushes, R c = R' c) → rtl z wt F A R b = rtl z wt F A R' b := by
  intro b
  induction b with
  | leaf r => intro _; rfl
  | call f => intro _; rfl
  | test y n iy iN =>
    intro g
    simp only [rtl]
    rw [iy fun c q => g c (by simp [Bd.pushes, q]), iN fun c q => g c (by simp [Bd.pushes, q])]
  | push c b ib =>
    intro g
    simp only [rtl]
    rw [ib fun d q => g d (by simp [Bd.pushes, q]), g c (by simp [Bd.pushes])]
theorem tigB_cg {wt : ν → Nat} {F : Env ν E2} {A : Arm ν E2} {hK : ν → Option Nat} {xK : ν → OS} {R R' : ν → Int → OS} : ∀ {b : Bd ν}, (∀ c ∈ b.pushes, R c = R' c) → ∀ need, tigB wt F A hK xK R b need = tigB wt F A hK xK R' b need := by
  intro b
  induction b with
  | leaf r => intro _ _; rfl
  | call f => intro _ _; rfl
  | test y n iy iN =>
    intro g need
    simp only [tigB]
    rw [iy (fun c q => g c (by simp [Bd.pushes, q])) need, iN (fun c q => g c (by simp [Bd.pushes, q])) need]
  | push c b ib =>
    intro g need
    simp only [tigB]
    rw [ib (fun d q => g d (by simp [Bd.pushes, q])), g c (by simp [Bd.pushes])]
theorem rEn_cg {z : ν} {wt : ν → Nat} {F : Env ν E2} {A : Arm ν E2} : Cg (rEn z wt F A) := fun _ _ R R' b _ h => rtl_cg fun c q => by rw [h c q]
theorem tEn_cg {wt : ν → Nat} {F : Env ν E2} {A : Arm ν E2} {hK : ν → Option Nat} {xK : ν → OS} : Cg (tEn wt F A hK xK) := fun _ _ R R' b _ h => funext fun need => tigB_cg (fun c q => by rw [h c q]) need
section
variable {T : Tb ν} {z : ν} {wt : ν → Nat}
theorem rarms_ok (o : T.Ok) (F : Env ν E2) (A : Arm ν E2) {c : ν} (hc : c ∈ T.cs) : (rarms T z wt F A c).2 = rts T z wt F A (T.am c) := by
  have := armsC_ok (en := rEn z wt F A) (e0 := []) rEn_cg o (fun _ => []) c hc
  unfold rarms
  rw [this]; rfl
theorem tarms_ok (o : T.Ok) (F : Env ν E2) (A : Arm ν E2) (hK : ν → Option Nat) (xK : ν → OS) {c : ν} (hc : c ∈ T.cs) : (tarms T wt F A hK xK c).2 = tig T wt F A hK xK (T.am c) := by
  have := armsC_ok (en := tEn wt F A hK xK) (e0 := fun _ => none) tEn_cg o (fun _ _ => none) c hc
  unfold tarms
  rw [this]; rfl
abbrev lA (T : Tb ν) : Arm ν E2 := larms T (lst T)
theorem rts_good (o : T.Ok) {b : Bd ν} (hb : ∀ c ∈ b.pushes, c ∈ T.cs) : Good (rts T z wt (lst T) (lA T) b) (lend (lst T) (lA T) b) := by
  have iF : ∀ f, incE (lst T f) := lst_P closed_inc
  have oF : ∀ f, okE (lst T f) := lst_P closed_ok
  have iA := closed_inc.arms (T := T) iF
  have oA := closed_ok.arms (T := T) oF
  have key : ∀ l : List ν, Ord T.am l → (∀ c ∈ l, c ∈ T.cs) → ∀ c ∈ l, Good (rarms T z wt (lst T) (lA T) c).2 (lA T c).2 := by
    intro l
    induction l with
    | nil => intro _ _ c hc; cases hc
    | cons c0 l ih =>
      intro hO hs c hc
      have ih' := ih hO.2.2 (fun d q => hs d (List.mem_cons_of_mem _ q))
      rcases List.mem_cons.mp hc with rfl | q
      · have hc' := hs c List.mem_cons_self
        rw [rarms_ok o _ _ hc', show lA T c = _ from armsC_ok lend_cg o (lst T) c hc']
        exact rtl_good iF iA oF oA (T.am c) fun d hd => ih' d (hO.1 d hd)
      · exact ih' c q
  exact rtl_good iF iA oF oA b fun c q => key T.cs o.ord (fun _ h => h) c (hb c q)
/-- a push that has a least script to its frame can be entered -/
def entC (T : Tb ν) (C : Env ν B2) (c : ν) (b : Bd ν) : Bool := if T.kd c then (cen C (carms T C) b).1 else (cen C (carms T C) b).2
theorem ent_can (o : T.Ok) {C : Env ν B2} (fc : ∀ f ∈ T.fs, C f = cen C (carms T C) (T.bd f)) {c : ν} {b : Bd ν} (hbc : ∀ f ∈ b.calls, f ∈ T.fs) (hbp : ∀ d ∈ b.pushes, d ∈ T.cs) (h : entS (lst T) (lA T) c b ≠ none) : entC T C c b = true := by
  obtain ⟨e, he⟩ : ∃ e, entS (lst T) (lA T) c b = some e := by
    cases q : entS (lst T) (lA T) c b with
    | none => exact absurd q h
    | some e => exact ⟨e, rfl⟩
  have hh := has_all o (lst_fix o) fc e.n
  have hb := lend_has (b := b) (fun f q => hh f (hbc f q)) (fun d q => larms_has o hh d (hbp d q))
  unfold entS at he
  unfold entC
  rw [show (lA T c).1 = T.kd c from armsC_kd _ c] at he
  cases hk : T.kd c with
  | true => rw [hk] at he; exact hb.1 e he (Nat.le_succ _)
  | false => rw [hk] at he; exact hb.2 e he (Nat.le_succ _)
/-- where routes call, there it is visited -/
theorem rts_vis (o : T.Ok) {C : Env ν B2} (fc : ∀ f ∈ T.fs, C f = cen C (carms T C) (T.bd f)) {b : Bd ν} (hbc : ∀ f ∈ b.calls, f ∈ T.fs) (hbp : ∀ c ∈ b.pushes, c ∈ T.cs) : ∀ e ∈ rts T z wt (lst T) (lA T) b, e.1.w = .call → Vis T (entC T C) b (.call e.1.n) := by
  have body : ∀ (R : ν → RL ν) (b0 : Bd ν), ∀ b, Sub b0 b → (∀ f ∈ b.calls, f ∈ T.fs) → (∀ c ∈ b.pushes, c ∈ T.cs) → (∀ c ∈ b.pushes, ∀ e ∈ R c, e.1.w = .call → Vis T (entC T C) (T.am c) (.call e.1.n)) → ∀ e ∈ rtl z wt (lst T) (lA T) R b, e.1.w = .call → Vis T (entC T C) b (.call e.1.n) := by
    intro R b0 b
    have from_ : ∀ {x y w : Bd ν}, Vis T (entC T C) x y → Vis T (entC T C) y w → Vis T (entC T C) x w := fun p q => p.trans q
    induction b with
    | leaf r => intro _ _ _ _ e he; cases he
    | call f => intro _ _ _ _ e he _; rw [List.mem_singleton.mp he]; exact .here
    | test y n iy iN =>
      intro hs h1 h2 h3 e he w
      rcases List.mem_append.mp he with q | q
      · obtain ⟨e', he', s, _, rfl⟩ := mem_shiftR.mp q
        exact from_ (.ty .here) (iy (.ty hs) (fun f q => h1 f (by simp [Bd.calls, q])) (fun c q => h2 c (by simp [Bd.pushes, q])) (fun c q => h3 c (by simp [Bd.pushes, q])) e' he' w)
      · obtain ⟨e', he', s, _, rfl⟩ := mem_shiftR.mp q
        exact from_ (.tn .here) (iN (.tn hs) (fun f q => h1 f (by simp [Bd.calls, q])) (fun c q => h2 c (by simp [Bd.pushes, q])) (fun c q => h3 c (by simp [Bd.pushes, q])) e' he' w)
    | push c b ib =>
      intro hs h1 h2 h3 e he w
      rcases List.mem_append.mp he with q | q
      · rcases List.mem_append.mp q with q | q
        · rw [List.mem_singleton.mp q] at w; cases w
        · obtain ⟨e', he', s, _, rfl⟩ := mem_shiftR.mp q
          exact from_ (.pb .here) (ib (.pb hs) (fun f q => h1 f (by simpa [Bd.calls] using q)) (fun d q => h2 d (by simp [Bd.pushes, q])) (fun d q => h3 d (by simp [Bd.pushes, q])) e' he' w)
      · have en : ∀ {s : Sc} {x : Sc}, pl (befS (lst T) (lA T) c b) (some x) = some s → entC T C c b = true := fun {s x} h => by
          refine ent_can o fc (fun f q => h1 f (by simpa [Bd.calls] using q)) (fun d q => h2 d (by simp [Bd.pushes, q])) fun z => ?_
          have : befS (lst T) (lA T) c b = none := by unfold befS; rw [z]; rfl
          rw [this] at h; cases h
        rcases List.mem_append.mp q with q | q
        · obtain ⟨e', he', s, _, rfl⟩ := mem_shiftR.mp q
          rw [List.mem_singleton.mp he'] at w; cases w
        · obtain ⟨e', he', s, hs', rfl⟩ := mem_shiftR.mp q
          exact from_ (.pa .here (en hs')) (h3 c (by simp [Bd.pushes]) e' he' w)
  have key : ∀ l : List ν, Ord T.am l → (∀ c ∈ l, c ∈ T.cs) → ∀ c ∈ l, ∀ e ∈ (rarms T z wt (lst T) (lA T) c).2, e.1.w = .call → Vis T (entC T C) (T.am c) (.call e.1.n) := by
    intro l
    induction l with
    | nil => intro _ _ c hc; cases hc
    | cons c0 l ih =>
      intro hO hs c hc
      have ih' := ih hO.2.2 (fun d q => hs d (List.mem_cons_of_mem _ q))
      rcases List.mem_cons.mp hc with rfl | q
      · have hc' := hs c List.mem_cons_self
        rw [rarms_ok o _ _ hc']
        exact body _ (T.am c) (T.am c) .here (o.ac c hc') (o.ap c hc') fun d hd => ih' d (hO.1 d hd)
      · exact ih' c q
  exact body _ b b .here hbc hbp fun c q => key T.cs o.ord (fun _ h => h) c (hbp c q)
/-- THE LAW'S EQUATION is the least over the routes -/
theorem tig_eq (o : T.Ok) {C : Env ν B2} (fc : ∀ f ∈ T.fs, C f = cen C (carms T C) (T.bd f)) {hK : ν → Option Nat} {xK : ν → OS} {h : ν → Nat} {x : ν → OS} {b : Bd ν} (hbc : ∀ f ∈ b.calls, f ∈ T.fs) (hbp : ∀ c ∈ b.pushes, c ∈ T.cs)
    (hc : ∀ f, Vis T (entC T C) b (.call f) → hK f = some (h f) ∧ xK f = x f) (need : Nat) (hn : 0 < need) : Mm need h x (rts T z wt (lst T) (lA T) b) = tig T wt (lst T) (lA T) hK xK b need := by
  have subV : ∀ {b0 b : Bd ν}, Sub b0 b → Vis T (entC T C) b0 b := fun {b0 b} s => by
    induction s with
    | here => exact .here
    | ty _ ih => exact .ty ih
    | tn _ ih => exact .tn ih
    | pb _ ih => exact .pb ih
  have subM : ∀ {b0 b : Bd ν}, Sub b0 b → (∀ f ∈ b0.calls, f ∈ T.fs) → (∀ c ∈ b0.pushes, c ∈ T.cs) → (∀ f ∈ b.calls, f ∈ T.fs) ∧ (∀ c ∈ b.pushes, c ∈ T.cs) := fun {b0 b} s h1 h2 => by
    induction s with
    | here => exact ⟨h1, h2⟩
    | ty _ ih => exact ⟨fun g q => ih.1 g (by simp [Bd.calls, q]), fun c q => ih.2 c (by simp [Bd.pushes, q])⟩
    | tn _ ih => exact ⟨fun g q => ih.1 g (by simp [Bd.calls, q]), fun c q => ih.2 c (by simp [Bd.pushes, q])⟩
    | pb _ ih => exact ⟨fun g q => ih.1 g (by simpa [Bd.calls] using q), fun c q => ih.2 c (by simp [Bd.pushes, q])⟩
  -- what holds of a body whose visited calls are known
  have main : ∀ l : List ν, Ord T.am l → (∀ c ∈ l, c ∈ T.cs) → ∀ b : Bd ν, (∀ f ∈ b.calls, f ∈ T.fs) → (∀ c ∈ b.pushes, c ∈ l) → (∀ f, Vis T (entC T C) b (.call f) → hK f = some (h f) ∧ xK f = x f) → ∀ need : Nat, 0 < need → Mm need h x (rts T z wt (lst T) (lA T) b) = tig T wt (lst T) (lA T) hK xK b need := by
    intro l
    induction l with
    | nil =>
      intro _ _ b h1 h2 h3 need hn
      refine tight_body (b0 := b) (fun f s => h3 f (subV s)) (fun c b' s _ => ?_) b .here need hn
      have : c ∈ ([] : List ν) := by
        have k : ∀ {b' : Bd ν}, Sub b b' → ∀ d ∈ b'.pushes, d ∈ b.pushes := fun {b'} s => by
          induction s with
          | here => exact fun _ q => q
          | ty _ ih => exact fun d q => ih d (by simp [Bd.pushes, q])
          | tn _ ih => exact fun d q => ih d (by simp [Bd.pushes, q])
          | pb _ ih => exact fun d q => ih d (by simp [Bd.pushes, q])
        exact h2 c (k s c (by simp [Bd.pushes]))
      cases this
    | cons c0 l ih =>
      intro hO hs b h1 h2 h3 need hn
      have k : ∀ {b' : Bd ν}, Sub b b' → ∀ d ∈ b'.pushes, d ∈ b.pushes := fun {b'} s => by
        induction s with
        | here => exact fun _ q => q
        | ty _ ih => exact fun d q => ih d (by simp [Bd.pushes, q])
        | tn _ ih => exact fun d q => ih d (by simp [Bd.pushes, q])
        | pb _ ih => exact fun d q => ih d (by simp [Bd.pushes, q])
      refine tight_body (b0 := b) (fun f s => h3 f (subV s)) (fun c b' s he nd hnd => ?_) b .here need hn
      have hcl : c ∈ c0 :: l := h2 c (k s c (by simp [Bd.pushes]))
      have hcs := hs c hcl
      have hm := subM s h1 fun d q => hs d (h2 d q)
      have en := ent_can o fc (c := c) (b := b') (fun f q => hm.1 f (by simpa [Bd.calls] using q)) (fun d q => hm.2 d (by simp [Bd.pushes, q])) he
      rw [rarms_ok o _ _ hcs, tarms_ok o _ _ _ _ hcs]
      -- the arm pushes only what stands behind
      have hO' : ∀ d ∈ (T.am c).pushes, d ∈ l := fun d hd => by
        rcases List.mem_cons.mp hcl with rfl | q
        · exact hO.1 d hd
        · exact Ord.sub hO.2.2 c q d hd
      exact ih hO.2.2 (fun d q => hs d (List.mem_cons_of_mem _ q)) (T.am c) (o.ac c hcs) hO' (fun f v => h3 f ((Vis.pa (subV s) en).trans v)) nd hnd
  exact main T.cs o.ord (fun _ q => q) b hbc hbp hc need hn
end
end KM

namespace KM
variable {ν : Type} [DecidableEq ν]
/-! ### the rounds of settled_scripts -/
section
variable (h : ν → Nat) (rt : ν → RL ν)
/-- what the routes of f give, by the scripts x -/
def Uf (x : ν → OS) (f : ν) : OS := if h f = 0 then zero else Mm (h f) h x (rt f)
def x0 (S : List ν) : ν → OS := fun f => if f ∈ S ∧ h f = 0 then zero else none
def rsF (S : List ν) (x : ν → OS) : ν → OS := S.foldl (fun x f => up x f (mn (x f) (Mm (h f) h x (rt f)))) x
def uI (S : List ν) : ν → OS := iter (fun x f => if f ∈ S then Uf h rt x f else none) 1001 fun _ => none
variable {h rt}
structure RtOk (rt : ν → RL ν) (S : List ν) : Prop where
  pos : ∀ f ∈ S, ∀ e ∈ rt f, 1 ≤ e.2.n
  small : ∀ f ∈ S, ∀ e ∈ rt f, e.2.n ≤ 1000
  cl : ∀ f ∈ S, ∀ e ∈ rt f, e.1.w = .call → e.1.n ∈ S
theorem ctr_eqv {need n : Nat} {x y : ν → OS} {k : RK ν} {s : Sc} (hs : 1 ≤ s.n) (hxy : k.w = .call → eqv n (x k.n) (y k.n)) : eqv (n + 1) (ctr need h x k (some s)) (ctr need h y k (some s)) := by
  unfold ctr
  split
  · exact eqv_refl _ _
  · rename_i e
    split
    · exact eqv_step hs (hxy e)
    · exact eqv_refl _ _
  · exact eqv_refl _ _
theorem Mm_eqv {need n : Nat} {x y : ν → OS} {L : RL ν} (hs : ∀ e ∈ L, 1 ≤ e.2.n) (hxy : ∀ e ∈ L, e.1.w = .call → eqv n (x e.1.n) (y e.1.n)) : eqv (n + 1) (Mm need h x L) (Mm need h y L) := by
  induction L with
  | nil => exact eqv_refl _ _
  | cons e L ih => exact eqv_mn (ctr_eqv (hs e List.mem_cons_self) (hxy e List.mem_cons_self)) (ih (fun a q => hs a (List.mem_cons_of_mem _ q)) fun a q => hxy a (List.mem_cons_of_mem _ q))
theorem Mm_small {need : Nat} {x : ν → OS} {L : RL ν} (hs : ∀ e ∈ L, e.2.n ≤ 1000) : small (Mm need h x L) := by
  induction L with
  | nil => exact fun _ h => nomatch h
  | cons e L ih =>
    refine small_mn ?_ (ih fun a q => hs a (List.mem_cons_of_mem _ q))
    unfold ctr
    split
    · split
      · intro s hs'; cases hs'; exact hs e List.mem_cons_self
      · exact fun _ h => nomatch h
    · split
      · exact small_pl _ _
      · exact fun _ h => nomatch h
    · exact fun _ h => nomatch h
theorem Mm_mono {need : Nat} {x y : ν → OS} {L : RL ν} (hxy : ∀ e ∈ L, e.1.w = .call → leO (x e.1.n) (y e.1.n)) : leO (Mm need h x L) (Mm need h y L) := by
  refine le_Mm fun e he => leO_trans (Mm_le he) ?_
  unfold ctr
  split
  · exact leO_refl _
  · rename_i w
    split
    · exact pl_mono _ (hxy e he w)
    · exact leO_refl _
  · exact leO_refl _
/-- a solution over S -/
def Sol (h : ν → Nat) (rt : ν → RL ν) (S : List ν) (x : ν → OS) : Prop := ∀ f ∈ S, x f = Uf h rt x f
theorem small_zero : small zero := fun s e => by cases e; exact Nat.zero_le _
theorem Uf_small {S : List ν} (o : RtOk rt S) {x : ν → OS} {f : ν} (hf : f ∈ S) : small (Uf h rt x f) := by
  unfold Uf; split
  · exact small_zero
  · exact Mm_small (o.small f hf)
theorem Uf_eqv {S : List ν} (o : RtOk rt S) {x y : ν → OS} {n : Nat} (hxy : ∀ f ∈ S, eqv n (x f) (y f)) {f : ν} (hf : f ∈ S) : eqv (n + 1) (Uf h rt x f) (Uf h rt y f) := by
  unfold Uf; split
  · exact eqv_refl _ _
  · exact Mm_eqv (o.pos f hf) fun e he w => hxy _ (o.cl f hf e he w)
theorem Sol.uniq {S : List ν} (o : RtOk rt S) {x y : ν → OS} (a : Sol h rt S x) (b : Sol h rt S y) : ∀ f ∈ S, x f = y f := by
  have key : ∀ n, ∀ f ∈ S, eqv n (x f) (y f) := by
    intro n
    induction n with
    | zero => intro f _; exact eqv_zero _ _
    | succ n ih => intro f hf; rw [a f hf, b f hf]; exact Uf_eqv o ih hf
  intro f hf
  exact eqv_small (by rw [a f hf]; exact Uf_small o hf) (by rw [b f hf]; exact Uf_small o hf) (key 1001 f hf)
theorem uI_sol {S : List ν} (o : RtOk rt S) : Sol h rt S (uI h rt S) := by
  let R : (ν → OS) → (ν → OS) := fun x f => if f ∈ S then Uf h rt x f else none
  have st : ∀ k, ∀ f ∈ S, eqv k (iter R k (fun _ => none) f) (iter R (k + 1) (fun _ => none) f) := by
    intro k
    induction k with
    | zero => intro f _; exact eqv_zero _ _
    | succ k ih =>
      intro f hf
      show eqv (k + 1) (if f ∈ S then Uf h rt (iter R k fun _ => none) f else none) (if f ∈ S then Uf h rt (iter R (k + 1) fun _ => none) f else none)
      rw [if_pos hf, if_pos hf]
      exact Uf_eqv o ih hf
  have sm : ∀ k, ∀ f ∈ S, small (iter R k (fun _ => none) f) := by
    intro k f hf
    cases k with
    | zero => exact fun _ h => nomatch h
    | succ k =>
      show small (if f ∈ S then Uf h rt (iter R k fun _ => none) f else none)
      rw [if_pos hf]; exact Uf_small o hf
  intro f hf
  have e := eqv_small (sm 1001 f hf) (sm 1002 f hf) (st 1001 f hf)
  show iter R 1001 (fun _ => none) f = _
  rw [e]
  show (if f ∈ S then Uf h rt (iter R 1001 fun _ => none) f else none) = _
  rw [if_pos hf]; rfl
theorem uI_off {S : List ν} {f : ν} (hf : f ∉ S) : uI h rt S f = none := by
  show (if f ∈ S then _ else none) = none
  rw [if_neg hf]
theorem uI_small {S : List ν} (o : RtOk rt S) (f : ν) : small (uI h rt S f) := by
  by_cases hf : f ∈ S
  · rw [uI_sol o f hf]; exact Uf_small o hf
  · rw [uI_off hf]; exact fun _ h => nomatch h
/-- what the rounds keep -/
structure Kp (h : ν → Nat) (rt : ν → RL ν) (S : List ν) (k : Nat) (x : ν → OS) : Prop where
  lo : ∀ f ∈ S, leO (uI h rt S f) (x f)
  ag : ∀ f ∈ S, eqv k (x f) (uI h rt S f)
  off : ∀ f, f ∉ S → x f = none
  z : ∀ f ∈ S, h f = 0 → x f = zero
theorem zero_le (a : OS) : leO zero a := by
  cases a with
  | none => trivial
  | some s =>
    show Sc.lt s ⟨0, []⟩ = false
    unfold Sc.lt
    split
    · cases s.b <;> rfl
    · exact decide_eq_false (by show ¬ s.n < 0; omega)
theorem Kp.start {S : List ν} (o : RtOk rt S) : Kp h rt S 0 (x0 h S) := by
  refine ⟨fun f hf => ?_, fun f _ => eqv_zero _ _, fun f hf => ?_, fun f hf e => ?_⟩
  · unfold x0
    by_cases e : h f = 0
    · rw [if_pos ⟨hf, e⟩, uI_sol o f hf]; unfold Uf; rw [if_pos e]; exact leO_refl _
    · rw [if_neg (fun q => e q.2)]; cases uI h rt S f <;> trivial
  · unfold x0; rw [if_neg (fun q => hf q.1)]
  · unfold x0; rw [if_pos ⟨hf, e⟩]
theorem rs_step {S : List ν} (o : RtOk rt S) {k : Nat} {x : ν → OS} (K : Kp h rt S k x) : Kp h rt S (k + 1) (rsF h rt S x) := by
  have sol := uI_sol (h := h) o
  -- one store
  have one_ : ∀ (w : ν → OS), Kp h rt S k w → ∀ a ∈ S, Kp h rt S k (up w a (mn (w a) (Mm (h a) h w (rt a)))) ∧ eqv (k + 1) (mn (w a) (Mm (h a) h w (rt a))) (uI h rt S a) := by
    intro w Kw a ha
    have lo : leO (uI h rt S a) (mn (w a) (Mm (h a) h w (rt a))) := by
      refine le_mn (Kw.lo a ha) ?_
      rw [sol a ha]
      unfold Uf
      split
      · exact zero_le _
      · exact Mm_mono fun e he c => Kw.lo _ (o.cl a ha e he c)
    have ag : eqv (k + 1) (mn (w a) (Mm (h a) h w (rt a))) (uI h rt S a) := by
      by_cases e : h a = 0
      · rw [Kw.z a ha e, mn_of_le (zero_le _), sol a ha]; unfold Uf; rw [if_pos e]; exact eqv_refl _ _
      · have m : eqv (k + 1) (Mm (h a) h w (rt a)) (uI h rt S a) := by
          rw [sol a ha]; unfold Uf; rw [if_neg e]
          exact Mm_eqv (o.pos a ha) fun e he c => Kw.ag _ (o.cl a ha e he c)
        rcases m with m | ⟨m1, m2⟩
        · left; rw [m]; exact mn_of_ge (Kw.lo a ha)
        · right
          refine ⟨big_mn ?_ m1, m2⟩
          exact big_of_le (Kw.lo a ha) m2
    refine ⟨⟨fun f hf => ?_, fun f hf => ?_, fun f hf => ?_, fun f hf e => ?_⟩, ag⟩
    · by_cases e : f = a
      · subst e; rw [up_same]; exact lo
      · rw [up_ne e]; exact Kw.lo f hf
    · by_cases e : f = a
      · subst e; rw [up_same]; exact eqv_mono (Nat.le_succ k) ag
      · rw [up_ne e]; exact Kw.ag f hf
    · have ne : f ≠ a := fun z => hf (by rw [z]; exact ha)
      rw [up_ne ne]; exact Kw.off f hf
    · by_cases q : f = a
      · subst q; rw [up_same, Kw.z f hf e, mn_of_le (zero_le _)]
      · rw [up_ne q]; exact Kw.z f hf e
  have key : ∀ (r : List ν) (w : ν → OS), (∀ f ∈ r, f ∈ S) → Kp h rt S k w → (∀ f ∈ S, f ∉ r → eqv (k + 1) (w f) (uI h rt S f)) → Kp h rt S (k + 1) (r.foldl (fun x f => up x f (mn (x f) (Mm (h f) h x (rt f)))) w) := by
    intro r
    induction r with
    | nil => intro w _ Kw hd; exact ⟨Kw.lo, fun f hf => hd f hf (by simp), Kw.off, Kw.z⟩
    | cons a r ih =>
      intro w hr Kw hd
      have ha := hr a List.mem_cons_self
      obtain ⟨K1, ag⟩ := one_ w Kw a ha
      refine ih _ (fun f q => hr f (List.mem_cons_of_mem _ q)) K1 fun f hf hn => ?_
      show eqv (k + 1) (up w a (mn (w a) (Mm (h a) h w (rt a))) f) (uI h rt S f)
      by_cases e : f = a
      · subst e; rw [up_same]; exact ag
      · rw [up_ne e]; exact hd f hf fun q => (List.mem_cons.mp q).elim e hn
  exact key S x (fun _ q => q) K fun f hf hn => absurd hf hn
theorem Kp.iter {S : List ν} (o : RtOk rt S) : ∀ k, Kp h rt S k (iter (rsF h rt S) k (x0 h S))
  | 0 => Kp.start o
  | k + 1 => rs_step o (Kp.iter o k)
theorem Kp.small {S : List ν} (o : RtOk rt S) : ∀ k f, KM.small (KM.iter (rsF h rt S) k (x0 h S) f) := by
  intro k
  induction k with
  | zero =>
    intro f
    show KM.small (x0 h S f)
    unfold x0; split
    · exact small_zero
    · exact fun _ h => nomatch h
  | succ k ih =>
    have key : ∀ (r : List ν) (w : ν → OS), (∀ f ∈ r, f ∈ S) → (∀ f, KM.small (w f)) → ∀ f, KM.small (r.foldl (fun x f => up x f (mn (x f) (Mm (h f) h x (rt f)))) w f) := by
      intro r
      induction r with
      | nil => intro w _ hw f; exact hw f
      | cons a r ih =>
        intro w hr hw
        refine ih _ (fun f q => hr f (List.mem_cons_of_mem _ q)) fun f => ?_
        show KM.small (up w a (mn (w a) (Mm (h a) h w (rt a))) f)
        by_cases e : f = a
        · subst e; rw [up_same]; exact small_mn (hw f) (Mm_small (o.small f (hr f List.mem_cons_self)))
        · rw [up_ne e]; exact hw f
    exact key S _ (fun _ q => q) ih
/-- THE END of settled_scripts -/
theorem rs_end {S : List ν} (o : RtOk rt S) : iter (rsF h rt S) 1001 (x0 h S) = uI h rt S := by
  have K := Kp.iter (h := h) o 1001
  funext f
  by_cases hf : f ∈ S
  · exact eqv_small (Kp.small o 1001 f) (uI_small o f) (K.ag f hf)
  · rw [K.off f hf, uI_off hf]
theorem rs_stands {S : List ν} (o : RtOk rt S) : rsF h rt S (iter (rsF h rt S) 1001 (x0 h S)) = iter (rsF h rt S) 1001 (x0 h S) := by
  have K := Kp.iter (h := h) o 1002
  have e : rsF h rt S (iter (rsF h rt S) 1001 (x0 h S)) = uI h rt S := by
    funext f
    by_cases hf : f ∈ S
    · have := K.ag f hf
      exact eqv_small (Kp.small o 1002 f) (uI_small o f) (eqv_mono (by omega) this)
    · rw [uI_off hf]; exact K.off f hf
  rw [e, rs_end o]
end

/-! ### the law -/
/-- the greatest gains of a body -/
def tpl (z : ν) (wt : ν → Nat) (ent : ν → Bd ν → Bool) (R : ν → TL ν) : Bd ν → TL ν
  | .leaf _ => [(z, 0)]
  | .call f => [(z, 0), (f, 0)]
  | .test y n => [(z, 0)] ++ shiftT 0 (tpl z wt ent R y) ++ shiftT 0 (tpl z wt ent R n)
  | .push c b => [(z, 0)] ++ shiftT (wt c) (tpl z wt ent R b) ++ (if ent c b then shiftT 0 (R c) else [])
def pEn (z : ν) (wt : ν → Nat) (ent : ν → Bd ν → Bool) : Env ν (TL ν) → Arm ν (TL ν) → Bd ν → TL ν := fun _ R b => tpl z wt ent (fun c => (R c).2) b
theorem tpl_cg {z : ν} {wt : ν → Nat} {ent : ν → Bd ν → Bool} {R R' : ν → TL ν} : ∀ {b : Bd ν}, (∀ c ∈ b.pushes, R c = R' c) → tpl z wt ent R b = tpl z wt ent R' b := by
  intro b
  induction b with
  | leaf r => intro _; rfl
  | call f => intro _; rfl
  | test y n iy iN =>
    intro g
    simp only [tpl]
    rw [iy fun c q => g c (by simp [Bd.pushes, q]), iN fun c q => g c (by simp [Bd.pushes, q])]
  | push c b ib =>
    intro g
    simp only [tpl]
    rw [ib fun d q => g d (by simp [Bd.pushes, q]), g c (by simp [Bd.pushes])]
theorem pEn_cg {z : ν} {wt : ν → Nat} {ent : ν → Bd ν → Bool} : Cg (pEn z wt ent) := fun _ _ R R' b _ h => tpl_cg fun c q => by rw [h c q]
section
variable (T : Tb ν) (z : ν) (wt : ν → Nat) (C : Env ν B2)
def parms : Arm ν (TL ν) := armsC (pEn z wt (entC T C)) [] T fun _ => []
/-- THE GAINS of a function -/
def gns (b : Bd ν) : TL ν := tpl z wt (entC T C) (fun c => (parms T z wt C c).2) b
variable {T z wt C}
theorem parms_ok (o : T.Ok) {c : ν} (hc : c ∈ T.cs) : (parms T z wt C c).2 = gns T z wt C (T.am c) := by
  have := armsC_ok (en := pEn z wt (entC T C)) (e0 := []) pEn_cg o (fun _ => []) c hc
  unfold parms
  rw [this]; rfl
theorem gns_vis (o : T.Ok) {b : Bd ν} (hbp : ∀ c ∈ b.pushes, c ∈ T.cs) : ∀ e ∈ gns T z wt C b, e.1 = z ∨ Vis T (entC T C) b (.call e.1) := by
  have body : ∀ (R : ν → TL ν) (b : Bd ν), (∀ c ∈ b.pushes, ∀ e ∈ R c, e.1 = z ∨ Vis T (entC T C) (T.am c) (.call e.1)) → ∀ e ∈ tpl z wt (entC T C) R b, e.1 = z ∨ Vis T (entC T C) b (.call e.1) := by
    intro R b
    induction b with
    | leaf r => intro _ e he; rw [List.mem_singleton.mp he]; exact .inl rfl
    | call f =>
      intro _ e he
      rcases List.mem_cons.mp he with rfl | he
      · exact .inl rfl
      · rw [List.mem_singleton.mp he]; exact .inr .here
    | test y n iy iN =>
      intro h e he
      rcases List.mem_append.mp he with q | q
      · rcases List.mem_append.mp q with q | q
        · rw [List.mem_singleton.mp q]; exact .inl rfl
        · obtain ⟨e', he', rfl⟩ := List.mem_map.mp q
          exact (iy (fun c q => h c (by simp [Bd.pushes, q])) e' he').imp id fun v => Vis.trans (.ty .here) v
      · obtain ⟨e', he', rfl⟩ := List.mem_map.mp q
        exact (iN (fun c q => h c (by simp [Bd.pushes, q])) e' he').imp id fun v => Vis.trans (.tn .here) v
    | push c b ib =>
      intro h e he
      rcases List.mem_append.mp he with q | q
      · rcases List.mem_append.mp q with q | q
        · rw [List.mem_singleton.mp q]; exact .inl rfl
        · obtain ⟨e', he', rfl⟩ := List.mem_map.mp q
          exact (ib (fun d q => h d (by simp [Bd.pushes, q])) e' he').imp id fun v => Vis.trans (.pb .here) v
      · cases en : entC T C c b with
        | false => rw [en] at q; cases q
        | true =>
          rw [en, if_pos rfl] at q
          obtain ⟨e', he', rfl⟩ := List.mem_map.mp q
          exact (h c (by simp [Bd.pushes]) e' he').imp id fun v => Vis.trans (.pa .here en) v
  have key : ∀ l : List ν, Ord T.am l → (∀ c ∈ l, c ∈ T.cs) → ∀ c ∈ l, ∀ e ∈ (parms T z wt C c).2, e.1 = z ∨ Vis T (entC T C) (T.am c) (.call e.1) := by
    intro l
    induction l with
    | nil => intro _ _ c hc; cases hc
    | cons c0 l ih =>
      intro hO hs c hc
      have ih' := ih hO.2.2 (fun d q => hs d (List.mem_cons_of_mem _ q))
      rcases List.mem_cons.mp hc with rfl | q
      · rw [parms_ok o (hs c List.mem_cons_self)]
        exact body _ (T.am c) fun d hd => ih' d (hO.1 d hd)
      · exact ih' c q
  exact body _ b fun c q => key T.cs o.ord (fun _ h => h) c (hbp c q)
variable (T z wt C)
abbrev gnF : ν → TL ν := fun f => gns T z wt C (T.bd f)
abbrev rtF : ν → RL ν := fun f => rts T z wt (lst T) (lA T) (T.bd f)
open Classical in
/-- the heights that heights_from finds over the functions S -/
noncomputable def hgt (S : List ν) : Option (ν → Nat) := if turnF (gnF T z wt C) S (hI (gnF T z wt C) S S.length) = hI (gnF T z wt C) S S.length then some (hI (gnF T z wt C) S S.length) else none
/-- the height of f, its script; S f: f and what it calls -/
noncomputable def hOf (S : ν → List ν) (f : ν) : Option Nat := (hgt T z wt C (S f)).map fun h => h f
noncomputable def xOf (S : ν → List ν) (f : ν) : OS := (hgt T z wt C (S f)).bind fun h => uI h (rtF T z wt) (S f) f
variable {T z wt C}
/-- THE LAW, in plain Lean -/
theorem law_plain (o : T.Ok) (nz : z ∉ T.fs) {l : List ν} (hl : ∀ f, f ∈ l ↔ f ∈ T.fs) (nd : l.Nodup) (hC : C = cst T l) {S : ν → List ν} (hS : ∀ f ∈ T.fs, (S f).Nodup ∧ ∀ t, t ∈ S f ↔ InS T (entC T C) f t) {f : ν} (hf : f ∈ T.fs) {n : Nat} (hn : hOf T z wt C S f = some n) :
    xOf T z wt C S f = tig T wt (lst T) (lA T) (hOf T z wt C S) (xOf T z wt C S) (T.bd f) n := by
  have fc : ∀ f ∈ T.fs, C f = cen C (carms T C) (T.bd f) := by rw [hC]; exact cst_fix hl nd
  have sfs : ∀ f ∈ T.fs, ∀ t ∈ S f, t ∈ T.fs := fun f hf t ht => InS.fs o hf (((hS f hf).2 t).mp ht)
  have self : ∀ f ∈ T.fs, f ∈ S f := fun f hf => ((hS f hf).2 f).mpr (.inl rfl)
  have sub : ∀ f ∈ T.fs, ∀ g ∈ S f, ∀ t ∈ S g, t ∈ S f := fun f hf g hg t ht => ((hS f hf).2 t).mpr (InS.sub (((hS f hf).2 g).mp hg) (((hS g (sfs f hf g hg)).2 t).mp ht))
  have stp : ∀ f ∈ T.fs, ∀ g ∈ S f, ∀ t, Vis T (entC T C) (T.bd g) (.call t) → t ∈ S f := fun f hf g hg t v => ((hS f hf).2 t).mpr (InS.step (((hS f hf).2 g).mp hg) v)
  have cl : ∀ f ∈ T.fs, Cl (gnF T z wt C) z (S f) := fun f hf i hi p hp => (gns_vis o (o.bp i (sfs f hf i hi)) p hp).imp id fun v => stp f hf i hi p.1 v
  have nzS : ∀ f ∈ T.fs, z ∉ S f := fun f hf q => nz (sfs f hf z q)
  have rok : ∀ f ∈ T.fs, RtOk (rtF T z wt) (S f) := fun f hf => ⟨fun g hg => (rts_good o (o.bp g (sfs f hf g hg))).pos, fun g hg => (rts_good o (o.bp g (sfs f hf g hg))).small, fun g hg e he w => stp f hf g hg _ (rts_vis o fc (o.bc g (sfs f hf g hg)) (o.bp g (sfs f hf g hg)) e he w)⟩
  have hgt_some : ∀ f, ∀ h, hgt T z wt C (S f) = some h → h = hI (gnF T z wt C) (S f) (S f).length ∧ turnF (gnF T z wt C) (S f) h = h := fun f h e => by
    unfold hgt at e
    split at e
    · rename_i q; cases e; exact ⟨rfl, q⟩
    · cases e
  have hgt_of : ∀ f, turnF (gnF T z wt C) (S f) (hI (gnF T z wt C) (S f) (S f).length) = hI (gnF T z wt C) (S f) (S f).length → hgt T z wt C (S f) = some (hI (gnF T z wt C) (S f) (S f).length) := fun f q => by
    unfold hgt; rw [if_pos q]
  obtain ⟨h, hh, hn'⟩ : ∃ h, hgt T z wt C (S f) = some h ∧ h f = n := by
    unfold hOf at hn
    obtain ⟨h, a, b⟩ := Option.map_eq_some_iff.mp hn
    exact ⟨h, a, b⟩
  obtain ⟨eh, sh⟩ := hgt_some f h hh
  have ph := stand_post sh
  -- the heights of what f calls
  have hg : ∀ g ∈ S f, ∃ k, hgt T z wt C (S g) = some k ∧ ∀ t ∈ S g, k t = h t := fun g hg => by
    have hgf := sfs f hf g hg
    have pg : Post (gnF T z wt C) (S g) h := fun i hi => ph i (sub f hf g hg i hi)
    have st := hI_stands (hS g hgf).1 (cl g hgf) (nzS g hgf) ⟨h, pg⟩
    refine ⟨_, hgt_of g st, fun t ht => Nat.le_antisymm ?_ ?_⟩
    · exact hI_below (cl g hgf) pg (nzS g hgf) _ t ht
    · rw [eh]
      exact hI_below (C := S g) (cl g hgf) (stand_post st) (nzS f hf) _ t ht
  -- their scripts
  have xg : ∀ g ∈ S f, hOf T z wt C S g = some (h g) ∧ xOf T z wt C S g = uI h (rtF T z wt) (S f) g := fun g hg' => by
    obtain ⟨k, hk, ek⟩ := hg g hg'
    have hgf := sfs f hf g hg'
    have sg := self g hgf
    refine ⟨by unfold hOf; rw [hk]; show some (k g) = _; rw [ek g sg], ?_⟩
    unfold xOf
    rw [hk]
    show uI k (rtF T z wt) (S g) g = _
    have s1 := uI_sol (h := k) (rok g hgf)
    have s2 := uI_sol (h := h) (rok f hf)
    have s2' : Sol k (rtF T z wt) (S g) (uI h (rtF T z wt) (S f)) := fun t ht => by
      rw [s2 t (sub f hf g hg' t ht)]
      unfold Uf
      rw [ek t ht]
      have m : ∀ need (L : RL ν), (∀ e ∈ L, e.1.w = .call → e.1.n ∈ S g) → Mm need h (uI h (rtF T z wt) (S f)) L = Mm need k (uI h (rtF T z wt) (S f)) L := by
        intro need L
        induction L with
        | nil => intro _; rfl
        | cons e L ih =>
          intro q
          show mn (ctr need h _ e.1 (some e.2)) (Mm need h _ L) = mn (ctr need k _ e.1 (some e.2)) (Mm need k _ L)
          rw [ih fun a b => q a (List.mem_cons_of_mem _ b)]
          congr 1
          unfold ctr
          split
          · rfl
          · rename_i w
            rw [ek _ (q e List.mem_cons_self w)]
          · rfl
      rw [m _ _ ((rok g hgf).cl t ht)]
    exact s1.uniq (rok g hgf) s2' g sg
  have sF := self f hf
  rw [(xg f sF).2, uI_sol (h := h) (rok f hf) f sF]
  unfold Uf
  by_cases e : h f = 0
  · rw [if_pos e]
    have : n = 0 := by omega
    rw [this]
    exact (tigB_zero _).symm
  · rw [if_neg e]
    have e2 := tig_eq (z := z) (wt := wt) o fc (hK := hOf T z wt C S) (xK := xOf T z wt C S) (h := h) (x := uI h (rtF T z wt) (S f)) (o.bc f hf) (o.bp f hf) (fun g v => xg g (stp f hf f sF g v)) (h f) (by omega)
    rw [← hn']
    exact e2
/-- no height, no script -/
theorem law_none {S : ν → List ν} {f : ν} (h : hOf T z wt C S f = none) : xOf T z wt C S f = none := by
  unfold hOf at h
  unfold xOf
  rw [Option.map_eq_none_iff.mp h]; rfl
end
end KM

namespace KM
section
variable {ν : Type} [DecidableEq ν] {tp : ν → TL ν} {z : ν} {S S' : List ν}
theorem post_same (e : ∀ t, t ∈ S ↔ t ∈ S') {x : ν → Nat} (h : Post tp S x) : Post tp S' x := fun i hi => h i ((e i).mpr hi)
theorem cl_same (e : ∀ t, t ∈ S ↔ t ∈ S') (h : Cl tp z S) : Cl tp z S' := fun i hi p hp => by
  have := h i ((e i).mpr hi) p hp
  rw [e p.1] at this; exact this
theorem hI_off {k : Nat} {i : ν} (h : i ∉ S) : hI tp S k i = 0 := by
  induction k with
  | zero => rfl
  | succ k ih => exact (turn_off h).trans ih
theorem hI_same (nd' : S'.Nodup) (cl : Cl tp z S) (nz : z ∉ S) (e : ∀ t, t ∈ S ↔ t ∈ S') (st : turnF tp S (hI tp S S.length) = hI tp S S.length) :
    turnF tp S' (hI tp S' S'.length) = hI tp S' S'.length ∧ hI tp S' S'.length = hI tp S S.length := by
  have nz' : z ∉ S' := fun q => nz ((e z).mpr q)
  have cl' := cl_same e cl
  have p := stand_post st
  have p' := post_same e p
  have st' := hI_stands nd' cl' nz' ⟨_, p'⟩
  refine ⟨st', funext fun i => ?_⟩
  by_cases hi : i ∈ S
  · exact Nat.le_antisymm (hI_below cl p nz' _ i hi) (hI_below cl' (stand_post st') nz _ i ((e i).mp hi))
  · rw [hI_off hi, hI_off fun q => hi ((e i).mpr q)]
end
section
variable {ν : Type} [DecidableEq ν] {T : Tb ν} {z : ν} {wt : ν → Nat} {C : Env ν B2} {S S' : List ν}
theorem hgt_same (nd : S.Nodup) (nd' : S'.Nodup) (cl : Cl (gnF T z wt C) z S) (nz : z ∉ S) (e : ∀ t, t ∈ S ↔ t ∈ S') : hgt T z wt C S = hgt T z wt C S' := by
  unfold hgt
  by_cases st : turnF (gnF T z wt C) S (hI (gnF T z wt C) S S.length) = hI (gnF T z wt C) S S.length
  · obtain ⟨s1, s2⟩ := hI_same nd' cl nz e st
    rw [if_pos st, if_pos s1, s2]
  · by_cases st' : turnF (gnF T z wt C) S' (hI (gnF T z wt C) S' S'.length) = hI (gnF T z wt C) S' S'.length
    · exact absurd (hI_same nd (cl_same e cl) (fun q => nz ((e z).mpr q)) (fun t => (e t).symm) st').1 st
    · rw [if_neg st, if_neg st']
theorem uI_same {h : ν → Nat} {rt : ν → RL ν} (e : ∀ t, t ∈ S ↔ t ∈ S') : uI h rt S = uI h rt S' := by
  unfold uI
  congr 1
  funext x f
  by_cases hf : f ∈ S
  · rw [if_pos hf, if_pos ((e f).mp hf)]
  · rw [if_neg hf, if_neg fun q => hf ((e f).mpr q)]
/-- the loop of turns, when a turn changes nothing -/
theorem hI_stop {k n : Nat} (h : turnF tp S (hI tp S k) = hI tp S k) (hk : k ≤ n) : hI tp S n = hI tp S k := by
  induction n with
  | zero => rw [Nat.le_zero.mp hk]
  | succ n ih =>
    by_cases q : k = n + 1
    · rw [q]
    · show turnF tp S (hI tp S n) = _
      rw [ih (by omega), h]
end
end KM

namespace KM
/-! the order of the cases: pile of those that wait for none -/
section
variable {ν : Type} [DecidableEq ν]
def lack (ls : ν → List ν) (x : ν) (done : List ν) : Nat := ((ls x).filter fun t => decide (t ∉ done)).length
structure OrdI (cs : List ν) (ls : ν → List ν) (W : ν → Nat) (R : List ν) (at_ : Nat) : Prop where
  nd : R.Nodup
  sub : ∀ x ∈ R, x ∈ cs
  w : ∀ x ∈ cs, W x = lack ls x (R.take at_)
  z : ∀ x ∈ cs, x ∈ R ↔ W x = 0
  top : ∀ (i : Nat) x, R[i]? = some x → ∀ t ∈ ls x, t ∈ R.take i
/-- within the turn: us the users of R's at_-th, j of them done -/
structure OrdJ (cs : List ν) (ls : ν → List ν) (P : List ν) (us : List ν) (at_ j : Nat) (W : ν → Nat) (R : List ν) : Prop where
  nd : R.Nodup
  sub : ∀ x ∈ R, x ∈ cs
  pre : R.take (at_ + 1) = P
  w : ∀ x ∈ cs, W x = if x ∈ us.take j then lack ls x P else lack ls x (P.take at_)
  z : ∀ x ∈ cs, x ∈ R ↔ W x = 0
  top : ∀ (i : Nat) x, R[i]? = some x → ∀ t ∈ ls x, t ∈ R.take i
variable {cs : List ν} {ls : ν → List ν} {W : ν → Nat} {R : List ν} {at_ : Nat}
theorem lack_nil (x : ν) : lack ls x [] = (ls x).length := by
  unfold lack
  rw [List.filter_eq_self.mpr (by intro t _; simp)]
theorem OrdI.start (h : ∀ x ∈ cs, W x = (ls x).length) (hcs : cs.Nodup) : OrdI cs ls W (cs.filter fun x => decide (ls x = [])) 0 where
  nd := hcs.sublist List.filter_sublist
  sub := fun x hx => (List.mem_filter.mp hx).1
  w := fun x hx => by rw [List.take_zero, lack_nil]; exact h x hx
  z := fun x hx => by
    rw [List.mem_filter, h x hx]
    simp only [decide_eq_true_eq, List.length_eq_zero_iff]
    exact ⟨fun q => q.2, fun q => ⟨hx, q⟩⟩
  top := fun i x hi t ht => by
    have := (List.mem_filter.mp (List.mem_of_getElem? hi)).2
    have e : ls x = [] := of_decide_eq_true this
    rw [e] at ht; cases ht
theorem lack_same {x : ν} {P : List ν} {t : ν} (h : t ∉ ls x) : lack ls x (P ++ [t]) = lack ls x P := by
  unfold lack
  congr 1
  refine List.filter_congr fun u hu => ?_
  have : u ≠ t := fun e => h (e ▸ hu)
  simp [this]
theorem lack_less {x : ν} {P : List ν} {t : ν} (hn : (ls x).Nodup) (h : t ∈ ls x) (hP : t ∉ P) : lack ls x (P ++ [t]) + 1 = lack ls x P := by
  unfold lack
  generalize ls x = l at hn h
  induction l with
  | nil => cases h
  | cons a l ih =>
    obtain ⟨na, hn⟩ := List.nodup_cons.mp hn
    rcases List.mem_cons.mp h with rfl | h
    · have e : (l.filter fun u => decide (u ∉ P ++ [t])) = l.filter fun u => decide (u ∉ P) := List.filter_congr fun u hu => by
        have : u ≠ t := fun e => na (e ▸ hu)
        simp [this]
      rw [List.filter_cons_of_neg (by simp), List.filter_cons_of_pos (by simp [hP]), e]
      rfl
    · have hne : a ≠ t := fun e => na (e ▸ h)
      have ih := ih hn h
      by_cases q : a ∈ P
      · rw [List.filter_cons_of_neg (by simp [q]), List.filter_cons_of_neg (by simp [q])]; exact ih
      · rw [List.filter_cons_of_pos (by simp [q, hne]), List.filter_cons_of_pos (by simp [q])]
        simp only [List.length_cons]; omega
theorem OrdI.open_ (I : OrdI cs ls W R at_) {us : List ν} {t : ν} (ht : R[at_]? = some t) : OrdJ cs ls (R.take (at_ + 1)) us at_ 0 W R where
  nd := I.nd
  sub := I.sub
  pre := rfl
  w := fun x hx => by
    rw [List.take_zero, if_neg (by simp), List.take_take, show min at_ (at_ + 1) = at_ by omega]
    exact I.w x hx
  z := I.z
  top := I.top
theorem take_at {R : List ν} {t : ν} {at_ : Nat} (ht : R[at_]? = some t) : R.take (at_ + 1) = R.take at_ ++ [t] := by rw [List.take_add_one, ht]; rfl
theorem OrdJ.step {P us : List ν} {j : Nat} {t x : ν} (J : OrdJ cs ls P us at_ j W R) (hP : P = P.take at_ ++ [t]) (hnd : ∀ x, (ls x).Nodup) (hus : us.Nodup) (hmem : ∀ y, y ∈ us ↔ y ∈ cs ∧ t ∈ ls y) (hj : us[j]? = some x) :
    1 ≤ W x ∧ OrdJ cs ls P us at_ (j + 1) (fun y => if y = x then W x - 1 else W y) (if W x - 1 = 0 then R ++ [x] else R) := by
  have hx : x ∈ cs ∧ t ∈ ls x := (hmem x).mp (List.mem_of_getElem? hj)
  have nP : P.Nodup := by rw [← J.pre]; exact J.nd.sublist (List.take_sublist _ _)
  have ntP : t ∉ P.take at_ := fun q => by
    rw [hP] at nP
    exact (List.nodup_append.mp nP).2.2 t q t (by simp) rfl
  have hxj : x ∉ us.take j := fun m => by
    obtain ⟨k, hk, ek⟩ := List.mem_iff_getElem.mp m
    have hk2 : k < j := by rw [List.length_take] at hk; omega
    rw [List.getElem_take] at ek
    obtain ⟨hj1, ej⟩ := List.getElem?_eq_some_iff.mp hj
    have := (List.getElem_inj hus).mp (ek.trans ej.symm)
    omega
  have wx : W x = lack ls x (P.take at_) := by rw [J.w x hx.1, if_neg hxj]
  have ll : lack ls x P + 1 = lack ls x (P.take at_) := by
    have := lack_less (hnd x) hx.2 ntP
    rw [← hP] at this
    exact this
  have tk : us.take (j + 1) = us.take j ++ [x] := by rw [List.take_add_one, hj]; rfl
  have nR : x ∉ R := fun q => by have := (J.z x hx.1).mp q; omega
  refine ⟨by omega, ?_⟩
  by_cases e : W x - 1 = 0
  · rw [if_pos e]
    refine ⟨?_, fun y hy => ?_, ?_, fun y hy => ?_, fun y hy => ?_, fun i y hi u hu => ?_⟩
    · exact List.nodup_append.mpr ⟨J.nd, by simp, fun a ha b hb => by rw [List.mem_singleton.mp hb]; exact fun q => nR (q ▸ ha)⟩
    · rcases List.mem_append.mp hy with q | q
      · exact J.sub y q
      · rw [List.mem_singleton.mp q]; exact hx.1
    · have hl : at_ + 1 ≤ R.length := by
        have h1 : P.length = min (at_ + 1) R.length := by rw [← J.pre, List.length_take]
        have h2 : P.length = (P.take at_).length + 1 := by
          have := congrArg List.length hP
          rw [List.length_append] at this; exact this
        rw [List.length_take] at h2
        omega
      rw [List.take_append_of_le_length hl]; exact J.pre
    · show (if y = x then W x - 1 else W y) = _
      rw [tk]
      by_cases q : y = x
      · subst q; rw [if_pos rfl, if_pos (by simp)]; omega
      · rw [if_neg q, J.w y hy]
        simp [q]
    · show y ∈ R ++ [x] ↔ (if y = x then W x - 1 else W y) = 0
      by_cases q : y = x
      · subst q; rw [if_pos rfl]; simp [e]
      · rw [if_neg q, ← J.z y hy]; simp [q]
    · rcases Nat.lt_or_ge i R.length with q | q
      · rw [List.getElem?_append_left q] at hi
        rw [List.take_append_of_le_length (Nat.le_of_lt q)]
        exact J.top i y hi u hu
      · rw [List.getElem?_append_right q] at hi
        have e0 : i - R.length = 0 := by
          rcases Nat.eq_zero_or_pos (i - R.length) with z | z
          · exact z
          · rw [List.getElem?_eq_none (by simp; omega)] at hi; cases hi
        rw [e0] at hi
        cases hi
        have ei : i = R.length := by omega
        rw [ei, List.take_append_of_le_length (Nat.le_refl _), List.take_length]
        -- every lead of x stands in P
        have lz : lack ls x P = 0 := by omega
        have up : u ∈ P := by
          have : (ls x).filter (fun t => decide (t ∉ P)) = [] := List.length_eq_zero_iff.mp lz
          have h := List.filter_eq_nil_iff.mp this u hu
          simpa using h
        rw [← J.pre] at up
        exact List.mem_of_mem_take up
  · rw [if_neg e]
    refine ⟨J.nd, J.sub, J.pre, fun y hy => ?_, fun y hy => ?_, J.top⟩
    · show (if y = x then W x - 1 else W y) = _
      rw [tk]
      by_cases q : y = x
      · subst q; rw [if_pos rfl, if_pos (by simp)]; omega
      · rw [if_neg q, J.w y hy]
        simp [q]
    · show y ∈ R ↔ (if y = x then W x - 1 else W y) = 0
      by_cases q : y = x
      · subst q; rw [if_pos rfl]; exact ⟨fun z => absurd z nR, fun z => absurd z e⟩
      · rw [if_neg q]; exact J.z y hy
theorem OrdJ.close {P us : List ν} {t : ν} (J : OrdJ cs ls P us at_ us.length W R) (hP : P = P.take at_ ++ [t]) (hmem : ∀ y, y ∈ us ↔ y ∈ cs ∧ t ∈ ls y) : OrdI cs ls W R (at_ + 1) where
  nd := J.nd
  sub := J.sub
  w := fun x hx => by
    rw [J.w x hx, List.take_length, J.pre]
    by_cases q : x ∈ us
    · rw [if_pos q]
    · rw [if_neg q]
      have nt : t ∉ ls x := fun z => q ((hmem x).mpr ⟨hx, z⟩)
      have := lack_same (P := P.take at_) nt
      rw [← hP] at this
      exact this.symm
  z := J.z
  top := J.top
/-- with no ring all are put in order -/
theorem OrdI.all {am : ν → Bd ν} (I : OrdI cs ls W R at_) (h : R.length ≤ at_) {l0 : List ν} (o : Ord am l0) (hm : ∀ x, x ∈ cs ↔ x ∈ l0) (hl : ∀ x t, t ∈ ls x ↔ t ∈ (am x).pushes) : ∀ x ∈ cs, x ∈ R := by
  have tk : R.take at_ = R := List.take_of_length_le h
  have key : ∀ l : List ν, Ord am l → (∀ x ∈ l, x ∈ cs) → ∀ x ∈ l, x ∈ R := by
    intro l
    induction l with
    | nil => intro _ _ x hx; cases hx
    | cons a l ih =>
      intro ho hs
      have ih := ih ho.2.2 fun x q => hs x (List.mem_cons_of_mem _ q)
      intro x hx
      rcases List.mem_cons.mp hx with rfl | hx
      · refine (I.z x (hs x List.mem_cons_self)).mpr ?_
        rw [I.w x (hs x List.mem_cons_self), tk]
        unfold lack
        rw [List.filter_eq_nil_iff.mpr fun t ht => by simpa using ih t (ho.1 t ((hl x t).mp ht))]
        rfl
      · exact ih x hx
  exact fun x hx => key l0 o (fun y q => (hm y).mpr q) x ((hm x).mp hx)
end
end KM

namespace K52
open PySem PySem.Spec PyProof.Rows L2
section
variable {X : Cx} {CX : CXT} {C f : Addr} {fd : FuncData} {ps : List Str} {n : Nat} {sp : Sp} {E : XK}
theorem ins_look {pins : List (Addr × Obj)} {σ : L2.St} {H : Hp} {s : Shared} {a dx : Addr} {fs : List (Str × V)} (I : Inv X pins σ H s) (h : H a = some (.ins C dx fs)) : ∃ ox od, PySem.W.InstAt s.heap a ox C od := by
  obtain ⟨mA, J, _⟩ := ins_get I.hok h
  obtain ⟨od, J, _⟩ := J.look
  exact ⟨_, od, J⟩
/-- x op y of two instances of C, by C's own def -/
def rOwn2 (C : Addr) (sp : Sp) (E : XK) : R2 := fun x y H Q => ∃ a dx fs b dy gs, x = .ref a ∧ y = .ref b ∧ H a = some (.ins C dx fs) ∧ H b = some (.ins C dy gs) ∧ sp [x, y] H Q E
theorem op_ownCmp {op : CmpOp} (hop : ∀ a b, compareOp op a b = richCompare op a b) (hs : PySem.W.findIn X.K (.ref C) (cmpInfo op).2.1 = some (some (.ref f))) (hf : PySem.W.isFn X.K (.ref f) = true) (F : FnOk X.prog X.w X.K X.mg X.base CX n f fd ps sp)
    (hb : Binds X.K fd ps []) (hr : Room n X.A) (hx : Passes CX X E) : OpR X (compareOp op) (rOwn2 C sp E) := by
  intro pins s σ H x y v u Q I rx ry h
  obtain ⟨a, dx, fs, b, dy, gs, rfl, rfl, ha, hb', q⟩ := h
  cases rx
  cases ry
  obtain ⟨_, _, J⟩ := ins_look I ha
  obtain ⟨_, _, J'⟩ := ins_look I hb'
  obtain ⟨m, hF⟩ := I.fr
  rw [hop]
  refine PySem.W.cmp_K (op := op) (tb := .ref C) hr.units0 hF I.ok.mod.kin J J'.type (by simp [PySem.W.notFirst]) hs hf ?_
  refine wpAny_mono (run_fn (ds := []) (dvs := []) (us := [.ref a, .ref b]) (vs := [.ref a, .ref b]) F hr hb .nil hx I (.cons rfl (.cons rfl .nil)) q) (fun w s' z => ?_) fun _ _ x => x
  obtain ⟨z', H', I', rz, qz⟩ := z
  exact SlX.cmpback rz ⟨z', H', I', rz, qz⟩
theorem op_ownBin {op : Operator} (hc : PySem.W.selfFirst X.K C = true) (hs : PySem.W.findIn X.K (.ref C) (PySem.dunder op.info.2) = some (some (.ref f))) (hf : PySem.W.isFn X.K (.ref f) = true) (F : FnOk X.prog X.w X.K X.mg X.base CX n f fd ps sp)
    (hb : Binds X.K fd ps []) (hr : Room n X.A) (hx : Passes CX X E) : OpR X (binaryOp op) (rOwn2 C sp E) := by
  intro pins s σ H x y v u Q I rx ry h
  obtain ⟨a, dx, fs, b, dy, gs, rfl, rfl, ha, hb', q⟩ := h
  cases rx
  cases ry
  obtain ⟨_, _, J⟩ := ins_look I ha
  obtain ⟨_, _, J'⟩ := ins_look I hb'
  obtain ⟨m, hF⟩ := I.fr
  refine PySem.W.binop_K (op := op) hF I.ok.mod.kin J J'.type hc hs hf ?_
  refine wpAny_mono (run_fn (ds := []) (dvs := []) (us := [.ref a, .ref b]) (vs := [.ref a, .ref b]) F hr hb .nil hx I (.cons rfl (.cons rfl .nil)) q) (fun w s' z => ?_) fun _ _ x => x
  obtain ⟨z', H', I', rz, qz⟩ := z
  exact SlX.cmpback rz ⟨z', H', I', rz, qz⟩
/-- v in x, x an instance of C with its own __contains__ that hands back a bool -/
def rOwnIn (C : Addr) (sp : Sp) (E : XK) (neg : Bool) : R2 := fun v x H Q => ∃ a dx fs, x = .ref a ∧ H a = some (.ins C dx fs) ∧ sp [x, v] H (fun z H' => ∃ b, z = .bl b ∧ Q (.bl (if neg then !b else b)) H') E
theorem op_ownNotIn (hs : PySem.W.findIn X.K (.ref C) "__contains__" = some (some (.ref f))) (hf : PySem.W.isFn X.K (.ref f) = true) (F : FnOk X.prog X.w X.K X.mg X.base CX n f fd ps sp)
    (hb : Binds X.K fd ps []) (hr : Room n X.A) (hx : Passes CX X E) : OpR X (compareOp .NotIn) (rOwnIn C sp E true) := by
  intro pins s σ H x y v u Q I rx ry h
  obtain ⟨a, dx, fs, rfl, ha, q⟩ := h
  cases ry
  obtain ⟨_, _, J⟩ := ins_look I ha
  obtain ⟨m, hF⟩ := I.fr
  refine PySem.W.notIn_K hF I.ok.mod.kin J hs hf ?_
  refine wpAny_mono (run_fn (ds := []) (dvs := []) (us := [.ref a, v]) (vs := [.ref a, x]) F hr hb .nil hx I (.cons rfl (.cons rx .nil)) q) (fun w s' z => ?_) fun _ _ x => x
  obtain ⟨z', H', I', rz, b, rfl, qz⟩ := z
  cases rz
  exact wpAny_truthy_bool ⟨.bl (!b), H', I', rfl, qz⟩
/-- x[v], x an instance of C with its own __getitem__ -/
def rOwnItem (C : Addr) (sp : Sp) (E : XK) : R2 := fun x v H Q => ∃ a dx fs, x = .ref a ∧ H a = some (.ins C dx fs) ∧ sp [x, v] H Q E
end
end K52

namespace K52
open PySem PySem.Spec PyProof.Rows L2
/-! ### match over tuples -/
def setAll : List Nat → List V → L2.St → L2.St
  | i :: is, v :: vs, σ => setAll is vs (σ.set i (some v))
  | _, _, σ => σ
inductive MCaps (X : Cx) : List Pattern → List Nat → Prop where
  | nil : MCaps X [] []
  | cons {i : Nat} {x : Str} {pos : Pos} {ps : List Pattern} {is : List Nat} : X.N[i]? = some x → X.env.scope.names.lookup x = some .local → MCaps X ps is → MCaps X (.MatchAs none (some x) pos :: ps) (i :: is)
def capNames : List Pattern → List Str
  | .MatchAs none (some x) _ :: ps => x :: capNames ps
  | _ => []
section
variable {X : Cx} {pins : List (Addr × Obj)} {σ : L2.St} {H : Hp} {s : Shared}
theorem MCaps.each {M : Model} {A : Around} {E : Value → Shared → Prop} {caps : List Pattern} {is : List Nat} (c : MCaps X caps is) : ∀ {us : List Value} {Q : Option (List (Str × Value)) → Shared → Prop} {s : Shared}, us.length = caps.length → Q (some ((capNames caps).zip us)) s → wpAny M A (matchEach caps X.env us) Q E s := by
  induction c with
  | nil =>
    intro us Q s _ h
    exact wpAny_matchEach_nil h
  | @cons i x pos ps is h1 h2 c ih =>
    intro us Q s hl h
    cases us with
    | nil => cases hl
    | cons u us =>
      refine wpAny_matchEach_cons (wpAny_matchPattern_Capture ?_)
      dsimp only
      refine ih (by simpa using hl) ?_
      exact h
theorem MCaps.store {M : Model} {A : Around} {E : Value → Shared → Prop} {caps : List Pattern} {is : List Nat} (hN : X.N.Nodup) (c : MCaps X caps is) : ∀ {us : List Value} {vs : List V} {σ : L2.St} {s : Shared} {Q : Unit → Shared → Prop}, Inv X pins σ H s → Vals vs us → us.length = caps.length →
    (∀ s', Inv X pins (setAll is vs σ) H s' → Q () s') → wpAny M A (assignInOrder (((capNames caps).zip us).map fun (n, _) => bindName X.env n) (((capNames caps).zip us).map (·.2))) Q E s := by
  induction c with
  | nil =>
    intro us vs σ s Q I r hl h
    cases us with
    | nil => cases r; exact wpAny_assignInOrder_none (h s I)
    | cons u us => cases hl
  | @cons i x pos ps is h1 h2 c ih =>
    intro us vs σ s Q I r hl h
    cases us with
    | nil => cases hl
    | cons u us =>
      cases r with
      | @cons v _ vs _ rv r =>
        refine wpAny_assignInOrder_more ?_
        unfold bindName
        refine wpAny_bind (wpAny_holding (wpAny_point ?_))
        refine wpAny_bind (store_ok I hN h1 (.inl h2) rv (fun s' I' => wpAny_point ?_) (.inr h2))
        exact ih I' r (by simpa using hl) h
theorem MCaps.len {caps : List Pattern} {is : List Nat} (c : MCaps X caps is) : caps.length = is.length := by
  induction c with
  | nil => rfl
  | cons _ _ _ ih => simp [ih]
theorem MCaps.nostar {caps : List Pattern} {is : List Nat} (c : MCaps X caps is) : caps.findIdx? (·.isStar) = none := by
  induction c with
  | nil => rfl
  | cons _ _ _ ih =>
    rw [List.findIdx?_cons, show (Pattern.isStar (.MatchAs none (some _) _)) = false from rfl, ih] <;> rfl
/-- the cases, tried on the tuple at a with the items xs -/
abbrev TM := List V → TS
structure PM (X : Cx) (cases : List MatchCase) (t : TM) : Prop where
  run : ∀ (pins : List (Addr × Obj)) (s : Shared) (σ : L2.St) (H : Hp) (D : Ends) (a : Addr) (xs : List V) (first : Bool), Inv X pins σ H s → SqT X.K H a xs → t xs D σ H → wpAny (model X.prog X.w) X.A (matchCases cases X.env (.ref a) first) (SP X pins D) X.xe s
/-- case [z, n1, n2, ..]: body -/
def mCase (z : Str) (is : List Nat) (tb : TS) (rest : TM) : TM := fun xs D σ H => ∃ (w : Str) (r : List V), xs = .str w :: r ∧ if r.length = is.length ∧ w = z then tb D (setAll is r σ) H else rest xs D σ H
def mNever : TM := fun _ _ _ _ => False
theorem pm_never {cases : List MatchCase} : PM X cases mNever := ⟨fun _ _ _ _ _ _ _ _ _ _ h => h.elim⟩
theorem pm_case {z : Str} {k : Nat} {p1 p2 p3 : Pos} {caps : List Pattern} {is : List Nat} {body : List Stmt} {rest : List MatchCase} {tb : TS} {tr : TM} (hc : X.calm = true) (hN : X.N.Nodup) (c : MCaps X caps is) (hb : PSs X body tb) (hr : PM X rest tr) :
    PM X (⟨.MatchSequence (.MatchValue (.Constant (.str z) k p1) p2 :: caps) p3, none, body⟩ :: rest) (mCase z is tb tr) := by
  refine ⟨fun pins s σ H D a xs first I hT h => ?_⟩
  obtain ⟨w, r, rfl, h⟩ := h
  obtain ⟨its, rv, ht, hz⟩ := I.tuple hT
  cases rv with
  | @cons _ u0 _ us r0 rr =>
    obtain ⟨t0, rfl⟩ := r0
    have e2 : us.length = r.length := rr.length.symm
    have hsz : (((.str w t0 :: us : List Value).toArray.size : Int)) < 2 ^ 63 := by
      have e : (V.str w :: r).length = r.length + 1 := rfl
      have sl : sizeLine = 16777216 := sizeLine_eq
      rw [e, sl] at hz
      simp [e2]
      omega
    have st : (Pattern.MatchValue (.Constant (.str z) k p1) p2 :: caps).findIdx? (·.isStar) = none := by
      rw [List.findIdx?_cons, show (Pattern.isStar (.MatchValue (.Constant (.str z) k p1) p2)) = false from rfl, c.nostar] <;> rfl
    have wl : ((Pattern.MatchValue (.Constant (.str z) k p1) p2 :: caps).all fun p => p.isWildcard || (p.isStar && p.names.isEmpty)) = false := by
      rw [List.all_cons]
      simp [Pattern.isWildcard, Pattern.isStar]
    refine wpAny_matchCases_cons ?_
    by_cases hl : us.length = caps.length
    · refine matchSeq_tuple_hit (items := (.str w t0 :: us : List Value).toArray) ht hsz (by simp [hl]) ?_ st wl
      have e1 : (Pattern.MatchValue (.Constant (.str z) k p1) p2 :: caps).length = (.str w t0 :: us : List Value).toArray.size := by simp [hl]
      rw [e1]
      have I1 : Inv X pins σ H { s with toks := s.toks + 1 + 1 } := I.tok _
      refine unpackItems_tuple (I.ok.hd hc) (show IsTup ({ s with toks := s.toks + 1 + 1 } : Shared).heap a _ from ht) fun h' hx => ?_
      have I2 : Inv X pins σ H { ({ s with toks := s.toks + 1 + 1 } : Shared) with heap := h' } := I1.kept (t' := s.toks + 1 + 1) fun b o e => hx b o (Nat.ne_of_lt (Heap.lt_size e)) e
      show wpAny _ _ (matchEach (.MatchValue (.Constant (.str z) k p1) p2 :: caps) X.env (.str w t0 :: us)) _ _ _
      refine wpAny_matchEach_cons ?_
      refine wpAny_matchPattern_Value (Calls.Constant_str ?_)
      refine eq_str ?_
      refine wpAny_truthy_bool ?_
      have I3 := I2.tok (s.toks + 1 + 1 + 1)
      by_cases hw : w = z
      · subst hw
        rw [show (w == w) = true by simp, if_pos rfl]
        dsimp only
        refine c.each hl ?_
        dsimp only
        rw [List.nil_append]
        refine c.store hN I3 rr hl fun s' I' => ?_
        rw [if_pos ⟨by rw [← c.len, ← hl, e2], rfl⟩] at h
        exact hb.run pins s' _ H D I' h
      · rw [show (w == z) = false by simp [hw]]
        simp only [Bool.false_eq_true, if_false]
        rw [if_neg (fun q => hw q.2)] at h
        exact hr.run pins _ σ H D a _ false I3 hT h
    · refine matchSeq_tuple_miss (items := (.str w t0 :: us : List Value).toArray) ht hsz (by simp; omega) ?_ st wl
      dsimp only
      rw [if_neg (fun q => hl (by rw [e2, q.1, c.len]))] at h
      exact hr.run pins _ σ H D a _ false (I.tok _) hT h
/-- match e: .. over a tuple -/
def tMatch (te : TE) (t : TM) (K : PySem.W.Frag) : TS := fun D σ H => te σ H fun v H1 => ∃ a xs, v = .ref a ∧ SqT K H1 a xs ∧ t xs D σ H1
theorem ps_match {e : Expr} {cases : List MatchCase} {pos : Pos} {te : TE} {t : TM} (he : PE X e te) (hc : PM X cases t) : PS X (.Match e cases pos) (tMatch te t X.K) := by
  refine ⟨fun pins s σ H D I h => ?_⟩
  refine wpAny_Match (thn (he.run pins s σ H _ I h) fun v s1 ⟨x, H1, I1, rx, a, xs, ex, hT, q⟩ => ?_)
  subst ex
  cases rx
  exact hc.run pins s1 σ H1 D a xs true I1 hT q
end
end K52

namespace K52q
open PySem PySem.SeqAt
open AutoSeq1 (wpAny_loadPart')
open MeetsSeq MeetsSeq2 MeetsSeq3 SeqRoads2
section
variable {prog : Program} {w : World} {A : Around} {R : Result → Shared → Prop}
/-- tuple != item by item, dec i: whether the i-th two are equal -/
theorem tuple_neG (l b : Addr) (items items2 : Array Value) (n n2 : Nat) (dd dd2 : Option Addr) (sl sl2 : Array (Option Value)) (hsz : items.size = items2.size) (I : Nat → Shared → Prop) (dec : Nat → Bool)
    (turn : ∀ i (h1 : i < items.size) (h2 : i < items2.size) s, I i s → wpAny (model prog w) A.in1 (eqBool items[i] items2[i]) (fun r s' => r = dec i ∧ I (i + 1) s') (fun e s' => R (.error e) s') s)
    (finT : ∀ i s, i < items.size → dec i = false → I (i + 1) s → R (.ok (.ret (.bool true))) s)
    (finF : ∀ s, (∀ i, i < items.size → dec i = true) → I items.size s → R (.ok (.ret (.bool false))) s) {s : Shared} (hl1 : s.heap.get? l = some { cls := .type "tuple", dict := dd, data := .seq items n, slots := sl }) (hb1 : s.heap.get? b = some { cls := .type "tuple", dict := dd2, data := .seq items2 n2, slots := sl2 }) (h : I 0 s) :
    wpAny (model prog w) A.in1 (Builtin.«tuple.__ne__» ⟨[.ref l, .ref b], []⟩) (GQ.FinOf prog w A R) (fun e s' => R (.error e) s') s := by
  have f2 := AutoSeq1.sub_tuple_tuple
  have hZ : (items.toList.zip items2.toList).length = items.size := by simp [hsz]
  have h0 := h
  obtain ⟨hp, g, d, tk, os⟩ := s
  wp_walk using wpAny_loadPart' hl1, wpAny_loadPart' hb1, wpAny_forIn_list _ (fun rest b s' => b.1 = none ∧ ∃ i, rest = (items.toList.zip items2.toList).drop i ∧ i ≤ items.size ∧ (∀ j, j < i → dec j = true) ∧ I i s') _
  case turn =>
    rintro ⟨y, x⟩ rest b s' ⟨hb', i, hz, hi, hd, hI⟩
    have hlt : i < (items.toList.zip items2.toList).length := by
      rcases Nat.lt_or_ge i (items.toList.zip items2.toList).length with h' | h'
      · exact h'
      · rw [List.drop_of_length_le h'] at hz; cases hz
    have h1 : i < items.size := hZ ▸ hlt
    have h2 : i < items2.size := hsz ▸ h1
    rw [List.drop_eq_getElem_cons hlt] at hz
    injection hz with hyx hrest
    have hy : y = items[i] := by have := congrArg Prod.fst hyx; simpa using this
    have hx : x = items2[i] := by have := congrArg Prod.snd hyx; simpa using this
    subst hy hx
    refine wpAny_bind (wpAny_mono (turn i h1 h2 s' hI) (fun r s2 q2 => ?_) fun _ _ x => x)
    obtain ⟨hr, q2⟩ := q2
    subst hr
    cases e : dec i with
    | true =>
      wp_walk
      refine ⟨rfl, i + 1, hrest, h1, fun j hj => ?_, q2⟩
      by_cases q : j = i
      · rw [q]; exact e
      · exact hd j (by omega)
    | false =>
      have hR := finT i s2 h1 e q2
      obtain ⟨hp2, g2, d2, tk2, os2⟩ := s2
      wp_walk
      simpa using hR
  case fin =>
    rintro ⟨b1, b2⟩ s' ⟨hb', i, hz, hi, hd, hI⟩
    simp only at hb'
    subst hb'
    have hge : items.size ≤ i := by
      rcases Nat.lt_or_ge i (items.toList.zip items2.toList).length with h' | h'
      · rw [List.drop_eq_getElem_cons h'] at hz; cases hz
      · exact hZ ▸ h'
    have hi' : i = items.size := by omega
    have hR : R (.ok (.ret (.bool false))) s' := finF s' (fun j hj => hd j (by omega)) (hi' ▸ hI)
    wp_walk
    simpa [Builtin.Tuple.tupleCompareSizes, hsz] using hR
  case h =>
    exact ⟨rfl, 0, rfl, Nat.zero_le _, fun j hj => absurd hj (Nat.not_lt_zero j), h0⟩
/-- tuple <, the i-th two the first that differ -/
theorem tuple_ltG (l b : Addr) (items items2 : Array Value) (n n2 : Nat) (dd dd2 : Option Addr) (sl sl2 : Array (Option Value)) (hsz : items.size = items2.size) (I : Nat → Shared → Prop) (dec : Nat → Bool)
    (turn : ∀ i (h1 : i < items.size) (h2 : i < items2.size) s, I i s → wpAny (model prog w) A.in1 (eqBool items[i] items2[i]) (fun r s' => r = dec i ∧ I (i + 1) s') (fun e s' => R (.error e) s') s)
    (finT : ∀ i (h1 : i < items.size) (h2 : i < items2.size) s, dec i = false → I (i + 1) s → wpAny (model prog w) A.in1 (richCompare .Lt items[i] items2[i]) (fun v s' => R (.ok (.ret v)) s') (fun e s' => R (.error e) s') s)
    (finF : ∀ s, (∀ i, i < items.size → dec i = true) → I items.size s → R (.ok (.ret (.bool false))) s) {s : Shared} (hl1 : s.heap.get? l = some { cls := .type "tuple", dict := dd, data := .seq items n, slots := sl }) (hb1 : s.heap.get? b = some { cls := .type "tuple", dict := dd2, data := .seq items2 n2, slots := sl2 }) (h : I 0 s) :
    wpAny (model prog w) A.in1 (Builtin.«tuple.__lt__» ⟨[.ref l, .ref b], []⟩) (GQ.FinOf prog w A R) (fun e s' => R (.error e) s') s := by
  have f2 := AutoSeq1.sub_tuple_tuple
  have hZ : (items.toList.zip items2.toList).length = items.size := by simp [hsz]
  have h0 := h
  obtain ⟨hp, g, d, tk, os⟩ := s
  wp_walk using wpAny_loadPart' hl1, wpAny_loadPart' hb1, wpAny_forIn_list _ (fun rest b s' => b.1 = none ∧ ∃ i, rest = (items.toList.zip items2.toList).drop i ∧ i ≤ items.size ∧ (∀ j, j < i → dec j = true) ∧ I i s') _
  case turn =>
    rintro ⟨y, x⟩ rest b s' ⟨hb', i, hz, hi, hd, hI⟩
    have hlt : i < (items.toList.zip items2.toList).length := by
      rcases Nat.lt_or_ge i (items.toList.zip items2.toList).length with h' | h'
      · exact h'
      · rw [List.drop_of_length_le h'] at hz; cases hz
    have h1 : i < items.size := hZ ▸ hlt
    have h2 : i < items2.size := hsz ▸ h1
    rw [List.drop_eq_getElem_cons hlt] at hz
    injection hz with hyx hrest
    have hy : y = items[i] := by have := congrArg Prod.fst hyx; simpa using this
    have hx : x = items2[i] := by have := congrArg Prod.snd hyx; simpa using this
    subst hy hx
    refine wpAny_bind (wpAny_mono (turn i h1 h2 s' hI) (fun r s2 q2 => ?_) fun _ _ x => x)
    obtain ⟨hr, q2⟩ := q2
    subst hr
    cases e : dec i with
    | true =>
      wp_walk
      refine ⟨rfl, i + 1, hrest, h1, fun j hj => ?_, q2⟩
      by_cases q : j = i
      · rw [q]; exact e
      · exact hd j (by omega)
    | false =>
      have hR := finT i h1 h2 s2 e q2
      simp only [Bool.not_false, if_true]
      refine wpAny_bind (wpAny_rule (wpAny_bind (wpAny_mono hR (fun v s3 q3 => ?_) fun _ _ x => x)))
      obtain ⟨hp3, g3, d3, tk3, os3⟩ := s3
      wp_walk
      simpa using q3
  case fin =>
    rintro ⟨b1, b2⟩ s' ⟨hb', i, hz, hi, hd, hI⟩
    simp only at hb'
    subst hb'
    have hge : items.size ≤ i := by
      rcases Nat.lt_or_ge i (items.toList.zip items2.toList).length with h' | h'
      · rw [List.drop_eq_getElem_cons h'] at hz; cases hz
      · exact hZ ▸ h'
    have hi' : i = items.size := by omega
    have hR : R (.ok (.ret (.bool false))) s' := finF s' (fun j hj => hd j (by omega)) (hi' ▸ hI)
    wp_walk
    simpa [Builtin.Tuple.tupleCompareSizes, hsz] using hR
  case h =>
    exact ⟨rfl, 0, rfl, Nat.zero_le _, fun j hj => absurd hj (Nat.not_lt_zero j), h0⟩
end
end K52q

namespace K52
open PySem PySem.Spec PyProof.Rows L2
def top (i : Nat) : Stmt := PySem.Challenge.pw_tailtables_k52_whole_tallest_solve.main.body.getD i (.Pass ⟨0, 0, 0, 0⟩)
/-! ### callees -/
/-- a def of the module without defaults -/
structure DefA (K : PySem.W.Frag) (mg : Str → Option Value) (x : Str) (st : Stmt) : Prop where
  ex : ∃ f fd, FunD K x x (defArgs st) (defBody st) (defScope st) [] [] f fd ∧ mg x = some (.ref f)
structure Cal (P : Program) (w : World) (K : PySem.W.Frag) (mg : Str → Option Value) (base : Heap) (k : Nat) (x : Str) (sp : Sp) : Prop where
  ex : ∃ (f : Addr) (fd : FuncData) (ps : List Str), FnOk P w K mg base CX0 k f fd ps sp ∧ mg x = some (.ref f) ∧ PySem.W.keepIn K (.ref f) = true ∧ Binds K fd ps []
section
variable {P : Program} {w : World} {K : PySem.W.Frag} {mg : Str → Option Value} {base : Heap}
theorem Cal.mono {j k : Nat} {x : Str} {sp : Sp} (c : Cal P w K mg base j x sp) (h : j ≤ k) : Cal P w K mg base k x sp := by
  obtain ⟨f, fd, ps, F, r⟩ := c.ex
  exact ⟨f, fd, ps, F.mono h, r⟩
theorem cal_of {x : Str} {st : Stmt} {N ps : List Str} {k : Nat} {sp : Sp} (D : DefA K mg x st) (S : FnScope N ps (defScope st))
    (bb : ∀ (kV doc pm : Value) (an : Option Addr) (cdv ct : Value) (us : List Value), us.length = ps.length → bindArgs (PySem.W.fnOf x x (defArgs st) (defBody st) (defScope st) .none kV doc pm an cdv ct) ⟨us, []⟩ = pure (ps.zip us))
    (len : ∀ vs H Q E, sp vs H Q E → vs.length = ps.length)
    (hbody : ∀ (f : Addr) (cdv : Value) (A : Around) (outer : List Env) (s : Shared) (H : Hp) (vs : List V) (Q : VK) (E : XK), Room k (A.deeper (envOfC x (defScope st) s.heap.objs.size f cdv)) → sp vs H Q E →
      ∃ t, PSs (cxOf CX0 P w K mg base N x (defScope st) f cdv A outer s H E).nox (defBody st) t ∧ t { nx := fun _ H' => Q .non H', rt := Q } (start N vs) H) : Cal P w K mg base (k + 1) x sp := by
  obtain ⟨f, fd, F, g⟩ := D.ex
  refine ⟨f, fd, ps, F.ok S len fun cdv A outer s H vs Q E hr h => ?_, g, F.kp, F.bindsN fun kV doc pm an cdv ct us hl => bb kV doc pm an cdv ct us hl⟩
  obtain ⟨t, h1, h2⟩ := hbody f cdv A outer s H vs Q E hr h
  exact ⟨t, h1.nox, h2⟩
end
section
variable {X : Cx} {k j : Nat} {C : Addr} {x m : Str} {sp : Sp} {p pos apos : Pos} {e o : Expr} {es : List Expr} {ta : TE} {t : TA}
theorem pe_c (c : Cal X.prog X.w X.K X.mg X.base k x sp) (hr : Room j X.A) (hk : k ≤ j) (hg : Gl X x) (ha : PA X (e :: es) t)
    (hdb : (x == ("__debug__" : Str)) = false := by decide) (he : starEach (e :: es) X.env = (false, eval e X.env) :: starEach es X.env := by rfl) (hpl : (backTo pos (starEach es X.env)).any (·.1) = false := by rfl) :
    PE X (.Call (.Name x p) (e :: es) [] pos) (tCall sp [] E0 t) := by
  obtain ⟨f, fd, ps, F, hm, kp, b⟩ := c.ex
  exact pe_call F (hr.mono hk) hg hm kp b .nil pass0 ha hdb he hpl
end
/-! ### heaps -/
theorem Same.upd {H : Hp} {p : Addr} {o : HO} (h : H p = none) : Same H (upd H p o) := fun b u e => by rw [upd_ne (ne_of_none e h)]; exact e
/-- what never changes -/
def Stb : HO → Prop
  | .tup _ => True
  | .ins _ _ _ => True
  | _ => False
def Le (H H' : Hp) : Prop := ∀ b o, Stb o → H b = some o → H' b = some o
theorem Le.refl (H : Hp) : Le H H := fun _ _ _ h => h
theorem Le.trans {H H1 H2 : Hp} (a : Le H H1) (b : Le H1 H2) : Le H H2 := fun c o s h => b c o s (a c o s h)
theorem Same.le {H H' : Hp} (h : Same H H') : Le H H' := fun b o _ e => h b o e
theorem Le.upd {H : Hp} {p : Addr} {o o' : HO} (h : H p = some o') (n : ¬ Stb o') : Le H (upd H p o) := fun b u s e => by
  have : b ≠ p := fun z => by rw [z, h] at e; cases e; exact n s
  rw [upd_ne this]; exact e
/-- all but the object at p -/
def But (p : Addr) (H H' : Hp) : Prop := ∀ b o, b ≠ p → H b = some o → H' b = some o
theorem But.refl (p : Addr) (H : Hp) : But p H H := fun _ _ _ h => h
theorem But.trans {p : Addr} {H H1 H2 : Hp} (a : But p H H1) (b : But p H1 H2) : But p H H2 := fun c o n h => b c o n (a c o n h)
theorem Same.but {H H' : Hp} (p : Addr) (h : Same H H') : But p H H' := fun b o _ e => h b o e
theorem But.upd {H : Hp} {p : Addr} {o : HO} : But p H (upd H p o) := fun b u n e => by rw [upd_ne n]; exact e
theorem But.le {p : Addr} {H H' : Hp} {o : HO} (a : But p H H') (h : H p = some o) (n : ¬ Stb o) : Le H H' := fun b u s e => by
  have : b ≠ p := fun z => by rw [z, h] at e; cases e; exact n s
  exact a b u this e
/-- what was made new and changed is no matter for what stood -/
theorem Same.of_but {p : Addr} {H H' : Hp} (a : But p H H') (h : H p = none) : Same H H' := fun b u e => a b u (ne_of_none e h) e
theorem Same.but_new {p : Addr} {H H1 H2 : Hp} (a : Same H H1) (h : H p = none) (b : But p H1 H2) : Same H H2 := fun c u e => b c u (ne_of_none e h) (a c u e)
end K52

namespace K52
open PySem PySem.Spec PyProof.Rows L2
/-! ### the text -/
abbrev s_is_integer : Stmt := top 18
def N_is_integer : List Str := ["thing"]
theorem sc_is_integer : FnScope N_is_integer ["thing"] (defScope s_is_integer) := ⟨rfl, rfl, rfl, by decide +kernel, rfl, by decide +kernel, by decide +kernel⟩
abbrev s_is_name : Stmt := top 19
def N_is_name : List Str := ["thing", "sign"]
theorem sc_is_name : FnScope N_is_name ["thing"] (defScope s_is_name) := ⟨rfl, rfl, rfl, by decide +kernel, rfl, by decide +kernel, by decide +kernel⟩
abbrev s_is_atom : Stmt := top 20
def N_is_atom : List Str := ["thing", "place"]
theorem sc_is_atom : FnScope N_is_atom ["thing", "place"] (defScope s_is_atom) := ⟨rfl, rfl, rfl, by decide +kernel, rfl, by decide +kernel, by decide +kernel⟩
abbrev s_are_atoms : Stmt := top 21
def N_are_atoms : List Str := ["things", "place", "most", "one"]
theorem sc_are_atoms : FnScope N_are_atoms ["things", "place", "most"] (defScope s_are_atoms) := ⟨rfl, rfl, rfl, by decide +kernel, rfl, by decide +kernel, by decide +kernel⟩
abbrev s_first_twice : Stmt := top 22
def N_first_twice : List Str := ["names", "seen", "name"]
theorem sc_first_twice : FnScope N_first_twice ["names"] (defScope s_first_twice) := ⟨rfl, rfl, rfl, by decide +kernel, rfl, by decide +kernel, by decide +kernel⟩
abbrev s_measured : Stmt := top 23
def N_measured : List Str := ["body", "inside", "rows", "nodes", "deepest", "part", "level", "within", "one"]
theorem sc_measured : FnScope N_measured ["body", "inside"] (defScope s_measured) := ⟨rfl, rfl, rfl, by decide +kernel, rfl, by decide +kernel, by decide +kernel⟩
abbrev s_walk : Stmt := top 24
def N_walk : List Str := ["body", "inside", "rows", "found", "part"]
theorem sc_walk : FnScope N_walk ["body", "inside"] (defScope s_walk) := ⟨rfl, rfl, rfl, by decide +kernel, rfl, by decide +kernel, by decide +kernel⟩
abbrev s_are_bits : Stmt := top 26
def N_are_bits : List Str := ["things", "one"]
theorem sc_are_bits : FnScope N_are_bits ["things"] (defScope s_are_bits) := ⟨rfl, rfl, rfl, by decide +kernel, rfl, by decide +kernel, by decide +kernel⟩
abbrev s_least_of : Stmt := top 27
def N_least_of : List Str := ["scripts", "best", "script"]
theorem sc_least_of : FnScope N_least_of ["scripts"] (defScope s_least_of) := ⟨rfl, rfl, rfl, by decide +kernel, rfl, by decide +kernel, by decide +kernel⟩
abbrev s_joined : Stmt := top 28
def N_joined : List Str := ["one", "other"]
theorem sc_joined : FnScope N_joined ["one", "other"] (defScope s_joined) := ⟨rfl, rfl, rfl, by decide +kernel, rfl, by decide +kernel, by decide +kernel⟩
abbrev s_entered_by : Stmt := top 31
def N_entered_by : List Str := ["kind", "ways"]
theorem sc_entered_by : FnScope N_entered_by ["kind", "ways"] (defScope s_entered_by) := ⟨rfl, rfl, rfl, by decide +kernel, rfl, by decide +kernel, by decide +kernel⟩
abbrev s_can_end : Stmt := top 32
def N_can_end : List Str := ["body", "functions", "arms", "word", "yes", "no", "returns", "raises", "kind", "ways"]
theorem sc_can_end : FnScope N_can_end ["body", "functions", "arms"] (defScope s_can_end) := ⟨rfl, rfl, rfl, by decide +kernel, rfl, by decide +kernel, by decide +kernel⟩
abbrev s_least_end : Stmt := top 33
def N_least_end : List Str := ["body", "functions", "arms", "word", "one", "ways", "yes", "no", "first", "second", "returns", "inner", "raises", "kind", "entered"]
theorem sc_least_end : FnScope N_least_end ["body", "functions", "arms"] (defScope s_least_end) := ⟨rfl, rfl, rfl, by decide +kernel, rfl, by decide +kernel, by decide +kernel⟩
abbrev s_settled : Stmt := top 34
def N_settled : List Str := ["table", "nothing", "ends_of", "name", "functions", "kind", "slots", "arm", "arms", "is_new", "case_name", "arity", "body", "ways"]
theorem sc_settled : FnScope N_settled ["table", "nothing", "ends_of"] (defScope s_settled) := ⟨rfl, rfl, rfl, by decide +kernel, rfl, by decide +kernel, by decide +kernel⟩
abbrev s_can_ends : Stmt := top 35
def N_can_ends : List Str := ["table"]
theorem sc_can_ends : FnScope N_can_ends ["table"] (defScope s_can_ends) := ⟨rfl, rfl, rfl, by decide +kernel, rfl, by decide +kernel, by decide +kernel⟩
abbrev s_least_ends : Stmt := top 36
def N_least_ends : List Str := ["table"]
theorem sc_least_ends : FnScope N_least_ends ["table"] (defScope s_least_ends) := ⟨rfl, rfl, rfl, by decide +kernel, rfl, by decide +kernel, by decide +kernel⟩
abbrev s_look_name : Stmt := top 37
def N_look_name : List Str := ["table", "name"]
theorem sc_look_name : FnScope N_look_name ["table", "name"] (defScope s_look_name) := ⟨rfl, rfl, rfl, by decide +kernel, rfl, by decide +kernel, by decide +kernel⟩
abbrev s_weight : Stmt := top 39
def N_weight : List Str := ["push", "by"]
theorem sc_weight : FnScope N_weight ["push", "by"] (defScope s_weight) := ⟨rfl, rfl, rfl, by decide +kernel, rfl, by decide +kernel, by decide +kernel⟩
abbrev s_take_tops : Stmt := top 40
def N_take_tops : List Str := ["found", "tops", "gain", "name"]
theorem sc_take_tops : FnScope N_take_tops ["found", "tops", "gain"] (defScope s_take_tops) := ⟨rfl, rfl, rfl, by decide +kernel, rfl, by decide +kernel, by decide +kernel⟩
abbrev s_tops_in : Stmt := top 41
def N_tops_in : List Str := ["body", "can", "tops", "by", "word", "found", "functions", "arms"]
theorem sc_tops_in : FnScope N_tops_in ["body", "can", "tops", "by"] (defScope s_tops_in) := ⟨rfl, rfl, rfl, by decide +kernel, rfl, by decide +kernel, by decide +kernel⟩
abbrev s_tops_of : Stmt := top 42
def N_tops_of : List Str := ["table", "by", "can", "tops", "case_name", "name", "arity", "body"]
theorem sc_tops_of : FnScope N_tops_of ["table", "by"] (defScope s_tops_of) := ⟨rfl, rfl, rfl, by decide +kernel, rfl, by decide +kernel, by decide +kernel⟩
abbrev s_take_routes : Stmt := top 43
def N_take_routes : List Str := ["found", "routes", "before", "gain", "word", "name", "high", "script", "key"]
theorem sc_take_routes : FnScope N_take_routes ["found", "routes", "before", "gain"] (defScope s_take_routes) := ⟨rfl, rfl, rfl, by decide +kernel, rfl, by decide +kernel, by decide +kernel⟩
abbrev s_routes_in : Stmt := top 44
def N_routes_in : List Str := ["body", "least", "routes", "by", "word", "one", "found", "gain", "functions", "arms", "inner", "before"]
theorem sc_routes_in : FnScope N_routes_in ["body", "least", "routes", "by"] (defScope s_routes_in) := ⟨rfl, rfl, rfl, by decide +kernel, rfl, by decide +kernel, by decide +kernel⟩
abbrev s_routes_of : Stmt := top 45
def N_routes_of : List Str := ["table", "by", "least", "routes", "case_name", "name", "arity", "body"]
theorem sc_routes_of : FnScope N_routes_of ["table", "by"] (defScope s_routes_of) := ⟨rfl, rfl, rfl, by decide +kernel, rfl, by decide +kernel, by decide +kernel⟩
abbrev s_settled_scripts : Stmt := top 46
def N_settled_scripts : List Str := ["routes", "found", "script_of", "is_new", "name", "steps", "best", "key"]
theorem sc_settled_scripts : FnScope N_settled_scripts ["routes", "found", "script_of"] (defScope s_settled_scripts) := ⟨rfl, rfl, rfl, by decide +kernel, rfl, by decide +kernel, by decide +kernel⟩
abbrev s_reached : Stmt := top 48
def N_reached : List Str := ["table", "name", "functions", "arms", "called", "entered", "rows", "body", "word", "target", "kind", "slots", "arm"]
theorem sc_reached : FnScope N_reached ["table", "name"] (defScope s_reached) := ⟨rfl, rfl, rfl, by decide +kernel, rfl, by decide +kernel, by decide +kernel⟩
abbrev s_heights_from : Stmt := top 50
def N_heights_from : List Str := ["table", "name", "by", "tops", "found", "one", "turn", "is_new", "high", "other"]
theorem sc_heights_from : FnScope N_heights_from ["table", "name", "by"] (defScope s_heights_from) := ⟨rfl, rfl, rfl, by decide +kernel, rfl, by decide +kernel, by decide +kernel⟩
abbrev s_height : Stmt := top 51
def N_height : List Str := ["table", "name", "by", "heights"]
theorem sc_height : FnScope N_height ["table", "name", "by"] (defScope s_height) := ⟨rfl, rfl, rfl, by decide +kernel, rfl, by decide +kernel, by decide +kernel⟩
abbrev s_tallest : Stmt := top 52
def N_tallest : List Str := ["table", "name", "by", "routes", "found", "script_of", "heights", "one"]
theorem sc_tallest : FnScope N_tallest ["table", "name", "by"] (defScope s_tallest) := ⟨rfl, rfl, rfl, by decide +kernel, rfl, by decide +kernel, by decide +kernel⟩
abbrev s_bodies_in : Stmt := top 54
def N_bodies_in : List Str := ["thing", "atom", "name", "args", "yes", "no", "atoms", "body"]
theorem sc_bodies_in : FnScope N_bodies_in ["thing"] (defScope s_bodies_in) := ⟨rfl, rfl, rfl, by decide +kernel, rfl, by decide +kernel, by decide +kernel⟩
abbrev s_is_function : Stmt := top 55
def N_is_function : List Str := ["thing"]
theorem sc_is_function : FnScope N_is_function ["thing"] (defScope s_is_function) := ⟨rfl, rfl, rfl, by decide +kernel, rfl, by decide +kernel, by decide +kernel⟩
abbrev s_is_case : Stmt := top 56
def N_is_case : List Str := ["thing"]
theorem sc_is_case : FnScope N_is_case ["thing"] (defScope s_is_case) := ⟨rfl, rfl, rfl, by decide +kernel, rfl, by decide +kernel, by decide +kernel⟩
abbrev s_atoms_of : Stmt := top 57
def N_atoms_of : List Str := ["body"]
theorem sc_atoms_of : FnScope N_atoms_of ["body"] (defScope s_atoms_of) := ⟨rfl, rfl, rfl, by decide +kernel, rfl, by decide +kernel, by decide +kernel⟩
abbrev s_pushed_in : Stmt := top 58
def N_pushed_in : List Str := ["body", "part"]
theorem sc_pushed_in : FnScope N_pushed_in ["body"] (defScope s_pushed_in) := ⟨rfl, rfl, rfl, by decide +kernel, rfl, by decide +kernel, by decide +kernel⟩
abbrev s_look_body : Stmt := top 59
def N_look_body : List Str := ["body", "slots", "arities", "needs", "part", "known", "atom"]
theorem sc_look_body : FnScope N_look_body ["body", "slots", "arities", "needs"] (defScope s_look_body) := ⟨rfl, rfl, rfl, by decide +kernel, rfl, by decide +kernel, by decide +kernel⟩
abbrev s_ordered : Stmt := top 60
def N_ordered : List Str := ["leads", "name", "users", "waits", "target", "ready", "at", "user"]
theorem sc_ordered : FnScope N_ordered ["leads"] (defScope s_ordered) := ⟨rfl, rfl, rfl, by decide +kernel, rfl, by decide +kernel, by decide +kernel⟩
abbrev s_look_entries : Stmt := top 65
def N_look_entries : List Str := ["functions", "cases", "at", "thing", "names", "again", "sizes", "nodes", "depth", "row", "size"]
theorem sc_look_entries : FnScope N_look_entries ["functions", "cases"] (defScope s_look_entries) := ⟨rfl, rfl, rfl, by decide +kernel, rfl, by decide +kernel, by decide +kernel⟩
abbrev s_law_bag : Stmt := top 67
def N_law_bag : List Str := ["_law_script", "_law_at", "_law_cell", "_law_vast"]
theorem sc_law_bag : FnScope N_law_bag ["_law_script", "_law_at"] (defScope s_law_bag) := ⟨rfl, rfl, rfl, by decide +kernel, rfl, by decide +kernel, by decide +kernel⟩
abbrev s_law_take : Stmt := top 68
def N_law_take : List Str := ["_law_bag_here", "_law_many", "_law_digit", "_law_once", "_law_twice"]
theorem sc_law_take : FnScope N_law_take ["_law_bag_here", "_law_many"] (defScope s_law_take) := ⟨rfl, rfl, rfl, by decide +kernel, rfl, by decide +kernel, by decide +kernel⟩
abbrev s_law_atom : Stmt := top 69
def N_law_atom : List Str := ["_law_bag_here", "_law_slots", "_law_at"]
theorem sc_law_atom : FnScope N_law_atom ["_law_bag_here", "_law_slots"] (defScope s_law_atom) := ⟨rfl, rfl, rfl, by decide +kernel, rfl, by decide +kernel, by decide +kernel⟩
abbrev s_law_atoms : Stmt := top 70
def N_law_atoms : List Str := ["_law_bag_here", "_law_slots", "_law_many", "_law_turn"]
theorem sc_law_atoms : FnScope N_law_atoms ["_law_bag_here", "_law_slots", "_law_many"] (defScope s_law_atoms) := ⟨rfl, rfl, rfl, by decide +kernel, rfl, by decide +kernel, by decide +kernel⟩
abbrev s_law_leaf : Stmt := top 71
def N_law_leaf : List Str := ["_law_bag_here", "_law_slots", "_law_shapes", "_law_word", "_law_name", "_law_arity"]
theorem sc_law_leaf : FnScope N_law_leaf ["_law_bag_here", "_law_slots", "_law_shapes"] (defScope s_law_leaf) := ⟨rfl, rfl, rfl, by decide +kernel, rfl, by decide +kernel, by decide +kernel⟩
abbrev s_law_body : Stmt := top 72
def N_law_body : List Str := ["_law_bag_here", "_law_left", "_law_deep", "_law_slots", "_law_shapes", "_law_later", "_law_word", "_law_given", "_law_yes", "_law_name", "_law_kept", "_law_atoms_here"]
theorem sc_law_body : FnScope N_law_body ["_law_bag_here", "_law_left", "_law_deep", "_law_slots", "_law_shapes", "_law_later"] (defScope s_law_body) := ⟨rfl, rfl, rfl, by decide +kernel, rfl, by decide +kernel, by decide +kernel⟩
abbrev s_law_arm : Stmt := top 73
def N_law_arm : List Str := ["_law_bag_here", "_law_kind", "_law_slots", "_law_shapes", "_law_later", "_law_result", "_law_road", "_law_name", "_law_kept"]
theorem sc_law_arm : FnScope N_law_arm ["_law_bag_here", "_law_kind", "_law_slots", "_law_shapes", "_law_later"] (defScope s_law_arm) := ⟨rfl, rfl, rfl, by decide +kernel, rfl, by decide +kernel, by decide +kernel⟩
abbrev s_law_rows : Stmt := top 74
def N_law_rows : List Str := ["_law_bag_here", "_law_many", "_law_kept", "_law_pool", "_law_names", "_law_shapes", "_law_forms", "_law_cases", "_law_turn", "_law_at", "_law_name", "_law_slots", "_law_kind", "_law_functions", "_law_arity"]
theorem sc_law_rows : FnScope N_law_rows ["_law_bag_here", "_law_many", "_law_kept"] (defScope s_law_rows) := ⟨rfl, rfl, rfl, by decide +kernel, rfl, by decide +kernel, by decide +kernel⟩
abbrev s_law_pair : Stmt := top 75
def N_law_pair : List Str := ["_law_told", "_law_one"]
theorem sc_law_pair : FnScope N_law_pair ["_law_told"] (defScope s_law_pair) := ⟨rfl, rfl, rfl, by decide +kernel, rfl, by decide +kernel, by decide +kernel⟩
abbrev s_law_plus : Stmt := top 76
def N_law_plus : List Str := ["_law_one", "_law_other"]
theorem sc_law_plus : FnScope N_law_plus ["_law_one", "_law_other"] (defScope s_law_plus) := ⟨rfl, rfl, rfl, by decide +kernel, rfl, by decide +kernel, by decide +kernel⟩
abbrev s_law_less : Stmt := top 77
def N_law_less : List Str := ["_law_one", "_law_other"]
theorem sc_law_less : FnScope N_law_less ["_law_one", "_law_other"] (defScope s_law_less) := ⟨rfl, rfl, rfl, by decide +kernel, rfl, by decide +kernel, by decide +kernel⟩
abbrev s_law_ends : Stmt := top 78
def N_law_ends : List Str := ["_law_body_here", "_law_told", "_law_arms_here", "_law_word", "_law_yes", "_law_no", "_law_ways", "_law_inner", "_law_kind", "_law_arm_here", "_law_entering", "_law_found", "_law_way", "_law_k"]
theorem sc_law_ends : FnScope N_law_ends ["_law_body_here", "_law_told", "_law_arms_here"] (defScope s_law_ends) := ⟨rfl, rfl, rfl, by decide +kernel, rfl, by decide +kernel, by decide +kernel⟩
abbrev s_law_arms : Stmt := top 79
def N_law_arms : List Str := ["_law_rows_here", "_law_told", "_law_ends_of", "_law_arms_here", "_law_name", "_law_kind", "_law_slots", "_law_arm_here"]
theorem sc_law_arms : FnScope N_law_arms ["_law_rows_here", "_law_told", "_law_ends_of"] (defScope s_law_arms) := ⟨rfl, rfl, rfl, by decide +kernel, rfl, by decide +kernel, by decide +kernel⟩
abbrev s_law_settled : Stmt := top 80
def N_law_settled : List Str := ["_law_rows_here", "_law_nothing", "_law_ends_of", "_law_told", "_law_row", "_law_turn", "_law_arms_here", "_law_name", "_law_arity", "_law_body_here"]
theorem sc_law_settled : FnScope N_law_settled ["_law_rows_here", "_law_nothing", "_law_ends_of"] (defScope s_law_settled) := ⟨rfl, rfl, rfl, by decide +kernel, rfl, by decide +kernel, by decide +kernel⟩
abbrev s_law_weight : Stmt := top 81
def N_law_weight : List Str := ["_law_push", "_law_measure"]
theorem sc_law_weight : FnScope N_law_weight ["_law_push", "_law_measure"] (defScope s_law_weight) := ⟨rfl, rfl, rfl, by decide +kernel, rfl, by decide +kernel, by decide +kernel⟩
abbrev s_law_enters : Stmt := top 82
def N_law_enters : List Str := ["_law_push", "_law_told", "_law_arms_here", "_law_ends_of", "_law_returns", "_law_raises"]
theorem sc_law_enters : FnScope N_law_enters ["_law_push", "_law_told", "_law_arms_here", "_law_ends_of"] (defScope s_law_enters) := ⟨rfl, rfl, rfl, by decide +kernel, rfl, by decide +kernel, by decide +kernel⟩
abbrev s_law_tight : Stmt := top 83
def N_law_tight : List Str := ["_law_body_here", "_law_need", "_law_known", "_law_endings", "_law_arms_here", "_law_measure", "_law_high", "_law_told", "_law_ways", "_law_rest", "_law_inner", "_law_found", "_law_entered", "_law_arm_here", "_law_part"]
theorem sc_law_tight : FnScope N_law_tight ["_law_body_here", "_law_need", "_law_known", "_law_endings", "_law_arms_here", "_law_measure"] (defScope s_law_tight) := ⟨rfl, rfl, rfl, by decide +kernel, rfl, by decide +kernel, by decide +kernel⟩
abbrev s_law_right : Stmt := top 84
def N_law_right : List Str := ["_law_rows_here", "_law_table", "_law_measure", "_law_known", "_law_arms_here", "_law_told", "_law_endings", "_law_name", "_law_kind", "_law_slots", "_law_arm_here", "_law_row", "_law_high", "_law_found", "_law_arity", "_law_body_here"]
theorem sc_law_right : FnScope N_law_right ["_law_rows_here", "_law_table", "_law_measure"] (defScope s_law_right) := ⟨rfl, rfl, rfl, by decide +kernel, rfl, by decide +kernel, by decide +kernel⟩
abbrev s_law : Stmt := top 85
def N_law : List Str := ["_law_script", "_law_at", "_law_rows_here", "_law_table"]
theorem sc_law : FnScope N_law ["_law_script"] (defScope s_law) := ⟨rfl, rfl, rfl, by decide +kernel, rfl, by decide +kernel, by decide +kernel⟩
abbrev s_Script__init : Stmt := inClass (top 29) 1
def N_Script__init : List Str := ["self", "steps", "bits"]
theorem sc_Script__init : FnScope N_Script__init ["self", "steps", "bits"] (defScope s_Script__init) := ⟨rfl, rfl, rfl, by decide +kernel, rfl, by decide +kernel, by decide +kernel⟩
abbrev s_Script_none : Stmt := inClass (top 29) 2
def N_Script_none : List Str := ["cls"]
theorem sc_Script_none : FnScope N_Script_none ["cls"] (defScope s_Script_none) := ⟨rfl, rfl, rfl, by decide +kernel, rfl, by decide +kernel, by decide +kernel⟩
abbrev s_Script__eq : Stmt := inClass (top 29) 3
def N_Script__eq : List Str := ["self", "other"]
theorem sc_Script__eq : FnScope N_Script__eq ["self", "other"] (defScope s_Script__eq) := ⟨rfl, rfl, rfl, by decide +kernel, rfl, by decide +kernel, by decide +kernel⟩
abbrev s_Script__lt : Stmt := inClass (top 29) 4
def N_Script__lt : List Str := ["self", "other"]
theorem sc_Script__lt : FnScope N_Script__lt ["self", "other"] (defScope s_Script__lt) := ⟨rfl, rfl, rfl, by decide +kernel, rfl, by decide +kernel, by decide +kernel⟩
abbrev s_Script__add : Stmt := inClass (top 29) 6
def N_Script__add : List Str := ["self", "other"]
theorem sc_Script__add : FnScope N_Script__add ["self", "other"] (defScope s_Script__add) := ⟨rfl, rfl, rfl, by decide +kernel, rfl, by decide +kernel, by decide +kernel⟩
abbrev s_Table__init : Stmt := inClass (top 64) 2
def N_Table__init : List Str := ["self", "functions", "cases", "name", "kind", "slots", "arm", "arity", "body", "arities", "needs", "leads", "kept", "row", "one"]
theorem sc_Table__init : FnScope N_Table__init ["self", "functions", "cases"] (defScope s_Table__init) := ⟨rfl, rfl, rfl, by decide +kernel, rfl, by decide +kernel, by decide +kernel⟩
abbrev s_Table__contains : Stmt := inClass (top 64) 4
def N_Table__contains : List Str := ["self", "thing"]
theorem sc_Table__contains : FnScope N_Table__contains ["self", "thing"] (defScope s_Table__contains) := ⟨rfl, rfl, rfl, by decide +kernel, rfl, by decide +kernel, by decide +kernel⟩
abbrev s_Table__iter : Stmt := inClass (top 64) 6
def N_Table__iter : List Str := ["self"]
theorem sc_Table__iter : FnScope N_Table__iter ["self"] (defScope s_Table__iter) := ⟨rfl, rfl, rfl, by decide +kernel, rfl, by decide +kernel, by decide +kernel⟩
abbrev s_Table__getitem : Stmt := inClass (top 64) 7
def N_Table__getitem : List Str := ["self", "thing", "row"]
theorem sc_Table__getitem : FnScope N_Table__getitem ["self", "thing"] (defScope s_Table__getitem) := ⟨rfl, rfl, rfl, by decide +kernel, rfl, by decide +kernel, by decide +kernel⟩
abbrev s_Table_case_of : Stmt := inClass (top 64) 8
def N_Table_case_of : List Str := ["self", "name"]
theorem sc_Table_case_of : FnScope N_Table_case_of ["self", "name"] (defScope s_Table_case_of) := ⟨rfl, rfl, rfl, by decide +kernel, rfl, by decide +kernel, by decide +kernel⟩
/-- a method -/
structure DefM (K : PySem.W.Frag) (C : Addr) (m qual : Str) (st : Stmt) : Prop where
  ex : ∃ fd, FunD K m qual (defArgs st) (defBody st) (defScope st) [] [] (He.ma K C m) fd
  at_ : PySem.W.findIn K (.ref C) m = some (some (.ref (He.ma K C m)))
  fn : PySem.W.isFn K (.ref (He.ma K C m)) = true
  kp : PySem.W.keepIn K (.ref (He.ma K C m)) = true
abbrev cS (K : PySem.W.Frag) : Addr := He.ga K "Script"
abbrev cT (K : PySem.W.Frag) : Addr := He.ga K "Table"
/-- what the top has left -/
structure Txt (K : PySem.W.Frag) (mg : Str → Option Value) : Prop where
  d_is_integer : DefA K mg "is_integer" s_is_integer
  d_is_name : DefA K mg "is_name" s_is_name
  d_is_atom : DefA K mg "is_atom" s_is_atom
  d_are_atoms : ∃ f fd, FunD K "are_atoms" "are_atoms" (defArgs s_are_atoms) (defBody s_are_atoms) (defScope s_are_atoms) [.int 4] [] f fd ∧ mg "are_atoms" = some (.ref f)
  d_first_twice : DefA K mg "first_twice" s_first_twice
  d_measured : DefA K mg "measured" s_measured
  d_walk : DefA K mg "walk" s_walk
  d_are_bits : DefA K mg "are_bits" s_are_bits
  d_least_of : DefA K mg "least_of" s_least_of
  d_joined : DefA K mg "joined" s_joined
  d_entered_by : DefA K mg "entered_by" s_entered_by
  d_can_end : DefA K mg "can_end" s_can_end
  d_least_end : DefA K mg "least_end" s_least_end
  d_settled : DefA K mg "settled" s_settled
  d_can_ends : DefA K mg "can_ends" s_can_ends
  d_least_ends : DefA K mg "least_ends" s_least_ends
  d_look_name : DefA K mg "look_name" s_look_name
  d_weight : DefA K mg "weight" s_weight
  d_take_tops : DefA K mg "take_tops" s_take_tops
  d_tops_in : DefA K mg "tops_in" s_tops_in
  d_tops_of : DefA K mg "tops_of" s_tops_of
  d_take_routes : DefA K mg "take_routes" s_take_routes
  d_routes_in : DefA K mg "routes_in" s_routes_in
  d_routes_of : DefA K mg "routes_of" s_routes_of
  d_settled_scripts : DefA K mg "settled_scripts" s_settled_scripts
  d_reached : DefA K mg "reached" s_reached
  d_heights_from : DefA K mg "heights_from" s_heights_from
  d_height : ∃ f fd, FunD K "height" "height" (defArgs s_height) (defBody s_height) (defScope s_height) [] [("by", .str "frames")] f fd ∧ mg "height" = some (.ref f)
  d_tallest : ∃ f fd, FunD K "tallest" "tallest" (defArgs s_tallest) (defBody s_tallest) (defScope s_tallest) [] [("by", .str "frames")] f fd ∧ mg "tallest" = some (.ref f)
  d_bodies_in : DefA K mg "bodies_in" s_bodies_in
  d_is_function : DefA K mg "is_function" s_is_function
  d_is_case : DefA K mg "is_case" s_is_case
  d_atoms_of : DefA K mg "atoms_of" s_atoms_of
  d_pushed_in : DefA K mg "pushed_in" s_pushed_in
  d_look_body : DefA K mg "look_body" s_look_body
  d_ordered : DefA K mg "ordered" s_ordered
  d_look_entries : DefA K mg "look_entries" s_look_entries
  d_law_bag : DefA K mg "_law_bag" s_law_bag
  d_law_take : DefA K mg "_law_take" s_law_take
  d_law_atom : DefA K mg "_law_atom" s_law_atom
  d_law_atoms : DefA K mg "_law_atoms" s_law_atoms
  d_law_leaf : DefA K mg "_law_leaf" s_law_leaf
  d_law_body : DefA K mg "_law_body" s_law_body
  d_law_arm : DefA K mg "_law_arm" s_law_arm
  d_law_rows : DefA K mg "_law_rows" s_law_rows
  d_law_pair : DefA K mg "_law_pair" s_law_pair
  d_law_plus : DefA K mg "_law_plus" s_law_plus
  d_law_less : DefA K mg "_law_less" s_law_less
  d_law_ends : DefA K mg "_law_ends" s_law_ends
  d_law_arms : DefA K mg "_law_arms" s_law_arms
  d_law_settled : DefA K mg "_law_settled" s_law_settled
  d_law_weight : DefA K mg "_law_weight" s_law_weight
  d_law_enters : DefA K mg "_law_enters" s_law_enters
  d_law_tight : DefA K mg "_law_tight" s_law_tight
  d_law_right : DefA K mg "_law_right" s_law_right
  d_law : DefA K mg "law" s_law
  d_Script__init : DefM K (cS K) "__init__" "Script.__init__" s_Script__init
  d_Script_none : ∃ p g fd, FunD K "none" "Script.none" (defArgs s_Script_none) (defBody s_Script_none) (defScope s_Script_none) [] [] g fd ∧ ClX.CMet K (cS K) (.type "type") "none" p g
  d_Script__eq : DefM K (cS K) "__eq__" "Script.__eq__" s_Script__eq
  d_Script__lt : DefM K (cS K) "__lt__" "Script.__lt__" s_Script__lt
  d_Script__add : DefM K (cS K) "__add__" "Script.__add__" s_Script__add
  d_Table__init : DefM K (cT K) "__init__" "Table.__init__" s_Table__init
  d_Table__contains : DefM K (cT K) "__contains__" "Table.__contains__" s_Table__contains
  d_Table__iter : DefM K (cT K) "__iter__" "Table.__iter__" s_Table__iter
  d_Table__getitem : DefM K (cT K) "__getitem__" "Table.__getitem__" s_Table__getitem
  d_Table_case_of : DefM K (cT K) "case_of" "Table.case_of" s_Table_case_of
  b_int : mg "int" = none
  b_bool : mg "bool" = none
  b_str : mg "str" = none
  b_tuple : mg "tuple" = none
  b_list : mg "list" = none
  b_len : mg "len" = none
  b_isinstance : mg "isinstance" = none
  b_all : mg "all" = none
  b_sum : mg "sum" = none
  b_max : mg "max" = none
  b_min : mg "min" = none
  b_abs : mg "abs" = none
  b_range : mg "range" = none
  b_enumerate : mg "enumerate" = none
  b_sorted : mg "sorted" = none
  b_set : mg "set" = none
  b_iter : mg "iter" = none
  g_Script : mg "Script" = some (.ref (cS K))
  g_Table : mg "Table" = some (.ref (cT K))
  clsS : Cls K (cS K)
  clsT : Cls K (cT K)
  mkS : Mk K (cS K) (He.ma K (cS K) "__init__")
  mkT : Mk K (cT K) (He.ma K (cT K) "__init__")
  neS : PySem.W.findIn K (.ref (cS K)) "__ne__" = some (some (.builtin "object.__ne__"))
  moS : PySem.W.mroIn K (cS K) (.type "object") = some true
  nsS : PySem.W.subIn K (.ref (cS K)) (.type "NoneType") = some false
  haS : PySem.W.findIn K (.ref (cS K)) "__class__" = some (some (.builtin "object.__class__"))
  hnS : PySem.W.specialIn K (.builtin "object.__class__") "__get__" = some (some (.builtin "getset_descriptor.__get__"))
  htS : PySem.W.takesIn K (.builtin "object.__class__") = some true
  kiS : PySem.W.kitOne K (.ref (cS K)) (.ref (cS K)) = some true
  knS : PySem.W.kitOne K (.type "NoneType") (.ref (cS K)) = some false
  crS : ClX.CRead K (cS K) (.type "type")
  cvS : ∃ u, ClX.CVal K (cS K) (.type "type") "MOST" (.int 1000) u
  crT : ClX.CRead K (cT K) (.type "type")
  cvT1 : ∃ u, ClX.CVal K (cT K) (.type "type") "MOST_NODES" (.int 2000) u
  cvT2 : ∃ u, ClX.CVal K (cT K) (.type "type") "MOST_DEPTH" (.int 100) u
  sfS : PySem.W.selfFirst K (cS K) = true
  noS1 : NoAttr K (cS K) "steps"
  noS2 : NoAttr K (cS K) "bits"
  noT1 : NoAttr K (cT K) "functions"
  noT2 : NoAttr K (cT K) "cases"
  noT3 : NoAttr K (cT K) "names"
  noT4 : NoAttr K (cT K) "arms"
  noT5 : NoAttr K (cT K) "order"
  MOST_LETTERS : ∃ t, mg "MOST_LETTERS" = some (.int 8 t)
  MOST_ARGS : ∃ t, mg "MOST_ARGS" = some (.int 4 t)
  MOST_KEPT : ∃ t, mg "MOST_KEPT" = some (.int 8000 t)
  MOST_CONSTANT : ∃ t, mg "MOST_CONSTANT" = some (.int (10 ^ 30) t)
  LETTERS : ∃ t, mg "LETTERS" = some (.str "abcdefghijklmnopqrstuvwxyz" t)
end K52

namespace K52
open PySem PySem.Spec PyProof.Rows L2
/-! ### what stands for what -/
def bI (b : Bool) : Int := if b then 1 else 0
def bV (b : Bool) : V := .int (bI b)
theorem bI_inj {a b : Bool} (h : bI a = bI b) : a = b := by cases a <;> cases b <;> first | rfl | cases h
theorem bV_map (l : List Bool) : l.map bV = (l.map bI).map V.int := by rw [List.map_map]; rfl
theorem bV_inj : ∀ {l r : List Bool}, l.map bV = r.map bV → l = r
  | [], [], _ => rfl
  | [], _ :: _, h => by cases h
  | _ :: _, [], h => by cases h
  | a :: l, b :: r, h => by
    rw [List.map_cons, List.map_cons] at h
    injection h with h1 h2
    rw [bV_inj h2]
    have : bI a = bI b := by injection h1
    rw [bI_inj this]
theorem bV_eq {l r : List Bool} : decide (l.map bI = r.map bI) = decide (l = r) := by
  by_cases h : l = r
  · subst h; simp
  · rw [decide_eq_false h, decide_eq_false]
    intro z
    exact h (bV_inj (by rw [bV_map, bV_map, z]))
theorem lexLt_bits : ∀ l r : List Bool, HT.lexLt (l.map bI) (r.map bI) = KM.ltB l r
  | [], [] => rfl
  | [], _ :: _ => rfl
  | _ :: _, [] => rfl
  | a :: l, b :: r => by
    show (if bI a = bI b then HT.lexLt (l.map bI) (r.map bI) else decide (bI a < bI b)) = (if a = b then KM.ltB l r else (!a && b))
    rw [lexLt_bits l r]
    cases a <;> cases b <;> rfl
/-- a script -/
def ScV (C : Addr) (H : Hp) (s : KM.Sc) (v : V) : Prop :=
  ∃ a dx t, v = .ref a ∧ H a = some (.ins C dx [("steps", .int (s.n : Nat)), ("bits", .ref t)]) ∧ H t = some (.tup (s.b.map bV)) ∧ s.b.length ≤ s.n ∧ s.n ≤ 1000
def OsV (C : Addr) (H : Hp) : KM.OS → V → Prop
  | none, v => v = .non
  | some s, v => ScV C H s v
/-- the law's script -/
def PrV (H : Hp) (s : KM.Sc) (v : V) : Prop :=
  ∃ p t, v = .ref p ∧ H p = some (.tup [.int (s.n : Nat), .ref t]) ∧ H t = some (.tup (s.b.map bV)) ∧ s.b.length ≤ s.n ∧ s.n ≤ 1000
def PsV (H : Hp) : KM.OS → V → Prop
  | none, v => v = .non
  | some s, v => PrV H s v
def E2V (C : Addr) (H : Hp) (e : KM.E2) (v : V) : Prop := ∃ p x y, v = .ref p ∧ H p = some (.tup [x, y]) ∧ OsV C H e.1 x ∧ OsV C H e.2 y
def P2V (H : Hp) (e : KM.E2) (v : V) : Prop := ∃ p x y, v = .ref p ∧ H p = some (.tup [x, y]) ∧ PsV H e.1 x ∧ PsV H e.2 y
def B2V (H : Hp) (e : KM.B2) (v : V) : Prop := ∃ p, v = .ref p ∧ H p = some (.tup [.bl e.1, .bl e.2])
section
variable {C : Addr} {H H' : Hp}
theorem ScV.le {s : KM.Sc} {v : V} (l : Le H H') (h : ScV C H s v) : ScV C H' s v := by
  obtain ⟨a, dx, t, e, h1, h2, h3⟩ := h
  exact ⟨a, dx, t, e, l _ _ trivial h1, l _ _ trivial h2, h3⟩
theorem OsV.le {s : KM.OS} {v : V} (l : Le H H') (h : OsV C H s v) : OsV C H' s v := by
  cases s with
  | none => exact h
  | some s => exact ScV.le l h
theorem PrV.le {s : KM.Sc} {v : V} (l : Le H H') (h : PrV H s v) : PrV H' s v := by
  obtain ⟨a, t, e, h1, h2, h3⟩ := h
  exact ⟨a, t, e, l _ _ trivial h1, l _ _ trivial h2, h3⟩
theorem PsV.le {s : KM.OS} {v : V} (l : Le H H') (h : PsV H s v) : PsV H' s v := by
  cases s with
  | none => exact h
  | some s => exact PrV.le l h
theorem E2V.le {e : KM.E2} {v : V} (l : Le H H') (h : E2V C H e v) : E2V C H' e v := by
  obtain ⟨p, x, y, e, h1, h2, h3⟩ := h
  exact ⟨p, x, y, e, l _ _ trivial h1, h2.le l, h3.le l⟩
theorem P2V.le {e : KM.E2} {v : V} (l : Le H H') (h : P2V H e v) : P2V H' e v := by
  obtain ⟨p, x, y, e, h1, h2, h3⟩ := h
  exact ⟨p, x, y, e, l _ _ trivial h1, h2.le l, h3.le l⟩
theorem B2V.le {e : KM.B2} {v : V} (l : Le H H') (h : B2V H e v) : B2V H' e v := by
  obtain ⟨p, e, h1⟩ := h
  exact ⟨p, e, l _ _ trivial h1⟩
theorem OsV.ok {s : KM.OS} {v : V} (h : OsV C H s v) : KM.okS s ∧ KM.small s := by
  cases s with
  | none => exact ⟨(fun _ z => nomatch z), (fun _ z => nomatch z)⟩
  | some s =>
    obtain ⟨a, dx, t, e, h1, h2, h3, h4⟩ := h
    exact ⟨fun r z => by cases z; exact h3, fun r z => by cases z; exact h4⟩
theorem ScV.inj {s r : KM.Sc} {v : V} (h : ScV C H s v) (g : ScV C H r v) : s = r := by
  obtain ⟨a, dx, t, e, h1, h2, _⟩ := h
  obtain ⟨b, dy, u, e', g1, g2, _⟩ := g
  rw [e] at e'; cases e'
  rw [h1] at g1
  have q := Option.some.inj g1
  injection q with _ _ q
  injection q with q1 q2
  injection q2 with q2 _
  have e1 : (s.n : Int) = r.n := by injection q1 with _ z; injection z
  have e2 : t = u := by injection q2 with _ z; injection z
  subst e2
  rw [h2] at g2
  have q3 := Option.some.inj g2
  injection q3 with q3
  have e3 := bV_inj q3
  obtain ⟨sn, sb⟩ := s
  obtain ⟨rn, rb⟩ := r
  simp only at e1 e3
  subst e3
  have : sn = rn := by omega
  rw [this]
theorem OsV.inj {s r : KM.OS} {v : V} (h : OsV C H s v) (g : OsV C H r v) : s = r := by
  cases s with
  | none =>
    cases r with
    | none => rfl
    | some r =>
      obtain ⟨a, _, _, e, _⟩ := g
      rw [show v = .non from h] at e; cases e
  | some s =>
    cases r with
    | none =>
      obtain ⟨a, _, _, e, _⟩ := h
      rw [show v = .non from g] at e; cases e
    | some r => rw [ScV.inj h g]
end
/-! ### the order of scripts -/
def bD (l : List Bool) : PyData := .tuple (l.map fun b => .int (bI b))
theorem shaped_bits (l : List Bool) : SeqAt.shaped (bD l) = true := by
  have h : ∀ l : List Bool, PyData.canLayAll0 (l.map fun b => .int (bI b)) = true ∧ PyData.depthAll (l.map fun b => .int (bI b)) = 0 := by
    intro l
    induction l with
    | nil => exact ⟨rfl, rfl⟩
    | cons a l ih =>
      rw [List.map_cons]
      exact ⟨by unfold PyData.canLayAll0; rw [ih.1]; rfl, by unfold PyData.depthAll; rw [ih.2]; rfl⟩
  unfold SeqAt.shaped bD
  unfold PyData.canLay0 PyData.depth
  rw [(h l).1, (h l).2]; rfl
theorem eqv_bits (l r : List Bool) : PyData.eqv (bD l) (bD r) = decide (l = r) := by
  unfold bD
  unfold PyData.eqv
  induction l generalizing r with
  | nil => cases r <;> rfl
  | cons a l ih =>
    cases r with
    | nil => rfl
    | cons b r =>
      rw [List.map_cons, List.map_cons]
      unfold PyData.eqvAll
      rw [ih r]
      show ((bI a == bI b) && decide (l = r)) = decide (a :: l = b :: r)
      cases a <;> cases b <;> simp [bI]
theorem dp_bits {K : PySem.W.Frag} {H : Hp} {t : Addr} {l : List Bool} (h : H t = some (.tup (l.map bV))) : Dp K H (.ref t) (bD l) := by
  refine Dp.tup (SqT.of h) ?_
  clear h
  induction l with
  | nil => exact .nil
  | cons a l ih => exact .cons (.int _) ih
section
variable {X : Cx} {pins : List (Addr × Obj)} {σ : L2.St} {H : Hp} {s : Shared} {A : Around}
theorem rcAt_bits {t u : Addr} {l r : List Bool} (I : Inv X pins σ H s) (h : H t = some (.tup (l.map bV))) (g : H u = some (.tup (r.map bV))) (hu : A.units + 64 < cLine) : SeqAt.RcAt A s (.ref t) (.ref u) (decide (l = r)) := fun prog w E Q q => by
  obtain ⟨as, r1⟩ := Dp.reads I _ _ (.ref t) (dp_bits (K := X.K) h) rfl
  obtain ⟨bs, r2⟩ := Dp.reads I _ _ (.ref u) (dp_bits (K := X.K) g) rfl
  rw [← eqv_bits] at q
  exact SeqAt.compareEq_shaped r1 r2 (shaped_bits l) (shaped_bits r) hu q
theorem eqAt_bits {t u : Addr} {l r : List Bool} (I : Inv X pins σ H s) (h : H t = some (.tup (l.map bV))) (g : H u = some (.tup (r.map bV))) (hu : A.units + 64 < cLine) : SeqAt.EqAt A s (.ref t) (.ref u) (decide (l = r)) := by
  by_cases e : t = u
  · subst e
    rw [h] at g
    have q := Option.some.inj g
    injection q with q
    rw [decide_eq_true (bV_inj q)]
    exact SeqAt.EqAt.same _
  · exact SeqAt.EqAt.of_refs e (rcAt_bits I h g hu)
theorem rcLt_bits {t u : Addr} {l r : List Bool} (I : Inv X pins σ H s) (h : H t = some (.tup (l.map bV))) (g : H u = some (.tup (r.map bV))) (hu : A.units < cLine) : Ob.RcOp .Lt A s (.ref t) (.ref u) (KM.ltB l r) := fun prog w E Q q => by
  obtain ⟨its, r1, p1, _⟩ := I.tuple (SqT.of (K := X.K) h)
  obtain ⟨its2, r2, p2, _⟩ := I.tuple (SqT.of (K := X.K) g)
  rw [bV_map] at r1 r2
  rw [← lexLt_bits] at q
  exact HT.lt_tupInts p1 p2 (intsAre_of r1) (intsAre_of r2) hu q
/-- two pairs (steps, bits) -/
def rLtSc : R2 := fun x y H Q => ∃ p q t u, ∃ a b : KM.Sc, x = .ref p ∧ y = .ref q ∧ H p = some (.tup [.int (a.n : Nat), .ref t]) ∧ H q = some (.tup [.int (b.n : Nat), .ref u]) ∧ H t = some (.tup (a.b.map bV)) ∧ H u = some (.tup (b.b.map bV)) ∧ Q (.bl (a.lt b)) H
theorem op_ltSc {k : Nat} (hr : Room k X.A) : OpR X (compareOp .Lt) rLtSc := by
  intro pins s σ H x y v u Q I rx ry h
  obtain ⟨p, q, t, w, a, b, rfl, rfl, hp, hq, ht, hw, k⟩ := h
  cases rx
  cases ry
  obtain ⟨its, r1, p1, _⟩ := I.tuple (SqT.of (K := X.K) hp)
  obtain ⟨its2, r2, p2, _⟩ := I.tuple (SqT.of (K := X.K) hq)
  cases r1 with
  | cons c1 r1 =>
  cases r1 with
  | cons c2 r1 =>
  cases r1
  cases r2 with
  | cons d1 r2 =>
  cases r2 with
  | cons d2 r2 =>
  cases r2
  obtain ⟨t1, rfl⟩ := c1
  obtain ⟨t2, rfl⟩ := d1
  cases c2
  cases d2
  have hu : X.A.units + 100 < cLine := by have := hr.un; omega
  have main := Ob.RcOp.tuples_lt (A := X.A) (e := fun j => if j = 0 then decide (a.n = b.n) else decide (a.b = b.b)) (r := fun j => if j = 0 then decide (a.n < b.n) else KM.ltB a.b b.b) p1 p2 hr.units0 (fun j h1 h2 => ?_) fun j h1 h2 _ => ?_
  · refine main _ _ _ _ ?_
    refine ⟨.bl _, H, I, rfl, ?_⟩
    have e : Ob.lexAt (fun j => if j = 0 then decide (a.n = b.n) else decide (a.b = b.b)) (fun j => if j = 0 then decide (a.n < b.n) else KM.ltB a.b b.b) false 0 2 = a.lt b := by
      unfold Ob.lexAt Ob.lexAt Ob.lexAt KM.Sc.lt
      by_cases e1 : a.n = b.n
      · simp only [e1, if_true, decide_true]
        by_cases e2 : a.b = b.b
        · simp [e2, KM.ltB_irr]
        · simp [e2]
      · simp [e1]
    exact e ▸ k
  · have h1' : j < 2 := h1
    match j, h1' with
    | 0, _ =>
      show SeqAt.EqAt X.A.in1 s (.int _ t1) (.int _ t2) (decide (a.n = b.n))
      have := eqAt_V (A := X.A.in1) (s := s) (y := .int (a.n : Nat)) (x := .int (b.n : Nat)) ⟨t1, rfl⟩ ⟨t2, rfl⟩ rfl rfl
      have e : eqV (.int (a.n : Nat)) (.int (b.n : Nat)) = decide (a.n = b.n) := by
        show ((a.n : Int) == b.n) = _
        by_cases z : a.n = b.n
        · simp [z]
        · rw [decide_eq_false z]; exact beq_eq_false_iff_ne.mpr fun q => z (by omega)
      rw [e] at this
      exact this
    | 1, _ =>
      exact eqAt_bits I ht hw (by show X.A.units + 1 + 64 < cLine; omega)
  · have h1' : j < 2 := h1
    match j, h1' with
    | 0, _ =>
      have := Ob.RcOp.lt_int (A := X.A.in1) (s := s) (a.n : Nat) (b.n : Nat) t1 t2
      have e : decide ((a.n : Int) < b.n) = decide (a.n < b.n) := by
        by_cases z : a.n < b.n
        · rw [decide_eq_true z, decide_eq_true (by omega)]
        · rw [decide_eq_false z, decide_eq_false (by omega)]
      rw [e] at this
      exact this
    | 1, _ => exact rcLt_bits I ht hw (by show X.A.units + 1 < cLine; omega)
end
end K52

namespace K52
open PySem PySem.Spec PyProof.Rows L2
/-! ### == of scripts and None -/
/-- what an own == of two scripts promises -/
def spEqS (C : Addr) : Sp := fun vs H Q _ => ∃ x y, ∃ a : KM.Sc, ∃ c : KM.OS, vs = [x, y] ∧ ScV C H a x ∧ OsV C H c y ∧ ∀ H', Same H H' → Q (.bl (decide (some a = c))) H'
abbrev EqT := V → V → Bool → Hp → Prop
def EqMon (D : EqT) : Prop := ∀ x y b H H', Same H H' → D x y b H → D x y b H'
def EqR (X : Cx) (n : Nat) (D : EqT) : Prop :=
  ∀ (A : Around) (pins : List (Addr × Obj)) (s : Shared) (σ : L2.St) (H : Hp) (x y : V) (u v : Value) (b : Bool), L2.Sub X n A → Inv X pins σ H s → RelV x u → RelV y v → D x y b H →
    wpAny (model X.prog X.w) A (eqBool u v) (fun r s' => r = b ∧ ∃ H', Inv X pins σ H' s' ∧ Same H H') X.xe s
def DFl : EqT := fun x y b _ => flatV x = true ∧ flatV y = true ∧ eqV x y = b
theorem eqR_flat {X : Cx} : EqR X 0 DFl := by
  intro A pins s σ H x y u v b sb I rx ry d
  obtain ⟨fx, fy, rfl⟩ := d
  exact eqAt_V (A := A) (s := s) rx ry fx fy X.prog X.w X.xe _ ⟨rfl, H, I, Same.refl H⟩
def DOs (C : Addr) : EqT := fun x y b H => ∃ a c : KM.OS, OsV C H a x ∧ OsV C H c y ∧ b = decide (a = c)
theorem mon_os {C : Addr} : EqMon (DOs C) := fun x y b H H' e d => by
  obtain ⟨a, c, h1, h2, h3⟩ := d
  exact ⟨a, c, OsV.le (Same.le e) h1, OsV.le (Same.le e) h2, h3⟩
theorem mon_fl : EqMon DFl := fun _ _ _ _ _ _ d => d
section
variable {X : Cx} {CX : CXT} {C f : Addr} {fd : FuncData} {ps : List Str} {n : Nat} {sp : Sp} {E : XK} {A : Around} {pins : List (Addr × Obj)} {σ : L2.St} {H : Hp} {s : Shared}
theorem own_call (F : FnOk X.prog X.w X.K X.mg X.base CX n f fd ps sp) (hb : Binds X.K fd ps []) (hx : Passes CX X E) (sb : L2.Sub X n A) (I : Inv X pins σ H s) {vs : List V} {us : List Value} {P : V → Hp → Prop} (r2 : Vals vs us) (hsp : sp vs H P E) :
    wpAny (model X.prog X.w) A (call (.ref f) us) (fun w s' => ∃ z H', Inv X pins σ H' s' ∧ RelV z w ∧ P z H') X.xe s := by
  have e0 : Env0 X.prog X.w X.K X.mg X.base A X.stack s H := by
    have e := I.env0
    exact ⟨by rw [sb.fr]; exact e.frames, e.mod, e.bs, e.bsz, e.funs, e.frf, e.hok, e.bare⟩
  have hl := F.len _ _ _ _ hsp
  refine wpAny_call (codeAny_mono (F.run A X.stack s H ⟨us, []⟩ us vs _ E sb.room e0 (by
    have := hb s us I.kIn (by rw [List.append_nil, ← r2.length]; exact hl)
    simpa using this) r2 hsp) fun r s' hq => ?_)
  cases r with
  | error e => exact hx pins σ H s e s' I hq
  | ok fl =>
    cases fl with
    | ret w => exact I.after hq
    | next => exact False.elim hq
    | brk => exact False.elim hq
    | cont => exact False.elim hq
variable (FE : FnOk X.prog X.w X.K X.mg X.base CX n f fd ps (spEqS C)) (hs : PySem.W.findIn X.K (.ref C) "__eq__" = some (some (.ref f))) (hf : PySem.W.isFn X.K (.ref f) = true) (hb : Binds X.K fd ps []) (hx : Passes CX X E)
include FE hs hf hb hx
theorem eq_call (sb : L2.Sub X n A) (I : Inv X pins σ H s) {a : KM.Sc} {c : KM.OS} {x y : V} {u v : Value} (rx : RelV x u) (ry : RelV y v) (h1 : ScV C H a x) (h2 : OsV C H c y) :
    wpAny (model X.prog X.w) A (call (.ref f) [u, v]) (fun w s' => w = .bool (decide (some a = c)) ∧ ∃ H', Inv X pins σ H' s' ∧ Same H H') X.xe s := by
  refine wpAny_mono (own_call (P := fun z H' => z = .bl (decide (some a = c)) ∧ Same H H') FE hb hx sb I (.cons rx (.cons ry .nil)) ⟨x, y, a, c, rfl, h1, h2, fun H' e => ⟨rfl, e⟩⟩) (fun w s' z => ?_) fun _ _ x => x
  obtain ⟨z, H', I', rz, rfl, e⟩ := z
  exact ⟨rz, H', I', e⟩
theorem ty_os (I : Inv X pins σ H s) {c : KM.OS} {y : V} {v : Value} (ry : RelV y v) (h2 : OsV C H c y) : ∃ tb, PySem.W.Looks (model X.prog X.w) s.heap (typeOf v) tb ∧ PySem.W.notFirst X.K C tb = true := by
  cases c with
  | none =>
    rw [show y = .non from h2] at ry
    cases ry
    refine ⟨.type "NoneType", PySem.W.looks_typeIn I.kIn rfl, ?_⟩
    unfold PySem.W.notFirst
    rw [HN.sub_none]
    simp
  | some c =>
    obtain ⟨p, dx, t, rfl, hp, _⟩ := h2
    cases ry
    obtain ⟨_, _, J'⟩ := ins_look I hp
    exact ⟨_, J'.type, by simp [PySem.W.notFirst]⟩
theorem rc_scr (sb : L2.Sub X n A) (I : Inv X pins σ H s) {a : KM.Sc} {c : KM.OS} {x y : V} {u v : Value} (rx : RelV x u) (ry : RelV y v) (h1 : ScV C H a x) (h2 : OsV C H c y) :
    wpAny (model X.prog X.w) A (richCompare .Eq u v) (fun w s' => w = .bool (decide (some a = c)) ∧ ∃ H', Inv X pins σ H' s' ∧ Same H H') X.xe s := by
  have h1' := h1
  obtain ⟨p, dx, t, rfl, hp, _⟩ := h1
  have rx' := rx
  cases rx
  obtain ⟨_, _, J⟩ := ins_look I hp
  obtain ⟨m, hF⟩ := I.fr
  obtain ⟨tb, ht, hn⟩ := ty_os FE hs hf hb hx I ry h2
  refine PySem.W.cmp_K (op := .Eq) (tb := tb) sb.room.units0 hF I.ok.mod.kin J ht hn hs hf ?_
  refine wpAny_mono (eq_call FE hs hf hb hx sb I rx' ry h1' h2) (fun w s' z => ?_) fun _ _ x => x
  obtain ⟨rfl, z⟩ := z
  exact ⟨rfl, z⟩
theorem rc_nos (hsub : PySem.W.subIn X.K (.ref C) (.type "NoneType") = some false) (sb : L2.Sub X n A) (I : Inv X pins σ H s) {c : KM.Sc} {y : V} {v : Value} (ry : RelV y v) (h2 : ScV C H c y) :
    wpAny (model X.prog X.w) A (richCompare .Eq .none v) (fun w s' => w = .bool false ∧ ∃ H', Inv X pins σ H' s' ∧ Same H H') X.xe s := by
  have h2' := h2
  obtain ⟨p, dx, t, rfl, hp, _⟩ := h2
  have ry' := ry
  cases ry
  obtain ⟨_, _, J⟩ := ins_look I hp
  have one : wpAny (model X.prog X.w) A (tryCompare .none "__eq__" (.ref p)) (fun r s' => r = none ∧ s' = s) X.xe s :=
    wpAny_tryCompare_declines (show s.TypeIs .none "NoneType" from rfl) PySem.F.slot_NoneType_eq (call_gives PySem.F.slot_NoneType_eq rfl PySem.F.entry_NoneType_eq (PySem.F.args_NoneType_eq_2 _ _) (SeqAt.NoneType___eq___none_ref_0 p) ⟨rfl, rfl, rfl⟩)
  have two : wpAny (model X.prog X.w) A (tryCompare (.ref p) "__eq__" .none) (fun r s' => r = some (.bool false) ∧ ∃ H', Inv X pins σ H' s' ∧ Same H H') X.xe s := by
    unfold tryCompare
    refine wpAny_bind (PySem.W.ifBound_K I.kIn J hs hf (wpAny_mono (eq_call (c := none) FE hs hf hb hx sb I ry' (y := .non) rfl h2' rfl) (fun v s' z => ?_) fun _ _ e => e))
    obtain ⟨rfl, z⟩ := z
    exact wpAny_pure ⟨rfl, z⟩
  simp only [richCompare, cmpInfo_Eq]
  refine wpAny_holding (wpAny_bind (wpAny_cRoomFor sb.room.units0 ?_))
  rw [show oneThing? .Eq .none (.ref p) = none from rfl]
  dsimp only
  refine wpAny_bind (wpAny_typeOf (show s.TypeIs .none "NoneType" from rfl) ?_)
  refine wpAny_bind (J.type.here ?_)
  split
  · refine wpAny_bind ((PySem.W.looks_subIn I.kIn hsub).here ?_)
    simp only [Bool.false_eq_true, if_false, Bool.not_false, if_true]
    refine wpAny_bind (m := tryCompare .none _ (.ref p)) (wpAny_mono one (fun r s1 z => ?_) fun _ _ e => e)
    obtain ⟨z1, z2⟩ := z
    subst z1
    subst z2
    refine wpAny_bind (m := tryCompare (.ref p) _ .none) (wpAny_mono two (fun r s2 z => ?_) fun _ _ e => e)
    obtain ⟨z1, z2⟩ := z
    subst z1
    exact wpAny_pure ⟨rfl, z2⟩
  · rename_i q
    exact absurd (by simp) q
/-- == inside a builtin: scripts, None -/
theorem eqR_os (hsub : PySem.W.subIn X.K (.ref C) (.type "NoneType") = some false) : EqR X n (DOs C) := by
  intro A pins s σ H x y u v b sb I rx ry d
  obtain ⟨a, c, h1, h2, rfl⟩ := d
  cases a with
  | none =>
    rw [show x = .non from h1] at rx
    cases rx
    cases c with
    | none =>
      rw [show y = .non from h2] at ry
      cases ry
      exact SeqAt.EqAt.same (A := A) (s := s) .none X.prog X.w X.xe _ ⟨rfl, H, I, Same.refl H⟩
    | some c =>
      have ne : ¬ ((Value.none == v) = true) := by
        obtain ⟨p, _, _, e, _⟩ := h2
        rw [e] at ry; cases ry; simp
      unfold eqBool
      refine wpAny_holding ?_
      refine wpAny_ite_split (fun hab => absurd hab ne) (fun _ => ?_)
      refine wpAny_bind (wpAny_mono (rc_nos FE hs hf hb hx hsub sb I ry h2) (fun w s' z => ?_) fun _ _ x => x)
      obtain ⟨rfl, H', I', e⟩ := z
      exact wpAny_truthy_bool ⟨by simp, H', I', e⟩
  | some a =>
    have h1' : ScV C H a x := h1
    have rx' := rx
    obtain ⟨p, dx, t, rfl, hp⟩ := h1
    cases rx
    unfold eqBool
    refine wpAny_holding ?_
    refine wpAny_ite_split (fun hab => ?_) (fun _ => ?_)
    · have e := eq_of_beq hab
      subst e
      cases c with
      | none =>
        rw [show y = .non from h2] at ry
        cases ry
      | some c =>
        obtain ⟨q, dy, t', rfl, hq⟩ := id (show ScV C H c y from h2)
        cases ry
        have := ScV.inj h1' h2
        subst this
        exact wpAny_bind (wpAny_rule (wpAny_pure ⟨by simp, H, I, Same.refl H⟩))
    · refine wpAny_bind (wpAny_mono (rc_scr FE hs hf hb hx sb I rx' ry h1' h2) (fun w s' z => ?_) fun _ _ x => x)
      obtain ⟨rfl, H', I', e⟩ := z
      exact wpAny_truthy_bool ⟨rfl, H', I', e⟩
end
/-! ### != of pairs -/
def rNe2 (D : EqT) : R2 := fun x y H Q => ∃ a b x1 x2 y1 y2 d1 d2, x = .ref a ∧ y = .ref b ∧ H a = some (.tup [x1, x2]) ∧ H b = some (.tup [y1, y2]) ∧ D x1 y1 d1 H ∧ D x2 y2 d2 H ∧ ∀ H', Same H H' → Q (.bl (!(d1 && d2))) H'
section
variable {X : Cx} {n : Nat} {D : EqT}
theorem op_ne2 (hD : EqMon D) (h : EqR X n D) (hr : Room (n + 1) X.A) : OpR X (compareOp .NotEq) (rNe2 D) := by
  intro pins s σ H x y v u Q I rx ry k
  obtain ⟨a, b, x1, x2, y1, y2, d1, d2, rfl, rfl, ha, hb, e1, e2, k⟩ := k
  cases rx
  cases ry
  have tk : L2.Sub X n X.A.in1 := ⟨hr.in1, rfl⟩
  obtain ⟨its, r1, p1, _⟩ := I.tuple (SqT.of (K := X.K) ha)
  obtain ⟨its2, r2, p2, _⟩ := I.tuple (SqT.of (K := X.K) hb)
  cases r1 with
  | @cons _ u1 _ _ c1 r1 =>
  cases r1 with
  | @cons _ u2 _ _ c2 r1 =>
  cases r1
  cases r2 with
  | @cons _ w1 _ _ g1 r2 =>
  cases r2 with
  | @cons _ w2 _ _ g2 r2 =>
  cases r2
  obtain ⟨⟨cls, dd, data, sl⟩, ho, hc, m, hd⟩ := id p1
  obtain ⟨⟨cls2, dd2, data2, sl2⟩, ho2, hc2, m2, hd2⟩ := id p2
  simp only at hc hd hc2 hd2
  subst hc hd hc2 hd2
  show wpAny (model X.prog X.w) X.A (richCompare .NotEq (.ref a) (.ref b)) (EP X pins σ Q) X.xe s
  refine wpAny_richCompare_same_room (op := .NotEq) ⟨_, ho, rfl⟩ ⟨_, ho2, rfl⟩ PySem.F.slot_tuple_ne (GQ.call_here PySem.F.slot_tuple_ne ⟨_, ho, rfl⟩ PySem.F.entry_tuple_ne (PySem.F.args_tuple_ne_2 _ _) ?_) hr.units0
  refine K52q.tuple_neG (A := X.A) (R := wants (fun v s' => v ≠ .notImplemented ∧ EP X pins σ Q v s') X.xe) a b #[u1, u2] #[w1, w2] m m2 dd dd2 sl sl2 rfl (fun _ s' => ∃ H', Inv X pins σ H' s' ∧ Same H H') (fun i => if i = 0 then d1 else d2) (fun i h1 h2 s' q => ?_) (fun i s' hi e q => ?_) (fun s' e q => ?_) ho ho2 ⟨H, I, Same.refl H⟩
  · obtain ⟨H1, I1, s1⟩ := q
    have hi : i < 2 := h1
    have mono : ∀ {r : Bool} {s2 : Shared}, (r = (if i = 0 then d1 else d2) ∧ ∃ H', Inv X pins σ H' s2 ∧ Same H1 H') → (r = (if i = 0 then d1 else d2) ∧ ∃ H', Inv X pins σ H' s2 ∧ Same H H') := fun ⟨e, H', I', s'⟩ => ⟨e, H', I', s1.trans s'⟩
    match i, hi with
    | 0, _ => exact wpAny_mono (h X.A.in1 pins s' σ H1 _ _ u1 w1 d1 tk I1 c1 g1 (hD _ _ _ _ _ s1 e1)) (fun r s2 z => mono z) fun _ _ x => x
    | 1, _ => exact wpAny_mono (h X.A.in1 pins s' σ H1 _ _ u2 w2 d2 tk I1 c2 g2 (hD _ _ _ _ _ s1 e2)) (fun r s2 z => mono z) fun _ _ x => x
  · obtain ⟨H1, I1, s1⟩ := q
    have hi : i < 2 := hi
    refine ⟨(fun z => nomatch z), .bl true, H1, I1, rfl, ?_⟩
    have : (d1 && d2) = false := by
      match i, hi with
      | 0, _ => rw [show d1 = false from e]; rfl
      | 1, _ => rw [show d2 = false from e]; cases d1 <;> rfl
    rw [this] at k
    exact k H1 s1
  · obtain ⟨H1, I1, s1⟩ := q
    refine ⟨(fun z => nomatch z), .bl false, H1, I1, rfl, ?_⟩
    have e1 : d1 = true := e 0 (by show 0 < 2; decide)
    have e2 : d2 = true := e 1 (by show 1 < 2; decide)
    rw [e1, e2] at k
    exact k H1 s1
end
end K52

namespace K52
open PySem PySem.Spec PyProof.Rows L2
section
variable {X : Cx} {CX : CXT} {C f : Addr} {fd : FuncData} {ps : List Str} {n : Nat} {E : XK} {A : Around} {pins : List (Addr × Obj)} {σ : L2.St} {H : Hp} {s : Shared}
variable (FE : FnOk X.prog X.w X.K X.mg X.base CX n f fd ps (spEqS C)) (hs : PySem.W.findIn X.K (.ref C) "__eq__" = some (some (.ref f))) (hf : PySem.W.isFn X.K (.ref f) = true) (hb : Binds X.K fd ps []) (hx : Passes CX X E)
  (hne : PySem.W.findIn X.K (.ref C) "__ne__" = some (some (.builtin "object.__ne__"))) (hm : PySem.W.mroIn X.K C (.type "object") = some true)
include FE hs hf hb hx hne hm
theorem try_ne (sb : L2.Sub X (n + 1) A) (I : Inv X pins σ H s) {a : KM.Sc} {c : KM.OS} {p : Addr} {y : V} {v : Value} (ry : RelV y v) (h1 : ScV C H a (.ref p)) (h2 : OsV C H c y) :
    wpAny (model X.prog X.w) A (tryCompare (.ref p) "__ne__" v) (fun w s' => w = some (.bool (!decide (some a = c))) ∧ ∃ H', Inv X pins σ H' s' ∧ Same H H') X.xe s := by
  obtain ⟨q, dx, t, e, hp, _⟩ := id h1
  cases e
  obtain ⟨_, _, J⟩ := ins_look I hp
  have body : ∀ Q : Fin → Shared → Prop, (∀ s', (∃ H', Inv X pins σ H' s' ∧ Same H H') → Q (.done (.ret (.bool (!decide (some a = c))))) s') → wpAny (model X.prog X.w) A.in1 (Builtin.«object.__ne__» ⟨[.ref p, v], []⟩) Q X.xe s := fun Q hQ => by
    have sb1 := sb.in1
    have hu : A.in1.units < cLine := sb1.room.units0
    have hc := PySem.W.ifBound_K (name := "__eq__") (args := [v]) (M := model X.prog X.w) (A := A.in1) (E := X.xe) (Q := fun r s' => r = some (.bool (decide (some a = c))) ∧ ∃ H', Inv X pins σ H' s' ∧ Same H H') I.kIn J hs hf
      (wpAny_mono (eq_call FE hs hf hb hx sb1 I (x := .ref p) rfl ry h1 h2) (fun w s' z => ⟨by rw [z.1], z.2⟩) fun _ _ e => e)
    unfold Builtin.«object.__ne__»
    repeat (first
      | with_reducible refine wpAny_cRoomFor hu ?_
      | (refine wpAny_bind (m := callSpecialIfBound? (.ref p) (Str.ofString "__eq__") [v]) (wpAny_mono hc (fun r s' z => ?_) fun _ _ e => e))
      | wp_step)
    obtain ⟨rfl, z⟩ := z
    dsimp only
    refine wpAny_bind (m := truthy (.bool _)) (wpAny_truthy_bool ?_)
    exact wpAny_pure (hQ _ z)
  simp only [tryCompare]
  refine wpAny_bind ?_
  have cl : wpAny (model X.prog X.w) A (call (.builtin "object.__ne__") [.ref p, v]) (fun w s' => w = .bool (!decide (some a = c)) ∧ ∃ H', Inv X pins σ H' s' ∧ Same H H') X.xe s :=
    wpAny_call (codeAny_call_builtin F.cmp_object.ne.plain F.cmpEntry_ne (PySem.W.check_slot F.cmpKind_ne F.cmpSplit_ne (J.type.andThen (PySem.W.looks_mroIn I.kIn hm)) (F.cmpArgs_ne _ _) (body _ fun s' z => ⟨rfl, z⟩)))
  simp only [callSpecialIfBound?, bindSpecialIfBound?]
  refine wpAny_holding (wpAny_bind (wpAny_bind (wpAny_bind (J.type.here ((PySem.W.looks_findIn I.kIn hne).here ?_)))))
  refine wpAny_bind (wpAny_askSetting (wpAny_ite ?_))
  have fin : ∀ Q : Option Value → Shared → Prop, (∀ w s', (w = .bool (!decide (some a = c)) ∧ ∃ H', Inv X pins σ H' s' ∧ Same H H') → Q (some w) s') → wpAny (model X.prog X.w) A (call (.builtin "object.__ne__") ([.ref p] ++ [v]) >>= fun v => pure (some v)) Q X.xe s := fun Q hQ => wpAny_bind (wpAny_mono cl (fun v s' h' => wpAny_pure (hQ v s' h')) fun _ _ h' => h')
  split
  · exact wpAny_bind (wpAny_of_eq (F.cmp_object.ne.bind _) (wpAny_pure (fin _ fun w s' z => by obtain ⟨rfl, z⟩ := z; exact wpAny_pure ⟨rfl, z⟩)))
  · exact wpAny_tryCatch (wpAny_bind (wpAny_of_eq (F.cmp_object.ne.bind _) (wpAny_pure (fin _ fun w s' z => by obtain ⟨rfl, z⟩ := z; exact wpAny_pure ⟨rfl, z⟩))))
/-- != of scripts and None: None on the left only with None on the right -/
def rNeOs (C : Addr) : R2 := fun x y H Q => ∃ a c, OsV C H a x ∧ OsV C H c y ∧ (a = none → c = none) ∧ ∀ H', Same H H' → Q (.bl (!decide (a = c))) H'
theorem op_neOs (hr : Room (n + 1) X.A) : OpR X (compareOp .NotEq) (rNeOs C) := by
  intro pins s σ H x y v u Q I rx ry k
  obtain ⟨a, c, h1, h2, hn, k⟩ := k
  cases a with
  | none =>
    have e := hn rfl
    subst e
    rw [show x = .non from h1] at rx
    rw [show y = .non from h2] at ry
    exact op_ne pins s σ H .non .non v u Q I rx ry ⟨rfl, by have := k H (Same.refl H); simpa using this⟩
  | some a =>
    have h1' : ScV C H a x := h1
    obtain ⟨p, dx, t, rfl, hp, _⟩ := id h1'
    cases rx
    obtain ⟨_, _, J⟩ := ins_look I hp
    obtain ⟨tb, ht, hn⟩ := ty_os FE hs hf hb hx I ry h2
    have sb : L2.Sub X (n + 1) X.A := ⟨hr, rfl⟩
    have one := try_ne FE hs hf hb hx hne hm sb I ry h1' h2
    show wpAny (model X.prog X.w) X.A (richCompare .NotEq (.ref p) u) (EP X pins σ Q) X.xe s
    unfold richCompare
    simp only [oneThing_ref]
    refine wpAny_holding (wpAny_bind (wpAny_cRoomFor hr.units0 ?_))
    rw [cmpInfo_NotEq]
    dsimp only
    refine wpAny_bind (J.type.here (wpAny_bind (ht.here ?_)))
    have fin : ∀ w s', (w = some (.bool (!decide (some a = c))) ∧ ∃ H', Inv X pins σ H' s' ∧ Same H H') → ∃ r, w = some r ∧ EP X pins σ Q r s' := fun w s' z => by
      obtain ⟨rfl, H', I', e⟩ := z
      exact ⟨_, rfl, .bl _, H', I', rfl, k H' e⟩
    split
    · rename_i q
      have e : PySem.W.subIn X.K tb (.ref C) = some false := by
        rcases Bool.or_eq_true_iff.mp hn with e | e
        · rw [beq_iff_eq.mp e] at q; simp at q
        · exact beq_iff_eq.mp e
      refine wpAny_bind ((PySem.W.looks_subIn I.kIn e).here ?_)
      simp only [Bool.false_eq_true, if_false]
      refine wpAny_bind (wpAny_mono one (fun r s' z => ?_) fun _ _ e => e)
      obtain ⟨v, rfl, hq⟩ := fin _ _ z
      exact wpAny_pure hq
    · refine wpAny_bind (wpAny_pure ?_)
      simp only [Bool.false_eq_true, if_false]
      refine wpAny_bind (wpAny_mono one (fun r s' z => ?_) fun _ _ e => e)
      obtain ⟨v, rfl, hq⟩ := fin _ _ z
      exact wpAny_pure hq
end
end K52

namespace K52
open PySem PySem.Spec PyProof.Rows L2
/-! ### comprehensions that map -/
section
variable {J : It} {n : Nat} {G : Hp → Prop} {Y : Nat → Hp → V → Hp → Prop}
theorem lc_map (w : Walk J n G Y) {g : TG} {te : TE} {vs : List Nat} {σ : L2.St} {H1 : Hp} {D : Addr} {Qd : Hp → Prop} (hD : H1 D = none) (hG : ∀ H, Same H1 H → G H) (hz : n ≤ sizeLine) (R : Nat → V → Hp → Prop)
    (hR : ∀ i y H H' ws, H D = some (.lst ws) → But D H H' → R i y H → R i y H') (hY : ∀ i H x H', i < n → Y i H x H' → Same H H')
    (step : ∀ i x H H' Q, i < n → Same H1 H → Y i H x H' → (∀ y H4, Same H' H4 → R i y H4 → Q y H4) → g x (wipe σ vs) H' fun σ2 H2 => wipe σ2 vs = wipe σ vs ∧ te σ2 H2 Q)
    (fin : ∀ H ys, Same H1 H → H D = some (.lst ys) → ys.length = n → (∀ i y, ys[i]? = some y → R i y H) → Qd H) :
    ∃ W : Nat → Nat → Hp → Prop, (∃ m, W 0 m (upd H1 D (.lst []))) ∧ ∀ i m H, W i m H →
      (J.stop i H ∧ Qd H) ∨ (J.go i H ∧ ∃ Nx : Hp → Prop, (∀ H', Nx H' → ∃ m', m' < m ∧ W (i + 1) m' H') ∧ ∀ x H', J.yld i H x H' → g x (wipe σ vs) H' fun σ2 H2 => wipe σ2 vs = wipe σ vs ∧ tYes σ2 H2 fun b H3 =>
        if b = true then te σ2 H3 fun y H4 => ∃ acc, H4 D = some (.lst acc) ∧ acc.length < sizeLine ∧ Nx (upd H4 D (.lst (acc ++ [y]))) else Nx H3) := by
  refine lc_it w (fun i H => Same H1 H ∧ ∃ ys, H D = some (.lst ys) ∧ ys.length = i ∧ ∀ j y, ys[j]? = some y → R j y H) ⟨Same.upd hD, [], upd_same, rfl, fun j y h => by simp at h⟩ (fun i H _ p => hG H p.1) (fun i x H H' hi p y => ?_) (fun H p => ?_)
  · obtain ⟨s1, ys, hd, hl, hr⟩ := p
    have s2 := hY i H x H' hi y
    have := step i x H H' (fun y H4 => ∃ acc, H4 D = some (.lst acc) ∧ acc.length < sizeLine ∧ (fun i H => Same H1 H ∧ ∃ ys, H D = some (.lst ys) ∧ ys.length = i ∧ ∀ j y, ys[j]? = some y → R j y H) (i + 1) (upd H4 D (.lst (acc ++ [y])))) hi s1 y (fun y H4 s3 r => ?_)
    · exact this
    · have s4 : Same H H4 := s2.trans s3
      have hd4 := s4 _ _ hd
      refine ⟨ys, hd4, by omega, Same.but_new (s1.trans s4) hD But.upd, ys ++ [y], upd_same, by simp [hl], fun j z hj => ?_⟩
      have bu : But D H4 (upd H4 D (.lst (ys ++ [y]))) := But.upd
      rcases Nat.lt_or_ge j ys.length with h | h
      · rw [List.getElem?_append_left h] at hj
        exact hR _ _ _ _ _ hd4 bu (hR _ _ _ _ _ hd (Same.but D s4) (hr j z hj))
      · rw [List.getElem?_append_right h] at hj
        have e : j - ys.length = 0 := by
          rcases Nat.eq_zero_or_pos (j - ys.length) with q | q
          · exact q
          · rw [List.getElem?_eq_none (by simp; omega)] at hj; cases hj
        rw [e] at hj
        cases hj
        have e2 : j = i := by omega
        rw [e2]
        exact hR _ _ _ _ _ hd4 bu r
  · obtain ⟨s1, ys, hd, hl, hr⟩ := p
    exact fin H ys s1 hd hl hr
/-! ### dicts by name -/
/-- the keys are the names, in order; R tells the values -/
def DRel (names : List Str) (R : Str → V → Prop) (kvs : List (Key × V)) : Prop := kvs.map (·.1) = names.map Sum.inr ∧ ∀ x v, ((Sum.inr x : Key), v) ∈ kvs → R x v
theorem DRel.length {names : List Str} {R : Str → V → Prop} {kvs : List (Key × V)} (h : DRel names R kvs) : kvs.length = names.length := by
  have := congrArg List.length h.1
  simpa using this
theorem DRel.imp {names : List Str} {R R' : Str → V → Prop} {kvs : List (Key × V)} (h : DRel names R kvs) (k : ∀ x v, x ∈ names → R x v → R' x v) : DRel names R' kvs := ⟨h.1, fun x v m => k x v (by
  have : (Sum.inr x : Key) ∈ kvs.map (·.1) := List.mem_map.mpr ⟨_, m, rfl⟩
  rw [h.1] at this
  obtain ⟨y, hy, e⟩ := List.mem_map.mp this
  cases e; exact hy) (h.2 x v m)⟩
theorem DRel.none {names : List Str} {R : Str → V → Prop} {kvs : List (Key × V)} (h : DRel names R kvs) {x : Str} (hx : x ∉ names) : valV kvs (Sum.inr x) = none := by
  cases e : valV kvs (Sum.inr x) with
  | none => rfl
  | some v =>
    exfalso
    have : (Sum.inr x : Key) ∈ kvs.map (·.1) := by
      have z := valV_any (Sum.inr x : Key) kvs
      rw [e] at z
      obtain ⟨p, hp, q⟩ := List.any_eq_true.mp z
      exact List.mem_map.mpr ⟨p, hp, of_decide_eq_true q⟩
    rw [h.1] at this
    obtain ⟨y, hy, e⟩ := List.mem_map.mp this
    cases e; exact hx hy
theorem DRel.val {names : List Str} {R : Str → V → Prop} {kvs : List (Key × V)} (h : DRel names R kvs) {x : Str} (hx : x ∈ names) : ∃ v, valV kvs (Sum.inr x) = some v ∧ R x v := by
  have m : (Sum.inr x : Key) ∈ kvs.map (·.1) := by rw [h.1]; exact List.mem_map.mpr ⟨x, hx, rfl⟩
  obtain ⟨p, hp, e⟩ := List.mem_map.mp m
  have z : (valV kvs (Sum.inr x)).isSome = true := by
    rw [← valV_any]
    exact List.any_eq_true.mpr ⟨p, hp, decide_eq_true e⟩
  obtain ⟨v, ev⟩ := Option.isSome_iff_exists.mp z
  refine ⟨v, ev, h.2 x v ?_⟩
  unfold valV at ev
  obtain ⟨q, hq, eq⟩ := Option.map_eq_some_iff.mp ev
  have h1 := List.mem_of_find?_eq_some hq
  have h2 := List.find?_some hq
  have h3 : q.1 = Sum.inr x := of_decide_eq_true h2
  rw [← eq, ← h3]
  exact h1
theorem DRel.put {names : List Str} {R R' : Str → V → Prop} {kvs : List (Key × V)} {x : Str} {v : V} (h : DRel names R kvs) (hx : x ∈ names) (k : ∀ y u, y ∈ names → y ≠ x → R y u → R' y u) (kx : R' x v) : DRel names R' (putK kvs (Sum.inr x) v) := by
  obtain ⟨u, eu, _⟩ := h.val hx
  have e : putK kvs (Sum.inr x) v = kvs.map fun kv => if kv.1 = Sum.inr x then (kv.1, v) else kv := by
    have z := valV_any (Sum.inr x : Key) kvs
    rw [eu] at z
    unfold putK
    first
      | rw [if_pos z]
      | simp [z]
  rw [e]
  refine ⟨?_, fun y w m => ?_⟩
  · rw [List.map_map, ← h.1]
    refine List.map_congr_left fun p _ => ?_
    show (if p.1 = Sum.inr x then (p.1, v) else p).1 = p.1
    split <;> rfl
  · obtain ⟨p, hp, q⟩ := List.mem_map.mp m
    split at q
    · rename_i z
      rw [z] at q
      cases q
      exact kx
    · rename_i z
      subst q
      have : y ∈ names := by
        have m2 : (Sum.inr y : Key) ∈ kvs.map (·.1) := List.mem_map.mpr ⟨_, hp, rfl⟩
        rw [h.1] at m2
        obtain ⟨y', hy, e⟩ := List.mem_map.mp m2
        cases e; exact hy
      exact k y w this (fun e => z (by rw [e])) (h.2 y w hp)
theorem DRel.new {names : List Str} {R R' : Str → V → Prop} {kvs : List (Key × V)} {x : Str} {v : V} (h : DRel names R kvs) (hx : x ∉ names) (k : ∀ y u, y ∈ names → R y u → R' y u) (kx : R' x v) : DRel (names ++ [x]) R' (putK kvs (Sum.inr x) v) := by
  rw [putK_new v (h.none hx)]
  refine ⟨by rw [List.map_append, List.map_append, h.1]; rfl, fun y w m => ?_⟩
  rcases List.mem_append.mp m with m | m
  · have : y ∈ names := by
      have m2 : (Sum.inr y : Key) ∈ kvs.map (·.1) := List.mem_map.mpr ⟨_, m, rfl⟩
      rw [h.1] at m2
      obtain ⟨y', hy, e⟩ := List.mem_map.mp m2
      cases e; exact hy
    exact k y w this (h.2 y w m)
  · have e := List.mem_singleton.mp m
    cases e; exact kx
theorem DRel.nil {R : Str → V → Prop} : DRel [] R [] := ⟨rfl, fun _ _ h => nomatch h⟩
theorem dc_it (w : Walk J n G Y) {g : TG} {tt : TT} {tk tv : TE} {vs : List Nat} {σ : L2.St} {H1 : Hp} {D : Addr} {Qd : Hp → Prop} (Pv : Nat → Hp → Prop) (h0 : Pv 0 (upd H1 D (.dK []))) (hG : ∀ i H, i ≤ n → Pv i H → G H)
    (hs : ∀ i x H H', i < n → Pv i H → Y i H x H' → g x (wipe σ vs) H' fun σ2 H2 => wipe σ2 vs = wipe σ vs ∧ tt σ2 H2 fun b H3 =>
      if b = true then tk σ2 H3 fun y H4 => tv σ2 H4 fun z H5 => ∃ kvs k, y = kV k ∧ H5 D = some (.dK kvs) ∧ kvs.length < sizeLine ∧ Pv (i + 1) (upd H5 D (.dK (putK kvs k z))) else Pv (i + 1) H3) (hd : ∀ H, Pv n H → Qd H) :
    ∃ W : Nat → Nat → Hp → Prop, (∃ m, W 0 m (upd H1 D (.dK []))) ∧ ∀ i m H, W i m H →
      (J.stop i H ∧ Qd H) ∨ (J.go i H ∧ ∃ Nx : Hp → Prop, (∀ H', Nx H' → ∃ m', m' < m ∧ W (i + 1) m' H') ∧ ∀ x H', J.yld i H x H' → g x (wipe σ vs) H' fun σ2 H2 => wipe σ2 vs = wipe σ vs ∧ tt σ2 H2 fun b H3 =>
        if b = true then tk σ2 H3 fun y H4 => tv σ2 H4 fun z H5 => ∃ kvs k, y = kV k ∧ H5 D = some (.dK kvs) ∧ kvs.length < sizeLine ∧ Nx (upd H5 D (.dK (putK kvs k z))) else Nx H3) := by
  refine ⟨fun i m H => m = n - i ∧ i ≤ n ∧ Pv i H, ⟨n, by simp, Nat.zero_le _, h0⟩, ?_⟩
  rintro i m H ⟨rfl, hi, p⟩
  have q := hG i H hi p
  by_cases hlt : i < n
  · refine .inr ⟨w.goes i H hlt q, Pv (i + 1), fun H' p' => ⟨n - (i + 1), by omega, rfl, hlt, p'⟩, fun x H' y => hs i x H H' hlt p (w.yields i H x H' hlt q y)⟩
  · have e : i = n := by omega
    subst e
    exact .inl ⟨w.stops H q, hd H p⟩
theorem dc_map2 (w : Walk J n G Y) {names : List Str} (hn : names.length = n) (nd : names.Nodup) {g : TG} {tk tv : TE} {vs : List Nat} {σ : L2.St} {H1 : Hp} {D : Addr} {Qd : Hp → Prop} (hD : H1 D = none) (hG : ∀ H, Same H1 H → G H) (hz : n ≤ sizeLine) (R : Str → V → Hp → Prop)
    (hR : ∀ x y H H' ws, H D = some (.dK ws) → But D H H' → R x y H → R x y H') (hY : ∀ i H x H', i < n → Y i H x H' → Same H H')
    (step : ∀ (i : Nat) (nm : Str) (x : V) (H H' : Hp) (Q : V → V → Hp → Prop), names[i]? = some nm → Same H1 H → (∃ ws, H D = some (.dK ws)) → Y i H x H' → (∀ v H5, Same H' H5 → R nm v H5 → Q (.str nm) v H5) → g x (wipe σ vs) H' fun σ2 H2 => wipe σ2 vs = wipe σ vs ∧ tk σ2 H2 fun y H4 => tv σ2 H4 fun z H5 => Q y z H5)
    (fin : ∀ H kvs, Same H1 H → H D = some (.dK kvs) → DRel names (fun x v => R x v H) kvs → Qd H) :
    ∃ W : Nat → Nat → Hp → Prop, (∃ m, W 0 m (upd H1 D (.dK []))) ∧ ∀ i m H, W i m H →
      (J.stop i H ∧ Qd H) ∨ (J.go i H ∧ ∃ Nx : Hp → Prop, (∀ H', Nx H' → ∃ m', m' < m ∧ W (i + 1) m' H') ∧ ∀ x H', J.yld i H x H' → g x (wipe σ vs) H' fun σ2 H2 => wipe σ2 vs = wipe σ vs ∧ tYes σ2 H2 fun b H3 =>
        if b = true then tk σ2 H3 fun y H4 => tv σ2 H4 fun z H5 => ∃ kvs k, y = kV k ∧ H5 D = some (.dK kvs) ∧ kvs.length < sizeLine ∧ Nx (upd H5 D (.dK (putK kvs k z))) else Nx H3) := by
  let Pv : Nat → Hp → Prop := fun i H => Same H1 H ∧ ∃ kvs, H D = some (.dK kvs) ∧ DRel (names.take i) (fun x v => R x v H) kvs
  refine dc_it w Pv ⟨Same.upd hD, [], upd_same, by rw [List.take_zero]; exact DRel.nil⟩ (fun i H _ p => hG H p.1) (fun i x H H' hi p y => ?_) (fun H p => ?_)
  · obtain ⟨s1, kvs, hd, hr⟩ := p
    have s2 := hY i H x H' hi y
    have hi' : i < names.length := by omega
    have hnm : names[i]? = some names[i] := List.getElem?_eq_getElem hi'
    have := step i names[i] x H H' (fun y z H5 => ∃ kvs k, y = kV k ∧ H5 D = some (.dK kvs) ∧ kvs.length < sizeLine ∧ Pv (i + 1) (upd H5 D (.dK (putK kvs k z)))) hnm s1 ⟨kvs, hd⟩ y (fun v H5 s3 r => ?_)
    · exact this
    · have s4 : Same H H5 := s2.trans s3
      have hd5 := s4 _ _ hd
      have bu : But D H5 (upd H5 D (.dK (putK kvs (Sum.inr names[i]) v))) := But.upd
      refine ⟨kvs, Sum.inr names[i], rfl, hd5, by rw [hr.length, List.length_take]; omega, Same.but_new (s1.trans s4) hD But.upd, _, upd_same, ?_⟩
      rw [List.take_add_one, hnm]
      refine hr.new (fun m => ?_) (fun y u _ ry => hR _ _ _ _ _ hd5 bu (hR _ _ _ _ _ hd (Same.but D s4) ry)) (hR _ _ _ _ _ hd5 bu r)
      obtain ⟨j, hj, ej⟩ := List.mem_iff_getElem.mp m
      have hj2 : j < i := by rw [List.length_take] at hj; omega
      rw [List.getElem_take] at ej
      have := (List.getElem_inj nd).mp ej
      omega
  · obtain ⟨s1, kvs, hd, hr⟩ := p
    rw [← hn, List.take_length] at hr
    exact fin H kvs s1 hd hr
theorem dc_map (w : Walk J n G Y) {names : List Str} (hn : names.length = n) (nd : names.Nodup) {g : TG} {tk tv : TE} {vs : List Nat} {σ : L2.St} {H1 : Hp} {D : Addr} {Qd : Hp → Prop} (hD : H1 D = none) (hG : ∀ H, Same H1 H → G H) (hz : n ≤ sizeLine) (R : Str → V → Hp → Prop)
    (hR : ∀ x y H H' ws, H D = some (.dK ws) → But D H H' → R x y H → R x y H') (hY : ∀ i H x H', i < n → Y i H x H' → Same H H')
    (step : ∀ (i : Nat) (nm : Str) (x : V) (H H' : Hp) (Q : V → V → Hp → Prop), names[i]? = some nm → Same H1 H → Y i H x H' → (∀ v H5, Same H' H5 → R nm v H5 → Q (.str nm) v H5) → g x (wipe σ vs) H' fun σ2 H2 => wipe σ2 vs = wipe σ vs ∧ tk σ2 H2 fun y H4 => tv σ2 H4 fun z H5 => Q y z H5)
    (fin : ∀ H kvs, Same H1 H → H D = some (.dK kvs) → DRel names (fun x v => R x v H) kvs → Qd H) :
    ∃ W : Nat → Nat → Hp → Prop, (∃ m, W 0 m (upd H1 D (.dK []))) ∧ ∀ i m H, W i m H →
      (J.stop i H ∧ Qd H) ∨ (J.go i H ∧ ∃ Nx : Hp → Prop, (∀ H', Nx H' → ∃ m', m' < m ∧ W (i + 1) m' H') ∧ ∀ x H', J.yld i H x H' → g x (wipe σ vs) H' fun σ2 H2 => wipe σ2 vs = wipe σ vs ∧ tYes σ2 H2 fun b H3 =>
        if b = true then tk σ2 H3 fun y H4 => tv σ2 H4 fun z H5 => ∃ kvs k, y = kV k ∧ H5 D = some (.dK kvs) ∧ kvs.length < sizeLine ∧ Nx (upd H5 D (.dK (putK kvs k z))) else Nx H3) :=
  dc_map2 w hn nd hD hG hz R hR hY (fun i nm x H H' Q a b _ c d => step i nm x H H' Q a b c d) fin
end
end K52

namespace K52
open PySem PySem.Spec PyProof.Rows L2
section
variable {X : Cx}
/-- != [] -/
def rNeNil (K : PySem.W.Frag) : R2 := fun x y H Q => ∃ a b xs, x = .ref a ∧ y = .ref b ∧ SqL K H a xs ∧ SqL K H b [] ∧ Q (.bl (!xs.isEmpty)) H
theorem op_neNil {k : Nat} (hr : Room k X.A) : OpR X (compareOp .NotEq) (rNeNil X.K) := by
  intro pins s σ H x y v u Q I rx ry h
  obtain ⟨a, b, xs, rfl, rfl, ha, hb, q⟩ := h
  cases rx
  cases ry
  obtain ⟨its, r1, p1, _⟩ := I.list ha
  obtain ⟨its2, r2, p2, _⟩ := I.list hb
  cases r2
  show wpAny (model X.prog X.w) X.A (richCompare .NotEq (.ref a) (.ref b)) (EP X pins σ Q) X.xe s
  obtain ⟨⟨c1, d1, t1, sl1⟩, n1, e1, h1, h2, h3⟩ := p1
  obtain ⟨⟨c2, d2, t2, sl2⟩, n2, e2, g1, g2, g3⟩ := p2
  simp only at h1 h2 h3 g1 g2 g3
  subst h1 h2 h3 g1 g2 g3
  cases xs with
  | nil =>
    cases r1
    exact richCompare_meets_room (op := .NotEq) ⟨_, e1, rfl⟩ ⟨_, e2, rfl⟩ PySem.F.slot_list_ne PySem.F.entry_list_ne (PySem.F.args_list_ne_2 _ _) (SeqAt.list_neAt a b #[] #[] n1 n2 none none sl1 sl2 rfl fun _ => true)
      ⟨e1, e2, fun j h1 => absurd h1 (Nat.not_lt_zero j), ⟨(fun x => nomatch x), .bl false, H, I, rfl, q⟩⟩ hr.units0
  | cons x xs =>
    cases r1 with
    | @cons _ u0 _ us r0 rr =>
      exact richCompare_meets_room (op := .NotEq) ⟨_, e1, rfl⟩ ⟨_, e2, rfl⟩ PySem.F.slot_list_ne PySem.F.entry_list_ne (PySem.F.args_list_ne_2 _ _) (SeqAt.list_ne_lengthsAt a b (u0 :: us).toArray #[] n1 n2 none none sl1 sl2 (by simp))
        ⟨e1, e2, ⟨(fun x => nomatch x), .bl true, H, I, rfl, q⟩⟩ hr.units0
def rEqNil (K : PySem.W.Frag) : R2 := fun x y H Q => ∃ a b xs, x = .ref a ∧ y = .ref b ∧ SqL K H a xs ∧ SqL K H b [] ∧ Q (.bl xs.isEmpty) H
theorem op_eqNil {k : Nat} (hr : Room k X.A) : OpR X (compareOp .Eq) (rEqNil X.K) := by
  intro pins s σ H x y v u Q I rx ry h
  obtain ⟨a, b, xs, rfl, rfl, ha, hb, q⟩ := h
  cases rx
  cases ry
  obtain ⟨its, r1, p1, _⟩ := I.list ha
  obtain ⟨its2, r2, p2, _⟩ := I.list hb
  cases r2
  show wpAny (model X.prog X.w) X.A (richCompare .Eq (.ref a) (.ref b)) (EP X pins σ Q) X.xe s
  obtain ⟨⟨c1, d1, t1, sl1⟩, n1, e1, h1, h2, h3⟩ := p1
  obtain ⟨⟨c2, d2, t2, sl2⟩, n2, e2, g1, g2, g3⟩ := p2
  simp only at h1 h2 h3 g1 g2 g3
  subst h1 h2 h3 g1 g2 g3
  cases xs with
  | nil =>
    cases r1
    exact richCompare_meets_room (op := .Eq) ⟨_, e1, rfl⟩ ⟨_, e2, rfl⟩ PySem.F.slot_list_eq PySem.F.entry_list_eq (PySem.F.args_list_eq_2 _ _) (SeqAt.list_eqAt a b #[] #[] n1 n2 none none sl1 sl2 rfl fun _ => true)
      ⟨e1, e2, fun j h1 => absurd h1 (Nat.not_lt_zero j), ⟨(fun x => nomatch x), .bl true, H, I, rfl, q⟩⟩ hr.units0
  | cons x xs =>
    cases r1 with
    | @cons _ u0 _ us r0 rr =>
      exact richCompare_meets_room (op := .Eq) ⟨_, e1, rfl⟩ ⟨_, e2, rfl⟩ PySem.F.slot_list_eq PySem.F.entry_list_eq (PySem.F.args_list_eq_2 _ _) (SeqAt.list_eq_lengthsAt a b (u0 :: us).toArray #[] n1 n2 none none sl1 sl2 (by simp))
        ⟨e1, e2, ⟨(fun x => nomatch x), .bl false, H, I, rfl, q⟩⟩ hr.units0
end
end K52

namespace K52
open PySem PySem.Spec PyProof.Rows L2
section
variable {X : Cx}
/-- name = {..} on one line, the name a local -/
theorem ps_setDc {i : Nat} {y : Str} {py : Pos} {kx vx tg iter : Expr} {ifs : List Expr} {scope : Scope} {own : List (Str × Nat)} {pos spos : Pos} {wi : TI} {g : TG} {tt : TT} {tk tv : TE} (hc : X.calm = true) (hN : X.N.Nodup) (hy : X.N[i]? = some y)
    (hyl : X.env.scope.names.lookup y = some .local) (hsw : swapsWith (.DictComp kx vx [⟨tg, iter, ifs, 0⟩] scope pos) (some (.Name y py)) spos.line X.env = pure true) (hi : PI X tg iter wi) (ok : BlkOk X.N X.env.scope scope own)
    (hg : ∀ (s : Shared) (H : Hp) (C : Addr) (cl : List (Str × Addr)) (fp : List Addr), PG (X.blk s H scope (compEnvC scope cl C X.env) fp) tg g)
    (ht : ∀ (s : Shared) (H : Hp) (C : Addr) (cl : List (Str × Addr)) (fp : List Addr), PTs (X.blk s H scope (compEnvC scope cl C X.env) fp) ifs tt)
    (hk : ∀ (s : Shared) (H : Hp) (C : Addr) (cl : List (Str × Addr)) (fp : List Addr), PE (X.blk s H scope (compEnvC scope cl C X.env) fp) kx tk)
    (he : ∀ (s : Shared) (H : Hp) (C : Addr) (cl : List (Str × Addr)) (fp : List Addr), PE (X.blk s H scope (compEnvC scope cl C X.env) fp) vx tv) (hs : ∀ x, foldedSetIterable iter X.env x = pure x := by intro _; rfl) :
    PS X (.Assign [.Name y py] (.DictComp kx vx [⟨tg, iter, ifs, 0⟩] scope pos) spos) (tAsg (tDc wi g tt tk tv (own.map (·.2))) (gName i)) := by
  refine ⟨fun pins s σ H D I h => ?_⟩
  rw [exec_Assign_Name_used _ _ _ _ hsw]
  refine wpAny_bind (wpAny_standAt (wpAny_bind ?_))
  show wpAny _ X.A (do
    let _ ← comprehension (.DictComp kx vx [⟨tg, iter, ifs, 0⟩] scope pos) scope X.env (firstIterPos [⟨tg, iter, ifs, 0⟩] pos) newDict false (eval iter X.env) (some (assign (.Name y py) X.env))) _ _ s
  have h2 : tDc wi g tt tk tv (own.map (·.2)) σ H (fun x H1 => gName i x σ H1 D.nx) := h
  refine wpAny_bind (thn (dc_core (Qf := fun _ s' => SP X pins D .next s') hc hN I hi ok hg ht hk he hs h2 fun L C s1 m H1 I1 q hn f => ?_) fun _ s' hq => wpAny_pure (wpAny_pure hq))
  show wpAny _ _ (assign (.Name y py) X.env (.ref L)) _ _ _
  refine wpAny_assign_Name (store_ok2 (v := V.ref L) I1 hN hy (.inl hyl) rfl (fun s2 I2 ⟨a, sb, ha⟩ => ?_) (.inr hyl))
  obtain ⟨f0, f1, f2, f3, f4, f5⟩ := f
  refine ⟨m, hn.sameBut sb ?_, fun h3 sb3 => ⟨_, H1, I2.turned (t' := s2.toks) (fun b o hb e => (sb3.2 b hb).trans e) f0 f1 f3 f4 f5, q⟩⟩
  rcases ha with z | z
  · rw [z]; exact f1
  · exact fun e => f4 y a z e.symm
theorem swd_true {kx vx : Expr} {gs : List Comprehension} {scope : Scope} {pos py : Pos} {y : Str} {l : Nat} {env : Env} (hk : env.scope.kind = .function) (hy : env.scope.names.lookup y = some .local) (hl : (py.line == pos.line) = true)
    (ha : (scope.names.any fun (n, k) => n == y && (k == .local || k == .cell)) = false) : swapsWith (.DictComp kx vx gs scope pos) (some (.Name y py)) l env = pure true := by
  have e1 : env.kindOf y = some .local := hy
  have e2 : env.blockKind = .function := by unfold Env.blockKind; rw [hk]; rfl
  unfold swapsWith
  simp only [e2, e1, ha, Expr.pos, hl]
  rfl
end
end K52

namespace K52
open PySem PySem.Spec PyProof.Rows L2
theorem isi_of {K : PySem.W.Frag} {H : Hp} {Q : VK} {x : V} {a b : String} {r : Bool} (t : TyOf K H x (.type a)) (h : kitB a b = some r) (q : Q (.bl r) H) : rIsi K [x, .ty b] H Q := ⟨x, .ty b, .type a, .type b, r, rfl, .ty b, .base t, kit_ty h, q⟩
theorem iT {b : Bool} {A B : Prop} (hb : b = true) (h : A) : if b = true then A else B := by rw [if_pos hb]; exact h
theorem iF {b : Bool} {A B : Prop} (hb : b = false) (h : B) : if b = true then A else B := by subst hb; exact iteF h
theorem dT {c A B : Prop} [Decidable c] (hc : c) (h : A) : if decide c = true then A else B := iT (decide_eq_true hc) h
theorem dF {c A B : Prop} [Decidable c] (hc : ¬ c) (h : B) : if decide c = true then A else B := iF (decide_eq_false hc) h
/-- a value that any grown heap gives -/
abbrev Ret (H : Hp) (R : Hp → V → Prop) (Q : VK) : Prop := ∀ v H', Same H H' → R H' v → Q v H'
section
variable {P : Program} {w : World} {K : PySem.W.Frag} {mg : Str → Option Value} {base : Heap}
def spIsInt : Sp := fun vs H Q _ => ∃ n : Int, vs = [.int n] ∧ Q (.bl true) H
theorem c_is_integer (T : Txt K mg) : Cal P w K mg base 1 "is_integer" spIsInt := by
  refine cal_of T.d_is_integer sc_is_integer (fun _ _ _ _ _ _ us hl => match us, hl with | [_], _ => rfl) (fun vs H Q E h => ?_) (fun f cdv A outer s H vs Q E hr h => ?_)
  · obtain ⟨n, rfl, _⟩ := h; rfl
  · obtain ⟨n, rfl, k⟩ := h
    have nd := sc_is_integer.nd
    refine ⟨_, (pss_one (ps_ret (pe_and (pe_callB call_isi (by rfl) T.b_isinstance (by decide +kernel) (pa_cons (pv 0) (pa_cons (pe_bltn (v := .ty "int") (by rfl) T.b_int (by decide +kernel) rfl) pa_nil))) (pe_one (pe_not (pe_callB call_isi (by rfl) T.b_isinstance (by decide +kernel) (pa_cons (pv 0) (pa_cons (pe_bltn (v := .ty "bool") (by rfl) T.b_bool (by decide +kernel) rfl) pa_nil)))))))), ?_⟩
    refine ⟨_, rfl, _, _, _, _, true, rfl, .ty _, .base (.int n), kit_ty (by decide +kernel),  true, rfl, ?_⟩
    exact ⟨_, rfl, _, _, _, _, false, rfl, .ty _, .base (.int n), kit_ty (by decide +kernel),  _, rfl, k⟩
/-- a name -/
def NmOk (x : Str) : Prop := 1 ≤ x.length ∧ x.length ≤ 8 ∧ ∀ c ∈ x.cps.toList, c ∈ ("abcdefghijklmnopqrstuvwxyz" : Str).cps.toList
theorem all_true {ys : List V} (h : ∀ (i : Nat) y, ys[i]? = some y → y = .bl true) : ys = (List.replicate ys.length true).map V.bl := by
  rw [List.map_replicate]
  refine List.eq_replicate_iff.mpr ⟨rfl, fun y m => ?_⟩
  obtain ⟨i, hi, e⟩ := List.mem_iff_getElem.mp m
  exact h i y (by rw [List.getElem?_eq_getElem hi, e])
theorem all_rep (n : Nat) : (List.replicate n true).all id = true := by
  rw [List.all_eq_true]
  intro b m
  exact (List.mem_replicate.mp m).2
def spName : Sp := fun vs H Q _ => ∃ x : Str, vs = [.str x] ∧ NmOk x ∧ ∀ H', Same H H' → Q (.bl true) H'
theorem c_is_name (T : Txt K mg) : Cal P w K mg base 1 "is_name" spName := by
  refine cal_of T.d_is_name sc_is_name (fun _ _ _ _ _ _ us hl => match us, hl with | [_], _ => rfl) (fun vs H Q E h => ?_) (fun f cdv A outer s H vs Q E hr h => ?_)
  · obtain ⟨n, rfl, _⟩ := h; rfl
  · obtain ⟨x, rfl, ⟨n1, n8, na⟩, k⟩ := h
    have nd := sc_is_name.nd
    refine ⟨_, (pss_cons (ps_if (PW.pt (pw_or (pt_not (pt_val (pe_callB call_isi (by rfl) T.b_isinstance (by decide +kernel) (pa_cons (pv 0) (pa_cons (pe_bltn (v := .ty "str") (by rfl) T.b_str (by decide +kernel) rfl) pa_nil))))) (pw_or1 (pt_not (pt_chain op_le op_le pe_int (pe_callB call_len_str (by rfl) T.b_len PySem.boot_len (pa_cons (pv 0) pa_nil)) (pe_glob (v := .int 8) rfl T.MOST_LETTERS.choose_spec ⟨_, rfl⟩)))))) (pss_one (ps_ret pe_bl)) pss_nil)
  (pss_one (ps_ret (pe_callB (cr_all rfl) (by rfl) T.b_all (by decide +kernel) (pa_cons (pe_lc (own := [("sign", 1)]) rfl nd (pi_str (pv 0)) (blkOk_by (N := N_is_name) (sc := defScope s_is_name) (by decide +kernel)) (fun _ _ _ _ _ => (pg_name (i := 1) nd rfl (Or.inl rfl))) (fun _ _ _ _ _ => pts_nil) (fun _ _ _ _ _ => (pe_cmpR op_in_sign (pv 1) (pe_glob (v := .str "abcdefghijklmnopqrstuvwxyz") rfl T.LETTERS.choose_spec ⟨_, rfl⟩) (by rfl)))) pa_nil))))), ?_⟩
    have hl : x.length ≤ sizeLine := Nat.le_trans n8 (by decide)
    refine ⟨_, rfl, _, _, _, _, true, rfl, .ty _, .base (.str x), kit_ty (by decide +kernel),  true, rfl, ?_⟩
    refine ⟨_, rfl, x, rfl, hl, ?_⟩
    refine ⟨_, _, rfl, rfl, _, rfl, dT (by omega) ?_⟩
    refine ⟨_, _, rfl, rfl, _, rfl, ?_⟩
    refine iF (b := !decide ((x.length : Int) ≤ 8)) (by rw [decide_eq_true (by omega)]; rfl) ?_
    refine ⟨_, rfl, x, rfl, fun D hD => ?_⟩
    refine lc_map walk_str hD (fun _ _ => trivial) (show x.length ≤ sizeLine from hl) (fun _ y _ => y = .bl true) (fun _ _ _ _ _ _ _ q => q) (fun i H x H' _ y => by rw [y.1]; exact Same.refl _) (fun i x' H1 H2 Q' hi s1 y kq => ?_) (fun H1 ys s1 hd hl hr => ?_)
    · obtain ⟨rfl, c, hc, rfl⟩ := y
      refine ⟨rfl, _, rfl, _, _, rfl, rfl, kq _ _ (Same.refl _) ?_⟩
      have m : c ∈ x.cps.toList := by
        have hi' : i < x.cps.size := hi
        rw [Array.getElem?_eq_getElem hi'] at hc
        cases hc
        exact Array.getElem_mem_toList ..
      rw [decide_eq_true (na c m)]
    · have e := all_true hr
      refine ⟨D, _, rfl, SqL.of (e ▸ hd), ?_⟩
      rw [all_rep]
      exact k _ s1
/-- an atom, its slot below sl -/
def AtV (sl : Nat) (H : Hp) (v : V) : Prop := ∃ p, v = .ref p ∧ ((∃ i : Nat, i < sl ∧ H p = some (.tup [.str "slot", .int (i : Nat)])) ∨ ∃ n : Int, -(10 ^ 30) ≤ n ∧ n ≤ 10 ^ 30 ∧ H p = some (.tup [.str "num", .int n]))
theorem AtV.le {sl : Nat} {H H' : Hp} {v : V} (l : Le H H') (h : AtV sl H v) : AtV sl H' v := by
  obtain ⟨p, e, h⟩ := h
  rcases h with ⟨i, hi, hp⟩ | ⟨n, h1, h2, hp⟩
  · exact ⟨p, e, .inl ⟨i, hi, l _ _ trivial hp⟩⟩
  · exact ⟨p, e, .inr ⟨n, h1, h2, l _ _ trivial hp⟩⟩
/-- n atoms -/
def AtsV (sl n : Nat) (H : Hp) (v : V) : Prop := ∃ q xs, v = .ref q ∧ H q = some (.tup xs) ∧ xs.length = n ∧ ∀ x ∈ xs, AtV sl H x
theorem AtsV.le {sl n : Nat} {H H' : Hp} {v : V} (l : Le H H') (h : AtsV sl n H v) : AtsV sl n H' v := by
  obtain ⟨p, xs, e, h, hl, ha⟩ := h
  exact ⟨p, xs, e, l _ _ trivial h, hl, fun x m => (ha x m).le l⟩
def spAtom : Sp := fun vs H Q _ => ∃ v sl, vs = [v, .str "slot"] ∧ AtV sl H v ∧ ∀ H', Same H H' → Q (.bl true) H'
theorem c_is_atom (T : Txt K mg) : Cal P w K mg base 2 "is_atom" spAtom := by
  have c_is_integer := c_is_integer (P := P) (w := w) (base := base) T
  have c_is_name := c_is_name (P := P) (w := w) (base := base) T
  refine cal_of T.d_is_atom sc_is_atom (fun _ _ _ _ _ _ us hl => match us, hl with | [_, _], _ => rfl) (fun vs H Q E h => ?_) (fun f cdv A outer s H vs Q E hr h => ?_)
  · obtain ⟨n, _, rfl, _⟩ := h; rfl
  · obtain ⟨v, sl, rfl, ⟨p, rfl, hv⟩, k⟩ := h
    have nd := sc_is_atom.nd
    refine ⟨_, (pss_cons (ps_if (PW.pt (pw_or (pt_not (pt_val (pe_callB call_isi (by rfl) T.b_isinstance (by decide +kernel) (pa_cons (pv 0) (pa_cons (pe_bltn (v := .ty "tuple") (by rfl) T.b_tuple (by decide +kernel) rfl) pa_nil))))) (pw_or (pt_cmpR op_ne (pe_callB call_len_seq (by rfl) T.b_len PySem.boot_len (pa_cons (pv 0) pa_nil)) pe_int (nomark _)) (pw_or1 (pt_not (pt_val (pe_callB call_isi (by rfl) T.b_isinstance (by decide +kernel) (pa_cons (pe_ix ix_tup (pv 0) pe_int (fun _ _ => rfl)) (pa_cons (pe_bltn (v := .ty "str") (by rfl) T.b_str (by decide +kernel) rfl) pa_nil))))))))) (pss_one (ps_ret pe_bl)) pss_nil)
  (pss_cons (ps_if (pt_cmpR op_eq (pe_ix ix_tup (pv 0) pe_int (fun _ _ => rfl)) pe_str (nomark _)) (pss_one (ps_ret (pe_and (pe_c c_is_integer hr (by decide) rfl (pa_cons (pe_ix ix_tup (pv 0) pe_int (fun _ _ => rfl)) pa_nil)) (pe_one (pe_chain op_le op_le (pe_un un_neg (pe_glob (v := .int (10 ^ 30)) rfl T.MOST_CONSTANT.choose_spec ⟨_, rfl⟩)) (pe_ix ix_tup (pv 0) pe_int (fun _ _ => rfl)) (pe_glob (v := .int (10 ^ 30)) rfl T.MOST_CONSTANT.choose_spec ⟨_, rfl⟩)))))) pss_nil)
  (pss_cons (ps_if (pt_cmpR op_ne (pe_ix ix_tup (pv 0) pe_int (fun _ _ => rfl)) (pv 1) (nomark _)) (pss_one (ps_ret pe_bl)) pss_nil)
  (pss_cons (ps_if (pt_cmpR op_eq (pv 1) pe_str (nomark _)) (pss_one (ps_ret (pe_c c_is_name hr (by decide) rfl (pa_cons (pe_ix ix_tup (pv 0) pe_int (fun _ _ => rfl)) pa_nil)))) pss_nil)
  (pss_one (ps_ret (pe_and (pe_c c_is_integer hr (by decide) rfl (pa_cons (pe_ix ix_tup (pv 0) pe_int (fun _ _ => rfl)) pa_nil)) (pe_one (pe_cmpR op_ge (pe_ix ix_tup (pv 0) pe_int (fun _ _ => rfl)) pe_int (nomark _)))))))))), ?_⟩
    obtain ⟨z, n, hp, hz⟩ : ∃ z n, H p = some (.tup [.str z, .int n]) ∧ ((z = "slot" ∧ 0 ≤ n) ∨ (z = "num" ∧ -(10 ^ 30) ≤ n ∧ n ≤ 10 ^ 30)) := by
      rcases hv with ⟨i, hi, hp⟩ | ⟨n, h1, h2, hp⟩
      · exact ⟨_, _, hp, .inl ⟨rfl, by omega⟩⟩
      · exact ⟨_, _, hp, .inr ⟨rfl, h1, h2⟩⟩
    have k := k H (Same.refl H)
    refine ⟨_, rfl, _, _, _, _, true, rfl, .ty _, .base (.tup hp), kit_ty (by decide +kernel),  true, rfl, ?_⟩
    refine ⟨_, rfl, _, _, rfl, .inr (SqT.of hp), rfl, ?_⟩
    refine ⟨_, rfl, iF rfl ?_⟩
    refine ⟨_, rfl, p, _, _, _, rfl, rfl, SqT.of hp, rfl, _, _, _, _, true, rfl, .ty _, .base (.str z), kit_ty (by decide +kernel),  true, rfl, ?_⟩
    refine ⟨_, rfl, p, _, _, _, rfl, rfl, SqT.of hp, rfl, rfl, _, rfl, ?_⟩
    rcases hz with ⟨rfl, h0⟩ | ⟨rfl, h1, h2⟩
    · refine dF (by decide) ?_
      refine ⟨_, rfl, p, _, _, _, rfl, rfl, SqT.of hp, rfl, _, rfl, rfl, _, rfl, iF rfl ?_⟩
      refine ⟨_, rfl, rfl, _, rfl, dF (by decide) ?_⟩
      refine ⟨_, rfl, p, _, _, _, rfl, rfl, SqT.of hp, rfl, n, rfl, true, rfl, iT rfl ?_⟩
      refine ⟨_, rfl, p, _, _, _, rfl, rfl, SqT.of hp, rfl, _, _, rfl, rfl, ?_⟩
      show Q (.bl (decide (0 ≤ n))) H
      rw [decide_eq_true h0]; exact k
    · refine dT (by decide) ?_
      refine ⟨_, rfl, p, _, _, _, rfl, rfl, SqT.of hp, rfl, n, rfl, true, rfl, iT rfl ?_⟩
      refine ⟨_, rfl, _, rfl, p, _, _, _, rfl, rfl, SqT.of hp, rfl, _, _, rfl, rfl, _, rfl, dT h1 ?_⟩
      refine ⟨_, _, rfl, rfl, ?_⟩
      show Q (.bl (decide (n ≤ 10 ^ 30))) H
      rw [decide_eq_true h2]; exact k
def spAtoms : Sp := fun vs H Q _ => ∃ v sl n, ∃ m : Int, vs = [v, .str "slot", .int m] ∧ AtsV sl n H v ∧ (n : Int) ≤ m ∧ m ≤ 8000 ∧ ∀ H', Same H H' → Q (.bl true) H'
/-- a def with defaults ds -/
structure CalD (P : Program) (w : World) (K : PySem.W.Frag) (mg : Str → Option Value) (base : Heap) (k : Nat) (x : Str) (sp : Sp) (dvs : List V) : Prop where
  ex : ∃ (f : Addr) (fd : FuncData) (ps : List Str) (ds : List Value), FnOk P w K mg base CX0 k f fd ps sp ∧ mg x = some (.ref f) ∧ PySem.W.keepIn K (.ref f) = true ∧ Binds K fd ps ds ∧ Vals dvs ds
theorem fn_ofD {x : Str} {st : Stmt} {N ps : List Str} {k : Nat} {sp : Sp} {dvs : List V} {kws : List (Str × V)} {f : Addr} {fd : FuncData} (F : FunD K x x (defArgs st) (defBody st) (defScope st) dvs kws f fd) (S : FnScope N ps (defScope st))
    (len : ∀ vs H Q E, sp vs H Q E → vs.length = ps.length)
    (hbody : ∀ (f : Addr) (cdv : Value) (A : Around) (outer : List Env) (s : Shared) (H : Hp) (vs : List V) (Q : VK) (E : XK), Room k (A.deeper (envOfC x (defScope st) s.heap.objs.size f cdv)) → sp vs H Q E →
      ∃ t, PSs (cxOf CX0 P w K mg base N x (defScope st) f cdv A outer s H E).nox (defBody st) t ∧ t { nx := fun _ H' => Q .non H', rt := Q } (start N vs) H) : FnOk P w K mg base CX0 (k + 1) f fd ps sp :=
  F.ok S len fun cdv A outer s H vs Q E hr h => by
    obtain ⟨t, h1, h2⟩ := hbody f cdv A outer s H vs Q E hr h
    exact ⟨t, h1.nox, h2⟩
theorem CalD.mono {j k : Nat} {x : Str} {sp : Sp} {dvs : List V} (c : CalD P w K mg base j x sp dvs) (h : j ≤ k) : CalD P w K mg base k x sp dvs := by
  obtain ⟨f, fd, ps, ds, F, r⟩ := c.ex
  exact ⟨f, fd, ps, ds, F.mono h, r⟩
theorem c_are_atoms (T : Txt K mg) : Cal P w K mg base 3 "are_atoms" spAtoms ∧ CalD P w K mg base 3 "are_atoms" spAtoms [.int 4] := by
  have c_is_atom := c_is_atom (P := P) (w := w) (base := base) T
  obtain ⟨f, fd, F, hm⟩ := T.d_are_atoms
  have ok : FnOk P w K mg base CX0 3 f fd ["things", "place", "most"] spAtoms := by
    refine fn_ofD F sc_are_atoms (fun vs H Q E h => ?_) (fun f cdv A outer s H vs Q E hr h => ?_)
    · obtain ⟨v, sl, n, m, rfl, _⟩ := h; rfl
    · obtain ⟨v, sl, n, m, rfl, ⟨q, xs, rfl, hq, hl, ha⟩, hn, hm, k⟩ := h
      have nd := sc_are_atoms.nd
      have hz : xs.length ≤ sizeLine := by have : 8000 ≤ sizeLine := by decide
                                           omega
      refine ⟨_, (pss_one (ps_ret (pe_and (pe_callB call_isi (by rfl) T.b_isinstance (by decide +kernel) (pa_cons (pv 0) (pa_cons (pe_bltn (v := .ty "tuple") (by rfl) T.b_tuple (by decide +kernel) rfl) pa_nil))) (pe_and (pe_cmpR op_le (pe_callB call_len_seq (by rfl) T.b_len PySem.boot_len (pa_cons (pv 0) pa_nil)) (pv 2) (nomark _)) (pe_one (pe_callB (cr_all rfl) (by rfl) T.b_all (by decide +kernel) (pa_cons (pe_lc (own := [("one", 3)]) rfl nd (pi_tup (pv 0)) (blkOk_by (N := N_are_atoms) (sc := defScope s_are_atoms) (by decide +kernel)) (fun _ _ _ _ _ => (pg_name (i := 3) nd rfl (Or.inl rfl))) (fun _ _ _ _ _ => pts_nil) (fun _ _ _ _ _ => (pe_c c_is_atom hr (by decide) rfl (pa_cons (pv 3) (pa_cons (pv 1) pa_nil))))) pa_nil))))))), ?_⟩
      refine ⟨_, rfl, _, _, _, _, true, rfl, .ty _, .base (.tup hq), kit_ty (by decide +kernel),  true, rfl, iT rfl ?_⟩
      refine ⟨_, rfl, _, _, rfl, .inr (SqT.of hq), _, rfl, _, _, rfl, rfl, _, rfl, dT (by omega) ?_⟩
      refine ⟨_, rfl, q, rfl, ⟨_, SqT.of hq⟩, fun D hD => ?_⟩
      refine lc_map walk_tup hD (fun H' s => SqT.of (s _ _ hq)) hz (fun _ y _ => y = .bl true) (fun _ _ _ _ _ _ _ q => q) (fun i H x H' _ y => by rw [y.1]; exact Same.refl _) (fun i x' H1 H2 Q' hi s1 y kq => ?_) (fun H1 ys s1 hd hl hr => ?_)
      · obtain ⟨rfl, hx⟩ := y
        refine ⟨rfl, _, rfl, _, rfl, x', sl, rfl, (ha x' (List.mem_of_getElem? hx)).le (Same.le s1), fun H' s2 => ?_⟩
        exact kq _ _ s2 rfl
      · have e := all_true hr
        refine ⟨D, _, rfl, SqL.of (e ▸ hd), ?_⟩
        rw [all_rep]
        exact k _ s1
  refine ⟨⟨f, fd, _, ok, hm, F.kp, ?_⟩, ?_⟩
  · obtain ⟨ds, hv, hb⟩ := F.binds1 (ps := ["things", "place", "most"]) 3 1 (by simp) rfl fun T kV doc pm an cdv ct us its h1 h2 => match us, its, h1, h2 with | [_, _, _], [_], _, _ => ⟨_, rfl, rfl⟩
    cases hv
    exact hb
  · obtain ⟨ds, hv, hb⟩ := F.binds1 (ps := ["things", "place", "most"]) 2 0 (by simp) rfl fun T kV doc pm an cdv ct us its h1 h2 => match us, its, h1, h2 with | [_, _], [_], _, _ => ⟨_, rfl, rfl⟩
    exact ⟨f, fd, _, ds, ok, hm, F.kp, hb, hv⟩
def spAtomsOf : Sp := fun vs H Q _ => ∃ a p xs, vs = [.ref a] ∧ H a = some (.tup xs) ∧ ((∃ z x, xs = [.str z, x] ∧ (z = "return" ∨ z = "raise") ∧ ∀ H' q, Same H H' → H' q = some (.tup [x]) → Q (.ref q) H') ∨ (∃ z y r, xs = .str z :: y :: .ref p :: r ∧ z ≠ "return" ∧ z ≠ "raise" ∧ Q (.ref p) H))
theorem c_atoms_of (T : Txt K mg) : Cal P w K mg base 1 "atoms_of" spAtomsOf := by
  refine cal_of T.d_atoms_of sc_atoms_of (fun _ _ _ _ _ _ us hl => match us, hl with | [_], _ => rfl) (fun vs H Q E h => ?_) (fun f cdv A outer s H vs Q E hr h => ?_)
  · obtain ⟨n, _, _, rfl, _⟩ := h; rfl
  · obtain ⟨a, p, xs, rfl, ha, k⟩ := h
    have nd := sc_atoms_of.nd
    refine ⟨_, (pss_cons (ps_if (PW.pt (pw_or (pt_cmpR op_eq (pe_ix ix_tup (pv 0) pe_int (fun _ _ => rfl)) pe_str (nomark _)) (pw_or1 (pt_cmpR op_eq (pe_ix ix_tup (pv 0) pe_int (fun _ _ => rfl)) pe_str (nomark _))))) (pss_one (ps_ret (pe_tup (pa_cons (pe_ix ix_tup (pv 0) pe_int (fun _ _ => rfl)) pa_nil)))) pss_nil)
  (pss_one (ps_ret (pe_ix ix_tup (pv 0) pe_int (fun _ _ => rfl))))), ?_⟩
    rcases k with ⟨z, x, rfl, hz, k⟩ | ⟨z, y, r, rfl, h1, h2, k⟩
    · rcases hz with rfl | rfl
      · refine ⟨_, rfl, a, _, _, _, rfl, rfl, SqT.of ha, rfl, rfl, _, rfl, dT rfl ?_⟩
        refine ⟨_, rfl, a, _, _, _, rfl, rfl, SqT.of ha, rfl, (by show 1 ≤ sizeLine; decide), fun t ht => ?_⟩
        exact k _ _ (Same.upd ht) upd_same
      · refine ⟨_, rfl, a, _, _, _, rfl, rfl, SqT.of ha, rfl, rfl, _, rfl, dF (by decide) ?_⟩
        refine ⟨_, rfl, a, _, _, _, rfl, rfl, SqT.of ha, rfl, rfl, _, rfl, dT rfl ?_⟩
        refine ⟨_, rfl, a, _, _, _, rfl, rfl, SqT.of ha, rfl, (by show 1 ≤ sizeLine; decide), fun t ht => ?_⟩
        exact k _ _ (Same.upd ht) upd_same
    · have i0 : atI (.str z :: y :: .ref p :: r) (0 : Int) = some (.str z) := atI_nat (j := 0) rfl
      have i2 : atI (.str z :: y :: .ref p :: r) (2 : Int) = some (.ref p) := atI_nat (j := 2) rfl
      refine ⟨_, rfl, a, _, _, _, rfl, rfl, SqT.of ha, i0, rfl, _, rfl, dF (fun e => h1 (by injection e)) ?_⟩
      refine ⟨_, rfl, a, _, _, _, rfl, rfl, SqT.of ha, i0, rfl, _, rfl, dF (fun e => h2 (by injection e)) ?_⟩
      exact ⟨_, rfl, a, _, _, _, rfl, rfl, SqT.of ha, i2, k⟩
section
variable {X : Cx} {k j : Nat} {x : Str} {sp : Sp} {p pos : Pos} {e : Expr} {es : List Expr} {t : TA} {dvs : List V}
theorem pe_cD (c : CalD X.prog X.w X.K X.mg X.base k x sp dvs) (hr : Room j X.A) (hk : k ≤ j) (hg : Gl X x) (ha : PA X (e :: es) t)
    (hdb : (x == ("__debug__" : Str)) = false := by decide) (he : starEach (e :: es) X.env = (false, eval e X.env) :: starEach es X.env := by rfl) (hpl : (backTo pos (starEach es X.env)).any (·.1) = false := by rfl) :
    PE X (.Call (.Name x p) (e :: es) [] pos) (tCall sp dvs E0 t) := by
  obtain ⟨f, fd, ps, ds, F, hm, kp, b, hv⟩ := c.ex
  exact pe_call F (hr.mono hk) hg hm kp b hv pass0 ha hdb he hpl
end
/-! ### bodies -/
def kids : KM.Bd Str → List (KM.Bd Str)
  | .leaf _ => []
  | .call _ => []
  | .test y n => [y, n]
  | .push _ b => [b]
inductive BdV (af ac : Str → Nat) (sl : Nat) (H : Hp) : KM.Bd Str → V → Prop where
  | ret {p : Addr} {x : V} : H p = some (.tup [.str "return", x]) → AtV sl H x → BdV af ac sl H (.leaf false) (.ref p)
  | rai {p : Addr} {x : V} : H p = some (.tup [.str "raise", x]) → AtV sl H x → BdV af ac sl H (.leaf true) (.ref p)
  | ask {p : Addr} {nm : Str} {q : Addr} {n : Nat} : NmOk nm → n ≤ 4 → H p = some (.tup [.str "ask", .str nm, .ref q]) → AtsV sl n H (.ref q) → BdV af ac sl H (.leaf false) (.ref p)
  | call {p : Addr} {f : Str} {q : Addr} : NmOk f → af f ≤ 4 → H p = some (.tup [.str "call", .str f, .ref q]) → AtsV sl (af f) H (.ref q) → BdV af ac sl H (.call f) (.ref p)
  | test {p : Addr} {nm : Str} {q : Addr} {n : Nat} {y z : V} {b c : KM.Bd Str} : NmOk nm → n ≤ 4 → H p = some (.tup [.str "test", .str nm, .ref q, y, z]) → AtsV sl n H (.ref q) → BdV af ac sl H b y → BdV af ac sl H c z → BdV af ac sl H (.test b c) (.ref p)
  | push {p : Addr} {c : Str} {q : Addr} {y : V} {b : KM.Bd Str} : NmOk c → ac c ≤ 8000 → H p = some (.tup [.str "push", .str c, .ref q, y]) → AtsV sl (ac c) H (.ref q) → BdV af ac sl H b y → BdV af ac sl H (.push c b) (.ref p)
theorem BdV.le {af ac : Str → Nat} {sl : Nat} {H H' : Hp} {b : KM.Bd Str} {v : V} (l : Le H H') (h : BdV af ac sl H b v) : BdV af ac sl H' b v := by
  induction h with
  | ret h a => exact .ret (l _ _ trivial h) (a.le l)
  | rai h a => exact .rai (l _ _ trivial h) (a.le l)
  | ask n1 n2 h a => exact .ask n1 n2 (l _ _ trivial h) (a.le l)
  | call n1 n2 h a => exact .call n1 n2 (l _ _ trivial h) (a.le l)
  | test n1 n2 h a _ _ i1 i2 => exact .test n1 n2 (l _ _ trivial h) (a.le l) i1 i2
  | push n1 n2 h a _ i => exact .push n1 n2 (l _ _ trivial h) (a.le l) i
theorem mcT {z : Str} {is : List Nat} {r : List V} {tb : TS} {rest : TM} {D : Ends} {σ : L2.St} {H : Hp} (hl : r.length = is.length) (h : tb D (setAll is r σ) H) : mCase z is tb rest (.str z :: r) D σ H := ⟨z, r, rfl, by rw [if_pos ⟨hl, rfl⟩]; exact h⟩
theorem mcF {w z : Str} {is : List Nat} {r : List V} {tb : TS} {rest : TM} {D : Ends} {σ : L2.St} {H : Hp} (hw : w ≠ z) (h : rest (.str w :: r) D σ H) : mCase z is tb rest (.str w :: r) D σ H := ⟨w, r, rfl, by rw [if_neg fun q => hw q.2]; exact h⟩
def spBodies : Sp := fun vs H Q _ => ∃ v af ac sl b, vs = [v] ∧ BdV af ac sl H b v ∧ ∀ H' q ws, Same H H' → H q = none → H' q = some (.lst ws) → Paired (BdV af ac sl H') (kids b) ws → Q (.ref q) H'
theorem c_bodies_in (T : Txt K mg) : Cal P w K mg base 4 "bodies_in" spBodies := by
  have c_is_atom := c_is_atom (P := P) (w := w) (base := base) T
  have c_is_name := c_is_name (P := P) (w := w) (base := base) T
  obtain ⟨c_are_atoms, c_are_atoms2⟩ := c_are_atoms (P := P) (w := w) (base := base) T
  refine cal_of T.d_bodies_in sc_bodies_in (fun _ _ _ _ _ _ us hl => match us, hl with | [_], _ => rfl) (fun vs H Q E h => ?_) (fun f cdv A outer s H vs Q E hr h => ?_)
  · obtain ⟨n, _, _, _, _, rfl, _⟩ := h; rfl
  · obtain ⟨v, af, ac, sl, b, rfl, hb, k⟩ := h
    have nd := sc_bodies_in.nd
    refine ⟨_, (pss_cons (ps_if (pt_not (pt_val (pe_callB call_isi (by rfl) T.b_isinstance (by decide +kernel) (pa_cons (pv 0) (pa_cons (pe_bltn (v := .ty "tuple") (by rfl) T.b_tuple (by decide +kernel) rfl) pa_nil))))) (pss_one (ps_ret pe_non)) pss_nil)
  (pss_one (ps_match (pv 0) (pm_case rfl nd (.cons (i := 1) rfl rfl .nil) (pss_one (ps_ret (pe_ifExp (pt_val (pe_c c_is_atom hr (by decide) rfl (pa_cons (pv 1) (pa_cons pe_str pa_nil)))) (pe_lst pa_nil) pe_non)))
  (pm_case rfl nd (.cons (i := 1) rfl rfl .nil) (pss_one (ps_ret (pe_ifExp (pt_val (pe_c c_is_atom hr (by decide) rfl (pa_cons (pv 1) (pa_cons pe_str pa_nil)))) (pe_lst pa_nil) pe_non)))
  (pm_case rfl nd (.cons (i := 2) rfl rfl (.cons (i := 3) rfl rfl .nil)) (pss_one (ps_ret (pe_ifExp (PW.pt (pw_and (pt_val (pe_c c_is_name hr (by decide) rfl (pa_cons (pv 2) pa_nil))) (pw_and1 (pt_val (pe_cD c_are_atoms2 hr (by decide) rfl (pa_cons (pv 3) (pa_cons pe_str pa_nil))))))) (pe_lst pa_nil) pe_non)))
  (pm_case rfl nd (.cons (i := 2) rfl rfl (.cons (i := 3) rfl rfl .nil)) (pss_one (ps_ret (pe_ifExp (PW.pt (pw_and (pt_val (pe_c c_is_name hr (by decide) rfl (pa_cons (pv 2) pa_nil))) (pw_and1 (pt_val (pe_cD c_are_atoms2 hr (by decide) rfl (pa_cons (pv 3) (pa_cons pe_str pa_nil))))))) (pe_lst pa_nil) pe_non)))
  (pm_case rfl nd (.cons (i := 2) rfl rfl (.cons (i := 3) rfl rfl (.cons (i := 4) rfl rfl (.cons (i := 5) rfl rfl .nil)))) (pss_one (ps_ret (pe_ifExp (PW.pt (pw_and (pt_val (pe_c c_is_name hr (by decide) rfl (pa_cons (pv 2) pa_nil))) (pw_and1 (pt_val (pe_cD c_are_atoms2 hr (by decide) rfl (pa_cons (pv 3) (pa_cons pe_str pa_nil))))))) (pe_lst (pa_cons (pv 4) (pa_cons (pv 5) pa_nil))) pe_non)))
  (pm_case rfl nd (.cons (i := 2) rfl rfl (.cons (i := 6) rfl rfl (.cons (i := 7) rfl rfl .nil))) (pss_one (ps_ret (pe_ifExp (PW.pt (pw_and (pt_val (pe_c c_is_name hr (by decide) rfl (pa_cons (pv 2) pa_nil))) (pw_and1 (pt_val (pe_c c_are_atoms hr (by decide) rfl (pa_cons (pv 6) (pa_cons pe_str (pa_cons (pe_glob (v := .int 8000) rfl T.MOST_KEPT.choose_spec ⟨_, rfl⟩) pa_nil)))))))) (pe_lst (pa_cons (pv 7) pa_nil)) pe_non)))
  pm_never))))))))), ?_⟩
    cases hb with
    | @ret p x hp ha =>
      refine ⟨_, rfl, _, _, _, _, true, rfl, .ty _, .base (.tup hp), kit_ty (by decide +kernel),  true, rfl, iF rfl ?_⟩
      refine ⟨_, rfl, _, _, rfl, SqT.of hp, mcT rfl ?_⟩
      refine ⟨_, rfl, x, sl, rfl, ha, fun H1 s1 => ⟨true, rfl, iT rfl ?_⟩⟩
      refine ⟨by decide, fun q hq => ?_⟩
      exact k _ _ _ (s1.trans (Same.upd hq)) (s1.free hq) upd_same .nil
    | @rai p x hp ha =>
      refine ⟨_, rfl, _, _, _, _, true, rfl, .ty _, .base (.tup hp), kit_ty (by decide +kernel),  true, rfl, iF rfl ?_⟩
      refine ⟨_, rfl, _, _, rfl, SqT.of hp, mcF (by decide) (mcT rfl ?_)⟩
      refine ⟨_, rfl, x, sl, rfl, ha, fun H1 s1 => ⟨true, rfl, iT rfl ?_⟩⟩
      refine ⟨by decide, fun q hq => ?_⟩
      exact k _ _ _ (s1.trans (Same.upd hq)) (s1.free hq) upd_same .nil
    | @ask p nm u n n1 n2 hp ha =>
      refine ⟨_, rfl, _, _, _, _, true, rfl, .ty _, .base (.tup hp), kit_ty (by decide +kernel),  true, rfl, iF rfl ?_⟩
      refine ⟨_, rfl, _, _, rfl, SqT.of hp, mcF (by decide) (mcF (by decide) (mcT rfl ?_))⟩
      refine ⟨_, rfl, nm, rfl, n1, fun H1 s1 => ⟨true, rfl, iT rfl ?_⟩⟩
      refine ⟨_, rfl, _, sl, n, 4, rfl, ha.le (Same.le s1), by omega, by decide, fun H2 s2 => ⟨true, rfl, iT rfl ?_⟩⟩
      refine ⟨by decide, fun q hq => ?_⟩
      exact k _ _ _ ((s1.trans s2).trans (Same.upd hq)) ((s1.trans s2).free hq) upd_same .nil
    | @call p nm u n1 n2 hp ha =>
      refine ⟨_, rfl, _, _, _, _, true, rfl, .ty _, .base (.tup hp), kit_ty (by decide +kernel),  true, rfl, iF rfl ?_⟩
      refine ⟨_, rfl, _, _, rfl, SqT.of hp, mcF (by decide) (mcF (by decide) (mcF (by decide) (mcT rfl ?_)))⟩
      refine ⟨_, rfl, nm, rfl, n1, fun H1 s1 => ⟨true, rfl, iT rfl ?_⟩⟩
      refine ⟨_, rfl, _, sl, _, 4, rfl, ha.le (Same.le s1), by omega, by decide, fun H2 s2 => ⟨true, rfl, iT rfl ?_⟩⟩
      refine ⟨by decide, fun q hq => ?_⟩
      exact k _ _ _ ((s1.trans s2).trans (Same.upd hq)) ((s1.trans s2).free hq) upd_same .nil
    | @test p nm u n y z b c n1 n2 hp ha hy hz =>
      refine ⟨_, rfl, _, _, _, _, true, rfl, .ty _, .base (.tup hp), kit_ty (by decide +kernel),  true, rfl, iF rfl ?_⟩
      refine ⟨_, rfl, _, _, rfl, SqT.of hp, mcF (by decide) (mcF (by decide) (mcF (by decide) (mcF (by decide) (mcT rfl ?_))))⟩
      refine ⟨_, rfl, nm, rfl, n1, fun H1 s1 => ⟨true, rfl, iT rfl ?_⟩⟩
      refine ⟨_, rfl, _, sl, n, 4, rfl, ha.le (Same.le s1), by omega, by decide, fun H2 s2 => ⟨true, rfl, iT rfl ?_⟩⟩
      refine ⟨_, rfl, _, rfl, by show 2 ≤ sizeLine; decide, fun q hq => ?_⟩
      have s3 := (s1.trans s2).trans (Same.upd (o := .lst [y, z]) hq)
      exact k _ _ _ s3 ((s1.trans s2).free hq) upd_same (.cons (hy.le (Same.le s3)) (.cons (hz.le (Same.le s3)) .nil))
    | @push p nm u y b n1 n2 hp ha hy =>
      refine ⟨_, rfl, _, _, _, _, true, rfl, .ty _, .base (.tup hp), kit_ty (by decide +kernel),  true, rfl, iF rfl ?_⟩
      refine ⟨_, rfl, _, _, rfl, SqT.of hp, mcF (by decide) (mcF (by decide) (mcF (by decide) (mcF (by decide) (mcF (by decide) (mcT rfl ?_)))))⟩
      refine ⟨_, rfl, nm, rfl, n1, fun H1 s1 => ⟨true, rfl, iT rfl ?_⟩⟩
      refine ⟨_, rfl, _, sl, _, 8000, rfl, ha.le (Same.le s1), by omega, by decide, fun H2 s2 => ⟨true, rfl, iT rfl ?_⟩⟩
      refine ⟨_, rfl, by show 1 ≤ sizeLine; decide, fun q hq => ?_⟩
      have s3 := (s1.trans s2).trans (Same.upd (o := .lst [y]) hq)
      exact k _ _ _ s3 ((s1.trans s2).free hq) upd_same (.cons (hy.le (Same.le s3)) .nil)
end
end K52

namespace K52
open PySem PySem.Spec PyProof.Rows L2
theorem paired_app {α β : Type} {F : α → β → Prop} : ∀ {a : List α} {b : List β} {c : List α} {d : List β}, Paired F a b → Paired F c d → Paired F (a ++ c) (b ++ d)
  | _, _, _, _, .nil, q => q
  | _, _, _, _, .cons h t, q => .cons h (paired_app t q)
theorem paired_last {α β : Type} {F : α → β → Prop} : ∀ {a : List α} {b : List β}, Paired F a b → b ≠ [] → ∃ a' x b' y, a = a' ++ [x] ∧ b = b' ++ [y] ∧ Paired F a' b' ∧ F x y
  | _, _, .nil, h => absurd rfl h
  | [x], [y], .cons r .nil, _ => ⟨[], x, [], y, rfl, rfl, .nil, r⟩
  | x :: x2 :: a, y :: y2 :: b, .cons r t, _ => by
    obtain ⟨a', u, b', v, e1, e2, p, q⟩ := paired_last t (by simp)
    exact ⟨x :: a', u, y :: b', v, by rw [e1]; rfl, by rw [e2]; rfl, .cons r p, q⟩
theorem paired_at {α β : Type} {F : α → β → Prop} : ∀ {a : List α} {b : List β}, Paired F a b → ∀ {i : Nat} {y : β}, b[i]? = some y → ∃ x, a[i]? = some x ∧ F x y
  | _, _, .nil, i, y, h => by simp at h
  | _, _, .cons r t, 0, y, h => by simp at h; subst h; exact ⟨_, rfl, r⟩
  | _, _, .cons r t, i + 1, y, h => by
    obtain ⟨x, e, q⟩ := paired_at t (i := i) (y := y) (by simpa using h)
    exact ⟨x, by simpa using e, q⟩
theorem paired_of {α β : Type} {F : α → β → Prop} : ∀ {a : List α} {b : List β}, a.length = b.length → (∀ (i : Nat) x y, a[i]? = some x → b[i]? = some y → F x y) → Paired F a b
  | [], [], _, _ => .nil
  | x :: a, y :: b, hl, h => .cons (h 0 x y rfl rfl) (paired_of (by simpa using hl) fun i u v h1 h2 => h (i + 1) u v (by simpa using h1) (by simpa using h2))
theorem last_at {β : Type} (b : List β) (y : β) : (b ++ [y])[(b ++ [y]).length - 1]? = some y := by simp
theorem Paired.le {af ac : Str → Nat} {sl : Nat} {H H' : Hp} (l : Le H H') {L : List (KM.Bd Str)} {xs : List V} (h : Paired (BdV af ac sl H) L xs) : Paired (BdV af ac sl H') L xs := Paired.mono (fun _ _ q => BdV.le l q) h
def bdDep : KM.Bd Str → Nat
  | .leaf _ => 1
  | .call _ => 1
  | .test y n => max (bdDep y) (bdDep n) + 1
  | .push _ b => bdDep b + 1
theorem bdDep_pos : ∀ b : KM.Bd Str, 1 ≤ bdDep b
  | .leaf _ => Nat.le_refl 1
  | .call _ => Nat.le_refl 1
  | .test _ _ => Nat.le_add_left 1 _
  | .push _ _ => Nat.le_add_left 1 _
theorem size_kids (b : KM.Bd Str) : b.size = KM.sumS (kids b) + 1 := by cases b <;> simp [KM.Bd.size, KM.sumS, kids]
theorem paired_rev {α β : Type} {F : α → β → Prop} : ∀ {a : List α} {b : List β}, Paired F a b → Paired F a.reverse b.reverse
  | _, _, .nil => .nil
  | x :: a, y :: b, .cons r t => by
    rw [List.reverse_cons, List.reverse_cons]
    exact paired_app (paired_rev t) (.cons r .nil)
theorem Le.lst {H : Hp} {p : Addr} {o : HO} {xs : List V} (h : H p = some (.lst xs)) : Le H (L2.upd H p o) := Le.upd h id
theorem Le.dK {H : Hp} {p : Addr} {o : HO} {xs : List (Key × V)} (h : H p = some (.dK xs)) : Le H (L2.upd H p o) := Le.upd h id
theorem Le.new {H : Hp} {p : Addr} {o : HO} (h : H p = none) : Le H (L2.upd H p o) := Same.le (Same.upd h)
/-- a write at a place that the start did not have -/
theorem Same.put {H H1 : Hp} {p : Addr} {o : HO} (s : Same H H1) (h : H p = none) : Same H (L2.upd H1 p o) := Same.but_new s h But.upd
theorem sumS_rev (l : List (KM.Bd Str)) : KM.sumS l.reverse = KM.sumS l := by
  induction l with
  | nil => rfl
  | cons a l ih => rw [List.reverse_cons, KM.sumS_app, ih]; simp [KM.sumS]; omega
theorem sumS_len (l : List (KM.Bd Str)) : l.length ≤ KM.sumS l := by
  induction l with
  | nil => exact Nat.le_refl _
  | cons a l ih =>
    have := KM.Bd.size_pos a
    have e : KM.sumS (a :: l) = a.size + KM.sumS l := by simp [KM.sumS]
    rw [e, List.length_cons]; omega
section
variable {P : Program} {w : World} {K : PySem.W.Frag} {mg : Str → Option Value} {base : Heap}
theorem cal_at {k : Nat} {x : Str} {sp : Sp} {f : Addr} (c : Cal P w K mg base k x sp) (h : mg x = some (.ref f)) : ∃ fd ps, FnOk P w K mg base CX0 k f fd ps sp ∧ PySem.W.keepIn K (.ref f) = true ∧ Binds K fd ps [] := by
  obtain ⟨g, fd, ps, F, hm, kp, b⟩ := c.ex
  rw [hm] at h
  cases h
  exact ⟨fd, ps, F, kp, b⟩
/-! ### walk -/
/-- the parts of a body, in some order: what pushes and bodies there are -/
inductive PartOf (b0 : KM.Bd Str) : KM.Bd Str → Prop where
  | here : PartOf b0 b0
  | kid {b c : KM.Bd Str} : PartOf b0 b → c ∈ kids b → PartOf b0 c
def spWalk (mg : Str → Option Value) : Sp := fun vs H Q _ => ∃ v f af ac sl b, vs = [v, .ref f] ∧ mg "bodies_in" = some (.ref f) ∧ BdV af ac sl H b v ∧ b.size ≤ 2000 ∧
  ∀ H' q L ws, Same H H' → H q = none → H' q = some (.lst ws) → Paired (BdV af ac sl H') L ws → (∀ c, c ∈ L ↔ PartOf b c) → L.length ≤ 2000 → Q (.ref q) H'
theorem c_walk (T : Txt K mg) : Cal P w K mg base 5 "walk" (spWalk mg) := by
  have c_bodies := c_bodies_in (P := P) (w := w) (base := base) T
  refine cal_of T.d_walk sc_walk (fun _ _ _ _ _ _ us hl => match us, hl with | [_, _], _ => rfl) (fun vs H Q E h => ?_) (fun f cdv A outer s H vs Q E hr h => ?_)
  · obtain ⟨v, _, _, _, _, _, rfl, _⟩ := h; rfl
  · obtain ⟨v, fB, af, ac, sl, b, rfl, hB, hb, hsz, k⟩ := h
    obtain ⟨fd, ps, F, kp, bi⟩ := cal_at c_bodies hB
    have nd := sc_walk.nd
    refine ⟨_, (pss_cons (ps_par (i := 2) (j := 3) (by rfl) nd rfl rfl (by decide) rfl rfl (pa_cons (pe_lst (pa_cons (pv 0) pa_nil)) (pa_cons (pe_lst pa_nil) pa_nil)) (by rfl))
  (pss_cons (ps_while PassesOwn.never (pt_cmpR (op_neNil hr) (pv 2) (pe_lst pa_nil) (nomark _)) (pss_cons (ps_set (i := 4) nd rfl (Or.inl rfl) (pe_bm0 PySem.F.plainAttrs_list PySem.F.slot_list_pop PySem.F.type_list_pop mt_pop (pv 2)))
  (pss_cons (ps_expr (pe_bm PySem.F.plainAttrs_list PySem.F.slot_list_append PySem.F.type_list_append mt_append (pv 3) (pa_cons (pv 4) pa_nil)))
  (pss_one (ps_expr (pe_bm PySem.F.plainAttrs_list PySem.F.slot_list_extend PySem.F.type_list_extend mt_extend (pv 2) (pa_cons (pe_revL (pe_callL (i := 1) F hr rfl (Or.inl rfl) kp bi .nil pass0 (pa_cons (pv 4) pa_nil))) pa_nil)))))))
  (pss_one (ps_ret (pv 3))))), ?_⟩
    refine ⟨_, rfl, by show 1 ≤ sizeLine; decide, fun R hR => ⟨by decide, fun D hD => ⟨_, _, rfl, ?_⟩⟩⟩
    have hz : 2000 ≤ sizeLine := by decide
    have hDH : H D = none := (Same.upd hR).free hD
    have hRD : R ≠ D := fun e => by rw [← e, upd_same] at hD; cases hD
    let I : Nat → L2.St → Hp → Prop := fun m σ H' => ∃ p4 L xs G gs, σ = [some v, some (.ref fB), some (.ref R), some (.ref D), p4] ∧ Same H H' ∧ H' R = some (.lst xs) ∧ H' D = some (.lst gs) ∧
      Paired (BdV af ac sl H') L xs ∧ Paired (BdV af ac sl H') G gs ∧ (∀ c, PartOf b c ↔ c ∈ G ∨ ∃ a ∈ L, PartOf a c) ∧ KM.sumS L + G.length = b.size ∧ m = KM.sumS L
    refine ⟨I, ⟨b.size, none, [b], [v], [], [], rfl, (Same.upd hR).trans (Same.upd hD), by rw [upd_ne hRD]; exact upd_same, upd_same, .cons (hb.le (Same.le ((Same.upd hR).trans (Same.upd hD)))) .nil, .nil, fun c => ⟨fun q => .inr ⟨b, by simp, q⟩, fun q => ?_⟩, by simp [KM.sumS], by simp [KM.sumS]⟩, ?_⟩
    · rcases q with q | ⟨a, ha, q⟩
      · cases q
      · rw [List.mem_singleton.mp ha] at q; exact q
    rintro m σ H1 ⟨p4, L, xs, G, gs, rfl, s1, h1R, h1D, pL, pG, hpt, hsum, rfl⟩
    refine ⟨_, rfl, by decide, fun q hq => ⟨R, q, xs, rfl, rfl, SqL.of (by rw [upd_ne (ne_of_none h1R hq)]; exact h1R), SqL.of upd_same, _, rfl, ?_⟩⟩
    have l1 : Le H1 (upd H1 q (.lst [])) := Le.new hq
    have sq : Same H (upd H1 q (.lst [])) := s1.trans (Same.upd hq)
    have h2R : (upd H1 q (.lst [])) R = some (.lst xs) := by rw [upd_ne (ne_of_none h1R hq)]; exact h1R
    have h2D : (upd H1 q (.lst [])) D = some (.lst gs) := by rw [upd_ne (ne_of_none h1D hq)]; exact h1D
    generalize upd H1 q (.lst []) = H2 at l1 sq h2R h2D
    replace pL := Paired.le l1 pL
    replace pG := Paired.le l1 pG
    cases e : xs.isEmpty with
    | true =>
      have e' : xs = [] := List.isEmpty_iff.mp e
      subst e'
      cases pL
      refine iF rfl ⟨_, rfl, ?_⟩
      refine k _ _ _ _ sq hDH h2D pG (fun c => ⟨fun q => (hpt c).mpr (.inl q), fun q => ((hpt c).mp q).elim id fun ⟨a, ha, _⟩ => by cases ha⟩) (by simp [KM.sumS] at hsum; omega)
    | false =>
      refine iT rfl ⟨fun σ' H' => ∃ m', m' < KM.sumS L ∧ I m' σ' H', fun _ _ h => h, ?_⟩
      obtain ⟨L', a, xs', y, rfl, rfl, pL', ha⟩ := paired_last pL (by intro z; rw [z] at e; cases e)
      have eS : KM.sumS (L' ++ [a]) = KM.sumS L' + a.size := by rw [KM.sumS_app]; simp [KM.sumS]
      rw [eS] at hsum ⊢
      have hlen : xs'.length ≤ KM.sumS L' := by rw [← pL'.length]; exact sumS_len L'
      have apos := KM.Bd.size_pos a
      have glen : gs.length = G.length := pG.length.symm
      refine ⟨_, rfl, .inl ⟨rfl, _, .inl (.inl h2R)⟩, R, _, y, rfl, rfl, h2R, last_at _ _, ?_⟩
      rw [List.dropLast_concat]
      have l2 : Le H2 (upd H2 R (.lst xs')) := Le.lst h2R
      have s3 : Same H (upd H2 R (.lst xs')) := Same.put sq hR
      have h3R : (upd H2 R (.lst xs')) R = some (.lst xs') := upd_same
      have h3D : (upd H2 R (.lst xs')) D = some (.lst gs) := by rw [upd_ne hRD.symm]; exact h2D
      generalize upd H2 R (.lst xs') = H3 at l2 s3 h3R h3D
      refine ⟨_, rfl, .inl ⟨rfl, _, .inl (.inl h3D)⟩, _, rfl, D, gs, y, rfl, rfl, h3D, by omega, ?_⟩
      have l3 : Le H3 (upd H3 D (.lst (gs ++ [y]))) := Le.lst h3D
      have s4 : Same H (upd H3 D (.lst (gs ++ [y]))) := Same.put s3 hDH
      have h4D : (upd H3 D (.lst (gs ++ [y]))) D = some (.lst (gs ++ [y])) := upd_same
      have h4R : (upd H3 D (.lst (gs ++ [y]))) R = some (.lst xs') := by rw [upd_ne hRD]; exact h3R
      generalize upd H3 D (.lst (gs ++ [y])) = H4 at l3 s4 h4D h4R
      refine ⟨_, rfl, .inl ⟨rfl, _, .inl (.inl h4R)⟩, rfl, _, rfl, y, af, ac, sl, a, rfl, ha.le ((l2.trans l3)), fun H5 u ws s5 hu hws pw => ⟨u, ws, rfl, SqL.of hws, fun r hr => ?_⟩⟩
      have l4 : Le H4 (upd H5 r (.lst ws.reverse)) := Same.le (s5.trans (Same.upd hr))
      have s6 : Same H4 (upd H5 r (.lst ws.reverse)) := s5.trans (Same.upd hr)
      have h6r : (upd H5 r (.lst ws.reverse)) r = some (.lst ws.reverse) := upd_same
      have pw' := Paired.le (Le.new hr (o := .lst ws.reverse)) pw
      generalize upd H5 r (.lst ws.reverse) = H6 at l4 s6 h6r pw'
      have wl : ws.length = (kids a).length := pw.length.symm
      have kl := sumS_len (kids a)
      have ka := size_kids a
      refine ⟨R, r, xs', ws.reverse, rfl, rfl, s6 _ _ h4R, h6r, by rw [List.length_reverse]; omega, ?_⟩
      have l6 : Le H6 (upd H6 R (.lst (xs' ++ ws.reverse))) := Le.lst (s6 _ _ h4R)
      have lA : Le H2 (upd H6 R (.lst (xs' ++ ws.reverse))) := ((l2.trans l3).trans l4).trans l6
      refine ⟨KM.sumS (L' ++ (kids a).reverse), by rw [KM.sumS_app, sumS_rev]; omega, some y, L' ++ (kids a).reverse, xs' ++ ws.reverse, G ++ [a], gs ++ [y], rfl, Same.put (s4.trans s6) hR, upd_same, by rw [upd_ne hRD.symm]; exact s6 _ _ h4D,
        paired_app (Paired.le lA pL') (paired_rev (Paired.le l6 pw')), paired_app (Paired.le lA pG) (.cons (ha.le lA) .nil), fun c => ?_, by rw [KM.sumS_app, sumS_rev, List.length_append, List.length_singleton]; omega, rfl⟩
      rw [hpt c]
      constructor
      · rintro (q | ⟨z, hz, q⟩)
        · exact .inl (List.mem_append_left _ q)
        · rcases List.mem_append.mp hz with hz | hz
          · exact .inr ⟨z, List.mem_append_left _ hz, q⟩
          · rw [List.mem_singleton.mp hz] at q
            have : c = a ∨ ∃ d ∈ kids a, PartOf d c := by
              clear hz
              induction q with
              | here => exact .inl rfl
              | @kid b1 c1 _ h ih =>
                rcases ih with rfl | ⟨d, hd, q⟩
                · exact .inr ⟨_, h, .here⟩
                · exact .inr ⟨d, hd, .kid q h⟩
            rcases this with rfl | ⟨d, hd, q⟩
            · exact .inl (by simp)
            · exact .inr ⟨d, by simp [hd], q⟩
      · rintro (q | ⟨z, hz, q⟩)
        · rcases List.mem_append.mp q with q | q
          · exact .inl q
          · rw [List.mem_singleton.mp q]; exact .inr ⟨a, by simp, .here⟩
        · rcases List.mem_append.mp hz with hz | hz
          · exact .inr ⟨z, by simp [hz], q⟩
          · have hz' : z ∈ kids a := by simpa using hz
            have tr : ∀ {x y u : KM.Bd Str}, PartOf x y → PartOf y u → PartOf x u := fun {x y u} h g => by
              induction g with
              | here => exact h
              | kid _ m ih => exact .kid ih m
            exact .inr ⟨a, by simp, tr (.kid .here hz') q⟩
/-! ### measured -/
abbrev LvL := List (KM.Bd Str × Nat)
def mx (L : LvL) : Nat := L.foldr (fun x m => max (x.2 + bdDep x.1 - 1) m) 0
theorem mx_app (A B : LvL) : mx (A ++ B) = max (mx A) (mx B) := by
  induction A with
  | nil => simp [mx]
  | cons a A ih =>
    show max (a.2 + bdDep a.1 - 1) (mx (A ++ B)) = max (max (a.2 + bdDep a.1 - 1) (mx A)) (mx B)
    rw [ih]; omega
theorem mx_kids (a : KM.Bd Str) (l : Nat) (hl : 1 ≤ l) : max l (mx ((kids a).map fun c => (c, l + 1))) = l + bdDep a - 1 := by
  cases a <;> simp [kids, mx, bdDep] <;> omega
def szs (L : LvL) : Nat := (L.map fun x => x.1.size).sum
theorem szs_app (A B : LvL) : szs (A ++ B) = szs A + szs B := by unfold szs; rw [List.map_append, List.sum_append]
theorem szs_kids (a : KM.Bd Str) (l : Nat) : szs ((kids a).map fun c => (c, l)) + 1 = a.size := by cases a <;> simp [kids, szs, KM.Bd.size]
theorem szs_len (L : LvL) : L.length ≤ szs L := by
  induction L with
  | nil => exact Nat.le_refl _
  | cons a l ih =>
    have := KM.Bd.size_pos a.1
    have e : szs (a :: l) = a.1.size + szs l := by simp [szs]
    rw [e, List.length_cons]; omega
def LvV (af ac : Str → Nat) (sl : Nat) (H : Hp) (x : KM.Bd Str × Nat) (v : V) : Prop := ∃ p u, v = .ref p ∧ H p = some (.tup [u, .int (x.2 : Nat)]) ∧ BdV af ac sl H x.1 u
theorem LvV.le {af ac : Str → Nat} {sl : Nat} {H H' : Hp} (l : Le H H') {L : LvL} {xs : List V} (h : Paired (LvV af ac sl H) L xs) : Paired (LvV af ac sl H') L xs := Paired.mono (fun _ _ ⟨p, u, e, h1, h2⟩ => ⟨p, u, e, l _ _ trivial h1, BdV.le l h2⟩) h
def spMeas (mg : Str → Option Value) : Sp := fun vs H Q _ => ∃ v f af ac sl b, vs = [v, .ref f] ∧ mg "bodies_in" = some (.ref f) ∧ BdV af ac sl H b v ∧ b.size ≤ 2000 ∧
  ∀ H' q, Same H H' → H q = none → H' q = some (.tup [.int (b.size : Nat), .int (bdDep b : Nat)]) → Q (.ref q) H'
theorem c_measured (T : Txt K mg) : Cal P w K mg base 5 "measured" (spMeas mg) := by
  have c_bodies := c_bodies_in (P := P) (w := w) (base := base) T
  refine cal_of T.d_measured sc_measured (fun _ _ _ _ _ _ us hl => match us, hl with | [_, _], _ => rfl) (fun vs H Q E h => ?_) (fun f cdv A outer s H vs Q E hr h => ?_)
  · obtain ⟨v, _, _, _, _, _, rfl, _⟩ := h; rfl
  · obtain ⟨v, fB, af, ac, sl, b, rfl, hB, hb, hsz, k⟩ := h
    obtain ⟨fd, ps, F, kp, bi⟩ := cal_at c_bodies hB
    have nd := sc_measured.nd
    refine ⟨_, (pss_cons (ps_par3 (i := 2) (j := 3) (l := 4) (by rfl) nd rfl rfl rfl (by decide) (by decide) (by decide) rfl rfl rfl (pa_cons (pe_lst (pa_cons (pe_tup (pa_cons (pv 0) (pa_cons pe_int pa_nil))) pa_nil)) (pa_cons pe_int (pa_cons pe_int pa_nil))) (by rfl))
  (pss_cons (ps_while PassesOwn.never (pt_cmpR (op_neNil hr) (pv 2) (pe_lst pa_nil) (nomark _)) (pss_cons (ps_asg (pe_bm0 PySem.F.plainAttrs_list PySem.F.slot_list_pop PySem.F.type_list_pop mt_pop (pv 2)) (pg_tup (by rfl) (pgs_cons (pg_name (i := 5) nd rfl (Or.inl rfl)) (pgs_cons (pg_name (i := 6) nd rfl (Or.inr rfl)) pgs_nil))))
  (pss_cons (ps_set (i := 7) nd rfl (Or.inl rfl) (pe_callL (i := 1) F hr rfl (Or.inl rfl) kp bi .nil pass0 (pa_cons (pv 5) pa_nil)))
  (pss_cons (ps_if (pt_cmpR op_isN (pv 7) pe_non (nomark _)) (pss_one (ps_ret pe_non)) pss_nil)
  (pss_cons (ps_aug (i := 3) nd rfl (Or.inl rfl) pe_int ip_add)
  (pss_cons (ps_set (i := 4) nd rfl (Or.inl rfl) (pe_ifExp (pt_cmpR op_gt (pv 6) (pv 4) (nomark _)) (pv 6) (pv 4)))
  (pss_one (ps_expr (pe_bm PySem.F.plainAttrs_list PySem.F.slot_list_extend PySem.F.type_list_extend mt_extend (pv 2) (pa_cons (pe_lc (own := [("one", 8)]) rfl nd (pi_list (pv 7)) (blkOk_by (N := N_measured) (sc := defScope s_measured) (by decide +kernel)) (fun _ _ _ _ _ => (pg_name (i := 8) nd rfl (Or.inl rfl))) (fun _ _ _ _ _ => pts_nil) (fun _ _ _ _ _ => (pe_tup (pa_cons (pv 8) (pa_cons (pe_op op_add (pv 6) pe_int) pa_nil))))) pa_nil))))))))))
  (pss_one (ps_ret (pe_tup (pa_cons (pv 3) (pa_cons (pv 4) pa_nil))))))), ?_⟩
    have hz : 2000 ≤ sizeLine := by decide
    refine ⟨_, rfl, by show 2 ≤ sizeLine; decide, fun t ht => ⟨by show 1 ≤ sizeLine; decide, fun R hR => ⟨_, _, _, rfl, ?_⟩⟩⟩
    have hRH : H R = none := (Same.upd ht).free hR
    let I : Nat → L2.St → Hp → Prop := fun m σ H' => ∃ p5 p6 p7 p8 L xs, ∃ n d : Nat, σ = [some v, some (.ref fB), some (.ref R), some (.int n), some (.int d), p5, p6, p7, p8] ∧ Same H H' ∧ H' R = some (.lst xs) ∧
      Paired (LvV af ac sl H') L xs ∧ (∀ x ∈ L, 1 ≤ x.2) ∧ n + szs L = b.size ∧ max d (mx L) = bdDep b ∧ m = szs L
    have sA : Same H (upd (upd H t (.tup [v, .int 1])) R (.lst [.ref t])) := (Same.upd ht).trans (Same.upd hR)
    have bp := bdDep_pos b
    refine ⟨I, ⟨b.size, none, none, none, none, [(b, 1)], [.ref t], 0, 0, rfl, sA, upd_same, .cons ⟨t, v, rfl, by rw [upd_ne (ne_of_none upd_same hR)]; exact upd_same, hb.le (Same.le sA)⟩ .nil, by simp, by simp [szs], by simp [mx], by simp [szs]⟩, ?_⟩
    rintro m σ H1 ⟨p5, p6, p7, p8, L, xs, n, d, rfl, s1, h1R, pL, lv, hsum, hmx, rfl⟩
    refine ⟨_, rfl, by decide, fun q hq => ⟨R, q, xs, rfl, rfl, SqL.of (by rw [upd_ne (ne_of_none h1R hq)]; exact h1R), SqL.of upd_same, _, rfl, ?_⟩⟩
    have l1 : Le H1 (upd H1 q (.lst [])) := Le.new hq
    have sq : Same H (upd H1 q (.lst [])) := s1.trans (Same.upd hq)
    have h2R : (upd H1 q (.lst [])) R = some (.lst xs) := by rw [upd_ne (ne_of_none h1R hq)]; exact h1R
    generalize upd H1 q (.lst []) = H2 at l1 sq h2R
    replace pL := LvV.le l1 pL
    cases e : xs.isEmpty with
    | true =>
      have e' : xs = [] := List.isEmpty_iff.mp e
      subst e'
      cases pL
      refine iF rfl ⟨_, rfl, _, rfl, by show 2 ≤ sizeLine; decide, fun u hu => ?_⟩
      have e1 : n = b.size := by simp [szs] at hsum; omega
      have e2 : d = bdDep b := by simp [mx] at hmx; omega
      exact k _ _ (sq.trans (Same.upd hu)) (sq.free hu) (by rw [upd_same, e1, e2])
    | false =>
      refine iT rfl ⟨fun σ' H' => ∃ m', m' < szs L ∧ I m' σ' H', fun _ _ h => h, ?_⟩
      obtain ⟨L', ⟨a, l⟩, xs', y, rfl, rfl, pL', ⟨p, u, rfl, hp, ha⟩⟩ := paired_last pL (by intro z; rw [z] at e; cases e)
      have hl1 : 1 ≤ l := lv (a, l) (by simp)
      have eS : szs (L' ++ [(a, l)]) = szs L' + a.size := by rw [szs_app]; simp [szs]
      rw [eS] at hsum ⊢
      rw [mx_app] at hmx
      have ap := bdDep_pos a
      have eM : mx [(a, l)] = l + bdDep a - 1 := by simp [mx]
      rw [eM] at hmx
      have hlen : xs'.length ≤ szs L' := by rw [← pL'.length]; exact szs_len L'
      have apos := KM.Bd.size_pos a
      refine ⟨_, rfl, .inl ⟨rfl, _, .inl (.inl h2R)⟩, R, _, .ref p, rfl, rfl, h2R, last_at _ _, ?_⟩
      rw [List.dropLast_concat]
      have l2 : Le H2 (upd H2 R (.lst xs')) := Le.lst h2R
      have s3 : Same H (upd H2 R (.lst xs')) := Same.put sq hRH
      have h3R : (upd H2 R (.lst xs')) R = some (.lst xs') := upd_same
      generalize upd H2 R (.lst xs') = H3 at l2 s3 h3R
      refine ⟨p, _, rfl, SqT.of (l2 _ _ trivial hp), rfl, _, _, rfl, _, _, rfl, rfl, ?_⟩
      refine ⟨rfl, _, rfl, u, af, ac, sl, a, rfl, ha.le l2, fun H5 W ws s5 hW hws pw => ?_⟩
      refine ⟨_, rfl, rfl, _, rfl, dF (fun z => nomatch z) ?_⟩
      refine ⟨_, rfl, _, _, rfl, rfl, ?_⟩
      have h5R := s5 _ _ h3R
      have s6 : Same H H5 := s3.trans s5
      have l5 := l2.trans (Same.le s5)
      have wl : ws.length = (kids a).length := pw.length.symm
      have kl := sumS_len (kids a)
      have ka := size_kids a
      have kz := szs_kids a (l + 1)
      have km := mx_kids a l hl1
      refine ⟨_, rfl, _, rfl, _, _, rfl, rfl, _, rfl, ite2 (fun h => ⟨_, rfl, ?_⟩) (fun h => ⟨_, rfl, ?_⟩)⟩
      all_goals
        refine ⟨_, rfl, .inl ⟨rfl, _, .inl (.inl h5R)⟩, _, rfl, W, rfl, ⟨_, SqL.of hws⟩, fun D hD => ?_⟩
        refine lc_map walk_list hD (fun H' s => SqL.of (s _ _ hws)) (by omega) (fun i y H' => ∃ c, (kids a)[i]? = some c ∧ LvV af ac sl H' (c, l + 1) y) (fun i y Ha Hb zs hd bu ⟨c, e1, p, u, e2, h1, h2⟩ => ⟨c, e1, p, u, e2, But.le bu hd id _ _ trivial h1, h2.le (But.le bu hd id)⟩) (fun i Ha x Hb _ y => by rw [y.1]; exact Same.refl _) (fun i x' Ha Hb Q' hi sa y kq => ?_) (fun H6 ys sb hd hl hr => ?_)
        · obtain ⟨rfl, hx⟩ := y
          obtain ⟨c, hc, hcv⟩ := paired_at pw hx
          refine ⟨rfl, _, rfl, _, rfl, _, _, rfl, rfl, by show 2 ≤ sizeLine; decide, fun z hz => ?_⟩
          exact kq _ _ (Same.upd hz) ⟨c, hc, z, _, rfl, upd_same, hcv.le (Le.trans (Same.le sa) (Le.new hz))⟩
        · have pk : Paired (LvV af ac sl H6) ((kids a).map fun c => (c, l + 1)) ys := paired_of (by rw [List.length_map, hl, wl]) fun i x y h1 h2 => by
            obtain ⟨c, e1, e2⟩ := hr i y h2
            rw [List.getElem?_map, e1] at h1
            cases h1
            exact e2
          refine ⟨R, D, xs', ys, rfl, rfl, sb _ _ h5R, hd, by omega, ?_⟩
          have l6 : Le H6 (upd H6 R (.lst (xs' ++ ys))) := Le.lst (sb _ _ h5R)
          have lA : Le H2 (upd H6 R (.lst (xs' ++ ys))) := (l5.trans (Same.le sb)).trans l6
          refine ⟨szs (L' ++ (kids a).map fun c => (c, l + 1)), by rw [szs_app]; omega, _, _, _, _, L' ++ (kids a).map fun c => (c, l + 1), xs' ++ ys, n + 1, _, rfl, Same.put (s6.trans sb) hRH, upd_same,
            paired_app (LvV.le lA pL') (LvV.le l6 pk), fun x hx => ?_, by rw [szs_app]; omega, by rw [mx_app]; have h' := h; first | omega | (simp at h'; omega), rfl⟩
          rcases List.mem_append.mp hx with hx | hx
          · exact lv x (List.mem_append_left _ hx)
          · obtain ⟨c, _, rfl⟩ := List.mem_map.mp hx
            show 1 ≤ l + 1
            omega
end
end K52

namespace K52
open PySem PySem.Spec PyProof.Rows L2
theorem ixK {X : Cx} {K : PySem.W.Frag} {r : PySem.W.Frag → R2} (h : X.K = K) (q : IxR X (r X.K)) : IxR X (r K) := by subst h; exact q
theorem opK {X : Cx} {K : PySem.W.Frag} {f : Value → Value → Sem Value} {r : PySem.W.Frag → R2} (h : X.K = K) (q : OpR X f (r X.K)) : OpR X f (r K) := by subst h; exact q
section
variable {P : Program} {w : World} {K : PySem.W.Frag} {mg : Str → Option Value} {base : Heap}
/-- a table's row of a function -/
def FnV (af ac : Str → Nat) (M : KM.Tb Str) (H : Hp) (nm : Str) (v : V) : Prop := ∃ p bv, v = .ref p ∧ H p = some (.tup [.str nm, .int (af nm : Nat), bv]) ∧ NmOk nm ∧ af nm ≤ 4 ∧ BdV af ac (af nm) H (M.bd nm) bv ∧ (M.bd nm).size ≤ 100 ∧ bdDep (M.bd nm) ≤ 20
def CsV (af ac : Str → Nat) (M : KM.Tb Str) (H : Hp) (nm : Str) (v : V) : Prop := ∃ p bv, v = .ref p ∧ H p = some (.tup [.str nm, .str (if M.kd nm then "back" else "caught"), .int (ac nm : Nat), bv]) ∧ NmOk nm ∧ ac nm ≤ 8000 ∧ BdV af ac (ac nm + 1) H (M.am nm) bv ∧ (M.am nm).size ≤ 100 ∧ bdDep (M.am nm) ≤ 20
theorem FnV.le {af ac : Str → Nat} {M : KM.Tb Str} {H H' : Hp} {nm : Str} {v : V} (l : Le H H') (h : FnV af ac M H nm v) : FnV af ac M H' nm v := by
  obtain ⟨p, bv, e, hp, h1, h2, h3, h4⟩ := h
  exact ⟨p, bv, e, l _ _ trivial hp, h1, h2, h3.le l, h4⟩
theorem CsV.le {af ac : Str → Nat} {M : KM.Tb Str} {H H' : Hp} {nm : Str} {v : V} (l : Le H H') (h : CsV af ac M H nm v) : CsV af ac M H' nm v := by
  obtain ⟨p, bv, e, hp, h1, h2, h3, h4⟩ := h
  exact ⟨p, bv, e, l _ _ trivial hp, h1, h2, h3.le l, h4⟩
def spIsFn : Sp := fun vs H Q _ => ∃ v af ac M nm, vs = [v] ∧ FnV af ac M H nm v ∧ ∀ H', Same H H' → Q (.bl true) H'
theorem c_is_function (T : Txt K mg) : Cal P w K mg base 6 "is_function" spIsFn := by
  have c_is_integer := c_is_integer (P := P) (w := w) (base := base) T
  have c_is_name := c_is_name (P := P) (w := w) (base := base) T
  have c_measured := c_measured (P := P) (w := w) (base := base) T
  obtain ⟨fB, _, _, _, g_bodies_in, _⟩ := (c_bodies_in (P := P) (w := w) (base := base) T).ex
  refine cal_of T.d_is_function sc_is_function (fun _ _ _ _ _ _ us hl => match us, hl with | [_], _ => rfl) (fun vs H Q E h => ?_) (fun f cdv A outer s H vs Q E hr h => ?_)
  · obtain ⟨v, _, _, _, _, rfl, _⟩ := h; rfl
  · obtain ⟨v, af, ac, M, nm, rfl, ⟨p, bv, rfl, hp, hn, ha, hb, hs, hd⟩, k⟩ := h
    have nd := sc_is_function.nd
    refine ⟨_, (pss_cons (ps_if (PW.pt (pw_or (pt_not (pt_val (pe_callB call_isi (by rfl) T.b_isinstance (by decide +kernel) (pa_cons (pv 0) (pa_cons (pe_bltn (v := .ty "tuple") (by rfl) T.b_tuple (by decide +kernel) rfl) pa_nil))))) (pw_or (pt_cmpR op_ne (pe_callB call_len_seq (by rfl) T.b_len PySem.boot_len (pa_cons (pv 0) pa_nil)) pe_int (nomark _)) (pw_or1 (pt_not (pt_val (pe_c c_is_name hr (by decide) rfl (pa_cons (pe_ix ix_tup (pv 0) pe_int (fun _ _ => rfl)) pa_nil)))))))) (pss_one (ps_ret pe_bl)) pss_nil)
  (pss_cons (ps_if (PW.pt (pw_or (pt_not (pt_val (pe_c c_is_integer hr (by decide) rfl (pa_cons (pe_ix ix_tup (pv 0) pe_int (fun _ _ => rfl)) pa_nil)))) (pw_or1 (pt_not (pt_chain op_le op_le pe_int (pe_ix ix_tup (pv 0) pe_int (fun _ _ => rfl)) (pe_glob (v := .int 4) rfl T.MOST_ARGS.choose_spec ⟨_, rfl⟩)))))) (pss_one (ps_ret pe_bl)) pss_nil)
  (pss_one (ps_ret (pe_cmpR op_notN (pe_c c_measured hr (by decide) rfl (pa_cons (pe_ix ix_tup (pv 0) pe_int (fun _ _ => rfl)) (pa_cons (pe_glob (v := .ref _) rfl g_bodies_in rfl) pa_nil))) pe_non (nomark _)))))), ?_⟩
    refine ⟨_, rfl, _, _, _, _, true, rfl, .ty _, .base (.tup hp), kit_ty (by decide +kernel),  true, rfl, iF rfl ?_⟩
    refine ⟨_, rfl, _, _, rfl, .inr (SqT.of hp), rfl, _, rfl, iF rfl ?_⟩
    refine ⟨_, rfl, p, _, _, _, rfl, rfl, SqT.of hp, rfl, nm, rfl, hn, fun H1 s1 => ⟨true, rfl, iF rfl ?_⟩⟩
    have hp := s1 _ _ hp
    refine ⟨_, rfl, p, _, _, _, rfl, rfl, SqT.of hp, rfl, _, rfl, true, rfl, iF rfl ?_⟩
    refine ⟨_, rfl, p, _, _, _, rfl, rfl, SqT.of hp, rfl, _, _, rfl, rfl, _, rfl, dT (by omega) ?_⟩
    refine ⟨_, _, rfl, rfl, _, rfl, iF (b := !decide _) (by rw [decide_eq_true (by omega)]; rfl) ?_⟩
    refine ⟨_, rfl, p, _, _, _, rfl, rfl, SqT.of hp, rfl, bv, fB, af, ac, _, _, rfl, g_bodies_in, hb.le (Same.le s1), by omega, fun H2 q s2 _ hq => ⟨rfl, ?_⟩⟩
    exact k _ (s1.trans s2)
def spIsCs : Sp := fun vs H Q _ => ∃ v af ac M nm, vs = [v] ∧ CsV af ac M H nm v ∧ ∀ H', Same H H' → Q (.bl true) H'
theorem c_is_case (T : Txt K mg) : Cal P w K mg base 6 "is_case" spIsCs := by
  have c_is_integer := c_is_integer (P := P) (w := w) (base := base) T
  have c_is_name := c_is_name (P := P) (w := w) (base := base) T
  have c_measured := c_measured (P := P) (w := w) (base := base) T
  obtain ⟨fB, _, _, _, g_bodies_in, _⟩ := (c_bodies_in (P := P) (w := w) (base := base) T).ex
  refine cal_of T.d_is_case sc_is_case (fun _ _ _ _ _ _ us hl => match us, hl with | [_], _ => rfl) (fun vs H Q E h => ?_) (fun f cdv A outer s H vs Q E hr h => ?_)
  · obtain ⟨v, _, _, _, _, rfl, _⟩ := h; rfl
  · obtain ⟨v, af, ac, M, nm, rfl, ⟨p, bv, rfl, hp, hn, ha, hb, hs, hd⟩, k⟩ := h
    have nd := sc_is_case.nd
    refine ⟨_, (pss_cons (ps_if (PW.pt (pw_or (pt_not (pt_val (pe_callB call_isi (by rfl) T.b_isinstance (by decide +kernel) (pa_cons (pv 0) (pa_cons (pe_bltn (v := .ty "tuple") (by rfl) T.b_tuple (by decide +kernel) rfl) pa_nil))))) (pw_or (pt_cmpR op_ne (pe_callB call_len_seq (by rfl) T.b_len PySem.boot_len (pa_cons (pv 0) pa_nil)) pe_int (nomark _)) (pw_or1 (pt_not (pt_val (pe_c c_is_name hr (by decide) rfl (pa_cons (pe_ix ix_tup (pv 0) pe_int (fun _ _ => rfl)) pa_nil)))))))) (pss_one (ps_ret pe_bl)) pss_nil)
  (pss_cons (ps_if (PW.pt (pw_or (pt_not (pt_val (pe_callB call_isi (by rfl) T.b_isinstance (by decide +kernel) (pa_cons (pe_ix ix_tup (pv 0) pe_int (fun _ _ => rfl)) (pa_cons (pe_bltn (v := .ty "str") (by rfl) T.b_str (by decide +kernel) rfl) pa_nil))))) (pw_or1 (pt_cmpR op_notIn_seq (pe_ix ix_tup (pv 0) pe_int (fun _ _ => rfl)) (pe_tup (pa_cons pe_str (pa_cons pe_str pa_nil))) (by rfl))))) (pss_one (ps_ret pe_bl)) pss_nil)
  (pss_cons (ps_if (PW.pt (pw_or (pt_not (pt_val (pe_c c_is_integer hr (by decide) rfl (pa_cons (pe_ix ix_tup (pv 0) pe_int (fun _ _ => rfl)) pa_nil)))) (pw_or1 (pt_not (pt_chain op_le op_le pe_int (pe_ix ix_tup (pv 0) pe_int (fun _ _ => rfl)) (pe_glob (v := .int 8000) rfl T.MOST_KEPT.choose_spec ⟨_, rfl⟩)))))) (pss_one (ps_ret pe_bl)) pss_nil)
  (pss_one (ps_ret (pe_cmpR op_notN (pe_c c_measured hr (by decide) rfl (pa_cons (pe_ix ix_tup (pv 0) pe_int (fun _ _ => rfl)) (pa_cons (pe_glob (v := .ref _) rfl g_bodies_in rfl) pa_nil))) pe_non (nomark _))))))), ?_⟩
    refine ⟨_, rfl, _, _, _, _, true, rfl, .ty _, .base (.tup hp), kit_ty (by decide +kernel),  true, rfl, iF rfl ?_⟩
    refine ⟨_, rfl, _, _, rfl, .inr (SqT.of hp), rfl, _, rfl, iF rfl ?_⟩
    refine ⟨_, rfl, p, _, _, _, rfl, rfl, SqT.of hp, rfl, nm, rfl, hn, fun H1 s1 => ⟨true, rfl, iF rfl ?_⟩⟩
    have hp := s1 _ _ hp
    refine ⟨_, rfl, p, _, _, _, rfl, rfl, SqT.of hp, rfl, _, _, _, _, true, rfl, .ty _, .base (.str _), kit_ty (by decide +kernel),  true, rfl, iF rfl ?_⟩
    refine ⟨_, rfl, p, _, _, _, rfl, rfl, SqT.of hp, rfl, by show 2 ≤ sizeLine; decide, fun t ht => ?_⟩
    refine ⟨t, _, rfl, .inr (SqT.of upd_same), rfl, rfl, _, rfl, iF (by cases M.kd nm <;> decide) ?_⟩
    have s1' := s1.trans (Same.upd (o := .tup [.str "back", .str "caught"]) ht)
    have hp := (Same.upd (o := .tup [.str "back", .str "caught"]) ht) _ _ hp
    generalize upd H1 t (.tup [.str "back", .str "caught"]) = H2 at s1' hp
    refine ⟨_, rfl, p, _, _, _, rfl, rfl, SqT.of hp, rfl, _, rfl, true, rfl, iF rfl ?_⟩
    refine ⟨_, rfl, p, _, _, _, rfl, rfl, SqT.of hp, rfl, _, _, rfl, rfl, _, rfl, dT (by omega) ?_⟩
    refine ⟨_, _, rfl, rfl, _, rfl, iF (b := !decide _) (by rw [decide_eq_true (by omega)]; rfl) ?_⟩
    refine ⟨_, rfl, p, _, _, _, rfl, rfl, SqT.of hp, rfl, bv, fB, af, ac, _, _, rfl, g_bodies_in, hb.le (Same.le s1'), by omega, fun H2 q s2 _ hq => ⟨rfl, ?_⟩⟩
    exact k _ (s1'.trans s2)
/-! ### pushed_in -/
theorem part_calls {b c : KM.Bd Str} (h : PartOf b c) : (∀ f ∈ c.calls, f ∈ b.calls) ∧ ∀ d ∈ c.pushes, d ∈ b.pushes := by
  induction h with
  | here => exact ⟨fun _ h => h, fun _ h => h⟩
  | @kid x y _ m ih =>
    refine ⟨fun f hf => ih.1 f ?_, fun f hf => ih.2 f ?_⟩
    all_goals
      cases x with
      | leaf _ => cases m
      | call _ => cases m
      | test y n =>
        simp only [kids, List.mem_cons, List.not_mem_nil, or_false] at m
        rcases m with rfl | rfl <;> simp [KM.Bd.calls, KM.Bd.pushes, hf]
      | push _ b =>
        simp only [kids, List.mem_cons, List.not_mem_nil, or_false] at m
        rcases m with rfl
        simp [KM.Bd.calls, KM.Bd.pushes, hf]
theorem PartOf.trans {x y u : KM.Bd Str} (h : PartOf x y) (g : PartOf y u) : PartOf x u := by
  induction g with
  | here => exact h
  | kid _ m ih => exact .kid ih m
theorem push_part : ∀ {b : KM.Bd Str} {c : Str}, c ∈ b.pushes → ∃ x, PartOf b (.push c x)
  | .leaf _, c, h => by cases h
  | .call _, c, h => by cases h
  | .test y n, c, h => by
    rcases List.mem_append.mp h with h | h
    · obtain ⟨x, q⟩ := push_part h
      exact ⟨x, PartOf.trans (.kid .here (by simp [kids])) q⟩
    · obtain ⟨x, q⟩ := push_part h
      exact ⟨x, PartOf.trans (.kid .here (by simp [kids])) q⟩
  | .push d b, c, h => by
    rcases List.mem_cons.mp h with rfl | h
    · exact ⟨b, .here⟩
    · obtain ⟨x, q⟩ := push_part h
      exact ⟨x, PartOf.trans (.kid .here (by simp [kids])) q⟩
/-- the word of a body -/
theorem BdV.word {af ac : Str → Nat} {sl : Nat} {H : Hp} {b : KM.Bd Str} {v : V} (h : BdV af ac sl H b v) : ∃ p w r, v = .ref p ∧ H p = some (.tup (.str w :: r)) ∧ ((∃ c x, b = .push c x ∧ w = "push" ∧ ∃ r', r = .str c :: r') ∨ ((∀ c x, b ≠ .push c x) ∧ w ≠ "push")) := by
  cases h with
  | ret h _ => exact ⟨_, _, _, rfl, h, .inr ⟨(fun _ _ z => nomatch z), by decide⟩⟩
  | rai h _ => exact ⟨_, _, _, rfl, h, .inr ⟨(fun _ _ z => nomatch z), by decide⟩⟩
  | ask _ _ h _ => exact ⟨_, _, _, rfl, h, .inr ⟨(fun _ _ z => nomatch z), by decide⟩⟩
  | call _ _ h _ => exact ⟨_, _, _, rfl, h, .inr ⟨(fun _ _ z => nomatch z), by decide⟩⟩
  | test _ _ h _ _ _ => exact ⟨_, _, _, rfl, h, .inr ⟨(fun _ _ z => nomatch z), by decide⟩⟩
  | push _ _ h _ _ => exact ⟨_, _, _, rfl, h, .inl ⟨_, _, rfl, rfl, _, rfl⟩⟩
def spPushed : Sp := fun vs H Q _ => ∃ v af ac sl b, vs = [v] ∧ BdV af ac sl H b v ∧ b.size ≤ 2000 ∧ ∀ (H' : Hp) (q : Addr) (ns : List Str), Same H H' → H q = none → H' q = some (.lst (ns.map V.str)) → (∀ c, c ∈ ns ↔ c ∈ b.pushes) → ns.length ≤ 2000 → Q (.ref q) H'
theorem c_pushed_in (T : Txt K mg) : Cal P w K mg base 6 "pushed_in" spPushed := by
  have c_walk := c_walk (P := P) (w := w) (base := base) T
  obtain ⟨fB, _, _, _, g_bodies_in, _⟩ := (c_bodies_in (P := P) (w := w) (base := base) T).ex
  refine cal_of T.d_pushed_in sc_pushed_in (fun _ _ _ _ _ _ us hl => match us, hl with | [_], _ => rfl) (fun vs H Q E h => ?_) (fun f cdv A outer s H vs Q E hr h => ?_)
  · obtain ⟨v, _, _, _, _, rfl, _⟩ := h; rfl
  · obtain ⟨v, af, ac, sl, b, rfl, hb, hs, k⟩ := h
    have nd := sc_pushed_in.nd
    refine ⟨_, (pss_one (ps_ret (pe_lc (own := [("part", 1)]) rfl nd (pi_list (pe_c c_walk hr (by decide) rfl (pa_cons (pv 0) (pa_cons (pe_glob (v := .ref _) rfl g_bodies_in rfl) pa_nil)))) (blkOk_by (N := N_pushed_in) (sc := defScope s_pushed_in) (by decide +kernel)) (fun _ _ _ _ _ => (pg_name (i := 1) nd rfl (Or.inl rfl))) (fun _ _ _ _ _ => pts_one (pt_cmpR op_eq (pe_ix (ixK (K := K) rfl ix_tup) (pv 1) pe_int (fun _ _ => rfl)) pe_str (nomark _))) (fun _ _ _ _ _ => (pe_ix (ixK (K := K) rfl ix_tup) (pv 1) pe_int (fun _ _ => rfl)))))), ?_⟩
    refine ⟨_, rfl, v, fB, af, ac, sl, b, rfl, g_bodies_in, hb, hs, fun H1 q L ws s1 hq hws pw hL hl => ⟨q, rfl, ⟨_, SqL.of hws⟩, fun D hD => ?_⟩⟩
    have hz : 2000 ≤ sizeLine := by decide
    have wl : ws.length = L.length := pw.length.symm
    refine lc_it walk_list (fun i H' => Same H1 H' ∧ ∃ ns : List Str, H' D = some (.lst (ns.map V.str)) ∧ ns.length ≤ i ∧ ∀ c, c ∈ ns ↔ ∃ x, KM.Bd.push c x ∈ L.take i) ⟨Same.upd hD, [], upd_same, Nat.le_refl _, by simp⟩ (fun i H' _ p => SqL.of (p.1 _ _ hws)) (fun i x H2 H3 hi p y => ?_) (fun H2 p => ?_)
    · obtain ⟨rfl, hx⟩ := y
      obtain ⟨s2, ns, hd, hn, hm⟩ := p
      obtain ⟨c, hc, hcv⟩ := paired_at pw hx
      have tk : L.take (i + 1) = L.take i ++ [c] := by rw [List.take_add_one, hc]; rfl
      obtain ⟨p, w, r, rfl, hp, hw⟩ := (hcv.le (Same.le s2)).word
      have i0 : atI (.str w :: r) (0 : Int) = some (.str w) := atI_nat (j := 0) rfl
      refine ⟨rfl, _, rfl, p, _, _, _, rfl, rfl, SqT.of hp, i0, rfl, _, rfl, ?_⟩
      rcases hw with ⟨d, x, rfl, rfl, r', rfl⟩ | ⟨hne, hw⟩
      · refine dT rfl ?_
        have i1 : atI (.str "push" :: .str d :: r') (1 : Int) = some (.str d) := atI_nat (j := 1) rfl
        refine ⟨_, rfl, p, _, _, _, rfl, rfl, SqT.of hp, i1, _, hd, by rw [List.length_map]; omega, ?_⟩
        refine ⟨Same.put s2 hD, ns ++ [d], by rw [upd_same, List.map_append]; rfl, by simp; omega, fun c => ?_⟩
        rw [tk]
        simp only [List.mem_append, List.mem_singleton, hm c]
        constructor
        · rintro (⟨x', q⟩ | rfl)
          · exact ⟨x', .inl q⟩
          · exact ⟨x, .inr rfl⟩
        · rintro ⟨x', q | q⟩
          · exact .inl ⟨x', q⟩
          · injection q with q1 _; exact .inr q1
      · refine dF (fun z => hw (by injection z)) ?_
        refine ⟨s2, ns, hd, by omega, fun c' => ?_⟩
        rw [tk, hm c']
        constructor
        · rintro ⟨x', q⟩; exact ⟨x', List.mem_append_left _ q⟩
        · rintro ⟨x', q⟩
          rcases List.mem_append.mp q with q | q
          · exact ⟨x', q⟩
          · exact absurd (List.mem_singleton.mp q).symm (hne c' x')
    · obtain ⟨s2, ns, hd, hn, hm⟩ := p
      refine k _ _ ns (s1.trans s2) (s1.free hD) hd (fun c => ?_) (by omega)
      rw [hm c, wl, List.take_length]
      constructor
      · rintro ⟨x, q⟩; exact (part_calls ((hL _).mp q)).2 c (by simp [KM.Bd.pushes])
      · intro q
        obtain ⟨x, q⟩ := push_part q
        exact ⟨x, (hL _).mpr q⟩
end
end K52

namespace K52
open PySem PySem.Spec PyProof.Rows L2
theorem tcall1 {sp : Sp} {x : V} {σ : L2.St} {H : Hp} {Q : VK} (h : sp [x] H Q E0) : tNil σ H (fun xs H2 => (fun vs H1 => sp (vs ++ []) H1 Q E0) (x :: xs) H2) := h
/-- a statement with several ends, and what follows it -/
theorem seqM {t u : TS} {D : Ends} {σ : L2.St} {H : Hp} (M : L2.St → Hp → Prop) (inner : ∀ σ' H', M σ' H' → u D σ' H') (first : (∀ σ' H', M σ' H' → u D σ' H') → t { D with nx := u D } σ H) : tSeq t u D σ H := first inner
section
variable {P : Program} {w : World} {K : PySem.W.Frag} {mg : Str → Option Value} {base : Heap}
def spTwice : Sp := fun vs H Q _ => ∃ a, ∃ ns : List Str, vs = [.ref a] ∧ SqL K H a (ns.map V.str) ∧ ns.Nodup ∧ ns.length ≤ 100 ∧ ∀ H', Same H H' → Q .non H'
theorem c_first_twice (T : Txt K mg) : Cal P w K mg base 1 "first_twice" (spTwice (K := K)) := by
  refine cal_of T.d_first_twice sc_first_twice (fun _ _ _ _ _ _ us hl => match us, hl with | [_], _ => rfl) (fun vs H Q E h => ?_) (fun f cdv A outer s H vs Q E hr h => ?_)
  · obtain ⟨v, _, rfl, _⟩ := h; rfl
  · obtain ⟨a, ns, rfl, ha, hn, hl, k⟩ := h
    have nd := sc_first_twice.nd
    refine ⟨_, (pss_cons (ps_set (i := 1) nd rfl (Or.inl rfl) (pe_callTy0 cr_set0K (by rfl) T.b_set (by decide +kernel)))
  (pss_cons (ps_for PassesOwn.never rfl (pi_list (pv 0)) (pg_name (i := 2) nd rfl (Or.inl rfl)) (pss_cons (ps_if (pt_cmpR or_sinK (pv 2) (pv 1) (by rfl)) (pss_one (ps_ret (pv 2))) pss_nil)
  (pss_one (ps_expr (pe_saddK (pv 1) (pa_cons (pv 2) pa_nil))))))
  (pss_one (ps_ret pe_non)))), ?_⟩
    refine ⟨rfl, fun D hD => ?_⟩
    refine ⟨_, rfl, a, rfl, ⟨_, SqL.ext ha (Same.upd hD)⟩, ?_⟩
    refine for_it walk_list (fun i σ H' => (∃ p, σ = [some (.ref a), some (.ref D), p]) ∧ Same H H' ∧ ∃ S, H' D = some (SetK P w D S i) ∧ ∀ x : Str, S (.inr x) = true ↔ x ∈ ns.take i) ⟨⟨_, rfl⟩, Same.upd hD, _, upd_same, by simp⟩ (fun i σ H' _ p => SqL.ext ha p.2.1) (fun i x σ H1 H2 hi p y => ?_) (fun σ H1 p => ?_)
    · obtain ⟨rfl, hx⟩ := y
      obtain ⟨⟨p, rfl⟩, s1, S, hS, hm⟩ := p
      rw [List.getElem?_map] at hx
      obtain ⟨x, hx', rfl⟩ := Option.map_eq_some_iff.mp hx
      clear hx
      have hx := hx'
      clear hx'
      have hi' : i < ns.length := by rw [List.length_map] at hi; exact hi
      have tk : ns.take (i + 1) = ns.take i ++ [x] := by rw [List.take_add_one, hx]; rfl
      have nx : S (.inr x) = false := by
        cases e : S (.inr x) with
        | false => rfl
        | true =>
          have m := (hm x).mp e
          obtain ⟨j, hj, ej⟩ := List.mem_iff_getElem.mp m
          have hj2 : j < i := by rw [List.length_take] at hj; omega
          rw [List.getElem_take] at ej
          have ei : ns[i] = x := by rw [List.getElem?_eq_getElem hi'] at hx; exact Option.some.inj hx
          have := (List.getElem_inj hn).mp (ej.trans ei.symm)
          omega
      refine ⟨_, rfl, _, rfl, .inr x, D, S, i, rfl, rfl, hS, _, rfl, ?_⟩
      refine iF (by rw [if_neg Bool.false_ne_true]; exact nx) ?_
      refine ⟨_, rfl, ⟨D, S, i, rfl, hS⟩, _, rfl, D, .inr x, S, i, rfl, rfl, hS, by show i + 1 < 4096; omega, ?_⟩
      rw [nx, if_neg Bool.false_ne_true]
      refine ⟨⟨_, rfl⟩, Same.put s1 hD, _, upd_same, fun y => ?_⟩
      rw [tk]
      simp only [Bool.or_eq_true, decide_eq_true_eq, hm y, List.mem_append, List.mem_singleton]
      constructor
      · rintro (q | q)
        · exact .inl q
        · injection q with q; exact .inr q
      · rintro (q | q)
        · exact .inl q
        · exact .inr (by rw [q])
    · exact k _ p.2.1
/-! ### look_body -/
/-- a dict that tells a number for names -/
def NumD (H : Hp) (d : Addr) (n : Str → Nat) (names : List Str) : Prop := ∃ kvs, H d = some (.dK kvs) ∧ DRel names (fun x v => v = .int (n x : Nat)) kvs
theorem NumD.same {H H' : Hp} {d : Addr} {n : Str → Nat} {names : List Str} (s : Same H H') (h : NumD H d n names) : NumD H' d n names := by
  obtain ⟨k, h1, h2⟩ := h
  exact ⟨k, s _ _ h1, h2⟩
/-- the atoms of a body, and what its word is -/
theorem BdV.look {af ac : Str → Nat} {sl : Nat} {H : Hp} {b : KM.Bd Str} {v : V} (h : BdV af ac sl H b v) : ∃ p w y r, v = .ref p ∧ H p = some (.tup (.str w :: y :: r)) ∧
    (((w = "return" ∨ w = "raise") ∧ r = [] ∧ AtV sl H y) ∨
     (w ≠ "return" ∧ w ≠ "raise" ∧ ∃ nm q n r', y = .str nm ∧ r = .ref q :: r' ∧ AtsV sl n H (.ref q) ∧ ((w = "call" ∧ b = .call nm ∧ n = af nm) ∨ (w = "push" ∧ (∃ x, b = .push nm x) ∧ n = ac nm) ∨ (w ≠ "call" ∧ w ≠ "push")))) := by
  cases h with
  | ret h a => exact ⟨_, _, _, _, rfl, h, .inl ⟨.inl rfl, rfl, a⟩⟩
  | rai h a => exact ⟨_, _, _, _, rfl, h, .inl ⟨.inr rfl, rfl, a⟩⟩
  | ask _ _ h a => exact ⟨_, _, _, _, rfl, h, .inr ⟨by decide, by decide, _, _, _, _, rfl, rfl, a, .inr (.inr ⟨by decide, by decide⟩)⟩⟩
  | call _ _ h a => exact ⟨_, _, _, _, rfl, h, .inr ⟨by decide, by decide, _, _, _, _, rfl, rfl, a, .inl ⟨rfl, rfl, rfl⟩⟩⟩
  | test _ _ h a _ _ => exact ⟨_, _, _, _, rfl, h, .inr ⟨by decide, by decide, _, _, _, _, rfl, rfl, a, .inr (.inr ⟨by decide, by decide⟩)⟩⟩
  | push _ _ h a _ => exact ⟨_, _, _, _, rfl, h, .inr ⟨by decide, by decide, _, _, _, _, rfl, rfl, a, .inr (.inl ⟨rfl, ⟨_, rfl⟩, rfl⟩)⟩⟩
def spLook : Sp := fun vs H Q _ => ∃ v dA dN af ac, ∃ sl : Nat, ∃ b fs cs, vs = [v, .int (sl : Nat), .ref dA, .ref dN] ∧ BdV af ac sl H b v ∧ b.size ≤ 2000 ∧ NumD H dA af fs ∧ NumD H dN ac cs ∧ (∀ f ∈ b.calls, f ∈ fs) ∧ (∀ c ∈ b.pushes, c ∈ cs) ∧ ∀ H', Same H H' → Q .non H'
theorem c_look_body (T : Txt K mg) : Cal P w K mg base 6 "look_body" spLook := by
  have c_walk := c_walk (P := P) (w := w) (base := base) T
  have c_atoms_of := c_atoms_of (P := P) (w := w) (base := base) T
  obtain ⟨fB, _, _, _, g_bodies_in, _⟩ := (c_bodies_in (P := P) (w := w) (base := base) T).ex
  refine cal_of T.d_look_body sc_look_body (fun _ _ _ _ _ _ us hl => match us, hl with | [_, _, _, _], _ => rfl) (fun vs H Q E h => ?_) (fun f cdv A outer s H vs Q E hr h => ?_)
  · obtain ⟨v, _, _, _, _, _, _, _, _, rfl, _⟩ := h; rfl
  · obtain ⟨v, dA, dN, af, ac, sl, b, fs, cs, rfl, hb, hs, hA, hN, hcf, hcp, k⟩ := h
    have nd := sc_look_body.nd
    have hu := hu_of hr
    refine ⟨_, (pss_one (ps_for PassesOwn.never rfl (pi_list (pe_c c_walk hr (by decide) rfl (pa_cons (pv 0) (pa_cons (pe_glob (v := .ref _) rfl g_bodies_in rfl) pa_nil)))) (pg_name (i := 4) nd rfl (Or.inl rfl)) (pss_cons (ps_if (PW.pt (pw_or (pt_cmpR op_eq (pe_ix ix_tup (pv 4) pe_int (fun _ _ => rfl)) pe_str (nomark _)) (pw_or1 (pt_cmpR op_eq (pe_ix ix_tup (pv 4) pe_int (fun _ _ => rfl)) pe_str (nomark _))))) (pss_cons (ps_set (i := 5) nd rfl (Or.inl rfl) (pe_ifExp (pt_cmpR op_eq (pe_ix ix_tup (pv 4) pe_int (fun _ _ => rfl)) pe_str (nomark _)) (pv 2) (pv 3)))
  (pss_cons (ps_if (pt_cmp (pc_dnotin hu (pe_ix ix_tup (pv 4) pe_int (fun _ _ => rfl)) (pv 5))) (pss_one ps_never) pss_nil)
  (pss_one (ps_if (pt_cmpR op_ne (pe_dget hu (pv 5) (pe_ix ix_tup (pv 4) pe_int (fun _ _ => rfl)) (fun _ _ => rfl)) (pe_callB call_len_seq (by rfl) T.b_len PySem.boot_len (pa_cons (pe_ix ix_tup (pv 4) pe_int (fun _ _ => rfl)) pa_nil)) (nomark _)) (pss_one ps_never) pss_nil)))) pss_nil)
  (pss_one (ps_for PassesOwn.never rfl (pi_tup (pe_c c_atoms_of hr (by decide) rfl (pa_cons (pv 4) pa_nil))) (pg_name (i := 6) nd rfl (Or.inl rfl)) (pss_one (ps_if (PW.pt (pw_and (pt_cmpR op_eq (pe_ix ix_tup (pv 6) pe_int (fun _ _ => rfl)) pe_str (nomark _)) (pw_and1 (pt_cmpR op_ge (pe_ix ix_tup (pv 6) pe_int (fun _ _ => rfl)) (pv 1) (nomark _))))) (pss_one ps_never) pss_nil))))))), ?_⟩
    refine ⟨_, rfl, v, fB, af, ac, sl, b, rfl, g_bodies_in, hb, hs, fun H1 q L ws s1 hq hws pw hL hl => ⟨q, rfl, ⟨_, SqL.of hws⟩, ?_⟩⟩
    refine for_it walk_list (fun i σ H' => (∃ p4 p5 p6, σ = [some v, some (.int (sl : Nat)), some (.ref dA), some (.ref dN), p4, p5, p6]) ∧ Same H1 H') ⟨⟨_, _, _, rfl⟩, Same.refl _⟩ (fun i σ H' _ p => SqL.of (p.2 _ _ hws)) (fun i x σ H2 H3 hi p y => ?_) (fun σ H2 p => k _ (s1.trans p.2))
    obtain ⟨rfl, hx⟩ := y
    obtain ⟨⟨p4, p5, p6, rfl⟩, s2⟩ := p
    obtain ⟨c, hc, hcv⟩ := paired_at pw hx
    have hP : PartOf b c := (hL c).mp (List.mem_of_getElem? hc)
    have s12 := s1.trans s2
    have hA := NumD.same s12 hA
    have hN := NumD.same s12 hN
    obtain ⟨p, wd, y, r, rfl, hp, hw⟩ := (hcv.le (Same.le s2)).look
    have i0 : atI (.str wd :: y :: r) (0 : Int) = some (.str wd) := atI_nat (j := 0) rfl
    have i1 : atI (.str wd :: y :: r) (1 : Int) = some y := atI_nat (j := 1) rfl
    refine seqM (fun σ' H' => ∃ p5, σ' = [some v, some (.int (sl : Nat)), some (.ref dA), some (.ref dN), some (.ref p), p5, p6] ∧ H' = H3) (fun σ' H' ⟨p5, e1, e2⟩ => ?_) (fun nx => ?_)
    · subst e1 e2
      have atoms : ∀ Q' : VK, (∀ H4 q xs, Same H' H4 → H4 q = some (.tup xs) → (∀ x ∈ xs, AtV sl H4 x) → Q' (.ref q) H4) → spAtomsOf [.ref p] H' Q' E0 := fun Q' kq => by
        rcases hw with ⟨hw, rfl, ha⟩ | ⟨w1, w2, nm, q, n, r', rfl, rfl, ⟨q', xs, e, hq, _, ha⟩, _⟩
        · exact ⟨p, 0, _, rfl, hp, .inl ⟨wd, y, rfl, hw, fun H4 u s4 hu => kq H4 u _ s4 hu fun x m => by rw [List.mem_singleton.mp m]; exact ha.le (Same.le s4)⟩⟩
        · cases e
          exact ⟨p, q, _, rfl, hp, .inr ⟨wd, _, r', rfl, w1, w2, kq H' q xs (Same.refl _) hq ha⟩⟩
      refine ⟨_, rfl, ?_⟩
      refine tcall1 (atoms _ fun H4 q xs s4 hq ha => ⟨q, rfl, ⟨_, SqT.of hq⟩, ?_⟩)
      refine for_it walk_tup (fun i σ H5 => (∃ p6, σ = [some v, some (.int (sl : Nat)), some (.ref dA), some (.ref dN), some (.ref p), p5, p6]) ∧ H5 = H4) ⟨⟨_, rfl⟩, rfl⟩ (fun i σ H5 _ p => by rw [p.2]; exact SqT.of hq) (fun i x σ H5 H6 hi pp y => ?_) (fun σ H5 pp => ?_)
      · obtain ⟨rfl, hx⟩ := y
        obtain ⟨⟨p7, rfl⟩, rfl⟩ := pp
        obtain ⟨a, rfl, ha⟩ := ha x (List.mem_of_getElem? hx)
        rcases ha with ⟨j, hj, ha⟩ | ⟨j, _, _, ha⟩
        · refine ⟨_, rfl, a, _, _, _, rfl, rfl, SqT.of ha, rfl, rfl, _, rfl, dT rfl ?_⟩
          refine ⟨_, rfl, a, _, _, _, rfl, rfl, SqT.of ha, rfl, _, rfl, _, _, rfl, rfl, _, rfl, dF (by omega) ?_⟩
          exact ⟨⟨_, rfl⟩, rfl⟩
        · refine ⟨_, rfl, a, _, _, _, rfl, rfl, SqT.of ha, rfl, rfl, _, rfl, dF (by decide) ?_⟩
          exact ⟨⟨_, rfl⟩, rfl⟩
      · obtain ⟨⟨p7, rfl⟩, rfl⟩ := pp
        exact ⟨⟨_, _, _, rfl⟩, s2.trans s4⟩
    · rcases hw with ⟨hw, rfl, ha⟩ | ⟨w1, w2, nm, q, n, r', rfl, rfl, ha, hw⟩
      · refine ⟨_, rfl, p, _, _, _, rfl, rfl, SqT.of hp, i0, rfl, _, rfl, dF (fun z => by injection z with z; subst z; rcases hw with h | h <;> revert h <;> decide) ?_⟩
        refine ⟨_, rfl, p, _, _, _, rfl, rfl, SqT.of hp, i0, rfl, _, rfl, dF (fun z => by injection z with z; subst z; rcases hw with h | h <;> revert h <;> decide) ?_⟩
        exact nx _ _ ⟨_, rfl, rfl⟩
      · obtain ⟨q', xs, e, hq, hl, ha⟩ := ha
        cases e
        have i2 : atI (.str wd :: .str nm :: .ref q :: r') (2 : Int) = some (.ref q) := atI_nat (j := 2) rfl
        -- the check, by the dict d
        have chk : ∀ (d : Addr) (num : Str → Nat) (names : List Str), NumD H3 d num names → nm ∈ names → n = num nm → ∃ kvs, H3 d = some (.dK kvs) ∧ valV kvs (Sum.inr nm) = some (.int (num nm : Nat)) := fun d num names h m _ => by
          obtain ⟨kvs, h1, h2⟩ := h
          obtain ⟨u, e1, e2⟩ := h2.val m
          exact ⟨kvs, h1, by rw [e1, e2]⟩
        rcases hw with ⟨rfl, rfl, rfl⟩ | ⟨rfl, ⟨x, rfl⟩, rfl⟩ | ⟨h1, h2⟩
        · obtain ⟨kvs, hd, hv⟩ := chk dA af fs hA (hcf nm ((part_calls hP).1 nm (by simp [KM.Bd.calls]))) rfl
          refine ⟨_, rfl, p, _, _, _, rfl, rfl, SqT.of hp, i0, rfl, _, rfl, dT rfl ?_⟩
          refine ⟨_, rfl, p, _, _, _, rfl, rfl, SqT.of hp, i0, rfl, _, rfl, dT rfl ⟨_, rfl, ?_⟩⟩
          refine ⟨_, rfl, p, _, _, _, rfl, rfl, SqT.of hp, i1, _, rfl, dA, _, rfl, DGet.k (k := Sum.inr nm) hd, ?_⟩
          rw [hv]
          refine ⟨_, rfl, iF rfl ?_⟩
          refine ⟨_, rfl, _, rfl, p, _, _, _, rfl, rfl, SqT.of hp, i1, dA, _, rfl, by rw [← hv]; exact DGet.k (k := Sum.inr nm) hd, ?_⟩
          refine ⟨_, rfl, p, _, _, _, rfl, rfl, SqT.of hp, i2, _, _, rfl, .inr (SqT.of hq), rfl, _, rfl, ?_⟩
          refine iF (by rw [hl]; simp) ?_
          exact nx _ _ ⟨_, rfl, rfl⟩
        · obtain ⟨kvs, hd, hv⟩ := chk dN ac cs hN (hcp nm ((part_calls hP).2 nm (by simp [KM.Bd.pushes]))) rfl
          refine ⟨_, rfl, p, _, _, _, rfl, rfl, SqT.of hp, i0, rfl, _, rfl, dF (by decide) ?_⟩
          refine ⟨_, rfl, p, _, _, _, rfl, rfl, SqT.of hp, i0, rfl, _, rfl, dT rfl ?_⟩
          refine ⟨_, rfl, p, _, _, _, rfl, rfl, SqT.of hp, i0, rfl, _, rfl, dF (by decide) ⟨_, rfl, ?_⟩⟩
          refine ⟨_, rfl, p, _, _, _, rfl, rfl, SqT.of hp, i1, _, rfl, dN, _, rfl, DGet.k (k := Sum.inr nm) hd, ?_⟩
          rw [hv]
          refine ⟨_, rfl, iF rfl ?_⟩
          refine ⟨_, rfl, _, rfl, p, _, _, _, rfl, rfl, SqT.of hp, i1, dN, _, rfl, by rw [← hv]; exact DGet.k (k := Sum.inr nm) hd, ?_⟩
          refine ⟨_, rfl, p, _, _, _, rfl, rfl, SqT.of hp, i2, _, _, rfl, .inr (SqT.of hq), rfl, _, rfl, ?_⟩
          refine iF (by rw [hl]; simp) ?_
          exact nx _ _ ⟨_, rfl, rfl⟩
        · refine ⟨_, rfl, p, _, _, _, rfl, rfl, SqT.of hp, i0, rfl, _, rfl, dF (fun z => h1 (by injection z)) ?_⟩
          refine ⟨_, rfl, p, _, _, _, rfl, rfl, SqT.of hp, i0, rfl, _, rfl, dF (fun z => h2 (by injection z)) ?_⟩
          exact nx _ _ ⟨_, rfl, rfl⟩
end
end K52

namespace K52
open PySem PySem.Spec PyProof.Rows L2
theorem lock_same {H H' : Hp} {d : Addr} {od : Obj} {u : HO} (hd : H d = some u) (s : Same (upd H d (.frz od u)) H') : Same H (upd H' d u) := fun b o e => by
  by_cases q : b = d
  · subst q; rw [upd_same]; rw [hd] at e; exact e
  · rw [upd_ne q]; exact s b o (by rw [upd_ne q]; exact e)
theorem lenK {X : Cx} {K : PySem.W.Frag} (h : X.K = K) : CallR X (.builtin "len") (fun xs H Q => ∃ p ys, xs = [.ref p] ∧ (SqL K H p ys ∨ SqT K H p ys) ∧ Q (.int ys.length) H) := by subst h; exact call_len_seq
theorem lock_at {H H' : Hp} {d : Addr} {od : Obj} {u : HO} (s : Same (upd H d (.frz od u)) H') : H' d = some (.frz od u) := s _ _ upd_same
theorem dgetS {H : Hp} {a : Addr} {kvs : List (Key × V)} {x : Str} {v : V} (h : Rd H a (.dK kvs)) (e : valV kvs (Sum.inr x) = some v) : DGet H a (.str x) (some v) := .inl ⟨kvs, Sum.inr x, h, rfl, e.symm⟩
theorem DRel.key {names : List Str} {R : Str → V → Prop} {kvs : List (Key × V)} (h : DRel names R kvs) {i : Nat} {k : Key} {v : V} (e : kvs[i]? = some (k, v)) : ∃ x, names[i]? = some x ∧ k = Sum.inr x ∧ R x v := by
  have e1 : (kvs.map (·.1))[i]? = some k := by rw [List.getElem?_map, e]; rfl
  rw [h.1, List.getElem?_map] at e1
  obtain ⟨x, e2, e3⟩ := Option.map_eq_some_iff.mp e1
  refine ⟨x, e2, e3.symm, h.2 x v ?_⟩
  rw [e3]
  exact List.mem_of_getElem? e
theorem len_sub {α : Type} [DecidableEq α] : ∀ {R cs : List α}, R.Nodup → (∀ x ∈ R, x ∈ cs) → R.length ≤ cs.length
  | [], _, _, _ => Nat.zero_le _
  | a :: R, cs, h, hs => by
    obtain ⟨na, h⟩ := List.nodup_cons.mp h
    have ha := hs a List.mem_cons_self
    have := len_sub (R := R) (cs := cs.erase a) h fun x hx => (List.mem_erase_of_ne (fun e => na (by rw [← e]; exact hx))).mpr (hs x (List.mem_cons_of_mem _ hx))
    rw [List.length_erase_of_mem ha] at this
    have := List.length_pos_of_mem ha
    rw [List.length_cons]; omega
theorem lock_mono {H H' : Hp} {d : Addr} {o : HO} (s : Same H H') : Same (upd H d o) (upd H' d o) := fun b u e => by
  by_cases q : b = d
  · subst q; rw [upd_same] at *; exact e
  · rw [upd_ne q] at *; exact s b u e
section
variable {P : Program} {w : World} {K : PySem.W.Frag} {mg : Str → Option Value} {base : Heap}
/-- what stands at the names -/
def LsD (H : Hp) (ls : Str → List Str) (x : Str) (v : V) : Prop := ∃ p, v = .ref p ∧ H p = some (.lst ((ls x).map V.str))
def spOrdered : Sp := fun vs H Q _ => ∃ d kvs, ∃ cs : List Str, ∃ ls : Str → List Str, vs = [.ref d] ∧ H d = some (.dK kvs) ∧ DRel cs (LsD H ls) kvs ∧ cs.Nodup ∧ (∀ x, (ls x).Nodup) ∧ (∀ x ∈ cs, ∀ t ∈ ls x, t ∈ cs) ∧ cs.length ≤ 100 ∧
  ∀ H' q (R : List Str) W at_, Same H H' → H q = none → H' q = some (.lst (R.map V.str)) → KM.OrdI cs ls W R at_ → R.length ≤ at_ → Q (.ref q) H'
theorem c_ordered (T : Txt K mg) : Cal P w K mg base 1 "ordered" spOrdered := by
  refine cal_of T.d_ordered sc_ordered (fun _ _ _ _ _ _ us hl => match us, hl with | [_], _ => rfl) (fun vs H Q E h => ?_) (fun f cdv A outer s H vs Q E hr h => ?_)
  · obtain ⟨v, _, _, _, rfl, _⟩ := h; rfl
  · obtain ⟨d, kvs, cs, ls, rfl, hd, hk, ncs, nls, cl, hz, k⟩ := h
    have nd := sc_ordered.nd
    have hu := hu_of hr
    have hz' : 200 ≤ sizeLine := by decide
    refine ⟨_, (pss_cons (ps_lock (ps_setDc (i := 2) (own := [("name", 1)]) rfl nd rfl rfl (swd_true rfl rfl rfl (by decide +kernel)) (pi_keys (pv 0)) (blkOk_by (N := N_ordered) (sc := defScope s_ordered) (by decide +kernel)) (fun _ _ _ _ _ => (pg_name (i := 1) nd rfl (Or.inl rfl))) (fun _ _ _ _ _ => pts_nil) (fun _ _ _ _ _ => (pv 1)) (fun _ _ _ _ _ => (pe_lst pa_nil))))
  (pss_cons (ps_lock (ps_setDc (i := 3) (own := [("name", 1)]) rfl nd rfl rfl (swd_true rfl rfl rfl (by decide +kernel)) (pi_keys (pv 0)) (blkOk_by (N := N_ordered) (sc := defScope s_ordered) (by decide +kernel)) (fun _ _ _ _ _ => (pg_name (i := 1) nd rfl (Or.inl rfl))) (fun _ _ _ _ _ => pts_nil) (fun _ _ _ _ _ => (pv 1)) (fun _ _ _ _ _ => (pe_callB (lenK (K := K) rfl) (by rfl) T.b_len PySem.boot_len (pa_cons (pe_dget hu (pv 0) (pv 1) (fun _ _ => rfl)) pa_nil)))))
  (pss_cons (ps_lock (ps_for PassesOwn.never rfl (pi_keys (pv 0)) (pg_name (i := 1) nd rfl (Or.inl rfl)) (pss_one (ps_for PassesOwn.never rfl (pi_list (pe_dget hu (pv 0) (pv 1) (fun _ _ => rfl))) (pg_name (i := 4) nd rfl (Or.inl rfl)) (pss_one (ps_expr (pe_bm PySem.F.plainAttrs_list PySem.F.slot_list_append PySem.F.type_list_append mt_append (pe_dget hu (pv 2) (pv 4) (fun _ _ => rfl)) (pa_cons (pv 1) pa_nil))))))))
  (pss_cons (ps_lock (ps_setLc (i := 5) (own := [("name", 1)]) rfl nd rfl rfl (sw_true rfl rfl rfl (by decide +kernel)) (pi_keys (pv 0)) (blkOk_by (N := N_ordered) (sc := defScope s_ordered) (by decide +kernel)) (fun _ _ _ _ _ => (pg_name (i := 1) nd rfl (Or.inl rfl))) (fun _ _ _ _ _ => pts_one (pt_cmpR (opK (K := K) rfl (op_eqNil hr)) (pe_dget hu (pv 0) (pv 1) (fun _ _ => rfl)) (pe_lst pa_nil) (nomark _))) (fun _ _ _ _ _ => (pv 1))))
  (pss_cons (ps_set (i := 6) nd rfl (Or.inl rfl) pe_int)
  (pss_cons (ps_while PassesOwn.never (pt_cmpR op_lt (pv 6) (pe_callB call_len_seq (by rfl) T.b_len PySem.boot_len (pa_cons (pv 5) pa_nil)) (nomark _)) (pss_cons (ps_for PassesOwn.never rfl (pi_list (pe_dget hu (pv 2) (pe_ix ix_list (pv 5) (pv 6) (fun _ _ => rfl)) (fun _ _ => rfl))) (pg_name (i := 7) nd rfl (Or.inl rfl)) (pss_cons (ps_daug hu (pv 3) (pv 7) pe_int in_sub (fun _ _ _ => rfl))
  (pss_one (ps_if (pt_cmpR op_eq (pe_dget hu (pv 3) (pv 7) (fun _ _ => rfl)) pe_int (nomark _)) (pss_one (ps_expr (pe_bm PySem.F.plainAttrs_list PySem.F.slot_list_append PySem.F.type_list_append mt_append (pv 5) (pa_cons (pv 7) pa_nil)))) pss_nil))))
  (pss_one (ps_aug (i := 6) nd rfl (Or.inl rfl) pe_int ip_add))))
  (pss_one (ps_ret (pv 5))))))))), ?_⟩
    have kl := hk.length
    -- users
    refine ⟨d, _, hd, trivial, fun od => ⟨_, rfl, d, od, rfl, .inl ⟨kvs, upd_same, fun D hD => ?_⟩⟩⟩
    have hDd : D ≠ d := fun e => by rw [e, upd_same] at hD; cases hD
    have hDH : H D = none := by rw [upd_ne hDd] at hD; exact hD
    refine dc_it walk_keys (fun i H' => Same (upd H d (.frz od (.dK kvs))) H' ∧ ∃ (k : List (Key × V)) (uA : Str → Addr), H' D = some (.dK k) ∧ DRel (cs.take i) (fun x v => v = .ref (uA x)) k ∧ (∀ x ∈ cs.take i, ∀ y ∈ cs.take i, uA x = uA y → x = y) ∧ ∀ x ∈ cs.take i, H' (uA x) = some (.lst []) ∧ H (uA x) = none)
      ⟨Same.upd hD, [], fun _ => 0, upd_same, by rw [List.take_zero]; exact DRel.nil, by simp, by simp⟩ (fun i H' _ p => lock_at p.1) (fun i x H1 H2 hi p y => ?_) (fun H1 p => ?_)
    · obtain ⟨rfl, ky, vv, hkv, rfl⟩ := y
      obtain ⟨x, hx, rfl, _⟩ := hk.key hkv
      obtain ⟨s1, k1, uA, h1, h2, h3, h4⟩ := p
      refine ⟨rfl, _, rfl, by decide, fun a ha => ⟨k1, .inr x, rfl, by rw [upd_ne (ne_of_none h1 ha)]; exact h1, by rw [h2.length, List.length_take]; omega, ?_⟩⟩
      have haD : a ≠ D := (ne_of_none h1 ha).symm
      have haH : H a = none := by
        have := s1.free ha
        by_cases q : a = d
        · rw [q, upd_same] at this; cases this
        · rw [upd_ne q] at this; exact this
      have tk : cs.take (i + 1) = cs.take i ++ [x] := by rw [List.take_add_one, hx]; rfl
      have nx : x ∉ cs.take i := fun m => by
        obtain ⟨j, hj, ej⟩ := List.mem_iff_getElem.mp m
        have hj2 : j < i := by rw [List.length_take] at hj; omega
        rw [List.getElem_take] at ej
        obtain ⟨hi1, ei⟩ := List.getElem?_eq_some_iff.mp hx
        have := (List.getElem_inj ncs).mp (ej.trans ei.symm)
        omega
      have nu : ∀ u ∈ cs.take i, u ≠ x := fun u hu q => nx (by rw [← q]; exact hu)
      refine ⟨Same.put (s1.trans (Same.upd ha)) (by rw [upd_ne hDd]; exact hDH), _, KM.up uA x a, upd_same, ?_, ?_, ?_⟩
      · rw [tk]
        exact h2.new nx (fun y u hy e => by rw [e, KM.up_ne (nu _ hy)]) (by rw [KM.up_same])
      · rw [tk]
        intro y hy z hz e
        have na : ∀ u ∈ cs.take i, uA u ≠ a := fun u hu q => by rw [← q, (h4 u hu).1] at ha; cases ha
        rcases List.mem_append.mp hy with hy | hy <;> rcases List.mem_append.mp hz with hz | hz
        · rw [KM.up_ne (nu _ hy), KM.up_ne (nu _ hz)] at e; exact h3 y hy z hz e
        · rw [List.mem_singleton.mp hz, KM.up_same, KM.up_ne (nu _ hy)] at e; exact absurd e (na y hy)
        · rw [List.mem_singleton.mp hy, KM.up_same, KM.up_ne (nu _ hz)] at e; exact absurd e.symm (na z hz)
        · rw [List.mem_singleton.mp hy, List.mem_singleton.mp hz]
      · rw [tk]
        intro y hy
        rcases List.mem_append.mp hy with hy | hy
        · rw [KM.up_ne (nu _ hy)]
          have := (h4 y hy).1
          rw [upd_ne (ne_of this h1 (by intro z; cases z)), upd_ne (ne_of_none this ha)]
          exact h4 y hy
        · rw [List.mem_singleton.mp hy, KM.up_same, upd_ne haD]
          exact ⟨upd_same, haH⟩
    obtain ⟨s1, kU, uA, h1, h2, h3, h4⟩ := p
    rw [List.take_of_length_le (by omega)] at h2 h3 h4
    refine ⟨lock_at s1, ?_⟩
    have S1 : Same H (upd H1 d (.dK kvs)) := lock_same hd s1
    have u1 : (upd H1 d (.dK kvs)) D = some (.dK kU) := by rw [upd_ne hDd]; exact h1
    have ud : ∀ x ∈ cs, uA x ≠ d := fun x hx q => by have h := (h4 x hx).2; rw [q, hd] at h; cases h
    have u2 : ∀ x ∈ cs, (upd H1 d (.dK kvs)) (uA x) = some (.lst (([] : List Str).map V.str)) := fun x hx => by rw [upd_ne (ud x hx)]; exact (h4 x hx).1
    have u3 : ∀ x ∈ cs, H (uA x) = none := fun x hx => (h4 x hx).2
    generalize upd H1 d (.dK kvs) = H2 at S1 u1 u2
    clear s1 h1 h4 H1
    -- waits
    refine ⟨d, _, S1 _ _ hd, trivial, fun od => ⟨_, rfl, d, od, rfl, .inl ⟨kvs, upd_same, fun E' hE => ?_⟩⟩⟩
    have hEd : E' ≠ d := fun e => by rw [e, upd_same] at hE; cases hE
    have hE2 : H2 E' = none := by rw [upd_ne hEd] at hE; exact hE
    have hEH : H E' = none := S1.free hE2
    have leads : ∀ {H' : Hp}, Same H H' → ∀ x ∈ cs, ∃ v p, valV kvs (Sum.inr x) = some v ∧ v = .ref p ∧ H p = some (.lst ((ls x).map V.str)) ∧ H' p = some (.lst ((ls x).map V.str)) := fun s x hx => by
      obtain ⟨v, e1, p, e2, e3⟩ := hk.val hx
      exact ⟨v, p, e1, e2, e3, s _ _ e3⟩
    refine dc_map walk_keys (names := cs) kl.symm ncs hE (fun H' s => lock_at s) (by omega) (fun x v _ => v = .int ((ls x).length : Nat)) (fun _ _ _ _ _ _ _ q => q) (fun i H x H' _ y => by rw [y.1]; exact Same.refl _) (fun i nm x H3 H4 Q' hnm s y kq => ?_) (fun H3 kW s h1 hW => ?_)
    · obtain ⟨rfl, ky, vv, hkv, rfl⟩ := y
      obtain ⟨x, hx, rfl, _⟩ := hk.key hkv
      rw [hnm] at hx; cases hx
      have S4 : Same H (upd H4 d (.dK kvs)) := lock_same hd ((lock_mono S1).trans s)
      obtain ⟨v, p, e1, rfl, e3, e4⟩ := leads S4 nm (List.mem_of_getElem? hnm)
      have pd : p ≠ d := ne_of e3 hd (by intro z; cases z)
      rw [upd_ne pd] at e4
      refine ⟨rfl, _, rfl, _, rfl, _, rfl, d, _, rfl, dgetS (.inr ⟨od, lock_at s⟩) e1, p, _, rfl, .inl (SqL.of e4), ?_⟩
      exact kq _ _ (Same.refl _) (by rw [List.length_map])
    refine ⟨lock_at s, ?_⟩
    have S3 : Same H (upd H3 d (.dK kvs)) := lock_same hd ((lock_mono S1).trans s)
    have v1 : (upd H3 d (.dK kvs)) D = some (.dK kU) := by rw [upd_ne hDd]; exact s _ _ (by rw [upd_ne hDd]; exact u1)
    have v2 : ∀ x ∈ cs, (upd H3 d (.dK kvs)) (uA x) = some (.lst (([] : List Str).map V.str)) := fun x hx => by rw [upd_ne (ud x hx)]; exact s _ _ (by rw [upd_ne (ud x hx)]; exact u2 x hx)
    have v3 : (upd H3 d (.dK kvs)) E' = some (.dK kW) := by rw [upd_ne hEd]; exact h1
    have hED : E' ≠ D := fun e => by rw [e, u1] at hE2; cases hE2
    generalize upd H3 d (.dK kvs) = H4 at S3 v1 v2 v3
    clear s h1 S1 u1 u2 H3 hE
    -- who uses whom
    refine ⟨d, _, S3 _ _ hd, trivial, fun od => ⟨_, rfl, d, od, rfl, .inl ⟨kvs, upd_same, ?_⟩⟩⟩
    let US : Hp → (Str → List Str) → Prop := fun H' U => H' D = some (.dK kU) ∧ H' E' = some (.dK kW) ∧ ∀ x ∈ cs, H' (uA x) = some (.lst ((U x).map V.str))
    refine for_it walk_keys (fun i σ H' => (∃ p1 p4 p5 p6 p7, σ = [some (.ref d), p1, some (.ref D), some (.ref E'), p4, p5, p6, p7]) ∧ Same (upd H d (.frz od (.dK kvs))) H' ∧ ∃ U, US H' U ∧ ∀ t ∈ cs, (U t).Nodup ∧ ∀ x, x ∈ U t ↔ x ∈ cs.take i ∧ t ∈ ls x)
      ⟨⟨_, _, _, _, _, rfl⟩, lock_mono S3, fun _ => [], ⟨by rw [upd_ne hDd]; exact v1, by rw [upd_ne hEd]; exact v3, fun x hx => by rw [upd_ne (ud x hx)]; exact v2 x hx⟩, fun t _ => ⟨List.nodup_nil, by simp⟩⟩ (fun i σ H' _ p => lock_at p.2.1) (fun i x σ H5 H6 hi p y => ?_) (fun σ H5 p => ?_)
    · obtain ⟨rfl, ky, vv, hkv, rfl⟩ := y
      obtain ⟨x, hx, rfl, _⟩ := hk.key hkv
      obtain ⟨⟨p1, p4, p5, p6, p7, rfl⟩, s5, U, ⟨w1, w2, w3⟩, hU⟩ := p
      have hxc : x ∈ cs := List.mem_of_getElem? hx
      have tk : cs.take (i + 1) = cs.take i ++ [x] := by rw [List.take_add_one, hx]; rfl
      have nx : x ∉ cs.take i := fun m => by
        obtain ⟨j, hj, ej⟩ := List.mem_iff_getElem.mp m
        have hj2 : j < i := by rw [List.length_take] at hj; omega
        rw [List.getElem_take] at ej
        obtain ⟨hi1, ei⟩ := List.getElem?_eq_some_iff.mp hx
        have := (List.getElem_inj ncs).mp (ej.trans ei.symm)
        omega
      obtain ⟨v, p, e1, rfl, e3, e4⟩ := leads (lock_same hd s5) x hxc
      have pd : p ≠ d := ne_of e3 hd (by intro z; cases z)
      have pu : ∀ y ∈ cs, uA y ≠ p := fun y hy q => by have := u3 y hy; rw [q, e3] at this; cases this
      rw [upd_ne pd] at e4
      refine ⟨_, rfl, _, rfl, d, _, rfl, dgetS (.inr ⟨od, lock_at s5⟩) e1, p, rfl, ⟨_, SqL.of e4⟩, ?_⟩
      refine for_it walk_list (fun j σ H' => (∃ p4 p5 p6 p7, σ = [some (.ref d), some (.str x), some (.ref D), some (.ref E'), p4, p5, p6, p7]) ∧ Same (upd H d (.frz od (.dK kvs))) H' ∧ ∃ U, US H' U ∧ ∀ t ∈ cs, (U t).Nodup ∧ ∀ y, y ∈ U t ↔ (y ∈ cs.take i ∧ t ∈ ls y) ∨ (y = x ∧ t ∈ (ls x).take j))
        ⟨⟨_, _, _, _, rfl⟩, s5, U, ⟨w1, w2, w3⟩, fun t ht => ⟨(hU t ht).1, fun y => by rw [(hU t ht).2 y]; simp⟩⟩ (fun j σ H' _ q => SqL.of (q.2.1 _ _ (by rw [upd_ne pd]; exact e3))) (fun j x' σ H7 H8 hj q y => ?_) (fun σ H7 q => ?_)
      · obtain ⟨rfl, hx'⟩ := y
        rw [List.getElem?_map] at hx'
        obtain ⟨t, ht, rfl⟩ := Option.map_eq_some_iff.mp hx'
        clear hx'
        obtain ⟨⟨p4, p5, p6, p7, rfl⟩, s7, U, ⟨w1, w2, w3⟩, hU⟩ := q
        have htc : t ∈ cs := cl x hxc t (List.mem_of_getElem? ht)
        have tkj : (ls x).take (j + 1) = (ls x).take j ++ [t] := by rw [List.take_add_one, ht]; rfl
        have nt : t ∉ (ls x).take j := fun m => by
          obtain ⟨j2, hj2, ej⟩ := List.mem_iff_getElem.mp m
          have hj3 : j2 < j := by rw [List.length_take] at hj2; omega
          rw [List.getElem_take] at ej
          obtain ⟨hi1, ei⟩ := List.getElem?_eq_some_iff.mp ht
          have := (List.getElem_inj (nls x)).mp (ej.trans ei.symm)
          omega
        obtain ⟨u, eu, rfl⟩ := h2.val htc
        have hin : ∀ y, y ∈ U t → y ∈ cs := fun y hy => by
          rcases ((hU t htc).2 y).mp hy with ⟨q, _⟩ | ⟨rfl, _⟩
          · exact List.mem_of_mem_take q
          · exact hxc
        have hlen := len_sub (hU t htc).1 hin
        have nxU : x ∉ U t := fun m => by
          rcases ((hU t htc).2 x).mp m with ⟨q, _⟩ | ⟨_, q⟩
          · exact nx q
          · exact nt q
        refine ⟨_, rfl, _, rfl, D, _, rfl, dgetS (.inl w1) eu, .inl ⟨rfl, _, .inl (.inl (w3 t htc))⟩, _, rfl, uA t, _, .str x, rfl, rfl, w3 t htc, by rw [List.length_map]; omega, ?_⟩
        refine ⟨⟨_, _, _, _, rfl⟩, Same.put s7 (by rw [upd_ne (ud t htc)]; exact u3 t htc), KM.up U t (U t ++ [x]), ⟨by rw [upd_ne (ne_of w1 (w3 t htc) (by intro z; cases z))]; exact w1, by rw [upd_ne (ne_of w2 (w3 t htc) (by intro z; cases z))]; exact w2, fun y hy => ?_⟩, fun y hy => ?_⟩
        · by_cases q : y = t
          · subst q; rw [KM.up_same, upd_same, List.map_append]; rfl
          · rw [KM.up_ne q, upd_ne fun z => q (h3 y hy t htc z)]; exact w3 y hy
        · by_cases q : y = t
          · subst q
            rw [KM.up_same]
            refine ⟨List.nodup_append.mpr ⟨(hU y hy).1, by simp, fun a ha b hb => by rw [List.mem_singleton.mp hb]; exact fun z => nxU (by rw [← z]; exact ha)⟩, fun z => ?_⟩
            rw [List.mem_append, (hU y hy).2 z, tkj, List.mem_append, List.mem_singleton, List.mem_singleton]
            constructor
            · rintro ((z1 | ⟨z1, z2⟩) | z1)
              · exact .inl z1
              · exact .inr ⟨z1, .inl z2⟩
              · exact .inr ⟨z1, .inr rfl⟩
            · rintro (z1 | ⟨z1, z2⟩)
              · exact .inl (.inl z1)
              · exact .inr z1
          · rw [KM.up_ne q]
            refine ⟨(hU y hy).1, fun z => ?_⟩
            rw [(hU y hy).2 z, tkj, List.mem_append, List.mem_singleton]
            simp [q]
      · obtain ⟨⟨p4, p5, p6, p7, rfl⟩, s7, U, hUS, hU⟩ := q
        refine ⟨⟨_, _, _, _, _, rfl⟩, s7, U, hUS, fun t ht => ⟨(hU t ht).1, fun y => ?_⟩⟩
        rw [(hU t ht).2 y, tk, List.length_map, List.take_length, List.mem_append, List.mem_singleton]
        constructor
        · rintro (⟨z1, z2⟩ | ⟨z1, z2⟩)
          · exact ⟨.inl z1, z2⟩
          · exact ⟨.inr z1, by rw [z1]; exact z2⟩
        · rintro ⟨z1 | z1, z2⟩
          · exact .inl ⟨z1, z2⟩
          · exact .inr ⟨z1, by rw [← z1]; exact z2⟩
    obtain ⟨⟨p1, p4, p5, p6, p7, rfl⟩, s5, U, ⟨w1, w2, w3⟩, hU⟩ := p
    rw [List.take_of_length_le (by omega)] at hU
    refine ⟨lock_at s5, ?_⟩
    have S5 : Same H (upd H5 d (.dK kvs)) := lock_same hd s5
    have x1 : (upd H5 d (.dK kvs)) D = some (.dK kU) := by rw [upd_ne hDd]; exact w1
    have x2 : (upd H5 d (.dK kvs)) E' = some (.dK kW) := by rw [upd_ne hEd]; exact w2
    have x3 : ∀ x ∈ cs, (upd H5 d (.dK kvs)) (uA x) = some (.lst ((U x).map V.str)) := fun x hx => by rw [upd_ne (ud x hx)]; exact w3 x hx
    generalize upd H5 d (.dK kvs) = H6 at S5 x1 x2 x3
    clear s5 w1 w2 w3 H5 v1 v2 v3 S3 H4
    -- ready
    refine ⟨d, _, S5 _ _ hd, trivial, fun od => ⟨_, rfl, d, od, rfl, .inl ⟨kvs, upd_same, fun F hF => ?_⟩⟩⟩
    have hFd : F ≠ d := fun e => by rw [e, upd_same] at hF; cases hF
    have hF6 : H6 F = none := by rw [upd_ne hFd] at hF; exact hF
    have hFH : H F = none := S5.free hF6
    refine lc_it walk_keys (fun i H' => Same (upd H6 d (.frz od (.dK kvs))) H' ∧ H' F = some (.lst (((cs.take i).filter fun x => decide (ls x = [])).map V.str))) ⟨Same.upd hF, by rw [upd_same]; simp⟩ (fun i H' _ p => lock_at p.1) (fun i x H7 H8 hi p y => ?_) (fun H7 p => ?_)
    · obtain ⟨rfl, ky, vv, hkv, rfl⟩ := y
      obtain ⟨x, hx, rfl, _⟩ := hk.key hkv
      obtain ⟨s7, h7⟩ := p
      have tk : cs.take (i + 1) = cs.take i ++ [x] := by rw [List.take_add_one, hx]; rfl
      obtain ⟨v, p, e1, rfl, e3, e4⟩ := leads (lock_same hd ((lock_mono S5).trans s7)) x (List.mem_of_getElem? hx)
      have pd : p ≠ d := ne_of e3 hd (by intro z; cases z)
      rw [upd_ne pd] at e4
      refine ⟨rfl, _, rfl, _, rfl, d, _, rfl, dgetS (.inr ⟨od, lock_at s7⟩) e1, by decide, fun q hq => ⟨p, q, _, rfl, rfl, SqL.of (by rw [upd_ne (ne_of_none e4 hq)]; exact e4), SqL.of upd_same, _, rfl, ?_⟩⟩
      have s8 := s7.trans (Same.upd (o := .lst []) hq)
      have h8 := (Same.upd (o := .lst []) hq) _ _ h7
      cases e : ls x with
      | nil =>
        refine iT rfl ⟨_, rfl, _, h8, ?_, Same.put s8 hF, ?_⟩
        · rw [List.length_map]
          have := List.length_filter_le (fun x => decide (ls x = [])) (cs.take i)
          rw [List.length_take] at this
          omega
        · rw [upd_same, tk, List.filter_append, List.map_append]
          simp [e]
          rfl
      | cons a b =>
        refine iF rfl ⟨s8, ?_⟩
        rw [h8, tk, List.filter_append, List.map_append]
        simp [e]
    obtain ⟨s7, h7⟩ := p
    rw [List.take_of_length_le (by omega)] at h7
    refine ⟨lock_at s7, ?_⟩
    have S7 : Same H (upd H7 d (.dK kvs)) := lock_same hd ((lock_mono S5).trans s7)
    have y1 : (upd H7 d (.dK kvs)) D = some (.dK kU) := by rw [upd_ne hDd]; exact s7 _ _ (by rw [upd_ne hDd]; exact x1)
    have y2 : (upd H7 d (.dK kvs)) E' = some (.dK kW) := by rw [upd_ne hEd]; exact s7 _ _ (by rw [upd_ne hEd]; exact x2)
    have y3 : ∀ x ∈ cs, (upd H7 d (.dK kvs)) (uA x) = some (.lst ((U x).map V.str)) := fun x hx => by rw [upd_ne (ud x hx)]; exact s7 _ _ (by rw [upd_ne (ud x hx)]; exact x3 x hx)
    have y4 : (upd H7 d (.dK kvs)) F = some (.lst ((cs.filter fun x => decide (ls x = [])).map V.str)) := by rw [upd_ne hFd]; exact h7
    have hFU : ∀ x ∈ cs, uA x ≠ F := fun x hx z => by have := x3 x hx; rw [z, hF6] at this; cases this
    generalize upd H7 d (.dK kvs) = H8 at S7 y1 y2 y3 y4
    clear s7 h7 H7 x1 x2 x3 S5 hF hF6 H6
    -- the pile
    let I : Nat → L2.St → Hp → Prop := fun m σ H' => ∃ p1 p4 p7, ∃ W : Str → Nat, ∃ R : List Str, ∃ at_ : Nat, ∃ kw, σ = [some (.ref d), p1, some (.ref D), some (.ref E'), p4, some (.ref F), some (.int (at_ : Nat)), p7] ∧ Same H H' ∧ H' D = some (.dK kU) ∧ (∀ x ∈ cs, H' (uA x) = some (.lst ((U x).map V.str))) ∧
      H' E' = some (.dK kw) ∧ DRel cs (fun x v => v = .int (W x : Nat)) kw ∧ H' F = some (.lst (R.map V.str)) ∧ KM.OrdI cs ls W R at_ ∧ at_ ≤ R.length ∧ m = cs.length - at_
    refine ⟨I, ⟨cs.length, _, _, _, fun x => (ls x).length, cs.filter fun x => decide (ls x = []), 0, kW, rfl, S7, y1, y3, y2, hW, y4, KM.OrdI.start (fun _ _ => rfl) ncs, Nat.zero_le _, by omega⟩, ?_⟩
    rintro m σ Ha ⟨p1, p4, p7, W, R, at_, kw, rfl, sa, a1, a2, a3, a4, a5, oi, hat, rfl⟩
    have hRl := len_sub oi.nd oi.sub
    refine ⟨_, rfl, _, rfl, F, _, rfl, .inl (SqL.of a5), _, _, rfl, rfl, _, rfl, ?_⟩
    rw [List.length_map]
    by_cases hlt : at_ < R.length
    · refine dT (by omega) ⟨fun σ' H' => ∃ m', m' < cs.length - at_ ∧ I m' σ' H', fun _ _ h => h, ?_⟩
      have ht : R[at_]? = some R[at_] := List.getElem?_eq_getElem hlt
      generalize R[at_] = t at ht
      have htc : t ∈ cs := oi.sub t (List.mem_of_getElem? ht)
      obtain ⟨u, eu, rfl⟩ := h2.val htc
      have hP := KM.take_at ht
      refine ⟨_, rfl, _, rfl, _, rfl, F, _, _, .str t, rfl, rfl, SqL.of a5, atI_nat (by rw [List.getElem?_map, ht]; rfl), D, _, rfl, dgetS (.inl a1) eu, uA t, rfl, ⟨_, SqL.of (a2 t htc)⟩, ?_⟩
      have hmem : ∀ y, y ∈ U t ↔ y ∈ cs ∧ t ∈ ls y := (hU t htc).2
      refine for_it walk_list (fun j σ H' => (∃ p1 p4 p7, σ = [some (.ref d), p1, some (.ref D), some (.ref E'), p4, some (.ref F), some (.int (at_ : Nat)), p7]) ∧ Same H H' ∧ H' D = some (.dK kU) ∧ (∀ x ∈ cs, H' (uA x) = some (.lst ((U x).map V.str))) ∧
        ∃ (W' : Str → Nat) (R' : List Str) (kw' : List (Key × V)), H' E' = some (.dK kw') ∧ DRel cs (fun x v => v = .int (W' x : Nat)) kw' ∧ H' F = some (.lst (R'.map V.str)) ∧ KM.OrdJ cs ls (R.take (at_ + 1)) (U t) at_ j W' R')
        ⟨⟨_, _, _, rfl⟩, sa, a1, a2, W, R, kw, a3, a4, a5, oi.open_ ht⟩ (fun j σ H' _ q => SqL.of (q.2.2.2.1 t htc)) (fun j x' σ Hb Hc hj q y => ?_) (fun σ Hb q => ?_)
      · obtain ⟨rfl, hx'⟩ := y
        rw [List.getElem?_map] at hx'
        obtain ⟨x, hx, rfl⟩ := Option.map_eq_some_iff.mp hx'
        clear hx'
        obtain ⟨⟨p1, p4, p7, rfl⟩, sb, b1, b2, W', R', kw', b3, b4, b5, J⟩ := q
        have hxc : x ∈ cs := ((hmem x).mp (List.mem_of_getElem? hx)).1
        have hP' : R.take (at_ + 1) = (R.take (at_ + 1)).take at_ ++ [t] := by rw [List.take_take, show min at_ (at_ + 1) = at_ by omega]; exact hP
        obtain ⟨w1, J'⟩ := J.step hP' nls (hU t htc).1 hmem hx
        have hR' := len_sub J.nd J.sub
        obtain ⟨v, ev, rfl⟩ := b4.val hxc
        have hn : ((W' x : Nat) : Int) - 1 = ((W' x - 1 : Nat) : Int) := by omega
        refine ⟨_, rfl, _, rfl, E', _, rfl, dgetS (.inl b3) ev, _, _, rfl, rfl, _, DPut.k (k := Sum.inr x) b3 (by rw [b4.length]; omega), ?_⟩
        rw [hn]
        have d1 : DRel cs (fun y v => v = .int ((if y = x then W' x - 1 else W' y : Nat) : Nat)) (putK kw' (Sum.inr x) (.int ((W' x - 1 : Nat) : Int))) := b4.put hxc (fun y u _ hy e => by rw [e, if_neg hy]) (by rw [if_pos rfl])
        obtain ⟨v2, ev2, rfl⟩ := d1.val hxc
        have ne1 : E' ≠ F := ne_of b3 b5 (by intro z; cases z)
        have c3 : (upd Hc E' (.dK (putK kw' (Sum.inr x) (.int ((W' x - 1 : Nat) : Int))))) E' = some (.dK (putK kw' (Sum.inr x) (.int ((W' x - 1 : Nat) : Int)))) := upd_same
        refine ⟨_, rfl, _, rfl, E', _, rfl, dgetS (.inl c3) ev2, rfl, _, rfl, ?_⟩
        have sc : Same H (upd Hc E' (.dK (putK kw' (Sum.inr x) (.int ((W' x - 1 : Nat) : Int))))) := Same.put sb hEH
        have c1 : (upd Hc E' (.dK (putK kw' (Sum.inr x) (.int ((W' x - 1 : Nat) : Int))))) D = some (.dK kU) := by rw [upd_ne hED.symm]; exact b1
        have c2 : ∀ y ∈ cs, (upd Hc E' (.dK (putK kw' (Sum.inr x) (.int ((W' x - 1 : Nat) : Int))))) (uA y) = some (.lst ((U y).map V.str)) := fun y hy => by rw [upd_ne (ne_of (b2 y hy) b3 (by intro z; cases z))]; exact b2 y hy
        have c5 : (upd Hc E' (.dK (putK kw' (Sum.inr x) (.int ((W' x - 1 : Nat) : Int))))) F = some (.lst (R'.map V.str)) := by rw [upd_ne ne1.symm]; exact b5
        generalize (upd Hc E' (.dK (putK kw' (Sum.inr x) (.int ((W' x - 1 : Nat) : Int))))) = Hd at c1 c2 c3 c5 sc
        by_cases hw : W' x - 1 = 0
        · rw [if_pos hw] at J'
          refine dT (by rw [if_pos rfl, hw]; rfl) ⟨_, rfl, .inl ⟨rfl, _, .inl (.inl c5)⟩, _, rfl, F, _, _, rfl, rfl, c5, by rw [List.length_map]; omega, ?_⟩
          refine ⟨⟨_, _, _, rfl⟩, Same.put sc hFH, by rw [upd_ne (ne_of c1 c5 (by intro z; cases z))]; exact c1, fun y hy => by rw [upd_ne (hFU y hy)]; exact c2 y hy, _, _, _, by rw [upd_ne ne1]; exact c3, d1, ?_, J'⟩
          rw [upd_same, List.map_append]; rfl
        · rw [if_neg hw] at J'
          refine dF (fun z => hw (by rw [if_pos rfl] at z; injection z with z; omega)) ?_
          exact ⟨⟨_, _, _, rfl⟩, sc, c1, c2, _, _, _, c3, d1, c5, J'⟩
      · obtain ⟨⟨p1, p4, p7, rfl⟩, sb, b1, b2, W', R', kw', b3, b4, b5, J⟩ := q
        have hP' : R.take (at_ + 1) = (R.take (at_ + 1)).take at_ ++ [t] := by rw [List.take_take, show min at_ (at_ + 1) = at_ by omega]; exact hP
        rw [List.length_map] at J
        have J1 := J.close hP' hmem
        have hR' : at_ + 1 ≤ R'.length := by
          have h1 := congrArg List.length J.pre
          rw [List.length_take, List.length_take] at h1
          omega
        refine ⟨_, rfl, _, _, rfl, rfl, ?_⟩
        exact ⟨cs.length - (at_ + 1), by omega, _, _, _, W', R', at_ + 1, kw', rfl, sb, b1, b2, b3, b4, b5, J1, hR', rfl⟩
    · refine dF (by omega) ⟨_, rfl, ?_⟩
      exact k _ _ R W at_ sa hFH a5 oi (by omega)
end
end K52

namespace K52
open PySem PySem.Spec PyProof.Rows L2
section
variable {X : Cx} {CX : CXT} {k : Nat} {C p g f : Addr} {fd : FuncData} {ps : List Str} {mc : Value} {sp : Sp} {E : XK} {o e : Expr} {es : List Expr} {m x : Str} {i : Nat} {pos apos px : Pos} {ta : TE} {t : TA} {pl : Sem Bool}
theorem run_fnC {pins : List (Addr × Obj)} {σ : L2.St} {H : Hp} {s : Shared} {Q : VK} {us : List Value} {vs : List V} (F : FnOk X.prog X.w X.K X.mg X.base CX k f fd ps sp) (hr : Room k X.A) (hb : Binds X.K fd ps []) (hx : Passes CX X E) (I : Inv X pins σ H s) (r : Vals vs us) (h : sp vs H Q E) :
    codeAny (model X.prog X.w) X.A (.call (.ref f) ⟨us, []⟩) (wants (EP X pins σ Q) X.xe) s := by
  have hl : (us ++ []).length = ps.length := by rw [List.append_nil, ← r.length]; exact F.len _ _ _ _ h
  have r2 : Vals vs (us ++ []) := by rw [List.append_nil]; exact r
  refine codeAny_mono (F.run X.A X.stack s H ⟨us, []⟩ (us ++ []) vs Q E hr I.env0 (hb s us I.kIn hl) r2 h) fun r s' hq => ?_
  cases r with
  | error e => exact hx pins σ H s e s' I hq
  | ok fl =>
    cases fl with
    | ret u => exact I.after hq
    | next => exact False.elim hq
    | brk => exact False.elim hq
    | cont => exact False.elim hq
/-- C.m(), m a classmethod -/
theorem pe_cmeth0 (he : PE X o ta) (r : ClX.CRead X.K C mc) (c : ClX.CMet X.K C mc m p g) (F : FnOk X.prog X.w X.K X.mg X.base CX k g fd ps sp) (hb : Binds X.K fd ps []) (hr : Room k X.A) (hx : Passes CX X E)
    (ht : eval (.Call (.Attribute o m apos) [] [] pos) X.env = (do
      let ov ← eval o X.env
      standAt apos.atName
      let (f, first) ← holding [ov] (getMethod ov m pl)
      callWith pos f first (backTo pos (starEach [] X.env)) (backToKw pos (keywordEach [] X.env))) := by rfl) :
    PE X (.Call (.Attribute o m apos) [] [] pos) (fun σ H Q => ta σ H fun x H1 => x = .ref C ∧ sp [.ref C] H1 Q E) := by
  refine ⟨fun pins s σ H Q I h => ?_⟩
  refine PySem.W.methodCall_KW (pl := pl) (thn (he.run pins s σ H _ I h) fun u s1 ⟨x, H1, I1, rx, ex, q⟩ => ?_) ht
  subst ex
  cases rx
  refine ClX.getmethcm_ok I1 r c fun s2 I2 => ?_
  refine PySem.W.callWith_M0 ⟨ClX.pin_at I2, I2.kIn⟩ c.fi ?_
  have z : wpAny (model X.prog X.w) X.A (call (.ref s1.heap.objs.size) []) (EP X ((s1.heap.objs.size, PySem.W.methodObj (.ref g) (.ref C)) :: pins) σ Q) X.xe s2 :=
    wpAny_call (PySem.W.method_call (ClX.pin_at I2) (run_fnC (us := [.ref C]) (vs := [.ref C]) F hr hb hx I2 (.cons rfl .nil) q))
  exact thn z fun _ _ y => ClX.unpinE y
/-- c(..), the local c holds the class at C -/
theorem pe_makeL (M : Mk X.K C f) (F : FnOk X.prog X.w X.K X.mg X.base CX k f fd ps sp) (hr : Room (k + 1) X.A) (hN : X.N[i]? = some x) (hv : Vis X.env.scope x) (hb : Binds X.K fd ps []) (hx : Passes CX X E) (ha : PA X (e :: es) t)
    (hdb : (x == ("__debug__" : Str)) = false := by decide) (hcd : (x == ("__classdict__" : Str)) = false := by decide)
    (he : starEach (e :: es) X.env = (false, eval e X.env) :: starEach es X.env := by rfl) (hpl : (backTo pos (starEach es X.env)).any (·.1) = false := by rfl) :
    PE X (.Call (.Name x px) (e :: es) [] pos) (fun σ H Q => σ[i]? = some (some (.ref C)) ∧ tMake C sp [] E t σ H Q) := by
  refine ⟨fun pins s σ H Q I h => ?_⟩
  obtain ⟨hs, h2⟩ := h
  refine wpAny_Call_Name_kw (thn ((pe_var (pos := px) hN hv hdb hcd).run pins s σ H (fun v H1 => v = .ref C ∧ H1 = H) I ⟨.ref C, hs, rfl, rfl⟩) fun u s1 ⟨v, H1, I1, r1, q1⟩ => ?_)
  obtain ⟨rfl, rfl⟩ := q1
  cases r1
  refine PySem.W.callWith_K (h₀ := X.base) I.ok.mod.kin M.kp (thn (ha.run pos pins s1 σ _ _ I1 h2) fun us s2 ⟨vs, H2, I2, r, q⟩ => ⟨I2.kIn, ?_⟩) he hpl
  exact run_make M F hr hb .nil hx I2 r q
end
end K52

namespace K52
open PySem PySem.Spec PyProof.Rows L2
/-- a method with its promise -/
structure Met (P : Program) (w : World) (K : PySem.W.Frag) (mg : Str → Option Value) (base : Heap) (k : Nat) (C : Addr) (m : Str) (sp : Sp) : Prop where
  ex : ∃ fd ps, FnOk P w K mg base CX0 k (He.ma K C m) fd ps sp ∧ Binds K fd ps []
  at_ : PySem.W.findIn K (.ref C) m = some (some (.ref (He.ma K C m)))
  fn : PySem.W.isFn K (.ref (He.ma K C m)) = true
section
variable {P : Program} {w : World} {K : PySem.W.Frag} {mg : Str → Option Value} {base : Heap}
theorem met_of {C : Addr} {m qual : Str} {st : Stmt} {N ps : List Str} {k : Nat} {sp : Sp} (D : DefM K C m qual st) (S : FnScope N ps (defScope st))
    (bb : ∀ (kV doc pm : Value) (an : Option Addr) (cdv ct : Value) (us : List Value), us.length = ps.length → bindArgs (PySem.W.fnOf m qual (defArgs st) (defBody st) (defScope st) .none kV doc pm an cdv ct) ⟨us, []⟩ = pure (ps.zip us))
    (len : ∀ vs H Q E, sp vs H Q E → vs.length = ps.length)
    (hbody : ∀ (f : Addr) (cdv : Value) (A : Around) (outer : List Env) (s : Shared) (H : Hp) (vs : List V) (Q : VK) (E : XK), Room k (A.deeper (envOfC qual (defScope st) s.heap.objs.size f cdv)) → sp vs H Q E →
      ∃ t, PSs (cxOf CX0 P w K mg base N qual (defScope st) f cdv A outer s H E).nox (defBody st) t ∧ t { nx := fun _ H' => Q .non H', rt := Q } (start N vs) H) : Met P w K mg base (k + 1) C m sp := by
  obtain ⟨fd, F⟩ := D.ex
  refine ⟨⟨fd, ps, F.ok S len fun cdv A outer s H vs Q E hr h => ?_, F.bindsN fun kV doc pm an cdv ct us hl => bb kV doc pm an cdv ct us hl⟩, D.at_, D.fn⟩
  obtain ⟨t, h1, h2⟩ := hbody _ cdv A outer s H vs Q E hr h
  exact ⟨t, h1.nox, h2⟩
def spBits : Sp := fun vs H Q _ => ∃ t, ∃ b : List Bool, vs = [.ref t] ∧ H t = some (.tup (b.map bV)) ∧ b.length ≤ 1000 ∧ ∀ H', Same H H' → Q (.bl true) H'
theorem c_are_bits (T : Txt K mg) : Cal P w K mg base 2 "are_bits" spBits := by
  have c_is_integer := c_is_integer (P := P) (w := w) (base := base) T
  refine cal_of T.d_are_bits sc_are_bits (fun _ _ _ _ _ _ us hl => match us, hl with | [_], _ => rfl) (fun vs H Q E h => ?_) (fun f cdv A outer s H vs Q E hr h => ?_)
  · obtain ⟨v, _, rfl, _⟩ := h; rfl
  · obtain ⟨t, b, rfl, ht, hb, k⟩ := h
    have nd := sc_are_bits.nd
    have hz : 1000 ≤ sizeLine := by decide
    refine ⟨_, (pss_cons (ps_if (pt_not (pt_val (pe_callB call_isiT (by rfl) T.b_isinstance (by decide +kernel) (pa_cons (pv 0) (pa_cons (pe_tup (pa_cons (pe_bltn (v := .ty "list") (by rfl) T.b_list (by decide +kernel) rfl) (pa_cons (pe_bltn (v := .ty "tuple") (by rfl) T.b_tuple (by decide +kernel) rfl) pa_nil))) pa_nil))))) (pss_one (ps_ret pe_bl)) pss_nil)
  (pss_one (ps_ret (pe_callB (cr_all rfl) (by rfl) T.b_all (by decide +kernel) (pa_cons (pe_lc (own := [("one", 1)]) rfl nd (pi_tup (pv 0)) (blkOk_by (N := N_are_bits) (sc := defScope s_are_bits) (by decide +kernel)) (fun _ _ _ _ _ => (pg_name (i := 1) nd rfl (Or.inl rfl))) (fun _ _ _ _ _ => pts_nil) (fun _ _ _ _ _ => (pe_and (pe_c c_is_integer hr (by decide) rfl (pa_cons (pv 1) pa_nil)) (pe_one (pe_chain op_le op_le pe_int (pv 1) pe_int))))) pa_nil))))), ?_⟩
    refine ⟨_, rfl, by show 2 ≤ sizeLine; decide, fun u hu => ?_⟩
    have ne : t ≠ u := ne_of_none ht hu
    refine ⟨.ref t, u, [.ty "list", .ty "tuple"], _, [.type "list", .type "tuple"], true, rfl, upd_same, .cons (.ty _) (.cons (.ty _) .nil), .base (.tup (by rw [upd_ne ne]; exact ht)), kitAny_cons (b := false) (kit_ty (by decide +kernel)) (fun _ => kitAny_cons (b := true) (kit_ty (by decide +kernel)) (fun z => nomatch z) (fun _ => rfl)) (fun z => nomatch z), true, rfl, iF rfl ?_⟩
    have s1 : Same H (upd H u (.tup [.ty "list", .ty "tuple"])) := Same.upd hu
    have ht := s1 _ _ ht
    generalize upd H u (.tup [.ty "list", .ty "tuple"]) = H1 at s1 ht
    refine ⟨_, rfl, t, rfl, ⟨_, SqT.of ht⟩, fun D hD => ?_⟩
    refine lc_map walk_tup hD (fun H' s => SqT.of (s _ _ ht)) (by rw [List.length_map]; omega) (fun _ y _ => y = .bl true) (fun _ _ _ _ _ _ _ q => q) (fun i H x H' _ y => by rw [y.1]; exact Same.refl _) (fun i x' Ha Hb Q' hi sa y kq => ?_) (fun Ha ys sa hd hl hr => ?_)
    · obtain ⟨rfl, hx⟩ := y
      rw [List.getElem?_map] at hx
      obtain ⟨c, _, rfl⟩ := Option.map_eq_some_iff.mp hx
      refine ⟨rfl, _, rfl, bI c, rfl, true, rfl, iT rfl ?_⟩
      refine ⟨_, rfl, _, _, rfl, rfl, _, rfl, dT (by cases c <;> decide) ⟨_, _, rfl, rfl, ?_⟩⟩
      exact kq _ _ (Same.refl _) (by cases c <;> rfl)
    · have e := all_true hr
      refine ⟨D, _, rfl, SqL.of (e ▸ hd), ?_⟩
      rw [all_rep]
      exact k _ (s1.trans sa)
def spInit (C : Addr) : Sp := fun vs H Q _ => ∃ x dx t, ∃ n : Nat, ∃ b : List Bool, vs = [.ref x, .int (n : Nat), .ref t] ∧ H x = some (.ins C dx []) ∧ H t = some (.tup (b.map bV)) ∧ b.length ≤ n ∧ n ≤ 1000 ∧
  ∀ H', But x H H' → H' x = some (.ins C dx [("steps", .int (n : Nat)), ("bits", .ref t)]) → Q .non H'
theorem m_init (T : Txt K mg) : Met P w K mg base 3 (cS K) "__init__" (spInit (cS K)) := by
  have c_is_integer := c_is_integer (P := P) (w := w) (base := base) T
  have c_are_bits := c_are_bits (P := P) (w := w) (base := base) T
  refine met_of T.d_Script__init sc_Script__init (fun _ _ _ _ _ _ us hl => match us, hl with | [_, _, _], _ => rfl) (fun vs H Q E h => ?_) (fun f cdv A outer s H vs Q E hr h => ?_)
  · obtain ⟨v, _, _, _, _, rfl, _⟩ := h; rfl
  · obtain ⟨x, dx, t, n, b, rfl, hx, ht, hb, hn, k⟩ := h
    have nd := sc_Script__init.nd
    refine ⟨_, (pss_cons (ps_if (PW.pt (pw_or (pt_not (pt_val (pe_c c_is_integer hr (by decide) rfl (pa_cons (pv 1) pa_nil)))) (pw_or (pt_cmpR op_lt (pv 1) pe_int (nomark _)) (pw_or (pt_not (pt_val (pe_c c_are_bits hr (by decide) rfl (pa_cons (pv 2) pa_nil)))) (pw_or1 (pt_cmpR op_gt (pe_callB call_len_seq (by rfl) T.b_len PySem.boot_len (pa_cons (pv 2) pa_nil)) (pv 1) (nomark _))))))) (pss_one ps_never) pss_nil)
  (pss_cons (ps_fld (pv 0) (pv 1) rfl)
  (pss_one (ps_fld (pv 0) (pe_callTy call_tuple_of (by rfl) T.b_tuple (by decide +kernel) (pa_cons (pv 2) pa_nil)) rfl)))), ?_⟩
    refine ⟨_, rfl, n, rfl, true, rfl, iF rfl ?_⟩
    refine ⟨_, rfl, _, _, rfl, rfl, _, rfl, dF (by omega) ?_⟩
    refine ⟨_, rfl, t, b, rfl, ht, by omega, fun H1 s1 => ⟨true, rfl, iF rfl ?_⟩⟩
    refine ⟨_, rfl, _, _, rfl, .inr (SqT.of (s1 _ _ ht)), _, rfl, _, _, rfl, rfl, _, rfl, ?_⟩
    rw [List.length_map]
    refine dF (by omega) ?_
    refine ⟨_, rfl, _, rfl, x, _, dx, [], rfl, s1 _ _ hx, T.clsS, T.noS1, by decide, ?_⟩
    have hx1 := s1 _ _ hx
    have b1 : But x H (upd H1 x (.ins (cS K) dx (putF "steps" (.int (n : Nat)) []))) := (Same.but x s1).trans But.upd
    refine ⟨_, rfl, t, _, rfl, .inr ⟨SqT.of (b1 _ _ (ne_of ht hx (by intro z; cases z)) ht), ?_⟩⟩
    refine ⟨_, rfl, x, _, dx, _, rfl, upd_same, T.clsS, T.noS2, by show 1 < 1000; decide, ?_⟩
    exact k _ (b1.trans But.upd) upd_same
theorem make_sc {C : Addr} {H1 : Hp} {m : Int} {n : Nat} {t : Addr} {b : List Bool} {Q : VK} (hm : m = (n : Nat)) (ht : H1 t = some (.tup (b.map bV))) (hb : b.length ≤ n) (hn : n ≤ 1000) (k : ∀ v H', Same H1 H' → ScV C H' ⟨n, b⟩ v → Q v H') :
    ∀ x dx, H1 x = none → H1 dx = none → dx ≠ x → spInit C (.ref x :: ([.int m, .ref t] ++ [])) (upd (upd H1 dx (.own x)) x (.ins C dx [])) (fun v H2 => v = .non ∧ Q (.ref x) H2) E0 := fun x dx hx hdx hne => by
  subst hm
  have s1 : Same H1 (upd (upd H1 dx (.own x)) x (.ins C dx [])) := (Same.upd hdx).trans (Same.upd (by rw [upd_ne hne.symm]; exact hx))
  refine ⟨x, dx, t, n, b, rfl, upd_same, s1 _ _ ht, hb, hn, fun H' bu h' => ⟨rfl, ?_⟩⟩
  have s2 : Same H1 H' := Same.but_new s1 hx bu
  exact k _ _ s2 ⟨x, dx, t, rfl, h', s2 _ _ ht, hb, hn⟩
end
end K52

namespace K52
open PySem PySem.Spec PyProof.Rows L2
section
variable {P : Program} {w : World} {K : PySem.W.Frag} {mg : Str → Option Value} {base : Heap}
theorem ty_ins (T : Txt K mg) {H : Hp} {a dx : Addr} {fs : List (Str × V)} (h : H a = some (.ins (cS K) dx fs)) : TyOf K H (.ref a) (.ref (cS K)) := .ins h T.clsS T.haS T.hnS T.htS T.moS
theorem m_eq (T : Txt K mg) : Met P w K mg base 1 (cS K) "__eq__" (spEqS (cS K)) := by
  refine met_of T.d_Script__eq sc_Script__eq (fun _ _ _ _ _ _ us hl => match us, hl with | [_, _], _ => rfl) (fun vs H Q E h => ?_) (fun f cdv A outer s H vs Q E hr h => ?_)
  · obtain ⟨v, _, _, _, rfl, _⟩ := h; rfl
  · obtain ⟨x, y, a, c, rfl, ⟨p, dx, t, rfl, hp, ht, hb, hn⟩, hc, k⟩ := h
    have nd := sc_Script__eq.nd
    have hu : (A.deeper (envOfC "Script.__eq__" (defScope s_Script__eq) s.heap.objs.size f cdv)).units + 64 < cLine := hr.units
    refine ⟨_, (pss_one (ps_ret (pe_and (pe_callB call_isi (by rfl) T.b_isinstance (by decide +kernel) (pa_cons (pv 1) (pa_cons (pe_glob (v := .ref _) rfl T.g_Script rfl) pa_nil))) (pe_and (pe_cmpR op_eq (pe_fld (pv 0) rfl) (pe_fld (pv 1) rfl) (nomark _)) (pe_one (pe_cmpR (op_eqD hu) (pe_fld (pv 0) rfl) (pe_fld (pv 1) rfl) (nomark _))))))), ?_⟩
    have k := k H (Same.refl H)
    cases c with
    | none =>
      have e : y = .non := hc
      subst e
      exact ⟨_, rfl, _, _, _, _, false, rfl, .own _, .base .non, T.knS, false, rfl, iF rfl k⟩
    | some c =>
      obtain ⟨q, dy, u, rfl, hq, hu', _⟩ := id (show ScV _ H c y from hc)
      refine ⟨_, rfl, _, _, _, _, true, rfl, .own _, .base (ty_ins T hq), T.kiS, true, rfl, iT rfl ?_⟩
      refine ⟨_, rfl, p, _, dx, _, _, rfl, hp, T.clsS, T.noS1, rfl, _, rfl, q, _, dy, _, _, rfl, hq, T.clsS, T.noS1, rfl, rfl, _, rfl, ?_⟩
      by_cases e : a.n = c.n
      · refine dT (by rw [e]) ?_
        refine ⟨_, rfl, p, _, dx, _, _, rfl, hp, T.clsS, T.noS2, rfl, _, rfl, q, _, dy, _, _, rfl, hq, T.clsS, T.noS2, rfl, bD a.b, bD c.b, dp_bits ht, dp_bits hu', shaped_bits _, shaped_bits _, ?_⟩
        rw [eqv_bits]
        have : decide (some a = some c) = decide (a.b = c.b) := by
          obtain ⟨an, ab⟩ := a
          obtain ⟨cn, cb⟩ := c
          simp only at e ⊢
          subst e
          simp
        rw [this] at k
        exact k
      · refine dF (fun z => e (by injection z with z; omega)) ?_
        rw [decide_eq_false (fun z => e (by injection z with z; rw [z]))] at k
        exact k
def spLt (C : Addr) : Sp := fun vs H Q _ => ∃ x y, ∃ a c : KM.Sc, vs = [x, y] ∧ ScV C H a x ∧ ScV C H c y ∧ ∀ H', Same H H' → Q (.bl (a.lt c)) H'
theorem m_lt (T : Txt K mg) : Met P w K mg base 1 (cS K) "__lt__" (spLt (cS K)) := by
  refine met_of T.d_Script__lt sc_Script__lt (fun _ _ _ _ _ _ us hl => match us, hl with | [_, _], _ => rfl) (fun vs H Q E h => ?_) (fun f cdv A outer s H vs Q E hr h => ?_)
  · obtain ⟨v, _, _, _, rfl, _⟩ := h; rfl
  · obtain ⟨x, y, a, c, rfl, ⟨p, dx, t, rfl, hp, ht, _⟩, ⟨q, dy, u, rfl, hq, hu, _⟩, k⟩ := h
    have nd := sc_Script__lt.nd
    refine ⟨_, (pss_cons (ps_if (pt_not (pt_val (pe_callB call_isi (by rfl) T.b_isinstance (by decide +kernel) (pa_cons (pv 1) (pa_cons (pe_glob (v := .ref _) rfl T.g_Script rfl) pa_nil))))) (pss_one ps_never) pss_nil)
  (pss_one (ps_ret (pe_cmpR (op_ltSc hr) (pe_tup (pa_cons (pe_fld (pv 0) rfl) (pa_cons (pe_fld (pv 0) rfl) pa_nil))) (pe_tup (pa_cons (pe_fld (pv 1) rfl) (pa_cons (pe_fld (pv 1) rfl) pa_nil))) (nomark _))))), ?_⟩
    refine ⟨_, rfl, _, _, _, _, true, rfl, .own _, .base (ty_ins T hq), T.kiS, true, rfl, iF rfl ?_⟩
    refine ⟨_, rfl, p, _, dx, _, _, rfl, hp, T.clsS, T.noS1, rfl, _, rfl, p, _, dx, _, _, rfl, hp, T.clsS, T.noS2, rfl, by show 2 ≤ sizeLine; decide, fun l hl => ?_⟩
    have s1 : Same H (upd H l (.tup [.int (a.n : Nat), .ref t])) := Same.upd hl
    refine ⟨_, rfl, q, _, dy, _, _, rfl, s1 _ _ hq, T.clsS, T.noS1, rfl, _, rfl, q, _, dy, _, _, rfl, s1 _ _ hq, T.clsS, T.noS2, rfl, by show 2 ≤ sizeLine; decide, fun r hr => ?_⟩
    have s2 := s1.trans (Same.upd (o := .tup [.int (c.n : Nat), .ref u]) hr)
    exact ⟨l, r, t, u, a, c, rfl, rfl, (Same.upd hr) _ _ upd_same, upd_same, s2 _ _ ht, s2 _ _ hu, k _ s2⟩
def spAdd (C : Addr) : Sp := fun vs H Q _ => ∃ x y, ∃ a c : KM.Sc, vs = [x, y] ∧ ScV C H a x ∧ ScV C H c y ∧ a.n + c.n ≤ 1000 ∧ ∀ v H', Same H H' → ScV C H' ⟨a.n + c.n, a.b ++ c.b⟩ v → Q v H'
theorem m_add (T : Txt K mg) : Met P w K mg base 5 (cS K) "__add__" (spAdd (cS K)) := by
  have mi := m_init (P := P) (w := w) (base := base) T
  obtain ⟨fdi, psi, Fi, bi⟩ := mi.ex
  refine met_of T.d_Script__add sc_Script__add (fun _ _ _ _ _ _ us hl => match us, hl with | [_, _], _ => rfl) (fun vs H Q E h => ?_) (fun f cdv A outer s H vs Q E hr h => ?_)
  · obtain ⟨v, _, _, _, rfl, _⟩ := h; rfl
  · obtain ⟨x, y, a, c, rfl, ⟨p, dx, t, rfl, hp, ht, ha, _⟩, ⟨q, dy, u, rfl, hq, hu, hc, _⟩, hs, k⟩ := h
    have nd := sc_Script__add.nd
    refine ⟨_, (pss_cons (ps_if (pt_not (pt_val (pe_callB call_isi (by rfl) T.b_isinstance (by decide +kernel) (pa_cons (pv 1) (pa_cons (pe_glob (v := .ref _) rfl T.g_Script rfl) pa_nil))))) (pss_one ps_never) pss_nil)
  (pss_one (ps_ret (pe_make T.mkS Fi (hr.mono (by decide)) rfl T.g_Script bi .nil pass0 (pa_cons (pe_op op_add (pe_fld (pv 0) rfl) (pe_fld (pv 1) rfl)) (pa_cons (pe_op op_catA (pe_fld (pv 0) rfl) (pe_fld (pv 1) rfl)) pa_nil)))))), ?_⟩
    refine ⟨_, rfl, _, _, _, _, true, rfl, .own _, .base (ty_ins T hq), T.kiS, true, rfl, iF rfl ?_⟩
    refine ⟨_, rfl, p, _, dx, _, _, rfl, hp, T.clsS, T.noS1, rfl, _, rfl, q, _, dy, _, _, rfl, hq, T.clsS, T.noS1, rfl, _, _, rfl, rfl, ?_⟩
    have hz : 1000 ≤ sizeLine := by decide
    have hn : ((a.n : Nat) : Int) + (c.n : Nat) = ((a.n + c.n : Nat) : Int) := by omega
    refine ⟨_, rfl, p, _, dx, _, _, rfl, hp, T.clsS, T.noS2, rfl, _, rfl, q, _, dy, _, _, rfl, hq, T.clsS, T.noS2, rfl, t, u, _, _, rfl, rfl, SqT.of ht, SqT.of hu, by rw [List.length_map, List.length_map]; omega, fun e => ?_, fun e1 e2 => ?_, fun e1 e2 r hr' => ?_⟩
    · have e' : a.b = [] := by simpa using e
      refine fun x dx h1 h2 h3 => make_sc (b := a.b ++ c.b) hn (by rw [e']; exact hu) (by rw [List.length_append]; omega) hs k x dx h1 h2 h3
    · have e' : c.b = [] := by simpa using e2
      refine fun x dx h1 h2 h3 => make_sc (b := a.b ++ c.b) hn (by rw [e', List.append_nil]; exact ht) (by rw [List.length_append]; omega) hs k x dx h1 h2 h3
    · refine fun x dx h1 h2 h3 => make_sc (b := a.b ++ c.b) hn (by rw [List.map_append]; exact upd_same) (by rw [List.length_append]; omega) hs (fun v H' s' h' => k v H' ((Same.upd hr').trans s') h') x dx h1 h2 h3
end
end K52

namespace K52
open PySem PySem.Spec PyProof.Rows L2
section
variable {P : Program} {w : World} {K : PySem.W.Frag} {mg : Str → Option Value} {base : Heap}
theorem fn_ofM {m qual : Str} {st : Stmt} {N ps : List Str} {k : Nat} {sp : Sp} {dvs : List V} {kws : List (Str × V)} {f : Addr} {fd : FuncData} (F : FunD K m qual (defArgs st) (defBody st) (defScope st) dvs kws f fd) (S : FnScope N ps (defScope st))
    (len : ∀ vs H Q E, sp vs H Q E → vs.length = ps.length)
    (hbody : ∀ (f : Addr) (cdv : Value) (A : Around) (outer : List Env) (s : Shared) (H : Hp) (vs : List V) (Q : VK) (E : XK), Room k (A.deeper (envOfC qual (defScope st) s.heap.objs.size f cdv)) → sp vs H Q E →
      ∃ t, PSs (cxOf CX0 P w K mg base N qual (defScope st) f cdv A outer s H E).nox (defBody st) t ∧ t { nx := fun _ H' => Q .non H', rt := Q } (start N vs) H) : FnOk P w K mg base CX0 (k + 1) f fd ps sp :=
  F.ok S len fun cdv A outer s H vs Q E hr h => by
    obtain ⟨t, h1, h2⟩ := hbody f cdv A outer s H vs Q E hr h
    exact ⟨t, h1.nox, h2⟩
def spNone (C : Addr) : Sp := fun vs H Q _ => vs = [.ref C] ∧ ∀ v H', Same H H' → ScV C H' ⟨0, []⟩ v → Q v H'
theorem m_none (T : Txt K mg) : ∃ p g fd, FnOk P w K mg base CX0 5 g fd ["cls"] (spNone (cS K)) ∧ Binds K fd ["cls"] [] ∧ ClX.CMet K (cS K) (.type "type") "none" p g := by
  obtain ⟨p, g, fd, F, cm⟩ := T.d_Script_none
  have mi := m_init (P := P) (w := w) (base := base) T
  obtain ⟨fdi, psi, Fi, bi⟩ := mi.ex
  refine ⟨p, g, fd, ?_, F.bindsN fun kV doc pm an cdv ct us hl => (match us, hl with | [_], _ => rfl), cm⟩
  refine fn_ofM F sc_Script_none (fun vs H Q E h => by obtain ⟨rfl, _⟩ := h; rfl) (fun f cdv A outer s H vs Q E hr h => ?_)
  obtain ⟨rfl, k⟩ := h
  have nd := sc_Script_none.nd
  refine ⟨_, (pss_one (ps_ret (pe_makeL (i := 0) T.mkS Fi hr rfl (Or.inl rfl) bi pass0 (pa_cons pe_int (pa_cons (pe_tup pa_nil) pa_nil))))), ?_⟩
  refine ⟨rfl, by decide, fun t ht => ?_⟩
  exact fun x dx h1 h2 h3 => make_sc (b := []) (n := 0) rfl upd_same (Nat.le_refl _) (by decide) (fun v H' s' h' => k v H' ((Same.upd ht).trans s') h') x dx h1 h2 h3
/-! ### joined, least_of -/
def spJoined (C : Addr) : Sp := fun vs H Q _ => ∃ x y, ∃ a c : KM.OS, vs = [x, y] ∧ OsV C H a x ∧ OsV C H c y ∧ ∀ v H', Same H H' → OsV C H' (KM.pl a c) v → Q v H'
theorem c_joined (T : Txt K mg) : Cal P w K mg base 6 "joined" (spJoined (cS K)) := by
  have ma := m_add (P := P) (w := w) (base := base) T
  obtain ⟨fda, psa, Fa, ba⟩ := ma.ex
  obtain ⟨u, cv⟩ := T.cvS
  refine cal_of T.d_joined sc_joined (fun _ _ _ _ _ _ us hl => match us, hl with | [_, _], _ => rfl) (fun vs H Q E h => ?_) (fun f cdv A outer s H vs Q E hr h => ?_)
  · obtain ⟨v, _, _, _, rfl, _⟩ := h; rfl
  · obtain ⟨x, y, a, c, rfl, ha, hc, k⟩ := h
    have nd := sc_joined.nd
    refine ⟨_, (pss_cons (ps_if (PW.pt (pw_or (pt_cmpR op_isN (pv 0) pe_non (nomark _)) (pw_or (pt_cmpR op_isN (pv 1) pe_non (nomark _)) (pw_or1 (pt_cmpR op_gt (pe_op op_add (pe_fld (pv 0) rfl) (pe_fld (pv 1) rfl)) (ClX.pe_cval (pe_glob (v := .ref _) rfl T.g_Script rfl)) (nomark _)))))) (pss_one (ps_ret pe_non)) pss_nil)
  (pss_one (ps_ret (pe_op (op_ownBin T.sfS ma.at_ ma.fn Fa ba hr pass0) (pv 0) (pv 1))))), ?_⟩
    cases a with
    | none =>
      have e : x = .non := ha
      subst e
      refine ⟨_, rfl, rfl, _, rfl, dT rfl ?_⟩
      exact k _ _ (Same.refl _) rfl
    | some a =>
      obtain ⟨p, dx, t, rfl, hp, ht, h1, h2⟩ := id (show ScV _ H a x from ha)
      refine ⟨_, rfl, rfl, _, rfl, dF (fun z => nomatch z) ?_⟩
      cases c with
      | none =>
        have e : y = .non := hc
        subst e
        refine ⟨_, rfl, rfl, _, rfl, dT rfl ?_⟩
        exact k _ _ (Same.refl _) rfl
      | some c =>
        obtain ⟨q, dy, u', rfl, hq, hu', h3, h4⟩ := id (show ScV _ H c y from hc)
        refine ⟨_, rfl, rfl, _, rfl, dF (fun z => nomatch z) ?_⟩
        refine ⟨_, rfl, p, _, dx, _, _, rfl, hp, T.clsS, T.noS1, rfl, _, rfl, q, _, dy, _, _, rfl, hq, T.clsS, T.noS1, rfl, _, _, rfl, rfl, ?_⟩
        refine ⟨cS K, _, _, u, rfl, T.crS, cv, _, _, rfl, rfl, _, rfl, ?_⟩
        by_cases e : a.n + c.n > 1000
        · refine dT (by omega) ?_
          refine k _ _ (Same.refl _) ?_
          show OsV _ _ (if a.n + c.n > 1000 then none else _) _
          rw [if_pos e]; rfl
        · refine dF (by omega) ?_
          refine ⟨_, rfl, _, rfl, p, dx, _, q, dy, _, rfl, rfl, hp, hq, _, _, a, c, rfl, ha, hc, by omega, fun v H' s' h' => k v H' s' ?_⟩
          show OsV _ _ (if a.n + c.n > 1000 then none else _) _
          rw [if_neg e]; exact h'
/-- the least of a list -/
def mnL (l : List KM.OS) : KM.OS := l.foldl KM.mn none
def spLeast (C : Addr) : Sp := fun vs H Q _ => ∃ p xs, ∃ l : List KM.OS, vs = [.ref p] ∧ H p = some (.lst xs) ∧ Paired (OsV C H) l xs ∧ ∀ v H', Same H H' → OsV C H' (mnL l) v → Q v H'
theorem c_least_of (T : Txt K mg) : Cal P w K mg base 2 "least_of" (spLeast (cS K)) := by
  have ml := m_lt (P := P) (w := w) (base := base) T
  obtain ⟨fdl, psl, Fl, bl⟩ := ml.ex
  refine cal_of T.d_least_of sc_least_of (fun _ _ _ _ _ _ us hl => match us, hl with | [_], _ => rfl) (fun vs H Q E h => ?_) (fun f cdv A outer s H vs Q E hr h => ?_)
  · obtain ⟨v, _, _, rfl, _⟩ := h; rfl
  · obtain ⟨p, xs, l, rfl, hp, hl, k⟩ := h
    have nd := sc_least_of.nd
    refine ⟨_, (pss_cons (ps_set (i := 1) nd rfl (Or.inl rfl) pe_non)
  (pss_cons (ps_for PassesOwn.never rfl (pi_list (pv 0)) (pg_name (i := 2) nd rfl (Or.inl rfl)) (pss_one (ps_if (PW.pt (pw_and (pt_cmpR op_notN (pv 2) pe_non (nomark _)) (pw_and1 (PW.pt (pw_or (pt_cmpR op_isN (pv 1) pe_non (nomark _)) (pw_or1 (pt_cmpR (op_ownCmp (op := .Lt) (fun _ _ => rfl) ml.at_ ml.fn Fl bl hr pass0) (pv 2) (pv 1) (nomark _)))))))) (pss_one (ps_set (i := 1) nd rfl (Or.inl rfl) (pv 2))) pss_nil)))
  (pss_one (ps_ret (pv 1))))), ?_⟩
    refine ⟨_, rfl, p, rfl, ⟨_, SqL.of hp⟩, ?_⟩
    refine for_it walk_list (fun i σ H' => (∃ b p2, σ = [some (.ref p), some b, p2] ∧ OsV (cS K) H' (mnL (l.take i)) b) ∧ Same H H') ⟨⟨_, _, rfl, by rw [List.take_zero]; rfl⟩, Same.refl _⟩ (fun i σ H' _ q => SqL.of (q.2 _ _ hp)) (fun i x σ H1 H2 hi q y => ?_) (fun σ H1 q => ?_)
    · obtain ⟨rfl, hx⟩ := y
      obtain ⟨⟨b, p2, rfl, hb⟩, s1⟩ := q
      obtain ⟨a, ha, hax⟩ := paired_at hl hx
      have hax := hax.le (Same.le s1)
      have tk : l.take (i + 1) = l.take i ++ [a] := by rw [List.take_add_one, ha]; rfl
      have em : mnL (l.take (i + 1)) = KM.mn (mnL (l.take i)) a := by unfold mnL; rw [tk, List.foldl_append]; rfl
      cases a with
      | none =>
        have e : x = .non := hax
        subst e
        refine ⟨_, rfl, rfl, _, rfl, iF rfl ?_⟩
        refine ⟨⟨_, _, rfl, ?_⟩, s1⟩
        rw [em]
        have : KM.mn (mnL (l.take i)) none = mnL (l.take i) := by cases mnL (l.take i) <;> rfl
        rw [this]; exact hb
      | some a =>
        obtain ⟨q, dx, t, rfl, hq, _⟩ := id (show ScV _ H2 a x from hax)
        refine ⟨_, rfl, rfl, _, rfl, iT rfl ?_⟩
        cases e : mnL (l.take i) with
        | none =>
          rw [e] at hb em
          have e2 : b = .non := hb
          subst e2
          refine ⟨_, rfl, rfl, _, rfl, dT rfl ⟨_, rfl, ⟨_, _, rfl, ?_⟩, s1⟩⟩
          rw [em]; exact hax
        | some c =>
          rw [e] at hb em
          obtain ⟨r, dy, u, rfl, hr', _⟩ := id (show ScV _ H2 c b from hb)
          refine ⟨_, rfl, rfl, _, rfl, dF (fun z => nomatch z) ?_⟩
          refine ⟨_, rfl, _, rfl, q, dx, _, r, dy, _, rfl, rfl, hq, hr', _, _, a, c, rfl, hax, hb, fun H3 s3 => ⟨_, rfl, ?_⟩⟩
          have em2 : KM.mn (some c) (some a) = if a.lt c = true then some a else some c := rfl
          cases e3 : a.lt c with
          | true =>
            refine iT rfl ⟨_, rfl, ⟨_, _, rfl, ?_⟩, s1.trans s3⟩
            rw [em, em2, e3, if_pos rfl]; exact ScV.le (Same.le s3) hax
          | false =>
            refine iF rfl ⟨⟨_, _, rfl, ?_⟩, s1.trans s3⟩
            rw [em, em2, e3, if_neg Bool.false_ne_true]; exact ScV.le (Same.le s3) hb
    · obtain ⟨⟨b, p2, rfl, hb⟩, s1⟩ := q
      rw [← hl.length, List.take_length] at hb
      exact ⟨_, rfl, k _ _ s1 hb⟩
end
end K52

namespace K52
open PySem PySem.Spec PyProof.Rows L2
def kindS (b : Bool) : Str := if b then "back" else "caught"
section
variable {P : Program} {w : World} {K : PySem.W.Frag} {mg : Str → Option Value} {base : Heap}
def spEntered : Sp := fun vs H Q _ => ∃ (b : Bool) (p : Addr) (x y : V), vs = [.str (kindS b), .ref p] ∧ H p = some (.tup [x, y]) ∧ Q (if b then x else y) H
theorem c_entered_by (T : Txt K mg) : Cal P w K mg base 1 "entered_by" spEntered := by
  refine cal_of T.d_entered_by sc_entered_by (fun _ _ _ _ _ _ us hl => match us, hl with | [_, _], _ => rfl) (fun vs H Q E h => ?_) (fun f cdv A outer s H vs Q E hr h => ?_)
  · obtain ⟨b, p, x, y, rfl, _⟩ := h; rfl
  · obtain ⟨b, p, x, y, rfl, hp, k⟩ := h
    have nd := sc_entered_by.nd
    refine ⟨_, (pss_one (ps_ret (pe_ifExp (pt_cmpR op_eq (pv 0) pe_str (nomark _)) (pe_ix ix_tup (pv 1) pe_int (fun _ _ => rfl)) (pe_ix ix_tup (pv 1) pe_int (fun _ _ => rfl))))), ?_⟩
    refine ⟨_, rfl, rfl, _, rfl, ?_⟩
    cases b with
    | true => exact ⟨_, rfl, p, _, _, x, rfl, rfl, SqT.of hp, rfl, k⟩
    | false => exact ⟨_, rfl, p, _, _, y, rfl, rfl, SqT.of hp, rfl, k⟩
/-- the ends of the functions -/
def FnD {ε : Type} (R : Hp → ε → V → Prop) (H : Hp) (d : Addr) (names : List Str) (F : Str → ε) : Prop := ∃ kvs, H d = some (.dK kvs) ∧ DRel names (fun x v => R H (F x) v) kvs
/-- of the cases, with their kinds -/
def ArV {ε : Type} (R : Hp → ε → V → Prop) (H : Hp) (a : Bool × ε) (v : V) : Prop := ∃ p e, v = .ref p ∧ H p = some (.tup [.str (kindS a.1), e]) ∧ R H a.2 e
def ArD {ε : Type} (R : Hp → ε → V → Prop) (H : Hp) (d : Addr) (names : List Str) (A : Str → Bool × ε) : Prop := ∃ kvs, H d = some (.dK kvs) ∧ DRel names (fun x v => ArV R H (A x) v) kvs
/-- what stands for what is kept while tuples and instances are -/
def RLe {ε : Type} (R : Hp → ε → V → Prop) : Prop := ∀ H H' e v, Le H H' → R H e v → R H' e v
theorem ArV.le {ε : Type} {R : Hp → ε → V → Prop} (hR : RLe R) {H H' : Hp} {a : Bool × ε} {v : V} (l : Le H H') (h : ArV R H a v) : ArV R H' a v := by
  obtain ⟨p, e, h1, h2, h3⟩ := h
  exact ⟨p, e, h1, l _ _ trivial h2, hR _ _ _ _ l h3⟩
theorem FnD.same {ε : Type} {R : Hp → ε → V → Prop} (hR : RLe R) {H H' : Hp} {d : Addr} {names : List Str} {F : Str → ε} (s : Same H H') (h : FnD R H d names F) : FnD R H' d names F := by
  obtain ⟨k, h1, h2⟩ := h
  exact ⟨k, s _ _ h1, h2.imp fun x v _ q => hR _ _ _ _ (Same.le s) q⟩
theorem ArD.same {ε : Type} {R : Hp → ε → V → Prop} (hR : RLe R) {H H' : Hp} {d : Addr} {names : List Str} {A : Str → Bool × ε} (s : Same H H') (h : ArD R H d names A) : ArD R H' d names A := by
  obtain ⟨k, h1, h2⟩ := h
  exact ⟨k, s _ _ h1, h2.imp fun x v _ q => ArV.le hR (Same.le s) q⟩
theorem FnD.get {ε : Type} {R : Hp → ε → V → Prop} {H : Hp} {d : Addr} {names : List Str} {F : Str → ε} (h : FnD R H d names F) {x : Str} (hx : x ∈ names) : ∃ v, DGet H d (.str x) (some v) ∧ R H (F x) v := by
  obtain ⟨k, h1, h2⟩ := h
  obtain ⟨v, e, r⟩ := h2.val hx
  exact ⟨v, dgetS (.inl h1) e, r⟩
theorem ArD.get {ε : Type} {R : Hp → ε → V → Prop} {H : Hp} {d : Addr} {names : List Str} {A : Str → Bool × ε} (h : ArD R H d names A) {x : Str} (hx : x ∈ names) : ∃ v, DGet H d (.str x) (some v) ∧ ArV R H (A x) v := by
  obtain ⟨k, h1, h2⟩ := h
  obtain ⟨v, e, r⟩ := h2.val hx
  exact ⟨v, dgetS (.inl h1) e, r⟩
theorem rle_b2 : RLe B2V := fun _ _ _ _ l h => h.le l
theorem rle_e2 {C : Addr} : RLe (E2V C) := fun _ _ _ _ l h => h.le l
/-- the shape of a def that finds the ends of a body -/
def spEnds {ε : Type} (R : Hp → ε → V → Prop) (en : (Str → ε) → (Str → Bool × ε) → KM.Bd Str → ε) (n : Nat) : Sp := fun vs H Q _ => ∃ v dF dA af ac sl b fs cs, ∃ F : Str → ε, ∃ A : Str → Bool × ε,
  vs = [v, .ref dF, .ref dA] ∧ BdV af ac sl H b v ∧ bdDep b ≤ n ∧ FnD R H dF fs F ∧ ArD R H dA cs A ∧ (∀ f ∈ b.calls, f ∈ fs) ∧ (∀ c ∈ b.pushes, c ∈ cs) ∧ ∀ v H', Same H H' → R H' (en F A b) v → Q v H'
theorem spEnds_len {ε : Type} {R : Hp → ε → V → Prop} {en : (Str → ε) → (Str → Bool × ε) → KM.Bd Str → ε} {n : Nat} {vs : List V} {H : Hp} {Q : VK} {E : XK} (h : spEnds R en n vs H Q E) : vs.length = 3 := by
  obtain ⟨_, _, _, _, _, _, _, _, _, _, _, rfl, _⟩ := h; rfl
theorem can_step (T : Txt K mg) {n k : Nat} (c_can_end : Cal P w K mg base k "can_end" (spEnds B2V KM.cen n)) : Cal P w K mg base (k + 1) "can_end" (spEnds B2V KM.cen (n + 1)) := by
  refine cal_of T.d_can_end sc_can_end (fun _ _ _ _ _ _ us hl => match us, hl with | [_, _, _], _ => rfl) (fun vs H Q E h => spEnds_len h) (fun f cdv A outer s H vs Q E hr h => ?_)
  obtain ⟨v, aF, aA, af, ac, sl, b, fs, cs, F, Ar, rfl, hb, hn, hF, hA, hcf, hcp, kk⟩ := h
  have nd := sc_can_end.nd
  have hu := hu_of hr
  refine ⟨_, (pss_cons (ps_set (i := 3) nd rfl (Or.inl rfl) (pe_ix ix_tup (pv 0) pe_int (fun _ _ => rfl)))
  (pss_cons (ps_if (pt_cmpR op_eq (pv 3) pe_str (nomark _)) (pss_one (ps_ret (pe_dget hu (pv 1) (pe_ix ix_tup (pv 0) pe_int (fun _ _ => rfl)) (fun _ _ => rfl)))) pss_nil)
  (pss_cons (ps_if (pt_cmpR op_eq (pv 3) pe_str (nomark _)) (pss_cons (ps_par (i := 4) (j := 5) (by rfl) nd rfl rfl (by decide) rfl rfl (pa_cons (pe_c c_can_end hr (by omega) rfl (pa_cons (pe_ix ix_tup (pv 0) pe_int (fun _ _ => rfl)) (pa_cons (pv 1) (pa_cons (pv 2) pa_nil)))) (pa_cons (pe_c c_can_end hr (by omega) rfl (pa_cons (pe_ix ix_tup (pv 0) pe_int (fun _ _ => rfl)) (pa_cons (pv 1) (pa_cons (pv 2) pa_nil)))) pa_nil)) (by rfl))
  (pss_one (ps_ret (pe_tup (pa_cons (pe_or (pe_ix ix_tup (pv 4) pe_int (fun _ _ => rfl)) (pe_one (pe_ix ix_tup (pv 5) pe_int (fun _ _ => rfl)))) (pa_cons (pe_or (pe_ix ix_tup (pv 4) pe_int (fun _ _ => rfl)) (pe_one (pe_ix ix_tup (pv 5) pe_int (fun _ _ => rfl)))) pa_nil)))))) pss_nil)
  (pss_cons (ps_if (pt_cmpR op_ne (pv 3) pe_str (nomark _)) (pss_one (ps_ret (pe_tup (pa_cons (pe_cmpR op_ne (pv 3) pe_str (nomark _)) (pa_cons (pe_cmpR op_eq (pv 3) pe_str (nomark _)) pa_nil))))) pss_nil)
  (pss_cons (ps_asg (pe_c c_can_end hr (by omega) rfl (pa_cons (pe_ix ix_tup (pv 0) pe_int (fun _ _ => rfl)) (pa_cons (pv 1) (pa_cons (pv 2) pa_nil)))) (pg_tup (by rfl) (pgs_cons (pg_name (i := 6) nd rfl (Or.inl rfl)) (pgs_cons (pg_name (i := 7) nd rfl (Or.inl rfl)) pgs_nil))))
  (pss_cons (ps_asg (pe_dget hu (pv 2) (pe_ix ix_tup (pv 0) pe_int (fun _ _ => rfl)) (fun _ _ => rfl)) (pg_tup (by rfl) (pgs_cons (pg_name (i := 8) nd rfl (Or.inl rfl)) (pgs_cons (pg_name (i := 9) nd rfl (Or.inl rfl)) pgs_nil))))
  (pss_cons (ps_if (pt_cmpR op_eq (pv 8) pe_str (nomark _)) (pss_one (ps_ret (pe_tup (pa_cons (pe_and (pv 6) (pe_one (pe_ix ix_tup (pv 9) pe_int (fun _ _ => rfl)))) (pa_cons (pe_or (pv 7) (pe_one (pe_and (pv 6) (pe_one (pe_ix ix_tup (pv 9) pe_int (fun _ _ => rfl)))))) pa_nil))))) pss_nil)
  (pss_one (ps_ret (pe_tup (pa_cons (pe_or (pv 6) (pe_one (pe_and (pv 7) (pe_one (pe_ix ix_tup (pv 9) pe_int (fun _ _ => rfl)))))) (pa_cons (pe_and (pv 7) (pe_one (pe_ix ix_tup (pv 9) pe_int (fun _ _ => rfl)))) pa_nil)))))))))))), ?_⟩
  have leaf : ∀ (r : Bool) (H' : Hp) (t : Addr), Same H H' → H' t = some (.tup [.bl (!r), .bl r]) → b = .leaf r → Q (.ref t) H' := fun r H' t s h e => kk _ _ s ⟨t, rfl, by rw [e]; exact h⟩
  cases hb with
  | @ret p x hp ha =>
    refine ⟨_, rfl, p, _, _, _, rfl, rfl, SqT.of hp, rfl, ?_⟩
    refine ⟨_, rfl, rfl, _, rfl, dF (by decide) ?_⟩
    refine ⟨_, rfl, rfl, _, rfl, dF (by decide) ?_⟩
    refine ⟨_, rfl, rfl, _, rfl, iT (by decide) ?_⟩
    exact ⟨_, rfl, rfl, _, rfl, rfl, by show 2 ≤ sizeLine; decide, fun t ht => leaf false _ t (Same.upd ht) (by rw [upd_same]; rfl) rfl⟩
  | @rai p x hp ha =>
    refine ⟨_, rfl, p, _, _, _, rfl, rfl, SqT.of hp, rfl, ?_⟩
    refine ⟨_, rfl, rfl, _, rfl, dF (by decide) ?_⟩
    refine ⟨_, rfl, rfl, _, rfl, dF (by decide) ?_⟩
    refine ⟨_, rfl, rfl, _, rfl, iT (by decide) ?_⟩
    exact ⟨_, rfl, rfl, _, rfl, rfl, by show 2 ≤ sizeLine; decide, fun t ht => leaf true _ t (Same.upd ht) (by rw [upd_same]; rfl) rfl⟩
  | @ask p nm q m n1 n2 hp ha =>
    refine ⟨_, rfl, p, _, _, _, rfl, rfl, SqT.of hp, rfl, ?_⟩
    refine ⟨_, rfl, rfl, _, rfl, dF (by decide) ?_⟩
    refine ⟨_, rfl, rfl, _, rfl, dF (by decide) ?_⟩
    refine ⟨_, rfl, rfl, _, rfl, iT (by decide) ?_⟩
    exact ⟨_, rfl, rfl, _, rfl, rfl, by show 2 ≤ sizeLine; decide, fun t ht => leaf false _ t (Same.upd ht) (by rw [upd_same]; rfl) rfl⟩
  | @call p g q n1 n2 hp ha =>
    obtain ⟨u, gu, hu'⟩ := hF.get (hcf g (by simp [KM.Bd.calls]))
    refine ⟨_, rfl, p, _, _, _, rfl, rfl, SqT.of hp, rfl, ?_⟩
    refine ⟨_, rfl, rfl, _, rfl, dT (by decide) ?_⟩
    exact ⟨_, rfl, _, rfl, p, _, _, _, rfl, rfl, SqT.of hp, rfl, aF, u, rfl, gu, kk _ _ (Same.refl _) hu'⟩
  | @test p nm q m y z b1 b2 n1 n2 hp ha h1 h2 =>
    have hn' : max (bdDep b1) (bdDep b2) + 1 ≤ n + 1 := hn
    refine ⟨_, rfl, p, _, _, _, rfl, rfl, SqT.of hp, rfl, ?_⟩
    refine ⟨_, rfl, rfl, _, rfl, dF (by decide) ?_⟩
    refine ⟨_, rfl, rfl, _, rfl, dT (by decide) ?_⟩
    refine ⟨_, rfl, p, _, _, _, rfl, rfl, SqT.of hp, rfl, _, rfl, _, rfl, y, aF, aA, af, ac, sl, b1, fs, cs, F, Ar, rfl, h1, by omega, hF, hA, fun g hg => hcf g (by simp [KM.Bd.calls, hg]), fun g hg => hcp g (by simp [KM.Bd.pushes, hg]), fun u H1 s1 ⟨t1, e1, g1⟩ => ?_⟩
    subst e1
    refine ⟨_, rfl, p, _, _, _, rfl, rfl, SqT.of (s1 _ _ hp), rfl, _, rfl, _, rfl, z, aF, aA, af, ac, sl, b2, fs, cs, F, Ar, rfl, h2.le (Same.le s1), by omega, hF.same rle_b2 s1, hA.same rle_b2 s1, fun g hg => hcf g (by simp [KM.Bd.calls, hg]), fun g hg => hcp g (by simp [KM.Bd.pushes, hg]), fun u H2 s2 ⟨t2, e2, g2⟩ => ⟨_, _, rfl, ?_⟩⟩
    subst e2
    have g1 := s2 _ _ g1
    have fin : ∀ (H' : Hp) (t : Addr), Same H2 H' → H' t = some (.tup [.bl ((KM.cen F Ar b1).1 || (KM.cen F Ar b2).1), .bl ((KM.cen F Ar b1).2 || (KM.cen F Ar b2).2)]) → Q (.ref t) H' := fun H' t s h => kk _ _ ((s1.trans s2).trans s) ⟨t, rfl, h⟩
    generalize KM.cen F Ar b1 = e1 at g1 fin
    generalize KM.cen F Ar b2 = e2 at g2 fin
    obtain ⟨a1, a2⟩ := e1
    obtain ⟨c1, c2⟩ := e2
    refine ⟨_, rfl, t1, _, _, _, rfl, rfl, SqT.of g1, rfl, a1, rfl, ?_⟩
    cases a1 <;> cases c1 <;> cases a2 <;> cases c2
    all_goals
      first
        | refine iT rfl ?_
        | refine iF rfl ⟨_, rfl, t2, _, _, _, rfl, rfl, SqT.of g2, rfl, ?_⟩
      refine ⟨_, rfl, t1, _, _, _, rfl, rfl, SqT.of g1, rfl, _, rfl, ?_⟩
      first
        | exact iT rfl ⟨by show 2 ≤ sizeLine; decide, fun t ht => fin _ t (Same.upd ht) upd_same⟩
        | exact iF rfl ⟨_, rfl, t2, _, _, _, rfl, rfl, SqT.of g2, rfl, by show 2 ≤ sizeLine; decide, fun t ht => fin _ t (Same.upd ht) upd_same⟩
  | @push p c q y b1 n1 n2 hp ha h1 =>
    have hn' : bdDep b1 + 1 ≤ n + 1 := hn
    refine ⟨_, rfl, p, _, _, _, rfl, rfl, SqT.of hp, rfl, ?_⟩
    refine ⟨_, rfl, rfl, _, rfl, dF (by decide) ?_⟩
    refine ⟨_, rfl, rfl, _, rfl, dF (by decide) ?_⟩
    refine ⟨_, rfl, rfl, _, rfl, iF (by decide) ?_⟩
    refine ⟨_, rfl, p, _, _, _, rfl, rfl, SqT.of hp, rfl, _, rfl, _, rfl, y, aF, aA, af, ac, sl, b1, fs, cs, F, Ar, rfl, h1, by omega, hF, hA, fun g hg => hcf g (by simp [KM.Bd.calls, hg]), fun g hg => hcp g (by simp [KM.Bd.pushes, hg]), fun u H1 s1 ⟨t1, e1, g1⟩ => ?_⟩
    subst e1
    obtain ⟨u, gu, ⟨t2, e2, rfl, g2, ⟨t3, rfl, g3⟩⟩⟩ := (hA.same rle_b2 s1).get (hcp c (by simp [KM.Bd.pushes]))
    refine ⟨t1, _, rfl, SqT.of g1, rfl, _, _, rfl, _, _, rfl, rfl, ?_⟩
    refine ⟨_, rfl, _, rfl, p, _, _, _, rfl, rfl, SqT.of (s1 _ _ hp), rfl, aA, _, rfl, gu, ?_⟩
    refine ⟨t2, _, rfl, SqT.of g2, rfl, _, _, rfl, _, _, rfl, rfl, ?_⟩
    have fin : ∀ (H' : Hp) (t : Addr), Same H1 H' → H' t = some (.tup [.bl (KM.cen F Ar (.push c b1)).1, .bl (KM.cen F Ar (.push c b1)).2]) → Q (.ref t) H' := fun H' t s h => kk _ _ (s1.trans s) ⟨t, rfl, h⟩
    simp only [KM.cen] at fin
    generalize KM.cen F Ar b1 = e1 at g1 fin
    generalize Ar c = e2 at g2 g3 fin
    obtain ⟨a1, a2⟩ := e1
    obtain ⟨kd, c1, c2⟩ := e2
    cases kd
    · refine ⟨_, rfl, rfl, _, rfl, dF (show ¬ V.str (kindS false) = V.str "back" by decide) ?_⟩
      cases a1 <;> cases c1 <;> cases a2 <;> cases c2
      all_goals
        refine ⟨_, rfl, _, rfl, ?_⟩
        first
          | refine iT rfl ?_
          | (refine iF rfl ⟨_, rfl, _, rfl, ?_⟩
             first
               | refine iT rfl ⟨_, rfl, t3, _, _, _, rfl, rfl, SqT.of g3, rfl, ?_⟩
               | refine iF rfl ?_)
        refine ⟨_, rfl, _, rfl, ?_⟩
        first
          | exact iT rfl ⟨_, rfl, t3, _, _, _, rfl, rfl, SqT.of g3, rfl, by show 2 ≤ sizeLine; decide, fun t ht => fin _ t (Same.upd ht) upd_same⟩
          | exact iF rfl ⟨by show 2 ≤ sizeLine; decide, fun t ht => fin _ t (Same.upd ht) upd_same⟩
    · refine ⟨_, rfl, rfl, _, rfl, dT (show V.str (kindS true) = V.str "back" by decide) ?_⟩
      cases a1 <;> cases c1 <;> cases a2 <;> cases c2
      all_goals
        refine ⟨_, rfl, _, rfl, ?_⟩
        first
          | refine iT rfl ⟨_, rfl, t3, _, _, _, rfl, rfl, SqT.of g3, rfl, ?_⟩
          | refine iF rfl ?_
        refine ⟨_, rfl, _, rfl, ?_⟩
        first
          | exact iT rfl ⟨by show 2 ≤ sizeLine; decide, fun t ht => fin _ t (Same.upd ht) upd_same⟩
          | (refine iF rfl ⟨_, rfl, _, rfl, ?_⟩
             first
               | exact iT rfl ⟨_, rfl, t3, _, _, _, rfl, rfl, SqT.of g3, rfl, by show 2 ≤ sizeLine; decide, fun t ht => fin _ t (Same.upd ht) upd_same⟩
               | exact iF rfl ⟨by show 2 ≤ sizeLine; decide, fun t ht => fin _ t (Same.upd ht) upd_same⟩)
theorem c_can_end (T : Txt K mg) : ∀ n, Cal P w K mg base (1 + n) "can_end" (spEnds B2V KM.cen n)
  | 0 => by
    refine cal_of T.d_can_end sc_can_end (fun _ _ _ _ _ _ us hl => match us, hl with | [_, _, _], _ => rfl) (fun vs H Q E h => spEnds_len h) (fun f cdv A outer s H vs Q E hr h => ?_)
    obtain ⟨v, aF, aA, af, ac, sl, b, fs, cs, F, Ar, rfl, hb, hn, _⟩ := h
    have := bdDep_pos b
    omega
  | n + 1 => can_step T (c_can_end T n)
end
end K52

namespace K52
open PySem PySem.Spec PyProof.Rows L2
theorem tcons_of {t : TE} {u : TA} {σ : L2.St} {H : Hp} {Q : List V → Hp → Prop} (h : t σ H fun x H1 => u σ H1 fun xs H2 => Q (x :: xs) H2) : tCons t u σ H Q := h
theorem seq_of {t u : TS} {D : Ends} {σ : L2.St} {H : Hp} (h : t { D with nx := u D } σ H) : tSeq t u D σ H := h
theorem tpar_of {i j : Nat} {ta : TA} {D : Ends} {σ : L2.St} {H : Hp} (h : ta σ H fun vs H1 => ∃ v w, vs = [v, w] ∧ D.nx ((σ.set i (some v)).set j (some w)) H1) : tPar i j ta D σ H := h
theorem mk_bits0 {C : Addr} {σ : L2.St} {H : Hp} {Q : VK} {n : Nat} (hn : n ≤ 1000) (k : ∀ v H', Same H H' → ScV C H' ⟨n, []⟩ v → Q v H') : tMake C (spInit C) [] E0 (tCons (tC (.int (n : Nat))) (tCons (tTup tNil) tNil)) σ H Q :=
  ⟨by decide, fun t ht x dx h1 h2 h3 => make_sc (b := []) rfl upd_same (Nat.zero_le _) hn (fun v H' s' h' => k v H' ((Same.upd ht).trans s') h') x dx h1 h2 h3⟩
theorem mk_bits1 {C : Addr} {σ : L2.St} {H : Hp} {Q : VK} (b : Bool) (k : ∀ v H', Same H H' → ScV C H' ⟨1, [b]⟩ v → Q v H') : tMake C (spInit C) [] E0 (tCons (tC (.int 1)) (tCons (tTup (tCons (tC (.int (bI b))) tNil)) tNil)) σ H Q :=
  ⟨by show 1 ≤ sizeLine; decide, fun t ht x dx h1 h2 h3 => make_sc (b := [b]) (n := 1) rfl upd_same (Nat.le_refl _) (by decide) (fun v H' s' h' => k v H' ((Same.upd ht).trans s') h') x dx h1 h2 h3⟩
section
variable {P : Program} {w : World} {K : PySem.W.Frag} {mg : Str → Option Value} {base : Heap}
theorem least_step (T : Txt K mg) {n k : Nat} (hk6 : 6 ≤ k) (c_least_end : Cal P w K mg base k "least_end" (spEnds (E2V (cS K)) KM.lend n)) : Cal P w K mg base (k + 1) "least_end" (spEnds (E2V (cS K)) KM.lend (n + 1)) := by
  have c_joined := c_joined (P := P) (w := w) (base := base) T
  have c_least_of := c_least_of (P := P) (w := w) (base := base) T
  have c_entered_by := c_entered_by (P := P) (w := w) (base := base) T
  have mi := m_init (P := P) (w := w) (base := base) T
  obtain ⟨fdi, psi, Fi, bi⟩ := mi.ex
  refine cal_of T.d_least_end sc_least_end (fun _ _ _ _ _ _ us hl => match us, hl with | [_, _, _], _ => rfl) (fun vs H Q E h => spEnds_len h) (fun f cdv A outer s H vs Q E hr h => ?_)
  obtain ⟨v, aF, aA, af, ac, sl, b, fs, cs, F, Ar, rfl, hb, hn, hF, hA, hcf, hcp, kk⟩ := h
  have nd := sc_least_end.nd
  have hu := hu_of hr
  refine ⟨_, (pss_cons (ps_par (i := 3) (j := 4) (by rfl) nd rfl rfl (by decide) rfl rfl (pa_cons (pe_ix ix_tup (pv 0) pe_int (fun _ _ => rfl)) (pa_cons (pe_make T.mkS Fi (hr.mono (by omega)) rfl T.g_Script bi .nil pass0 (pa_cons pe_int (pa_cons (pe_tup pa_nil) pa_nil))) pa_nil)) (by rfl))
  (pss_cons (ps_if (pt_cmpR op_eq (pv 3) pe_str (nomark _)) (pss_cons (ps_set (i := 5) nd rfl (Or.inl rfl) (pe_dget hu (pv 1) (pe_ix ix_tup (pv 0) pe_int (fun _ _ => rfl)) (fun _ _ => rfl)))
  (pss_one (ps_ret (pe_tup (pa_cons (pe_c c_joined hr (by omega) rfl (pa_cons (pv 4) (pa_cons (pe_ix ix_tup (pv 5) pe_int (fun _ _ => rfl)) pa_nil))) (pa_cons (pe_c c_joined hr (by omega) rfl (pa_cons (pv 4) (pa_cons (pe_ix ix_tup (pv 5) pe_int (fun _ _ => rfl)) pa_nil))) pa_nil)))))) pss_nil)
  (pss_cons (ps_if (pt_cmpR op_eq (pv 3) pe_str (nomark _)) (pss_cons (ps_par (i := 6) (j := 7) (by rfl) nd rfl rfl (by decide) rfl rfl (pa_cons (pe_c c_least_end hr (by omega) rfl (pa_cons (pe_ix ix_tup (pv 0) pe_int (fun _ _ => rfl)) (pa_cons (pv 1) (pa_cons (pv 2) pa_nil)))) (pa_cons (pe_c c_least_end hr (by omega) rfl (pa_cons (pe_ix ix_tup (pv 0) pe_int (fun _ _ => rfl)) (pa_cons (pv 1) (pa_cons (pv 2) pa_nil)))) pa_nil)) (by rfl))
  (pss_cons (ps_par (i := 8) (j := 9) (by rfl) nd rfl rfl (by decide) rfl rfl (pa_cons (pe_make T.mkS Fi (hr.mono (by omega)) rfl T.g_Script bi .nil pass0 (pa_cons pe_int (pa_cons (pe_tup (pa_cons pe_int pa_nil)) pa_nil))) (pa_cons (pe_make T.mkS Fi (hr.mono (by omega)) rfl T.g_Script bi .nil pass0 (pa_cons pe_int (pa_cons (pe_tup (pa_cons pe_int pa_nil)) pa_nil))) pa_nil)) (by rfl))
  (pss_cons (ps_set (i := 10) nd rfl (Or.inl rfl) (pe_c c_least_of hr (by omega) rfl (pa_cons (pe_lst (pa_cons (pe_c c_joined hr (by omega) rfl (pa_cons (pv 8) (pa_cons (pe_ix ix_tup (pv 6) pe_int (fun _ _ => rfl)) pa_nil))) (pa_cons (pe_c c_joined hr (by omega) rfl (pa_cons (pv 9) (pa_cons (pe_ix ix_tup (pv 7) pe_int (fun _ _ => rfl)) pa_nil))) pa_nil))) pa_nil)))
  (pss_one (ps_ret (pe_tup (pa_cons (pv 10) (pa_cons (pe_c c_least_of hr (by omega) rfl (pa_cons (pe_lst (pa_cons (pe_c c_joined hr (by omega) rfl (pa_cons (pv 8) (pa_cons (pe_ix ix_tup (pv 6) pe_int (fun _ _ => rfl)) pa_nil))) (pa_cons (pe_c c_joined hr (by omega) rfl (pa_cons (pv 9) (pa_cons (pe_ix ix_tup (pv 7) pe_int (fun _ _ => rfl)) pa_nil))) pa_nil))) pa_nil)) pa_nil)))))))) pss_nil)
  (pss_cons (ps_if (pt_cmpR op_ne (pv 3) pe_str (nomark _)) (pss_one (ps_ret (pe_ifExp (pt_cmpR op_eq (pv 3) pe_str (nomark _)) (pe_tup (pa_cons pe_non (pa_cons (pv 4) pa_nil))) (pe_tup (pa_cons (pv 4) (pa_cons pe_non pa_nil)))))) pss_nil)
  (pss_cons (ps_set (i := 11) nd rfl (Or.inl rfl) (pe_c c_least_end hr (by omega) rfl (pa_cons (pe_ix ix_tup (pv 0) pe_int (fun _ _ => rfl)) (pa_cons (pv 1) (pa_cons (pv 2) pa_nil)))))
  (pss_cons (ps_par (i := 10) (j := 12) (by rfl) nd rfl rfl (by decide) rfl rfl (pa_cons (pe_c c_joined hr (by omega) rfl (pa_cons (pv 4) (pa_cons (pe_ix ix_tup (pv 11) pe_int (fun _ _ => rfl)) pa_nil))) (pa_cons (pe_c c_joined hr (by omega) rfl (pa_cons (pv 4) (pa_cons (pe_ix ix_tup (pv 11) pe_int (fun _ _ => rfl)) pa_nil))) pa_nil)) (by rfl))
  (pss_cons (ps_asg (pe_dget hu (pv 2) (pe_ix ix_tup (pv 0) pe_int (fun _ _ => rfl)) (fun _ _ => rfl)) (pg_tup (by rfl) (pgs_cons (pg_name (i := 13) nd rfl (Or.inl rfl)) (pgs_cons (pg_name (i := 5) nd rfl (Or.inl rfl)) pgs_nil))))
  (pss_cons (ps_set (i := 14) nd rfl (Or.inl rfl) (pe_c c_joined hr (by omega) rfl (pa_cons (pe_c c_entered_by hr (by omega) rfl (pa_cons (pv 13) (pa_cons (pe_tup (pa_cons (pv 10) (pa_cons (pv 12) pa_nil))) pa_nil))) (pa_cons (pv 4) pa_nil))))
  (pss_cons (ps_if (pt_cmpR op_eq (pv 13) pe_str (nomark _)) (pss_one (ps_ret (pe_tup (pa_cons (pe_c c_joined hr (by omega) rfl (pa_cons (pv 14) (pa_cons (pe_ix ix_tup (pv 5) pe_int (fun _ _ => rfl)) pa_nil))) (pa_cons (pe_c c_least_of hr (by omega) rfl (pa_cons (pe_lst (pa_cons (pv 12) (pa_cons (pe_c c_joined hr (by omega) rfl (pa_cons (pv 14) (pa_cons (pe_ix ix_tup (pv 5) pe_int (fun _ _ => rfl)) pa_nil))) pa_nil))) pa_nil)) pa_nil))))) pss_nil)
  (pss_one (ps_ret (pe_tup (pa_cons (pe_c c_least_of hr (by omega) rfl (pa_cons (pe_lst (pa_cons (pv 10) (pa_cons (pe_c c_joined hr (by omega) rfl (pa_cons (pv 14) (pa_cons (pe_ix ix_tup (pv 5) pe_int (fun _ _ => rfl)) pa_nil))) pa_nil))) pa_nil)) (pa_cons (pe_c c_joined hr (by omega) rfl (pa_cons (pv 14) (pa_cons (pe_ix ix_tup (pv 5) pe_int (fun _ _ => rfl)) pa_nil))) pa_nil)))))))))))))), ?_⟩
  have leaf : ∀ (r : Bool) (H' : Hp) (t : Addr) (x : V), Same H H' → OsV (cS K) H' KM.one x → H' t = some (.tup (if r then [.non, x] else [x, .non])) → b = .leaf r → Q (.ref t) H' := fun r H' t x s hx h e => kk _ _ s (by
    subst e
    cases r
    · exact ⟨t, x, .non, rfl, h, hx, rfl⟩
    · exact ⟨t, .non, x, rfl, h, rfl, hx⟩)
  cases hb with
  | @ret p x hp ha =>
    refine ⟨_, rfl, p, _, _, _, rfl, rfl, SqT.of hp, rfl, ?_⟩
    refine tcons_of (mk_bits0 (n := 1) (by decide) fun o H1 s1 ho => ⟨_, _, rfl, ?_⟩)
    refine ⟨_, rfl, rfl, _, rfl, dF (by decide) ?_⟩
    refine ⟨_, rfl, rfl, _, rfl, dF (by decide) ?_⟩
    refine ⟨_, rfl, rfl, _, rfl, iT (by decide) ?_⟩
    refine ⟨_, rfl, rfl, _, rfl, dF (by decide) ?_⟩
    exact ⟨_, rfl, by show 2 ≤ sizeLine; decide, fun t ht => leaf false _ t o (s1.trans (Same.upd ht)) (ScV.le (Le.new ht) ho) (by rw [upd_same]; rfl) rfl⟩
  | @rai p x hp ha =>
    refine ⟨_, rfl, p, _, _, _, rfl, rfl, SqT.of hp, rfl, ?_⟩
    refine tcons_of (mk_bits0 (n := 1) (by decide) fun o H1 s1 ho => ⟨_, _, rfl, ?_⟩)
    refine ⟨_, rfl, rfl, _, rfl, dF (by decide) ?_⟩
    refine ⟨_, rfl, rfl, _, rfl, dF (by decide) ?_⟩
    refine ⟨_, rfl, rfl, _, rfl, iT (by decide) ?_⟩
    refine ⟨_, rfl, rfl, _, rfl, dT (by decide) ?_⟩
    exact ⟨_, rfl, by show 2 ≤ sizeLine; decide, fun t ht => leaf true _ t o (s1.trans (Same.upd ht)) (ScV.le (Le.new ht) ho) (by rw [upd_same]; rfl) rfl⟩
  | @ask p nm q m n1 n2 hp ha =>
    refine ⟨_, rfl, p, _, _, _, rfl, rfl, SqT.of hp, rfl, ?_⟩
    refine tcons_of (mk_bits0 (n := 1) (by decide) fun o H1 s1 ho => ⟨_, _, rfl, ?_⟩)
    refine ⟨_, rfl, rfl, _, rfl, dF (by decide) ?_⟩
    refine ⟨_, rfl, rfl, _, rfl, dF (by decide) ?_⟩
    refine ⟨_, rfl, rfl, _, rfl, iT (by decide) ?_⟩
    refine ⟨_, rfl, rfl, _, rfl, dF (by decide) ?_⟩
    exact ⟨_, rfl, by show 2 ≤ sizeLine; decide, fun t ht => leaf false _ t o (s1.trans (Same.upd ht)) (ScV.le (Le.new ht) ho) (by rw [upd_same]; rfl) rfl⟩
  | @call p g q n1 n2 hp ha =>
    refine ⟨_, rfl, p, _, _, _, rfl, rfl, SqT.of hp, rfl, ?_⟩
    refine tcons_of (mk_bits0 (n := 1) (by decide) fun o H1 s1 ho => ⟨_, _, rfl, ?_⟩)
    obtain ⟨u, gu, ⟨t, x, y, rfl, ht, hx, hy⟩⟩ := (hF.same rle_e2 s1).get (hcf g (by simp [KM.Bd.calls]))
    refine ⟨_, rfl, rfl, _, rfl, dT (by decide) ?_⟩
    refine ⟨_, rfl, _, rfl, p, _, _, _, rfl, rfl, SqT.of (s1 _ _ hp), rfl, aF, _, rfl, gu, ?_⟩
    refine ⟨_, rfl, _, rfl, t, _, _, _, rfl, rfl, SqT.of ht, rfl, o, x, KM.one, _, rfl, ho, hx, fun v1 H2 s2 hv1 => ?_⟩
    refine ⟨_, rfl, _, rfl, t, _, _, _, rfl, rfl, SqT.of (s2 _ _ ht), rfl, o, y, KM.one, _, rfl, OsV.le (s := KM.one) (Same.le s2) ho, hy.le (Same.le s2), fun v2 H3 s3 hv2 => ?_⟩
    refine ⟨by show 2 ≤ sizeLine; decide, fun r hr' => ?_⟩
    have s4 := (s2.trans s3).trans (Same.upd (o := .tup [v1, v2]) hr')
    exact kk _ _ (s1.trans s4) ⟨r, v1, v2, rfl, upd_same, hv1.le (Same.le (s3.trans (Same.upd hr'))), hv2.le (Le.new hr')⟩
  | @test p nm q m y z b1 b2 n1 n2 hp ha h1 h2 =>
    have hn' : max (bdDep b1) (bdDep b2) + 1 ≤ n + 1 := hn
    refine ⟨_, rfl, p, _, _, _, rfl, rfl, SqT.of hp, rfl, ?_⟩
    refine tcons_of (mk_bits0 (n := 1) (by decide) fun o H1 s1 ho => ⟨_, _, rfl, ?_⟩)
    refine ⟨_, rfl, rfl, _, rfl, dF (by decide) ?_⟩
    refine ⟨_, rfl, rfl, _, rfl, dT (by decide) ?_⟩
    refine ⟨_, rfl, p, _, _, _, rfl, rfl, SqT.of (s1 _ _ hp), rfl, _, rfl, _, rfl, y, aF, aA, af, ac, sl, b1, fs, cs, F, Ar, rfl, h1.le (Same.le s1), by omega, hF.same rle_e2 s1, hA.same rle_e2 s1, fun g hg => hcf g (by simp [KM.Bd.calls, hg]), fun g hg => hcp g (by simp [KM.Bd.pushes, hg]), fun u H2 s2 ⟨t1, x1, y1, e1, g1, gx1, gy1⟩ => ?_⟩
    subst e1
    have s12 := s1.trans s2
    refine ⟨_, rfl, p, _, _, _, rfl, rfl, SqT.of (s12 _ _ hp), rfl, _, rfl, _, rfl, z, aF, aA, af, ac, sl, b2, fs, cs, F, Ar, rfl, h2.le (Same.le s12), by omega, hF.same rle_e2 s12, hA.same rle_e2 s12, fun g hg => hcf g (by simp [KM.Bd.calls, hg]), fun g hg => hcp g (by simp [KM.Bd.pushes, hg]), fun u H3 s3 ⟨t2, x2, y2, e2, g2, gx2, gy2⟩ => ⟨_, _, rfl, ?_⟩⟩
    subst e2
    refine seq_of (tpar_of (tcons_of (mk_bits1 true fun o1 H4 s4 ho1 => ?_)))
    refine tcons_of (mk_bits1 false fun o2 H5 s5 ho2 => ⟨_, _, rfl, ?_⟩)
    have s35 := s3.trans (s4.trans s5)
    have s45 := s4.trans s5
    have g1 := s35 _ _ g1
    have gx1 := gx1.le (Same.le s35)
    have gy1 := gy1.le (Same.le s35)
    have g2 := s45 _ _ g2
    have gx2 := gx2.le (Same.le s45)
    have gy2 := gy2.le (Same.le s45)
    have ho1 : OsV (cS K) H5 (KM.bitS true) o1 := ScV.le (Same.le s5) ho1
    have ho2 : OsV (cS K) H5 (KM.bitS false) o2 := ho2
    have sA := s12.trans s35
    refine ⟨_, rfl, _, rfl, t1, _, _, _, rfl, rfl, SqT.of g1, rfl, o1, x1, _, _, rfl, ho1, gx1, fun v1 H6 s6 hv1 => ?_⟩
    refine ⟨_, rfl, _, rfl, t2, _, _, _, rfl, rfl, SqT.of (s6 _ _ g2), rfl, o2, x2, _, _, rfl, ho2.le (Same.le s6), gx2.le (Same.le s6), fun v2 H7 s7 hv2 => ?_⟩
    refine ⟨by show 2 ≤ sizeLine; decide, fun r1 hr1 => ?_⟩
    have s8 := Same.upd (o := .lst [v1, v2]) hr1
    refine ⟨r1, _, _, rfl, upd_same, .cons (hv1.le (Same.le (s7.trans s8))) (.cons (hv2.le (Same.le s8)) .nil), fun v3 H8 s9 hv3 => ⟨_, rfl, ?_⟩⟩
    have sB := (s6.trans s7).trans (s8.trans s9)
    have g1 := sB _ _ g1
    have g2 := sB _ _ g2
    refine ⟨_, rfl, _, rfl, t1, _, _, _, rfl, rfl, SqT.of g1, rfl, o1, y1, _, _, rfl, ho1.le (Same.le sB), gy1.le (Same.le sB), fun v4 H9 s10 hv4 => ?_⟩
    refine ⟨_, rfl, _, rfl, t2, _, _, _, rfl, rfl, SqT.of (s10 _ _ g2), rfl, o2, y2, _, _, rfl, ho2.le (Same.le (sB.trans s10)), gy2.le (Same.le (sB.trans s10)), fun v5 H10 s11 hv5 => ?_⟩
    refine ⟨by show 2 ≤ sizeLine; decide, fun r2 hr2 => ?_⟩
    have s12' := Same.upd (o := .lst [v4, v5]) hr2
    refine ⟨r2, _, _, rfl, upd_same, .cons (hv4.le (Same.le (s11.trans s12'))) (.cons (hv5.le (Same.le s12')) .nil), fun v6 H11 s13 hv6 => ?_⟩
    refine ⟨by show 2 ≤ sizeLine; decide, fun r3 hr3 => ?_⟩
    have sC := (s10.trans s11).trans (s12'.trans s13)
    have sD := Same.upd (o := .tup [v3, v6]) hr3
    exact kk _ _ ((sA.trans sB).trans (sC.trans sD)) ⟨r3, v3, v6, rfl, upd_same, hv3.le (Same.le (sC.trans sD)), hv6.le (Same.le sD)⟩
  | @push p c q y b1 n1 n2 hp ha h1 =>
    have hn' : bdDep b1 + 1 ≤ n + 1 := hn
    refine ⟨_, rfl, p, _, _, _, rfl, rfl, SqT.of hp, rfl, ?_⟩
    refine tcons_of (mk_bits0 (n := 1) (by decide) fun o H1 s1 ho => ⟨_, _, rfl, ?_⟩)
    have ho : OsV (cS K) H1 KM.one o := ho
    refine ⟨_, rfl, rfl, _, rfl, dF (by decide) ?_⟩
    refine ⟨_, rfl, rfl, _, rfl, dF (by decide) ?_⟩
    refine ⟨_, rfl, rfl, _, rfl, iF (by decide) ?_⟩
    refine ⟨_, rfl, p, _, _, _, rfl, rfl, SqT.of (s1 _ _ hp), rfl, _, rfl, _, rfl, y, aF, aA, af, ac, sl, b1, fs, cs, F, Ar, rfl, h1.le (Same.le s1), by omega, hF.same rle_e2 s1, hA.same rle_e2 s1, fun g hg => hcf g (by simp [KM.Bd.calls, hg]), fun g hg => hcp g (by simp [KM.Bd.pushes, hg]), fun u H2 s2 ⟨t1, x1, y1, e1, g1, gx1, gy1⟩ => ?_⟩
    subst e1
    have ho2 := ho.le (Same.le s2)
    have s12 := s1.trans s2
    refine ⟨_, rfl, _, rfl, t1, _, _, _, rfl, rfl, SqT.of g1, rfl, o, x1, _, _, rfl, ho2, gx1, fun v1 H3 s3 hv1 => ?_⟩
    refine ⟨_, rfl, _, rfl, t1, _, _, _, rfl, rfl, SqT.of (s3 _ _ g1), rfl, o, y1, _, _, rfl, ho2.le (Same.le s3), gy1.le (Same.le s3), fun v2 H4 s4 hv2 => ⟨_, _, rfl, ?_⟩⟩
    have s14 := s12.trans (s3.trans s4)
    have hv1 := hv1.le (Same.le s4)
    have ho4 := ho2.le (Same.le (s3.trans s4))
    obtain ⟨u, gu, ⟨t2, e2, rfl, g2, ⟨t3, x3, y3, rfl, g3, gx3, gy3⟩⟩⟩ := (hA.same rle_e2 s14).get (hcp c (by simp [KM.Bd.pushes]))
    refine ⟨_, rfl, _, rfl, p, _, _, _, rfl, rfl, SqT.of (s14 _ _ hp), rfl, aA, _, rfl, gu, ?_⟩
    refine ⟨t2, _, rfl, SqT.of g2, rfl, _, _, rfl, _, _, rfl, rfl, ?_⟩
    have fin : ∀ (H' : Hp) (t : Addr) (x y : V), Same H4 H' → H' t = some (.tup [x, y]) → OsV (cS K) H' (KM.lend F Ar (.push c b1)).1 x → OsV (cS K) H' (KM.lend F Ar (.push c b1)).2 y → Q (.ref t) H' := fun H' t x y s h hx hy => kk _ _ (s14.trans s) ⟨t, x, y, rfl, h, hx, hy⟩
    simp only [KM.lend] at fin
    generalize KM.pl KM.one (KM.lend F Ar b1).1 = R1 at hv1 fin
    generalize KM.pl KM.one (KM.lend F Ar b1).2 = R2 at hv2 fin
    generalize Ar c = e2 at g2 g3 gx3 gy3 fin
    obtain ⟨kd, c1, c2⟩ := e2
    -- entered
    refine ⟨_, rfl, _, rfl, _, rfl, by show 2 ≤ sizeLine; decide, fun r1 hr1 => ?_⟩
    have s5 := Same.upd (o := .tup [v1, v2]) hr1
    refine ⟨kd, r1, v1, v2, rfl, upd_same, _, rfl, _, o, (if kd then R1 else R2), KM.one, rfl, ?_, ho4.le (Same.le s5), fun v3 H5 s6 hv3 => ?_⟩
    · cases kd
      · exact hv2.le (Same.le s5)
      · exact hv1.le (Same.le s5)
    have s46 := s5.trans s6
    have g3 := s46 _ _ g3
    have gx3 := gx3.le (Same.le s46)
    have gy3 := gy3.le (Same.le s46)
    have hv1 := hv1.le (Same.le s46)
    have hv2 := hv2.le (Same.le s46)
    cases kd
    · refine ⟨_, rfl, rfl, _, rfl, dF (show ¬ V.str (kindS false) = V.str "back" by decide) ?_⟩
      refine ⟨_, rfl, _, rfl, _, rfl, t3, _, _, _, rfl, rfl, SqT.of g3, rfl, v3, x3, _, _, rfl, hv3, gx3, fun v4 H6 s7 hv4 => ?_⟩
      refine ⟨by show 2 ≤ sizeLine; decide, fun r2 hr2 => ?_⟩
      have s8 := Same.upd (o := .lst [v1, v4]) hr2
      refine ⟨r2, _, _, rfl, upd_same, .cons (hv1.le (Same.le (s7.trans s8))) (.cons (hv4.le (Same.le s8)) .nil), fun v5 H7 s9 hv5 => ?_⟩
      have s79 := s7.trans (s8.trans s9)
      refine ⟨_, rfl, _, rfl, t3, _, _, _, rfl, rfl, SqT.of (s79 _ _ g3), rfl, v3, y3, _, _, rfl, hv3.le (Same.le s79), gy3.le (Same.le s79), fun v6 H8 s10 hv6 => ?_⟩
      refine ⟨by show 2 ≤ sizeLine; decide, fun r3 hr3 => ?_⟩
      have s11 := Same.upd (o := .tup [v5, v6]) hr3
      exact fin _ r3 v5 v6 (s46.trans (s79.trans (s10.trans s11))) upd_same (hv5.le (Same.le (s10.trans s11))) (hv6.le (Same.le s11))
    · refine ⟨_, rfl, rfl, _, rfl, dT (show V.str (kindS true) = V.str "back" by decide) ?_⟩
      refine ⟨_, rfl, _, rfl, t3, _, _, _, rfl, rfl, SqT.of g3, rfl, v3, x3, _, _, rfl, hv3, gx3, fun v4 H6 s7 hv4 => ?_⟩
      refine ⟨_, rfl, _, rfl, _, rfl, t3, _, _, _, rfl, rfl, SqT.of (s7 _ _ g3), rfl, v3, y3, _, _, rfl, hv3.le (Same.le s7), gy3.le (Same.le s7), fun v5 H7 s8 hv5 => ?_⟩
      refine ⟨by show 2 ≤ sizeLine; decide, fun r2 hr2 => ?_⟩
      have s9 := Same.upd (o := .lst [v2, v5]) hr2
      refine ⟨r2, _, _, rfl, upd_same, .cons (hv2.le (Same.le ((s7.trans s8).trans s9))) (.cons (hv5.le (Same.le s9)) .nil), fun v6 H8 s10 hv6 => ?_⟩
      refine ⟨by show 2 ≤ sizeLine; decide, fun r3 hr3 => ?_⟩
      have s11 := Same.upd (o := .tup [v4, v6]) hr3
      exact fin _ r3 v4 v6 (s46.trans (((s7.trans s8).trans (s9.trans s10)).trans s11)) upd_same (hv4.le (Same.le ((s8.trans (s9.trans s10)).trans s11))) (hv6.le (Same.le s11))
theorem c_least_end (T : Txt K mg) : ∀ n, Cal P w K mg base (7 + n) "least_end" (spEnds (E2V (cS K)) KM.lend n)
  | 0 => by
    refine Cal.mono (j := 1) ?_ (by omega)
    refine cal_of T.d_least_end sc_least_end (fun _ _ _ _ _ _ us hl => match us, hl with | [_, _, _], _ => rfl) (fun vs H Q E h => spEnds_len h) (fun f cdv A outer s H vs Q E hr h => ?_)
    obtain ⟨v, aF, aA, af, ac, sl, b, fs, cs, F, Ar, rfl, hb, hn, _⟩ := h
    have := bdDep_pos b
    omega
  | n + 1 => least_step T (k := 7 + n) (by omega) (c_least_end T n)
end
end K52

namespace K52
open PySem PySem.Spec PyProof.Rows L2
/-- a tuple's iterator at its start -/
def ItTO (l it : Addr) : HO := .ext fun h => h.IsTupleIter it l 0
theorem itTO_ok {P : Program} {w : World} {H : Hp} {h : Heap} {l it : Addr} (e : h.IsTupleIter it l 0) : ObjOk P w H h it (ItTO l it) := by
  refine ⟨e, ?_, fun h1 h2 x k => ?_⟩
  · obtain ⟨o, ho, _⟩ := e
    exact ⟨o, ho⟩
  · obtain ⟨o, ho, r⟩ := x
    exact ⟨o, k o ho, r⟩
section
variable {prog : Program} {w : World} {A : Around} {E : Value → Shared → Prop} {s : Shared} {l : Addr} {items : Array Value}
theorem call_iter_tup {Q : Value → Shared → Prop} (hl : s.heap.IsTuple l items) (h : Q (.ref s.heap.objs.size) { s with heap := s.heap.push { cls := .type "tuple_iterator", data := .fields #[.ref l, .int 0 0] } }) : wpAny (model prog w) A (call (.builtin "iter") [.ref l]) Q E s := by
  refine Calls.call_function_entry (by decide +kernel) (by decide +kernel) PySem.W.kdk_entry_iter (PySem.W.kdk_args_iter _) ?_
  unfold Builtin.«iter»
  refine wpAny_bind (m := someArgs "iter" 1 2 _) (wpAny_of_eq (a := [Value.ref l]) (by first | rfl | kernel_rfl!) ?_)
  show wpAny _ _ (pyIter (.ref l) >>= _) _ _ _
  refine wpAny_bind (wpAny_pyIter_tuple hl ?_)
  exact wpAny_pure ⟨_, rfl, h⟩
end
def rIterT (K : PySem.W.Frag) : List V → Hp → VK → Prop := fun xs H Q => ∃ (l : Addr) (zs : List V), xs = [.ref l] ∧ SqT K H l zs ∧ ∀ it, H it = none → Q (.ref it) (upd H it (ItTO l it))
section
variable {X : Cx} {CX : CXT} {C f : Addr} {fd : FuncData} {ps : List Str} {n : Nat} {sp : Sp} {E : XK} {tg e i : Expr} {te ti : TE} {pos : Pos}
theorem call_iterT : CallR X (.builtin "iter") (rIterT X.K) := by
  intro pins s σ H xs us Q I r h
  obtain ⟨l, zs, rfl, hq, q⟩ := h
  obtain ⟨u, rfl, ru⟩ := vals1 r
  cases ru
  obtain ⟨its, rv, p, hz⟩ := I.tuple hq
  refine call_iter_tup (show s.heap.IsTuple l its.toArray from p) ?_
  exact ⟨.ref s.heap.objs.size, _, I.laid (t' := s.toks) (fun b u e => Heap.get?_push_of_some _ e) (Nat.le_refl _) (itTO_ok ⟨_, Heap.get?_push_size _ rfl, rfl, rfl⟩), rfl, q _ (I.hok.fresh (Nat.le_refl _))⟩
end
/-- a promise that knows the state at the call -/
abbrev SpS := Shared → Sp
structure FnS (P : Program) (w : World) (K : PySem.W.Frag) (mg : Str → Option Value) (base : Heap) (k : Nat) (f : Addr) (fd : FuncData) (ps : List Str) (sp : SpS) : Prop where
  len : ∀ s vs H Q E, sp s vs H Q E → vs.length = ps.length
  run : ∀ (A : Around) (outer : List Env) (s : Shared) (H : Hp) (args : Args) (us : List Value) (vs : List V) (Q : VK) (E : XK), Room k A → Env0 P w K mg base A outer s H → BindsTo s fd args (ps.zip us) → Vals vs us → sp s vs H Q E →
    codeAny (model P w) A (.call (.ref f) args) (CR CX0 outer P w H s Q E) s
theorem fnS_of {P : Program} {w : World} {K : PySem.W.Frag} {mg : Str → Option Value} {base : Heap} {m qual : Str} {st : Stmt} {N ps : List Str} {k : Nat} {sp : SpS} {f : Addr} {fd : FuncData} (F : FunD K m qual (defArgs st) (defBody st) (defScope st) [] [] f fd) (S : FnScope N ps (defScope st))
    (len : ∀ s vs H Q E, sp s vs H Q E → vs.length = ps.length)
    (hbody : ∀ (f : Addr) (cdv : Value) (A : Around) (outer : List Env) (s : Shared) (H : Hp) (vs : List V) (Q : VK) (E : XK), Room k (A.deeper (envOfC qual (defScope st) s.heap.objs.size f cdv)) → sp s vs H Q E →
      ∃ t, PSs (cxOf CX0 P w K mg base N qual (defScope st) f cdv A outer s H E) (defBody st) t ∧ t { nx := fun _ H' => Q .non H', rt := Q } (start N vs) H) : FnS P w K mg base (k + 1) f fd ps sp := by
  obtain ⟨oc, od, dV, kV, doc, pm, an, cdv, ct, osl, rfl, lk, hcd, _, _⟩ := F.ex
  refine ⟨len, fun A outer s H args us vs Q E hr e0 hb r hsp => ?_⟩
  have hl := len _ _ _ _ _ hsp
  have KX : K.In s.heap := e0.mod.kin.keeps fun b o e => (e0.bs b o e).1
  have lim : s.heap.NoLimit := e0.mod.nolimit.keeps fun b o e => (e0.bs b o e).1
  refine codeAny_call_function hr.depth (KX _ _ lk) rfl S.co S.gen rfl (PySem.W.codeRec_of KX hcd) (hb _ _ _ _ ?_)
  refine wpAny_newFunctionEnv_cells S.kind (fun ⟨n, v⟩ hy => ?_) fun env he s1 x => ?_
  · rcases S.par n (List.of_mem_zip hy).1 with q | q
    · exact .inl q
    · exact .inr ⟨q, PySem.W.cellsFrom_some _ _ _ (.inl q)⟩
  subst he
  refine ⟨lim.keeps x.toInCall.keep, codeAny_func ?_⟩
  obtain ⟨t, ht, hq⟩ := hbody f cdv A outer s H vs Q E (hr.deeper _) hsp
  have I : Inv (cxOf CX0 P w K mg base N qual (defScope st) f cdv A outer s H E) [] (start N vs) H s1 := inv_start S hr.hd e0 hl r x
  refine wpAny_mono (ht.run [] s1 (start N vs) H _ I hq) (fun fl s2 hs => ?_) fun e s2 hs => hs
  cases fl with
  | ret u =>
    obtain ⟨v, _, H2, J, rv, q⟩ := hs
    exact ⟨v, H2, J.os, J.bare, J.base, J.hok, rv, q⟩
  | next =>
    obtain ⟨_, H2, J, q⟩ := hs
    exact ⟨V.non, H2, J.os, J.bare, J.base, J.hok, rfl, q⟩
  | brk => obtain ⟨_, _, _, q⟩ := hs; exact False.elim q
  | cont => obtain ⟨_, _, _, q⟩ := hs; exact False.elim q
section
variable {X : Cx} {C f : Addr} {fd : FuncData} {ps : List Str} {n : Nat} {sp : SpS} {tg e i : Expr} {te ti : TE} {pos : Pos}
theorem call_iterTN : CallR X (.builtin "iter") (fun xs H Q => ∃ (l : Addr) (zs : List V), xs = [.ref l] ∧ SqT X.K H l zs ∧ ∀ it, H it = none → X.s_0.heap.objs.size ≤ it → Q (.ref it) (upd H it (ItTO l it))) := by
  intro pins s σ H xs us Q I r h
  obtain ⟨l, zs, rfl, hq, q⟩ := h
  obtain ⟨u, rfl, ru⟩ := vals1 r
  cases ru
  obtain ⟨its, rv, p, hz⟩ := I.tuple hq
  refine call_iter_tup (show s.heap.IsTuple l its.toArray from p) ?_
  exact ⟨.ref s.heap.objs.size, _, I.laid (t' := s.toks) (fun b u e => Heap.get?_push_of_some _ e) (Nat.le_refl _) (itTO_ok ⟨_, Heap.get?_push_size _ rfl, rfl, rfl⟩), rfl, q _ (I.hok.fresh (Nat.le_refl _)) I.sz⟩
/-- for x in o, o an instance of C whose own __iter__ gives a new tuple iterator -/
def iOwn (C : Addr) (sp : SpS) (te : TE) (K : PySem.W.Frag) : TI := fun σ H R => te σ H fun v H1 => ∃ a dx fs, v = .ref a ∧ H1 a = some (.ins C dx fs) ∧
  ∀ s : Shared, sp s [.ref a] H1 (fun z H2 => ∃ it l, z = .ref it ∧ s.heap.objs.size ≤ it ∧ H2 it = some (ItTO l it) ∧ R (Itt K l) (ItX.dropH H2 it)) E0
theorem pi_own (he : PE X e te) (hs : PySem.W.findIn X.K (.ref C) "__iter__" = some (some (.ref f))) (hf : PySem.W.isFn X.K (.ref f) = true) (F : FnS X.prog X.w X.K X.mg X.base n f fd ps sp) (hb : Binds X.K fd ps []) (hr : Room n X.A) : PI X tg e (iOwn C sp te X.K) := by
  refine ⟨fun pins s σ H R I h => ?_⟩
  refine thn (he.run pins s σ H _ I h) fun v s1 ⟨x, H1, I1, rx, a, dx, fs, ex, ha, q⟩ => ?_
  subst ex
  cases rx
  have q := q s1
  obtain ⟨_, _, J⟩ := ins_look I1 ha
  obtain ⟨m, hF⟩ := I1.fr
  refine PySem.W.owit_iter hF I1.ok.mod.kin J hs hf ?_
  have hl := F.len _ _ _ _ _ q
  have hv : Vals [V.ref a] ([Value.ref a] ++ []) := .cons rfl .nil
  refine wpAny_call (codeAny_mono (F.run X.A X.stack s1 H1 ⟨[.ref a], []⟩ ([.ref a] ++ []) [.ref a] _ E0 hr I1.env0 (hb s1 [.ref a] I1.kIn (by simpa using hl)) hv q) fun r s2 hq => ?_)
  cases r with
  | error e => exact hq.elim
  | ok fl =>
    cases fl with
    | next => exact False.elim hq
    | brk => exact False.elim hq
    | cont => exact False.elim hq
    | ret u =>
      obtain ⟨v, H2, os, bare, un, hok, rv, it, l, rfl, age, hi2, q2⟩ := id (show CE X.stack X.prog X.w H1 s1 _ u s2 from hq)
      obtain ⟨v', H2', I2, rv', e2⟩ := I1.after (Q := fun z H' => z = .ref it ∧ H' = H2) (show CE X.stack X.prog X.w H1 s1 _ u s2 from ⟨.ref it, H2, os, bare, un, hok, rv, rfl, rfl⟩)
      obtain ⟨rfl, rfl⟩ := e2
      cases rv
      have st : s2.heap.IsTupleIter it l 0 := (I2.hok it _ hi2).1
      show PySem.W.OwitIt _ _ _ _ (.ref it) s2
      unfold PySem.W.OwitIt
      refine wpAny_specialOf (name := "__next__") ⟨_, st.choose_spec.1, st.choose_spec.2.1⟩ PySem.F.slot_tuple_iterator_next.lookup ?_
      refine ⟨it, [it], _, _, ItX.dropH H2' it, rfl, ItX.inv_drop I2 hi2, turn_tuple l it, st, fun b hb' => ?_, q2⟩
      have e : b = it := by simpa using hb'
      rw [e]
      exact ItX.inv_fp I2 hi2 (Nat.le_trans I1.sz age)
end
/-! ### o[i] by an own __getitem__ -/
section
variable {X : Cx} {C f : Addr} {fd : FuncData} {ps : List Str} {n : Nat} {sp : Sp} {E : XK} {CX : CXT} {o i : Expr} {to ti : TE} {pos : Pos}
theorem pe_ixOwn (hs : PySem.W.findIn X.K (.ref C) "__getitem__" = some (some (.ref f))) (hfn : PySem.W.fnIn X.K f = true) (hf : PySem.W.isFn X.K (.ref f) = true) (F : FnOk X.prog X.w X.K X.mg X.base CX n f fd ps sp) (hb : Binds X.K fd ps []) (hr : Room (n + 1) X.A) (hx : Passes CX X E)
    (h1 : PE X o to) (h2 : PE X i ti) (hsl : ∀ (x : Addr) (u : Value), subscripted i true (.ref x) u = runValue (.builtin "lifetime.subscript" ⟨[.ref x, u], []⟩) := by intros; with_unfolding_all rfl) : PE X (.Subscript o i pos) (tOp (rOwnItem C sp E) to ti) := by
  refine ⟨fun pins s0 σ H0 Q I0 h0 => ?_⟩
  refine Subscript_ (binT h1 h2 I0 h0 fun v u s x y H I rx ry h => ?_)
  obtain ⟨a, dx, fs, rfl, ha, q⟩ := h
  cases rx
  obtain ⟨_, _, J⟩ := ins_look I ha
  obtain ⟨m, hF⟩ := I.fr
  refine PySem.W.sub_K hF I.ok.mod.kin J hs hfn hf ?_ (hsl a u)
  have hv : Vals [V.ref a, y] [Value.ref a, u] := .cons rfl (.cons ry .nil)
  refine wpAny_mono (own_call (A := X.A.in1) (P := Q) F hb hx ⟨hr.in1, rfl⟩ I hv q) (fun w s' z => ?_) fun _ _ e => e
  obtain ⟨z, H', I', rz, qz⟩ := z
  exact ⟨z, H', I', rz, qz⟩
end
end K52

namespace K52
open PySem PySem.Spec PyProof.Rows L2
section
variable {X : Cx} {o e : Expr} {to : TE} {t : TA} {apos cpos : Pos}
/-- tuple(list): the new tuple with its object -/
theorem call_tuple_frz : CallR X (.type "tuple") (fun xs H Q => ∃ p ys, xs = [.ref p] ∧ SqL X.K H p ys ∧ ∀ l ob, H l = none → ob.dict = none → Q (.ref l) (upd H l (.frz ob (.tup ys)))) := by
  intro pins s σ H xs us Q I r h
  obtain ⟨p, ys, rfl, hq, q⟩ := h
  obtain ⟨u, rfl, ru⟩ := vals1 r
  cases ru
  obtain ⟨its, r', pl, hz⟩ := I.list hq
  have hlen := r'.length
  refine call_tuple_list pl.isList (fun h' kp => ?_) (by simp only [List.size_toArray] <;> omega)
  have I1 : Inv X pins σ H { s with heap := h' } := I.kept (t' := s.toks) kp
  have I2 : Inv X pins σ (upd H h'.objs.size (.frz { cls := .type "tuple", data := .seq its.toArray } (.tup ys))) { s with heap := h'.push { cls := .type "tuple", data := .seq its.toArray } } :=
    I1.laid (t' := s.toks) (fun b o e => Heap.get?_push_of_some _ e) (Nat.le_refl _) ⟨Heap.get?_push_size _ rfl, hz, its, r', IsTup.new _ _⟩
  exact ⟨.ref h'.objs.size, _, I2, rfl, q _ _ (I1.hok.fresh (Nat.le_refl _)) rfl⟩
/-- t.index(z) of texts -/
def tTIdx (to : TE) (t : TA) : TE := fun σ H Q => to σ H fun x H1 => ∃ p ob, ∃ ys : List Str, x = .ref p ∧ H1 p = some (.frz ob (.tup (ys.map V.str))) ∧ ob.dict = none ∧
  t σ H1 fun xs H2 => ∃ z j, xs = [.str z] ∧ H2 p = some (.frz ob (.tup (ys.map V.str))) ∧ ys[j]? = some z ∧ (∀ m, m < j → ys[m]? ≠ some z) ∧ Q (.int (j : Nat)) H2
theorem pe_tidx (ho : PE X o to) (ha : PA X [e] t)
    (hbase : attributeBase o "index" X.env (eval o X.env) = eval o X.env := by rfl)
    (hfew : ((backTo cpos (starEach [e] X.env)).all (fun x => !x.1) && (backToKw cpos (keywordEach [] X.env)).all (fun x => x.1.isSome)
      && decide ([e].length + ([] : List Keyword).length + (if ([] : List Keyword).isEmpty then 0 else 1) < 30)) = true := by rfl)
    (hline : (apos.endLine == cpos.line) = true := by rfl) (hs : starEach [e] X.env = (false, eval e X.env) :: starEach [] X.env := by rfl) (hplain : (backTo cpos (starEach [] X.env)).any (·.1) = false := by rfl) :
    PE X (.Call (.Attribute o "index" apos) [e] [] cpos) (tTIdx to t) := by
  refine ⟨fun pins s σ H Q I h => ?_⟩
  refine wpAny_Call_method_late hbase hfew hline rfl (thn (ho.run pins s σ H _ I h) fun v s1 ⟨x, H1, I1, r1, p, ob, ys, ex, hp, hd, q1⟩ => ?_)
  subst ex
  cases r1
  obtain ⟨g1, _, its, rv, o2, g2, c2, n2, d2⟩ := (show ObjOk X.prog X.w H1 s1.heap p (.frz ob (.tup (ys.map V.str))) from I1.hok p _ hp)
  have e2 : o2 = ob := by rw [g1] at g2; exact (Option.some.inj g2).symm
  subst e2
  refine ⟨"tuple", "tuple.index", PySem.F.plainAttrs_tuple, PySem.F.slot_tuple_index, PySem.F.type_tuple_index, ⟨_, g1, c2⟩, fun a ea => ?_, ?_⟩
  · cases ea
    exact ⟨_, g1, hd⟩
  have hA := ha.run cpos pins s1 σ H1 _ I1 q1
  rw [hs] at hA ⊢
  refine Calls.callWith_builtin (by show (false || (backTo cpos (starEach [] X.env)).any (·.1)) = false; rw [hplain] <;> rfl) (Calls.evalArgs_plain ?_)
  refine thn hA fun us s2 ⟨vs, H2, I2, r2, z, j, ev, h2, hj, hno, q2⟩ => ?_
  subst ev
  exact mt_tup_index pins s2 σ H2 (.ref p) [.str z] (.ref p) us Q I2 rfl r2 ⟨p, ys, z, j, rfl, rfl, .inl (.inr ⟨_, h2⟩), hj, hno, q2⟩
end
end K52

namespace K52
open PySem PySem.Spec PyProof.Rows L2
/-- an arm's entry -/
def ArmV (af ac : Str → Nat) (M : KM.Tb Str) (H : Hp) (c : Str) (v : V) : Prop := ∃ p bv, v = .ref p ∧ H p = some (.tup [.str (kindS (M.kd c)), .int (ac c : Nat), bv]) ∧ BdV af ac (ac c + 1) H (M.am c) bv
theorem ArmV.le {af ac : Str → Nat} {M : KM.Tb Str} {H H' : Hp} {c : Str} {v : V} (l : Le H H') (h : ArmV af ac M H c v) : ArmV af ac M H' c v := by
  obtain ⟨p, bv, e, h1, h2⟩ := h
  exact ⟨p, bv, e, l _ _ trivial h1, h2.le l⟩
/-- what a table's lists are -/
structure TabOk (ac : Str → Nat) (M : KM.Tb Str) (fl cl R : List Str) : Prop where
  ok : M.Ok
  fnd : fl.Nodup
  fm : ∀ x, x ∈ fl ↔ x ∈ M.fs
  cnd : cl.Nodup
  cm : ∀ x, x ∈ cl ↔ x ∈ M.cs
  rnd : R.Nodup
  rm : ∀ x, x ∈ R ↔ x ∈ M.cs
  top : ∀ (i : Nat) x, R[i]? = some x → ∀ t ∈ (M.am x).pushes, t ∈ R.take i
  fz : fl.length ≤ 30
  cz : cl.length ≤ 30
  rz : R.length ≤ 30
  nz : ("" : Str) ∉ M.fs
  nmf : ∀ x ∈ M.fs, NmOk x
  nmc : ∀ x ∈ M.cs, NmOk x
  bd : ∀ x ∈ M.fs, bdDep (M.bd x) ≤ 20 ∧ (M.bd x).size ≤ 100
  am : ∀ x ∈ M.cs, bdDep (M.am x) ≤ 20 ∧ (M.am x).size ≤ 100
  aw : ∀ x, ac x ≤ 10
/-- the table at an address -/
structure TabA (C : Addr) (af ac : Str → Nat) (M : KM.Tb Str) (fl cl R : List Str) (H : Hp) (a : Addr) : Prop where
  ok : TabOk ac M fl cl R
  ex : ∃ dx pF pC pN pA pO ob fns css kvs, H a = some (.ins C dx [("functions", .ref pF), ("cases", .ref pC), ("names", .ref pN), ("arms", .ref pA), ("order", .ref pO)]) ∧
    H pF = some (.tup fns) ∧ Paired (FnV af ac M H) fl fns ∧ H pC = some (.tup css) ∧ Paired (CsV af ac M H) cl css ∧ H pN = some (.frz ob (.tup (fl.map V.str))) ∧ ob.dict = none ∧
    H pA = some (.dK kvs) ∧ DRel cl (ArmV af ac M H) kvs ∧ H pO = some (.lst (R.map V.str))
theorem TabA.same {C : Addr} {af ac : Str → Nat} {M : KM.Tb Str} {fl cl R : List Str} {H H' : Hp} {a : Addr} (s : Same H H') (h : TabA C af ac M fl cl R H a) : TabA C af ac M fl cl R H' a := by
  obtain ⟨ok, dx, pF, pC, pN, pA, pO, ob, fns, css, kvs, h1, h2, h3, h4, h5, h6, h7, h8, h9, h10⟩ := h
  exact ⟨ok, dx, pF, pC, pN, pA, pO, ob, fns, css, kvs, s _ _ h1, s _ _ h2, Paired.mono (fun _ _ q => FnV.le (Same.le s) q) h3, s _ _ h4, Paired.mono (fun _ _ q => CsV.le (Same.le s) q) h5, s _ _ h6, h7, s _ _ h8, h9.imp (fun x v _ q => ArmV.le (Same.le s) q), s _ _ h10⟩
theorem inV_names {x : Str} {fl : List Str} : inV (.str x) (fl.map V.str) = decide (x ∈ fl) := by
  unfold inV
  rw [List.any_map]
  induction fl with
  | nil => simp
  | cons a l ih =>
    rw [List.any_cons, ih]
    show ((a == x) || decide (x ∈ l)) = decide (x ∈ a :: l)
    by_cases e : x = a
    · subst e; simp
    · simp [e, Ne.symm e]
theorem flat_names (fl : List Str) : (fl.map V.str).all flatV = true := by
  rw [List.all_map]
  exact List.all_eq_true.mpr fun _ _ => rfl
section
variable {P : Program} {w : World} {K : PySem.W.Frag} {mg : Str → Option Value} {base : Heap}
def spHas (C : Addr) : Sp := fun vs H Q _ => ∃ a x af ac M fl cl R, vs = [.ref a, .str x] ∧ TabA C af ac M fl cl R H a ∧ Q (.bl (decide (x ∈ fl))) H
theorem m_has (T : Txt K mg) : Met P w K mg base 1 (cT K) "__contains__" (spHas (cT K)) := by
  refine met_of T.d_Table__contains sc_Table__contains (fun _ _ _ _ _ _ us hl => match us, hl with | [_, _], _ => rfl) (fun vs H Q E h => ?_) (fun f cdv A outer s H vs Q E hr h => ?_)
  · obtain ⟨v, _, _, _, _, _, _, _, rfl, _⟩ := h; rfl
  · obtain ⟨a, x, af, ac, M, fl, cl, R, rfl, ⟨ok, dx, pF, pC, pN, pA, pO, ob, fns, css, kvs, h1, h2, h3, h4, h5, h6, h7, h8, h9, h10⟩, k⟩ := h
    have nd := sc_Table__contains.nd
    refine ⟨_, (pss_one (ps_ret (pe_cmpR op_in_seq (pv 1) (pe_fld (pv 0) rfl) (by rfl)))), ?_⟩
    refine ⟨_, rfl, _, rfl, a, _, dx, _, _, rfl, h1, T.clsT, T.noT3, rfl, pN, _, rfl, .inr (.inl (.inr ⟨_, h6⟩)), rfl, flat_names fl, ?_⟩
    show Q (.bl (inV (.str x) (fl.map V.str))) H
    rw [inV_names]; exact k
/-- the iterator of the names -/
def spIter (C : Addr) : SpS := fun s vs H Q _ => ∃ a af ac M fl cl R, vs = [.ref a] ∧ TabA C af ac M fl cl R H a ∧ ∀ it pN ob H', s.heap.objs.size ≤ it → H pN = some (.frz ob (.tup (fl.map V.str))) → H it = none → H' = upd H it (ItTO pN it) → Q (.ref it) H'
theorem m_iter (T : Txt K mg) : ∃ fd ps, FnS P w K mg base 1 (He.ma K (cT K) "__iter__") fd ps (spIter (cT K)) ∧ Binds K fd ps [] := by
  obtain ⟨fd, F⟩ := T.d_Table__iter.ex
  refine ⟨fd, ["self"], ?_, F.bindsN fun kV doc pm an cdv ct us hl => (match us, hl with | [_], _ => rfl)⟩
  refine fnS_of F sc_Table__iter (fun s vs H Q E h => ?_) (fun f cdv A outer s H vs Q E hr h => ?_)
  · obtain ⟨a, _, _, _, _, _, _, rfl, _⟩ := h; rfl
  · obtain ⟨a, af, ac, M, fl, cl, R, rfl, ⟨ok, dx, pF, pC, pN, pA, pO, ob, fns, css, kvs, h1, h2, h3, h4, h5, h6, h7, h8, h9, h10⟩, k⟩ := h
    have nd := sc_Table__iter.nd
    refine ⟨_, (pss_one (ps_ret (pe_callB call_iterTN (by rfl) T.b_iter (by decide +kernel) (pa_cons (pe_fld (pv 0) rfl) pa_nil)))), ?_⟩
    refine ⟨_, rfl, a, _, dx, _, _, rfl, h1, T.clsT, T.noT3, rfl, pN, _, rfl, .inl (.inr ⟨_, h6⟩), fun it hit age => ?_⟩
    exact k it pN ob _ age h6 hit rfl
def spItem (C : Addr) : Sp := fun vs H Q _ => ∃ a x af ac M fl cl R, vs = [.ref a, .str x] ∧ TabA C af ac M fl cl R H a ∧ x ∈ fl ∧ ∀ q H' bv, Same H H' → H' q = some (.tup [.int (af x : Nat), bv]) → BdV af ac (af x) H' (M.bd x) bv → Q (.ref q) H'
theorem idx_of {x : Str} : ∀ {fl : List Str}, x ∈ fl → ∃ j : Nat, fl[j]? = some x ∧ ∀ m : Nat, m < j → fl[m]? ≠ some x
  | a :: l, h => by
    by_cases e : a = x
    · exact ⟨0, by rw [e]; rfl, fun m hm => absurd hm (Nat.not_lt_zero m)⟩
    · have hx : x ∈ l := (List.mem_cons.mp h).resolve_left fun z => e z.symm
      obtain ⟨j, h1, h2⟩ := idx_of hx
      refine ⟨j + 1, by simpa using h1, fun m hm => ?_⟩
      cases m with
      | zero => simpa using e
      | succ m => simpa using h2 m (by omega)
theorem paired_at' {α β : Type} {F : α → β → Prop} {a : List α} {b : List β} (h : Paired F a b) {i : Nat} {x : α} (e : a[i]? = some x) : ∃ y, b[i]? = some y ∧ F x y := by
  have hl := h.length
  have hi : i < b.length := by
    have := (List.getElem?_eq_some_iff.mp e).1
    omega
  obtain ⟨x', e', q⟩ := paired_at h (List.getElem?_eq_getElem hi)
  rw [e] at e'; cases e'
  exact ⟨_, List.getElem?_eq_getElem hi, q⟩
theorem m_item (T : Txt K mg) : Met P w K mg base 1 (cT K) "__getitem__" (spItem (cT K)) := by
  refine met_of T.d_Table__getitem sc_Table__getitem (fun _ _ _ _ _ _ us hl => match us, hl with | [_, _], _ => rfl) (fun vs H Q E h => ?_) (fun f cdv A outer s H vs Q E hr h => ?_)
  · obtain ⟨v, _, _, _, _, _, _, _, rfl, _⟩ := h; rfl
  · obtain ⟨a, x, af, ac, M, fl, cl, R, rfl, ⟨ok, dx, pF, pC, pN, pA, pO, ob, fns, css, kvs, h1, h2, h3, h4, h5, h6, h7, h8, h9, h10⟩, hx, k⟩ := h
    have nd := sc_Table__getitem.nd
    refine ⟨_, (pss_cons (ps_if (pt_cmpR op_notIn_seq (pv 1) (pe_fld (pv 0) rfl) (by rfl)) (pss_one ps_never) pss_nil)
  (pss_cons (ps_set (i := 2) nd rfl (Or.inl rfl) (pe_ix ix_tup (pe_fld (pv 0) rfl) (pe_tidx (pe_fld (pv 0) rfl) (pa_cons (pv 1) pa_nil)) (fun _ _ => rfl)))
  (pss_one (ps_ret (pe_tup (pa_cons (pe_ix ix_tup (pv 2) pe_int (fun _ _ => rfl)) (pa_cons (pe_ix ix_tup (pv 2) pe_int (fun _ _ => rfl)) pa_nil))))))), ?_⟩
    obtain ⟨j, hj, hno⟩ := idx_of hx
    obtain ⟨y, hy, p, bv, rfl, hp, hn, ha, hb, _⟩ := paired_at' h3 hj
    refine ⟨_, rfl, _, rfl, a, _, dx, _, _, rfl, h1, T.clsT, T.noT3, rfl, pN, _, rfl, .inr (.inl (.inr ⟨_, h6⟩)), rfl, flat_names fl, _, rfl, ?_⟩
    refine iF (by show (!inV (.str x) (fl.map V.str)) = false; rw [inV_names, decide_eq_true hx]; rfl) ?_
    refine ⟨_, rfl, a, _, dx, _, _, rfl, h1, T.clsT, T.noT1, rfl, _, rfl, a, _, dx, _, _, rfl, h1, T.clsT, T.noT3, rfl, pN, ob, fl, rfl, h6, h7, _, rfl, x, j, rfl, h6, hj, hno, ?_⟩
    refine ⟨pF, fns, _, .ref p, rfl, rfl, SqT.of h2, atI_nat hy, ?_⟩
    refine ⟨_, rfl, p, _, _, _, rfl, rfl, SqT.of hp, rfl, _, rfl, p, _, _, _, rfl, rfl, SqT.of hp, rfl, by show 2 ≤ sizeLine; decide, fun q hq => ?_⟩
    exact k q _ bv (Same.upd hq) upd_same (hb.le (Le.new hq))
def spCase (C : Addr) : Sp := fun vs H Q _ => ∃ a x af ac M fl cl R, vs = [.ref a, .str x] ∧ TabA C af ac M fl cl R H a ∧ x ∈ cl ∧ ∀ v H', Same H H' → ArmV af ac M H' x v → Q v H'
theorem m_case (T : Txt K mg) : Met P w K mg base 2 (cT K) "case_of" (spCase (cT K)) := by
  have c_is_name := c_is_name (P := P) (w := w) (base := base) T
  refine met_of T.d_Table_case_of sc_Table_case_of (fun _ _ _ _ _ _ us hl => match us, hl with | [_, _], _ => rfl) (fun vs H Q E h => ?_) (fun f cdv A outer s H vs Q E hr h => ?_)
  · obtain ⟨v, _, _, _, _, _, _, _, rfl, _⟩ := h; rfl
  · obtain ⟨a, x, af, ac, M, fl, cl, R, rfl, hT, hx, k⟩ := h
    have nd := sc_Table_case_of.nd
    have hu := hu_of hr
    refine ⟨_, (pss_cons (ps_if (PW.pt (pw_or (pt_not (pt_val (pe_c c_is_name hr (by decide) rfl (pa_cons (pv 1) pa_nil)))) (pw_or1 (pt_cmp (pc_dnotin hu (pv 1) (pe_fld (pv 0) rfl)))))) (pss_one ps_never) pss_nil)
  (pss_one (ps_ret (pe_dget hu (pe_fld (pv 0) rfl) (pv 1) (fun _ _ => rfl))))), ?_⟩
    refine ⟨_, rfl, x, rfl, hT.ok.nmc x ((hT.ok.cm x).mp hx), fun H1 s1 => ⟨true, rfl, iF rfl ?_⟩⟩
    obtain ⟨ok, dx, pF, pC, pN, pA, pO, ob, fns, css, kvs, h1, h2, h3, h4, h5, h6, h7, h8, h9, h10⟩ := hT.same s1
    obtain ⟨v, ev, hv⟩ := h9.val hx
    refine ⟨_, rfl, _, rfl, a, _, dx, _, _, rfl, h1, T.clsT, T.noT4, rfl, pA, _, rfl, dgetS (.inl h8) ev, _, rfl, iF rfl ?_⟩
    refine ⟨_, rfl, a, _, dx, _, _, rfl, h1, T.clsT, T.noT4, rfl, _, rfl, pA, v, rfl, dgetS (.inl h8) ev, k v H1 s1 hv⟩
def spLookN (C : Addr) : Sp := fun vs H Q _ => ∃ a x af ac M fl cl R, vs = [.ref a, .str x] ∧ TabA C af ac M fl cl R H a ∧ x ∈ fl ∧ Q .non H
theorem c_look_name (T : Txt K mg) : Cal P w K mg base 2 "look_name" (spLookN (cT K)) := by
  have mh := m_has (P := P) (w := w) (base := base) T
  obtain ⟨fdh, psh, Fh, bh⟩ := mh.ex
  refine cal_of T.d_look_name sc_look_name (fun _ _ _ _ _ _ us hl => match us, hl with | [_, _], _ => rfl) (fun vs H Q E h => ?_) (fun f cdv A outer s H vs Q E hr h => ?_)
  · obtain ⟨v, _, _, _, _, _, _, _, rfl, _⟩ := h; rfl
  · obtain ⟨a, x, af, ac, M, fl, cl, R, rfl, hT, hx, k⟩ := h
    have nd := sc_look_name.nd
    refine ⟨_, (pss_one (ps_if (pt_cmpR (op_ownNotIn mh.at_ mh.fn Fh bh hr pass0) (pv 1) (pv 0) (by rfl)) (pss_one ps_never) pss_nil)), ?_⟩
    obtain ⟨dx, pF, pC, pN, pA, pO, ob, fns, css, kvs, h1, _⟩ := hT.ex
    refine ⟨_, rfl, _, rfl, a, dx, _, rfl, h1, a, x, af, ac, M, fl, cl, R, rfl, hT, _, rfl, _, rfl, ?_⟩
    refine iF (by rw [decide_eq_true hx]; rfl) ?_
    exact k
end
end K52

namespace K52
open PySem PySem.Spec PyProof.Rows L2
section
variable {P : Program} {w : World} {K : PySem.W.Frag} {mg : Str → Option Value} {base : Heap}
theorem pg_tupK {X : Cx} {K : PySem.W.Frag} {es : List Expr} {k : Nat} {t : TGs} {n : Nat} {pos : Pos} (hK : X.K = K) (hc : X.calm = true) (h : PGs X es t)
    (hn : (assignEach es X.env).length = n := by rfl) (hst : (assignEach es X.env).findIdx? (·.1) = none := by rfl) : PG X (.Tuple es k pos) (gTup K n t) := by subst hK; exact pg_tup hc h hn hst
abbrev nF {ε : Type} (e0 : ε) : Str → ε := fun _ => e0
def spSettled {ε : Type} (C : Addr) (R : Hp → ε → V → Prop) (en : (Str → ε) → (Str → Bool × ε) → KM.Bd Str → ε) (e0 : ε) (fE : Addr) : Sp := fun vs H Q _ => ∃ a n0 af ac M fl cl Rd, ∃ N : Nat, vs = [.ref a, n0, .ref fE] ∧ TabA C af ac M fl cl Rd H a ∧ R H e0 n0 ∧
  KM.rnd en e0 M fl (KM.iter (KM.rnd en e0 M fl) N (nF e0)) = KM.iter (KM.rnd en e0 M fl) N (nF e0) ∧
  ∀ q bF bA H', Same H H' → H q = none → H bF = none → H bA = none → H' q = some (.tup [.ref bF, .ref bA]) → FnD R H' bF fl (KM.iter (KM.rnd en e0 M fl) N (nF e0)) → ArD R H' bA cl (KM.armsC en e0 M (KM.iter (KM.rnd en e0 M fl) N (nF e0))) → Q (.ref q) H'
theorem settled_gen (T : Txt K mg) {ε : Type} [DecidableEq ε] {R : Hp → ε → V → Prop} (hR : RLe R) {en : (Str → ε) → (Str → Bool × ε) → KM.Bd Str → ε} (cg : KM.Cg en) {e0 : ε} {k : Nat} {fE : Addr} {fdE : FuncData} {psE : List Str}
    (FE : FnOk P w K mg base CX0 k fE fdE psE (spEnds R en 20)) (kp : PySem.W.keepIn K (.ref fE) = true) (bi : Binds K fdE psE []) {rr : R2}
    (hrr : ∀ H e e' x y Q, R H e x → R H e' y → (∀ H', Same H H' → Q (.bl (!decide (e = e'))) H') → rr x y H Q)
    (hne : ∀ X : Cx, X.prog = P → X.w = w → X.K = K → X.mg = mg → X.base = base → Room k X.A → OpR X (compareOp .NotEq) rr) (hk : 1 ≤ k) :
    Cal P w K mg base (k + 1) "settled" (spSettled (cT K) R en e0 fE) := by
  obtain ⟨fdI, psI, FI, bI'⟩ := m_iter (P := P) (w := w) (base := base) T
  refine cal_of T.d_settled sc_settled (fun _ _ _ _ _ _ us hl => match us, hl with | [_, _, _], _ => rfl) (fun vs H Q E h => ?_) (fun f cdv A outer s H vs Q E hr h => ?_)
  · obtain ⟨_, _, _, _, _, _, _, _, _, rfl, _⟩ := h; rfl
  obtain ⟨a, n0, af, ac, M, fl, cl, Rd, N, rfl, hT, h0, hstand, kk⟩ := h
  have nd := sc_settled.nd
  have hu := hu_of hr
  refine ⟨_, (pss_cons (ps_setDc (i := 4) (own := [("name", 3)]) rfl nd rfl rfl (swd_true rfl rfl rfl (by decide +kernel)) (pi_own (pv 0) T.d_Table__iter.at_ T.d_Table__iter.fn FI bI' (hr.mono hk)) (blkOk_by (N := N_settled) (sc := defScope s_settled) (by decide +kernel)) (fun _ _ _ _ _ => (pg_name (i := 3) nd rfl (Or.inl rfl))) (fun _ _ _ _ _ => pts_nil) (fun _ _ _ _ _ => (pv 3)) (fun _ _ _ _ _ => (pv 1)))
  (pss_cons (ps_setDc (i := 8) (own := [("name", 3), ("kind", 5), ("slots", 6), ("arm", 7)]) rfl nd rfl rfl (swd_true rfl rfl rfl (by decide +kernel)) (pi_tup (pe_fld (pv 0) rfl)) (blkOk_by (N := N_settled) (sc := defScope s_settled) (by decide +kernel)) (fun _ _ _ _ _ => (pg_tupK (K := K) (n := 4) rfl (by rfl) (pgs_cons (pg_name (i := 3) nd rfl (Or.inl rfl)) (pgs_cons (pg_name (i := 5) nd rfl (Or.inl rfl)) (pgs_cons (pg_name (i := 6) nd rfl (Or.inl rfl)) (pgs_cons (pg_name (i := 7) nd rfl (Or.inl rfl)) pgs_nil)))))) (fun _ _ _ _ _ => pts_nil) (fun _ _ _ _ _ => (pv 3)) (fun _ _ _ _ _ => (pe_tup (pa_cons (pv 5) (pa_cons (pv 1) pa_nil)))))
  (pss_cons (ps_set (i := 9) nd rfl (Or.inl rfl) pe_bl)
  (pss_cons (ps_while PassesOwn.never (pt_val (pv 9)) (pss_cons (ps_set (i := 9) nd rfl (Or.inl rfl) pe_bl)
  (pss_cons (ps_for PassesOwn.never rfl (pi_list (pe_fld (pv 0) rfl)) (pg_name (i := 10) nd rfl (Or.inl rfl)) (pss_cons (ps_asg (pe_dget hu (pe_fld (pv 0) rfl) (pv 10) (fun _ _ => rfl)) (pg_tup (by rfl) (pgs_cons (pg_name (i := 5) nd rfl (Or.inl rfl)) (pgs_cons (pg_name (i := 6) nd rfl (Or.inl rfl)) (pgs_cons (pg_name (i := 7) nd rfl (Or.inl rfl)) pgs_nil)))))
  (pss_one (ps_dput hu (pv 8) (pv 10) (pe_tup (pa_cons (pv 5) (pa_cons (pe_callL (i := 2) FE hr rfl (Or.inl rfl) kp bi .nil pass0 (pa_cons (pv 7) (pa_cons (pv 4) (pa_cons (pv 8) pa_nil)))) pa_nil))) rfl))))
  (pss_one (ps_for PassesOwn.never rfl (pi_tup (pe_fld (pv 0) rfl)) (pg_tup (by rfl) (pgs_cons (pg_name (i := 3) nd rfl (Or.inl rfl)) (pgs_cons (pg_name (i := 11) nd rfl (Or.inl rfl)) (pgs_cons (pg_name (i := 12) nd rfl (Or.inl rfl)) pgs_nil)))) (pss_cons (ps_set (i := 13) nd rfl (Or.inl rfl) (pe_callL (i := 2) FE hr rfl (Or.inl rfl) kp bi .nil pass0 (pa_cons (pv 12) (pa_cons (pv 4) (pa_cons (pv 8) pa_nil)))))
  (pss_one (ps_if (pt_cmpR (hne _ rfl rfl rfl rfl rfl hr) (pv 13) (pe_dget hu (pv 4) (pv 3) (fun _ _ => rfl)) (nomark _)) (pss_cons (ps_dput hu (pv 4) (pv 3) (pv 13) rfl)
  (pss_one (ps_set (i := 9) nd rfl (Or.inl rfl) pe_bl))) pss_nil))))))))
  (pss_one (ps_ret (pe_tup (pa_cons (pv 4) (pa_cons (pv 8) pa_nil))))))))), ?_⟩
  obtain ⟨ok, dx, pF, pC, pN, pA, pO, ob, fns, css, kvs, h1, h2, h3, h4, h5, h6, h7, h8, h9, h10⟩ := id hT
  have hz : 200 ≤ sizeLine := by decide
  have fz := ok.fz
  have cz := ok.cz
  have rz := ok.rz
  -- functions
  refine ⟨_, rfl, a, dx, _, rfl, h1, fun s => ⟨a, af, ac, M, fl, cl, Rd, rfl, hT, fun it pN' ob' H' age hpN hit e => ⟨it, pN', rfl, age, by rw [e]; exact upd_same, ?_⟩⟩⟩
  rw [e, ItX.dropH_upd hit]
  clear e age
  refine fun D hD => ?_
  refine dc_map walk_tup (names := fl) (by rw [List.length_map]) ok.fnd hD (fun H' s => .inl (.inr ⟨ob', s _ _ hpN⟩)) (by rw [List.length_map]; omega) (fun x v H => R H e0 v) (fun x y H H' ws hd bu q => hR _ _ _ _ (But.le bu hd id) q) (fun i H x H' _ y => by rw [y.1]; exact Same.refl _) (fun i nm x H3 H4 Q' hnm s y kq => ?_) (fun H1 kF s1 hF1 hF2 => ?_)
  · obtain ⟨rfl, hx⟩ := y
    rw [List.getElem?_map, hnm] at hx
    cases hx
    exact ⟨rfl, _, rfl, _, rfl, kq _ _ (Same.refl _) (hR _ _ _ _ (Same.le s) h0)⟩
  have D0 : H D = none := hD
  clear hit it hpN pN' ob' H'
  -- arms
  refine ⟨_, rfl, a, _, dx, _, _, rfl, s1 _ _ h1, T.clsT, T.noT2, rfl, pC, rfl, ⟨_, SqT.of (s1 _ _ h4)⟩, fun D2 hD2 => ?_⟩
  have D20 : H D2 = none := s1.free hD2
  have dne : D ≠ D2 := ne_of_none hF1 hD2
  refine dc_map walk_tup (names := cl) h5.length ok.cnd hD2 (fun H' s => SqT.of (s _ _ (s1 _ _ h4))) (by rw [← h5.length]; omega) (fun x v H => ArV R H (M.kd x, e0) v) (fun x y H H' ws hd bu q => ArV.le hR (But.le bu hd id) q) (fun i H x H' _ y => by rw [y.1]; exact Same.refl _) (fun i nm x H3 H4 Q' hnm s y kq => ?_) (fun H2 kA s2 hA1 hA2 => ?_)
  · obtain ⟨rfl, hx⟩ := y
    obtain ⟨x', hx', p, bv, rfl, hp, _⟩ := paired_at' h5 hnm
    rw [hx] at hx'; cases hx'
    refine ⟨p, _, rfl, SqT.of (s _ _ (s1 _ _ hp)), rfl, _, _, rfl, _, _, rfl, _, _, rfl, _, _, rfl, rfl, rfl, _, rfl, _, rfl, _, rfl, by show 2 ≤ sizeLine; decide, fun t ht => ?_⟩
    exact kq _ _ (Same.upd ht) ⟨t, n0, rfl, upd_same, hR _ _ _ _ (Le.trans (Same.le (s1.trans s)) (Le.new ht)) h0⟩
  have S2 := s1.trans s2
  have F1 : FnD R H2 D fl (nF e0) := ⟨kF, s2 _ _ hF1, hF2.imp fun x v _ q => hR _ _ _ _ (Same.le s2) q⟩
  have A1 : ArD R H2 D2 cl (fun c => (M.kd c, e0)) := ⟨kA, hA1, hA2⟩
  clear hF1 hF2 hA1 hA2 kF kA s1 s2 hD hD2
  -- the rounds
  let rd := KM.rnd en e0 M fl
  have armK : ∀ F c, (KM.armsC en e0 M F c).1 = M.kd c := fun F c => KM.armsC_kd F c
  let I : Nat → L2.St → Hp → Prop := fun m σ H' => ∃ (p3 p5 p6 p7 p10 p11 p12 p13 : Option V) (b : Bool) (j : Nat) (Ar : Str → Bool × ε), σ = [some (.ref a), some n0, some (.ref fE), p3, some (.ref D), p5, p6, p7, some (.ref D2), some (.bl b), p10, p11, p12, p13] ∧ Same H H' ∧
    FnD R H' D fl (KM.iter rd j (nF e0)) ∧ ArD R H' D2 cl Ar ∧ (∀ c, (Ar c).1 = M.kd c) ∧ (b = true → j ≤ N ∧ m = N + 1 - j) ∧ (b = false → m = 0 ∧ rd (KM.iter rd j (nF e0)) = KM.iter rd j (nF e0) ∧ ∀ c ∈ cl, Ar c = KM.armsC en e0 M (KM.iter rd j (nF e0)) c)
  refine ⟨I, ⟨N + 1, _, _, _, _, _, _, _, _, true, 0, fun c => (M.kd c, e0), rfl, S2, F1, A1, fun _ => rfl, fun _ => ⟨Nat.zero_le _, rfl⟩, fun z => by cases z⟩, ?_⟩
  rintro m σ Ha ⟨p3, p5, p6, p7, p10, p11, p12, p13, b, j, Ar, rfl, sa, aF, aA, aK, hbt, hbf⟩
  refine ⟨_, rfl, b, rfl, ?_⟩
  cases b with
  | false =>
    obtain ⟨-, hst, hAr⟩ := hbf rfl
    refine iF rfl ⟨_, rfl, _, rfl, by show 2 ≤ sizeLine; decide, fun t ht => ?_⟩
    have ej : KM.iter rd j (nF e0) = KM.iter rd N (nF e0) := KM.iter_stand2 hst hstand
    have st := Same.upd (o := .tup [.ref D, .ref D2]) ht
    rw [ej] at aF hAr
    refine kk t D D2 _ (sa.trans st) (sa.free ht) D0 D20 upd_same (aF.same hR st) ?_
    obtain ⟨k2, g1, g2⟩ := aA.same hR st
    exact ⟨k2, g1, g2.imp fun c v hc q => by rw [← hAr c hc]; exact q⟩
  | true =>
    obtain ⟨hjN, rfl⟩ := hbt rfl
    refine iT rfl ⟨fun σ' H' => ∃ m', m' < N + 1 - j ∧ I m' σ' H', fun _ _ h => h, ?_⟩
    generalize hF0 : KM.iter rd j (nF e0) = F at aF
    -- the arms, in order
    let Ae := KM.armsC en e0 M F
    have AeK : ∀ c, (Ae c).1 = M.kd c := armK F
    refine ⟨_, rfl, a, _, dx, _, _, rfl, sa _ _ h1, T.clsT, T.noT5, rfl, pO, rfl, ⟨_, SqL.of (sa _ _ h10)⟩, ?_⟩
    refine for_it walk_list (fun i σ H' => (∃ (p3 p5 p6 p7 p10 p11 p12 p13 : Option V), σ = [some (.ref a), some n0, some (.ref fE), p3, some (.ref D), p5, p6, p7, some (.ref D2), some (.bl false), p10, p11, p12, p13]) ∧ Same H H' ∧ FnD R H' D fl F ∧ ∃ Ar, ArD R H' D2 cl Ar ∧ (∀ c, (Ar c).1 = M.kd c) ∧ ∀ c ∈ Rd.take i, Ar c = Ae c)
      ⟨⟨_, _, _, _, _, _, _, _, rfl⟩, sa, aF, Ar, aA, aK, by simp⟩ (fun i σ H' _ q => SqL.of (q.2.1 _ _ h10)) (fun i x σ Hb Hc hi q y => ?_) (fun σ Hb q => ?_)
    · obtain ⟨rfl, hx⟩ := y
      rw [List.getElem?_map] at hx
      obtain ⟨c, hc, rfl⟩ := Option.map_eq_some_iff.mp hx
      clear hx
      obtain ⟨⟨p3, p5, p6, p7, p10, p11, p12, p13, rfl⟩, sb, bF, Ar, bA, bK, bT⟩ := q
      have hcs : c ∈ M.cs := (ok.rm c).mp (List.mem_of_getElem? hc)
      have hcl : c ∈ cl := (ok.cm c).mpr hcs
      obtain ⟨v, ev, p, bv, rfl, hp, hb⟩ := h9.val hcl
      have tk : Rd.take (i + 1) = Rd.take i ++ [c] := by rw [List.take_add_one, hc]; rfl
      refine ⟨_, rfl, a, _, dx, _, _, rfl, sb _ _ h1, T.clsT, T.noT4, rfl, _, rfl, pA, _, rfl, dgetS (.inl (sb _ _ h8)) ev, ?_⟩
      refine ⟨p, _, rfl, SqT.of (sb _ _ hp), rfl, _, _, rfl, _, _, rfl, _, _, rfl, rfl, ?_⟩
      refine ⟨_, rfl, rfl, _, rfl, _, rfl, _, rfl, bv, D, D2, af, ac, _, M.am c, fl, cl, F, Ar, rfl, hb.le (Same.le sb), (ok.am c hcs).1, bF, bA, fun g hg => (ok.fm g).mpr (ok.ok.ac c hcs g hg), fun g hg => (ok.cm g).mpr (ok.ok.ap c hcs g hg), fun u Hd sd hu' => ?_⟩
      refine ⟨by show 2 ≤ sizeLine; decide, fun t ht => ?_⟩
      have se := Same.upd (o := .tup [.str (kindS (M.kd c)), u]) ht
      have hte : (upd Hd t (.tup [.str (kindS (M.kd c)), u])) t = some (.tup [.str (kindS (M.kd c)), u]) := upd_same
      have hu2 := hR _ _ _ _ (Same.le se) hu'
      have sE := sb.trans (sd.trans se)
      have eF := bF.same hR (sd.trans se)
      have eA := bA.same hR (sd.trans se)
      generalize upd Hd t (.tup [.str (kindS (M.kd c)), u]) = He at se hte hu2 sE eF eA
      obtain ⟨kA, g1, g2⟩ := eA
      refine ⟨_, rfl, _, rfl, D2, _, rfl, DPut.k (k := Sum.inr c) g1 (by rw [g2.length]; omega), ?_⟩
      have sf : Le He (upd He D2 (.dK (putK kA (Sum.inr c) (.ref t)))) := Le.dK g1
      obtain ⟨kF, f1, f2⟩ := eF
      have same : en F Ar (M.am c) = (Ae c).2 := by
        have e1 : en F Ar (M.am c) = en F Ae (M.am c) := cg _ _ _ _ _ (fun _ _ => rfl) fun d hd => bT d (ok.top i c hc d hd)
        have e2 := KM.armsC_ok (en := en) (e0 := e0) cg ok.ok F c hcs
        rw [e1]
        exact (congrArg Prod.snd e2).symm
      refine ⟨⟨_, _, _, _, _, _, _, _, rfl⟩, Same.put sE D20, ⟨kF, by rw [upd_ne dne]; exact f1, f2.imp fun x v _ q => hR _ _ _ _ sf q⟩, KM.up Ar c (Ae c), ⟨_, upd_same, g2.put hcl (fun y u _ hy q => by rw [KM.up_ne hy]; exact ArV.le hR sf q) ?_⟩, fun d => ?_, fun d hd => ?_⟩
      · rw [KM.up_same]
        refine ⟨t, u, rfl, ?_, ?_⟩
        · rw [AeK c]; exact sf _ _ trivial hte
        · rw [← same]; exact hR _ _ _ _ sf hu2
      · by_cases q : d = c
        · subst q; rw [KM.up_same]; exact AeK d
        · rw [KM.up_ne q]; exact bK d
      · by_cases q : d = c
        · subst q; rw [KM.up_same]
        · rw [KM.up_ne q]
          rw [tk] at hd
          rcases List.mem_append.mp hd with z | z
          · exact bT d z
          · exact absurd (List.mem_singleton.mp z) q
    obtain ⟨⟨p3, p5, p6, p7, p10, p11, p12, p13, rfl⟩, sb, bF, Ar, bA, bK, bT⟩ := q
    rw [List.length_map, List.take_length] at bT
    have bA : ArD R Hb D2 cl Ae := by
      obtain ⟨k2, g1, g2⟩ := bA
      exact ⟨k2, g1, g2.imp fun c v hc q => by rw [← bT c ((ok.rm c).mpr ((ok.cm c).mp hc))]; exact q⟩
    -- the functions
    let Fj : Nat → (Str → ε) := fun i => (fl.take i).foldl (KM.stepF en M Ae) F
    refine ⟨_, rfl, a, _, dx, _, _, rfl, sb _ _ h1, T.clsT, T.noT1, rfl, pF, rfl, ⟨_, SqT.of (sb _ _ h2)⟩, ?_⟩
    refine for_it walk_tup (fun i σ H' => (∃ (p3 p5 p6 p7 p10 p11 p12 p13 : Option V) (b : Bool), σ = [some (.ref a), some n0, some (.ref fE), p3, some (.ref D), p5, p6, p7, some (.ref D2), some (.bl b), p10, p11, p12, p13] ∧ (b = false → Fj i = F) ∧ (b = true → ∃ g ∈ fl.take i, Fj i g ≠ F g)) ∧ Same H H' ∧ FnD R H' D fl (Fj i) ∧ ArD R H' D2 cl Ae)
      ⟨⟨_, _, _, _, _, _, _, _, false, rfl, fun _ => rfl, fun z => by cases z⟩, sb, bF, bA⟩ (fun i σ H' _ q => SqT.of (q.2.1 _ _ h2)) (fun i x σ Hc Hd hi q y => ?_) (fun σ Hc q => ?_)
    · obtain ⟨rfl, hx⟩ := y
      obtain ⟨⟨p3, p5, p6, p7, p10, p11, p12, p13, b, rfl, hb0, hb1⟩, sc, cF, cA⟩ := q
      obtain ⟨g, hg, p, bv, rfl, hp, _, _, hb, _⟩ := paired_at h3 hx
      have hgf : g ∈ fl := List.mem_of_getElem? hg
      have hgs : g ∈ M.fs := (ok.fm g).mp hgf
      have tk : fl.take (i + 1) = fl.take i ++ [g] := by rw [List.take_add_one, hg]; rfl
      have ng : g ∉ fl.take i := fun m => by
        obtain ⟨j2, hj2, ej⟩ := List.mem_iff_getElem.mp m
        have hj3 : j2 < i := by rw [List.length_take] at hj2; omega
        rw [List.getElem_take] at ej
        obtain ⟨hi1, ei⟩ := List.getElem?_eq_some_iff.mp hg
        have := (List.getElem_inj ok.fnd).mp (ej.trans ei.symm)
        omega
      have eS : Fj (i + 1) = KM.up (Fj i) g (en (Fj i) Ae (M.bd g)) := by
        show (fl.take (i + 1)).foldl _ _ = _
        rw [tk, List.foldl_append]; rfl
      refine ⟨p, _, rfl, SqT.of (sc _ _ hp), rfl, _, _, rfl, _, _, rfl, _, _, rfl, rfl, ?_⟩
      refine ⟨rfl, _, rfl, _, rfl, _, rfl, bv, D, D2, af, ac, _, M.bd g, fl, cl, Fj i, Ae, rfl, hb.le (Same.le sc), (ok.bd g hgs).1, cF, cA, fun x hx => (ok.fm x).mpr (ok.ok.bc g hgs x hx), fun x hx => (ok.cm x).mpr (ok.ok.bp g hgs x hx), fun u He se hu' => ?_⟩
      have eF := cF.same hR se
      obtain ⟨v0, gv0, hv0⟩ := eF.get hgf
      refine ⟨_, rfl, _, rfl, _, rfl, D, v0, rfl, gv0, ?_⟩
      have hFg : Fj i g = F g := KM.rnd_not ng
      refine hrr He (en (Fj i) Ae (M.bd g)) (Fj i g) u v0 _ hu' hv0 fun Hf sf => ⟨_, rfl, ?_⟩
      have sF := sc.trans (se.trans sf)
      have fF := eF.same hR sf
      have fA := (cA.same hR se).same hR sf
      by_cases e : en (Fj i) Ae (M.bd g) = Fj i g
      · refine iF (by rw [decide_eq_true e]; rfl) ?_
        rw [e, KM.up_self] at eS
        refine ⟨⟨_, _, _, _, _, _, _, _, b, rfl, fun z => by rw [eS]; exact hb0 z, fun z => ?_⟩, sF, by rw [eS]; exact fF, fA⟩
        obtain ⟨x, hx, hne⟩ := hb1 z
        exact ⟨x, by rw [tk]; exact List.mem_append_left _ hx, by rw [eS]; exact hne⟩
      · refine iT (by rw [decide_eq_false e]; rfl) ?_
        obtain ⟨kF, f1, f2⟩ := fF
        have sg : Le Hf (upd Hf D (.dK (putK kF (Sum.inr g) u))) := Le.dK f1
        obtain ⟨kA, g1, g2⟩ := fA
        refine ⟨_, rfl, _, rfl, _, rfl, D, _, rfl, DPut.k (k := Sum.inr g) f1 (by rw [f2.length]; omega), ?_⟩
        refine ⟨⟨_, _, _, _, _, _, _, _, true, rfl, (fun z => by cases z), fun _ => ⟨g, by rw [tk]; simp, ?_⟩⟩, Same.put sF D0, ⟨_, upd_same, ?_⟩, ⟨kA, by rw [upd_ne dne.symm]; exact g1, g2.imp fun c v _ q => ArV.le hR sg q⟩⟩
        · rw [eS, KM.up_same, ← hFg]; exact e
        · rw [eS]
          exact f2.put hgf (fun y u _ hy q => by rw [KM.up_ne hy]; exact hR _ _ _ _ sg q) (by rw [KM.up_same]; exact hR _ _ _ _ (Le.trans (Same.le sf) sg) hu')
    · obtain ⟨⟨p3, p5, p6, p7, p10, p11, p12, p13, b, rfl, hb0, hb1⟩, sc, cF, cA⟩ := q
      have hl : fns.length = fl.length := h3.length.symm
      have eN : Fj fns.length = KM.iter rd (j + 1) (nF e0) := by
        show (fl.take fns.length).foldl _ _ = _
        rw [hl, List.take_length]
        show rd F = rd (KM.iter rd j (nF e0))
        rw [hF0]
      rw [eN] at cF hb0 hb1
      cases b with
      | false =>
        have est := hb0 rfl
        refine ⟨0, by omega, _, _, _, _, _, _, _, _, false, j + 1, Ae, rfl, sc, cF, cA, AeK, (fun z => by cases z), fun _ => ⟨rfl, ?_, fun c _ => ?_⟩⟩
        · show rd (KM.iter rd (j + 1) (nF e0)) = _
          rw [est]
          have : rd F = KM.iter rd (j + 1) (nF e0) := by show rd F = rd (KM.iter rd j (nF e0)); rw [hF0]
          rw [this]; exact est
        · rw [est]
      | true =>
        obtain ⟨g, _, hg⟩ := hb1 rfl
        have hj : j < N := by
          rcases Nat.lt_or_ge j N with z | z
          · exact z
          · exfalso
            have : j = N := by omega
            subst this
            apply hg
            show rd (KM.iter rd j (nF e0)) g = F g
            rw [show rd (KM.iter rd j (nF e0)) = KM.iter rd j (nF e0) from hstand, hF0]
        refine ⟨N + 1 - (j + 1), by omega, _, _, _, _, _, _, _, _, true, j + 1, Ae, rfl, sc, cF, cA, AeK, fun _ => ⟨by omega, rfl⟩, fun z => by cases z⟩
end
end K52

namespace K52
open PySem PySem.Spec PyProof.Rows L2
section
variable {P : Program} {w : World} {K : PySem.W.Frag} {mg : Str → Option Value} {base : Heap}
theorem ne_b2 {H : Hp} {e e' : KM.B2} {x y : V} {Q : VK} (h : B2V H e x) (g : B2V H e' y) (k : ∀ H', Same H H' → Q (.bl (!decide (e = e'))) H') : rNe2 DFl x y H Q := by
  obtain ⟨p, rfl, hp⟩ := h
  obtain ⟨q, rfl, hq⟩ := g
  refine ⟨p, q, _, _, _, _, e.1 == e'.1, e.2 == e'.2, rfl, rfl, hp, hq, ⟨rfl, rfl, rfl⟩, ⟨rfl, rfl, rfl⟩, fun H' s => ?_⟩
  have : (e.1 == e'.1 && e.2 == e'.2) = decide (e = e') := by
    obtain ⟨a, b⟩ := e
    obtain ⟨c, d⟩ := e'
    cases a <;> cases b <;> cases c <;> cases d <;> rfl
  rw [this]; exact k H' s
theorem ne_e2 {C : Addr} {H : Hp} {e e' : KM.E2} {x y : V} {Q : VK} (h : E2V C H e x) (g : E2V C H e' y) (k : ∀ H', Same H H' → Q (.bl (!decide (e = e'))) H') : rNe2 (DOs C) x y H Q := by
  obtain ⟨p, x1, x2, rfl, hp, h1, h2⟩ := h
  obtain ⟨q, y1, y2, rfl, hq, g1, g2⟩ := g
  refine ⟨p, q, x1, x2, y1, y2, decide (e.1 = e'.1), decide (e.2 = e'.2), rfl, rfl, hp, hq, ⟨_, _, h1, g1, rfl⟩, ⟨_, _, h2, g2, rfl⟩, fun H' s => ?_⟩
  have : (decide (e.1 = e'.1) && decide (e.2 = e'.2)) = decide (e = e') := by
    obtain ⟨a, b⟩ := e
    obtain ⟨c, d⟩ := e'
    by_cases z : a = c
    · by_cases z2 : b = d
      · simp [z, z2]
      · simp [z2]
    · simp [z]
  rw [this]; exact k H' s
/-- a pair of dicts: the ends of functions and of cases -/
def spTabEnds {ε : Type} (C : Addr) (R : Hp → ε → V → Prop) (F : KM.Tb Str → List Str → Str → ε) (A : KM.Tb Str → List Str → Str → Bool × ε) : Sp := fun vs H Q _ => ∃ a af ac M fl cl Rd, vs = [.ref a] ∧ TabA C af ac M fl cl Rd H a ∧
  ∀ q bF bA H', Same H H' → H q = none → H bF = none → H bA = none → H' q = some (.tup [.ref bF, .ref bA]) → FnD R H' bF fl (F M fl) → ArD R H' bA cl (A M fl) → Q (.ref q) H'
theorem c_can_ends (T : Txt K mg) : Cal P w K mg base 23 "can_ends" (spTabEnds (cT K) B2V (fun M fl => KM.cst M fl) (fun M fl => KM.carms M (KM.cst M fl))) := by
  have cc := c_can_end (P := P) (w := w) (base := base) T 20
  obtain ⟨fE, fd, ps, FE, g_can_end, kp, bi⟩ := cc.ex
  have c_settled := settled_gen (P := P) (w := w) (base := base) T (R := B2V) rle_b2 KM.cen_cg (e0 := KM.bN) FE kp bi (rr := rNe2 DFl) (fun H e e' x y Q => ne_b2) (fun X h1 h2 h3 h4 h5 hr => op_ne2 mon_fl eqR_flat (hr.mono (by decide))) (by decide)
  refine cal_of T.d_can_ends sc_can_ends (fun _ _ _ _ _ _ us hl => match us, hl with | [_], _ => rfl) (fun vs H Q E h => ?_) (fun f cdv A outer s H vs Q E hr h => ?_)
  · obtain ⟨_, _, _, _, _, _, _, rfl, _⟩ := h; rfl
  obtain ⟨a, af, ac, M, fl, cl, Rd, rfl, hT, k⟩ := h
  have nd := sc_can_ends.nd
  refine ⟨_, (pss_one (ps_ret (pe_c c_settled hr (by decide) rfl (pa_cons (pv 0) (pa_cons (pe_tup (pa_cons pe_bl (pa_cons pe_bl pa_nil))) (pa_cons (pe_glob (v := .ref _) rfl g_can_end rfl) pa_nil)))))), ?_⟩
  refine ⟨_, rfl, by show 2 ≤ sizeLine; decide, fun t ht => ?_⟩
  have st := Same.upd (o := .tup [.bl false, .bl false]) ht
  refine ⟨a, .ref t, af, ac, M, fl, cl, Rd, 2 * fl.length + 1, rfl, hT.same st, ⟨t, rfl, upd_same⟩, KM.can_stands, fun q bF bA H' s hq hF hA h1 h2 h3 => ?_⟩
  exact k q bF bA H' (st.trans s) (st.free hq) (st.free hF) (st.free hA) h1 h2 h3
theorem c_least_ends (T : Txt K mg) : Cal P w K mg base 29 "least_ends" (spTabEnds (cT K) (E2V (cS K)) (fun M _ => KM.lst M) (fun M _ => KM.larms M (KM.lst M))) := by
  have cc := c_least_end (P := P) (w := w) (base := base) T 20
  obtain ⟨fE, fd, ps, FE, g_least_end, kp, bi⟩ := cc.ex
  have me := m_eq (P := P) (w := w) (base := base) T
  obtain ⟨fde, pse, Fe, be⟩ := me.ex
  have c_settled := settled_gen (P := P) (w := w) (base := base) T (R := E2V (cS K)) rle_e2 KM.lend_cg (e0 := KM.eN) FE kp bi (rr := rNe2 (DOs (cS K))) (fun H e e' x y Q => ne_e2)
    (fun X h1 h2 h3 h4 h5 hr => by
      subst h1 h2 h3 h4 h5
      exact op_ne2 mon_os (eqR_os Fe me.at_ me.fn be pass0 T.nsS) (hr.mono (by decide))) (by decide)
  refine cal_of T.d_least_ends sc_least_ends (fun _ _ _ _ _ _ us hl => match us, hl with | [_], _ => rfl) (fun vs H Q E h => ?_) (fun f cdv A outer s H vs Q E hr h => ?_)
  · obtain ⟨_, _, _, _, _, _, _, rfl, _⟩ := h; rfl
  obtain ⟨a, af, ac, M, fl, cl, Rd, rfl, hT, k⟩ := h
  have nd := sc_least_ends.nd
  refine ⟨_, (pss_one (ps_ret (pe_c c_settled hr (by decide) rfl (pa_cons (pv 0) (pa_cons (pe_tup (pa_cons pe_non (pa_cons pe_non pa_nil))) (pa_cons (pe_glob (v := .ref _) rfl g_least_end rfl) pa_nil)))))), ?_⟩
  refine ⟨_, rfl, by show 2 ≤ sizeLine; decide, fun t ht => ?_⟩
  have st := Same.upd (o := .tup [.non, .non]) ht
  refine ⟨a, .ref t, af, ac, M, fl, cl, Rd, 1001, rfl, hT.same st, ⟨t, .non, .non, rfl, upd_same, rfl, rfl⟩, KM.least_stands hT.ok.ok hT.ok.fm, fun q bF bA H' s hq hF hA h1 h2 h3 => ?_⟩
  have e : KM.iter (KM.rnd KM.lend KM.eN M fl) 1001 (nF KM.eN) = KM.lst M := KM.prog_rounds hT.ok.ok hT.ok.fm hT.ok.fnd
  rw [e] at h2 h3
  exact k q bF bA H' (st.trans s) (st.free hq) (st.free hF) (st.free hA) h1 h2 h3
end
end K52

namespace K52
open PySem PySem.Spec PyProof.Rows L2
/-! ### dicts of gains -/
abbrev TLs := KM.TL Str
def kvT (p : Str × Nat) : Key × V := (Sum.inr p.1, .int (p.2 : Nat))
def getT (D : TLs) (x : Str) : Nat := ((D.find? fun p => decide (p.1 = x)).map (·.2)).getD 0
def hasT (D : TLs) (x : Str) : Bool := D.any fun p => decide (p.1 = x)
def putT (D : TLs) (x : Str) (n : Nat) : TLs := if hasT D x = true then D.map fun p => if p.1 = x then (p.1, n) else p else D ++ [(x, n)]
def upT (D : TLs) (x : Str) (n : Nat) : TLs := putT D x (max (getT D x) n)
theorem val_kvT (D : TLs) (x : Str) : valV (D.map kvT) (Sum.inr x) = (D.find? fun p => decide (p.1 = x)).map fun p => .int (p.2 : Nat) := by
  unfold valV
  rw [List.find?_map, Option.map_map]
  have : ((fun kv : Key × V => decide (kv.1 = Sum.inr x)) ∘ kvT) = fun p : Str × Nat => decide (p.1 = x) := by
    funext p
    show decide ((Sum.inr p.1 : Key) = Sum.inr x) = decide (p.1 = x)
    by_cases e : p.1 = x
    · rw [e]; simp
    · rw [decide_eq_false e, decide_eq_false]
      intro z; injection z with z; exact e z
  rw [this]; rfl
theorem get_kvT (D : TLs) (x : Str) : (valV (D.map kvT) (Sum.inr x)).getD (.int 0) = .int (getT D x : Nat) := by
  rw [val_kvT]
  unfold getT
  cases D.find? fun p => decide (p.1 = x) <;> rfl
theorem put_kvT (D : TLs) (x : Str) (n : Nat) : putK (D.map kvT) (Sum.inr x) (.int (n : Nat)) = (putT D x n).map kvT := by
  have e : ∀ p : Str × Nat, decide ((kvT p).1 = Sum.inr x) = decide (p.1 = x) := fun p => by
    show decide ((Sum.inr p.1 : Key) = Sum.inr x) = decide (p.1 = x)
    by_cases e : p.1 = x
    · rw [e]; simp
    · rw [decide_eq_false e, decide_eq_false]
      intro z; injection z with z; exact e z
  have ha : ((D.map kvT).any fun kv => decide (kv.1 = Sum.inr x)) = hasT D x := by
    rw [List.any_map]
    unfold hasT
    congr 1
    funext p
    exact e p
  unfold putK putT
  rw [ha]
  cases hasT D x with
  | false => simp [kvT]
  | true =>
    simp only [if_true]
    rw [List.map_map, List.map_map]
    refine List.map_congr_left fun p _ => ?_
    show (if (kvT p).1 = Sum.inr x then _ else _) = kvT (if p.1 = x then _ else _)
    by_cases z : p.1 = x
    · rw [if_pos z, if_pos (by show (Sum.inr p.1 : Key) = _; rw [z])]; rfl
    · rw [if_neg z, if_neg (by intro q; have : (Sum.inr p.1 : Key) = Sum.inr x := q; injection this with this; exact z this)]
theorem hasT_iff {D : TLs} {x : Str} : hasT D x = true ↔ x ∈ D.map (·.1) := by
  unfold hasT
  rw [List.any_eq_true, List.mem_map]
  constructor
  · rintro ⟨p, hp, e⟩; exact ⟨p, hp, of_decide_eq_true e⟩
  · rintro ⟨p, hp, e⟩; exact ⟨p, hp, decide_eq_true e⟩
theorem putT_keys {D : TLs} {x : Str} {n : Nat} : (putT D x n).map (·.1) = if hasT D x = true then D.map (·.1) else D.map (·.1) ++ [x] := by
  unfold putT
  cases hasT D x with
  | false => simp
  | true =>
    simp only [if_true]
    rw [List.map_map]
    refine List.map_congr_left fun p _ => ?_
    show (if p.1 = x then (p.1, n) else p).1 = p.1
    split <;> rfl
theorem putT_nd {D : TLs} {x : Str} {n : Nat} (h : (D.map (·.1)).Nodup) : ((putT D x n).map (·.1)).Nodup := by
  rw [putT_keys]
  cases e : hasT D x with
  | true => simp only [if_true]; exact h
  | false =>
    simp only [Bool.false_eq_true, if_false]
    have nx : x ∉ D.map (·.1) := fun m => by rw [hasT_iff.mpr m] at e; cases e
    exact List.nodup_append.mpr ⟨h, by simp, fun a ha b hb => by rw [List.mem_singleton.mp hb]; exact fun q => nx (by rw [← q]; exact ha)⟩
theorem putT_sub {D : TLs} {x : Str} {n : Nat} {nm : List Str} (h : ∀ y ∈ D.map (·.1), y ∈ nm) (hx : x ∈ nm) : ∀ y ∈ (putT D x n).map (·.1), y ∈ nm := fun y hy => by
  rw [putT_keys] at hy
  cases e : hasT D x with
  | true => rw [e] at hy; exact h y hy
  | false =>
    rw [e] at hy
    rcases List.mem_append.mp hy with q | q
    · exact h y q
    · rw [List.mem_singleton.mp q]; exact hx
theorem getT_mem {D : TLs} {x : Str} (h : hasT D x = true) : (x, getT D x) ∈ D := by
  unfold hasT at h
  obtain ⟨p, hp, e⟩ := List.any_eq_true.mp h
  unfold getT
  cases q : D.find? fun p => decide (p.1 = x) with
  | none =>
    have := List.find?_eq_none.mp q p hp
    exact absurd e this
  | some r =>
    have h1 := List.mem_of_find?_eq_some q
    have h2 : r.1 = x := of_decide_eq_true (List.find?_some (p := fun p : Str × Nat => decide (p.1 = x)) q)
    show (x, r.2) ∈ D
    rw [← h2]; exact h1
theorem getT_of {D : TLs} (hn : (D.map (·.1)).Nodup) {x : Str} {m : Nat} (h : (x, m) ∈ D) : getT D x = m := by
  have hh : hasT D x = true := hasT_iff.mpr (List.mem_map.mpr ⟨_, h, rfl⟩)
  have h2 := getT_mem hh
  have : ∀ {l : TLs}, (l.map (·.1)).Nodup → ∀ {a b : Nat}, (x, a) ∈ l → (x, b) ∈ l → a = b := by
    intro l
    induction l with
    | nil => intro _ a b h; cases h
    | cons p l ih =>
      intro hn a b ha hb
      rw [List.map_cons] at hn
      obtain ⟨np, hn⟩ := List.nodup_cons.mp hn
      rcases List.mem_cons.mp ha with e1 | ha
      · rcases List.mem_cons.mp hb with e2 | hb
        · rw [← e1] at e2; injection e2 with _ e2; exact e2.symm
        · exact absurd (List.mem_map.mpr ⟨_, hb, by rw [← e1]⟩) np
      · rcases List.mem_cons.mp hb with e2 | hb
        · exact absurd (List.mem_map.mpr ⟨_, ha, by rw [← e2]⟩) np
        · exact ih hn ha hb
  exact this hn h2 h
theorem upT_eqT {D : TLs} (hn : (D.map (·.1)).Nodup) (x : Str) (n : Nat) : KM.eqT (upT D x n) (D ++ [(x, n)]) := by
  unfold upT putT
  cases e : hasT D x with
  | false =>
    simp only [Bool.false_eq_true, if_false]
    have g0 : getT D x = 0 := by
      unfold getT
      cases q : D.find? fun p => decide (p.1 = x) with
      | none => rfl
      | some r =>
        have h1 := List.mem_of_find?_eq_some q
        have h2 : r.1 = x := of_decide_eq_true (List.find?_some (p := fun p : Str × Nat => decide (p.1 = x)) q)
        rw [hasT_iff.mpr (List.mem_map.mpr ⟨r, h1, h2⟩)] at e; cases e
    rw [g0, Nat.zero_max]
    exact KM.eqT_refl _
  | true =>
    simp only [if_true]
    have gm := getT_mem e
    refine ⟨fun p hp => ?_, fun p hp => ?_⟩
    · obtain ⟨q, hq, rfl⟩ := List.mem_map.mp hp
      by_cases z : q.1 = x
      · rw [if_pos z]
        rcases Nat.le_total (getT D x) n with h | h
        · exact ⟨(x, n), by simp, z.symm, by show max _ n ≤ n; omega⟩
        · exact ⟨(x, getT D x), List.mem_append_left _ gm, z.symm, by show max _ n ≤ getT D x; omega⟩
      · rw [if_neg z]; exact ⟨q, List.mem_append_left _ hq, rfl, Nat.le_refl _⟩
    · rcases List.mem_append.mp hp with hp | hp
      · by_cases z : p.1 = x
        · refine ⟨(p.1, max (getT D x) n), List.mem_map.mpr ⟨p, hp, by rw [if_pos z]⟩, rfl, ?_⟩
          have : getT D x = p.2 := getT_of hn (by rw [← z]; exact hp)
          show p.2 ≤ max (getT D x) n
          omega
        · exact ⟨p, List.mem_map.mpr ⟨p, hp, by rw [if_neg z]⟩, rfl, Nat.le_refl _⟩
      · rw [List.mem_singleton.mp hp]
        exact ⟨(x, max (getT D x) n), List.mem_map.mpr ⟨_, gm, by rw [if_pos rfl]⟩, rfl, by show n ≤ max _ n; omega⟩
def takeT (D E : TLs) (g : Nat) : TLs := E.foldl (fun D p => upT D p.1 (p.2 + g)) D
theorem takeT_ok {nm : List Str} {g : Nat} : ∀ {E D : TLs}, (D.map (·.1)).Nodup → (∀ y ∈ D.map (·.1), y ∈ nm) → (∀ y ∈ E.map (·.1), y ∈ nm) → ((takeT D E g).map (·.1)).Nodup ∧ (∀ y ∈ (takeT D E g).map (·.1), y ∈ nm) ∧ KM.eqT (takeT D E g) (D ++ KM.shiftT g E)
  | [], D, h1, h2, _ => ⟨h1, h2, by show KM.eqT D (D ++ []); rw [List.append_nil]; exact KM.eqT_refl _⟩
  | p :: E, D, h1, h2, h3 => by
    have := takeT_ok (g := g) (E := E) (D := upT D p.1 (p.2 + g)) (putT_nd h1) (putT_sub h2 (h3 p.1 (by simp))) fun y hy => h3 y (by rw [List.map_cons]; exact List.mem_cons_of_mem _ hy)
    refine ⟨this.1, this.2.1, KM.eqT_trans this.2.2 ?_⟩
    have e : D ++ KM.shiftT g (p :: E) = (D ++ [(p.1, p.2 + g)]) ++ KM.shiftT g E := by simp [KM.shiftT]
    rw [e]
    exact KM.eqT_app (upT_eqT h1 _ _) (KM.eqT_refl _)
/-- a dict of gains at d: its keys, what it tells -/
structure TopD (H : Hp) (d : Addr) (nm : List Str) (L : TLs) : Prop where
  ex : ∃ D : TLs, H d = some (.dK (D.map kvT)) ∧ (D.map (·.1)).Nodup ∧ (∀ y ∈ D.map (·.1), y ∈ nm) ∧ KM.eqT D L
theorem TopD.same {H H' : Hp} {d : Addr} {nm : List Str} {L : TLs} (s : Same H H') (h : TopD H d nm L) : TopD H' d nm L := by
  obtain ⟨D, h1, h2⟩ := h
  exact ⟨D, s _ _ h1, h2⟩
section
variable {P : Program} {w : World} {K : PySem.W.Frag} {mg : Str → Option Value} {base : Heap}
def wtF (ac : Str → Nat) (by_ : Str) : Str → Nat := fun c => if by_ = "frames" then 1 else ac c
def spWeight : Sp := fun vs H Q _ => ∃ v af ac sl c b by_, vs = [v, .str by_] ∧ BdV af ac sl H (.push c b) v ∧ Q (.int (wtF ac by_ c : Nat)) H
theorem c_weight (T : Txt K mg) : Cal P w K mg base 1 "weight" spWeight := by
  refine cal_of T.d_weight sc_weight (fun _ _ _ _ _ _ us hl => match us, hl with | [_, _], _ => rfl) (fun vs H Q E h => ?_) (fun f cdv A outer s H vs Q E hr h => ?_)
  · obtain ⟨v, _, _, _, _, _, _, rfl, _⟩ := h; rfl
  · obtain ⟨v, af, ac, sl, c, b, by_, rfl, hb, k⟩ := h
    have nd := sc_weight.nd
    refine ⟨_, (pss_one (ps_ret (pe_ifExp (pt_cmpR op_eq (pv 1) pe_str (nomark _)) pe_int (pe_callB call_len_seq (by rfl) T.b_len PySem.boot_len (pa_cons (pe_ix ix_tup (pv 0) pe_int (fun _ _ => rfl)) pa_nil))))), ?_⟩
    refine ⟨_, rfl, rfl, _, rfl, ?_⟩
    cases hb with
    | @push p c q y b n1 n2 hp ha hb =>
      obtain ⟨q', xs, e, hq, hl, _⟩ := ha
      cases e
      unfold wtF at k
      by_cases e : by_ = "frames"
      · rw [if_pos e] at k
        refine dT (by rw [e]) ?_
        exact k
      · rw [if_neg e] at k
        refine dF (fun z => e (by injection z)) ?_
        refine ⟨_, rfl, p, _, _, _, rfl, rfl, SqT.of hp, rfl, _, _, rfl, .inr (SqT.of hq), ?_⟩
        rw [hl]; exact k
def spTake : Sp := fun vs H Q _ => ∃ dF' dT', ∃ g : Nat, ∃ D E : TLs, ∃ nm : List Str, vs = [.ref dF', .ref dT', .int (g : Nat)] ∧ dF' ≠ dT' ∧ H dF' = some (.dK (D.map kvT)) ∧ H dT' = some (.dK (E.map kvT)) ∧ (D.map (·.1)).Nodup ∧ (∀ y ∈ D.map (·.1), y ∈ nm) ∧ (∀ y ∈ E.map (·.1), y ∈ nm) ∧ (E.map (·.1)).Nodup ∧ nm.length ≤ 200 ∧
  ∀ H', But dF' H H' → H' dF' = some (.dK ((takeT D E g).map kvT)) → Q .non H'
theorem c_take_tops (T : Txt K mg) : Cal P w K mg base 1 "take_tops" spTake := by
  refine cal_of T.d_take_tops sc_take_tops (fun _ _ _ _ _ _ us hl => match us, hl with | [_, _, _], _ => rfl) (fun vs H Q E h => ?_) (fun f cdv A outer s H vs Q E hr h => ?_)
  · obtain ⟨_, _, _, _, _, _, rfl, _⟩ := h; rfl
  · obtain ⟨aF, aT, g, D, Es, nm, rfl, ne, hF, hT, hD, hDn, hEn, hEnd, hz, k⟩ := h
    have nd := sc_take_tops.nd
    have hu := hu_of hr
    refine ⟨_, (pss_one (ps_lock (ps_for PassesOwn.never rfl (pi_keys (pv 1)) (pg_name (i := 3) nd rfl (Or.inl rfl)) (pss_one (ps_dput hu (pv 0) (pv 3) (pe_callB (call_max2 rfl) (by rfl) T.b_max (by decide +kernel) (pa_cons (pe_dget2 hu (pv 0) (pv 3) pe_int ⟨rfl, rfl, rfl, rfl⟩) (pa_cons (pe_op op_add (pe_dget hu (pv 1) (pv 3) (fun _ _ => rfl)) (pv 2)) pa_nil))) rfl))))), ?_⟩
    refine ⟨aT, _, hT, trivial, fun od => ⟨_, rfl, aT, od, rfl, .inl ⟨_, upd_same, ?_⟩⟩⟩
    have kl : (Es.map kvT).length = Es.length := List.length_map ..
    have hz' : 201 ≤ sizeLine := by decide
    refine for_it walk_keys (fun i σ H' => (∃ p3, σ = [some (.ref aF), some (.ref aT), some (.int (g : Nat)), p3]) ∧ But aF (upd H aT (.frz od (.dK (Es.map kvT)))) H' ∧ H' aF = some (.dK ((takeT D (Es.take i) g).map kvT))) ⟨⟨_, rfl⟩, But.refl _ _, by rw [upd_ne ne]; exact hF⟩ (fun i σ H' _ p => p.2.1 _ _ ne.symm upd_same) (fun i x σ H1 H2 hi p y => ?_) (fun σ H1 p => ?_)
    · obtain ⟨rfl, ky, vv, hkv, rfl⟩ := y
      obtain ⟨⟨p3, rfl⟩, bu, h1⟩ := p
      rw [List.getElem?_map] at hkv
      obtain ⟨p, hp, e⟩ := Option.map_eq_some_iff.mp hkv
      cases e
      have tk : Es.take (i + 1) = Es.take i ++ [p] := by rw [List.take_add_one, hp]; rfl
      have hEi : ∀ y ∈ (Es.take i).map (·.1), y ∈ nm := fun y hy => by
        obtain ⟨q, hq, e⟩ := List.mem_map.mp hy
        exact hEn y (List.mem_map.mpr ⟨q, List.mem_of_mem_take hq, e⟩)
      obtain ⟨n1, n2, _⟩ := takeT_ok (g := g) (E := Es.take i) hD hDn hEi
      have hT2 := bu _ _ ne.symm (upd_same (H := H) (a := aT) (o := .frz od (.dK (Es.map kvT))))
      have ev : valV (Es.map kvT) (Sum.inr p.1) = some (.int (p.2 : Nat)) := by
        rw [val_kvT]
        have hm : (p.1, p.2) ∈ Es := List.mem_of_getElem? hp
        have hg := getT_of hEnd hm
        have hh : hasT Es p.1 = true := hasT_iff.mpr (List.mem_map.mpr ⟨_, hm, rfl⟩)
        unfold getT at hg
        unfold hasT at hh
        cases q : Es.find? fun r => decide (r.1 = p.1) with
        | none =>
          obtain ⟨r, hr1, hr2⟩ := List.any_eq_true.mp hh
          exact absurd hr2 (List.find?_eq_none.mp q r hr1)
        | some r =>
          rw [q] at hg
          have : r.2 = p.2 := hg
          rw [← this]; rfl
      have hlen := len_sub n1 n2
      refine ⟨_, rfl, aF, rfl, .inl ⟨_, .inl h1⟩, _, rfl, _, .inl ⟨_, Sum.inr p.1, .inl h1, rfl, rfl⟩, ?_⟩
      refine ⟨_, rfl, _, rfl, aT, _, rfl, dgetS (.inr ⟨od, hT2⟩) ev, _, rfl, _, _, rfl, rfl, ((getT (takeT D (Es.take i) g) p.1 : Nat) : Int), ((p.2 + g : Nat) : Int), by rw [get_kvT]; rfl, ?_⟩
      have em : (if ((p.2 + g : Nat) : Int) > ((getT (takeT D (Es.take i) g) p.1 : Nat) : Int) then ((p.2 + g : Nat) : Int) else ((getT (takeT D (Es.take i) g) p.1 : Nat) : Int)) = ((max (getT (takeT D (Es.take i) g) p.1) (p.2 + g) : Nat) : Int) := by
        split <;> omega
      rw [em]
      refine ⟨_, rfl, _, rfl, aF, _, rfl, DPut.k (k := Sum.inr p.1) h1 (by rw [List.length_map]; rw [List.length_map] at hlen; omega), ?_⟩
      refine ⟨⟨_, rfl⟩, bu.trans But.upd, ?_⟩
      rw [upd_same, put_kvT, tk]
      unfold takeT
      rw [List.foldl_append]
      rfl
    · obtain ⟨⟨p3, rfl⟩, bu, h1⟩ := p
      have hT2 := bu _ _ ne.symm (upd_same (H := H) (a := aT) (o := .frz od (.dK (Es.map kvT))))
      refine ⟨hT2, k _ (fun b o nb e => ?_) ?_⟩
      · by_cases q : b = aT
        · subst q; rw [upd_same]; rw [hT] at e; exact e
        · rw [upd_ne q]; exact bu b o nb (by rw [upd_ne q]; exact e)
      · rw [upd_ne ne]
        rw [kl, List.take_length] at h1
        exact h1
end
end K52

namespace K52
open PySem PySem.Spec PyProof.Rows L2
section
variable {P : Program} {w : World} {K : PySem.W.Frag} {mg : Str → Option Value} {base : Heap}
/-- a dict of dicts of gains -/
def TopsD (H : Hp) (d : Addr) (names nm : List Str) (G : Str → TLs) : Prop := ∃ kvs, H d = some (.dK kvs) ∧ DRel names (fun c v => ∃ p, v = .ref p ∧ p ≠ d ∧ TopD H p nm (G c)) kvs
theorem TopsD.same {H H' : Hp} {d : Addr} {names nm : List Str} {G : Str → TLs} (s : Same H H') (h : TopsD H d names nm G) : TopsD H' d names nm G := by
  obtain ⟨k, h1, h2⟩ := h
  exact ⟨k, s _ _ h1, h2.imp fun c v _ ⟨p, e, n, q⟩ => ⟨p, e, n, q.same s⟩⟩
/-- what can end how, as the pair of dicts at p -/
structure CanA (M : KM.Tb Str) (fl cl : List Str) (C : Str → KM.B2) (H : Hp) (p : Addr) : Prop where
  ex : ∃ bF bA, H p = some (.tup [.ref bF, .ref bA]) ∧ FnD B2V H bF fl C ∧ ArD B2V H bA cl (KM.carms M C)
theorem CanA.same {M : KM.Tb Str} {fl cl : List Str} {C : Str → KM.B2} {H H' : Hp} {p : Addr} (s : Same H H') (h : CanA M fl cl C H p) : CanA M fl cl C H' p := by
  obtain ⟨bF, bA, h1, h2, h3⟩ := h
  exact ⟨bF, bA, s _ _ h1, h2.same rle_b2 s, h3.same rle_b2 s⟩
theorem But.same {F : Addr} {H0 H H' : Hp} (s : Same H0 H) (n : H0 F = none) (b : But F H H') : Same H0 H' := Same.but_new s n b
def spTopsIn (n : Nat) : Sp := fun vs H Q _ => ∃ v pC dT by_ af ac sl b M fl cl C names nm, ∃ G : Str → TLs, vs = [v, .ref pC, .ref dT, .str by_] ∧ BdV af ac sl H b v ∧ bdDep b ≤ n ∧ n ≤ 20 ∧ CanA M fl cl C H pC ∧ TopsD H dT names nm G ∧
  (∀ g ∈ b.calls, g ∈ fl ∧ g ∈ nm) ∧ (∀ c ∈ b.pushes, c ∈ cl ∧ c ∈ names) ∧ (("" : Str) ∈ nm) ∧ nm.length ≤ 200 ∧
  ∀ H' q, Same H H' → H q = none → TopD H' q nm (KM.tpl "" (wtF ac by_) (KM.entC M C) G b) → Q (.ref q) H'
theorem take_of {H : Hp} {F S : Addr} {g : Nat} {nm : List Str} {L L' : TLs} {Q : VK} (ne : F ≠ S) (hF : TopD H F nm L) (hS : TopD H S nm L') (hz : nm.length ≤ 200) (k : ∀ H', But F H H' → TopD H' F nm (L ++ KM.shiftT g L') → Q .non H') : spTake [.ref F, .ref S, .int (g : Nat)] H Q E0 := by
  obtain ⟨D, h1, h2, h3, h4⟩ := hF
  obtain ⟨D2, g1, g2, g3, g4⟩ := hS
  refine ⟨F, S, g, D, D2, nm, rfl, ne, h1, g1, h2, h3, g3, g2, hz, fun H' bu h' => k H' bu ?_⟩
  obtain ⟨n1, n2, n3⟩ := takeT_ok (g := g) h2 h3 g3
  exact ⟨_, h', n1, n2, KM.eqT_trans n3 (KM.eqT_app h4 (KM.eqT_shift g g4))⟩
theorem tcall3 {sp : Sp} {x y z : V} {σ : L2.St} {H : Hp} {Q : VK} (h : sp [x, y, z] H Q E0) : tNil σ H (fun xs H2 => (fun xs H2 => (fun xs H2 => (fun vs H1 => sp (vs ++ []) H1 Q E0) (x :: xs) H2) (y :: xs) H2) (z :: xs) H2) := h
theorem tcall3c {sp : Sp} {x y z : V} {σ : L2.St} {H : Hp} {Q : VK} (h : sp [x, y, z] H Q E0) : tCons (tC z) tNil σ H (fun xs H2 => (fun xs H2 => (fun vs H1 => sp (vs ++ []) H1 Q E0) (x :: xs) H2) (y :: xs) H2) := h
theorem nm_ne {f : Str} (h : NmOk f) : f ≠ "" := fun e => by
  have := h.1
  rw [e] at this
  exact absurd this (by decide)
theorem topsin_step (T : Txt K mg) {n k : Nat} (hk : 21 ≤ k) (c_tops_in : Cal P w K mg base k "tops_in" (spTopsIn n)) : Cal P w K mg base (k + 1) "tops_in" (spTopsIn (n + 1)) := by
  have c_take_tops := c_take_tops (P := P) (w := w) (base := base) T
  have c_weight := c_weight (P := P) (w := w) (base := base) T
  have c_entered_by := c_entered_by (P := P) (w := w) (base := base) T
  have c_can_end := c_can_end (P := P) (w := w) (base := base) T 20
  refine cal_of T.d_tops_in sc_tops_in (fun _ _ _ _ _ _ us hl => match us, hl with | [_, _, _, _], _ => rfl) (fun vs H Q E h => ?_) (fun f cdv A outer s H vs Q E hr h => ?_)
  · obtain ⟨_, _, _, _, _, _, _, _, _, _, _, _, _, _, _, rfl, _⟩ := h; rfl
  obtain ⟨v, pC, dT', by_, af, ac, sl, b, M, fl, cl, C, names, nm, G, rfl, hb, hn, hn20, hC, hG, hcf, hcp, hnm, hz, kk⟩ := h
  have nd := sc_tops_in.nd
  have hu := hu_of hr
  refine ⟨_, (pss_cons (ps_par (i := 4) (j := 5) (by rfl) nd rfl rfl (by decide) rfl rfl (pa_cons (pe_ix ix_tup (pv 0) pe_int (fun _ _ => rfl)) (pa_cons (pe_disp (pps_cons pe_str pe_int pps_nil) (by rfl) (by rfl) (fun z => by cases z) (by decide)) pa_nil)) (by rfl))
  (pss_cons (ps_if (pt_cmpR op_eq (pv 4) pe_str (nomark _)) (pss_one (ps_dput hu (pv 5) (pe_ix ix_tup (pv 0) pe_int (fun _ _ => rfl)) pe_int rfl)) pss_nil)
  (pss_cons (ps_if (pt_cmpR op_eq (pv 4) pe_str (nomark _)) (pss_cons (ps_expr (pe_c c_take_tops hr (by omega) rfl (pa_cons (pv 5) (pa_cons (pe_c c_tops_in hr (by omega) rfl (pa_cons (pe_ix ix_tup (pv 0) pe_int (fun _ _ => rfl)) (pa_cons (pv 1) (pa_cons (pv 2) (pa_cons (pv 3) pa_nil))))) (pa_cons pe_int pa_nil)))))
  (pss_one (ps_expr (pe_c c_take_tops hr (by omega) rfl (pa_cons (pv 5) (pa_cons (pe_c c_tops_in hr (by omega) rfl (pa_cons (pe_ix ix_tup (pv 0) pe_int (fun _ _ => rfl)) (pa_cons (pv 1) (pa_cons (pv 2) (pa_cons (pv 3) pa_nil))))) (pa_cons pe_int pa_nil))))))) pss_nil)
  (pss_cons (ps_if (pt_cmpR op_eq (pv 4) pe_str (nomark _)) (pss_cons (ps_expr (pe_c c_take_tops hr (by omega) rfl (pa_cons (pv 5) (pa_cons (pe_c c_tops_in hr (by omega) rfl (pa_cons (pe_ix ix_tup (pv 0) pe_int (fun _ _ => rfl)) (pa_cons (pv 1) (pa_cons (pv 2) (pa_cons (pv 3) pa_nil))))) (pa_cons (pe_c c_weight hr (by omega) rfl (pa_cons (pv 0) (pa_cons (pv 3) pa_nil))) pa_nil)))))
  (pss_cons (ps_asg (pv 1) (pg_tup (by rfl) (pgs_cons (pg_name (i := 6) nd rfl (Or.inl rfl)) (pgs_cons (pg_name (i := 7) nd rfl (Or.inl rfl)) pgs_nil))))
  (pss_one (ps_if (pt_val (pe_c c_entered_by hr (by omega) rfl (pa_cons (pe_ix ix_tup (pe_dget hu (pv 7) (pe_ix ix_tup (pv 0) pe_int (fun _ _ => rfl)) (fun _ _ => rfl)) pe_int (fun _ _ => rfl)) (pa_cons (pe_c c_can_end hr (by omega) rfl (pa_cons (pe_ix ix_tup (pv 0) pe_int (fun _ _ => rfl)) (pa_cons (pv 6) (pa_cons (pv 7) pa_nil)))) pa_nil)))) (pss_one (ps_expr (pe_c c_take_tops hr (by omega) rfl (pa_cons (pv 5) (pa_cons (pe_dget hu (pv 2) (pe_ix ix_tup (pv 0) pe_int (fun _ _ => rfl)) (fun _ _ => rfl)) (pa_cons pe_int pa_nil)))))) pss_nil)))) pss_nil)
  (pss_one (ps_ret (pv 5))))))), ?_⟩
  have disp : mergeK [] [((Sum.inr ("" : Str) : Key), V.int 0)] = ([("", 0)] : TLs).map kvT := rfl
  -- the dict at the start
  have start : ∀ F, H F = none → Same H (upd (upd H F (.dK [])) F (.dK (mergeK [] [((Sum.inr ("" : Str) : Key), V.int 0)]))) ∧ (upd (upd H F (.dK [])) F (.dK (mergeK [] [((Sum.inr ("" : Str) : Key), V.int 0)]))) F = some (.dK (([("", 0)] : TLs).map kvT)) := fun F hF => ⟨by rw [upd_upd]; exact Same.upd hF, by rw [upd_same, disp]⟩
  have one : ∀ {H' : Hp} {F : Addr}, H' F = some (.dK (([("", 0)] : TLs).map kvT)) → TopD H' F nm [("", 0)] := fun h => ⟨_, h, by simp, by simpa using hnm, KM.eqT_refl _⟩
  cases hb with
  | @ret p x hp ha =>
    refine ⟨_, rfl, p, _, _, _, rfl, rfl, SqT.of hp, rfl, fun F hF => ⟨upd_same, [(Sum.inr "", .int 0)], rfl, by decide, _, _, rfl, ?_⟩⟩
    obtain ⟨s1, h1⟩ := start F hF
    refine ⟨_, rfl, rfl, _, rfl, dF (by decide) ?_⟩
    refine ⟨_, rfl, rfl, _, rfl, dF (by decide) ?_⟩
    refine ⟨_, rfl, rfl, _, rfl, dF (by decide) ?_⟩
    exact ⟨_, rfl, kk _ F s1 hF (one h1)⟩
  | @rai p x hp ha =>
    refine ⟨_, rfl, p, _, _, _, rfl, rfl, SqT.of hp, rfl, fun F hF => ⟨upd_same, [(Sum.inr "", .int 0)], rfl, by decide, _, _, rfl, ?_⟩⟩
    obtain ⟨s1, h1⟩ := start F hF
    refine ⟨_, rfl, rfl, _, rfl, dF (by decide) ?_⟩
    refine ⟨_, rfl, rfl, _, rfl, dF (by decide) ?_⟩
    refine ⟨_, rfl, rfl, _, rfl, dF (by decide) ?_⟩
    exact ⟨_, rfl, kk _ F s1 hF (one h1)⟩
  | @ask p nm' q m n1 n2 hp ha =>
    refine ⟨_, rfl, p, _, _, _, rfl, rfl, SqT.of hp, rfl, fun F hF => ⟨upd_same, [(Sum.inr "", .int 0)], rfl, by decide, _, _, rfl, ?_⟩⟩
    obtain ⟨s1, h1⟩ := start F hF
    refine ⟨_, rfl, rfl, _, rfl, dF (by decide) ?_⟩
    refine ⟨_, rfl, rfl, _, rfl, dF (by decide) ?_⟩
    refine ⟨_, rfl, rfl, _, rfl, dF (by decide) ?_⟩
    exact ⟨_, rfl, kk _ F s1 hF (one h1)⟩
  | @call p g q n1 n2 hp ha =>
    refine ⟨_, rfl, p, _, _, _, rfl, rfl, SqT.of hp, rfl, fun F hF => ⟨upd_same, [(Sum.inr "", .int 0)], rfl, by decide, _, _, rfl, ?_⟩⟩
    obtain ⟨s1, h1⟩ := start F hF
    refine ⟨_, rfl, rfl, _, rfl, dT (by decide) ?_⟩
    have hgn := nm_ne n1
    have ep : putK (([("", 0)] : TLs).map kvT) (Sum.inr g) (.int 0) = ([("", 0), (g, 0)] : TLs).map kvT := by
      rw [show (V.int 0) = .int ((0 : Nat) : Int) from rfl, put_kvT]
      unfold putT
      have : hasT ([("", 0)] : TLs) g = false := by
        show (decide (("" : Str) = g) || false) = false
        rw [decide_eq_false (fun z => hgn z.symm)]; rfl
      rw [this]; rfl
    refine ⟨_, rfl, _, rfl, p, _, _, _, rfl, rfl, SqT.of (s1 _ _ hp), rfl, F, _, rfl, DPut.k (k := Sum.inr g) h1 (by show 1 < sizeLine; decide), ?_⟩
    rw [ep]
    refine ⟨_, rfl, rfl, _, rfl, dF (by decide) ?_⟩
    refine ⟨_, rfl, rfl, _, rfl, dF (by decide) ?_⟩
    refine ⟨_, rfl, kk _ F (Same.put s1 hF) hF ⟨_, upd_same, ?_, ?_, KM.eqT_refl _⟩⟩
    · simp [Ne.symm hgn]
    · intro y hy
      simp only [List.map_cons, List.map_nil, List.mem_cons, List.not_mem_nil, or_false] at hy
      rcases hy with rfl | rfl
      · exact hnm
      · exact (hcf y (by simp [KM.Bd.calls])).2
  | @test p nm' q m y z b1 b2 n1 n2 hp ha h1 h2 =>
    have hn' : max (bdDep b1) (bdDep b2) + 1 ≤ n + 1 := hn
    refine ⟨_, rfl, p, _, _, _, rfl, rfl, SqT.of hp, rfl, fun F hF => ⟨upd_same, [(Sum.inr "", .int 0)], rfl, by decide, _, _, rfl, ?_⟩⟩
    obtain ⟨s1, g1⟩ := start F hF
    have t1 := one g1
    generalize upd (upd H F (.dK [])) F (.dK (mergeK [] [((Sum.inr ("" : Str) : Key), V.int 0)])) = H1 at s1 g1 t1
    refine ⟨_, rfl, rfl, _, rfl, dF (by decide) ?_⟩
    refine ⟨_, rfl, rfl, _, rfl, dT (by decide) ?_⟩
    refine ⟨_, rfl, _, rfl, p, _, _, _, rfl, rfl, SqT.of (s1 _ _ hp), rfl, _, rfl, _, rfl, _, rfl, y, pC, dT', by_, af, ac, sl, b1, M, fl, cl, C, names, nm, G, rfl, h1.le (Same.le s1), by omega, by omega, hC.same s1, hG.same s1, fun g hg => hcf g (by simp [KM.Bd.calls, hg]), fun g hg => hcp g (by simp [KM.Bd.pushes, hg]), hnm, hz, fun H2 q2 s2 hq2 t2 => ?_⟩
    have ne1 : F ≠ q2 := ne_of_none g1 hq2
    refine tcall3c (take_of (g := 0) ne1 (t1.same s2) t2 hz fun H3 bu t3 => ?_)
    have s3 : Same H H3 := But.same (s1.trans s2) hF bu
    obtain ⟨D3, g3, _⟩ := id t3
    refine ⟨_, rfl, _, rfl, p, _, _, _, rfl, rfl, SqT.of (s3 _ _ hp), rfl, _, rfl, _, rfl, _, rfl, z, pC, dT', by_, af, ac, sl, b2, M, fl, cl, C, names, nm, G, rfl, h2.le (Same.le s3), by omega, by omega, hC.same s3, hG.same s3, fun g hg => hcf g (by simp [KM.Bd.calls, hg]), fun g hg => hcp g (by simp [KM.Bd.pushes, hg]), hnm, hz, fun H4 q4 s4 hq4 t4 => ?_⟩
    have ne2 : F ≠ q4 := ne_of_none g3 hq4
    refine tcall3c (take_of (g := 0) ne2 (t3.same s4) t4 hz fun H5 bu5 t5 => ?_)
    have s5 : Same H H5 := But.same (s3.trans s4) hF bu5
    refine ⟨_, rfl, rfl, _, rfl, dF (by decide) ?_⟩
    exact ⟨_, rfl, kk _ F s5 hF t5⟩
  | @push p c q y b1 n1 n2 hp ha h1 =>
    have hn' : bdDep b1 + 1 ≤ n + 1 := hn
    have hbp : BdV af ac sl H (.push c b1) (.ref p) := .push n1 n2 hp ha h1
    refine ⟨_, rfl, p, _, _, _, rfl, rfl, SqT.of hp, rfl, fun F hF => ⟨upd_same, [(Sum.inr "", .int 0)], rfl, by decide, _, _, rfl, ?_⟩⟩
    obtain ⟨s1, g1⟩ := start F hF
    have t1 := one g1
    generalize upd (upd H F (.dK [])) F (.dK (mergeK [] [((Sum.inr ("" : Str) : Key), V.int 0)])) = H1 at s1 g1 t1
    refine ⟨_, rfl, rfl, _, rfl, dF (by decide) ?_⟩
    refine ⟨_, rfl, rfl, _, rfl, dF (by decide) ?_⟩
    refine ⟨_, rfl, rfl, _, rfl, dT (by decide) ?_⟩
    refine ⟨_, rfl, _, rfl, p, _, _, _, rfl, rfl, SqT.of (s1 _ _ hp), rfl, _, rfl, _, rfl, _, rfl, y, pC, dT', by_, af, ac, sl, b1, M, fl, cl, C, names, nm, G, rfl, h1.le (Same.le s1), by omega, by omega, hC.same s1, hG.same s1, fun g hg => hcf g (by simpa [KM.Bd.calls] using hg), fun g hg => hcp g (by simp [KM.Bd.pushes, hg]), hnm, hz, fun H2 q2 s2 hq2 t2 => ?_⟩
    have ne1 : F ≠ q2 := ne_of_none g1 hq2
    have s12 := s1.trans s2
    refine ⟨_, rfl, _, rfl, .ref p, af, ac, sl, c, b1, by_, rfl, hbp.le (Same.le s12), ?_⟩
    refine tcall3 (take_of ne1 (t1.same s2) t2 hz fun H3 bu t3 => ?_)
    have s3 : Same H H3 := But.same s12 hF bu
    obtain ⟨bF, bA, e1, e2, e3⟩ := hC.same s3
    refine ⟨_, rfl, pC, _, rfl, SqT.of e1, rfl, _, _, rfl, _, _, rfl, rfl, ?_⟩
    obtain ⟨u, gu, p2, e, rfl, hp2, _⟩ := e3.get (hcp c (by simp [KM.Bd.pushes])).1
    refine ⟨_, rfl, _, rfl, p, _, _, _, rfl, rfl, SqT.of (s3 _ _ hp), rfl, bA, _, rfl, gu, p2, _, _, _, rfl, rfl, SqT.of hp2, rfl, ?_⟩
    refine ⟨_, rfl, p, _, _, _, rfl, rfl, SqT.of (s3 _ _ hp), rfl, _, rfl, _, rfl, y, bF, bA, af, ac, sl, b1, fl, cl, C, KM.carms M C, rfl, h1.le (Same.le s3), by omega, e2, e3, fun g hg => (hcf g (by simpa [KM.Bd.calls] using hg)).1, fun g hg => (hcp g (by simp [KM.Bd.pushes, hg])).1, fun u H4 s4 ⟨t, eu, gt⟩ => ?_⟩
    subst eu
    have eE : (if (KM.carms M C c).1 = true then V.bl (KM.cen C (KM.carms M C) b1).1 else V.bl (KM.cen C (KM.carms M C) b1).2) = .bl (KM.entC M C c b1) := by
      unfold KM.entC
      rw [show (KM.carms M C c).1 = M.kd c from KM.armsC_kd C c]
      cases M.kd c <;> rfl
    refine ⟨(KM.carms M C c).1, t, _, _, rfl, gt, KM.entC M C c b1, eE, ?_⟩
    have s34 := s3.trans s4
    have t4 := t3.same s4
    have etp : KM.tpl ("" : Str) (wtF ac by_) (KM.entC M C) G (.push c b1) = (([("", 0)] : TLs) ++ KM.shiftT (wtF ac by_ c) (KM.tpl ("" : Str) (wtF ac by_) (KM.entC M C) G b1)) ++ (if KM.entC M C c b1 = true then KM.shiftT 0 (G c) else []) := rfl
    rw [etp] at kk
    cases e : KM.entC M C c b1 with
    | false =>
      rw [e] at kk
      refine iF rfl ⟨_, rfl, kk _ F s34 hF ?_⟩
      rw [if_neg Bool.false_ne_true, List.append_nil]
      exact t4
    | true =>
      rw [e] at kk
      obtain ⟨kv, k1, k2⟩ := hG
      obtain ⟨v3, ev, p3, rfl, _, tp3⟩ := k2.val (hcp c (by simp [KM.Bd.pushes])).2
      have ne3 : F ≠ p3 := fun z => by
        obtain ⟨D3, g3, _⟩ := tp3
        rw [← z, hF] at g3; cases g3
      refine iT rfl ⟨_, rfl, _, rfl, _, rfl, p, _, _, _, rfl, rfl, SqT.of (s34 _ _ hp), rfl, dT', _, rfl, dgetS (.inl (s34 _ _ k1)) ev, ?_⟩
      refine tcall3c (take_of (g := 0) ne3 t4 (tp3.same s34) hz fun H5 bu5 t5 => ?_)
      exact ⟨_, rfl, kk _ F (But.same s34 hF bu5) hF t5⟩
theorem c_tops_in (T : Txt K mg) : ∀ n, Cal P w K mg base (22 + n) "tops_in" (spTopsIn n)
  | 0 => by
    refine Cal.mono (j := 1) ?_ (by omega)
    refine cal_of T.d_tops_in sc_tops_in (fun _ _ _ _ _ _ us hl => match us, hl with | [_, _, _, _], _ => rfl) (fun vs H Q E h => ?_) (fun f cdv A outer s H vs Q E hr h => ?_)
    · obtain ⟨_, _, _, _, _, _, _, _, _, _, _, _, _, _, _, rfl, _⟩ := h; rfl
    obtain ⟨v, pC, dT', by_, af, ac, sl, b, M, fl, cl, C, names, nm, G, rfl, hb, hn, _⟩ := h
    have := bdDep_pos b
    omega
  | n + 1 => topsin_step T (k := 22 + n) (by omega) (c_tops_in T n)
end
end K52

namespace K52
open PySem PySem.Spec PyProof.Rows L2
section
variable {P : Program} {w : World} {K : PySem.W.Frag} {mg : Str → Option Value} {base : Heap}
/-- the gains of the cases -/
abbrev gpF (M : KM.Tb Str) (ac : Str → Nat) (by_ : Str) (C : Str → KM.B2) : Str → TLs := fun c => (KM.parms M "" (wtF ac by_) C c).2
abbrev gnB (M : KM.Tb Str) (ac : Str → Nat) (by_ : Str) (C : Str → KM.B2) : KM.Bd Str → TLs := KM.gns M "" (wtF ac by_) C
def spTopsOf (C : Addr) : Sp := fun vs H Q _ => ∃ a by_ af ac M fl cl Rd, vs = [.ref a, .str by_] ∧ TabA C af ac M fl cl Rd H a ∧
  ∀ q H', Same H H' → H q = none → TopsD H' q fl ("" :: fl) (fun f => gnB M ac by_ (KM.cst M fl) (M.bd f)) → Q (.ref q) H'
theorem c_tops_of (T : Txt K mg) : Cal P w K mg base 43 "tops_of" (spTopsOf (cT K)) := by
  have c_can_ends := c_can_ends (P := P) (w := w) (base := base) T
  have c_tops_in := c_tops_in (P := P) (w := w) (base := base) T 20
  refine cal_of T.d_tops_of sc_tops_of (fun _ _ _ _ _ _ us hl => match us, hl with | [_, _], _ => rfl) (fun vs H Q E h => ?_) (fun f cdv A outer s H vs Q E hr h => ?_)
  · obtain ⟨_, _, _, _, _, _, _, _, rfl, _⟩ := h; rfl
  obtain ⟨a, by_, af, ac, M, fl, cl, Rd, rfl, hT, kk⟩ := h
  have nd := sc_tops_of.nd
  have hu := hu_of hr
  refine ⟨_, (pss_cons (ps_asg (pe_tup (pa_cons (pe_c c_can_ends hr (by decide) rfl (pa_cons (pv 0) pa_nil)) (pa_cons pe_dnewK pa_nil))) (pg_tup (by rfl) (pgs_cons (pg_name (i := 2) nd rfl (Or.inr rfl)) (pgs_cons (pg_name (i := 3) nd rfl (Or.inr rfl)) pgs_nil))))
  (pss_cons (ps_for PassesOwn.never rfl (pi_list (pe_fld (pv 0) rfl)) (pg_name (i := 4) nd rfl (Or.inl rfl)) (pss_one (ps_dput hu (pv 3) (pv 4) (pe_c c_tops_in hr (by decide) rfl (pa_cons (pe_ix ix_tup (pe_dget hu (pe_fld (pv 0) rfl) (pv 4) (fun _ _ => rfl)) pe_int (fun _ _ => rfl)) (pa_cons (pv 2) (pa_cons (pv 3) (pa_cons (pv 1) pa_nil))))) rfl)))
  (pss_one (ps_ret (pe_dc (own := [("name", 5), ("arity", 6), ("body", 7)]) rfl nd (pi_tup (pe_fld (pv 0) rfl)) (blkOk_by (N := N_tops_of) (sc := defScope s_tops_of) (by decide +kernel)) (fun _ _ _ _ _ => (pg_tupK (K := K) (n := 3) rfl (by rfl) (pgs_cons (pg_name (i := 5) nd rfl (Or.inl rfl)) (pgs_cons (pg_name (i := 6) nd rfl (Or.inl rfl)) (pgs_cons (pg_name (i := 7) nd rfl (Or.inl rfl)) pgs_nil))))) (fun _ _ _ _ _ => pts_nil) (fun _ _ _ _ _ => (pv 5)) (fun _ _ _ _ _ => (pe_c c_tops_in hr (by decide) rfl (pa_cons (pv 7) (pa_cons (pv 2) (pa_cons (pv 3) (pa_cons (pv 1) pa_nil))))))))))), ?_⟩
  have ok := hT.ok
  have hz : 200 ≤ sizeLine := by decide
  have fz := ok.fz
  have rz := ok.rz
  refine ⟨_, rfl, a, af, ac, M, fl, cl, Rd, rfl, hT, fun q bF bA H1 s1 hq hF hA h1 h2 h3 => ?_⟩
  refine fun D hD => ⟨by show 2 ≤ sizeLine; decide, fun t ht => ⟨t, _, rfl, SqT.of upd_same, rfl, _, _, rfl, _, _, rfl, rfl, ?_⟩⟩
  have hbF : bF ≠ D ∧ bA ≠ D := ⟨by obtain ⟨_, e, _⟩ := h2; exact ne_of_none e hD, by obtain ⟨_, e, _⟩ := h3; exact ne_of_none e hD⟩
  let CA : Hp → Prop := fun H' => H' q = some (.tup [.ref bF, .ref bA]) ∧ FnD B2V H' bF fl (KM.cst M fl) ∧ ArD B2V H' bA cl (KM.carms M (KM.cst M fl))
  have CAs : ∀ {H' H''}, Same H' H'' → CA H' → CA H'' := fun s h => ⟨s _ _ h.1, h.2.1.same rle_b2 s, h.2.2.same rle_b2 s⟩
  have s12 := (Same.upd (o := .dK []) hD).trans (Same.upd (o := .tup [.ref q, .ref D]) ht)
  have S2 := s1.trans s12
  have hD2 : (upd (upd H1 D (.dK [])) t (.tup [.ref q, .ref D])) D = some (.dK []) := (Same.upd (o := .tup [.ref q, .ref D]) ht) _ _ upd_same
  have hC2 : CA (upd (upd H1 D (.dK [])) t (.tup [.ref q, .ref D])) := ⟨s12 _ _ h1, h2.same rle_b2 s12, h3.same rle_b2 s12⟩
  have hD0 : H D = none := s1.free hD
  generalize upd (upd H1 D (.dK [])) t (.tup [.ref q, .ref D]) = H2 at S2 hD2 hC2
  clear s1 s12 h1 h2 h3 hF hA
  obtain ⟨ok', dx, pF, pC, pN, pA, pO, ob, fns, css, kvs, t1, t2, t3, t4, t5, t6, t7, t8, t9, t10⟩ := hT
  have fm' : ∀ b : KM.Bd Str, (∀ g ∈ b.calls, g ∈ M.fs) → ∀ g ∈ b.calls, g ∈ fl ∧ g ∈ (("" : Str) :: fl) := fun b h g hg => ⟨(ok.fm g).mpr (h g hg), List.mem_cons_of_mem _ ((ok.fm g).mpr (h g hg))⟩
  refine ⟨_, rfl, a, _, dx, _, _, rfl, S2 _ _ t1, T.clsT, T.noT5, rfl, pO, rfl, ⟨_, SqL.of (S2 _ _ t10)⟩, ?_⟩
  refine for_it walk_list (fun i σ H' => (∃ p4 p5 p6 p7, σ = [some (.ref a), some (.str by_), some (.ref q), some (.ref D), p4, p5, p6, p7]) ∧ Same H H' ∧ CA H' ∧ TopsD H' D (Rd.take i) ("" :: fl) (gpF M ac by_ (KM.cst M fl)))
    ⟨⟨_, _, _, _, rfl⟩, S2, hC2, [], hD2, by rw [List.take_zero]; exact DRel.nil⟩ (fun i σ H' _ p => SqL.of (p.2.1 _ _ t10)) (fun i x σ Ha Hb hi p y => ?_) (fun σ Ha p => ?_)
  · obtain ⟨rfl, hx⟩ := y
    rw [List.getElem?_map] at hx
    obtain ⟨c, hc, rfl⟩ := Option.map_eq_some_iff.mp hx
    clear hx
    obtain ⟨⟨p4, p5, p6, p7, rfl⟩, sa, aC, aT⟩ := p
    have hcs : c ∈ M.cs := (ok.rm c).mp (List.mem_of_getElem? hc)
    obtain ⟨v, ev, p, bv, rfl, hp, hb⟩ := t9.val ((ok.cm c).mpr hcs)
    have tk : Rd.take (i + 1) = Rd.take i ++ [c] := by rw [List.take_add_one, hc]; rfl
    obtain ⟨k0, ek0, _⟩ := id aT
    have nc : c ∉ Rd.take i := fun m => by
      obtain ⟨j2, hj2, ej⟩ := List.mem_iff_getElem.mp m
      have hj3 : j2 < i := by rw [List.length_take] at hj2; omega
      rw [List.getElem_take] at ej
      obtain ⟨hi1, ei⟩ := List.getElem?_eq_some_iff.mp hc
      have := (List.getElem_inj ok.rnd).mp (ej.trans ei.symm)
      omega
    refine ⟨_, rfl, a, _, dx, _, _, rfl, sa _ _ t1, T.clsT, T.noT4, rfl, _, rfl, pA, _, rfl, dgetS (.inl (sa _ _ t8)) ev, p, _, _, _, rfl, rfl, SqT.of (sa _ _ hp), rfl, _, rfl, _, rfl, _, rfl, ?_⟩
    refine ⟨bv, q, D, by_, af, ac, _, M.am c, M, fl, cl, KM.cst M fl, Rd.take i, ("" :: fl), gpF M ac by_ (KM.cst M fl), rfl, hb.le (Same.le sa), (ok.am c hcs).1, Nat.le_refl _, ⟨bF, bA, aC⟩, aT, fm' _ (ok.ok.ac c hcs), fun d hd => ⟨(ok.cm d).mpr (ok.ok.ap c hcs d hd), ok.top i c hc d hd⟩, by simp, by simp; omega, fun Hc u sc hu' ht' => ?_⟩
    have aT := aT.same sc
    have aC := CAs sc aC
    have sC := sa.trans sc
    obtain ⟨kv, g1, g2⟩ := aT
    have uD : u ≠ D := fun z => by rw [z, ek0] at hu'; cases hu'
    refine ⟨_, rfl, _, rfl, D, _, rfl, DPut.k (k := Sum.inr c) g1 (by rw [g2.length, List.length_take]; omega), ?_⟩
    have bu : But D Hc (upd Hc D (.dK (putK kv (Sum.inr c) (.ref u)))) := But.upd
    have keep : ∀ {p : Addr} {L : TLs}, p ≠ D → TopD Hc p ("" :: fl) L → TopD (upd Hc D (.dK (putK kv (Sum.inr c) (.ref u)))) p ("" :: fl) L := fun n ⟨D', e, r⟩ => ⟨D', bu _ _ n e, r⟩
    have sP : Same H (upd Hc D (.dK (putK kv (Sum.inr c) (.ref u)))) := Same.put sC hD0
    refine ⟨⟨_, _, _, _, rfl⟩, sP, ?_, _, upd_same, ?_⟩
    · obtain ⟨e1, ⟨k1, e2, e3⟩, ⟨k2, e4, e5⟩⟩ := aC
      have l := Le.dK (o := .dK (putK kv (Sum.inr c) (.ref u))) g1
      exact ⟨l _ _ trivial e1, ⟨k1, bu _ _ hbF.1 e2, e3.imp fun x v _ r => r.le l⟩, ⟨k2, bu _ _ hbF.2 e4, e5.imp fun x v _ r => ArV.le rle_b2 l r⟩⟩
    · rw [tk]
      exact g2.new nc (fun y w _ ⟨p, e, n, r⟩ => ⟨p, e, n, keep n r⟩) ⟨u, rfl, uD, by
        have := KM.parms_ok (T := M) (z := ("" : Str)) (wt := wtF ac by_) (C := KM.cst M fl) ok.ok hcs
        show TopD _ u _ (KM.parms M "" (wtF ac by_) (KM.cst M fl) c).2
        rw [this]
        exact keep uD ht'⟩
  obtain ⟨⟨p4, p5, p6, p7, rfl⟩, sa, aC, aT⟩ := p
  rw [List.length_map, List.take_length] at aT
  refine ⟨_, rfl, a, _, dx, _, _, rfl, sa _ _ t1, T.clsT, T.noT1, rfl, pF, rfl, ⟨_, SqT.of (sa _ _ t2)⟩, fun D2 hD2 => ?_⟩
  refine dc_map2 walk_tup (names := fl) t3.length ok.fnd hD2 (fun H' s => SqT.of (s _ _ (sa _ _ t2))) (by rw [← t3.length]; omega) (fun f v H' => ∃ p, v = .ref p ∧ p ≠ D2 ∧ TopD H' p ("" :: fl) (gnB M ac by_ (KM.cst M fl) (M.bd f))) (fun x y H H' ws hd bu ⟨p, e, n, D', e2, r⟩ => ⟨p, e, n, D', bu _ _ n e2, r⟩) (fun i H x H' _ y => by rw [y.1]; exact Same.refl _) (fun i nm x H3 H4 Q' hnm s hd y kq => ?_) (fun Hb kF sb hF1 hF2 => ?_)
  · obtain ⟨rfl, hx⟩ := y
    obtain ⟨x', hx', p, bv, rfl, hp, _, _, hb, _⟩ := paired_at' t3 hnm
    rw [hx] at hx'; cases hx'
    have sA := sa.trans s
    have hgs : nm ∈ M.fs := (ok.fm nm).mp (List.mem_of_getElem? hnm)
    refine ⟨p, _, rfl, SqT.of (sA _ _ hp), rfl, _, _, rfl, _, _, rfl, _, _, rfl, rfl, rfl, _, rfl, _, rfl, _, rfl, _, rfl, _, rfl, ?_⟩
    refine ⟨bv, q, D, by_, af, ac, _, M.bd nm, M, fl, cl, KM.cst M fl, Rd, ("" :: fl), gpF M ac by_ (KM.cst M fl), rfl, hb.le (Same.le sA), (ok.bd nm hgs).1, Nat.le_refl _, ⟨bF, bA, CAs s aC⟩, aT.same s, fm' _ (ok.ok.bc nm hgs), fun d hd => ⟨(ok.cm d).mpr (ok.ok.bp nm hgs d hd), (ok.rm d).mpr (ok.ok.bp nm hgs d hd)⟩, by simp, by simp; omega, fun Hc u sc hu' ht' => ?_⟩
    obtain ⟨ws, hws⟩ := hd
    exact kq _ _ sc ⟨u, rfl, (fun z => by rw [z, hws] at hu'; cases hu'), ht'⟩
  · exact kk D2 Hb (sa.trans sb) (sa.free hD2) ⟨kF, hF1, hF2⟩
end
end K52

namespace K52
open PySem PySem.Spec PyProof.Rows L2
open PySem.AutoSeq1 (wpAny_loadPart') in
open PySem.MeetsSeq PySem.MeetsSeq2 PySem.MeetsSeq3 in
theorem extend_tup (l : Addr) (items : Array Value) (n : Nat) (b : Addr) (items2 : Array Value) (n2 : Nat) (dd : Option Addr) (sl : Array (Option Value)) (hs0 : ¬(!items.isEmpty && Builtin.List.listTooLong (items.size + items2.size)) = true) (hs1 : items.size ≤ sizeLine) (hs2 : items.size + items2.size ≤ sizeLine + 1) :
    Meets (Builtin.«list.extend» ⟨[.ref l, .ref b], []⟩) (fun _ R s => s.heap.get? l = some { cls := .type "list", data := .seq items n } ∧ s.heap.get? b = some { cls := .type "tuple", dict := dd, data := .seq items2 n2, slots := sl } ∧
      R (.ok (.ret Value.none)) { s with heap := s.heap.update l (Obj.mapSeq fun x => x ++ items2), toks := s.toks }) :=
  .of_wp fun prog w A R s h => by
    obtain ⟨hp, g, d, tk, os⟩ := s
    obtain ⟨hl, hb, h⟩ := h
    have f4 := AutoSeq1.sub_tuple_list
    have f2 := AutoSeq1.sub_tuple_tuple
    have f3 := AutoSeq1.sub_list_list
    have hz' : (items ++ items2).size ≤ sizeLine + 1 := by rw [Array.size_append]; exact hs2
    wp_walk using (wpAny_updateSeq hl rfl (hz := hs1) (_hz' := hz')), wpAny_loadPart' hl, wpAny_loadPart' hb
    exact ⟨_, rfl, h⟩
section
variable {X : Cx}
def rExtendT : V → List V → Hp → VK → Prop := fun x vs H Q => ∃ l b xs zs, x = .ref l ∧ vs = [.ref b] ∧ H l = some (.lst xs) ∧ H b = some (.tup zs) ∧ xs.length + zs.length ≤ sizeLine ∧ Q .non (upd H l (.lst (xs ++ zs)))
theorem mt_extendT : MtM X "list.extend" rExtendT := by
  intro pins s σ H x vs v us Q I rx rv h
  obtain ⟨l, b, xs, zs, rfl, rfl, hH, hB, hz, q⟩ := h
  cases rx
  obtain ⟨u, rfl, ru⟩ := rv.one
  cases ru
  obtain ⟨z, its, n, r, hl, e⟩ := I.lstM hH
  obtain ⟨its2, r2, p2, hz2⟩ := I.tuple (SqT.of (K := X.K) hB)
  obtain ⟨⟨c2, d2, t2, sl2⟩, e2, g1, n2, g2⟩ := p2
  simp only at g1 g2
  subst g1 g2
  have l1 := r.length
  have l2 := r2.length
  have hsz : its.toArray.size + its2.toArray.size ≤ sizeLine := by rw [List.size_toArray, List.size_toArray]; omega
  have hlong : ¬ (!its.toArray.isEmpty && Builtin.List.listTooLong (its.toArray.size + its2.toArray.size)) = true := by
    rw [notLongL hsz, Bool.and_false]
    exact Bool.false_ne_true
  refine call_meets PySem.F.slot_list_extend ⟨_, e, rfl⟩ PySem.F.entry_list_extend (PySem.F.args_list_extend_2 _ _)
    (extend_tup l its.toArray n b its2.toArray n2 d2 sl2 hlong (by rw [List.size_toArray]; omega) (by omega)) ⟨e, e2, ?_⟩
  refine ⟨.non, _, I.lset (its' := its ++ its2) hH e (by simp) (r.append r2) ?_, rfl, q⟩
  rw [List.length_append]
  omega
end
end K52

namespace K52
open PySem PySem.Spec PyProof.Rows L2
section
variable {P : Program} {w : World} {K : PySem.W.Frag} {mg : Str → Option Value} {base : Heap}
def BdX (af ac : Str → Nat) (H : Hp) (b : KM.Bd Str) (v : V) : Prop := ∃ sl, BdV af ac sl H b v
theorem BdX.le {af ac : Str → Nat} {H H' : Hp} {b : KM.Bd Str} {v : V} (l : Le H H') (h : BdX af ac H b v) : BdX af ac H' b v := by
  obtain ⟨sl, h⟩ := h
  exact ⟨sl, h.le l⟩
/-- a body's tuple, what stands behind its third place -/
theorem BdV.tail {af ac : Str → Nat} {sl : Nat} {H : Hp} {b : KM.Bd Str} {v : V} (h : BdV af ac sl H b v) : ∃ p w t r, v = .ref p ∧ H p = some (.tup (.str w :: t :: r)) ∧ ¬ (HT.sIx (V.str w :: t :: r).length 0 (some 3) = 0 ∧ HT.sIx (V.str w :: t :: r).length (V.str w :: t :: r).length none = (V.str w :: t :: r).length) ∧
    Paired (BdX af ac H) (kids b) (cutV (.str w :: t :: r) (some 3) none) ∧
    ((∃ g, b = .call g ∧ w = "call" ∧ t = .str g) ∨ (∃ c b1 y, b = .push c b1 ∧ w = "push" ∧ t = .str c ∧ BdV af ac sl H b1 y ∧ r[1]? = some y) ∨ ((∀ g, b ≠ .call g) ∧ (∀ c b1, b ≠ .push c b1) ∧ w ≠ "call" ∧ w ≠ "push")) := by
  cases h with
  | ret h a => exact ⟨_, _, _, _, rfl, h, (fun z => absurd (show HT.sIx 2 0 (some 3) = 0 from z.1) (by decide)), .nil, .inr (.inr ⟨(fun _ z => nomatch z), (fun _ _ z => nomatch z), by decide, by decide⟩)⟩
  | rai h a => exact ⟨_, _, _, _, rfl, h, (fun z => absurd (show HT.sIx 2 0 (some 3) = 0 from z.1) (by decide)), .nil, .inr (.inr ⟨(fun _ z => nomatch z), (fun _ _ z => nomatch z), by decide, by decide⟩)⟩
  | ask _ _ h a => exact ⟨_, _, _, _, rfl, h, (fun z => absurd (show HT.sIx 3 0 (some 3) = 0 from z.1) (by decide)), .nil, .inr (.inr ⟨(fun _ z => nomatch z), (fun _ _ z => nomatch z), by decide, by decide⟩)⟩
  | call _ _ h a => exact ⟨_, _, _, _, rfl, h, (fun z => absurd (show HT.sIx 3 0 (some 3) = 0 from z.1) (by decide)), .nil, .inl ⟨_, rfl, rfl, rfl⟩⟩
  | test _ _ h a h1 h2 => exact ⟨_, _, _, _, rfl, h, (fun z => absurd (show HT.sIx 5 0 (some 3) = 0 from z.1) (by decide)), .cons ⟨_, h1⟩ (.cons ⟨_, h2⟩ .nil), .inr (.inr ⟨(fun _ z => nomatch z), (fun _ _ z => nomatch z), by decide, by decide⟩)⟩
  | push _ _ h a h1 => exact ⟨_, _, _, _, rfl, h, (fun z => absurd (show HT.sIx 4 0 (some 3) = 0 from z.1) (by decide)), .cons ⟨_, h1⟩ .nil, .inr (.inl ⟨_, _, _, rfl, rfl, rfl, h1, rfl⟩)⟩
theorem fnIn_of {m qual : Str} {st : Stmt} {dvs : List V} {kws : List (Str × V)} {f : Addr} {fd : FuncData} (F : FunD K m qual (defArgs st) (defBody st) (defScope st) dvs kws f fd) : PySem.W.fnIn K f = true := by
  obtain ⟨oc, od, dV, kV, doc, pm, an, cdv, ct, osl, rfl, lk, _⟩ := F.ex
  unfold PySem.W.fnIn
  rw [lk]
theorem vis_dep {ac : Str → Nat} {M : KM.Tb Str} {fl cl R : List Str} (ok : TabOk ac M fl cl R) {ent : Str → KM.Bd Str → Bool} {f : Str} (hf : f ∈ M.fs) {b : KM.Bd Str} (h : KM.VisC M ent (M.bd f) b) : bdDep b ≤ 20 := by
  induction h with
  | here => exact (ok.bd f hf).1
  | @ty y n _ ih =>
    have : max (bdDep y) (bdDep n) + 1 ≤ 20 := ih
    omega
  | @tn y n _ ih =>
    have : max (bdDep y) (bdDep n) + 1 ≤ 20 := ih
    omega
  | @pb c b _ ih =>
    have : bdDep b + 1 ≤ 20 := ih
    omega
  | @pa c b h _ _ => exact (ok.am c ((KM.vis_fs ok.ok hf h).2 c (by simp [KM.Bd.pushes]))).1
  | @cl g h _ => exact (ok.bd g ((KM.vis_fs ok.ok hf h).1 g (by simp [KM.Bd.calls]))).1
def spReached (C : Addr) : Sp := fun vs H Q _ => ∃ a x af ac M fl cl Rd, vs = [.ref a, .str x] ∧ TabA C af ac M fl cl Rd H a ∧ x ∈ fl ∧
  ∀ H' q l1 v2, ∀ ns : List Str, Same H H' → H' q = some (.tup [.ref l1, v2]) → H' l1 = some (.lst (ns.map V.str)) → ns.Nodup → (∀ t, t ∈ ns ↔ KM.Rch M (KM.entC M (KM.cst M fl)) x t) → ns.length ≤ 30 → Q (.ref q) H'
theorem c_reached (T : Txt K mg) : Cal P w K mg base 24 "reached" (spReached (cT K)) := by
  have c_look_name := c_look_name (P := P) (w := w) (base := base) T
  have c_can_ends := c_can_ends (P := P) (w := w) (base := base) T
  have c_can_end := c_can_end (P := P) (w := w) (base := base) T 20
  have c_entered_by := c_entered_by (P := P) (w := w) (base := base) T
  have mI := m_item (P := P) (w := w) (base := base) T
  obtain ⟨fdI, psI, FI, bI⟩ := mI.ex
  have fnI := fnIn_of T.d_Table__getitem.ex.choose_spec
  have mC := m_case (P := P) (w := w) (base := base) T
  obtain ⟨fdC, psC, FC, bC⟩ := mC.ex
  refine cal_of T.d_reached sc_reached (fun _ _ _ _ _ _ us hl => match us, hl with | [_, _], _ => rfl) (fun vs H Q E h => ?_) (fun f cdv A outer s H vs Q E hr h => ?_)
  · obtain ⟨_, _, _, _, _, _, _, _, rfl, _⟩ := h; rfl
  obtain ⟨a, x, af, ac, M, fl, cl, Rd, rfl, hT, hx, kk⟩ := h
  have nd := sc_reached.nd
  have hu := hu_of hr
  refine ⟨_, (pss_cons (ps_expr (pe_c c_look_name hr (by decide) rfl (pa_cons (pv 0) (pa_cons (pv 1) pa_nil))))
  (pss_cons (ps_asg (pe_c c_can_ends hr (by decide) rfl (pa_cons (pv 0) pa_nil)) (pg_tup (by rfl) (pgs_cons (pg_name (i := 2) nd rfl (Or.inl rfl)) (pgs_cons (pg_name (i := 3) nd rfl (Or.inl rfl)) pgs_nil))))
  (pss_cons (ps_par3 (i := 4) (j := 5) (l := 6) (by rfl) nd rfl rfl rfl (by decide) (by decide) (by decide) rfl rfl rfl (pa_cons pe_dnewK (pa_cons pe_dnewK (pa_cons (pe_lst (pa_cons (pe_ix ix_tup (pe_ixOwn mI.at_ fnI mI.fn FI bI (hr.mono (by decide)) pass0 (pv 0) (pv 1)) pe_int (fun _ _ => rfl)) pa_nil)) pa_nil))) (by rfl))
  (pss_cons (ps_while PassesOwn.never (pt_cmpR (op_neNil hr) (pv 6) (pe_lst pa_nil) (nomark _)) (pss_cons (ps_set (i := 7) nd rfl (Or.inl rfl) (pe_bm0 PySem.F.plainAttrs_list PySem.F.slot_list_pop PySem.F.type_list_pop mt_pop (pv 6)))
  (pss_cons (ps_par (i := 8) (j := 9) (by rfl) nd rfl rfl (by decide) rfl rfl (pa_cons (pe_ix ix_tup (pv 7) pe_int (fun _ _ => rfl)) (pa_cons (pe_ix ix_tup (pv 7) pe_int (fun _ _ => rfl)) pa_nil)) (by rfl))
  (pss_cons (ps_if (PW.pt (pw_and (pt_cmpR op_eq (pv 8) pe_str (nomark _)) (pw_and1 (pt_cmp (pc_dnotin hu (pv 9) (pv 4)))))) (pss_cons (ps_dput hu (pv 4) (pv 9) pe_bl rfl)
  (pss_one (ps_expr (pe_bm PySem.F.plainAttrs_list PySem.F.slot_list_append PySem.F.type_list_append mt_append (pv 6) (pa_cons (pe_ix ix_tup (pe_ixOwn mI.at_ fnI mI.fn FI bI (hr.mono (by decide)) pass0 (pv 0) (pv 9)) pe_int (fun _ _ => rfl)) pa_nil))))) pss_nil)
  (pss_cons (ps_if (PW.pt (pw_and (pt_cmpR op_eq (pv 8) pe_str (nomark _)) (pw_and1 (pt_cmp (pc_dnotin hu (pv 9) (pv 5)))))) (pss_cons (ps_asg (pe_meth (pv 0) T.clsT ⟨mC.at_, mC.fn, T.d_Table_case_of.kp⟩ FC (hr.mono (by decide)) bC .nil pass0 (pa_cons (pv 9) pa_nil)) (pg_tup (by rfl) (pgs_cons (pg_name (i := 10) nd rfl (Or.inl rfl)) (pgs_cons (pg_name (i := 11) nd rfl (Or.inl rfl)) (pgs_cons (pg_name (i := 12) nd rfl (Or.inl rfl)) pgs_nil)))))
  (pss_one (ps_if (pt_val (pe_c c_entered_by hr (by decide) rfl (pa_cons (pv 10) (pa_cons (pe_c c_can_end hr (by decide) rfl (pa_cons (pe_ix ix_tup (pv 7) pe_int (fun _ _ => rfl)) (pa_cons (pv 2) (pa_cons (pv 3) pa_nil)))) pa_nil)))) (pss_cons (ps_dput hu (pv 5) (pv 9) pe_bl rfl)
  (pss_one (ps_expr (pe_bm PySem.F.plainAttrs_list PySem.F.slot_list_append PySem.F.type_list_append mt_append (pv 6) (pa_cons (pv 12) pa_nil))))) pss_nil))) pss_nil)
  (pss_one (ps_expr (pe_bm PySem.F.plainAttrs_list PySem.F.slot_list_extend PySem.F.type_list_extend mt_extendT (pv 6) (pa_cons (pe_slice sl_tupA (pv 7) (po_some pe_int) po_none) pa_nil)))))))))
  (pss_one (ps_ret (pe_tup (pa_cons (pe_callB (call_sortedD rfl) (by rfl) T.b_sorted (by decide +kernel) (pa_cons (pv 4) pa_nil)) (pa_cons (pe_callB (call_sortedD rfl) (by rfl) T.b_sorted (by decide +kernel) (pa_cons (pv 5) pa_nil)) pa_nil))))))))), ?_⟩
  have ok := hT.ok
  have hz : 60000 ≤ sizeLine := by decide
  refine ⟨_, rfl, _, rfl, a, x, af, ac, M, fl, cl, Rd, rfl, hT, hx, ?_⟩
  refine ⟨_, rfl, a, af, ac, M, fl, cl, Rd, rfl, hT, fun q0 bF bA H1 s1 hq0 hF0 hA0 h1 h2 h3 => ?_⟩
  refine ⟨q0, _, rfl, SqT.of h1, rfl, _, _, rfl, _, _, rfl, rfl, ?_⟩
  have hT1 := hT.same s1
  refine fun dC hC => fun dE hE => ?_
  have sC := Same.upd (o := .dK []) hC
  have sE := Same.upd (o := .dK []) hE
  have hC2 := sE _ _ (upd_same (H := H1) (a := dC) (o := .dK []))
  have hE2 : (upd (upd H1 dC (.dK [])) dE (.dK [])) dE = some (.dK []) := upd_same
  have hE1 : H1 dE = none := sC.free hE
  have neCE : dC ≠ dE := ne_of_none (upd_same (H := H1) (a := dC) (o := .dK [])) hE
  have s2 := sC.trans sE
  generalize upd (upd H1 dC (.dK [])) dE (.dK []) = H2 at s2 hC2 hE2
  clear sC sE
  have hT2 := hT1.same s2
  obtain ⟨dx2, _, _, _, _, _, _, _, _, _, hi2, _⟩ := id hT2.ex
  refine ⟨_, rfl, _, rfl, a, dx2, _, rfl, hi2, a, x, af, ac, M, fl, cl, Rd, rfl, hT2, hx, fun r0 H3 bv s3 hr0 hbv => ?_⟩
  refine ⟨r0, _, _, _, rfl, rfl, SqT.of hr0, rfl, by show 1 ≤ sizeLine; decide, fun dR hR => ⟨_, _, _, rfl, ?_⟩⟩
  have s13 := (s2.trans s3).trans (Same.upd (o := .lst [bv]) hR)
  have hR1 : H1 dR = none := (s2.trans s3).free hR
  have hC4 := (s3.trans (Same.upd (o := .lst [bv]) hR)) _ _ hC2
  have hE4 := (s3.trans (Same.upd (o := .lst [bv]) hR)) _ _ hE2
  have hR4 : (upd H3 dR (.lst [bv])) dR = some (.lst [bv]) := upd_same
  have hb4 : BdX af ac (upd H3 dR (.lst [bv])) (M.bd x) bv := ⟨_, hbv.le (Le.new hR)⟩
  have neCR : dC ≠ dR := ne_of hC4 hR4 (by intro z; cases z)
  have neER : dE ≠ dR := ne_of hE4 hR4 (by intro z; cases z)
  generalize upd H3 dR (.lst [bv]) = H4 at s13 hC4 hE4 hR4 hb4
  have hxs : x ∈ M.fs := (ok.fm x).mp hx
  let ent := KM.entC M (KM.cst M fl)
  have csnd : M.cs.Nodup := KM.Ord.nodup ok.ok.ord
  let I : Nat → L2.St → Hp → Prop := fun m σ H' => ∃ (p7 p8 p9 p10 p11 p12 : Option V) (st : KM.RS Str) (xs : List V) (kc ke : List (Key × V)), σ = [some (.ref a), some (.str x), some (.ref bF), some (.ref bA), some (.ref dC), some (.ref dE), some (.ref dR), p7, p8, p9, p10, p11, p12] ∧ Same H1 H' ∧
    H' dC = some (.dK kc) ∧ DRel st.ca (fun _ _ => True) kc ∧ H' dE = some (.dK ke) ∧ DRel st.en (fun _ _ => True) ke ∧ H' dR = some (.lst xs) ∧ Paired (BdX af ac H') st.st xs ∧ KM.RInv M ent (M.bd x) st ∧ st.en.Nodup ∧ (∀ c ∈ st.en, c ∈ M.cs) ∧ m = KM.rmeas M st ∧ m ≤ 20000
  have pool_le : ∀ (l : List Str) (g : Str → KM.Bd Str), (∀ y ∈ l, (g y).size ≤ 100) → KM.pool l [] g ≤ 100 * l.length := fun l g => by
    induction l with
    | nil => intro _; exact Nat.le_refl _
    | cons y l ih =>
      intro h
      have e : KM.pool (y :: l) [] g = (g y).size + KM.pool l [] g := by unfold KM.pool; simp
      have h1 := h y List.mem_cons_self
      have h2 := ih fun z hz => h z (List.mem_cons_of_mem _ hz)
      rw [e, List.length_cons]; omega
  have m0 : KM.rmeas M ⟨[], [], [M.bd x]⟩ ≤ 20000 := by
    unfold KM.rmeas
    have e1 := pool_le M.fs M.bd fun y hy => (ok.bd y hy).2
    have e2 := pool_le M.cs M.am fun y hy => (ok.am y hy).2
    have e3 := len_sub ok.ok.nd fun y hy => (ok.fm y).mpr hy
    have e4 := len_sub csnd fun y hy => (ok.cm y).mpr hy
    have e5 := (ok.bd x hxs).2
    have e6 := ok.fz
    have e7 := ok.cz
    have e8 : KM.sumS [M.bd x] = (M.bd x).size := by simp [KM.sumS]
    show KM.sumS [M.bd x] + KM.pool M.fs [] M.bd + KM.pool M.cs [] M.am ≤ 20000
    omega
  refine ⟨I, ⟨_, _, _, _, _, _, _, ⟨[], [], [M.bd x]⟩, [bv], [], [], rfl, s13, hC4, DRel.nil, hE4, DRel.nil, hR4, .cons hb4 .nil, KM.RInv.start _, List.nodup_nil, (fun _ z => nomatch z), rfl, m0⟩, ?_⟩
  rintro m σ Ha ⟨p7, p8, p9, p10, p11, p12, st, xs, kc, ke, rfl, sa, aC, rC, aE, rE, aR, aX, ri, end_, enc, rfl, hm⟩
  refine ⟨_, rfl, by decide, fun q hq => ⟨dR, q, xs, rfl, rfl, SqL.of (by rw [upd_ne (ne_of_none aR hq)]; exact aR), SqL.of upd_same, _, rfl, ?_⟩⟩
  have l1 := Same.upd (o := .lst []) hq
  have sb := sa.trans l1
  have bC := l1 _ _ aC
  have bE := l1 _ _ aE
  have bR := l1 _ _ aR
  have bX : Paired (BdX af ac (upd Ha q (.lst []))) st.st xs := Paired.mono (fun _ _ z => BdX.le (Same.le l1) z) aX
  generalize upd Ha q (.lst []) = Hb at sb bC bE bR bX
  clear l1 sa aC aE aR aX hq
  have cafs : ∀ t ∈ st.ca, t ∈ M.fs := fun t ht => KM.InS.fs ok.ok hxs (.inr (ri.ca t ht))
  have calen : st.ca.length ≤ 30 := Nat.le_trans (len_sub ri.nd fun t ht => (ok.fm t).mpr (cafs t ht)) ok.fz
  have enlen : st.en.length ≤ 30 := Nat.le_trans (len_sub end_ fun t ht => (ok.cm t).mpr (enc t ht)) ok.cz
  cases e : xs.isEmpty with
  | true =>
    have e' : xs = [] := List.isEmpty_iff.mp e
    subst e'
    have est : st.st = [] := by
      have := bX.length
      exact List.length_eq_zero_iff.mp this
    refine iF rfl ⟨_, rfl, dC, kc, st.ca, rfl, .inl bC, rC.1, by omega, fun ys p perm _ hp => ?_⟩
    have sp := Same.upd (o := .lst (ys.map V.str)) hp
    refine ⟨_, rfl, dE, ke, st.en, rfl, .inl (sp _ _ bE), rE.1, by omega, fun ys2 p2 perm2 _ hp2 => ⟨by show 2 ≤ sizeLine; decide, fun t ht => ?_⟩⟩
    have sp2 := (Same.upd (o := .lst (ys2.map V.str)) hp2).trans (Same.upd (o := .tup [.ref p, .ref p2]) ht)
    have sAll := s1.trans (sb.trans (sp.trans sp2))
    exact kk _ t p (.ref p2) ys sAll upd_same (sp2 _ _ upd_same) (perm.nodup_iff.mpr ri.nd) (fun y => by rw [perm.mem_iff]; exact ri.done est y) (by rw [perm.length_eq]; exact calen)
  | false =>
    refine iT rfl ⟨fun σ' H' => ∃ m', m' < KM.rmeas M st ∧ I m' σ' H', fun _ _ h => h, ?_⟩
    obtain ⟨L, b, xs', y, eS, rfl, bX', ⟨sl, hb⟩⟩ := paired_last bX (by intro z; rw [z] at e; cases e)
    have less := ri.less ok.ok hxs eS csnd
    have ri2 := ri.step eS
    have hbc := KM.vis_fs ok.ok hxs (ri.st b (by rw [eS]; simp))
    have hLs : L.length ≤ KM.rmeas M st := by
      unfold KM.rmeas
      rw [eS, KM.sumS_app]
      have := sumS_len L
      omega
    have hxl : xs'.length = L.length := bX'.length.symm
    refine ⟨_, rfl, .inl ⟨rfl, _, .inl (.inl bR)⟩, dR, _, y, rfl, rfl, bR, last_at _ _, ?_⟩
    rw [List.dropLast_concat]
    have l2 : Le Hb (upd Hb dR (.lst xs')) := Le.lst bR
    have sc : Same H1 (upd Hb dR (.lst xs')) := Same.put sb hR1
    have cC : (upd Hb dR (.lst xs')) dC = some (.dK kc) := by rw [upd_ne neCR]; exact bC
    have cE : (upd Hb dR (.lst xs')) dE = some (.dK ke) := by rw [upd_ne neER]; exact bE
    have cR : (upd Hb dR (.lst xs')) dR = some (.lst xs') := upd_same
    have cX : Paired (BdX af ac (upd Hb dR (.lst xs'))) L xs' := Paired.mono (fun _ _ z => BdX.le l2 z) bX'
    have cb := hb.le l2
    generalize upd Hb dR (.lst xs') = Hc at sc cC cE cR cX cb
    clear l2 bC bE bR bX bX' hb
    obtain ⟨p, wd, t, r, rfl, hp, hsl, hkids, hw⟩ := cb.tail
    have i0 : atI (.str wd :: t :: r) (0 : Int) = some (.str wd) := atI_nat (j := 0) rfl
    have i1 : atI (.str wd :: t :: r) (1 : Int) = some t := atI_nat (j := 1) rfl
    refine ⟨_, rfl, p, _, _, _, rfl, rfl, SqT.of hp, i0, _, rfl, p, _, _, _, rfl, rfl, SqT.of hp, i1, _, _, rfl, ?_⟩
    have hdep := vis_dep ok hxs (ri.st b (by rw [eS]; simp))
    let c1 : List Str × List (KM.Bd Str) := match b with
      | .call g => if g ∈ st.ca then (st.ca, L) else (st.ca ++ [g], L ++ [M.bd g])
      | _ => (st.ca, L)
    let c2 : List Str × List (KM.Bd Str) := match b with
      | .push c b1 => if c ∈ st.en ∨ ent c b1 = false then (st.en, L) else (st.en ++ [c], L ++ [M.am c])
      | _ => (st.en, c1.2)
    have hstep : KM.rstep M ent st L b = ⟨c1.1, c2.1, c2.2 ++ kids b⟩ := by
      cases b with
      | leaf _ => show _ = (⟨st.ca, st.en, L ++ []⟩ : KM.RS Str); rw [List.append_nil]; rfl
      | call g =>
        show (if g ∈ st.ca then _ else _) = (⟨(if g ∈ st.ca then (st.ca, L) else (st.ca ++ [g], L ++ [M.bd g])).1, st.en, (if g ∈ st.ca then (st.ca, L) else (st.ca ++ [g], L ++ [M.bd g])).2 ++ []⟩ : KM.RS Str)
        rw [List.append_nil]
        split <;> rfl
      | test y n => rfl
      | push c b1 =>
        show (if c ∈ st.en ∨ ent c b1 = false then _ else _) = (⟨st.ca, (if c ∈ st.en ∨ ent c b1 = false then (st.en, L) else (st.en ++ [c], L ++ [M.am c])).1, (if c ∈ st.en ∨ ent c b1 = false then (st.en, L) else (st.en ++ [c], L ++ [M.am c])).2 ++ [b1]⟩ : KM.RS Str)
        split <;> rfl
    dsimp only
    refine seqM (fun σ' H' => ∃ (p10 p11 p12 : Option V) (kc' : List (Key × V)) (xs1 : List V), σ' = [some (.ref a), some (.str x), some (.ref bF), some (.ref bA), some (.ref dC), some (.ref dE), some (.ref dR), some (.ref p), some (.str wd), some t, p10, p11, p12] ∧ Same H1 H' ∧ Le Hc H' ∧
      H' dC = some (.dK kc') ∧ DRel c1.1 (fun _ _ => True) kc' ∧ H' dE = some (.dK ke) ∧ H' dR = some (.lst xs1) ∧ Paired (BdX af ac H') c1.2 xs1) (fun σ' Hd mid => ?_) (fun nx => ?_)
    · obtain ⟨p10, p11, p12, kc', xs1, rfl, sd, ld, dC', rC', dE', dR', dX'⟩ := mid
      refine seqM (fun σ' H' => ∃ (p10 p11 p12 : Option V) (ke' : List (Key × V)) (xs2 : List V), σ' = [some (.ref a), some (.str x), some (.ref bF), some (.ref bA), some (.ref dC), some (.ref dE), some (.ref dR), some (.ref p), some (.str wd), some t, p10, p11, p12] ∧ Same H1 H' ∧ Le Hc H' ∧
        H' dC = some (.dK kc') ∧ H' dE = some (.dK ke') ∧ DRel c2.1 (fun _ _ => True) ke' ∧ c2.1.Nodup ∧ (∀ c ∈ c2.1, c ∈ M.cs) ∧ H' dR = some (.lst xs2) ∧ Paired (BdX af ac H') c2.2 xs2) (fun σ' He mid => ?_) (fun nx => ?_)
      · obtain ⟨p10, p11, p12, ke', xs2, rfl, se, le, eC, eE, rE', nE', cE', eR, eX⟩ := mid
        have hp' := le _ _ (show Stb (.tup (.str wd :: t :: r)) from trivial) hp
        refine ⟨_, rfl, .inl ⟨rfl, _, .inl (.inl eR)⟩, _, rfl, 3, rfl, p, _, rfl, SqT.of hp', fun z => absurd z hsl, fun _ u hu => ?_⟩
        have su := Same.upd (o := .tup (cutV (.str wd :: t :: r) (some 3) none)) hu
        have hk2 : Paired (BdX af ac (upd He u (.tup (cutV (.str wd :: t :: r) (some 3) none)))) (kids b) (cutV (.str wd :: t :: r) (some 3) none) := Paired.mono (fun _ _ z => BdX.le (le.trans (Same.le su)) z) hkids
        have eR2 := su _ _ eR
        have lk : (cutV (.str wd :: t :: r) (some 3) none).length = (kids b).length := hkids.length.symm
        have lx := eX.length
        have le2 := Le.lst (o := .lst (xs2 ++ cutV (.str wd :: t :: r) (some 3) none)) eR2
        have meas : KM.rmeas M (KM.rstep M ent st L b) < KM.rmeas M st := by omega
        have hlen : (c2.2 ++ kids b).length ≤ KM.rmeas M (KM.rstep M ent st L b) := by
          rw [hstep]
          unfold KM.rmeas
          have := sumS_len (c2.2 ++ kids b)
          show _ ≤ KM.sumS (c2.2 ++ kids b) + _ + _
          omega
        rw [List.length_append] at hlen
        refine ⟨dR, u, xs2, _, rfl, rfl, eR2, upd_same, by omega, ?_⟩
        rw [hstep] at ri2 meas
        refine ⟨_, meas, _, _, _, _, _, _, _, xs2 ++ cutV (.str wd :: t :: r) (some 3) none, kc', ke', rfl, Same.put (se.trans su) hR1, by rw [upd_ne neCR]; exact su _ _ eC, rC', by rw [upd_ne neER]; exact su _ _ eE, rE', upd_same, ?_, ri2, nE', cE', rfl, by omega⟩
        exact paired_app (Paired.mono (fun _ _ z => BdX.le ((Same.le su).trans le2) z) eX) (Paired.mono (fun _ _ z => BdX.le le2 z) hk2)
      · -- push
        rcases hw with ⟨g, rfl, rfl, rfl⟩ | ⟨c, b1, y, rfl, rfl, rfl, hb1, hy⟩ | ⟨hnc, hnp, hw1, hw2⟩
        · refine ⟨_, rfl, rfl, _, rfl, dF (by decide) (iF rfl ?_)⟩
          exact nx _ _ ⟨_, _, _, _, _, rfl, sd, ld, dC', dE', rE, end_, enc, dR', dX'⟩
        · refine ⟨_, rfl, rfl, _, rfl, dT rfl ?_⟩
          have hcs : c ∈ M.cs := hbc.2 c (by simp [KM.Bd.pushes])
          by_cases hc : c ∈ st.en
          · obtain ⟨v, ev, _⟩ := rE.val hc
            refine ⟨_, rfl, _, rfl, dE, _, rfl, dgetS (.inl dE') ev, _, rfl, iF rfl ?_⟩
            have e2 : c2 = (st.en, c1.2) := if_pos (.inl hc)
            exact nx _ _ ⟨_, _, _, _, _, rfl, sd, ld, dC', dE', by rw [e2]; exact rE, by rw [e2]; exact end_, by rw [e2]; exact enc, dR', by rw [e2]; exact dX'⟩
          · refine ⟨_, rfl, _, rfl, dE, none, rfl, .inl ⟨ke, Sum.inr c, .inl dE', rfl, (rE.none hc).symm⟩, _, rfl, iT rfl ?_⟩
            have hTd := hT1.same sd
            obtain ⟨dxd, _, _, _, _, _, _, _, _, _, hid, _⟩ := id hTd.ex
            refine ⟨_, rfl, a, dxd, _, rfl, hid, by rfl, _, rfl, a, c, af, ac, M, fl, cl, Rd, rfl, hTd, (ok.cm c).mpr hcs, fun av H5 s5 hav => ?_⟩
            obtain ⟨pa, bv, rfl, hpa, hbv⟩ := hav
            refine ⟨pa, _, rfl, SqT.of hpa, rfl, _, _, rfl, _, _, rfl, _, _, rfl, rfl, ?_⟩
            have s15 := sd.trans s5
            have hp5 := s5 _ _ (ld _ _ (show Stb (.tup (.str "push" :: .str c :: r)) from trivial) hp)
            have i3 : atI (V.str "push" :: V.str c :: r) (3 : Int) = some y := atI_nat (j := 3) (by exact hy)
            refine ⟨_, rfl, _, rfl, p, _, _, _, rfl, rfl, SqT.of hp5, i3, _, rfl, _, rfl, y, bF, bA, af, ac, sl, b1, fl, cl, KM.cst M fl, KM.carms M (KM.cst M fl), rfl, hb1.le (ld.trans (Same.le s5)), by have : bdDep b1 + 1 ≤ 20 := hdep; omega, h2.same rle_b2 s15, h3.same rle_b2 s15, (fun g hg => (ok.fm g).mpr (hbc.1 g (by simp [KM.Bd.calls, hg]))), (fun g hg => (ok.cm g).mpr (hbc.2 g (by simp [KM.Bd.pushes, hg]))), fun we H6 s6 hwe => ?_⟩
            obtain ⟨pw, rfl, hpw⟩ := hwe
            refine ⟨M.kd c, pw, _, _, rfl, hpw, ?_⟩
            have hv : (if M.kd c = true then V.bl (KM.cen (KM.cst M fl) (KM.carms M (KM.cst M fl)) b1).1 else V.bl (KM.cen (KM.cst M fl) (KM.carms M (KM.cst M fl)) b1).2) = V.bl (ent c b1) := by
              show _ = V.bl (if M.kd c = true then _ else _)
              split <;> rfl
            refine ⟨ent c b1, hv, ?_⟩
            have s56 := s5.trans s6
            cases he : ent c b1 with
            | false =>
              have e2 : c2 = (st.en, c1.2) := if_pos (.inr he)
              refine iF rfl ?_
              exact nx _ _ ⟨_, _, _, _, _, rfl, sd.trans s56, ld.trans (Same.le s56), s56 _ _ dC', s56 _ _ dE', by rw [e2]; exact rE, by rw [e2]; exact end_, by rw [e2]; exact enc, s56 _ _ dR', by rw [e2]; exact Paired.mono (fun _ _ z => BdX.le (Same.le s56) z) dX'⟩
            | true =>
              have e2 : c2 = (st.en ++ [c], L ++ [M.am c]) := if_neg (by rw [he]; rintro (z | z); exact hc z; cases z)
              refine iT rfl ?_
              have gE := s56 _ _ dE'
              refine ⟨_, rfl, _, rfl, dE, _, rfl, DPut.k (k := Sum.inr c) gE (by rw [rE.length]; omega), ?_⟩
              have lp := Le.dK (o := .dK (putK ke (Sum.inr c) (.bl true))) gE
              have gR : (upd H6 dE (.dK (putK ke (Sum.inr c) (.bl true)))) dR = some (.lst xs1) := by rw [upd_ne neER.symm]; exact s56 _ _ dR'
              have gC : (upd H6 dE (.dK (putK ke (Sum.inr c) (.bl true)))) dC = some (.dK kc') := by rw [upd_ne neCE]; exact s56 _ _ dC'
              have hlen1 : xs1.length ≤ 20000 := by
                have := dX'.length
                have hcl : c1.2.length = L.length := rfl
                omega
              refine ⟨_, rfl, .inl ⟨rfl, _, .inl (.inl gR)⟩, _, rfl, dR, xs1, _, rfl, rfl, gR, by omega, ?_⟩
              have l6 := Le.lst (o := .lst (xs1 ++ [bv])) gR
              have lA := (Same.le s56).trans (lp.trans l6)
              have hbv' : BdX af ac (upd (upd H6 dE (.dK (putK ke (Sum.inr c) (.bl true)))) dR (.lst (xs1 ++ [bv]))) (M.am c) bv := ⟨_, hbv.le ((Same.le s6).trans (lp.trans l6))⟩
              refine nx _ _ ⟨_, _, _, _, _, rfl, Same.put (Same.put (sd.trans s56) hE1) hR1, ld.trans lA, by rw [upd_ne neCR]; exact gC, by rw [upd_ne neER]; exact upd_same, by rw [e2]; exact rE.new hc (fun _ _ _ _ => trivial) trivial, by rw [e2]; exact List.nodup_append.mpr ⟨end_, by simp, fun a ha b hb => by rw [List.mem_singleton.mp hb]; exact fun q => hc (by rw [← q]; exact ha)⟩, ?_, upd_same, ?_⟩
              · rw [e2]
                intro d hd
                rcases List.mem_append.mp hd with q | q
                · exact enc d q
                · rw [List.mem_singleton.mp q]; exact hcs
              · rw [e2]
                exact paired_app (Paired.mono (fun _ _ z => BdX.le lA z) dX') (.cons hbv' .nil)
        · refine ⟨_, rfl, rfl, _, rfl, dF (fun z => hw2 (by injection z)) (iF rfl ?_)⟩
          have e2 : c2 = (st.en, c1.2) := by
            cases b with
            | leaf _ => rfl
            | call g => rfl
            | test y n => rfl
            | push c b1 => exact absurd rfl (hnp c b1)
          exact nx _ _ ⟨_, _, _, _, _, rfl, sd, ld, dC', dE', by rw [e2]; exact rE, by rw [e2]; exact end_, by rw [e2]; exact enc, dR', by rw [e2]; exact dX'⟩
    · rcases hw with ⟨g, rfl, rfl, rfl⟩ | ⟨c, b1, y, rfl, rfl, rfl, hb1, hy⟩ | ⟨hnc, hnp, hw1, hw2⟩
      · have hgs : g ∈ M.fs := hbc.1 g (by simp [KM.Bd.calls])
        refine ⟨_, rfl, rfl, _, rfl, dT rfl ?_⟩
        by_cases hg : g ∈ st.ca
        · obtain ⟨v, ev, _⟩ := rC.val hg
          refine ⟨_, rfl, _, rfl, dC, _, rfl, dgetS (.inl cC) ev, _, rfl, iF rfl ?_⟩
          have e1 : c1 = (st.ca, L) := if_pos hg
          exact nx _ _ ⟨_, _, _, _, _, rfl, sc, Le.refl _, cC, by rw [e1]; exact rC, cE, cR, by rw [e1]; exact cX⟩
        · have e1 : c1 = (st.ca ++ [g], L ++ [M.bd g]) := if_neg hg
          refine ⟨_, rfl, _, rfl, dC, none, rfl, .inl ⟨kc, Sum.inr g, .inl cC, rfl, (rC.none hg).symm⟩, _, rfl, iT rfl ?_⟩
          refine ⟨_, rfl, _, rfl, dC, _, rfl, DPut.k (k := Sum.inr g) cC (by rw [rC.length]; omega), ?_⟩
          have lp := Le.dK (o := .dK (putK kc (Sum.inr g) (.bl true))) cC
          have sp : Same H1 (upd Hc dC (.dK (putK kc (Sum.inr g) (.bl true)))) := Same.put sc hC
          have pE : (upd Hc dC (.dK (putK kc (Sum.inr g) (.bl true)))) dE = some (.dK ke) := by rw [upd_ne neCE.symm]; exact cE
          have pR : (upd Hc dC (.dK (putK kc (Sum.inr g) (.bl true)))) dR = some (.lst xs') := by rw [upd_ne neCR.symm]; exact cR
          have pC : (upd Hc dC (.dK (putK kc (Sum.inr g) (.bl true)))) dC = some (.dK (putK kc (Sum.inr g) (.bl true))) := upd_same
          generalize upd Hc dC (.dK (putK kc (Sum.inr g) (.bl true))) = Hp1 at lp sp pE pR pC
          have hTp := hT1.same sp
          obtain ⟨dxp, _, _, _, _, _, _, _, _, _, hip, _⟩ := id hTp.ex
          refine ⟨_, rfl, .inl ⟨rfl, _, .inl (.inl pR)⟩, _, rfl, _, rfl, a, dxp, _, rfl, hip, a, g, af, ac, M, fl, cl, Rd, rfl, hTp, (ok.fm g).mpr hgs, fun r0 H5 bv2 s5 hr0 hbv => ?_⟩
          have qR := s5 _ _ pR
          refine ⟨r0, _, _, _, rfl, rfl, SqT.of hr0, rfl, dR, xs', bv2, rfl, rfl, qR, by omega, ?_⟩
          have l6 := Le.lst (o := .lst (xs' ++ [bv2])) qR
          have lA := (lp.trans (Same.le s5)).trans l6
          refine nx _ _ ⟨_, _, _, _, _, rfl, Same.put (sp.trans s5) hR1, lA, by rw [upd_ne neCR]; exact s5 _ _ pC, by rw [e1]; exact rC.new hg (fun _ _ _ _ => trivial) trivial, by rw [upd_ne neER]; exact s5 _ _ pE, upd_same, ?_⟩
          rw [e1]
          exact paired_app (Paired.mono (fun _ _ z => BdX.le lA z) cX) (.cons ⟨_, hbv.le l6⟩ .nil)
      · refine ⟨_, rfl, rfl, _, rfl, dF (by decide) (iF rfl ?_)⟩
        exact nx _ _ ⟨_, _, _, _, _, rfl, sc, Le.refl _, cC, rC, cE, cR, cX⟩
      · refine ⟨_, rfl, rfl, _, rfl, dF (fun z => hw1 (by injection z)) (iF rfl ?_)⟩
        have e1 : c1 = (st.ca, L) := by
          cases b with
          | leaf _ => rfl
          | call g => exact absurd rfl (hnc g)
          | test y n => rfl
          | push c b1 => rfl
        exact nx _ _ ⟨_, _, _, _, _, rfl, sc, Le.refl _, cC, by rw [e1]; exact rC, cE, cR, by rw [e1]; exact cX⟩
end
end K52

namespace K52
open PySem PySem.Spec PyProof.Rows L2
section
variable {P : Program} {w : World} {K : PySem.W.Frag} {mg : Str → Option Value} {base : Heap}
theorem val_in {Es : TLs} (hEnd : (Es.map (·.1)).Nodup) {p : Str × Nat} (hm0 : p ∈ Es) : valV (Es.map kvT) (Sum.inr p.1) = some (.int (p.2 : Nat)) := by
  rw [val_kvT]
  have hm : (p.1, p.2) ∈ Es := hm0
  have hg := getT_of hEnd hm
  have hh : hasT Es p.1 = true := hasT_iff.mpr (List.mem_map.mpr ⟨_, hm, rfl⟩)
  unfold getT at hg
  unfold hasT at hh
  cases q : Es.find? fun r => decide (r.1 = p.1) with
  | none =>
    obtain ⟨r, hr1, hr2⟩ := List.any_eq_true.mp hh
    exact absurd hr2 (List.find?_eq_none.mp q r hr1)
  | some r =>
    rw [q] at hg
    have : r.2 = p.2 := hg
    rw [← this]; rfl
/-- found heights -/
def FD (H : Hp) (d : Addr) (S : List Str) (x : Str → Nat) : Prop := ∃ kvs, H d = some (.dK kvs) ∧ DRel S (fun t v => v = .int (x t : Nat)) kvs
theorem FD.same {H H' : Hp} {d : Addr} {S : List Str} {x : Str → Nat} (s : Same H H') (h : FD H d S x) : FD H' d S x := by
  obtain ⟨k, h1, h2⟩ := h
  exact ⟨k, s _ _ h1, h2⟩
theorem FD.get {H : Hp} {d : Addr} {S : List Str} {x : Str → Nat} (h : FD H d S x) {t : Str} (ht : t ∈ S) : DGet H d (.str t) (some (.int (x t : Nat))) := by
  obtain ⟨k, h1, h2⟩ := h
  obtain ⟨v, e, rfl⟩ := h2.val ht
  exact dgetS (.inl h1) e
theorem Same.unlock {H H' : Hp} {a : Addr} {o o' : HO} (h : H a = some o) (s : Same (L2.upd H a o') H') : Same H (L2.upd H' a o) := fun b u e => by
  by_cases q : b = a
  · subst q; rw [h] at e; cases e; exact upd_same
  · rw [upd_ne q]; exact s _ _ (by rw [upd_ne q]; exact e)
theorem max_hv {D : TLs} {x : Str → Nat} {m : Int} (hm : m ∈ D.map fun p => ((p.2 + x p.1 : Nat) : Int)) (hx : ∀ y, y ∈ (D.map fun p => ((p.2 + x p.1 : Nat) : Int)) → y ≤ m) : m = (KM.hvL D x : Nat) := by
  obtain ⟨p, hp, rfl⟩ := List.mem_map.mp hm
  have h1 := KM.hvL_ge (x := x) hp
  have h2 : KM.hvL D x ≤ p.2 + x p.1 := KM.hvL_le fun r hr => by
    have := hx _ (List.mem_map.mpr ⟨r, hr, rfl⟩)
    omega
  omega
def spHts (C : Addr) : Sp := fun vs H Q _ => ∃ a x by_ af ac M fl cl Rd, ∃ S : List Str, vs = [.ref a, .str x, .str by_] ∧ TabA C af ac M fl cl Rd H a ∧ x ∈ fl ∧ S.Nodup ∧ (∀ t, t ∈ S ↔ KM.InS M (KM.entC M (KM.cst M fl)) x t) ∧
  (KM.hgt M "" (wtF ac by_) (KM.cst M fl) S = none → ∀ H', Same H H' → Q .non H') ∧
  ∀ h, KM.hgt M "" (wtF ac by_) (KM.cst M fl) S = some h → ∀ H' d S', Same H H' → H d = none → FD H' d S' h → S'.Nodup → (∀ t, t ∈ S' ↔ t ∈ S) → S'.length ≤ 31 → Q (.ref d) H'
theorem c_heights_from (T : Txt K mg) : Cal P w K mg base 44 "heights_from" (spHts (cT K)) := by
  have c_tops_of := c_tops_of (P := P) (w := w) (base := base) T
  have c_reached := c_reached (P := P) (w := w) (base := base) T
  refine cal_of T.d_heights_from sc_heights_from (fun _ _ _ _ _ _ us hl => match us, hl with | [_, _, _], _ => rfl) (fun vs H Q E h => ?_) (fun f cdv A outer s H vs Q E hr h => ?_)
  · obtain ⟨_, _, _, _, _, _, _, _, _, _, rfl, _⟩ := h; rfl
  obtain ⟨a, x, by_, af, ac, M, fl, cl, Rd, S, rfl, hT, hx, hSn, hS, kN, kS⟩ := h
  have nd := sc_heights_from.nd
  have hu := hu_of hr
  refine ⟨_, (pss_cons (ps_asg (pe_tup (pa_cons (pe_c c_tops_of hr (by decide) rfl (pa_cons (pv 0) (pa_cons (pv 2) pa_nil))) (pa_cons (pe_disp (pps_cons (pv 1) pe_int pps_nil) (by rfl) (by rfl) (fun z => by cases z) (by decide)) pa_nil))) (pg_tup (by rfl) (pgs_cons (pg_name (i := 3) nd rfl (Or.inr rfl)) (pgs_cons (pg_name (i := 4) nd rfl (Or.inr rfl)) pgs_nil))))
  (pss_cons (ps_for PassesOwn.never rfl (pi_list (pe_ix ix_tup (pe_c c_reached hr (by decide) rfl (pa_cons (pv 0) (pa_cons (pv 1) pa_nil))) pe_int (fun _ _ => rfl))) (pg_name (i := 5) nd rfl (Or.inr rfl)) (pss_one (ps_dput hu (pv 4) (pv 5) pe_int rfl)))
  (pss_cons (ps_for PassesOwn.never rfl (pi_range1 rfl T.b_range (pa_cons (pe_op op_add (pe_callB call_lenD (by rfl) T.b_len PySem.boot_len (pa_cons (pv 4) pa_nil)) pe_int) pa_nil)) (pg_name (i := 6) nd rfl (Or.inl rfl)) (pss_cons (ps_set (i := 7) nd rfl (Or.inl rfl) pe_bl)
  (pss_cons (ps_for PassesOwn.never rfl (pi_list (pe_callTy (call_listD rfl) (by rfl) T.b_list (by decide +kernel) (pa_cons (pv 4) pa_nil))) (pg_name (i := 5) nd rfl (Or.inr rfl)) (pss_cons (ps_set (i := 8) nd rfl (Or.inl rfl) (pe_callB (cr_max rfl) (by rfl) T.b_max (by decide +kernel) (pa_cons (pe_lock (pe_lc (own := [("other", 9)]) rfl nd (pi_keys (pe_dget hu (pv 3) (pv 5) (fun _ _ => rfl))) (blkOk_by (N := N_heights_from) (sc := defScope s_heights_from) (by decide +kernel)) (fun _ _ _ _ _ => (pg_name (i := 9) nd rfl (Or.inl rfl))) (fun _ _ _ _ _ => pts_nil) (fun _ _ _ _ _ => (pe_op op_add (pe_dget hu (pe_dget hu (pv 3) (pv 5) (fun _ _ => rfl)) (pv 9) (fun _ _ => rfl)) (pe_dget2 hu (pv 4) (pv 9) pe_int ⟨rfl, rfl, rfl, rfl⟩))))) pa_nil)))
  (pss_one (ps_if (pt_cmpR op_gt (pv 8) (pe_dget hu (pv 4) (pv 5) (fun _ _ => rfl)) (nomark _)) (pss_cons (ps_dput hu (pv 4) (pv 5) (pv 8) rfl)
  (pss_one (ps_set (i := 7) nd rfl (Or.inl rfl) pe_bl))) pss_nil))))
  (pss_one (ps_if (pt_not (pt_val (pv 7))) (pss_one (ps_ret (pv 4))) pss_nil)))))
  (pss_one (ps_ret pe_non))))), ?_⟩
  have ok := hT.ok
  have hz : 60000 ≤ sizeLine := by decide
  refine ⟨_, rfl, _, rfl, a, by_, af, ac, M, fl, cl, Rd, rfl, hT, fun q H1 s1 hq hTp => ?_⟩
  refine fun d hd => ⟨_, rfl, upd_same, [(Sum.inr x, V.int (0 : Nat))], rfl, (by show 1 ≤ 15; decide), by show 2 ≤ sizeLine; decide, fun t ht => ⟨t, _, rfl, SqT.of upd_same, rfl, _, _, rfl, _, _, rfl, rfl, ?_⟩⟩
  have s12 : Same H1 (upd (upd (upd H1 d (.dK [])) d (.dK (mergeK [] [((Sum.inr x : Key), V.int (0 : Nat))]))) t (.tup [.ref q, .ref d])) := (Same.put (Same.upd hd) hd).trans (Same.upd ht)
  have hf2 : FD (upd (upd (upd H1 d (.dK [])) d (.dK (mergeK [] [((Sum.inr x : Key), V.int (0 : Nat))]))) t (.tup [.ref q, .ref d])) d [x] (fun _ => 0) := ⟨_, (Same.upd ht) _ _ upd_same, rfl, fun y w m => by
    have m' : ((Sum.inr y : Key), w) ∈ [((Sum.inr x : Key), V.int (0 : Nat))] := m
    rw [List.mem_singleton] at m'; cases m'; rfl⟩
  have hd0 : H d = none := s1.free hd
  generalize upd (upd (upd H1 d (.dK [])) d (.dK (mergeK [] [((Sum.inr x : Key), V.int (0 : Nat))]))) t (.tup [.ref q, .ref d]) = H2 at s12 hf2
  clear ht
  have hxs : x ∈ M.fs := (ok.fm x).mp hx
  refine ⟨_, rfl, _, rfl, a, x, af, ac, M, fl, cl, Rd, rfl, hT.same (s1.trans s12), hx, fun H3 r l1 v2 ns s3 hr0 hl1 hnd hns hnl => ?_⟩
  refine ⟨r, _, _, _, rfl, rfl, SqT.of hr0, rfl, l1, rfl, ⟨ns.map V.str, SqL.of hl1⟩, ?_⟩
  have nfl : ∀ t ∈ ns, t ∈ fl := fun t ht => (ok.fm t).mpr (KM.InS.fs ok.ok hxs (.inr ((hns t).mp ht)))
  have hdl : l1 ≠ d := by
    obtain ⟨k, e, _⟩ := hf2
    exact ne_of hl1 (s3 _ _ e) (by intro z; cases z)
  have s13 := s12.trans s3
  have hf3 := hf2.same s3
  refine for_it walk_list (fun i σ H' => (∃ p5 p6 p7 p8 p9, σ = [some (.ref a), some (.str x), some (.str by_), some (.ref q), some (.ref d), p5, p6, p7, p8, p9]) ∧ Same H1 H' ∧ H' l1 = some (.lst (ns.map V.str)) ∧ ∃ Sx, FD H' d Sx (fun _ => 0) ∧ Sx.Nodup ∧ ∀ t, t ∈ Sx ↔ t = x ∨ t ∈ ns.take i)
    ⟨⟨_, _, _, _, _, rfl⟩, s13, hl1, [x], hf3, by simp, by simp⟩ (fun i σ H' _ p => SqL.of p.2.2.1) (fun i y σ Ha Hb hi p z => ?_) (fun σ Ha p => ?_)
  · obtain ⟨rfl, hz2⟩ := z
    obtain ⟨⟨p5, p6, p7, p8, p9, rfl⟩, sa, al1, Sx, ⟨kx, ak, aR⟩, aN, aM⟩ := p
    obtain ⟨t, ht, rfl⟩ : ∃ t, ns[i]? = some t ∧ y = .str t := by
      rw [List.getElem?_map] at hz2
      cases q : ns[i]? with
      | none => rw [q] at hz2; cases hz2
      | some t => rw [q] at hz2; cases hz2; exact ⟨t, rfl, rfl⟩
    have hin : i < ns.length := (List.getElem?_eq_some_iff.mp ht).1
    have htk : ns.take (i + 1) = ns.take i ++ [t] := by rw [List.take_add_one, ht]; rfl
    have lenx : kx.length ≤ 31 := by
      have : Sx.length ≤ fl.length := len_sub aN fun u hu => by
        rcases (aM u).mp hu with rfl | q
        · exact hx
        · exact nfl u (List.mem_of_mem_take q)
      have := aR.length
      have := ok.fz
      omega
    obtain ⟨Sy, h1, h2, h3⟩ : ∃ Sy, FD (upd Hb d (.dK (putK kx (Sum.inr t) (.int (0 : Nat))))) d Sy (fun _ => 0) ∧ Sy.Nodup ∧ ∀ u, u ∈ Sy ↔ u ∈ Sx ∨ u = t := by
      by_cases htS : t ∈ Sx
      · exact ⟨Sx, ⟨_, upd_same, aR.put htS (fun _ _ _ _ z => z) rfl⟩, aN, fun u => ⟨.inl, fun q => q.elim id fun q => by rw [q]; exact htS⟩⟩
      · exact ⟨Sx ++ [t], ⟨_, upd_same, aR.new htS (fun _ _ _ z => z) rfl⟩, List.nodup_append.mpr ⟨aN, by simp, fun a ha b hb => by rw [List.mem_singleton.mp hb]; exact fun q => htS (by rw [← q]; exact ha)⟩, fun u => by rw [List.mem_append, List.mem_singleton]⟩
    exact ⟨_, rfl, _, rfl, d, _, rfl, DPut.k (k := Sum.inr t) ak (by omega), ⟨_, _, _, _, _, rfl⟩, Same.put sa hd, by rw [upd_ne hdl]; exact al1, Sy, h1, h2, fun u => by rw [h3 u, aM u, htk, List.mem_append, List.mem_singleton, or_assoc]⟩
  · obtain ⟨⟨p5, p6, p7, p8, p9, rfl⟩, sa, _, S1, hf, hn1, hm1⟩ := p
    have hS1 : ∀ t, t ∈ S1 ↔ t ∈ S := fun t => by
      rw [hm1 t, hS t, List.take_of_length_le (by simp), hns t]; rfl
    have S1f : ∀ t ∈ S1, t ∈ M.fs := fun t ht => KM.InS.fs ok.ok hxs ((hS t).mp ((hS1 t).mp ht))
    have S1l : S1.length ≤ 30 := Nat.le_trans (len_sub hn1 fun u hu => (ok.fm u).mpr (S1f u hu)) ok.fz
    obtain ⟨kx, hk, hR⟩ := id hf
    have lkx := hR.length
    refine ⟨_, rfl, d, kx, rfl, hk, _, _, rfl, rfl, _, rfl, by omega, by omega, ?_⟩
    let gn : Str → TLs := KM.gnF M "" (wtF ac by_) (KM.cst M fl)
    have cl1 : KM.Cl gn "" S1 := fun i hi p hp => (KM.gns_vis ok.ok (ok.ok.bp i (S1f i hi)) p hp).imp id fun v => (hS1 p.1).mpr ((hS p.1).mpr (KM.InS.step ((hS i).mp ((hS1 i).mp hi)) v))
    have nz1 : ("" : Str) ∉ S1 := fun q => ok.nz (S1f _ q)
    have heq : KM.hgt M "" (wtF ac by_) (KM.cst M fl) S1 = KM.hgt M "" (wtF ac by_) (KM.cst M fl) S := KM.hgt_same hn1 hSn cl1 nz1 hS1
    have en : ((kx.length : Int) + 1).toNat = S1.length + 1 := by omega
    refine for_it walk_range (fun i σ H' => (∃ p5 p6 p7 p8 p9, σ = [some (.ref a), some (.str x), some (.str by_), some (.ref q), some (.ref d), p5, p6, p7, p8, p9]) ∧ Same H1 H' ∧ FD H' d S1 (KM.hI gn S1 i) ∧ ∀ j, j < i → KM.turnF gn S1 (KM.hI gn S1 j) ≠ KM.hI gn S1 j)
      ⟨⟨_, _, _, _, _, rfl⟩, sa, hf, fun j hj => absurd hj (Nat.not_lt_zero j)⟩ (fun i σ H' _ p => trivial) (fun i y σ Hc Hb hi p z => ?_) (fun σ Ha p => ?_)
    · obtain ⟨rfl, rfl⟩ := z
      obtain ⟨⟨p5, p6, p7, p8, p9, rfl⟩, sa, hf, hj⟩ := p
      obtain ⟨kc, hk, hR⟩ := id hf
      have ek : (kc.map fun kv => kV kv.1) = S1.map V.str := by
        have e : kc.map (fun kv => kV kv.1) = (kc.map (·.1)).map kV := by rw [List.map_map]; rfl
        rw [e, hR.1, List.map_map]; rfl
      refine ⟨_, rfl, d, kc, rfl, .inl hk, fun lf hlf => ⟨lf, rfl, ⟨_, SqL.of upd_same⟩, ?_⟩⟩
      rw [ek] at *
      have sb : Same Hb (upd Hb lf (.lst (S1.map V.str))) := Same.upd hlf
      have dlf : d ≠ lf := ne_of_none hk hlf
      have h2 : (upd Hb lf (.lst (S1.map V.str))) lf = some (.lst (S1.map V.str)) := upd_same
      have s2 := sa.trans sb
      have hf2 := hf.same sb
      generalize upd Hb lf (.lst (S1.map V.str)) = Hd at h2 s2 hf2
      refine for_it walk_list (fun k σ H' => (∃ (b : Bool) (p5 p8 p9 : Option V), σ = [some (.ref a), some (.str x), some (.str by_), some (.ref q), some (.ref d), p5, some (.int (0 + (i : Nat))), some (.bl b), p8, p9] ∧ (b = false → KM.turnF gn (S1.take k) (KM.hI gn S1 i) = KM.hI gn S1 i) ∧ (b = true → ∃ t, KM.hI gn S1 i t < KM.turnF gn (S1.take k) (KM.hI gn S1 i) t)) ∧ Same H1 H' ∧ H' lf = some (.lst (S1.map V.str)) ∧ FD H' d S1 (KM.turnF gn (S1.take k) (KM.hI gn S1 i)))
        ⟨⟨_, _, _, _, rfl, fun _ => rfl, fun z => by cases z⟩, s2, h2, hf2⟩ (fun k σ H' _ p => SqL.of p.2.2.1) (fun k y σ He Hd hk p z => ?_) (fun σ He p => ?_)
      · obtain ⟨rfl, hz2⟩ := z
        obtain ⟨⟨b, p5, p8, p9, rfl, b0, b1⟩, sa, al, hf⟩ := p
        obtain ⟨t, ht, rfl⟩ : ∃ t, S1[k]? = some t ∧ y = .str t := by
          rw [List.getElem?_map] at hz2
          cases q : S1[k]? with
          | none => rw [q] at hz2; cases hz2
          | some t => rw [q] at hz2; cases hz2; exact ⟨t, rfl, rfl⟩
        have htS : t ∈ S1 := List.mem_of_getElem? ht
        have tk : S1.take (k + 1) = S1.take k ++ [t] := by rw [List.take_add_one, ht]; rfl
        have eT : KM.turnF gn (S1.take (k + 1)) (KM.hI gn S1 i) = KM.up (KM.turnF gn (S1.take k) (KM.hI gn S1 i)) t (max (KM.turnF gn (S1.take k) (KM.hI gn S1 i) t) (KM.hvL (gn t) (KM.turnF gn (S1.take k) (KM.hI gn S1 i)))) := by
          rw [tk]; unfold KM.turnF; rw [List.foldl_append]; rfl
        rw [eT]
        have off : ∀ u, u ∉ S1 → KM.turnF gn (S1.take k) (KM.hI gn S1 i) u = 0 := fun u hu => (KM.turn_off fun z => hu (List.mem_of_mem_take z)).trans (KM.hI_off hu)
        have ge : ∀ u, KM.hI gn S1 i u ≤ KM.turnF gn (S1.take k) (KM.hI gn S1 i) u := fun u => KM.turn_ge u
        generalize KM.turnF gn (S1.take k) (KM.hI gn S1 i) = xk at *
        obtain ⟨kq, hq0, hqR⟩ := id hTp
        obtain ⟨vD, ev, pD, rfl, npd, D, hD0, Dnd, Dnm, De⟩ := hqR.val ((ok.fm t).mpr (S1f t htS))
        have hq1 := sa _ _ hq0
        have hD := sa _ _ hD0
        have npd2 : d ≠ pD := (ne_of_none hD0 hd).symm
        refine ⟨pD, _, hD, trivial, fun od => ?_⟩
        refine ⟨_, rfl, _, rfl, q, _, rfl, dgetS (.inl (by rw [upd_ne npd.symm]; exact hq1)) ev, pD, od, rfl, .inl ⟨_, upd_same, ?_⟩⟩
        refine fun L hL => lc_map walk_keys hL (fun H' s => s _ _ upd_same) (by
          have : (D.map kvT).length ≤ (("" : Str) :: fl).length := by
            have := len_sub Dnd Dnm
            rw [List.length_map] at this ⊢; exact this
          have := ok.fz
          rw [List.length_cons] at *
          omega) (fun j y _ => ∃ p, D[j]? = some p ∧ y = .int (p.2 + xk p.1 : Nat)) (fun _ _ _ _ _ _ _ h => h) (fun _ _ _ _ _ h => by rw [h.1]; exact Same.refl _) (fun j y Hx Hy Q' hj sx z fk => ?_) (fun Hx ys sx hL2 hyl hys => ?_)
        · obtain ⟨rfl, ky, vv, hkv, rfl⟩ := z
          rw [List.getElem?_map] at hkv
          obtain ⟨p, hp, e⟩ := Option.map_eq_some_iff.mp hkv
          cases e
          have hpm : p ∈ D := List.mem_of_getElem? hp
          have ev2 : valV (D.map kvT) (Sum.inr p.1) = some (.int (p.2 : Nat)) := val_in Dnd hpm
          have hqx := sx _ _ (show (upd Hd pD (.frz od (.dK (D.map kvT)))) q = _ by rw [upd_ne npd.symm]; exact hq1)
          have hpx := sx _ _ (upd_same (H := Hd) (a := pD) (o := .frz od (.dK (D.map kvT))))
          refine ⟨rfl, ?_⟩
          refine ⟨_, rfl, _, rfl, q, _, rfl, dgetS (.inl hqx) ev, _, rfl, pD, _, rfl, dgetS (.inr ⟨_, hpx⟩) ev2, ?_⟩
          obtain ⟨kxx, hkx, hkR⟩ := id hf
          have hdx := sx _ _ (show (upd Hd pD (.frz od (.dK (D.map kvT)))) d = _ by rw [upd_ne npd2]; exact hkx)
          have hsum : ∀ v : V, v = .int (xk p.1 : Nat) → rI0 (fun i j => V.int (i + j)) (.int (p.2 : Nat)) v Hy Q' := fun v e => ⟨_, _, rfl, e, fk _ _ (Same.refl _) ⟨p, hp, by simp⟩⟩
          by_cases hpS : p.1 ∈ S1
          · obtain ⟨v, ev3, rfl⟩ := hkR.val hpS
            exact ⟨_, rfl, d, rfl, .inl ⟨_, .inl hdx⟩, _, rfl, _, dgetS (.inl hdx) ev3, hsum _ rfl⟩
          · exact ⟨_, rfl, d, rfl, .inl ⟨_, .inl hdx⟩, _, rfl, none, .inl ⟨_, Sum.inr p.1, .inl hdx, rfl, (hkR.none hpS).symm⟩, hsum _ (by rw [off _ hpS]; rfl)⟩
        · have eys : ys = (D.map fun p => ((p.2 + xk p.1 : Nat) : Int)).map V.int := by
            apply List.ext_getElem?
            intro j
            rw [List.getElem?_map, List.getElem?_map]
            cases q : ys[j]? with
            | none =>
              have := List.getElem?_eq_none_iff.mp q
              rw [List.getElem?_eq_none (by rw [hyl, List.length_map] at this; exact this)]; rfl
            | some y =>
              obtain ⟨p, hp, e⟩ := hys j y q
              rw [hp, e]; rfl
          have nLp : pD ≠ L := ne_of_none upd_same hL
          have sU := Same.unlock hD sx
          have hLU : (upd Hx pD (.dK (D.map kvT))) L = some (.lst ys) := by rw [upd_ne nLp.symm]; exact hL2
          have gne : 0 < D.length := by
            obtain ⟨p, hp⟩ : ∃ p, p ∈ gn t := ⟨(("" : Str), 0), by show _ ∈ KM.tpl _ _ _ _ _; cases M.bd t <;> simp [KM.tpl]⟩
            obtain ⟨p', hp', _⟩ := De.2 p hp
            exact List.length_pos_of_mem hp'
          refine ⟨sx _ _ upd_same, L, _, rfl, SqL.of (by rw [hLU, eys]), by rw [List.length_map]; exact gne, fun m hm hmax => ?_⟩
          have em : m = (KM.hvL (gn t) xk : Nat) := by rw [max_hv hm hmax, KM.hvL_eqT De]
          subst em
          generalize upd Hx pD (.dK (D.map kvT)) = Hf at sU
          have hfU := hf.same sU
          have sF := sa.trans sU
          have alF := sU _ _ al
          clear hmax hm eys hys hyl hL2 sx hLU
          obtain ⟨kf, hkf, hkfR⟩ := id hfU
          obtain ⟨v3, ev3, rfl⟩ := hkfR.val htS
          refine ⟨_, rfl, _, rfl, _, rfl, d, _, rfl, dgetS (.inl hkf) ev3, ?_⟩
          refine ⟨_, _, rfl, rfl, _, rfl, ?_⟩
          have h0 := ge t
          by_cases hlt : xk t < KM.hvL (gn t) xk
          · have em : max (xk t) (KM.hvL (gn t) xk) = KM.hvL (gn t) xk := by omega
            rw [em]
            refine iT (decide_eq_true (by omega)) ⟨_, rfl, _, rfl, _, rfl, d, _, rfl, DPut.k (k := Sum.inr t) hkf (by have := hkfR.length; omega), ⟨true, _, _, _, rfl, (fun z => by cases z), fun _ => ⟨t, by show _ < (if t = t then _ else _); rw [if_pos rfl]; omega⟩⟩, Same.put sF hd, by rw [upd_ne dlf.symm]; exact alF, _, upd_same, hkfR.put htS (fun y u _ hne e => by rw [e]; show _ = V.int ((if y = t then _ else _ : Nat)); rw [if_neg hne]) (by show _ = V.int ((if t = t then _ else _ : Nat)); rw [if_pos rfl])⟩
          · have em : max (xk t) (KM.hvL (gn t) xk) = xk t := by omega
            have eu : KM.up xk t (xk t) = xk := funext fun u => by
              show (if u = t then _ else _) = _
              by_cases q : u = t
              · rw [if_pos q, q]
              · rw [if_neg q]
            rw [em, eu]
            exact iF (decide_eq_false (by omega)) ⟨⟨b, _, _, _, rfl, b0, b1⟩, sF, alF, hfU⟩
      · obtain ⟨⟨b, p5, p8, p9, rfl, b0, b1⟩, sa, _, hf⟩ := p
        rw [List.length_map, List.take_length] at b0 b1 hf
        cases b with
        | false =>
          refine ⟨_, rfl, _, rfl, iT rfl ⟨_, rfl, ?_⟩⟩
          have st := b0 rfl
          rw [st] at hf
          have e1 : KM.hI gn S1 S1.length = KM.hI gn S1 i := KM.hI_stop st (by omega)
          refine kS _ ?_ He d S1 (s1.trans sa) hd0 hf hn1 hS1 (by omega)
          rw [← heq, ← e1]
          exact if_pos (by rw [e1]; exact st)
        | true =>
          refine ⟨_, rfl, _, rfl, iF rfl ⟨⟨_, _, _, _, _, rfl⟩, sa, hf, fun j hj' => ?_⟩⟩
          by_cases q : j = i
          · subst q
            obtain ⟨t, ht⟩ := b1 rfl
            intro z
            rw [z] at ht
            exact Nat.lt_irrefl _ ht
          · exact hj j (by omega)
    · obtain ⟨⟨p5, p6, p7, p8, p9, rfl⟩, sa, _, hj⟩ := p
      refine kN ?_ Ha (s1.trans sa)
      rw [← heq]
      exact if_neg (hj S1.length (by omega))
end
end K52

namespace K52
open PySem PySem.Spec PyProof.Rows L2
section
variable {P : Program} {w : World} {K : PySem.W.Frag} {mg : Str → Option Value} {base : Heap}
/-- a def with three parameters of which the last is by keyword alone, called f(.., .., by=..) -/
structure CalK (P : Program) (w : World) (K : PySem.W.Frag) (mg : Str → Option Value) (base : Heap) (k : Nat) (x : Str) (sp : Sp) : Prop where
  ex : ∃ (f : Addr) (fd : FuncData) (ps : List Str), FnOk P w K mg base CX0 k f fd ps sp ∧ mg x = some (.ref f) ∧ PySem.W.keepIn K (.ref f) = true ∧ KBn K fd ps 2 ["by"] (fun us ws => us ++ ws) (fun vs zs => vs ++ zs)
theorem vals_app {vs zs : List V} {us ws : List Value} (h : Vals vs us) (g : Vals zs ws) : Vals (vs ++ zs) (us ++ ws) := by
  induction h with
  | nil => exact g
  | cons a _ ih => exact .cons a ih
def spHt (C : Addr) : Sp := fun vs H Q _ => ∃ a x by_ af ac M fl cl Rd, ∃ S : List Str, vs = [.ref a, .str x, .str by_] ∧ TabA C af ac M fl cl Rd H a ∧ x ∈ fl ∧ S.Nodup ∧ (∀ t, t ∈ S ↔ KM.InS M (KM.entC M (KM.cst M fl)) x t) ∧
  ∀ H', Same H H' → Q (match (KM.hgt M "" (wtF ac by_) (KM.cst M fl) S).map (fun h => h x) with | none => .non | some n => .int (n : Nat)) H'
theorem c_height (T : Txt K mg) : CalK P w K mg base 45 "height" (spHt (cT K)) := by
  have c_look_name := c_look_name (P := P) (w := w) (base := base) T
  have c_heights_from := c_heights_from (P := P) (w := w) (base := base) T
  obtain ⟨f, fd, F, g⟩ := T.d_height
  refine ⟨f, fd, ["table", "name", "by"], F.ok sc_height (fun vs H Q E h => ?_) (fun cdv A outer s H vs Q E hr h => ?_), g, F.kp, ?_⟩
  · obtain ⟨_, _, _, _, _, _, _, _, _, _, rfl, _⟩ := h; rfl
  · obtain ⟨a, x, by_, af, ac, M, fl, cl, Rd, S, rfl, hT, hx, hSn, hS, kk⟩ := h
    have nd := sc_height.nd
    have hu := hu_of hr
    refine ⟨_, PSs.nox (pss_cons (ps_expr (pe_c c_look_name hr (by decide) rfl (pa_cons (pv 0) (pa_cons (pv 1) pa_nil))))
  (pss_cons (ps_set (i := 3) nd rfl (Or.inl rfl) (pe_c c_heights_from hr (by decide) rfl (pa_cons (pv 0) (pa_cons (pv 1) (pa_cons (pv 2) pa_nil)))))
  (pss_one (ps_ret (pe_ifExp (pt_cmpR op_isN (pv 3) pe_non (nomark _)) pe_non (pe_dget hu (pv 3) (pv 1) (fun _ _ => rfl))))))), ?_⟩
    refine ⟨_, rfl, _, rfl, a, x, af, ac, M, fl, cl, Rd, rfl, hT, hx, ?_⟩
    refine ⟨_, rfl, _, rfl, _, rfl, a, x, by_, af, ac, M, fl, cl, Rd, S, rfl, hT, hx, hSn, hS, fun hN H' s' => ?_, fun h hh H' d S' s' hd hf hn hm hl => ?_⟩
    · have := kk H' s'
      rw [hN] at this
      exact ⟨_, rfl, rfl, _, rfl, iT (by rfl) this⟩
    · have := kk H' s'
      rw [hh] at this
      have hxS : x ∈ S' := (hm x).mpr ((hS x).mpr (.inl rfl))
      exact ⟨_, rfl, rfl, _, rfl, iF (by rfl) ⟨_, rfl, _, rfl, d, _, rfl, hf.get hxS, this⟩⟩
  · obtain ⟨oc, od, dV, kV, doc, pm, an, cdv, ct, osl, rfl, lk, hcd, hD, hK⟩ := F.ex
    rcases hD with ⟨_, rfl⟩ | ⟨e, _⟩
    · exact ⟨fun s us ws X l1 l2 => match us, l1, ws, l2 with | [_, _], _, [_], _ => BindsTo.of_eq rfl, fun r1 r2 => vals_app r1 r2⟩
    · exact absurd rfl e
end
end K52

namespace K52
open PySem PySem.Spec PyProof.Rows L2
/-! ### routes -/
abbrev RLs := KM.RL Str
def wS : KM.RW → Str
  | .call => "call"
  | .enter => "enter"
  | .push => "push"
theorem wS_inj {a b : KM.RW} (h : wS a = wS b) : a = b := by
  cases a <;> cases b <;> first | rfl | exact absurd h (by decide)
def keyR (e : KM.RK Str) : List Key := [Sum.inr (wS e.w), Sum.inr e.n, Sum.inl (e.g : Int)]
theorem keyR_inj {a b : KM.RK Str} (h : keyR a = keyR b) : a = b := by
  obtain ⟨w1, n1, g1⟩ := a
  obtain ⟨w2, n2, g2⟩ := b
  unfold keyR at h
  simp only [List.cons.injEq, Sum.inr.injEq, Sum.inl.injEq, and_true] at h
  obtain ⟨h1, h2, h3⟩ := h
  have := wS_inj h1
  subst this
  subst h2
  have : g1 = g2 := by omega
  subst this
  rfl
/-- a dict of routes -/
def RtE (C : Addr) (H : Hp) (D : RLs) (kvs : List (List Key × V)) : Prop := Paired (fun (e : KM.RK Str × KM.Sc) (kv : List Key × V) => kv.1 = keyR e.1 ∧ ScV C H e.2 kv.2) D kvs
theorem RtE.le {C : Addr} {H H' : Hp} {D : RLs} {kvs : List (List Key × V)} (l : Le H H') (h : RtE C H D kvs) : RtE C H' D kvs := Paired.mono (fun _ _ z => ⟨z.1, ScV.le l z.2⟩) h
theorem RtE.none {C : Addr} {H : Hp} {k : KM.RK Str} {D : RLs} {kvs : List (List Key × V)} (h : RtE C H D kvs) : k ∉ D.map (·.1) → valV kvs (keyR k) = none ∧ (kvs.any fun kv => decide (kv.1 = keyR k)) = false := by
  induction h with
  | nil => intro _; exact ⟨rfl, rfl⟩
  | @cons e kv D kvs h1 r ih =>
    intro n
    have ne : ¬ kv.1 = keyR k := fun z => n (by rw [← keyR_inj (h1.1.symm.trans z)]; simp)
    have := ih (fun z => n (List.mem_cons_of_mem _ z))
    refine ⟨?_, ?_⟩
    · unfold valV at *
      rw [List.find?_cons_of_neg (by simp [ne])]; exact this.1
    · rw [List.any_cons, this.2]; simp [ne]
theorem RtE.val {C : Addr} {H : Hp} {k : KM.RK Str} {sc : KM.Sc} {D : RLs} {kvs : List (List Key × V)} (h : RtE C H D kvs) : (D.map (·.1)).Nodup → (k, sc) ∈ D → ∃ v, valV kvs (keyR k) = some v ∧ ScV C H sc v := by
  induction h with
  | nil => intro _ z; cases z
  | @cons e kv D kvs h1 r ih =>
    intro nd z
    have nd' := List.nodup_cons.mp nd
    rcases List.mem_cons.mp z with z | z
    · subst z
      refine ⟨kv.2, ?_, h1.2⟩
      unfold valV
      rw [List.find?_cons_of_pos (by simp [h1.1])]; rfl
    · have ne : ¬ kv.1 = keyR k := fun q => nd'.1 (by show e.1 ∈ _; rw [keyR_inj (h1.1.symm.trans q)]; exact List.mem_map.mpr ⟨_, z, rfl⟩)
      obtain ⟨v, e1, e2⟩ := ih nd'.2 z
      refine ⟨v, ?_, e2⟩
      unfold valV at *
      rw [List.find?_cons_of_neg (by simp [ne])]; exact e1
def putR (D : RLs) (k : KM.RK Str) (s : KM.Sc) : RLs := if k ∈ D.map (·.1) then D.map fun e => if e.1 = k then (k, s) else e else D ++ [(k, s)]
theorem RtE.any {C : Addr} {H : Hp} {k : KM.RK Str} {D : RLs} {kvs : List (List Key × V)} (h : RtE C H D kvs) : k ∈ D.map (·.1) → (kvs.any fun kv => decide (kv.1 = keyR k)) = true := by
  induction h with
  | nil => intro z; cases z
  | @cons e kv D kvs h1 r ih =>
    intro z
    rw [List.any_cons]
    rcases List.mem_cons.mp z with z | z
    · have : kv.1 = keyR k := by rw [h1.1, z]
      simp [this]
    · rw [ih z]; simp
theorem RtE.put {C : Addr} {H : Hp} {k : KM.RK Str} {sc : KM.Sc} {v : V} {D : RLs} {kvs : List (List Key × V)} (h : RtE C H D kvs) (hv : ScV C H sc v) : RtE C H (putR D k sc) (putK kvs (keyR k) v) := by
  unfold putR putK
  by_cases hk : k ∈ D.map (·.1)
  · rw [if_pos hk, if_pos (h.any hk)]
    clear hk
    induction h with
    | nil => exact .nil
    | @cons e kv D kvs h1 r ih =>
      refine .cons ?_ ih
      by_cases q : e.1 = k
      · dsimp only
        rw [if_pos q, if_pos (by rw [h1.1, q])]
        exact ⟨by rw [h1.1, q], hv⟩
      · dsimp only
        rw [if_neg q, if_neg fun z => q (keyR_inj (h1.1.symm.trans z))]
        exact h1
  · rw [if_neg hk, if_neg (by rw [(h.none hk).2]; simp)]
    exact paired_app h (.cons ⟨rfl, hv⟩ .nil)
theorem putR_nd {D : RLs} {k : KM.RK Str} {s : KM.Sc} (h : (D.map (·.1)).Nodup) : ((putR D k s).map (·.1)).Nodup := by
  unfold putR
  split
  · have : (D.map fun e => if e.1 = k then (k, s) else e).map (·.1) = D.map (·.1) := by
      rw [List.map_map]
      apply List.map_congr_left
      intro e _
      show (if e.1 = k then (k, s) else e).1 = e.1
      split
      · rename_i q; exact q.symm
      · rfl
    rw [this]; exact h
  · rename_i n
    rw [List.map_append]
    exact List.nodup_append.mpr ⟨h, by simp, fun a ha b hb => by rw [List.mem_singleton.mp hb]; exact fun q => n (by have q' : a = k := q; rw [← q']; exact ha)⟩
def getR (D : RLs) (k : KM.RK Str) : KM.OS := (D.find? fun e => decide (e.1 = k)).map (·.2)
theorem getR_mem {D : RLs} {k : KM.RK Str} {s : KM.Sc} (h : getR D k = some s) : (k, s) ∈ D := by
  unfold getR at h
  obtain ⟨e, he, rfl⟩ := Option.map_eq_some_iff.mp h
  have := List.find?_some he
  have h2 : e.1 = k := by simpa using this
  have := List.mem_of_find?_eq_some he
  rw [← h2]; exact this
theorem getR_of {D : RLs} {k : KM.RK Str} {s : KM.Sc} (nd : (D.map (·.1)).Nodup) (h : (k, s) ∈ D) : getR D k = some s := by
  unfold getR
  cases q : D.find? fun e => decide (e.1 = k) with
  | none => exact absurd (List.find?_eq_none.mp q _ h) (by simp)
  | some e =>
    have h2 : e.1 = k := by simpa using List.find?_some q
    have h3 := List.mem_of_find?_eq_some q
    have : e = (k, s) := by
      have h4 : (k, e.2) ∈ D := by rw [← h2]; exact h3
      have : ∀ D : RLs, (D.map (·.1)).Nodup → ∀ a b, (k, a) ∈ D → (k, b) ∈ D → a = b := by
        intro D
        induction D with
        | nil => intro _ _ _ z; cases z
        | cons e D ih =>
          intro nd a b ha hb
          have nd' := List.nodup_cons.mp nd
          rcases List.mem_cons.mp ha with ha | ha <;> rcases List.mem_cons.mp hb with hb | hb
          · rw [← ha] at hb; injection hb with _ h; exact h.symm
          · exact absurd (List.mem_map.mpr ⟨_, hb, by rw [← ha]⟩) nd'.1
          · exact absurd (List.mem_map.mpr ⟨_, ha, by rw [← hb]⟩) nd'.1
          · exact ih nd'.2 a b ha hb
      have h5 := this D nd _ _ h4 h
      rw [← h2, ← h5]
    rw [this]; rfl
theorem putR_mem {D : RLs} {k : KM.RK Str} {s : KM.Sc} : (k, s) ∈ putR D k s := by
  unfold putR
  split
  · rename_i h
    obtain ⟨e, he, q⟩ := List.mem_map.mp h
    exact List.mem_map.mpr ⟨e, he, if_pos q⟩
  · simp
theorem putR_other {D : RLs} {k : KM.RK Str} {s : KM.Sc} {e : KM.RK Str × KM.Sc} (n : e.1 ≠ k) : e ∈ putR D k s ↔ e ∈ D := by
  unfold putR
  split
  · rw [List.mem_map]
    constructor
    · rintro ⟨r, hr, q⟩
      by_cases z : r.1 = k
      · rw [if_pos z] at q; exact absurd (by rw [← q]) n
      · rw [if_neg z] at q; rw [← q]; exact hr
    · intro h; exact ⟨e, h, if_neg n⟩
  · rw [List.mem_append, List.mem_singleton]
    exact ⟨fun h => h.elim id fun q => absurd (by rw [q]) n, .inl⟩
theorem putR_key {D : RLs} {k : KM.RK Str} {s s' : KM.Sc} (nd : (D.map (·.1)).Nodup) (h : (k, s') ∈ putR D k s) : s' = s := by
  have a := getR_of (putR_nd nd) h
  have b := getR_of (putR_nd (s := s) nd) (putR_mem (D := D) (k := k) (s := s))
  rw [a] at b; injection b
theorem putR_cov {D L : RLs} {k : KM.RK Str} {s m : KM.Sc} (nd : (D.map (·.1)).Nodup) (c : KM.Cov D L) (hm : KM.mn (getR D k) (some s) = some m) : KM.Cov (putR D k m) (L ++ [(k, s)]) := by
  refine ⟨fun e he => ?_, fun e he => ?_⟩
  · by_cases q : e.1 = k
    · obtain ⟨e1, e2⟩ := e
      have q' : e1 = k := q
      subst q'
      have := putR_key nd he
      subst this
      rcases KM.mn_eq_or (getR D e1) (some s) with z | z
      · rw [hm] at z
        exact List.mem_append_left _ (c.1 _ (getR_mem (by rw [← z])))
      · rw [hm] at z; cases z; simp
    · exact List.mem_append_left _ (c.1 e ((putR_other q).mp he))
  · by_cases q : e.1 = k
    · refine ⟨m, by rw [q]; exact putR_mem, ?_⟩
      rcases List.mem_append.mp he with he | he
      · obtain ⟨m0, h1, h2⟩ := c.2 e he
        rw [q] at h1
        have h3 := KM.mn_le_left (getR D k) (some s)
        rw [getR_of nd h1, ← getR_of nd h1, hm, getR_of nd h1] at h3
        exact KM.leO_trans h3 h2
      · rw [List.mem_singleton] at he
        subst he
        have h3 := KM.mn_le_right (getR D k) (some s)
        rw [hm] at h3; exact h3
    · rcases List.mem_append.mp he with he | he
      · obtain ⟨m0, h1, h2⟩ := c.2 e he
        exact ⟨m0, (putR_other (e := (e.1, m0)) q).mpr h1, h2⟩
      · rw [List.mem_singleton] at he
        subst he; exact absurd rfl q
end K52

namespace K52
open PySem PySem.Spec PyProof.Rows L2
section
variable {P : Program} {w : World} {K : PySem.W.Frag} {mg : Str → Option Value} {base : Heap}
/-- a dict of routes at d, its keys among KS -/
structure RtD (C : Addr) (KS : List (KM.RK Str)) (H : Hp) (d : Addr) (L : RLs) : Prop where
  ex : ∃ D kvs, H d = some (.dT kvs) ∧ RtE C H D kvs ∧ (D.map (·.1)).Nodup ∧ (∀ k ∈ D.map (·.1), k ∈ KS) ∧ KM.Cov D L
theorem RtD.same {C : Addr} {KS : List (KM.RK Str)} {H H' : Hp} {d : Addr} {L : RLs} (s : Same H H') (h : RtD C KS H d L) : RtD C KS H' d L := by
  obtain ⟨D, kvs, h1, h2, h3⟩ := h
  exact ⟨D, kvs, s _ _ h1, h2.le (Same.le s), h3⟩
def spTakeR (C : Addr) : Sp := fun vs H Q _ => ∃ dF dR bv, ∃ (bef : KM.OS) (g : Nat) (KS : List (KM.RK Str)) (L L' : RLs), vs = [.ref dF, .ref dR, bv, .int (g : Nat)] ∧ OsV C H bef bv ∧ dF ≠ dR ∧ RtD C KS H dF L ∧ RtD C KS H dR L' ∧ KS.length < sizeLine ∧ (∀ e ∈ L', (⟨e.1.w, e.1.n, e.1.g + g⟩ : KM.RK Str) ∈ KS) ∧ ∀ H', But dF H H' → RtD C KS H' dF (L ++ KM.shiftR bef g L') → Q .non H'
theorem c_take_routes (T : Txt K mg) : Cal P w K mg base 7 "take_routes" (spTakeR (cS K)) := by
  have c_joined := c_joined (P := P) (w := w) (base := base) T
  have c_least_of := c_least_of (P := P) (w := w) (base := base) T
  refine cal_of T.d_take_routes sc_take_routes (fun _ _ _ _ _ _ us hl => match us, hl with | [_, _, _, _], _ => rfl) (fun vs H Q E h => ?_) (fun f cdv A outer s H vs Q E hr h => ?_)
  · obtain ⟨_, _, _, _, _, _, _, _, rfl, _⟩ := h; rfl
  obtain ⟨dF, dR, bv, bef, g, KS, L, L', rfl, hb, ne, hF, hR, hz, hKS, kk⟩ := h
  have nd := sc_take_routes.nd
  have hu := hu_of hr
  refine ⟨_, (pss_one (ps_lock (ps_for PassesOwn.never rfl (pi_keys (pv 1)) (pg_tup (by rfl) (pgs_cons (pg_name (i := 4) nd rfl (Or.inl rfl)) (pgs_cons (pg_name (i := 5) nd rfl (Or.inl rfl)) (pgs_cons (pg_name (i := 6) nd rfl (Or.inl rfl)) pgs_nil)))) (pss_cons (ps_set (i := 7) nd rfl (Or.inl rfl) (pe_c c_joined hr (by decide) rfl (pa_cons (pv 2) (pa_cons (pe_dget hu (pv 1) (pe_tup (pa_cons (pv 4) (pa_cons (pv 5) (pa_cons (pv 6) pa_nil)))) (fun _ _ => rfl)) pa_nil))))
  (pss_one (ps_if (pt_cmpR op_notN (pv 7) pe_non (nomark _)) (pss_cons (ps_set (i := 8) nd rfl (Or.inl rfl) (pe_tup (pa_cons (pv 4) (pa_cons (pv 5) (pa_cons (pe_op op_add (pv 6) (pv 3)) pa_nil)))))
  (pss_one (ps_dput hu (pv 0) (pv 8) (pe_c c_least_of hr (by decide) rfl (pa_cons (pe_lst (pa_cons (pe_dget1 hu (pv 0) (pv 8) ⟨rfl, rfl, rfl, rfl⟩) (pa_cons (pv 7) pa_nil))) pa_nil)) rfl))) pss_nil)))))), ?_⟩
  obtain ⟨Ds, kvs, hRr, eR, ndR, kR, cR⟩ := hR.ex
  obtain ⟨D0, kv0, hF0, eF, ndF, kF, cF⟩ := hF.ex
  refine ⟨dR, _, hRr, trivial, fun od => ⟨_, rfl, dR, od, rfl, .inr ⟨kvs, upd_same, ?_⟩⟩⟩
  refine for_it walk_keysT (fun i σ H' => (∃ p4 p5 p6 p7 p8, σ = [some (.ref dF), some (.ref dR), some bv, some (.int (g : Nat)), p4, p5, p6, p7, p8]) ∧ But dF (upd H dR (.frz od (.dT kvs))) H' ∧ RtD (cS K) KS H' dF (L ++ KM.shiftR bef g (Ds.take i)))
    ⟨⟨_, _, _, _, _, rfl⟩, But.refl _ _, ⟨D0, kv0, by rw [upd_ne ne]; exact hF0, eF.le (Le.upd hRr (fun z => z)), ndF, kF, by rw [List.take_zero]; show KM.Cov _ (L ++ []); rw [List.append_nil]; exact cF⟩⟩ (fun i σ H' _ p => p.2.1 _ _ ne.symm upd_same) (fun i y σ Ha Hb hi p z => ?_) (fun σ Ha p => ?_)
  · obtain ⟨rfl, ky, vv, q, hkv, rfl, hq⟩ := z
    obtain ⟨⟨p4, p5, p6, p7, p8, rfl⟩, bu, D, kvF, aF, aE, aN, aK, aC⟩ := p
    have hi' : i < Ds.length := by rw [eR.length]; exact hi
    obtain ⟨kv, hkv2, hk1, hk2⟩ := paired_at' eR (List.getElem?_eq_getElem hi')
    rw [hkv] at hkv2
    cases hkv2
    generalize hDi : Ds[i] = e at hk1 hk2
    have hDi2 : Ds[i]? = some e := by rw [List.getElem?_eq_getElem hi', hDi]
    obtain ⟨⟨w0, n0, g0⟩, sc⟩ := e
    have hk1' : ky = keyR ⟨w0, n0, g0⟩ := hk1
    subst hk1'
    have tk : Ds.take (i + 1) = Ds.take i ++ [(⟨w0, n0, g0⟩, sc)] := by rw [List.take_add_one, hDi2]; rfl
    refine ⟨q, _, rfl, SqT.of hq, rfl, _, _, rfl, _, _, rfl, _, _, rfl, rfl, ?_⟩
    obtain ⟨vr, ev, hvr⟩ := eR.val ndR (List.mem_of_getElem? hDi2)
    refine ⟨_, rfl, _, rfl, ?_⟩
    have hRx := bu _ _ ne.symm (upd_same (H := H) (a := dR) (o := .frz od (.dT kvs)))
    have lHb : Le H Hb := (Le.upd hRr (fun z => z)).trans (But.le bu (show (upd H dR (.frz od (.dT kvs))) dF = some (.dT kv0) by rw [upd_ne ne]; exact hF0) (fun z => z))
    refine ⟨_, rfl, _, rfl, _, rfl, by show 3 ≤ sizeLine; decide, fun t ht => ?_⟩
    have st := Same.upd (o := .tup [.str (wS w0), .str n0, .int (g0 : Nat)]) ht
    refine ⟨dR, vr, rfl, .inr ⟨kvs, keyR ⟨w0, n0, g0⟩, t, .inr ⟨od, st _ _ hRx⟩, rfl, upd_same, ev.symm⟩, ?_⟩
    refine ⟨bv, vr, bef, some sc, rfl, OsV.le (lHb.trans (Same.le st)) hb, OsV.le (s := some sc) (lHb.trans (Same.le st)) hvr, fun v H4 s4 hv => ?_⟩
    have sA := st.trans s4
    have buA := bu.trans (Same.but dF sA)
    have aF4 := sA _ _ aF
    have aE4 := aE.le (Same.le sA)
    cases hp : KM.pl bef (some sc) with
    | none =>
      rw [hp] at hv
      have hv' : v = .non := hv
      subst hv'
      have eN : KM.shiftR bef g (Ds.take (i + 1)) = KM.shiftR bef g (Ds.take i) := by
        rw [tk]; unfold KM.shiftR; rw [List.filterMap_append]; simp [hp]
      exact ⟨_, rfl, rfl, _, rfl, iF (by rfl) ⟨⟨_, _, _, _, _, rfl⟩, buA, D, kvF, aF4, aE4, aN, aK, by rw [eN]; exact aC⟩⟩
    | some s1 =>
      rw [hp] at hv
      have eN : KM.shiftR bef g (Ds.take (i + 1)) = KM.shiftR bef g (Ds.take i) ++ [(⟨w0, n0, g0 + g⟩, s1)] := by
        rw [tk]; unfold KM.shiftR; rw [List.filterMap_append]; simp [hp]
      have vn : v ≠ .non := by
        obtain ⟨_, _, _, e, _⟩ := (show ScV (cS K) H4 s1 v from hv)
        rw [e]; intro z; cases z
      refine ⟨_, rfl, rfl, _, rfl, iT (by simp [vn]) ?_⟩
      refine ⟨_, rfl, _, rfl, _, rfl, _, rfl, _, _, rfl, rfl, by show 3 ≤ sizeLine; decide, fun u hu => ?_⟩
      have eint : ((g0 : Nat) : Int) + ((g : Nat) : Int) = ((g0 + g : Nat) : Int) := by omega
      have su := Same.upd (o := .tup [.str (wS w0), .str n0, .int ((g0 : Nat) + (g : Nat) : Int)]) hu
      have aF5 := su _ _ aF4
      have aE5 := aE4.le (Same.le su)
      refine ⟨_, rfl, dF, rfl, .inr ⟨_, .inl aF5⟩, _, rfl, ?_⟩
      have hk3 : (upd H4 u (.tup [.str (wS w0), .str n0, .int ((g0 : Nat) + (g : Nat) : Int)])) u = some (.tup ((keyR ⟨w0, n0, g0 + g⟩).map kV)) := by
        rw [upd_same, eint]; rfl
      have hold : OsV (cS K) (upd H4 u (.tup [.str (wS w0), .str n0, .int ((g0 : Nat) + (g : Nat) : Int)])) (getR D ⟨w0, n0, g0 + g⟩) ((valV kvF (keyR ⟨w0, n0, g0 + g⟩)).getD .non) := by
        cases q : getR D ⟨w0, n0, g0 + g⟩ with
        | none =>
          have : (⟨w0, n0, g0 + g⟩ : KM.RK Str) ∉ D.map (·.1) := fun z => by
            obtain ⟨e, he, e2⟩ := List.mem_map.mp z
            have := getR_of (k := ⟨w0, n0, g0 + g⟩) (s := e.2) aN (by rw [← e2]; exact he)
            rw [q] at this; cases this
          rw [(aE5.none this).1]; rfl
        | some m =>
          obtain ⟨v3, e3, h3⟩ := aE5.val aN (getR_mem q)
          rw [e3]; exact h3
      refine ⟨_, .inr ⟨kvF, keyR ⟨w0, n0, g0 + g⟩, u, .inl aF5, rfl, hk3, rfl⟩, _, rfl, by show 2 ≤ sizeLine; decide, fun l hl => ?_⟩
      have sl := Same.upd (o := .lst [(valV kvF (keyR ⟨w0, n0, g0 + g⟩)).getD .non, v]) hl
      refine ⟨l, _, [getR D ⟨w0, n0, g0 + g⟩, some s1], rfl, upd_same, .cons (OsV.le (Same.le sl) hold) (.cons (OsV.le (s := some s1) (Same.le (su.trans sl)) hv) .nil), fun v2 H6 s6 hv2 => ?_⟩
      obtain ⟨m, hm⟩ : ∃ m, KM.mn (getR D ⟨w0, n0, g0 + g⟩) (some s1) = some m := by
        rcases KM.mn_eq_or (getR D ⟨w0, n0, g0 + g⟩) (some s1) with z | z
        · cases q : getR D ⟨w0, n0, g0 + g⟩ with
          | none => exact ⟨s1, rfl⟩
          | some m => rw [q] at z; exact ⟨m, z⟩
        · exact ⟨s1, z⟩
      have hm2 : mnL [getR D ⟨w0, n0, g0 + g⟩, some s1] = some m := by
        rw [← hm]; simp [mnL, KM.mn_none, KM.mn]
      rw [hm2] at hv2
      have sB := su.trans (sl.trans s6)
      have aF6 := sB _ _ aF4
      have aE6 := aE4.le (Same.le sB)
      have hk6 := (sl.trans s6) _ _ hk3
      have buB := buA.trans (Same.but dF sB)
      have lD : D.length ≤ KS.length := by
        have := len_sub aN aK
        rw [List.length_map] at this; exact this
      have lk := aE6.length
      refine ⟨_, rfl, _, rfl, dF, _, rfl, DPut.t aF6 hk6 (by omega), ⟨_, _, _, _, _, rfl⟩, buB.trans But.upd, putR D ⟨w0, n0, g0 + g⟩ m, _, upd_same, RtE.le (Le.upd aF6 (fun z => z)) (aE6.put hv2), putR_nd aN, fun k hk => ?_, ?_⟩
      · by_cases z : k = ⟨w0, n0, g0 + g⟩
        · rw [z]; exact hKS _ (cR.1 _ (List.mem_of_getElem? hDi2))
        · obtain ⟨e, he, e2⟩ := List.mem_map.mp hk
          exact aK k (List.mem_map.mpr ⟨e, (putR_other (by rw [e2]; exact z)).mp he, e2⟩)

      rw [eN, ← List.append_assoc]
      exact putR_cov aN aC hm
  · obtain ⟨_, bu, D, kvF, aF, aE, aN, aK, aC⟩ := p
    have hRx := bu _ _ ne.symm (upd_same (H := H) (a := dR) (o := .frz od (.dT kvs)))
    have hl : kvs.length = Ds.length := eR.length.symm
    rw [hl, List.take_length] at aC
    refine ⟨hRx, kk _ (fun b o n e => ?_) ⟨D, kvF, by rw [upd_ne ne]; exact aF, aE.le (Le.upd hRx (fun z => z)), aN, aK, KM.Cov.trans aC (KM.Cov.app (KM.Cov.refl L) (KM.Cov.shift bef g cR))⟩⟩
    by_cases q : b = dR
    · subst q; rw [hRr] at e; cases e; exact upd_same
    · rw [upd_ne q]; exact bu _ _ n (by rw [upd_ne q]; exact e)
end
end K52

namespace K52
open PySem PySem.Spec PyProof.Rows L2
/-! ### a display with one key, a tuple -/
def tDisp1T (tk tv : TE) : TE := fun σ H Q => ∀ p, H p = none → tk σ (upd H p (.dT [])) fun x H1 => tv σ H1 fun y H2 => ∃ (b : Addr) (k : List Key), x = .ref b ∧ H2 p = some (.dT []) ∧ H2 b = some (.tup (k.map kV)) ∧ Q (.ref p) (upd H2 p (.dT [(k, y)]))
theorem pe_disp1T {X : Cx} {pos : Pos} {k v : Expr} {tk tv : TE} (hu : X.A.units + 1 < cLine) (hk : PE X k tk) (hv : PE X v tv) : PE X (.Dict [some k] [v] pos) (tDisp1T tk tv) := by
  refine ⟨fun pins s σ H Q I q => ?_⟩
  have hn := I.hok.fresh (Nat.le_refl s.heap.objs.size)
  have I1 := I.laid (a := s.heap.objs.size) (o := .dT []) (h' := s.heap.push { cls := .type "dict", data := .dict #[] }) (t' := s.toks) (fun _ _ q => Heap.get?_push_of_some _ q) (Nat.le_refl _) (dt_empty s.heap I.big)
  rw [arm_eval_Dict, zip_pairTrees [some k] [v] X.env pos rfl rfl, dictDisplay_pairs _ (by intro z; cases z) (by show 1 < 17; decide)]
  refine wpAny_bind (wpAny_standAt (wpAny_bind ?_))
  unfold subDict
  refine wpAny_bind (wpAny_alloc ?_)
  refine wpAny_bind (wpAny_holding ?_)
  rw [if_pos (by show 1 ≤ 15; decide)]
  refine wpAny_bind (pairTrees_cons_walk (thn (hk.run pins _ σ _ _ I1 (q _ hn)) fun u s1 ⟨x, H1, I2, rx, q1⟩ => thn (hv.run pins s1 σ H1 _ I2 q1) fun w2 s2 ⟨y, H2, I3, ry, q2⟩ => pairTrees_nil_walk ?_))
  obtain ⟨b, kk, rfl, hp, hb, q3⟩ := q2
  cases rx
  refine wpAny_holding ?_
  obtain ⟨z, hd, xs, rel, dd⟩ := dt_of I3.hok hp
  cases rel
  rw [List.forIn_cons]
  refine wpAny_bind (wpAny_bind (wpAny_bind (wpAny_dictSet_heap (hsz := Nat.zero_le _) (by show X.A.units < cLine; omega) (key_of I3.hok hb) dd fun h' dd' hs => ?_)))
  refine wpAny_pure ?_
  dsimp only
  rw [List.forIn_nil]
  refine wpAny_pure (wpAny_pure (wpAny_pure (wpAny_pure ⟨.ref s.heap.objs.size, _, ?_, rfl, q3⟩)))
  obtain ⟨q, es, ep, hq, h2, h3, h4, _, h5⟩ := dd'
  refine d_write I3 (by rw [hp]; exact True.intro) hs ⟨q, hq⟩ ⟨by show 1 ≤ sizeLine; decide, hd, _, KT.keeps (KT.put (.nil : KT H2 [] []) kk hb ry) fun c ys ec => ?_, q, es, ep, hq, h2, h3, h4, h5⟩
  rw [upd_ne (ne_of ec hp (fun z => nomatch z))]
  exact ec
end K52

namespace K52
open PySem PySem.Spec PyProof.Rows L2
/-! ### the keys that routes may have -/
def allK (nm : List Str) (B : Nat) : List (KM.RK Str) := [KM.RW.call, .enter, .push].flatMap fun w => nm.flatMap fun n => (List.range (B + 1)).map fun g => ⟨w, n, g⟩
theorem mem_allK {nm : List Str} {B : Nat} {k : KM.RK Str} : k ∈ allK nm B ↔ k.n ∈ nm ∧ k.g ≤ B := by
  unfold allK
  rw [List.mem_flatMap]
  constructor
  · rintro ⟨w, _, h⟩
    obtain ⟨n, hn, h⟩ := List.mem_flatMap.mp h
    obtain ⟨g, hg, rfl⟩ := List.mem_map.mp h
    exact ⟨hn, by have := List.mem_range.mp hg; show g ≤ B; omega⟩
  · rintro ⟨h1, h2⟩
    obtain ⟨w, n, g⟩ := k
    refine ⟨w, by cases w <;> simp, List.mem_flatMap.mpr ⟨n, h1, List.mem_map.mpr ⟨g, List.mem_range.mpr (by have : g ≤ B := h2; omega), rfl⟩⟩⟩
theorem allK_len {B : Nat} : ∀ nm : List Str, (nm.flatMap fun n => (List.range (B + 1)).map fun g => (⟨KM.RW.call, n, g⟩ : KM.RK Str)).length = nm.length * (B + 1) ∧ (nm.flatMap fun n => (List.range (B + 1)).map fun g => (⟨KM.RW.enter, n, g⟩ : KM.RK Str)).length = nm.length * (B + 1) ∧ (nm.flatMap fun n => (List.range (B + 1)).map fun g => (⟨KM.RW.push, n, g⟩ : KM.RK Str)).length = nm.length * (B + 1)
  | [] => ⟨by simp, by simp, by simp⟩
  | a :: l => by
    have := allK_len (B := B) l
    simp only [List.flatMap_cons, List.length_append, List.length_map, List.length_range, List.length_cons, this.1, this.2.1, this.2.2, Nat.succ_mul]
    omega
theorem allK_small {nm : List Str} (h : nm.length ≤ 200) : (allK nm 7000).length < sizeLine := by
  have e : (allK nm 7000).length = nm.length * (7000 + 1) + (nm.length * (7000 + 1) + nm.length * (7000 + 1)) := by
    have := allK_len (B := 7000) nm
    unfold allK
    simp only [List.flatMap_cons, List.flatMap_nil, List.length_append, List.length_nil, this.1, this.2.1, this.2.2]
    omega
  rw [e, show sizeLine = 16777216 from sizeLine_eq]
  omega
theorem rtl_gain {z : Str} {wt : Str → Nat} {F : Str → KM.E2} {A : Str → Bool × KM.E2} {R : Str → RLs} {B : Nat} (hw : ∀ c, wt c ≤ 10) : ∀ b : KM.Bd Str, (∀ c ∈ b.pushes, ∀ e ∈ R c, e.1.g ≤ B) → ∀ e ∈ KM.rtl z wt F A R b, e.1.g ≤ B + 10 * bdDep b
  | .leaf _, _, e, h => by cases h
  | .call f, _, e, h => by rw [List.mem_singleton.mp h]; exact Nat.zero_le _
  | .test y n, hR, e, h => by
    have d1 : bdDep (.test y n) = max (bdDep y) (bdDep n) + 1 := rfl
    rcases List.mem_append.mp h with h | h
    · obtain ⟨e', he, s, _, rfl⟩ := KM.mem_shiftR.mp h
      have := rtl_gain hw y (fun c hc => hR c (by simp [KM.Bd.pushes, hc])) e' he
      show e'.1.g + 0 ≤ _
      omega
    · obtain ⟨e', he, s, _, rfl⟩ := KM.mem_shiftR.mp h
      have := rtl_gain hw n (fun c hc => hR c (by simp [KM.Bd.pushes, hc])) e' he
      show e'.1.g + 0 ≤ _
      omega
  | .push c b, hR, e, h => by
    have d1 : bdDep (.push c b) = bdDep b + 1 := rfl
    have hc := hw c
    rcases List.mem_append.mp h with h | h
    · rcases List.mem_append.mp h with h | h
      · rw [List.mem_singleton.mp h]
        show wt c ≤ _
        omega
      · obtain ⟨e', he, s, _, rfl⟩ := KM.mem_shiftR.mp h
        have := rtl_gain hw b (fun d hd => hR d (by simp [KM.Bd.pushes, hd])) e' he
        show e'.1.g + wt c ≤ _
        omega
    · rcases List.mem_append.mp h with h | h
      · obtain ⟨e', he, s, _, rfl⟩ := KM.mem_shiftR.mp h
        rw [List.mem_singleton.mp he]
        show 0 + 0 ≤ _
        omega
      · obtain ⟨e', he, s, _, rfl⟩ := KM.mem_shiftR.mp h
        have := hR c (by simp [KM.Bd.pushes]) e' he
        show e'.1.g + 0 ≤ _
        omega
theorem wtF_le {ac : Str → Nat} {by_ : Str} (h : ∀ c, ac c ≤ 10) (c : Str) : wtF ac by_ c ≤ 10 := by
  unfold wtF
  split
  · decide
  · exact h c
/-! ### dicts of dicts of routes -/
def RtsD (C : Addr) (KS : List (KM.RK Str)) (H : Hp) (d : Addr) (names : List Str) (G : Str → RLs) : Prop := ∃ kvs, H d = some (.dK kvs) ∧ DRel names (fun c v => ∃ p, v = .ref p ∧ p ≠ d ∧ RtD C KS H p (G c)) kvs
theorem RtsD.same {C : Addr} {KS : List (KM.RK Str)} {H H' : Hp} {d : Addr} {names : List Str} {G : Str → RLs} (s : Same H H') (h : RtsD C KS H d names G) : RtsD C KS H' d names G := by
  obtain ⟨k, h1, h2⟩ := h
  exact ⟨k, s _ _ h1, h2.imp fun c v _ ⟨p, e, n, q⟩ => ⟨p, e, n, q.same s⟩⟩
structure EndA (C : Addr) (fl cl : List Str) (F : Str → KM.E2) (A : Str → Bool × KM.E2) (H : Hp) (p : Addr) : Prop where
  ex : ∃ bF bA, H p = some (.tup [.ref bF, .ref bA]) ∧ FnD (E2V C) H bF fl F ∧ ArD (E2V C) H bA cl A
theorem EndA.same {C : Addr} {fl cl : List Str} {F : Str → KM.E2} {A : Str → Bool × KM.E2} {H H' : Hp} {p : Addr} (s : Same H H') (h : EndA C fl cl F A H p) : EndA C fl cl F A H' p := by
  obtain ⟨bF, bA, h1, h2, h3⟩ := h
  exact ⟨bF, bA, s _ _ h1, h2.same rle_e2 s, h3.same rle_e2 s⟩
theorem RtD.keys {C : Addr} {KS : List (KM.RK Str)} {H : Hp} {d : Addr} {L : RLs} (h : RtD C KS H d L) : ∀ e ∈ L, e.1 ∈ KS := fun e he => by
  obtain ⟨D, kvs, h1, h2, h3, h4, h5⟩ := h
  obtain ⟨m, hm, _⟩ := h5.2 e he
  exact h4 _ (List.mem_map.mpr ⟨_, hm, rfl⟩)
theorem RtD.put0 {C : Addr} {KS : List (KM.RK Str)} {H : Hp} {F : Addr} {k : KM.RK Str} {sc : KM.Sc} {v : V} (hv : ScV C H sc v) (hk : k ∈ KS) (hF : H F = some (.dT [])) : RtD C KS (upd H F (.dT (putK [] (keyR k) v))) F [(k, sc)] :=
  ⟨[(k, sc)], _, upd_same, by
    have : RtE C H (putR [] k sc) (putK [] (keyR k) v) := RtE.put .nil hv
    exact RtE.le (Le.upd hF (fun z => z)) this, by simp, fun q hq => by rw [List.mem_singleton.mp hq]; exact hk, KM.Cov.refl _⟩
theorem RtD.nil {C : Addr} {KS : List (KM.RK Str)} {H : Hp} {F : Addr} (hF : H F = some (.dT [])) : RtD C KS H F [] := ⟨[], [], hF, .nil, by simp, (fun _ h => by cases h), KM.Cov.refl _⟩
theorem takeR_of {C : Addr} {KS : List (KM.RK Str)} {H : Hp} {F S : Addr} {bef : KM.OS} {bv : V} {g : Nat} {L L' : RLs} {Q : VK} (ne : F ≠ S) (hb : OsV C H bef bv) (hF : RtD C KS H F L) (hS : RtD C KS H S L') (hz : KS.length < sizeLine)
    (hk : ∀ e ∈ L', (⟨e.1.w, e.1.n, e.1.g + g⟩ : KM.RK Str) ∈ KS) (k : ∀ H', But F H H' → RtD C KS H' F (L ++ KM.shiftR bef g L') → Q .non H') : spTakeR C [.ref F, .ref S, bv, .int (g : Nat)] H Q E0 :=
  ⟨F, S, bv, bef, g, KS, L, L', rfl, hb, ne, hF, hS, hz, hk, k⟩
end K52

namespace K52
open PySem PySem.Spec PyProof.Rows L2
section
variable {P : Program} {w : World} {K : PySem.W.Frag} {mg : Str → Option Value} {base : Heap}
abbrev KSn (nm : List Str) : List (KM.RK Str) := allK nm 7000
def spRtIn (C : Addr) (n : Nat) : Sp := fun vs H Q _ => ∃ v pC dT by_ af ac sl b fl cl F A names nm, ∃ G : Str → RLs, ∃ B : Nat, vs = [v, .ref pC, .ref dT, .str by_] ∧ BdV af ac sl H b v ∧ bdDep b ≤ n ∧ n ≤ 20 ∧ EndA C fl cl F A H pC ∧ RtsD C (KSn nm) H dT names G ∧
  (∀ g ∈ b.calls, g ∈ fl ∧ g ∈ nm) ∧ (∀ c ∈ b.pushes, c ∈ cl ∧ c ∈ names ∧ c ∈ nm) ∧ (("" : Str) ∈ nm) ∧ nm.length ≤ 200 ∧ (∀ c, ac c ≤ 10) ∧ (∀ c ∈ b.pushes, ∀ e ∈ G c, e.1.g ≤ B) ∧ B + 10 * bdDep b ≤ 7000 ∧
  ∀ H' q, Same H H' → H q = none → RtD C (KSn nm) H' q (KM.rtl "" (wtF ac by_) F A G b) → Q (.ref q) H'
theorem tcall4c {sp : Sp} {x y z u : V} {σ : L2.St} {H : Hp} {Q : VK} (h : sp [x, y, z, u] H Q E0) : tCons (tC u) tNil σ H (fun xs H2 => (fun xs H2 => (fun xs H2 => (fun vs H1 => sp (vs ++ []) H1 Q E0) (x :: xs) H2) (y :: xs) H2) (z :: xs) H2) := h
theorem tcall4 {sp : Sp} {x y z u : V} {σ : L2.St} {H : Hp} {Q : VK} (h : sp [x, y, z, u] H Q E0) : tNil σ H (fun xs H2 => (fun xs H2 => (fun xs H2 => (fun xs H2 => (fun vs H1 => sp (vs ++ []) H1 Q E0) (x :: xs) H2) (y :: xs) H2) (z :: xs) H2) (u :: xs) H2) := h
theorem rtin_step (T : Txt K mg) {n k : Nat} (hk : 27 ≤ k) (c_routes_in : Cal P w K mg base k "routes_in" (spRtIn (cS K) n)) : Cal P w K mg base (k + 1) "routes_in" (spRtIn (cS K) (n + 1)) := by
  have c_take_routes := c_take_routes (P := P) (w := w) (base := base) T
  have c_weight := c_weight (P := P) (w := w) (base := base) T
  have c_joined := c_joined (P := P) (w := w) (base := base) T
  have c_entered_by := c_entered_by (P := P) (w := w) (base := base) T
  have c_least_end := c_least_end (P := P) (w := w) (base := base) T 20
  have mi := m_init (P := P) (w := w) (base := base) T
  obtain ⟨fdi, psi, Fi, bi⟩ := mi.ex
  obtain ⟨pn, gn, fdn, Fn, bn, cmn⟩ := m_none (P := P) (w := w) (base := base) T
  refine cal_of T.d_routes_in sc_routes_in (fun _ _ _ _ _ _ us hl => match us, hl with | [_, _, _, _], _ => rfl) (fun vs H Q E h => ?_) (fun f cdv A outer s H vs Q E hr h => ?_)
  · obtain ⟨_, _, _, _, _, _, _, _, _, _, _, _, _, _, _, _, rfl, _⟩ := h; rfl
  obtain ⟨v, pC, dT', by_, af, ac, sl, b, fl, cl, F, Ar, names, nm, G, B, rfl, hb, hn, hn20, hC, hG, hcf, hcp, hnm, hz, hac, hB, hB7, kk⟩ := h
  have nd := sc_routes_in.nd
  have hu := hu_of hr
  refine ⟨_, (pss_cons (ps_par3 (i := 4) (j := 5) (l := 6) (by rfl) nd rfl rfl rfl (by decide) (by decide) (by decide) rfl rfl rfl (pa_cons (pe_ix ix_tup (pv 0) pe_int (fun _ _ => rfl)) (pa_cons (pe_make T.mkS Fi (hr.mono (by omega)) rfl T.g_Script bi .nil pass0 (pa_cons pe_int (pa_cons (pe_tup pa_nil) pa_nil))) (pa_cons pe_dnewT pa_nil))) (by rfl))
  (pss_cons (ps_if (pt_cmpR op_eq (pv 4) pe_str (nomark _)) (pss_one (ps_dput hu (pv 6) (pe_tup (pa_cons pe_str (pa_cons (pe_ix ix_tup (pv 0) pe_int (fun _ _ => rfl)) (pa_cons pe_int pa_nil)))) (pv 5) rfl)) pss_nil)
  (pss_cons (ps_if (pt_cmpR op_eq (pv 4) pe_str (nomark _)) (pss_cons (ps_expr (pe_c c_take_routes hr (by omega) rfl (pa_cons (pv 6) (pa_cons (pe_c c_routes_in hr (by omega) rfl (pa_cons (pe_ix ix_tup (pv 0) pe_int (fun _ _ => rfl)) (pa_cons (pv 1) (pa_cons (pv 2) (pa_cons (pv 3) pa_nil))))) (pa_cons (pe_make T.mkS Fi (hr.mono (by omega)) rfl T.g_Script bi .nil pass0 (pa_cons pe_int (pa_cons (pe_tup (pa_cons pe_int pa_nil)) pa_nil))) (pa_cons pe_int pa_nil))))))
  (pss_one (ps_expr (pe_c c_take_routes hr (by omega) rfl (pa_cons (pv 6) (pa_cons (pe_c c_routes_in hr (by omega) rfl (pa_cons (pe_ix ix_tup (pv 0) pe_int (fun _ _ => rfl)) (pa_cons (pv 1) (pa_cons (pv 2) (pa_cons (pv 3) pa_nil))))) (pa_cons (pe_make T.mkS Fi (hr.mono (by omega)) rfl T.g_Script bi .nil pass0 (pa_cons pe_int (pa_cons (pe_tup (pa_cons pe_int pa_nil)) pa_nil))) (pa_cons pe_int pa_nil)))))))) pss_nil)
  (pss_cons (ps_if (pt_cmpR op_eq (pv 4) pe_str (nomark _)) (pss_cons (ps_set (i := 7) nd rfl (Or.inl rfl) (pe_c c_weight hr (by omega) rfl (pa_cons (pv 0) (pa_cons (pv 3) pa_nil))))
  (pss_cons (ps_dput hu (pv 6) (pe_tup (pa_cons pe_str (pa_cons pe_str (pa_cons (pv 7) pa_nil)))) (pv 5) rfl)
  (pss_cons (ps_expr (pe_c c_take_routes hr (by omega) rfl (pa_cons (pv 6) (pa_cons (pe_c c_routes_in hr (by omega) rfl (pa_cons (pe_ix ix_tup (pv 0) pe_int (fun _ _ => rfl)) (pa_cons (pv 1) (pa_cons (pv 2) (pa_cons (pv 3) pa_nil))))) (pa_cons (pv 5) (pa_cons (pv 7) pa_nil))))))
  (pss_cons (ps_asg (pv 1) (pg_tup (by rfl) (pgs_cons (pg_name (i := 8) nd rfl (Or.inl rfl)) (pgs_cons (pg_name (i := 9) nd rfl (Or.inl rfl)) pgs_nil))))
  (pss_cons (ps_set (i := 10) nd rfl (Or.inl rfl) (pe_c c_least_end hr (by omega) rfl (pa_cons (pe_ix ix_tup (pv 0) pe_int (fun _ _ => rfl)) (pa_cons (pv 8) (pa_cons (pv 9) pa_nil)))))
  (pss_cons (ps_set (i := 11) nd rfl (Or.inl rfl) (pe_c c_joined hr (by omega) rfl (pa_cons (pe_c c_joined hr (by omega) rfl (pa_cons (pv 5) (pa_cons (pe_c c_entered_by hr (by omega) rfl (pa_cons (pe_ix ix_tup (pe_dget hu (pv 9) (pe_ix ix_tup (pv 0) pe_int (fun _ _ => rfl)) (fun _ _ => rfl)) pe_int (fun _ _ => rfl)) (pa_cons (pv 10) pa_nil))) pa_nil))) (pa_cons (pv 5) pa_nil))))
  (pss_cons (ps_expr (pe_c c_take_routes hr (by omega) rfl (pa_cons (pv 6) (pa_cons (pe_disp1T hu (pe_tup (pa_cons pe_str (pa_cons (pe_ix ix_tup (pv 0) pe_int (fun _ _ => rfl)) (pa_cons pe_int pa_nil)))) (pe_cmeth0 (pe_glob (v := .ref _) rfl T.g_Script rfl) T.crS cmn Fn bn (hr.mono (by omega)) pass0)) (pa_cons (pv 11) (pa_cons pe_int pa_nil))))))
  (pss_one (ps_expr (pe_c c_take_routes hr (by omega) rfl (pa_cons (pv 6) (pa_cons (pe_dget hu (pv 2) (pe_ix ix_tup (pv 0) pe_int (fun _ _ => rfl)) (fun _ _ => rfl)) (pa_cons (pv 11) (pa_cons pe_int pa_nil)))))))))))))) pss_nil)
  (pss_one (ps_ret (pv 6))))))), ?_⟩
  have hwt := wtF_le (by_ := by_) hac
  have hKz := allK_small hz
  cases hb with
  | @ret p x hp ha =>
    refine ⟨_, rfl, p, _, _, _, rfl, rfl, SqT.of hp, rfl, ?_⟩
    refine tcons_of (mk_bits0 (n := 1) (by decide) fun o H1 s1 ho => fun F0 hF => ⟨_, _, _, rfl, ?_⟩)
    refine ⟨_, rfl, rfl, _, rfl, dF (by decide) ?_⟩
    refine ⟨_, rfl, rfl, _, rfl, dF (by decide) ?_⟩
    refine ⟨_, rfl, rfl, _, rfl, dF (by decide) ?_⟩
    exact ⟨_, rfl, kk _ F0 (s1.trans (Same.upd hF)) (s1.free hF) (RtD.nil upd_same)⟩
  | @rai p x hp ha =>
    refine ⟨_, rfl, p, _, _, _, rfl, rfl, SqT.of hp, rfl, ?_⟩
    refine tcons_of (mk_bits0 (n := 1) (by decide) fun o H1 s1 ho => fun F0 hF => ⟨_, _, _, rfl, ?_⟩)
    refine ⟨_, rfl, rfl, _, rfl, dF (by decide) ?_⟩
    refine ⟨_, rfl, rfl, _, rfl, dF (by decide) ?_⟩
    refine ⟨_, rfl, rfl, _, rfl, dF (by decide) ?_⟩
    exact ⟨_, rfl, kk _ F0 (s1.trans (Same.upd hF)) (s1.free hF) (RtD.nil upd_same)⟩
  | @ask p nm' q m n1 n2 hp ha =>
    refine ⟨_, rfl, p, _, _, _, rfl, rfl, SqT.of hp, rfl, ?_⟩
    refine tcons_of (mk_bits0 (n := 1) (by decide) fun o H1 s1 ho => fun F0 hF => ⟨_, _, _, rfl, ?_⟩)
    refine ⟨_, rfl, rfl, _, rfl, dF (by decide) ?_⟩
    refine ⟨_, rfl, rfl, _, rfl, dF (by decide) ?_⟩
    refine ⟨_, rfl, rfl, _, rfl, dF (by decide) ?_⟩
    exact ⟨_, rfl, kk _ F0 (s1.trans (Same.upd hF)) (s1.free hF) (RtD.nil upd_same)⟩
  | @call p g q n1 n2 hp ha =>
    refine ⟨_, rfl, p, _, _, _, rfl, rfl, SqT.of hp, rfl, ?_⟩
    refine tcons_of (mk_bits0 (n := 1) (by decide) fun o H1 s1 ho => fun F0 hF => ⟨_, _, _, rfl, ?_⟩)
    have s2 := s1.trans (Same.upd (o := .dT []) hF)
    refine ⟨_, rfl, rfl, _, rfl, dT (by decide) ?_⟩
    refine ⟨_, rfl, _, rfl, _, rfl, p, _, _, _, rfl, rfl, SqT.of (s2 _ _ hp), rfl, by show 3 ≤ sizeLine; decide, fun t ht => ?_⟩
    have st := Same.upd (o := .tup [.str "call", .str g, .int 0]) ht
    have hF3 := st _ _ (upd_same (H := H1) (a := F0) (o := .dT []))
    refine ⟨F0, _, rfl, DPut.t (k := keyR ⟨.call, g, 0⟩) hF3 upd_same (by show 0 < sizeLine; decide), ?_⟩
    refine ⟨_, rfl, rfl, _, rfl, dF (by decide) ?_⟩
    refine ⟨_, rfl, rfl, _, rfl, dF (by decide) ?_⟩
    exact ⟨_, rfl, kk _ F0 (Same.put (s2.trans st) (s1.free hF)) (s1.free hF) (RtD.put0 (ScV.le (Same.le ((Same.upd hF).trans st)) ho) (mem_allK.mpr ⟨(hcf g (by simp [KM.Bd.calls])).2, Nat.zero_le _⟩) hF3)⟩
  | @test p nm' q m y z b1 b2 n1 n2 hp ha h1 h2 =>
    have hn' : max (bdDep b1) (bdDep b2) + 1 ≤ n + 1 := hn
    have hB7' : B + 10 * (max (bdDep b1) (bdDep b2) + 1) ≤ 7000 := hB7
    refine ⟨_, rfl, p, _, _, _, rfl, rfl, SqT.of hp, rfl, ?_⟩
    refine tcons_of (mk_bits0 (n := 1) (by decide) fun o H1 s1 ho => fun F0 hF => ⟨_, _, _, rfl, ?_⟩)
    have s2 := s1.trans (Same.upd (o := .dT []) hF)
    have t2 : RtD (cS K) (KSn nm) (upd H1 F0 (.dT [])) F0 [] := RtD.nil upd_same
    have hF0 := s1.free hF
    generalize upd H1 F0 (.dT []) = H2 at s2 t2
    refine ⟨_, rfl, rfl, _, rfl, dF (by decide) ?_⟩
    refine ⟨_, rfl, rfl, _, rfl, dT (by decide) ?_⟩
    refine ⟨_, rfl, _, rfl, p, _, _, _, rfl, rfl, SqT.of (s2 _ _ hp), rfl, _, rfl, _, rfl, _, rfl, y, pC, dT', by_, af, ac, sl, b1, fl, cl, F, Ar, names, nm, G, B, rfl, h1.le (Same.le s2), by omega, by omega, hC.same s2, hG.same s2, fun g hg => hcf g (by simp [KM.Bd.calls, hg]), fun g hg => hcp g (by simp [KM.Bd.pushes, hg]), hnm, hz, hac, fun c hc => hB c (by simp [KM.Bd.pushes, hc]), by omega, fun H3 q3 s3 hq3 t3 => ?_⟩
    have ne1 : F0 ≠ q3 := by
      obtain ⟨_, _, e, _⟩ := t2.ex
      exact ne_of_none e hq3
    have s23 := s2.trans s3
    refine tcons_of (mk_bits1 true fun o1 H4 s4 ho1 => ?_)
    refine tcall4c (takeR_of (g := 0) (bef := KM.bitS true) ne1 ho1 (t2.same (s3.trans s4)) (t3.same s4) hKz (fun e he => t3.keys e he) fun H5 bu t5 => ?_)
    have s5 : Same H H5 := But.same (s23.trans s4) hF0 bu
    refine ⟨_, rfl, _, rfl, p, _, _, _, rfl, rfl, SqT.of (s5 _ _ hp), rfl, _, rfl, _, rfl, _, rfl, z, pC, dT', by_, af, ac, sl, b2, fl, cl, F, Ar, names, nm, G, B, rfl, h2.le (Same.le s5), by omega, by omega, hC.same s5, hG.same s5, fun g hg => hcf g (by simp [KM.Bd.calls, hg]), fun g hg => hcp g (by simp [KM.Bd.pushes, hg]), hnm, hz, hac, fun c hc => hB c (by simp [KM.Bd.pushes, hc]), by omega, fun H6 q6 s6 hq6 t6 => ?_⟩
    have ne2 : F0 ≠ q6 := by
      obtain ⟨_, _, e, _⟩ := t5.ex
      exact ne_of_none e hq6
    refine tcons_of (mk_bits1 false fun o2 H7 s7 ho2 => ?_)
    refine tcall4c (takeR_of (g := 0) (bef := KM.bitS false) ne2 ho2 (t5.same (s6.trans s7)) (t6.same s7) hKz (fun e he => t6.keys e he) fun H8 bu8 t8 => ?_)
    have s8 : Same H H8 := But.same ((s5.trans s6).trans s7) hF0 bu8
    refine ⟨_, rfl, rfl, _, rfl, dF (by decide) ?_⟩
    exact ⟨_, rfl, kk _ F0 s8 hF0 t8⟩
  | @push p c q y b1 n1 n2 hp ha h1 =>
    have hn' : bdDep b1 + 1 ≤ n + 1 := hn
    have hB7' : B + 10 * (bdDep b1 + 1) ≤ 7000 := hB7
    have hbp : BdV af ac sl H (.push c b1) (.ref p) := .push n1 n2 hp ha h1
    refine ⟨_, rfl, p, _, _, _, rfl, rfl, SqT.of hp, rfl, ?_⟩
    refine tcons_of (mk_bits0 (n := 1) (by decide) fun o H1 s1 ho => fun F0 hF => ⟨_, _, _, rfl, ?_⟩)
    have s2 := s1.trans (Same.upd (o := .dT []) hF)
    have hF2 : (upd H1 F0 (.dT [])) F0 = some (.dT []) := upd_same
    have hF0 := s1.free hF
    have ho2 := ScV.le (Same.le (Same.upd (o := .dT []) hF)) ho
    generalize upd H1 F0 (.dT []) = H2 at s2 hF2 ho2
    refine ⟨_, rfl, rfl, _, rfl, dF (by decide) ?_⟩
    refine ⟨_, rfl, rfl, _, rfl, dF (by decide) ?_⟩
    refine ⟨_, rfl, rfl, _, rfl, dT (by decide) ?_⟩
    refine ⟨_, rfl, _, rfl, .ref p, af, ac, sl, c, b1, by_, rfl, hbp.le (Same.le s2), ?_⟩
    refine ⟨_, rfl, _, rfl, _, rfl, by show 3 ≤ sizeLine; decide, fun t ht => ?_⟩
    have st := Same.upd (o := .tup [.str "push", .str "", .int (wtF ac by_ c : Nat)]) ht
    have hF3 := st _ _ hF2
    refine ⟨F0, _, rfl, DPut.t (k := keyR ⟨.push, "", wtF ac by_ c⟩) hF3 upd_same (by show 0 < sizeLine; decide), ?_⟩
    have t3 := RtD.put0 (C := cS K) (KS := KSn nm) (k := ⟨.push, "", wtF ac by_ c⟩) (ScV.le (Same.le st) ho2) (mem_allK.mpr ⟨hnm, by have := hwt c; show wtF ac by_ c ≤ 7000; omega⟩) hF3
    have s3 := Same.put (o := .dT (putK [] (keyR ⟨.push, "", wtF ac by_ c⟩) o)) (s2.trans st) hF0
    have ho3 := ScV.le (Le.upd (o := .dT (putK [] (keyR ⟨.push, "", wtF ac by_ c⟩) o)) hF3 (fun z => z)) (ScV.le (Same.le st) ho2)
    generalize upd (upd H2 t (.tup [.str "push", .str "", .int (wtF ac by_ c : Nat)])) F0 (.dT (putK [] (keyR ⟨.push, "", wtF ac by_ c⟩) o)) = H3 at t3 s3 ho3
    refine ⟨_, rfl, _, rfl, p, _, _, _, rfl, rfl, SqT.of (s3 _ _ hp), rfl, _, rfl, _, rfl, _, rfl, y, pC, dT', by_, af, ac, sl, b1, fl, cl, F, Ar, names, nm, G, B, rfl, h1.le (Same.le s3), by omega, by omega, hC.same s3, hG.same s3, fun g hg => hcf g (by simpa [KM.Bd.calls] using hg), fun g hg => hcp g (by simp [KM.Bd.pushes, hg]), hnm, hz, hac, fun d hd => hB d (by simp [KM.Bd.pushes, hd]), by omega, fun H4 q4 s4 hq4 t4 => ?_⟩
    have ne1 : F0 ≠ q4 := by
      obtain ⟨_, _, e, _⟩ := t3.ex
      exact ne_of_none e hq4
    refine ⟨_, rfl, _, rfl, tcall4 (takeR_of (bef := KM.one) ne1 (ScV.le (Same.le s4) ho3) (t3.same s4) t4 hKz (fun e he => ?_) fun H5 bu t5 => ?_)⟩
    · have a1 := mem_allK.mp (t4.keys e he)
      have a2 := rtl_gain hwt b1 (fun d hd => hB d (by simp [KM.Bd.pushes, hd])) e he
      have a3 := hwt c
      exact mem_allK.mpr ⟨a1.1, by show e.1.g + wtF ac by_ c ≤ 7000; omega⟩
    have s5 : Same H H5 := But.same (s3.trans s4) hF0 bu
    have l45 : Le H4 H5 := by
      obtain ⟨_, _, e, _⟩ := (t3.same s4).ex
      exact But.le bu e (fun z => z)
    have ho5 : OsV (cS K) H5 KM.one o := ScV.le l45 (ScV.le (Same.le s4) ho3)
    obtain ⟨bF, bA, e1, e2, e3⟩ := hC.same s5
    refine ⟨_, rfl, pC, _, rfl, SqT.of e1, rfl, _, _, rfl, _, _, rfl, rfl, ?_⟩
    refine ⟨_, rfl, p, _, _, _, rfl, rfl, SqT.of (s5 _ _ hp), rfl, _, rfl, _, rfl, y, bF, bA, af, ac, sl, b1, fl, cl, F, Ar, rfl, h1.le (Same.le s5), by omega, e2, e3, fun g hg => (hcf g (by simpa [KM.Bd.calls] using hg)).1, fun g hg => (hcp g (by simp [KM.Bd.pushes, hg])).1, fun u H6 s6 ⟨t1, x1, y1, eu, g1, gx1, gy1⟩ => ?_⟩
    subst eu
    obtain ⟨u, gu, p2, e, rfl, hp2, _⟩ := (e3.same rle_e2 s6).get (hcp c (by simp [KM.Bd.pushes])).1
    refine ⟨_, rfl, _, rfl, _, rfl, p, _, _, _, rfl, rfl, SqT.of ((s5.trans s6) _ _ hp), rfl, bA, _, rfl, gu, p2, _, _, _, rfl, rfl, SqT.of hp2, rfl, _, rfl, (Ar c).1, t1, x1, y1, rfl, g1, ?_⟩
    refine ⟨_, _, KM.one, KM.entS F Ar c b1, rfl, OsV.le (Same.le s6) ho5, by unfold KM.entS; cases (Ar c).1 <;> assumption, fun v1 H7 s7 hv1 => ?_⟩
    refine ⟨_, rfl, _, _, _, KM.one, rfl, hv1, OsV.le (Same.le (s6.trans s7)) ho5, fun v2 H8 s8 hv2 => ?_⟩
    have hv2 : OsV (cS K) H8 (KM.befS F Ar c b1) v2 := hv2
    have s58 := s6.trans (s7.trans s8)
    have s8' := s5.trans s58
    have t8 := t5.same s58
    clear hv1 gu hp2 g1 gx1 gy1 e2 e3
    refine ⟨_, rfl, fun p0 hp0 => ⟨_, rfl, p, _, _, _, rfl, rfl, SqT.of (((s8'.trans (Same.upd hp0))) _ _ hp), rfl, by show 3 ≤ sizeLine; decide, fun t0 ht0 => ⟨rfl, rfl, fun vz H9 s9 hvz => ?_⟩⟩⟩
    have sU := Same.upd (o := .dT []) hp0
    have sT := Same.upd (o := .tup [.str "enter", .str c, .int 0]) ht0
    have hp9 : H9 p0 = some (.dT []) := (sT.trans s9) _ _ upd_same
    have ht9 : H9 t0 = some (.tup [.str "enter", .str c, .int 0]) := s9 _ _ upd_same
    have s89 := sU.trans (sT.trans s9)
    refine ⟨t0, keyR ⟨.enter, c, 0⟩, rfl, hp9, ht9, _, rfl, ?_⟩
    have s8p : Same H8 (upd H9 p0 (.dT [(keyR ⟨.enter, c, 0⟩, vz)])) := Same.put s89 hp0
    have tE : RtD (cS K) (KSn nm) (upd H9 p0 (.dT [(keyR ⟨.enter, c, 0⟩, vz)])) p0 [(⟨.enter, c, 0⟩, ⟨0, []⟩)] :=
      ⟨_, _, upd_same, .cons ⟨rfl, ScV.le (Le.upd hp9 (fun z => z)) hvz⟩ .nil, by simp, fun k hk => by rw [List.mem_singleton.mp hk]; exact mem_allK.mpr ⟨(hcp c (by simp [KM.Bd.pushes])).2.2, Nat.zero_le _⟩, KM.Cov.refl _⟩
    have ne3 : F0 ≠ p0 := by
      obtain ⟨_, _, e, _⟩ := t8.ex
      exact ne_of_none e hp0
    refine tcall4c (takeR_of (g := 0) (bef := KM.befS F Ar c b1) ne3 (OsV.le (Same.le s8p) hv2) (t8.same s8p) tE hKz (fun e he => tE.keys e he) fun H10 bu10 t10 => ?_)
    have s10 : Same H H10 := But.same (s8'.trans s8p) hF0 bu10
    have l10 : Le H8 H10 := by
      obtain ⟨_, _, e, _⟩ := (t8.same s8p).ex
      exact (Same.le s8p).trans (But.le bu10 e (fun z => z))
    obtain ⟨kv, k1, k2⟩ := hG
    obtain ⟨v3, ev, p3, rfl, _, tp3⟩ := k2.val (hcp c (by simp [KM.Bd.pushes])).2.1
    have ne4 : F0 ≠ p3 := fun z => by
      obtain ⟨_, _, g3, _⟩ := tp3.ex
      rw [← z, hF0] at g3; cases g3
    refine ⟨_, rfl, _, rfl, _, rfl, p, _, _, _, rfl, rfl, SqT.of (s10 _ _ hp), rfl, dT', _, rfl, dgetS (.inl (s10 _ _ k1)) ev, _, rfl, ?_⟩
    refine tcall4c (takeR_of (g := 0) (bef := KM.befS F Ar c b1) ne4 (OsV.le l10 hv2) t10 (tp3.same s10) hKz (fun e he => tp3.keys e he) fun H11 bu11 t11 => ?_)
    refine ⟨_, rfl, kk _ F0 (But.same s10 hF0 bu11) hF0 ?_⟩
    rw [List.append_assoc] at t11
    exact t11
theorem c_routes_in (T : Txt K mg) : ∀ n, Cal P w K mg base (28 + n) "routes_in" (spRtIn (cS K) n)
  | 0 => by
    refine Cal.mono (j := 1) ?_ (by omega)
    refine cal_of T.d_routes_in sc_routes_in (fun _ _ _ _ _ _ us hl => match us, hl with | [_, _, _, _], _ => rfl) (fun vs H Q E h => ?_) (fun f cdv A outer s H vs Q E hr h => ?_)
    · obtain ⟨_, _, _, _, _, _, _, _, _, _, _, _, _, _, _, _, rfl, _⟩ := h; rfl
    obtain ⟨v, pC, dT', by_, af, ac, sl, b, fl, cl, F, Ar, names, nm, G, B, rfl, hb, hn, _⟩ := h
    have := bdDep_pos b
    omega
  | n + 1 => rtin_step T (k := 28 + n) (by omega) (c_routes_in T n)
end
end K52

namespace K52
open PySem PySem.Spec PyProof.Rows L2
section
variable {P : Program} {w : World} {K : PySem.W.Frag} {mg : Str → Option Value} {base : Heap}
/-- the routes of the cases -/
abbrev grF (M : KM.Tb Str) (ac : Str → Nat) (by_ : Str) : Str → RLs := fun c => (KM.rarms M "" (wtF ac by_) (KM.lst M) (KM.lA M) c).2
abbrev rtB (M : KM.Tb Str) (ac : Str → Nat) (by_ : Str) : KM.Bd Str → RLs := KM.rts M "" (wtF ac by_) (KM.lst M) (KM.lA M)
theorem rt_gain {ac : Str → Nat} {M : KM.Tb Str} {fl cl Rd : List Str} (ok : TabOk ac M fl cl Rd) {by_ : Str} : ∀ (n i : Nat) c, i < n → Rd[i]? = some c → ∀ e ∈ grF M ac by_ c, e.1.g ≤ 200 * (i + 1)
  | 0, _, _, h, _, _, _ => absurd h (Nat.not_lt_zero _)
  | n + 1, i, c, h, hc, e, he => by
    have hcs : c ∈ M.cs := (ok.rm c).mp (List.mem_of_getElem? hc)
    have e1 : grF M ac by_ c = rtB M ac by_ (M.am c) := KM.rarms_ok ok.ok _ _ hcs
    rw [e1] at he
    have := rtl_gain (B := 200 * i) (wtF_le (by_ := by_) ok.aw) (M.am c) (fun d hd e' he' => by
      obtain ⟨j, hj, ej⟩ := List.mem_iff_getElem.mp (ok.top i c hc d hd)
      have hj2 : j < i ∧ j < Rd.length := by rw [List.length_take] at hj; omega
      rw [List.getElem_take] at ej
      have hd2 : Rd[j]? = some d := by rw [List.getElem?_eq_getElem hj2.2, ej]
      have := rt_gain ok (by_ := by_) n j d (by omega) hd2 e' he'
      omega) e he
    have d1 := (ok.am c hcs).1
    omega
theorem rt_gain2 {ac : Str → Nat} {M : KM.Tb Str} {fl cl Rd : List Str} (ok : TabOk ac M fl cl Rd) {by_ : Str} {c : Str} (hc : c ∈ M.cs) : ∀ e ∈ grF M ac by_ c, e.1.g ≤ 6000 := fun e he => by
  obtain ⟨i, hi, ei⟩ := List.mem_iff_getElem.mp ((ok.rm c).mpr hc)
  have := rt_gain ok (by_ := by_) (i + 1) i c (Nat.lt_succ_self i) (by rw [List.getElem?_eq_getElem hi, ei]) e he
  have := ok.rz
  omega
def nmA (fl cl : List Str) : List Str := "" :: (fl ++ cl)
def spRtsOf (C CS : Addr) : Sp := fun vs H Q _ => ∃ a by_ af ac M fl cl Rd, vs = [.ref a, .str by_] ∧ TabA C af ac M fl cl Rd H a ∧
  ∀ q H', Same H H' → H q = none → RtsD CS (KSn (nmA fl cl)) H' q fl (fun f => rtB M ac by_ (M.bd f)) → Q (.ref q) H'
theorem c_routes_of (T : Txt K mg) : Cal P w K mg base 49 "routes_of" (spRtsOf (cT K) (cS K)) := by
  have c_least_ends := c_least_ends (P := P) (w := w) (base := base) T
  have c_routes_in := c_routes_in (P := P) (w := w) (base := base) T 20
  refine cal_of T.d_routes_of sc_routes_of (fun _ _ _ _ _ _ us hl => match us, hl with | [_, _], _ => rfl) (fun vs H Q E h => ?_) (fun f cdv A outer s H vs Q E hr h => ?_)
  · obtain ⟨_, _, _, _, _, _, _, _, rfl, _⟩ := h; rfl
  obtain ⟨a, by_, af, ac, M, fl, cl, Rd, rfl, hT, kk⟩ := h
  have nd := sc_routes_of.nd
  have hu := hu_of hr
  refine ⟨_, (pss_cons (ps_asg (pe_tup (pa_cons (pe_c c_least_ends hr (by decide) rfl (pa_cons (pv 0) pa_nil)) (pa_cons pe_dnewK pa_nil))) (pg_tup (by rfl) (pgs_cons (pg_name (i := 2) nd rfl (Or.inr rfl)) (pgs_cons (pg_name (i := 3) nd rfl (Or.inr rfl)) pgs_nil))))
  (pss_cons (ps_for PassesOwn.never rfl (pi_list (pe_fld (pv 0) rfl)) (pg_name (i := 4) nd rfl (Or.inl rfl)) (pss_one (ps_dput hu (pv 3) (pv 4) (pe_c c_routes_in hr (by decide) rfl (pa_cons (pe_ix ix_tup (pe_dget hu (pe_fld (pv 0) rfl) (pv 4) (fun _ _ => rfl)) pe_int (fun _ _ => rfl)) (pa_cons (pv 2) (pa_cons (pv 3) (pa_cons (pv 1) pa_nil))))) rfl)))
  (pss_one (ps_ret (pe_dc (own := [("name", 5), ("arity", 6), ("body", 7)]) rfl nd (pi_tup (pe_fld (pv 0) rfl)) (blkOk_by (N := N_routes_of) (sc := defScope s_routes_of) (by decide +kernel)) (fun _ _ _ _ _ => (pg_tupK (K := K) (n := 3) rfl (by rfl) (pgs_cons (pg_name (i := 5) nd rfl (Or.inl rfl)) (pgs_cons (pg_name (i := 6) nd rfl (Or.inl rfl)) (pgs_cons (pg_name (i := 7) nd rfl (Or.inl rfl)) pgs_nil))))) (fun _ _ _ _ _ => pts_nil) (fun _ _ _ _ _ => (pv 5)) (fun _ _ _ _ _ => (pe_c c_routes_in hr (by decide) rfl (pa_cons (pv 7) (pa_cons (pv 2) (pa_cons (pv 3) (pa_cons (pv 1) pa_nil))))))))))), ?_⟩
  have ok := hT.ok
  have hz : 200 ≤ sizeLine := by decide
  have fz := ok.fz
  have rz := ok.rz
  have cz := ok.cz
  have nml : (nmA fl cl).length ≤ 200 := by unfold nmA; rw [List.length_cons, List.length_append]; omega
  refine ⟨_, rfl, a, af, ac, M, fl, cl, Rd, rfl, hT, fun q bF bA H1 s1 hq hF hA h1 h2 h3 => ?_⟩
  refine fun D hD => ⟨by show 2 ≤ sizeLine; decide, fun t ht => ⟨t, _, rfl, SqT.of upd_same, rfl, _, _, rfl, _, _, rfl, rfl, ?_⟩⟩
  have hbF : bF ≠ D ∧ bA ≠ D := ⟨by obtain ⟨_, e, _⟩ := h2; exact ne_of_none e hD, by obtain ⟨_, e, _⟩ := h3; exact ne_of_none e hD⟩
  let CA : Hp → Prop := fun H' => H' q = some (.tup [.ref bF, .ref bA]) ∧ FnD (E2V (cS K)) H' bF fl (KM.lst M) ∧ ArD (E2V (cS K)) H' bA cl (KM.lA M)
  have CAs : ∀ {H' H''}, Same H' H'' → CA H' → CA H'' := fun s h => ⟨s _ _ h.1, h.2.1.same rle_e2 s, h.2.2.same rle_e2 s⟩
  have s12 := (Same.upd (o := .dK []) hD).trans (Same.upd (o := .tup [.ref q, .ref D]) ht)
  have S2 := s1.trans s12
  have hD2 : (upd (upd H1 D (.dK [])) t (.tup [.ref q, .ref D])) D = some (.dK []) := (Same.upd (o := .tup [.ref q, .ref D]) ht) _ _ upd_same
  have hC2 : CA (upd (upd H1 D (.dK [])) t (.tup [.ref q, .ref D])) := ⟨s12 _ _ h1, h2.same rle_e2 s12, h3.same rle_e2 s12⟩
  have hD0 : H D = none := s1.free hD
  generalize upd (upd H1 D (.dK [])) t (.tup [.ref q, .ref D]) = H2 at S2 hD2 hC2
  clear s1 s12 h1 h2 h3 hF hA
  obtain ⟨ok', dx, pF, pC, pN, pA, pO, ob, fns, css, kvs, t1, t2, t3, t4, t5, t6, t7, t8, t9, t10⟩ := hT
  have fm' : ∀ b : KM.Bd Str, (∀ g ∈ b.calls, g ∈ M.fs) → ∀ g ∈ b.calls, g ∈ fl ∧ g ∈ nmA fl cl := fun b h g hg => ⟨(ok.fm g).mpr (h g hg), List.mem_cons_of_mem _ (List.mem_append_left _ ((ok.fm g).mpr (h g hg)))⟩
  refine ⟨_, rfl, a, _, dx, _, _, rfl, S2 _ _ t1, T.clsT, T.noT5, rfl, pO, rfl, ⟨_, SqL.of (S2 _ _ t10)⟩, ?_⟩
  refine for_it walk_list (fun i σ H' => (∃ p4 p5 p6 p7, σ = [some (.ref a), some (.str by_), some (.ref q), some (.ref D), p4, p5, p6, p7]) ∧ Same H H' ∧ CA H' ∧ RtsD (cS K) (KSn (nmA fl cl)) H' D (Rd.take i) (grF M ac by_))
    ⟨⟨_, _, _, _, rfl⟩, S2, hC2, [], hD2, by rw [List.take_zero]; exact DRel.nil⟩ (fun i σ H' _ p => SqL.of (p.2.1 _ _ t10)) (fun i x σ Ha Hb hi p y => ?_) (fun σ Ha p => ?_)
  · obtain ⟨rfl, hx⟩ := y
    rw [List.getElem?_map] at hx
    obtain ⟨c, hc, rfl⟩ := Option.map_eq_some_iff.mp hx
    clear hx
    obtain ⟨⟨p4, p5, p6, p7, rfl⟩, sa, aC, aT⟩ := p
    have hcs : c ∈ M.cs := (ok.rm c).mp (List.mem_of_getElem? hc)
    obtain ⟨v, ev, p, bv, rfl, hp, hb⟩ := t9.val ((ok.cm c).mpr hcs)
    have tk : Rd.take (i + 1) = Rd.take i ++ [c] := by rw [List.take_add_one, hc]; rfl
    obtain ⟨k0, ek0, _⟩ := id aT
    have nc : c ∉ Rd.take i := fun m => by
      obtain ⟨j2, hj2, ej⟩ := List.mem_iff_getElem.mp m
      have hj3 : j2 < i := by rw [List.length_take] at hj2; omega
      rw [List.getElem_take] at ej
      obtain ⟨hi1, ei⟩ := List.getElem?_eq_some_iff.mp hc
      have := (List.getElem_inj ok.rnd).mp (ej.trans ei.symm)
      omega
    have hi' : i < Rd.length := (List.getElem?_eq_some_iff.mp hc).1
    refine ⟨_, rfl, a, _, dx, _, _, rfl, sa _ _ t1, T.clsT, T.noT4, rfl, _, rfl, pA, _, rfl, dgetS (.inl (sa _ _ t8)) ev, p, _, _, _, rfl, rfl, SqT.of (sa _ _ hp), rfl, _, rfl, _, rfl, _, rfl, ?_⟩
    refine ⟨bv, q, D, by_, af, ac, _, M.am c, fl, cl, KM.lst M, KM.lA M, Rd.take i, nmA fl cl, grF M ac by_, 200 * i, rfl, hb.le (Same.le sa), (ok.am c hcs).1, Nat.le_refl _, ⟨bF, bA, aC⟩, aT, fm' _ (ok.ok.ac c hcs), fun d hd => ⟨(ok.cm d).mpr (ok.ok.ap c hcs d hd), ok.top i c hc d hd, List.mem_cons_of_mem _ (List.mem_append_right _ ((ok.cm d).mpr (ok.ok.ap c hcs d hd)))⟩, by simp [nmA], nml, ok.aw, fun d hd e he => ?_, by have := (ok.am c hcs).1; omega, fun Hc u sc hu' ht' => ?_⟩
    · obtain ⟨j, hj, ej⟩ := List.mem_iff_getElem.mp (ok.top i c hc d hd)
      have hj2 : j < i ∧ j < Rd.length := by rw [List.length_take] at hj; omega
      rw [List.getElem_take] at ej
      have := rt_gain ok (by_ := by_) (j + 1) j d (Nat.lt_succ_self j) (by rw [List.getElem?_eq_getElem hj2.2, ej]) e he
      omega
    have aT := aT.same sc
    have aC := CAs sc aC
    have sC := sa.trans sc
    obtain ⟨kv, g1, g2⟩ := aT
    have uD : u ≠ D := fun z => by rw [z, ek0] at hu'; cases hu'
    refine ⟨_, rfl, _, rfl, D, _, rfl, DPut.k (k := Sum.inr c) g1 (by rw [g2.length, List.length_take]; omega), ?_⟩
    have bu : But D Hc (upd Hc D (.dK (putK kv (Sum.inr c) (.ref u)))) := But.upd
    have l := Le.dK (o := .dK (putK kv (Sum.inr c) (.ref u))) g1
    have keep : ∀ {p : Addr} {L : RLs}, p ≠ D → RtD (cS K) (KSn (nmA fl cl)) Hc p L → RtD (cS K) (KSn (nmA fl cl)) (upd Hc D (.dK (putK kv (Sum.inr c) (.ref u)))) p L := fun n ⟨D', kv', e, r1, r2⟩ => ⟨D', kv', bu _ _ n e, r1.le l, r2⟩
    have sP : Same H (upd Hc D (.dK (putK kv (Sum.inr c) (.ref u)))) := Same.put sC hD0
    refine ⟨⟨_, _, _, _, rfl⟩, sP, ?_, _, upd_same, ?_⟩
    · obtain ⟨e1, ⟨k1, e2, e3⟩, ⟨k2, e4, e5⟩⟩ := aC
      exact ⟨l _ _ trivial e1, ⟨k1, bu _ _ hbF.1 e2, e3.imp fun x v _ r => r.le l⟩, ⟨k2, bu _ _ hbF.2 e4, e5.imp fun x v _ r => ArV.le rle_e2 l r⟩⟩
    · rw [tk]
      exact g2.new nc (fun y w _ ⟨p, e, n, r⟩ => ⟨p, e, n, keep n r⟩) ⟨u, rfl, uD, by
        have := KM.rarms_ok (T := M) (z := ("" : Str)) (wt := wtF ac by_) ok.ok (KM.lst M) (KM.lA M) hcs
        show RtD _ _ _ u (KM.rarms M "" (wtF ac by_) (KM.lst M) (KM.lA M) c).2
        rw [this]
        exact keep uD ht'⟩
  obtain ⟨⟨p4, p5, p6, p7, rfl⟩, sa, aC, aT⟩ := p
  rw [List.length_map, List.take_length] at aT
  refine ⟨_, rfl, a, _, dx, _, _, rfl, sa _ _ t1, T.clsT, T.noT1, rfl, pF, rfl, ⟨_, SqT.of (sa _ _ t2)⟩, fun D2 hD2 => ?_⟩
  refine dc_map2 walk_tup (names := fl) t3.length ok.fnd hD2 (fun H' s => SqT.of (s _ _ (sa _ _ t2))) (by rw [← t3.length]; omega) (fun f v H' => ∃ p, v = .ref p ∧ p ≠ D2 ∧ RtD (cS K) (KSn (nmA fl cl)) H' p (rtB M ac by_ (M.bd f))) (fun x y H H' ws hd bu ⟨p, e, n, D', kv', e2, r1, r2⟩ => ⟨p, e, n, D', kv', bu _ _ n e2, r1.le (But.le bu hd id), r2⟩) (fun i H x H' _ y => by rw [y.1]; exact Same.refl _) (fun i nm x H3 H4 Q' hnm s hd y kq => ?_) (fun Hb kF sb hF1 hF2 => ?_)
  · obtain ⟨rfl, hx⟩ := y
    obtain ⟨x', hx', p, bv, rfl, hp, _, _, hb, _⟩ := paired_at' t3 hnm
    rw [hx] at hx'; cases hx'
    have sA := sa.trans s
    have hgs : nm ∈ M.fs := (ok.fm nm).mp (List.mem_of_getElem? hnm)
    refine ⟨p, _, rfl, SqT.of (sA _ _ hp), rfl, _, _, rfl, _, _, rfl, _, _, rfl, rfl, rfl, _, rfl, _, rfl, _, rfl, _, rfl, _, rfl, ?_⟩
    refine ⟨bv, q, D, by_, af, ac, _, M.bd nm, fl, cl, KM.lst M, KM.lA M, Rd, nmA fl cl, grF M ac by_, 6000, rfl, hb.le (Same.le sA), (ok.bd nm hgs).1, Nat.le_refl _, ⟨bF, bA, CAs s aC⟩, aT.same s, fm' _ (ok.ok.bc nm hgs), fun d hd => ⟨(ok.cm d).mpr (ok.ok.bp nm hgs d hd), (ok.rm d).mpr (ok.ok.bp nm hgs d hd), List.mem_cons_of_mem _ (List.mem_append_right _ ((ok.cm d).mpr (ok.ok.bp nm hgs d hd)))⟩, by simp [nmA], nml, ok.aw, fun d hd => rt_gain2 ok (ok.ok.bp nm hgs d hd), by have := (ok.bd nm hgs).1; omega, fun Hc u sc hu' ht' => ?_⟩
    obtain ⟨ws, hws⟩ := hd
    exact kq _ _ sc ⟨u, rfl, (fun z => by rw [z, hws] at hu'; cases hu'), ht'⟩
  · exact kk D2 Hb (sa.trans sb) (sa.free hD2) ⟨kF, hF1, hF2⟩
end
end K52

namespace K52
open PySem PySem.Spec PyProof.Rows L2 NdefX LamX
/-! ### a closure over one cell, handed to another def: its cell is tracked, locked, meanwhile -/
def cellO (c : Addr) (oc : Obj) : HO := .frz oc (.ext fun h => h.get? c = some oc)
def CellF (H : Hp) (c : Addr) (v : V) : Prop := ∃ oc u, H c = some (cellO c oc) ∧ oc.data = .cell (some u) ∧ RelV v u
theorem CellF.same {H H' : Hp} {c : Addr} {v : V} (s : Same H H') (h : CellF H c v) : CellF H' c v := by
  obtain ⟨oc, u, h1, h2⟩ := h
  exact ⟨oc, u, s _ _ h1, h2⟩
def drp (H : Hp) (c : Addr) : Hp := fun b => if b = c then none else H b
theorem drp_same {H : Hp} {c : Addr} : drp H c c = none := if_pos rfl
theorem drp_ne {H : Hp} {b c : Addr} (h : b ≠ c) : drp H c b = H b := if_neg h
/-- the object at c as it was in H -/
def bk (H : Hp) (c : Addr) (H' : Hp) : Hp := fun b => if b = c then H c else H' b
theorem bk_same {H H' : Hp} {c : Addr} : bk H c H' c = H c := if_pos rfl
theorem bk_ne {H H' : Hp} {b c : Addr} (h : b ≠ c) : bk H c H' b = H' b := if_neg h
theorem Same.bk {H H' : Hp} {c : Addr} (s : Same (drp H c) H') : Same H (bk H c H') := fun b u e => by
  by_cases z : b = c
  · rw [z] at e ⊢; rw [bk_same]; exact e
  · rw [bk_ne z]; exact s b u (by rw [drp_ne z]; exact e)
theorem Same.drp {H H' : Hp} {c : Addr} {o : HO} (n : H c = none) (s : Same (L2.upd H c o) H') : Same H (K52.drp H' c) := fun b u e => by
  have z : b ≠ c := ne_of_none e n
  rw [drp_ne z]; exact s b u (by rw [upd_ne z]; exact e)
section
variable {P : Program} {w : World} {K : PySem.W.Frag} {mg : Str → Option Value} {base : Heap} {A : Around} {outer : List Env} {s : Shared} {H H' : Hp} {c : Addr} {oc : Obj} {h h' : Heap} {fs : List Addr}
theorem cell_ok (g : h.get? c = some oc) : ObjOk P w H h c (cellO c oc) := ⟨g, g, ⟨oc, g⟩, fun _ _ p st => st _ p⟩
theorem hok_drp (k : HOk P w H h) (e : H c = some (cellO c oc)) : HOk P w (drp H c) h := fun b o q => by
  have z : b ≠ c := fun z => by rw [z, drp_same] at q; cases q
  rw [drp_ne z] at q
  exact (k b o q).stay (fun _ _ _ r => r) (fun d r => by rw [drp_ne (ne_of r e (by intro x; cases x))]; exact r) fun d xs r => by rw [drp_ne (ne_of r e (by intro x; cases x))]; exact r
theorem hok_upd (k : HOk P w H h) (e : H c = none) (g : h.get? c = some oc) : HOk P w (upd H c (cellO c oc)) h := fun b o q => by
  by_cases z : b = c
  · rw [z, upd_same] at q; cases q; rw [z]; exact cell_ok g
  · rw [upd_ne z] at q
    exact (k b o q).stay (fun _ _ _ r => r) (fun d r => by rw [upd_ne (ne_of_none r e)]; exact r) fun d xs r => by rw [upd_ne (ne_of_none r e)]; exact r
theorem hok_bk (k : HOk P w H' h') (e : H c = some (cellO c oc)) (n : H' c = none) (g : h'.get? c = some oc) : HOk P w (bk H c H') h' := fun b o q => by
  by_cases z : b = c
  · rw [z, bk_same, e] at q; cases q; rw [z]; exact cell_ok g
  · rw [bk_ne z] at q
    exact (k b o q).stay (fun _ _ _ r => r) (fun d r => by rw [bk_ne (ne_of_none r n)]; exact r) fun d xs r => by rw [bk_ne (ne_of_none r n)]; exact r
theorem env_drp (e0 : Env0 P w K mg base A outer s H) (e : H c = some (cellO c oc)) : Env0 P w K mg base A outer s (drp H c) :=
  ⟨e0.frames, e0.mod, fun b o q => ⟨(e0.bs b o q).1, by unfold drp; split <;> first | rfl | exact (e0.bs b o q).2⟩, e0.bsz, e0.funs, fun b hb => by unfold drp; split <;> first | rfl | exact e0.frf b hb, hok_drp e0.hok e, e0.bare⟩
theorem env_upd (e0 : Env0 P w K mg base A outer s H) (n : H c = none) (g : s.heap.get? c = some oc) (nb : base.get? c = none) (nf : c ∉ frs outer) : Env0 P w K mg base A outer s (upd H c (cellO c oc)) :=
  ⟨e0.frames, e0.mod, fun b o q => ⟨(e0.bs b o q).1, by rw [upd_ne (fun z => by rw [z, nb] at q; cases q)]; exact (e0.bs b o q).2⟩, e0.bsz, e0.funs, fun b hb => by rw [upd_ne (fun z => nf (by rw [← z]; exact hb))]; exact e0.frf b hb, hok_upd e0.hok n g, e0.bare⟩
theorem un_bk (e : H c = some (cellO c oc)) (u : Un fs [] (drp H c) H' h h') : Un fs [] H (bk H c H') h h' where
  keep b o q n hb hx := u.keep b o q (by unfold drp; split <;> first | rfl | exact n) hb hx
  slot b o q n hb hx := u.slot b o q (by unfold drp; split <;> first | rfl | exact n) hb hx
  free b o q n hx := by
    have z : b ≠ c := fun z => by rw [z, e] at n; cases n
    rw [bk_ne z]; exact u.free b o q (by rw [drp_ne z]; exact n) hx
  there := u.there
  tups b xs q := by
    have z : b ≠ c := ne_of q e (by intro x; cases x)
    rw [bk_ne z]; exact u.tups b xs (by rw [drp_ne z]; exact q)
  frzs b o x q := by
    by_cases z : b = c
    · rw [z] at q ⊢; rw [bk_same]; exact q
    · rw [bk_ne z]; exact u.frzs b o x (by rw [drp_ne z]; exact q)
  tbls b ps q := by
    have z : b ≠ c := ne_of q e (by intro x; cases x)
    rw [bk_ne z]; exact u.tbls b ps (by rw [drp_ne z]; exact q)
theorem un_upd (n : H c = none) (nf : c ∉ fs) (g' : h'.get? c = some oc) (g : h.get? c = some oc) (u : Un fs [] (upd H c (cellO c oc)) H' h h') : Un fs [] H (drp H' c) h h' where
  keep b o q m hb hx := by
    by_cases z : b = c
    · rw [z, g] at q; cases q; rw [z]; exact g'
    · exact u.keep b o q (by rw [upd_ne z]; exact m) hb hx
  slot b o q m hb hx := u.slot b o q (by rw [upd_ne (fun z => nf (by rw [← z]; exact hb))]; exact m) hb hx
  free b o q m hx := by
    by_cases z : b = c
    · rw [z]; exact drp_same
    · rw [drp_ne z]; exact u.free b o q (by rw [upd_ne z]; exact m) hx
  there := u.there
  tups b xs q := by
    have z := ne_of_none q n
    rw [drp_ne z]; exact u.tups b xs (by rw [upd_ne z]; exact q)
  frzs b o x q := by
    have z := ne_of_none q n
    rw [drp_ne z]; exact u.frzs b o x (by rw [upd_ne z]; exact q)
  tbls b ps q := by
    have z := ne_of_none q n
    rw [drp_ne z]; exact u.tbls b ps (by rw [upd_ne z]; exact q)
end
/-- f(..), the slot i holds the closure F at f, its one cell at c is tracked -/
def tCallF (i : Nat) (f c : Addr) (F : NF) (sp : List (Option V) → Sp) (t : TA) : TE := fun σ H Q => σ[i]? = some (some (.ref f)) ∧ H f = some (FnO f F) ∧ t σ H fun vs H1 => H1 f = some (FnO f F) ∧ H1 F.c = some (CodeO F.c F.qual) ∧ ∃ v, CellF H1 c v ∧ sp [some v] vs (drp H1 c) (fun z H' => H' c = none → Q z (bk H1 c H')) E0
section
variable {X : Cx} {F : NF} {f c : Addr} {ps : List Str} {i j k : Nat} {x y : Str} {sp : List (Option V) → Sp} {t : TA} {e : Expr} {es : List Expr} {p pos : Pos}
theorem pe_callF (Fn : NOk X.prog X.w X.K X.mg X.base CX0 k f F ps [y] sp) (hcl : ∀ z d, F.cl.lookup z = some d → z = y ∧ d = c) (hcy : F.cl.lookup y = some c) (hr : Room j X.A) (hk : k ≤ j) (hN : X.N[i]? = some x) (hv : Vis X.env.scope x) (ha : PA X (e :: es) t)
    (hd : (x == ("__debug__" : Str)) = false := by decide) (hcd : (x == ("__classdict__" : Str)) = false := by decide)
    (he : starEach (e :: es) X.env = (false, eval e X.env) :: starEach es X.env := by rfl) (hpl : (backTo pos (starEach es X.env)).any (·.1) = false := by rfl) :
    PE X (.Call (.Name x p) (e :: es) [] pos) (tCallF i f c F sp t) := by
  refine ⟨fun pins s σ H Q I h => ?_⟩
  obtain ⟨hs, hf, ht⟩ := h
  refine wpAny_Call_Name_kw (thn ((pe_var (pos := p) hN hv hd hcd).run pins s σ H (fun v H1 => v = .ref f ∧ H1 = H) I ⟨.ref f, hs, rfl, rfl⟩) fun u s1 ⟨v, H1, I1, r1, q1⟩ => ?_)
  obtain ⟨ev, eH⟩ := q1
  subst ev
  rw [eH] at I1
  obtain rfl : u = Value.ref f := r1
  refine PySem.W.callWith_F (first := []) (fnAt_of I1 hf) (thn (ha.run pos pins s1 σ H _ I1 ht) fun us s2 ⟨vs, H2, I2, r, h1, h2, v, hc, q⟩ => ⟨fnAt_of I2 h1, ?_⟩) he hpl
  show wpAny _ _ (call (.ref f) us) _ _ _
  obtain ⟨oc, uc, g1, g2, g3⟩ := hc
  have gh : s2.heap.get? c = some oc := (I2.hok c _ g1).1
  have nf : f ≠ c := ne_of h1 g1 (by intro z; unfold FnO cellO at z; cases z)
  have nc : F.c ≠ c := ne_of h2 g1 (by intro z; unfold CodeO cellO at z; cases z)
  have C : CellsAt F.cl [y] [some v] s2.heap (drp H2 c) := by
    refine ⟨rfl, fun z d hz => ?_, fun z z' d h1 h2 => ((hcl z d h1).1).trans ((hcl z' d h2).1).symm, fun n z hn => ?_⟩
    · obtain ⟨_, rfl⟩ := hcl z d hz
      exact ⟨drp_same, some uc, oc, gh, g2⟩
    · cases n with
      | zero =>
        have : y = z := by simpa using hn
        subst this
        refine ⟨c, hcy, fun v' ev => ?_⟩
        have : v = v' := by simpa using ev
        subst this
        exact ⟨uc, g3, oc, gh, g2⟩
      | succ n => simp at hn
  refine wpAny_call (codeAny_mono (Fn.run X.A X.stack s2 (drp H2 c) us vs _ _ E0 (hr.mono hk) (env_drp I2.env0 g1) (by rw [drp_ne nf]; exact h1) (by rw [drp_ne nc]; exact h2) C r q) fun r s' hq => ?_)
  cases r with
  | error e => exact pass0 pins σ (drp H2 c) s2 e s' (by exact absurd hq (fun z => z)) hq
  | ok fl =>
    cases fl with
    | next => exact False.elim hq
    | brk => exact False.elim hq
    | cont => exact False.elim hq
    | ret u =>
      obtain ⟨z, H', os, bare, un, hok, rz, qz⟩ := id (show CE X.stack X.prog X.w (drp H2 c) s2 _ u s' from hq)
      have nfr : c ∉ frs X.stack := fun hb => by
        have := I2.stkFree c hb
        rw [g1] at this; cases this
      have n' : H' c = none := un.free c oc gh drp_same (fun z => nomatch z)
      have g' : s'.heap.get? c = some oc := un.keep c oc gh drp_same nfr (fun z => nomatch z)
      exact I2.after ⟨z, bk H2 c H', os, bare, un_bk g1 un, hok_bk hok g1 n' g', rz, qz n'⟩
end
/-- f(..), f a def of the module; the cell of the name y, in slot j, is tracked meanwhile -/
def tCallCl (X : Cx) (y : Str) (j : Nat) (sp : Sp) (t : TA) : TE := fun σ H Q => t σ H fun vs H1 => ∃ v, σ[j]? = some (some v) ∧ ∀ c oc, X.env.cells.lookup y = some c → H1 c = none → CellF (upd H1 c (cellO c oc)) c v → sp vs (upd H1 c (cellO c oc)) (fun z H' => Q z (drp H' c)) E0
section
variable {X : Cx} {j k l : Nat} {x y : Str} {sp : Sp} {t : TA} {e : Expr} {es : List Expr} {p pos : Pos}
theorem pe_callCl (cc : Cal X.prog X.w X.K X.mg X.base k x sp) (hr : Room l X.A) (hk : k ≤ l) (hg : Gl X x) (hN : X.N[j]? = some y) (hy : X.env.scope.names.lookup y = some .cell) (hfn : X.fn y = true) (ha : PA X (e :: es) t)
    (hdb : (x == ("__debug__" : Str)) = false := by decide) (he : starEach (e :: es) X.env = (false, eval e X.env) :: starEach es X.env := by rfl) (hpl : (backTo pos (starEach es X.env)).any (·.1) = false := by rfl) :
    PE X (.Call (.Name x p) (e :: es) [] pos) (tCallCl X y j sp t) := by
  obtain ⟨f, fd, ps, F, hm, kp, hb⟩ := cc.ex
  refine ⟨fun pins s σ H Q I h => ?_⟩
  refine wpAny_Call_Name_kw (ld_glob I hg hm ?_ hdb)
  refine PySem.W.callWith_K (h₀ := X.base) I.ok.mod.kin kp (thn (ha.run pos pins s σ H _ I h) fun us s1 ⟨vs, H1, I1, r, v, hv, q⟩ => ⟨I1.kIn, ?_⟩) he hpl
  obtain ⟨m, hn, hl⟩ := I1.loc
  obtain ⟨u, ru, lk⟩ := hl j y v hN hv (.inr (.inl hy))
  obtain ⟨c, hc, oc, gh, gd⟩ : ∃ c, X.env.cells.lookup y = some c ∧ s1.heap.IsCell c (some u) := by
    rcases lk with ⟨z, _⟩ | ⟨_, c, e1, e2⟩
    · have z' : X.env.scope.names.lookup y = some .local := z
      rw [hy] at z'; cases z'
    · exact ⟨c, e1, e2⟩
  have n1 := I1.freeC y c hc
  have cab := I1.ok.cab y c hfn hc
  have nb : X.base.get? c = none := Heap.get?_none_of_le (Nat.le_trans I1.ok.bsz cab)
  have nfr : c ∉ frs X.stack := fun hb' => by
    rcases List.mem_cons.mp (I1.stkSub c hb') with z | z
    · exact I1.cne y c hc z
    · obtain ⟨_, o, ho, _⟩ := I1.ok.funs.mem z
      exact absurd (Nat.lt_of_lt_of_le (Heap.lt_size ho) cab) (Nat.lt_irrefl _)
  have q := q c oc hc n1 ⟨oc, u, upd_same, gd, ru⟩
  have hlen : us.length = ps.length := by rw [← r.length]; exact F.len _ _ _ _ q
  have bt := hb s1 us I1.kIn (by rw [List.append_nil]; exact hlen)
  rw [List.append_nil] at bt
  refine wpAny_call (codeAny_mono (F.run X.A X.stack s1 (upd H1 c (cellO c oc)) ⟨us, []⟩ us vs _ E0 (hr.mono hk) (env_upd I1.env0 n1 gh nb nfr) bt r q) fun r s' hq => ?_)
  cases r with
  | error e => exact (show False from hq).elim
  | ok fl =>
    cases fl with
    | next => exact False.elim hq
    | brk => exact False.elim hq
    | cont => exact False.elim hq
    | ret u' =>
      obtain ⟨z, H', os, bare, un, hok, rz, qz⟩ := id (show CE X.stack X.prog X.w (upd H1 c (cellO c oc)) s1 _ u' s' from hq)
      have e' : H' c = some (cellO c oc) := un.frzs c oc _ upd_same
      exact I1.after ⟨z, drp H' c, os, bare, un_upd n1 nfr (hok c _ e').1 gh un, hok_drp hok e', rz, qz⟩
end
end K52

namespace K52
open PySem PySem.Spec PyProof.Rows L2 NdefX LamX
theorem rle_os {C : Addr} : RLe (OsV C) := fun _ _ _ _ l h => h.le l
abbrev XD (C : Addr) (H : Hp) (d : Addr) (S : List Str) (x : Str → KM.OS) : Prop := FnD (OsV C) H d S x
/-- what the closure of tallest promises -/
def spScr (C : Addr) : List (Option V) → Sp := fun ws vs H Q _ => ∃ dH dX kt sv one k sc h x S, ws = [some (.ref dH)] ∧ vs = [.str one, .ref kt, sv, .ref dX] ∧ FD H dH S h ∧ XD C H dX S x ∧ one ∈ S ∧ H kt = some (.tup ((keyR k).map kV)) ∧ ScV C H sc sv ∧ (k.w = .call → k.n ∈ S) ∧ ∀ v H', Same H H' → OsV C H' (KM.ctr (h one) h x k (some sc)) v → Q v H'
structure CloOk (P : Program) (w : World) (K : PySem.W.Frag) (mg : Str → Option Value) (base : Heap) (k : Nat) (C : Addr) (f c : Addr) (F : NF) : Prop where
  nok : NOk P w K mg base CX0 k f F ["one", "key", "script", "others"] ["heights"] (spScr C)
  cl1 : ∀ (z : Str) (d : Addr), F.cl.lookup z = some d → z = "heights" ∧ d = c
  cl2 : F.cl.lookup ("heights" : Str) = some c
theorem RtsD.but {C : Addr} {KS : List (KM.RK Str)} {H H' : Hp} {d F : Addr} {names : List Str} {G : Str → RLs} {kf : List (Key × V)} (b : But F H H') (hF : H F = some (.dK kf)) (n : d ≠ F) (h : RtsD C KS H d names G) : RtsD C KS H' d names G := by
  obtain ⟨k, h1, h2⟩ := h
  exact ⟨k, b _ _ n h1, h2.imp fun c v _ ⟨p, e, np, q⟩ => ⟨p, e, np, by
    obtain ⟨D, kv, g1, g2, g3⟩ := q
    exact ⟨D, kv, b _ _ (ne_of g1 hF (by intro z; cases z)) g1, g2.le (But.le b hF (fun z => z)), g3⟩⟩⟩
theorem mnL_start (l : List KM.OS) (a : KM.OS) : l.foldl KM.mn a = KM.mn a (l.foldl KM.mn none) := by
  induction l generalizing a with
  | nil => exact (KM.mn_none a).symm
  | cons b l ih =>
    show l.foldl KM.mn (KM.mn a b) = KM.mn a (l.foldl KM.mn (KM.mn none b))
    rw [ih (KM.mn a b), ih (KM.mn none b), KM.mn_assoc, KM.none_mn]
theorem mnL_Mm {need : Nat} {h : Str → Nat} {x : Str → KM.OS} (D : RLs) : mnL (D.map fun e => KM.ctr need h x e.1 (some e.2)) = KM.Mm need h x D := by
  induction D with
  | nil => rfl
  | cons e D ih =>
    show (D.map _).foldl KM.mn (KM.mn none _) = KM.mn _ (KM.Mm need h x D)
    rw [mnL_start, KM.none_mn, ← ih]; rfl
theorem mnL_two (a b : KM.OS) : mnL [a, b] = KM.mn a b := rfl
theorem rs_not {h : Str → Nat} {rt : Str → RLs} {f : Str} : ∀ {l : List Str} {x : Str → KM.OS}, f ∉ l → KM.rsF h rt l x f = x f
  | [], _, _ => rfl
  | g :: l, x, hf => by
    show KM.rsF h rt l _ f = _
    rw [rs_not fun z => hf (List.mem_cons_of_mem _ z)]
    exact if_neg fun z => hf (by rw [z]; exact List.mem_cons_self)
theorem rs_snoc {h : Str → Nat} {rt : Str → RLs} {g : Str} {l : List Str} {x : Str → KM.OS} : KM.rsF h rt (l ++ [g]) x = KM.up (KM.rsF h rt l x) g (KM.mn (KM.rsF h rt l x g) (KM.Mm (h g) h (KM.rsF h rt l x) (rt g))) := by
  unfold KM.rsF
  rw [List.foldl_append]; rfl
theorem Le.drp {H : Hp} {c : Addr} {oc : Obj} (e : H c = some (cellO c oc)) : Le H (K52.drp H c) := fun b o st q => by
  rw [drp_ne (fun z => by rw [z, e] at q; cases q; exact st)]; exact q
theorem Le.bk {H H' : Hp} {c : Addr} (e : H' c = none) : Le H' (K52.bk H c H') := fun b o st q => by
  rw [bk_ne (ne_of_none q e)]; exact q
section
variable {P : Program} {w : World} {K : PySem.W.Frag} {mg : Str → Option Value} {base : Heap}
def spSettle (P : Program) (w : World) (K : PySem.W.Frag) (mg : Str → Option Value) (base : Heap) (C : Addr) : Sp := fun vs H Q _ => ∃ dR dF dH f c F h names, ∃ G : Str → RLs, ∃ KS S, vs = [.ref dR, .ref dF, .ref f] ∧ CloOk P w K mg base 7 C f c F ∧ H f = some (FnO f F) ∧ H F.c = some (CodeO F.c F.qual) ∧ CellF H c (.ref dH) ∧ FD H dH S h ∧ dH ≠ dF ∧ dR ≠ dF ∧
  RtsD C KS H dR names G ∧ (∀ t ∈ S, t ∈ names) ∧ S.Nodup ∧ S.length ≤ 31 ∧ KM.RtOk G S ∧ (∀ t ∈ S, ∀ x ∈ G t, ∀ y ∈ G t, x.2.n = y.2.n → x.2.b <+: y.2.b → x.2.b = y.2.b) ∧ KS.length < sizeLine ∧ XD C H dF S (KM.x0 h S) ∧ ∀ H', But dF H H' → XD C H' dF S (KM.uI h G S) → Q (.ref dF) H'
theorem c_settled_scripts (T : Txt K mg) : Cal P w K mg base 8 "settled_scripts" (spSettle P w K mg base (cS K)) := by
  have c_least_of := c_least_of (P := P) (w := w) (base := base) T
  have me := m_eq (P := P) (w := w) (base := base) T
  obtain ⟨fde, pse, Fe, be⟩ := me.ex
  refine cal_of T.d_settled_scripts sc_settled_scripts (fun _ _ _ _ _ _ us hl => match us, hl with | [_, _, _], _ => rfl) (fun vs H Q E h => ?_) (fun f' cdv A outer s H vs Q E hr h => ?_)
  · obtain ⟨_, _, _, _, _, _, _, _, _, _, _, rfl, _⟩ := h; rfl
  obtain ⟨dR, dF, dH, f, c, F, h, names, G, KS, S, rfl, clo, hf, hco, hcell, hHt, nHF, nRF, hRt, hSn, hSnd, hSl, rok, hpre, hKS, hX, kk⟩ := h
  have nd := sc_settled_scripts.nd
  have hu := hu_of hr
  refine ⟨_, (pss_cons (ps_set (i := 3) nd rfl (Or.inl rfl) pe_bl)
  (pss_cons (ps_while PassesOwn.never (pt_val (pv 3)) (pss_cons (ps_set (i := 3) nd rfl (Or.inl rfl) pe_bl)
  (pss_one (ps_for PassesOwn.never rfl (pi_list (pe_callTy (call_listD rfl) (by rfl) T.b_list (by decide +kernel) (pa_cons (pv 1) pa_nil))) (pg_name (i := 4) nd rfl (Or.inr rfl)) (pss_cons (ps_lock (ps_setLc (i := 5) (own := [("key", 7)]) rfl nd rfl rfl (sw_true rfl rfl rfl (by decide +kernel)) (pi_keys (pe_dget hu (pv 0) (pv 4) (fun _ _ => rfl))) (blkOk_by (N := N_settled_scripts) (sc := defScope s_settled_scripts) (by decide +kernel)) (fun _ _ _ _ _ => (pg_name (i := 7) nd rfl (Or.inl rfl))) (fun _ _ _ _ _ => pts_nil) (fun _ _ _ _ _ => (pe_callF (i := 2) clo.nok clo.cl1 clo.cl2 hr (by decide) rfl (by first | exact Or.inl rfl | exact Or.inr (Or.inl rfl) | exact Or.inr (Or.inr rfl)) (pa_cons (pv 4) (pa_cons (pv 7) (pa_cons (pe_dget hu (pe_dget hu (pv 0) (pv 4) (fun _ _ => rfl)) (pv 7) (fun _ _ => rfl)) (pa_cons (pv 1) pa_nil))))))))
  (pss_cons (ps_set (i := 6) nd rfl (Or.inl rfl) (pe_c c_least_of hr (by decide) rfl (pa_cons (pe_lst (pa_cons (pe_dget hu (pv 1) (pv 4) (fun _ _ => rfl)) (pa_cons (pe_c c_least_of hr (by decide) rfl (pa_cons (pv 5) pa_nil)) pa_nil))) pa_nil)))
  (pss_one (ps_if (pt_cmpR (op_neOs Fe me.at_ me.fn be pass0 T.neS T.moS (hr.mono (by decide))) (pv 6) (pe_dget hu (pv 1) (pv 4) (fun _ _ => rfl)) (nomark _)) (pss_cons (ps_dput hu (pv 1) (pv 4) (pv 6) rfl)
  (pss_one (ps_set (i := 3) nd rfl (Or.inl rfl) pe_bl))) pss_nil))))))))
  (pss_one (ps_ret (pv 1))))), ?_⟩
  obtain ⟨k0, hF0, _⟩ := id hX
  let rs := KM.rsF h G S
  let xI : Nat → Str → KM.OS := fun j => KM.iter rs j (KM.x0 h S)
  have hstand : rs (xI 1001) = xI 1001 := KM.rs_stands rok
  let I : Nat → L2.St → Hp → Prop := fun m σ H' => ∃ (p4 p5 p6 p7 : Option V) (b : Bool) (j : Nat), σ = [some (.ref dR), some (.ref dF), some (.ref f), some (.bl b), p4, p5, p6, p7] ∧ But dF H H' ∧ XD (cS K) H' dF S (xI j) ∧ (b = true → j ≤ 1001 ∧ m = 1002 - j) ∧ (b = false → m = 0 ∧ rs (xI j) = xI j)
  refine ⟨I, ⟨1002, _, _, _, _, true, 0, rfl, But.refl _ _, hX, fun _ => ⟨by decide, rfl⟩, fun z => by cases z⟩, ?_⟩
  rintro m σ Ha ⟨p4, p5, p6, p7, b, j, rfl, bu, aX, hbt, hbf⟩
  refine ⟨_, rfl, b, rfl, ?_⟩
  cases b with
  | false =>
    obtain ⟨-, hst⟩ := hbf rfl
    have ej : xI j = KM.uI h G S := (KM.iter_stand2 hst hstand).trans (KM.rs_end rok)
    rw [ej] at aX
    exact iF rfl ⟨_, rfl, kk _ bu aX⟩
  | true =>
    obtain ⟨hj, rfl⟩ := hbt rfl
    refine iT rfl ⟨fun σ' H' => ∃ m', m' < 1002 - j ∧ I m' σ' H', fun _ _ h => h, ?_⟩
    generalize hx0 : xI j = x at aX
    obtain ⟨kx, hk, rX⟩ := id aX
    have ek : (kx.map fun kv => kV kv.1) = S.map V.str := by
      have e : kx.map (fun kv => kV kv.1) = (kx.map (·.1)).map kV := by rw [List.map_map]; rfl
      rw [e, rX.1, List.map_map]; rfl
    refine ⟨_, rfl, dF, kx, rfl, .inl hk, fun lf hlf => ⟨lf, rfl, ⟨_, SqL.of upd_same⟩, ?_⟩⟩
    rw [ek]
    have sb : Same Ha (upd Ha lf (.lst (S.map V.str))) := Same.upd hlf
    have dlf : dF ≠ lf := ne_of_none hk hlf
    have h2 : (upd Ha lf (.lst (S.map V.str))) lf = some (.lst (S.map V.str)) := upd_same
    have b2 := bu.trans (Same.but dF sb)
    have x2 := aX.same rle_os sb
    generalize upd Ha lf (.lst (S.map V.str)) = Hd at h2 b2 x2
    clear aX rX hk bu
    refine for_it walk_list (fun k σ H' => (∃ (p4 p5 p6 p7 : Option V) (b : Bool), σ = [some (.ref dR), some (.ref dF), some (.ref f), some (.bl b), p4, p5, p6, p7] ∧ (b = false → KM.rsF h G (S.take k) x = x) ∧ (b = true → ∃ t ∈ S.take k, KM.rsF h G (S.take k) x t ≠ x t)) ∧ But dF H H' ∧ H' lf = some (.lst (S.map V.str)) ∧ XD (cS K) H' dF S (KM.rsF h G (S.take k) x))
      ⟨⟨_, _, _, _, false, rfl, fun _ => rfl, fun z => by cases z⟩, b2, h2, x2⟩ (fun k σ H' _ p => SqL.of p.2.2.1) (fun k y σ Hf He hk p z => ?_) (fun σ He p => ?_)
    · obtain ⟨rfl, hz2⟩ := z
      obtain ⟨⟨p4, p5, p6, p7, b, rfl, b0, b1⟩, bu, al, aX⟩ := p
      obtain ⟨t, ht, rfl⟩ : ∃ t, S[k]? = some t ∧ y = .str t := by
        rw [List.getElem?_map] at hz2
        cases q : S[k]? with
        | none => rw [q] at hz2; cases hz2
        | some t => rw [q] at hz2; cases hz2; exact ⟨t, rfl, rfl⟩
      have htS : t ∈ S := List.mem_of_getElem? ht
      have tk : S.take (k + 1) = S.take k ++ [t] := by rw [List.take_add_one, ht]; rfl
      have ntk : t ∉ S.take k := fun m => by
        obtain ⟨j2, hj2, ej⟩ := List.mem_iff_getElem.mp m
        have hj3 : j2 < k := by rw [List.length_take] at hj2; omega
        rw [List.getElem_take] at ej
        obtain ⟨hi1, ei⟩ := List.getElem?_eq_some_iff.mp ht
        have := (List.getElem_inj hSnd).mp (ej.trans ei.symm)
        omega
      have eS := rs_snoc (h := h) (rt := G) (g := t) (l := S.take k) (x := x)
      rw [← tk] at eS
      have ext : KM.rsF h G (S.take k) x t = x t := rs_not ntk
      generalize hxk : KM.rsF h G (S.take k) x = xk at aX eS ext b0 b1
      obtain ⟨kxx, hkx, hkR⟩ := id aX
      obtain ⟨kq, hq0, hqR⟩ := RtsD.but bu hF0 nRF hRt
      obtain ⟨vD, ev, pD, rfl, npd, D, kvs, hD0, eD, Dnd, Dks, Dcov⟩ := hqR.val (hSn t htS)
      have npF : pD ≠ dF := ne_of hD0 hkx (by intro z; cases z)
      have eM : KM.Mm (h t) h xk D = KM.Mm (h t) h xk (G t) := KM.Mm_cov Dcov (hpre t htS)
      refine ⟨pD, _, hD0, trivial, fun od => ⟨_, rfl, _, rfl, dR, _, rfl, dgetS (.inl (by rw [upd_ne npd.symm]; exact hq0)) ev, pD, od, rfl, .inr ⟨kvs, upd_same, ?_⟩⟩⟩
      have nfp : f ≠ pD := ne_of (bu _ _ (ne_of hf hF0 (by intro z; unfold FnO at z; cases z)) hf) hD0 (by intro z; unfold FnO at z; cases z)
      have nFf : f ≠ dF := ne_of hf hF0 (by intro z; unfold FnO at z; cases z)
      have nFc : F.c ≠ dF := ne_of hco hF0 (by intro z; unfold CodeO at z; cases z)
      have ncF : c ≠ dF := by
        obtain ⟨oc, _, e, _⟩ := hcell
        exact ne_of e hF0 (by intro z; unfold cellO at z; cases z)
      have ef := bu _ _ nFf hf
      have eco := bu _ _ nFc hco
      have ecell : CellF He c (.ref dH) := by
        obtain ⟨oc, u, e, r⟩ := hcell
        exact ⟨oc, u, bu _ _ ncF e, r⟩
      have eH : FD He dH S h := by
        obtain ⟨kh, e, r⟩ := hHt
        exact ⟨kh, bu _ _ nHF e, r⟩
      have kl : kvs.length < sizeLine := by
        have l1 := len_sub Dnd Dks
        rw [List.length_map] at l1
        have l2 := eD.length
        omega
      have lk : ∀ {b : Addr} {o : HO}, b ≠ pD → He b = some o → (upd He pD (.frz od (.dT kvs))) b = some o := fun n e => by rw [upd_ne n]; exact e
      have ef' := lk nfp ef
      have eco' := lk (ne_of eco hD0 (by intro z; unfold CodeO at z; cases z)) eco
      have ecell' : CellF (upd He pD (.frz od (.dT kvs))) c (.ref dH) := by
        obtain ⟨oc, u, e, r⟩ := ecell
        exact ⟨oc, u, lk (ne_of e hD0 (by intro z; unfold cellO at z; cases z)) e, r⟩
      have eH' : FD (upd He pD (.frz od (.dT kvs))) dH S h := by
        obtain ⟨kh, e, r⟩ := eH
        exact ⟨kh, lk (ne_of e hD0 (by intro z; cases z)) e, r⟩
      have lH : Le He (upd He pD (.frz od (.dT kvs))) := Le.upd hD0 (fun z => z)
      have eX' : XD (cS K) (upd He pD (.frz od (.dT kvs))) dF S xk := ⟨kxx, lk npF.symm hkx, hkR.imp fun _ _ _ r => r.le lH⟩
      have hq0' := lk npd.symm hq0
      have hpD : (upd He pD (.frz od (.dT kvs))) pD = some (.frz od (.dT kvs)) := upd_same
      have eD' : RtE (cS K) (upd He pD (.frz od (.dT kvs))) D kvs := eD.le lH
      have sbk : ∀ {Hx : Hp}, Same (upd He pD (.frz od (.dT kvs))) Hx → Same He (upd Hx pD (.dT kvs)) := fun s => Same.unlock hD0 s
      generalize upd He pD (.frz od (.dT kvs)) = Hl at *
      refine fun L hL => lc_map walk_keysT hL (fun H' s => s _ _ hpD) (Nat.le_of_lt kl) (fun j y H' => ∃ e, D[j]? = some e ∧ OsV (cS K) H' (KM.ctr (h t) h xk e.1 (some e.2)) y) (fun j y H1 H2 ws hd b ⟨e, e1, e2⟩ => ⟨e, e1, e2.le (But.le b hd id)⟩) (fun _ _ _ _ _ z => by rw [z.1]; exact Same.refl _) (fun j y Hx Hy Q' hj sx z fk => ?_) (fun Hx ys sx hL2 hyl hys => ?_)
      · obtain ⟨rfl, ky, vv, q, hkv, rfl, hq⟩ := z
        have hj' : j < D.length := by rw [eD'.length]; exact hj
        obtain ⟨kv, hkv2, hk1, hk2⟩ := paired_at' eD' (List.getElem?_eq_getElem hj')
        rw [hkv] at hkv2
        cases hkv2
        generalize hDj : D[j] = e at hk1 hk2
        have hDj2 : D[j]? = some e := by rw [List.getElem?_eq_getElem hj', hDj]
        have hk1' : ky = keyR e.1 := hk1
        subst hk1'
        obtain ⟨vr, evr, hvr⟩ := eD'.val Dnd (List.mem_of_getElem? hDj2)
        have cel := ecell'.same sx
        obtain ⟨oc, uc, ece, _⟩ := id cel
        have nc : ∀ {b : Addr} {o : HO}, Hy b = some o → o ≠ cellO c oc → b ≠ c := fun a n => ne_of a ece n
        refine ⟨rfl, rfl, sx _ _ ef', _, rfl, _, rfl, _, rfl, _, rfl, dR, _, rfl, dgetS (.inl (sx _ _ hq0')) ev, _, rfl, pD, vr, rfl, .inr ⟨kvs, keyR e.1, q, .inr ⟨od, sx _ _ hpD⟩, rfl, hq, evr.symm⟩, _, rfl, sx _ _ ef', sx _ _ eco', _, cel, ?_⟩
        refine ⟨dH, dF, q, vr, t, e.1, e.2, h, xk, S, rfl, rfl, ?_, ?_, htS, by rw [drp_ne (nc hq (by intro z; unfold cellO at z; cases z))]; exact hq, ScV.le (Le.drp ece) (ScV.le (Same.le sx) hvr), fun w => rok.cl t htS e (Dcov.1 e (List.mem_of_getElem? hDj2)) w, fun v H' sv hv n' => fk v _ (Same.bk sv) ⟨e, hDj2, hv.le (Le.bk n')⟩⟩
        · obtain ⟨kh, e1, e2⟩ := eH'.same sx
          exact ⟨kh, by rw [drp_ne (nc e1 (by intro z; unfold cellO at z; cases z))]; exact e1, e2⟩
        · obtain ⟨kz, e1, e2⟩ := eX'.same rle_os sx
          exact ⟨kz, by rw [drp_ne (nc e1 (by intro z; unfold cellO at z; cases z))]; exact e1, e2.imp fun _ _ _ r => r.le (Le.drp ece)⟩
      · have hpx := sx _ _ hpD
        have npL : pD ≠ L := ne_of_none hpD hL
        have lU : Le Hx (upd Hx pD (.dT kvs)) := Le.upd hpx (fun z => z)
        have sU := sbk sx
        have hL3 : (upd Hx pD (.dT kvs)) L = some (.lst ys) := by rw [upd_ne npL.symm]; exact hL2
        have hys3 : ∀ (j : Nat) y, ys[j]? = some y → ∃ e, D[j]? = some e ∧ OsV (cS K) (upd Hx pD (.dT kvs)) (KM.ctr (h t) h xk e.1 (some e.2)) y := fun j y hj => by
          obtain ⟨e, e1, e2⟩ := hys j y hj
          exact ⟨e, e1, e2.le lU⟩
        refine ⟨hpx, ?_⟩
        generalize upd Hx pD (.dT kvs) = Hu at lU sU hL3 hys3
        have pr : Paired (OsV (cS K) Hu) (D.map fun e => KM.ctr (h t) h xk e.1 (some e.2)) ys := by
          refine paired_of (by rw [List.length_map, hyl, eD.length]) fun i a b ha hb => ?_
          obtain ⟨e, e1, e2⟩ := hys3 i b hb
          rw [List.getElem?_map, e1] at ha
          cases ha
          exact e2
        have uX := aX.same rle_os sU
        obtain ⟨v0, gv0, hv0⟩ := uX.get htS
        clear hys hys3 hL2 hpx sx
        refine ⟨_, rfl, _, rfl, dF, v0, rfl, gv0, _, rfl, L, ys, _, rfl, hL3, pr, fun v3 H3 s3 hv3 => ⟨by show 2 ≤ sizeLine; decide, fun l2 hl2 => ⟨l2, _, [xk t, KM.Mm (h t) h xk (G t)], rfl, upd_same, .cons (hv0.le (Same.le (s3.trans (Same.upd hl2)))) (.cons (by rw [mnL_Mm, eM] at hv3; exact hv3.le (Le.new hl2)) .nil), fun v4 H4 s4 hv4 => ?_⟩⟩⟩
        rw [mnL_two] at hv4
        generalize hbst : KM.mn (xk t) (KM.Mm (h t) h xk (G t)) = bst at hv4 eS
        have sV := sU.trans (s3.trans ((Same.upd hl2).trans s4))
        have vX := aX.same rle_os sV
        obtain ⟨v5, gv5, hv5⟩ := vX.get htS
        refine ⟨_, rfl, _, rfl, _, rfl, dF, v5, rfl, gv5, bst, xk t, hv4, hv5, fun q => ?_, fun H5 s5 => ⟨_, rfl, ?_⟩⟩
        · have := KM.mn_le_left (xk t) (KM.Mm (h t) h xk (G t))
          rw [hbst, q] at this
          cases e : xk t with
          | none => rfl
          | some s => rw [e] at this; exact absurd this (by simp [KM.leO])
        have sW := sV.trans s5
        have wX := vX.same rle_os s5
        have bW := bu.trans (Same.but dF sW)
        have lW := sW _ _ al
        by_cases q : bst = xk t
        · rw [q, KM.up_self] at eS
          refine iF (by rw [decide_eq_true q]; rfl) ⟨⟨_, _, _, _, b, rfl, fun z => by rw [eS]; exact b0 z, fun z => ?_⟩, bW, lW, by rw [eS]; exact wX⟩
          obtain ⟨t', ht', hne⟩ := b1 z
          exact ⟨t', by rw [tk]; exact List.mem_append_left _ ht', by rw [eS]; exact hne⟩
        · obtain ⟨kw, w1, w2⟩ := wX
          refine iT (by rw [decide_eq_false q]; rfl) ⟨_, rfl, _, rfl, _, rfl, dF, _, rfl, DPut.k (k := Sum.inr t) w1 (by rw [w2.length]; exact Nat.lt_of_le_of_lt hSl (by decide)), ?_⟩
          refine ⟨⟨_, _, _, _, true, rfl, (fun z => by cases z), fun _ => ⟨t, by rw [tk]; simp, by rw [eS, KM.up_same, ← ext]; exact q⟩⟩, bW.trans But.upd, by rw [upd_ne dlf.symm]; exact lW, _, upd_same, ?_⟩
          rw [eS]
          have lZ : Le H5 (upd H5 dF (.dK (putK kw (Sum.inr t) v4))) := Le.dK w1
          exact w2.put htS (fun y u _ hy r => by rw [KM.up_ne hy]; exact r.le lZ) (by rw [KM.up_same]; exact hv4.le ((Same.le s5).trans lZ))
    · obtain ⟨⟨p4, p5, p6, p7, b, rfl, b0, b1⟩, bu, _, aX⟩ := p
      have eN : KM.rsF h G (S.take (S.map V.str).length) x = xI (j + 1) := by
        rw [List.length_map, List.take_length, ← hx0]; rfl
      rw [eN] at b0 b1 aX
      cases b with
      | false => 
        have est := b0 rfl
        refine ⟨0, by omega, _, _, _, _, false, j + 1, rfl, bu, aX, (fun z => by cases z), fun _ => ⟨rfl, ?_⟩⟩
        rw [est, ← hx0]
        show xI (j + 1) = xI j
        rw [est, hx0]
      | true =>
        obtain ⟨t, _, ht⟩ := b1 rfl
        have hj2 : j ≠ 1001 := fun z => by
          subst z
          apply ht
          rw [← hx0]
          show rs (xI 1001) t = _
          rw [hstand]
        exact ⟨1002 - (j + 1), by omega, _, _, _, _, true, j + 1, rfl, bu, aX, fun _ => ⟨by omega, rfl⟩, fun z => by cases z⟩
end
end K52

namespace K52
open PySem PySem.Spec PyProof.Rows L2 NdefX LamX
abbrev s_scr : Stmt := (defBody s_tallest).getD 5 (.Pass ⟨0, 0, 0, 0⟩)
def N_tallest_script_of : List Str := ["one", "key", "script", "others", "heights", "word", "target", "gain"]
theorem sc_scr : NScope N_tallest_script_of ["one", "key", "script", "others"] ["heights"] (C8.fnScope s_scr) := nscope_by (by decide +kernel)
theorem wS_push {w : KM.RW} : wS w = "push" ↔ w = .push := ⟨fun h => wS_inj (b := .push) h, fun h => by rw [h]; rfl⟩
theorem wS_call {w : KM.RW} : wS w = "call" ↔ w = .call := ⟨fun h => wS_inj (b := .call) h, fun h => by rw [h]; rfl⟩
theorem vstr_ne {a b : Str} (h : a ≠ b) : ¬ V.str a = V.str b := fun z => h (by injection z)
theorem vint_ne {a b : Int} (h : a ≠ b) : ¬ V.int a = V.int b := fun z => h (by injection z)
section
variable {P : Program} {w : World} {K : PySem.W.Frag} {mg : Str → Option Value} {base : Heap}
theorem scr_ok (T : Txt K mg) {f c' : Addr} {qual : Str} {cl : List (Str × Addr)} : NOk P w K mg base CX0 7 f (NF.of s_scr "script_of" qual cl c') ["one", "key", "script", "others"] ["heights"] (spScr (cS K)) := by
  have c_joined := c_joined (P := P) (w := w) (base := base) T
  refine nok_of (k := 6) sc_scr (fun _ _ _ us hl => match us, hl with | [_, _, _, _], _ => rfl) (fun ws vs H Q E h => by obtain ⟨_, _, _, _, _, _, _, _, _, _, rfl, rfl, _⟩ := h; rfl) (fun A outer s H vs ws Q E hr hf hc hl h => ?_)
  obtain ⟨dH, dX, kt, sv, one, k, sc, h, x, S, rfl, rfl, hHt, hX, h1, hk, hsv, hin, kk⟩ := h
  have nd := sc_scr.nd
  have hu := hu_of hr
  refine ⟨_, (pss_cons (ps_asg (pv 1) (pg_tup (by rfl) (pgs_cons (pg_name (i := 5) nd rfl (Or.inl rfl)) (pgs_cons (pg_name (i := 6) nd rfl (Or.inl rfl)) (pgs_cons (pg_name (i := 7) nd rfl (Or.inl rfl)) pgs_nil)))))
  (pss_cons (ps_if (PW.pt (pw_and (pt_cmpR op_eq (pv 5) pe_str (nomark _)) (pw_and1 (pt_cmpR op_eq (pv 7) (pe_dget hu (pv 4) (pv 0) (fun _ _ => rfl)) (nomark _))))) (pss_one (ps_ret (pv 2))) pss_nil)
  (pss_cons (ps_if (PW.pt (pw_and (pt_cmpR op_eq (pv 5) pe_str (nomark _)) (pw_and1 (pt_cmpR op_eq (pe_op op_add (pv 7) (pe_dget hu (pv 4) (pv 6) (fun _ _ => rfl))) (pe_dget hu (pv 4) (pv 0) (fun _ _ => rfl)) (nomark _))))) (pss_one (ps_ret (pe_c c_joined hr (by decide) rfl (pa_cons (pv 2) (pa_cons (pe_dget hu (pv 3) (pv 6) (fun _ _ => rfl)) pa_nil))))) pss_nil)
  (pss_one (ps_ret pe_non))))), ?_⟩
  obtain ⟨w0, n0, g0⟩ := k
  have g1 := hHt.get h1
  cases w0 with
  | enter =>
    have hk' : H kt = some (.tup [.str "enter", .str n0, .int (g0 : Nat)]) := hk
    refine ⟨_, rfl, kt, _, rfl, SqT.of hk', rfl, _, _, rfl, _, _, rfl, _, _, rfl, rfl, ?_⟩
    refine ⟨_, rfl, rfl, _, rfl, dF (by decide) (iF rfl ?_)⟩
    exact ⟨_, rfl, rfl, _, rfl, dF (by decide) (iF rfl (kk .non H (Same.refl _) rfl))⟩
  | push =>
    have hk' : H kt = some (.tup [.str "push", .str n0, .int (g0 : Nat)]) := hk
    refine ⟨_, rfl, kt, _, rfl, SqT.of hk', rfl, _, _, rfl, _, _, rfl, _, _, rfl, rfl, ?_⟩
    refine ⟨_, rfl, rfl, _, rfl, dT (by decide) ?_⟩
    refine ⟨_, rfl, _, rfl, _, rfl, dH, _, rfl, g1, rfl, _, rfl, ?_⟩
    by_cases e : g0 = h one
    · refine dT (by rw [e]) ⟨_, rfl, kk sv H (Same.refl _) ?_⟩
      show OsV (cS K) H (if g0 = h one then some sc else none) sv
      rw [if_pos e]; exact hsv
    · refine dF (vint_ne (by omega)) ?_
      refine ⟨_, rfl, rfl, _, rfl, dF (by decide) (iF rfl (kk .non H (Same.refl _) ?_))⟩
      show OsV (cS K) H (if g0 = h one then some sc else none) .non
      rw [if_neg e]; rfl
  | call =>
    have hk' : H kt = some (.tup [.str "call", .str n0, .int (g0 : Nat)]) := hk
    refine ⟨_, rfl, kt, _, rfl, SqT.of hk', rfl, _, _, rfl, _, _, rfl, _, _, rfl, rfl, ?_⟩
    refine ⟨_, rfl, rfl, _, rfl, dF (by decide) (iF rfl ?_)⟩
    have hn : n0 ∈ S := hin rfl
    have g2 := hHt.get hn
    refine ⟨_, rfl, rfl, _, rfl, dT (by decide) ?_⟩
    refine ⟨_, rfl, _, rfl, _, rfl, dH, _, rfl, g2, _, _, rfl, rfl, _, rfl, _, rfl, dH, _, rfl, g1, rfl, _, rfl, ?_⟩
    by_cases e : g0 + h n0 = h one
    · refine dT (by rw [← e]; simp) ?_
      obtain ⟨vx, gx, hx⟩ := hX.get hn
      refine ⟨_, rfl, _, rfl, _, rfl, dX, _, rfl, gx, _, _, some sc, x n0, rfl, hsv, hx, fun v H' s' hv => kk v H' s' ?_⟩
      show OsV (cS K) H' (if g0 + h n0 = h one then KM.pl (some sc) (x n0) else none) v
      rw [if_pos e]; exact hv
    · refine dF (vint_ne (by omega)) (kk .non H (Same.refl _) ?_)
      show OsV (cS K) H (if g0 + h n0 = h one then KM.pl (some sc) (x n0) else none) .non
      rw [if_neg e]; rfl
end
end K52

namespace K52
open PySem PySem.Spec PyProof.Rows L2 NdefX LamX
theorem FunD.okC {P : Program} {w : World} {K : PySem.W.Frag} {mg : Str → Option Value} {base : Heap} {x qual : Str} {params : Arguments} {body : List Stmt} {scope : Scope} {dvs : List V} {kws : List (Str × V)} {f cc : Addr} {fd : FuncData} {N ps : List Str} {k : Nat} {sp : Sp} (F : FunD K x qual params body scope dvs kws f fd) (hc : fd.code = .ref cc) (S : FnScope N ps scope) (len : ∀ vs H Q E, sp vs H Q E → vs.length = ps.length)
    (hbody : ∀ (A : Around) (outer : List Env) (s : Shared) (H : Hp) (vs : List V) (Q : VK) (E : XK), Room k (A.deeper (envOfC qual scope s.heap.objs.size f (.ref cc))) → sp vs H Q E →
      ∃ t, PSs (cxOf CX0 P w K mg base N qual scope f (.ref cc) A outer s H E).nox body t ∧ t { nx := fun _ H' => Q .non H', rt := Q } (start N vs) H) : FnOk P w K mg base CX0 (k + 1) f fd ps sp := by
  obtain ⟨oc, od, dV, kV, doc, pm, an, cdv, ct, osl, rfl, lk, hcd, _, _⟩ := F.ex
  have e : cdv = .ref cc := hc
  subst e
  refine fn_of lk hcd S len fun A outer s H vs Q E hr hsp => ?_
  obtain ⟨t, h1, h2⟩ := hbody A outer s H vs Q E hr hsp
  exact ⟨t, h1.nox, h2⟩
/-- the tables of code objects of tallest and of Table.__init__ -/
structure TbA (base : Heap) (mg : Str → Option Value) (ct Pt ci Pi : Addr) : Prop where
  t : TabB base mg ct Pt
  i : TabB base mg ci Pi
  ne : Pt ≠ Pi
def TTs (Pt Pi : Addr) : List NTab := [(Pt, fun _ _ => "tallest.<locals>.script_of"), (Pi, fun _ _ => "Table.__init__.<locals>.<lambda>")]
theorem TabsN.same {T : List NTab} {H H' : Hp} (s : Same H H') (h : TabsN T H) : TabsN T H' := h.ext fun b o e => s b o e
theorem ExtN.of_same {H H' : Hp} (s : Same H H') : ExtN H H' := ExtN.of fun b o e => s b o e
theorem TabsN.extD {T : List NTab} {H H' : Hp} (t : TabsN T H) (e : ∀ b o, H b = some o → (∀ k, o ≠ .dK k) → H' b = some o) : TabsN T H' := fun p hp => by
  obtain ⟨ps, h1, h2, h3⟩ := t p hp
  refine ⟨ps, e _ _ h1 (by intro k z; cases z), h2, fun pos cv hc => ?_⟩
  obtain ⟨c, e1, e2⟩ := h3 pos cv hc
  exact ⟨c, e1, e _ _ e2 (by intro k z; unfold CodeO at z; cases z)⟩
theorem tts_u1 {Pt Pi : Addr} (n : Pt ≠ Pi) : ∀ p ∈ TTs Pt Pi, p.1 = Pt → p.2 = fun _ _ => ("tallest.<locals>.script_of" : Str) := fun p hp e => by
  rcases List.mem_cons.mp hp with z | z
  · rw [z]
  · rw [List.mem_singleton.mp z] at e
    exact absurd e.symm n
theorem tts_u2 {Pt Pi : Addr} (n : Pt ≠ Pi) : ∀ p ∈ TTs Pt Pi, p.1 = Pi → p.2 = fun _ _ => ("Table.__init__.<locals>.<lambda>" : Str) := fun p hp e => by
  rcases List.mem_cons.mp hp with z | z
  · rw [z] at e
    exact absurd e n
  · rw [List.mem_singleton.mp z]
section
variable {P : Program} {w : World} {K : PySem.W.Frag} {mg : Str → Option Value} {base : Heap}
def spTl (C CS Pt Pi : Addr) : Sp := fun vs H Q _ => ∃ a x by_ af ac M fl cl Rd, ∃ S : List Str, vs = [.ref a, .str x, .str by_] ∧ TabA C af ac M fl cl Rd H a ∧ x ∈ fl ∧ S.Nodup ∧ (∀ t, t ∈ S ↔ KM.InS M (KM.entC M (KM.cst M fl)) x t) ∧ TabsN (TTs Pt Pi) H ∧
  ∀ v H', ExtN H H' → TabsN (TTs Pt Pi) H' → OsV CS H' ((KM.hgt M "" (wtF ac by_) (KM.cst M fl) S).bind fun h => KM.uI h (fun f => rtB M ac by_ (M.bd f)) S x) v → Q v H'
theorem c_tallest (T : Txt K mg) {ct Pt ci Pi : Addr} (TB : TbA base mg ct Pt ci Pi) (hcode : ∀ f fd, FunD K "tallest" "tallest" (defArgs s_tallest) (defBody s_tallest) (defScope s_tallest) [] [("by", .str "frames")] f fd → mg "tallest" = some (.ref f) → fd.code = .ref ct) : CalK P w K mg base 51 "tallest" (spTl (cT K) (cS K) Pt Pi) := by
  have c_look_name := c_look_name (P := P) (w := w) (base := base) T
  have c_heights_from := c_heights_from (P := P) (w := w) (base := base) T
  have c_routes_of := c_routes_of (P := P) (w := w) (base := base) T
  have c_settled_scripts := c_settled_scripts (P := P) (w := w) (base := base) T
  obtain ⟨pn, gn, fdn, Fn, bn, cmn⟩ := m_none (P := P) (w := w) (base := base) T
  obtain ⟨f, fd, F, g⟩ := T.d_tallest
  refine ⟨f, fd, ["table", "name", "by"], FunD.okC F (hcode f fd F g) sc_tallest (fun vs H Q E h => ?_) (fun A outer s H vs Q E hr h => ?_), g, F.kp, ?_⟩
  · obtain ⟨_, _, _, _, _, _, _, _, _, _, rfl, _⟩ := h; rfl
  · obtain ⟨a, x, by_, af, ac, M, fl, cl, Rd, S, rfl, hT, hx, hSn, hS, hTn, kk⟩ := h
    have nd := sc_tallest.nd
    have hu := hu_of hr
    refine ⟨_, (pss_cons (ps_expr (pe_c c_look_name hr (by decide) rfl (pa_cons (pv 0) (pa_cons (pv 1) pa_nil))))
  (pss_cons (ps_set (i := 6) nd rfl (Or.inr rfl) (pe_c c_heights_from hr (by decide) rfl (pa_cons (pv 0) (pa_cons (pv 1) (pa_cons (pv 2) pa_nil)))))
  (pss_cons (ps_if (pt_cmpR op_isN (pv 6) pe_non (nomark _)) (pss_one (ps_ret pe_non)) pss_nil)
  (pss_cons (ps_set (i := 3) nd rfl (Or.inl rfl) (pe_c c_routes_of hr (by decide) rfl (pa_cons (pv 0) (pa_cons (pv 2) pa_nil))))
  (pss_cons (ps_lock (ps_setDc (i := 4) (own := [("one", 7)]) rfl nd rfl rfl (swd_true rfl rfl rfl (by decide +kernel)) (pi_keys (pv 6)) (blkOk_by (N := N_tallest) (sc := defScope s_tallest) (by decide +kernel)) (fun _ _ _ _ _ => (pg_name (i := 7) nd rfl (Or.inl rfl))) (fun _ _ _ _ _ => pts_nil) (fun _ _ _ _ _ => (pv 7)) (fun _ _ _ _ _ => (pe_ifExp (pt_cmpR op_eq (pe_dget hu (pv 6) (pv 7) (fun _ _ => rfl)) pe_int (nomark _)) (pe_cmeth0 (pe_glob (v := .ref _) rfl T.g_Script rfl) T.crS cmn Fn bn (hr.mono (by decide)) pass0) pe_non))))
  (pss_cons (ps_ndefMS (st := s_scr) (T := TTs Pt Pi) (i := 5) rfl TB.t rfl (List.mem_cons_self ..) rfl (tts_u1 TB.ne) (ndef_free (sc := defScope s_tallest) (nsc := C8.fnScope s_scr) (fr := ["heights"]) (by decide +kernel)) rfl rfl rfl nd rfl (Or.inl rfl) (Or.inr rfl))
  (pss_one (ps_ret (pe_dget hu (pe_callCl (j := 6) (y := "heights") c_settled_scripts hr (by decide) rfl rfl rfl rfl (pa_cons (pv 3) (pa_cons (pv 4) (pa_cons (pv 5) pa_nil)))) (pv 1) (fun _ _ => rfl)))))))))), ?_⟩
    have ok := hT.ok
    refine ⟨_, rfl, _, rfl, a, x, af, ac, M, fl, cl, Rd, rfl, hT, hx, ?_⟩
    refine ⟨_, rfl, _, rfl, _, rfl, a, x, by_, af, ac, M, fl, cl, Rd, S, rfl, hT, hx, hSn, hS, fun hN H' s' => ?_, fun h hh H1 d S' s1 hd hf hn hm hl => ?_⟩
    · have := kk .non H' (ExtN.of_same s') (TabsN.same s' hTn) (by rw [hN]; rfl)
      exact ⟨_, rfl, rfl, _, rfl, iT (by rfl) this⟩
    refine ⟨_, rfl, rfl, _, rfl, iF (by rfl) ?_⟩
    refine ⟨_, rfl, _, rfl, a, by_, af, ac, M, fl, cl, Rd, rfl, hT.same s1, fun q H2 s2 hq hR => ?_⟩
    obtain ⟨kh, hk0, hkR⟩ := id hf
    have hk2 := s2 _ _ hk0
    have khl := hkR.length
    have hz : 32 ≤ sizeLine := by decide
    refine ⟨d, _, hk2, trivial, fun od => ⟨_, rfl, d, od, rfl, .inl ⟨kh, upd_same, ?_⟩⟩⟩
    refine fun D hD => dc_map2 walk_keys (names := S') khl.symm hn hD (fun H' s => s _ _ upd_same) (by omega) (fun t v H' => OsV (cS K) H' (KM.x0 h S' t) v) (fun t y H3 H4 ws hd' bu r => r.le (But.le bu hd' id)) (fun _ _ _ _ _ z => by rw [z.1]; exact Same.refl _) (fun i nm y H3 H4 Q' hnm s3 hD3 z kq => ?_) (fun Hb kF sb hF1 hF2 => ?_)
    · obtain ⟨rfl, ky, vv, hkv, rfl⟩ := z
      have eky : ky = Sum.inr nm := by
        have e1 : (kh.map (·.1))[i]? = some ky := by rw [List.getElem?_map, hkv]; rfl
        rw [hkR.1, List.getElem?_map, hnm] at e1
        injection e1 with e1
        exact e1.symm
      subst eky
      have hnS : nm ∈ S' := List.mem_of_getElem? hnm
      obtain ⟨v0, ev0, rfl⟩ := hkR.val hnS
      refine ⟨rfl, _, rfl, _, rfl, _, rfl, d, _, rfl, dgetS (.inr ⟨od, s3 _ _ upd_same⟩) ev0, rfl, _, rfl, ?_⟩
      by_cases e : h nm = 0
      · refine dT (by rw [e]; rfl) ⟨rfl, rfl, fun v H5 s5 hv => kq v H5 s5 ?_⟩
        show OsV (cS K) H5 (if nm ∈ S' ∧ h nm = 0 then KM.zero else none) v
        rw [if_pos ⟨hnS, e⟩]; exact hv
      · refine dF (vint_ne (by omega)) (kq .non _ (Same.refl _) ?_)
        show OsV (cS K) _ (if nm ∈ S' ∧ h nm = 0 then KM.zero else none) .non
        rw [if_neg fun z => e z.2]; rfl
    · have hdb := sb _ _ (upd_same (H := H2) (a := d) (o := .frz od (.dK kh)))
      refine ⟨hdb, ?_⟩
      have ndD : D ≠ d := fun z => by rw [z] at hD; rw [upd_same] at hD; cases hD
      have hD2 : H2 D = none := by rw [upd_ne ndD] at hD; exact hD
      have hD0 : H D = none := (s1.trans s2).free hD2
      have sU : Same H2 (upd Hb d (.dK kh)) := Same.unlock hk2 sb
      have sAll := s1.trans (s2.trans sU)
      have lU : Le Hb (upd Hb d (.dK kh)) := Le.upd hdb (fun z => z)
      have cD : (upd Hb d (.dK kh)) D = some (.dK kF) := by rw [upd_ne ndD]; exact hF1
      have cX : DRel S' (fun t v => OsV (cS K) (upd Hb d (.dK kh)) (KM.x0 h S' t) v) kF := hF2.imp fun _ _ _ r => r.le lU
      have cH : (upd Hb d (.dK kh)) d = some (.dK kh) := upd_same
      have cR := hR.same sU
      generalize upd Hb d (.dK kh) = Hc at sU sAll cD cX cH cR
      clear hF1 hF2 hdb lU sb
      refine ⟨TabsN.same sAll hTn, fun fS c' H4 eN nn hTs f0 f1 c1 => ?_⟩
      refine ⟨_, rfl, _, rfl, _, rfl, .ref d, rfl, fun c oc hc hcn hcell => ?_⟩
      have hxs : x ∈ M.fs := (ok.fm x).mp hx
      have Sfs : ∀ t ∈ S', t ∈ M.fs := fun t ht => KM.InS.fs ok.ok hxs ((hS t).mp ((hm t).mp ht))
      have up4 : ∀ {b : Addr} {o : HO}, H4 b = some o → (upd H4 c (cellO c oc)) b = some o := fun e => by rw [upd_ne (ne_of_none e hcn)]; exact e
      have k4 : ∀ {b : Addr} {o : HO}, Hc b = some o → (∀ ps, o ≠ .tbl ps) → (upd H4 c (cellO c oc)) b = some o := fun e n => up4 (eN _ _ e n)
      have l4 : Le Hc (upd H4 c (cellO c oc)) := fun b o st e => k4 e (fun ps z => by rw [z] at st; exact st)
      have hxS : x ∈ S' := (hm x).mpr ((hS x).mpr (.inl rfl))
      obtain ⟨kr, r1, r2⟩ := id cR
      have nqD : q ≠ D := by
        obtain ⟨_, e, _⟩ := hR
        exact ne_of_none e hD2
      have e4 : H4 D = some (.dK kF) := eN _ _ cD (by intro ps z; cases z)
      have ncD : c ≠ D := (ne_of_none e4 hcn).symm
      have fc : ∀ f ∈ M.fs, KM.cst M fl f = KM.cen (KM.cst M fl) (KM.carms M (KM.cst M fl)) (M.bd f) := KM.cst_fix ok.fm ok.fnd
      refine ⟨q, D, d, fS, c, _, h, fl, (fun f => rtB M ac by_ (M.bd f)), KSn (nmA fl cl), S', rfl, ⟨scr_ok T, fun z e hz => ?_, ?_⟩, up4 f1, up4 c1, hcell, ⟨kh, k4 cH (by intro ps z; cases z), hkR⟩, ndD.symm, nqD, ⟨kr, k4 r1 (by intro ps z; cases z), r2.imp fun y v _ ⟨p, e, np, D', kv, g1, g2, g3⟩ => ⟨p, e, np, D', kv, k4 g1 (by intro ps z; cases z), g2.le l4, g3⟩⟩, fun t ht => (ok.fm t).mpr (Sfs t ht), hn, hl, ⟨fun f hf => (KM.rts_good ok.ok (ok.ok.bp f (Sfs f hf))).pos, fun f hf => (KM.rts_good ok.ok (ok.ok.bp f (Sfs f hf))).small, fun f hf e he w => (hm _).mpr ((hS _).mpr (KM.InS.step ((hS f).mp ((hm f).mp hf)) (KM.rts_vis ok.ok fc (ok.ok.bc f (Sfs f hf)) (ok.ok.bp f (Sfs f hf)) e he w)))⟩, fun f hf => (KM.rts_good ok.ok (ok.ok.bp f (Sfs f hf))).pre, allK_small (by unfold nmA; rw [List.length_cons, List.length_append]; have := ok.fz; have := ok.cz; omega), ⟨kF, k4 cD (by intro ps z; cases z), cX.imp fun _ _ _ r => r.le l4⟩, fun H' bu hX' => ?_⟩
      · have hz' : ([("heights", s.heap.objs.size + 1)] : List (Str × Addr)).lookup z = some e := hz
        have hc' : some (s.heap.objs.size + 1) = some c := hc
        cases hc'
        rw [List.lookup_cons] at hz'
        split at hz'
        · rename_i q
          cases hz'
          exact ⟨by simpa using q, rfl⟩
        · cases hz'
      · exact hc
      · have ec : H' c = some (cellO c oc) := bu _ _ ncD upd_same
        have l' := Le.drp ec
        obtain ⟨k5, g1, g2⟩ := hX'
        obtain ⟨vx, ev, hv⟩ := g2.val hxS
        have keep : ∀ b o, H4 b = some o → b ≠ D → (drp H' c) b = some o := fun b o e n => by
          rw [drp_ne (ne_of_none e hcn)]; exact bu _ _ n (up4 e)
        refine ⟨_, rfl, D, vx, rfl, dgetS (.inl (by rw [drp_ne ncD.symm]; exact g1)) ev, kk vx _ (fun b o e n => keep b o (eN _ _ (sAll _ _ e) n) (ne_of_none e hD0)) (TabsN.extD hTs fun b o e n => keep b o e (fun z => by rw [z, e4] at e; cases e; exact n _ rfl)) ?_⟩
        rw [hh]
        show OsV (cS K) _ (KM.uI h (fun f => rtB M ac by_ (M.bd f)) S x) vx
        rw [← KM.uI_same hm]
        exact hv.le l'
  · obtain ⟨oc, od, dV, kV, doc, pm, an, cdv, ct, osl, rfl, lk, hcd, hD, hK⟩ := F.ex
    rcases hD with ⟨_, rfl⟩ | ⟨e, _⟩
    · exact ⟨fun s us ws X l1 l2 => match us, l1, ws, l2 with | [_, _], _, [_], _ => BindsTo.of_eq rfl, fun r1 r2 => vals_app r1 r2⟩
    · exact absurd rfl e
end
end K52

namespace K52
open PySem PySem.Spec PyProof.Rows L2 NdefX LamX
/-! ### a lambda as a value -/
/-- the object at f is the lambda of the words F (its body F.body is no matter), with the expression e -/
def LamO (f : Addr) (F : NF) (e : Expr) : HO := .ext fun h => ∃ pm ctv : Value, h.get? f = some (PySem.W.kla_obj F.name F.qual F.params e F.scope F.cl pm F.c ctv)
theorem lamO_at {P : Program} {w : World} {H : Hp} {h : Heap} {f : Addr} {F : NF} {e : Expr} (hok : HOk P w H h) (q : H f = some (LamO f F e)) : ∃ pm ctv : Value, h.get? f = some (PySem.W.kla_obj F.name F.qual F.params e F.scope F.cl pm F.c ctv) := (hok f _ q).1
abbrev lamF (q : Str) (params : Arguments) (scope : Scope) (c : Addr) : NF := ⟨"<lambda>", q, params, [], scope, [], c⟩
theorem clo_nil {cells : List (Str × Addr)} {names : List (Str × NameKind)} (h : ∀ y ∈ names, y.2 ≠ .free) : cloFrom cells names [] = [] := by
  have : ∀ (names : List (Str × NameKind)) (acc : List (Str × Addr)), (∀ y ∈ names, y.2 ≠ .free) → cloFrom cells names acc = acc.reverse ∨ cloFrom cells names acc = acc := by
    intro names
    induction names with
    | nil => intro acc _; first | exact .inl rfl | exact .inr rfl
    | cons y l ih =>
      intro acc hy
      obtain ⟨n, k⟩ := y
      have hk : k ≠ .free := hy (n, k) List.mem_cons_self
      have := ih acc fun z hz => hy z (List.mem_cons_of_mem _ hz)
      cases k <;> first | exact absurd rfl hk | exact this
  rcases this names [] h with z | z
  · simpa using z
  · exact z
section
variable {X : Cx} {pins : List (Addr × Obj)} {σ : L2.St} {H : Hp} {s : Shared}
theorem lam_laid {F : NF} {e : Expr} {pm ctv : Value} {t' : Nat} (I : Inv X pins σ H s) : Inv X pins σ (upd H s.heap.objs.size (LamO s.heap.objs.size F e)) { s with heap := s.heap.push (PySem.W.kla_obj F.name F.qual F.params e F.scope F.cl pm F.c ctv), toks := t' } := by
  refine I.laid (fun b u q => Heap.get?_push_of_some _ q) (Nat.le_refl _) ?_
  have g : (s.heap.push (PySem.W.kla_obj F.name F.qual F.params e F.scope F.cl pm F.c ctv)).get? s.heap.objs.size = some (PySem.W.kla_obj F.name F.qual F.params e F.scope F.cl pm F.c ctv) := Heap.get?_push_size _ rfl
  exact ⟨⟨pm, ctv, g⟩, ⟨_, g⟩, fun h1 h2 ⟨p, t, z⟩ st => ⟨p, t, st _ z⟩⟩
end
/-- the reading of a lambda without captured names -/
def tLamV (T : List NTab) (q : Str) (params : Arguments) (body : Expr) (scope : Scope) : TE := fun _ H Q => TabsN T H ∧ ∀ (f c' : Addr) (H1 : Hp), ExtN H H1 → TabsN T H1 → H f = none → H1 f = some (LamO f (lamF q params scope c') body) → H1 c' = some (CodeO c' q) → Q (.ref f) H1
theorem pe_lam {X : Cx} {T : List NTab} {nm : Nat → Nat → Str} {c P : Addr} {q : Str} {params : Arguments} {body : Expr} {scope : Scope} {pos : Pos} (TB : TabB X.base X.mg c P) (hcode : X.env.code = .ref c) (hm : (P, nm) ∈ T) (hq : X.env.qual ++ "<lambda>" = q) (hn : nm pos.line pos.col = q)
    (hu : ∀ p ∈ T, p.1 = P → p.2 = nm) (hdef : defaultsOf params X.env = ([], [])) (hfree : ∀ y ∈ scope.names, y.2 ≠ .free) : PE X (.Lambda params body scope pos) (tLamV T q params body scope) := by
  refine ⟨fun pins s σ H Q I h => ?_⟩
  obtain ⟨hT, h⟩ := h
  obtain ⟨ps, hP, ht, ha⟩ := (show TabN H P nm from hT _ hm)
  have bP : s.heap.BuiltinsAt X.mg P := TB.bm.keeps I.bk
  have gP : s.heap.get? P = some { cls := .none, data := .fields ps } := I.hok P _ hP
  have hcl : closureFor scope X.env = pure (cloFrom X.env.cells scope.names []) := closure_ok fun y hy e => absurd e (hfree y hy)
  rw [clo_nil hfree] at hcl
  refine PySem.W.kla_eval hdef ?_
  rw [hq]
  cases hc : codeAmong pos ps.toList with
  | none =>
    refine PySem.W.kla_makeFunction (mg := X.mg) (c := c) (P := P) (ps := ps) hcl I.ok.glob (I.mod.glob.keeps I.bk) hcode (TB.code.keeps I.bk) gP ht hc TB.gP bP fun c' ctv h' tk hx hge hlt hrec htb => ?_
    obtain ⟨c2, oc, vs, t, e2, hoc, hd, hv⟩ := hrec
    cases e2
    have nC : H c' = none := I.hok.fresh hge
    have I1 := inv_table (t' := tk) (more := #[rawInt pos.line, rawInt pos.col, .ref c']) (h' := h') I hP (fun b o hb e => hx b o hb e) htb hge ⟨oc, vs, t, hoc, hd, hv⟩
    have nP : P ≠ c' := ne_of_none hP nC
    have stay : ∀ b o, H b = some o → (∀ ps, o ≠ .tbl ps) → (upd (upd H P (.tbl (ps ++ #[rawInt pos.line, rawInt pos.col, .ref c']))) c' (CodeO c' q)) b = some o := fun b o e n => by
      rw [upd_ne (ne_of_none e nC), upd_ne fun z => n ps (Option.some.inj (e.symm.trans (by rw [z]; exact hP)))]
      exact e
    have T1 : TabsN T (upd (upd H P (.tbl (ps ++ #[rawInt pos.line, rawInt pos.col, .ref c']))) c' (CodeO c' q)) := fun p hp => by
      by_cases hb : p.1 = P
      · rw [hu p hp hb, hb]
        have eL : (ps ++ #[rawInt pos.line, rawInt pos.col, .ref c']).toList = ps.toList ++ [rawInt pos.line, rawInt pos.col, .ref c'] := by simp
        refine ⟨_, by rw [upd_ne nP, upd_same], by rw [eL]; exact PySem.TriplesOk_snoc _ _ _ _ ht, fun p' cv hcv => ?_⟩
        rw [eL] at hcv
        rcases among_app2 _ ht hcv with z | ⟨z, z1, z2⟩
        · obtain ⟨c0, e1, e2⟩ := ha p' cv z
          exact ⟨c0, e1, stay _ _ e2 codeO_ne⟩
        · exact ⟨c', z, by rw [← z1, ← z2, hn]; exact upd_same⟩
      · obtain ⟨ps', a1, a2, a3⟩ := hT p hp
        refine ⟨ps', by rw [upd_ne (ne_of_none a1 nC), upd_ne hb]; exact a1, a2, fun p' cv hcv => ?_⟩
        obtain ⟨c0, e1, e2⟩ := a3 p' cv hcv
        exact ⟨c0, e1, stay _ _ e2 codeO_ne⟩
    have nF := I1.hok.fresh (Nat.le_refl _)
    have I2 := lam_laid (t' := tk) (F := lamF q params scope c') (e := body) (pm := (X.mg "__name__").getD .none) (ctv := ctv) I1
    refine ⟨.ref h'.objs.size, _, I2, rfl, h _ c' _ (fun b o e n => ?_) (TabsN.same (fun b o e => by rw [upd_ne (ne_of_none e nF)]; exact e) T1) (I.hok.fresh (Nat.le_trans hge (Nat.le_of_lt hlt))) upd_same ?_⟩
    · have e1 := stay b o e n
      rw [upd_ne (ne_of_none e1 nF)]; exact e1
    · rw [upd_ne (Nat.ne_of_lt hlt)]; exact upd_same
  | some cv =>
    obtain ⟨c', e, hco⟩ := ha pos cv hc
    subst e
    rw [hn] at hco
    refine PySem.W.kla_makeFunctionHit (mg := X.mg) (c := c) (P := P) (ps := ps) hcl I.ok.glob (I.mod.glob.keeps I.bk) hcode (TB.code.keeps I.bk) gP ht hc bP fun ctv h' tk hx hsz => ?_
    have I1 : Inv X pins σ H { s with heap := h', toks := tk } := I.kept hx
    have nF : H h'.objs.size = none := I1.hok.fresh (Nat.le_refl _)
    have I2 := lam_laid (t' := tk) (F := lamF q params scope c') (e := body) (pm := (X.mg "__name__").getD .none) (ctv := ctv) I1
    have st : Same H (upd H h'.objs.size (LamO h'.objs.size (lamF q params scope c') body)) := Same.upd nF
    exact ⟨.ref h'.objs.size, _, I2, rfl, h _ c' _ (ExtN.of_same st) (TabsN.same st hT) nF upd_same (st _ _ hco)⟩
end K52

namespace K52
open PySem PySem.Spec PyProof.Rows L2 NdefX LamX
section
variable {X : Cx} {A : Around} {pins : List (Addr × Obj)} {σ : L2.St} {H : Hp} {s : Shared} {f : Addr} {F : NF} {e : Expr} {x : Str} {tb : TE}
/-- the call of a lambda with one parameter that hands back a text and changes nothing -/
theorem lam_call {n : Nat} (sb : L2.Sub X (n + 1) A) (S : NScope [x] [x] [] F.scope) (hcl : F.cl = []) (hb : ∀ (pm ctv u : Value), bindArgs (PySem.W.kla_fn F.name F.qual F.params e F.scope F.cl pm (.ref F.c) ctv) ⟨[u], []⟩ = pure [(x, u)])
    (hbody : ∀ (A : Around) (outer : List Env) (s : Shared) (H : Hp) (E : XK), Room n (A.deeper (envF F f s.heap.objs.size)) → PE (ncx CX0 X.prog X.w X.K X.mg X.base [x] F f A outer s H E) e tb)
    (I : Inv X pins σ H s) (hf : H f = some (LamO f F e)) (hc : H F.c = some (CodeO F.c F.qual)) {y : V} {v : Value} {z : Str} (ry : RelV y v) (hz : tb [some y] H fun r H' => r = .str z ∧ H' = H) :
    wpAny (model X.prog X.w) A (call (.ref f) [v]) (fun u s' => (∃ t, u = .str z t) ∧ Inv X pins σ H s') (fun _ _ => False) s := by
  have e1 := I.env0
  have e0 : Env0 X.prog X.w X.K X.mg X.base A X.stack s H := ⟨by rw [sb.fr]; exact e1.frames, e1.mod, e1.bs, e1.bsz, e1.funs, e1.frf, e1.hok, e1.bare⟩
  obtain ⟨pm, ctv, hob⟩ := lamO_at I.hok hf
  have rc : codeAny (model X.prog X.w) A (.call (.ref f) ⟨[v], []⟩) (CR CX0 X.stack X.prog X.w H s (fun r H' => r = .str z ∧ H' = H) E0) s := by
    refine PySem.W.kla_callFunE sb.room.depth hob rfl S.co S.gen rfl (codeO_at I.hok hc) ?_
    rw [hb]
    refine wpAny_pure (wpAny_newFunctionEnv S.nocell (fun ⟨m, w⟩ hy => S.par m (by have : (m, w) = (x, v) := List.mem_singleton.mp hy; cases this; exact List.mem_cons_self)) (fun h1 hns hsb => ⟨I.nolimit.fresh _ hsb, ?_⟩) S.kind)
    show codeAny _ _ (.expr e (envF F f s.heap.objs.size)) _ _
    have kp : ∀ b o, s.heap.get? b = some o → h1.get? b = some o := fun b o q => hsb.extBut b o (Nat.ne_of_lt (Heap.lt_size q)) (Heap.get?_push_of_some _ q)
    have C : CellsAt F.cl [] [] s.heap H := ⟨rfl, fun y c q => (by rw [hcl] at q; cases q), fun y z c q => (by rw [hcl] at q; cases q), fun i y q => by simp at q⟩
    have J := inv_startN (N := [x]) (F := F) (f := f) (E := E0) (CX := CX0) (tk := s.toks + [(x, v)].length) S sb.room.hd e0 (vs := [y]) rfl (.cons ry .nil) C hns kp
    refine PySem.W.kla_codeExpr (wpAny_mono ((hbody A X.stack s H E0 (sb.room.deeper _)).run [] _ _ H _ J hz) (fun u s' hq => ?_) fun q s' hq => hq)
    obtain ⟨r, H', J', rv, h2⟩ := hq
    exact ⟨r, H', J'.os, J'.bare, J'.base, J'.hok, rv, h2⟩
  refine wpAny_call (codeAny_mono rc fun r s' hq => ?_)
  cases r with
  | error q => exact hq
  | ok fl =>
    cases fl with
    | next => exact False.elim hq
    | brk => exact False.elim hq
    | cont => exact False.elim hq
    | ret u =>
      obtain ⟨r, H', J', ru, rfl, rfl⟩ := I.after hq
      obtain ⟨t, rfl⟩ := ru
      exact ⟨⟨t, rfl⟩, J'⟩
end
/-! ### the order of texts -/
def kI (v : Value) : List Int := match v with
  | .str a _ => a.cps.toList.map Int.ofNat
  | _ => []
def ltK (u v : Value) : Bool := HT.lexLt (kI u) (kI v)
theorem lex_nat : ∀ l r : List Nat, HT.lexLt (l.map Int.ofNat) (r.map Int.ofNat) = decide (l < r)
  | [], [] => rfl
  | [], b :: r => by rw [decide_eq_true (List.nil_lt_cons b r)]; rfl
  | a :: l, [] => by rw [decide_eq_false (List.not_lt_nil _)]; rfl
  | a :: l, b :: r => by
    rw [List.map_cons, List.map_cons, HT.lexLt_cons, lex_nat l r]
    by_cases h : a = b
    · subst h
      rw [if_pos rfl]
      by_cases q : l < r
      · rw [decide_eq_true q, decide_eq_true (List.cons_lt_cons_iff.mpr (.inr ⟨rfl, q⟩))]
      · rw [decide_eq_false q, decide_eq_false fun z => (List.cons_lt_cons_iff.mp z).elim (fun z => Nat.lt_irrefl _ z) fun z => q z.2]
    · rw [if_neg fun z => h (Int.ofNat.inj z)]
      show decide ((a : Int) < (b : Int)) = _
      by_cases q : a < b
      · rw [decide_eq_true (Int.ofNat_lt.mpr q), decide_eq_true (List.cons_lt_cons_iff.mpr (.inl q))]
      · rw [decide_eq_false fun z => q (Int.ofNat_lt.mp z), decide_eq_false fun z => (List.cons_lt_cons_iff.mp z).elim q fun z => h z.1]
theorem cmp_str {prog : Program} {w : World} {A : Around} {s : Shared} : SrtO.Cmp prog w A s oneType' (fun p => ∃ a t, p.1 = .str a t) (SrtO.lt2 ltK) := fun p q ⟨a, t, ep⟩ ⟨b, u, eq⟩ => by
  show wpAny _ _ (keyLt' oneType' p.1 q.1) _ _ _
  rw [ep, eq]
  refine PySem.W.kas_lt_str ⟨rfl, ?_⟩
  show _ = HT.lexLt (kI p.1) (kI q.1)
  rw [ep, eq]
  exact (lex_nat _ _).symm
theorem swo_str : SrtO.Swo ltK := NtL.swo_lexL kI
/-! ### sorted by a lambda -/
def tupK (xs : List V) : Option Str := match xs with
  | .str z :: _ => some z
  | _ => none
section
variable {X : Cx} {pins : List (Addr × Obj)} {σ : L2.St} {f : Addr} {F : NF} {e : Expr} {x : Str} {tb : TE}
/-- the loop over the items: the keys are laid into the list at kS, nothing else changes -/
theorem keys_loop {A : Around} {kS : Addr} {G : Hp} (call1 : ∀ (s : Shared) (ks : List V) (y : V) (v : Value) (z : Str), Inv X pins σ (upd G kS (.lst ks)) s → RelV y v → (∃ t r, y = .ref t ∧ G t = some (.tup (.str z :: r)) ∧ t ≠ kS) →
      wpAny (model X.prog X.w) A (call (.ref f) [v]) (fun u s' => (∃ t, u = .str z t) ∧ Inv X pins σ (upd G kS (.lst ks)) s') (fun _ _ => False) s) {body : Value → PUnit → Sem (ForInStep PUnit)} {E : Value → Shared → Prop}
    (hb : ∀ (v : Value) (s : Shared) (ks : List V) (z : Str), ks.length < sizeLine → Inv X pins σ (upd G kS (.lst ks)) s → wpAny (model X.prog X.w) A (call (.ref f) [v]) (fun u s' => (∃ t, u = .str z t) ∧ Inv X pins σ (upd G kS (.lst ks)) s') (fun _ _ => False) s →
      wpAny (model X.prog X.w) A (body v ⟨⟩) (fun r s' => r = .yield ⟨⟩ ∧ Inv X pins σ (upd G kS (.lst (ks ++ [.str z]))) s') E s) (N : Nat) (hN : N ≤ sizeLine) :
    ∀ (ys : List V) (vs : List Value) (zs : List Str) (ks : List V) (s : Shared), Vals ys vs → Paired (fun y z => ∃ t r, y = V.ref t ∧ G t = some (.tup (.str z :: r)) ∧ t ≠ kS) ys zs → ks.length + ys.length = N → Inv X pins σ (upd G kS (.lst ks)) s →
      wpAny (model X.prog X.w) A (forIn vs PUnit.unit body) (fun _ s' => Inv X pins σ (upd G kS (.lst (ks ++ zs.map V.str))) s') E s
  | [], vs, zs, ks, s, r, p, hl, I => by
    cases r
    cases p
    rw [List.forIn_nil]
    exact wpAny_pure (by rw [List.map_nil, List.append_nil]; exact I)
  | y :: ys, vs, zs, ks, s, r, p, hl, I => by
    cases r with
    | @cons _ v _ vs rv r =>
      cases p with
      | @cons _ z _ zs hz p =>
        rw [List.length_cons] at hl
        rw [List.forIn_cons]
        refine wpAny_bind (wpAny_mono (hb v s ks z (by omega) I (call1 s ks y v z I rv hz)) (fun q s' hq => ?_) fun _ _ q => q)
        obtain ⟨rfl, I'⟩ := hq
        have := keys_loop call1 hb N hN ys vs zs (ks ++ [.str z]) s' r p (by rw [List.length_append, List.length_singleton]; omega) I'
        rw [List.append_assoc] at this
        exact this
end
end K52

namespace K52
open PySem PySem.Spec PyProof.Rows L2 NdefX LamX
/-- sorted(rows, key=the lambda at f): the items are tuples that begin with a text, which the lambda hands back -/
def rSortK (K : PySem.W.Frag) (F : NF → Prop) (e : Expr) : List V → List V → Hp → VK → Prop := fun vs zs H Q => ∃ (p f : Addr) (L : NF) (ys : List V) (ns : List Str), vs = [.ref p] ∧ zs = [.ref f] ∧ SqL K H p ys ∧ F L ∧ H f = some (LamO f L e) ∧ H L.c = some (CodeO L.c L.qual) ∧ Paired (fun y z => ∃ t r, y = V.ref t ∧ H t = some (.tup (.str z :: r))) ys ns ∧
  ∀ zs' q H', zs'.Perm ys → Same H H' → H q = none → H' q = some (.lst zs') → Q (.ref q) H'
theorem kas_strs {vs : List Value} (h : ∀ v ∈ vs, ∃ a t, v = Value.str a t) {M : Model} {h' : Heap} : ∀ v ∈ vs, PySem.W.Looks M h' (typeOf v) (.type "str") := fun v hv => by
  obtain ⟨a, t, rfl⟩ := h v hv
  exact PySem.W.Looks.of_pure rfl
open SrtO in
theorem call_sortedK {X : Cx} {F : NF → Prop} {e : Expr} (hr : Room 6 X.A)
    (lam : ∀ (A : Around) (pins : List (Addr × Obj)) (σ : L2.St) (H : Hp) (s : Shared) (f : Addr) (L : NF) (y : V) (v : Value) (z : Str), L2.Sub X 3 A → F L → Inv X pins σ H s → H f = some (LamO f L e) → H L.c = some (CodeO L.c L.qual) → RelV y v → (∃ t r, y = .ref t ∧ H t = some (.tup (.str z :: r))) →
      wpAny (model X.prog X.w) A (call (.ref f) [v]) (fun u s' => (∃ t, u = .str z t) ∧ Inv X pins σ H s') (fun _ _ => False) s) : CallRK X (.builtin "sorted") [Str.ofString "key"] (rSortK X.K F e) := by
  intro pins s σ H xs zs us ws Q I rx rz h
  obtain ⟨p, f, L, ys, ns, rfl, rfl, hp, hF, hf, hc, hk, q⟩ := h
  obtain ⟨u, rfl, ru⟩ := vals1 rx
  cases ru
  obtain ⟨w1, rfl, rw1⟩ := vals1 rz
  cases rw1
  obtain ⟨its, rv, hl, hz⟩ := I.list hp
  have hzi : its.length ≤ sizeLine := by rw [← rv.length]; exact hz
  have sub2 : L2.Sub X 4 X.A.in1.in1 := by
    have s0 : L2.Sub X 6 X.A := ⟨hr, rfl⟩
    exact s0.in1.in1
  show wpAny _ _ (call (.builtin "sorted") [.ref p] [(Str.ofString "key", .ref f)]) _ _ _
  refine call_function_entry_kw kind_sorted plain_sorted entry_sorted (ksk_s1 _ _) ?_
  unfold Builtin.«sorted»
  refine wpAny_bind (m := checkCount "sorted" 1 1 1) (wpAny_pure ?_)
  refine wpAny_bind (m := collect (.ref p)) (collect_list hl.isList ?_ hzi)
  refine wpAny_bind (wpAny_newList ?_ hzi)
  have e1 : ((s.heap.push (seqObj "list" #[] 0)).update s.heap.objs.size (Obj.mapSeq (· ++ its.toArray))).objs.size = s.heap.objs.size + 1 := by
    rw [Heap.size_update, size_push']
  have keep : ∀ b o, s.heap.get? b = some o → (((s.heap.push (seqObj "list" #[] 0)).update s.heap.objs.size (Obj.mapSeq (· ++ its.toArray))).push (seqObj "list" its.toArray 0)).get? b = some o := fun b o g => by
    refine Heap.get?_push_of_some _ ?_
    rw [Heap.get?_update_ne _ _ _ _ (Nat.ne_of_lt (Heap.lt_size g))]
    exact Heap.get?_push_of_some _ g
  have hA : (((s.heap.push (seqObj "list" #[] 0)).update s.heap.objs.size (Obj.mapSeq (· ++ its.toArray))).push (seqObj "list" its.toArray 0)).get? (s.heap.objs.size + 1) = some (seqObj "list" its.toArray 0) := by
    rw [← e1]; exact Heap.get?_push_size _ rfl
  rw [e1]
  generalize hhA : ((s.heap.push (seqObj "list" #[] 0)).update s.heap.objs.size (Obj.mapSeq (· ++ its.toArray))).push (seqObj "list" its.toArray 0) = gA at keep hA
  have hgA : ({ s with heap := gA } : Shared).heap = gA := rfl
  generalize hL : s.heap.objs.size + 1 = a at hA
  have fa : H a = none := I.hok.fresh (by omega)
  have I1 : Inv X pins σ (upd H a (.lst ys)) { s with heap := gA } := I.laid (t' := s.toks) keep (by omega) ⟨hz, its, 0, rv, hA⟩
  refine wpAny_bind (m := holding _ _) (wpAny_holding (wpAny_call_entry_kw slot_list_sort ⟨_, hA, rfl⟩ entry_list_sort ?_ (ksk_l1 _ _)))
  rw [ksk_t1]
  unfold ksk_tree
  refine wpAny_bind (listItems_at hA rfl ?_)
  refine wpAny_bind (listUpdate_at hA rfl ?_ (by rw [List.size_toArray]; exact hzi) (Nat.zero_le _))
  have I2 := I1.lset (t' := s.toks) (f := fun _ => #[]) (ys := []) (its' := []) upd_same hA rfl .nil (Nat.zero_le _)
  obtain ⟨ep, ho1⟩ : ∃ ep, (gA.update a (Obj.mapSeq fun _ => #[])).get? a = some (seqObj "list" #[] ep) := ⟨_, get?_update_seq hA (fun _ => #[])⟩
  refine wpAny_bind (seqEpoch_at ho1 rfl ?_)
  obtain ⟨od, I3⟩ := I2.lock upd_same trivial
  have eod : od = seqObj "list" #[] ep := by
    have := (I3.hok a _ upd_same).1
    exact (Option.some.inj (ho1.symm.trans this)).symm
  rw [upd_upd, upd_upd] at I3
  refine wpAny_bind (wpAny_newTuple ?_ hzi)
  have I4 := I3.kept (h' := (gA.update a (Obj.mapSeq fun _ => #[])).push (seqObj "tuple" its.toArray 0)) (t' := s.toks) fun b o g => Heap.get?_push_of_some _ g
  refine wpAny_bind (wpAny_newList ?_ (Nat.zero_le _))
  generalize hgB : (gA.update a (Obj.mapSeq fun _ => #[])).push (seqObj "tuple" its.toArray 0) = gB at I4
  have I5 := I4.laid (a := gB.objs.size) (o := .lst []) (h' := gB.push (seqObj "list" #[] 0)) (t' := s.toks) (fun b o g => Heap.get?_push_of_some _ g) (Nat.le_refl _) ⟨Nat.zero_le _, [], 0, .nil, Heap.get?_push_size _ rfl⟩
  refine wpAny_holding ?_
  show wpAny _ _ (ksk_rest a (.ref f) false its.toArray ep (.ref gB.objs.size)) _ _ { s with heap := gB.push (seqObj "list" #[] 0) }
  have fk : (upd H a (.frz od (.lst []))) gB.objs.size = none := I4.hok.fresh (Nat.le_refl _)
  generalize gB.objs.size = kS at I5 fk
  have nka : kS ≠ a := fun z => by rw [z, upd_same] at fk; cases fk
  have fk0 : H kS = none := by rw [upd_ne nka] at fk; exact fk
  have up2 : ∀ {b : Addr} {o o' : HO}, H b = some o → (upd (upd H a (.frz od (.lst []))) kS o') b = some o := fun g => by rw [upd_ne (ne_of_none g fk0), upd_ne (ne_of_none g fa)]; exact g
  have call1 : ∀ (s : Shared) (ks : List V) (y : V) (v : Value) (z : Str), Inv X pins σ (upd (upd H a (.frz od (.lst []))) kS (.lst ks)) s → RelV y v → (∃ t r, y = .ref t ∧ (upd H a (.frz od (.lst []))) t = some (.tup (.str z :: r)) ∧ t ≠ kS) →
      wpAny (model X.prog X.w) X.A.in1.in1 (call (.ref f) [v]) (fun u s' => (∃ t, u = .str z t) ∧ Inv X pins σ (upd (upd H a (.frz od (.lst []))) kS (.lst ks)) s') (fun _ _ => False) s := fun s ks y v z I' ry ⟨t, r, ey, et, nt⟩ =>
    lam _ pins σ _ s f L y v z (sub2.mono (by decide)) hF I' (up2 hf) (up2 hc) ry ⟨t, r, ey, by rw [upd_ne nt]; exact et⟩
  have pk : Paired (fun y z => ∃ t r, y = V.ref t ∧ (upd H a (.frz od (.lst []))) t = some (.tup (.str z :: r)) ∧ t ≠ kS) ys ns := Paired.mapP hk fun y z ⟨t, r, e1, e2⟩ => ⟨t, r, e1, by rw [upd_ne (ne_of_none e2 fa)]; exact e2, ne_of_none e2 fk0⟩
  unfold ksk_rest
  refine wpAny_bind (wpAny_rule ?_)
  first
    | rw [List.forIn_toArray]
    | (rw [← Array.forIn_toList]; simp only [List.toList_toArray])
  refine wpAny_bind (wpAny_mono (keys_loop (G := upd H a (.frz od (.lst []))) (kS := kS) call1 (fun v s' ks z hks I' hx => ?_) ys.length hz ys its ns [] _ rv pk (by simp) I5) (fun _ s' I6 => ?_) fun _ _ g => g)
  · refine wpAny_bind (wpAny_attempt (wpAny_mono hx (fun k s2 hk2 => ?_) fun _ _ g => g.elim))
    obtain ⟨⟨tk, rfl⟩, I7⟩ := hk2
    obtain ⟨z7, it7, n7, r7, g7⟩ := I7.hok kS _ upd_same
    try dsimp only
    have l7 := r7.length
    refine wpAny_bind (listUpdate_at g7 rfl ?_ (by rw [List.size_toArray]; omega) (by rw [Array.size_push, List.size_toArray]; omega))
    refine wpAny_pure ⟨rfl, ?_⟩
    have I8 := I7.lset (t' := s2.toks) (f := (·.push (.str z tk))) (ys := ks ++ [.str z]) (its' := it7 ++ [.str z tk]) upd_same g7 (by simp) (r7.append (.cons (show RelV (.str z) (.str z tk) from ⟨tk, rfl⟩) .nil)) (by rw [List.length_append, List.length_singleton]; omega)
    rw [upd_upd] at I8
    exact I8
  rw [List.nil_append] at I6
  try dsimp only
  obtain ⟨z6, kt, n6, r6, g6⟩ := I6.hok kS _ upd_same
  have go : s'.heap.get? a = some (seqObj "list" #[] ep) := by
    have := (I6.hok a (.frz od (.lst [])) (by rw [upd_ne nka.symm]; exact upd_same)).1
    rw [eod] at this; exact this
  refine wpAny_bind (listItems_at g6 rfl ?_)
  have kstr : ∀ v ∈ kt, ∃ b t, v = Value.str b t := fun v hv => by
    obtain ⟨i, hi, ei⟩ := List.mem_iff_getElem.mp hv
    obtain ⟨y, hy, ry⟩ := paired_at r6 (List.getElem?_eq_getElem hi)
    rw [List.getElem?_map] at hy
    obtain ⟨n, _, rfl⟩ := Option.map_eq_some_iff.mp hy
    obtain ⟨t, ht⟩ := ry
    exact ⟨n, t, by rw [← ei]; exact ht⟩
  have klen : kt.length = its.length := by
    have := r6.length
    rw [List.length_map] at this
    have := pk.length
    have := rv.length
    omega
  have zipl : (kt.toArray.zip its.toArray).toList = kt.zip its := by
    rw [ksk_zip]
  have zipP : AllL (fun p : Keyed => ∃ b t, p.1 = .str b t) (kt.toArray.zip its.toArray).toList := fun pr hm => by
    rw [zipl] at hm
    exact kstr _ (List.of_mem_zip hm).1
  have snds : (kt.zip its).map (·.2) = its := by
    rw [List.map_snd_zip]; omega
  -- the end
  have fin : ∀ st' : SortSt, failedOf st' = none → (arrOf st').toList.Perm (kt.zip its) → wpAny (model X.prog X.w) X.A.in1.in1 (ksk_tail a false ep (.ref kS) st') (fun fin s' => ∃ v, fin = .done (.ret v) ∧ (fun _ s' => wpAny (model X.prog X.w) X.A.in1 (ret (.ref a)) (fun fin s' => ∃ v, fin = .done (.ret v) ∧ EP X pins σ Q v s') X.xe s') v s') X.xe s' := fun st' hfl hpm => by
    have om : ((arrOf st').map (·.2)).toList.Perm its := by
      rw [Array.toList_map]
      have := hpm.map (·.2)
      rw [snds] at this; exact this
    have ol : ((arrOf st').map (·.2)).size = its.length := by
      rw [← Array.length_toList]; exact om.length_eq
    unfold ksk_tail
    try dsimp only
    refine wpAny_bind (listUpdate_at g6 rfl ?_ (by rw [List.size_toArray, ← r6.length]; exact z6) (Nat.zero_le _))
    have J1 := I6.lset (t' := s'.toks) (f := fun _ => #[]) (ys := []) (its' := []) upd_same g6 rfl .nil (Nat.zero_le _)
    rw [upd_upd] at J1
    refine wpAny_bind (wpAny_letGo ?_)
    have g2 : (s'.heap.update kS (Obj.mapSeq fun _ => #[])).get? a = some (seqObj "list" #[] ep) := by
      rw [Heap.get?_update_ne _ _ _ _ nka.symm]; exact go
    refine wpAny_bind (seqEpoch_at g2 rfl ?_)
    refine wpAny_bind (listUpdate_at g2 rfl ?_ (Nat.zero_le _) (by show (if false = true then _ else _ : Array Value).size ≤ _; rw [if_neg (by decide), ol]; omega))
    rw [hfl]
    simp only [bne_self_eq_false, Bool.false_eq_true, if_false]
    have nH0 : ∀ o' u', X.H_0 a ≠ some (.frz o' u') := fun o' u' g => by
      have := I.base.frzs a o' u' g
      rw [fa] at this; cases this
    have J2 := J1.unlock (d := a) (od := od) (u := .lst []) (by rw [upd_ne nka.symm]; exact upd_same) nH0
    obtain ⟨eb, er⟩ := refs_back rv fun y hy => by
      obtain ⟨i, hi, ei⟩ := List.mem_iff_getElem.mp hy
      obtain ⟨n, _, t, r, e1, _⟩ := paired_at' hk (List.getElem?_eq_getElem hi)
      exact ⟨t, by rw [← ei]; exact e1⟩
    have er2 : ∀ v ∈ ((arrOf st').map (·.2)).toList, ∃ b, v = Value.ref b := fun v hv => er v (om.mem_iff.mp hv)
    have J3 := J2.lset (l := a) (t' := s'.toks) (f := fun _ => if false = true then ((arrOf st').map (·.2)).reverse else (arrOf st').map (·.2)) (ys := ((arrOf st').map (·.2)).toList.map backV) (its' := ((arrOf st').map (·.2)).toList) upd_same g2 (by rw [if_neg (by decide)]) (vals_back er2) (by rw [List.length_map, om.length_eq]; exact hzi)
    refine wpAny_pure ⟨_, rfl, wpAny_pure ⟨_, rfl, .ref a, _, J3, rfl, ?_⟩⟩
    refine q _ a _ (by rw [eb]; exact om.map backV) (fun b o g => ?_) fa upd_same
    rw [upd_ne (ne_of_none g fa), upd_ne (ne_of_none g fa), upd_ne (ne_of_none g fk0), upd_ne (ne_of_none g fa)]
    exact g
  unfold ksk_end
  try dsimp only
  simp only [Bool.false_eq_true, if_false]
  by_cases h2 : its.toArray.size < 2
  · rw [if_pos h2, if_pos h2]
    refine wpAny_bind (wpAny_pure ?_)
    rw [StateT.run_pure]
    refine wpAny_bind (wpAny_pure ?_)
    try dsimp only
    exact fin (SortSt.mk' general' (kt.toArray.zip its.toArray) #[] 7 none) rfl (by show (kt.toArray.zip its.toArray).toList.Perm _; rw [zipl])
  · rw [if_neg h2, if_neg h2]
    rw [List.size_toArray] at h2
    refine wpAny_bind (PySem.W.kas_kind (T := .type "str") (by omega) (kas_strs kstr) rfl rfl ?_)
    refine wpAny_bind (wpAny_mono (wpS_sortO (st0 := SortSt.mk' oneType' (kt.toArray.zip its.toArray) #[] 7 none)
      (Q := fun _ st' => (arrOf st').toList.Perm (kt.zip its) ∧ failedOf st' = none) (swo2 swo_str) (cmp_str (s := s')) rfl zipP rfl rfl fun st' a1 a2 a3 => ⟨?_, a3⟩) ?_ fun _ _ g => g)
    · have := a2.perm
      rw [show (arrOf (SortSt.mk' oneType' (kt.toArray.zip its.toArray) #[] 7 none)) = kt.toArray.zip its.toArray from rfl, zipl] at this
      exact this
    · rintro ⟨⟨⟩, st'⟩ s2 ⟨rfl, hp1, hf1⟩
      try dsimp only
      exact fin st' hf1 hp1
end K52

namespace K52
open PySem PySem.Spec PyProof.Rows L2
/-- max(xs, default=d) of a list of ints that is not empty -/
def rMaxD (K : PySem.W.Frag) : List V → List V → Hp → VK → Prop := fun vs zs H Q => ∃ (p : Addr) (ns : List Int) (d : Int), vs = [.ref p] ∧ zs = [.int d] ∧ SqL K H p (ns.map V.int) ∧ ns ≠ [] ∧ ∀ m ∈ ns, Q (.int m) H
theorem call_maxD {X : Cx} (hc : X.calm = true) (hu : X.A.units + 1 < cLine) : CallRK X (.builtin "max") [Str.ofString "default"] (rMaxD X.K) := by
  intro pins s σ H xs zs us ws Q I rx rz h
  obtain ⟨p, ns, d, rfl, rfl, hp, hne, q⟩ := h
  obtain ⟨u, rfl, ru⟩ := vals1 rx
  cases ru
  obtain ⟨w1, rfl, td, rfl⟩ := vals1 rz
  obtain ⟨its, rv, hl, hz⟩ := I.list hp
  have hi := rv.ints
  show wpAny _ _ (call (.builtin "max") [.ref p] [(Str.ofString "default", .int d td)]) _ _ _
  refine PySem.W.max_list_datum_default (α := Int) (I.ok.hd hc) hl.isList (PySem.W.HoldAll.of_ints hi) (by show X.A.units + 1 + 0 < cLine; omega) (fun e => absurd e hne) fun y ys i v h' tk e hv _ hk => ?_
  obtain ⟨z, hz1, hz2⟩ := paired_at rv (i := i) (by simpa using hv)
  rw [List.getElem?_map] at hz1
  obtain ⟨m, hm, rfl⟩ := Option.map_eq_some_iff.mp hz1
  exact ⟨.int m, H, I.kept hk, hz2, q m (List.mem_of_getElem? hm)⟩
theorem ys_of {α : Type} {l : List α} {g : α → V} {ys : List V} (hl : ys.length = l.length) (h : ∀ (i : Nat) y, ys[i]? = some y → ∃ a, l[i]? = some a ∧ y = g a) : ys = l.map g := by
  apply List.ext_getElem?
  intro i
  rw [List.getElem?_map]
  cases q : ys[i]? with
  | none => rw [List.getElem?_eq_none (by have := List.getElem?_eq_none_iff.mp q; omega)]; rfl
  | some y =>
    obtain ⟨a, e, rfl⟩ := h i y q
    rw [e]; rfl
theorem ints_of : ∀ {ys : List V}, (∀ y ∈ ys, ∃ n : Nat, y = .int n ∧ n ≤ 100) → ∃ ns : List Int, ys = ns.map V.int ∧ (∀ m ∈ ns, m ≤ 100) ∧ ns.sum ≤ 100 * (ys.length : Nat)
  | [], _ => ⟨[], rfl, (fun _ h => by cases h), by simp⟩
  | y :: ys, h => by
    obtain ⟨n, rfl, hn⟩ := h y List.mem_cons_self
    obtain ⟨ns, rfl, h1, h2⟩ := ints_of (ys := ys) fun z hz => h z (List.mem_cons_of_mem _ hz)
    refine ⟨(n : Int) :: ns, rfl, fun m hm => ?_, ?_⟩
    · rcases List.mem_cons.mp hm with rfl | hm
      · omega
      · exact h1 m hm
    · rw [List.sum_cons, List.length_cons]
      omega
section
variable {P : Program} {w : World} {K : PySem.W.Frag} {mg : Str → Option Value} {base : Heap}
def spLookE : Sp := fun vs H Q _ => ∃ pF pC af ac M fl cl fns css, vs = [.ref pF, .ref pC] ∧ H pF = some (.lst fns) ∧ Paired (FnV af ac M H) fl fns ∧ H pC = some (.lst css) ∧ Paired (CsV af ac M H) cl css ∧ fl.Nodup ∧ cl.Nodup ∧ fl.length + cl.length ≤ 20 ∧ fl ≠ [] ∧ ∀ H', Same H H' → Q .non H'
theorem c_look_entries (T : Txt K mg) : Cal P w K mg base 7 "look_entries" spLookE := by
  have c_is_function := c_is_function (P := P) (w := w) (base := base) T
  have c_is_case := c_is_case (P := P) (w := w) (base := base) T
  have c_first_twice := c_first_twice (P := P) (w := w) (base := base) T
  have c_measured := c_measured (P := P) (w := w) (base := base) T
  obtain ⟨fB, _, _, _, g_bodies_in, _⟩ := (c_bodies_in (P := P) (w := w) (base := base) T).ex
  refine cal_of T.d_look_entries sc_look_entries (fun _ _ _ _ _ _ us hl => match us, hl with | [_, _], _ => rfl) (fun vs H Q E h => ?_) (fun f cdv A outer s H vs Q E hr h => ?_)
  · obtain ⟨_, _, _, _, _, _, _, _, _, rfl, _⟩ := h; rfl
  obtain ⟨pF, pC, af, ac, M, fl, cl, fns, css, rfl, hF, pf, hC, pc, hfn, hcn, hl, hne, kk⟩ := h
  have nd := sc_look_entries.nd
  have hu := hu_of hr
  refine ⟨_, (pss_cons (ps_for PassesOwn.never rfl (pi_enum rfl T.b_enumerate (pa_cons (pv 0) pa_nil)) (pg_tup (by rfl) (pgs_cons (pg_name (i := 2) nd rfl (Or.inl rfl)) (pgs_cons (pg_name (i := 3) nd rfl (Or.inl rfl)) pgs_nil))) (pss_one (ps_if (pt_not (pt_val (pe_c c_is_function hr (by decide) rfl (pa_cons (pv 3) pa_nil)))) (pss_one ps_never) pss_nil)))
  (pss_cons (ps_for PassesOwn.never rfl (pi_enum rfl T.b_enumerate (pa_cons (pv 1) pa_nil)) (pg_tup (by rfl) (pgs_cons (pg_name (i := 2) nd rfl (Or.inl rfl)) (pgs_cons (pg_name (i := 3) nd rfl (Or.inl rfl)) pgs_nil))) (pss_one (ps_if (pt_not (pt_val (pe_c c_is_case hr (by decide) rfl (pa_cons (pv 3) pa_nil)))) (pss_one ps_never) pss_nil)))
  (pss_cons (ps_for PassesOwn.never rfl (pi_list (pe_lst (pa_cons (pe_lc (own := [("row", 9)]) rfl nd (pi_list (pv 0)) (blkOk_by (N := N_look_entries) (sc := defScope s_look_entries) (by decide +kernel)) (fun _ _ _ _ _ => (pg_name (i := 9) nd rfl (Or.inl rfl))) (fun _ _ _ _ _ => pts_nil) (fun _ _ _ _ _ => (pe_ix (ixK (K := K) rfl ix_tup) (pv 9) pe_int (fun _ _ => rfl)))) (pa_cons (pe_lc (own := [("row", 9)]) rfl nd (pi_list (pv 1)) (blkOk_by (N := N_look_entries) (sc := defScope s_look_entries) (by decide +kernel)) (fun _ _ _ _ _ => (pg_name (i := 9) nd rfl (Or.inl rfl))) (fun _ _ _ _ _ => pts_nil) (fun _ _ _ _ _ => (pe_ix (ixK (K := K) rfl ix_tup) (pv 9) pe_int (fun _ _ => rfl)))) pa_nil)))) (pg_name (i := 4) nd rfl (Or.inl rfl)) (pss_cons (ps_set (i := 5) nd rfl (Or.inl rfl) (pe_c c_first_twice hr (by decide) rfl (pa_cons (pv 4) pa_nil)))
  (pss_one (ps_if (pt_cmpR op_notN (pv 5) pe_non (nomark _)) (pss_one ps_never) pss_nil))))
  (pss_cons (ps_set (i := 6) nd rfl (Or.inl rfl) (pe_op op_cat (pe_lc (own := [("row", 9)]) rfl nd (pi_list (pv 0)) (blkOk_by (N := N_look_entries) (sc := defScope s_look_entries) (by decide +kernel)) (fun _ _ _ _ _ => (pg_name (i := 9) nd rfl (Or.inl rfl))) (fun _ _ _ _ _ => pts_nil) (fun _ _ _ _ _ => (pe_c c_measured hr (by decide) rfl (pa_cons (pe_ix (ixK (K := K) rfl ix_tup) (pv 9) pe_int (fun _ _ => rfl)) (pa_cons (pe_glob (v := .ref _) rfl g_bodies_in rfl) pa_nil))))) (pe_lc (own := [("row", 9)]) rfl nd (pi_list (pv 1)) (blkOk_by (N := N_look_entries) (sc := defScope s_look_entries) (by decide +kernel)) (fun _ _ _ _ _ => (pg_name (i := 9) nd rfl (Or.inl rfl))) (fun _ _ _ _ _ => pts_nil) (fun _ _ _ _ _ => (pe_c c_measured hr (by decide) rfl (pa_cons (pe_ix (ixK (K := K) rfl ix_tup) (pv 9) pe_int (fun _ _ => rfl)) (pa_cons (pe_glob (v := .ref _) rfl g_bodies_in rfl) pa_nil)))))))
  (pss_cons (ps_par (i := 7) (j := 8) (by rfl) nd rfl rfl (by decide) rfl rfl (pa_cons (pe_callB (cr_sum rfl) (by rfl) T.b_sum (by decide +kernel) (pa_cons (pe_lc (own := [("size", 10)]) rfl nd (pi_list (pv 6)) (blkOk_by (N := N_look_entries) (sc := defScope s_look_entries) (by decide +kernel)) (fun _ _ _ _ _ => (pg_name (i := 10) nd rfl (Or.inl rfl))) (fun _ _ _ _ _ => pts_nil) (fun _ _ _ _ _ => (pe_ix (ixK (K := K) rfl ix_tup) (pv 10) pe_int (fun _ _ => rfl)))) pa_nil)) (pa_cons (pe_callBK (call_maxD rfl hu) (by rfl) T.b_max (by decide +kernel) (pa_cons (pe_lc (own := [("size", 10)]) rfl nd (pi_list (pv 6)) (blkOk_by (N := N_look_entries) (sc := defScope s_look_entries) (by decide +kernel)) (fun _ _ _ _ _ => (pg_name (i := 10) nd rfl (Or.inl rfl))) (fun _ _ _ _ _ => pts_nil) (fun _ _ _ _ _ => (pe_ix (ixK (K := K) rfl ix_tup) (pv 10) pe_int (fun _ _ => rfl)))) pa_nil) (pk_cons pe_int pk_nil)) pa_nil)) (by rfl))
  (pss_one (ps_if (PW.pt (pw_or (pt_cmpR op_gt (pv 7) (ClX.pe_cval (pe_glob (v := .ref _) rfl T.g_Table rfl)) (nomark _)) (pw_or1 (pt_cmpR op_gt (pv 8) (ClX.pe_cval (pe_glob (v := .ref _) rfl T.g_Table rfl)) (nomark _))))) (pss_one ps_never) pss_nil))))))), ?_⟩
  have fL := pf.length
  have cL := pc.length
  have hz : 400 ≤ sizeLine := by decide
  refine ⟨_, rfl, pF, fns, rfl, SqL.of hF, ?_⟩
  refine for_it walk_enum (fun i σ H' => (∃ p2 p3, σ = [some (.ref pF), some (.ref pC), p2, p3, none, none, none, none, none, none, none]) ∧ Same H H') ⟨⟨_, _, rfl⟩, Same.refl _⟩ (fun i σ H' _ p => SqL.of (p.2 _ _ hF)) (fun i x σ H2 H3 hi p y => ?_) (fun σ H2 p => ?_)
  · obtain ⟨T0, u, v, rfl, hT0, rfl, eu, ev⟩ := y
    obtain ⟨⟨p2, p3, rfl⟩, sa⟩ := p
    cases eu
    obtain ⟨nm, hnm, hv⟩ := paired_at pf ev
    have st := Same.upd (o := .tup [.int (i : Nat), v]) hT0
    have sA := sa.trans st
    refine ⟨T0, _, rfl, SqT.of upd_same, rfl, _, _, rfl, _, _, rfl, rfl, ?_⟩
    exact ⟨_, rfl, v, af, ac, M, nm, rfl, hv.le (Same.le sA), fun H4 s4 => ⟨true, rfl, iF rfl ⟨⟨_, _, rfl⟩, sA.trans s4⟩⟩⟩
  obtain ⟨⟨p2, p3, rfl⟩, sa⟩ := p
  refine ⟨_, rfl, pC, css, rfl, SqL.of (sa _ _ hC), ?_⟩
  refine for_it walk_enum (fun i σ H' => (∃ p2 p3, σ = [some (.ref pF), some (.ref pC), p2, p3, none, none, none, none, none, none, none]) ∧ Same H H') ⟨⟨_, _, rfl⟩, sa⟩ (fun i σ H' _ p => SqL.of (p.2 _ _ hC)) (fun i x σ H3 H4 hi p y => ?_) (fun σ H3 p => ?_)
  · obtain ⟨T0, u, v, rfl, hT0, rfl, eu, ev⟩ := y
    obtain ⟨⟨p2, p3, rfl⟩, sa⟩ := p
    cases eu
    obtain ⟨nm, hnm, hv⟩ := paired_at pc ev
    have st := Same.upd (o := .tup [.int (i : Nat), v]) hT0
    have sA := sa.trans st
    refine ⟨T0, _, rfl, SqT.of upd_same, rfl, _, _, rfl, _, _, rfl, rfl, ?_⟩
    exact ⟨_, rfl, v, af, ac, M, nm, rfl, hv.le (Same.le sA), fun H4 s4 => ⟨true, rfl, iF rfl ⟨⟨_, _, rfl⟩, sA.trans s4⟩⟩⟩
  clear sa
  obtain ⟨⟨q2, q3, rfl⟩, sa⟩ := p
  -- the names
  refine ⟨_, rfl, pF, rfl, ⟨_, SqL.of (sa _ _ hF)⟩, fun D hD => ?_⟩
  refine lc_map walk_list hD (fun H' s => SqL.of (s _ _ (sa _ _ hF))) (by omega) (fun i y _ => ∃ nm, fl[i]? = some nm ∧ y = .str nm) (fun _ _ _ _ _ _ _ h => h) (fun _ _ _ _ _ z => by rw [z.1]; exact Same.refl _) (fun i x H4 H5 Q' hi s4 y kq => ?_) (fun H4 ys s4 hD4 hyl hys => ?_)
  · obtain ⟨rfl, hx⟩ := y
    obtain ⟨nm, hnm, p, bv, rfl, hp, _⟩ := paired_at pf hx
    exact ⟨rfl, _, rfl, p, _, _, _, rfl, rfl, SqT.of (s4 _ _ (sa _ _ hp)), rfl, kq _ _ (Same.refl _) ⟨nm, hnm, rfl⟩⟩
  have eys : ys = fl.map V.str := ys_of (by omega) hys
  have hD4' : H4 D = some (.lst (fl.map V.str)) := by rw [← eys]; exact hD4
  clear hys hD4
  have sa4 := sa.trans s4
  refine ⟨_, rfl, pC, rfl, ⟨_, SqL.of (sa4 _ _ hC)⟩, fun D2 hD2 => ?_⟩
  refine lc_map walk_list hD2 (fun H' s => SqL.of (s _ _ (sa4 _ _ hC))) (by omega) (fun i y _ => ∃ nm, cl[i]? = some nm ∧ y = .str nm) (fun _ _ _ _ _ _ _ h => h) (fun _ _ _ _ _ z => by rw [z.1]; exact Same.refl _) (fun i x H5 H6 Q' hi s5 y kq => ?_) (fun H5 zs s5 hD5 hzl hzs => ?_)
  · obtain ⟨rfl, hx⟩ := y
    obtain ⟨nm, hnm, p, bv, rfl, hp, _⟩ := paired_at pc hx
    exact ⟨rfl, _, rfl, p, _, _, _, rfl, rfl, SqT.of (s5 _ _ (sa4 _ _ hp)), rfl, kq _ _ (Same.refl _) ⟨nm, hnm, rfl⟩⟩
  have ezs : zs = cl.map V.str := ys_of (by omega) hzs
  have hD5' : H5 D2 = some (.lst (cl.map V.str)) := by rw [← ezs]; exact hD5
  clear hzs hD5
  have sa5 := sa4.trans s5
  refine ⟨by show 2 ≤ sizeLine; decide, fun LL hLL => ⟨LL, rfl, ⟨_, SqL.of upd_same⟩, ?_⟩⟩
  have s6 := Same.upd (o := .lst [.ref D, .ref D2]) hLL
  have sa6 := sa5.trans s6
  have h6 : (upd H5 LL (.lst [.ref D, .ref D2])) LL = some (.lst [.ref D, .ref D2]) := upd_same
  have hD6 := (s5.trans s6) _ _ hD4'
  have hD26 := s6 _ _ hD5'
  generalize upd H5 LL (.lst [.ref D, .ref D2]) = H6 at s6 sa6 h6 hD6 hD26
  refine for_it walk_list (fun i σ H' => (∃ q2 q3 q4 q5, σ = [some (.ref pF), some (.ref pC), q2, q3, q4, q5, none, none, none, none, none]) ∧ Same H6 H') ⟨⟨_, _, _, _, rfl⟩, Same.refl _⟩ (fun i σ H' _ p => SqL.of (p.2 _ _ h6)) (fun i x σ H8 H7 hi p y => ?_) (fun σ H7 p => ?_)
  · obtain ⟨rfl, hx⟩ := y
    obtain ⟨⟨q2, q3, q4, q5, rfl⟩, sb⟩ := p
    have key : ∃ (q : Addr) (ns : List Str), x = .ref q ∧ H7 q = some (.lst (ns.map V.str)) ∧ ns.Nodup ∧ ns.length ≤ 100 := by
      match i, hx with
      | 0, hx => cases hx; exact ⟨D, fl, rfl, sb _ _ hD6, hfn, by omega⟩
      | 1, hx => cases hx; exact ⟨D2, cl, rfl, sb _ _ hD26, hcn, by omega⟩
    obtain ⟨q, nsx, rfl, hq, hq1, hq2⟩ := key
    refine ⟨_, rfl, q, nsx, rfl, SqL.of hq, hq1, hq2, fun H9 s9 => ?_⟩
    exact ⟨_, rfl, rfl, _, rfl, iF rfl ⟨⟨_, _, _, _, rfl⟩, sb.trans s9⟩⟩
  obtain ⟨⟨q2, q3, q4, q5, rfl⟩, sb⟩ := p
  have sa7 := sa6.trans sb
  clear hD6 hD26 h6 hD5' hD4'
  -- the sizes
  let SZ : KM.Bd Str → V → Hp → Prop := fun b y H' => ∃ t, y = .ref t ∧ H' t = some (.tup [.int (b.size : Nat), .int (bdDep b : Nat)])
  refine ⟨_, rfl, pF, rfl, ⟨_, SqL.of (sa7 _ _ hF)⟩, fun D3 hD3 => ?_⟩
  refine lc_map walk_list hD3 (fun H' s => SqL.of (s _ _ (sa7 _ _ hF))) (by omega) (fun i y H' => ∃ nm, fl[i]? = some nm ∧ SZ (M.bd nm) y H') (fun i y H H' ws hd bu ⟨nm, e, t, e2, ht⟩ => ⟨nm, e, t, e2, bu _ _ (ne_of ht hd (by intro z; cases z)) ht⟩) (fun _ _ _ _ _ z => by rw [z.1]; exact Same.refl _) (fun i x H8 H9 Q' hi s8 y kq => ?_) (fun H8 zs3 s8 hD38 hz3 hs3 => ?_)
  · obtain ⟨rfl, hx⟩ := y
    obtain ⟨nm, hnm, p, bv, rfl, hp, _, _, hb, hsz, _⟩ := paired_at pf hx
    have sB := sa7.trans s8
    exact ⟨rfl, _, rfl, p, _, _, _, rfl, rfl, SqT.of (sB _ _ hp), rfl, bv, fB, af, ac, _, _, rfl, g_bodies_in, hb.le (Same.le sB), by omega, fun H10 q10 s10 _ h10 => kq _ _ s10 ⟨nm, hnm, q10, rfl, h10⟩⟩
  have sa8 := sa7.trans s8
  refine ⟨_, rfl, pC, rfl, ⟨_, SqL.of (sa8 _ _ hC)⟩, fun D4 hD4 => ?_⟩
  refine lc_map walk_list hD4 (fun H' s => SqL.of (s _ _ (sa8 _ _ hC))) (by omega) (fun i y H' => ∃ nm, cl[i]? = some nm ∧ SZ (M.am nm) y H') (fun i y H H' ws hd bu ⟨nm, e, t, e2, ht⟩ => ⟨nm, e, t, e2, bu _ _ (ne_of ht hd (by intro z; cases z)) ht⟩) (fun _ _ _ _ _ z => by rw [z.1]; exact Same.refl _) (fun i x H9 H10 Q' hi s9 y kq => ?_) (fun H9 zs4 s9 hD49 hz4 hs4 => ?_)
  · obtain ⟨rfl, hx⟩ := y
    obtain ⟨nm, hnm, p, bv, rfl, hp, _, _, hb, hsz, _⟩ := paired_at pc hx
    have sB := sa8.trans s9
    exact ⟨rfl, _, rfl, p, _, _, _, rfl, rfl, SqT.of (sB _ _ hp), rfl, bv, fB, af, ac, _, _, rfl, g_bodies_in, hb.le (Same.le sB), by omega, fun H11 q11 s11 _ h11 => kq _ _ s11 ⟨nm, hnm, q11, rfl, h11⟩⟩
  have sa9 := sa8.trans s9
  have all : ∀ y ∈ zs3 ++ zs4, ∃ (t : Addr) (n d : Nat), y = .ref t ∧ H9 t = some (.tup [.int (n : Nat), .int (d : Nat)]) ∧ n ≤ 100 ∧ d ≤ 100 := fun y hy => by
    rcases List.mem_append.mp hy with hy | hy
    · obtain ⟨i, hi, ei⟩ := List.mem_iff_getElem.mp hy
      obtain ⟨nm, hnm, t, e1, e2⟩ := hs3 i y (by rw [List.getElem?_eq_getElem hi, ei])
      obtain ⟨_, _, _, _, _, _, _, _, _, h1, h2⟩ := paired_at' pf hnm
      exact ⟨t, _, _, e1, s9 _ _ e2, h1, by omega⟩
    · obtain ⟨i, hi, ei⟩ := List.mem_iff_getElem.mp hy
      obtain ⟨nm, hnm, t, e1, e2⟩ := hs4 i y (by rw [List.getElem?_eq_getElem hi, ei])
      obtain ⟨_, _, _, _, _, _, _, _, _, h1, h2⟩ := paired_at' pc hnm
      exact ⟨t, _, _, e1, e2, h1, by omega⟩
  have zl : (zs3 ++ zs4).length ≤ 20 := by rw [List.length_append]; omega
  have zne : (zs3 ++ zs4).length ≠ 0 := by
    rw [List.length_append]
    have : fl.length ≠ 0 := fun z => hne (List.eq_nil_of_length_eq_zero z)
    omega
  refine ⟨_, _, _, _, rfl, rfl, s9 _ _ hD38, hD49, by rw [← List.length_append]; omega, fun S hS => ?_⟩
  generalize zs3 ++ zs4 = zs at all zl zne
  have sS := Same.upd (o := .lst zs) hS
  have sa10 := sa9.trans sS
  have hS2 : (upd H9 S (.lst zs)) S = some (.lst zs) := upd_same
  have all2 : ∀ y ∈ zs, ∃ (t : Addr) (n d : Nat), y = .ref t ∧ (upd H9 S (.lst zs)) t = some (.tup [.int (n : Nat), .int (d : Nat)]) ∧ n ≤ 100 ∧ d ≤ 100 := fun y hy => by
    obtain ⟨t, n, d, e1, e2, e3⟩ := all y hy
    exact ⟨t, n, d, e1, sS _ _ e2, e3⟩
  generalize upd H9 S (.lst zs) = HS at sS sa10 hS2 all2
  refine ⟨_, rfl, S, rfl, ⟨_, SqL.of hS2⟩, fun D5 hD5 => ?_⟩
  refine lc_map walk_list hD5 (fun H' s => SqL.of (s _ _ hS2)) (by omega) (fun i y _ => ∃ n : Nat, y = .int (n : Nat) ∧ n ≤ 100) (fun _ _ _ _ _ _ _ h => h) (fun _ _ _ _ _ z => by rw [z.1]; exact Same.refl _) (fun i x H11 H12 Q' hi s11 y kq => ?_) (fun H11 ys5 s11 hD5' hl5 hs5 => ?_)
  · obtain ⟨rfl, hx⟩ := y
    obtain ⟨t, n, d, rfl, ht, h1, h2⟩ := all2 x (List.mem_of_getElem? hx)
    exact ⟨rfl, _, rfl, t, _, _, _, rfl, rfl, SqT.of (s11 _ _ ht), rfl, kq _ _ (Same.refl _) ⟨n, rfl, h1⟩⟩
  obtain ⟨ns, rfl, hn1, hn2⟩ := ints_of (ys := ys5) fun y hy => by
    obtain ⟨i, hi, ei⟩ := List.mem_iff_getElem.mp hy
    exact hs5 i y (by rw [List.getElem?_eq_getElem hi, ei])
  refine ⟨D5, ns, rfl, SqL.of hD5', ?_⟩
  refine ⟨_, rfl, S, rfl, ⟨_, SqL.of (s11 _ _ hS2)⟩, fun D6 hD6 => ?_⟩
  refine lc_map walk_list hD6 (fun H' s => SqL.of (s _ _ (s11 _ _ hS2))) (by omega) (fun i y _ => ∃ n : Nat, y = .int (n : Nat) ∧ n ≤ 100) (fun _ _ _ _ _ _ _ h => h) (fun _ _ _ _ _ z => by rw [z.1]; exact Same.refl _) (fun i x H12 H13 Q' hi s12 y kq => ?_) (fun H12 ys6 s12 hD6' hl6 hs6 => ?_)
  · obtain ⟨rfl, hx⟩ := y
    obtain ⟨t, n, d, rfl, ht, h1, h2⟩ := all2 x (List.mem_of_getElem? hx)
    exact ⟨rfl, _, rfl, t, _, _, _, rfl, rfl, SqT.of ((s11.trans s12) _ _ ht), rfl, kq _ _ (Same.refl _) ⟨d, rfl, h2⟩⟩
  obtain ⟨ms, rfl, hm1, hm2⟩ := ints_of (ys := ys6) fun y hy => by
    obtain ⟨i, hi, ei⟩ := List.mem_iff_getElem.mp hy
    exact hs6 i y (by rw [List.getElem?_eq_getElem hi, ei])
  refine ⟨D6, ms, 0, rfl, rfl, SqL.of hD6', fun z => zne (by rw [z] at hl6; exact hl6.symm), fun m hm => ?_⟩
  have hm100 := hm1 m hm
  refine ⟨_, _, rfl, ?_⟩
  obtain ⟨u1, cv1⟩ := T.cvT1
  obtain ⟨u2, cv2⟩ := T.cvT2
  refine ⟨_, rfl, cT K, _, _, u1, rfl, T.crT, cv1, _, _, rfl, rfl, _, rfl, dF (by omega) ?_⟩
  refine ⟨_, rfl, cT K, _, _, u2, rfl, T.crT, cv2, _, _, rfl, rfl, _, rfl, dF (by omega) ?_⟩
  exact kk _ (sa10.trans (s11.trans s12))
end
end K52

namespace K52
open PySem PySem.Spec PyProof.Rows L2
/-! ### sets of texts that can be walked -/
def txT (e : Int × Value) : Str := match e.2 with
  | .str z _ => z
  | _ => ""
def TxE (P : Program) (w : World) (e : Int × Value) : Prop := ∃ z tk, e.2 = Value.str z tk ∧ e.1 = (mixKind P w).hash (.inr z)
/-- the set of the texts L (in some order) at a -/
def SetT (P : Program) (w : World) (h : Heap) (a : Addr) (L : List Str) : Prop :=
  ∃ ob rows ep tb, h.get? a = some ob ∧ ob.ExactSet ∧ ob.data = .set rows ep tb ∧ (∀ e ∈ rows.toList, TxE P w e) ∧ (rows.toList.map txT).Perm L ∧ L.Nodup ∧ L.length < scanBound ∧ tb.fits rows.size = true ∧ Ris tb.place.toList ∧ (w.params.followText "set-order" = true ∨ tb.led = true)
def addT (L : List Str) (z : Str) : List Str := if z ∈ L then L else z :: L
theorem addT_mem {L : List Str} {z y : Str} : y ∈ addT L z ↔ y = z ∨ y ∈ L := by
  unfold addT
  split
  · rename_i h
    exact ⟨.inr, fun q => q.elim (fun q => by rw [q]; exact h) id⟩
  · exact List.mem_cons
theorem addT_len {L : List Str} {z : Str} : (addT L z).length ≤ L.length + 1 := by
  unfold addT
  split
  · omega
  · exact Nat.le_refl _
theorem addT_nd {L : List Str} {z : Str} (h : L.Nodup) : (addT L z).Nodup := by
  unfold addT
  split
  · exact h
  · rename_i n
    exact List.nodup_cons.mpr ⟨n, h⟩
section
variable {P : Program} {w : World} {A : Around} {E : Value → Shared → Prop} {s : Shared} {a : Addr} {L : List Str}
theorem tx_elems {l : List (Int × Value)} (g : ∀ e ∈ l, TxE P w e) : ElemsOf (mixKind P w) l := fun e he => by
  obtain ⟨z, tk, e1, e2⟩ := g e he
  exact ⟨⟨.inr z, by rw [e1]; exact mixKind_str P w z tk, e2⟩, by rw [e1]; rfl⟩
theorem tx_is {e : Int × Value} (g : TxE P w e) (z : Str) : (mixKind P w).is (.inr z) e.2 = true ↔ txT e = z := by
  obtain ⟨y, tk, e1, _⟩ := g
  unfold txT
  rw [e1]
  refine ⟨fun q => ?_, fun q => by subst q; exact mixKind_str P w _ tk⟩
  have q1 := (mixKind P w).inj _ (.inr z) (.inr y) q (mixKind_str P w y tk)
  injection q1 with q1
  exact q1.symm
theorem SetT.rows_size {rows : Array (Int × Value)} (pm : (rows.toList.map txT).Perm L) : rows.size = L.length := by
  have := pm.length_eq
  rw [List.length_map, Array.length_toList] at this
  exact this
/-- what is stored behind a new member -/
theorem setT_tail {gw : Bool → Sem Unit} (hg : ∀ (b : Bool) (s1 : Shared) (Q1 : Unit → Shared → Prop), Q1 () s1 → wpAny (model P w) A (gw b) Q1 E s1) {ob : Obj} {rows : Array (Int × Value)} {ep : Nat} {tb : SetTable} (go : s.heap.get? a = some ob) (xo : ob.ExactSet) (do_ : ob.data = .set rows ep tb)
    {rows1 : Array (Int × Value)} {tb2 : SetTable} {L' : List Str} (g1 : ∀ e ∈ rows1.toList, TxE P w e) (pm1 : (rows1.toList.map txT).Perm L') (nd1 : L'.Nodup) (b1 : L'.length < scanBound) (f2 : tb2.fits rows1.size = true) (r2 : Ris tb2.place.toList) (l2 : w.params.followText "set-order" = true ∨ tb2.led = true) {wd : Bool} {R : Option Bool → Shared → Prop}
    (hR : ∀ h', Heap.SameBut a s.heap h' → SetT P w h' a L' → R (some true) { s with heap := h' }) :
    wpAny (model P w) A (do
        storeSet a rows1 tb2
        if (!wd && tb2.tooFull) = true then do
            gw (relayAll tb2 rows1 (SetTable.grown rows1.size)).2.2
            storeSet a (relayAll tb2 rows1 (SetTable.grown rows1.size)).1 (relayAll tb2 rows1 (SetTable.grown rows1.size)).2.1
            pure (some true)
          else pure (some true)) R E s := by
  have z1 : rows1.size < scanBound := by rw [SetT.rows_size pm1]; exact b1
  refine wpAny_bind (wpAny_storeSet_of go do_ ?_ (fits_of_scanBound z1))
  have go1 := store_at (es' := rows1) (t' := tb2) go do_
  have sb1 := Heap.SameBut.update s.heap a (Obj.putSet rows1 tb2)
  split
  · have pm := relayAll_perm tb2 rows1 (SetTable.grown rows1.size)
    have f3 := relayAll_fits tb2 rows1 (SetTable.grown rows1.size)
    have r3 := relayAll_ris tb2 rows1 (SetTable.grown rows1.size)
    have l3 := relayAll_led tb2 rows1 (SetTable.grown rows1.size)
    generalize relayAll tb2 rows1 (SetTable.grown rows1.size) = Z at pm f3 r3 l3 ⊢
    obtain ⟨rows2, tb3, gave⟩ := Z
    dsimp only at pm f3 r3 l3 ⊢
    have pm2 : (rows2.toList.map txT).Perm L' := (pm.map txT).trans pm1
    have z2 : rows2.size < scanBound := by rw [SetT.rows_size pm2]; exact b1
    refine wpAny_bind (hg _ _ _ ?_)
    refine wpAny_bind (wpAny_storeSet_of go1 rfl ?_ (fits_of_scanBound z2))
    have go2 := store_at (es' := rows2) (t' := tb3) go1 rfl
    exact wpAny_pure (hR _ (sb1.trans (Heap.SameBut.update _ a _)) ⟨_, rows2, _, tb3, go2, xo, rfl, fun e he => g1 e (pm.mem_iff.mp he), pm2, nd1, b1, f3, r3, l2.imp id fun q => by rw [l3]; exact q⟩)
  · exact wpAny_pure (hR _ sb1 ⟨_, rows1, _, tb2, go1, xo, rfl, g1, pm1, nd1, b1, f2, r2, l2⟩)
theorem setT_add {z : Str} {tk : Tok} {Q : Bool → Shared → Prop} (R : SetT P w s.heap a L) (room : L.length + 1 < scanBound)
    (hQ : ∀ h' b, Heap.SameBut a s.heap h' → SetT P w h' a (addT L z) → Q b { s with heap := h' }) : wpAny (model P w) A (setAddHashed a (.str z tk) ((mixKind P w).hash (.inr z))) Q E s := by
  obtain ⟨ob, rows, ep, tb, go, xo, do_, g, pm, nd, bL, f0, r0, l0⟩ := id R
  have hk : (mixKind P w).is (.inr z) (.str z tk) = true := mixKind_str P w z tk
  have sc : (Value.str z tk).scannable = true := rfl
  have el : ElemsOf (mixKind P w) rows.toList := tx_elems g
  have zb : rows.size < scanBound := by rw [SetT.rows_size pm]; exact bL
  unfold setAddHashed setAddHashedIn
  refine wpAny_holding (wpAny_bind (wpAny_setState_of go do_ f0 ?_))
  dsimp only
  rw [byScan_of sc zb el]
  simp only [↓reduceIte]
  unfold setAddByScan
  refine wpAny_bind (wpAny_bind (wpAny_rule (wpAny_bind (wpAny_setScan_of hk go do_ f0 el ?_))))
  have memz : z ∈ L ↔ ∃ e ∈ rows.toList, (mixKind P w).is (.inr z) e.2 = true := by
    rw [← pm.mem_iff, List.mem_map]
    exact ⟨fun ⟨e, he, q⟩ => ⟨e, he, (tx_is (g e he) z).mpr q⟩, fun ⟨e, he, q⟩ => ⟨e, he, (tx_is (g e he) z).mp q⟩⟩
  cases fi : List.findIdx? (fun e => (mixKind P w).is (.inr z) e.2) rows.toList with
  | some j =>
    dsimp only
    obtain ⟨hj, pj, _⟩ := List.findIdx?_eq_some_iff_getElem.mp fi
    have hz : z ∈ L := memz.mpr ⟨rows.toList[j], List.getElem_mem hj, pj⟩
    have q := hQ s.heap false (Heap.SameBut.refl a s.heap) (by unfold addT; rw [if_pos hz]; exact R)
    exact wpAny_pure (wpAny_pure q)
  | none =>
    dsimp only
    have hz : z ∉ L := fun q => by
      obtain ⟨e, he, q⟩ := memz.mp q
      have := List.findIdx?_eq_none_iff.mp fi e he
      rw [q] at this; cases this
    have gv : ∀ (b : Bool) {s1 : Shared} {Q1 : Unit → Shared → Prop}, Q1 () s1 → wpAny (model P w) A (match b with | true => rule "set.scan.the-table-gave-way" | false => pure ()) Q1 E s1 := fun b s1 Q1 q => by
      cases b
      · exact wpAny_pure q
      · exact wpAny_rule q
    have pn := layNew_perm tb rows ((mixKind P w).hash (.inr z)) (.str z tk)
    have f1 := layNew_fits tb rows ((mixKind P w).hash (.inr z)) (.str z tk)
    have r1 := layNew_ris tb rows ((mixKind P w).hash (.inr z)) (.str z tk) r0
    have l1 := layNew_led tb rows ((mixKind P w).hash (.inr z)) (.str z tk)
    generalize layNew tb rows ((mixKind P w).hash (.inr z)) (.str z tk) = Z at pn f1 r1 l1 ⊢
    obtain ⟨rows1, tb1, wd, gave⟩ := Z
    dsimp only at pn f1 r1 l1 ⊢
    rw [Array.toList_push] at pn
    have pc : rows1.toList.Perm (((mixKind P w).hash (.inr z), Value.str z tk) :: rows.toList) := pn.trans (List.perm_append_singleton _ _)
    have pL : (rows1.toList.map txT).Perm (addT L z) := by
      unfold addT
      rw [if_neg hz]
      exact (pc.map txT).trans (pm.cons z)
    have g1 : ∀ e ∈ rows1.toList, TxE P w e := fun e he => by
      rcases List.mem_cons.mp (pc.mem_iff.mp he) with q | q
      · rw [q]; exact ⟨z, tk, rfl, rfl⟩
      · exact g e q
    have nd1 : (addT L z).Nodup := addT_nd nd
    have bL1 : (addT L z).length < scanBound := Nat.lt_of_le_of_lt addT_len room
    have ld : w.params.followText "set-order" = true ∨ tb1.led = true := l0.imp id fun q => by rw [l1]; exact q
    refine wpAny_bind (gv _ ?_)
    split
    · refine wpAny_bind ?_
      rw [hashByValue_scannable 8 sc]
      refine wpAny_pure ?_
      refine setT_tail ?_ go xo do_ g1 pL nd1 bL1 ?_ ?_ ?_ ?_
      · intro b s1 Q1 q
        cases b <;> first | exact wpAny_pure q | exact wpAny_rule q
      · split <;> first | exact f1 | exact SetTable.fits_plain_off f1
      · split <;> exact r1
      · split <;> exact ld
      · intro h' sb r
        dsimp only
        exact wpAny_pure (hQ h' true sb r)
    · refine wpAny_bind (wpAny_pure ?_)
      simp only [↓reduceIte]
      refine setT_tail ?_ go xo do_ g1 pL nd1 bL1 f1 r1 ld ?_
      · intro b s1 Q1 q
        cases b <;> first | exact wpAny_pure q | exact wpAny_rule q
      · intro h' sb r
        dsimp only
        exact wpAny_pure (hQ h' true sb r)
end
end K52

namespace K52
open PySem PySem.Spec PyProof.Rows L2
def metT (val : Nat → Str) : Nat → List Str
  | 0 => []
  | i + 1 => addT (metT val i) (val i)
theorem metT_len (val : Nat → Str) : ∀ i, (metT val i).length ≤ i
  | 0 => Nat.le_refl _
  | i + 1 => by
    have h1 := metT_len val i
    have h2 := addT_len (L := metT val i) (z := val i)
    show (addT _ _).length ≤ _
    omega
theorem metT_mem (val : Nat → Str) {y : Str} : ∀ i, y ∈ metT val i ↔ ∃ j, j < i ∧ val j = y
  | 0 => ⟨(fun h => by cases h), fun ⟨j, hj, _⟩ => absurd hj (Nat.not_lt_zero j)⟩
  | i + 1 => by
    show y ∈ addT _ _ ↔ _
    rw [addT_mem, metT_mem val i]
    constructor
    · rintro (q | ⟨j, hj, e⟩)
      · exact ⟨i, Nat.lt_succ_self i, q.symm⟩
      · exact ⟨j, Nat.lt_succ_of_lt hj, e⟩
    · rintro ⟨j, hj, e⟩
      rcases Nat.lt_succ_iff_lt_or_eq.mp hj with q | q
      · exact .inr ⟨j, q, e⟩
      · exact .inl (by rw [← e, q])
theorem SetT.at {P : Program} {w : World} {h h' : Heap} {a : Addr} {L : List Str} (R : SetT P w h a L) (k : ∀ o, h.get? a = some o → h'.get? a = some o) : SetT P w h' a L := by
  obtain ⟨ob, rows, ep, tb, go, r⟩ := R
  exact ⟨ob, rows, ep, tb, k ob go, r⟩
section
variable {P : Program} {w : World} {A : Around} {R : Result → Shared → Prop} {I : Addr} {fp wr : List Addr} {G : Array GenState → Array GenState → Prop} {n : Nat} {Pv : Nat → Value → Prop} {St : Nat → Shared → Prop}
/-- the turns by which a set takes the texts of what is walked -/
theorem update_strs (W : WalksS P w A.in1 I fp wr G n Pv St) (S : Addr) (nS : S ∉ fp) (val : Nat → Str) (hv : ∀ i v, Pv i v → ∃ t, v = .str (val i) t) (room : n + 1 < scanBound) :
    ∀ (k i : Nat) (s : Shared), n - i = k → i ≤ n → St i s → SetT P w s.heap S (metT val i) → (∀ s', Moved (S :: wr) G s s' → SetT P w s'.heap S (metT val n) → R (.ok (.ret .none)) s') →
      codeAny (model P w) A (.builtin "set.update.loop" ⟨[.ref S, .ref I], []⟩) R s := by
  have nw : S ∉ wr := fun q => nS (W.sub _ q)
  have sub : ∀ b ∈ wr, b ∈ S :: wr := fun b q => List.mem_cons_of_mem _ q
  intro k
  induction k with
  | zero =>
    intro i s e1 hi st hS hR
    have e2 : i = n := by omega
    subst e2
    refine codeAny_builtin F.entry_set_update_loop ?_
    rw [Around.under_plainId F.plain_set_update_loop _]
    show wpAny _ A.in1 (pyNext (.ref I) >>= _) _ _ s
    refine wpAny_bind (W.done s _ _ st fun s' m => ?_)
    show wpAny _ A.in1 (ret Value.none) _ _ s'
    exact wpAny_pure (hR s' (m.mono sub) (hS.at fun o q => m.heap S o nw q))
  | succ k ih =>
    intro i s e1 hi st hS hR
    have lt : i < n := by omega
    refine codeAny_builtin F.entry_set_update_loop ?_
    rw [Around.under_plainId F.plain_set_update_loop _]
    show wpAny _ A.in1 (pyNext (.ref I) >>= _) _ _ s
    refine wpAny_bind (W.item i s _ _ lt st fun v s' hP st' m => ?_)
    obtain ⟨t, rfl⟩ := hv i v hP
    have hS1 := hS.at fun o q => m.heap S o nw q
    show wpAny _ A.in1 (holding [Value.str (val i) t] (setAdd S (.str (val i) t)) >>= _) _ _ s'
    refine wpAny_bind (wpAny_holding ?_)
    unfold setAdd
    refine wpAny_holding (wpAny_bind ((mixKind P w).pyHash (k := .inr (val i)) (mixKind_str P w _ t) ?_))
    have lm := metT_len val i
    refine setT_add (s := { s' with toks := s'.toks + 1 }) hS1 (by omega) fun h' b sb hS2 => ?_
    refine wpAny_pure ⟨plainId_quiet F.plain_set_update_loop _, ih (i + 1) _ (by omega) lt (W.frame _ s' _ _ st' (Nat.le_succ _) fun d hd o q => ?_) hS2 fun s2 m2 hS3 => ?_⟩
    · rw [sb.2 d fun z => nS (by rw [← z]; exact hd)]; exact q
    · refine hR s2 (Moved.trans W.gtrans ((m.mono sub).then_heap (Nat.le_succ _) fun d o hd q => ?_) m2) hS3
      rw [sb.2 d fun z => hd (by rw [z]; exact List.mem_cons_self)]; exact q
end
section
variable {P : Program} {w : World} {A : Around} {E : Value → Shared → Prop} {s : Shared}
abbrev emptySet (w : World) : Obj := { cls := .type "set", dict := none, data := .set #[] 0 (.fresh 0 0 (!w.params.followText "set-order")) }
theorem setT_fresh {h : Heap} : SetT P w (h.push (emptySet w)) h.objs.size [] :=
  ⟨_, #[], 0, _, Heap.get?_push_size _ rfl, ⟨rfl, rfl, rfl⟩, rfl, (fun e he => by simp at he), (by simp), List.nodup_nil, (by decide), rfl, List.Pairwise.nil, by
    show _ ∨ (!w.params.followText "set-order") = true
    cases w.params.followText "set-order"
    · exact .inr rfl
    · exact .inl rfl⟩
theorem set_new1 (x : Value) {Q1 : Value → Shared → Prop} (h : Q1 (.ref s.heap.objs.size) { s with heap := s.heap.push (emptySet w) }) : codeAny (model P w) A (.call (.builtin "set.__new__") ⟨[.type "set", x], []⟩) (wants Q1 E) s := by
  refine codeAny_of_tree ?_
  show wpAny _ A.in1 (do checkBuiltinCall "set.__new__" ⟨[.type "set", x], []⟩; again (.builtin "set.__new__" ⟨[.type "set", x], []⟩)) _ _ s
  refine wpAny_bind (wpAny_of_eq (F.newCall_set_1 x) (wpAny_pure ⟨plainId_quiet F.plain_set_new _, codeAny_builtin F.entry_set_new ?_⟩))
  rw [Around.under_plainId F.plain_set_new _]
  unfold Builtin.«set.__new__» Builtin.Frozenset.newClass
  have sub := sub_set_self
  obtain ⟨hp, g, d, tk, os⟩ := s
  dsimp only
  wp_walk
  refine wpAny_askSetting (wpAny_pure ?_)
  dsimp only
  simp only [newObj]
  refine wpAny_bind (wpAny_alloc (wpAny_pure ?_))
  exact wpAny_pure h
set_option maxRecDepth 100000 in
set_option maxHeartbeats 3200000 in
/-- set(l), l a list of texts -/
theorem set_of_strs {l : Addr} {items : Array Value} {val : Nat → Str} {Q : Value → Shared → Prop} (hh : A.handled = none) (hl : s.heap.IsList l items) (hv : ∀ (i : Nat) (v : Value), items[i]? = some v → ∃ t, v = .str (val i) t) (room : items.size + 1 < scanBound)
    (h : ∀ (h' : Heap) (tk : Nat), SetT P w h' s.heap.objs.size (metT val items.size) → (∀ b o, b < s.heap.objs.size → s.heap.get? b = some o → h'.get? b = some o) → Q (.ref s.heap.objs.size) { s with heap := h', toks := tk }) :
    wpAny (model P w) A (call (.type "set") [.ref l]) Q E s := by
  obtain ⟨c, tl, hmro⟩ := F.called_set.mro
  have made := F.called_set.made
  have isub := F.called_set.sub
  refine wpAny_call (codeAny_of_tree ?_)
  show wpAny _ _ (callAny (.type "set") _) _ _ _
  refine wpAny_pure ⟨Code.quiet_builtin _ (by decide +kernel), codeAny_builtin F.entry_type_call ?_⟩
  rw [Around.under_plain (weight_type_call_type "set" [.ref l] []) rfl]
  have t1 := F.called_set.notType
  have t2 := F.called_set.canCreate
  have t3 := F.typeCall_set_1 (.ref l)
  repeat (any_goals (first | assumption | wp_step))
  refine codeAny_mono (set_new1 (.ref l) (E := E) (Q1 := fun ob s1 => ob = .ref s.heap.objs.size ∧ s1 = { s with heap := s.heap.push (emptySet w) }) ⟨rfl, rfl⟩) fun r s1 hr => ?_
  cases r with
  | error e => exact hr
  | ok fl =>
    cases fl with
    | ret ob =>
      obtain ⟨rfl, rfl⟩ := hr
      have gS : (s.heap.push (emptySet w)).get? s.heap.objs.size = some (emptySet w) := Heap.get?_push_size _ rfl
      have hT : Shared.TypeIs { s with heap := s.heap.push (emptySet w) } (.ref s.heap.objs.size) "set" := ⟨_, gS, rfl⟩
      have i1 := F.called_set.init.lookup
      have i2 := F.called_set.init.bind (.ref s.heap.objs.size)
      repeat (any_goals (first | assumption | wp_step))
      refine codeAny_mono (codeAny_call_builtin (R := wants (fun r s2 => r = .none ∧ ∃ h' tk, s2 = { s with heap := h', toks := tk } ∧ SetT P w h' s.heap.objs.size (metT val items.size) ∧ (∀ b o, b < s.heap.objs.size → s.heap.get? b = some o → h'.get? b = some o)) E) F.called_set.init.plain F.entry_set_init (check_set_init_1 hT ?_)) fun r2 s2 hr2 => ?_
      · obtain ⟨ol, gl, cl, nl, dl⟩ := hl
        obtain ⟨ocls, odict, odata, oslots⟩ := ol
        simp only at cl dl
        subst cl dl
        have gl1 : (s.heap.push (emptySet w)).get? l = some { cls := .type "list", dict := odict, data := .seq items nl, slots := oslots } := Heap.get?_push_of_some _ gl
        have u1 := F.sub_list_set
        have u2 := F.sub_list_frozenset
        have u3 : (Value.type "list" == Value.type "dict") = false := by decide
        have l1 : (s.heap.push (emptySet w)).IsList l items := ⟨_, gl1, rfl, nl, rfl⟩
        unfold Builtin.«set.__init__» noKeywords Builtin.Frozenset.updateFrom
        generalize ePI : pyIter = PI
        wp_walk
        subst ePI
        refine wpAny_pyIter_list l1 ?_
        refine wpAny_bind (wpAny_runValue ?_)
        have ltl : l < s.heap.objs.size := Heap.lt_size gl
        have hh3 : A.in1.in1.in1.handled = none := by simp [hh]
        have neI : l ≠ (s.heap.push (emptySet w)).objs.size := by
          rw [Heap.size_push]; exact Nat.ne_of_lt (Nat.lt_succ_of_lt ltl)
        have nfp : s.heap.objs.size ∉ [(s.heap.push (emptySet w)).objs.size, l] := by
          rw [Heap.size_push]
          simp only [List.mem_cons, List.mem_singleton, List.not_mem_nil, or_false, not_or]
          exact ⟨Nat.ne_of_lt (Nat.lt_succ_self _), Nat.ne_of_gt ltl⟩
        refine update_strs ((Walks.list hh3 _ l neI items).toS) s.heap.objs.size nfp val hv room (items.size - 0) 0 _ (by omega) (Nat.zero_le _) ⟨⟨_, Heap.get?_push_size _ rfl, rfl, rfl⟩, (l1.push _)⟩ ?hS0 ?hR
        case hS0 => exact setT_fresh.at fun o q => Heap.get?_push_of_some _ q
        case hR =>
          intro s' m hS'
          obtain ⟨h', g', d', tk', os'⟩ := s'
          have eg : g' = s.gens := m.gens
          have ed : d' = s.drawn := m.drawn
          have eo : os' = s.os := m.os
          subst eg ed eo
          show wpAny _ _ _ _ _ _
          refine wpAny_pure ?_
          show wpAny _ _ (ret Value.none) _ _ _
          refine wpAny_pure ⟨rfl, h', tk', rfl, hS', fun b o hb q => ?_⟩
          have n1 : b ≠ s.heap.objs.size := Nat.ne_of_lt hb
          have n2 : b ≠ (s.heap.push (emptySet w)).objs.size := by
            rw [Heap.size_push]; exact Nat.ne_of_lt (Nat.lt_succ_of_lt hb)
          exact m.heap b o (by simp only [List.mem_cons, List.mem_singleton, List.not_mem_nil, or_false, not_or]; exact ⟨n1, n2⟩) (Heap.get?_push_of_some _ (Heap.get?_push_of_some _ q))
      · cases r2 with
        | error e => exact hr2
        | ok fl2 =>
          cases fl2 with
          | ret r =>
            obtain ⟨rfl, h', tk, rfl, hS', k'⟩ := hr2
            repeat (any_goals (first | assumption | wp_step))
            exact h _ _ hS' k'
          | _ => exact hr2.elim
    | _ => exact hr.elim
end
end K52

namespace K52
open PySem PySem.Spec PyProof.Rows L2
/-! ### set(xs), sorted(set), texts -/
def txv (v : Value) : Str := match v with
  | .str z _ => z
  | _ => ""
def IsTx (v : Value) : Prop := ∃ z t, v = Value.str z t
theorem vals_tx : ∀ {vs : List Value}, (∀ v ∈ vs, IsTx v) → Vals ((vs.map txv).map V.str) vs
  | [], _ => .nil
  | v :: vs, h => by
    obtain ⟨z, t, e⟩ := h v List.mem_cons_self
    subst e
    exact .cons (show RelV (.str z) (.str z t) from ⟨t, rfl⟩) (vals_tx fun u hu => h u (List.mem_cons_of_mem _ hu))
section
variable {P : Program} {w : World} {A : Around} {E : Value → Shared → Prop} {s : Shared} {a : Addr} {L : List Str}
theorem strs_sortable {a : Addr} {vs : List Value} (h : ∀ v ∈ vs, IsTx v) (h2 : 2 ≤ vs.length) : SrtO.SortableO P w A s a vs ltK := fun h' _ =>
  ⟨PyProof.Rows.oneType', (fun Q E hq => PySem.W.kas_kind (T := .type "str") h2 (kas_strs h) rfl rfl hq), fun p q hp hq => cmp_str p q (h _ hp) (h _ hq)⟩
open SrtO in
theorem sorted_sets {Q : Value → Shared → Prop} (R : SetT P w s.heap a L) (hh : A.handled = none)
    (hQ : ∀ s' p (out : Array Value) (c : Nat), (∀ b o, s.heap.get? b = some o → s'.heap.get? b = some o) → s'.gens = s.gens → s'.os = s.os → s.heap.objs.size ≤ p →
      s'.heap.get? p = some (seqObj "list" out c) → (∀ v ∈ out.toList, IsTx v) → (out.toList.map txv).Perm L → Q (.ref p) s') :
    wpAny (model P w) A (call (.builtin "sorted") [.ref a]) Q E s := by
  obtain ⟨o, es, ep, t, ho, hex, hd, g, pm0, nd, bL, f0, r0, l0⟩ := R
  have hz0 : es.size = L.length := SetT.rows_size pm0
  refine Calls.call_function_entry kind_sorted plain_sorted entry_sorted (args_sorted1 _) ?_
  unfold Builtin.«sorted»
  refine wpAny_bind (m := checkCount "sorted" 1 1 _) (wpAny_pure ?_)
  refine wpAny_bind (collect_set (A := A.in1) hh ⟨o, ho, hex.1, hd⟩ f0 (by omega) r0 l0 fun s1 vs k1 hz g1 o1 pm => ?_)
  have pmT : (vs.map txv).Perm L := by
    have := pm.map txv
    rw [List.map_map] at this
    exact this.trans pm0
  have tx : ∀ v ∈ vs, IsTx v := fun v hv => by
    obtain ⟨e, he, q⟩ := List.mem_map.mp (pm.mem_iff.mp hv)
    obtain ⟨z, tk, e1, _⟩ := g e he
    exact ⟨z, tk, by rw [← q]; exact e1⟩
  have hvl : vs.length ≤ sizeLine := by
    have := pmT.length_eq
    rw [List.length_map] at this
    rw [this, sizeLine_eq]
    unfold scanBound at bL
    omega
  refine wpAny_bind (wpAny_newList ?_ hvl)
  have hoL : (s1.heap.push (seqObj "list" vs.toArray 0)).get? s1.heap.objs.size = some (seqObj "list" vs.toArray 0) := Heap.get?_push_size _ rfl
  refine wpAny_bind (wpAny_holding (wpAny_call_entry slot_list_sort ⟨_, hoL, rfl⟩ entry_list_sort (list_sort_ord (s := { s1 with heap := s1.heap.push (seqObj "list" vs.toArray 0) }) swo_str hoL hvl (fun h2 => strs_sortable tx h2) fun out hs hb => ⟨_, rfl, ?_⟩) (args_list_sort _)))
  obtain ⟨c, hc⟩ := PyProof.Rows.sortedHeap_at (vs := vs) (out := out.toArray) hoL
  refine wpAny_pure ⟨_, rfl, hQ _ s1.heap.objs.size out.toArray c (fun b u e => ?_) g1 o1 hz hc (fun v hv => tx v (hb.perm.mem_iff.mp hv)) ((hb.perm.map txv).trans pmT)⟩
  have q := k1 b u e
  have hlt := Heap.lt_size q
  show (PyProof.Rows.sortedHeap (s1.heap.push (seqObj "list" vs.toArray 0)) s1.heap.objs.size vs out.toArray).get? b = some u
  rw [PyProof.Rows.sortedHeap_old (Nat.ne_of_lt hlt) (by rw [size_push']; exact Nat.lt_succ_of_lt hlt)]
  exact Heap.get?_push_of_some _ q
end
def SetXO (P : Program) (w : World) (a : Addr) (L : List Str) : HO := .ext fun h => SetT P w h a L
theorem setXO_new {P : Program} {w : World} {H : Hp} {h : Heap} {a : Addr} {L : List Str} (R : SetT P w h a L) : ObjOk P w H h a (SetXO P w a L) := by
  have ⟨o, rows, ep, tb, ho, _⟩ := R
  exact ⟨R, ⟨o, ho⟩, fun h1 h2 p k => SetT.at p fun o q => k o q⟩
section
variable {X : Cx}
/-- set(xs), texts -/
def rSetS (K : PySem.W.Frag) (P : Program) (w : World) : List V → Hp → VK → Prop := fun xs H Q => ∃ (l : Addr) (ks : List Str), xs = [V.ref l] ∧ SqL K H l (ks.map V.str) ∧ ks.length + 1 < scanBound ∧
  ∀ a L H', L.Nodup → (∀ z, z ∈ L ↔ z ∈ ks) → L.length < scanBound → Same H H' → H a = none → H' a = some (SetXO P w a L) → Q (.ref a) H'
theorem cr_setS (hc : X.calm = true) : CallR X (.type "set") (rSetS X.K X.prog X.w) := by
  intro pins s σ H xs us Q I r h
  obtain ⟨l, ks, rfl, hl, hf, q⟩ := h
  rw [Vals.ref1 r]
  obtain ⟨its, rv, pl, hz⟩ := I.list hl
  have hn : H s.heap.objs.size = none := I.hok.fresh (Nat.le_refl _)
  have hlen : its.toArray.size = ks.length := by
    have := rv.length
    rw [List.length_map] at this
    rw [List.size_toArray]; exact this.symm
  refine set_of_strs (P := X.prog) (w := X.w) (val := fun i => ks.getD i "") (I.ok.hd hc) pl.isList (fun i v e => ?_) (by rw [hlen]; exact hf) fun h' tk R k => ?_
  · rw [List.getElem?_toArray] at e
    obtain ⟨y, hy, ry⟩ := paired_at rv e
    rw [List.getElem?_map] at hy
    obtain ⟨n, en, rfl⟩ := Option.map_eq_some_iff.mp hy
    obtain ⟨t, ht⟩ := ry
    exact ⟨t, by rw [ht, List.getD_eq_getElem?_getD, en]; rfl⟩
  · rw [hlen] at R
    have R' := R
    obtain ⟨_, _, _, _, _, _, _, _, _, nd, bL, _⟩ := R'
    refine ⟨.ref s.heap.objs.size, upd H s.heap.objs.size (SetXO X.prog X.w s.heap.objs.size _), I.laid (t' := tk) (fun b o g => k b o (Heap.lt_size g) g) (Nat.le_refl _) (setXO_new R), rfl, q _ _ _ nd (fun z => ?_) bL (Same.upd hn) hn upd_same⟩
    rw [metT_mem]
    constructor
    · rintro ⟨j, hj, e⟩
      rw [List.getD_eq_getElem?_getD, List.getElem?_eq_getElem hj] at e
      rw [← e]; exact List.getElem_mem hj
    · intro hm
      obtain ⟨j, hj, e⟩ := List.mem_iff_getElem.mp hm
      exact ⟨j, hj, by rw [List.getD_eq_getElem?_getD, List.getElem?_eq_getElem hj]; exact e⟩
/-- sorted(set), texts -/
def rSortedS (K : PySem.W.Frag) (P : Program) (w : World) : List V → Hp → VK → Prop := fun vs H Q => ∃ (a : Addr) (L : List Str), vs = [V.ref a] ∧ H a = some (SetXO P w a L) ∧
  ∀ (L' : List Str) (p : Addr) (H' : Hp), L'.Perm L → Same H H' → H p = none → H' p = some (.lst (L'.map V.str)) → Q (.ref p) H'
theorem cr_sortedS (hc : X.calm = true) : CallR X (.builtin "sorted") (rSortedS X.K X.prog X.w) := by
  intro pins s σ H vs us Q I r h
  obtain ⟨a, L, rfl, ha, q⟩ := h
  have R0 : SetT X.prog X.w s.heap a L := (I.hok a _ ha).1
  have R1 := R0
  obtain ⟨_, _, _, _, _, _, _, _, _, _, bL, _⟩ := R1
  rw [Vals.ref1 r]
  refine sorted_sets R0 (I.ok.hd hc) fun s' p out c k g o hp hg tx pm => ?_
  have hn : H p = none := I.hok.fresh hp
  have hv : Vals ((out.toList.map txv).map V.str) out.toList := vals_tx tx
  have hlen : ((out.toList.map txv).map V.str).length ≤ sizeLine := by
    rw [List.length_map, pm.length_eq, sizeLine_eq]
    unfold scanBound at bL
    omega
  have J : Inv X pins σ (upd H p (.lst ((out.toList.map txv).map V.str))) { s with heap := s'.heap, gens := s'.gens, drawn := s'.drawn, toks := s'.toks } :=
    I.call (ch := []) (Un.laid k hp hn) (I.hok.laid k hp ⟨hlen, out.toList, c, hv, hg⟩) (by rw [g]; exact I.bare) (fun _ z => nomatch z)
  have e : s' = { s with heap := s'.heap, gens := s'.gens, drawn := s'.drawn, toks := s'.toks } := by
    cases s'
    cases s
    cases o
    rfl
  rw [e]
  exact ⟨.ref p, _, J, rfl, q _ p _ pm (Same.upd hn) hn upd_same⟩
end
end K52

namespace K52
open PySem PySem.Spec PyProof.Rows L2 NdefX LamX
theorem cr_setS' {X : Cx} {K : PySem.W.Frag} {P : Program} {w : World} (hK : X.K = K) (hP : X.prog = P) (hw : X.w = w) (hc : X.calm = true) : CallR X (.type "set") (rSetS K P w) := by
  subst hK hP hw; exact cr_setS hc
theorem cr_sortedS' {X : Cx} {K : PySem.W.Frag} {P : Program} {w : World} (hK : X.K = K) (hP : X.prog = P) (hw : X.w = w) (hc : X.calm = true) : CallR X (.builtin "sorted") (rSortedS K P w) := by
  subst hK hP hw; exact cr_sortedS hc
section
variable {X : Cx} {x y : Str} {p pos lpos kpos : Pos} {e body : Expr} {nm : Option Str} {t : TA} {T : List NTab} {nf : Nat → Nat → Str} {c P : Addr} {q : Str} {params : Arguments} {scope : Scope} {tb : TE}
/-- sorted(e, key=lambda y: body): body hands back the first text of the item -/
theorem pe_sortLam (hr : Room 6 X.A) (hg : Gl X x) (hm : X.mg x = none) (hv : bootBuiltins x = some (.builtin "sorted")) (ha : PA X [e] t) (TB : TabB X.base X.mg c P) (hcode : X.env.code = .ref c) (hmT : (P, nf) ∈ T) (hq : X.env.qual ++ "<lambda>" = q) (hnf : nf lpos.line lpos.col = q)
    (hu : ∀ p ∈ T, p.1 = P → p.2 = nf) (hdef : defaultsOf params X.env = ([], [])) (hfree : ∀ y ∈ scope.names, y.2 ≠ .free) (S : NScope [y] [y] [] scope)
    (hbind : ∀ (c' : Addr) (pm ctv u : Value), bindArgs (PySem.W.kla_fn "<lambda>" q params body scope [] pm (.ref c') ctv) ⟨[u], []⟩ = pure [(y, u)])
    (hbody : ∀ (c' f : Addr) (A : Around) (outer : List Env) (s : Shared) (H : Hp) (E : XK), Room 2 (A.deeper (envF (lamF q params scope c') f s.heap.objs.size)) → PE (ncx CX0 X.prog X.w X.K X.mg X.base [y] (lamF q params scope c') f A outer s H E) body tb)
    (hz : ∀ (t : Addr) (z : Str) (r : List V) (H : Hp), H t = some (.tup (.str z :: r)) → tb [some (.ref t)] H fun r H' => r = .str z ∧ H' = H)
    (hn : x ≠ "__name__" := by decide) (hdb : (x == ("__debug__" : Str)) = false := by decide)
    (he : backTo pos (starEach [e] X.env) = (false, eval e X.env) :: backTo pos (starEach [] X.env) := by rfl) (hpl : (backTo pos (starEach [e] X.env)).any (·.1) = false := by rfl)
    (hall : (backToKw pos (keywordEach [⟨nm, .Lambda params body scope lpos, kpos⟩] X.env)).all (·.1.isSome) = true := by rfl) (hnone : (backToKw pos (keywordEach [⟨nm, .Lambda params body scope lpos, kpos⟩] X.env)).any (·.1.isNone) = false := by rfl) (hks : (backToKw pos (keywordEach [⟨nm, .Lambda params body scope lpos, kpos⟩] X.env)).filterMap (·.1) = [Str.ofString "key"] := by rfl) :
    PE X (.Call (.Name x p) [e] [⟨nm, .Lambda params body scope lpos, kpos⟩] pos) (tCKw (rSortK X.K (fun L => ∃ c', L = lamF q params scope c') body) t (tCons (tLamV T q params body scope) tNil)) := by
  refine pe_callBK (call_sortedK hr fun A pins σ H s f L y0 v z sb hF I hf hc ry hy => ?_) hg hm hv ha (pk_cons (pe_lam TB hcode hmT hq hnf hu hdef hfree) pk_nil) hn hdb he hpl hall hnone hks
  obtain ⟨c', rfl⟩ := hF
  obtain ⟨t, r, rfl, ht⟩ := hy
  exact lam_call (n := 2) (F := lamF q params scope c') (x := y) sb S rfl (fun pm ctv u => hbind c' pm ctv u) (fun A outer s H E hr => hbody c' f A outer s H E hr) I hf hc ry (hz t z r H ht)
end
theorem paired_perm {α : Type} {R : α → V → Prop} : ∀ {xs zs : List V}, zs.Perm xs → ∀ {l : List α}, Paired R l xs → ∃ l' : List α, l'.Perm l ∧ Paired R l' zs := by
  intro xs zs h
  induction h with
  | nil => intro l p; cases p; exact ⟨[], .nil, .nil⟩
  | cons x _ ih =>
    intro l p
    cases p with
    | cons r p =>
      obtain ⟨l', h1, h2⟩ := ih p
      exact ⟨_, h1.cons _, .cons r h2⟩
  | swap x y l0 =>
    intro l p
    cases p with
    | cons r1 p =>
      cases p with
      | cons r2 p => exact ⟨_, .swap _ _ _, .cons r2 (.cons r1 p)⟩
  | trans _ _ ih1 ih2 =>
    intro l p
    obtain ⟨l1, h1, h2⟩ := ih2 p
    obtain ⟨l2, h3, h4⟩ := ih1 h2
    exact ⟨l2, h3.trans h1, h4⟩
end K52

namespace K52
open PySem PySem.Spec PyProof.Rows L2 NdefX LamX
theorem ord_nd {am : Str → KM.Bd Str} : ∀ {l : List Str}, KM.Ord am l → l.Nodup
  | [], _ => List.nodup_nil
  | _ :: _, h => List.nodup_cons.mpr ⟨h.2.1, ord_nd h.2.2⟩
theorem tabsN_ins {T : List NTab} {H : Hp} {x C dx : Addr} {fs fs' : List (Str × V)} (hx : H x = some (.ins C dx fs)) (h : TabsN T H) : TabsN T (upd H x (.ins C dx fs')) := fun p hp => by
  obtain ⟨ps, h1, h2, h3⟩ := h p hp
  refine ⟨ps, by rw [upd_ne (ne_of h1 hx (by intro z; cases z))]; exact h1, h2, fun pos cv hc => ?_⟩
  obtain ⟨c, e1, e2⟩ := h3 pos cv hc
  exact ⟨c, e1, by rw [upd_ne (ne_of e2 hx (by intro z; unfold CodeO at z; cases z))]; exact e2⟩
theorem ExtN.le {H H' : Hp} (e : ExtN H H') : Le H H' := fun b o st q => e b o q (fun ps z => by rw [z] at st; exact st)
theorem extN_upd {H0 H : Hp} {x : Addr} {o : HO} (e : ExtN H0 H) (h : H0 x = none) : ExtN H0 (upd H x o) := fun b u q n => by
  rw [upd_ne (ne_of_none q h)]; exact e b u q n
theorem pair_flip {α : Type} {R : α → V → Prop} : ∀ {l : List α} {xs : List V}, Paired R l xs → Paired (fun y a => R a y) xs l
  | _, _, .nil => .nil
  | _, _, .cons r p => .cons r (pair_flip p)
theorem ins_step {T : List NTab} {H0 H3 : Hp} {x C dx : Addr} {fs fs' : List (Str × V)} (hx0 : H0 x = none) (e : ExtN H0 H3) (tb : TabsN T H3) (hx : H3 x = some (.ins C dx fs)) :
    ExtN H0 (upd H3 x (.ins C dx fs')) ∧ TabsN T (upd H3 x (.ins C dx fs')) ∧ (upd H3 x (.ins C dx fs')) x = some (.ins C dx fs') ∧ ∀ b o, H3 b = some o → (∀ C dx fs, o ≠ .ins C dx fs) → (upd H3 x (.ins C dx fs')) b = some o :=
  ⟨extN_upd e hx0, tabsN_ins hx tb, upd_same, fun b o q n => by rw [upd_ne (ne_of q hx (n _ _ _))]; exact q⟩
theorem NumD.keep {H H' : Hp} {d : Addr} {n : Str → Nat} {names : List Str} (k : ∀ b o, H b = some o → (∀ C dx fs, o ≠ .ins C dx fs) → H' b = some o) (h : NumD H d n names) : NumD H' d n names := by
  obtain ⟨kvs, h1, h2⟩ := h
  exact ⟨kvs, k _ _ h1 (by intro _ _ _ z; cases z), h2⟩
def ddup : List Str → List Str
  | [] => []
  | a :: l => addT (ddup l) a
theorem ddup_nd : ∀ l, (ddup l).Nodup
  | [] => List.nodup_nil
  | a :: l => addT_nd (ddup_nd l)
theorem ddup_mem {t : Str} : ∀ l, t ∈ ddup l ↔ t ∈ l
  | [] => Iff.rfl
  | a :: l => by
    show t ∈ addT _ _ ↔ _
    rw [addT_mem, ddup_mem l, List.mem_cons]
theorem drel_ls {R : Str → V → List Str → Prop} {G : Str → List Str → Prop} {d : Str → List Str} : ∀ {names : List Str} {kvs : List (Key × V)}, DRel names (fun x v => ∃ ns, R x v ns ∧ G x ns) kvs → names.Nodup → ∃ ls : Str → List Str, DRel names (fun x v => R x v (ls x)) kvs ∧ (∀ x ∈ names, G x (ls x)) ∧ ∀ x, x ∉ names → ls x = d x
  | [], [], _, _ => ⟨d, ⟨rfl, (fun _ _ h => by cases h)⟩, (fun _ h => by cases h), fun _ _ => rfl⟩
  | [], _ :: _, h, _ => by have := h.1; cases this
  | _ :: _, [], h, _ => by have := h.1; cases this
  | a :: l, (k, v) :: t, h, nd => by
    obtain ⟨na, nl⟩ := List.nodup_cons.mp nd
    have e := h.1
    rw [List.map_cons, List.map_cons] at e
    injection e with e1 e2
    have e1 : k = Sum.inr a := e1
    subst e1
    obtain ⟨ns, h1, h2⟩ := h.2 a v List.mem_cons_self
    obtain ⟨ls, g1, g2, g3⟩ := drel_ls (names := l) (kvs := t) ⟨e2, fun x v m => h.2 x v (List.mem_cons_of_mem _ m)⟩ nl
    have key : ∀ x u, ((Sum.inr x : Key), u) ∈ t → x ∈ l := fun x u m => by
      have : (Sum.inr x : Key) ∈ t.map (·.1) := List.mem_map.mpr ⟨_, m, rfl⟩
      rw [e2] at this
      obtain ⟨y, hy, ey⟩ := List.mem_map.mp this
      cases ey; exact hy
    refine ⟨fun x => if x = a then ns else ls x, ⟨h.1, fun x u m => ?_⟩, fun x hx => ?_, fun x hx => ?_⟩
    · show R x u (if x = a then ns else ls x)
      rcases List.mem_cons.mp m with m | m
      · injection m with m1 m2
        injection m1 with m1
        subst m1 m2
        rw [if_pos rfl]; exact h1
      · rw [if_neg fun z => na (by rw [← z]; exact key x u m)]
        exact g1.2 x u m
    · show G x (if x = a then ns else ls x)
      by_cases z : x = a
      · subst z; rw [if_pos rfl]; exact h2
      · rw [if_neg z]; exact g2 x ((List.mem_cons.mp hx).resolve_left z)
    · show (if x = a then ns else ls x) = d x
      rw [if_neg fun z => hx (by rw [z]; exact List.mem_cons_self)]
      exact g3 x fun z => hx (List.mem_cons_of_mem _ z)
section
variable {P : Program} {w : World} {K : PySem.W.Frag} {mg : Str → Option Value} {base : Heap}
def spTInit (C Pt Pi : Addr) : Sp := fun vs H Q _ => ∃ x dx pF pC, ∃ H0 : Hp, ∃ af ac, ∃ M : KM.Tb Str, ∃ fns css, vs = [.ref x, .ref pF, .ref pC] ∧ H x = some (.ins C dx []) ∧ H0 x = none ∧ ExtN H0 H ∧ TabsN (TTs Pt Pi) H ∧ H0 pF = some (.lst fns) ∧ Paired (FnV af ac M H0) M.fs fns ∧ H0 pC = some (.lst css) ∧ Paired (CsV af ac M H0) M.cs css ∧
  M.Ok ∧ M.fs.length ≤ 10 ∧ M.cs.length ≤ 10 ∧ M.fs ≠ [] ∧ (∀ c, ac c ≤ 10) ∧
  ∀ fl cl Rd H', fl.Perm M.fs → cl.Perm M.cs → ExtN H0 H' → TabsN (TTs Pt Pi) H' → TabA C af ac M fl cl Rd H' x → Q .non H'
theorem m_tinit (T : Txt K mg) {ct Pt ci Pi : Addr} (TB : TbA base mg ct Pt ci Pi) (hcode : ∀ fd, FunD K "__init__" "Table.__init__" (defArgs s_Table__init) (defBody s_Table__init) (defScope s_Table__init) [] [] (He.ma K (cT K) "__init__") fd → fd.code = .ref ci) : Met P w K mg base 9 (cT K) "__init__" (spTInit (cT K) Pt Pi) := by
  have c_look_entries := c_look_entries (P := P) (w := w) (base := base) T
  have c_look_body := c_look_body (P := P) (w := w) (base := base) T
  have c_pushed_in := c_pushed_in (P := P) (w := w) (base := base) T
  have c_ordered := c_ordered (P := P) (w := w) (base := base) T
  obtain ⟨fd, F⟩ := T.d_Table__init.ex
  refine ⟨⟨fd, ["self", "functions", "cases"], FunD.okC F (hcode fd F) sc_Table__init (fun vs H Q E h => ?_) (fun A outer s H vs Q E hr h => ?_), F.bindsN fun _ _ _ _ _ _ us hl => match us, hl with | [_, _, _], _ => rfl⟩, T.d_Table__init.at_, T.d_Table__init.fn⟩
  · obtain ⟨_, _, _, _, _, _, _, _, _, _, rfl, _⟩ := h; rfl
  obtain ⟨x, dx, pF, pC, H0, af, ac, M, fns, css, rfl, hx, hx0, e0, tb, hF, pf, hC, pc, ok, fz, cz, fne, aw, kk⟩ := h
  have nd := sc_Table__init.nd
  have hu := hu_of hr
  refine ⟨_, (pss_cons (ps_expr (pe_c c_look_entries hr (by decide) rfl (pa_cons (pv 1) (pa_cons (pv 2) pa_nil))))
  (pss_cons (ps_fld (pv 0) (pe_callTy call_tuple_of (by rfl) T.b_tuple (by decide +kernel) (pa_cons (pe_sortLam (y := "row") (T := TTs Pt Pi) (hr.mono (by decide)) (by rfl) T.b_sorted (by decide +kernel) (pa_cons (pv 1) pa_nil) TB.i rfl (List.mem_cons_of_mem _ (List.mem_cons_self ..)) rfl rfl (tts_u2 TB.ne) rfl (by decide +kernel) (nscope_by (by decide +kernel)) (fun _ _ _ _ => rfl) (fun _ _ _ _ _ _ _ _ => (pe_ix (ixK (K := K) rfl ix_tup) (pv 0) pe_int (fun _ _ => rfl))) (fun t z r H h => ⟨_, rfl, t, _, _, _, rfl, rfl, SqT.of h, atI_nat (j := 0) rfl, rfl, rfl⟩)) pa_nil)) rfl)
  (pss_cons (ps_fld (pv 0) (pe_callTy call_tuple_of (by rfl) T.b_tuple (by decide +kernel) (pa_cons (pe_sortLam (y := "row") (T := TTs Pt Pi) (hr.mono (by decide)) (by rfl) T.b_sorted (by decide +kernel) (pa_cons (pv 2) pa_nil) TB.i rfl (List.mem_cons_of_mem _ (List.mem_cons_self ..)) rfl rfl (tts_u2 TB.ne) rfl (by decide +kernel) (nscope_by (by decide +kernel)) (fun _ _ _ _ => rfl) (fun _ _ _ _ _ _ _ _ => (pe_ix (ixK (K := K) rfl ix_tup) (pv 0) pe_int (fun _ _ => rfl))) (fun t z r H h => ⟨_, rfl, t, _, _, _, rfl, rfl, SqT.of h, atI_nat (j := 0) rfl, rfl, rfl⟩)) pa_nil)) rfl)
  (pss_cons (ps_fld (pv 0) (pe_callTy call_tuple_frz (by rfl) T.b_tuple (by decide +kernel) (pa_cons (pe_lc (own := [("row", 13)]) rfl nd (pi_tup (pe_fld (pv 0) rfl)) (blkOk_by (N := N_Table__init) (sc := defScope s_Table__init) (by decide +kernel)) (fun _ _ _ _ _ => (pg_name (i := 13) nd rfl (Or.inl rfl))) (fun _ _ _ _ _ => pts_nil) (fun _ _ _ _ _ => (pe_ix (ixK (K := K) rfl ix_tup) (pv 13) pe_int (fun _ _ => rfl)))) pa_nil)) rfl)
  (pss_cons (ps_fld (pv 0) (pe_dc (own := [("name", 3), ("kind", 4), ("slots", 5), ("arm", 6)]) rfl nd (pi_tup (pe_fld (pv 0) rfl)) (blkOk_by (N := N_Table__init) (sc := defScope s_Table__init) (by decide +kernel)) (fun _ _ _ _ _ => (pg_tupK (K := K) (n := 4) rfl (by rfl) (pgs_cons (pg_name (i := 3) nd rfl (Or.inl rfl)) (pgs_cons (pg_name (i := 4) nd rfl (Or.inl rfl)) (pgs_cons (pg_name (i := 5) nd rfl (Or.inl rfl)) (pgs_cons (pg_name (i := 6) nd rfl (Or.inl rfl)) pgs_nil)))))) (fun _ _ _ _ _ => pts_nil) (fun _ _ _ _ _ => (pv 3)) (fun _ _ _ _ _ => (pe_tup (pa_cons (pv 4) (pa_cons (pv 5) (pa_cons (pv 6) pa_nil)))))) rfl)
  (pss_cons (ps_setDc (i := 9) (own := [("name", 3), ("arity", 7), ("body", 8)]) rfl nd rfl rfl (swd_true rfl rfl rfl (by decide +kernel)) (pi_tup (pe_fld (pv 0) rfl)) (blkOk_by (N := N_Table__init) (sc := defScope s_Table__init) (by decide +kernel)) (fun _ _ _ _ _ => (pg_tupK (K := K) (n := 3) rfl (by rfl) (pgs_cons (pg_name (i := 3) nd rfl (Or.inl rfl)) (pgs_cons (pg_name (i := 7) nd rfl (Or.inl rfl)) (pgs_cons (pg_name (i := 8) nd rfl (Or.inl rfl)) pgs_nil))))) (fun _ _ _ _ _ => pts_nil) (fun _ _ _ _ _ => (pv 3)) (fun _ _ _ _ _ => (pv 7)))
  (pss_cons (ps_setDc (i := 10) (own := [("name", 3), ("kind", 4), ("slots", 5), ("arm", 6)]) rfl nd rfl rfl (swd_true rfl rfl rfl (by decide +kernel)) (pi_tup (pe_fld (pv 0) rfl)) (blkOk_by (N := N_Table__init) (sc := defScope s_Table__init) (by decide +kernel)) (fun _ _ _ _ _ => (pg_tupK (K := K) (n := 4) rfl (by rfl) (pgs_cons (pg_name (i := 3) nd rfl (Or.inl rfl)) (pgs_cons (pg_name (i := 4) nd rfl (Or.inl rfl)) (pgs_cons (pg_name (i := 5) nd rfl (Or.inl rfl)) (pgs_cons (pg_name (i := 6) nd rfl (Or.inl rfl)) pgs_nil)))))) (fun _ _ _ _ _ => pts_nil) (fun _ _ _ _ _ => (pv 3)) (fun _ _ _ _ _ => (pv 5)))
  (pss_cons (ps_for PassesOwn.never rfl (pi_tup (pe_fld (pv 0) rfl)) (pg_tup (by rfl) (pgs_cons (pg_name (i := 3) nd rfl (Or.inl rfl)) (pgs_cons (pg_name (i := 7) nd rfl (Or.inl rfl)) (pgs_cons (pg_name (i := 8) nd rfl (Or.inl rfl)) pgs_nil)))) (pss_one (ps_expr (pe_c c_look_body hr (by decide) rfl (pa_cons (pv 8) (pa_cons (pv 7) (pa_cons (pv 9) (pa_cons (pv 10) pa_nil))))))))
  (pss_cons (ps_for PassesOwn.never rfl (pi_tup (pe_fld (pv 0) rfl)) (pg_tup (by rfl) (pgs_cons (pg_name (i := 3) nd rfl (Or.inl rfl)) (pgs_cons (pg_name (i := 4) nd rfl (Or.inl rfl)) (pgs_cons (pg_name (i := 5) nd rfl (Or.inl rfl)) (pgs_cons (pg_name (i := 6) nd rfl (Or.inl rfl)) pgs_nil))))) (pss_one (ps_expr (pe_c c_look_body hr (by decide) rfl (pa_cons (pv 6) (pa_cons (pe_op op_add (pv 5) pe_int) (pa_cons (pv 9) (pa_cons (pv 10) pa_nil))))))))
  (pss_cons (ps_set (i := 11) nd rfl (Or.inr rfl) (pe_dc (own := [("name", 3), ("kind", 4), ("slots", 5), ("arm", 6)]) rfl nd (pi_tup (pe_fld (pv 0) rfl)) (blkOk_by (N := N_Table__init) (sc := defScope s_Table__init) (by decide +kernel)) (fun _ _ _ _ _ => (pg_tupK (K := K) (n := 4) rfl (by rfl) (pgs_cons (pg_name (i := 3) nd rfl (Or.inl rfl)) (pgs_cons (pg_name (i := 4) nd rfl (Or.inl rfl)) (pgs_cons (pg_name (i := 5) nd rfl (Or.inl rfl)) (pgs_cons (pg_name (i := 6) nd rfl (Or.inl rfl)) pgs_nil)))))) (fun _ _ _ _ _ => pts_nil) (fun _ _ _ _ _ => (pv 3)) (fun _ _ _ _ _ => (pe_callB (cr_sortedS' (K := K) (P := P) (w := w) rfl rfl rfl rfl) (by rfl) T.b_sorted (by decide +kernel) (pa_cons (pe_callTy (cr_setS' (K := K) (P := P) (w := w) rfl rfl rfl rfl) (by rfl) T.b_set (by decide +kernel) (pa_cons (pe_c c_pushed_in hr (by decide) rfl (pa_cons (pv 6) pa_nil)) pa_nil)) pa_nil)))))
  (pss_cons (ps_fld (pv 0) (pe_c c_ordered hr (by decide) rfl (pa_cons (pv 11) pa_nil)) rfl)
  (pss_one (ps_if (pt_cmpR op_lt (pe_callB call_len_seq (by rfl) T.b_len PySem.boot_len (pa_cons (pe_fld (pv 0) rfl) pa_nil)) (pe_callB call_len_seq (by rfl) T.b_len PySem.boot_len (pa_cons (pe_fld (pv 0) rfl) pa_nil)) (nomark _)) (pss_cons ps_never
  (pss_one ps_never)) pss_nil))))))))))))), ?_⟩
  have hz : 2000 ≤ sizeLine := by decide
  have cnd := ord_nd ok.ord
  have l0 := ExtN.le e0
  have fL := pf.length
  have cL := pc.length
  refine ⟨_, rfl, _, rfl, pF, pC, af, ac, M, M.fs, M.cs, fns, css, rfl, e0 _ _ hF (by intro ps z; cases z), Paired.mono (fun _ _ q => q.le l0) pf, e0 _ _ hC (by intro ps z; cases z), Paired.mono (fun _ _ q => q.le l0) pc, ok.nd, cnd, by omega, fne, fun H1 s1 => ?_⟩
  have e1 := e0.trans (ExtN.of_same s1)
  have tb1 := TabsN.same s1 tb
  have hx1 := s1 _ _ hx
  clear e0 tb hx s1 l0
  -- functions
  refine ⟨_, rfl, tb1, fun f c' H2 eN tb2 hfn hf hc => ?_⟩
  have e2 := e1.trans eN
  have l2 := ExtN.le e2
  have hx2 := eN _ _ hx1 (by intro ps z; cases z)
  refine ⟨pF, f, _, fns, M.fs, rfl, rfl, SqL.of (e2 _ _ hF (by intro ps z; cases z)), ⟨c', rfl⟩, hf, hc, Paired.mono (fun y z ⟨p, bv, ev, hp, _⟩ => ⟨p, _, ev, l2 _ _ trivial hp⟩) (pair_flip pf), fun zs q H3 perm s3 hq0 hq => ?_⟩
  refine ⟨q, zs, rfl, .inl ⟨SqL.of hq, fun pF1 hpF1 => ?_⟩⟩
  obtain ⟨fl, flp, pfl⟩ := paired_perm perm pf
  have s4 := s3.trans (Same.upd (o := .tup zs) hpF1)
  have h4 : (upd H3 pF1 (.tup zs)) pF1 = some (.tup zs) := upd_same
  have e4 := e2.trans (ExtN.of_same s4)
  have tb4 := TabsN.same s4 tb2
  have hx4 := s4 _ _ hx2
  generalize upd H3 pF1 (.tup zs) = H4 at h4 e4 tb4 hx4
  clear hq0 hq s3 s4 hpF1 hfn hf hc eN tb2 e1 tb1 hx1 e2 l2 hx2
  refine ⟨_, rfl, x, _, dx, _, rfl, hx4, T.clsT, T.noT1, by decide, ?_⟩
  obtain ⟨e5, tb5, hx5, k5⟩ := ins_step (fs' := putF "functions" (.ref pF1) []) hx0 e4 tb4 hx4
  have hF5 := k5 _ _ h4 (by intro _ _ _ z; cases z)
  generalize upd H4 x (.ins (cT K) dx (putF "functions" (.ref pF1) [])) = H5 at e5 tb5 hx5 hF5
  clear e4 tb4 hx4 h4 k5
  -- cases
  refine ⟨_, rfl, tb5, fun f c' H2 eN tb2 hfn hf hc => ?_⟩
  have e2 := e5.trans eN
  have l2 := ExtN.le e2
  have hx2 := eN _ _ hx5 (by intro ps z; cases z)
  have hF2 := eN _ _ hF5 (by intro ps z; cases z)
  refine ⟨pC, f, _, css, M.cs, rfl, rfl, SqL.of (e2 _ _ hC (by intro ps z; cases z)), ⟨c', rfl⟩, hf, hc, Paired.mono (fun y z ⟨p, bv, ev, hp, _⟩ => ⟨p, _, ev, l2 _ _ trivial hp⟩) (pair_flip pc), fun cz1 q H3 perm s3 hq0 hq => ?_⟩
  refine ⟨q, cz1, rfl, .inl ⟨SqL.of hq, fun pC1 hpC1 => ?_⟩⟩
  obtain ⟨cl, clp, pcl⟩ := paired_perm perm pc
  have s4 := s3.trans (Same.upd (o := .tup cz1) hpC1)
  have h4 : (upd H3 pC1 (.tup cz1)) pC1 = some (.tup cz1) := upd_same
  have e4 := e2.trans (ExtN.of_same s4)
  have tb4 := TabsN.same s4 tb2
  have hx4 := s4 _ _ hx2
  have hF4 := s4 _ _ hF2
  generalize upd H3 pC1 (.tup cz1) = H4 at h4 e4 tb4 hx4 hF4
  clear hq0 hq s3 s4 hpC1 hfn hf hc eN tb2 e5 tb5 hx5 e2 l2 hx2 hF5 hF2
  refine ⟨_, rfl, x, _, dx, _, rfl, hx4, T.clsT, T.noT2, by show 1 < 1000; decide, ?_⟩
  obtain ⟨e6, tb6, hx6, k6⟩ := ins_step (fs' := putF "cases" (.ref pC1) (putF "functions" (.ref pF1) [])) hx0 e4 tb4 hx4
  have hF6 := k6 _ _ hF4 (by intro _ _ _ z; cases z)
  have hC6 := k6 _ _ h4 (by intro _ _ _ z; cases z)
  generalize upd H4 x (.ins (cT K) dx (putF "cases" (.ref pC1) (putF "functions" (.ref pF1) []))) = H6 at e6 tb6 hx6 hF6 hC6
  clear e4 tb4 hx4 h4 k6 hF4
  have flL := flp.length_eq
  have clL := clp.length_eq
  have zL := pfl.length
  have czL := pcl.length
  have l6 := ExtN.le e6
  have fnd : fl.Nodup := flp.nodup_iff.mpr ok.nd
  have cndl : cl.Nodup := clp.nodup_iff.mpr cnd
  have pfl6 : Paired (FnV af ac M H6) fl zs := Paired.mono (fun _ _ q => q.le l6) pfl
  have pcl6 : Paired (CsV af ac M H6) cl cz1 := Paired.mono (fun _ _ q => q.le l6) pcl
  -- names
  refine ⟨_, rfl, x, _, dx, _, _, rfl, hx6, T.clsT, T.noT1, rfl, pF1, rfl, ⟨_, SqT.of hF6⟩, fun D hD => ?_⟩
  refine lc_map walk_tup hD (fun H' s => SqT.of (s _ _ hF6)) (by omega) (fun i y _ => ∃ nm, fl[i]? = some nm ∧ y = .str nm) (fun _ _ _ _ _ _ _ h => h) (fun _ _ _ _ _ z => by rw [z.1]; exact Same.refl _) (fun i y0 H7 H8 Q' hi s7 y kq => ?_) (fun H7 ys s7 hD7 hyl hys => ?_)
  · obtain ⟨rfl, hy⟩ := y
    obtain ⟨nm, hnm, p, bv, rfl, hp, _⟩ := paired_at pfl6 hy
    exact ⟨rfl, _, rfl, p, _, _, _, rfl, rfl, SqT.of (s7 _ _ hp), rfl, kq _ _ (Same.refl _) ⟨nm, hnm, rfl⟩⟩
  have eys : ys = fl.map V.str := ys_of (by omega) hys
  subst eys
  clear hys hyl
  refine ⟨D, _, rfl, SqL.of hD7, fun pN ob hpN hob => ?_⟩
  have s8 := s7.trans (Same.upd (o := .frz ob (.tup (fl.map V.str))) hpN)
  have h8 : (upd H7 pN (.frz ob (.tup (fl.map V.str)))) pN = some (.frz ob (.tup (fl.map V.str))) := upd_same
  have e8 := e6.trans (ExtN.of_same s8)
  have tb8 := TabsN.same s8 tb6
  have hx8 := s8 _ _ hx6
  have hF8 := s8 _ _ hF6
  have hC8 := s8 _ _ hC6
  generalize upd H7 pN (.frz ob (.tup (fl.map V.str))) = H8 at s8 h8 e8 tb8 hx8 hF8 hC8
  refine ⟨_, rfl, x, _, dx, _, rfl, hx8, T.clsT, T.noT3, by show 2 < 1000; decide, ?_⟩
  obtain ⟨e9, tb9, hx9, k9⟩ := ins_step (fs' := putF "names" (.ref pN) (putF "cases" (.ref pC1) (putF "functions" (.ref pF1) []))) hx0 e8 tb8 hx8
  have hF9 := k9 _ _ hF8 (by intro _ _ _ z; cases z)
  have hC9 := k9 _ _ hC8 (by intro _ _ _ z; cases z)
  have hN9 := k9 _ _ h8 (by intro _ _ _ z; cases z)
  generalize upd H8 x (.ins (cT K) dx (putF "names" (.ref pN) (putF "cases" (.ref pC1) (putF "functions" (.ref pF1) [])))) = H9 at e9 tb9 hx9 hF9 hC9 hN9
  clear e8 tb8 hx8 hF8 hC8 h8 s8 s7 hD7 hD hpN k9 D H7 H8 e6 tb6 hx6 hF6 hC6 l6 pfl6 pcl6 H6 
  have l9 := ExtN.le e9
  have pfl9 : Paired (FnV af ac M H9) fl zs := Paired.mono (fun _ _ q => q.le l9) pfl
  have pcl9 : Paired (CsV af ac M H9) cl cz1 := Paired.mono (fun _ _ q => q.le l9) pcl
  -- arms
  refine ⟨_, rfl, x, _, dx, _, _, rfl, hx9, T.clsT, T.noT2, rfl, pC1, rfl, ⟨_, SqT.of hC9⟩, fun D hD => ?_⟩
  refine dc_map walk_tup (names := cl) czL cndl hD (fun H' s => SqT.of (s _ _ hC9)) (by omega) (fun c v H' => ∃ p bv, v = .ref p ∧ H' p = some (.tup [.str (kindS (M.kd c)), .int (ac c : Nat), bv]) ∧ BdV af ac (ac c + 1) H0 (M.am c) bv) (fun c y H H' ws hd bu ⟨p, bv, r1, r2, r3⟩ => ⟨p, bv, r1, bu _ _ (ne_of r2 hd (by intro z; cases z)) r2, r3⟩) (fun _ _ _ _ _ z => by rw [z.1]; exact Same.refl _) (fun i nm y0 H3 H4 Q' hnm s3 y kq => ?_) (fun Ha kA sa hA1 hA2 => ?_)
  · obtain ⟨rfl, hy⟩ := y
    obtain ⟨nm', hnm', p, bv, rfl, hp0, _, _, hb, _⟩ := paired_at pcl hy
    have hp := l9 _ (.tup _) trivial hp0
    rw [hnm] at hnm'; cases hnm'
    refine ⟨p, _, rfl, SqT.of (s3 _ _ hp), rfl, _, _, rfl, _, _, rfl, _, _, rfl, _, _, rfl, rfl, rfl, _, rfl, _, rfl, _, rfl, _, rfl, by show 3 ≤ sizeLine; decide, fun t ht => ?_⟩
    exact kq _ _ (Same.upd ht) ⟨t, bv, rfl, upd_same, hb⟩
  have ea := e9.trans (ExtN.of_same sa)
  have tba := TabsN.same sa tb9
  refine ⟨_, rfl, x, _, dx, _, rfl, sa _ _ hx9, T.clsT, T.noT4, by show 3 < 1000; decide, ?_⟩
  obtain ⟨e10, tb10, hx10, k10⟩ := ins_step (fs' := putF "arms" (.ref D) (putF "names" (.ref pN) (putF "cases" (.ref pC1) (putF "functions" (.ref pF1) [])))) hx0 ea tba (sa _ _ hx9)
  have hF10 := k10 _ _ (sa _ _ hF9) (by intro _ _ _ z; cases z)
  have hC10 := k10 _ _ (sa _ _ hC9) (by intro _ _ _ z; cases z)
  have hN10 := k10 _ _ (sa _ _ hN9) (by intro _ _ _ z; cases z)
  have hD10 := k10 _ _ hA1 (by intro _ _ _ z; cases z)
  have hA10 : DRel cl (fun c v => ∃ p bv, v = .ref p ∧ (upd Ha x (.ins (cT K) dx (putF "arms" (.ref D) (putF "names" (.ref pN) (putF "cases" (.ref pC1) (putF "functions" (.ref pF1) [])))))) p = some (.tup [.str (kindS (M.kd c)), .int (ac c : Nat), bv]) ∧ BdV af ac (ac c + 1) H0 (M.am c) bv) kA :=
    hA2.imp fun c v _ ⟨p, bv, r1, r2, r3⟩ => ⟨p, bv, r1, k10 _ _ r2 (by intro _ _ _ z; cases z), r3⟩
  generalize upd Ha x (.ins (cT K) dx (putF "arms" (.ref D) (putF "names" (.ref pN) (putF "cases" (.ref pC1) (putF "functions" (.ref pF1) []))))) = H10 at e10 tb10 hx10 hF10 hC10 hN10 hD10 hA10
  clear hA1 hA2 k10 ea tba sa hD e9 tb9 hx9 hF9 hC9 hN9 pfl9 pcl9 l9 H9 Ha
  have l10 := ExtN.le e10
  -- arities
  refine ⟨_, rfl, x, _, dx, _, _, rfl, hx10, T.clsT, T.noT1, rfl, pF1, rfl, ⟨_, SqT.of hF10⟩, fun dA hdA => ?_⟩
  refine dc_map walk_tup (names := fl) zL fnd hdA (fun H' s => SqT.of (s _ _ hF10)) (by omega) (fun c v _ => v = .int (af c : Nat)) (fun _ _ _ _ _ _ _ r => r) (fun _ _ _ _ _ z => by rw [z.1]; exact Same.refl _) (fun i nm y0 H3 H4 Q' hnm s3 y kq => ?_) (fun H11 kF s11 hA1 hA2 => ?_)
  · obtain ⟨rfl, hy⟩ := y
    obtain ⟨nm', hnm', p, bv, rfl, hp0, _⟩ := paired_at pfl hy
    rw [hnm] at hnm'; cases hnm'
    have hp := s3 _ _ (l10 _ (.tup _) trivial hp0)
    refine ⟨p, _, rfl, SqT.of hp, rfl, _, _, rfl, _, _, rfl, _, _, rfl, rfl, rfl, _, rfl, _, rfl, ?_⟩
    exact kq _ _ (Same.refl _) rfl
  have dA11 : NumD H11 dA af fl := ⟨kF, hA1, hA2⟩
  clear hA1 hA2 kF
  -- needs
  refine ⟨_, rfl, x, _, dx, _, _, rfl, s11 _ _ hx10, T.clsT, T.noT2, rfl, pC1, rfl, ⟨_, SqT.of (s11 _ _ hC10)⟩, fun dN hdN => ?_⟩
  refine dc_map walk_tup (names := cl) czL cndl hdN (fun H' s => SqT.of (s _ _ (s11 _ _ hC10))) (by omega) (fun c v _ => v = .int (ac c : Nat)) (fun _ _ _ _ _ _ _ r => r) (fun _ _ _ _ _ z => by rw [z.1]; exact Same.refl _) (fun i nm y0 H3 H4 Q' hnm s3 y kq => ?_) (fun H12 kF s12 hA1 hA2 => ?_)
  · obtain ⟨rfl, hy⟩ := y
    obtain ⟨nm', hnm', p, bv, rfl, hp0, _⟩ := paired_at pcl hy
    rw [hnm] at hnm'; cases hnm'
    have hp := s3 _ _ (s11 _ _ (l10 _ (.tup _) trivial hp0))
    refine ⟨p, _, rfl, SqT.of hp, rfl, _, _, rfl, _, _, rfl, _, _, rfl, _, _, rfl, rfl, rfl, _, rfl, _, rfl, ?_⟩
    exact kq _ _ (Same.refl _) rfl
  have dN12 : NumD H12 dN ac cl := ⟨kF, hA1, hA2⟩
  have dA12 := NumD.same s12 dA11
  clear hA1 hA2 kF dA11
  have sb := s11.trans s12
  clear s11 s12 hdA hdN
  have keep12 : ∀ {b : Addr} {o : HO}, H10 b = some o → H12 b = some o := fun e => sb _ _ e
  have e12 := e10.trans (ExtN.of_same sb)
  have l12 := ExtN.le e12
  have fmem : ∀ {t : Str}, t ∈ M.fs → t ∈ fl := fun h => flp.mem_iff.mpr h
  have cmem : ∀ {t : Str}, t ∈ M.cs → t ∈ cl := fun h => clp.mem_iff.mpr h
  -- the bodies of the functions
  refine ⟨_, rfl, x, _, dx, _, _, rfl, keep12 hx10, T.clsT, T.noT1, rfl, pF1, rfl, ⟨_, SqT.of (keep12 hF10)⟩, ?_⟩
  refine for_it walk_tup (fun i σ H' => (∃ p3 p7 p8, σ = [some (.ref x), some (.ref pF), some (.ref pC), p3, none, none, none, p7, p8, some (.ref dA), some (.ref dN), none, none, none, none]) ∧ Same H12 H') ⟨⟨_, _, _, rfl⟩, Same.refl _⟩ (fun i σ H' _ p => SqT.of (p.2 _ _ (keep12 hF10))) (fun i y0 σ Hn Hc hi p y => ?_) (fun σ H13 p => ?_)
  · obtain ⟨rfl, hy⟩ := y
    obtain ⟨⟨p3, p7, p8, rfl⟩, st⟩ := p
    obtain ⟨nm, hnm, p, bv, rfl, hp0, hn0, ha0, hb0, hs0, hd0⟩ := paired_at pfl hy
    have hin : nm ∈ M.fs := flp.mem_iff.mp (List.mem_of_getElem? hnm)
    have hp := st _ _ (l12 _ (.tup _) trivial hp0)
    refine ⟨p, _, rfl, SqT.of hp, rfl, _, _, rfl, _, _, rfl, _, _, rfl, rfl, ?_⟩
    exact ⟨_, rfl, _, rfl, _, rfl, _, rfl, bv, dA, dN, af, ac, af nm, M.bd nm, fl, cl, rfl, hb0.le (Le.trans l12 (Same.le st)), by omega, NumD.same st dA12, NumD.same st dN12, fun g hg => fmem (ok.bc nm hin g hg), fun g hg => cmem (ok.bp nm hin g hg), fun H' s' => ⟨⟨_, _, _, rfl⟩, st.trans s'⟩⟩
  obtain ⟨⟨p3, p7, p8, rfl⟩, s13⟩ := p
  have keep13 : ∀ {b : Addr} {o : HO}, H10 b = some o → H13 b = some o := fun e => s13 _ _ (keep12 e)
  refine ⟨_, rfl, x, _, dx, _, _, rfl, keep13 hx10, T.clsT, T.noT2, rfl, pC1, rfl, ⟨_, SqT.of (keep13 hC10)⟩, ?_⟩
  refine for_it walk_tup (fun i σ H' => (∃ p3 p4 p5 p6 p7 p8, σ = [some (.ref x), some (.ref pF), some (.ref pC), p3, p4, p5, p6, p7, p8, some (.ref dA), some (.ref dN), none, none, none, none]) ∧ Same H12 H') ⟨⟨_, _, _, _, _, _, rfl⟩, s13⟩ (fun i σ H' _ p => SqT.of (p.2 _ _ (keep12 hC10))) (fun i y0 σ Hn Hc hi p y => ?_) (fun σ H14 p => ?_)
  · obtain ⟨rfl, hy⟩ := y
    obtain ⟨⟨p3, p4, p5, p6, p7, p8, rfl⟩, st⟩ := p
    obtain ⟨nm, hnm, p, bv, rfl, hp0, hn0, ha0, hb0, hs0, hd0⟩ := paired_at pcl hy
    have hin : nm ∈ M.cs := clp.mem_iff.mp (List.mem_of_getElem? hnm)
    have hp := st _ _ (l12 _ (.tup _) trivial hp0)
    refine ⟨p, _, rfl, SqT.of hp, rfl, _, _, rfl, _, _, rfl, _, _, rfl, _, _, rfl, rfl, ?_⟩
    exact ⟨_, rfl, _, rfl, _, _, rfl, rfl, _, rfl, _, rfl, bv, dA, dN, af, ac, ac nm + 1, M.am nm, fl, cl, rfl, hb0.le (Le.trans l12 (Same.le st)), by omega, NumD.same st dA12, NumD.same st dN12, fun g hg => fmem (ok.ac nm hin g hg), fun g hg => cmem (ok.ap nm hin g hg), fun H' s' => ⟨⟨_, _, _, _, _, _, rfl⟩, st.trans s'⟩⟩
  clear p3 p7 p8 s13 keep13 H13
  obtain ⟨⟨p3, p4, p5, p6, p7, p8, rfl⟩, s14⟩ := p
  have s14' := sb.trans s14
  clear sb s14 keep12 dN12 dA12 l12 e12 H12
  have e14 := e10.trans (ExtN.of_same s14')
  have l14 := ExtN.le e14
  -- leads
  refine ⟨_, rfl, x, _, dx, _, _, rfl, s14' _ _ hx10, T.clsT, T.noT2, rfl, pC1, rfl, ⟨_, SqT.of (s14' _ _ hC10)⟩, fun dL hdL => ?_⟩
  refine dc_map walk_tup (names := cl) czL cndl hdL (fun H' s => SqT.of (s _ _ (s14' _ _ hC10))) (by omega) (fun c v H' => ∃ ns : List Str, (∃ p, v = .ref p ∧ H' p = some (.lst (ns.map V.str))) ∧ (ns.Nodup ∧ ∀ t, t ∈ ns ↔ t ∈ (M.am c).pushes)) (fun c y H H' ws hd bu ⟨ns, ⟨p, r1, r2⟩, r3⟩ => ⟨ns, ⟨p, r1, bu _ _ (ne_of r2 hd (by intro z; cases z)) r2⟩, r3⟩) (fun _ _ _ _ _ z => by rw [z.1]; exact Same.refl _) (fun i nm y0 H3 H4 Q' hnm s3 y kq => ?_) (fun H15 kL s15 hL1 hL2 => ?_)
  · obtain ⟨rfl, hy⟩ := y
    obtain ⟨nm', hnm', p, bv, rfl, hp0, hn0, ha0, hb0, hs0, hd0⟩ := paired_at pcl hy
    rw [hnm] at hnm'; cases hnm'
    have hp := s3 _ _ (l14 _ (.tup _) trivial hp0)
    refine ⟨p, _, rfl, SqT.of hp, rfl, _, _, rfl, _, _, rfl, _, _, rfl, _, _, rfl, rfl, rfl, _, rfl, ?_⟩
    refine ⟨_, rfl, bv, af, ac, _, _, rfl, hb0.le (Le.trans l14 (Same.le s3)), by omega, fun Ha q ns sa _ hq hns hnl => ?_⟩
    refine ⟨q, ns, rfl, SqL.of hq, by unfold scanBound; omega, fun a L Hb nL mL bL sb _ hab => ?_⟩
    refine ⟨a, L, rfl, hab, fun L' p' Hc pm sc _ hp' => ?_⟩
    exact kq _ _ (sa.trans (sb.trans sc)) ⟨L', ⟨p', rfl, hp'⟩, pm.nodup_iff.mpr nL, fun t => by rw [pm.mem_iff, mL, hns]⟩
  obtain ⟨ls, g1, g2, g3⟩ := drel_ls (d := fun x => ddup (M.am x).pushes) hL2 cndl
  have hls : ∀ x t, t ∈ ls x ↔ t ∈ (M.am x).pushes := fun x t => by
    by_cases hx : x ∈ cl
    · exact (g2 x hx).2 t
    · rw [g3 x hx]; exact ddup_mem _
  have hln : ∀ x, (ls x).Nodup := fun x => by
    by_cases hx : x ∈ cl
    · exact (g2 x hx).1
    · rw [g3 x hx]; exact ddup_nd _
  refine ⟨_, rfl, dL, kL, cl, ls, rfl, hL1, g1, cndl, hln, fun x hx t ht => cmem (ok.ap x (clp.mem_iff.mp hx) t ((hls x t).mp ht)), by omega, fun H16 q R W at_ s16 hq0 hq I hlen => ?_⟩
  have s16' := s14'.trans (s15.trans s16)
  have e16 := e10.trans (ExtN.of_same s16')
  have tb16 := TabsN.same s16' tb10
  refine ⟨_, rfl, x, _, dx, _, rfl, s16' _ _ hx10, T.clsT, T.noT5, by show 4 < 1000; decide, ?_⟩
  obtain ⟨e17, tb17, hx17, k17⟩ := ins_step (fs' := putF "order" (.ref q) (putF "arms" (.ref D) (putF "names" (.ref pN) (putF "cases" (.ref pC1) (putF "functions" (.ref pF1) []))))) hx0 e16 tb16 (s16' _ _ hx10)
  have hF17 := k17 _ _ (s16' _ _ hF10) (by intro _ _ _ z; cases z)
  have hC17 := k17 _ _ (s16' _ _ hC10) (by intro _ _ _ z; cases z)
  have hN17 := k17 _ _ (s16' _ _ hN10) (by intro _ _ _ z; cases z)
  have hD17 := k17 _ _ (s16' _ _ hD10) (by intro _ _ _ z; cases z)
  have hR17 := k17 _ _ hq (by intro _ _ _ z; cases z)
  have l17 := ExtN.le e17
  have hA17 : DRel cl (ArmV af ac M (upd H16 x (.ins (cT K) dx (putF "order" (.ref q) (putF "arms" (.ref D) (putF "names" (.ref pN) (putF "cases" (.ref pC1) (putF "functions" (.ref pF1) []))))))) ) kA :=
    hA10.imp fun c v _ ⟨p, bv, r1, r2, r3⟩ => ⟨p, bv, r1, k17 _ _ (s16' _ _ r2) (by intro _ _ _ z; cases z), r3.le l17⟩
  have ccm : ∀ x, x ∈ cl ↔ x ∈ M.cs := fun x => clp.mem_iff
  have Rall := I.all hlen ok.ord ccm hls
  have Rp : R.Perm cl := (List.perm_ext_iff_of_nodup I.nd cndl).mpr fun x => ⟨I.sub x, Rall x⟩
  have RL := Rp.length_eq
  have fF : ∀ x ∈ M.fs, ∃ v, FnV af ac M H0 x v := fun x hx => by
    obtain ⟨i, hi, ei⟩ := List.mem_iff_getElem.mp hx
    obtain ⟨v, _, hv⟩ := paired_at' pf (by rw [List.getElem?_eq_getElem hi, ei])
    exact ⟨v, hv⟩
  have fC : ∀ x ∈ M.cs, ∃ v, CsV af ac M H0 x v := fun x hx => by
    obtain ⟨i, hi, ei⟩ := List.mem_iff_getElem.mp hx
    obtain ⟨v, _, hv⟩ := paired_at' pc (by rw [List.getElem?_eq_getElem hi, ei])
    exact ⟨v, hv⟩
  have nmf : ∀ x ∈ M.fs, NmOk x := fun x hx => by
    obtain ⟨_, _, _, _, _, h, _⟩ := fF x hx
    exact h
  have tok : TabOk ac M fl cl R := {
    ok := ok, fnd := fnd, fm := fun x => flp.mem_iff, cnd := cndl, cm := ccm, rnd := I.nd
    rm := fun x => by rw [Rp.mem_iff]; exact ccm x
    top := fun i x h t ht => I.top i x h t ((hls x t).mpr ht)
    fz := by omega, cz := by omega, rz := by omega
    nz := fun h => absurd (nmf _ h).1 (by decide)
    nmf := nmf
    nmc := fun x hx => by
      obtain ⟨_, _, _, _, _, h, _⟩ := fC x hx
      exact h
    bd := fun x hx => by
      obtain ⟨_, _, _, _, _, _, _, _, h1, h2⟩ := fF x hx
      exact ⟨h2, h1⟩
    am := fun x hx => by
      obtain ⟨_, _, _, _, _, _, _, _, h1, h2⟩ := fC x hx
      exact ⟨h2, h1⟩
    aw := aw }
  have tab : TabA (cT K) af ac M fl cl R _ x := ⟨tok, dx, pF1, pC1, pN, D, q, ob, zs, cz1, kA, hx17, hF17, Paired.mono (fun _ _ h => h.le l17) pfl, hC17, Paired.mono (fun _ _ h => h.le l17) pcl, hN17, hob, hD17, hA17, hR17⟩
  have fin := kk fl cl R _ flp clp e17 tb17 tab
  refine ⟨_, rfl, x, _, dx, _, _, rfl, hx17, T.clsT, T.noT5, rfl, q, _, rfl, .inl (SqL.of hR17), _, rfl, x, _, dx, _, _, rfl, hx17, T.clsT, T.noT2, rfl, pC1, _, rfl, .inr (SqT.of hC17), _, _, rfl, rfl, _, rfl, ?_⟩
  rw [List.length_map]
  exact dF (by omega) fin
end
end K52

namespace K52
open PySem PySem.Spec PyProof.Rows L2
/-- the bag of digits -/
def BagV (H : Hp) (p : Addr) (n : Nat) : Prop := ∃ a b c : Int, H p = some (.lst [.int a, .int b, .int c]) ∧ 0 ≤ c ∧ c ≤ n
theorem emod_nat {x : Int} {m : Nat} (h : 0 < m) : ∃ d : Nat, d < m ∧ x % (m : Int) = (d : Nat) := by
  have h1 := Int.emod_nonneg x (b := (m : Int)) (by omega)
  have h2 := Int.emod_lt_of_pos x (b := (m : Int)) (by omega)
  exact ⟨(x % (m : Int)).toNat, by omega, by omega⟩
theorem BagV.same {H H' : Hp} {p : Addr} {n : Nat} (s : ∀ o, H p = some o → H' p = some o) (h : BagV H p n) : BagV H' p n := by
  obtain ⟨a, b, c, e, r⟩ := h
  exact ⟨a, b, c, s _ e, r⟩
theorem BagV.ne {H : Hp} {p D : Addr} {n : Nat} (h : BagV H p n) (d : H D = none) : p ≠ D := by
  obtain ⟨a, b, c, e, r⟩ := h
  exact ne_of_none e d
section
variable {P : Program} {w : World} {K : PySem.W.Frag} {mg : Str → Option Value} {base : Heap}
def spBag : Sp := fun vs H Q _ => ∃ s, ∃ ns : List Int, ∃ i : Nat, vs = [.ref s, .int (i : Nat)] ∧ SqL K H s (ns.map V.int) ∧ ns.length ≤ 4000 ∧ ∀ p H', Same H H' → H p = none → BagV H' p 0 → Q (.ref p) H'
theorem c_law_bag (T : Txt K mg) : Cal P w K mg base 1 "_law_bag" (spBag (K := K)) := by
  refine cal_of T.d_law_bag sc_law_bag (fun _ _ _ _ _ _ us hl => match us, hl with | [_, _], _ => rfl) (fun vs H Q E h => ?_) (fun f cdv A outer s H vs Q E hr h => ?_)
  · obtain ⟨v, _, _, rfl, _⟩ := h; rfl
  obtain ⟨sc, ns, i, rfl, hs, hl, kk⟩ := h
  have nd := sc_law_bag.nd
  refine ⟨_, (pss_cons (ps_set (i := 2) nd rfl (Or.inl rfl) (pe_ifExp (pt_cmpR op_lt (pv 1) (pe_callB call_len_seq (by rfl) T.b_len PySem.boot_len (pa_cons (pv 0) pa_nil)) (nomark _)) (pe_ix ix_list (pv 0) (pv 1) (fun _ _ => rfl)) pe_int))
  (pss_cons (ps_set (i := 3) nd rfl (Or.inl rfl) (pe_callB call_abs (by rfl) T.b_abs (by decide +kernel) (pa_cons (pv 2) pa_nil)))
  (pss_one (ps_ret (pe_lst (pa_cons (pe_ifExp (pt_cmpR op_ge (pv 3) (pe_op op_pow pe_int pe_int) (nomark _)) (pv 3) pe_int) (pa_cons (pe_op op_add (pe_op op_add (pe_op op_mod (pe_callTy call_int1 (by rfl) T.b_int (by decide +kernel) (pa_cons (pv 2) pa_nil)) pe_int) (pe_op op_mul pe_int (pv 1))) pe_int) (pa_cons pe_int pa_nil)))))))), ?_⟩
  have hz : 4000 ≤ sizeLine := by decide
  refine ⟨_, rfl, _, rfl, sc, _, rfl, .inl hs, _, _, rfl, rfl, _, rfl, ?_⟩
  rw [List.length_map]
  have rest : ∀ cell : Int, (tSeq
      (tAsg (tCB (fun xs H Q => ∃ i, xs = [V.int i] ∧ Q (V.int (if i < 0 then -i else i)) H) (tCons (tVar 2) tNil)) (gName 3))
      (tRet (tLst (tCons (tIf (tTest (tOp (rI0 fun i j => V.bl (decide (j ≤ i))) (tVar 3) (tOp (rI CPow fun i j => V.int (i ^ j.toNat)) (tC (V.int 10)) (tC (V.int 18))))) (tVar 3) (tC (V.int 0)))
            (tCons (tOp (rI0 fun i j => V.int (i + j)) (tOp (rI0 fun i j => V.int (i + j)) (tOp (rI (fun x j => 0 < j) fun i j => V.int (i % j))
                    (tCB (fun xs H Q => (∃ i, xs = [V.int i] ∧ Q (V.int i) H) ∨ ∃ k, xs = [V.bl k] ∧ Q (V.int (if k = true then 1 else 0)) H) (tCons (tVar 2) tNil)) (tC (V.int 4611686018427387847)))
                  (tOp (rI CMul fun i j => V.int (i * j)) (tC (V.int 131071)) (tVar 1))) (tC (V.int 257))) (tCons (tC (V.int 0)) tNil))))))
    { nx := fun x H' => Q V.non H', rt := Q } [some (.ref sc), some (.int (i : Nat)), some (.int cell), none] H := fun cell => by
    have fin : ∀ x y : Int, 3 ≤ sizeLine ∧ ∀ p, H p = none → Q (.ref p) (upd H p (.lst [.int x, .int y, .int 0])) := fun x y => ⟨by decide, fun p hp => kk p _ (Same.upd hp) hp ⟨x, y, 0, upd_same, by omega, by omega⟩⟩
    refine ⟨_, rfl, _, rfl, _, rfl, _, _, rfl, rfl, ⟨by decide, by decide, by decide⟩, _, _, rfl, rfl, _, rfl, ?_⟩
    by_cases h : (10 : Int) ^ 18 ≤ (if cell < 0 then -cell else cell)
    · exact dT h ⟨_, rfl, _, rfl, .inl ⟨_, rfl, _, _, rfl, rfl, (by show (0 : Int) < 4611686018427387847; decide), _, rfl, _, _, rfl, rfl, .inl ⟨by decide, by decide⟩, _, _, rfl, rfl, _, _, rfl, rfl, fin _ _⟩⟩
    · exact dF h ⟨_, rfl, .inl ⟨_, rfl, _, _, rfl, rfl, (by show (0 : Int) < 4611686018427387847; decide), _, rfl, _, _, rfl, rfl, .inl ⟨by decide, by decide⟩, _, _, rfl, rfl, _, _, rfl, rfl, fin _ _⟩⟩
  by_cases hi : (i : Int) < (ns.length : Nat)
  · have hi' : i < ns.length := by omega
    refine dT hi ⟨_, rfl, _, rfl, sc, _, _, _, rfl, rfl, hs, atI_nat (j := i) (by rw [List.getElem?_map, List.getElem?_eq_getElem hi']; rfl), ?_⟩
    exact rest _
  · exact dF hi (rest 0)
def spTakeB : Sp := fun vs H Q _ => ∃ p, ∃ m n : Nat, vs = [.ref p, .int (m : Nat)] ∧ BagV H p n ∧ n + 1 ≤ 1000000000 ∧ 0 < m ∧ m < 1000000 ∧ ∀ d : Nat, d < m → ∀ H', But p H H' → BagV H' p (n + 1) → Q (.int (d : Nat)) H'
theorem c_law_take (T : Txt K mg) : Cal P w K mg base 1 "_law_take" spTakeB := by
  refine cal_of T.d_law_take sc_law_take (fun _ _ _ _ _ _ us hl => match us, hl with | [_, _], _ => rfl) (fun vs H Q E h => ?_) (fun f cdv A outer s H vs Q E hr h => ?_)
  · obtain ⟨v, _, _, rfl, _⟩ := h; rfl
  obtain ⟨p, m, n, rfl, ⟨a, b, c, hp, c0, c1⟩, hn, m0, m1, kk⟩ := h
  have nd := sc_law_take.nd
  refine ⟨_, (pss_cons (ps_if (pt_cmpR op_gt (pe_ix ix_list (pv 0) pe_int (fun _ _ => rfl)) pe_int (nomark _)) (pss_cons (ps_set (i := 2) nd rfl (Or.inl rfl) (pe_op op_mod (pe_callTy call_int1 (by rfl) T.b_int (by decide +kernel) (pa_cons (pe_ix ix_list (pv 0) pe_int (fun _ _ => rfl)) pa_nil)) (pv 1)))
  (pss_cons (ps_asg (pe_op op_fdiv (pe_ix ix_list (pv 0) pe_int (fun _ _ => rfl)) (pv 1)) (pg_sub (pv 0) pe_int set_list))
  (pss_one (ps_ret (pv 2))))) pss_nil)
  (pss_cons (ps_asg (pe_op op_add (pe_ix ix_list (pv 0) pe_int (fun _ _ => rfl)) pe_int) (pg_sub (pv 0) pe_int set_list))
  (pss_cons (ps_set (i := 3) nd rfl (Or.inl rfl) (pe_op op_add (pe_op op_mul (pe_ix ix_list (pv 0) pe_int (fun _ _ => rfl)) pe_int) pe_int))
  (pss_cons (ps_set (i := 3) nd rfl (Or.inl rfl) (pe_op op_mod (pe_callTy call_int1 (by rfl) T.b_int (by decide +kernel) (pa_cons (pe_op op_add (pv 3) (pe_op op_mul (pe_op op_mul pe_int (pe_ix ix_list (pv 0) pe_int (fun _ _ => rfl))) (pe_ix ix_list (pv 0) pe_int (fun _ _ => rfl)))) pa_nil)) pe_int))
  (pss_cons (ps_set (i := 4) nd rfl (Or.inl rfl) (pe_op op_mod (pe_callTy call_int1 (by rfl) T.b_int (by decide +kernel) (pa_cons (pe_op op_add (pe_op op_mul (pv 3) (pe_op op_add (pv 3) (pe_ix ix_list (pv 0) pe_int (fun _ _ => rfl)))) (pe_op op_mul pe_int (pe_ix ix_list (pv 0) pe_int (fun _ _ => rfl)))) pa_nil)) pe_int))
  (pss_one (ps_ret (pe_op op_mod (pe_callTy call_int1 (by rfl) T.b_int (by decide +kernel) (pa_cons (pe_op op_fdiv (pv 4) pe_int) pa_nil)) (pv 1))))))))), ?_⟩
  refine ⟨_, rfl, p, _, _, _, rfl, rfl, SqL.of hp, rfl, _, _, rfl, rfl, _, rfl, ?_⟩
  have ha1 : ∀ {x : Int} {l : List V}, SqL K (upd H p (.lst l)) p l := fun {x l} => SqL.of upd_same
  by_cases h : 0 < a
  · refine dT h ?_
    refine ⟨_, rfl, p, _, _, _, rfl, rfl, SqL.of hp, rfl, .inl ⟨a, rfl, _, rfl, _, _, rfl, rfl, by show (0 : Int) < (m : Nat); omega, ?_⟩⟩
    refine ⟨_, rfl, p, _, _, _, rfl, rfl, SqL.of hp, rfl, _, rfl, _, _, rfl, rfl, ⟨by omega, by omega⟩, _, rfl, p, _, _, 0, rfl, rfl, hp, rfl, _, rfl, ?_⟩
    obtain ⟨d, hd, ed⟩ := emod_nat (x := a) m0
    show Q (.int (a % (m : Int))) _
    rw [ed]
    exact kk d hd _ But.upd ⟨_, _, _, upd_same, c0, by omega⟩
  · refine dF h ?_
    refine ⟨_, rfl, p, _, _, _, rfl, rfl, SqL.of hp, rfl, _, _, rfl, rfl, _, rfl, p, _, _, 2, rfl, rfl, hp, rfl, ?_⟩
    have h1 : (upd H p (.lst ([V.int a, V.int b, V.int c].set 2 (V.int (c + 1))))) p = some (.lst [.int a, .int b, .int (c + 1)]) := upd_same
    have b1 : But p H (upd H p (.lst ([V.int a, V.int b, V.int c].set 2 (V.int (c + 1))))) := But.upd
    generalize upd H p (.lst ([V.int a, V.int b, V.int c].set 2 (V.int (c + 1)))) = H1 at h1 b1
    have cb : -(2 ^ 64) < c + 1 ∧ c + 1 < 2 ^ 64 := ⟨by omega, by omega⟩
    have fin : ∀ x : Int, Q (.int (x % (m : Int))) H1 := fun x => by
      obtain ⟨d, hd, ed⟩ := emod_nat (x := x) m0
      rw [ed]
      exact kk d hd _ b1 ⟨_, _, _, h1, by omega, by omega⟩
    have eb : ∀ x : Int, -(2 ^ 64) < x % 2305843009213693951 ∧ x % 2305843009213693951 < 2 ^ 64 := fun x => by omega
    refine ⟨_, rfl, p, _, _, _, rfl, rfl, SqL.of h1, rfl, _, _, rfl, rfl, .inr ⟨by decide, by decide⟩, _, _, rfl, rfl, ?_⟩
    refine ⟨_, rfl, _, rfl, p, _, _, _, rfl, rfl, SqL.of h1, rfl, _, _, rfl, rfl, .inl ⟨by decide, by decide⟩, _, rfl, p, _, _, _, rfl, rfl, SqL.of h1, rfl, _, _, rfl, rfl, .inr cb, _, _, rfl, rfl, .inl ⟨_, rfl, _, _, rfl, rfl, (by show (0 : Int) < 2305843009213693951; decide), ?_⟩⟩
    refine ⟨_, rfl, _, rfl, _, rfl, p, _, _, _, rfl, rfl, SqL.of h1, rfl, _, _, rfl, rfl, _, _, rfl, rfl, .inl (eb _), _, rfl, p, _, _, _, rfl, rfl, SqL.of h1, rfl, _, _, rfl, rfl, .inl ⟨by decide, by decide⟩, _, _, rfl, rfl, .inl ⟨_, rfl, _, _, rfl, rfl, (by show (0 : Int) < 4611686018427387847; decide), ?_⟩⟩
    refine ⟨_, rfl, _, _, rfl, rfl, ⟨by decide, by decide⟩, .inl ⟨_, rfl, _, rfl, _, _, rfl, rfl, (by show (0 : Int) < (m : Nat); omega), ?_⟩⟩
    exact fin _
end
end K52

namespace K52
open PySem PySem.Spec PyProof.Rows L2
section
variable {J : It} {n : Nat} {G : Hp → Prop} {Y : Nat → Hp → V → Hp → Prop}
/-- a comprehension whose elements change the heap: I is kept -/
theorem lc_mapI (w : Walk J n G Y) {g : TG} {te : TE} {vs : List Nat} {σ : L2.St} {H1 : Hp} {D : Addr} {Qd : Hp → Prop} (hz : n ≤ sizeLine) (I : Nat → Hp → Prop) (R : Nat → V → Hp → Prop) (h0 : I 0 (upd H1 D (.lst []))) (hG : ∀ i H, I i H → G H)
    (hI : ∀ i H ws ws', H D = some (.lst ws) → I i H → I i (upd H D (.lst ws'))) (hR : ∀ i y H ws ws', H D = some (.lst ws) → R i y H → R i y (upd H D (.lst ws')))
    (step : ∀ i x H H' Q, i < n → I i H → (∃ ws, H D = some (.lst ws)) → Y i H x H' → (∀ y H4, I (i + 1) H4 → (∀ ws, H D = some (.lst ws) → H4 D = some (.lst ws)) → (∀ j z, R j z H → R j z H4) → R i y H4 → Q y H4) → g x (wipe σ vs) H' fun σ2 H2 => wipe σ2 vs = wipe σ vs ∧ te σ2 H2 Q)
    (fin : ∀ H ys, I n H → H D = some (.lst ys) → ys.length = n → (∀ i y, ys[i]? = some y → R i y H) → Qd H) :
    ∃ W : Nat → Nat → Hp → Prop, (∃ m, W 0 m (upd H1 D (.lst []))) ∧ ∀ i m H, W i m H →
      (J.stop i H ∧ Qd H) ∨ (J.go i H ∧ ∃ Nx : Hp → Prop, (∀ H', Nx H' → ∃ m', m' < m ∧ W (i + 1) m' H') ∧ ∀ x H', J.yld i H x H' → g x (wipe σ vs) H' fun σ2 H2 => wipe σ2 vs = wipe σ vs ∧ tYes σ2 H2 fun b H3 =>
        if b = true then te σ2 H3 fun y H4 => ∃ acc, H4 D = some (.lst acc) ∧ acc.length < sizeLine ∧ Nx (upd H4 D (.lst (acc ++ [y]))) else Nx H3) := by
  refine lc_it w (fun i H => I i H ∧ ∃ ys, H D = some (.lst ys) ∧ ys.length = i ∧ ∀ j y, ys[j]? = some y → R j y H) ⟨h0, [], upd_same, rfl, fun j y h => by simp at h⟩ (fun i H _ p => hG i H p.1) (fun i x H H' hi p y => ?_) (fun H p => ?_)
  · obtain ⟨s1, ys, hd, hl, hr⟩ := p
    have := step i x H H' (fun y H4 => ∃ acc, H4 D = some (.lst acc) ∧ acc.length < sizeLine ∧ (fun i H => I i H ∧ ∃ ys, H D = some (.lst ys) ∧ ys.length = i ∧ ∀ j y, ys[j]? = some y → R j y H) (i + 1) (upd H4 D (.lst (acc ++ [y])))) hi s1 ⟨_, hd⟩ y (fun y H4 s3 k3 r3 r => ?_)
    · exact this
    · have hd4 := k3 _ hd
      refine ⟨ys, hd4, by omega, hI _ _ _ _ hd4 s3, ys ++ [y], upd_same, by simp [hl], fun j z hj => ?_⟩
      rcases Nat.lt_or_ge j ys.length with h | h
      · rw [List.getElem?_append_left h] at hj
        exact hR _ _ _ _ _ hd4 (r3 _ _ (hr j z hj))
      · rw [List.getElem?_append_right h] at hj
        have e : j - ys.length = 0 := by
          rcases Nat.eq_zero_or_pos (j - ys.length) with q | q
          · exact q
          · rw [List.getElem?_eq_none (by simp; omega)] at hj; cases hj
        rw [e] at hj
        cases hj
        have e2 : j = i := by omega
        rw [e2]
        exact hR _ _ _ _ _ hd4 r
  · obtain ⟨s1, ys, hd, hl, hr⟩ := p
    exact fin H ys s1 hd hl hr
end
theorem But.upd_new {p D : Addr} {H H' : Hp} {o : HO} (b : But p H H') (d : H D = none) : But p H (L2.upd H' D o) := fun c u n e => by
  rw [upd_ne (ne_of_none e d)]; exact b c u n e
theorem But.new {p t : Addr} {H H' : Hp} {o : HO} (b : But p H H') (h : H' t = none) : But p H (L2.upd H' t o) := b.trans (Same.but p (Same.upd h))
end K52

namespace K52
open PySem PySem.Spec PyProof.Rows L2
theorem BagV.mono {H : Hp} {p : Addr} {m n : Nat} (h : BagV H p m) (l : m ≤ n) : BagV H p n := by
  obtain ⟨a, b, c, e, h1, h2⟩ := h
  exact ⟨a, b, c, e, h1, by omega⟩
theorem BagV.lst {H : Hp} {p : Addr} {n : Nat} (h : BagV H p n) : ∃ xs, H p = some (.lst xs) := by
  obtain ⟨a, b, c, e, _⟩ := h
  exact ⟨_, e⟩
theorem BagV.le {H H' : Hp} {p : Addr} {n : Nat} (h : BagV H p n) (b : But p H H') : Le H H' := by
  obtain ⟨xs, e⟩ := h.lst
  exact But.le b e id
section
variable {P : Program} {w : World} {K : PySem.W.Frag} {mg : Str → Option Value} {base : Heap}
def spAtomB : Sp := fun vs H Q _ => ∃ p, ∃ sl n : Nat, vs = [.ref p, .int (sl : Nat)] ∧ BagV H p n ∧ n + 2 ≤ 1000000000 ∧ sl ≤ 100 ∧ ∀ v H', But p H H' → BagV H' p (n + 2) → AtV sl H' v → Q v H'
theorem c_law_atom (T : Txt K mg) : Cal P w K mg base 2 "_law_atom" spAtomB := by
  have c__law_take := c_law_take (P := P) (w := w) (base := base) T
  refine cal_of T.d_law_atom sc_law_atom (fun _ _ _ _ _ _ us hl => match us, hl with | [_, _], _ => rfl) (fun vs H Q E h => ?_) (fun f cdv A outer s H vs Q E hr h => ?_)
  · obtain ⟨v, _, _, rfl, _⟩ := h; rfl
  obtain ⟨p, sl, n, rfl, hp, hn, hs, kk⟩ := h
  have nd := sc_law_atom.nd
  refine ⟨_, (pss_cons (ps_set (i := 2) nd rfl (Or.inl rfl) (pe_c c__law_take hr (by decide) rfl (pa_cons (pv 0) (pa_cons (pe_op op_add (pv 1) pe_int) pa_nil))))
  (pss_cons (ps_if (pt_cmpR op_lt (pv 2) (pv 1) (nomark _)) (pss_one (ps_ret (pe_tup (pa_cons pe_str (pa_cons (pv 2) pa_nil))))) pss_nil)
  (pss_one (ps_ret (pe_tup (pa_cons pe_str (pa_cons (pe_ix ix_tup (pe_tup (pa_cons pe_int (pa_cons pe_int (pa_cons (pe_un un_neg pe_int) (pa_cons pe_int (pa_cons (pe_op op_pow pe_int pe_int) (pa_cons (pe_un un_neg (pe_op op_pow pe_int pe_int)) pa_nil))))))) (pe_c c__law_take hr (by decide) rfl (pa_cons (pv 0) (pa_cons pe_int pa_nil))) (fun _ _ => rfl)) pa_nil))))))), ?_⟩
  refine ⟨_, rfl, _, rfl, _, _, rfl, rfl, p, sl + 1, n, rfl, hp, by omega, by omega, by omega, fun d hd H1 b1 h1 => ?_⟩
  refine ⟨_, rfl, _, rfl, _, _, rfl, rfl, _, rfl, ?_⟩
  by_cases h : (d : Int) < (sl : Nat)
  · refine dT h ⟨_, rfl, by show 2 ≤ sizeLine; decide, fun t ht => ?_⟩
    have nt := h1.ne ht
    exact kk _ _ (b1.new ht) ((h1.mono (by omega)).same fun o e => by rw [upd_ne nt]; exact e) ⟨t, rfl, .inl ⟨d, by omega, upd_same⟩⟩
  · refine dF h ?_
    have cp : CPow (10 : Int) 30 := ⟨by decide, by decide, by decide⟩
    refine ⟨_, rfl, _, _, rfl, rfl, cp, _, _, rfl, rfl, cp, _, rfl, by show 6 ≤ sizeLine; decide, fun u hu => ?_⟩
    have nu := h1.ne hu
    have s2 := Same.upd (o := .tup [.int 0, .int 1, .int (-1), .int 12, .int (10 ^ 30), .int (-10 ^ 30)]) hu
    have b2 := b1.new (o := .tup [.int 0, .int 1, .int (-1), .int 12, .int (10 ^ 30), .int (-10 ^ 30)]) hu
    refine ⟨_, rfl, p, 6, n + 1, rfl, h1.same fun o e => s2 _ _ e, by omega, by omega, by omega, fun e he H2 b3 h2 => ?_⟩
    have hu2 : H2 u = some (.tup [.int 0, .int 1, .int (-1), .int 12, .int (10 ^ 30), .int (-10 ^ 30)]) := b3 _ _ nu.symm upd_same
    have key : ∃ z : Int, atI [V.int 0, V.int 1, V.int (-1), V.int 12, V.int (10 ^ 30), V.int (-10 ^ 30)] ((e : Nat) : Int) = some (.int z) ∧ -(10 ^ 30) ≤ z ∧ z ≤ 10 ^ 30 := by
      match e, he with
      | 0, _ => exact ⟨_, rfl, by decide, by decide⟩
      | 1, _ => exact ⟨_, rfl, by decide, by decide⟩
      | 2, _ => exact ⟨_, rfl, by decide, by decide⟩
      | 3, _ => exact ⟨_, rfl, by decide, by decide⟩
      | 4, _ => exact ⟨_, rfl, by decide, by decide⟩
      | 5, _ => exact ⟨_, rfl, by decide, by decide⟩
    obtain ⟨z, ez, z1, z2⟩ := key
    refine ⟨u, _, _, _, rfl, rfl, SqT.of hu2, ez, by show 2 ≤ sizeLine; decide, fun t ht => ?_⟩
    have nt := h2.ne ht
    exact kk _ _ ((b2.trans b3).new ht) (h2.same fun o e => by rw [upd_ne nt]; exact e) ⟨t, rfl, .inr ⟨z, z1, z2, upd_same⟩⟩
def spAtomsB : Sp := fun vs H Q _ => ∃ p, ∃ sl m n : Nat, vs = [.ref p, .int (sl : Nat), .int (m : Nat)] ∧ BagV H p n ∧ m ≤ 10 ∧ n + 20 ≤ 1000000000 ∧ sl ≤ 100 ∧ ∀ v H', But p H H' → BagV H' p (n + 20) → AtsV sl m H' v → Q v H'
theorem c_law_atoms (T : Txt K mg) : Cal P w K mg base 3 "_law_atoms" spAtomsB := by
  have c__law_atom := c_law_atom (P := P) (w := w) (base := base) T
  refine cal_of T.d_law_atoms sc_law_atoms (fun _ _ _ _ _ _ us hl => match us, hl with | [_, _, _], _ => rfl) (fun vs H Q E h => ?_) (fun f cdv A outer s H vs Q E hr h => ?_)
  · obtain ⟨v, _, _, _, rfl, _⟩ := h; rfl
  obtain ⟨p, sl, m, n, rfl, hp, hm, hn, hs, kk⟩ := h
  have nd := sc_law_atoms.nd
  refine ⟨_, (pss_one (ps_ret (pe_callTy call_tuple_of (by rfl) T.b_tuple (by decide +kernel) (pa_cons (pe_lc (own := [("_law_turn", 3)]) rfl nd (pi_range1 rfl T.b_range (pa_cons (pv 2) pa_nil)) (blkOk_by (N := N_law_atoms) (sc := defScope s_law_atoms) (by decide +kernel)) (fun _ _ _ _ _ => (pg_name (i := 3) nd rfl (Or.inl rfl))) (fun _ _ _ _ _ => pts_nil) (fun _ _ _ _ _ => (pe_c c__law_atom hr (by decide) rfl (pa_cons (pv 0) (pa_cons (pv 1) pa_nil))))) pa_nil)))), ?_⟩
  refine ⟨_, rfl, _, rfl, by omega, by omega, fun D hD => ?_⟩
  have nD := hp.ne hD
  refine lc_mapI (n := m) walk_range (by have : 10 ≤ sizeLine := by decide
                                         omega) (fun i H' => But p H H' ∧ BagV H' p (n + 2 * i)) (fun _ v H' => AtV sl H' v) ⟨(But.refl p H).upd_new hD, hp.same fun o e => by rw [upd_ne nD]; exact e⟩ (fun _ _ _ => trivial) (fun i H' ws ws' e p' => ⟨p'.1.upd_new hD, p'.2.same fun o e => by rw [upd_ne nD]; exact e⟩) (fun i y H' ws ws' e r => r.le (Le.upd e id)) (fun i x Ha Hb Q' hi p' _ y kq => ?_) (fun Ha ys p' hD' hl hr => ?_)
  · obtain ⟨rfl, rfl⟩ := y
    exact ⟨rfl, _, rfl, _, rfl, p, sl, n + 2 * i, rfl, p'.2, by omega, hs, fun v Hc bc hc ha => kq v Hc ⟨p'.1.trans bc, by rw [Nat.mul_add]; exact hc⟩ (fun ws e => bc _ _ nD.symm e) (fun j z r => r.le (p'.2.le bc)) ha⟩
  · refine ⟨D, ys, rfl, .inl ⟨SqL.of hD', fun t ht => ?_⟩⟩
    have nt := p'.2.ne ht
    exact kk _ _ (p'.1.new ht) ((p'.2.mono (by omega)).same fun o e => by rw [upd_ne nt]; exact e) ⟨t, ys, rfl, upd_same, hl, fun x hx => by
      obtain ⟨i, hi, ei⟩ := List.mem_iff_getElem.mp hx
      exact (hr i x (by rw [List.getElem?_eq_getElem hi, ei])).le (Le.new ht)⟩
end
end K52

namespace K52
open PySem PySem.Spec PyProof.Rows L2
/-- rows (name, number) -/
def NmP (ar : Str → Nat) (H : Hp) (nm : Str) (v : V) : Prop := ∃ t, v = .ref t ∧ H t = some (.tup [.str nm, .int (ar nm : Nat)]) ∧ NmOk nm ∧ ar nm ≤ 2
def ShL (ar : Str → Nat) (H : Hp) (p : Addr) (fs : List Str) : Prop := ∃ rows, H p = some (.lst rows) ∧ Paired (NmP ar H) fs rows
theorem NmP.le {ar : Str → Nat} {H H' : Hp} {nm : Str} {v : V} (l : Le H H') (h : NmP ar H nm v) : NmP ar H' nm v := by
  obtain ⟨t, e, h1, h2⟩ := h
  exact ⟨t, e, l _ _ trivial h1, h2⟩
theorem ShL.keep {ar : Str → Nat} {H H' : Hp} {p : Addr} {fs : List Str} (l : Le H H') (k : ∀ o, H p = some o → H' p = some o) (h : ShL ar H p fs) : ShL ar H' p fs := by
  obtain ⟨rows, h1, h2⟩ := h
  exact ⟨rows, k _ h1, Paired.mono (fun _ _ q => q.le l) h2⟩
def GBd (af ac : Str → Nat) (sl : Nat) (fs cs : List Str) (d : Nat) (H : Hp) (v : V) : Prop := ∃ b, BdV af ac sl H b v ∧ (∀ f ∈ b.calls, f ∈ fs) ∧ (∀ c ∈ b.pushes, c ∈ cs) ∧ bdDep b ≤ d + 1 ∧ b.size + 1 ≤ 2 ^ (d + 1)
theorem nm_ebb : NmOk "ebb" := by unfold NmOk; decide
theorem nm_hop : NmOk "hop" := by unfold NmOk; decide
theorem nm_dial : NmOk "dial" := by unfold NmOk; decide
theorem nm_gate : NmOk "gate" := by unfold NmOk; decide
theorem nm_f : NmOk "f" := by unfold NmOk; decide
theorem nm_c : NmOk "c" := by unfold NmOk; decide
section
variable {P : Program} {w : World} {K : PySem.W.Frag} {mg : Str → Option Value} {base : Heap}
def spLeafB (ac : Str → Nat) : Sp := fun vs H Q _ => ∃ p pS af fs, ∃ sl n : Nat, vs = [.ref p, .int (sl : Nat), .ref pS] ∧ BagV H p n ∧ n + 60 ≤ 1000000000 ∧ sl ≤ 100 ∧ p ≠ pS ∧ ShL af H pS fs ∧ fs.length ≤ 100 ∧ ∀ v H', But p H H' → BagV H' p (n + 60) → (∀ d cs, GBd af ac sl fs cs d H' v) → Q v H'
theorem c_law_leaf (T : Txt K mg) (ac : Str → Nat) : Cal P w K mg base 4 "_law_leaf" (spLeafB ac) := by
  have c__law_take := c_law_take (P := P) (w := w) (base := base) T
  have c__law_atom := c_law_atom (P := P) (w := w) (base := base) T
  have c__law_atoms := c_law_atoms (P := P) (w := w) (base := base) T
  refine cal_of T.d_law_leaf sc_law_leaf (fun _ _ _ _ _ _ us hl => match us, hl with | [_, _, _], _ => rfl) (fun vs H Q E h => ?_) (fun f cdv A outer s H vs Q E hr h => ?_)
  · obtain ⟨v, _, _, _, _, _, rfl, _⟩ := h; rfl
  obtain ⟨p, pS, af, fs, sl, n, rfl, hp, hn, hs, npS, ⟨rows, hS, pr⟩, hf, kk⟩ := h
  have nd := sc_law_leaf.nd
  refine ⟨_, (pss_cons (ps_set (i := 3) nd rfl (Or.inl rfl) (pe_c c__law_take hr (by decide) rfl (pa_cons (pv 0) (pa_cons pe_int pa_nil))))
  (pss_cons (ps_if (pt_cmpR op_lt (pv 3) pe_int (nomark _)) (pss_one (ps_ret (pe_tup (pa_cons pe_str (pa_cons (pe_c c__law_atom hr (by decide) rfl (pa_cons (pv 0) (pa_cons (pv 1) pa_nil))) pa_nil))))) pss_nil)
  (pss_cons (ps_if (pt_cmpR op_eq (pv 3) pe_int (nomark _)) (pss_one (ps_ret (pe_tup (pa_cons pe_str (pa_cons (pe_c c__law_atom hr (by decide) rfl (pa_cons (pv 0) (pa_cons (pv 1) pa_nil))) pa_nil))))) pss_nil)
  (pss_cons (ps_if (PW.pt (pw_or (pt_cmpR op_eq (pv 3) pe_int (nomark _)) (pw_or1 (pt_cmpR (op_eqNil hr) (pv 2) (pe_lst pa_nil) (nomark _))))) (pss_one (ps_ret (pe_tup (pa_cons pe_str (pa_cons pe_str (pa_cons (pe_c c__law_atoms hr (by decide) rfl (pa_cons (pv 0) (pa_cons (pv 1) (pa_cons (pe_c c__law_take hr (by decide) rfl (pa_cons (pv 0) (pa_cons pe_int pa_nil))) pa_nil)))) pa_nil)))))) pss_nil)
  (pss_cons (ps_asg (pe_ix ix_list (pv 2) (pe_c c__law_take hr (by decide) rfl (pa_cons (pv 0) (pa_cons (pe_callB call_len_seq (by rfl) T.b_len PySem.boot_len (pa_cons (pv 2) pa_nil)) pa_nil))) (fun _ _ => rfl)) (pg_tup (by rfl) (pgs_cons (pg_name (i := 4) nd rfl (Or.inl rfl)) (pgs_cons (pg_name (i := 5) nd rfl (Or.inl rfl)) pgs_nil))))
  (pss_one (ps_ret (pe_tup (pa_cons pe_str (pa_cons (pv 4) (pa_cons (pe_c c__law_atoms hr (by decide) rfl (pa_cons (pv 0) (pa_cons (pv 1) (pa_cons (pv 5) pa_nil)))) pa_nil))))))))))), ?_⟩
  have hz : 100 ≤ sizeLine := by decide
  have leafG : ∀ {H' : Hp} {v : V} {b : Bool}, BdV af ac sl H' (.leaf b) v → ∀ d cs, GBd af ac sl fs cs d H' v := fun {H' v b} h d cs => ⟨_, h, (fun _ m => by cases m), (fun _ m => by cases m), by show 1 ≤ d + 1; omega, by show 2 ≤ 2 ^ (d + 1); rw [Nat.pow_succ]; have := Nat.one_le_two_pow (n := d); omega⟩
  refine ⟨_, rfl, p, 6, n, rfl, hp, by omega, by omega, by omega, fun d hd H1 b1 h1 => ?_⟩
  refine ⟨_, rfl, _, _, rfl, rfl, _, rfl, ?_⟩
  by_cases e1 : (d : Int) < 2
  · refine dT e1 ⟨_, rfl, _, rfl, p, sl, n + 1, rfl, h1, by omega, hs, fun v H2 b2 h2 hv => ⟨by show 2 ≤ sizeLine; decide, fun t ht => ?_⟩⟩
    have nt := h2.ne ht
    exact kk _ _ ((b1.trans b2).new ht) ((h2.mono (by omega)).same fun o e => by rw [upd_ne nt]; exact e) (leafG (.ret upd_same (hv.le (Le.new ht))))
  refine dF e1 ⟨_, rfl, rfl, _, rfl, ?_⟩
  by_cases e2 : (d : Int) = 2
  · refine dT (by rw [e2]) ⟨_, rfl, _, rfl, p, sl, n + 1, rfl, h1, by omega, hs, fun v H2 b2 h2 hv => ⟨by show 2 ≤ sizeLine; decide, fun t ht => ?_⟩⟩
    have nt := h2.ne ht
    exact kk _ _ ((b1.trans b2).new ht) ((h2.mono (by omega)).same fun o e => by rw [upd_ne nt]; exact e) (leafG (.rai upd_same (hv.le (Le.new ht))))
  refine dF (vint_ne e2) ?_
  have ask : ∀ (D : Ends) (H1 : Hp), D.rt = Q → But p H H1 → BagV H1 p (n + 1) → tRet (tTup (tCons (tC (.str "ask")) (tCons (tC (.str "ebb")) (tCons (tCall spAtomsB [] E0 (tCons (tVar 0) (tCons (tVar 1) (tCons (tCall spTakeB [] E0 (tCons (tVar 0) (tCons (tC (V.int 2)) tNil))) tNil)))) tNil)))) D [some (.ref p), some (.int (sl : Nat)), some (.ref pS), some (.int (d : Nat)), none, none] H1 := fun D H1 eD b1 h1 => by
    refine ⟨_, rfl, _, rfl, _, rfl, p, 2, n + 1, rfl, h1, by omega, by omega, by omega, fun e he H2 b2 h2 => ?_⟩
    refine ⟨p, sl, e, n + 1 + 1, rfl, h2, by omega, by omega, hs, fun v H3 b3 h3 hv => ⟨by show 3 ≤ sizeLine; decide, fun t ht => ?_⟩⟩
    have nt := h3.ne ht
    obtain ⟨q, xs, rfl, hq⟩ := id hv
    rw [eD]
    exact kk _ _ ((b1.trans (b2.trans b3)).new ht) ((h3.mono (by omega)).same fun o e => by rw [upd_ne nt]; exact e) (leafG (.ask (n := e) nm_ebb (by omega) upd_same (hv.le (Le.new ht))))
  refine ⟨_, rfl, rfl, _, rfl, ?_⟩
  by_cases e3 : (d : Int) = 3
  · refine dT (by rw [e3]) (iT rfl ?_)
    exact ask _ _ rfl b1 h1
  refine dF (vint_ne e3) ⟨_, rfl, by show 0 ≤ sizeLine; decide, fun t ht => ?_⟩
  have s2 := Same.upd (o := .lst []) ht
  have b2 := b1.new (o := .lst []) ht
  have h2 := h1.same fun o e => s2 _ _ e
  have t2 : (upd H1 t (.lst [])) t = some (.lst []) := upd_same
  generalize upd H1 t (.lst []) = H2 at s2 b2 h2 t2
  have hS2 := b2 _ _ npS.symm hS
  have fL := pr.length
  refine ⟨pS, t, rows, rfl, rfl, SqL.of hS2, SqL.of t2, _, rfl, ?_⟩
  cases rows with
  | nil => exact iT rfl (ask _ _ rfl b2 h2)
  | cons r0 rs =>
    refine iF rfl ?_
    refine ⟨_, rfl, _, rfl, _, rfl, pS, _, rfl, .inl (SqL.of hS2), p, (r0 :: rs).length, n + 1, rfl, h2, by omega, by simp, by omega, fun e he H3 b3 h3 => ?_⟩
    have hS3 := b3 _ _ npS.symm hS2
    obtain ⟨nm, hnm, t1, ev, ht1, hok, har⟩ := paired_at pr (List.getElem?_eq_getElem he)
    have b13 := b2.trans b3
    have ht13 := (hp.le b13) _ (.tup _) trivial ht1
    refine ⟨pS, _, _, _, rfl, rfl, SqL.of hS3, atI_nat (by rw [List.getElem?_eq_getElem he, ev]), ?_⟩
    refine ⟨t1, _, rfl, SqT.of ht13, rfl, _, _, rfl, _, _, rfl, rfl, ?_⟩
    refine ⟨_, rfl, _, rfl, _, rfl, _, rfl, p, sl, af nm, n + 1 + 1, rfl, h3, by omega, by omega, hs, fun v H4 b4 h4 hv => ⟨by show 3 ≤ sizeLine; decide, fun u hu => ?_⟩⟩
    have nu := h4.ne hu
    obtain ⟨q, xs, rfl, hq⟩ := id hv
    refine kk _ _ ((b13.trans b4).new hu) ((h4.mono (by omega)).same fun o e => by rw [upd_ne nu]; exact e) fun d cs => ⟨.call nm, .call hok (by omega) upd_same (hv.le (Le.new hu)), fun f m => ?_, (fun _ m => by cases m), by show 1 ≤ d + 1; omega, by show 2 ≤ 2 ^ (d + 1); rw [Nat.pow_succ]; have := Nat.one_le_two_pow (n := d); omega⟩
    have : f = nm := List.mem_singleton.mp m
    rw [this]; exact List.mem_of_getElem? hnm
def bB : Nat → Nat
  | 0 => 80
  | n + 1 => 2 * bB n + 100
def spBodyB (d : Nat) : Sp := fun vs H Q _ => ∃ p q pS pL af ac fs cs, ∃ (left : Int) (sl n : Nat), vs = [.ref p, .ref q, .int (d : Nat), .int (sl : Nat), .ref pS, .ref pL] ∧ BagV H p n ∧ n + bB d ≤ 1000000000 ∧ H q = some (.lst [.int left]) ∧ sl ≤ 100 ∧ p ≠ q ∧ p ≠ pS ∧ p ≠ pL ∧ q ≠ pS ∧ q ≠ pL ∧ ShL af H pS fs ∧ fs.length ≤ 100 ∧ ShL ac H pL cs ∧ cs.length ≤ 100 ∧
  ∀ v H', (∀ b o, b ≠ p → b ≠ q → H b = some o → H' b = some o) → BagV H' p (n + bB d) → (∃ left', H' q = some (.lst [.int left'])) → GBd af ac sl fs cs d H' v → Q v H'
def But2 (p q : Addr) (H H' : Hp) : Prop := ∀ b o, b ≠ p → b ≠ q → H b = some o → H' b = some o
theorem But2.trans {p q : Addr} {H H1 H2 : Hp} (a : But2 p q H H1) (b : But2 p q H1 H2) : But2 p q H H2 := fun c o n m h => b c o n m (a c o n m h)
theorem But.two {p q : Addr} {H H' : Hp} (a : But p H H') : But2 p q H H' := fun c o n _ h => a c o n h
theorem But2.new {p q t : Addr} {H H' : Hp} {o : HO} (a : But2 p q H H') (h : H' t = none) : But2 p q H (L2.upd H' t o) := a.trans fun c u _ _ e => by rw [upd_ne (ne_of_none e h)]; exact e
theorem But2.le {p q : Addr} {H H' : Hp} {xs ys : List V} (a : But2 p q H H') (hp : H p = some (.lst xs)) (hq : H q = some (.lst ys)) : Le H H' := fun b o st e => by
  refine a b o (fun z => ?_) (fun z => ?_) e
  · rw [z, hp] at e; cases e; exact st
  · rw [z, hq] at e; cases e; exact st
def spBodyP : Nat → Sp
  | 0 => fun _ _ _ _ => False
  | d + 1 => spBodyB d
theorem body_step (T : Txt K mg) {d : Nat} (c__law_body : Cal P w K mg base (4 + d) "_law_body" (spBodyP d)) : Cal P w K mg base (5 + d) "_law_body" (spBodyB d) := by
  have c__law_take := c_law_take (P := P) (w := w) (base := base) T
  have c__law_atoms := c_law_atoms (P := P) (w := w) (base := base) T
  rw [show 5 + d = (4 + d) + 1 by omega]
  refine cal_of (k := 4 + d) T.d_law_body sc_law_body (fun _ _ _ _ _ _ us hl => match us, hl with | [_, _, _, _, _, _], _ => rfl) (fun vs H Q E h => ?_) (fun f cdv A outer s H vs Q E hr h => ?_)
  · obtain ⟨_, _, _, _, _, _, _, _, _, _, _, rfl, _⟩ := h; rfl
  obtain ⟨p, q, pS, pL, af, ac, fs, cs, left, sl, n, rfl, hp, hn, hq, hs, npq, npS, npL, nqS, nqL, hS, hfl, hL, hcl, kk⟩ := h
  have c__law_leaf := c_law_leaf (P := P) (w := w) (base := base) T ac
  have nd := sc_law_body.nd
  have hb1 : 80 ≤ bB d := by cases d <;> (unfold bB; omega)
  refine ⟨_, (pss_cons (ps_set (i := 6) nd rfl (Or.inl rfl) (pe_c c__law_take hr (by omega) rfl (pa_cons (pv 0) (pa_cons pe_int pa_nil))))
  (pss_cons (ps_if (PW.pt (pw_or (pt_cmpR op_eq (pv 6) pe_int (nomark _)) (pw_or (pt_cmpR op_eq (pe_ix ix_list (pv 1) pe_int (fun _ _ => rfl)) pe_int (nomark _)) (pw_or1 (pt_cmpR op_eq (pv 2) pe_int (nomark _)))))) (pss_one (ps_ret (pe_c c__law_leaf hr (by omega) rfl (pa_cons (pv 0) (pa_cons (pv 3) (pa_cons (pv 4) pa_nil)))))) pss_nil)
  (pss_cons (ps_asg (pe_op op_sub (pe_ix ix_list (pv 1) pe_int (fun _ _ => rfl)) pe_int) (pg_sub (pv 1) pe_int set_list))
  (pss_cons (ps_if (PW.pt (pw_or (pt_cmpR op_lt (pv 6) pe_int (nomark _)) (pw_or1 (pt_cmpR (op_eqNil hr) (pv 5) (pe_lst pa_nil) (nomark _))))) (pss_cons (ps_set (i := 7) nd rfl (Or.inl rfl) (pe_c c__law_atoms hr (by omega) rfl (pa_cons (pv 0) (pa_cons (pv 3) (pa_cons (pe_c c__law_take hr (by omega) rfl (pa_cons (pv 0) (pa_cons pe_int pa_nil))) pa_nil)))))
  (pss_cons (ps_set (i := 8) nd rfl (Or.inl rfl) (pe_c c__law_body hr (by omega) rfl (pa_cons (pv 0) (pa_cons (pv 1) (pa_cons (pe_op op_sub (pv 2) pe_int) (pa_cons (pv 3) (pa_cons (pv 4) (pa_cons (pv 5) pa_nil))))))))
  (pss_one (ps_ret (pe_tup (pa_cons pe_str (pa_cons pe_str (pa_cons (pv 7) (pa_cons (pv 8) (pa_cons (pe_c c__law_body hr (by omega) rfl (pa_cons (pv 0) (pa_cons (pv 1) (pa_cons (pe_op op_sub (pv 2) pe_int) (pa_cons (pv 3) (pa_cons (pv 4) (pa_cons (pv 5) pa_nil))))))) pa_nil)))))))))) pss_nil)
  (pss_cons (ps_asg (pe_ix ix_list (pv 5) (pe_c c__law_take hr (by omega) rfl (pa_cons (pv 0) (pa_cons (pe_callB call_len_seq (by rfl) T.b_len PySem.boot_len (pa_cons (pv 5) pa_nil)) pa_nil))) (fun _ _ => rfl)) (pg_tup (by rfl) (pgs_cons (pg_name (i := 9) nd rfl (Or.inl rfl)) (pgs_cons (pg_name (i := 10) nd rfl (Or.inl rfl)) pgs_nil))))
  (pss_cons (ps_set (i := 11) nd rfl (Or.inl rfl) (pe_c c__law_atoms hr (by omega) rfl (pa_cons (pv 0) (pa_cons (pv 3) (pa_cons (pv 10) pa_nil)))))
  (pss_one (ps_ret (pe_tup (pa_cons pe_str (pa_cons (pv 9) (pa_cons (pv 11) (pa_cons (pe_c c__law_body hr (by omega) rfl (pa_cons (pv 0) (pa_cons (pv 1) (pa_cons (pe_op op_sub (pv 2) pe_int) (pa_cons (pv 3) (pa_cons (pv 4) (pa_cons (pv 5) pa_nil))))))) pa_nil))))))))))))), ?_⟩
  obtain ⟨bx, hpx⟩ := hp.lst
  refine ⟨_, rfl, p, 5, n, rfl, hp, by omega, by omega, by omega, fun dw hd H1 b1 h1 => ?_⟩
  have hq1 := b1 _ _ npq.symm hq
  have leaf : ∀ D : Ends, D.rt = Q → tRet (tCall (spLeafB ac) [] E0 (tCons (tVar 0) (tCons (tVar 3) (tCons (tVar 4) tNil)))) D ([some (.ref p), some (.ref q), some (.int (d : Nat)), some (.int (sl : Nat)), some (.ref pS), some (.ref pL), some (.int (dw : Nat)), none, none, none, none, none]) H1 := fun D eD => by
    refine ⟨_, rfl, _, rfl, _, rfl, p, pS, af, fs, sl, n + 1, rfl, h1, by omega, hs, npS, hS.keep (hp.le b1) fun o e => b1 _ _ npS.symm e, hfl, fun v H2 b2 h2 hv => ?_⟩
    rw [eD]
    exact kk v H2 (b1.trans b2).two (h2.mono (by omega)) ⟨left, b2 _ _ npq.symm hq1⟩ (hv d cs)
  refine ⟨_, rfl, rfl, _, rfl, ?_⟩
  by_cases e1 : (dw : Int) = 0
  · refine dT (by rw [e1]) (iT rfl (leaf _ rfl))
  refine dF (vint_ne e1) ⟨_, rfl, q, _, _, _, rfl, rfl, SqL.of hq1, rfl, rfl, _, rfl, ?_⟩
  by_cases e2 : left = 0
  · exact dT (by rw [e2]) (iT rfl (leaf _ rfl))
  refine dF (vint_ne e2) ⟨_, rfl, rfl, _, rfl, ?_⟩
  by_cases e3 : (d : Int) = 0
  · exact dT (by rw [e3]) (leaf _ rfl)
  refine dF (vint_ne e3) ?_
  obtain ⟨e, rfl⟩ : ∃ e, d = e + 1 := ⟨d - 1, by omega⟩
  clear leaf e3
  have eB : bB (e + 1) = 2 * bB e + 100 := rfl
  have ee : (((e + 1 : Nat) : Int) - 1) = (e : Nat) := by omega
  refine ⟨_, rfl, q, _, _, _, rfl, rfl, SqL.of hq1, rfl, _, _, rfl, rfl, _, rfl, q, _, _, 0, rfl, rfl, hq1, rfl, ?_⟩
  have hq2 : (upd H1 q (.lst ([V.int left].set 0 (.int (left - 1))))) q = some (.lst [.int (left - 1)]) := upd_same
  have b2 : But2 p q H (upd H1 q (.lst ([V.int left].set 0 (.int (left - 1))))) := b1.two.trans fun c u _ m e => by rw [upd_ne m]; exact e
  have h2 : BagV (upd H1 q (.lst ([V.int left].set 0 (.int (left - 1))))) p (n + 1) := h1.same fun o e => by rw [upd_ne npq]; exact e
  generalize upd H1 q (.lst ([V.int left].set 0 (.int (left - 1)))) = H2 at hq2 b2 h2
  clear hq1 h1 b1 H1
  -- the call of itself
  have rec_ : ∀ (H3 : Hp) (n3 : Nat) (l3 : Int) (Q3 : VK), But2 p q H H3 → BagV H3 p n3 → n3 + bB e ≤ 1000000000 → H3 q = some (.lst [.int l3]) → (∀ v H4, But2 p q H3 H4 → BagV H4 p (n3 + bB e) → (∃ l4, H4 q = some (.lst [.int l4])) → GBd af ac sl fs cs e H4 v → Q3 v H4) →
      spBodyP (e + 1) [.ref p, .ref q, .int (((e + 1 : Nat) : Int) - 1), .int (sl : Nat), .ref pS, .ref pL] H3 Q3 E0 := fun H3 n3 l3 Q3 b3 h3 hn3 hq3 k3 =>
    ⟨p, q, pS, pL, af, ac, fs, cs, l3, sl, n3, by rw [ee], h3, hn3, hq3, hs, npq, npS, npL, nqS, nqL, hS.keep (b3.le hpx hq) fun o z => b3 _ _ npS.symm nqS.symm z, hfl, hL.keep (b3.le hpx hq) fun o z => b3 _ _ npL.symm nqL.symm z, hcl, k3⟩
  have lst3 : ∀ {H3 : Hp} {m : Nat}, BagV H3 p m → ∃ xs, H3 p = some (.lst xs) := fun h => h.lst
  -- a test
  have test : ∀ (D : Ends) (H3 : Hp), D.rt = Q → But2 p q H H3 → BagV H3 p (n + 1) → (∃ l, H3 q = some (.lst [.int l])) → (tSeq
              (tAsg (tCall spAtomsB [] E0 (tCons (tVar 0) (tCons (tVar 3) (tCons (tCall spTakeB [] E0 (tCons (tVar 0) (tCons (tC (V.int 2)) tNil))) tNil)))) (gName 7))
              (tSeq
                (tAsg (tCall (spBodyP (e + 1)) [] E0 (tCons (tVar 0) (tCons (tVar 1) (tCons (tOp (rI0 fun i j => V.int (i - j)) (tVar 2) (tC (V.int 1))) (tCons (tVar 3) (tCons (tVar 4) (tCons (tVar 5) tNil))))))) (gName 8))
                (tRet (tTup (tCons (tC (V.str (Str.ofString "test"))) (tCons (tC (V.str (Str.ofString "hop"))) (tCons (tVar 7) (tCons (tVar 8)
                            (tCons (tCall (spBodyP (e + 1)) [] E0 (tCons (tVar 0) (tCons (tVar 1) (tCons (tOp (rI0 fun i j => V.int (i - j)) (tVar 2) (tC (V.int 1))) (tCons (tVar 3) (tCons (tVar 4) (tCons (tVar 5) tNil))))))) tNil))))))))) D
        ([some (.ref p), some (.ref q), some (.int ((e + 1 : Nat) : Nat)), some (.int (sl : Nat)), some (.ref pS), some (.ref pL), some (.int (dw : Nat)), none, none, none, none, none]) H3 := fun D H3 eD b3 h3 ⟨l3, hq3⟩ => by
    refine ⟨_, rfl, _, rfl, _, rfl, p, 2, n + 1, rfl, h3, by omega, by omega, by omega, fun m hm H4 b4 h4 => ?_⟩
    refine ⟨p, sl, m, n + 2, rfl, h4, by omega, by omega, hs, fun va H5 b5 h5 hva => ?_⟩
    have b35 : But2 p q H3 H5 := (b4.trans b5).two
    refine ⟨_, rfl, _, rfl, _, rfl, _, _, rfl, rfl, _, rfl, _, rfl, _, rfl, rec_ H5 (n + 2 + 20) l3 _ (b3.trans b35) h5 (by omega) (b5 _ _ npq.symm (b4 _ _ npq.symm hq3)) fun vy H6 b6 h6 ⟨l6, hq6⟩ hvy => ?_⟩
    refine ⟨_, rfl, _, rfl, _, rfl, _, rfl, _, rfl, _, _, rfl, rfl, _, rfl, _, rfl, _, rfl, rec_ H6 _ l6 _ ((b3.trans b35).trans b6) h6 (by omega) hq6 fun vz H7 b7 h7 ⟨l7, hq7⟩ hvz => ⟨by show 5 ≤ sizeLine; decide, fun t ht => ?_⟩⟩
    have nt := h7.ne ht
    rw [eD]
    obtain ⟨x5, hp5⟩ := h5.lst
    obtain ⟨x6, hp6⟩ := h6.lst
    have hq5 := b5 _ _ npq.symm (b4 _ _ npq.symm hq3)
    have l56 := b6.le hp5 hq5
    have l67 := b7.le hp6 hq6
    obtain ⟨by_, y1, y2, y3, y4, y5⟩ := hvy
    obtain ⟨bz, z1, z2, z3, z4, z5⟩ := hvz
    obtain ⟨aq, axs, rfl, haq, hax⟩ := id hva
    have lt := Le.new (o := .tup [.str "test", .str "hop", .ref aq, vy, vz]) ht
    refine kk _ _ ((((b3.trans b35).trans b6).trans b7).new ht) ((h7.mono (by omega)).same fun o e => by rw [upd_ne nt]; exact e) ⟨l7, by rw [upd_ne (ne_of_none hq7 ht)]; exact hq7⟩ ⟨.test by_ bz, .test (n := m) nm_hop (by omega) upd_same (hva.le (Le.trans l56 (Le.trans l67 lt))) (y1.le (Le.trans l67 lt)) (z1.le lt), fun f m => ?_, fun c m => ?_, ?_, ?_⟩
    · rcases List.mem_append.mp m with m | m
      · exact y2 f m
      · exact z2 f m
    · rcases List.mem_append.mp m with m | m
      · exact y3 c m
      · exact z3 c m
    · show max (bdDep by_) (bdDep bz) + 1 ≤ e + 1 + 1
      omega
    · show by_.size + bz.size + 1 + 1 ≤ 2 ^ (e + 1 + 1)
      rw [Nat.pow_succ]
      omega
  refine ⟨_, rfl, _, _, rfl, rfl, _, rfl, ?_⟩
  by_cases e4 : (dw : Int) < 3
  · exact dT e4 (iT rfl (test _ _ rfl b2 h2 ⟨_, hq2⟩))
  refine dF e4 ⟨_, rfl, by show 0 ≤ sizeLine; decide, fun t ht => ?_⟩
  have s3 := Same.upd (o := .lst []) ht
  have b3 := b2.new (o := .lst []) ht
  have h3 := h2.same fun o e => s3 _ _ e
  have hq3 := s3 _ _ hq2
  have t3 : (upd H2 t (.lst [])) t = some (.lst []) := upd_same
  generalize upd H2 t (.lst []) = H3 at s3 b3 h3 t3 hq3
  obtain ⟨rows, hLr, pr⟩ := hL
  have hL3 := b3 _ _ npL.symm nqL.symm hLr
  have fL := pr.length
  refine ⟨pL, t, rows, rfl, rfl, SqL.of hL3, SqL.of t3, _, rfl, ?_⟩
  cases rows with
  | nil => exact iT rfl (test _ _ rfl b3 h3 ⟨_, hq3⟩)
  | cons r0 rs =>
    refine iF rfl ?_
    refine ⟨_, rfl, _, rfl, _, rfl, pL, _, rfl, .inl (SqL.of hL3), p, (r0 :: rs).length, n + 1, rfl, h3, by omega, by simp, by omega, fun k hk H4 b4 h4 => ?_⟩
    have hL4 := b4 _ _ npL.symm hL3
    have hq4 := b4 _ _ npq.symm hq3
    obtain ⟨nm, hnm, t1, ev, ht1, hok, har⟩ := paired_at pr (List.getElem?_eq_getElem hk)
    have b14 := b3.trans b4.two
    have ht14 := (b14.le hpx hq) _ (.tup _) trivial ht1
    refine ⟨pL, _, _, _, rfl, rfl, SqL.of hL4, atI_nat (by rw [List.getElem?_eq_getElem hk, ev]), ?_⟩
    refine ⟨t1, _, rfl, SqT.of ht14, rfl, _, _, rfl, _, _, rfl, rfl, ?_⟩
    refine ⟨_, rfl, _, rfl, _, rfl, p, sl, ac nm, n + 2, rfl, h4, by omega, by omega, hs, fun va H5 b5 h5 hva => ?_⟩
    have hq5 := b5 _ _ npq.symm hq4
    have b15 := b14.trans b5.two
    refine ⟨_, rfl, _, rfl, _, rfl, _, rfl, _, rfl, _, _, rfl, rfl, _, rfl, _, rfl, _, rfl, rec_ H5 _ _ _ b15 h5 (by omega) hq5 fun vy H6 b6 h6 ⟨l6, hq6⟩ hvy => ⟨by show 4 ≤ sizeLine; decide, fun u hu => ?_⟩⟩
    have nu := h6.ne hu
    obtain ⟨x5, hp5⟩ := h5.lst
    have l56 := b6.le hp5 hq5
    obtain ⟨by_, y1, y2, y3, y4, y5⟩ := hvy
    obtain ⟨aq, axs, rfl, haq, hax⟩ := id hva
    have lt := Le.new (o := .tup [.str "push", .str nm, .ref aq, vy]) hu
    refine kk _ _ ((b15.trans b6).new hu) ((h6.mono (by omega)).same fun o e => by rw [upd_ne nu]; exact e) ⟨l6, by rw [upd_ne (ne_of_none hq6 hu)]; exact hq6⟩ ⟨.push nm by_, .push hok (by omega) upd_same (hva.le (Le.trans l56 lt)) (y1.le lt), y2, fun c m => ?_, ?_, ?_⟩
    · rcases List.mem_cons.mp m with m | m
      · rw [m]; exact List.mem_of_getElem? hnm
      · exact y3 c m
    · show bdDep by_ + 1 ≤ e + 1 + 1
      omega
    · show by_.size + 1 + 1 ≤ 2 ^ (e + 1 + 1)
      rw [Nat.pow_succ]
      have := Nat.one_le_two_pow (n := e + 1)
      omega
theorem c_law_body (T : Txt K mg) : ∀ d, Cal P w K mg base (5 + d) "_law_body" (spBodyB d)
  | 0 => body_step T (cal_of (k := 3) T.d_law_body sc_law_body (fun _ _ _ _ _ _ us hl => match us, hl with | [_, _, _, _, _, _], _ => rfl) (fun vs H Q E h => h.elim) (fun f cdv A outer s H vs Q E hr h => h.elim))
  | d + 1 => body_step T ((c_law_body T d).mono (by omega))
end
end K52

namespace K52
open PySem PySem.Spec PyProof.Rows L2
theorem But2.but {p q : Addr} {H H' : Hp} (a : But2 p q H H') (h : H q = none) : But p H H' := fun c o n e => a c o n (ne_of_none e h) e
section
variable {P : Program} {w : World} {K : PySem.W.Frag} {mg : Str → Option Value} {base : Heap}
def spArmB : Sp := fun vs H Q _ => ∃ p pS pL af ac fs cs, ∃ (k : Bool) (sl n : Nat), vs = [.ref p, .str (kindS k), .int (sl : Nat), .ref pS, .ref pL] ∧ BagV H p n ∧ n + 3000 ≤ 1000000000 ∧ sl ≤ 20 ∧ p ≠ pS ∧ p ≠ pL ∧ ShL af H pS fs ∧ fs.length ≤ 100 ∧ ShL ac H pL cs ∧ cs.length ≤ 100 ∧
  ∀ v H', But p H H' → BagV H' p (n + 3000) → GBd af ac (sl + 1) fs cs 4 H' v → Q v H'
theorem c_law_arm (T : Txt K mg) : Cal P w K mg base 10 "_law_arm" spArmB := by
  have c__law_take := c_law_take (P := P) (w := w) (base := base) T
  have c__law_atoms := c_law_atoms (P := P) (w := w) (base := base) T
  have c__law_body := c_law_body (P := P) (w := w) (base := base) T 4
  refine cal_of T.d_law_arm sc_law_arm (fun _ _ _ _ _ _ us hl => match us, hl with | [_, _, _, _, _], _ => rfl) (fun vs H Q E h => ?_) (fun f cdv A outer s H vs Q E hr h => ?_)
  · obtain ⟨_, _, _, _, _, _, _, _, _, _, rfl, _⟩ := h; rfl
  obtain ⟨p, pS, pL, af, ac, fs, cs, k, sl, n, rfl, hp, hn, hs, npS, npL, hS, hfl, hL, hcl, kk⟩ := h
  have nd := sc_law_arm.nd
  refine ⟨_, (pss_cons (ps_set (i := 5) nd rfl (Or.inl rfl) (pe_tup (pa_cons (pe_ifExp (pt_cmpR op_eq (pv 1) pe_str (nomark _)) pe_str pe_str) (pa_cons (pe_tup (pa_cons pe_str (pa_cons (pv 2) pa_nil))) pa_nil))))
  (pss_cons (ps_set (i := 6) nd rfl (Or.inl rfl) (pe_c c__law_take hr (by decide) rfl (pa_cons (pv 0) (pa_cons pe_int pa_nil))))
  (pss_cons (ps_if (pt_cmpR op_eq (pv 6) pe_int (nomark _)) (pss_one (ps_ret (pv 5))) pss_nil)
  (pss_cons (ps_if (PW.pt (pw_and (pt_cmpR op_eq (pv 6) pe_int (nomark _)) (pw_and1 (pt_cmpR (op_neNil hr) (pv 4) (pe_lst pa_nil) (nomark _))))) (pss_cons (ps_asg (pe_ix ix_list (pv 4) (pe_c c__law_take hr (by decide) rfl (pa_cons (pv 0) (pa_cons (pe_callB call_len_seq (by rfl) T.b_len PySem.boot_len (pa_cons (pv 4) pa_nil)) pa_nil))) (fun _ _ => rfl)) (pg_tup (by rfl) (pgs_cons (pg_name (i := 7) nd rfl (Or.inl rfl)) (pgs_cons (pg_name (i := 8) nd rfl (Or.inl rfl)) pgs_nil))))
  (pss_one (ps_ret (pe_tup (pa_cons pe_str (pa_cons (pv 7) (pa_cons (pe_c c__law_atoms hr (by decide) rfl (pa_cons (pv 0) (pa_cons (pe_op op_add (pv 2) pe_int) (pa_cons (pv 8) pa_nil)))) (pa_cons (pv 5) pa_nil)))))))) pss_nil)
  (pss_one (ps_ret (pe_c c__law_body hr (by decide) rfl (pa_cons (pv 0) (pa_cons (pe_lst (pa_cons pe_int pa_nil)) (pa_cons pe_int (pa_cons (pe_op op_add (pv 2) pe_int) (pa_cons (pv 3) (pa_cons (pv 4) pa_nil))))))))))))), ?_⟩
  refine ⟨_, rfl, rfl, _, rfl, ?_⟩
  have e4 : bB 4 = 2780 := rfl
  cases k
  · refine dF (by decide) ?_
    refine ⟨_, rfl, by show 2 ≤ sizeLine; decide, fun t1 ht1 => ⟨by show 2 ≤ sizeLine; decide, fun t2 ht2 => ?_⟩⟩
    have sR := (Same.upd (o := .tup [.str "slot", .int (sl : Nat)]) ht1).trans (Same.upd (o := .tup [.str "raise", .ref t1]) ht2)
    have hR : BdV af ac (sl + 1) (upd (upd H t1 (.tup [.str "slot", .int (sl : Nat)])) t2 (.tup [.str "raise", .ref t1])) (.leaf true) (.ref t2) := .rai upd_same ⟨t1, rfl, .inl ⟨sl, by omega, by rw [upd_ne (ne_of_none upd_same ht2)]; exact upd_same⟩⟩
    generalize upd (upd H t1 (.tup [.str "slot", .int (sl : Nat)])) t2 (.tup [.str "raise", .ref t1]) = H1 at sR hR
    have h1 := hp.same fun o e => sR _ _ e
    refine ⟨_, rfl, p, 6, n, rfl, h1, by omega, by omega, by omega, fun d hd H2 b2 h2 => ?_⟩
    have b02 := (Same.but p sR).trans b2
    have hR2 := hR.le (h1.le b2)
    have gR : ∀ {H' : Hp}, BdV af ac (sl + 1) H' (.leaf true) (.ref t2) → GBd af ac (sl + 1) fs cs 4 H' (.ref t2) := fun h => ⟨_, h, (fun _ m => by cases m), (fun _ m => by cases m), by show 1 ≤ 5; decide, by show 2 ≤ 2 ^ 5; decide⟩
    refine ⟨_, rfl, rfl, _, rfl, ?_⟩
    by_cases e1 : (d : Int) = 0
    · exact dT (by rw [e1]) ⟨_, rfl, kk _ _ b02 (h2.mono (by omega)) (gR hR2)⟩
    refine dF (vint_ne e1) ⟨_, rfl, rfl, _, rfl, ?_⟩
    have hS2 := hS.keep (hp.le b02) fun o e => b02 _ _ npS.symm e
    have hL2 := hL.keep (hp.le b02) fun o e => b02 _ _ npL.symm e
    have body : ∀ (H3 : Hp), Same H2 H3 → ∀ D : Ends, D.rt = Q → tRet (tCall (spBodyB 4) [] E0 (tCons (tVar 0) (tCons (tLst (tCons (tC (V.int 4)) tNil)) (tCons (tC (V.int 4)) (tCons (tOp (rI0 fun i j => V.int (i + j)) (tVar 2) (tC (V.int 1))) (tCons (tVar 3) (tCons (tVar 4) tNil))))))) D
        ([some (.ref p), some (.str (kindS false)), some (.int (sl : Nat)), some (.ref pS), some (.ref pL), some (.ref t2), some (.int (d : Nat)), none, none]) H3 := fun H3 s3 D eD => by
      refine ⟨_, rfl, by show 1 ≤ sizeLine; decide, fun q hq => ⟨_, rfl, _, _, rfl, rfl, _, rfl, _, rfl, ?_⟩⟩
      have h3 := h2.same fun o e => s3 _ _ e
      have npq := h3.ne hq
      have s4 := Same.upd (o := .lst [.int 4]) hq
      obtain ⟨rS, eS, _⟩ := id hS2
      obtain ⟨rL, eL, _⟩ := id hL2
      have nqS : q ≠ pS := (ne_of_none (s3 _ _ eS) hq).symm
      have nqL : q ≠ pL := (ne_of_none (s3 _ _ eL) hq).symm
      have l34 := Same.le (s3.trans s4)
      refine ⟨p, q, pS, pL, af, ac, fs, cs, 4, sl + 1, n + 1, rfl, h3.same fun o e => s4 _ _ e, by omega, upd_same, by omega, npq, npS, npL, nqS, nqL, hS2.keep l34 fun o e => (s3.trans s4) _ _ e, hfl, hL2.keep l34 fun o e => (s3.trans s4) _ _ e, hcl, fun v H5 b5 h5 _ hv => ?_⟩
      rw [eD]
      have b35 : But p H3 H5 := fun c o n e => b5 c o n (ne_of_none e hq) (s4 _ _ e)
      exact kk v H5 (b02.trans ((Same.but p s3).trans b35)) (h5.mono (by omega)) hv
    by_cases e2 : (d : Int) = 1
    · refine dT (by rw [e2]) ⟨_, rfl, by show 0 ≤ sizeLine; decide, fun t ht => ?_⟩
      have s3 := Same.upd (o := .lst []) ht
      have t3 : (upd H2 t (.lst [])) t = some (.lst []) := upd_same
      generalize upd H2 t (.lst []) = H3 at s3 t3
      obtain ⟨rows, eL, pr⟩ := id hL2
      have fL := pr.length
      refine ⟨pL, t, rows, rfl, rfl, SqL.of (s3 _ _ eL), SqL.of t3, _, rfl, ?_⟩
      cases rows with
      | nil => exact iF rfl (body H3 s3 _ rfl)
      | cons r0 rs =>
        refine iT rfl ?_
        have h3 := h2.same fun o e => s3 _ _ e
        refine ⟨_, rfl, _, rfl, _, rfl, pL, _, rfl, .inl (SqL.of (s3 _ _ eL)), p, (r0 :: rs).length, n + 1, rfl, h3, by omega, by simp, by omega, fun k hk H4 b4 h4 => ?_⟩
        have hL4 := b4 _ _ npL.symm (s3 _ _ eL)
        obtain ⟨nm, hnm, t5, ev, ht5, hok, har⟩ := paired_at pr (List.getElem?_eq_getElem hk)
        have b24 : But p H2 H4 := (Same.but p s3).trans b4
        have ht54 := (h2.le b24) _ (.tup _) trivial ht5
        refine ⟨pL, _, _, _, rfl, rfl, SqL.of hL4, atI_nat (by rw [List.getElem?_eq_getElem hk, ev]), ?_⟩
        refine ⟨t5, _, rfl, SqT.of ht54, rfl, _, _, rfl, _, _, rfl, rfl, ?_⟩
        refine ⟨_, rfl, _, rfl, _, rfl, _, _, rfl, rfl, _, rfl, p, sl + 1, ac nm, n + 2, rfl, h4, by omega, by omega, by omega, fun va H5 b5 h5 hva => ⟨_, rfl, by show 4 ≤ sizeLine; decide, fun u hu => ?_⟩⟩
        have nu := h5.ne hu
        obtain ⟨aq, axs, rfl, haq, hax⟩ := id hva
        have lt := Le.new (o := .tup [.str "push", .str nm, .ref aq, .ref t2]) hu
        have hR5 := (hR2.le (h2.le (b24.trans b5))).le lt
        refine kk _ _ ((b02.trans (b24.trans b5)).new hu) ((h5.mono (by omega)).same fun o e => by rw [upd_ne nu]; exact e) ⟨.push nm (.leaf true), .push hok (by omega) upd_same (hva.le lt) hR5, (fun _ m => by cases m), fun c m => ?_, by show 2 ≤ 5; decide, by show 3 ≤ 2 ^ 5; decide⟩
        rw [List.mem_singleton.mp m]; exact List.mem_of_getElem? hnm
    · exact dF (vint_ne e2) (iF rfl (body H2 (Same.refl _) _ rfl))
  · refine dT (by decide) ?_
    refine ⟨_, rfl, by show 2 ≤ sizeLine; decide, fun t1 ht1 => ⟨by show 2 ≤ sizeLine; decide, fun t2 ht2 => ?_⟩⟩
    have sR := (Same.upd (o := .tup [.str "slot", .int (sl : Nat)]) ht1).trans (Same.upd (o := .tup [.str "return", .ref t1]) ht2)
    have hR : BdV af ac (sl + 1) (upd (upd H t1 (.tup [.str "slot", .int (sl : Nat)])) t2 (.tup [.str "return", .ref t1])) (.leaf false) (.ref t2) := .ret upd_same ⟨t1, rfl, .inl ⟨sl, by omega, by rw [upd_ne (ne_of_none upd_same ht2)]; exact upd_same⟩⟩
    generalize upd (upd H t1 (.tup [.str "slot", .int (sl : Nat)])) t2 (.tup [.str "return", .ref t1]) = H1 at sR hR
    have h1 := hp.same fun o e => sR _ _ e
    refine ⟨_, rfl, p, 6, n, rfl, h1, by omega, by omega, by omega, fun d hd H2 b2 h2 => ?_⟩
    have b02 := (Same.but p sR).trans b2
    have hR2 := hR.le (h1.le b2)
    have gR : ∀ {H' : Hp}, BdV af ac (sl + 1) H' (.leaf false) (.ref t2) → GBd af ac (sl + 1) fs cs 4 H' (.ref t2) := fun h => ⟨_, h, (fun _ m => by cases m), (fun _ m => by cases m), by show 1 ≤ 5; decide, by show 2 ≤ 2 ^ 5; decide⟩
    refine ⟨_, rfl, rfl, _, rfl, ?_⟩
    by_cases e1 : (d : Int) = 0
    · exact dT (by rw [e1]) ⟨_, rfl, kk _ _ b02 (h2.mono (by omega)) (gR hR2)⟩
    refine dF (vint_ne e1) ⟨_, rfl, rfl, _, rfl, ?_⟩
    have hS2 := hS.keep (hp.le b02) fun o e => b02 _ _ npS.symm e
    have hL2 := hL.keep (hp.le b02) fun o e => b02 _ _ npL.symm e
    have body : ∀ (H3 : Hp), Same H2 H3 → ∀ D : Ends, D.rt = Q → tRet (tCall (spBodyB 4) [] E0 (tCons (tVar 0) (tCons (tLst (tCons (tC (V.int 4)) tNil)) (tCons (tC (V.int 4)) (tCons (tOp (rI0 fun i j => V.int (i + j)) (tVar 2) (tC (V.int 1))) (tCons (tVar 3) (tCons (tVar 4) tNil))))))) D
        ([some (.ref p), some (.str (kindS true)), some (.int (sl : Nat)), some (.ref pS), some (.ref pL), some (.ref t2), some (.int (d : Nat)), none, none]) H3 := fun H3 s3 D eD => by
      refine ⟨_, rfl, by show 1 ≤ sizeLine; decide, fun q hq => ⟨_, rfl, _, _, rfl, rfl, _, rfl, _, rfl, ?_⟩⟩
      have h3 := h2.same fun o e => s3 _ _ e
      have npq := h3.ne hq
      have s4 := Same.upd (o := .lst [.int 4]) hq
      obtain ⟨rS, eS, _⟩ := id hS2
      obtain ⟨rL, eL, _⟩ := id hL2
      have nqS : q ≠ pS := (ne_of_none (s3 _ _ eS) hq).symm
      have nqL : q ≠ pL := (ne_of_none (s3 _ _ eL) hq).symm
      have l34 := Same.le (s3.trans s4)
      refine ⟨p, q, pS, pL, af, ac, fs, cs, 4, sl + 1, n + 1, rfl, h3.same fun o e => s4 _ _ e, by omega, upd_same, by omega, npq, npS, npL, nqS, nqL, hS2.keep l34 fun o e => (s3.trans s4) _ _ e, hfl, hL2.keep l34 fun o e => (s3.trans s4) _ _ e, hcl, fun v H5 b5 h5 _ hv => ?_⟩
      rw [eD]
      have b35 : But p H3 H5 := fun c o n e => b5 c o n (ne_of_none e hq) (s4 _ _ e)
      exact kk v H5 (b02.trans ((Same.but p s3).trans b35)) (h5.mono (by omega)) hv
    by_cases e2 : (d : Int) = 1
    · refine dT (by rw [e2]) ⟨_, rfl, by show 0 ≤ sizeLine; decide, fun t ht => ?_⟩
      have s3 := Same.upd (o := .lst []) ht
      have t3 : (upd H2 t (.lst [])) t = some (.lst []) := upd_same
      generalize upd H2 t (.lst []) = H3 at s3 t3
      obtain ⟨rows, eL, pr⟩ := id hL2
      have fL := pr.length
      refine ⟨pL, t, rows, rfl, rfl, SqL.of (s3 _ _ eL), SqL.of t3, _, rfl, ?_⟩
      cases rows with
      | nil => exact iF rfl (body H3 s3 _ rfl)
      | cons r0 rs =>
        refine iT rfl ?_
        have h3 := h2.same fun o e => s3 _ _ e
        refine ⟨_, rfl, _, rfl, _, rfl, pL, _, rfl, .inl (SqL.of (s3 _ _ eL)), p, (r0 :: rs).length, n + 1, rfl, h3, by omega, by simp, by omega, fun k hk H4 b4 h4 => ?_⟩
        have hL4 := b4 _ _ npL.symm (s3 _ _ eL)
        obtain ⟨nm, hnm, t5, ev, ht5, hok, har⟩ := paired_at pr (List.getElem?_eq_getElem hk)
        have b24 : But p H2 H4 := (Same.but p s3).trans b4
        have ht54 := (h2.le b24) _ (.tup _) trivial ht5
        refine ⟨pL, _, _, _, rfl, rfl, SqL.of hL4, atI_nat (by rw [List.getElem?_eq_getElem hk, ev]), ?_⟩
        refine ⟨t5, _, rfl, SqT.of ht54, rfl, _, _, rfl, _, _, rfl, rfl, ?_⟩
        refine ⟨_, rfl, _, rfl, _, rfl, _, _, rfl, rfl, _, rfl, p, sl + 1, ac nm, n + 2, rfl, h4, by omega, by omega, by omega, fun va H5 b5 h5 hva => ⟨_, rfl, by show 4 ≤ sizeLine; decide, fun u hu => ?_⟩⟩
        have nu := h5.ne hu
        obtain ⟨aq, axs, rfl, haq, hax⟩ := id hva
        have lt := Le.new (o := .tup [.str "push", .str nm, .ref aq, .ref t2]) hu
        have hR5 := (hR2.le (h2.le (b24.trans b5))).le lt
        refine kk _ _ ((b02.trans (b24.trans b5)).new hu) ((h5.mono (by omega)).same fun o e => by rw [upd_ne nu]; exact e) ⟨.push nm (.leaf false), .push hok (by omega) upd_same (hva.le lt) hR5, (fun _ m => by cases m), fun c m => ?_, by show 2 ≤ 5; decide, by show 3 ≤ 2 ^ 5; decide⟩
        rw [List.mem_singleton.mp m]; exact List.mem_of_getElem? hnm
    · exact dF (vint_ne e2) (iF rfl (body H2 (Same.refl _) _ rfl))
end
end K52

namespace K52
open PySem PySem.Spec PyProof.Rows L2
def ButL (S : List Addr) (H H' : Hp) : Prop := ∀ b o, b ∉ S → H b = some o → H' b = some o
theorem ButL.refl (S : List Addr) (H : Hp) : ButL S H H := fun _ _ _ h => h
theorem ButL.trans {S : List Addr} {H H1 H2 : Hp} (a : ButL S H H1) (b : ButL S H1 H2) : ButL S H H2 := fun c o n h => b c o n (a c o n h)
theorem Same.butL {S : List Addr} {H H' : Hp} (a : Same H H') : ButL S H H' := fun c o _ h => a c o h
theorem But.butL {S : List Addr} {p : Addr} {H H' : Hp} (a : But p H H') (m : p ∈ S) : ButL S H H' := fun c o n h => a c o (fun z => n (by rw [z]; exact m)) h
theorem ButL.mono {S S' : List Addr} {H H' : Hp} (a : ButL S H H') (m : ∀ x ∈ S, x ∈ S') : ButL S' H H' := fun c o n h => a c o (fun z => n (m c z)) h
theorem ButL.upd {S : List Addr} {p : Addr} {H : Hp} {o : HO} (m : p ∈ S) : ButL S H (L2.upd H p o) := fun c u n h => by
  rw [upd_ne fun z => n (by rw [z]; exact m)]; exact h
theorem ButL.le {S : List Addr} {H H' : Hp} (a : ButL S H H') (h : ∀ p ∈ S, ∃ xs, H p = some (.lst xs)) : Le H H' := fun b o st e => a b o (fun m => by
  obtain ⟨xs, q⟩ := h b m
  rw [q] at e; cases e; exact st) e
/-- the place of a name -/
def ixF : List Str → Str → Nat
  | [], _ => 0
  | a :: l, x => if a = x then 0 else ixF l x + 1
theorem ixF_at : ∀ {l : List Str}, l.Nodup → ∀ {j : Nat} {x : Str}, l[j]? = some x → ixF l x = j
  | [], _, j, x, h => by simp at h
  | a :: l, nd, 0, x, h => by
    have : a = x := by simpa using h
    unfold ixF; rw [if_pos this]
  | a :: l, nd, j + 1, x, h => by
    obtain ⟨na, nl⟩ := List.nodup_cons.mp nd
    have hx : l[j]? = some x := by simpa using h
    unfold ixF
    rw [if_neg fun z => na (by rw [z]; exact List.mem_of_getElem? hx), ixF_at nl hx]
/-- rows (name, number), told by a list -/
def PrL (H : Hp) (L : List (Str × Nat)) (rows : List V) : Prop := Paired (fun e v => ∃ t, v = V.ref t ∧ H t = some (.tup [.str e.1, .int (e.2 : Nat)])) L rows
theorem PrL.le {H H' : Hp} {L : List (Str × Nat)} {rows : List V} (l : Le H H') (h : PrL H L rows) : PrL H' L rows := Paired.mono (fun _ _ ⟨t, e, q⟩ => ⟨t, e, l _ _ trivial q⟩) h
def arF (L : List (Str × Nat)) (x : Str) : Nat := (L.map (·.2)).getD (ixF (L.map (·.1)) x) 0
theorem arF_at {L : List (Str × Nat)} (nd : (L.map (·.1)).Nodup) {j : Nat} {e : Str × Nat} (h : L[j]? = some e) : arF L e.1 = e.2 := by
  unfold arF
  rw [ixF_at nd (j := j) (by rw [List.getElem?_map, h]; rfl), List.getD_eq_getElem?_getD, List.getElem?_map, h]
  rfl
theorem arF_le {L : List (Str × Nat)} {m : Nat} (h : ∀ e ∈ L, e.2 ≤ m) (x : Str) : arF L x ≤ m := by
  unfold arF
  rw [List.getD_eq_getElem?_getD]
  generalize ixF (L.map (·.1)) x = j
  cases q : (L.map (·.2))[j]? with
  | none => exact Nat.zero_le _
  | some k =>
    rw [List.getElem?_map] at q
    obtain ⟨e, he, rfl⟩ := Option.map_eq_some_iff.mp q
    exact h e (List.mem_of_getElem? he)
theorem paired_map {α β : Type} {f : α → β} {R : β → V → Prop} : ∀ {l : List α} {xs : List V}, Paired (fun a v => R (f a) v) l xs → Paired R (l.map f) xs
  | _, _, .nil => .nil
  | _, _, .cons r p => .cons r (paired_map p)
theorem PrL.shl {H : Hp} {p : Addr} {L : List (Str × Nat)} {rows : List V} (h : PrL H L rows) (hp : H p = some (.lst rows)) (nd : (L.map (·.1)).Nodup) (nm : ∀ e ∈ L, NmOk e.1) (l2 : ∀ e ∈ L, e.2 ≤ 2) : ShL (arF L) H p (L.map (·.1)) := by
  refine ⟨rows, hp, paired_of (by rw [List.length_map]; exact h.length) fun i x v h1 h2 => ?_⟩
  rw [List.getElem?_map] at h1
  obtain ⟨e, he, rfl⟩ := Option.map_eq_some_iff.mp h1
  obtain ⟨v', hv', t, ev, ht⟩ := paired_at' h he
  rw [h2] at hv'; cases hv'
  have a1 := arF_at nd he
  exact ⟨t, ev, by rw [a1]; exact ht, nm e (List.mem_of_getElem? he), by rw [a1]; exact l2 e (List.mem_of_getElem? he)⟩
theorem ord_of {am : Str → KM.Bd Str} : ∀ {cs : List Str}, cs.Nodup → (∀ (j : Nat) c, cs[j]? = some c → ∀ d ∈ (am c).pushes, d ∈ cs.drop (j + 1)) → KM.Ord am cs
  | [], _, _ => trivial
  | a :: l, nd, h => by
    obtain ⟨na, nl⟩ := List.nodup_cons.mp nd
    exact ⟨fun d hd => h 0 a rfl d hd, na, ord_of nl fun j c hc d hd => h (j + 1) c (by simpa using hc) d hd⟩
theorem paired_snoc {α : Type} {R : α → V → Prop} {a : α} {v : V} : ∀ {l : List α} {xs : List V}, Paired R l xs → R a v → Paired R (l ++ [a]) (xs ++ [v])
  | _, _, .nil, q => .cons q .nil
  | _, _, .cons r p, q => .cons r (paired_snoc p q)
theorem erase_map {α β : Type} (f : α → β) : ∀ (l : List α) (d : Nat), (l.map f).eraseIdx d = (l.eraseIdx d).map f
  | [], _ => rfl
  | _ :: _, 0 => rfl
  | a :: l, d + 1 => by
    show f a :: (l.map f).eraseIdx d = f a :: (l.eraseIdx d).map f
    rw [erase_map f l d]
theorem erase_perm {α : Type} {x : α} : ∀ {l : List α} {d : Nat}, l[d]? = some x → (x :: l.eraseIdx d).Perm l
  | [], d, h => by simp at h
  | a :: l, 0, h => by
    have : a = x := by simpa using h
    rw [this]; exact List.Perm.refl _
  | a :: l, d + 1, h => by
    have hx : l[d]? = some x := by simpa using h
    exact (List.Perm.swap a x _).trans ((erase_perm hx).cons a)
theorem cut_drop {xs : List V} {k : Nat} : cutV xs (some ((k : Nat) : Int)) none = xs.drop k := by
  unfold cutV
  rw [HT.sIx_nat, HT.sIx_none]
  rcases Nat.le_total k xs.length with h | h
  · rw [Nat.min_eq_left h, List.take_of_length_le (by rw [List.length_drop]; omega)]
  · rw [Nat.min_eq_right h, List.drop_of_length_le h, List.drop_of_length_le (Nat.le_refl _), List.take_nil]
/-- names drawn from a pool into rows -/
structure PopS (H : Hp) (p pP pS : Addr) (L : List (Str × Nat)) (pl : List Str) (n : Nat) : Prop where
  bag : BagV H p n
  pool : H pP = some (.lst (pl.map V.str))
  rows : ∃ rows, H pS = some (.lst rows) ∧ PrL H L rows
  nd : (L.map (·.1) ++ pl).Nodup
  nm : ∀ x ∈ L.map (·.1) ++ pl, NmOk x
  l2 : ∀ e ∈ L, e.2 ≤ 2
theorem PopS.step {H H1 H3 : Hp} {p pP pS t : Addr} {L : List (Str × Nat)} {pl : List Str} {n d k : Nat} {x : Str} {rows : List V} (h : PopS H p pP pS L pl n) (n1 : p ≠ pP) (n2 : p ≠ pS) (n3 : pP ≠ pS) (hr : H pS = some (.lst rows)) (b1 : But p H H1) (hd : pl[d]? = some x)
    (b3 : But p (upd H1 pP (.lst ((pl.map V.str).eraseIdx d))) H3) (h3 : BagV H3 p (n + 2)) (hk : k ≤ 2) (ht : H3 t = none) :
    PopS (upd (upd H3 t (.tup [.str x, .int (k : Nat)])) pS (.lst (rows ++ [.ref t]))) p pP pS (L ++ [(x, k)]) (pl.eraseIdx d) (n + 2) ∧ ButL [p, pP, pS] H (upd (upd H3 t (.tup [.str x, .int (k : Nat)])) pS (.lst (rows ++ [.ref t]))) ∧ H3 pS = some (.lst rows) := by
  obtain ⟨rows', hr', pr⟩ := h.rows
  rw [hr] at hr'; cases hr'
  have eP : (upd H1 pP (.lst ((pl.map V.str).eraseIdx d))) pP = some (.lst ((pl.map V.str).eraseIdx d)) := upd_same
  have hP3 := b3 _ _ n1.symm eP
  have hS3 : H3 pS = some (.lst rows) := b3 _ _ n2.symm (by rw [upd_ne n3.symm]; exact b1 _ _ n2.symm hr)
  have ntp := h3.ne ht
  have ntP := ne_of_none hP3 ht
  have ntS := ne_of_none hS3 ht
  have bu : ButL [p, pP, pS] H (upd (upd H3 t (.tup [.str x, .int (k : Nat)])) pS (.lst (rows ++ [.ref t]))) := fun c o nc e => by
    simp only [List.mem_cons, List.mem_singleton, List.not_mem_nil, or_false, not_or] at nc
    have e3 := b3 c o nc.1 (by rw [upd_ne nc.2.1]; exact b1 c o nc.1 e)
    rw [upd_ne nc.2.2, upd_ne (ne_of_none e3 ht)]
    exact e3
  obtain ⟨bx, hbx⟩ := h.bag.lst
  have le := bu.le (by
    intro q hq
    simp only [List.mem_cons, List.mem_singleton, List.not_mem_nil, or_false] at hq
    rcases hq with rfl | rfl | rfl
    · exact ⟨_, hbx⟩
    · exact ⟨_, h.pool⟩
    · exact ⟨_, hr⟩)
  have pm : (x :: pl.eraseIdx d).Perm pl := erase_perm hd
  have pm2 : ((L ++ [(x, k)]).map (·.1) ++ pl.eraseIdx d).Perm (L.map (·.1) ++ pl) := by
    rw [List.map_append, List.append_assoc]
    exact pm.append_left _
  refine ⟨⟨h3.same fun o e => by rw [upd_ne n2, upd_ne ntp]; exact e, by rw [upd_ne n3, upd_ne ntP, hP3, erase_map], ⟨_, upd_same, ?_⟩, pm2.nodup_iff.mpr h.nd, fun y hy => h.nm y (pm2.mem_iff.mp hy), fun e he => ?_⟩, bu, hS3⟩
  · exact paired_snoc (pr.le le) ⟨t, rfl, by rw [upd_ne ntS.symm]; exact upd_same⟩
  · rcases List.mem_append.mp he with he | he
    · exact h.l2 e he
    · rw [List.mem_singleton.mp he]; exact hk
def CE (af ac : Str → Nat) (LF : List (Str × Nat)) (fs cs : List Str) (j : Nat) (y : V) (H : Hp) : Prop := ∃ e k b t bv, LF[j]? = some e ∧ y = V.ref t ∧ H t = some (.tup [.str e.1, .str (kindS k), .int (e.2 : Nat), bv]) ∧ BdV af ac (e.2 + 1) H b bv ∧ (∀ f ∈ b.calls, f ∈ fs) ∧ (∀ c ∈ b.pushes, c ∈ cs.drop (j + 1)) ∧ bdDep b ≤ 5 ∧ b.size + 1 ≤ 32
theorem CE.le {af ac : Str → Nat} {LF : List (Str × Nat)} {fs cs : List Str} {j : Nat} {y : V} {H H' : Hp} (l : Le H H') (h : CE af ac LF fs cs j y H) : CE af ac LF fs cs j y H' := by
  obtain ⟨e, k, b, t, bv, h1, h2, h3, h4, h5⟩ := h
  exact ⟨e, k, b, t, bv, h1, h2, l _ _ trivial h3, h4.le l, h5⟩
def FE (af ac : Str → Nat) (L : List (Str × Nat)) (fs cs : List Str) (j : Nat) (y : V) (H : Hp) : Prop := ∃ e b t bv, L[j]? = some e ∧ y = V.ref t ∧ H t = some (.tup [.str e.1, .int (e.2 : Nat), bv]) ∧ BdV af ac e.2 H b bv ∧ (∀ f ∈ b.calls, f ∈ fs) ∧ (∀ c ∈ b.pushes, c ∈ cs) ∧ bdDep b ≤ 6 ∧ b.size + 1 ≤ 64
theorem FE.le {af ac : Str → Nat} {L : List (Str × Nat)} {fs cs : List Str} {j : Nat} {y : V} {H H' : Hp} (l : Le H H') (h : FE af ac L fs cs j y H) : FE af ac L fs cs j y H' := by
  obtain ⟨e, b, t, bv, h1, h2, h3, h4, h5⟩ := h
  exact ⟨e, b, t, bv, h1, h2, l _ _ trivial h3, h4.le l, h5⟩
theorem paired_drop {α : Type} {R : α → V → Prop} : ∀ (n : Nat) {l : List α} {xs : List V}, Paired R l xs → Paired R (l.drop n) (xs.drop n)
  | 0, _, _, h => h
  | n + 1, _, _, .nil => .nil
  | n + 1, _, _, .cons _ p => paired_drop n p
section
variable {P : Program} {w : World} {K : PySem.W.Frag} {mg : Str → Option Value} {base : Heap}
def RowsV (af ac : Str → Nat) (M : KM.Tb Str) (H : Hp) (t : Addr) : Prop := ∃ pF pC fns css, H t = some (.tup [.ref pF, .ref pC]) ∧ H pF = some (.lst fns) ∧ Paired (FnV af ac M H) M.fs fns ∧ H pC = some (.lst css) ∧ Paired (CsV af ac M H) M.cs css
structure RowsOk (af ac : Str → Nat) (M : KM.Tb Str) : Prop where
  ok : M.Ok
  fz : M.fs.length ≤ 4
  cz : M.cs.length ≤ 4
  fne : M.fs ≠ []
  aw : ∀ c, ac c ≤ 2
def spRows : Sp := fun vs H Q _ => ∃ p, vs = [.ref p, .int 4, .int 2] ∧ BagV H p 0 ∧ ∀ t H' af ac M, But p H H' → RowsOk af ac M → RowsV af ac M H' t → Q (.ref t) H'
theorem c_law_rows (T : Txt K mg) : Cal P w K mg base 11 "_law_rows" spRows := by
  have c__law_take := c_law_take (P := P) (w := w) (base := base) T
  have c__law_arm := c_law_arm (P := P) (w := w) (base := base) T
  have c__law_body := c_law_body (P := P) (w := w) (base := base) T 5
  refine cal_of T.d_law_rows sc_law_rows (fun _ _ _ _ _ _ us hl => match us, hl with | [_, _, _], _ => rfl) (fun vs H Q E h => ?_) (fun f cdv A outer s H vs Q E hr h => ?_)
  · obtain ⟨_, rfl, _⟩ := h; rfl
  obtain ⟨p, rfl, hp, kk⟩ := h
  have nd := sc_law_rows.nd
  refine ⟨_, (pss_cons (ps_par (i := 3) (j := 4) (by rfl) nd rfl rfl (by decide) rfl rfl (pa_cons (pe_lst (pa_cons pe_str (pa_cons pe_str (pa_cons pe_str (pa_cons pe_str (pa_cons pe_str pa_nil)))))) (pa_cons (pe_lst (pa_cons pe_str (pa_cons pe_str (pa_cons pe_str (pa_cons pe_str (pa_cons pe_str pa_nil)))))) pa_nil)) (by rfl))
  (pss_cons (ps_asg (pe_tup (pa_cons (pe_lst pa_nil) (pa_cons (pe_lst pa_nil) (pa_cons (pe_lst pa_nil) pa_nil)))) (pg_tup (by rfl) (pgs_cons (pg_name (i := 5) nd rfl (Or.inr rfl)) (pgs_cons (pg_name (i := 6) nd rfl (Or.inr rfl)) (pgs_cons (pg_name (i := 7) nd rfl (Or.inl rfl)) pgs_nil)))))
  (pss_cons (ps_for PassesOwn.never rfl (pi_range1 rfl T.b_range (pa_cons (pe_op op_add pe_int (pe_c c__law_take hr (by decide) rfl (pa_cons (pv 0) (pa_cons (pv 1) pa_nil)))) pa_nil)) (pg_name (i := 8) nd rfl (Or.inl rfl)) (pss_one (ps_expr (pe_bm PySem.F.plainAttrs_list PySem.F.slot_list_append PySem.F.type_list_append mt_append (pv 5) (pa_cons (pe_tup (pa_cons (pe_bm PySem.F.plainAttrs_list PySem.F.slot_list_pop PySem.F.type_list_pop mt_popAt (pv 3) (pa_cons (pe_c c__law_take hr (by decide) rfl (pa_cons (pv 0) (pa_cons (pe_callB call_len_seq (by rfl) T.b_len PySem.boot_len (pa_cons (pv 3) pa_nil)) pa_nil))) pa_nil)) (pa_cons (pe_c c__law_take hr (by decide) rfl (pa_cons (pv 0) (pa_cons pe_int pa_nil))) pa_nil))) pa_nil)))))
  (pss_cons (ps_for PassesOwn.never rfl (pi_range1 rfl T.b_range (pa_cons (pe_c c__law_take hr (by decide) rfl (pa_cons (pv 0) (pa_cons (pe_op op_add (pv 1) pe_int) pa_nil))) pa_nil)) (pg_name (i := 8) nd rfl (Or.inl rfl)) (pss_one (ps_expr (pe_bm PySem.F.plainAttrs_list PySem.F.slot_list_append PySem.F.type_list_append mt_append (pv 6) (pa_cons (pe_tup (pa_cons (pe_bm PySem.F.plainAttrs_list PySem.F.slot_list_pop PySem.F.type_list_pop mt_popAt (pv 4) (pa_cons (pe_c c__law_take hr (by decide) rfl (pa_cons (pv 0) (pa_cons (pe_callB call_len_seq (by rfl) T.b_len PySem.boot_len (pa_cons (pv 4) pa_nil)) pa_nil))) pa_nil)) (pa_cons (pe_c c__law_take hr (by decide) rfl (pa_cons (pv 0) (pa_cons (pe_op op_add (pv 2) pe_int) pa_nil))) pa_nil))) pa_nil)))))
  (pss_cons (ps_for PassesOwn.never rfl (pi_enum rfl T.b_enumerate (pa_cons (pv 6) pa_nil)) (pg_tup (by rfl) (pgs_cons (pg_name (i := 9) nd rfl (Or.inl rfl)) (pgs_cons (pg_tup (by rfl) (pgs_cons (pg_name (i := 10) nd rfl (Or.inl rfl)) (pgs_cons (pg_name (i := 11) nd rfl (Or.inl rfl)) pgs_nil))) pgs_nil))) (pss_cons (ps_set (i := 12) nd rfl (Or.inl rfl) (pe_ix ix_tup (pe_tup (pa_cons pe_str (pa_cons pe_str pa_nil))) (pe_c c__law_take hr (by decide) rfl (pa_cons (pv 0) (pa_cons pe_int pa_nil))) (fun _ _ => rfl)))
  (pss_one (ps_expr (pe_bm PySem.F.plainAttrs_list PySem.F.slot_list_append PySem.F.type_list_append mt_append (pv 7) (pa_cons (pe_tup (pa_cons (pv 10) (pa_cons (pv 12) (pa_cons (pv 11) (pa_cons (pe_c c__law_arm hr (by decide) rfl (pa_cons (pv 0) (pa_cons (pv 12) (pa_cons (pv 11) (pa_cons (pv 5) (pa_cons (pe_slice sl_list (pv 6) (po_some (pe_op op_add (pv 9) pe_int)) po_none) pa_nil)))))) pa_nil))))) pa_nil))))))
  (pss_cons (ps_setLc (i := 13) (own := [("_law_name", 10), ("_law_arity", 14)]) rfl nd rfl rfl (sw_true rfl rfl rfl (by decide +kernel)) (pi_list (pv 5)) (blkOk_by (N := N_law_rows) (sc := defScope s_law_rows) (by decide +kernel)) (fun _ _ _ _ _ => (pg_tupK (K := K) (n := 2) rfl (by rfl) (pgs_cons (pg_name (i := 10) nd rfl (Or.inl rfl)) (pgs_cons (pg_name (i := 14) nd rfl (Or.inl rfl)) pgs_nil)))) (fun _ _ _ _ _ => pts_nil) (fun _ _ _ _ _ => (pe_tup (pa_cons (pv 10) (pa_cons (pv 14) (pa_cons (pe_c c__law_body hr (by decide) rfl (pa_cons (pv 0) (pa_cons (pe_lst (pa_cons pe_int pa_nil)) (pa_cons pe_int (pa_cons (pv 14) (pa_cons (pv 5) (pa_cons (pv 6) pa_nil))))))) pa_nil))))))
  (pss_one (ps_ret (pe_tup (pa_cons (pv 13) (pa_cons (pv 7) pa_nil))))))))))), ?_⟩
  have hz : 100 ≤ sizeLine := by decide
  -- the lists
  refine ⟨by show 5 ≤ sizeLine; decide, fun pP hpP => ?_⟩
  have hP1 : (upd H pP (.lst [.str "dial", .str "ebb", .str "f", .str "gate", .str "hop"])) pP = some (.lst [.str "dial", .str "ebb", .str "f", .str "gate", .str "hop"]) := upd_same
  have s1 : Same H (upd H pP (.lst [.str "dial", .str "ebb", .str "f", .str "gate", .str "hop"])) := Same.upd hpP
  have npP := hp.ne hpP
  have fP : H pP = none := hpP
  generalize upd H pP (.lst [.str "dial", .str "ebb", .str "f", .str "gate", .str "hop"]) = H1 at hP1 s1 ⊢
  refine ⟨by show 5 ≤ sizeLine; decide, fun pN hpN => ⟨_, _, rfl, ?_⟩⟩
  have hN1 : (upd H1 pN (.lst [.str "hop", .str "c", .str "ebb", .str "gate", .str "dial"])) pN = some (.lst [.str "hop", .str "c", .str "ebb", .str "gate", .str "dial"]) := upd_same
  have s2 : Same H1 (upd H1 pN (.lst [.str "hop", .str "c", .str "ebb", .str "gate", .str "dial"])) := Same.upd hpN
  have npN := (hp.same fun o e => s1 _ _ e).ne hpN
  have nPN := ne_of_none hP1 hpN
  have fN : H pN = none := s1.free hpN
  have hP2 := s2 _ _ hP1
  generalize upd H1 pN (.lst [.str "hop", .str "c", .str "ebb", .str "gate", .str "dial"]) = H2 at hN1 s2 hP2 ⊢
  have s02 := s1.trans s2
  have h2 := hp.same fun o e => s02 _ _ e
  clear hP1 s1 s2 hpP hpN
  refine ⟨by show 0 ≤ sizeLine; decide, fun pS hpS => ?_⟩
  have npS := h2.ne hpS
  have fS : H pS = none := s02.free hpS
  have nPS := ne_of_none hP2 hpS
  have nNS := ne_of_none hN1 hpS
  have hS3 : (upd H2 pS (.lst [])) pS = some (.lst []) := upd_same
  have s3 : Same H2 (upd H2 pS (.lst [])) := Same.upd hpS
  generalize upd H2 pS (.lst []) = H3 at hS3 s3 ⊢
  refine ⟨by show 0 ≤ sizeLine; decide, fun pF hpF => ?_⟩
  have s03 := s02.trans s3
  have h3 := hp.same fun o e => s03 _ _ e
  have npF := h3.ne hpF
  have fF : H pF = none := s03.free hpF
  have nPF := ne_of_none (s3 _ _ hP2) hpF
  have nNF := ne_of_none (s3 _ _ hN1) hpF
  have nSF := ne_of_none hS3 hpF
  have hF4 : (upd H3 pF (.lst [])) pF = some (.lst []) := upd_same
  have s4 : Same H3 (upd H3 pF (.lst [])) := Same.upd hpF
  generalize upd H3 pF (.lst []) = H4 at hF4 s4 ⊢
  refine ⟨by show 0 ≤ sizeLine; decide, fun pC hpC => ?_⟩
  have s24 := s3.trans s4
  have s04 := s03.trans s4
  have h4 := hp.same fun o e => s04 _ _ e
  have npC := h4.ne hpC
  have fC : H pC = none := s04.free hpC
  have nPC := ne_of_none (s24 _ _ hP2) hpC
  have nNC := ne_of_none (s24 _ _ hN1) hpC
  have nSC := ne_of_none (s4 _ _ hS3) hpC
  have nFC := ne_of_none hF4 hpC
  have hC5 : (upd H4 pC (.lst [])) pC = some (.lst []) := upd_same
  have s5 : Same H4 (upd H4 pC (.lst [])) := Same.upd hpC
  generalize upd H4 pC (.lst []) = H5 at hC5 s5 ⊢
  refine ⟨by show 3 ≤ sizeLine; decide, fun t0 ht0 => ⟨t0, _, rfl, SqT.of upd_same, rfl, _, _, rfl, _, _, rfl, _, _, rfl, rfl, ?_⟩⟩
  have s6 : Same H5 (upd H5 t0 (.tup [.ref pS, .ref pF, .ref pC])) := Same.upd ht0
  generalize upd H5 t0 (.tup [.ref pS, .ref pF, .ref pC]) = H6 at s6 ⊢
  have s26 := s24.trans (s5.trans s6)
  have s06 := s02.trans s26
  have h6 := hp.same fun o e => s06 _ _ e
  have hP6 := s26 _ _ hP2
  have hN6 := s26 _ _ hN1
  have hS6 := (s4.trans (s5.trans s6)) _ _ hS3
  have hF6 := (s5.trans s6) _ _ hF4
  have hC6 := s6 _ _ hC5
  clear hP2 hN1 hS3 hF4 hC5 s24 s26 s02 s03 s04 s3 s4 s5 s6 h2 h3 h4 hpS hpF hpC ht0
  -- the shapes
  refine ⟨_, rfl, _, rfl, p, 4, 0, rfl, h6, by omega, by omega, by omega, fun m hm Ha ba ha => ?_⟩
  refine ⟨_, _, rfl, rfl, _, rfl, by omega, by omega, ?_⟩
  have P0 : PopS Ha p pP pS [] ["dial", "ebb", "f", "gate", "hop"] (1 + 2 * 0) := ⟨ha, ba _ _ npP.symm hP6, ⟨[], ba _ _ npS.symm hS6, .nil⟩, by decide, fun x hx => (by
    have hx : x ∈ (["dial", "ebb", "f", "gate", "hop"] : List Str) := hx
    simp only [List.mem_cons, List.mem_singleton, List.not_mem_nil, or_false] at hx
    rcases hx with rfl | rfl | rfl | rfl | rfl
    · exact nm_dial
    · exact nm_ebb
    · exact nm_f
    · exact nm_gate
    · exact nm_hop), (fun e he => by cases he)⟩
  refine for_it (n := 1 + m) walk_range (fun i σ H' => (∃ p8, σ = [some (.ref p), some (.int 4), some (.int 2), some (.ref pP), some (.ref pN), some (.ref pS), some (.ref pF), some (.ref pC), p8, none, none, none, none, none, none]) ∧ ButL [p, pP, pS] H6 H' ∧ ∃ L pl, PopS H' p pP pS L pl (1 + 2 * i) ∧ L.length = i ∧ pl.length + i = 5)
    ⟨⟨_, rfl⟩, ba.butL (List.mem_cons_self ..), [], _, P0, rfl, rfl⟩ (fun _ _ _ _ _ => trivial) (fun i y σ Hn Hc hi q z => ?_) (fun σ Hb q => ?_)
  · obtain ⟨rfl, rfl⟩ := z
    obtain ⟨⟨p8, rfl⟩, bl, L, pl, PS, eL, ePl⟩ := q
    obtain ⟨rows, hr, pr⟩ := PS.rows
    have rL := pr.length
    have pLn : (pl.map V.str).length = pl.length := List.length_map ..
    refine ⟨_, rfl, .inl ⟨rfl, _, SqL.of hr⟩, _, rfl, .inl ⟨rfl, _, SqL.of PS.pool⟩, _, rfl, _, rfl, pP, _, rfl, .inl (SqL.of PS.pool), p, (pl.map V.str).length, _, rfl, PS.bag, by omega, by omega, by omega, fun d hd Hd bd hd1 => ?_⟩
    obtain ⟨x, hx⟩ : ∃ x, pl[d]? = some x := ⟨_, List.getElem?_eq_getElem (by omega)⟩
    have hPd := bd _ _ npP.symm PS.pool
    refine ⟨pP, _, (d : Nat), d, .str x, rfl, rfl, hPd, by omega, by omega, by rw [seqIndex_of (by omega) (by omega)]; rfl, by rw [List.getElem?_map, hx]; rfl, ?_⟩
    refine ⟨_, rfl, p, 3, _, rfl, hd1.same fun o e => by rw [upd_ne npP]; exact e, by omega, by omega, by omega, fun k hk He be he => ⟨by show 2 ≤ sizeLine; decide, fun t ht => ?_⟩⟩
    obtain ⟨PS', bu, hSe⟩ := PS.step (k := k) npP npS nPS hr bd hx be he (by omega) ht
    refine ⟨pS, rows, .ref t, rfl, rfl, (Same.upd ht) _ _ hSe, by omega, ⟨_, rfl⟩, bl.trans bu, _, _, PS', by rw [List.length_append, List.length_singleton]; omega, ?_⟩
    have := (erase_perm hx).length_eq
    rw [List.length_cons] at this
    omega
  obtain ⟨⟨p8, rfl⟩, bl, L, pl, PS, eL, ePl⟩ := q
  clear P0 ba ha Ha
  obtain ⟨rows, hr, pr⟩ := id PS.rows
  have n0 : p ∉ [pP, pS] ∧ pN ∉ [p, pP, pS] ∧ pF ∉ [p, pP, pS] ∧ pC ∉ [p, pP, pS] := by
    simp only [List.mem_cons, List.mem_singleton, List.not_mem_nil, or_false, not_or]
    exact ⟨⟨npP, npS⟩, ⟨npN.symm, nPN.symm, nNS⟩, ⟨npF.symm, nPF.symm, nSF.symm⟩, ⟨npC.symm, nPC.symm, nSC.symm⟩⟩
  have hNb := bl _ _ n0.2.1 hN6
  have hFb := bl _ _ n0.2.2.1 hF6
  have hCb := bl _ _ n0.2.2.2 hC6
  -- the forms
  refine ⟨_, rfl, _, rfl, _, _, rfl, rfl, p, 5, _, rfl, PS.bag, by omega, by omega, by omega, fun m2 hm2 Ha ba ha => ?_⟩
  refine ⟨_, rfl, by omega, by omega, ?_⟩
  have P0 : PopS Ha p pN pF [] ["hop", "c", "ebb", "gate", "dial"] (1 + 2 * (1 + m) + 1 + 2 * 0) := ⟨ha, ba _ _ npN.symm hNb, ⟨[], ba _ _ npF.symm hFb, .nil⟩, by decide, fun x hx => (by
    have hx : x ∈ (["hop", "c", "ebb", "gate", "dial"] : List Str) := hx
    simp only [List.mem_cons, List.mem_singleton, List.not_mem_nil, or_false] at hx
    rcases hx with rfl | rfl | rfl | rfl | rfl
    · exact nm_hop
    · exact nm_c
    · exact nm_ebb
    · exact nm_gate
    · exact nm_dial), (fun e he => by cases he)⟩
  refine for_it (n := m2) walk_range (fun i σ H' => (∃ p8, σ = [some (.ref p), some (.int 4), some (.int 2), some (.ref pP), some (.ref pN), some (.ref pS), some (.ref pF), some (.ref pC), p8, none, none, none, none, none, none]) ∧ ButL [p, pN, pF] Hb H' ∧ ∃ L pl, PopS H' p pN pF L pl (1 + 2 * (1 + m) + 1 + 2 * i) ∧ L.length = i ∧ pl.length + i = 5)
    ⟨⟨_, rfl⟩, ba.butL (List.mem_cons_self ..), [], _, P0, rfl, rfl⟩ (fun _ _ _ _ _ => trivial) (fun i y σ Hn Hc hi q z => ?_) (fun σ Hc q => ?_)
  · obtain ⟨rfl, rfl⟩ := z
    have PS1 := PS
    clear PS hr pr rows
    obtain ⟨⟨p8, rfl⟩, bl, L, pl, PS, eL, ePl⟩ := q
    obtain ⟨rows, hr, pr⟩ := PS.rows
    have rL := pr.length
    have pLn : (pl.map V.str).length = pl.length := List.length_map ..
    refine ⟨_, rfl, .inl ⟨rfl, _, SqL.of hr⟩, _, rfl, .inl ⟨rfl, _, SqL.of PS.pool⟩, _, rfl, _, rfl, pN, _, rfl, .inl (SqL.of PS.pool), p, (pl.map V.str).length, _, rfl, PS.bag, by omega, by omega, by omega, fun d hd Hd bd hd1 => ?_⟩
    obtain ⟨x, hx⟩ : ∃ x, pl[d]? = some x := ⟨_, List.getElem?_eq_getElem (by omega)⟩
    have hPd := bd _ _ npN.symm PS.pool
    refine ⟨pN, _, (d : Nat), d, .str x, rfl, rfl, hPd, by omega, by omega, by rw [seqIndex_of (by omega) (by omega)]; rfl, by rw [List.getElem?_map, hx]; rfl, ?_⟩
    refine ⟨_, rfl, _, rfl, _, _, rfl, rfl, p, 3, _, rfl, hd1.same fun o e => by rw [upd_ne npN]; exact e, by omega, by omega, by omega, fun k hk He be he => ⟨by show 2 ≤ sizeLine; decide, fun t ht => ?_⟩⟩
    obtain ⟨PS', bu, hSe⟩ := PS.step (k := k) npN npF nNF hr bd hx be he (by omega) ht
    refine ⟨pF, rows, .ref t, rfl, rfl, (Same.upd ht) _ _ hSe, by omega, ⟨_, rfl⟩, bl.trans bu, _, _, PS', by rw [List.length_append, List.length_singleton]; omega, ?_⟩
    have := (erase_perm hx).length_eq
    rw [List.length_cons] at this
    omega
  obtain ⟨⟨p9, rfl⟩, bl2, LF, pl2, PS2, eLF, ePl2⟩ := q
  clear P0 ba ha Ha
  have n1 : pS ∉ [p, pN, pF] ∧ pC ∉ [p, pN, pF] := by
    simp only [List.mem_cons, List.mem_singleton, List.not_mem_nil, or_false, not_or]
    exact ⟨⟨npS.symm, nNS.symm, nSF⟩, ⟨npC.symm, nNC.symm, nFC.symm⟩⟩
  have hSc := bl2 _ _ n1.1 hr
  have hCc := bl2 _ _ n1.2 hCb
  obtain ⟨rowsF, hrF, prF⟩ := id PS2.rows
  obtain ⟨bx, hbx⟩ := PS.bag.lst
  have lebc := bl2.le (by
    intro q hq
    simp only [List.mem_cons, List.mem_singleton, List.not_mem_nil, or_false] at hq
    rcases hq with rfl | rfl | rfl
    · exact ⟨_, hbx⟩
    · exact ⟨_, hNb⟩
    · exact ⟨_, hFb⟩)
  have prc := pr.le lebc
  have ndS : (L.map (·.1)).Nodup := (List.nodup_append.mp PS.nd).1
  have ndF : (LF.map (·.1)).Nodup := (List.nodup_append.mp PS2.nd).1
  have shS := prc.shl hSc ndS (fun e he => PS.nm _ (List.mem_append_left _ (List.mem_map.mpr ⟨e, he, rfl⟩))) PS.l2
  have shF := prF.shl hrF ndF (fun e he => PS2.nm _ (List.mem_append_left _ (List.mem_map.mpr ⟨e, he, rfl⟩))) PS2.l2
  have nmS : ∀ e ∈ L, NmOk e.1 := fun e he => PS.nm _ (List.mem_append_left _ (List.mem_map.mpr ⟨e, he, rfl⟩))
  have nmF : ∀ e ∈ LF, NmOk e.1 := fun e he => PS2.nm _ (List.mem_append_left _ (List.mem_map.mpr ⟨e, he, rfl⟩))
  have l2S := PS.l2
  have l2F := PS2.l2
  have hpc : BagV Hc p 20 := PS2.bag.mono (by omega)
  have rFl := prF.length
  have rSl := prc.length
  have seH : ∀ b o, b ≠ p → H b = some o → Hc b = some o := fun b o n e => by
    have e6 := s06 b o e
    have m1 := ne_of_none e fP
    have m2 := ne_of_none e fN
    have m3 := ne_of_none e fS
    have m4 := ne_of_none e fF
    refine bl2 b o ?_ (bl b o ?_ e6)
    · simp only [List.mem_cons, List.mem_singleton, List.not_mem_nil, or_false, not_or]; exact ⟨n, m2, m4⟩
    · simp only [List.mem_cons, List.mem_singleton, List.not_mem_nil, or_false, not_or]; exact ⟨n, m1, m3⟩
  clear PS PS2 pr hNb hFb hCb hr hP6 hN6 hS6 hF6 hC6 h6 lebc hbx bx n0 n1
  -- the cases
  refine ⟨_, rfl, pF, rowsF, rfl, SqL.of hrF, ?_⟩
  refine for_it walk_enum (fun i σ H' => (∃ p8 p9 p10 p11 p12, σ = [some (.ref p), some (.int 4), some (.int 2), some (.ref pP), some (.ref pN), some (.ref pS), some (.ref pF), some (.ref pC), p8, p9, p10, p11, p12, none, none]) ∧ ButL [p, pC] Hc H' ∧ BagV H' p (20 + 3001 * i) ∧ ∃ css, H' pC = some (.lst css) ∧ css.length = i ∧ ∀ (j : Nat) y, css[j]? = some y → CE (arF L) (arF LF) LF (L.map (·.1)) (LF.map (·.1)) j y H')
    ⟨⟨_, _, _, _, _, rfl⟩, ButL.refl _ _, hpc, [], hCc, rfl, fun j y h => by simp at h⟩ (fun i σ H' _ q => SqL.of (q.2.1 _ _ (by simp only [List.mem_cons, List.mem_singleton, List.not_mem_nil, or_false, not_or]; exact ⟨npF.symm, nFC⟩) hrF)) (fun i x σ Hd He hi q y => ?_) (fun σ Hd q => ?_)
  · obtain ⟨T0, u, v, rfl, hT0, rfl, eu, ev⟩ := y
    obtain ⟨⟨p8, p9, p10, p11, p12, rfl⟩, bd, hd0, css, hC, eC, aC⟩ := q
    cases eu
    obtain ⟨e, he, t1, rfl, ht1⟩ := paired_at prF ev
    have nin : ∀ {b : Addr}, b ≠ p → b ≠ pC → b ∉ [p, pC] := fun h1 h2 => by
      simp only [List.mem_cons, List.mem_singleton, List.not_mem_nil, or_false, not_or]; exact ⟨h1, h2⟩
    obtain ⟨bx, hbx⟩ := hpc.lst
    have lecd := bd.le (by
      intro q hq
      simp only [List.mem_cons, List.mem_singleton, List.not_mem_nil, or_false] at hq
      rcases hq with rfl | rfl
      · exact ⟨_, hbx⟩
      · exact ⟨_, hCc⟩)
    have hFd := bd _ _ (nin npF.symm nFC) hrF
    have hSd := bd _ _ (nin npS.symm nSC) hSc
    have sT := Same.upd (o := .tup [.int (i : Nat), .ref t1]) hT0
    have hT1 : (upd Hd T0 (.tup [.int (i : Nat), .ref t1])) T0 = some (.tup [.int (i : Nat), .ref t1]) := upd_same
    generalize upd Hd T0 (.tup [.int (i : Nat), .ref t1]) = He at sT hT1 ⊢
    have hte := sT _ _ (lecd _ (.tup _) trivial ht1)
    refine ⟨T0, _, rfl, SqT.of hT1, rfl, _, _, rfl, _, _, rfl, t1, _, rfl, SqT.of hte, rfl, _, _, rfl, _, _, rfl, rfl, rfl, ?_⟩
    refine ⟨by show 2 ≤ sizeLine; decide, fun t2 ht2 => ?_⟩
    have s2 := Same.upd (o := .tup [.str "back", .str "caught"]) ht2
    have ht22 : (upd He t2 (.tup [.str "back", .str "caught"])) t2 = some (.tup [.str "back", .str "caught"]) := upd_same
    generalize upd He t2 (.tup [.str "back", .str "caught"]) = H2 at s2 ht22 ⊢
    have sd2 := sT.trans s2
    have h2 := hd0.same fun o e => sd2 _ _ e
    refine ⟨_, rfl, p, 2, _, rfl, h2, by omega, by omega, by omega, fun d hd H4 b4 h4 => ?_⟩
    have ht24 := b4 _ _ (h2.lst.elim fun xs hx z => by rw [z, hx] at ht22; cases ht22) ht22
    obtain ⟨k, ek⟩ : ∃ k, atI [V.str "back", V.str "caught"] ((d : Nat) : Int) = some (.str (kindS k)) := by
      match d, hd with
      | 0, _ => exact ⟨true, rfl⟩
      | 1, _ => exact ⟨false, rfl⟩
    refine ⟨t2, _, _, _, rfl, rfl, SqT.of ht24, ek, ?_⟩
    have b04 : But p Hd H4 := (Same.but p sd2).trans b4
    have hC4 := b04 _ _ npC.symm hC
    have hF4 := b04 _ _ npF.symm hFd
    have hS4 := b04 _ _ npS.symm hSd
    have led4 := hd0.le b04
    have lec4 := lecd.trans led4
    refine ⟨_, rfl, .inl ⟨rfl, _, SqL.of hC4⟩, _, rfl, _, rfl, _, rfl, _, rfl, _, rfl, _, rfl, _, rfl, _, rfl, _, rfl, _, _, rfl, rfl, _, rfl, pF, rowsF, rfl, SqL.of hF4, fun pL hpL => ?_⟩
    have s5 := Same.upd (o := .lst (cutV rowsF (some ((i : Nat) + 1)) none)) hpL
    have hL5 : (upd H4 pL (.lst (cutV rowsF (some ((i : Nat) + 1)) none))) pL = some (.lst (rowsF.drop (i + 1))) := by
      rw [upd_same]
      exact congrArg (fun z => some (HO.lst z)) (cut_drop (xs := rowsF) (k := i + 1))
    generalize upd H4 pL (.lst (cutV rowsF (some ((i : Nat) + 1)) none)) = H5 at s5 hL5 ⊢
    have h5 := h4.same fun o e => s5 _ _ e
    have npL := h4.ne hpL
    have lec5 := lec4.trans (Same.le s5)
    obtain ⟨rF, eF, pF'⟩ := id shF
    rw [hrF] at eF; cases eF
    have e2 := l2F e (List.mem_of_getElem? he)
    refine ⟨p, pS, pL, arF L, arF LF, L.map (·.1), (LF.map (·.1)).drop (i + 1), k, e.2, _, rfl, h5, by omega, by omega, npS, npL, shS.keep lec5 fun o z => (by rw [hSc] at z; cases z; exact s5 _ _ hS4), by rw [List.length_map]; omega, ⟨_, hL5, Paired.mono (fun _ _ z => z.le lec5) (paired_drop (i + 1) pF')⟩, by rw [List.length_drop, List.length_map]; omega, fun bv H6 b6 h6 hb => ⟨by show 4 ≤ sizeLine; decide, fun t3 ht3 => ?_⟩⟩
    have hC6 := b6 _ _ npC.symm (s5 _ _ hC4)
    have nt3C := ne_of_none hC6 ht3
    have nt3p := h6.ne ht3
    refine ⟨pC, css, .ref t3, rfl, rfl, (Same.upd ht3) _ _ hC6, by omega, ⟨_, _, _, _, _, rfl⟩, bd.trans fun b o nb e0 => ?_, ?_, _, upd_same, by rw [List.length_append, List.length_singleton, eC], fun j y hj => ?_⟩
    · simp only [List.mem_cons, List.mem_singleton, List.not_mem_nil, or_false, not_or] at nb
      have e6 := b6 b o nb.1 (s5 _ _ (b04 b o nb.1 e0))
      rw [upd_ne nb.2, upd_ne (ne_of_none e6 ht3)]
      exact e6
    · exact (h6.mono (by omega)).same fun o e0 => by rw [upd_ne npC, upd_ne nt3p]; exact e0
    · have leF : Le H6 (upd (upd H6 t3 (.tup [.str e.1, .str (kindS k), .int (e.2 : Nat), bv])) pC (.lst (css ++ [.ref t3]))) := (Le.new ht3).trans (Le.upd ((Same.upd ht3) _ _ hC6) id)
      have le56 := h5.le b6
      rcases Nat.lt_or_ge j css.length with h | h
      · rw [List.getElem?_append_left h] at hj
        exact (aC j y hj).le (led4.trans ((Same.le s5).trans (le56.trans leF)))
      · rw [List.getElem?_append_right h] at hj
        have e0 : j - css.length = 0 := by
          rcases Nat.eq_zero_or_pos (j - css.length) with q | q
          · exact q
          · rw [List.getElem?_eq_none (by simp; omega)] at hj; cases hj
        rw [e0] at hj
        cases hj
        have ej : j = i := by omega
        subst ej
        obtain ⟨b, g1, g2, g3, g4, g5⟩ := hb
        exact ⟨e, k, b, t3, bv, he, rfl, by rw [upd_ne nt3C.symm]; exact upd_same, g1.le leF, g2, g3, g4, g5⟩
  obtain ⟨⟨p8, p9', p10, p11, p12, rfl⟩, bd, hd0, css, hC, eC, aC⟩ := q
  have nin : ∀ {b : Addr}, b ≠ p → b ≠ pC → b ∉ [p, pC] := fun h1 h2 => by
    simp only [List.mem_cons, List.mem_singleton, List.not_mem_nil, or_false, not_or]; exact ⟨h1, h2⟩
  obtain ⟨bx, hbx⟩ := hpc.lst
  have lecd := bd.le (by
    intro q hq
    simp only [List.mem_cons, List.mem_singleton, List.not_mem_nil, or_false] at hq
    rcases hq with rfl | rfl
    · exact ⟨_, hbx⟩
    · exact ⟨_, hCc⟩)
  have hFd := bd _ _ (nin npF.symm nFC) hrF
  have hSd := bd _ _ (nin npS.symm nSC) hSc
  have shSd := shS.keep lecd fun o z => by rw [hSc] at z; cases z; exact hSd
  have shFd := shF.keep lecd fun o z => by rw [hrF] at z; cases z; exact hFd
  have hd1 : BagV Hd p (12100 + 5700 * 0) := hd0.mono (by omega)
  have eB : bB 5 = 5660 := rfl
  refine ⟨_, rfl, pS, rfl, ⟨_, SqL.of hSd⟩, fun D hD => ?_⟩
  have nD := hd0.ne hD
  refine lc_mapI walk_list (by omega) (fun i H' => But p Hd H' ∧ BagV H' p (12100 + 5700 * i)) (fun j y H' => FE (arF L) (arF LF) L (L.map (fun e : Str × Nat => e.1)) (LF.map (fun e : Str × Nat => e.1)) j y H') ⟨(But.refl p Hd).upd_new hD, hd1.same fun o e => by rw [upd_ne nD]; exact e⟩ (fun _ H' q => SqL.of (q.1 _ _ npS.symm hSd))
    (fun i H' ws ws' e q => ⟨q.1.upd_new hD, q.2.same fun o e => by rw [upd_ne nD]; exact e⟩) (fun i y H' ws ws' e r => r.le (Le.upd e id)) (fun i x Ha Hb' Q' hi q hDa y kq => ?_) (fun Ha ys q hD' hl hr => ?_)
  · obtain ⟨rfl, hx⟩ := y
    obtain ⟨ws, hDa⟩ := hDa
    obtain ⟨e, he, t1, rfl, ht1⟩ := paired_at prc hx
    have leda := hd0.le q.1
    have hta := leda _ (.tup _) trivial (lecd _ (.tup _) trivial ht1)
    refine ⟨t1, _, rfl, SqT.of hta, rfl, _, _, rfl, _, _, rfl, rfl, rfl, ?_⟩
    refine ⟨_, rfl, _, rfl, _, rfl, by show 1 ≤ sizeLine; decide, fun u hu => ⟨_, rfl, _, rfl, _, rfl, ?_⟩⟩
    have npu := q.2.ne hu
    have hSa := q.1 _ _ npS.symm hSd
    have hFa := q.1 _ _ npF.symm hFd
    have nuS := (ne_of_none hSa hu).symm
    have nuF := (ne_of_none hFa hu).symm
    have nuD := (ne_of_none hDa hu).symm
    have su := Same.upd (o := .lst [.int 5]) hu
    have le2 := leda.trans (Same.le su)
    have e2 := l2S e (List.mem_of_getElem? he)
    refine ⟨p, u, pS, pF, arF L, arF LF, L.map (·.1), LF.map (·.1), 5, e.2, 12100 + 5700 * i, rfl, q.2.same fun o z => su _ _ z, by omega, upd_same, by omega, npu, npS, npF, nuS, nuF, shSd.keep le2 fun o z => by rw [hSd] at z; cases z; exact su _ _ hSa, by rw [List.length_map]; omega, shFd.keep le2 fun o z => by rw [hFd] at z; cases z; exact su _ _ hFa, by rw [List.length_map]; omega, fun bv H4 b4 h4 _ gb => ⟨by show 3 ≤ sizeLine; decide, fun t ht => ?_⟩⟩
    have nt := h4.ne ht
    have b4' : But p Hb' H4 := fun c o n z => b4 c o n (ne_of_none z hu) (su _ _ z)
    have le4 := q.2.le b4'
    have lt := Le.new (o := .tup [.str e.1, .int (e.2 : Nat), bv]) ht
    obtain ⟨b, g1, g2, g3, g4, g5⟩ := gb
    refine kq _ _ ⟨(q.1.trans b4').new ht, (h4.mono (by omega)).same fun o z => by rw [upd_ne nt]; exact z⟩ (fun ws z => (Same.upd ht) _ _ (b4' _ _ nD.symm z)) (fun j z r => r.le (le4.trans lt)) ⟨e, b, t, bv, he, rfl, upd_same, g1.le lt, g2, g3, g4, g5⟩
  have hFn : ∀ j : Nat, ∃ b : KM.Bd Str, ∀ y : V, ys[j]? = some y → ∃ (e : Str × Nat) (t : Addr) (bv : V), L[j]? = some e ∧ y = V.ref t ∧ Ha t = some (.tup [.str e.1, .int (e.2 : Nat), bv]) ∧ BdV (arF L) (arF LF) e.2 Ha b bv ∧ (∀ f ∈ b.calls, f ∈ L.map (·.1)) ∧ (∀ c ∈ b.pushes, c ∈ LF.map (·.1)) ∧ bdDep b ≤ 6 ∧ b.size + 1 ≤ 64 := fun j => by
    cases h : ys[j]? with
    | none => exact ⟨.leaf true, fun y z => by cases z⟩
    | some y =>
      obtain ⟨e, b, t, bv, r⟩ := hr j y h
      exact ⟨b, fun y' z => by cases z; exact ⟨e, t, bv, r⟩⟩
  have hCn : ∀ j : Nat, ∃ kb : Bool × KM.Bd Str, ∀ y : V, css[j]? = some y → ∃ (e : Str × Nat) (t : Addr) (bv : V), LF[j]? = some e ∧ y = V.ref t ∧ Hd t = some (.tup [.str e.1, .str (kindS kb.1), .int (e.2 : Nat), bv]) ∧ BdV (arF L) (arF LF) (e.2 + 1) Hd kb.2 bv ∧ (∀ f ∈ kb.2.calls, f ∈ L.map (·.1)) ∧ (∀ c ∈ kb.2.pushes, c ∈ (LF.map (·.1)).drop (j + 1)) ∧ bdDep kb.2 ≤ 5 ∧ kb.2.size + 1 ≤ 32 := fun j => by
    cases h : css[j]? with
    | none => exact ⟨(true, .leaf true), fun y z => by cases z⟩
    | some y =>
      obtain ⟨e, k, b, t, bv, r⟩ := aC j y h
      exact ⟨(k, b), fun y' z => by cases z; exact ⟨e, t, bv, r⟩⟩
  obtain ⟨fB, hB⟩ := Classical.skolem.mp hFn
  obtain ⟨fA, hA⟩ := Classical.skolem.mp hCn
  clear hFn hCn
  refine ⟨_, rfl, _, rfl, by show 2 ≤ sizeLine; decide, fun t ht => ?_⟩
  have st := Same.upd (o := .tup [.ref D, .ref pC]) ht
  have leda := hd0.le q.1
  have hC3 := st _ _ (q.1 _ _ npC.symm hC)
  have hD3 := st _ _ hD'
  have fdx : ∀ {j : Nat} {e : Str × Nat}, L[j]? = some e → ixF (L.map (·.1)) e.1 = j := fun h => ixF_at ndS (by rw [List.getElem?_map, h]; rfl)
  have cdx : ∀ {j : Nat} {e : Str × Nat}, LF[j]? = some e → ixF (LF.map (·.1)) e.1 = j := fun h => ixF_at ndF (by rw [List.getElem?_map, h]; rfl)
  have finf : ∀ x ∈ L.map (·.1), ∃ j e y, L[j]? = some e ∧ e.1 = x ∧ ys[j]? = some y ∧ ixF (L.map (·.1)) x = j := fun x hx => by
    obtain ⟨e, he, rfl⟩ := List.mem_map.mp hx
    obtain ⟨j, hj, ej⟩ := List.mem_iff_getElem.mp he
    have he' : L[j]? = some e := by rw [List.getElem?_eq_getElem hj, ej]
    exact ⟨j, e, ys[j]'(by omega), he', rfl, List.getElem?_eq_getElem (by omega), fdx he'⟩
  have cinf : ∀ x ∈ LF.map (·.1), ∃ j e y, LF[j]? = some e ∧ e.1 = x ∧ css[j]? = some y ∧ ixF (LF.map (·.1)) x = j := fun x hx => by
    obtain ⟨e, he, rfl⟩ := List.mem_map.mp hx
    obtain ⟨j, hj, ej⟩ := List.mem_iff_getElem.mp he
    have he' : LF[j]? = some e := by rw [List.getElem?_eq_getElem hj, ej]
    exact ⟨j, e, css[j]'(by omega), he', rfl, List.getElem?_eq_getElem (by omega), cdx he'⟩
  refine kk t _ (arF L) (arF LF) { fs := L.map (·.1), cs := LF.map (·.1), bd := fun x => fB (ixF (L.map (·.1)) x), kd := fun x => (fA (ixF (LF.map (·.1)) x)).1, am := fun x => (fA (ixF (LF.map (·.1)) x)).2, wt := fun _ => 0 }
    (fun b o n e => st _ _ (q.1 b o n (bd b o (nin n (ne_of_none e fC)) (seH b o n e)))) ⟨⟨ndS, ord_of ndF fun j c hc d hd => ?_, fun f hf g hg => ?_, fun f hf c hc => ?_, fun c hc g hg => ?_⟩, by show (L.map (·.1)).length ≤ 4; rw [List.length_map]; omega, by show (LF.map (·.1)).length ≤ 4; rw [List.length_map]; omega, fun z => ?_, arF_le l2F⟩
    ⟨D, pC, ys, css, upd_same, hD3, paired_of (by show (L.map (·.1)).length = _; rw [List.length_map]; omega) fun j x v h1 h2 => ?_, hC3, paired_of (by show (LF.map (·.1)).length = _; rw [List.length_map]; omega) fun j x v h1 h2 => ?_⟩
  · obtain ⟨e, he, rfl⟩ : ∃ e, LF[j]? = some e ∧ e.1 = c := by
      rw [List.getElem?_map] at hc
      exact Option.map_eq_some_iff.mp hc
    have hj := (List.getElem?_eq_some_iff.mp he).1
    obtain ⟨e', t', bv, h1, h2, h3, h4, h5, h6, h7⟩ := hA j _ (List.getElem?_eq_getElem (by omega))
    have hd : d ∈ (fA (ixF (LF.map (·.1)) e.1)).2.pushes := hd
    rw [cdx he] at hd
    exact h6 d hd
  · obtain ⟨j, e, y, he, rfl, hy, ix⟩ := finf f hf
    obtain ⟨e', t', bv, h1, h2, h3, h4, h5, h6, h7⟩ := hB j y hy
    have hg : g ∈ (fB (ixF (L.map (·.1)) e.1)).calls := hg
    rw [ix] at hg
    exact h5 g hg
  · obtain ⟨j, e, y, he, rfl, hy, ix⟩ := finf f hf
    obtain ⟨e', t', bv, h1, h2, h3, h4, h5, h6, h7⟩ := hB j y hy
    have hc : c ∈ (fB (ixF (L.map (·.1)) e.1)).pushes := hc
    rw [ix] at hc
    exact h6 c hc
  · obtain ⟨j, e, y, he, rfl, hy, ix⟩ := cinf c hc
    obtain ⟨e', t', bv, h1, h2, h3, h4, h5, h6, h7⟩ := hA j y hy
    have hg : g ∈ (fA (ixF (LF.map (·.1)) e.1)).2.calls := hg
    rw [ix] at hg
    exact h5 g hg
  · have z : L.map (·.1) = [] := z
    have := congrArg List.length z
    rw [List.length_map, List.length_nil] at this
    omega
  · obtain ⟨e', t', bv, g1, g2, g3, g4, g5, g6, g7, g8⟩ := hB j v h2
    rw [List.getElem?_map, g1] at h1
    cases h1
    have a1 := arF_at ndS g1
    have a2 := l2S e' (List.mem_of_getElem? g1)
    have eb : fB (ixF (L.map (·.1)) e'.1) = fB j := by rw [fdx g1]
    refine ⟨t', bv, g2, by rw [a1]; exact st _ _ g3, nmS e' (List.mem_of_getElem? g1), by rw [a1]; omega, ?_, ?_, ?_⟩
    · show BdV _ _ (arF L e'.1) _ (fB (ixF (L.map (·.1)) e'.1)) bv
      rw [a1, eb]; exact g4.le (Same.le st)
    · show (fB (ixF (L.map (·.1)) e'.1)).size ≤ 100
      rw [eb]; omega
    · show bdDep (fB (ixF (L.map (·.1)) e'.1)) ≤ 20
      rw [eb]; omega
  · obtain ⟨e', t', bv, g1, g2, g3, g4, g5, g6, g7, g8⟩ := hA j v h2
    rw [List.getElem?_map, g1] at h1
    cases h1
    have a1 := arF_at ndF g1
    have a2 := l2F e' (List.mem_of_getElem? g1)
    have eb : fA (ixF (LF.map (·.1)) e'.1) = fA j := by rw [cdx g1]
    have l3 := leda.trans (Same.le st)
    refine ⟨t', bv, g2, ?_, nmF e' (List.mem_of_getElem? g1), by rw [a1]; omega, ?_, ?_, ?_⟩
    · show _ = some (HO.tup [.str e'.1, .str (kindS (fA (ixF (LF.map (·.1)) e'.1)).1), .int (arF LF e'.1 : Nat), bv])
      rw [a1, eb]; exact l3 _ (.tup _) trivial g3
    · show BdV _ _ (arF LF e'.1 + 1) _ (fA (ixF (LF.map (·.1)) e'.1)).2 bv
      rw [a1, eb]; exact g4.le l3
    · show (fA (ixF (LF.map (·.1)) e'.1)).2.size ≤ 100
      rw [eb]; omega
    · show bdDep (fA (ixF (LF.map (·.1)) e'.1)).2 ≤ 20
      rw [eb]; omega
end
end K52

namespace K52
open PySem PySem.Spec PyProof.Rows L2
theorem isiK {X : Cx} {K : PySem.W.Frag} (h : X.K = K) : CallR X (.builtin "isinstance") (rIsi K) := by subst h; exact call_isi
section
variable {P : Program} {w : World} {K : PySem.W.Frag} {mg : Str → Option Value} {base : Heap}
def spPlusL : Sp := fun vs H Q _ => ∃ x y, ∃ a c : KM.OS, vs = [x, y] ∧ PsV H a x ∧ PsV H c y ∧ ∀ v H', Same H H' → PsV H' (KM.pl a c) v → Q v H'
theorem c_law_plus (T : Txt K mg) : Cal P w K mg base 1 "_law_plus" spPlusL := by
  refine cal_of T.d_law_plus sc_law_plus (fun _ _ _ _ _ _ us hl => match us, hl with | [_, _], _ => rfl) (fun vs H Q E h => ?_) (fun f cdv A outer s H vs Q E hr h => ?_)
  · obtain ⟨v, _, _, _, rfl, _⟩ := h; rfl
  obtain ⟨x, y, a, c, rfl, ha, hc, k⟩ := h
  have nd := sc_law_plus.nd
  refine ⟨_, (pss_cons (ps_if (PW.pt (pw_or (pt_cmpR op_isN (pv 0) pe_non (nomark _)) (pw_or (pt_cmpR op_isN (pv 1) pe_non (nomark _)) (pw_or1 (pt_cmpR op_gt (pe_op op_add (pe_ix ix_tup (pv 0) pe_int (fun _ _ => rfl)) (pe_ix ix_tup (pv 1) pe_int (fun _ _ => rfl))) pe_int (nomark _)))))) (pss_one (ps_ret pe_non)) pss_nil)
  (pss_one (ps_ret (pe_tup (pa_cons (pe_op op_add (pe_ix ix_tup (pv 0) pe_int (fun _ _ => rfl)) (pe_ix ix_tup (pv 1) pe_int (fun _ _ => rfl))) (pa_cons (pe_op op_catA (pe_ix ix_tup (pv 0) pe_int (fun _ _ => rfl)) (pe_ix ix_tup (pv 1) pe_int (fun _ _ => rfl))) pa_nil)))))), ?_⟩
  cases a with
  | none =>
    have e : x = .non := ha
    subst e
    exact ⟨_, rfl, rfl, _, rfl, dT rfl (iT rfl (k _ _ (Same.refl _) rfl))⟩
  | some a =>
    obtain ⟨p, t, rfl, hp, ht, h1, h2⟩ := id (show PrV H a x from ha)
    refine ⟨_, rfl, rfl, _, rfl, dF (fun z => nomatch z) ?_⟩
    cases c with
    | none =>
      have e : y = .non := hc
      subst e
      exact ⟨_, rfl, rfl, _, rfl, dT rfl (iT rfl (k _ _ (Same.refl _) rfl))⟩
    | some c =>
      obtain ⟨q, u, rfl, hq, hu, h3, h4⟩ := id (show PrV H c y from hc)
      refine ⟨_, rfl, rfl, _, rfl, dF (fun z => nomatch z) ?_⟩
      refine ⟨_, rfl, p, _, _, _, rfl, rfl, SqT.of hp, rfl, _, rfl, q, _, _, _, rfl, rfl, SqT.of hq, rfl, _, _, rfl, rfl, _, _, rfl, rfl, _, rfl, ?_⟩
      by_cases e : a.n + c.n > 1000
      · refine dT (by omega) (k _ _ (Same.refl _) ?_)
        show PsV _ (if a.n + c.n > 1000 then none else _) _
        rw [if_pos e]; rfl
      · refine dF (by omega) ?_
        refine ⟨_, rfl, p, _, _, _, rfl, rfl, SqT.of hp, rfl, _, rfl, q, _, _, _, rfl, rfl, SqT.of hq, rfl, _, _, rfl, rfl, _, rfl, p, _, _, _, rfl, rfl, SqT.of hp, rfl, _, rfl, q, _, _, _, rfl, rfl, SqT.of hq, rfl, ?_⟩
        refine ⟨t, u, _, _, rfl, rfl, SqT.of ht, SqT.of hu, ?_⟩
        have hz : 2000 ≤ sizeLine := by decide
        have fin : ∀ (r : Addr) (H1 : Hp), Same H H1 → H1 r = some (.tup ((a.b ++ c.b).map bV)) → 2 ≤ sizeLine ∧ ∀ l, H1 l = none → Q (.ref l) (upd H1 l (.tup [.int ((a.n : Nat) + (c.n : Nat)), .ref r])) := fun r H1 s1 hr => ⟨by decide, fun l hl => k _ _ (s1.trans (Same.upd hl)) (by
          show PsV _ (if a.n + c.n > 1000 then none else _) _
          rw [if_neg e]
          exact ⟨l, r, rfl, upd_same, (Same.upd hl) _ _ hr, by show (a.b ++ c.b).length ≤ a.n + c.n; rw [List.length_append]; omega, by show a.n + c.n ≤ 1000; omega⟩)⟩
        refine ⟨by rw [List.length_map, List.length_map]; omega, fun e1 => ?_, fun e1 e2 => ?_, fun e1 e2 r hr' => ?_⟩
        · have e' : a.b = [] := by simpa using e1
          exact fin u H (Same.refl _) (by rw [e']; exact hu)
        · have e' : c.b = [] := by simpa using e2
          exact fin t H (Same.refl _) (by rw [e', List.append_nil]; exact ht)
        · exact fin r _ (Same.upd hr') (by rw [List.map_append]; exact upd_same)
def spLessL : Sp := fun vs H Q _ => ∃ x y, ∃ a c : KM.OS, vs = [x, y] ∧ PsV H a x ∧ PsV H c y ∧ ∀ v, PsV H (KM.mn a c) v → Q v H
theorem c_law_less (T : Txt K mg) : Cal P w K mg base 1 "_law_less" spLessL := by
  refine cal_of T.d_law_less sc_law_less (fun _ _ _ _ _ _ us hl => match us, hl with | [_, _], _ => rfl) (fun vs H Q E h => ?_) (fun f cdv A outer s H vs Q E hr h => ?_)
  · obtain ⟨v, _, _, _, rfl, _⟩ := h; rfl
  obtain ⟨x, y, a, c, rfl, ha, hc, k⟩ := h
  have nd := sc_law_less.nd
  refine ⟨_, (pss_cons (ps_if (PW.pt (pw_or (pt_cmpR op_isN (pv 0) pe_non (nomark _)) (pw_or1 (PW.pt (pw_and (pt_cmpR op_notN (pv 1) pe_non (nomark _)) (pw_and1 (pt_cmpR (op_ltSc hr) (pv 1) (pv 0) (nomark _)))))))) (pss_one (ps_ret (pv 1))) pss_nil)
  (pss_one (ps_ret (pv 0)))), ?_⟩
  cases a with
  | none =>
    have e : x = .non := ha
    subst e
    exact ⟨_, rfl, rfl, _, rfl, dT rfl (iT rfl ⟨_, rfl, k _ hc⟩)⟩
  | some a =>
    obtain ⟨p, t, rfl, hp, ht, h1, h2⟩ := id (show PrV H a x from ha)
    refine ⟨_, rfl, rfl, _, rfl, dF (fun z => nomatch z) ?_⟩
    cases c with
    | none =>
      have e : y = .non := hc
      subst e
      refine ⟨_, rfl, rfl, _, rfl, ?_⟩
      refine iF rfl ⟨_, rfl, k _ ha⟩
    | some c =>
      obtain ⟨q, u, rfl, hq, hu, h3, h4⟩ := id (show PrV H c y from hc)
      refine ⟨_, rfl, rfl, _, rfl, ?_⟩
      refine iT rfl ⟨_, rfl, _, rfl, q, p, u, t, c, a, rfl, rfl, hq, hp, hu, ht, _, rfl, ?_⟩
      have em : KM.mn (some a) (some c) = if c.lt a = true then some c else some a := rfl
      cases e3 : c.lt a with
      | true =>
        rw [e3, if_pos rfl] at em
        exact iT rfl ⟨_, rfl, k _ (by rw [em]; exact hc)⟩
      | false =>
        rw [e3, if_neg (by decide)] at em
        exact iF rfl ⟨_, rfl, k _ (by rw [em]; exact ha)⟩
def spPairL (C : Addr) : Sp := fun vs H Q _ => ∃ x, ∃ a : KM.OS, vs = [x] ∧ OsV C H a x ∧ ∀ v H', Same H H' → PsV H' a v → Q v H'
theorem c_law_pair (T : Txt K mg) : Cal P w K mg base 1 "_law_pair" (spPairL (cS K)) := by
  refine cal_of T.d_law_pair sc_law_pair (fun _ _ _ _ _ _ us hl => match us, hl with | [_], _ => rfl) (fun vs H Q E h => ?_) (fun f cdv A outer s H vs Q E hr h => ?_)
  · obtain ⟨v, _, rfl, _⟩ := h; rfl
  obtain ⟨x, a, rfl, ha, k⟩ := h
  have nd := sc_law_pair.nd
  refine ⟨_, (pss_cons (ps_if (pt_cmpR op_isN (pv 0) pe_non (nomark _)) (pss_one (ps_ret pe_non)) pss_nil)
  (pss_cons (ps_if (PW.pt (pw_or (pt_not (pt_val (pe_callB call_isi (by rfl) T.b_isinstance (by decide +kernel) (pa_cons (pv 0) (pa_cons (pe_glob (v := .ref _) rfl T.g_Script rfl) pa_nil))))) (pw_or1 (pt_not (pt_val (pe_callB call_isi (by rfl) T.b_isinstance (by decide +kernel) (pa_cons (pe_fld (pv 0) rfl) (pa_cons (pe_bltn (v := .ty "tuple") (by rfl) T.b_tuple (by decide +kernel) rfl) pa_nil)))))))) (pss_one (ps_ret pe_bl)) pss_nil)
  (pss_cons (ps_if (pt_not (pt_val (pe_callB (cr_all rfl) (by rfl) T.b_all (by decide +kernel) (pa_cons (pe_lc (own := [("_law_one", 1)]) rfl nd (pi_tup (pe_op op_catA (pe_tup (pa_cons (pe_fld (pv 0) rfl) pa_nil)) (pe_fld (pv 0) rfl))) (blkOk_by (N := N_law_pair) (sc := defScope s_law_pair) (by decide +kernel)) (fun _ _ _ _ _ => (pg_name (i := 1) nd rfl (Or.inl rfl))) (fun _ _ _ _ _ => pts_nil) (fun _ _ _ _ _ => (pe_and (pe_callB (isiK (K := K) rfl) (by rfl) T.b_isinstance (by decide +kernel) (pa_cons (pv 1) (pa_cons (pe_bltn (v := .ty "int") (by rfl) T.b_int (by decide +kernel) rfl) pa_nil))) (pe_one (pe_not (pe_callB (isiK (K := K) rfl) (by rfl) T.b_isinstance (by decide +kernel) (pa_cons (pv 1) (pa_cons (pe_bltn (v := .ty "bool") (by rfl) T.b_bool (by decide +kernel) rfl) pa_nil)))))))) pa_nil)))) (pss_one (ps_ret pe_bl)) pss_nil)
  (pss_one (ps_ret (pe_tup (pa_cons (pe_fld (pv 0) rfl) (pa_cons (pe_fld (pv 0) rfl) pa_nil)))))))), ?_⟩
  cases a with
  | none =>
    have e : x = .non := ha
    subst e
    exact ⟨_, rfl, rfl, _, rfl, dT rfl (k _ _ (Same.refl _) rfl)⟩
  | some a =>
    obtain ⟨p, dx, t, rfl, hp, ht, h1, h2⟩ := id (show ScV _ H a x from ha)
    refine ⟨_, rfl, rfl, _, rfl, dF (fun z => nomatch z) ?_⟩
    refine ⟨_, rfl, _, _, _, _, true, rfl, .own _, .base (ty_ins T hp), T.kiS, true, rfl, ?_⟩
    refine iF rfl ?_
    refine ⟨_, rfl, p, _, dx, _, _, rfl, hp, T.clsS, T.noS2, rfl, _, _, _, _, true, rfl, .ty _, .base (.tup ht), kit_ty (by decide +kernel),  true, rfl, iF rfl ?_⟩
    have hz : 2000 ≤ sizeLine := by decide
    refine ⟨_, rfl, p, _, dx, _, _, rfl, hp, T.clsS, T.noS1, rfl, by show 1 ≤ sizeLine; decide, fun u hu0 => ?_⟩
    have s1 := Same.upd (o := .tup [.int (a.n : Nat)]) hu0
    have hu : (upd H u (.tup [.int (a.n : Nat)])) u = some (.tup [.int (a.n : Nat)]) := upd_same
    generalize upd H u (.tup [.int (a.n : Nat)]) = H1 at s1 hu ⊢
    refine ⟨_, rfl, p, _, dx, _, _, rfl, s1 _ _ hp, T.clsS, T.noS2, rfl, u, t, _, _, rfl, rfl, SqT.of hu, SqT.of (s1 _ _ ht), by rw [List.length_map]; show 1 + _ ≤ _; omega, (fun e => by cases e), fun _ e => ?_, fun _ _ l hl1 => ?_⟩
    · have hIn : ∀ (i : Nat) (x : V), [V.int (a.n : Nat)][i]? = some x → ∃ n, x = .int n := fun i x h => by
        match i, h with
        | 0, h => cases h; exact ⟨_, rfl⟩
      refine ⟨u, rfl, ⟨_, SqT.of hu⟩, fun D hD => ?_⟩
      refine lc_map walk_tup hD (fun H' s => SqT.of (s _ _ hu)) (by simp; omega) (fun _ y _ => y = .bl true) (fun _ _ _ _ _ _ _ q => q) (fun i H x H' _ y => by rw [y.1]; exact Same.refl _) (fun i x' Ha Hb Q' hi sa y kq => ?_) (fun Ha ys sa hd hl hr => ?_)
      · obtain ⟨rfl, hx⟩ := y
        obtain ⟨n, rfl⟩ := hIn _ _ hx
        exact ⟨rfl, _, rfl, _, _, _, _, true, rfl, .ty _, .base (.int n), kit_ty (by decide +kernel),  true, rfl, iT rfl ⟨_, rfl, _, _, _, _, false, rfl, .ty _, .base (.int n), kit_ty (by decide +kernel),  false, rfl, kq _ _ (Same.refl _) rfl⟩⟩
      · have e := all_true hr
        refine ⟨D, _, rfl, SqL.of (e ▸ hd), ?_⟩
        rw [all_rep]
        refine ⟨true, rfl, iF rfl ?_⟩
        have sA := s1.trans sa
        exact ⟨_, rfl, p, _, dx, _, _, rfl, sA _ _ hp, T.clsS, T.noS1, rfl, _, rfl, p, _, dx, _, _, rfl, sA _ _ hp, T.clsS, T.noS2, rfl, by show 2 ≤ sizeLine; decide, fun l3 hl3 => k _ _ (sA.trans (Same.upd hl3)) ⟨l3, t, rfl, upd_same, (Same.upd hl3) _ _ (sA _ _ ht), h1, h2⟩⟩
    · have hIn : ∀ (i : Nat) (x : V), ([V.int (a.n : Nat)] ++ a.b.map bV)[i]? = some x → ∃ n, x = .int n := fun i x h => by
        rcases List.mem_append.mp (List.mem_of_getElem? h) with m | m
        · exact ⟨_, List.mem_singleton.mp m⟩
        · obtain ⟨b, _, rfl⟩ := List.mem_map.mp m
          exact ⟨_, rfl⟩
      have s2 := s1.trans (Same.upd (o := .tup ([V.int (a.n : Nat)] ++ a.b.map bV)) hl1)
      have hl0 : (upd H1 l (.tup ([V.int (a.n : Nat)] ++ a.b.map bV))) l = some (.tup ([V.int (a.n : Nat)] ++ a.b.map bV)) := upd_same
      generalize upd H1 l (.tup ([V.int (a.n : Nat)] ++ a.b.map bV)) = H2 at s2 hl0 ⊢
      refine ⟨l, rfl, ⟨_, SqT.of hl0⟩, fun D hD => ?_⟩
      refine lc_map walk_tup hD (fun H' s => SqT.of (s _ _ hl0)) (by simp; omega) (fun _ y _ => y = .bl true) (fun _ _ _ _ _ _ _ q => q) (fun i H x H' _ y => by rw [y.1]; exact Same.refl _) (fun i x' Ha Hb Q' hi sa y kq => ?_) (fun Ha ys sa hd hl hr => ?_)
      · obtain ⟨rfl, hx⟩ := y
        obtain ⟨n, rfl⟩ := hIn _ _ hx
        exact ⟨rfl, _, rfl, _, _, _, _, true, rfl, .ty _, .base (.int n), kit_ty (by decide +kernel),  true, rfl, iT rfl ⟨_, rfl, _, _, _, _, false, rfl, .ty _, .base (.int n), kit_ty (by decide +kernel),  false, rfl, kq _ _ (Same.refl _) rfl⟩⟩
      · have e := all_true hr
        refine ⟨D, _, rfl, SqL.of (e ▸ hd), ?_⟩
        rw [all_rep]
        refine ⟨true, rfl, iF rfl ?_⟩
        have sA := s2.trans sa
        exact ⟨_, rfl, p, _, dx, _, _, rfl, sA _ _ hp, T.clsS, T.noS1, rfl, _, rfl, p, _, dx, _, _, rfl, sA _ _ hp, T.clsS, T.noS2, rfl, by show 2 ≤ sizeLine; decide, fun l3 hl3 => k _ _ (sA.trans (Same.upd hl3)) ⟨l3, t, rfl, upd_same, (Same.upd hl3) _ _ (sA _ _ ht), h1, h2⟩⟩

end
end K52

namespace K52
open PySem PySem.Spec PyProof.Rows L2
theorem mkP1 {σ : L2.St} {H : Hp} {Q : VK} (b : Bool) (k : ∀ v H', Same H H' → PsV H' (KM.bitS b) v → Q v H') : tTup (tCons (tC (.int 1)) (tCons (tTup (tCons (tC (.int (bI b))) tNil)) tNil)) σ H Q :=
  ⟨by show 1 ≤ sizeLine; decide, fun t ht => ⟨by show 2 ≤ sizeLine; decide, fun u hu => k _ _ ((Same.upd ht).trans (Same.upd hu)) ⟨u, t, rfl, upd_same, (Same.upd hu) _ _ upd_same, by show 1 ≤ 1; decide, by show 1 ≤ 1000; decide⟩⟩⟩
theorem mkP0 {σ : L2.St} {H : Hp} {Q : VK} {n : Nat} (hn : n ≤ 1000) (k : ∀ v H', Same H H' → PsV H' (some ⟨n, []⟩) v → Q v H') : tTup (tCons (tC (.int (n : Nat))) (tCons (tTup tNil) tNil)) σ H Q :=
  ⟨by show 0 ≤ sizeLine; decide, fun t ht => ⟨by show 2 ≤ sizeLine; decide, fun u hu => k _ _ ((Same.upd ht).trans (Same.upd hu)) ⟨u, t, rfl, upd_same, (Same.upd hu) _ _ upd_same, Nat.zero_le _, hn⟩⟩⟩
theorem one_at {H : Hp} {t u : Addr} (h0 : H t = none) (h1 : (upd H t (.tup [])) u = none) : Same H (upd (upd H t (.tup [])) u (.tup [.int 1, .ref t])) ∧ PsV (upd (upd H t (.tup [])) u (.tup [.int 1, .ref t])) KM.one (.ref u) :=
  ⟨(Same.upd h0).trans (Same.upd h1), u, t, rfl, upd_same, (Same.upd h1) _ _ upd_same, Nat.zero_le _, by show 1 ≤ 1000; decide⟩
theorem bit_at {H : Hp} {t u : Addr} (b : Bool) (h0 : H t = none) (h1 : (upd H t (.tup [.int (bI b)])) u = none) : Same H (upd (upd H t (.tup [.int (bI b)])) u (.tup [.int 1, .ref t])) ∧ PsV (upd (upd H t (.tup [.int (bI b)])) u (.tup [.int 1, .ref t])) (KM.bitS b) (.ref u) :=
  ⟨(Same.upd h0).trans (Same.upd h1), u, t, rfl, upd_same, (Same.upd h1) _ _ upd_same, by show 1 ≤ 1; decide, by show 1 ≤ 1000; decide⟩
theorem bit1_at {H : Hp} {t u : Addr} (h0 : H t = none) (h1 : (upd H t (.tup [.int 1])) u = none) : Same H (upd (upd H t (.tup [.int 1])) u (.tup [.int 1, .ref t])) ∧ PsV (upd (upd H t (.tup [.int 1])) u (.tup [.int 1, .ref t])) (KM.bitS true) (.ref u) := bit_at true h0 h1
theorem bit0_at {H : Hp} {t u : Addr} (h0 : H t = none) (h1 : (upd H t (.tup [.int 0])) u = none) : Same H (upd (upd H t (.tup [.int 0])) u (.tup [.int 1, .ref t])) ∧ PsV (upd (upd H t (.tup [.int 0])) u (.tup [.int 1, .ref t])) (KM.bitS false) (.ref u) := bit_at false h0 h1
theorem rle_p2 : RLe P2V := fun _ _ _ _ l h => h.le l
section
variable {P : Program} {w : World} {K : PySem.W.Frag} {mg : Str → Option Value} {base : Heap}
theorem lend_step (T : Txt K mg) {n k : Nat} (hk6 : 1 ≤ k) (c__law_ends : Cal P w K mg base k "_law_ends" (spEnds P2V KM.lend n)) : Cal P w K mg base (k + 1) "_law_ends" (spEnds P2V KM.lend (n + 1)) := by
  have c__law_plus := c_law_plus (P := P) (w := w) (base := base) T
  have c__law_less := c_law_less (P := P) (w := w) (base := base) T
  refine cal_of T.d_law_ends sc_law_ends (fun _ _ _ _ _ _ us hl => match us, hl with | [_, _, _], _ => rfl) (fun vs H Q E h => spEnds_len h) (fun f cdv A outer s H vs Q E hr h => ?_)
  obtain ⟨v, aF, aA, af, ac, sl, b, fs, cs, F, Ar, rfl, hb, hn, hF, hA, hcf, hcp, kk⟩ := h
  have nd := sc_law_ends.nd
  have hu := hu_of hr
  refine ⟨_, (pss_cons (ps_set (i := 3) nd rfl (Or.inl rfl) (pe_ix ix_tup (pv 0) pe_int (fun _ _ => rfl)))
  (pss_cons (ps_if (pt_cmpR op_eq (pv 3) pe_str (nomark _)) (pss_cons (ps_asg (pe_tup (pa_cons (pe_c c__law_ends hr (by omega) rfl (pa_cons (pe_ix ix_tup (pv 0) pe_int (fun _ _ => rfl)) (pa_cons (pv 1) (pa_cons (pv 2) pa_nil)))) (pa_cons (pe_c c__law_ends hr (by omega) rfl (pa_cons (pe_ix ix_tup (pv 0) pe_int (fun _ _ => rfl)) (pa_cons (pv 1) (pa_cons (pv 2) pa_nil)))) pa_nil))) (pg_tup (by rfl) (pgs_cons (pg_name (i := 4) nd rfl (Or.inr rfl)) (pgs_cons (pg_name (i := 5) nd rfl (Or.inr rfl)) pgs_nil))))
  (pss_cons (ps_setLc (i := 6) (own := [("_law_k", 13)]) rfl nd rfl rfl (sw_true rfl rfl rfl (by decide +kernel)) (pi_tup (pe_tup (pa_cons pe_int (pa_cons pe_int pa_nil)))) (blkOk_by (N := N_law_ends) (sc := defScope s_law_ends) (by decide +kernel)) (fun _ _ _ _ _ => (pg_name (i := 13) nd rfl (Or.inl rfl))) (fun _ _ _ _ _ => pts_nil) (fun _ _ _ _ _ => (pe_c c__law_less hr (by omega) rfl (pa_cons (pe_c c__law_plus hr (by omega) rfl (pa_cons (pe_tup (pa_cons pe_int (pa_cons (pe_tup (pa_cons pe_int pa_nil)) pa_nil))) (pa_cons (pe_ix (ixK (K := K) rfl ix_tup) (pv 4) (pv 13) (fun _ _ => rfl)) pa_nil))) (pa_cons (pe_c c__law_plus hr (by omega) rfl (pa_cons (pe_tup (pa_cons pe_int (pa_cons (pe_tup (pa_cons pe_int pa_nil)) pa_nil))) (pa_cons (pe_ix (ixK (K := K) rfl ix_tup) (pv 5) (pv 13) (fun _ _ => rfl)) pa_nil))) pa_nil)))))
  (pss_one (ps_ret (pe_tup (pa_cons (pe_ix ix_list (pv 6) pe_int (fun _ _ => rfl)) (pa_cons (pe_ix ix_list (pv 6) pe_int (fun _ _ => rfl)) pa_nil))))))) pss_nil)
  (pss_cons (ps_if (pt_cmpR op_eq (pv 3) pe_str (nomark _)) (pss_one (ps_ret (pe_tup (pa_cons (pe_c c__law_plus hr (by omega) rfl (pa_cons (pe_tup (pa_cons pe_int (pa_cons (pe_tup pa_nil) pa_nil))) (pa_cons (pe_ix ix_tup (pe_dget hu (pv 1) (pe_ix ix_tup (pv 0) pe_int (fun _ _ => rfl)) (fun _ _ => rfl)) pe_int (fun _ _ => rfl)) pa_nil))) (pa_cons (pe_c c__law_plus hr (by omega) rfl (pa_cons (pe_tup (pa_cons pe_int (pa_cons (pe_tup pa_nil) pa_nil))) (pa_cons (pe_ix ix_tup (pe_dget hu (pv 1) (pe_ix ix_tup (pv 0) pe_int (fun _ _ => rfl)) (fun _ _ => rfl)) pe_int (fun _ _ => rfl)) pa_nil))) pa_nil))))) pss_nil)
  (pss_cons (ps_if (pt_cmpR op_ne (pv 3) pe_str (nomark _)) (pss_one (ps_ret (pe_ifExp (pt_cmpR op_eq (pv 3) pe_str (nomark _)) (pe_tup (pa_cons pe_non (pa_cons (pe_tup (pa_cons pe_int (pa_cons (pe_tup pa_nil) pa_nil))) pa_nil))) (pe_tup (pa_cons (pe_tup (pa_cons pe_int (pa_cons (pe_tup pa_nil) pa_nil))) (pa_cons pe_non pa_nil)))))) pss_nil)
  (pss_cons (ps_set (i := 7) nd rfl (Or.inr rfl) (pe_lc (own := [("_law_way", 12)]) rfl nd (pi_tup (pe_c c__law_ends hr (by omega) rfl (pa_cons (pe_ix ix_tup (pv 0) pe_int (fun _ _ => rfl)) (pa_cons (pv 1) (pa_cons (pv 2) pa_nil))))) (blkOk_by (N := N_law_ends) (sc := defScope s_law_ends) (by decide +kernel)) (fun _ _ _ _ _ => (pg_name (i := 12) nd rfl (Or.inl rfl))) (fun _ _ _ _ _ => pts_nil) (fun _ _ _ _ _ => (pe_c c__law_plus hr (by omega) rfl (pa_cons (pe_tup (pa_cons pe_int (pa_cons (pe_tup pa_nil) pa_nil))) (pa_cons (pv 12) pa_nil))))))
  (pss_cons (ps_asg (pe_dget hu (pv 2) (pe_ix ix_tup (pv 0) pe_int (fun _ _ => rfl)) (fun _ _ => rfl)) (pg_tup (by rfl) (pgs_cons (pg_name (i := 8) nd rfl (Or.inl rfl)) (pgs_cons (pg_name (i := 9) nd rfl (Or.inl rfl)) pgs_nil))))
  (pss_cons (ps_set (i := 10) nd rfl (Or.inr rfl) (pe_ifExp (pt_cmpR op_eq (pv 8) pe_str (nomark _)) pe_int pe_int))
  (pss_cons (ps_setLc (i := 11) (own := [("_law_way", 12)]) rfl nd rfl rfl (sw_true rfl rfl rfl (by decide +kernel)) (pi_tup (pv 9)) (blkOk_by (N := N_law_ends) (sc := defScope s_law_ends) (by decide +kernel)) (fun _ _ _ _ _ => (pg_name (i := 12) nd rfl (Or.inl rfl))) (fun _ _ _ _ _ => pts_nil) (fun _ _ _ _ _ => (pe_c c__law_plus hr (by omega) rfl (pa_cons (pe_c c__law_plus hr (by omega) rfl (pa_cons (pe_ix (ixK (K := K) rfl ix_list) (pv 7) (pv 10) (fun _ _ => rfl)) (pa_cons (pe_tup (pa_cons pe_int (pa_cons (pe_tup pa_nil) pa_nil))) pa_nil))) (pa_cons (pv 12) pa_nil)))))
  (pss_cons (ps_asg (pe_c c__law_less hr (by omega) rfl (pa_cons (pe_ix ix_list (pv 11) (pe_op op_sub pe_int (pv 10)) (fun _ _ => rfl)) (pa_cons (pe_ix ix_list (pv 7) (pe_op op_sub pe_int (pv 10)) (fun _ _ => rfl)) pa_nil))) (pg_sub (pv 11) (pe_op op_sub pe_int (pv 10)) set_list))
  (pss_one (ps_ret (pe_tup (pa_cons (pe_ix ix_list (pv 11) pe_int (fun _ _ => rfl)) (pa_cons (pe_ix ix_list (pv 11) pe_int (fun _ _ => rfl)) pa_nil)))))))))))))), ?_⟩
  have leaf : ∀ (r : Bool) (H' : Hp) (t : Addr) (x : V), Same H H' → PsV H' KM.one x → H' t = some (.tup (if r then [.non, x] else [x, .non])) → b = .leaf r → Q (.ref t) H' := fun r H' t x s hx h e => kk _ _ s (by
    subst e
    cases r
    · exact ⟨t, x, .non, rfl, h, hx, rfl⟩
    · exact ⟨t, .non, x, rfl, h, rfl, hx⟩)
  cases hb with
  | @ret p x hp ha =>
    refine ⟨_, rfl, p, _, _, _, rfl, rfl, SqT.of hp, rfl, ?_⟩
    refine ⟨_, rfl, rfl, _, rfl, dF (by decide) ?_⟩
    refine ⟨_, rfl, rfl, _, rfl, dF (by decide) ?_⟩
    refine ⟨_, rfl, rfl, _, rfl, iT (by decide) ?_⟩
    refine ⟨_, rfl, rfl, _, rfl, dF (by decide) ⟨by show 0 ≤ sizeLine; decide, fun t0 h0 => ⟨by show 2 ≤ sizeLine; decide, fun u0 hu0 => ?_⟩⟩⟩
    obtain ⟨s1, ho⟩ := one_at h0 hu0
    generalize upd (upd H t0 (.tup [])) u0 (.tup [.int 1, .ref t0]) = H1 at s1 ho ⊢
    exact ⟨by show 2 ≤ sizeLine; decide, fun t ht => leaf false _ t _ (s1.trans (Same.upd ht)) (PsV.le (s := KM.one) (Le.new ht) ho) (by rw [upd_same]; rfl) rfl⟩
  | @rai p x hp ha =>
    refine ⟨_, rfl, p, _, _, _, rfl, rfl, SqT.of hp, rfl, ?_⟩
    refine ⟨_, rfl, rfl, _, rfl, dF (by decide) ?_⟩
    refine ⟨_, rfl, rfl, _, rfl, dF (by decide) ?_⟩
    refine ⟨_, rfl, rfl, _, rfl, iT (by decide) ?_⟩
    refine ⟨_, rfl, rfl, _, rfl, dT (by decide) ⟨by show 0 ≤ sizeLine; decide, fun t0 h0 => ⟨by show 2 ≤ sizeLine; decide, fun u0 hu0 => ?_⟩⟩⟩
    obtain ⟨s1, ho⟩ := one_at h0 hu0
    generalize upd (upd H t0 (.tup [])) u0 (.tup [.int 1, .ref t0]) = H1 at s1 ho ⊢
    exact ⟨by show 2 ≤ sizeLine; decide, fun t ht => leaf true _ t _ (s1.trans (Same.upd ht)) (PsV.le (s := KM.one) (Le.new ht) ho) (by rw [upd_same]; rfl) rfl⟩
  | @ask p nm q m n1 n2 hp ha =>
    refine ⟨_, rfl, p, _, _, _, rfl, rfl, SqT.of hp, rfl, ?_⟩
    refine ⟨_, rfl, rfl, _, rfl, dF (by decide) ?_⟩
    refine ⟨_, rfl, rfl, _, rfl, dF (by decide) ?_⟩
    refine ⟨_, rfl, rfl, _, rfl, iT (by decide) ?_⟩
    refine ⟨_, rfl, rfl, _, rfl, dF (by decide) ⟨by show 0 ≤ sizeLine; decide, fun t0 h0 => ⟨by show 2 ≤ sizeLine; decide, fun u0 hu0 => ?_⟩⟩⟩
    obtain ⟨s1, ho⟩ := one_at h0 hu0
    generalize upd (upd H t0 (.tup [])) u0 (.tup [.int 1, .ref t0]) = H1 at s1 ho ⊢
    exact ⟨by show 2 ≤ sizeLine; decide, fun t ht => leaf false _ t _ (s1.trans (Same.upd ht)) (PsV.le (s := KM.one) (Le.new ht) ho) (by rw [upd_same]; rfl) rfl⟩
  | @call p g q n1 n2 hp ha =>
    refine ⟨_, rfl, p, _, _, _, rfl, rfl, SqT.of hp, rfl, ?_⟩
    refine ⟨_, rfl, rfl, _, rfl, dF (by decide) ?_⟩
    refine ⟨_, rfl, rfl, _, rfl, dT (by decide) ?_⟩
    refine ⟨by show 0 ≤ sizeLine; decide, fun t0 h0 => ⟨by show 2 ≤ sizeLine; decide, fun u0 hu0 => ?_⟩⟩
    obtain ⟨s1, ho⟩ := one_at h0 hu0
    generalize upd (upd H t0 (.tup [])) u0 (.tup [.int 1, .ref t0]) = H1 at s1 ho ⊢
    obtain ⟨u, gu, ⟨t, x, y, rfl, ht, hx, hy⟩⟩ := (hF.same rle_p2 s1).get (hcf g (by simp [KM.Bd.calls]))
    refine ⟨_, rfl, _, rfl, p, _, _, _, rfl, rfl, SqT.of (s1 _ _ hp), rfl, aF, _, rfl, gu, t, _, _, _, rfl, rfl, SqT.of ht, rfl, .ref u0, x, KM.one, _, rfl, ho, hx, fun v1 H2 s2 hv1 => ?_⟩
    refine ⟨by show 0 ≤ sizeLine; decide, fun t3 h3 => ⟨by show 2 ≤ sizeLine; decide, fun u3 hu3 => ?_⟩⟩
    obtain ⟨s3, ho3⟩ := one_at h3 hu3
    generalize upd (upd H2 t3 (.tup [])) u3 (.tup [.int 1, .ref t3]) = H3 at s3 ho3 ⊢
    have s13 := s2.trans s3
    obtain ⟨u', gu', ⟨t', x', y', rfl, ht', hx', hy'⟩⟩ := (hF.same rle_p2 (s1.trans s13)).get (hcf g (by simp [KM.Bd.calls]))
    refine ⟨_, rfl, _, rfl, p, _, _, _, rfl, rfl, SqT.of ((s1.trans s13) _ _ hp), rfl, aF, _, rfl, gu', t', _, _, _, rfl, rfl, SqT.of ht', rfl, .ref u3, y', KM.one, _, rfl, ho3, hy', fun v2 H4 s4 hv2 => ?_⟩
    refine ⟨by show 2 ≤ sizeLine; decide, fun r hr' => ?_⟩
    have s5 := Same.upd (o := .tup [v1, v2]) hr'
    exact kk _ _ (s1.trans (s13.trans (s4.trans s5))) ⟨r, v1, v2, rfl, upd_same, hv1.le (Same.le (s3.trans (s4.trans s5))), hv2.le (Same.le s5)⟩
  | @test p nm q m y z b1 b2 n1 n2 hp ha h1 h2 =>
    have hn' : max (bdDep b1) (bdDep b2) + 1 ≤ n + 1 := hn
    refine ⟨_, rfl, p, _, _, _, rfl, rfl, SqT.of hp, rfl, ?_⟩
    refine ⟨_, rfl, rfl, _, rfl, dT (by decide) ?_⟩
    refine ⟨_, rfl, p, _, _, _, rfl, rfl, SqT.of hp, rfl, _, rfl, _, rfl, y, aF, aA, af, ac, sl, b1, fs, cs, F, Ar, rfl, h1, by omega, hF, hA, fun g hg => hcf g (by simp [KM.Bd.calls, hg]), fun g hg => hcp g (by simp [KM.Bd.pushes, hg]), fun u H2 s2 ⟨t1, x1, y1, e1, g1, gx1, gy1⟩ => ?_⟩
    subst e1
    refine ⟨_, rfl, p, _, _, _, rfl, rfl, SqT.of (s2 _ _ hp), rfl, _, rfl, _, rfl, z, aF, aA, af, ac, sl, b2, fs, cs, F, Ar, rfl, h2.le (Same.le s2), by omega, hF.same rle_p2 s2, hA.same rle_p2 s2, fun g hg => hcf g (by simp [KM.Bd.calls, hg]), fun g hg => hcp g (by simp [KM.Bd.pushes, hg]), fun u H3 s3 ⟨t2, x2, y2, e2, g2, gx2, gy2⟩ => ?_⟩
    subst e2
    refine ⟨by show 2 ≤ sizeLine; decide, fun tt htt => ⟨tt, _, rfl, SqT.of upd_same, rfl, _, _, rfl, _, _, rfl, rfl, ?_⟩⟩
    have s4 := Same.upd (o := .tup [.ref t1, .ref t2]) htt
    generalize upd H3 tt (.tup [.ref t1, .ref t2]) = H4 at s4 ⊢
    have s34 := s3.trans s4
    have g1 := s34 _ _ g1
    have gx1 := gx1.le (Same.le s34)
    have gy1 := gy1.le (Same.le s34)
    have g2 := s4 _ _ g2
    have gx2 := gx2.le (Same.le s4)
    have gy2 := gy2.le (Same.le s4)
    refine ⟨by show 2 ≤ sizeLine; decide, fun tk htk => ⟨tk, rfl, ⟨_, SqT.of upd_same⟩, fun D hD => ?_⟩⟩
    have s5 := Same.upd (o := .tup [.int 0, .int 1]) htk
    have hk5 : (upd H4 tk (.tup [.int 0, .int 1])) tk = some (.tup [.int 0, .int 1]) := upd_same
    generalize upd H4 tk (.tup [.int 0, .int 1]) = H5 at s5 hk5 hD ⊢
    have g1 := s5 _ _ g1
    have gx1 := gx1.le (Same.le s5)
    have gy1 := gy1.le (Same.le s5)
    have g2 := s5 _ _ g2
    have gx2 := gx2.le (Same.le s5)
    have gy2 := gy2.le (Same.le s5)
    have s05 := s2.trans (s34.trans s5)
    let W : Nat → KM.OS := fun i => if i = 0 then KM.mn (KM.pl (KM.bitS true) (KM.lend F Ar b1).1) (KM.pl (KM.bitS false) (KM.lend F Ar b2).1) else KM.mn (KM.pl (KM.bitS true) (KM.lend F Ar b1).2) (KM.pl (KM.bitS false) (KM.lend F Ar b2).2)
    refine lc_map walk_tup hD (fun H' s => SqT.of (s _ _ hk5)) (by decide) (fun i y H' => PsV H' (W i) y) (fun i y H H' ws hd bu q => q.le (But.le bu hd id)) (fun i H x H' _ y => by rw [y.1]; exact Same.refl _) (fun i x' Ha Hb Q' hi sa y kq => ?_) (fun Ha ys sa hd hl hr => ?_)
    · obtain ⟨rfl, hx⟩ := y
      match i, hx, hi with
      | 0, hx, _ =>
      cases hx
      refine ⟨rfl, by show 1 ≤ sizeLine; decide, fun t3 h3 => ⟨by show 2 ≤ sizeLine; decide, fun u3 hu3 => ?_⟩⟩
      obtain ⟨s6, ho1⟩ := bit1_at h3 hu3
      generalize upd (upd Hb t3 (.tup [.int 1])) u3 (.tup [.int 1, .ref t3]) = H6 at s6 ho1 ⊢
      have s36 := sa.trans s6
      refine ⟨_, rfl, _, rfl, t1, _, _, _, rfl, rfl, SqT.of (s36 _ _ g1), rfl, .ref u3, x1, _, _, rfl, ho1, gx1.le (Same.le s36), fun v1 H7 s7 hv1 => ⟨by show 1 ≤ sizeLine; decide, fun t4 h4 => ⟨by show 2 ≤ sizeLine; decide, fun u4 hu4 => ?_⟩⟩⟩
      obtain ⟨s8, ho2⟩ := bit0_at h4 hu4
      generalize upd (upd H7 t4 (.tup [.int 0])) u4 (.tup [.int 1, .ref t4]) = H8 at s8 ho2 ⊢
      have s78 := s7.trans s8
      have s38 := s36.trans s78
      exact ⟨_, rfl, _, rfl, t2, _, _, _, rfl, rfl, SqT.of (s38 _ _ g2), rfl, .ref u4, x2, _, _, rfl, ho2, gx2.le (Same.le s38), fun v2 H9 s9 hv2 => ⟨v1, v2, _, _, rfl, hv1.le (Same.le (s8.trans s9)), hv2, fun v3 hv3 => kq v3 H9 (s6.trans (s78.trans s9)) hv3⟩⟩
      | 1, hx, _ =>
      cases hx
      refine ⟨rfl, by show 1 ≤ sizeLine; decide, fun t3 h3 => ⟨by show 2 ≤ sizeLine; decide, fun u3 hu3 => ?_⟩⟩
      obtain ⟨s6, ho1⟩ := bit1_at h3 hu3
      generalize upd (upd Hb t3 (.tup [.int 1])) u3 (.tup [.int 1, .ref t3]) = H6 at s6 ho1 ⊢
      have s36 := sa.trans s6
      refine ⟨_, rfl, _, rfl, t1, _, _, _, rfl, rfl, SqT.of (s36 _ _ g1), rfl, .ref u3, y1, _, _, rfl, ho1, gy1.le (Same.le s36), fun v1 H7 s7 hv1 => ⟨by show 1 ≤ sizeLine; decide, fun t4 h4 => ⟨by show 2 ≤ sizeLine; decide, fun u4 hu4 => ?_⟩⟩⟩
      obtain ⟨s8, ho2⟩ := bit0_at h4 hu4
      generalize upd (upd H7 t4 (.tup [.int 0])) u4 (.tup [.int 1, .ref t4]) = H8 at s8 ho2 ⊢
      have s78 := s7.trans s8
      have s38 := s36.trans s78
      exact ⟨_, rfl, _, rfl, t2, _, _, _, rfl, rfl, SqT.of (s38 _ _ g2), rfl, .ref u4, y2, _, _, rfl, ho2, gy2.le (Same.le s38), fun v2 H9 s9 hv2 => ⟨v1, v2, _, _, rfl, hv1.le (Same.le (s8.trans s9)), hv2, fun v3 hv3 => kq v3 H9 (s6.trans (s78.trans s9)) hv3⟩⟩
    · match ys, hl with
      | [w0, w1], _ =>
      have hw0 : PsV Ha (W 0) w0 := hr 0 w0 rfl
      have hw1 : PsV Ha (W 1) w1 := hr 1 w1 rfl
      refine ⟨_, rfl, D, _, _, _, rfl, rfl, SqL.of hd, rfl, _, rfl, D, _, _, _, rfl, rfl, SqL.of hd, rfl, by show 2 ≤ sizeLine; decide, fun r hr' => ?_⟩
      have s9 := Same.upd (o := .tup [w0, w1]) hr'
      exact kk _ _ (s05.trans (sa.trans s9)) ⟨r, w0, w1, rfl, upd_same, hw0.le (Same.le s9), hw1.le (Same.le s9)⟩
  | @push p c q y b1 n1 n2 hp ha h1 =>
    have hn' : bdDep b1 + 1 ≤ n + 1 := hn
    refine ⟨_, rfl, p, _, _, _, rfl, rfl, SqT.of hp, rfl, ?_⟩
    refine ⟨_, rfl, rfl, _, rfl, dF (by decide) ?_⟩
    refine ⟨_, rfl, rfl, _, rfl, dF (by decide) ?_⟩
    refine ⟨_, rfl, rfl, _, rfl, iF (by decide) ?_⟩
    refine ⟨_, rfl, p, _, _, _, rfl, rfl, SqT.of hp, rfl, _, rfl, _, rfl, y, aF, aA, af, ac, sl, b1, fs, cs, F, Ar, rfl, h1, by omega, hF, hA, fun g hg => hcf g (by simp [KM.Bd.calls, hg]), fun g hg => hcp g (by simp [KM.Bd.pushes, hg]), fun u H2 s2 ⟨t1, x1, y1, e1, g1, gx1, gy1⟩ => ?_⟩
    subst e1
    refine ⟨t1, rfl, ⟨_, SqT.of g1⟩, fun D hD => ?_⟩
    refine lc_map walk_tup hD (fun H' s => SqT.of (s _ _ g1)) (by show 2 ≤ sizeLine; decide) (fun i y H' => PsV H' (if i = 0 then KM.pl KM.one (KM.lend F Ar b1).1 else KM.pl KM.one (KM.lend F Ar b1).2) y) (fun i y H H' ws hd bu q => q.le (But.le bu hd id)) (fun i H x H' _ y => by rw [y.1]; exact Same.refl _) (fun i x' Ha Hb Q' hi sa y kq => ?_) (fun H3 ys s3 hd hl hr => ?_)
    · obtain ⟨rfl, hx⟩ := y
      refine ⟨rfl, by show 0 ≤ sizeLine; decide, fun t3 h3 => ⟨by show 2 ≤ sizeLine; decide, fun u3 hu3 => ?_⟩⟩
      obtain ⟨s6, ho⟩ := one_at h3 hu3
      generalize upd (upd Hb t3 (.tup [])) u3 (.tup [.int 1, .ref t3]) = H6 at s6 ho ⊢
      have s36 := Same.le (sa.trans s6)
      match i, hx, hi with
      | 0, hx, _ =>
        cases hx
        exact ⟨_, rfl, .ref u3, x1, KM.one, _, rfl, ho, gx1.le s36, fun v H7 s7 hv => kq v H7 (s6.trans s7) hv⟩
      | 1, hx, _ =>
        cases hx
        exact ⟨_, rfl, .ref u3, y1, KM.one, _, rfl, ho, gy1.le s36, fun v H7 s7 hv => kq v H7 (s6.trans s7) hv⟩
    match ys, hl with
    | [v1, v2], _ =>
    have hv1 := hr 0 v1 rfl
    have hv2 := hr 1 v2 rfl
    rw [if_pos rfl] at hv1
    rw [if_neg (by decide)] at hv2
    have s13 := s2.trans s3
    obtain ⟨u, gu, ⟨t2, e2, rfl, g2, ⟨t3, x3, y3, rfl, g3, gx3, gy3⟩⟩⟩ := (hA.same rle_p2 s13).get (hcp c (by simp [KM.Bd.pushes]))
    refine ⟨_, rfl, _, rfl, p, _, _, _, rfl, rfl, SqT.of (s13 _ _ hp), rfl, aA, _, rfl, gu, ?_⟩
    refine ⟨t2, _, rfl, SqT.of g2, rfl, _, _, rfl, _, _, rfl, rfl, ?_⟩
    have fin : ∀ (H' : Hp) (t : Addr) (x y : V), Same H3 H' → H' t = some (.tup [x, y]) → PsV H' (KM.lend F Ar (.push c b1)).1 x → PsV H' (KM.lend F Ar (.push c b1)).2 y → Q (.ref t) H' := fun H' t x y s h hx hy => kk _ _ (s13.trans s) ⟨t, x, y, rfl, h, hx, hy⟩
    simp only [KM.lend] at fin
    generalize KM.pl KM.one (KM.lend F Ar b1).1 = R1 at hv1 fin
    generalize KM.pl KM.one (KM.lend F Ar b1).2 = R2 at hv2 fin
    generalize Ar c = e2 at g2 g3 gx3 gy3 fin
    obtain ⟨kd, c1, c2⟩ := e2
    clear hr hD g1 gx1 gy1 hl
    cases kd
    · refine ⟨_, rfl, rfl, _, rfl, dF (show ¬ V.str (kindS false) = V.str "back" by decide) ?_⟩
      refine ⟨_, rfl, t3, rfl, ⟨_, SqT.of g3⟩, fun D2 hD2 => ?_⟩
      refine lc_map walk_tup hD2 (fun H' s => SqT.of (s _ _ g3)) (by show 2 ≤ sizeLine; decide) (fun i y H' => PsV H' (if i = 0 then KM.pl (KM.pl R2 KM.one) c1 else KM.pl (KM.pl R2 KM.one) c2) y) (fun i y H H' ws hd bu q => q.le (But.le bu hd id)) (fun i H x H' _ y => by rw [y.1]; exact Same.refl _) (fun i x' Ha Hb Q' hi sa y kq => ?_) (fun H5 ys s5 hd2 hl2 hr2 => ?_)
      · obtain ⟨rfl, hx⟩ := y
        refine ⟨rfl, _, rfl, _, rfl, D, _, _, _, rfl, rfl, SqL.of (sa _ _ hd), rfl, by show 0 ≤ sizeLine; decide, fun t5 h5 => ⟨by show 2 ≤ sizeLine; decide, fun u5 hu5 => ?_⟩⟩
        obtain ⟨s6, ho⟩ := one_at h5 hu5
        generalize upd (upd Hb t5 (.tup [])) u5 (.tup [.int 1, .ref t5]) = H6 at s6 ho ⊢
        have s36 := Same.le (sa.trans s6)
        refine ⟨v2, .ref u5, R2, KM.one, rfl, hv2.le s36, ho, fun v7 H7 s7 hv7 => ?_⟩
        have s37 := Same.le (sa.trans (s6.trans s7))
        match i, hx, hi with
        | 0, hx, _ =>
          cases hx
          exact ⟨_, rfl, v7, x3, _, _, rfl, hv7, gx3.le s37, fun v H8 s8 hv => kq v H8 (s6.trans (s7.trans s8)) hv⟩
        | 1, hx, _ =>
          cases hx
          exact ⟨_, rfl, v7, y3, _, _, rfl, hv7, gy3.le s37, fun v H8 s8 hv => kq v H8 (s6.trans (s7.trans s8)) hv⟩
      match ys, hl2 with
      | [f1, f2], _ =>
      have hf1 := hr2 0 f1 rfl
      have hf2 := hr2 1 f2 rfl
      rw [if_pos rfl] at hf1
      rw [if_neg (by decide)] at hf2
      have hd5 := s5 _ _ hd
      refine ⟨_, rfl, _, rfl, _, _, rfl, rfl, D2, _, _, _, rfl, rfl, SqL.of hd2, rfl, _, rfl, _, rfl, _, _, rfl, rfl, D, _, _, _, rfl, rfl, SqL.of hd5, rfl, f1, v1, _, _, rfl, hf1, hv1.le (Same.le s5), fun v hv => ?_⟩
      refine ⟨_, rfl, _, rfl, _, _, rfl, rfl, D2, _, _, 0, rfl, rfl, hd2, rfl, ?_⟩
      have bu : But D2 H5 (upd H5 D2 (.lst ([f1, f2].set 0 v))) := But.upd
      have le := Le.upd (o := .lst ([f1, f2].set 0 v)) hd2 id
      have hd6 : (upd H5 D2 (.lst ([f1, f2].set 0 v))) D2 = some (.lst [v, f2]) := upd_same
      have s36 : Same H3 (upd H5 D2 (.lst ([f1, f2].set 0 v))) := Same.but_new s5 hD2 bu
      generalize upd H5 D2 (.lst ([f1, f2].set 0 v)) = H6 at le hd6 s36 ⊢
      refine ⟨_, rfl, D2, _, _, _, rfl, rfl, SqL.of hd6, rfl, _, rfl, D2, _, _, _, rfl, rfl, SqL.of hd6, rfl, by show 2 ≤ sizeLine; decide, fun r hr' => ?_⟩
      have s7 := Same.upd (o := .tup [v, f2]) hr'
      have le7 := le.trans (Same.le s7)
      exact fin _ r v f2 (s36.trans s7) upd_same (by show PsV _ (KM.mn R1 _) v; rw [KM.mn_comm]; exact hv.le le7) (hf2.le le7)
    · refine ⟨_, rfl, rfl, _, rfl, dT (show V.str (kindS true) = V.str "back" by decide) ?_⟩
      refine ⟨_, rfl, t3, rfl, ⟨_, SqT.of g3⟩, fun D2 hD2 => ?_⟩
      refine lc_map walk_tup hD2 (fun H' s => SqT.of (s _ _ g3)) (by show 2 ≤ sizeLine; decide) (fun i y H' => PsV H' (if i = 0 then KM.pl (KM.pl R1 KM.one) c1 else KM.pl (KM.pl R1 KM.one) c2) y) (fun i y H H' ws hd bu q => q.le (But.le bu hd id)) (fun i H x H' _ y => by rw [y.1]; exact Same.refl _) (fun i x' Ha Hb Q' hi sa y kq => ?_) (fun H5 ys s5 hd2 hl2 hr2 => ?_)
      · obtain ⟨rfl, hx⟩ := y
        refine ⟨rfl, _, rfl, _, rfl, D, _, _, _, rfl, rfl, SqL.of (sa _ _ hd), rfl, by show 0 ≤ sizeLine; decide, fun t5 h5 => ⟨by show 2 ≤ sizeLine; decide, fun u5 hu5 => ?_⟩⟩
        obtain ⟨s6, ho⟩ := one_at h5 hu5
        generalize upd (upd Hb t5 (.tup [])) u5 (.tup [.int 1, .ref t5]) = H6 at s6 ho ⊢
        have s36 := Same.le (sa.trans s6)
        refine ⟨v1, .ref u5, R1, KM.one, rfl, hv1.le s36, ho, fun v7 H7 s7 hv7 => ?_⟩
        have s37 := Same.le (sa.trans (s6.trans s7))
        match i, hx, hi with
        | 0, hx, _ =>
          cases hx
          exact ⟨_, rfl, v7, x3, _, _, rfl, hv7, gx3.le s37, fun v H8 s8 hv => kq v H8 (s6.trans (s7.trans s8)) hv⟩
        | 1, hx, _ =>
          cases hx
          exact ⟨_, rfl, v7, y3, _, _, rfl, hv7, gy3.le s37, fun v H8 s8 hv => kq v H8 (s6.trans (s7.trans s8)) hv⟩
      match ys, hl2 with
      | [f1, f2], _ =>
      have hf1 := hr2 0 f1 rfl
      have hf2 := hr2 1 f2 rfl
      rw [if_pos rfl] at hf1
      rw [if_neg (by decide)] at hf2
      have hd5 := s5 _ _ hd
      refine ⟨_, rfl, _, rfl, _, _, rfl, rfl, D2, _, _, _, rfl, rfl, SqL.of hd2, rfl, _, rfl, _, rfl, _, _, rfl, rfl, D, _, _, _, rfl, rfl, SqL.of hd5, rfl, f2, v2, _, _, rfl, hf2, hv2.le (Same.le s5), fun v hv => ?_⟩
      refine ⟨_, rfl, _, rfl, _, _, rfl, rfl, D2, _, _, 1, rfl, rfl, hd2, rfl, ?_⟩
      have bu : But D2 H5 (upd H5 D2 (.lst ([f1, f2].set 1 v))) := But.upd
      have le := Le.upd (o := .lst ([f1, f2].set 1 v)) hd2 id
      have hd6 : (upd H5 D2 (.lst ([f1, f2].set 1 v))) D2 = some (.lst [f1, v]) := upd_same
      have s36 : Same H3 (upd H5 D2 (.lst ([f1, f2].set 1 v))) := Same.but_new s5 hD2 bu
      generalize upd H5 D2 (.lst ([f1, f2].set 1 v)) = H6 at le hd6 s36 ⊢
      refine ⟨_, rfl, D2, _, _, _, rfl, rfl, SqL.of hd6, rfl, _, rfl, D2, _, _, _, rfl, rfl, SqL.of hd6, rfl, by show 2 ≤ sizeLine; decide, fun r hr' => ?_⟩
      have s7 := Same.upd (o := .tup [f1, v]) hr'
      have le7 := le.trans (Same.le s7)
      exact fin _ r f1 v (s36.trans s7) upd_same (hf1.le le7) (by show PsV _ (KM.mn R2 _) v; rw [KM.mn_comm]; exact hv.le le7)
theorem c_law_ends (T : Txt K mg) : ∀ n, Cal P w K mg base (2 + n) "_law_ends" (spEnds P2V KM.lend n)
  | 0 => by
    refine Cal.mono (j := 1) ?_ (by omega)
    refine cal_of T.d_law_ends sc_law_ends (fun _ _ _ _ _ _ us hl => match us, hl with | [_, _, _], _ => rfl) (fun vs H Q E h => spEnds_len h) (fun f cdv A outer s H vs Q E hr h => ?_)
    obtain ⟨v, aF, aA, af, ac, sl, b, fs, cs, F, Ar, rfl, hb, hn, _⟩ := h
    have := bdDep_pos b
    omega
  | n + 1 => lend_step T (k := 2 + n) (by omega) (c_law_ends T n)
end
end K52

namespace K52
open PySem PySem.Spec PyProof.Rows L2
/-- a def that finds ends, as a value -/
structure EndF (P : Program) (w : World) (K : PySem.W.Frag) (mg : Str → Option Value) (base : Heap) (fE : Addr) : Prop where
  ex : ∃ fd ps, FnOk P w K mg base CX0 22 fE fd ps (spEnds P2V KM.lend 20) ∧ Binds K fd ps []
  kp : PySem.W.keepIn K (.ref fE) = true
abbrev LA (M : KM.Tb Str) (F : Str → KM.E2) (l : List Str) : Str → Bool × KM.E2 := KM.armsL KM.lend KM.eN M F l
theorem rowsV_le {af ac : Str → Nat} {M : KM.Tb Str} {H H' : Hp} {t : Addr} (s : Same H H') (h : RowsV af ac M H t) : RowsV af ac M H' t := by
  obtain ⟨pF, pC, fns, css, h1, h2, h3, h4, h5⟩ := h
  exact ⟨pF, pC, fns, css, s _ _ h1, s _ _ h2, Paired.mono (fun _ _ q => q.le (Same.le s)) h3, s _ _ h4, Paired.mono (fun _ _ q => q.le (Same.le s)) h5⟩
theorem la_up {M : KM.Tb Str} {F : Str → KM.E2} {l : List Str} {n : Nat} {c : Str} (h : l.reverse[n]? = some c) : LA M F (l.drop (l.length - (n + 1))) = KM.up (LA M F (l.drop (l.length - n))) c (M.kd c, KM.lend F (LA M F (l.drop (l.length - n))) (M.am c)) ∧ l[l.length - (n + 1)]? = some c ∧ n < l.length := by
  have hn : n < l.length := by
    have := (List.getElem?_eq_some_iff.mp h).1
    rw [List.length_reverse] at this; exact this
  have e2 : l[l.length - (n + 1)]? = some c := by
    rw [List.getElem?_reverse hn] at h
    rw [← h]; congr 1; omega
  refine ⟨?_, e2, hn⟩
  have e3 : l.drop (l.length - (n + 1)) = c :: l.drop (l.length - n) := by
    obtain ⟨hi, ei⟩ := List.getElem?_eq_some_iff.mp e2
    rw [List.drop_eq_getElem_cons hi, ei]
    congr 2; omega
  rw [e3]; rfl
theorem ord_drop {am : Str → KM.Bd Str} : ∀ {l : List Str}, KM.Ord am l → ∀ {j : Nat} {c : Str}, l[j]? = some c → ∀ d ∈ (am c).pushes, d ∈ l.drop (j + 1)
  | [], _, j, c, h, _, _ => by simp at h
  | a :: l, o, 0, c, h, d, hd => by
    have : a = c := by simpa using h
    subst this
    exact o.1 d hd
  | a :: l, o, j + 1, c, h, d, hd => ord_drop o.2.2 (by simpa using h) d hd
section
variable {P : Program} {w : World} {K : PySem.W.Frag} {mg : Str → Option Value} {base : Heap}
theorem c_law_weight (T : Txt K mg) : Cal P w K mg base 1 "_law_weight" spWeight := by
  refine cal_of T.d_law_weight sc_law_weight (fun _ _ _ _ _ _ us hl => match us, hl with | [_, _], _ => rfl) (fun vs H Q E h => ?_) (fun f cdv A outer s H vs Q E hr h => ?_)
  · obtain ⟨v, _, _, _, _, _, _, rfl, _⟩ := h; rfl
  · obtain ⟨v, af, ac, sl, c, b, by_, rfl, hb, k⟩ := h
    have nd := sc_law_weight.nd
    refine ⟨_, (pss_one (ps_ret (pe_ifExp (pt_cmpR op_eq (pv 1) pe_str (nomark _)) pe_int (pe_callB call_len_seq (by rfl) T.b_len PySem.boot_len (pa_cons (pe_ix ix_tup (pv 0) pe_int (fun _ _ => rfl)) pa_nil))))), ?_⟩
    refine ⟨_, rfl, rfl, _, rfl, ?_⟩
    cases hb with
    | @push p c q y b n1 n2 hp ha hb =>
      obtain ⟨q', xs, e, hq, hl, _⟩ := ha
      cases e
      unfold wtF at k
      by_cases e : by_ = "frames"
      · rw [if_pos e] at k
        refine dT (by rw [e]) ?_
        exact k
      · rw [if_neg e] at k
        refine dF (fun z => e (by injection z)) ?_
        refine ⟨_, rfl, p, _, _, _, rfl, rfl, SqT.of hp, rfl, _, _, rfl, .inr (SqT.of hq), ?_⟩
        rw [hl]; exact k
def spEntersL (fE : Addr) : Sp := fun vs H Q _ => ∃ v dF dA af ac sl c b fs cs, ∃ F : Str → KM.E2, ∃ A : Str → Bool × KM.E2, vs = [v, .ref dF, .ref dA, .ref fE] ∧ BdV af ac sl H (.push c b) v ∧ bdDep b ≤ 20 ∧ FnD P2V H dF fs F ∧ ArD P2V H dA cs A ∧ (∀ f ∈ b.calls, f ∈ fs) ∧ (∀ d ∈ b.pushes, d ∈ cs) ∧ c ∈ cs ∧
  ∀ v' H', Same H H' → PsV H' (KM.entS F A c b) v' → Q v' H'
theorem c_law_enters (T : Txt K mg) {fE : Addr} (EF : EndF P w K mg base fE) : Cal P w K mg base 23 "_law_enters" (spEntersL fE) := by
  obtain ⟨⟨fdE, psE, FE, bi⟩, kp⟩ := EF
  refine cal_of T.d_law_enters sc_law_enters (fun _ _ _ _ _ _ us hl => match us, hl with | [_, _, _, _], _ => rfl) (fun vs H Q E h => ?_) (fun f cdv A outer s H vs Q E hr h => ?_)
  · obtain ⟨v, _, _, _, _, _, _, _, _, _, _, _, rfl, _⟩ := h; rfl
  obtain ⟨v, fT, dA, af, ac, sl, c, b, fs, cs, F, Ar, rfl, hb, hd, hF, hA, hcf, hcp, hc, kk⟩ := h
  have nd := sc_law_enters.nd
  have hu := hu_of hr
  refine ⟨_, (pss_cons (ps_asg (pe_callL (i := 3) FE hr rfl (Or.inl rfl) kp bi .nil pass0 (pa_cons (pe_ix ix_tup (pv 0) pe_int (fun _ _ => rfl)) (pa_cons (pv 1) (pa_cons (pv 2) pa_nil)))) (pg_tup (by rfl) (pgs_cons (pg_name (i := 4) nd rfl (Or.inl rfl)) (pgs_cons (pg_name (i := 5) nd rfl (Or.inl rfl)) pgs_nil))))
  (pss_one (ps_ret (pe_ifExp (pt_cmpR op_eq (pe_ix ix_tup (pe_dget hu (pv 2) (pe_ix ix_tup (pv 0) pe_int (fun _ _ => rfl)) (fun _ _ => rfl)) pe_int (fun _ _ => rfl)) pe_str (nomark _)) (pv 4) (pv 5))))), ?_⟩
  cases hb with
  | @push p c q y b n1 n2 hp ha hb =>
  refine ⟨rfl, _, rfl, p, _, _, _, rfl, rfl, SqT.of hp, rfl, _, rfl, _, rfl, y, fT, dA, af, ac, sl, b, fs, cs, F, Ar, rfl, hb, hd, hF, hA, hcf, hcp, fun u H1 s1 ⟨t1, x1, y1, e1, g1, gx1, gy1⟩ => ?_⟩
  subst e1
  refine ⟨t1, _, rfl, SqT.of g1, rfl, _, _, rfl, _, _, rfl, rfl, ?_⟩
  obtain ⟨u, gu, ⟨t2, e2, rfl, g2, h2⟩⟩ := (hA.same rle_p2 s1).get hc
  refine ⟨_, rfl, _, rfl, p, _, _, _, rfl, rfl, SqT.of (s1 _ _ hp), rfl, dA, _, rfl, gu, t2, _, _, _, rfl, rfl, SqT.of g2, rfl, rfl, _, rfl, ?_⟩
  have ks : KM.entS F Ar c b = if (Ar c).1 then (KM.lend F Ar b).1 else (KM.lend F Ar b).2 := rfl
  cases e : (Ar c).1 with
  | true =>
    rw [e, if_pos rfl] at ks
    refine dT (show V.str (kindS true) = V.str "back" by decide) ⟨_, rfl, kk _ _ s1 (by rw [ks]; exact gx1)⟩
  | false =>
    rw [e, if_neg (by decide)] at ks
    refine dF (show ¬ V.str (kindS false) = V.str "back" by decide) ⟨_, rfl, kk _ _ s1 (by rw [ks]; exact gy1)⟩
def spArmsL (fE : Addr) : Sp := fun vs H Q _ => ∃ t dF af ac M, ∃ F : Str → KM.E2, vs = [.ref t, .ref dF, .ref fE] ∧ RowsOk af ac M ∧ RowsV af ac M H t ∧ FnD P2V H dF M.fs F ∧ ∀ d H', Same H H' → H d = none → ArD P2V H' d M.cs.reverse (KM.larms M F) → Q (.ref d) H'
theorem c_law_arms (T : Txt K mg) {fE : Addr} (EF : EndF P w K mg base fE) : Cal P w K mg base 23 "_law_arms" (spArmsL fE) := by
  obtain ⟨⟨fdE, psE, FE, bi⟩, kp⟩ := EF
  refine cal_of T.d_law_arms sc_law_arms (fun _ _ _ _ _ _ us hl => match us, hl with | [_, _, _], _ => rfl) (fun vs H Q E h => ?_) (fun f cdv A outer s H vs Q E hr h => ?_)
  · obtain ⟨v, _, _, _, _, _, rfl, _⟩ := h; rfl
  obtain ⟨t, fT, af, ac, M, F, rfl, ok, ⟨pF, pC, fns, css, ht, hpF, pf, hpC, pc⟩, hF, kk⟩ := h
  have nd := sc_law_arms.nd
  have hu := hu_of hr
  refine ⟨_, (pss_cons (ps_set (i := 3) nd rfl (Or.inl rfl) pe_dnewK)
  (pss_cons (ps_for PassesOwn.never rfl (pi_list (pe_revL (pe_ix ix_tup (pv 0) pe_int (fun _ _ => rfl)))) (pg_tup (by rfl) (pgs_cons (pg_name (i := 4) nd rfl (Or.inl rfl)) (pgs_cons (pg_name (i := 5) nd rfl (Or.inl rfl)) (pgs_cons (pg_name (i := 6) nd rfl (Or.inl rfl)) (pgs_cons (pg_name (i := 7) nd rfl (Or.inl rfl)) pgs_nil))))) (pss_one (ps_dput hu (pv 3) (pv 4) (pe_tup (pa_cons (pv 5) (pa_cons (pe_callL (i := 2) FE hr rfl (Or.inl rfl) kp bi .nil pass0 (pa_cons (pv 7) (pa_cons (pv 1) (pa_cons (pv 3) pa_nil)))) pa_nil))) rfl)))
  (pss_one (ps_ret (pv 3))))), ?_⟩
  have cnd := ord_nd ok.ok.ord
  have cz := ok.cz
  have hz : 100 ≤ sizeLine := by decide
  refine fun d hd => ?_
  have s1 := Same.upd (o := .dK []) hd
  have hd1 : (upd H d (.dK [])) d = some (.dK []) := upd_same
  generalize upd H d (.dK []) = H1 at s1 hd1 ⊢
  refine ⟨_, rfl, t, _, _, _, rfl, rfl, SqT.of (s1 _ _ ht), rfl, pC, css, rfl, SqL.of (s1 _ _ hpC), fun r hr0 => ?_⟩
  have s2 := Same.upd (o := .lst css.reverse) hr0
  have hr2 : (upd H1 r (.lst css.reverse)) r = some (.lst css.reverse) := upd_same
  generalize upd H1 r (.lst css.reverse) = H2 at s2 hr2 ⊢
  have s02 := s1.trans s2
  have hd2 := s2 _ _ hd1
  have pcr := paired_rev pc
  have nrd : r ≠ d := (ne_of_none hd1 hr0).symm
  have cL := pc.length
  refine ⟨r, rfl, ⟨_, SqL.of hr2⟩, ?_⟩
  refine for_it walk_list (fun i σ H' => (∃ p4 p5 p6 p7, σ = [some (.ref t), some (.ref fT), some (.ref fE), some (.ref d), p4, p5, p6, p7]) ∧ But d H2 H' ∧ ArD P2V H' d (M.cs.drop (M.cs.length - i)).reverse (LA M F (M.cs.drop (M.cs.length - i))))
    ⟨⟨_, _, _, _, rfl⟩, But.refl _ _, [], hd2, by rw [Nat.sub_zero, List.drop_length]; exact DRel.nil⟩ (fun i σ H' _ q => SqL.of (q.2.1 _ _ nrd hr2)) (fun i x σ Hn Hc hi q y => ?_) (fun σ Hc q => ?_)
  · obtain ⟨rfl, hx⟩ := y
    obtain ⟨⟨p4, p5, p6, p7, rfl⟩, bu, hA⟩ := q
    obtain ⟨c, hc, p, bv, rfl, hp, hcn, hca, hcb, hcs, hcd⟩ := paired_at pcr hx
    obtain ⟨eA, hj, hin⟩ := la_up (M := M) (F := F) hc
    have hcm : c ∈ M.cs := List.mem_of_getElem? hj
    have sHc : Same H Hc := fun b o e => bu b o (ne_of_none e hd) (s02 b o e)
    have hpc' := sHc _ _ hp
    have e3 : M.cs.drop (M.cs.length - (i + 1)) = c :: M.cs.drop (M.cs.length - i) := by
      obtain ⟨hi1, ei⟩ := List.getElem?_eq_some_iff.mp hj
      rw [List.drop_eq_getElem_cons hi1, ei]
      congr 2; omega
    have ncd : c ∉ M.cs.drop (M.cs.length - i) := by
      have : (M.cs.drop (M.cs.length - (i + 1))).Nodup := cnd.sublist (List.drop_sublist _ _)
      rw [e3] at this
      exact (List.nodup_cons.mp this).1
    have hps : ∀ e ∈ (M.am c).pushes, e ∈ (M.cs.drop (M.cs.length - i)).reverse := fun e he => by
      have := ord_drop ok.ok.ord hj e he
      rw [List.mem_reverse]
      have e4 : M.cs.length - (i + 1) + 1 = M.cs.length - i := by omega
      rw [e4] at this
      exact this
    refine ⟨p, _, rfl, SqT.of hpc', rfl, _, _, rfl, _, _, rfl, _, _, rfl, _, _, rfl, rfl, ?_⟩
    refine ⟨_, rfl, rfl, _, rfl, _, rfl, _, rfl, bv, fT, d, af, ac, _, M.am c, M.fs, _, F, _, rfl, hcb.le (Same.le sHc), hcd, hF.same rle_p2 sHc, hA, fun g hg => ok.ok.ac c hcm g hg, hps, fun u Hd sd hu' => ⟨by show 2 ≤ sizeLine; decide, fun t2 ht2 => ?_⟩⟩
    have se := Same.upd (o := .tup [.str (if M.kd c then "back" else "caught"), u]) ht2
    have hte : (upd Hd t2 (.tup [.str (if M.kd c then "back" else "caught"), u])) t2 = some (.tup [.str (if M.kd c then "back" else "caught"), u]) := upd_same
    have hu2 := hu'.le (Same.le se)
    have eD := hA.same rle_p2 (sd.trans se)
    have bE := bu.trans (Same.but d (sd.trans se))
    generalize upd Hd t2 (.tup [.str (if M.kd c then "back" else "caught"), u]) = He at se hte hu2 eD bE
    obtain ⟨kA, k1, k2⟩ := eD
    have kl := k2.length
    refine ⟨_, rfl, _, rfl, d, _, rfl, DPut.k (k := Sum.inr c) k1 (by rw [kl, List.length_reverse, List.length_drop]; omega), ?_⟩
    have sf : Le He (upd He d (.dK (putK kA (Sum.inr c) (.ref t2)))) := Le.dK k1
    refine ⟨⟨_, _, _, _, rfl⟩, bE.trans But.upd, _, upd_same, ?_⟩
    rw [eA, e3, List.reverse_cons]
    refine k2.new (fun m => ncd (List.mem_reverse.mp m)) (fun y u0 hy q => ?_) ?_
    · rw [KM.up_ne fun z => ncd (by rw [← z]; exact List.mem_reverse.mp hy)]; exact ArV.le rle_p2 sf q
    · rw [KM.up_same]
      exact ⟨t2, u, rfl, sf _ (.tup _) trivial hte, hu2.le sf⟩
  · obtain ⟨⟨p4, p5, p6, p7, rfl⟩, bu, hA⟩ := q
    rw [List.length_reverse, ← cL, Nat.sub_self, List.drop_zero] at hA
    exact ⟨_, rfl, kk d Hc (fun b o e => bu b o (ne_of_none e hd) (s02 b o e)) hd hA⟩
theorem FnD.but {H H' : Hp} {d e : Addr} {names : List Str} {F : Str → KM.E2} {o : HO} (b : But d H H') (hd : H d = some o) (n : ¬ Stb o) (ne : e ≠ d) (h : FnD P2V H e names F) : FnD P2V H' e names F := by
  obtain ⟨k, h1, h2⟩ := h
  exact ⟨k, b _ _ ne h1, h2.imp fun x v _ q => q.le (But.le b hd n)⟩
theorem ArD.but {H H' : Hp} {d e : Addr} {names : List Str} {A : Str → Bool × KM.E2} {o : HO} (b : But d H H') (hd : H d = some o) (n : ¬ Stb o) (ne : e ≠ d) (h : ArD P2V H e names A) : ArD P2V H' e names A := by
  obtain ⟨k, h1, h2⟩ := h
  exact ⟨k, b _ _ ne h1, h2.imp fun x v _ q => ArV.le rle_p2 (But.le b hd n) q⟩
def spSettledL (fE : Addr) : Sp := fun vs H Q _ => ∃ t af ac M, vs = [.ref t, .non, .ref fE] ∧ RowsOk af ac M ∧ RowsV af ac M H t ∧ ∀ d H', Same H H' → FnD P2V H' d M.fs (KM.lst M) → Q (.ref d) H'
theorem c_law_settled (T : Txt K mg) {fE : Addr} (EF : EndF P w K mg base fE) : Cal P w K mg base 24 "_law_settled" (spSettledL fE) := by
  have c__law_arms := c_law_arms (P := P) (w := w) (base := base) T EF
  obtain ⟨⟨fdE, psE, FE, bi⟩, kp⟩ := EF
  refine cal_of T.d_law_settled sc_law_settled (fun _ _ _ _ _ _ us hl => match us, hl with | [_, _, _], _ => rfl) (fun vs H Q E h => ?_) (fun f cdv A outer s H vs Q E hr h => ?_)
  · obtain ⟨v, _, _, _, rfl, _⟩ := h; rfl
  obtain ⟨t, af, ac, M, rfl, ok, hrows, kk⟩ := h
  have nd := sc_law_settled.nd
  have hu := hu_of hr
  refine ⟨_, (pss_cons (ps_set (i := 3) nd rfl (Or.inl rfl) pe_dnewK)
  (pss_cons (ps_for PassesOwn.never rfl (pi_list (pe_ix ix_tup (pv 0) pe_int (fun _ _ => rfl))) (pg_name (i := 4) nd rfl (Or.inl rfl)) (pss_one (ps_dput hu (pv 3) (pe_ix ix_tup (pv 4) pe_int (fun _ _ => rfl)) (pe_tup (pa_cons (pv 1) (pa_cons (pv 1) pa_nil))) rfl)))
  (pss_cons (ps_for PassesOwn.never rfl (pi_range1 rfl T.b_range (pa_cons (pe_op op_add (pe_op op_mul pe_int (pe_callB call_len_seq (by rfl) T.b_len PySem.boot_len (pa_cons (pe_ix ix_tup (pv 0) pe_int (fun _ _ => rfl)) pa_nil))) pe_int) pa_nil)) (pg_name (i := 5) nd rfl (Or.inl rfl)) (pss_cons (ps_set (i := 6) nd rfl (Or.inl rfl) (pe_c c__law_arms hr (by decide) rfl (pa_cons (pv 0) (pa_cons (pv 3) (pa_cons (pv 2) pa_nil)))))
  (pss_one (ps_for PassesOwn.never rfl (pi_list (pe_ix ix_tup (pv 0) pe_int (fun _ _ => rfl))) (pg_tup (by rfl) (pgs_cons (pg_name (i := 7) nd rfl (Or.inl rfl)) (pgs_cons (pg_name (i := 8) nd rfl (Or.inl rfl)) (pgs_cons (pg_name (i := 9) nd rfl (Or.inl rfl)) pgs_nil)))) (pss_one (ps_dput hu (pv 3) (pv 7) (pe_callL (i := 2) FE (hr.mono (by decide)) rfl (Or.inl rfl) kp bi .nil pass0 (pa_cons (pv 9) (pa_cons (pv 3) (pa_cons (pv 6) pa_nil)))) rfl))))))
  (pss_one (ps_ret (pv 3)))))), ?_⟩
  have hrows0 := hrows
  obtain ⟨pF, pC, fns, css, ht, hpF, pf, hpC, pc⟩ := hrows
  have fz := ok.fz
  have fL := pf.length
  have hz : 100 ≤ sizeLine := by decide
  refine fun d hd => ?_
  have s1 := Same.upd (o := .dK []) hd
  have hd1 : (upd H d (.dK [])) d = some (.dK []) := upd_same
  generalize upd H d (.dK []) = H1 at s1 hd1 ⊢
  have npd : pF ≠ d := ne_of_none hpF hd
  have keep : ∀ {H' : Hp}, But d H1 H' → Same H H' := fun b => fun c o e => b c o (ne_of_none e hd) (s1 c o e)
  refine ⟨_, rfl, t, _, _, _, rfl, rfl, SqT.of (s1 _ _ ht), rfl, pF, rfl, ⟨_, SqL.of (s1 _ _ hpF)⟩, ?_⟩
  refine for_it walk_list (fun i σ H' => (∃ p4, σ = [some (.ref t), some .non, some (.ref fE), some (.ref d), p4, none, none, none, none, none]) ∧ But d H1 H' ∧ FnD P2V H' d (M.fs.take i) KM.F0)
    ⟨⟨_, rfl⟩, But.refl _ _, [], hd1, by rw [List.take_zero]; exact DRel.nil⟩ (fun i σ H' _ q => SqL.of (keep q.2.1 _ _ hpF)) (fun i x σ Hn Hc hi q y => ?_) (fun σ Hc q => ?_)
  · obtain ⟨rfl, hx⟩ := y
    obtain ⟨⟨p4, rfl⟩, bu, hF⟩ := q
    obtain ⟨g, hg, p, bv, rfl, hp, _⟩ := paired_at pf hx
    have sHc := keep bu
    have tk : M.fs.take (i + 1) = M.fs.take i ++ [g] := by rw [List.take_add_one, hg]; rfl
    have ng : g ∉ M.fs.take i := fun m => by
      obtain ⟨j2, hj2, ej⟩ := List.mem_iff_getElem.mp m
      have hj3 : j2 < i := by rw [List.length_take] at hj2; omega
      rw [List.getElem_take] at ej
      obtain ⟨hi1, ei⟩ := List.getElem?_eq_some_iff.mp hg
      have := (List.getElem_inj ok.ok.nd).mp (ej.trans ei.symm)
      omega
    refine ⟨_, rfl, _, rfl, by show 2 ≤ sizeLine; decide, fun t2 ht2 => ?_⟩
    have se := Same.upd (o := .tup [.non, .non]) ht2
    have hte : (upd Hc t2 (.tup [.non, .non])) t2 = some (.tup [.non, .non]) := upd_same
    have bE := bu.trans (Same.but d se)
    have eF := hF.same rle_p2 se
    generalize upd Hc t2 (.tup [.non, .non]) = He at se hte bE eF ⊢
    obtain ⟨kF, k1, k2⟩ := eF
    have kl := k2.length
    refine ⟨_, rfl, _, rfl, p, _, _, _, rfl, rfl, SqT.of (se _ _ (sHc _ _ hp)), rfl, d, _, rfl, DPut.k (k := Sum.inr g) k1 (by rw [kl, List.length_take]; omega), ?_⟩
    have sf : Le He (upd He d (.dK (putK kF (Sum.inr g) (.ref t2)))) := Le.dK k1
    refine ⟨⟨_, rfl⟩, bE.trans But.upd, _, upd_same, ?_⟩
    rw [tk]
    exact k2.new ng (fun y u0 hy q => q.le sf) ⟨t2, .non, .non, rfl, sf _ (.tup _) trivial hte, rfl, rfl⟩
  obtain ⟨⟨p4, rfl⟩, bu, hF⟩ := q
  rw [← fL, List.take_length] at hF
  have sH := keep bu
  refine ⟨_, rfl, t, _, _, _, rfl, rfl, SqT.of (sH _ _ ht), rfl, pF, _, rfl, .inl (SqL.of (sH _ _ hpF)), _, _, rfl, rfl, .inl ⟨by decide, by decide⟩, _, _, rfl, rfl, _, rfl, by omega, by omega, ?_⟩
  refine for_it (n := 2 * fns.length + 1) walk_range (fun i σ H' => (∃ p4 p5 p6 p7 p8 p9, σ = [some (.ref t), some .non, some (.ref fE), some (.ref d), p4, p5, p6, p7, p8, p9]) ∧ But d H1 H' ∧ FnD P2V H' d M.fs (KM.iter (KM.lrnd M M.fs) i KM.F0))
    ⟨⟨_, _, _, _, _, _, rfl⟩, bu, hF⟩ (fun _ _ _ _ _ => trivial) (fun i x σ Hn Hd hi q y => ?_) (fun σ Hd q => ?_)
  · obtain ⟨rfl, rfl⟩ := y
    obtain ⟨⟨p4, p5, p6, p7, p8, p9, rfl⟩, bd, hF⟩ := q
    have sD := keep bd
    generalize hG : KM.iter (KM.lrnd M M.fs) i KM.F0 = F at hF
    refine ⟨_, rfl, _, rfl, _, rfl, t, d, af, ac, M, F, rfl, ok, rowsV_le sD hrows0, hF, fun dA He se hdA hA => ?_⟩
    have ndA : dA ≠ d := fun z => by
      obtain ⟨k, h1, _⟩ := hF
      rw [z, h1] at hdA; cases hdA
    have hF2 := hF.same rle_p2 se
    have bE := bd.trans (Same.but d se)
    have sE := keep bE
    let Fj : Nat → (Str → KM.E2) := fun i => (M.fs.take i).foldl (KM.stepF KM.lend M (KM.larms M F)) F
    refine ⟨_, rfl, t, _, _, _, rfl, rfl, SqT.of (sE _ _ ht), rfl, pF, rfl, ⟨_, SqL.of (sE _ _ hpF)⟩, ?_⟩
    refine for_it walk_list (fun j σ H' => (∃ p4 p5 p7 p8 p9, σ = [some (.ref t), some .non, some (.ref fE), some (.ref d), p4, p5, some (.ref dA), p7, p8, p9]) ∧ But d H1 H' ∧ FnD P2V H' d M.fs (Fj j) ∧ ArD P2V H' dA M.cs.reverse (KM.larms M F))
      ⟨⟨_, _, _, _, _, rfl⟩, bE, hF2, hA⟩ (fun i σ H' _ q => SqL.of (keep q.2.1 _ _ hpF)) (fun j x σ Hn Hf hj q y => ?_) (fun σ Hf q => ?_)
    · obtain ⟨rfl, hx⟩ := y
      obtain ⟨⟨p4, p5, p7, p8, p9, rfl⟩, bf, hF3, hA3⟩ := q
      obtain ⟨g, hg, p, bv, rfl, hp, hgn, hga, hgb, hgs, hgd⟩ := paired_at pf hx
      have hgm : g ∈ M.fs := List.mem_of_getElem? hg
      have sF := keep bf
      have tk : M.fs.take (j + 1) = M.fs.take j ++ [g] := by rw [List.take_add_one, hg]; rfl
      have eS : Fj (j + 1) = KM.up (Fj j) g (KM.lend (Fj j) (KM.larms M F) (M.bd g)) := by
        show (M.fs.take (j + 1)).foldl _ _ = _
        rw [tk, List.foldl_append]; rfl
      refine ⟨p, _, rfl, SqT.of (sF _ _ hp), rfl, _, _, rfl, _, _, rfl, _, _, rfl, rfl, ?_⟩
      refine ⟨rfl, _, rfl, _, rfl, _, rfl, bv, d, dA, af, ac, _, M.bd g, M.fs, M.cs.reverse, Fj j, _, rfl, hgb.le (Same.le sF), hgd, hF3, hA3, fun e he => ok.ok.bc g hgm e he, fun c hc => List.mem_reverse.mpr (ok.ok.bp g hgm c hc), fun u Hg sg hu' => ?_⟩
      have hF4 := hF3.same rle_p2 sg
      have hA4 := hA3.same rle_p2 sg
      have bG := bf.trans (Same.but d sg)
      obtain ⟨kF, k1, k2⟩ := hF4
      have kl := k2.length
      refine ⟨_, rfl, _, rfl, d, _, rfl, DPut.k (k := Sum.inr g) k1 (by rw [kl]; omega), ?_⟩
      have sf : Le Hg (upd Hg d (.dK (putK kF (Sum.inr g) u))) := Le.dK k1
      refine ⟨⟨_, _, _, _, _, rfl⟩, bG.trans But.upd, ⟨_, upd_same, ?_⟩, hA4.but But.upd k1 id ndA⟩
      rw [eS]
      refine k2.put hgm (fun y u0 hy ne q => by rw [KM.up_ne ne]; exact q.le sf) ?_
      rw [KM.up_same]
      exact hu'.le sf
    · obtain ⟨⟨p4, p5, p7, p8, p9, rfl⟩, bf, hF3, hA3⟩ := q
      rw [← fL] at hF3
      have : Fj M.fs.length = KM.iter (KM.lrnd M M.fs) (i + 1) KM.F0 := by
        show (M.fs.take M.fs.length).foldl _ _ = KM.lrnd M M.fs (KM.iter (KM.lrnd M M.fs) i KM.F0)
        rw [List.take_length, hG]; rfl
      rw [this] at hF3
      exact ⟨⟨_, _, _, _, _, _, rfl⟩, bf, hF3⟩
  · obtain ⟨⟨p4, p5, p6, p7, p8, p9, rfl⟩, bd, hF⟩ := q
    rw [← fL, KM.law_rounds ok.ok] at hF
    exact ⟨_, rfl, kk d Hd (keep bd) hF⟩
end
end K52

namespace K52
open PySem PySem.Spec PyProof.Rows L2
def htV : Option Nat → V
  | none => .non
  | some n => .int (n : Nat)
def KnD (H : Hp) (d : Addr) (fs : List Str) (hK : Str → Option Nat) (xK : Str → KM.OS) : Prop := ∃ kvs, H d = some (.dK kvs) ∧ DRel fs (fun x v => ∃ p z, v = V.ref p ∧ H p = some (.tup [htV (hK x), z]) ∧ PsV H (xK x) z) kvs
theorem KnD.same {H H' : Hp} {d : Addr} {fs : List Str} {hK : Str → Option Nat} {xK : Str → KM.OS} (s : Same H H') (h : KnD H d fs hK xK) : KnD H' d fs hK xK := by
  obtain ⟨k, h1, h2⟩ := h
  exact ⟨k, s _ _ h1, h2.imp fun x v _ ⟨p, z, e1, e2, e3⟩ => ⟨p, z, e1, s _ _ e2, e3.le (Same.le s)⟩⟩
def AmD (af ac : Str → Nat) (M : KM.Tb Str) (H : Hp) (d : Addr) : Prop := ∃ kvs, H d = some (.dK kvs) ∧ DRel M.cs (fun c v => BdV af ac (ac c + 1) H (M.am c) v) kvs
/-- what the equations look at -/
structure TigE (af ac : Str → Nat) (M : KM.Tb Str) (hK : Str → Option Nat) (xK : Str → KM.OS) (H : Hp) (dK pE dA : Addr) : Prop where
  kn : KnD H dK M.fs hK xK
  en : ∃ dT dE, H pE = some (.tup [.ref dT, .ref dE]) ∧ FnD P2V H dT M.fs (KM.lst M) ∧ ArD P2V H dE M.cs.reverse (KM.lA M)
  am : AmD af ac M H dA
theorem TigE.same {af ac : Str → Nat} {M : KM.Tb Str} {hK : Str → Option Nat} {xK : Str → KM.OS} {H H' : Hp} {dK pE dA : Addr} (s : Same H H') (h : TigE af ac M hK xK H dK pE dA) : TigE af ac M hK xK H' dK pE dA := by
  obtain ⟨h1, ⟨dT, dE, h2, h3, h4⟩, k, h5, h6⟩ := h
  exact ⟨h1.same s, ⟨dT, dE, s _ _ h2, h3.same rle_p2 s, h4.same rle_p2 s⟩, k, s _ _ h5, h6.imp fun _ _ _ q => q.le (Same.le s)⟩
theorem two_at {H : Hp} {t u : Addr} (h0 : H t = none) (h1 : (upd H t (.tup [])) u = none) : Same H (upd (upd H t (.tup [])) u (.tup [.int 2, .ref t])) ∧ PsV (upd (upd H t (.tup [])) u (.tup [.int 2, .ref t])) KM.two (.ref u) :=
  ⟨(Same.upd h0).trans (Same.upd h1), u, t, rfl, upd_same, (Same.upd h1) _ _ upd_same, Nat.zero_le _, by show 2 ≤ 1000; decide⟩
theorem zero_at {H : Hp} {t u : Addr} (h0 : H t = none) (h1 : (upd H t (.tup [])) u = none) : Same H (upd (upd H t (.tup [])) u (.tup [.int 0, .ref t])) ∧ PsV (upd (upd H t (.tup [])) u (.tup [.int 0, .ref t])) KM.zero (.ref u) :=
  ⟨(Same.upd h0).trans (Same.upd h1), u, t, rfl, upd_same, (Same.upd h1) _ _ upd_same, Nat.zero_le _, by show 0 ≤ 1000; decide⟩
abbrev tigM (ac : Str → Nat) (M : KM.Tb Str) (hK : Str → Option Nat) (xK : Str → KM.OS) (by_ : Str) (b : KM.Bd Str) (need : Int) : KM.OS := KM.tig M (wtF ac by_) (KM.lst M) (KM.lA M) hK xK b need
section
variable {P : Program} {w : World} {K : PySem.W.Frag} {mg : Str → Option Value} {base : Heap}
def spTight (m n : Nat) : Sp := fun vs H Q _ => ∃ v dK pE dA by_ af ac sl b M hK xK, ∃ need : Int, vs = [v, .int need, .ref dK, .ref pE, .ref dA, .str by_] ∧ BdV af ac sl H b v ∧ bdDep b ≤ n ∧ n ≤ 20 ∧ (∃ j, M.cs.length ≤ j + m ∧ ∀ c ∈ b.pushes, c ∈ M.cs.drop j) ∧ (∀ f ∈ b.calls, f ∈ M.fs) ∧ M.Ok ∧ (∀ c ∈ M.cs, bdDep (M.am c) ≤ 20) ∧
  TigE af ac M hK xK H dK pE dA ∧ ∀ v' H', Same H H' → PsV H' (tigM ac M hK xK by_ b need) v' → Q v' H'
def spTightP : Nat → Sp
  | 0 => fun _ _ _ _ => False
  | m + 1 => spTight m 20
theorem tight_step (T : Txt K mg) {m n k k2 : Nat} (hk6 : 24 ≤ k) (hk2 : k2 ≤ k) (c__law_tight : Cal P w K mg base k "_law_tight" (spTight m n)) (c_tight2 : Cal P w K mg base k2 "_law_tight" (spTightP m)) : Cal P w K mg base (k + 1) "_law_tight" (spTight m (n + 1)) := by
  have c__law_plus := c_law_plus (P := P) (w := w) (base := base) T
  have c__law_less := c_law_less (P := P) (w := w) (base := base) T
  have c__law_weight := c_law_weight (P := P) (w := w) (base := base) T
  obtain ⟨fE, fdE, psE, FE, g__law_ends, kpE, biE⟩ := (c_law_ends (P := P) (w := w) (base := base) T 20).ex
  have c__law_enters := c_law_enters (P := P) (w := w) (base := base) T ⟨⟨fdE, psE, FE, biE⟩, kpE⟩
  refine cal_of T.d_law_tight sc_law_tight (fun _ _ _ _ _ _ us hl => match us, hl with | [_, _, _, _, _, _], _ => rfl) (fun vs H Q E h => ?_) (fun f cdv A outer s H vs Q E hr h => ?_)
  · obtain ⟨_, _, _, _, _, _, _, _, _, _, _, _, _, rfl, _⟩ := h; rfl
  obtain ⟨v, dK, pE, dA, by_, af, ac, sl, b, M, hK, xK, need, rfl, hb, hn, hn20, ⟨j, hj, hp⟩, hc, ok, amd, TE, kk⟩ := h
  have nd := sc_law_tight.nd
  have hu := hu_of hr
  refine ⟨_, (pss_cons (ps_if (pt_cmpR op_le (pv 1) pe_int (nomark _)) (pss_one (ps_ret (pe_ifExp (pt_cmpR op_eq (pv 1) pe_int (nomark _)) (pe_tup (pa_cons pe_int (pa_cons (pe_tup pa_nil) pa_nil))) pe_non))) pss_nil)
  (pss_cons (ps_if (pt_cmpR op_eq (pe_ix ix_tup (pv 0) pe_int (fun _ _ => rfl)) pe_str (nomark _)) (pss_cons (ps_asg (pe_dget hu (pv 2) (pe_ix ix_tup (pv 0) pe_int (fun _ _ => rfl)) (fun _ _ => rfl)) (pg_tup (by rfl) (pgs_cons (pg_name (i := 6) nd rfl (Or.inl rfl)) (pgs_cons (pg_name (i := 7) nd rfl (Or.inl rfl)) pgs_nil))))
  (pss_one (ps_ret (pe_ifExp (pt_cmpR op_eq (pv 6) (pv 1) (nomark _)) (pe_c c__law_plus hr (by omega) rfl (pa_cons (pe_tup (pa_cons pe_int (pa_cons (pe_tup pa_nil) pa_nil))) (pa_cons (pv 7) pa_nil))) pe_non)))) pss_nil)
  (pss_cons (ps_if (pt_cmpR op_eq (pe_ix ix_tup (pv 0) pe_int (fun _ _ => rfl)) pe_str (nomark _)) (pss_cons (ps_setLc (i := 8) (own := [("_law_part", 14)]) rfl nd rfl rfl (sw_true rfl rfl rfl (by decide +kernel)) (pi_tup (pe_slice sl_tupA (pv 0) (po_some pe_int) po_none)) (blkOk_by (N := N_law_tight) (sc := defScope s_law_tight) (by decide +kernel)) (fun _ _ _ _ _ => (pg_name (i := 14) nd rfl (Or.inl rfl))) (fun _ _ _ _ _ => pts_nil) (fun _ _ _ _ _ => (pe_c c__law_tight hr (by omega) rfl (pa_cons (pv 14) (pa_cons (pv 1) (pa_cons (pv 2) (pa_cons (pv 3) (pa_cons (pv 4) (pa_cons (pv 5) pa_nil)))))))))
  (pss_one (ps_ret (pe_c c__law_less hr (by omega) rfl (pa_cons (pe_c c__law_plus hr (by omega) rfl (pa_cons (pe_tup (pa_cons pe_int (pa_cons (pe_tup (pa_cons pe_int pa_nil)) pa_nil))) (pa_cons (pe_ix ix_list (pv 8) pe_int (fun _ _ => rfl)) pa_nil))) (pa_cons (pe_c c__law_plus hr (by omega) rfl (pa_cons (pe_tup (pa_cons pe_int (pa_cons (pe_tup (pa_cons pe_int pa_nil)) pa_nil))) (pa_cons (pe_ix ix_list (pv 8) pe_int (fun _ _ => rfl)) pa_nil))) pa_nil)))))) pss_nil)
  (pss_cons (ps_if (pt_cmpR op_ne (pe_ix ix_tup (pv 0) pe_int (fun _ _ => rfl)) pe_str (nomark _)) (pss_one (ps_ret pe_non)) pss_nil)
  (pss_cons (ps_set (i := 9) nd rfl (Or.inl rfl) (pe_op op_sub (pv 1) (pe_c c__law_weight hr (by omega) rfl (pa_cons (pv 0) (pa_cons (pv 5) pa_nil)))))
  (pss_cons (ps_set (i := 10) nd rfl (Or.inl rfl) (pe_c c__law_tight hr (by omega) rfl (pa_cons (pe_ix ix_tup (pv 0) pe_int (fun _ _ => rfl)) (pa_cons (pv 9) (pa_cons (pv 2) (pa_cons (pv 3) (pa_cons (pv 4) (pa_cons (pv 5) pa_nil))))))))
  (pss_cons (ps_set (i := 11) nd rfl (Or.inl rfl) (pe_c c__law_plus hr (by omega) rfl (pa_cons (pe_tup (pa_cons pe_int (pa_cons (pe_tup pa_nil) pa_nil))) (pa_cons (pv 10) pa_nil))))
  (pss_cons (ps_set (i := 12) nd rfl (Or.inl rfl) (pe_c c__law_plus hr (by omega) rfl (pa_cons (pe_tup (pa_cons pe_int (pa_cons (pe_tup pa_nil) pa_nil))) (pa_cons (pe_c c__law_enters hr (by omega) rfl (pa_cons (pv 0) (pa_cons (pe_ix ix_tup (pv 3) pe_int (fun _ _ => rfl)) (pa_cons (pe_ix ix_tup (pv 3) pe_int (fun _ _ => rfl)) (pa_cons (pe_glob (v := .ref _) rfl g__law_ends rfl) pa_nil))))) pa_nil))))
  (pss_cons (ps_if (pt_cmpR op_isN (pv 12) pe_non (nomark _)) (pss_one (ps_ret (pv 11))) pss_nil)
  (pss_cons (ps_set (i := 13) nd rfl (Or.inl rfl) (pe_c c_tight2 hr hk2 rfl (pa_cons (pe_dget hu (pv 4) (pe_ix ix_tup (pv 0) pe_int (fun _ _ => rfl)) (fun _ _ => rfl)) (pa_cons (pv 1) (pa_cons (pv 2) (pa_cons (pv 3) (pa_cons (pv 4) (pa_cons (pv 5) pa_nil))))))))
  (pss_one (ps_ret (pe_c c__law_less hr (by omega) rfl (pa_cons (pv 11) (pa_cons (pe_c c__law_plus hr (by omega) rfl (pa_cons (pv 12) (pa_cons (pv 13) pa_nil))) pa_nil))))))))))))))), ?_⟩
  refine ⟨_, rfl, _, _, rfl, rfl, _, rfl, ?_⟩
  by_cases n0 : need ≤ 0
  · refine dT n0 ⟨_, rfl, rfl, _, rfl, ?_⟩
    by_cases n1 : need = 0
    · refine dT (by rw [n1]) ⟨by show 0 ≤ sizeLine; decide, fun t0 h0 => ⟨by show 2 ≤ sizeLine; decide, fun u0 hu0 => ?_⟩⟩
      obtain ⟨s1, ho⟩ := zero_at h0 hu0
      exact kk _ _ s1 (by subst n1; show PsV _ (KM.tigB _ _ _ _ _ _ b 0) _; rw [KM.tigB_zero]; exact ho)
    · refine dF (vint_ne n1) (kk _ _ (Same.refl _) ?_)
      show PsV _ (KM.tigB _ _ _ _ _ _ b need) _
      rw [KM.tigB_neg b (by omega)]; rfl
  refine dF n0 ?_
  have gp : ∀ a : KM.OS, KM.grd need a = a := fun a => by unfold KM.grd; rw [if_neg n0]
  obtain ⟨hkn, ⟨dT', dE', hpE, hFn, hAr⟩, kA, hA1, hA2⟩ := id TE
  have eN : ∀ r, tigM ac M hK xK by_ (.leaf r) need = none := fun r => gp none
  cases hb with
  | @ret p x hp0 ha =>
    refine ⟨_, rfl, p, _, _, _, rfl, rfl, SqT.of hp0, rfl, rfl, _, rfl, dF (by decide) ?_⟩
    refine ⟨_, rfl, p, _, _, _, rfl, rfl, SqT.of hp0, rfl, rfl, _, rfl, dF (by decide) ?_⟩
    refine ⟨_, rfl, p, _, _, _, rfl, rfl, SqT.of hp0, rfl, rfl, _, rfl, iT (by decide) (kk _ _ (Same.refl _) ?_)⟩
    rw [eN]; rfl
  | @rai p x hp0 ha =>
    refine ⟨_, rfl, p, _, _, _, rfl, rfl, SqT.of hp0, rfl, rfl, _, rfl, dF (by decide) ?_⟩
    refine ⟨_, rfl, p, _, _, _, rfl, rfl, SqT.of hp0, rfl, rfl, _, rfl, dF (by decide) ?_⟩
    refine ⟨_, rfl, p, _, _, _, rfl, rfl, SqT.of hp0, rfl, rfl, _, rfl, iT (by decide) (kk _ _ (Same.refl _) ?_)⟩
    rw [eN]; rfl
  | @ask p nm q m' n1 n2 hp0 ha =>
    refine ⟨_, rfl, p, _, _, _, rfl, rfl, SqT.of hp0, rfl, rfl, _, rfl, dF (by decide) ?_⟩
    refine ⟨_, rfl, p, _, _, _, rfl, rfl, SqT.of hp0, rfl, rfl, _, rfl, dF (by decide) ?_⟩
    refine ⟨_, rfl, p, _, _, _, rfl, rfl, SqT.of hp0, rfl, rfl, _, rfl, iT (by decide) (kk _ _ (Same.refl _) ?_)⟩
    rw [eN]; rfl
  | @call p g q n1 n2 hp0 ha =>
    obtain ⟨kK, k1, k2⟩ := hkn
    obtain ⟨v, ev, qk, z, rfl, hq, hz⟩ := k2.val (hc g (by simp [KM.Bd.calls]))
    refine ⟨_, rfl, p, _, _, _, rfl, rfl, SqT.of hp0, rfl, rfl, _, rfl, dT (by decide) ?_⟩
    refine ⟨_, rfl, _, rfl, p, _, _, _, rfl, rfl, SqT.of hp0, rfl, dK, _, rfl, dgetS (.inl k1) ev, ?_⟩
    have eT : tigM ac M hK xK by_ (.call g) need = if (hK g).map (fun m => (m : Int)) = some need then KM.pl KM.one (xK g) else none := gp _
    cases eh : hK g with
    | none =>
      rw [eh] at hq eT
      refine ⟨qk, _, rfl, SqT.of hq, rfl, _, _, rfl, _, _, rfl, rfl, ?_⟩
      refine ⟨_, rfl, _, rfl, rfl, _, rfl, dF (fun z => nomatch z) (kk _ _ (Same.refl _) ?_)⟩
      rw [eT, if_neg (fun z => nomatch z)]; rfl
    | some hh =>
      rw [eh] at hq eT
      refine ⟨qk, _, rfl, SqT.of hq, rfl, _, _, rfl, _, _, rfl, rfl, ?_⟩
      refine ⟨_, rfl, _, rfl, rfl, _, rfl, ?_⟩
      by_cases e : ((hh : Nat) : Int) = need
      · refine dT (by rw [← e]; rfl) ⟨by show 0 ≤ sizeLine; decide, fun t0 h0 => ⟨by show 2 ≤ sizeLine; decide, fun u0 hu0 => ?_⟩⟩
        obtain ⟨s1, ho⟩ := one_at h0 hu0
        generalize upd (upd H t0 (.tup [])) u0 (.tup [.int 1, .ref t0]) = H1 at s1 ho ⊢
        refine ⟨_, rfl, .ref u0, z, KM.one, _, rfl, ho, hz.le (Same.le s1), fun v1 H2 s2 hv1 => kk _ _ (s1.trans s2) ?_⟩
        rw [eT, if_pos (by rw [← e]; rfl)]; exact hv1
      · refine dF (vint_ne e) (kk _ _ (Same.refl _) ?_)
        rw [eT, if_neg (fun z => e (by injection z))]; rfl
  | @test p nm q m' y z b1 b2 n1 n2 hp0 ha h1 h2 =>
    have hn' : max (bdDep b1) (bdDep b2) + 1 ≤ n + 1 := hn
    refine ⟨_, rfl, p, _, _, _, rfl, rfl, SqT.of hp0, rfl, rfl, _, rfl, dF (by decide) ?_⟩
    refine ⟨_, rfl, p, _, _, _, rfl, rfl, SqT.of hp0, rfl, rfl, _, rfl, dT (by decide) ?_⟩
    refine ⟨_, rfl, 3, rfl, p, _, rfl, SqT.of hp0, fun z => absurd (show HT.sIx 5 0 (some 3) = 0 from z.1) (by decide), fun _ u hu0 => ?_⟩
    have s1 : Same H (upd H u (.tup [y, z])) := Same.upd hu0
    have hu1 : (upd H u (.tup [y, z])) u = some (.tup [y, z]) := upd_same
    generalize hcut : cutV [.str "test", .str nm, .ref q, y, z] (some 3) none = xs
    have exs : xs = [y, z] := hcut.symm
    subst exs
    clear hcut
    generalize upd H u (.tup [y, z]) = H1 at s1 hu1 ⊢
    refine ⟨u, rfl, ⟨_, SqT.of hu1⟩, fun D hD => ?_⟩
    refine lc_map walk_tup hD (fun H' s => SqT.of (s _ _ hu1)) (by show 2 ≤ sizeLine; decide) (fun i v H' => PsV H' (if i = 0 then tigM ac M hK xK by_ b1 need else tigM ac M hK xK by_ b2 need) v) (fun i y H H' ws hd bu q => q.le (But.le bu hd id)) (fun i H x H' _ y => by rw [y.1]; exact Same.refl _) (fun i x' Ha Hb Q' hi sa y kq => ?_) (fun Ha ys sa hd hl hr => ?_)
    · have sA := s1.trans sa
      obtain ⟨rfl, hx⟩ := y
      have TA := TE.same sA
      match i, hx, hi with
      | 0, hx, _ =>
        cases hx
        exact ⟨rfl, _, rfl, _, rfl, _, rfl, _, rfl, _, rfl, _, rfl, y, dK, pE, dA, by_, af, ac, sl, b1, M, hK, xK, need, rfl, h1.le (Same.le sA), by omega, by omega, ⟨j, hj, fun c hc => hp c (by simp [KM.Bd.pushes, hc])⟩, fun f hf => hc f (by simp [KM.Bd.calls, hf]), ok, amd, TA, fun v' H' s' hv' => kq v' H' s' hv'⟩
      | 1, hx, _ =>
        cases hx
        exact ⟨rfl, _, rfl, _, rfl, _, rfl, _, rfl, _, rfl, _, rfl, z, dK, pE, dA, by_, af, ac, sl, b2, M, hK, xK, need, rfl, h2.le (Same.le sA), by omega, by omega, ⟨j, hj, fun c hc => hp c (by simp [KM.Bd.pushes, hc])⟩, fun f hf => hc f (by simp [KM.Bd.calls, hf]), ok, amd, TA, fun v' H' s' hv' => kq v' H' s' hv'⟩
    match ys, hl with
    | [w0, w1], _ =>
    have hw0 := hr 0 w0 rfl
    have hw1 := hr 1 w1 rfl
    rw [if_pos rfl] at hw0
    rw [if_neg (by decide)] at hw1
    have sA := s1.trans sa
    refine ⟨by show 1 ≤ sizeLine; decide, fun t3 h3 => ⟨by show 2 ≤ sizeLine; decide, fun u3 hu3 => ?_⟩⟩
    obtain ⟨s6, ho1⟩ := bit1_at h3 hu3
    generalize upd (upd Ha t3 (.tup [.int 1])) u3 (.tup [.int 1, .ref t3]) = H6 at s6 ho1 ⊢
    refine ⟨_, rfl, D, _, _, _, rfl, rfl, SqL.of (s6 _ _ hd), rfl, .ref u3, w0, _, _, rfl, ho1, hw0.le (Same.le s6), fun v1 H7 s7 hv1 => ⟨by show 1 ≤ sizeLine; decide, fun t4 h4 => ⟨by show 2 ≤ sizeLine; decide, fun u4 hu4 => ?_⟩⟩⟩
    obtain ⟨s8, ho2⟩ := bit0_at h4 hu4
    generalize upd (upd H7 t4 (.tup [.int 0])) u4 (.tup [.int 1, .ref t4]) = H8 at s8 ho2 ⊢
    have s68 := s6.trans (s7.trans s8)
    refine ⟨_, rfl, D, _, _, _, rfl, rfl, SqL.of (s68 _ _ hd), rfl, .ref u4, w1, _, _, rfl, ho2, hw1.le (Same.le s68), fun v2 H9 s9 hv2 => ⟨v1, v2, _, _, rfl, hv1.le (Same.le (s8.trans s9)), hv2, fun v3 hv3 => kk _ _ (sA.trans (s68.trans s9)) ?_⟩⟩
    have eT : tigM ac M hK xK by_ (.test b1 b2) need = KM.mn (KM.pl (KM.bitS true) (tigM ac M hK xK by_ b1 need)) (KM.pl (KM.bitS false) (tigM ac M hK xK by_ b2 need)) := gp _
    rw [eT]; exact hv3
  | @push p c q y b1 n1 n2 hp0 ha h1 =>
    have hn' : bdDep b1 + 1 ≤ n + 1 := hn
    have hcd : c ∈ M.cs.drop j := hp c (by simp [KM.Bd.pushes])
    have hcm : c ∈ M.cs := List.mem_of_mem_drop hcd
    have eT : tigM ac M hK xK by_ (.push c b1) need = KM.mn (KM.pl KM.one (tigM ac M hK xK by_ b1 (need - (wtF ac by_ c : Nat)))) (KM.pl (KM.pl KM.two (KM.entS (KM.lst M) (KM.lA M) c b1)) (tigM ac M hK xK by_ (M.am c) need)) := by
      have e1 : tigM ac M hK xK by_ (.push c b1) need = KM.mn (KM.pl KM.one (tigM ac M hK xK by_ b1 (need - (wtF ac by_ c : Nat)))) (KM.pl (KM.pl KM.two (KM.entS (KM.lst M) (KM.lA M) c b1)) ((KM.tarms M (wtF ac by_) (KM.lst M) (KM.lA M) hK xK c).2 need)) := gp _
      rw [e1, KM.tarms_ok ok (KM.lst M) (KM.lA M) hK xK hcm]
    have hbP : BdV af ac sl H (.push c b1) (.ref p) := .push n1 n2 hp0 ha h1
    refine ⟨_, rfl, p, _, _, _, rfl, rfl, SqT.of hp0, rfl, rfl, _, rfl, dF (by decide) ?_⟩
    refine ⟨_, rfl, p, _, _, _, rfl, rfl, SqT.of hp0, rfl, rfl, _, rfl, dF (by decide) ?_⟩
    refine ⟨_, rfl, p, _, _, _, rfl, rfl, SqT.of hp0, rfl, rfl, _, rfl, iF (by decide) ?_⟩
    refine ⟨_, rfl, _, rfl, _, rfl, .ref p, af, ac, sl, c, b1, by_, rfl, hbP, _, _, rfl, rfl, ?_⟩
    refine ⟨_, rfl, p, _, _, _, rfl, rfl, SqT.of hp0, rfl, _, rfl, _, rfl, _, rfl, _, rfl, _, rfl, y, dK, pE, dA, by_, af, ac, sl, b1, M, hK, xK, _, rfl, h1, by omega, by omega, ⟨j, hj, fun d hd => hp d (by simp [KM.Bd.pushes, hd])⟩, fun f hf => hc f (by simpa [KM.Bd.calls] using hf), ok, amd, TE, fun v1 H1 s1 hv1 => ?_⟩
    refine ⟨by show 0 ≤ sizeLine; decide, fun t0 h0 => ⟨by show 2 ≤ sizeLine; decide, fun u0 hu0 => ?_⟩⟩
    obtain ⟨s2, ho⟩ := one_at h0 hu0
    generalize upd (upd H1 t0 (.tup [])) u0 (.tup [.int 1, .ref t0]) = H2 at s2 ho ⊢
    refine ⟨_, rfl, .ref u0, v1, KM.one, _, rfl, ho, hv1.le (Same.le s2), fun v2 H3 s3 hv2 => ?_⟩
    refine ⟨by show 0 ≤ sizeLine; decide, fun t5 h5 => ⟨by show 2 ≤ sizeLine; decide, fun u5 hu5 => ?_⟩⟩
    obtain ⟨s4, ho2⟩ := two_at h5 hu5
    generalize upd (upd H3 t5 (.tup [])) u5 (.tup [.int 2, .ref t5]) = H4 at s4 ho2 ⊢
    have s04 := s1.trans (s2.trans (s3.trans s4))
    refine ⟨_, rfl, _, rfl, pE, _, _, _, rfl, rfl, SqT.of (s04 _ _ hpE), rfl, _, rfl, pE, _, _, _, rfl, rfl, SqT.of (s04 _ _ hpE), rfl, .ref p, dT', dE', af, ac, sl, c, b1, M.fs, M.cs.reverse, KM.lst M, KM.lA M, rfl, hbP.le (Same.le s04), by omega, hFn.same rle_p2 s04, hAr.same rle_p2 s04, fun f hf => hc f (by simpa [KM.Bd.calls] using hf), fun d hd => List.mem_reverse.mpr (List.mem_of_mem_drop (hp d (by simp [KM.Bd.pushes, hd]))), List.mem_reverse.mpr hcm, fun v3 H5 s5 hv3 => ?_⟩
    refine ⟨.ref u5, v3, KM.two, _, rfl, PsV.le (s := KM.two) (Same.le s5) ho2, hv3, fun v4 H6 s6 hv4 => ?_⟩
    have s46 := s4.trans (s5.trans s6)
    have s06 := s04.trans (s5.trans s6)
    have hv2' := hv2.le (Same.le s46)
    generalize KM.pl KM.two (KM.entS (KM.lst M) (KM.lA M) c b1) = EN at hv4 eT
    cases EN with
    | none =>
      have e4 : v4 = .non := hv4
      subst e4
      refine ⟨_, rfl, rfl, _, rfl, dT rfl ⟨_, rfl, kk _ _ s06 ?_⟩⟩
      rw [eT, KM.none_pl, KM.mn_none]; exact hv2'
    | some en =>
      obtain ⟨p4, t4, rfl, r1, r2⟩ := id (show PrV _ en v4 from hv4)
      refine ⟨_, rfl, rfl, _, rfl, dF (fun z => nomatch z) ?_⟩
      obtain ⟨i, hi, ei⟩ := List.mem_iff_getElem.mp hcd
      have hi' : M.cs[j + i]? = some c := by
        rw [List.getElem_drop] at ei
        rw [List.getElem?_eq_getElem (by rw [List.length_drop] at hi; omega), ei]
      have hil : j + i < M.cs.length := (List.getElem?_eq_some_iff.mp hi').1
      obtain ⟨m0, rfl⟩ : ∃ m0, m = m0 + 1 := ⟨m - 1, by omega⟩
      obtain ⟨bv, ebv, hbv⟩ := hA2.val hcm
      refine ⟨_, rfl, _, rfl, p, _, _, _, rfl, rfl, SqT.of (s06 _ _ hp0), rfl, dA, _, rfl, dgetS (.inl (s06 _ _ hA1)) ebv, _, rfl, _, rfl, _, rfl, _, rfl, _, rfl, ?_⟩
      refine ⟨bv, dK, pE, dA, by_, af, ac, ac c + 1, M.am c, M, hK, xK, need, rfl, hbv.le (Same.le s06), amd c hcm, Nat.le_refl _, ⟨j + i + 1, by omega, fun d hd => ord_drop ok.ord hi' d hd⟩, fun f hf => ok.ac c hcm f hf, ok, amd, TE.same s06, fun v5 H7 s7 hv5 => ?_⟩
      refine ⟨_, rfl, _, rfl, _, rfl, .ref p4, v5, some en, _, rfl, PsV.le (s := some en) (Same.le s7) hv4, hv5, fun v6 H8 s8 hv6 => ⟨v2, v6, _, _, rfl, hv2'.le (Same.le (s7.trans s8)), hv6, fun v7 hv7 => kk _ _ (s06.trans (s7.trans s8)) ?_⟩⟩
      rw [eT]; exact hv7
theorem c_law_tight (T : Txt K mg) : ∀ m n, Cal P w K mg base (25 + 21 * m + n) "_law_tight" (spTight m n)
  | m, 0 => by
    refine Cal.mono (j := 1) ?_ (by omega)
    refine cal_of T.d_law_tight sc_law_tight (fun _ _ _ _ _ _ us hl => match us, hl with | [_, _, _, _, _, _], _ => rfl) (fun vs H Q E h => ?_) (fun f cdv A outer s H vs Q E hr h => ?_)
    · obtain ⟨_, _, _, _, _, _, _, _, _, _, _, _, _, rfl, _⟩ := h; rfl
    obtain ⟨v, dK, pE, dA, by_, af, ac, sl, b, M, hK, xK, need, rfl, hb, hn, _⟩ := h
    have := bdDep_pos b
    omega
  | 0, n + 1 => tight_step T (k := 25 + n) (k2 := 1) (by omega) (by omega) ((c_law_tight T 0 n).mono (by omega)) (cal_of (k := 0) T.d_law_tight sc_law_tight (fun _ _ _ _ _ _ us hl => match us, hl with | [_, _, _, _, _, _], _ => rfl) (fun vs H Q E h => h.elim) (fun f cdv A outer s H vs Q E hr h => h.elim))
  | m + 1, n + 1 => (tight_step T (m := m + 1) (n := n) (k := 25 + 21 * (m + 1) + n) (k2 := 25 + 21 * m + 20) (by omega) (by omega) (c_law_tight T (m + 1) n) (c_law_tight T m 20)).mono (by omega)
  termination_by m n => (m, n)
end
end K52

namespace K52
open PySem PySem.Spec PyProof.Rows L2
section
variable {X : Cx}
theorem op_isF : OpR X (compareOp .Is) (fun x y H Q => y = .bl false ∧ (x = .non ∨ ∃ p, x = .ref p) ∧ Q (.bl false) H) := by
  intro pins s σ H x y v u Q I rx ry h
  obtain ⟨rfl, hx, q⟩ := h
  cases ry
  rcases hx with rfl | ⟨p, rfl⟩
  · cases rx
    exact wpAny_pure ⟨.bl false, H, I, rfl, q⟩
  · cases rx
    exact wpAny_pure ⟨.bl false, H, I, rfl, q⟩
def scD : KM.OS → PyData
  | none => .none
  | some s => .tuple [.int (s.n : Nat), bD s.b]
theorem shaped_sc (a : KM.OS) : SeqAt.shaped (scD a) = true := by
  cases a with
  | none => rfl
  | some s =>
    have h : ∀ l : List Bool, PyData.canLayAll0 (l.map fun b => .int (bI b)) = true ∧ PyData.depthAll (l.map fun b => .int (bI b)) = 0 := by
      intro l
      induction l with
      | nil => exact ⟨rfl, rfl⟩
      | cons a l ih =>
        rw [List.map_cons]
        exact ⟨by unfold PyData.canLayAll0; rw [ih.1]; rfl, by unfold PyData.depthAll; rw [ih.2]; rfl⟩
    have h1 : PyData.canLay0 (bD s.b) = true := by unfold bD PyData.canLay0; exact (h s.b).1
    have h2 : PyData.depth (bD s.b) = 1 := by unfold bD PyData.depth; rw [(h s.b).2]
    unfold SeqAt.shaped scD
    unfold PyData.canLay0 PyData.depth
    unfold PyData.canLayAll0 PyData.depthAll
    unfold PyData.canLayAll0 PyData.depthAll
    rw [h1, h2]; rfl
theorem dp_sc {K : PySem.W.Frag} {H : Hp} {a : KM.OS} {v : V} (h : PsV H a v) : Dp K H v (scD a) := by
  cases a with
  | none =>
    have e : v = .non := h
    subst e
    exact .non
  | some s =>
    obtain ⟨p, t, rfl, h1, h2, _⟩ := id (show PrV H s v from h)
    exact .tup (SqT.of h1) (.cons (.int _) (.cons (dp_bits h2) .nil))
theorem op_nePs {k : Nat} (hr : Room k X.A) : OpR X (compareOp .NotEq) (fun x y H Q => ∃ a : KM.OS, PsV H a x ∧ PsV H a y ∧ Q (.bl false) H) := by
  intro pins s σ H x y v u Q I rx ry h
  obtain ⟨a, ha, hb, q⟩ := h
  refine op_neD hr.units pins s σ H x y v u Q I rx ry ⟨scD a, scD a, dp_sc ha, dp_sc hb, shaped_sc a, shaped_sc a, ?_⟩
  rw [SeqAt.eqv_refl _ (SeqAt.canLay_of_shaped (shaped_sc a))]
  exact q
end
end K52

namespace K52
open PySem PySem.Spec PyProof.Rows L2 NdefX LamX
def EX (d : Addr) (H H' : Hp) : Prop := ∀ b o, b ≠ d → H b = some o → (∀ ps, o ≠ .tbl ps) → H' b = some o
theorem EX.refl (d : Addr) (H : Hp) : EX d H H := fun _ _ _ h _ => h
theorem EX.trans {d : Addr} {H H1 H2 : Hp} (a : EX d H H1) (b : EX d H1 H2) : EX d H H2 := fun c o n h m => b c o n (a c o n h m) m
theorem ExtN.ex {d : Addr} {H H' : Hp} (e : ExtN H H') : EX d H H' := fun c o _ h m => e c o h m
theorem Same.ex {d : Addr} {H H' : Hp} (e : Same H H') : EX d H H' := fun c o _ h _ => e c o h
theorem EX.upd {d : Addr} {H : Hp} {o : HO} : EX d H (L2.upd H d o) := fun c u n h _ => by rw [upd_ne n]; exact h
theorem EX.le {d : Addr} {H H' : Hp} {o : HO} (e : EX d H H') (h : H d = some o) (n : ¬ Stb o) : Le H H' := fun b u st q => e b u (fun z => by rw [z, h] at q; cases q; exact n st) q (fun ps z => by rw [z] at st; exact st)
theorem EX.extN {d : Addr} {H H' : Hp} (e : EX d H H') (h : H d = none) : ExtN H H' := fun b o q m => e b o (ne_of_none q h) q m
theorem FnD.ex {d e : Addr} {H H' : Hp} {names : List Str} {F : Str → KM.E2} {o : HO} (x : EX d H H') (hd : H d = some o) (n : ¬ Stb o) (ne : e ≠ d) (h : FnD P2V H e names F) : FnD P2V H' e names F := by
  obtain ⟨k, h1, h2⟩ := h
  exact ⟨k, x _ _ ne h1 (by intro ps z; cases z), h2.imp fun _ v _ q => q.le (x.le hd n)⟩
theorem ArD.ex {d e : Addr} {H H' : Hp} {names : List Str} {A : Str → Bool × KM.E2} {o : HO} (x : EX d H H') (hd : H d = some o) (n : ¬ Stb o) (ne : e ≠ d) (h : ArD P2V H e names A) : ArD P2V H' e names A := by
  obtain ⟨k, h1, h2⟩ := h
  exact ⟨k, x _ _ ne h1 (by intro ps z; cases z), h2.imp fun _ v _ q => ArV.le rle_p2 (x.le hd n) q⟩
theorem TabA.ext {C : Addr} {af ac : Str → Nat} {M : KM.Tb Str} {fl cl R : List Str} {H H' : Hp} {a : Addr} (e : ExtN H H') (h : TabA C af ac M fl cl R H a) : TabA C af ac M fl cl R H' a := by
  obtain ⟨ok, dx, pF, pC, pN, pA, pO, ob, fns, css, kvs, h1, h2, h3, h4, h5, h6, h7, h8, h9, h10⟩ := h
  have l := ExtN.le e
  exact ⟨ok, dx, pF, pC, pN, pA, pO, ob, fns, css, kvs, e _ _ h1 (by intro ps z; cases z), e _ _ h2 (by intro ps z; cases z), Paired.mono (fun _ _ q => FnV.le l q) h3, e _ _ h4 (by intro ps z; cases z), Paired.mono (fun _ _ q => CsV.le l q) h5, e _ _ h6 (by intro ps z; cases z), h7, e _ _ h8 (by intro ps z; cases z), h9.imp (fun x v _ q => ArmV.le l q), e _ _ h10 (by intro ps z; cases z)⟩
theorem tabsN_dk {T : List NTab} {H : Hp} {d : Addr} {ks ks' : List (Key × V)} (hd : H d = some (.dK ks)) (h : TabsN T H) : TabsN T (upd H d (.dK ks')) := fun p hp => by
  obtain ⟨ps, h1, h2, h3⟩ := h p hp
  refine ⟨ps, by rw [upd_ne (ne_of h1 hd (by intro z; cases z))]; exact h1, h2, fun pos cv hc => ?_⟩
  obtain ⟨c, e1, e2⟩ := h3 pos cv hc
  exact ⟨c, e1, by rw [upd_ne (ne_of e2 hd (by intro z; unfold CodeO at z; cases z))]; exact e2⟩
open Classical in
/-- f and what it calls -/
noncomputable def SF (M : KM.Tb Str) (fl : List Str) (f : Str) : List Str := fl.filter fun t => decide (KM.InS M (KM.entC M (KM.cst M fl)) f t)
open Classical in
theorem sf_ok {M : KM.Tb Str} {fl : List Str} (o : M.Ok) (nd : fl.Nodup) (fm : ∀ x, x ∈ fl ↔ x ∈ M.fs) : ∀ f ∈ M.fs, (SF M fl f).Nodup ∧ ∀ t, t ∈ SF M fl f ↔ KM.InS M (KM.entC M (KM.cst M fl)) f t := fun f hf => by
  refine ⟨nd.sublist List.filter_sublist, fun t => ?_⟩
  unfold SF
  rw [List.mem_filter, decide_eq_true_eq]
  exact ⟨fun h => h.2, fun h => ⟨(fm t).mpr (KM.InS.fs o hf h), h⟩⟩
section
variable {P : Program} {w : World} {K : PySem.W.Frag} {mg : Str → Option Value} {base : Heap}
theorem ht_of {C a : Addr} {H : Hp} {Q : VK} {E : XK} {x by_ : Str} {af ac : Str → Nat} {M : KM.Tb Str} {fl cl Rd S : List Str} {o : Option Nat} (hT : TabA C af ac M fl cl Rd H a) (hx : x ∈ fl) (hSn : S.Nodup) (hS : ∀ t, t ∈ S ↔ KM.InS M (KM.entC M (KM.cst M fl)) x t)
    (ho : o = (KM.hgt M "" (wtF ac by_) (KM.cst M fl) S).map fun h => h x) (k : ∀ H', Same H H' → Q (htV o) H') : spHt C [.ref a, .str x, .str by_] H Q E :=
  ⟨a, x, by_, af, ac, M, fl, cl, Rd, S, rfl, hT, hx, hSn, hS, fun H' s' => by have := k H' s'; rw [ho] at this; exact this⟩
def spRight (Pt Pi : Addr) (C : Addr) : Sp := fun vs H Q _ => ∃ t a by_ af ac M fl cl Rd, vs = [.ref t, .ref a, .str by_] ∧ RowsOk af ac M ∧ RowsV af ac M H t ∧ TabA C af ac M fl cl Rd H a ∧ TabsN (TTs Pt Pi) H ∧ ∀ H', ExtN H H' → TabsN (TTs Pt Pi) H' → Q (.bl true) H'
theorem c_law_right (T : Txt K mg) {ct Pt ci Pi : Addr} (TB : TbA base mg ct Pt ci Pi) (hcode : ∀ f fd, FunD K "tallest" "tallest" (defArgs s_tallest) (defBody s_tallest) (defScope s_tallest) [] [("by", .str "frames")] f fd → mg "tallest" = some (.ref f) → fd.code = .ref ct) : Cal P w K mg base 130 "_law_right" (spRight Pt Pi (cT K)) := by
  have c__law_tight := c_law_tight (P := P) (w := w) (base := base) T 4 20
  have c__law_pair := c_law_pair (P := P) (w := w) (base := base) T
  obtain ⟨fh, fdh, psh, Fh, gh, kph, bh⟩ := (c_height (P := P) (w := w) (base := base) T).ex
  obtain ⟨fl_, fdl, psl, Fl, gl, kpl, bl⟩ := (c_tallest (P := P) (w := w) T TB hcode).ex
  obtain ⟨fE, fdE, psE, FE, g__law_ends, kpE, biE⟩ := (c_law_ends (P := P) (w := w) (base := base) T 20).ex
  have EF : EndF P w K mg base fE := ⟨⟨fdE, psE, FE, biE⟩, kpE⟩
  have c__law_settled := c_law_settled (P := P) (w := w) (base := base) T EF
  have c__law_arms := c_law_arms (P := P) (w := w) (base := base) T EF
  refine cal_of T.d_law_right sc_law_right (fun _ _ _ _ _ _ us hl => match us, hl with | [_, _, _], _ => rfl) (fun vs H Q E h => ?_) (fun f cdv A outer s H vs Q E hr h => ?_)
  · obtain ⟨_, _, _, _, _, _, _, _, _, rfl, _⟩ := h; rfl
  obtain ⟨t, a, by_, af, ac, M, fl, cl, Rd, rfl, ok, hrows, hT, hTb, kk⟩ := h
  have nd := sc_law_right.nd
  have hu := hu_of hr
  refine ⟨_, (pss_cons (ps_par3 (i := 3) (j := 4) (l := 5) (by rfl) nd rfl rfl rfl (by decide) (by decide) (by decide) rfl rfl rfl (pa_cons pe_dnewK (pa_cons pe_dnewK (pa_cons (pe_c c__law_settled hr (by decide) rfl (pa_cons (pv 0) (pa_cons pe_non (pa_cons (pe_glob (v := .ref _) rfl g__law_ends rfl) pa_nil)))) pa_nil))) (by rfl))
  (pss_cons (ps_set (i := 6) nd rfl (Or.inl rfl) (pe_tup (pa_cons (pv 5) (pa_cons (pe_c c__law_arms hr (by decide) rfl (pa_cons (pv 0) (pa_cons (pv 5) (pa_cons (pe_glob (v := .ref _) rfl g__law_ends rfl) pa_nil)))) pa_nil))))
  (pss_cons (ps_for PassesOwn.never rfl (pi_list (pe_ix ix_tup (pv 0) pe_int (fun _ _ => rfl))) (pg_tup (by rfl) (pgs_cons (pg_name (i := 7) nd rfl (Or.inl rfl)) (pgs_cons (pg_name (i := 8) nd rfl (Or.inl rfl)) (pgs_cons (pg_name (i := 9) nd rfl (Or.inl rfl)) (pgs_cons (pg_name (i := 10) nd rfl (Or.inl rfl)) pgs_nil))))) (pss_one (ps_dput hu (pv 4) (pv 7) (pv 10) rfl)))
  (pss_cons (ps_for PassesOwn.never rfl (pi_list (pe_ix ix_tup (pv 0) pe_int (fun _ _ => rfl))) (pg_name (i := 11) nd rfl (Or.inl rfl)) (pss_cons (ps_set (i := 12) nd rfl (Or.inl rfl) (pe_callN Fh (hr.mono (by decide)) rfl gh kph bh pass0 (pa_cons (pv 1) (pa_cons (pe_ix ix_tup (pv 11) pe_int (fun _ _ => rfl)) pa_nil)) (pk_cons (pv 2) pk_nil)))
  (pss_cons (ps_set (i := 13) nd rfl (Or.inl rfl) (pe_c c__law_pair hr (by decide) rfl (pa_cons (pe_callN Fl (hr.mono (by decide)) rfl gl kpl bl pass0 (pa_cons (pv 1) (pa_cons (pe_ix ix_tup (pv 11) pe_int (fun _ _ => rfl)) pa_nil)) (pk_cons (pv 2) pk_nil)) pa_nil)))
  (pss_cons (ps_if (PW.pt (pw_or (pt_cmpR op_isF (pv 13) pe_bl (nomark _)) (pw_or1 (PW.pt (pw_and (pt_cmpR op_isN (pv 12) pe_non (nomark _)) (pw_and1 (pt_cmpR op_notN (pv 13) pe_non (nomark _)))))))) (pss_one (ps_ret pe_bl)) pss_nil)
  (pss_one (ps_dput hu (pv 3) (pe_ix ix_tup (pv 11) pe_int (fun _ _ => rfl)) (pe_tup (pa_cons (pv 12) (pa_cons (pv 13) pa_nil))) rfl))))))
  (pss_cons (ps_for PassesOwn.never rfl (pi_list (pe_ix ix_tup (pv 0) pe_int (fun _ _ => rfl))) (pg_tup (by rfl) (pgs_cons (pg_name (i := 7) nd rfl (Or.inl rfl)) (pgs_cons (pg_name (i := 14) nd rfl (Or.inl rfl)) (pgs_cons (pg_name (i := 15) nd rfl (Or.inl rfl)) pgs_nil)))) (pss_cons (ps_asg (pe_dget hu (pv 3) (pv 7) (fun _ _ => rfl)) (pg_tup (by rfl) (pgs_cons (pg_name (i := 12) nd rfl (Or.inl rfl)) (pgs_cons (pg_name (i := 13) nd rfl (Or.inl rfl)) pgs_nil))))
  (pss_one (ps_if (pt_cmpR op_notN (pv 12) pe_non (nomark _)) (pss_one (ps_if (pt_cmpR (op_nePs hr) (pv 13) (pe_c c__law_tight hr (by decide) rfl (pa_cons (pv 15) (pa_cons (pv 12) (pa_cons (pv 3) (pa_cons (pv 6) (pa_cons (pv 4) (pa_cons (pv 2) pa_nil))))))) (nomark _)) (pss_one (ps_ret pe_bl)) pss_nil)) pss_nil))))
  (pss_one (ps_ret pe_bl))))))), ?_⟩
  have hrows0 := hrows
  obtain ⟨pF, pC, fns, css, ht, hpF, pf, hpC, pc⟩ := hrows
  have fz := ok.fz
  have cz := ok.cz
  have fL := pf.length
  have cL := pc.length
  have hz : 100 ≤ sizeLine := by decide
  let wt := wtF ac by_
  let hK : Str → Option Nat := KM.hOf M "" wt (KM.cst M fl) (SF M fl)
  let xK : Str → KM.OS := KM.xOf M "" wt (KM.cst M fl) (SF M fl)
  have tok := hT.ok
  have sok := sf_ok ok.ok tok.fnd tok.fm
  -- the dicts
  refine fun dK hdK => fun dA hdA => ?_
  have s1 := Same.upd (o := .dK []) hdK
  have hK1 : (upd H dK (.dK [])) dK = some (.dK []) := upd_same
  have s2 := Same.upd (o := .dK []) hdA
  have hA2 : (upd (upd H dK (.dK [])) dA (.dK [])) dA = some (.dK []) := upd_same
  have nKA : dK ≠ dA := ne_of_none hK1 hdA
  have hdA0 : H dA = none := s1.free hdA
  have hK2 := s2 _ _ hK1
  have s02 := s1.trans s2
  generalize upd (upd H dK (.dK [])) dA (.dK []) = H2 at hA2 hK2 s02 ⊢
  clear s1 s2 hK1 hdA
  refine ⟨_, rfl, t, af, ac, M, rfl, ok, rowsV_le s02 hrows0, fun dTo H3 s3 hF3 => ⟨_, _, _, rfl, ?_⟩⟩
  have hK3 := s3 _ _ hK2
  have hA3 := s3 _ _ hA2
  have s03 := s02.trans s3
  have ndT : ∀ {x : Addr}, H3 x = some (.dK []) → dTo ≠ x := fun hx z => by
    obtain ⟨k, h1, h2⟩ := hF3
    rw [z, hx] at h1
    cases h1
    have := h2.1
    exact ok.fne (by cases h : M.fs with
      | nil => rfl
      | cons a l => rw [h] at this; cases this)
  have nTK := ndT hK3
  have nTA := ndT hA3
  refine ⟨_, rfl, _, rfl, _, rfl, t, dTo, af, ac, M, KM.lst M, rfl, ok, rowsV_le s03 hrows0, hF3, fun dE H4 s4 hdE hAr4 => ⟨by show 2 ≤ sizeLine; decide, fun pE hpE => ?_⟩⟩
  have nEK : dE ≠ dK := (ne_of_none hK3 hdE).symm
  have nEA : dE ≠ dA := (ne_of_none hA3 hdE).symm
  have s5 := Same.upd (o := .tup [.ref dTo, .ref dE]) hpE
  have hpE5 : (upd H4 pE (.tup [.ref dTo, .ref dE])) pE = some (.tup [.ref dTo, .ref dE]) := upd_same
  have hF5 := hF3.same rle_p2 (s4.trans s5)
  have hAr5 := hAr4.same rle_p2 s5
  have s35 := s4.trans s5
  generalize upd H4 pE (.tup [.ref dTo, .ref dE]) = H5 at s5 s35 hpE5 hF5 hAr5 ⊢
  have hK5 := s35 _ _ hK3
  have hA5 := s35 _ _ hA3
  have s05 := s03.trans s35
  clear s35 s5 s4 hpE hAr4 hdE H4 hF3 hK3 hA3 ndT s03 s3 H3 hK2 hA2 s02 H2
  -- the arms
  refine ⟨_, rfl, t, _, _, _, rfl, rfl, SqT.of (s05 _ _ ht), rfl, pC, rfl, ⟨_, SqL.of (s05 _ _ hpC)⟩, ?_⟩
  have keepA : ∀ {H' : Hp}, But dA H5 H' → Same H H' := fun b => fun c o e => b c o (ne_of_none e hdA0) (s05 c o e)
  have cnd := ord_nd ok.ok.ord
  refine for_it walk_list (fun i σ H' => (∃ p7 p8 p9 p10, σ = [some (.ref t), some (.ref a), some (.str by_), some (.ref dK), some (.ref dA), some (.ref dTo), some (.ref pE), p7, p8, p9, p10, none, none, none, none, none]) ∧ But dA H5 H' ∧ ∃ kvs, H' dA = some (.dK kvs) ∧ DRel (M.cs.take i) (fun c v => BdV af ac (ac c + 1) H (M.am c) v) kvs)
    ⟨⟨_, _, _, _, rfl⟩, But.refl _ _, [], hA5, by rw [List.take_zero]; exact DRel.nil⟩ (fun i σ H' _ q => SqL.of (keepA q.2.1 _ _ hpC)) (fun i x σ Hn Hc hi q y => ?_) (fun σ H6 q => ?_)
  · obtain ⟨rfl, hx⟩ := y
    obtain ⟨⟨p7, p8, p9, p10, rfl⟩, bu, kA, k1, k2⟩ := q
    obtain ⟨c, hc, p, bv, rfl, hp, hcn, hca, hcb, hcs, hcd⟩ := paired_at pc hx
    have tk : M.cs.take (i + 1) = M.cs.take i ++ [c] := by rw [List.take_add_one, hc]; rfl
    have ng : c ∉ M.cs.take i := fun m => by
      obtain ⟨j2, hj2, ej⟩ := List.mem_iff_getElem.mp m
      have hj3 : j2 < i := by rw [List.length_take] at hj2; omega
      rw [List.getElem_take] at ej
      obtain ⟨hi1, ei⟩ := List.getElem?_eq_some_iff.mp hc
      have := (List.getElem_inj cnd).mp (ej.trans ei.symm)
      omega
    have kl := k2.length
    refine ⟨p, _, rfl, SqT.of (keepA bu _ _ hp), rfl, _, _, rfl, _, _, rfl, _, _, rfl, _, _, rfl, rfl, ?_⟩
    refine ⟨_, rfl, _, rfl, _, rfl, dA, _, rfl, DPut.k (k := Sum.inr c) k1 (by rw [kl, List.length_take]; omega), ⟨_, _, _, _, rfl⟩, bu.trans But.upd, _, upd_same, ?_⟩
    rw [tk]
    exact k2.new ng (fun _ _ _ q => q) hcb
  obtain ⟨⟨p7, p8, p9, p10, rfl⟩, bu6, kA, hA6, rA⟩ := q
  rw [← cL, List.take_length] at rA
  have s06 := keepA bu6
  have hK6 := bu6 _ _ nKA hK5
  have hpE6 := bu6 _ _ (ne_of hpE5 hA5 (by intro z; cases z)) hpE5
  have hF6 := hF5.but bu6 hA5 id nTA
  have hAr6 := hAr5.but bu6 hA5 id nEA
  clear hA5 hK5 hpE5 hF5 hAr5 bu6 keepA
  -- the scripts told
  have keepK : ∀ {H' : Hp}, EX dK H6 H' → ExtN H H' := fun b => fun c o e n => b c o (ne_of_none e hdK) (s06 c o e) n
  refine ⟨_, rfl, t, _, _, _, rfl, rfl, SqT.of (s06 _ _ ht), rfl, pF, rfl, ⟨_, SqL.of (s06 _ _ hpF)⟩, ?_⟩
  refine for_it walk_list (fun i σ H' => (∃ p11 p12 p13, σ = [some (.ref t), some (.ref a), some (.str by_), some (.ref dK), some (.ref dA), some (.ref dTo), some (.ref pE), p7, p8, p9, p10, p11, p12, p13, none, none]) ∧ EX dK H6 H' ∧ TabsN (TTs Pt Pi) H' ∧ KnD H' dK (M.fs.take i) hK xK)
    ⟨⟨_, _, _, rfl⟩, EX.refl _ _, TabsN.same s06 hTb, [], hK6, by rw [List.take_zero]; exact DRel.nil⟩ (fun i σ H' _ q => SqL.of (keepK q.2.1 _ _ hpF (by intro ps z; cases z))) (fun i x σ Hn Hc hi q y => ?_) (fun σ H7 q => ?_)
  · obtain ⟨rfl, hx⟩ := y
    obtain ⟨⟨p11, p12, p13, rfl⟩, ex, tb, hKn⟩ := q
    obtain ⟨nm, hnm, p, bv, rfl, hp, hcn, hca, hcb, hcs, hcd⟩ := paired_at pf hx
    have hin : nm ∈ M.fs := List.mem_of_getElem? hnm
    have hfl : nm ∈ fl := (tok.fm nm).mpr hin
    have eN := keepK ex
    have hpc := eN _ _ hp (by intro ps z; cases z)
    refine ⟨_, rfl, _, rfl, p, _, _, _, rfl, rfl, SqT.of hpc, rfl, _, rfl, rfl, rfl, ht_of (o := hK nm) (hT.ext eN) hfl (sok nm hin).1 (sok nm hin).2 rfl fun H8 s8 => ?_⟩
    have tk : M.fs.take (i + 1) = M.fs.take i ++ [nm] := by rw [List.take_add_one, hnm]; rfl
    have ng : nm ∉ M.fs.take i := fun m => by
      obtain ⟨j2, hj2, ej⟩ := List.mem_iff_getElem.mp m
      have hj3 : j2 < i := by rw [List.length_take] at hj2; omega
      rw [List.getElem_take] at ej
      obtain ⟨hi1, ei⟩ := List.getElem?_eq_some_iff.mp hnm
      have := (List.getElem_inj ok.ok.nd).mp (ej.trans ei.symm)
      omega
    refine ⟨_, rfl, _, rfl, p, _, _, _, rfl, rfl, SqT.of (s8 _ _ hpc), rfl, _, rfl, rfl, rfl, a, nm, by_, af, ac, M, fl, cl, Rd, SF M fl nm, rfl, (hT.ext eN).same s8, hfl, (sok nm hin).1, (sok nm hin).2, TabsN.same s8 tb, fun v H9 eN9 tN9 hv9 => ?_⟩
    refine ⟨v, _, rfl, hv9, fun v2 H10 s10 hv2 => ?_⟩
    have hx2 : PsV H10 (xK nm) v2 := hv2
    have hnr : v2 = .non ∨ ∃ p, v2 = .ref p := by
      cases e : xK nm with
      | none => rw [e] at hx2; exact .inl hx2
      | some s => rw [e] at hx2; obtain ⟨p', t', e', _⟩ := id (show PrV _ s v2 from hx2); exact .inr ⟨p', e'⟩
    refine ⟨_, rfl, rfl, hnr, _, rfl, iF rfl ⟨_, rfl, rfl, _, rfl, ?_⟩⟩
    cases eh : hK nm with
    | none =>
      have ex0 : xK nm = none := KM.law_none eh
      have e2 : v2 = .non := by rw [ex0] at hx2; exact hx2
      subst e2
      refine dT rfl ⟨_, rfl, rfl, _, rfl, iF rfl ?_⟩
      refine ⟨_, rfl, _, rfl, by show 2 ≤ sizeLine; decide, fun q hq => ?_⟩
      have sq := Same.upd (o := .tup [htV none, .non]) hq
      have hq2 : (upd H10 q (.tup [htV none, .non])) q = some (.tup [htV none, .non]) := upd_same
      generalize upd H10 q (.tup [htV none, .non]) = H11 at sq hq2 ⊢
      obtain ⟨kvs, k1, k2⟩ := hKn
      have kl := k2.length
      have e11 : ExtN Hc H11 := (ExtN.of_same s8).trans (eN9.trans (ExtN.of_same (s10.trans sq)))
      have k1' := e11 _ _ k1 (by intro ps z; cases z)
      refine ⟨_, rfl, _, rfl, p, _, _, _, rfl, rfl, SqT.of (e11 _ _ hpc (by intro ps z; cases z)), rfl, dK, _, rfl, DPut.k (k := Sum.inr nm) k1' (by rw [kl, List.length_take]; omega), ⟨_, _, _, rfl⟩, ex.trans ((ExtN.ex e11).trans EX.upd), ?_, _, upd_same, ?_⟩
      · exact tabsN_dk k1' (TabsN.same (s10.trans sq) tN9)
      · rw [tk]
        have sf : Le H11 (upd H11 dK (.dK (putK kvs (Sum.inr nm) (.ref q)))) := Le.dK k1'
        have l11 := ExtN.le e11
        refine k2.new ng (fun _ _ _ ⟨p', z', g1, g2, g3⟩ => ⟨p', z', g1, sf _ (.tup _) trivial (l11 _ (.tup _) trivial g2), (g3.le l11).le sf⟩) ⟨q, .non, rfl, sf _ (.tup _) trivial (by rw [eh]; exact hq2), (hx2.le (Same.le sq)).le sf⟩
    | some n =>
      refine dF (fun z => nomatch z) (iF rfl ?_)
      refine ⟨_, rfl, _, rfl, by show 2 ≤ sizeLine; decide, fun q hq => ?_⟩
      have sq := Same.upd (o := .tup [htV (some n), v2]) hq
      have hq2 : (upd H10 q (.tup [htV (some n), v2])) q = some (.tup [htV (some n), v2]) := upd_same
      generalize upd H10 q (.tup [htV (some n), v2]) = H11 at sq hq2 ⊢
      obtain ⟨kvs, k1, k2⟩ := hKn
      have kl := k2.length
      have e11 : ExtN Hc H11 := (ExtN.of_same s8).trans (eN9.trans (ExtN.of_same (s10.trans sq)))
      have k1' := e11 _ _ k1 (by intro ps z; cases z)
      refine ⟨_, rfl, _, rfl, p, _, _, _, rfl, rfl, SqT.of (e11 _ _ hpc (by intro ps z; cases z)), rfl, dK, _, rfl, DPut.k (k := Sum.inr nm) k1' (by rw [kl, List.length_take]; omega), ⟨_, _, _, rfl⟩, ex.trans ((ExtN.ex e11).trans EX.upd), ?_, _, upd_same, ?_⟩
      · exact tabsN_dk k1' (TabsN.same (s10.trans sq) tN9)
      · rw [tk]
        have sf : Le H11 (upd H11 dK (.dK (putK kvs (Sum.inr nm) (.ref q)))) := Le.dK k1'
        have l11 := ExtN.le e11
        refine k2.new ng (fun _ _ _ ⟨p', z', g1, g2, g3⟩ => ⟨p', z', g1, sf _ (.tup _) trivial (l11 _ (.tup _) trivial g2), (g3.le l11).le sf⟩) ⟨q, v2, rfl, sf _ (.tup _) trivial (by rw [eh]; exact hq2), (hx2.le (Same.le sq)).le sf⟩
  obtain ⟨⟨p11, p12, p13, rfl⟩, ex, tb, hKn⟩ := q
  rw [← fL, List.take_length] at hKn
  have e07 := keepK ex
  have l07 := ExtN.le e07
  have TE7 : TigE af ac M hK xK H7 dK pE dA := ⟨hKn, ⟨dTo, dE, ex _ _ (ne_of hpE6 hK6 (by intro z; cases z)) hpE6 (by intro ps z; cases z), hF6.ex ex hK6 id nTK, hAr6.ex ex hK6 id nEK⟩, kA, ex _ _ nKA.symm hA6 (by intro ps z; cases z), rA.imp fun _ _ _ q => q.le l07⟩
  have hpF7 := e07 _ _ hpF (by intro ps z; cases z)
  refine ⟨_, rfl, t, _, _, _, rfl, rfl, SqT.of (e07 _ _ ht (by intro ps z; cases z)), rfl, pF, rfl, ⟨_, SqL.of hpF7⟩, ?_⟩
  refine for_it walk_list (fun i σ H' => (∃ p7 p11 p12 p13 p14 p15, σ = [some (.ref t), some (.ref a), some (.str by_), some (.ref dK), some (.ref dA), some (.ref dTo), some (.ref pE), p7, p8, p9, p10, p11, p12, p13, p14, p15]) ∧ Same H7 H')
    ⟨⟨_, _, _, _, _, _, rfl⟩, Same.refl _⟩ (fun i σ H' _ q => SqL.of (q.2 _ _ hpF7)) (fun i x σ Hn Hc hi q y => ?_) (fun σ H8 q => ?_)
  · obtain ⟨rfl, hx⟩ := y
    obtain ⟨⟨p7, p11, p12, p13, p14, p15, rfl⟩, sc⟩ := q
    obtain ⟨nm, hnm, p, bv, rfl, hp, hcn, hca, hcb, hcs, hcd⟩ := paired_at pf hx
    have hin : nm ∈ M.fs := List.mem_of_getElem? hnm
    have TEc := TE7.same sc
    have hpc := sc _ _ (l07 _ (.tup _) trivial hp)
    obtain ⟨kvs, k1, k2⟩ := id TEc.kn
    obtain ⟨u, ev, q, z, rfl, hq, hzx⟩ := k2.val hin
    refine ⟨p, _, rfl, SqT.of hpc, rfl, _, _, rfl, _, _, rfl, _, _, rfl, rfl, ?_⟩
    refine ⟨_, rfl, _, rfl, dK, _, rfl, dgetS (.inl k1) ev, q, _, rfl, SqT.of hq, rfl, _, _, rfl, _, _, rfl, rfl, ?_⟩
    refine ⟨_, rfl, rfl, _, rfl, ?_⟩
    cases eh : hK nm with
    | none => exact iF rfl ⟨⟨_, _, _, _, _, _, rfl⟩, sc⟩
    | some n =>
      have law := KM.law_plain ok.ok tok.nz tok.fm tok.fnd rfl sok hin eh
      refine iT rfl ⟨_, rfl, _, rfl, _, rfl, _, rfl, _, rfl, _, rfl, _, rfl, bv, dK, pE, dA, by_, af, ac, af nm, M.bd nm, M, hK, xK, (n : Nat), rfl, (hcb.le l07).le (Same.le sc), hcd, Nat.le_refl _, ⟨0, by omega, fun c hc => ok.ok.bp nm hin c hc⟩, fun g hg => ok.ok.bc nm hin g hg, ok.ok, ?_, TEc, fun v' H' s' hv' => ⟨xK nm, hzx.le (Same.le s'), ?_, _, rfl, iF rfl ⟨⟨_, _, _, _, _, _, rfl⟩, sc.trans s'⟩⟩⟩
      · intro c hc
        obtain ⟨j, hj, ej⟩ := List.mem_iff_getElem.mp hc
        obtain ⟨v, _, _, _, _, _, _, _, _, _, hd⟩ := paired_at' pc (by rw [List.getElem?_eq_getElem hj, ej])
        exact hd
      · show PsV H' (KM.xOf M "" wt (KM.cst M fl) (SF M fl) nm) v'
        rw [law]; exact hv'
  · obtain ⟨⟨p7, p11, p12, p13, p14, p15, rfl⟩, sc⟩ := q
    exact kk _ (e07.trans (ExtN.of_same sc)) (TabsN.same sc tb)
end
end K52

namespace K52
open PySem PySem.Spec PyProof.Rows L2 NdefX LamX
theorem rowsV_ext {af ac : Str → Nat} {M : KM.Tb Str} {H H' : Hp} {t : Addr} (s : ExtN H H') (h : RowsV af ac M H t) : RowsV af ac M H' t := by
  obtain ⟨pF, pC, fns, css, h1, h2, h3, h4, h5⟩ := h
  have l := ExtN.le s
  exact ⟨pF, pC, fns, css, s _ _ h1 (by intro ps z; cases z), s _ _ h2 (by intro ps z; cases z), Paired.mono (fun _ _ q => q.le l) h3, s _ _ h4 (by intro ps z; cases z), Paired.mono (fun _ _ q => q.le l) h5⟩
theorem SqL.extN {K : PySem.W.Frag} {H H' : Hp} {a : Addr} {xs : List V} (e : ExtN H H') (h : SqL K H a xs) : SqL K H' a xs := by
  rcases h with (h | ⟨o, h⟩) | h
  · exact .inl (.inl (e _ _ h (by intro ps z; cases z)))
  · exact .inl (.inr ⟨o, e _ _ h (by intro ps z; cases z)⟩)
  · exact .inr h
section
variable {P : Program} {w : World} {K : PySem.W.Frag} {mg : Str → Option Value} {base : Heap}
def spLaw (K : PySem.W.Frag) (Pt Pi : Addr) : Sp := fun vs H Q _ => ∃ s, ∃ ns : List Int, vs = [.ref s] ∧ SqL K H s (ns.map V.int) ∧ ns.length ≤ 4000 ∧ TabsN (TTs Pt Pi) H ∧ ∀ H', Q (.bl true) H'
theorem c_law (T : Txt K mg) {ct Pt ci Pi : Addr} (TB : TbA base mg ct Pt ci Pi) (hcode : ∀ f fd, FunD K "tallest" "tallest" (defArgs s_tallest) (defBody s_tallest) (defScope s_tallest) [] [("by", .str "frames")] f fd → mg "tallest" = some (.ref f) → fd.code = .ref ct)
    (hcodI : ∀ fd, FunD K "__init__" "Table.__init__" (defArgs s_Table__init) (defBody s_Table__init) (defScope s_Table__init) [] [] (He.ma K (cT K) "__init__") fd → fd.code = .ref ci) {f : Addr} {fd : FuncData} (F : FunD K "law" "law" (defArgs s_law) (defBody s_law) (defScope s_law) [] [] f fd) : FnOk P w K mg base CX0 131 f fd ["_law_script"] (spLaw K Pt Pi) := by
  have c__law_bag := c_law_bag (P := P) (w := w) (base := base) T
  have c__law_rows := c_law_rows (P := P) (w := w) (base := base) T
  have c__law_right := c_law_right (P := P) (w := w) (base := base) T TB hcode
  obtain ⟨fdi, psi, Fi, bi⟩ := (m_tinit (P := P) (w := w) (base := base) T TB hcodI).ex
  refine F.ok (k := 130) sc_law (fun vs H Q E h => ?_) (fun cdv A outer s H vs Q E hr h => ?_)
  · obtain ⟨_, _, rfl, _⟩ := h; rfl
  obtain ⟨sc, ns, rfl, hs, hl, hTb, kk⟩ := h
  have nd := sc_law.nd
  refine ⟨_, PSs.nox (pss_cons (ps_for PassesOwn.never rfl (pi_range1 rfl T.b_range (pa_cons (pe_callB (call_max2 rfl) (by rfl) T.b_max (by decide +kernel) (pa_cons pe_int (pa_cons (pe_callB (call_min2 rfl) (by rfl) T.b_min (by decide +kernel) (pa_cons pe_int (pa_cons (pe_callB call_len_seq (by rfl) T.b_len PySem.boot_len (pa_cons (pv 0) pa_nil)) pa_nil))) pa_nil))) pa_nil)) (pg_name (i := 1) nd rfl (Or.inl rfl)) (pss_cons (ps_set (i := 2) nd rfl (Or.inl rfl) (pe_c c__law_rows hr (by decide) rfl (pa_cons (pe_c c__law_bag hr (by decide) rfl (pa_cons (pv 0) (pa_cons (pv 1) pa_nil))) (pa_cons pe_int (pa_cons pe_int pa_nil)))))
  (pss_cons (ps_set (i := 3) nd rfl (Or.inl rfl) (pe_make T.mkT Fi (hr.mono (by decide)) rfl T.g_Table bi .nil pass0 (pa_cons (pe_ix ix_tup (pv 2) pe_int (fun _ _ => rfl)) (pa_cons (pe_ix ix_tup (pv 2) pe_int (fun _ _ => rfl)) pa_nil))))
  (pss_one (ps_if (PW.pt (pw_or (pt_not (pt_val (pe_c c__law_right hr (by decide) rfl (pa_cons (pv 2) (pa_cons (pv 3) (pa_cons pe_str pa_nil)))))) (pw_or1 (pt_not (pt_val (pe_c c__law_right hr (by decide) rfl (pa_cons (pv 2) (pa_cons (pv 3) (pa_cons pe_str pa_nil))))))))) (pss_one (ps_ret pe_bl)) pss_nil)))))
  (pss_one (ps_ret pe_bl))), ?_⟩
  refine ⟨_, rfl, sc, _, rfl, .inl hs, ?_⟩
  refine ⟨_, _, rfl, _, _, rfl, _, rfl, by (repeat' split) <;> omega, by (repeat' split) <;> omega, ?_⟩
  refine for_it walk_range (fun i σ H' => (∃ p1 p2 p3, σ = [some (.ref sc), p1, p2, p3]) ∧ ExtN H H' ∧ TabsN (TTs Pt Pi) H') ⟨⟨_, _, _, rfl⟩, ExtN.refl _, hTb⟩ (fun _ _ _ _ _ => trivial) (fun i y σ Hn Hc hi q z => ?_) (fun σ Hc q => ?_)
  · obtain ⟨rfl, rfl⟩ := z
    obtain ⟨⟨p1, p2, p3, rfl⟩, eN, tb⟩ := q
    refine ⟨_, rfl, _, rfl, sc, ns, i, by show [V.ref sc, V.int (0 + (i : Nat))] = _; rw [Int.zero_add], SqL.extN eN hs, hl, fun p H1 s1 hp0 hb => ?_⟩
    refine ⟨p, rfl, hb, fun t H2 af ac M bu ok rows => ?_⟩
    have s2 : Same Hc H2 := fun b o e => bu b o (ne_of_none e hp0) (s1 b o e)
    have tb2 := TabsN.same s2 tb
    obtain ⟨pF, pC, fns, css, ht, hpF, pf, hpC, pc⟩ := id rows
    have fz := ok.fz
    have cz := ok.cz
    refine ⟨_, rfl, t, _, _, _, rfl, rfl, SqT.of ht, rfl, _, rfl, t, _, _, _, rfl, rfl, SqT.of ht, rfl, fun x dx hx hdx hne => ?_⟩
    have s3 : Same H2 (upd (upd H2 dx (.own x)) x (.ins (cT K) dx [])) := (Same.upd hdx).trans (Same.upd (by rw [upd_ne hne.symm]; exact hx))
    refine ⟨x, dx, pF, pC, H2, af, ac, M, fns, css, rfl, upd_same, hx, ExtN.of_same s3, TabsN.same s3 tb2, hpF, pf, hpC, pc, ok.ok, by omega, by omega, ok.fne, fun c => by have := ok.aw c; omega, fun fl cl Rd H3 p1 p2 e3 t3 tA => ⟨rfl, ?_⟩⟩
    refine ⟨_, rfl, _, rfl, t, x, "frames", af, ac, M, fl, cl, Rd, rfl, ok, rowsV_ext e3 rows, tA, t3, fun H4 e4 t4 => ⟨true, rfl, iF rfl ?_⟩⟩
    refine ⟨_, rfl, _, rfl, t, x, "values", af, ac, M, fl, cl, Rd, rfl, ok, rowsV_ext e4 (rowsV_ext e3 rows), tA.ext e4, t4, fun H5 e5 t5 => ⟨true, rfl, iF rfl ?_⟩⟩
    exact ⟨⟨_, _, _, rfl⟩, (eN.trans (ExtN.of_same s2)).trans (e3.trans (e4.trans e5)), t5⟩
  · obtain ⟨⟨p1, p2, p3, rfl⟩, eN, tb⟩ := q
    exact kk Hc
end
end K52

namespace K52
open PySem PySem.Spec PyProof.Rows L2
/-! ### what the head tells -/
def refsW (o : Obj) : List Addr := match o.data with
  | .func fd => He.refV fd.code ++ (He.refV fd.defaults ++ He.refV fd.kwdefaults)
  | .cls cd => [cd.ns]
  | .fields vs => (match o.cls with
    | .type c => (match decide (c = "classmethod") with
      | true => vs.toList.flatMap He.refV
      | false => [])
    | _ => [])
  | _ => []
def valsW (o : Obj) : List Addr := match o.data with
  | .dict es _ => es.toList.flatMap fun e => He.refV e.val
  | _ => []
def nextW (f : Obj → List Addr) (g : Addr → Option Obj) (as : List Addr) : List Addr := as.flatMap fun a => match g a with
  | some o => f o
  | none => []
/-- the module's names, their code and defaults, the classes' names, theirs, a classmethod's def and its code -/
def as1 (g : Addr → Option Obj) : List Addr := nextW valsW g [mainGlobals]
def as2 (g : Addr → Option Obj) : List Addr := nextW refsW g (as1 g)
def as3 (g : Addr → Option Obj) : List Addr := nextW valsW g (as2 g)
def as4 (g : Addr → Option Obj) : List Addr := nextW refsW g (as3 g)
def as5 (g : Addr → Option Obj) : List Addr := nextW refsW g (as4 g)
def asZ (g : Addr → Option Obj) (n : Nat) : List Addr := mainGlobals :: cStatics :: (as1 g ++ (as2 g ++ (as3 g ++ (as4 g ++ as5 g))))
def frZ (g : Addr → Option Obj) (n : Nat) : PySem.W.Frag := He.frT g (asZ g n)
abbrev AlZ : Type := He.AlD × (Bool × He.FnW)
def obsZ (n : Nat) (fa : List He.Fa) (fn : List He.DefD) (dn : He5.DefA) (tf : List He.Defn) (ex : PySem.W.Frag → Bool) (g : Addr → Option Obj) : AlZ :=
  (He.obsD fa fn (frZ g n), (ex (frZ g n) && He.tabsB g tf (frZ g n), He5.fnA (frZ g n) (dn.at_ (frZ g n))))
def valZ (fn : List He.DefD) (dn : He5.DefA) : AlZ := (He.valD fn, (true, dn.val))
structure SaysZ (fa : List He.Fa) (fn : List He.DefD) (dn : He5.DefA) (tf : List He.Defn) (ex : PySem.W.Frag → Bool) (h : Heap) (K : PySem.W.Frag) : Prop where
  d : He.SaysD fa fn K
  a : He5.fnA K (dn.at_ K) = dn.val
  more : ex K = true
  hd : ∀ p ∈ tf, PySem.W.codeHdIn K (He.cT K p).1 (He.cT K p).2 = true
  out : ∀ p ∈ tf, K.lookup (He.cT K p).2 = none
  empty : ∀ p ∈ tf, h.get? (He.cT K p).2 = some { cls := .none, data := .fields #[] }
theorem saysZ_of {n : Nat} {fa : List He.Fa} {fn : List He.DefD} {dn : He5.DefA} {tf : List He.Defn} {ex : PySem.W.Frag → Bool} {h : Heap} (e : obsZ n fa fn dn tf ex h.get? = valZ fn dn) : SaysZ fa fn dn tf ex h (frZ h.get? n) := by
  have e1 : He.obsD fa fn (frZ h.get? n) = He.valD fn := congrArg (fun z : AlZ => z.1) e
  have e2 : (ex (frZ h.get? n) && He.tabsB h.get? tf (frZ h.get? n)) = true := congrArg (fun z : AlZ => z.2.1) e
  have e3 : He5.fnA (frZ h.get? n) (dn.at_ (frZ h.get? n)) = dn.val := congrArg (fun z : AlZ => z.2.2) e
  obtain ⟨m1, m2⟩ := Bool.and_eq_true_iff.mp e2
  have each : ∀ p ∈ tf, PySem.W.codeHdIn (frZ h.get? n) (He.cT (frZ h.get? n) p).1 (He.cT (frZ h.get? n) p).2 = true ∧ ∃ o, h.get? (He.cT (frZ h.get? n) p).2 = some o ∧ He.emptyTab o = true := by
    intro p hp
    obtain ⟨g1, g2⟩ := Bool.and_eq_true_iff.mp (List.all_eq_true.mp m2 p hp)
    refine ⟨g1, ?_⟩
    revert g2
    cases h.get? (He.cT (frZ h.get? n) p).2 with
    | none => intro z; cases z
    | some o => intro z; exact ⟨o, rfl, z⟩
  exact ⟨e1, e3, m1, fun p hp => (each p hp).1, fun p hp => (each p hp).2.elim fun o q => He.frT_none q.1 q.2, fun p hp => (each p hp).2.elim fun o q => by rw [q.1, He.emptyTab_eq q.2]⟩
def hookZ (n : Nat) (fa : List He.Fa) (fn : List He.DefD) (dn : He5.DefA) (tf : List He.Defn) (ex : PySem.W.Frag → Bool) : PySem.W.Hook where
  α := AlZ
  obs := fun s => obsZ n fa fn dn tf ex s.heap.get?
  val := fun _ => valZ fn dn
  says := fun _ h => ∃ K : PySem.W.Frag, K.In h ∧ SaysZ fa fn dn tf ex h K
  of := fun _ _ e => ⟨_, He.frT_in, saysZ_of e⟩
  keeps := fun _ _ _ ⟨K, hK, c⟩ k => ⟨K, PySem.W.Frag.In.keeps hK k, ⟨c.d, c.a, c.more, c.hd, c.out, fun p hp => k _ _ (c.empty p hp)⟩⟩
theorem obsZ_eq {n : Nat} {fa : List He.Fa} {fn : List He.DefD} {dn : He5.DefA} {tf : List He.Defn} {ex : PySem.W.Frag → Bool} {g : Addr → Option Obj} {s : Shared} (h : ∀ a, g a = s.heap.get? a) : obsZ n fa fn dn tf ex g = (hookZ n fa fn dn tf ex).obs s := by
  have e : g = s.heap.get? := funext h
  rw [e] <;> rfl
/-- a class's constant -/
def cvB (K : PySem.W.Frag) (C : Addr) (f : Str) (v : V) : Bool := match PySem.W.findCls K (.ref C) (.type "type") f with
  | some (.val u) => He.relB v u
  | _ => false
theorem cvB_ok {K : PySem.W.Frag} {C : Addr} {f : Str} {v : V} (h : cvB K C f v = true) : ∃ u, ClX.CVal K C (.type "type") f v u := by
  unfold cvB at h
  split at h
  · rename_i u e
    exact ⟨u, e, He.relB_ok h⟩
  · cases h
end K52

namespace K52
open PySem PySem.Spec PyProof.Rows L2
def dNone : He5.DefA := ⟨fun K => He5.wf K (He.ga K "Script") "classmethod" "none", "none", "Script.none", defArgs s_Script_none, defBody s_Script_none, defScope s_Script_none, [], []⟩
def hdFn0 : List He.DefD := [
  ⟨("is_integer", none), "is_integer", "is_integer", defArgs s_is_integer, defBody s_is_integer, defScope s_is_integer, [], []⟩,
  ⟨("is_name", none), "is_name", "is_name", defArgs s_is_name, defBody s_is_name, defScope s_is_name, [], []⟩,
  ⟨("is_atom", none), "is_atom", "is_atom", defArgs s_is_atom, defBody s_is_atom, defScope s_is_atom, [], []⟩,
  ⟨("are_atoms", none), "are_atoms", "are_atoms", defArgs s_are_atoms, defBody s_are_atoms, defScope s_are_atoms, [.int 4], []⟩,
  ⟨("first_twice", none), "first_twice", "first_twice", defArgs s_first_twice, defBody s_first_twice, defScope s_first_twice, [], []⟩,
  ⟨("measured", none), "measured", "measured", defArgs s_measured, defBody s_measured, defScope s_measured, [], []⟩,
  ⟨("walk", none), "walk", "walk", defArgs s_walk, defBody s_walk, defScope s_walk, [], []⟩,
  ⟨("are_bits", none), "are_bits", "are_bits", defArgs s_are_bits, defBody s_are_bits, defScope s_are_bits, [], []⟩,
  ⟨("least_of", none), "least_of", "least_of", defArgs s_least_of, defBody s_least_of, defScope s_least_of, [], []⟩,
  ⟨("joined", none), "joined", "joined", defArgs s_joined, defBody s_joined, defScope s_joined, [], []⟩,
  ⟨("entered_by", none), "entered_by", "entered_by", defArgs s_entered_by, defBody s_entered_by, defScope s_entered_by, [], []⟩,
  ⟨("can_end", none), "can_end", "can_end", defArgs s_can_end, defBody s_can_end, defScope s_can_end, [], []⟩,
  ⟨("least_end", none), "least_end", "least_end", defArgs s_least_end, defBody s_least_end, defScope s_least_end, [], []⟩,
  ⟨("settled", none), "settled", "settled", defArgs s_settled, defBody s_settled, defScope s_settled, [], []⟩,
  ⟨("can_ends", none), "can_ends", "can_ends", defArgs s_can_ends, defBody s_can_ends, defScope s_can_ends, [], []⟩,
  ⟨("least_ends", none), "least_ends", "least_ends", defArgs s_least_ends, defBody s_least_ends, defScope s_least_ends, [], []⟩,
  ⟨("look_name", none), "look_name", "look_name", defArgs s_look_name, defBody s_look_name, defScope s_look_name, [], []⟩,
  ⟨("weight", none), "weight", "weight", defArgs s_weight, defBody s_weight, defScope s_weight, [], []⟩,
  ⟨("take_tops", none), "take_tops", "take_tops", defArgs s_take_tops, defBody s_take_tops, defScope s_take_tops, [], []⟩,
  ⟨("tops_in", none), "tops_in", "tops_in", defArgs s_tops_in, defBody s_tops_in, defScope s_tops_in, [], []⟩,
  ⟨("tops_of", none), "tops_of", "tops_of", defArgs s_tops_of, defBody s_tops_of, defScope s_tops_of, [], []⟩,
  ⟨("take_routes", none), "take_routes", "take_routes", defArgs s_take_routes, defBody s_take_routes, defScope s_take_routes, [], []⟩,
  ⟨("routes_in", none), "routes_in", "routes_in", defArgs s_routes_in, defBody s_routes_in, defScope s_routes_in, [], []⟩,
  ⟨("routes_of", none), "routes_of", "routes_of", defArgs s_routes_of, defBody s_routes_of, defScope s_routes_of, [], []⟩,
  ⟨("settled_scripts", none), "settled_scripts", "settled_scripts", defArgs s_settled_scripts, defBody s_settled_scripts, defScope s_settled_scripts, [], []⟩,
  ⟨("reached", none), "reached", "reached", defArgs s_reached, defBody s_reached, defScope s_reached, [], []⟩,
  ⟨("heights_from", none), "heights_from", "heights_from", defArgs s_heights_from, defBody s_heights_from, defScope s_heights_from, [], []⟩,
  ⟨("height", none), "height", "height", defArgs s_height, defBody s_height, defScope s_height, [], [("by", .str "frames")]⟩,
  ⟨("tallest", none), "tallest", "tallest", defArgs s_tallest, defBody s_tallest, defScope s_tallest, [], [("by", .str "frames")]⟩,
  ⟨("bodies_in", none), "bodies_in", "bodies_in", defArgs s_bodies_in, defBody s_bodies_in, defScope s_bodies_in, [], []⟩]
def hdFn1 : List He.DefD := [
  ⟨("is_function", none), "is_function", "is_function", defArgs s_is_function, defBody s_is_function, defScope s_is_function, [], []⟩,
  ⟨("is_case", none), "is_case", "is_case", defArgs s_is_case, defBody s_is_case, defScope s_is_case, [], []⟩,
  ⟨("atoms_of", none), "atoms_of", "atoms_of", defArgs s_atoms_of, defBody s_atoms_of, defScope s_atoms_of, [], []⟩,
  ⟨("pushed_in", none), "pushed_in", "pushed_in", defArgs s_pushed_in, defBody s_pushed_in, defScope s_pushed_in, [], []⟩,
  ⟨("look_body", none), "look_body", "look_body", defArgs s_look_body, defBody s_look_body, defScope s_look_body, [], []⟩,
  ⟨("ordered", none), "ordered", "ordered", defArgs s_ordered, defBody s_ordered, defScope s_ordered, [], []⟩,
  ⟨("look_entries", none), "look_entries", "look_entries", defArgs s_look_entries, defBody s_look_entries, defScope s_look_entries, [], []⟩,
  ⟨("_law_bag", none), "_law_bag", "_law_bag", defArgs s_law_bag, defBody s_law_bag, defScope s_law_bag, [], []⟩,
  ⟨("_law_take", none), "_law_take", "_law_take", defArgs s_law_take, defBody s_law_take, defScope s_law_take, [], []⟩,
  ⟨("_law_atom", none), "_law_atom", "_law_atom", defArgs s_law_atom, defBody s_law_atom, defScope s_law_atom, [], []⟩,
  ⟨("_law_atoms", none), "_law_atoms", "_law_atoms", defArgs s_law_atoms, defBody s_law_atoms, defScope s_law_atoms, [], []⟩,
  ⟨("_law_leaf", none), "_law_leaf", "_law_leaf", defArgs s_law_leaf, defBody s_law_leaf, defScope s_law_leaf, [], []⟩,
  ⟨("_law_body", none), "_law_body", "_law_body", defArgs s_law_body, defBody s_law_body, defScope s_law_body, [], []⟩,
  ⟨("_law_arm", none), "_law_arm", "_law_arm", defArgs s_law_arm, defBody s_law_arm, defScope s_law_arm, [], []⟩,
  ⟨("_law_rows", none), "_law_rows", "_law_rows", defArgs s_law_rows, defBody s_law_rows, defScope s_law_rows, [], []⟩,
  ⟨("_law_pair", none), "_law_pair", "_law_pair", defArgs s_law_pair, defBody s_law_pair, defScope s_law_pair, [], []⟩,
  ⟨("_law_plus", none), "_law_plus", "_law_plus", defArgs s_law_plus, defBody s_law_plus, defScope s_law_plus, [], []⟩,
  ⟨("_law_less", none), "_law_less", "_law_less", defArgs s_law_less, defBody s_law_less, defScope s_law_less, [], []⟩,
  ⟨("_law_ends", none), "_law_ends", "_law_ends", defArgs s_law_ends, defBody s_law_ends, defScope s_law_ends, [], []⟩,
  ⟨("_law_arms", none), "_law_arms", "_law_arms", defArgs s_law_arms, defBody s_law_arms, defScope s_law_arms, [], []⟩,
  ⟨("_law_settled", none), "_law_settled", "_law_settled", defArgs s_law_settled, defBody s_law_settled, defScope s_law_settled, [], []⟩,
  ⟨("_law_weight", none), "_law_weight", "_law_weight", defArgs s_law_weight, defBody s_law_weight, defScope s_law_weight, [], []⟩,
  ⟨("_law_enters", none), "_law_enters", "_law_enters", defArgs s_law_enters, defBody s_law_enters, defScope s_law_enters, [], []⟩,
  ⟨("_law_tight", none), "_law_tight", "_law_tight", defArgs s_law_tight, defBody s_law_tight, defScope s_law_tight, [], []⟩,
  ⟨("_law_right", none), "_law_right", "_law_right", defArgs s_law_right, defBody s_law_right, defScope s_law_right, [], []⟩,
  ⟨("law", none), "law", "law", defArgs s_law, defBody s_law, defScope s_law, [], []⟩,
  ⟨("Script", some "__init__"), "__init__", "Script.__init__", defArgs s_Script__init, defBody s_Script__init, defScope s_Script__init, [], []⟩,
  ⟨("Script", some "__eq__"), "__eq__", "Script.__eq__", defArgs s_Script__eq, defBody s_Script__eq, defScope s_Script__eq, [], []⟩,
  ⟨("Script", some "__lt__"), "__lt__", "Script.__lt__", defArgs s_Script__lt, defBody s_Script__lt, defScope s_Script__lt, [], []⟩,
  ⟨("Script", some "__add__"), "__add__", "Script.__add__", defArgs s_Script__add, defBody s_Script__add, defScope s_Script__add, [], []⟩]
def hdFn2 : List He.DefD := [
  ⟨("Table", some "__init__"), "__init__", "Table.__init__", defArgs s_Table__init, defBody s_Table__init, defScope s_Table__init, [], []⟩,
  ⟨("Table", some "__contains__"), "__contains__", "Table.__contains__", defArgs s_Table__contains, defBody s_Table__contains, defScope s_Table__contains, [], []⟩,
  ⟨("Table", some "__iter__"), "__iter__", "Table.__iter__", defArgs s_Table__iter, defBody s_Table__iter, defScope s_Table__iter, [], []⟩,
  ⟨("Table", some "__getitem__"), "__getitem__", "Table.__getitem__", defArgs s_Table__getitem, defBody s_Table__getitem, defScope s_Table__getitem, [], []⟩,
  ⟨("Table", some "case_of"), "case_of", "Table.case_of", defArgs s_Table_case_of, defBody s_Table_case_of, defScope s_Table_case_of, [], []⟩]
def hdFn : List He.DefD := hdFn0 ++ hdFn1 ++ hdFn2
def hdFa0 : List He.Fa := [
  .glo "is_integer",
  .glo "is_name",
  .glo "is_atom",
  .glo "are_atoms",
  .glo "first_twice",
  .glo "measured",
  .glo "walk",
  .glo "are_bits",
  .glo "least_of",
  .glo "joined",
  .glo "entered_by",
  .glo "can_end",
  .glo "least_end",
  .glo "settled",
  .glo "can_ends",
  .glo "least_ends",
  .glo "look_name",
  .glo "weight",
  .glo "take_tops",
  .glo "tops_in",
  .glo "tops_of",
  .glo "take_routes",
  .glo "routes_in",
  .glo "routes_of",
  .glo "settled_scripts",
  .glo "reached",
  .glo "heights_from",
  .glo "height",
  .glo "tallest",
  .glo "bodies_in"]
def hdFa1 : List He.Fa := [
  .glo "is_function",
  .glo "is_case",
  .glo "atoms_of",
  .glo "pushed_in",
  .glo "look_body",
  .glo "ordered",
  .glo "look_entries",
  .glo "_law_bag",
  .glo "_law_take",
  .glo "_law_atom",
  .glo "_law_atoms",
  .glo "_law_leaf",
  .glo "_law_body",
  .glo "_law_arm",
  .glo "_law_rows",
  .glo "_law_pair",
  .glo "_law_plus",
  .glo "_law_less",
  .glo "_law_ends",
  .glo "_law_arms",
  .glo "_law_settled",
  .glo "_law_weight",
  .glo "_law_enters",
  .glo "_law_tight",
  .glo "_law_right",
  .glo "law",
  .meth "Script" "__init__",
  .meth "Script" "__eq__",
  .meth "Script" "__lt__",
  .meth "Script" "__add__"]
def hdFa2 : List He.Fa := [
  .meth "Table" "__init__",
  .meth "Table" "__contains__",
  .meth "Table" "__iter__",
  .meth "Table" "__getitem__",
  .meth "Table" "case_of",
  .free "int",
  .free "bool",
  .free "str",
  .free "tuple",
  .free "list",
  .free "len",
  .free "isinstance",
  .free "all",
  .free "sum",
  .free "max",
  .free "min",
  .free "abs",
  .free "range",
  .free "enumerate",
  .free "sorted",
  .free "set",
  .free "iter",
  .glo "Script",
  .glo "Table",
  .cls "Script",
  .cls "Table",
  .mkr "Script",
  .mkr "Table",
  .noat "Script" "steps",
  .noat "Script" "bits"]
def hdFa3 : List He.Fa := [
  .noat "Table" "functions",
  .noat "Table" "cases",
  .noat "Table" "names",
  .noat "Table" "arms",
  .noat "Table" "order",
  .int "MOST_LETTERS" 8,
  .int "MOST_ARGS" 4,
  .int "MOST_KEPT" 8000,
  .int "MOST_CONSTANT" (10 ^ 30),
  .str "LETTERS" "abcdefghijklmnopqrstuvwxyz"]
def hdFa : List He.Fa := hdFa0 ++ hdFa1 ++ hdFa2 ++ hdFa3

def hdEx (K : PySem.W.Frag) : List Bool := [
  He5.wrapB K (cS K) "classmethod" "classmethod.__get__" "none",
  PySem.W.fnIn K (He5.wf K (cS K) "classmethod" "none"),
  dNone.ok K,
  He.eqO (PySem.W.findIn K (.ref (cS K)) "__ne__") (some (some (.builtin "object.__ne__"))),
  decide (PySem.W.mroIn K (cS K) (.type "object") = some true),
  decide (PySem.W.subIn K (.ref (cS K)) (.type "NoneType") = some false),
  He.eqO (PySem.W.findIn K (.ref (cS K)) "__class__") (some (some (.builtin "object.__class__"))),
  He.eqO (PySem.W.specialIn K (.builtin "object.__class__") "__get__") (some (some (.builtin "getset_descriptor.__get__"))),
  decide (PySem.W.takesIn K (.builtin "object.__class__") = some true),
  decide (PySem.W.kitOne K (.ref (cS K)) (.ref (cS K)) = some true),
  decide (PySem.W.kitOne K (.type "NoneType") (.ref (cS K)) = some false),
  PySem.W.readsIn K (cS K) (.type "type"),
  He.eqO (PySem.W.specialIn K (.ref (cS K)) "__getattribute__") (some (some (.builtin "type.__getattribute__"))),
  cvB K (cS K) "MOST" (.int 1000),
  PySem.W.readsIn K (cT K) (.type "type"),
  He.eqO (PySem.W.specialIn K (.ref (cT K)) "__getattribute__") (some (some (.builtin "type.__getattribute__"))),
  cvB K (cT K) "MOST_NODES" (.int 2000),
  cvB K (cT K) "MOST_DEPTH" (.int 100),
  PySem.W.selfFirst K (cS K),
  !decide ((He.cT K ("tallest", none)).2 = (He.cT K ("Table", some "__init__")).2)]
def hdTf : List He.Defn := [("tallest", none), ("Table", some "__init__")]
theorem txt_of {h : Heap} {K : PySem.W.Frag} {mg : Str → Option Value} (X : K.In h) (G : h.Ns mainGlobals mg) (z : SaysZ hdFa hdFn dNone hdTf (fun K => (hdEx K).all id) h K) : Txt K mg ∧ (He.cT K ("tallest", none)).2 ≠ (He.cT K ("Table", some "__init__")).2 := by
  have c := z.d
  have e : ∀ (i : Nat) {b : Bool}, (hdEx K)[i]? = some b → b = true := fun i b q => List.all_eq_true.mp z.more b (List.mem_of_getElem? q)
  refine ⟨?_, fun q => ?_⟩
  · exact {
    d_is_integer := let ⟨fd, F⟩ := c.def_ 0 rfl; ⟨⟨_, fd, F, He.glo_ok X G (c.fact 0 rfl)⟩⟩
    d_is_name := let ⟨fd, F⟩ := c.def_ 1 rfl; ⟨⟨_, fd, F, He.glo_ok X G (c.fact 1 rfl)⟩⟩
    d_is_atom := let ⟨fd, F⟩ := c.def_ 2 rfl; ⟨⟨_, fd, F, He.glo_ok X G (c.fact 2 rfl)⟩⟩
    d_are_atoms := let ⟨fd, F⟩ := c.def_ 3 rfl; ⟨_, fd, F, He.glo_ok X G (c.fact 3 rfl)⟩
    d_first_twice := let ⟨fd, F⟩ := c.def_ 4 rfl; ⟨⟨_, fd, F, He.glo_ok X G (c.fact 4 rfl)⟩⟩
    d_measured := let ⟨fd, F⟩ := c.def_ 5 rfl; ⟨⟨_, fd, F, He.glo_ok X G (c.fact 5 rfl)⟩⟩
    d_walk := let ⟨fd, F⟩ := c.def_ 6 rfl; ⟨⟨_, fd, F, He.glo_ok X G (c.fact 6 rfl)⟩⟩
    d_are_bits := let ⟨fd, F⟩ := c.def_ 7 rfl; ⟨⟨_, fd, F, He.glo_ok X G (c.fact 7 rfl)⟩⟩
    d_least_of := let ⟨fd, F⟩ := c.def_ 8 rfl; ⟨⟨_, fd, F, He.glo_ok X G (c.fact 8 rfl)⟩⟩
    d_joined := let ⟨fd, F⟩ := c.def_ 9 rfl; ⟨⟨_, fd, F, He.glo_ok X G (c.fact 9 rfl)⟩⟩
    d_entered_by := let ⟨fd, F⟩ := c.def_ 10 rfl; ⟨⟨_, fd, F, He.glo_ok X G (c.fact 10 rfl)⟩⟩
    d_can_end := let ⟨fd, F⟩ := c.def_ 11 rfl; ⟨⟨_, fd, F, He.glo_ok X G (c.fact 11 rfl)⟩⟩
    d_least_end := let ⟨fd, F⟩ := c.def_ 12 rfl; ⟨⟨_, fd, F, He.glo_ok X G (c.fact 12 rfl)⟩⟩
    d_settled := let ⟨fd, F⟩ := c.def_ 13 rfl; ⟨⟨_, fd, F, He.glo_ok X G (c.fact 13 rfl)⟩⟩
    d_can_ends := let ⟨fd, F⟩ := c.def_ 14 rfl; ⟨⟨_, fd, F, He.glo_ok X G (c.fact 14 rfl)⟩⟩
    d_least_ends := let ⟨fd, F⟩ := c.def_ 15 rfl; ⟨⟨_, fd, F, He.glo_ok X G (c.fact 15 rfl)⟩⟩
    d_look_name := let ⟨fd, F⟩ := c.def_ 16 rfl; ⟨⟨_, fd, F, He.glo_ok X G (c.fact 16 rfl)⟩⟩
    d_weight := let ⟨fd, F⟩ := c.def_ 17 rfl; ⟨⟨_, fd, F, He.glo_ok X G (c.fact 17 rfl)⟩⟩
    d_take_tops := let ⟨fd, F⟩ := c.def_ 18 rfl; ⟨⟨_, fd, F, He.glo_ok X G (c.fact 18 rfl)⟩⟩
    d_tops_in := let ⟨fd, F⟩ := c.def_ 19 rfl; ⟨⟨_, fd, F, He.glo_ok X G (c.fact 19 rfl)⟩⟩
    d_tops_of := let ⟨fd, F⟩ := c.def_ 20 rfl; ⟨⟨_, fd, F, He.glo_ok X G (c.fact 20 rfl)⟩⟩
    d_take_routes := let ⟨fd, F⟩ := c.def_ 21 rfl; ⟨⟨_, fd, F, He.glo_ok X G (c.fact 21 rfl)⟩⟩
    d_routes_in := let ⟨fd, F⟩ := c.def_ 22 rfl; ⟨⟨_, fd, F, He.glo_ok X G (c.fact 22 rfl)⟩⟩
    d_routes_of := let ⟨fd, F⟩ := c.def_ 23 rfl; ⟨⟨_, fd, F, He.glo_ok X G (c.fact 23 rfl)⟩⟩
    d_settled_scripts := let ⟨fd, F⟩ := c.def_ 24 rfl; ⟨⟨_, fd, F, He.glo_ok X G (c.fact 24 rfl)⟩⟩
    d_reached := let ⟨fd, F⟩ := c.def_ 25 rfl; ⟨⟨_, fd, F, He.glo_ok X G (c.fact 25 rfl)⟩⟩
    d_heights_from := let ⟨fd, F⟩ := c.def_ 26 rfl; ⟨⟨_, fd, F, He.glo_ok X G (c.fact 26 rfl)⟩⟩
    d_height := let ⟨fd, F⟩ := c.def_ 27 rfl; ⟨_, fd, F, He.glo_ok X G (c.fact 27 rfl)⟩
    d_tallest := let ⟨fd, F⟩ := c.def_ 28 rfl; ⟨_, fd, F, He.glo_ok X G (c.fact 28 rfl)⟩
    d_bodies_in := let ⟨fd, F⟩ := c.def_ 29 rfl; ⟨⟨_, fd, F, He.glo_ok X G (c.fact 29 rfl)⟩⟩
    d_is_function := let ⟨fd, F⟩ := c.def_ 30 rfl; ⟨⟨_, fd, F, He.glo_ok X G (c.fact 30 rfl)⟩⟩
    d_is_case := let ⟨fd, F⟩ := c.def_ 31 rfl; ⟨⟨_, fd, F, He.glo_ok X G (c.fact 31 rfl)⟩⟩
    d_atoms_of := let ⟨fd, F⟩ := c.def_ 32 rfl; ⟨⟨_, fd, F, He.glo_ok X G (c.fact 32 rfl)⟩⟩
    d_pushed_in := let ⟨fd, F⟩ := c.def_ 33 rfl; ⟨⟨_, fd, F, He.glo_ok X G (c.fact 33 rfl)⟩⟩
    d_look_body := let ⟨fd, F⟩ := c.def_ 34 rfl; ⟨⟨_, fd, F, He.glo_ok X G (c.fact 34 rfl)⟩⟩
    d_ordered := let ⟨fd, F⟩ := c.def_ 35 rfl; ⟨⟨_, fd, F, He.glo_ok X G (c.fact 35 rfl)⟩⟩
    d_look_entries := let ⟨fd, F⟩ := c.def_ 36 rfl; ⟨⟨_, fd, F, He.glo_ok X G (c.fact 36 rfl)⟩⟩
    d_law_bag := let ⟨fd, F⟩ := c.def_ 37 rfl; ⟨⟨_, fd, F, He.glo_ok X G (c.fact 37 rfl)⟩⟩
    d_law_take := let ⟨fd, F⟩ := c.def_ 38 rfl; ⟨⟨_, fd, F, He.glo_ok X G (c.fact 38 rfl)⟩⟩
    d_law_atom := let ⟨fd, F⟩ := c.def_ 39 rfl; ⟨⟨_, fd, F, He.glo_ok X G (c.fact 39 rfl)⟩⟩
    d_law_atoms := let ⟨fd, F⟩ := c.def_ 40 rfl; ⟨⟨_, fd, F, He.glo_ok X G (c.fact 40 rfl)⟩⟩
    d_law_leaf := let ⟨fd, F⟩ := c.def_ 41 rfl; ⟨⟨_, fd, F, He.glo_ok X G (c.fact 41 rfl)⟩⟩
    d_law_body := let ⟨fd, F⟩ := c.def_ 42 rfl; ⟨⟨_, fd, F, He.glo_ok X G (c.fact 42 rfl)⟩⟩
    d_law_arm := let ⟨fd, F⟩ := c.def_ 43 rfl; ⟨⟨_, fd, F, He.glo_ok X G (c.fact 43 rfl)⟩⟩
    d_law_rows := let ⟨fd, F⟩ := c.def_ 44 rfl; ⟨⟨_, fd, F, He.glo_ok X G (c.fact 44 rfl)⟩⟩
    d_law_pair := let ⟨fd, F⟩ := c.def_ 45 rfl; ⟨⟨_, fd, F, He.glo_ok X G (c.fact 45 rfl)⟩⟩
    d_law_plus := let ⟨fd, F⟩ := c.def_ 46 rfl; ⟨⟨_, fd, F, He.glo_ok X G (c.fact 46 rfl)⟩⟩
    d_law_less := let ⟨fd, F⟩ := c.def_ 47 rfl; ⟨⟨_, fd, F, He.glo_ok X G (c.fact 47 rfl)⟩⟩
    d_law_ends := let ⟨fd, F⟩ := c.def_ 48 rfl; ⟨⟨_, fd, F, He.glo_ok X G (c.fact 48 rfl)⟩⟩
    d_law_arms := let ⟨fd, F⟩ := c.def_ 49 rfl; ⟨⟨_, fd, F, He.glo_ok X G (c.fact 49 rfl)⟩⟩
    d_law_settled := let ⟨fd, F⟩ := c.def_ 50 rfl; ⟨⟨_, fd, F, He.glo_ok X G (c.fact 50 rfl)⟩⟩
    d_law_weight := let ⟨fd, F⟩ := c.def_ 51 rfl; ⟨⟨_, fd, F, He.glo_ok X G (c.fact 51 rfl)⟩⟩
    d_law_enters := let ⟨fd, F⟩ := c.def_ 52 rfl; ⟨⟨_, fd, F, He.glo_ok X G (c.fact 52 rfl)⟩⟩
    d_law_tight := let ⟨fd, F⟩ := c.def_ 53 rfl; ⟨⟨_, fd, F, He.glo_ok X G (c.fact 53 rfl)⟩⟩
    d_law_right := let ⟨fd, F⟩ := c.def_ 54 rfl; ⟨⟨_, fd, F, He.glo_ok X G (c.fact 54 rfl)⟩⟩
    d_law := let ⟨fd, F⟩ := c.def_ 55 rfl; ⟨⟨_, fd, F, He.glo_ok X G (c.fact 55 rfl)⟩⟩
    d_Script__init := let M := He.meth_ok (c.fact 56 (f := .meth "Script" "__init__") rfl); ⟨c.def_ 56 rfl, M.at_, M.fn, M.kp⟩
    d_Script_none := let ⟨fd, F⟩ := He5.DefA.funD (d := dNone) z.a (e 2 rfl); ⟨_, _, fd, F, He5.cmet_of (e 0 rfl) (e 1 rfl)⟩
    d_Script__eq := let M := He.meth_ok (c.fact 57 (f := .meth "Script" "__eq__") rfl); ⟨c.def_ 57 rfl, M.at_, M.fn, M.kp⟩
    d_Script__lt := let M := He.meth_ok (c.fact 58 (f := .meth "Script" "__lt__") rfl); ⟨c.def_ 58 rfl, M.at_, M.fn, M.kp⟩
    d_Script__add := let M := He.meth_ok (c.fact 59 (f := .meth "Script" "__add__") rfl); ⟨c.def_ 59 rfl, M.at_, M.fn, M.kp⟩
    d_Table__init := let M := He.meth_ok (c.fact 60 (f := .meth "Table" "__init__") rfl); ⟨c.def_ 60 rfl, M.at_, M.fn, M.kp⟩
    d_Table__contains := let M := He.meth_ok (c.fact 61 (f := .meth "Table" "__contains__") rfl); ⟨c.def_ 61 rfl, M.at_, M.fn, M.kp⟩
    d_Table__iter := let M := He.meth_ok (c.fact 62 (f := .meth "Table" "__iter__") rfl); ⟨c.def_ 62 rfl, M.at_, M.fn, M.kp⟩
    d_Table__getitem := let M := He.meth_ok (c.fact 63 (f := .meth "Table" "__getitem__") rfl); ⟨c.def_ 63 rfl, M.at_, M.fn, M.kp⟩
    d_Table_case_of := let M := He.meth_ok (c.fact 64 (f := .meth "Table" "case_of") rfl); ⟨c.def_ 64 rfl, M.at_, M.fn, M.kp⟩
    b_int := He.free_ok X G (c.fact 65 (f := .free "int") rfl)
    b_bool := He.free_ok X G (c.fact 66 (f := .free "bool") rfl)
    b_str := He.free_ok X G (c.fact 67 (f := .free "str") rfl)
    b_tuple := He.free_ok X G (c.fact 68 (f := .free "tuple") rfl)
    b_list := He.free_ok X G (c.fact 69 (f := .free "list") rfl)
    b_len := He.free_ok X G (c.fact 70 (f := .free "len") rfl)
    b_isinstance := He.free_ok X G (c.fact 71 (f := .free "isinstance") rfl)
    b_all := He.free_ok X G (c.fact 72 (f := .free "all") rfl)
    b_sum := He.free_ok X G (c.fact 73 (f := .free "sum") rfl)
    b_max := He.free_ok X G (c.fact 74 (f := .free "max") rfl)
    b_min := He.free_ok X G (c.fact 75 (f := .free "min") rfl)
    b_abs := He.free_ok X G (c.fact 76 (f := .free "abs") rfl)
    b_range := He.free_ok X G (c.fact 77 (f := .free "range") rfl)
    b_enumerate := He.free_ok X G (c.fact 78 (f := .free "enumerate") rfl)
    b_sorted := He.free_ok X G (c.fact 79 (f := .free "sorted") rfl)
    b_set := He.free_ok X G (c.fact 80 (f := .free "set") rfl)
    b_iter := He.free_ok X G (c.fact 81 (f := .free "iter") rfl)
    g_Script := He.glo_ok X G (c.fact 82 (f := .glo "Script") rfl)
    g_Table := He.glo_ok X G (c.fact 83 (f := .glo "Table") rfl)
    clsS := He.cls_ok (c.fact 84 (f := .cls "Script") rfl)
    clsT := He.cls_ok (c.fact 85 (f := .cls "Table") rfl)
    mkS := He.mkr_ok (c.fact 86 (f := .mkr "Script") rfl)
    mkT := He.mkr_ok (c.fact 87 (f := .mkr "Table") rfl)
    neS := He.eqO_ok (e 3 rfl)
    moS := of_decide_eq_true (e 4 rfl)
    nsS := of_decide_eq_true (e 5 rfl)
    haS := He.eqO_ok (e 6 rfl)
    hnS := He.eqO_ok (e 7 rfl)
    htS := of_decide_eq_true (e 8 rfl)
    kiS := of_decide_eq_true (e 9 rfl)
    knS := of_decide_eq_true (e 10 rfl)
    crS := ⟨e 11 rfl, He.eqO_ok (e 12 rfl)⟩
    cvS := cvB_ok (e 13 rfl)
    crT := ⟨e 14 rfl, He.eqO_ok (e 15 rfl)⟩
    cvT1 := cvB_ok (e 16 rfl)
    cvT2 := cvB_ok (e 17 rfl)
    sfS := e 18 rfl
    noS1 := He.noat_ok (c.fact 88 (f := .noat "Script" "steps") rfl)
    noS2 := He.noat_ok (c.fact 89 (f := .noat "Script" "bits") rfl)
    noT1 := He.noat_ok (c.fact 90 (f := .noat "Table" "functions") rfl)
    noT2 := He.noat_ok (c.fact 91 (f := .noat "Table" "cases") rfl)
    noT3 := He.noat_ok (c.fact 92 (f := .noat "Table" "names") rfl)
    noT4 := He.noat_ok (c.fact 93 (f := .noat "Table" "arms") rfl)
    noT5 := He.noat_ok (c.fact 94 (f := .noat "Table" "order") rfl)
    MOST_LETTERS := He.int_ok X G (c.fact 95 (f := .int "MOST_LETTERS" 8) rfl)
    MOST_ARGS := He.int_ok X G (c.fact 96 (f := .int "MOST_ARGS" 4) rfl)
    MOST_KEPT := He.int_ok X G (c.fact 97 (f := .int "MOST_KEPT" 8000) rfl)
    MOST_CONSTANT := He.int_ok X G (c.fact 98 (f := .int "MOST_CONSTANT" (10 ^ 30)) rfl)
    LETTERS := He.str_ok X G (c.fact 99 (f := .str "LETTERS" "abcdefghijklmnopqrstuvwxyz") rfl) }
  · have := e 19 rfl
    rw [decide_eq_true q] at this
    cases this
theorem glo_tallest {h : Heap} {K : PySem.W.Frag} {mg : Str → Option Value} (X : K.In h) (G : h.Ns mainGlobals mg) (z : SaysZ hdFa hdFn dNone hdTf (fun K => (hdEx K).all id) h K) : mg "tallest" = some (.ref (He.ga K "tallest")) := He.glo_ok X G (z.d.fact 28 (f := .glo "tallest") rfl)
end K52

namespace K52
open PySem PySem.W PySem.Calls PyProof.Rows
abbrev R : OpenRow := OpenLaw.row PySem.Challenge.rw_tailtables_k52_whole_tallest_solve
abbrev qv : Program := view R.prog [85]
def names0 : List PySem.Str := [("_wall" : PySem.Str), ("__name__" : PySem.Str), ("TablesError" : PySem.Str), ("BadFunction" : PySem.Str), ("BadCase" : PySem.Str), ("Twice" : PySem.Str), ("TooLarge" : PySem.Str), ("Unknown" : PySem.Str), ("Arity" : PySem.Str), ("NoSlot" : PySem.Str), ("Looped" : PySem.Str), ("BadScript" : PySem.Str), ("LETTERS" : PySem.Str), ("MOST_LETTERS" : PySem.Str), ("MOST_ARGS" : PySem.Str), ("MOST_KEPT" : PySem.Str), ("MOST_CONSTANT" : PySem.Str), ("is_integer" : PySem.Str), ("is_name" : PySem.Str), ("is_atom" : PySem.Str), ("are_atoms" : PySem.Str), ("first_twice" : PySem.Str), ("measured" : PySem.Str), ("walk" : PySem.Str), ("are_bits" : PySem.Str), ("least_of" : PySem.Str), ("joined" : PySem.Str), ("Script" : PySem.Str), ("entered_by" : PySem.Str), ("can_end" : PySem.Str), ("least_end" : PySem.Str), ("settled" : PySem.Str), ("can_ends" : PySem.Str), ("least_ends" : PySem.Str), ("look_name" : PySem.Str)]
def names1 : List PySem.Str := [("weight" : PySem.Str), ("take_tops" : PySem.Str), ("tops_in" : PySem.Str), ("tops_of" : PySem.Str), ("take_routes" : PySem.Str), ("routes_in" : PySem.Str), ("routes_of" : PySem.Str), ("settled_scripts" : PySem.Str), ("reached" : PySem.Str), ("heights_from" : PySem.Str), ("height" : PySem.Str), ("tallest" : PySem.Str), ("bodies_in" : PySem.Str), ("is_function" : PySem.Str), ("is_case" : PySem.Str), ("atoms_of" : PySem.Str), ("pushed_in" : PySem.Str), ("look_body" : PySem.Str), ("ordered" : PySem.Str), ("distances" : PySem.Str), ("ring_from" : PySem.Str), ("least_ring" : PySem.Str), ("Table" : PySem.Str), ("look_entries" : PySem.Str), ("_law_bag" : PySem.Str), ("_law_take" : PySem.Str), ("_law_atom" : PySem.Str), ("_law_atoms" : PySem.Str), ("_law_leaf" : PySem.Str), ("_law_body" : PySem.Str), ("_law_arm" : PySem.Str), ("_law_rows" : PySem.Str), ("_law_pair" : PySem.Str), ("_law_plus" : PySem.Str), ("_law_less" : PySem.Str)]
def names2 : List PySem.Str := [("_law_ends" : PySem.Str), ("_law_arms" : PySem.Str), ("_law_settled" : PySem.Str), ("_law_weight" : PySem.Str), ("_law_enters" : PySem.Str), ("_law_tight" : PySem.Str), ("_law_right" : PySem.Str)]
def names : List PySem.Str := names0 ++ names1 ++ names2


abbrev hk : Hook := hookZ 5 hdFa hdFn dNone hdTf (fun K => (hdEx K).all id)
def ob (s : SharedT) : AlZ := obsZ 5 hdFa hdFn dNone hdTf (fun K => (hdEx K).all id) (HandSHeadRun.getT s)
theorem ob_eq (s : SharedT) : ob s = hk.obs s.abs := obsZ_eq (HandSHeadRun.getT_eq s)
theorem run (w : World) : HandSHeadRun.RunEq R qv hk ob 6000 names w := by
  intro os
  kernel_rfl
end K52

namespace K52
open PySem PySem.Spec PyProof.Rows L2 NdefX LamX
theorem tabN_empty {H : Hp} {p : Addr} {nm : Nat → Nat → Str} (h : H p = some (.tbl #[])) : TabN H p nm := ⟨#[], h, trivial, fun pos cv hc => by cases hc⟩
theorem law_at {w : World} {K : PySem.W.Frag} {h : Heap} {mg : Str → Option Value} {fa : Addr} (X : K.In h) (G : h.Ns mainGlobals mg) (hfa : mg ("law" : Str) = some (.ref fa)) (z : SaysZ hdFa hdFn dNone hdTf (fun K => (hdEx K).all id) h K) : LawAtS PySem.Challenge.rw_tailtables_k52_whole_tallest_solve w K CX0 131 63 "_law_script" mg fa h := by
  obtain ⟨T, ne⟩ := txt_of X G z
  have m1 : (("tallest", none) : He.Defn) ∈ hdTf := List.mem_cons_self
  have m2 : (("Table", some "__init__") : He.Defn) ∈ hdTf := List.mem_cons_of_mem _ List.mem_cons_self
  have cs2 : ∀ {Q : Addr × Addr → Prop}, (∀ p ∈ hdTf, Q (He.cT K p)) → ∀ p ∈ [He.cT K ("tallest", none), He.cT K ("Table", some "__init__")], Q p := fun h p hp => by
    rcases List.mem_cons.mp hp with q | q
    · rw [q]; exact h _ m1
    · rw [List.mem_singleton.mp q]; exact h _ m2
  have hcode : ∀ f fd, FunD K "tallest" "tallest" (defArgs s_tallest) (defBody s_tallest) (defScope s_tallest) [] [("by", .str "frames")] f fd → mg "tallest" = some (.ref f) → fd.code = .ref (He.cT K ("tallest", none)).1 := fun f fd F g => by
    obtain ⟨f', fd', F', g'⟩ := T.d_tallest
    have e : f = He.ga K "tallest" := by
      have := glo_tallest X G z
      rw [g] at this
      injection this with this
      injection this
    subst e
    obtain ⟨oc, od, dV, kV, doc, pm, an, cdv, ct, osl, rfl, lk, hcd, _, _⟩ := F.ex
    obtain ⟨c, ec⟩ := He.codeIn_ref hcd
    have := He.codeOf_eq (p := ("tallest", none)) lk ec
    show cdv = _
    rw [ec]
    exact congrArg Value.ref this.symm
  have hcodI : ∀ fd, FunD K "__init__" "Table.__init__" (defArgs s_Table__init) (defBody s_Table__init) (defScope s_Table__init) [] [] (He.ma K (cT K) "__init__") fd → fd.code = .ref (He.cT K ("Table", some "__init__")).1 := fun fd F => by
    obtain ⟨oc, od, dV, kV, doc, pm, an, cdv, ct, osl, rfl, lk, hcd, _, _⟩ := F.ex
    obtain ⟨c, ec⟩ := He.codeIn_ref hcd
    have := He.codeOf_eq (p := ("Table", some "__init__")) lk ec
    show cdv = _
    rw [ec]
    exact congrArg Value.ref this.symm
  obtain ⟨fL, fdL, F, g⟩ := T.d_law.ex
  have eL : fL = fa := by
    rw [hfa] at g
    injection g with g
    injection g with g
    exact g.symm
  subst eL
  refine ⟨fdL, [He.cT K ("tallest", none), He.cT K ("Table", some "__init__")], spLaw K (He.cT K ("tallest", none)).2 (He.cT K ("Table", some "__init__")).2, cs2 z.empty, cs2 z.out, cs2 fun p hp => PySem.W.codeHd_of_K X (z.hd p hp), fun s v => FunD.bindsA (ps := ["_law_script"]) F (fun _ _ _ _ _ _ us hl => match us, hl with | [_], _ => rfl) s [v] rfl, fun H a ns hl _ hT hs => ⟨a, ns, rfl, hs, by omega, fun p hp => ?_, fun _ => rfl⟩, fun base Kb Gb hB => ?_⟩
  · rcases List.mem_cons.mp hp with q | q
    · rw [q]; exact tabN_empty (hT _ List.mem_cons_self)
    · rw [List.mem_singleton.mp q]; exact tabN_empty (hT _ (List.mem_cons_of_mem _ List.mem_cons_self))
  · exact c_law T ⟨hB _ List.mem_cons_self, hB _ (List.mem_cons_of_mem _ List.mem_cons_self), ne⟩ hcode hcodI F
end K52

open PySem PySem.W PySem.Calls PyProof.Rows
theorem PySem.Challenge.cw_tailtables_k52_whole_tallest_solve_holds : PySem.Challenge.rw_tailtables_k52_whole_tallest_solve.Holds := by
  w_on; o_law
  refine HandSHeadRun.head_any (r := OpenLaw.row PySem.Challenge.rw_tailtables_k52_whole_tallest_solve) (q := K52.qv) (H := K52.hk) (ob := K52.ob) (M := 6000) (loose := K52.names) (d := HandSHeadRun.topDef (OpenLaw.row PySem.Challenge.rw_tailtables_k52_whole_tallest_solve).prog 85) (kwd := []) K52.ob_eq (by kernel_rfl) (fun s => by kernel_rfl) K52.run (by kernel_rfl) (by kernel_rfl) (by kernel_rfl) (by rfl) (by first | assumption | decide +kernel) (by decide +kernel) ⟨rfl, rfl, rfl, rfl, rfl, by decide +kernel⟩ ?hw ?hc
  case hw => w_witness2
  case hc =>
    refine LamX.walk_ofTsE (l := PySem.Challenge.rw_tailtables_k52_whole_tallest_solve) (n := 63) (k := 131) (x := "_law_script") (CX := fun _ => L2.CX0) rfl (by decide) (by kernel_rfl) ⟨rfl, by decide, by decide⟩ ?F (fun _ _ _ _ _ z => z)
    intro w mg fa h Y G hmg0
    obtain ⟨K, KX, c⟩ := Y
    have hmg : mg ("law" : PySem.Str) = some (.ref fa) := by
      have e : (HandSHeadRun.topDef (OpenLaw.row PySem.Challenge.rw_tailtables_k52_whole_tallest_solve).prog 85).name = ("law" : PySem.Str) := by kernel_rfl
      rw [← e]
      exact hmg0
    exact ⟨K, KX, K52.law_at KX G hmg c⟩
