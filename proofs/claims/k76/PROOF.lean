import PyProof.Rows.All
import Wide.All
import OpenK.AllK
import Wide.FinOn
import HandS.ForMost
import HandS.Deep
import HandS.TupLe
import HandS.TupAny
import HandS.TupLen
import HandS.SortInts
import HandS.IsInst
import HandS.Defaults
import KE.KDictKeyed
import KE.KDictDisplayH
import KE.KDictWalk
import KE.SortData
import KE.GoesEnum
import HandS.Iter
import HandS.Walk
import KE.KStateDown
import HandS.Ends
import HandS.More
import HandS.Head0
import HandS.Head1
import HandS.Head2
import HandS.HeadEnd
import HandS.HeadHook1
import HandS.HeadHook2
import PySem.Challenge.RW_fadewords_k76_whole_parts_of_least_words
set_option Elab.async false
section
set_option autoImplicit false
set_option maxRecDepth 100000
set_option Elab.async false
/-! Fd00: what the program reckons, in plain Lean. -/
namespace Fd
abbrev Wd := List Int
abbrev Dd := List Int × List Int

def oldGo (ps : Wd) : Nat → Int → Int → Option Int
  | 0, f, l => if 0 < l then none else some f
  | n + 1, f, l => if 0 < l then oldGo ps n (f + 1) (if ps.any (fun y => decide (y = f + 1)) then l else l - 1) else some f

def ins (x : Int) : Wd → Wd
  | [] => [x]
  | y :: r => if x ≤ y then x :: y :: r else y :: ins x r
def isort : Wd → Wd
  | [] => []
  | x :: r => ins x (isort r)

def withLetter (vs : Wd) (d : Dd) (a : Int) : Option Dd :=
  match vs[a.toNat]? with
  | none => none
  | some v =>
    if 100 < d.1.length ∨ 100 < d.2.length ∨ v < 1 then none
    else if v ≤ (d.1.length : Int) then some (a :: (d.1.take (v - 1).toNat ++ d.1.drop v.toNat), d.2)
    else match oldGo d.2 20 0 (v - (d.1.length : Int)) with
      | none => none
      | some o => some (a :: d.1, isort (d.2 ++ [o]))

/-- the law's own way -/
def olds13 (ps : Wd) : Wd := ((List.range 13).map fun i => (1 : Int) + (i : Nat)).filter fun k => !(ps.any fun y => decide (y = k))
def lawNext (vs : Wd) (d : Dd) (a : Int) : Option Dd :=
  match vs[a.toNat]? with
  | none => none
  | some v =>
    if 100 < d.1.length ∨ 100 < d.2.length ∨ v < 1 then none
    else if v ≤ (d.1.length : Int) then some (a :: (d.1.take (v - 1).toNat ++ d.1.drop v.toNat), d.2)
    else match (olds13 d.2)[(v - (d.1.length : Int) - 1).toNat]? with
      | none => none
      | some o => some (a :: d.1, isort (d.2 ++ [o]))

def deedGo (vs : Wd) : Dd → Wd → Option Dd
  | d, [] => some d
  | d, a :: r => match withLetter vs d a with
    | none => none
    | some e => deedGo vs e r
def nothing : Dd := ([], [])
def deedOf (vs : Wd) (w : Wd) : Option Dd := deedGo vs nothing w

abbrev Found := List (Dd × Wd)
def look : Found → Dd → Option Wd
  | [], _ => none
  | p :: r, d => if p.1 = d then some p.2 else look r d

abbrev St := Found × List Dd
def stepL (nx : Dd → Int → Option Dd) (told : Dd) (st : St) (a : Int) : Option St :=
  if 3000 ≤ st.1.length ∨ 3000 ≤ st.2.length then none else
  match nx told a with
  | none => none
  | some m => match look st.1 m with
    | some _ => some st
    | none => match look st.1 told with
      | none => none
      | some w => if 100 < w.length then none else some (st.1 ++ [(m, w ++ [a])], st.2 ++ [m])
def innerL (nx : Dd → Int → Option Dd) (told : Dd) : List Int → St → Option St
  | [], st => some st
  | a :: r, st => match stepL nx told st a with
    | none => none
    | some st' => innerL nx told r st'
def letters (n : Nat) : List Int := (List.range n).map fun i => (0 : Int) + (i : Nat)
def levelL (nx : Dd → Int → Option Dd) (n : Nat) : List Dd → St → Option St
  | [], st => some st
  | t :: r, st => match innerL nx t (letters n) st with
    | none => none
    | some st' => levelL nx n r st'
def walkN (nx : Dd → Int → Option Dd) (n : Nat) : Nat → Found → List Dd → Option Found
  | _, f, [] => some f
  | 0, _, _ :: _ => none
  | k + 1, f, t :: r => match levelL nx n (t :: r) (f, []) with
    | none => none
    | some st => if 3000 < st.1.length then none else walkN nx n k st.1 st.2
def start0 : Found := [(nothing, [])]
def foundOf (vs : Wd) : Option Found := walkN (withLetter vs) vs.length 12 start0 [nothing]
def foundLaw (vs : Wd) : Option Found := walkN (lawNext vs) vs.length 12 start0 [nothing]

/-- the least word of a word -/
def lw (vs : Wd) (f : Found) (w : Wd) : Option Wd := match deedOf vs w with
  | none => none
  | some d => look f d

abbrev Rules := List (Wd × Wd)
def ruleStep (vs : Wd) (f : Found) (w : Wd) (rs : Rules) (a : Int) : Option Rules :=
  if 100 < w.length ∨ 3000 ≤ rs.length then none else
  match lw vs f (w ++ [a]) with
  | none => none
  | some g => if g = w ++ [a] then some rs else
    match lw vs f (w ++ [a]).tail with
    | none => none
    | some h => if h = (w ++ [a]).tail then some (rs ++ [(w ++ [a], g)]) else some rs
def ruleIn (vs : Wd) (f : Found) (w : Wd) : List Int → Rules → Option Rules
  | [], rs => some rs
  | a :: r, rs => match ruleStep vs f w rs a with
    | none => none
    | some rs' => ruleIn vs f w r rs'
def ruleGo (vs : Wd) (f : Found) : List Wd → Rules → Option Rules
  | [], rs => some rs
  | w :: r, rs => match ruleIn vs f w (letters vs.length) rs with
    | none => none
    | some rs' => ruleGo vs f r rs'
def rulesOf (vs : Wd) (f : Found) : Option Rules := ruleGo vs f (f.map (·.2)) []

/-- words in their order -/
def lexB : Wd → Wd → Bool
  | [], [] => false
  | [], _ :: _ => true
  | _ :: _, [] => false
  | x :: xs, y :: ys => if x = y then lexB xs ys else decide (x < y)
def ltW (u v : Wd) : Bool := if u.length = v.length then lexB u v else decide (u.length < v.length)
def meas (w : Wd) : Int := 3 * (w.length : Int) + w.sum

/-! ### the checks -/
def prefixes : Wd → List Wd
  | [] => [[]]
  | x :: r => [] :: (prefixes r).map (x :: ·)
def factors : Wd → List Wd
  | [] => [[]]
  | x :: r => prefixes (x :: r) ++ factors r
def okLet (n : Nat) (w : Wd) : Bool := w.all fun a => decide (0 ≤ a ∧ a < (n : Int))
def sortedB : List Wd → Bool
  | [] => true
  | [_] => true
  | u :: v :: r => ltW u v && sortedB (v :: r)
structure Facts (vs : Wd) (f : Found) (rs : Rules) : Prop where
  walk : foundOf vs = some f
  law : ∃ g, foundLaw vs = some g
  rules : rulesOf vs f = some rs
  size : f.length ≤ 60 ∧ rs.length ≤ 90
  first : look f nothing = some []
  least : ∀ p ∈ f, deedOf vs p.2 = some p.1 ∧ look f p.1 = some p.2 ∧ okLet vs.length p.2 = true ∧ p.2.length ≤ 6
  parts : ∀ p ∈ f, ∀ u ∈ factors p.2, u ∈ f.map (·.2)
  closed : ∀ p ∈ f, ∀ a ∈ letters vs.length, ∃ e w, withLetter vs p.1 a = some e ∧ look f e = some w
  left : ∀ p ∈ f, ∀ a ∈ letters vs.length, ∀ b ∈ letters vs.length, ∃ u, lw vs f (p.2 ++ [b]) = some u ∧ deedOf vs (a :: (p.2 ++ [b])) = deedOf vs (a :: u)
  known : ∀ p ∈ f, ∀ a ∈ letters vs.length, ∃ g h, lw vs f (p.2 ++ [a]) = some g ∧ lw vs f (p.2 ++ [a]).tail = some h ∧ (g = p.2 ++ [a] ∨ h ≠ (p.2 ++ [a]).tail ∨ (p.2 ++ [a], g) ∈ rs)
  falls : ∀ r ∈ rs, deedOf vs r.1 = deedOf vs r.2 ∧ ltW r.2 r.1 = true ∧ meas r.2 < meas r.1 ∧ okLet vs.length r.2 = true ∧ okLet vs.length r.1 = true ∧ r.2.length ≤ r.1.length ∧ r.1.length ≤ 6
  order : sortedB (f.map (·.2)) = true

def isSomeB {α : Type} : Option α → Bool
  | some _ => true
  | none => false
def chkClosed (vs : Wd) (f : Found) (d : Dd) (a : Int) : Bool := match withLetter vs d a with
  | none => false
  | some e => isSomeB (look f e)
def chkLeft (vs : Wd) (f : Found) (w : Wd) (a b : Int) : Bool := match lw vs f (w ++ [b]) with
  | none => false
  | some u => decide (deedOf vs (a :: (w ++ [b])) = deedOf vs (a :: u))
def chkKnown (vs : Wd) (f : Found) (rs : Rules) (w : Wd) (a : Int) : Bool := match lw vs f (w ++ [a]), lw vs f (w ++ [a]).tail with
  | some g, some h => decide (g = w ++ [a]) || !decide (h = (w ++ [a]).tail) || rs.any fun r => decide (r = (w ++ [a], g))
  | _, _ => false
def memB (u : Wd) (l : List Wd) : Bool := l.any fun v => decide (v = u)
def check (vs : Wd) : Bool := match foundOf vs with
  | none => false
  | some f => match rulesOf vs f with
    | none => false
    | some rs =>
      isSomeB (foundLaw vs) && (decide (f.length ≤ 60 ∧ rs.length ≤ 90) && (decide (look f nothing = some []) &&
      ((f.all fun p => decide (deedOf vs p.2 = some p.1) && (decide (look f p.1 = some p.2) && (okLet vs.length p.2 && decide (p.2.length ≤ 6)))) &&
      ((f.all fun p => (factors p.2).all fun u => memB u (f.map (·.2))) &&
      ((f.all fun p => (letters vs.length).all fun a => chkClosed vs f p.1 a) &&
      ((f.all fun p => (letters vs.length).all fun a => (letters vs.length).all fun b => chkLeft vs f p.2 a b) &&
      ((f.all fun p => (letters vs.length).all fun a => chkKnown vs f rs p.2 a) &&
      ((rs.all fun r => decide (deedOf vs r.1 = deedOf vs r.2) && (ltW r.2 r.1 && (decide (meas r.2 < meas r.1) && (okLet vs.length r.2 && (okLet vs.length r.1 && decide (r.2.length ≤ r.1.length ∧ r.1.length ≤ 6)))))) &&
      sortedB (f.map (·.2))))))))))

theorem and2 {a b : Bool} (h : (a && b) = true) : a = true ∧ b = true := Bool.and_eq_true_iff.mp h
theorem isSomeB_ok {α : Type} : ∀ {o : Option α}, isSomeB o = true → ∃ x, o = some x
  | some x, _ => ⟨x, rfl⟩
  | none, h => (nomatch h)
theorem memB_ok {u : Wd} {l : List Wd} (h : memB u l = true) : u ∈ l := by
  obtain ⟨v, hv, e⟩ := List.any_eq_true.mp h
  have e' : v = u := of_decide_eq_true e
  exact e' ▸ hv
theorem facts_of {vs : Wd} (h : check vs = true) : ∃ f rs, Facts vs f rs := by
  unfold check at h
  cases hf : foundOf vs with
  | none => rw [hf] at h; cases h
  | some f =>
    rw [hf] at h
    simp only at h
    cases hr : rulesOf vs f with
    | none => rw [hr] at h; cases h
    | some rs =>
      rw [hr] at h
      simp only at h
      obtain ⟨c1, h⟩ := and2 h
      obtain ⟨c2, h⟩ := and2 h
      obtain ⟨c3, h⟩ := and2 h
      obtain ⟨c4, h⟩ := and2 h
      obtain ⟨c5, h⟩ := and2 h
      obtain ⟨c6, h⟩ := and2 h
      obtain ⟨c7, h⟩ := and2 h
      obtain ⟨c8, h⟩ := and2 h
      obtain ⟨c9, c10⟩ := and2 h
      refine ⟨f, rs, hf, isSomeB_ok c1, hr, of_decide_eq_true c2, of_decide_eq_true c3, fun p hp => ?_, fun p hp u hu => ?_, fun p hp a ha => ?_, fun p hp a ha b hb => ?_, fun p hp a ha => ?_, fun r hr => ?_, c10⟩
      · have q := List.all_eq_true.mp c4 p hp
        obtain ⟨q1, q⟩ := and2 q
        obtain ⟨q2, q⟩ := and2 q
        obtain ⟨q3, q4⟩ := and2 q
        exact ⟨of_decide_eq_true q1, of_decide_eq_true q2, q3, of_decide_eq_true q4⟩
      · exact memB_ok (List.all_eq_true.mp (List.all_eq_true.mp c5 p hp) u hu)
      · have q := List.all_eq_true.mp (List.all_eq_true.mp c6 p hp) a ha
        unfold chkClosed at q
        cases e : withLetter vs p.1 a with
        | none => rw [e] at q; cases q
        | some d =>
          rw [e] at q
          obtain ⟨w, hw⟩ := isSomeB_ok q
          exact ⟨d, w, rfl, hw⟩
      · have q := List.all_eq_true.mp (List.all_eq_true.mp (List.all_eq_true.mp c7 p hp) a ha) b hb
        unfold chkLeft at q
        cases e : lw vs f (p.2 ++ [b]) with
        | none => rw [e] at q; cases q
        | some u =>
          rw [e] at q
          exact ⟨u, rfl, of_decide_eq_true q⟩
      · have q := List.all_eq_true.mp (List.all_eq_true.mp c8 p hp) a ha
        unfold chkKnown at q
        cases e : lw vs f (p.2 ++ [a]) with
        | none => rw [e] at q; cases q
        | some g =>
          cases e2 : lw vs f (p.2 ++ [a]).tail with
          | none => rw [e, e2] at q; cases q
          | some h =>
            rw [e, e2] at q
            refine ⟨g, h, rfl, rfl, ?_⟩
            have q' : (decide (g = p.2 ++ [a]) || !decide (h = (p.2 ++ [a]).tail) || rs.any fun r => decide (r = (p.2 ++ [a], g))) = true := q
            rcases (Bool.or_eq_true _ _).mp q' with q' | q'
            · rcases (Bool.or_eq_true _ _).mp q' with q' | q'
              · exact .inl (of_decide_eq_true q')
              · exact .inr (.inl fun z => by simp [z] at q')
            · obtain ⟨r, hr, er⟩ := List.any_eq_true.mp q'
              have er' : r = (p.2 ++ [a], g) := of_decide_eq_true er
              exact .inr (.inr (er' ▸ hr))
      · have q := List.all_eq_true.mp c9 r hr
        obtain ⟨q1, q⟩ := and2 q
        obtain ⟨q2, q⟩ := and2 q
        obtain ⟨q3, q⟩ := and2 q
        obtain ⟨q4, q⟩ := and2 q
        obtain ⟨q5, q6⟩ := and2 q
        exact ⟨of_decide_eq_true q1, q2, of_decide_eq_true q3, q4, q5, of_decide_eq_true q6⟩

/-- the values that the law may draw -/
def okVals (vs : Wd) : Bool := decide (1 ≤ vs.length ∧ vs.length ≤ 3) && vs.all fun v => decide (1 ≤ v ∧ v ≤ 3)
def three : List Int := [1, 2, 3]
theorem three_of {v : Int} (h : decide (1 ≤ v ∧ v ≤ 3) = true) : v = 1 ∨ v = 2 ∨ v = 3 := by
  have := of_decide_eq_true h
  omega
end Fd
end
section
set_option autoImplicit false
set_option maxRecDepth 100000
set_option Elab.async false
/-! Fd01: the closed checks over the 39 values. -/
namespace Fd
theorem chk_1 : check [1] = true := by decide +kernel
theorem chk_2 : check [2] = true := by decide +kernel
theorem chk_3 : check [3] = true := by decide +kernel
theorem chk_11 : check [1, 1] = true := by decide +kernel
theorem chk_12 : check [1, 2] = true := by decide +kernel
theorem chk_13 : check [1, 3] = true := by decide +kernel
theorem chk_21 : check [2, 1] = true := by decide +kernel
theorem chk_22 : check [2, 2] = true := by decide +kernel
theorem chk_23 : check [2, 3] = true := by decide +kernel
theorem chk_31 : check [3, 1] = true := by decide +kernel
theorem chk_32 : check [3, 2] = true := by decide +kernel
theorem chk_33 : check [3, 3] = true := by decide +kernel
theorem chk_111 : check [1, 1, 1] = true := by decide +kernel
theorem chk_112 : check [1, 1, 2] = true := by decide +kernel
theorem chk_113 : check [1, 1, 3] = true := by decide +kernel
theorem chk_121 : check [1, 2, 1] = true := by decide +kernel
theorem chk_122 : check [1, 2, 2] = true := by decide +kernel
theorem chk_123 : check [1, 2, 3] = true := by decide +kernel
theorem chk_131 : check [1, 3, 1] = true := by decide +kernel
theorem chk_132 : check [1, 3, 2] = true := by decide +kernel
theorem chk_133 : check [1, 3, 3] = true := by decide +kernel
theorem chk_211 : check [2, 1, 1] = true := by decide +kernel
theorem chk_212 : check [2, 1, 2] = true := by decide +kernel
theorem chk_213 : check [2, 1, 3] = true := by decide +kernel
theorem chk_221 : check [2, 2, 1] = true := by decide +kernel
theorem chk_222 : check [2, 2, 2] = true := by decide +kernel
theorem chk_223 : check [2, 2, 3] = true := by decide +kernel
theorem chk_231 : check [2, 3, 1] = true := by decide +kernel
theorem chk_232 : check [2, 3, 2] = true := by decide +kernel
theorem chk_233 : check [2, 3, 3] = true := by decide +kernel
theorem chk_311 : check [3, 1, 1] = true := by decide +kernel
theorem chk_312 : check [3, 1, 2] = true := by decide +kernel
theorem chk_313 : check [3, 1, 3] = true := by decide +kernel
theorem chk_321 : check [3, 2, 1] = true := by decide +kernel
theorem chk_322 : check [3, 2, 2] = true := by decide +kernel
theorem chk_323 : check [3, 2, 3] = true := by decide +kernel
theorem chk_331 : check [3, 3, 1] = true := by decide +kernel
theorem chk_332 : check [3, 3, 2] = true := by decide +kernel
theorem chk_333 : check [3, 3, 3] = true := by decide +kernel
theorem facts {vs : Wd} (h : okVals vs = true) : ∃ f rs, Facts vs f rs := by
  obtain ⟨h1, h2⟩ := and2 h
  have h1' := of_decide_eq_true h1
  match vs, h1', h2 with
  | [a], _, h2 =>
    have ha := three_of (List.all_eq_true.mp h2 a (by simp))
    rcases ha with rfl | rfl | rfl
    · exact facts_of chk_1
    · exact facts_of chk_2
    · exact facts_of chk_3
  | [a, b], _, h2 =>
    have ha := three_of (List.all_eq_true.mp h2 a (by simp))
    have hb := three_of (List.all_eq_true.mp h2 b (by simp))
    rcases ha with rfl | rfl | rfl <;> rcases hb with rfl | rfl | rfl
    · exact facts_of chk_11
    · exact facts_of chk_12
    · exact facts_of chk_13
    · exact facts_of chk_21
    · exact facts_of chk_22
    · exact facts_of chk_23
    · exact facts_of chk_31
    · exact facts_of chk_32
    · exact facts_of chk_33
  | [a, b, c], _, h2 =>
    have ha := three_of (List.all_eq_true.mp h2 a (by simp))
    have hb := three_of (List.all_eq_true.mp h2 b (by simp))
    have hc := three_of (List.all_eq_true.mp h2 c (by simp))
    rcases ha with rfl | rfl | rfl <;> rcases hb with rfl | rfl | rfl <;> rcases hc with rfl | rfl | rfl
    · exact facts_of chk_111
    · exact facts_of chk_112
    · exact facts_of chk_113
    · exact facts_of chk_121
    · exact facts_of chk_122
    · exact facts_of chk_123
    · exact facts_of chk_131
    · exact facts_of chk_132
    · exact facts_of chk_133
    · exact facts_of chk_211
    · exact facts_of chk_212
    · exact facts_of chk_213
    · exact facts_of chk_221
    · exact facts_of chk_222
    · exact facts_of chk_223
    · exact facts_of chk_231
    · exact facts_of chk_232
    · exact facts_of chk_233
    · exact facts_of chk_311
    · exact facts_of chk_312
    · exact facts_of chk_313
    · exact facts_of chk_321
    · exact facts_of chk_322
    · exact facts_of chk_323
    · exact facts_of chk_331
    · exact facts_of chk_332
    · exact facts_of chk_333
  | [], h1', _ => exact absurd h1'.1 (by decide)
  | _ :: _ :: _ :: _ :: _, h1', _ => exact absurd h1'.2 (by simp)
end Fd
end
section
set_option Elab.async false
set_option linter.all false
set_option maxRecDepth 100000
set_option maxHeartbeats 4000000
/-! Fd02: rules of our own over the layer: tuples kept, dicts whose keys are pairs of tuples of ints. -/
namespace Fw
open PySem PySem.Spec PyProof.Rows L2

/-! ### tuples of ints, deeds -/
/-- every tuple that can be read stays so -/
def Keep (H H' : Hp) : Prop := ∀ a xs, Rd H a (.tup xs) → Rd H' a (.tup xs)
theorem Keep.refl (H : Hp) : Keep H H := fun _ _ h => h
theorem Keep.trans {H H1 H2 : Hp} (a : Keep H H1) (b : Keep H1 H2) : Keep H H2 := fun p xs h => b p xs (a p xs h)
theorem Keep.same {H H' : Hp} (e : Same H H') : Keep H H' := fun a xs h => by
  rcases h with h | ⟨o, h⟩
  · exact .inl (e _ _ h)
  · exact .inr ⟨o, e _ _ h⟩
theorem Keep.at_ {H : Hp} {p : Addr} {u : HO} (h : ∀ xs, ¬ Rd H p (.tup xs)) : Keep H (upd H p u) := fun a xs r => by
  have ne : a ≠ p := fun e => h xs (e ▸ r)
  unfold Rd
  rw [upd_ne ne]
  exact r
theorem same_new {H : Hp} {p : Addr} {o : HO} (h : H p = none) : Same H (upd H p o) := fun b u e => by
  rw [upd_ne (ne_of_none e h)]
  exact e
theorem Keep.sqt {K : PySem.W.Frag} {H H' : Hp} {a : Addr} {xs : List V} (k : Keep H H') (h : SqT K H a xs) : SqT K H' a xs := h.imp (k _ _) id
def Tu (K : PySem.W.Frag) (H : Hp) (a : Addr) (ns : List Int) : Prop := SqT K H a (ns.map V.int)
theorem Tu.keep {K : PySem.W.Frag} {H H' : Hp} {a : Addr} {ns : List Int} (h : Tu K H a ns) (k : Keep H H') : Tu K H' a ns := k.sqt h
def De (K : PySem.W.Frag) (H : Hp) (a : Addr) (d : Fd.Dd) : Prop := ∃ p q, SqT K H a [.ref p, .ref q] ∧ Tu K H p d.1 ∧ Tu K H q d.2
theorem De.keep {K : PySem.W.Frag} {H H' : Hp} {a : Addr} {d : Fd.Dd} (h : De K H a d) (k : Keep H H') : De K H' a d :=
  let ⟨p, q, h1, h2, h3⟩ := h; ⟨p, q, k.sqt h1, h2.keep k, h3.keep k⟩

/-! ### the keys -/
def keyN (d : Fd.Dd) : NestedKey := .tup [.tup (d.1.map .num), .tup (d.2.map .num)]
theorem nums_inj : ∀ {xs ys : List Int}, xs.map NestedKey.num = ys.map NestedKey.num → xs = ys
  | [], [], _ => rfl
  | [], _ :: _, h => by cases h
  | _ :: _, [], h => by cases h
  | x :: xs, y :: ys, h => by
    rw [List.map_cons, List.map_cons] at h
    injection h with h1 h2
    injection h1 with h1
    rw [h1, nums_inj h2]
theorem keyN_inj {d e : Fd.Dd} (h : keyN d = keyN e) : d = e := by
  unfold keyN at h
  injection h with h
  injection h with h1 h
  injection h with h2 _
  injection h1 with h1
  injection h2 with h2
  exact Prod.ext (nums_inj h1) (nums_inj h2)
theorem depth_nums : ∀ xs : List Int, NestedKey.depthAll (xs.map .num) = 0
  | [] => by simp [NestedKey.depthAll]
  | x :: xs => by
    rw [List.map_cons, NestedKey.depthAll, depth_nums xs]
    simp [NestedKey.depth]
theorem keyN_depth (d : Fd.Dd) : (keyN d).depth ≤ 8 := by
  unfold keyN
  simp [NestedKey.depth, NestedKey.depthAll, depth_nums]
theorem nested_ints {h : Heap} : ∀ {ns : List Int} {its : List Value}, Vals (ns.map V.int) its → NestedAll h (ns.map .num) its
  | [], _, r => by
    cases r
    exact .nil
  | n :: ns, _, r => by
    rw [List.map_cons] at r
    cases r with
    | cons r1 r2 =>
      obtain ⟨t, rfl⟩ := r1
      exact .cons (.int _ _) (nested_ints r2)
section
variable {X : Cx} {pins : List (Addr × Obj)} {σ : L2.St} {H : Hp} {s : Shared}
theorem Tu.nested (I : Inv X pins σ H s) {a : Addr} {ns : List Int} (h : Tu X.K H a ns) : NestedIs s.heap (.tup (ns.map .num)) (.ref a) := by
  obtain ⟨its, r, ⟨o, ho, hc, n, hd⟩, _⟩ := I.tuple h
  exact .tup ho hc hd (by simpa using nested_ints r)
theorem De.is (I : Inv X pins σ H s) {a : Addr} {d : Fd.Dd} (h : De X.K H a d) : (nestedKind X.prog X.w).is s.heap (keyN d) a := by
  obtain ⟨p, q, h1, h2, h3⟩ := h
  obtain ⟨its, r, ⟨o, ho, hc, n, hd⟩, _⟩ := I.tuple h1
  refine ⟨.tup ho hc hd ?_, keyN_depth d⟩
  cases r with
  | cons r1 r2 =>
    cases r2 with
    | cons r2 r3 =>
      cases r3
      cases r1
      cases r2
      exact .cons (h2.nested I) (.cons (h3.nested I) .nil)
end

/-! ### the dict -/
abbrev Ent := Fd.Dd × Addr × Addr
def entV (e : Ent) : NestedKey × Addr × Value := (keyN e.1, e.2.1, .ref e.2.2)
def lookE (es : List Ent) (d : Fd.Dd) : Option (Addr × Addr) := (es.find? fun e => decide (e.1 = d)).map (·.2)
theorem at_entV (es : List Ent) (d : Fd.Dd) : atKey (es.map entV) (keyN d) = (lookE es d).map fun p => (p.1, Value.ref p.2) := by
  induction es with
  | nil => rfl
  | cons e es ih =>
    by_cases h : e.1 = d
    · have h' : keyN e.1 = keyN d := by rw [h]
      simp [atKey, lookE, entV, h, h']
    · have h' : ¬ keyN e.1 = keyN d := fun q => h (keyN_inj q)
      simpa [atKey, lookE, entV, h, h'] using ih
def NdP (P : Program) (w : World) (a : Addr) (es : List Ent) (h : Heap) : Prop :=
  (a == sysModules) = false ∧ es.length ≤ sizeLine ∧ (es.map (·.1)).Nodup ∧
    ∃ o as ep, h.get? a = some o ∧ o.ExactDict ∧ o.data = .dict as ep ∧ as.toList = (es.map entV).map (entryOfKey (nestedKind P w))
def NdO (P : Program) (w : World) (a : Addr) (es : List Ent) : HO := .ext (NdP P w a es)
theorem nd_ok {P : Program} {w : World} {H : Hp} {h : Heap} {a : Addr} {es : List Ent} (q : NdP P w a es h) : ObjOk P w H h a (NdO P w a es) := by
  obtain ⟨h1, h2, h3, o, as, ep, h4, h5⟩ := id q
  refine ⟨q, ⟨o, h4⟩, fun g g' z k => ?_⟩
  obtain ⟨z1, z2, z3, o', as', ep', z4, z5⟩ := z
  exact ⟨z1, z2, z3, o', as', ep', k _ z4, z5⟩
def Keys (K : PySem.W.Frag) (H : Hp) (es : List Ent) : Prop := ∀ e ∈ es, De K H e.2.1 e.1
theorem Keys.keep {K : PySem.W.Frag} {H H' : Hp} {es : List Ent} (h : Keys K H es) (k : Keep H H') : Keys K H' es := fun e he => (h e he).keep k
theorem nodup_keyN : ∀ {es : List Ent}, (es.map (·.1)).Nodup → ((es.map entV).map (·.1)).Nodup
  | [], _ => List.nodup_nil
  | e :: es, h => by
    rw [List.map_cons, List.nodup_cons] at h
    rw [List.map_cons, List.map_cons, List.nodup_cons]
    refine ⟨fun m => h.1 ?_, nodup_keyN h.2⟩
    obtain ⟨y, hy, q⟩ := List.mem_map.mp m
    obtain ⟨z, hz, rfl⟩ := List.mem_map.mp hy
    exact List.mem_map.mpr ⟨z, hz, keyN_inj q⟩
theorem nodup_of_keyN : ∀ {es : List Ent}, ((es.map entV).map (·.1)).Nodup → (es.map (·.1)).Nodup
  | [], _ => List.nodup_nil
  | e :: es, h => by
    rw [List.map_cons, List.map_cons, List.nodup_cons] at h
    rw [List.map_cons, List.nodup_cons]
    refine ⟨fun m => h.1 ?_, nodup_of_keyN h.2⟩
    obtain ⟨z, hz, q⟩ := List.mem_map.mp m
    have q' : z.1 = e.1 := q
    refine List.mem_map.mpr ⟨entV z, List.mem_map.mpr ⟨z, hz, rfl⟩, ?_⟩
    show keyN z.1 = keyN e.1
    rw [q']
section
variable {X : Cx} {pins : List (Addr × Obj)} {σ : L2.St} {H : Hp} {s : Shared} {a : Addr} {es : List Ent}
theorem nd_at (I : Inv X pins σ H s) (h : Rd H a (NdO X.prog X.w a es)) : NdP X.prog X.w a es s.heap := (h.ok I.hok).1
theorem nd_dict (I : Inv X pins σ H s) (h : NdP X.prog X.w a es s.heap) (hk : Keys X.K H es) : s.heap.DictOfH (nestedKind X.prog X.w) a (es.map entV) := by
  obtain ⟨h1, h2, h3, o, as, ep, h4, h5, h6, h7⟩ := h
  refine ⟨o, as, ep, h4, h5, h6, h7, fun x hx => ?_, nodup_keyN h3⟩
  obtain ⟨e, he, rfl⟩ := List.mem_map.mp hx
  exact (hk e he).is I
theorem nd_room {A : Around} (hu : A.units + 64 < cLine) : (nestedKind X.prog X.w).room A.in1 := by
  show A.units + 1 + 8 < cLine
  omega
end
section
variable {X : Cx}
/-- k not in d -/
def rNdNot (P : Program) (w : World) (K : PySem.W.Frag) : R2 := fun x y H Q => ∃ a b d es, x = .ref b ∧ y = .ref a ∧ Rd H a (NdO P w a es) ∧ Keys K H es ∧ De K H b d ∧ Q (.bl (!(lookE es d).isSome)) H
theorem op_ndNot (hu : X.A.units + 64 < cLine) : OpR X (compareOp .NotIn) (rNdNot X.prog X.w X.K) := by
  intro pins s σ H x y v u Q I rx ry h
  obtain ⟨a, b, d, es, rfl, rfl, hr, hk, hd, q⟩ := h
  cases rx
  cases ry
  have n := nd_at I hr
  refine wpAny_notIn_heap (nd_room hu) (hd.is I) n.1 (nd_dict I n hk) ?_
  rw [at_entV, Option.isSome_map]
  exact ⟨.bl _, H, I.tok _, rfl, q⟩
/-- d[k] -/
def rNdGet (P : Program) (w : World) (K : PySem.W.Frag) : R2 := fun x y H Q => ∃ a b d es p c, x = .ref a ∧ y = .ref b ∧ Rd H a (NdO P w a es) ∧ Keys K H es ∧ De K H b d ∧ lookE es d = some (p, c) ∧ Q (.ref c) H
theorem ix_nd (hu : X.A.units + 64 < cLine) : IxR X (rNdGet X.prog X.w X.K) := by
  intro value slice pins s σ H x y v u Q I rx ry h hs
  obtain ⟨a, b, d, es, p, c, rfl, rfl, hr, hk, hd, hl, q⟩ := h
  cases rx
  cases ry
  have n := nd_at I hr
  have dd := nd_dict I n hk
  refine tail_any dd.typeIs slot_dict_getitem.lookup ?_ hs
  refine wpAny_getItem_heap (p := (p, .ref c)) (nd_room hu) (hd.is I) dd ?_ ⟨.ref c, H, I.tok _, rfl, q⟩
  rw [at_entV, hl]
  rfl
/-- d[k] = v, k not there yet -/
def rNdSet (P : Program) (w : World) (K : PySem.W.Frag) : TSet := fun o i v H Q => ∃ a b d es c, o = .ref a ∧ i = .ref b ∧ v = .ref c ∧ H a = some (NdO P w a es) ∧ Keys K H es ∧ De K H b d ∧ lookE es d = none ∧ es.length < sizeLine ∧ Q (upd H a (NdO P w a (es ++ [(d, b, c)])))
theorem set_nd (hu : X.A.units + 64 < cLine) : PSet X (rNdSet X.prog X.w X.K) := by
  intro pins s σ H o i v ov iv u Q I ro ri rv h
  obtain ⟨a, b, d, es, c, rfl, rfl, rfl, ha, hk, hd, hl, hz, q⟩ := h
  cases ro
  cases ri
  cases rv
  have n := nd_at I (.inl ha)
  have dd := nd_dict I n hk
  refine wpAny_setItem_heap (nd_room hu) (hd.is I) dd (fun h' dd' hs => ?_) (hsz := by rw [List.length_map]; omega)
  have e0 : storedH (es.map entV) (keyN d) b (Value.ref c) = (es ++ [(d, b, c)]).map entV := by
    rw [storedH_new (by rw [at_entV, hl]; rfl), List.map_append]
    rfl
  rw [e0] at dd'
  obtain ⟨o', as, ep, z1, z2, z3, z4, _, z6⟩ := dd'
  have hz' : (es ++ [(d, b, c)]).length ≤ sizeLine := by rw [List.length_append, List.length_singleton]; omega
  exact ⟨_, d_write I (by rw [ha]; exact True.intro) hs ⟨o', z1⟩ (nd_ok ⟨n.1, hz', nodup_of_keyN z6, o', as, ep, z1, z2, z3, z4⟩), q⟩
/-- len(d) -/
def rNdLen (P : Program) (w : World) (K : PySem.W.Frag) : List V → Hp → VK → Prop := fun xs H Q => ∃ a es, xs = [.ref a] ∧ Rd H a (NdO P w a es) ∧ Keys K H es ∧ Q (.int ((es.length : Nat) : Int)) H
theorem call_ndLen : CallR X (.builtin "len") (rNdLen X.prog X.w X.K) := by
  intro pins s σ H xs us Q I r h
  obtain ⟨a, es, rfl, hr, hk, q⟩ := h
  obtain ⟨u, rfl, rx⟩ := vals1 r
  obtain rfl : u = .ref a := rx
  have n := nd_at I hr
  have dd := nd_dict I n hk
  have hz := n.2.1
  refine call_len_dictH n.1 dd (by rw [List.length_map]; rw [sizeLine_eq] at hz; omega) ?_
  rw [List.length_map]
  exact ⟨.int ((es.length : Nat) : Int), H, I.tok _, ⟨_, rfl⟩, q⟩
/-- {k: v} -/
def tNd1 (P : Program) (w : World) (K : PySem.W.Frag) (tk tv : TE) : TE := fun σ H Q => ∀ p, H p = none → tPairs [(tk, tv)] σ (upd H p (NdO P w p [])) fun ps H2 => H2 p = some (NdO P w p []) ∧ ∃ b c d, ps = [(.ref b, .ref c)] ∧ De K H2 b d ∧ Q (.ref p) (upd H2 p (NdO P w p [(d, b, c)]))
theorem nd_empty {P : Program} {w : World} (h : Heap) (hb : sysModules < h.objs.size) : NdP P w h.objs.size [] (h.push { cls := .type "dict", data := .dict #[] }) :=
  ⟨beq_eq_false_iff_ne.mpr (Nat.ne_of_gt hb), Nat.zero_le _, List.nodup_nil, _, #[], 0, Heap.get?_push_size _ rfl, ⟨rfl, rfl, rfl⟩, rfl, rfl⟩
theorem pe_nd1 {k v : Expr} {pos : Pos} {tk tv : TE} (hu : X.A.units + 64 < cLine) (hk : PE X k tk) (hv : PE X v tv) : PE X (.Dict [some k] [v] pos) (tNd1 X.prog X.w X.K tk tv) := by
  refine ⟨fun pins s σ H Q I q => ?_⟩
  have hn := I.hok.fresh (Nat.le_refl s.heap.objs.size)
  have I1 := I.laid (a := s.heap.objs.size) (o := NdO X.prog X.w s.heap.objs.size []) (h' := s.heap.push { cls := .type "dict", data := .dict #[] }) (t' := s.toks) (fun _ _ q => Heap.get?_push_of_some _ q) (Nat.le_refl _) (nd_ok (nd_empty s.heap I.big))
  have hp : PPs X pos [some k] [v] [(tk, tv)] := pps_cons hk hv pps_nil
  have room : (nestedKind X.prog X.w).room X.A := by
    show X.A.units + 8 < cLine
    omega
  have hsh := zip_pairTrees [some k] [v] X.env pos rfl rfl
  have hne : pairTrees [some k] [v] X.env pos ≠ [] := fun z => by cases z
  have hlen : (pairTrees [some k] [v] X.env pos).length ≤ 15 := by rw [pairTrees_length [some k] [v] X.env pos rfl rfl]; show 1 ≤ 15; decide
  rw [arm_eval_Dict, hsh, dictDisplay_pairs _ hne (by omega)]
  refine wpAny_bind (wpAny_standAt (wpAny_bind (wpAny_subDictH (knd := nestedKind X.prog X.w) (Q := fun d' s' => wpAny (model X.prog X.w) X.A (pure (Value.ref d')) (EP X pins σ Q) X.xe s') room hlen
    (thn (hp.run pins _ σ _ _ I1 (q _ hn)) fun ws s2 ⟨ps, H2, I2, rel, e, b, c, d, ep, hd, q2⟩ => ?_))))
  subst ep
  cases rel with
  | @cons _ w1 _ _ r1 r2 =>
    cases r2
    obtain ⟨u1, u2⟩ := w1
    obtain ⟨r1, r2⟩ := r1
    cases (show u1 = Value.ref b from r1)
    cases (show u2 = Value.ref c from r2)
    have n := nd_at I2 (.inl e)
    refine ⟨[(keyN d, b, .ref c)], ⟨rfl, rfl, hd.is I2, trivial⟩, nd_dict I2 n (fun _ z => nomatch z), fun h' tk' dd hs => wpAny_pure ⟨.ref s.heap.objs.size, _, ?_, rfl, q2⟩⟩
    obtain ⟨o', as, ep, z1, z2, z3, z4, z5, z6⟩ := dd
    exact d_write I2 (by rw [e]; exact True.intro) hs ⟨o', z1⟩ (nd_ok ⟨n.1, by show 1 ≤ sizeLine; decide, List.nodup_cons.mpr ⟨(fun z => nomatch z), List.nodup_nil⟩, o', as, ep, z1, z2, z3, z4⟩)
end
end Fw
end
section
set_option Elab.async false
set_option linter.all false
set_option maxRecDepth 100000
set_option maxHeartbeats 4000000
/-! Fd03: walks of such a dict, enumerate of a tuple. -/
namespace Fw
open PySem PySem.Spec PyProof.Rows L2

/-! ### keys and values of the dict, which is locked from there on -/
def ItN (P : Program) (w : World) (d : Addr) (o : Obj) (es : List Ent) : It :=
  ⟨fun i H => H d = some (.frz o (NdO P w d es)) ∧ i < es.length, fun i H x H' => H' = H ∧ ∃ e, es[i]? = some e ∧ x = .ref e.2.1, fun i H => H d = some (.frz o (NdO P w d es)) ∧ es.length ≤ i⟩
def ItNv (P : Program) (w : World) (d : Addr) (o : Obj) (es : List Ent) : It :=
  ⟨fun i H => H d = some (.frz o (NdO P w d es)) ∧ i < es.length, fun i H x H' => H' = H ∧ ∃ e, es[i]? = some e ∧ x = .ref e.2.2, fun i H => H d = some (.frz o (NdO P w d es)) ∧ es.length ≤ i⟩
section
variable {X : Cx} {pins : List (Addr × Obj)} {σ : L2.St} {H : Hp} {s : Shared} {d : Addr} {o : Obj} {es : List Ent}
theorem frzN (I : Inv X pins σ H s) (h : H d = some (.frz o (NdO X.prog X.w d es))) :
    (d == sysModules) = false ∧ s.heap.get? d = some o ∧ o.ExactDict ∧ ∃ (as : Array DictEntry) (ep : Nat), o.data = .dict as ep ∧ as.size = es.length ∧
      ∀ (i : Nat) (e : Ent), es[i]? = some e → ∃ en : DictEntry, as[i]? = some en ∧ en.key = .ref e.2.1 ∧ en.val = .ref e.2.2 := by
  obtain ⟨hd, ⟨z1, z2, z3, o', as, ep, ho, hx, hdt, he⟩, _⟩ := I.hok d _ h
  have ho2 : s.heap.get? d = some o := hd
  rw [ho2] at ho
  cases ho
  have hl : as.size = es.length := by
    have q := size_of_entries he
    rw [List.length_map] at q
    exact q
  refine ⟨z1, hd, hx, as, ep, hdt, hl, fun i e hi => ?_⟩
  have q := entry_at he i
  rw [List.getElem?_map, hi] at q
  exact ⟨_, q, rfl, rfl⟩
end
section
variable {P : Program} {w : World} {K : PySem.W.Frag} {tg : Expr} {d : Addr} {o : Obj} {as : Array DictEntry} {ep : Nat}
theorem turn_nk {es : List Ent} (it : Addr) (hod : o.data = .dict as ep) : Turn P w K tg (ItN P w d o es) [it] it (fun i h => h.IsKeyIter it d i es.length ep) where
  mem := by simp
  obj := fun i h st b hb => by
    obtain rfl : b = it := by simpa using hb
    obtain ⟨oi, e, c, dd⟩ := st
    exact ⟨oi, e, fun v z => by rw [dd] at z; cases z⟩
  keep := fun i h h' st k => st.at fun oi e => k it (by simp) oi e
  item := by
    intro X hP hw hK hc i pins s σ H E I hf st hg
    subst hP hw hK
    obtain ⟨hd, hi⟩ := hg
    obtain ⟨f0, f1, f2, f3, f4, f5⟩ := hf it (by simp)
    obtain ⟨hs, hgd, hx, as', ep', hdt, hsz, ent⟩ := frzN I hd
    obtain ⟨rfl, rfl⟩ := dict_ep hod hdt
    obtain ⟨en0, hkv⟩ : ∃ p, es[i]? = some p := ⟨es[i], List.getElem?_eq_getElem hi⟩
    obtain ⟨en, hen, hkey, _⟩ := ent i en0 hkv
    refine next_key_item st hgd hdt hsz hen fun h' st' sb => ?_
    have I1 : Inv X pins σ H { s with heap := h' } := I.turned (t' := s.toks) (fun b ob hb e => (sb.2 b hb).trans e) f0 f1 f3 f4 f5
    obtain ⟨oi, e, c, dd⟩ := id st'
    exact ⟨en.key, rfl, go_of (s := { s with heap := h' }) e c dd (by decide) ⟨.ref en0.2.1, H, I1, hkey, ⟨rfl, en0, hkv, rfl⟩, st', fun b hb => (hf b hb).1⟩⟩
  done := by
    intro X hP hw hK hc i pins s σ H E I hf st hg
    subst hP hw hK
    obtain ⟨hd, hi⟩ := hg
    obtain ⟨f0, f1, f2, f3, f4, f5⟩ := hf it (by simp)
    obtain ⟨hs, hgd, hx, as', ep', hdt, hsz, ent⟩ := frzN I hd
    obtain ⟨rfl, rfl⟩ := dict_ep hod hdt
    exact next_key_end (I.ok.hd hc) st hgd hdt hsz hi fun h' eb => ⟨rfl, I.turned (t' := s.toks) (fun b ob hb e => eb b ob hb e) f0 f1 f3 f4 f5⟩
  self := fun A i s Q E st h => wpAny_pyIter_keyiter st h
theorem turn_nv {es : List Ent} (it : Addr) (hod : o.data = .dict as ep) : Turn P w K tg (ItNv P w d o es) [it] it (fun i h => h.IsValIter it d i es.length ep) where
  mem := by simp
  obj := fun i h st b hb => by
    obtain rfl : b = it := by simpa using hb
    obtain ⟨oi, e, c, dd⟩ := st
    exact ⟨oi, e, fun v z => by rw [dd] at z; cases z⟩
  keep := fun i h h' st k => st.at fun oi e => k it (by simp) oi e
  item := by
    intro X hP hw hK hc i pins s σ H E I hf st hg
    subst hP hw hK
    obtain ⟨hd, hi⟩ := hg
    obtain ⟨f0, f1, f2, f3, f4, f5⟩ := hf it (by simp)
    obtain ⟨hs, hgd, hx, as', ep', hdt, hsz, ent⟩ := frzN I hd
    obtain ⟨rfl, rfl⟩ := dict_ep hod hdt
    obtain ⟨en0, hkv⟩ : ∃ p, es[i]? = some p := ⟨es[i], List.getElem?_eq_getElem hi⟩
    obtain ⟨en, hen, _, hval⟩ := ent i en0 hkv
    rw [← hsz] at st
    have hia : i < as'.size := by omega
    have hen2 : as'[i] = en := by
      rw [Array.getElem?_eq_getElem hia] at hen
      exact Option.some.inj hen
    refine wpAny_pyNext_values_item_raw st ⟨o, hgd, hx, hdt⟩ hia fun h' st' sb => ?_
    have I1 : Inv X pins σ H { s with heap := h' } := I.turned (t' := s.toks) (fun b ob hb e => (sb.2 b hb).trans e) f0 f1 f3 f4 f5
    obtain ⟨oi, e, c, dd⟩ := id st'
    refine ⟨_, rfl, go_of (s := { s with heap := h' }) e c dd (by decide) ⟨.ref en0.2.2, H, I1, ?_, ⟨rfl, en0, hkv, rfl⟩, ?_, fun b hb => (hf b hb).1⟩⟩
    · rw [hen2]; exact hval
    · show h'.IsValIter it d (i + 1) es.length _
      rw [← hsz]
      exact st'
  done := by
    intro X hP hw hK hc i pins s σ H E I hf st hg
    subst hP hw hK
    obtain ⟨hd, hi⟩ := hg
    obtain ⟨f0, f1, f2, f3, f4, f5⟩ := hf it (by simp)
    obtain ⟨hs, hgd, hx, as', ep', hdt, hsz, ent⟩ := frzN I hd
    obtain ⟨rfl, rfl⟩ := dict_ep hod hdt
    rw [← hsz] at st
    exact wpAny_pyNext_values_end_raw (I.ok.hd hc) st ⟨o, hgd, hx, hdt⟩ (by omega) fun h' eb => ⟨rfl, I.turned (t' := s.toks) (fun b ob hb e => eb b ob hb e) f0 f1 f3 f4 f5⟩
  self := fun A i s Q E st h => wpAny_pyIter_valiter st h
end
/-- for k in d -/
def iNk (P : Program) (w : World) (td : TE) : TI := fun σ H R => td σ H fun x H1 => ∃ d es, x = .ref d ∧ H1 d = some (NdO P w d es) ∧ ∀ o, R (ItN P w d o es) (upd H1 d (.frz o (NdO P w d es)))
def iNv (P : Program) (w : World) (td : TE) : TI := fun σ H R => td σ H fun x H1 => ∃ d es, x = .ref d ∧ H1 d = some (NdO P w d es) ∧ ∀ o, R (ItNv P w d o es) (upd H1 d (.frz o (NdO P w d es)))
section
variable {X : Cx} {tg e : Expr} {td : TE} {apos cpos : Pos}
theorem pi_nk (he : PE X e td) : PI X tg e (iNk X.prog X.w td) := by
  refine ⟨fun pins s σ H R I h => ?_⟩
  refine thn (he.run pins s σ H _ I h) fun u s1 ⟨x, H1, I1, rx, d, es, ex, hd, q⟩ => ?_
  subst ex
  obtain rfl : u = Value.ref d := rx
  obtain ⟨od, I2⟩ := I1.lock hd (by exact True.intro)
  obtain ⟨hs, hgd, hx, as, ep, hdt, hsz, ent⟩ := frzN I2 upd_same
  refine iter_keys hs hgd hx hdt (pi_one (tk := s1.toks) I2 _ (turn_nk _ hdt) ⟨_, Heap.get?_push_size _ rfl, rfl, ?_⟩ (q od))
  rw [hsz] <;> rfl
theorem pi_nv (he : PE X e td) (hbase : attributeBase e "values" X.env (eval e X.env) = eval e X.env := by rfl) (hline : (apos.endLine == cpos.line) = true := by rfl) :
    PI X tg (.Call (.Attribute e "values" apos) [] [] cpos) (iNv X.prog X.w td) := by
  refine ⟨fun pins s σ H R I h => ?_⟩
  refine wpAny_Call_method (T := "dict") (id := "dict.values") hbase rfl hline F.plainAttrs_dict F.slot_dict_values F.type_dict_values (thn (he.run pins s σ H _ I h) fun u s1 ⟨x, H1, I1, rx, d, es, ex, hd, q⟩ => ?_)
  subst ex
  obtain rfl : u = Value.ref d := rx
  obtain ⟨od, I2⟩ := I1.lock hd (by exact True.intro)
  obtain ⟨hs, hgd, hx, as, ep, hdt, hsz, ent⟩ := frzN I2 upd_same
  have raw : s1.heap.DictRaw d as ep := ⟨od, hgd, hx, hdt⟩
  refine ⟨raw.typeIs, fun b eb => by cases eb; exact ⟨od, hgd, hx.2.1⟩, ?_⟩
  have I3 : Inv X pins σ (upd H1 d (.frz od (NdO X.prog X.w d es))) { s1 with heap := s1.heap.push { cls := .type "dict_values", data := .fields #[.ref d] } } := I2.kept (t' := s1.toks) fun b ob q => Heap.get?_push_of_some _ q
  have fin : wpAny (model X.prog X.w) X.A (pyIter (.ref s1.heap.objs.size)) (PIE X pins σ tg R) X.xe { s1 with heap := s1.heap.push { cls := .type "dict_values", data := .fields #[.ref d] } } := by
    refine wpAny_pyIter_values_raw (d := d) ⟨_, Heap.get?_push_size _ rfl, rfl, rfl⟩ (raw.at fun o z => Heap.get?_push_of_some _ z) (pi_one (tk := s1.toks) I3 _ (turn_nv _ hdt) ⟨_, Heap.get?_push_size _ rfl, rfl, ?_⟩ (q od))
    rw [hsz] <;> rfl
  show wpAny _ _ (callWith cpos (.builtin "dict.values") [.ref d] [] []) _ X.xe s1
  exact method_meetsIn F.slot_dict_values F.entry_dict_values rfl (PySem.evalArgs_none ⟨rfl, raw.typeIs, F.args_dict_values_1 _, _, meets_dict_values_raw d hs, ⟨⟨as, ep, raw⟩, fin⟩⟩)
end

/-! ### enumerate(tuple) -/
set_option maxHeartbeats 8000000 in
theorem meets_enum_one {v : Value} {o : Obj} {G : Heap → Prop} (B : Begins v o G) :
    Meets (Builtin.«enumerate.__new__» ⟨[.type "enumerate", v], []⟩) (fun _ R s => G s.heap ∧
      R (.ok (.ret (.ref (s.heap.push o).objs.size))) { s with heap := (s.heap.push o).push { cls := .type "enumerate", data := .fields #[.none, .bool false, .ref s.heap.objs.size, rawInt 0, .none, .none] } }) :=
  .of_wp fun prog w A R s z => by
    obtain ⟨hp, gs, dr, tk, os⟩ := s
    obtain ⟨h1, h⟩ := z
    have hsub := sub_enumerate
    have start : ∀ {A2 : Around} {E : Value → Shared → Prop} {Q : Value → Shared → Prop}, Q (.ref hp.objs.size) ⟨hp.push o, gs, dr, tk, os⟩ → wpAny (model prog w) A2 (pyIter v) Q E ⟨hp, gs, dr, tk, os⟩ :=
      fun q => B.iter prog w _ _ ⟨hp, gs, dr, tk, os⟩ _ h1 q
    wp_walk using start
    refine wpAny_stack_any fun st => wpAny_pure ?_
    split
    · rename_i c _ _ _ _ _
      cases (c == Value.type "enumerate") <;> (wp_walk using start) <;> exact ⟨_, rfl, h⟩
    · wp_walk using start
      exact ⟨_, rfl, h⟩
def ItE (K : PySem.W.Frag) (a : Addr) : It :=
  ⟨fun i H => ∃ (xs : List V) (x : V), SqT K H a xs ∧ xs[i]? = some x, fun i H v H' => ∃ T x, v = .ref T ∧ H T = none ∧ H' = upd H T (.tup [.int (i : Nat), x]) ∧ ∀ xs, SqT K H a xs → xs[i]? = some x, fun i H => ∃ xs : List V, SqT K H a xs ∧ xs.length ≤ i⟩
section
variable {prog : Program} {w : World} {A : Around} {E : Value → Shared → Prop} {s : Shared}
theorem call_enum_tuple {l : Addr} {items : Array Value} {Q : Value → Shared → Prop} (ht : s.heap.IsTuple l items)
    (h : ∀ h', IsEnum h' (s.heap.objs.size + 1) s.heap.objs.size 0 .none → h'.IsTupleIter s.heap.objs.size l 0 → h'.objs.size = s.heap.objs.size + 2 →
      (∀ b o, s.heap.get? b = some o → h'.get? b = some o) → Q (.ref (s.heap.objs.size + 1)) { s with heap := h' }) :
    wpAny (model prog w) A (call (.type "enumerate") [.ref l]) Q E s := by
  refine callType_new F.called_enumerate (by decide) (F.typeCall_enumerate_1 _) (F.newCall_enumerate_1 _) (fun obj => F.args_object_init_2 obj _) F.entry_enumerate_new
    (meets_enum_one (begins_tuple l items)) ⟨ht, ?_⟩
  have sz : (s.heap.push { cls := .type "tuple_iterator", data := .fields #[.ref l, .int 0 0] }).objs.size = s.heap.objs.size + 1 := Heap.size_push ..
  show _ ∧ _
  rw [sz]
  have at1 : IsEnum ((s.heap.push { cls := .type "tuple_iterator", data := .fields #[.ref l, .int 0 0] }).push
      { cls := .type "enumerate", data := .fields #[.none, .bool false, .ref s.heap.objs.size, rawInt 0, .none, .none] }) (s.heap.objs.size + 1) s.heap.objs.size 0 .none := by
    have q := Heap.get?_push_size (s.heap.push { cls := .type "tuple_iterator", data := .fields #[.ref l, .int 0 0] })
      (o := { cls := .type "enumerate", data := .fields #[.none, .bool false, .ref s.heap.objs.size, rawInt 0, .none, .none] }) rfl
    rw [sz] at q
    exact q
  exact ⟨⟨_, at1, rfl⟩, h _ at1 ⟨_, Heap.get?_push_of_some _ (Heap.get?_push_size _ rfl), rfl, rfl⟩ (by rw [Heap.size_push, sz]) fun b o x => Heap.get?_push_of_some _ (Heap.get?_push_of_some _ x)⟩
end
theorem turn_et {P : Program} {w : World} {K : PySem.W.Frag} {elts : List Expr} {kk : Nat} {tpos : Pos} (a e it : Addr) :
    Turn P w K (.Tuple elts kk tpos) (ItE K a) [e, it] e (fun i h => (∃ old, IsEnum h e it ((i : Nat) : Int) old) ∧ h.IsTupleIter it a i ∧ e ≠ it) where
  mem := by simp
  obj := fun i h st b hb => by
    obtain ⟨⟨old, he⟩, ⟨o, ho, hc, hd⟩, _⟩ := st
    rcases (show b = e ∨ b = it by simpa using hb) with rfl | rfl
    · exact ⟨_, he, fun v q => nomatch q⟩
    · exact ⟨o, ho, fun v q => by rw [hd] at q; cases q⟩
  keep := fun i h h' st k => let ⟨⟨old, he⟩, hi, hne⟩ := st; ⟨⟨old, k e (by simp) _ he⟩, hi.at fun o q => k it (by simp) o q, hne⟩
  item := by
    intro X hP hw hK hc i pins s σ H E I hf st hg
    subst hP hw hK
    obtain ⟨⟨old, he⟩, hit, hne⟩ := st
    obtain ⟨xs, x, hq, hx⟩ := hg
    obtain ⟨its, rv, p, hz⟩ := I.tuple hq
    obtain ⟨u, hu, ru⟩ := rv.get hx
    have hel : e < s.heap.objs.size := Heap.lt_size he
    have hil : it < s.heap.objs.size := by obtain ⟨_, q, _⟩ := hit; exact Heap.lt_size q
    have hai : a ≠ it := fun z => by
      obtain ⟨o1, q1, q2, n1, q3⟩ := p
      obtain ⟨o2, q4, q5, q6⟩ := hit
      rw [z, q4] at q1
      cases q1
      rw [q6] at q3
      cases q3
    have hae : a ≠ e := fun z => by
      obtain ⟨o1, q1, q2, n1, q3⟩ := p
      rw [z] at q1
      have he' : s.heap.get? e = some _ := he
      rw [he'] at q1
      cases q1
      cases q3
    have D : Draws X.prog X.w X.A.in1 it [it, a] its.toArray.size (fun i v => its.toArray[i]? = some v) (fun i h => h.IsTupleIter it a i ∧ h.IsTuple a its.toArray) := Draws.tuple (A := X.A.in1) (show X.A.in1.handled = none from I.ok.hd hc) it a hai its.toArray
    refine wpAny_pyNext_enum_itemD D he ⟨hit, p⟩ (by rw [List.size_toArray, ← rv.length]; exact (List.getElem?_eq_some_iff.mp hx).1) hne (by simp [hne, Ne.symm hae]) fun y h' tk hy ho hst' hT hsz hk => ?_
    have hy2 : y = u := by
      have z1 : its[i]? = some y := by simpa using hy
      rw [hu] at z1
      exact (Option.some.inj z1).symm
    subst hy2
    obtain ⟨hit', _⟩ := hst'
    refine ⟨_, rfl, wpAny_letOwnedTupleGo_enum (s := { s with heap := h', toks := tk + 1 }) ho fun h'' he' sb => ?_⟩
    have hT2 : h''.get? s.heap.objs.size = some { cls := .type "tuple", data := .seq #[.int i tk, y] } := (sb.2 _ (Nat.ne_of_gt hel)).trans hT
    have new : ObjOk X.prog X.w (upd H s.heap.objs.size (.tup [.int (i : Nat), x])) h'' s.heap.objs.size (.tup [.int (i : Nat), x]) :=
      ⟨by show 2 ≤ sizeLine; decide, [.int i tk, y], .cons ⟨_, rfl⟩ (.cons ru .nil), ⟨_, hT2, rfl, _, rfl⟩⟩
    have I1 : Inv X pins σ (upd H s.heap.objs.size (.tup [.int (i : Nat), x])) { s with heap := h'', toks := tk + 1 } :=
      I.turnedNew (ch := [e, it]) (fun b ob hb q => (sb.2 b (fun z => hb (by simp [z]))).trans (hk b ob (fun z => hb (by simp [z])) (fun z => hb (by simp [z])) q)) hf (Nat.le_refl _) new
    refine ⟨.ref s.heap.objs.size, _, I1, rfl, ⟨_, x, rfl, I.hok.fresh (Nat.le_refl _), rfl, fun ys hy => by rw [I.tuple_inj hy hq]; exact hx⟩, ⟨⟨y, ?_⟩, hit'.at fun o q => (sb.2 it (Ne.symm hne)).trans q, hne⟩, fun b hb => ?_⟩
    · have e1 : ((i + 1 : Nat) : Int) = (i : Int) + 1 := by omega
      rw [e1]
      exact he'
    · have hb' : b < s.heap.objs.size := by
        rcases (show b = e ∨ b = it by simpa using hb) with rfl | rfl
        · exact hel
        · exact hil
      rw [upd_ne (Nat.ne_of_lt hb')]
      exact (hf b hb).1
  done := by
    intro X hP hw hK hc i pins s σ H E I hf st hg
    subst hP hw hK
    obtain ⟨⟨old, he⟩, hit, hne⟩ := st
    obtain ⟨xs, hq, hx⟩ := hg
    obtain ⟨its, rv, p, hz⟩ := I.tuple hq
    obtain ⟨f0, f1, f2, f3, f4, f5⟩ := hf it (by simp)
    have hl := rv.length
    have hT : s.TypeIs (.ref e) "enumerate" := ⟨_, he, rfl⟩
    unfold pyNext
    refine wpAny_bind (wpAny_attempt (wpAny_callSpecial?_slot (name := Str.ofString "__next__") hT F.slot_enumerate_next
      (wpAny_call_entry F.slot_enumerate_next hT F.entry_enumerate_next ?_ (F.args_enumerate_next_1 _))))
    show wpAny _ _ (field (.ref e) 2 >>= _) _ _ _
    refine wpAny_bind (wpAny_field he rfl (x := .ref it) rfl ?_)
    refine wpAny_bind (wpAny_nextOf_tuple_end (I.ok.hd hc) hit p (by simp; omega) fun h' x eb hx' => ?_)
    obtain ⟨o, ho, hc'⟩ := hx'
    refine wpAny_bind (wpAny_isInstance (T := "StopIteration") (b := true) ⟨o, ho, hc'⟩ isSubtype_stop ?_)
    exact wpAny_pure ⟨rfl, I.turned (t' := s.toks) (fun b o hb q => eb b o hb q) f0 f1 f3 f4 f5⟩
  self := fun A i s Q E st h => let ⟨⟨_, he⟩, _⟩ := st; wpAny_pyIter_enum he h
def iEnT (K : PySem.W.Frag) (ta : TA) : TI := fun σ H R => ta σ H fun vs H1 => ∃ a xs, vs = [.ref a] ∧ SqT K H1 a xs ∧ R (ItE K a) H1
theorem pi_enT {X : Cx} {e : Expr} {ta : TA} {p pos tpos : Pos} {elts : List Expr} {kk : Nat} (hg : Gl X "enumerate") (hm : X.mg "enumerate" = none) (ha : PA X [e] ta) (hs : starEach [e] X.env = [(false, eval e X.env)] := by rfl) :
    PI X (.Tuple elts kk tpos) (.Call (.Name "enumerate" p) [e] [] pos) (iEnT X.K ta) := by
  refine ⟨fun pins s σ H R I h => ?_⟩
  refine Call_ (ld_blt I hg hm boot_enumerate (PyProof.Rows.callWith_type1 (thn (ha.run pos pins s σ H _ I h) fun us s1 ⟨vs, H1, I1, r1, q1⟩ => ?_) hs rfl))
  obtain ⟨a, xs, ex, hq, q⟩ := q1
  subst ex
  cases r1 with
  | cons r rr =>
    cases rr
    cases r
    obtain ⟨its, rv, p', hz⟩ := I1.tuple hq
    refine call_enum_tuple p' fun h' he hit hsz hk => wpAny_pyIter_enum he ?_
    have I2 : Inv X pins σ H1 { s1 with heap := h' } := I1.kept (t' := s1.toks) hk
    refine ⟨s1.heap.objs.size + 1, [s1.heap.objs.size + 1, s1.heap.objs.size], _, _, H1, rfl, I2, turn_et a (s1.heap.objs.size + 1) s1.heap.objs.size, ⟨⟨.none, he⟩, hit, Nat.succ_ne_self _⟩, fun b hb => ?_, q⟩
    have hle : s1.heap.objs.size ≤ b := by
      rcases (show b = s1.heap.objs.size + 1 ∨ b = s1.heap.objs.size by simpa using hb) with z | z <;> rw [z]
      · exact Nat.le_add_right _ _
      · exact Nat.le_refl _
    exact I1.fpOk hle (I1.hok.fresh hle)
end Fw
end
section
set_option Elab.async false
set_option linter.all false
set_option maxRecDepth 100000
set_option maxHeartbeats 4000000
/-! Fd04: sorted of a tuple, of pairs (length, word); > and >= of such pairs; data of words. -/
namespace Fw
open PySem PySem.Spec PyProof.Rows L2
open PySem.W (alike alikeAll dataLt dataLe alike_ints depth_ints dataLt_ints dataLt_pair dataLt_int dataLt_tuple EachIs AllAlike)

/-! ### words as data -/
def wdD (u : List Int) : PyData := .tuple (u.map .int)
theorem eqv_ints : ∀ u v : List Int, PyData.eqvAll (u.map .int) (v.map .int) = decide (u = v)
  | [], [] => by simp [PyData.eqvAll]
  | [], _ :: _ => by simp [PyData.eqvAll]
  | _ :: _, [] => by simp [PyData.eqvAll]
  | x :: u, y :: v => by
    rw [List.map_cons, List.map_cons, PyData.eqvAll, eqv_ints u v]
    by_cases h : x = y <;> by_cases h2 : u = v <;> simp [PyData.eqv, h, h2]
theorem eqv_wd (u v : List Int) : PyData.eqv (wdD u) (wdD v) = decide (u = v) := by
  unfold wdD
  rw [PyData.eqv, eqv_ints]
theorem lay_ints : ∀ u : List Int, PyData.canLayAll0 (u.map .int) = true
  | [] => by simp [PyData.canLayAll0]
  | x :: u => by
    rw [List.map_cons, PyData.canLayAll0, lay_ints u]
    simp [PyData.canLay0]
theorem shaped_wd (u : List Int) : SeqAt.shaped (wdD u) = true := by
  unfold SeqAt.shaped wdD
  rw [PyData.canLay0, lay_ints, PyData.depth, depth_ints]
  rfl
theorem dpAll_ints {K : PySem.W.Frag} {H : Hp} : ∀ u : List Int, DpAll K H (u.map V.int) (u.map .int)
  | [] => .nil
  | x :: u => .cons (.int x) (dpAll_ints u)
theorem Tu.dp {K : PySem.W.Frag} {H : Hp} {a : Addr} {u : List Int} (h : Tu K H a u) : Dp K H (.ref a) (wdD u) := .tup h (dpAll_ints u)
theorem lay_wds : ∀ us : List (List Int), PyData.canLayAll0 (us.map wdD) = true
  | [] => by simp [PyData.canLayAll0]
  | u :: us => by
    rw [List.map_cons, PyData.canLayAll0, lay_wds us]
    unfold wdD
    rw [PyData.canLay0, lay_ints]
    rfl
theorem depth_wds : ∀ us : List (List Int), PyData.depthAll (us.map wdD) ≤ 1
  | [] => by simp [PyData.depthAll]
  | u :: us => by
    have q := depth_wds us
    have d1 : (wdD u).depth = 1 := by unfold wdD; rw [PyData.depth, depth_ints]
    rw [List.map_cons, PyData.depthAll, d1]
    omega
theorem shaped_wds (us : List (List Int)) : SeqAt.shaped (.list (us.map wdD)) = true := by
  unfold SeqAt.shaped
  rw [PyData.canLay0, lay_wds, PyData.depth]
  have q := depth_wds us
  rw [Bool.true_and, decide_eq_true_eq]
  omega
theorem alike_wd (u v : List Int) : alike (wdD u) (wdD v) = true := by
  unfold wdD
  rw [alike, alike_ints]

/-! ### sorted of a tuple of ints -/
section
variable {prog : Program} {w : World} {A : Around} {E : Value → Shared → Prop} {s : Shared}
theorem collect_tup {l : Addr} {vs : List Value} {Q : List Value → Shared → Prop} (ht : s.heap.IsTuple l vs.toArray) (hsz : vs.length ≤ sizeLine)
    (k : Q vs { s with heap := (s.heap.push (seqObj "list" #[] 0)).update s.heap.objs.size (Obj.mapSeq (· ++ vs.toArray)) }) : wpAny (model prog w) A (collect (.ref l)) Q E s := by
  obtain ⟨o, ho, hc, n, hd⟩ := id ht
  unfold collect
  refine wpAny_bind (wpAny_runValue (codeAny_builtin entry_proto_collect' ?_))
  show wpAny _ _ (do again (.builtin "list.__iadd__" ⟨[← newList [], .ref l], []⟩)) _ _ s
  refine wpAny_bind (wpAny_newList (wpAny_pure ⟨Code.quiet_builtin _ (by decide +kernel), codeAny_builtin entry_list_iadd' ?_⟩))
  show wpAny _ _ (Builtin.List.listExtendWith (.ref s.heap.objs.size) (.ref l) (.ref s.heap.objs.size)) _ _ { s with heap := s.heap.push (seqObj "list" #[] 0) }
  unfold Builtin.List.listExtendWith
  have here : (s.heap.push (seqObj "list" #[] 0)).get? l = some o := Heap.get?_push_of_some _ ho
  refine wpAny_bind (wpAny_typeOf (T := "tuple") ⟨o, here, hc⟩ ?_)
  have tt : (Value.type "tuple" == Value.type "tuple") = true := by rfl
  rw [if_pos (by rw [tt]; simp)]
  refine wpAny_bind (listItems_at here hd ?_)
  refine wpAny_bind (listItems_at (xs := #[]) (n := 0) (Heap.get?_push_size _ rfl) rfl ?_)
  rw [if_neg (by simp)]
  refine wpAny_bind (listUpdate_at (xs := #[]) (n := 0) (Heap.get?_push_size _ rfl) rfl ?_ (Nat.zero_le _) (by show (#[] ++ vs.toArray).size ≤ sizeLine + 1; simp only [Array.size_append, List.size_toArray, List.length_nil]; omega))
  refine wpAny_pure ?_
  show wpAny (model prog w) A (do
      let ob ← load s.heap.objs.size
      match ob.data with
      | .seq zs _ => pure zs.toList
      | _ => unsupported "internal:collect") Q E { s with heap := (s.heap.push (seqObj "list" #[] 0)).update s.heap.objs.size (Obj.mapSeq (· ++ vs.toArray)) }
  refine wpAny_bind (wpAny_load (get?_update_seq (Heap.get?_push_size _ rfl) _) ?_)
  show wpAny _ _ (pure ((#[] : Array Value) ++ vs.toArray).toList) Q E _
  have el : ((#[] : Array Value) ++ vs.toArray).toList = vs := by simp
  rw [el]
  exact wpAny_pure k
theorem sorted_tup {l : Addr} {vs : List Value} {ltv : Value → Value → Bool} {Q : Value → Shared → Prop} (O : SrtO.Swo ltv) (ht : s.heap.IsTuple l vs.toArray) (hz : vs.length ≤ sizeLine)
    (hS : 2 ≤ vs.length → ∀ (g : Heap) (a : Addr), g.get? a = some (seqObj "list" vs.toArray 0) → SrtO.SortableO prog w A.in1.in1 { s with heap := g } a vs ltv)
    (k : ∀ out : List Value, SrtO.Srtd ltv out → SrtO.Stb ltv out vs → Q (.ref (s.heap.objs.size + 1)) { s with heap := sortedAll s.heap vs out.toArray }) :
    wpAny (model prog w) A (call (.builtin "sorted") [.ref l]) Q E s := by
  refine Calls.call_function_entry kind_sorted plain_sorted entry_sorted (args_sorted1 _) ?_
  unfold Builtin.«sorted»
  refine wpAny_bind (m := checkCount "sorted" 1 1 _) (wpAny_pure ?_)
  refine wpAny_bind (collect_tup ht hz ?_)
  refine wpAny_bind (wpAny_newList ?_ hz)
  have n1 : ((s.heap.push (seqObj "list" #[] 0)).update s.heap.objs.size (Obj.mapSeq (· ++ vs.toArray))).objs.size = s.heap.objs.size + 1 := by
    rw [Heap.size_update, size_push']
  have at1 : (((s.heap.push (seqObj "list" #[] 0)).update s.heap.objs.size (Obj.mapSeq (· ++ vs.toArray))).push (seqObj "list" vs.toArray 0)).get? (s.heap.objs.size + 1) = some (seqObj "list" vs.toArray 0) := by
    rw [← n1]
    exact Heap.get?_push_size _ rfl
  show wpAny _ _ _ _ _ { s with heap := ((s.heap.push (seqObj "list" #[] 0)).update s.heap.objs.size (Obj.mapSeq (· ++ vs.toArray))).push (seqObj "list" vs.toArray 0) }
  rw [n1]
  refine wpAny_bind (wpAny_holding (wpAny_call_entry slot_list_sort ⟨_, at1, rfl⟩ entry_list_sort (SrtO.list_sort_ord O at1 hz (fun h2 => hS h2 _ _ at1) fun out hs hb => ⟨_, rfl, ?_⟩) (args_list_sort _)))
  exact wpAny_pure ⟨_, rfl, k out hs hb⟩
end
theorem isort_of {ns ns' : List Int} (p : ns'.Perm ns) (o : ns'.Pairwise (· ≤ ·)) : ns' = Fd.isort ns := by
  have pi : ∀ (x : Int) (l : List Int), (Fd.ins x l).Perm (x :: l) := by
    intro x l
    induction l with
    | nil => exact List.Perm.refl _
    | cons y r ih =>
      unfold Fd.ins
      split
      · exact List.Perm.refl _
      · exact (List.Perm.cons y ih).trans (List.Perm.swap x y r)
  have ps : ∀ l : List Int, (Fd.isort l).Perm l := by
    intro l
    induction l with
    | nil => exact List.Perm.refl _
    | cons y r ih => exact (pi y _).trans (List.Perm.cons y ih)
  have oi : ∀ (x : Int) (l : List Int), l.Pairwise (· ≤ ·) → (Fd.ins x l).Pairwise (· ≤ ·) := by
    intro x l
    induction l with
    | nil => intro _; exact List.pairwise_singleton _ _
    | cons y r ih =>
      intro h
      obtain ⟨h1, h2⟩ := List.pairwise_cons.mp h
      unfold Fd.ins
      split
      · rename_i hx
        refine List.pairwise_cons.mpr ⟨fun z hz => ?_, h⟩
        rcases List.mem_cons.mp hz with rfl | hz
        · exact hx
        · exact Int.le_trans hx (h1 z hz)
      · rename_i hx
        refine List.pairwise_cons.mpr ⟨fun z hz => ?_, ih h2⟩
        rcases List.mem_cons.mp ((pi x r).mem_iff.mp hz) with rfl | hz
        · omega
        · exact h1 z hz
  have os : ∀ l : List Int, (Fd.isort l).Pairwise (· ≤ ·) := by
    intro l
    induction l with
    | nil => exact List.Pairwise.nil
    | cons y r ih => exact oi y _ ih
  exact List.Perm.eq_of_pairwise (le := (· ≤ ·)) (fun a b _ _ h1 h2 => Int.le_antisymm h1 h2) o (os ns) (p.trans (ps ns).symm)
def rSortTu (K : PySem.W.Frag) : List V → Hp → VK → Prop := fun vs H Q => ∃ (a : Addr) (ns : List Int), vs = [V.ref a] ∧ Tu K H a ns ∧ ∀ p : Addr, H p = none → Q (.ref p) (upd H p (.lst ((Fd.isort ns).map V.int)))
section
variable {X : Cx}
theorem cr_sortedTu : CallR X (.builtin "sorted") (rSortTu X.K) := by
  intro pins s σ H vs us Q I r h
  obtain ⟨a, ns, rfl, hs, q⟩ := h
  obtain ⟨its, rv, hl, hz⟩ := I.tuple hs
  rw [Vals.ref1 r]
  have hi := rv.ints
  refine sorted_tup SrtO.swo_int hl (by rw [← rv.length]; exact hz) (fun h2 g a' _ => SrtO.ints_sortable hi h2) fun out h1 h2 => ?_
  obtain ⟨k1, k2, k3⟩ := SrtO.ints_out hi h1 h2
  obtain ⟨ep, he'⟩ := PyProof.Rows.sortedAll_at s.heap its out.toArray
  have e0 : out.map SrtO.iv = Fd.isort ns := isort_of k2 k3
  have ln : ((Fd.isort ns).map V.int).length ≤ sizeLine := by
    rw [← e0, List.length_map, k2.length_eq]
    rw [List.length_map] at hz
    exact hz
  rw [e0] at k1
  exact ⟨.ref _, upd H (s.heap.objs.size + 1) (.lst ((Fd.isort ns).map V.int)), I.laid (t' := s.toks) (fun _ _ => PyProof.Rows.sortedAll_old) (Nat.le_succ _) ⟨ln, out, ep, vals_of_ints k1, he'⟩, rfl, q _ (I.hok.fresh (Nat.le_succ _))⟩
end

/-! ### pairs (length, word) in their order -/
def Pw (K : PySem.W.Frag) (H : Hp) (a : Addr) (u : List Int) : Prop := ∃ p, SqT K H a [.int (u.length : Int), .ref p] ∧ Tu K H p u
def pwD (u : List Int) : PyData := .tuple [.int (u.length : Int), wdD u]
theorem Pw.dp {K : PySem.W.Frag} {H : Hp} {a : Addr} {u : List Int} (h : Pw K H a u) : Dp K H (.ref a) (pwD u) :=
  let ⟨_, h1, h2⟩ := h; .tup h1 (.cons (.int _) (.cons h2.dp .nil))
theorem lex_lt : ∀ u v : List Int, Fd.lexB u v = decide (u < v)
  | [], [] => by simp [Fd.lexB]
  | [], _ :: _ => by simp [Fd.lexB]
  | _ :: _, [] => by simp [Fd.lexB]
  | x :: u, y :: v => by
    unfold Fd.lexB
    rw [lex_lt u v]
    by_cases h : x = y
    · subst h
      simp [List.cons_lt_cons_iff]
    · rw [if_neg h]
      simp [List.cons_lt_cons_iff, h]
theorem dataLt_wd (u v : List Int) : dataLt (wdD u) (wdD v) = Fd.lexB u v := by
  unfold wdD
  rw [dataLt_tuple, lex_lt]
  exact dataLt_ints u v
theorem lex_irr : ∀ u : List Int, Fd.lexB u u = false
  | [] => rfl
  | x :: u => by
    unfold Fd.lexB
    rw [if_pos rfl]
    exact lex_irr u
theorem lex_asymm : ∀ u v : List Int, Fd.lexB u v = true → Fd.lexB v u = false
  | [], [], _ => rfl
  | [], _ :: _, _ => rfl
  | _ :: _, [], h => by cases h
  | x :: u, y :: v, h => by
    unfold Fd.lexB at h ⊢
    by_cases e : x = y
    · rw [if_pos e] at h
      rw [if_pos e.symm]
      exact lex_asymm u v h
    · rw [if_neg e] at h
      rw [if_neg (Ne.symm e)]
      have := of_decide_eq_true h
      exact decide_eq_false (by omega)
theorem alike_pw (u v : List Int) : alike (pwD u) (pwD v) = true := by
  unfold pwD
  rw [alike, alikeAll, alikeAll, alikeAll, alike_wd]
  simp [alike]
theorem dataLt_pw (u v : List Int) : dataLt (pwD u) (pwD v) = Fd.ltW u v := by
  unfold pwD Fd.ltW
  rw [dataLt_pair (by simp [alike]) (alike_wd u v), dataLt_int, eqv_wd, dataLt_wd]
  by_cases h : u.length = v.length
  · have h' : ((u.length : Int) = (v.length : Int)) := by omega
    rw [if_pos h, if_pos (by simp [PyData.eqv, h'])]
    by_cases e : u = v
    · subst e
      simp [lex_irr]
    · simp [e]
  · have h' : ¬ ((u.length : Int) = (v.length : Int)) := by omega
    rw [if_neg h, if_neg (by simp [PyData.eqv, h'])]
    by_cases q : u.length < v.length <;> simp [q] <;> omega
theorem ltW_asymm (u v : List Int) (h : Fd.ltW u v = true) : Fd.ltW v u = false := by
  unfold Fd.ltW at h ⊢
  by_cases e : u.length = v.length
  · rw [if_pos e] at h
    rw [if_pos e.symm]
    exact lex_asymm u v h
  · rw [if_neg e] at h
    rw [if_neg (Ne.symm e)]
    have := of_decide_eq_true h
    exact decide_eq_false (by omega)

/-- sorted(ps), ps rising already -/
def rSortPw (K : PySem.W.Frag) : List V → Hp → VK → Prop := fun vs H Q => ∃ (a : Addr) (bs : List (Addr × List Int)), vs = [V.ref a] ∧ SqL K H a (bs.map fun b => V.ref b.1) ∧ (∀ b ∈ bs, Pw K H b.1 b.2) ∧
  bs.Pairwise (fun b c => Fd.ltW b.2 c.2 = true) ∧ ∀ p : Addr, H p = none → Q (.ref p) (upd H p (.lst (bs.map fun b => V.ref b.1)))
theorem each_of {P : Value → (Addr × List Int) → Prop} : ∀ {bs : List (Addr × List Int)} {its : List Value}, Vals (bs.map fun b => V.ref b.1) its → (∀ b ∈ bs, P (.ref b.1) b) → EachIs P its bs
  | [], _, r, _ => by
    cases r
    exact .nil
  | b :: bs, _, r, h => by
    rw [List.map_cons] at r
    cases r with
    | cons r1 r2 =>
      cases r1
      exact .cons (h b (List.mem_cons_self ..)) (each_of r2 fun c hc => h c (List.mem_cons_of_mem _ hc))
theorem of_each : ∀ {bs : List (Addr × List Int)} {its : List Value}, EachIs (fun v b => v = Value.ref b.1) its bs → Vals (bs.map fun b => V.ref b.1) its
  | _, _, .nil => .nil
  | _, _, .cons h t => .cons h (of_each t)
section
variable {X : Cx}
theorem cr_sortedPw (hu : X.A.units + 64 < cLine) : CallR X (.builtin "sorted") (rSortPw X.K) := by
  intro pins s σ H vs us Q I r h
  obtain ⟨a, bs, rfl, hs, hp, ho, q⟩ := h
  obtain ⟨its, rv, hl, hz⟩ := I.list hs
  rw [Vals.ref1 r]
  rw [List.length_map] at hz
  have srt : bs.mergeSort (dataLe false fun b : Addr × List Int => pwD b.2) = bs := by
    refine List.mergeSort_of_pairwise (ho.imp fun {b c} e => ?_)
    rw [PySem.W.dataLe_eq]
    show (!dataLt (pwD c.2) (pwD b.2)) = true
    rw [dataLt_pw, ltW_asymm _ _ e]
    rfl
  have dep : ∀ u : List Int, (pwD u).depth = 2 := fun u => by
    unfold pwD wdD
    simp [PyData.depth, PyData.depthAll, depth_ints]
  refine PySem.W.sorted_data (R := fun v (b : Addr × List Int) => v = Value.ref b.1) (bs := bs) (enc := fun b => pwD b.2) hl.isList (each_of rv fun b _ => rfl) (each_of rv fun b hb => ?_) (PySem.W.AllAlike.of fun b c => alike_pw _ _)
    (PySem.W.Sortable.tuples fun b => ⟨_, _, rfl⟩) hz (fun b _ => by rw [dep]; omega) fun out hlen he => ?_
  · exact Dp.reads I _ _ _ (hp b hb).dp rfl
  rw [srt] at he
  have rv' := of_each he
  obtain ⟨ep, he'⟩ := PyProof.Rows.sortedAll_at s.heap its out.toArray
  exact ⟨.ref _, upd H (s.heap.objs.size + 1) (.lst (bs.map fun b => V.ref b.1)), I.laid (t' := s.toks) (fun _ _ => PyProof.Rows.sortedAll_old) (Nat.le_succ _) ⟨by rw [List.length_map]; exact hz, out, ep, rv', he'⟩, rfl, q _ (I.hok.fresh (Nat.le_succ _))⟩
end

/-! ### > and >= of such pairs -/
theorem lexAt_step (e r : Nat → Bool) (z : Bool) : ∀ (k i : Nat), Ob.lexAt e r z (i + 1) k = Ob.lexAt (fun j => e (j + 1)) (fun j => r (j + 1)) z i k
  | 0, _ => rfl
  | k + 1, i => by
    rw [Ob.lexAt_succ, Ob.lexAt_succ, lexAt_step e r z k (i + 1)]
theorem gt_words : ∀ u v : List Int, Ob.lexAt (fun j => decide (u.getD j 0 = v.getD j 0)) (fun j => decide (v.getD j 0 < u.getD j 0)) (decide (u.length > v.length)) 0 (min u.length v.length) = Fd.lexB v u
  | [], [] => rfl
  | [], _ :: _ => rfl
  | _ :: _, [] => rfl
  | x :: u, y :: v => by
    have ih := gt_words u v
    have el : min (x :: u).length (y :: v).length = min u.length v.length + 1 := by rw [List.length_cons, List.length_cons]; omega
    have ez : decide ((x :: u).length > (y :: v).length) = decide (u.length > v.length) := by simp [List.length_cons]
    rw [el, ez, Ob.lexAt_succ, lexAt_step]
    unfold Fd.lexB
    show (if decide (x = y) = true then Ob.lexAt (fun j => decide (u.getD j 0 = v.getD j 0)) (fun j => decide (v.getD j 0 < u.getD j 0)) _ 0 _ else decide (y < x)) = _
    rw [ih]
    by_cases h : x = y
    · simp [h]
    · have h2 : ¬ y = x := fun q => h q.symm
      simp [h, h2]
theorem ge_words : ∀ u v : List Int, Ob.lexAt (fun j => decide (u.getD j 0 = v.getD j 0)) (fun j => decide (v.getD j 0 ≤ u.getD j 0)) (decide (u.length ≥ v.length)) 0 (min u.length v.length) = !Fd.lexB u v
  | [], [] => rfl
  | [], _ :: _ => rfl
  | _ :: _, [] => rfl
  | x :: u, y :: v => by
    have ih := ge_words u v
    have el : min (x :: u).length (y :: v).length = min u.length v.length + 1 := by rw [List.length_cons, List.length_cons]; omega
    have ez : decide ((x :: u).length ≥ (y :: v).length) = decide (u.length ≥ v.length) := by simp [List.length_cons]
    rw [el, ez, Ob.lexAt_succ, lexAt_step]
    unfold Fd.lexB
    show (if decide (x = y) = true then Ob.lexAt (fun j => decide (u.getD j 0 = v.getD j 0)) (fun j => decide (v.getD j 0 ≤ u.getD j 0)) _ 0 _ else decide (y ≤ x)) = _
    rw [ih]
    by_cases h : x = y
    · simp [h]
    · by_cases h3 : x < y
      · have h4 : ¬ y ≤ x := by omega
        simp [h, h3, h4]
      · have h4 : y ≤ x := by omega
        simp [h, h3, h4]
section
variable {X : Cx} {pins : List (Addr × Obj)} {σ : L2.St} {H : Hp} {s : Shared}
/-- two words' comparison as the layer's RcOp, from any depth -/
theorem rc_words (I : Inv X pins σ H s) {A : Around} {p q : Addr} {u v : List Int} (hu : A.units + 8 < cLine) (hp : Tu X.K H p u) (hq : Tu X.K H q v) :
    Ob.RcOp .Gt A s (.ref p) (.ref q) (Fd.lexB v u) ∧ Ob.RcOp .GtE A s (.ref p) (.ref q) (!Fd.lexB u v) ∧ SeqAt.EqAt A s (.ref p) (.ref q) (decide (u = v)) := by
  obtain ⟨its, r1, p1, _⟩ := I.tuple hp
  obtain ⟨its2, r2, p2, _⟩ := I.tuple hq
  have i1 : IntsAre its u := Vals.ints r1
  have i2 : IntsAre its2 v := Vals.ints r2
  have e1 : its.toArray.size = u.length := by rw [List.size_toArray]; exact i1.length
  have e2 : its2.toArray.size = v.length := by rw [List.size_toArray]; exact i2.length
  have at1 : ∀ j (h1 : j < its.toArray.size), ∃ t, its.toArray[j] = .int (u.getD j 0) t := fun j h1 => PyProof.Rows.IntsAre.int_at i1 _ _ (by simp at h1; simp [h1])
  have at2 : ∀ j (h1 : j < its2.toArray.size), ∃ t, its2.toArray[j] = .int (v.getD j 0) t := fun j h1 => PyProof.Rows.IntsAre.int_at i2 _ _ (by simp at h1; simp [h1])
  have eqs : ∀ j (h1 : j < its.toArray.size) (h2 : j < its2.toArray.size), SeqAt.EqAt A.in1 s its.toArray[j] its2.toArray[j] (decide (u.getD j 0 = v.getD j 0)) := fun j h1 h2 => by
    obtain ⟨t, et⟩ := at1 j h1
    obtain ⟨t', et'⟩ := at2 j h2
    rw [et, et', ← Bool.beq_eq_decide_eq]
    exact SeqAt.EqAt.int_int _ _ _ _
  refine ⟨?_, ?_, ?_⟩
  · have R := Ob.RcOp.tuples_gt (A := A) (s := s) (r := fun j => decide (v.getD j 0 < u.getD j 0)) p1 p2 (by omega) eqs (fun j h1 h2 _ => by
      obtain ⟨t, et⟩ := at1 j h1
      obtain ⟨t', et'⟩ := at2 j h2
      rw [et, et']
      exact Ob.RcOp.gt_int _ _ _ _)
    rw [e1, e2, gt_words] at R
    exact R
  · have R := Ob.RcOp.tuples_ge (A := A) (s := s) (r := fun j => decide (v.getD j 0 ≤ u.getD j 0)) p1 p2 (by omega) eqs (fun j h1 h2 _ => by
      obtain ⟨t, et⟩ := at1 j h1
      obtain ⟨t', et'⟩ := at2 j h2
      rw [et, et']
      exact Ob.RcOp.ge_int _ _ _ _)
    rw [e1, e2, ge_words] at R
    exact R
  · obtain ⟨as, ra⟩ := Dp.reads I _ _ (.ref p) hp.dp rfl
    obtain ⟨bs, rb⟩ := Dp.reads I _ _ (.ref q) hq.dp rfl
    have R := PySem.W.eqAt_alike (wdD u) (wdD v) A s _ _ as bs ra rb (alike_wd u v) (by
      have d1 : (wdD u).depth = 1 := by unfold wdD; rw [PyData.depth, depth_ints]
      rw [d1]
      omega)
    rw [eqv_wd] at R
    exact R
end
def rGtPw (K : PySem.W.Frag) : R2 := fun x y H Q => ∃ a b u v, x = .ref a ∧ y = .ref b ∧ Pw K H a u ∧ Pw K H b v ∧ Q (.bl (Fd.ltW v u)) H
def rGePw (K : PySem.W.Frag) : R2 := fun x y H Q => ∃ a b u v, x = .ref a ∧ y = .ref b ∧ Pw K H a u ∧ Pw K H b v ∧ Q (.bl (!Fd.ltW u v)) H
section
variable {X : Cx}
theorem pairs_at {pins : List (Addr × Obj)} {σ : L2.St} {H : Hp} {s : Shared} (I : Inv X pins σ H s) {a p : Addr} {i : Int} (h : SqT X.K H a [.int i, .ref p]) : ∃ (its : Array Value) (t : Tok), s.heap.IsTuple a its ∧ its = #[.int i t, .ref p] := by
  obtain ⟨its, r, p1, _⟩ := I.tuple h
  cases r with
  | cons r1 r2 =>
    cases r2 with
    | cons r2 r3 =>
      cases r3
      obtain ⟨t, rfl⟩ := r1
      cases r2
      exact ⟨_, t, p1, rfl⟩
theorem op_gtPw (hu : X.A.units + 64 < cLine) : OpR X (compareOp .Gt) (rGtPw X.K) := by
  intro pins s σ H x y v0 u0 Q I rx ry h
  obtain ⟨a, b, u, v, rfl, rfl, ⟨p, ha, hp⟩, ⟨q, hb, hq⟩, k⟩ := h
  cases rx
  cases ry
  obtain ⟨its, t, p1, e1⟩ := pairs_at I ha
  obtain ⟨its2, t2, p2, e2⟩ := pairs_at I hb
  obtain ⟨rg, _, re⟩ := rc_words (A := X.A.in1) I (by show X.A.units + 1 + 8 < cLine; omega) hp hq
  subst e1
  subst e2
  have R := Ob.RcOp.tuples_gt (A := X.A) (s := s) (e := fun j => if j = 0 then decide ((u.length : Int) = (v.length : Int)) else decide (u = v)) (r := fun j => if j = 0 then decide ((v.length : Int) < (u.length : Int)) else Fd.lexB v u) p1 p2 (by omega)
    (fun j h1 h2 => by
      match j, h1, h2 with
      | 0, _, _ =>
        show SeqAt.EqAt _ _ (.int _ _) (.int _ _) (decide _)
        rw [← Bool.beq_eq_decide_eq]
        exact SeqAt.EqAt.int_int _ _ _ _
      | 1, _, _ => exact re
      | _ + 2, h1, _ => exact absurd h1 (by simp))
    (fun j h1 h2 _ => by
      match j, h1, h2 with
      | 0, _, _ => exact Ob.RcOp.gt_int _ _ _ _
      | 1, _, _ => exact rg
      | _ + 2, h1, _ => exact absurd h1 (by simp))
  have fin : Ob.lexAt (fun j => if j = 0 then decide ((u.length : Int) = (v.length : Int)) else decide (u = v)) (fun j => if j = 0 then decide ((v.length : Int) < (u.length : Int)) else Fd.lexB v u) (decide ((#[Value.int (u.length : Int) t, .ref p] : Array Value).size > (#[Value.int (v.length : Int) t2, .ref q] : Array Value).size)) 0
      (min (#[Value.int (u.length : Int) t, .ref p] : Array Value).size (#[Value.int (v.length : Int) t2, .ref q] : Array Value).size) = Fd.ltW v u := by
    show (if decide ((u.length : Int) = (v.length : Int)) = true then (if decide (u = v) = true then false else Fd.lexB v u) else decide ((v.length : Int) < (u.length : Int))) = _
    unfold Fd.ltW
    by_cases e : v.length = u.length
    · have e' : (u.length : Int) = (v.length : Int) := by omega
      rw [if_pos e, if_pos (decide_eq_true e')]
      by_cases z : u = v
      · subst z
        simp [lex_irr]
      · simp [z]
    · have e' : ¬ (u.length : Int) = (v.length : Int) := by omega
      rw [if_neg e, if_neg (by simp [e'])]
      by_cases z : v.length < u.length <;> simp [z] <;> omega
  rw [fin] at R
  exact R X.prog X.w _ _ ⟨.bl _, H, I, rfl, k⟩
theorem op_gePw (hu : X.A.units + 64 < cLine) : OpR X (compareOp .GtE) (rGePw X.K) := by
  intro pins s σ H x y v0 u0 Q I rx ry h
  obtain ⟨a, b, u, v, rfl, rfl, ⟨p, ha, hp⟩, ⟨q, hb, hq⟩, k⟩ := h
  cases rx
  cases ry
  obtain ⟨its, t, p1, e1⟩ := pairs_at I ha
  obtain ⟨its2, t2, p2, e2⟩ := pairs_at I hb
  obtain ⟨_, rg, re⟩ := rc_words (A := X.A.in1) I (by show X.A.units + 1 + 8 < cLine; omega) hp hq
  subst e1
  subst e2
  have R := Ob.RcOp.tuples_ge (A := X.A) (s := s) (e := fun j => if j = 0 then decide ((u.length : Int) = (v.length : Int)) else decide (u = v)) (r := fun j => if j = 0 then decide ((v.length : Int) ≤ (u.length : Int)) else !Fd.lexB u v) p1 p2 (by omega)
    (fun j h1 h2 => by
      match j, h1, h2 with
      | 0, _, _ =>
        show SeqAt.EqAt _ _ (.int _ _) (.int _ _) (decide _)
        rw [← Bool.beq_eq_decide_eq]
        exact SeqAt.EqAt.int_int _ _ _ _
      | 1, _, _ => exact re
      | _ + 2, h1, _ => exact absurd h1 (by simp))
    (fun j h1 h2 _ => by
      match j, h1, h2 with
      | 0, _, _ => exact Ob.RcOp.ge_int _ _ _ _
      | 1, _, _ => exact rg
      | _ + 2, h1, _ => exact absurd h1 (by simp))
  have fin : Ob.lexAt (fun j => if j = 0 then decide ((u.length : Int) = (v.length : Int)) else decide (u = v)) (fun j => if j = 0 then decide ((v.length : Int) ≤ (u.length : Int)) else !Fd.lexB u v) (decide ((#[Value.int (u.length : Int) t, .ref p] : Array Value).size ≥ (#[Value.int (v.length : Int) t2, .ref q] : Array Value).size)) 0
      (min (#[Value.int (u.length : Int) t, .ref p] : Array Value).size (#[Value.int (v.length : Int) t2, .ref q] : Array Value).size) = !Fd.ltW u v := by
    show (if decide ((u.length : Int) = (v.length : Int)) = true then (if decide (u = v) = true then true else !Fd.lexB u v) else decide ((v.length : Int) ≤ (u.length : Int))) = _
    unfold Fd.ltW
    by_cases e : u.length = v.length
    · have e' : (u.length : Int) = (v.length : Int) := by omega
      rw [if_pos e, if_pos (decide_eq_true e')]
      by_cases z : u = v
      · subst z
        simp [lex_irr]
      · simp [z]
    · have e' : ¬ (u.length : Int) = (v.length : Int) := by omega
      rw [if_neg e, if_neg (by simp [e'])]
      by_cases z : u.length < v.length
      · have z' : ¬ (v.length : Int) ≤ (u.length : Int) := by omega
        simp [z, z']
      · have z' : (v.length : Int) ≤ (u.length : Int) := by omega
        simp [z, z']
  rw [fin] at R
  exact R X.prog X.w _ _ ⟨.bl _, H, I, rfl, k⟩
end
end Fw
end
section
set_option Elab.async false
set_option linter.all false
set_option maxRecDepth 100000
set_option maxHeartbeats 4000000
/-! Fd05: the text by places, defs by name, the checks and the deeds. -/
namespace Fw
open PySem PySem.Spec PyProof.Rows L2

def top (i : Nat) : Stmt := PySem.Challenge.pw_fadewords_k76_whole_parts_of_least_words.main.body.getD i (.Pass ⟨0, 0, 0, 0⟩)
/-- a def of the top, by its name -/
structure Df (K : PySem.W.Frag) (mg : Str → Option Value) (x : Str) (st : Stmt) : Prop where
  ex : ∃ (f : Addr) (fd : FuncData), FunD K x x (defArgs st) (defBody st) (defScope st) [] [] f fd ∧ mg x = some (.ref f)
/-- it keeps its promise -/
structure Cal (P : Program) (w : World) (K : PySem.W.Frag) (mg : Str → Option Value) (base : Heap) (k : Nat) (x : Str) (sp : Sp) : Prop where
  ex : ∃ (f : Addr) (fd : FuncData) (ps : List Str), FnOk P w K mg base CX0 k f fd ps sp ∧ mg x = some (.ref f) ∧ PySem.W.keepIn K (.ref f) = true ∧ Binds K fd ps []
theorem df_cal {P : Program} {w : World} {K : PySem.W.Frag} {mg : Str → Option Value} {base : Heap} {x : Str} {st : Stmt} {N ps : List Str} {k : Nat} {sp : Sp} (D : Df K mg x st) (S : FnScope N ps (defScope st))
    (hb : ∀ (kV doc pm : Value) (an : Option Addr) (cdv ct : Value) (us : List Value), us.length = ps.length → bindArgs (PySem.W.fnOf x x (defArgs st) (defBody st) (defScope st) .none kV doc pm an cdv ct) ⟨us, []⟩ = pure (ps.zip us))
    (len : ∀ vs H Q E, sp vs H Q E → vs.length = ps.length)
    (hbody : ∀ (f : Addr) (cdv : Value) (A : Around) (outer : List Env) (s : Shared) (H : Hp) (vs : List V) (Q : VK) (E : XK), Room k (A.deeper (envOfC x (defScope st) s.heap.objs.size f cdv)) → sp vs H Q E →
      ∃ t, PSs (cxOf CX0 P w K mg base N x (defScope st) f cdv A outer s H E).nox (defBody st) t ∧ t { nx := fun _ H' => Q .non H', rt := Q } (start N vs) H) : Cal P w K mg base (k + 1) x sp := by
  obtain ⟨f, fd, F, g⟩ := D.ex
  exact ⟨f, fd, ps, F.ok S len fun cdv A outer s H vs Q E hr h => (hbody f cdv A outer s H vs Q E hr h).imp fun t z => ⟨z.1.nox, z.2⟩, g, F.kp, F.bindsN hb⟩
def tF (sp : Sp) (t : TA) : TE := fun σ H Q => t σ H fun vs H1 => sp vs H1 Q E0
section
variable {X : Cx} {e : Expr} {es : List Expr} {t : TA} {x : Str} {p pos : Pos} {j k : Nat} {sp : Sp}
theorem pe_f (c : Cal X.prog X.w X.K X.mg X.base k x sp) (hr : Room j X.A) (hk : k ≤ j) (hg : Gl X x) (ha : PA X (e :: es) t)
    (hdb : (x == ("__debug__" : Str)) = false := by decide) (he : starEach (e :: es) X.env = (false, eval e X.env) :: starEach es X.env := by rfl) (hpl : (backTo pos (starEach es X.env)).any (·.1) = false := by rfl) :
    PE X (.Call (.Name x p) (e :: es) [] pos) (tF sp t) := by
  obtain ⟨f, fd, ps, F, hm, kp, b⟩ := c.ex
  have q := pe_call (p := p) (pos := pos) F (hr.mono hk) hg hm kp b .nil pass0 ha hdb he hpl
  refine ⟨fun pins s σ H Q I h => q.run pins s σ H Q I ?_⟩
  show t σ H fun vs H1 => sp (vs ++ []) H1 Q E0
  simp only [List.append_nil]
  exact h
/-- a constant of the module -/
theorem pe_k {v : V} (hg : Gl X x) (h : ∃ u, X.mg x = some u ∧ RelV v u) (hd : (x == ("__debug__" : Str)) = false := by decide) : PE X (.Name x pos) (tC v) :=
  let ⟨_, h1, h2⟩ := h; pe_glob hg h1 h2 hd
end
/-- what the text leans on beside its defs -/
structure Txt (K : PySem.W.Frag) (mg : Str → Option Value) : Prop where
  len : mg "len" = none
  range : mg "range" = none
  isi : mg "isinstance" = none
  int : mg "int" = none
  bool : mg "bool" = none
  tuple : mg "tuple" = none
  list : mg "list" = none
  str : mg "str" = none
  all : mg "all" = none
  sorted : mg "sorted" = none
  enum : mg "enumerate" = none
  kL : ∃ u, mg "MOST_LETTERS" = some u ∧ RelV (.int 5) u
  kV : ∃ u, mg "MOST_VALUE" = some u ∧ RelV (.int 6) u
  kW : ∃ u, mg "MOST_WORD" = some u ∧ RelV (.int 60) u
  kD : ∃ u, mg "MOST_DEEDS" = some u ∧ RelV (.int 3000) u
  kN : ∃ a, (∃ u, mg "NOTHING" = some u ∧ RelV (.ref a) u) ∧ ∃ p q, K.lookup a ≠ none ∧ (∀ H, SqT K H a [.ref p, .ref q]) ∧ (∀ H, Tu K H p []) ∧ (∀ H, Tu K H q [])
theorem Txt.noth {K : PySem.W.Frag} {mg : Str → Option Value} (T : Txt K mg) : ∃ a, (∃ u, mg "NOTHING" = some u ∧ RelV (.ref a) u) ∧ ∀ H, De K H a Fd.nothing :=
  let ⟨a, h, p, q, _, h1, h2, h3⟩ := T.kN; ⟨a, h, fun H => ⟨p, q, h1 H, h2 H, h3 H⟩⟩
theorem ty_tup {K : PySem.W.Frag} {H : Hp} {a : Addr} {xs : List V} (h : SqT K H a xs) : TyX K H (.ref a) (.type "tuple") := by
  rcases h with (h | ⟨o, h⟩) | ⟨o, its, n, h1, h2, _⟩
  · exact .base (.tup h)
  · exact .fTuple h
  · exact .kTuple h1 h2

section
variable {P : Program} {w : World} {K : PySem.W.Frag} {mg : Str → Option Value} {base : Heap}
/-! ### whole, within, tuple_of -/
abbrev sWhole : Stmt := top 9
def spWhole : Sp := fun vs H Q _ => ∃ i : Int, vs = [.int i] ∧ Q (.bl true) H
theorem sc_whole : FnScope ["value"] ["value"] (defScope sWhole) := ⟨rfl, rfl, rfl, by decide +kernel, rfl, by decide +kernel, by decide +kernel⟩
theorem c_whole (D : Df K mg "whole" sWhole) (T : Txt K mg) : Cal P w K mg base 1 "whole" spWhole := by
  refine df_cal D sc_whole (fun _ _ _ _ _ _ us hl => match us, hl with | [_], _ => rfl) (fun vs H Q E h => ?_) (fun f cdv A outer s H vs Q E hr h => ?_)
  · obtain ⟨i, rfl, _⟩ := h
    rfl
  · obtain ⟨i, rfl, k⟩ := h
    refine ⟨_, pss_one (ps_ret (pe_and (pe_callB call_isi (by rfl) T.isi (by decide +kernel) (pa_cons (pv 0) (pa_cons (pe_bltn (v := .ty "int") (by rfl) T.int (by decide +kernel) rfl) pa_nil)))
      (pe_one (pe_not (pe_callB call_isi (by rfl) T.isi (by decide +kernel) (pa_cons (pv 0) (pa_cons (pe_bltn (v := .ty "bool") (by rfl) T.bool (by decide +kernel) rfl) pa_nil))))))), ?_⟩
    refine ⟨_, rfl, _, _, _, _, true, rfl, .ty _, .base (.int i), kit_ty (by decide +kernel), _, rfl, iteT ?_⟩
    exact ⟨_, rfl, _, _, _, _, false, rfl, .ty _, .base (.int i), kit_ty (by decide +kernel), _, rfl, k⟩
abbrev sWithin : Stmt := top 10
def spWithin : Sp := fun vs H Q _ => ∃ v lo hi : Int, vs = [.int v, .int lo, .int hi] ∧ Q (.bl (decide (lo ≤ v ∧ v ≤ hi))) H
theorem sc_within : FnScope ["value", "low", "high"] ["value", "low", "high"] (defScope sWithin) := ⟨rfl, rfl, rfl, by decide +kernel, rfl, by decide +kernel, by decide +kernel⟩
theorem c_within (D : Df K mg "within" sWithin) (W : Cal P w K mg base 1 "whole" spWhole) : Cal P w K mg base 2 "within" spWithin := by
  refine df_cal D sc_within (fun _ _ _ _ _ _ us hl => match us, hl with | [_, _, _], _ => rfl) (fun vs H Q E h => ?_) (fun f cdv A outer s H vs Q E hr h => ?_)
  · obtain ⟨v, lo, hi, rfl, _⟩ := h
    rfl
  · obtain ⟨v, lo, hi, rfl, k⟩ := h
    refine ⟨_, pss_one (ps_ret (pe_and (pe_f W hr (by decide) (by rfl) (pa_cons (pv 0) pa_nil)) (pe_one (pe_chain op_le op_le (pv 1) (pv 0) (pv 2))))), ?_⟩
    refine ⟨_, rfl, v, rfl, _, rfl, iteT ?_⟩
    refine ⟨_, rfl, _, rfl, _, _, rfl, rfl, _, rfl, ?_⟩
    by_cases h1 : lo ≤ v
    · refine (if_pos (decide_eq_true h1)).mpr ⟨_, rfl, _, _, rfl, rfl, ?_⟩
      have e : Q (.bl (decide (v ≤ hi))) H := by
        have e : decide (v ≤ hi) = decide (lo ≤ v ∧ v ≤ hi) := by simp [h1]
        rw [e]
        exact k
      exact e
    · refine (if_neg (by simp [h1])).mpr ?_
      have e : Q (.bl false) H := by
        have e : false = decide (lo ≤ v ∧ v ≤ hi) := by simp [h1]
        rw [e]
        exact k
      exact e
abbrev sTupleOf : Stmt := top 11
def spTupleOf (K : PySem.W.Frag) : Sp := fun vs H Q _ => ∃ (a : Addr) (xs : List V) (lo hi : Int), vs = [.ref a, .int lo, .int hi] ∧ SqT K H a xs ∧ Q (.bl (decide (lo ≤ (xs.length : Int) ∧ (xs.length : Int) ≤ hi))) H
theorem sc_tupleOf : FnScope ["value", "low", "high"] ["value", "low", "high"] (defScope sTupleOf) := ⟨rfl, rfl, rfl, by decide +kernel, rfl, by decide +kernel, by decide +kernel⟩
theorem c_tupleOf (D : Df K mg "tuple_of" sTupleOf) (T : Txt K mg) : Cal P w K mg base 1 "tuple_of" (spTupleOf K) := by
  refine df_cal D sc_tupleOf (fun _ _ _ _ _ _ us hl => match us, hl with | [_, _, _], _ => rfl) (fun vs H Q E h => ?_) (fun f cdv A outer s H vs Q E hr h => ?_)
  · obtain ⟨a, xs, lo, hi, rfl, _⟩ := h
    rfl
  · obtain ⟨a, xs, lo, hi, rfl, ht, k⟩ := h
    refine ⟨_, pss_one (ps_ret (pe_and (pe_callB call_isi (by rfl) T.isi (by decide +kernel) (pa_cons (pv 0) (pa_cons (pe_bltn (v := .ty "tuple") (by rfl) T.tuple (by decide +kernel) rfl) pa_nil)))
      (pe_one (pe_chain op_le op_le (pv 1) (pe_callB call_len_seq (by rfl) T.len PySem.boot_len (pa_cons (pv 0) pa_nil)) (pv 2))))), ?_⟩
    refine ⟨_, rfl, _, _, _, _, true, rfl, .ty _, ty_tup ht, kit_ty (by decide +kernel), _, rfl, iteT ?_⟩
    refine ⟨_, rfl, _, rfl, a, xs, rfl, .inr ht, _, _, rfl, rfl, _, rfl, ?_⟩
    by_cases h1 : lo ≤ (xs.length : Int)
    · refine (if_pos (decide_eq_true h1)).mpr ⟨_, rfl, _, _, rfl, rfl, ?_⟩
      have e : Q (.bl (decide ((xs.length : Int) ≤ hi))) H := by
        have e : decide ((xs.length : Int) ≤ hi) = decide (lo ≤ (xs.length : Int) ∧ (xs.length : Int) ≤ hi) := by simp [h1]
        rw [e]
        exact k
      exact e
    · refine (if_neg (by simp [h1])).mpr ?_
      have e : Q (.bl false) H := by
        have e : false = decide (lo ≤ (xs.length : Int) ∧ (xs.length : Int) ≤ hi) := by simp [h1]
        rw [e]
        exact k
      exact e
end
end Fw
end
section
set_option Elab.async false
set_option linter.all false
set_option maxRecDepth 100000
set_option maxHeartbeats 4000000
/-! Fd06: need_values, wrong_letter, need_word, old_place_at, with_letter, deed_of. -/
namespace Fw
open PySem PySem.Spec PyProof.Rows L2

theorem walk_enT {K : PySem.W.Frag} {a : Addr} {xs : List V} : Walk (ItE K a) xs.length (fun H => SqT K H a xs) (YPair (fun i => some (.int (i : Nat))) (fun i => xs[i]?)) where
  goes := fun i H hi h => ⟨xs, xs[i], h, by simp [hi]⟩
  stops := fun H h => ⟨xs, h, Nat.le_refl _⟩
  yields := fun i H x H' hi h y => by
    obtain ⟨T, z, e, n, eH, q⟩ := y
    exact ⟨T, .int (i : Nat), z, e, n, eH, rfl, q xs h⟩
theorem small {n : Nat} (h : n ≤ 5000) : n < sizeLine := Nat.lt_of_le_of_lt h (by decide)
theorem at_int {ns : List Int} {i : Nat} {x : V} (h : (ns.map V.int)[i]? = some x) : ∃ n, ns[i]? = some n ∧ x = .int n := by
  rw [List.getElem?_map] at h
  cases e : ns[i]? with
  | none => rw [e] at h; cases h
  | some n => rw [e] at h; exact ⟨n, rfl, (Option.some.inj h).symm⟩
theorem lt_of_get {α : Type} {xs : List α} {i : Nat} {x : α} (h : xs[i]? = some x) : i < xs.length := (List.getElem?_eq_some_iff.mp h).1
theorem Same.tu {K : PySem.W.Frag} {H H' : Hp} {a : Addr} {ns : List Int} (e : Same H H') (h : Tu K H a ns) : Tu K H' a ns := h.keep (.same e)
theorem Same.sqt {K : PySem.W.Frag} {H H' : Hp} {a : Addr} {xs : List V} (e : Same H H') (h : SqT K H a xs) : SqT K H' a xs := (Keep.same e).sqt h
theorem Same.de {K : PySem.W.Frag} {H H' : Hp} {a : Addr} {d : Fd.Dd} (e : Same H H') (h : De K H a d) : De K H' a d := h.keep (.same e)
theorem Same.new {H H1 : Hp} {p : Addr} {o : HO} (e : Same H H1) (h : H1 p = none) : Same H (upd H1 p o) := e.trans (same_new h)

/-! ### tuples put together, cut -/
structure rTup (xs : List V) (H : Hp) (Q : VK) : Prop where
  h : xs.length ≤ sizeLine ∧ ∀ p, H p = none → Q (.ref p) (upd H p (.tup xs))
structure rLst (xs : List V) (H : Hp) (Q : VK) : Prop where
  h : xs.length ≤ sizeLine ∧ ∀ p, H p = none → Q (.ref p) (upd H p (.lst xs))
structure RCat (K : PySem.W.Frag) (x y : V) (H : Hp) (Q : VK) : Prop where
  h : rCatA K x y H Q
structure RSl (K : PySem.W.Frag) (x : V) (lo hi : Option Int) (H : Hp) (Q : VK) : Prop where
  h : rSlA K x lo hi H Q
theorem op_catU {X : Cx} : OpR X (binaryOp .Add) (RCat X.K) := fun pins s σ H x y v u Q I rx ry z => op_catA pins s σ H x y v u Q I rx ry z.h
theorem sl_tupU {X : Cx} : SlR X (RSl X.K) := fun pins s σ H x v vl vu lo hi sl Q I rx a b c z => sl_tupA pins s σ H x v vl vu lo hi sl Q I rx a b c z.h
def tTp (t : TA) : TE := fun σ H Q => t σ H fun xs H1 => rTup xs H1 Q
def tLs (t : TA) : TE := fun σ H Q => t σ H fun xs H1 => rLst xs H1 Q
theorem pe_tp {X : Cx} {es : List Expr} {t : TA} {x1 : Nat} {pos : Pos} (ha : PA X es t) : PE X (.Tuple es x1 pos) (tTp t) := by
  refine ⟨fun pins s σ H Q I z => ?_⟩
  refine wpAny_Tuple_spliced (thn (ha.run pos pins s σ H _ I z) fun us s1 y => ?_)
  obtain ⟨xs, H1, I1, r, ⟨z1, z2⟩⟩ := y
  refine ⟨by rw [← r.length]; exact z1, .ref s1.heap.objs.size, _, I1.laid (o := .tup xs) (t' := s1.toks) (fun b u e => Heap.get?_push_of_some _ e) (Nat.le_refl _) ⟨z1, us, r, _, Heap.get?_push_size _ rfl, rfl, _, rfl⟩, rfl, z2 _ (I1.hok.fresh (Nat.le_refl _))⟩
theorem pe_ls {X : Cx} {es : List Expr} {t : TA} {pos : Pos} (ha : PA X es t) : PE X (.List es pos) (tLs t) := by
  refine ⟨fun pins s σ H Q I z => ?_⟩
  refine wpAny_List_spliced (thn (ha.run pos pins s σ H _ I z) fun us s1 y => ?_)
  obtain ⟨xs, H1, I1, r, ⟨z1, z2⟩⟩ := y
  refine ⟨by rw [← r.length]; exact z1, .ref s1.heap.objs.size, _, I1.laid (o := .lst xs) (t' := s1.toks) (fun b u e => Heap.get?_push_of_some _ e) (Nat.le_refl _) ⟨z1, us, 0, r, Heap.get?_push_size _ rfl⟩, rfl, z2 _ (I1.hok.fresh (Nat.le_refl _))⟩
section
variable {K : PySem.W.Frag} {H : Hp} {a b : Addr} {xs ys : List V} {Q : VK}
theorem cat_ok (ha : SqT K H a xs) (hb : SqT K H b ys) (hl : xs.length + ys.length ≤ 5000) (k : ∀ H' p, Same H H' → SqT K H' p (xs ++ ys) → Q (.ref p) H') : RCat K (.ref a) (.ref b) H Q := by
  refine ⟨a, b, xs, ys, rfl, rfl, ha, hb, Nat.le_of_lt (small hl), fun e => ?_, fun _ e => ?_, fun _ _ p hp => ?_⟩
  · refine k _ _ (Same.refl _) ?_
    rw [e]
    exact hb
  · refine k _ _ (Same.refl _) ?_
    rw [e, List.append_nil]
    exact ha
  · exact k _ _ (same_new hp) (SqT.of upd_same)
theorem cut_whole {lo hi : Option Int} (h1 : HT.sIx xs.length 0 lo = 0) (h2 : HT.sIx xs.length xs.length hi = xs.length) : cutV xs lo hi = xs := by
  unfold cutV
  rw [h1, h2, List.drop_zero, Nat.sub_zero, List.take_length]
theorem sl_ok {lo hi : Option Int} (ha : SqT K H a xs) (k : ∀ H' p, Same H H' → SqT K H' p (cutV xs lo hi) → Q (.ref p) H') : RSl K (.ref a) lo hi H Q := by
  refine ⟨a, xs, rfl, ha, fun e => ?_, fun _ p hp => ?_⟩
  · refine k _ _ (Same.refl _) ?_
    rw [cut_whole e.1 e.2]
    exact ha
  · exact k _ _ (same_new hp) (SqT.of upd_same)
theorem sIx_int {n d : Nat} {i : Int} (h : 0 ≤ i) : HT.sIx n d (some i) = min i.toNat n := by
  obtain ⟨k, rfl⟩ := Int.eq_ofNat_of_zero_le h
  rw [HT.sIx_nat]
  rfl
theorem cut_to {i : Int} (h : 0 ≤ i) : cutV xs none (some i) = xs.take i.toNat := by
  unfold cutV
  rw [HT.sIx_none, sIx_int h, List.drop_zero, Nat.sub_zero]
  by_cases e : i.toNat ≤ xs.length
  · rw [Nat.min_eq_left e]
  · rw [Nat.min_eq_right (by omega), List.take_length, List.take_of_length_le (by omega)]
theorem cut_from {i : Int} (h : 0 ≤ i) : cutV xs (some i) none = xs.drop i.toNat := by
  unfold cutV
  rw [HT.sIx_none, sIx_int h]
  by_cases e : i.toNat ≤ xs.length
  · rw [Nat.min_eq_left e]
    exact List.take_of_length_le (by rw [List.length_drop]; omega)
  · rw [Nat.min_eq_right (by omega), List.drop_length, List.take_nil, List.drop_eq_nil_of_le (by omega)]
theorem cut_mid {i j : Int} (h : 0 ≤ i) (h2 : 0 ≤ j) : cutV xs (some i) (some j) = (xs.drop i.toNat).take (j.toNat - i.toNat) := by
  unfold cutV
  rw [sIx_int h, sIx_int h2]
  by_cases e : i.toNat ≤ xs.length
  · rw [Nat.min_eq_left e]
    by_cases e2 : j.toNat ≤ xs.length
    · rw [Nat.min_eq_left e2]
    · rw [Nat.min_eq_right (show xs.length ≤ j.toNat by omega), List.take_of_length_le (by rw [List.length_drop]; omega), List.take_of_length_le (by rw [List.length_drop]; omega)]
  · rw [Nat.min_eq_right (show xs.length ≤ i.toNat by omega), List.drop_length, List.take_nil, List.drop_eq_nil_of_le (by omega), List.take_nil]
theorem tup_ok {zs : List V} (hl : zs.length ≤ 5000) (k : ∀ H' p, Same H H' → H' p = some (.tup zs) → Q (.ref p) H') : rTup zs H Q :=
  ⟨Nat.le_of_lt (small hl), fun p hp => k _ _ (same_new hp) upd_same⟩
theorem lst_ok {zs : List V} (hl : zs.length ≤ 5000) (k : ∀ p, H p = none → Q (.ref p) (upd H p (.lst zs))) : rLst zs H Q :=
  ⟨Nat.le_of_lt (small hl), k⟩
theorem atI_int {us : List Int} {i : Int} {v : Int} (h : 0 ≤ i) (e : us[i.toNat]? = some v) : atI (us.map V.int) i = some (.int v) := by
  obtain ⟨k, rfl⟩ := Int.eq_ofNat_of_zero_le h
  refine atI_nat ?_
  rw [List.getElem?_map]
  have e' : us[k]? = some v := e
  rw [e']
  rfl
theorem in_ints {f : Int} {ps : List Int} : inV (.int f) (ps.map V.int) = ps.any fun y => decide (y = f) := by
  unfold inV
  rw [List.any_map]
  congr 1
theorem flat_ints (ps : List Int) : (ps.map V.int).all flatV = true := by
  rw [List.all_eq_true]
  intro x hx
  obtain ⟨n, _, rfl⟩ := List.mem_map.mp hx
  rfl
end

section
variable {P : Program} {w : World} {K : PySem.W.Frag} {mg : Str → Option Value} {base : Heap}
/-! ### need_values -/
abbrev sNeedV : Stmt := top 12
def spNeedV (K : PySem.W.Frag) : Sp := fun vs H Q _ => ∃ (a : Addr) (ns : List Int), vs = [.ref a] ∧ Tu K H a ns ∧ 1 ≤ ns.length ∧ ns.length ≤ 5 ∧ (∀ n ∈ ns, 1 ≤ n ∧ n ≤ 6) ∧ ∀ H', Same H H' → Q .non H'
theorem sc_needV : FnScope ["value", "told"] ["value"] (defScope sNeedV) := ⟨rfl, rfl, rfl, by decide +kernel, rfl, by decide +kernel, by decide +kernel⟩
theorem c_needV (D : Df K mg "need_values" sNeedV) (T : Txt K mg) (C1 : Cal P w K mg base 1 "tuple_of" (spTupleOf K)) (C2 : Cal P w K mg base 2 "within" spWithin) : Cal P w K mg base 3 "need_values" (spNeedV K) := by
  refine df_cal D sc_needV (fun _ _ _ _ _ _ us hl => match us, hl with | [_], _ => rfl) (fun vs H Q E h => ?_) (fun f cdv A outer s H vs Q E hr h => ?_)
  · obtain ⟨a, ns, rfl, _⟩ := h
    rfl
  · obtain ⟨a, ns, rfl, ht, h1, h5, hv, k⟩ := h
    refine ⟨_, pss_one (ps_if (pw_or (pt_not (pt_val (pe_f C1 hr (by decide) (by rfl) (pa_cons (pv 0) (pa_cons pe_int (pa_cons (pe_k (by rfl) T.kL) pa_nil))))))
      (pw_or1 (pt_not (pt_val (pe_callB (cr_all rfl) (by rfl) T.all (by decide +kernel) (pa_cons (pe_lc (own := [("told", 1)]) (g := gName 1) (by rfl) sc_needV.nd (pi_tup (pv 0))
        (blkOk_by (own := [("told", 1)]) (N := ["value", "told"]) (sc := defScope sNeedV) (by decide +kernel)) (fun _ _ _ _ _ => pg_name (i := 1) sc_needV.nd rfl (Or.inl rfl)) (fun _ _ _ _ _ => pts_nil)
        (fun _ _ _ _ _ => pe_f C2 hr (by decide) (by rfl) (pa_cons (pv 1) (pa_cons pe_int (pa_cons (pe_k (by rfl) T.kV) pa_nil))))) pa_nil)))))).pt pss_never pss_nil), ?_⟩
    refine ⟨_, rfl, a, _, _, _, rfl, ht, _, rfl, ?_⟩
    have e1 : decide ((1 : Int) ≤ ((ns.map V.int).length : Int) ∧ ((ns.map V.int).length : Int) ≤ 5) = true := decide_eq_true (by rw [List.length_map]; omega)
    rw [e1]
    refine iteF ?_
    refine ⟨_, rfl, a, rfl, ⟨_, ht⟩, fun L hL => lc_tup (K := K) (a := a) (xs := ns.map V.int) (fun i H' => Same H H' ∧ H' L = some (.lst ((List.replicate i true).map V.bl))) ⟨same_new hL, upd_same⟩ (fun i H' _ z => Same.sqt z.1 ht) ?_ ?_⟩
    · rintro i x H' hx ⟨z1, z2⟩
      obtain ⟨n, hn, rfl⟩ := at_int hx
      have hi := lt_of_get hn
      have hb := hv n (List.mem_of_getElem? hn)
      refine ⟨rfl, ?_⟩
      dsimp only [tYes]
      rw [if_pos rfl]
      refine ⟨_, rfl, _, _, _, rfl, _, z2, ?_, ?_, ?_⟩
      · rw [List.length_map, List.length_replicate]
        exact small (by omega)
      · have e2 : decide ((1 : Int) ≤ n ∧ n ≤ 6) = true := decide_eq_true hb
        intro b o eb
        have nb : b ≠ L := ne_of_none eb hL
        rw [upd_ne nb]
        exact z1 b o eb
      · have e2 : decide ((1 : Int) ≤ n ∧ n ≤ 6) = true := decide_eq_true hb
        rw [e2, upd_same, List.replicate_succ', List.map_append]
        rfl
    · rintro H' ⟨z1, z2⟩
      refine ⟨L, _, rfl, SqL.of z2, _, rfl, ?_⟩
      have e3 : (List.replicate (ns.map V.int).length true).all id = true := by simp
      rw [e3]
      exact iteF (k _ z1)

/-! ### wrong_letter, need_word -/
abbrev sWrong : Stmt := top 13
def spWrong (K : PySem.W.Frag) : Sp := fun vs H Q _ => ∃ (m : Int) (a : Addr) (us : List Int), vs = [.int m, .ref a] ∧ Tu K H a us ∧ (∀ u ∈ us, 0 ≤ u ∧ u < m) ∧ ∀ H', Same H H' → Q .non H'
theorem sc_wrong : FnScope ["many", "value", "index", "letter"] ["many", "value"] (defScope sWrong) := ⟨rfl, rfl, rfl, by decide +kernel, rfl, by decide +kernel, by decide +kernel⟩
theorem c_wrong (D : Df K mg "wrong_letter" sWrong) (T : Txt K mg) (C2 : Cal P w K mg base 2 "within" spWithin) : Cal P w K mg base 3 "wrong_letter" (spWrong K) := by
  refine df_cal D sc_wrong (fun _ _ _ _ _ _ us hl => match us, hl with | [_, _], _ => rfl) (fun vs H Q E h => ?_) (fun f cdv A outer s H vs Q E hr h => ?_)
  · obtain ⟨m, a, us, rfl, _⟩ := h
    rfl
  · obtain ⟨m, a, us, rfl, ht, hv, k⟩ := h
    refine ⟨_, pss_cons (ps_for PassesOwn.never rfl (pi_enT (by rfl) T.enum (pa_cons (pv 1) pa_nil)) (pg_tup rfl (pgs_cons (pg_name (i := 2) sc_wrong.nd rfl (Or.inl rfl)) (pgs_cons (pg_name (i := 3) sc_wrong.nd rfl (Or.inl rfl)) pgs_nil)))
      (pss_one (ps_if (pt_not (pt_val (pe_f C2 hr (by decide) (by rfl) (pa_cons (pv 3) (pa_cons pe_int (pa_cons (pe_op op_sub (pv 0) pe_int) pa_nil)))))) pss_never pss_nil))) (pss_one (ps_ret pe_non)), ?_⟩
    refine ⟨_, rfl, a, _, rfl, ht, for_it walk_enT (fun i σ H' => ∃ v2 v3, σ = [some (.int m), some (.ref a), v2, v3] ∧ Same H H') ⟨none, none, rfl, Same.refl _⟩ (fun i σ H' _ z => by obtain ⟨_, _, _, z⟩ := z; exact Same.sqt z ht) ?_ ?_⟩
    · rintro i x σ H' H'' hi ⟨v2, v3, rfl, z⟩ ⟨T', y1, y2, rfl, nT, rfl, e1, e2⟩
      obtain ⟨n, hn, rfl⟩ := at_int e2
      have hb := hv n (List.mem_of_getElem? hn)
      refine ⟨T', _, rfl, SqT.of upd_same, rfl, _, _, rfl, _, _, rfl, rfl, ?_⟩
      refine ⟨_, rfl, _, rfl, _, _, rfl, rfl, _, _, _, rfl, _, rfl, ?_⟩
      have e3 : decide ((0 : Int) ≤ n ∧ n ≤ m - 1) = true := decide_eq_true (by omega)
      rw [e3]
      exact iteF ⟨_, _, rfl, Same.new z nT⟩
    · rintro σ H' ⟨v2, v3, rfl, z⟩
      exact k _ z
abbrev sNeedW : Stmt := top 14
def spNeedW (K : PySem.W.Frag) : Sp := fun vs H Q _ => ∃ (a b : Addr) (ns us : List Int), vs = [.ref a, .ref b] ∧ Tu K H a ns ∧ Tu K H b us ∧ us.length ≤ 60 ∧ (∀ u ∈ us, 0 ≤ u ∧ u < (ns.length : Int)) ∧ ∀ H', Same H H' → Q .non H'
theorem sc_needW : FnScope ["values", "word", "index"] ["values", "word"] (defScope sNeedW) := ⟨rfl, rfl, rfl, by decide +kernel, rfl, by decide +kernel, by decide +kernel⟩
theorem c_needW (D : Df K mg "need_word" sNeedW) (T : Txt K mg) (C1 : Cal P w K mg base 1 "tuple_of" (spTupleOf K)) (C3 : Cal P w K mg base 3 "wrong_letter" (spWrong K)) : Cal P w K mg base 4 "need_word" (spNeedW K) := by
  refine df_cal D sc_needW (fun _ _ _ _ _ _ us hl => match us, hl with | [_, _], _ => rfl) (fun vs H Q E h => ?_) (fun f cdv A outer s H vs Q E hr h => ?_)
  · obtain ⟨a, b, ns, us, rfl, _⟩ := h
    rfl
  · obtain ⟨a, b, ns, us, rfl, ha, hb, h60, hv, k⟩ := h
    refine ⟨_, pss_cons (ps_if (pt_not (pt_val (pe_f C1 hr (by decide) (by rfl) (pa_cons (pv 1) (pa_cons pe_int (pa_cons (pe_k (by rfl) T.kW) pa_nil)))))) pss_never pss_nil)
      (pss_cons (ps_set (i := 2) sc_needW.nd rfl (Or.inl rfl) (pe_f C3 hr (by decide) (by rfl) (pa_cons (pe_callB call_len_seq (by rfl) T.len PySem.boot_len (pa_cons (pv 0) pa_nil)) (pa_cons (pv 1) pa_nil))))
      (pss_one (ps_if (pt_cmpR op_notN (pv 2) pe_non (nomark _)) pss_never pss_nil))), ?_⟩
    refine ⟨_, rfl, b, _, _, _, rfl, hb, _, rfl, ?_⟩
    have e1 : decide ((0 : Int) ≤ ((us.map V.int).length : Int) ∧ ((us.map V.int).length : Int) ≤ 60) = true := decide_eq_true (by rw [List.length_map]; omega)
    rw [e1]
    refine iteF ?_
    refine ⟨_, rfl, a, _, rfl, .inr ha, _, rfl, _, b, us, rfl, hb, fun u hu => ?_, fun H1 z1 => ?_⟩
    · have q := hv u hu
      rw [List.length_map]
      exact q
    · exact ⟨_, rfl, rfl, _, rfl, iteF (k _ z1)⟩

/-! ### old_place_at -/
abbrev sOld : Stmt := top 17
def spOld (K : PySem.W.Frag) : Sp := fun vs H Q _ => ∃ (a : Addr) (ps : List Int) (many now r : Int) (n : Nat), vs = [.ref a, .int many, .int now] ∧ Tu K H a ps ∧ Fd.oldGo ps n 0 (now - many) = some r ∧ Q (.int r) H
theorem sc_old : FnScope ["places", "many", "now", "found", "left"] ["places", "many", "now"] (defScope sOld) := ⟨rfl, rfl, rfl, by decide +kernel, rfl, by decide +kernel, by decide +kernel⟩
theorem c_old (D : Df K mg "old_place_at" sOld) (T : Txt K mg) : Cal P w K mg base 1 "old_place_at" (spOld K) := by
  refine df_cal D sc_old (fun _ _ _ _ _ _ us hl => match us, hl with | [_, _, _], _ => rfl) (fun vs H Q E h => ?_) (fun f cdv A outer s H vs Q E hr h => ?_)
  · obtain ⟨a, ps, many, now, r, n, rfl, _⟩ := h
    rfl
  · obtain ⟨a, ps, many, now, r, n, rfl, ht, hg, k⟩ := h
    refine ⟨_, pss_cons (ps_par (i := 3) (j := 4) rfl sc_old.nd rfl rfl (by decide) rfl rfl (pa_cons pe_int (pa_cons (pe_op op_sub (pv 2) (pv 1)) pa_nil)) rfl)
      (pss_cons (ps_while PassesOwn.never (pt_cmpR op_gt (pv 4) pe_int (nomark _)) (pss_cons (ps_aug (i := 3) sc_old.nd rfl (Or.inl rfl) pe_int ip_add)
        (pss_one (ps_if (pt_cmpR op_notIn_seq (pv 3) (pv 0) (by with_unfolding_all rfl)) (pss_one (ps_aug (i := 4) sc_old.nd rfl (Or.inl rfl) pe_int ip_sub)) pss_nil))))
      (pss_one (ps_ret (pv 3)))), ?_⟩
    refine ⟨_, rfl, _, rfl, _, _, rfl, rfl, _, _, rfl, ?_⟩
    refine ⟨fun m σ H' => ∃ g l : Int, σ = [some (.ref a), some (.int many), some (.int now), some (.int g), some (.int l)] ∧ H = H' ∧ Fd.oldGo ps m g l = some r, ⟨n, _, _, rfl, rfl, hg⟩, ?_⟩
    rintro m σ H1 ⟨g, l, rfl, hH, hg'⟩
    subst hH
    refine ⟨_, rfl, _, _, rfl, rfl, _, rfl, ?_⟩
    cases m with
    | zero =>
      unfold Fd.oldGo at hg'
      by_cases hl : 0 < l
      · rw [if_pos hl] at hg'; cases hg'
      · rw [if_neg hl] at hg'
        cases hg'
        exact (if_neg (by simp [hl])).mpr ⟨_, rfl, k⟩
    | succ m =>
      unfold Fd.oldGo at hg'
      by_cases hl : 0 < l
      · rw [if_pos hl] at hg'
        refine (if_pos (decide_eq_true hl)).mpr ⟨fun σ' H' => ∃ g l : Int, σ' = [some (.ref a), some (.int many), some (.int now), some (.int g), some (.int l)] ∧ H = H' ∧ Fd.oldGo ps m g l = some r, fun σ' H' z => ⟨m, Nat.lt_succ_self _, z⟩, ?_⟩
        refine ⟨_, rfl, _, _, rfl, rfl, ?_⟩
        refine ⟨_, rfl, _, rfl, a, _, rfl, .inr ht, rfl, flat_ints ps, _, rfl, ?_⟩
        show if (!inV (.int (g + 1)) (ps.map V.int)) = true then _ else _
        rw [in_ints]
        cases hp : ps.any fun y => decide (y = g + 1) with
        | true =>
          rw [hp, if_pos rfl] at hg'
          exact iteF ⟨_, _, rfl, rfl, hg'⟩
        | false =>
          rw [hp, if_neg Bool.false_ne_true] at hg'
          exact iteT ⟨_, rfl, _, _, rfl, rfl, _, _, rfl, rfl, hg'⟩
      · rw [if_neg hl] at hg'
        cases hg'
        exact (if_neg (by simp [hl])).mpr ⟨_, rfl, k⟩
end
end Fw
end
section
set_option Elab.async false
set_option linter.all false
set_option maxRecDepth 100000
set_option maxHeartbeats 4000000
/-! Fd07: with_letter, deed_of. -/
namespace Fw
open PySem PySem.Spec PyProof.Rows L2

theorem ints_take (ns : List Int) (k : Nat) : (ns.map V.int).take k = (ns.take k).map V.int := List.map_take.symm
theorem ints_drop (ns : List Int) (k : Nat) : (ns.map V.int).drop k = (ns.drop k).map V.int := List.map_drop.symm
section
variable {P : Program} {w : World} {K : PySem.W.Frag} {mg : Str → Option Value} {base : Heap}
abbrev sWith : Stmt := top 18
def spWith (K : PySem.W.Frag) : Sp := fun vs H Q _ => ∃ (a b : Addr) (ns : List Int) (d e : Fd.Dd) (l : Int), vs = [.ref a, .ref b, .int l] ∧ Tu K H a ns ∧ De K H b d ∧ 0 ≤ l ∧ Fd.withLetter ns d l = some e ∧ ∀ H' p, Same H H' → De K H' p e → Q (.ref p) H'
theorem sc_with : FnScope ["values", "told", "letter", "row", "places", "value", "old"] ["values", "told", "letter"] (defScope sWith) := ⟨rfl, rfl, rfl, by decide +kernel, rfl, by decide +kernel, by decide +kernel⟩
theorem c_with (D : Df K mg "with_letter" sWith) (T : Txt K mg) (C1 : Cal P w K mg base 1 "old_place_at" (spOld K)) : Cal P w K mg base 2 "with_letter" (spWith K) := by
  refine df_cal D sc_with (fun _ _ _ _ _ _ us hl => match us, hl with | [_, _, _], _ => rfl) (fun vs H Q E h => ?_) (fun f cdv A outer s H vs Q E hr h => ?_)
  · obtain ⟨a, b, ns, d, e, l, rfl, _⟩ := h
    rfl
  · obtain ⟨a, b, ns, d, e, l, rfl, ha, ⟨pr, pp, hb, hrow, hpl⟩, h0, he, k⟩ := h
    refine ⟨_, pss_cons (ps_asg (pv 1) (pg_tup rfl (pgs_cons (pg_name (i := 3) sc_with.nd rfl (Or.inl rfl)) (pgs_cons (pg_name (i := 4) sc_with.nd rfl (Or.inl rfl)) pgs_nil))))
      (pss_cons (ps_set (i := 5) sc_with.nd rfl (Or.inl rfl) (pe_ix ix_tup (pv 0) (pv 2) (fun _ _ => rfl)))
      (pss_cons (ps_if (pt_cmpR op_le (pv 5) (pe_callB call_len_seq (by rfl) T.len PySem.boot_len (pa_cons (pv 3) pa_nil)) (nomark _))
        (pss_one (ps_ret (pe_tp (pa_cons (pe_op op_catU (pe_op op_catU (pe_tp (pa_cons (pv 2) pa_nil)) (pe_slice sl_tupU (pv 3) po_none (po_some (pe_op op_sub (pv 5) pe_int)))) (pe_slice sl_tupU (pv 3) (po_some (pv 5)) po_none)) (pa_cons (pv 4) pa_nil))))) pss_nil)
      (pss_cons (ps_set (i := 6) sc_with.nd rfl (Or.inl rfl) (pe_f C1 hr (by decide) (by rfl) (pa_cons (pv 4) (pa_cons (pe_callB call_len_seq (by rfl) T.len PySem.boot_len (pa_cons (pv 3) pa_nil)) (pa_cons (pv 5) pa_nil)))))
      (pss_one (ps_ret (pe_tp (pa_cons (pe_op op_catU (pe_tp (pa_cons (pv 2) pa_nil)) (pv 3)) (pa_cons (pe_callTy call_tuple_of (by rfl) T.tuple (by decide +kernel) (pa_cons (pe_callB cr_sortedTu (by rfl) T.sorted (by decide +kernel)
        (pa_cons (pe_op op_catU (pv 4) (pe_tp (pa_cons (pv 6) pa_nil))) pa_nil)) pa_nil)) pa_nil))))))))
      , ?_⟩
    unfold Fd.withLetter at he
    cases hv : ns[l.toNat]? with
    | none => rw [hv] at he; cases he
    | some v =>
      rw [hv] at he
      simp only at he
      by_cases hbad : 100 < d.1.length ∨ 100 < d.2.length ∨ v < 1
      · rw [if_pos hbad] at he; cases he
      rw [if_neg hbad] at he
      have b1 : d.1.length ≤ 100 := by omega
      have b2 : d.2.length ≤ 100 := by omega
      have b3 : 1 ≤ v := by omega
      refine ⟨_, rfl, b, _, rfl, hb, rfl, _, _, rfl, _, _, rfl, rfl, ?_⟩
      refine ⟨_, rfl, _, rfl, a, _, l, .int v, rfl, rfl, ha, atI_int h0 hv, ?_⟩
      refine ⟨_, rfl, _, rfl, pr, _, rfl, .inr hrow, _, _, rfl, rfl, _, rfl, ?_⟩
      by_cases hle : v ≤ (d.1.length : Int)
      · have hle2 : v ≤ ((d.1.map V.int).length : Int) := by rw [List.length_map]; exact hle
        rw [if_pos hle] at he
        cases he
        refine (if_pos (decide_eq_true hle2)).mpr ?_
        -- (letter,) + row[:value - 1] + row[value:], places
        refine ⟨_, rfl, ?_⟩
        refine tup_ok (zs := [.int l]) (by simp) fun H1 p1 s1 e1 => ?_
        refine ⟨_, rfl, _, rfl, _, _, rfl, rfl, _, rfl, ?_⟩
        refine sl_ok (Same.sqt s1 hrow) fun H2 p2 s2 e2 => ?_
        rw [cut_to (by omega), ints_take] at e2
        refine cat_ok (Same.sqt s2 (SqT.of e1)) e2 (by simp; omega) fun H3 p3 s3 e3 => ?_
        refine ⟨_, rfl, _, rfl, _, rfl, ?_⟩
        refine sl_ok (Same.sqt s3 (Same.sqt s2 (Same.sqt s1 hrow))) fun H4 p4 s4 e4 => ?_
        rw [cut_from (by omega), ints_drop] at e4
        refine cat_ok (Same.sqt s4 e3) e4 (by simp; omega) fun H5 p5 s5 e5 => ?_
        refine ⟨_, rfl, ?_⟩
        refine tup_ok (zs := [.ref p5, .ref pp]) (by simp) fun H6 p6 s6 e6 => ?_
        have sA : Same H H5 := s1.trans (s2.trans (s3.trans (s4.trans s5)))
        refine k H6 p6 (sA.trans s6) ⟨p5, pp, SqT.of e6, ?_, Same.tu (sA.trans s6) hpl⟩
        have e7 := Same.sqt s6 e5
        unfold Tu
        have e8 : (.int l :: (d.1.take (v - 1).toNat ++ d.1.drop v.toNat).map V.int : List V) = [V.int l] ++ (d.1.take (v - 1).toNat).map V.int ++ (d.1.drop v.toNat).map V.int := by
          rw [List.map_append, List.append_assoc]
          rfl
        rw [List.map_cons, e8]
        exact e7
      · have hle2 : ¬ v ≤ ((d.1.map V.int).length : Int) := by rw [List.length_map]; exact hle
        rw [if_neg hle] at he
        refine (if_neg (by simp only [decide_eq_true_eq]; exact hle2)).mpr ?_
        cases ho : Fd.oldGo d.2 20 0 (v - (d.1.length : Int)) with
        | none => rw [ho] at he; cases he
        | some o =>
          rw [ho] at he
          cases he
          refine ⟨_, rfl, _, rfl, pr, _, rfl, .inr hrow, _, rfl, ?_⟩
          refine ⟨pp, d.2, _, _, o, 20, rfl, hpl, ?_, ?_⟩
          · rw [List.length_map]
            exact ho
          refine ⟨_, rfl, ?_⟩
          refine tup_ok (zs := [.int l]) (by simp) fun H1 p1 s1 e1 => ?_
          refine ⟨_, rfl, ?_⟩
          refine cat_ok (SqT.of e1) (Same.sqt s1 hrow) (by simp; omega) fun H2 p2 s2 e2 => ?_
          refine ⟨_, rfl, _, rfl, ?_⟩
          refine tup_ok (zs := [.int o]) (by simp) fun H3 p3 s3 e3 => ?_
          have sA : Same H H3 := s1.trans (s2.trans s3)
          refine cat_ok (Same.sqt sA hpl) (SqT.of e3) (by simp; omega) fun H4 p4 s4 e4 => ?_
          have e4' : Tu K H4 p4 (d.2 ++ [o]) := by
            unfold Tu
            rw [List.map_append]
            exact e4
          refine ⟨p4, _, rfl, e4', fun p5 n5 => ?_⟩
          refine ⟨p5, _, rfl, .inl ⟨SqL.of upd_same, fun p6 n6 => ?_⟩⟩
          have s6 : Same H4 (upd (upd H4 p5 (.lst ((Fd.isort (d.2 ++ [o])).map V.int))) p6 (.tup ((Fd.isort (d.2 ++ [o])).map V.int))) := (same_new n5).trans (same_new n6)
          refine tup_ok (zs := [.ref p2, .ref p6]) (by simp) fun H7 p7 s7 e7 => ?_
          refine k H7 p7 (sA.trans (s4.trans (s6.trans s7))) ⟨p2, p6, SqT.of e7, ?_, ?_⟩
          · exact Same.sqt (s3.trans (s4.trans (s6.trans s7))) e2
          · exact Same.sqt s7 (SqT.of upd_same)

/-! ### deed_of -/
abbrev sDeedOf : Stmt := top 19
def spDeedOf (K : PySem.W.Frag) : Sp := fun vs H Q _ => ∃ (a b : Addr) (ns us : List Int) (d : Fd.Dd), vs = [.ref a, .ref b] ∧ Tu K H a ns ∧ Tu K H b us ∧ (∀ u ∈ us, 0 ≤ u) ∧ Fd.deedOf ns us = some d ∧ ∀ H' p, Same H H' → De K H' p d → Q (.ref p) H'
theorem sc_deedOf : FnScope ["values", "word", "found", "letter"] ["values", "word"] (defScope sDeedOf) := ⟨rfl, rfl, rfl, by decide +kernel, rfl, by decide +kernel, by decide +kernel⟩
theorem c_deedOf (D : Df K mg "deed_of" sDeedOf) (T : Txt K mg) (C2 : Cal P w K mg base 2 "with_letter" (spWith K)) : Cal P w K mg base 3 "deed_of" (spDeedOf K) := by
  refine df_cal D sc_deedOf (fun _ _ _ _ _ _ us hl => match us, hl with | [_, _], _ => rfl) (fun vs H Q E h => ?_) (fun f cdv A outer s H vs Q E hr h => ?_)
  · obtain ⟨a, b, ns, us, d, rfl, _⟩ := h
    rfl
  · obtain ⟨a, b, ns, us, d, rfl, ha, hb, hpos, hd, k⟩ := h
    obtain ⟨an, hn, hN⟩ := T.noth
    refine ⟨_, pss_cons (ps_set (i := 2) sc_deedOf.nd rfl (Or.inl rfl) (pe_k (by rfl) hn)) (pss_cons (ps_for PassesOwn.never rfl (pi_tup (pv 1)) (pg_name (i := 3) sc_deedOf.nd rfl (Or.inl rfl))
      (pss_one (ps_set (i := 2) sc_deedOf.nd rfl (Or.inl rfl) (pe_f C2 hr (by decide) (by rfl) (pa_cons (pv 0) (pa_cons (pv 2) (pa_cons (pv 3) pa_nil)))))))
      (pss_one (ps_ret (pv 2)))), ?_⟩
    refine ⟨_, rfl, b, rfl, ⟨_, hb⟩, for_tup (K := K) (a := b) (xs := us.map V.int) (fun i σ H' => ∃ p e v3, σ = [some (.ref a), some (.ref b), some (.ref p), v3] ∧ Same H H' ∧ De K H' p e ∧ Fd.deedGo ns e (us.drop i) = some d)
      ⟨an, _, none, rfl, Same.refl _, hN H, hd⟩ (fun i σ H' _ z => by obtain ⟨_, _, _, _, z, _⟩ := z; exact Same.sqt z hb) ?_ ?_⟩
    · rintro i x σ H' hx ⟨p, e, v3, rfl, z, he, hg⟩
      obtain ⟨u, hu, rfl⟩ := at_int hx
      rw [List.drop_eq_getElem_cons (lt_of_get hu)] at hg
      have eu : us[i]'(lt_of_get hu) = u := by
        rw [List.getElem?_eq_getElem (lt_of_get hu)] at hu
        exact Option.some.inj hu
      rw [eu] at hg
      unfold Fd.deedGo at hg
      cases hw : Fd.withLetter ns e u with
      | none => rw [hw] at hg; cases hg
      | some e' =>
        rw [hw] at hg
        refine ⟨_, rfl, _, rfl, _, rfl, a, p, ns, e, e', u, rfl, Same.tu z ha, he, hpos u (List.mem_of_getElem? hu), hw, fun H2 p2 s2 hd2 => ?_⟩
        exact ⟨p2, e', _, rfl, z.trans s2, hd2, hg⟩
    · rintro σ H' ⟨p, e, v3, rfl, z, he, hg⟩
      rw [List.length_map, List.drop_length] at hg
      cases hg
      exact ⟨_, rfl, k H' p z he⟩
end
end Fw
end
section
set_option Elab.async false
set_option linter.all false
set_option maxRecDepth 100000
set_option maxHeartbeats 4000000
/-! Fd08: what stands in the heap while the deeds are walked. -/
namespace Fw
open PySem PySem.Spec PyProof.Rows L2

/-! ### deeds as data -/
def ddD (d : Fd.Dd) : PyData := .tuple [wdD d.1, wdD d.2]
theorem De.dp {K : PySem.W.Frag} {H : Hp} {a : Addr} {d : Fd.Dd} (h : De K H a d) : Dp K H (.ref a) (ddD d) :=
  let ⟨_, _, h1, h2, h3⟩ := h; .tup h1 (.cons h2.dp (.cons h3.dp .nil))
theorem depth_wd (u : List Int) : (wdD u).depth = 1 := by unfold wdD; rw [PyData.depth, PySem.W.depth_ints]
theorem lay_wd (u : List Int) : (wdD u).canLay0 = true := by unfold wdD; rw [PyData.canLay0, lay_ints]
theorem lay_dd (d : Fd.Dd) : (ddD d).canLay0 = true := by
  unfold ddD
  simp [PyData.canLay0, PyData.canLayAll0, lay_wd]
theorem depth_dd (d : Fd.Dd) : (ddD d).depth = 2 := by
  unfold ddD
  simp [PyData.depth, PyData.depthAll, depth_wd]
theorem lay_dds : ∀ ds : List Fd.Dd, PyData.canLayAll0 (ds.map ddD) = true
  | [] => by simp [PyData.canLayAll0]
  | d :: ds => by
    rw [List.map_cons, PyData.canLayAll0, lay_dds ds, lay_dd]
    rfl
theorem depth_dds : ∀ ds : List Fd.Dd, PyData.depthAll (ds.map ddD) ≤ 2
  | [] => by simp [PyData.depthAll]
  | d :: ds => by
    have q := depth_dds ds
    rw [List.map_cons, PyData.depthAll, depth_dd]
    omega
theorem shaped_dds (ds : List Fd.Dd) : SeqAt.shaped (.list (ds.map ddD)) = true := by
  unfold SeqAt.shaped
  rw [PyData.canLay0, lay_dds, PyData.depth]
  have q := depth_dds ds
  rw [Bool.true_and, decide_eq_true_eq]
  omega
theorem shaped_nil : SeqAt.shaped (.list []) = true := by
  unfold SeqAt.shaped
  simp [PyData.canLay0, PyData.canLayAll0, PyData.depth, PyData.depthAll]
theorem eqv_nil (d : PyData) (ds : List PyData) : PyData.eqv (.list (d :: ds)) (.list []) = false := by simp [PyData.eqv, PyData.eqvAll]
theorem eqv_nn : PyData.eqv (.list []) (.list []) = true := by simp [PyData.eqv, PyData.eqvAll]

/-! ### lists of deeds, the dict's entries -/
def Ds (K : PySem.W.Frag) (H : Hp) : List Addr → List Fd.Dd → Prop := Paired (fun r d => De K H r d)
theorem Ds.keep {K : PySem.W.Frag} {H H' : Hp} {rs : List Addr} {ds : List Fd.Dd} (h : Ds K H rs ds) (k : Keep H H') : Ds K H' rs ds := Paired.mapP h fun _ _ x => x.keep k
theorem Ds.length {K : PySem.W.Frag} {H : Hp} {rs : List Addr} {ds : List Fd.Dd} (h : Ds K H rs ds) : rs.length = ds.length := Paired.length h
theorem Ds.dp {K : PySem.W.Frag} {H : Hp} : ∀ {rs : List Addr} {ds : List Fd.Dd}, Ds K H rs ds → DpAll K H (rs.map V.ref) (ds.map ddD)
  | _, _, .nil => .nil
  | _, _, .cons h t => .cons h.dp (Ds.dp t)
theorem paired_snoc {α β : Type} {F : α → β → Prop} {a : α} {b : β} : ∀ {xs : List α} {ys : List β}, Paired F xs ys → F a b → Paired F (xs ++ [a]) (ys ++ [b])
  | _, _, .nil, f => .cons f .nil
  | _, _, .cons h t, f => .cons h (paired_snoc t f)
theorem paired_at {α β : Type} {F : α → β → Prop} : ∀ {xs : List α} {ys : List β} {i : Nat} {a : α}, Paired F xs ys → xs[i]? = some a → ∃ b, ys[i]? = some b ∧ F a b
  | _, _, _, _, .nil, e => by simp at e
  | _, _, 0, _, .cons h t, e => by
    simp at e
    subst e
    exact ⟨_, rfl, h⟩
  | _, _, i + 1, _, .cons h t, e => by
    simp at e
    obtain ⟨b, e1, f⟩ := paired_at t e
    exact ⟨b, by simpa using e1, f⟩
def FndR (K : PySem.W.Frag) (H : Hp) (e : Ent) (q : Fd.Dd × List Int) : Prop := e.1 = q.1 ∧ De K H e.2.1 e.1 ∧ Tu K H e.2.2 q.2
def Fnd (K : PySem.W.Frag) (H : Hp) : List Ent → Fd.Found → Prop := Paired (FndR K H)
theorem Fnd.keep {K : PySem.W.Frag} {H H' : Hp} {es : List Ent} {fd : Fd.Found} (h : Fnd K H es fd) (k : Keep H H') : Fnd K H' es fd := Paired.mapP h fun _ _ x => ⟨x.1, x.2.1.keep k, x.2.2.keep k⟩
theorem Fnd.length {K : PySem.W.Frag} {H : Hp} {es : List Ent} {fd : Fd.Found} (h : Fnd K H es fd) : es.length = fd.length := Paired.length h
theorem Fnd.keys {K : PySem.W.Frag} {H : Hp} : ∀ {es : List Ent} {fd : Fd.Found}, Fnd K H es fd → Keys K H es
  | _, _, .nil, _, he => nomatch he
  | _, _, .cons h t, e, he => by
    rcases List.mem_cons.mp he with rfl | he
    · exact h.2.1
    · exact Fnd.keys t e he
theorem lookE_cons (e : Ent) (es : List Ent) (d : Fd.Dd) : lookE (e :: es) d = if e.1 = d then some e.2 else lookE es d := by
  unfold lookE
  rw [List.find?_cons]
  by_cases h : e.1 = d
  · rw [if_pos h, decide_eq_true h]
    rfl
  · rw [if_neg h, decide_eq_false h]
theorem Fnd.none {K : PySem.W.Frag} {H : Hp} {d : Fd.Dd} : ∀ {es : List Ent} {fd : Fd.Found}, Fnd K H es fd → Fd.look fd d = none → lookE es d = none
  | _, _, .nil, _ => rfl
  | e :: es, q :: fd, .cons h t, n => by
    unfold Fd.look at n
    rw [lookE_cons, h.1]
    by_cases z : q.1 = d
    · rw [if_pos z] at n
      cases n
    · rw [if_neg z] at n ⊢
      exact Fnd.none t n
theorem Fnd.some {K : PySem.W.Frag} {H : Hp} {d : Fd.Dd} {wd : List Int} : ∀ {es : List Ent} {fd : Fd.Found}, Fnd K H es fd → Fd.look fd d = some wd → ∃ p c, lookE es d = some (p, c) ∧ Tu K H c wd
  | _, _, .nil, n => by cases n
  | e :: es, q :: fd, .cons h t, n => by
    unfold Fd.look at n
    rw [lookE_cons, h.1]
    by_cases z : q.1 = d
    · rw [if_pos z] at n ⊢
      cases n
      exact ⟨_, _, rfl, h.2.2⟩
    · rw [if_neg z] at n ⊢
      exact Fnd.some t n

/-! ### the walk's state -/
structure WJ (P : Program) (w : World) (K : PySem.W.Frag) (H : Hp) (fa la lt : Addr) (rs : List Addr) (ds : List Fd.Dd) (H1 : Hp) (es : List Ent) (fd : Fd.Found) (ls : List Addr) (lds : List Fd.Dd) : Prop where
  same : Same H H1
  nf : H fa = none
  nt : H lt = none
  lt_ : la ≠ lt
  fnd : H1 fa = some (NdO P w fa es)
  ents : Fnd K H1 es fd
  rim : H1 la = some (.lst (rs.map V.ref))
  ds_ : Ds K H1 rs ds
  later : H1 lt = some (.lst (ls.map V.ref))
  lds_ : Ds K H1 ls lds
section
variable {P : Program} {w : World} {K : PySem.W.Frag} {H H1 H2 : Hp} {fa la lt m c : Addr} {rs ls : List Addr} {ds lds : List Fd.Dd} {es : List Ent} {fd : Fd.Found} {d : Fd.Dd} {wd : List Int}
theorem not_rd_ext {φ : Heap → Prop} (h : H1 fa = some (.ext φ)) : ∀ xs, ¬ Rd H1 fa (.tup xs) := fun xs r => by
  rcases r with r | ⟨o, r⟩ <;> rw [h] at r <;> cases r
theorem not_rd_lst {xs : List V} (h : H1 fa = some (.lst xs)) : ∀ ys, ¬ Rd H1 fa (.tup ys) := fun ys r => by
  rcases r with r | ⟨o, r⟩ <;> rw [h] at r <;> cases r
theorem WJ.grow (j : WJ P w K H fa la lt rs ds H1 es fd ls lds) (s : Same H1 H2) : WJ P w K H fa la lt rs ds H2 es fd ls lds :=
  ⟨j.same.trans s, j.nf, j.nt, j.lt_, s _ _ j.fnd, j.ents.keep (.same s), s _ _ j.rim, j.ds_.keep (.same s), s _ _ j.later, j.lds_.keep (.same s)⟩
theorem WJ.store (j : WJ P w K H fa la lt rs ds H1 es fd ls lds) (hd : De K H1 m d) (hw : Tu K H1 c wd) : WJ P w K H fa la lt rs ds (upd H1 fa (NdO P w fa (es ++ [(d, m, c)]))) (es ++ [(d, m, c)]) (fd ++ [(d, wd)]) ls lds := by
  have k : Keep H1 (upd H1 fa (NdO P w fa (es ++ [(d, m, c)]))) := Keep.at_ (not_rd_ext j.fnd)
  have n1 : la ≠ fa := ne_of j.rim j.fnd (fun z => nomatch z)
  have n2 : lt ≠ fa := ne_of j.later j.fnd (fun z => nomatch z)
  refine ⟨fun b o e => ?_, j.nf, j.nt, j.lt_, upd_same, ?_, ?_, j.ds_.keep k, ?_, j.lds_.keep k⟩
  · rw [upd_ne (ne_of_none e j.nf)]
    exact j.same b o e
  · exact paired_snoc (j.ents.keep k) ⟨rfl, hd.keep k, hw.keep k⟩
  · rw [upd_ne n1]
    exact j.rim
  · rw [upd_ne n2]
    exact j.later
theorem WJ.append (j : WJ P w K H fa la lt rs ds H1 es fd ls lds) (hd : De K H1 m d) : WJ P w K H fa la lt rs ds (upd H1 lt (.lst (ls.map V.ref ++ [.ref m]))) es fd (ls ++ [m]) (lds ++ [d]) := by
  have k : Keep H1 (upd H1 lt (.lst (ls.map V.ref ++ [.ref m]))) := Keep.at_ (not_rd_lst j.later)
  have n2 : fa ≠ lt := ne_of j.fnd j.later (fun z => nomatch z)
  refine ⟨fun b o e => ?_, j.nf, j.nt, j.lt_, ?_, j.ents.keep k, ?_, j.ds_.keep k, ?_, paired_snoc (j.lds_.keep k) (hd.keep k)⟩
  · rw [upd_ne (ne_of_none e j.nt)]
    exact j.same b o e
  · rw [upd_ne n2]
    exact j.fnd
  · rw [upd_ne j.lt_]
    exact j.rim
  · rw [upd_same, List.map_append]
    rfl
end
theorem letters_drop {n i : Nat} (h : i < n) : (Fd.letters n).drop i = ((0 : Int) + (i : Nat)) :: (Fd.letters n).drop (i + 1) := by
  unfold Fd.letters
  rw [List.drop_eq_getElem_cons (by simpa using h)]
  simp
theorem letters_end (n : Nat) : (Fd.letters n).drop n = [] := by
  unfold Fd.letters
  exact List.drop_eq_nil_of_le (by simp)
theorem drop_at {α : Type} {xs : List α} {i : Nat} {x : α} (h : xs[i]? = some x) : xs.drop i = x :: xs.drop (i + 1) := by
  have hi := lt_of_get h
  rw [List.getElem?_eq_getElem hi] at h
  rw [List.drop_eq_getElem_cons hi, Option.some.inj h]
end Fw
end
section
set_option Elab.async false
set_option linter.all false
set_option maxRecDepth 100000
set_option maxHeartbeats 8000000
/-! Fd09: the walks over all deeds. Printed by gen09.py. -/
namespace Fw
open PySem PySem.Spec PyProof.Rows L2
section
variable {P : Program} {w : World} {K : PySem.W.Frag} {mg : Str → Option Value} {base : Heap}

abbrev sWalkTo : Stmt := top 23
def spWalkTo (P : Program) (w : World) (K : PySem.W.Frag) : Sp := fun vs H Q _ => ∃ (a : Addr) (ns : List Int) (fin : Fd.Found), vs = [.ref a, .int 3000] ∧ Tu K H a ns ∧ ns.length ≤ 5 ∧ Fd.foundOf ns = some fin ∧
  ∀ H' p es, Same H H' → H p = none → H' p = some (NdO P w p es) → Fnd K H' es fin → Q (.ref p) H'
theorem sc_WalkTo : FnScope ["values", "most", "found", "rim", "later", "told", "letter", "more"] ["values", "most"] (defScope sWalkTo) := ⟨rfl, rfl, rfl, by decide +kernel, rfl, by decide +kernel, by decide +kernel⟩
theorem c_WalkTo (D : Df K mg "walk_to" sWalkTo) (T : Txt K mg) (C2 : Cal P w K mg base 2 "with_letter" (spWith K)) : Cal P w K mg base 3 "walk_to" (spWalkTo P w K) := by
  refine df_cal D sc_WalkTo (fun _ _ _ _ _ _ us hl => match us, hl with | [_, _], _ => rfl) (fun vs H Q E h => ?_) (fun f cdv A outer s H vs Q E hr h => ?_)
  · obtain ⟨a, ns, fin, rfl, _⟩ := h
    rfl
  · obtain ⟨a, ns, fin, rfl, ha, h5, hf, k⟩ := h
    obtain ⟨an, hn, hN⟩ := T.noth
    refine ⟨_, pss_cons (ps_par (i := 2) (j := 3) rfl sc_WalkTo.nd rfl rfl (by decide) rfl rfl (pa_cons (pe_nd1 hr.units (pe_k (by rfl) hn) (pe_tp pa_nil)) (pa_cons (pe_ls (pa_cons (pe_k (by rfl) hn) pa_nil)) pa_nil)) rfl)
      (pss_cons (ps_while PassesOwn.never (pt_cmpR (op_neD hr.units) (pv 3) (pe_ls pa_nil) (nomark _))
        (pss_cons (ps_set (i := 4) sc_WalkTo.nd rfl (Or.inl rfl) (pe_ls pa_nil))
        (pss_cons (ps_for PassesOwn.never rfl (pi_list (pv 3)) (pg_name (i := 5) sc_WalkTo.nd rfl (Or.inl rfl))
          (pss_one (ps_for PassesOwn.never rfl (pi_range1 (by rfl) T.range (pa_cons (pe_callB call_len_seq (by rfl) T.len PySem.boot_len (pa_cons (pv 0) pa_nil)) pa_nil)) (pg_name (i := 6) sc_WalkTo.nd rfl (Or.inl rfl))
            (pss_cons (ps_set (i := 7) sc_WalkTo.nd rfl (Or.inl rfl) (pe_f C2 hr (by decide) (by rfl) (pa_cons (pv 0) (pa_cons (pv 5) (pa_cons (pv 6) pa_nil)))))
            (pss_one (ps_if (pt_cmpR (op_ndNot hr.units) (pv 7) (pv 2) (by with_unfolding_all rfl))
              (pss_cons (ps_asg (pe_op op_catU (pe_ix (ix_nd hr.units) (pv 2) (pv 5) (fun _ _ => rfl)) (pe_tp (pa_cons (pv 6) pa_nil))) (pg_sub (pv 2) (pv 7) (set_nd hr.units)))
              (pss_one (ps_expr (pe_bm PySem.F.plainAttrs_list PySem.F.slot_list_append PySem.F.type_list_append mt_append (pv 4) (pa_cons (pv 7) pa_nil))))) pss_nil))))))
      (pss_cons (ps_if (pt_cmpR op_gt (pe_callB call_ndLen (by rfl) T.len PySem.boot_len (pa_cons (pv 2) pa_nil)) (pv 1) (nomark _)) pss_never pss_nil)
        (pss_one (ps_set (i := 3) sc_WalkTo.nd rfl (Or.inl rfl) (pv 4)))))))
      (pss_one (ps_ret (pv 2)))), ?_⟩
    intro fa nfa
    refine tup_ok (zs := []) (by simp) fun H1 c s1 e1 => ?_
    refine ⟨s1 _ _ upd_same, an, c, _, rfl, hN _, ?_⟩
    refine lst_ok (zs := [.ref an]) (by simp) fun la nla => ?_
    refine ⟨_, _, rfl, ?_⟩
    have k0 : Same H (upd (upd H1 fa (NdO P w fa [(Fd.nothing, an, c)])) la (.lst [.ref an])) := by
      refine Same.trans (H1 := upd H1 fa (NdO P w fa [(Fd.nothing, an, c)])) (fun b o e => ?_) (same_new nla)
      rw [upd_ne (ne_of_none e nfa)]
      refine s1 b o ?_
      rw [upd_ne (ne_of_none e nfa)]
      exact e
    have kc : Keep H1 (upd (upd H1 fa (NdO P w fa [(Fd.nothing, an, c)])) la (.lst [.ref an])) := (Keep.at_ (not_rd_ext (s1 _ _ upd_same))).trans (.same (same_new nla))
    have nfl : fa ≠ la := ne_of_none upd_same nla
    have nlaH : H la = none := by
      cases q : H la with
      | none => rfl
      | some z => rw [upd_ne nfl.symm, s1 la z (by rw [upd_ne nfl.symm]; exact q)] at nla; cases nla
    have e0 : (upd (upd H1 fa (NdO P w fa [(Fd.nothing, an, c)])) la (.lst [.ref an])) fa = some (NdO P w fa [(Fd.nothing, an, c)]) := by rw [upd_ne nfl, upd_same]
    have d0 : De K (upd (upd H1 fa (NdO P w fa [(Fd.nothing, an, c)])) la (.lst [.ref an])) an Fd.nothing := hN _
    have f0 : Fnd K (upd (upd H1 fa (NdO P w fa [(Fd.nothing, an, c)])) la (.lst [.ref an])) [(Fd.nothing, an, c)] Fd.start0 := .cons ⟨rfl, d0, (show Tu K H1 c [] from SqT.of e1).keep kc⟩ .nil
    have r0 : (upd (upd H1 fa (NdO P w fa [(Fd.nothing, an, c)])) la (.lst [.ref an])) la = some (.lst ([an].map V.ref)) := upd_same
    refine ⟨fun m σ H' => ∃ (la : Addr) (rs : List Addr) (ds : List Fd.Dd) (es : List Ent) (fd : Fd.Found) (v1 v2 v3 v4 : Option V), σ = [some (.ref a), some (.int 3000), some (.ref fa), some (.ref la), v1, v2, v3, v4] ∧ Same H H' ∧ H' fa = some (NdO P w fa es) ∧ Fnd K H' es fd ∧ H la = none ∧ H' la = some (.lst (rs.map V.ref)) ∧ Ds K H' rs ds ∧ Fd.walkN (Fd.withLetter ns) ns.length m fd ds = some fin,
      ⟨12, la, [an], [Fd.nothing], _, _, none, none, none, none, rfl, k0, e0, f0, nlaH, r0, .cons d0 .nil, hf⟩, ?_⟩
    rintro m σ H2 ⟨la, rs, ds, es, fd, v1, v2, v3, v4, rfl, s2, hfa, hes, nla2, hla, hds, hw⟩
    refine ⟨_, rfl, ?_⟩
    refine lst_ok (zs := []) (by simp) fun le nle => ?_
    have s3 := same_new (o := .lst []) nle
    refine ⟨_, _, .lst (SqL.of (s3 _ _ hla)) (Ds.dp (hds.keep (.same s3))), .lst (SqL.of upd_same) .nil, shaped_dds _, shaped_nil, _, rfl, ?_⟩
    cases ds with
    | nil =>
      cases hds
      rw [List.map_nil, eqv_nn]
      refine iteF ⟨_, rfl, ?_⟩
      have hw' : some fd = some fin := by
        cases m <;> exact hw
      cases hw'
      exact k _ fa es (s2.trans s3) nfa (s3 _ _ hfa) (hes.keep (.same s3))
    | cons d1 ds =>
      rw [List.map_cons, eqv_nil]
      refine iteT ?_
      cases m with
      | zero => cases hw
      | succ m =>
        unfold Fd.walkN at hw
        cases hl : Fd.levelL (Fd.withLetter ns) ns.length (d1 :: ds) (fd, []) with
        | none => rw [hl] at hw; cases hw
        | some st' =>
          rw [hl] at hw
          simp only at hw
          by_cases h3 : 3000 < st'.1.length
          · rw [if_pos h3] at hw; cases hw
          rw [if_neg h3] at hw
          refine ⟨fun σ' H' => ∃ (la : Addr) (rs : List Addr) (ds : List Fd.Dd) (es : List Ent) (fd : Fd.Found) (v1 v2 v3 v4 : Option V), σ' = [some (.ref a), some (.int 3000), some (.ref fa), some (.ref la), v1, v2, v3, v4] ∧ Same H H' ∧ H' fa = some (NdO P w fa es) ∧ Fnd K H' es fd ∧ H la = none ∧ H' la = some (.lst (rs.map V.ref)) ∧ Ds K H' rs ds ∧ Fd.walkN (Fd.withLetter ns) ns.length m fd ds = some fin,
            fun σ' H' z => ⟨m, Nat.lt_succ_self _, z⟩, ?_⟩
          refine lst_ok (zs := []) (by simp) fun lt nlt => ?_
          have s4 := same_new (o := .lst []) nlt
          have nltH : H lt = none := (s2.trans s3).free nlt
          have j0 : WJ P w K H fa la lt rs (d1 :: ds) (upd (upd H2 le (.lst [])) lt (.lst [])) es fd [] [] :=
            ⟨(s2.trans s3).trans s4, nfa, nltH, ne_of_none (s3 _ _ hla) nlt, s4 _ _ (s3 _ _ hfa), hes.keep (.same (s3.trans s4)), s4 _ _ (s3 _ _ hla), hds.keep (.same (s3.trans s4)), upd_same, .nil⟩
          refine ⟨_, rfl, la, rfl, ⟨_, SqL.of j0.rim⟩, for_list (K := K) (a := la) (xs := rs.map V.ref) (fun i σ' H' => ∃ (es : List Ent) (fd : Fd.Found) (ls : List Addr) (lds : List Fd.Dd) (v2 v3 v4 : Option V), σ' = [some (.ref a), some (.int 3000), some (.ref fa), some (.ref la), some (.ref lt), v2, v3, v4] ∧ WJ P w K H fa la lt rs (d1 :: ds) H' es fd ls lds ∧ Fd.levelL (Fd.withLetter ns) ns.length ((d1 :: ds).drop i) (fd, lds) = some st')
            ⟨es, fd, [], [], v2, v3, v4, rfl, j0, hl⟩ (fun i σ' H' _ z => by obtain ⟨_, _, _, _, _, _, _, _, z, _⟩ := z; exact SqL.of z.rim) ?_ ?_⟩
          · rintro i x σ' H' hx ⟨es1, fd1, ls1, lds1, u2, u3, u4, rfl, j1, hl1⟩
            obtain ⟨r1, hr1, rfl⟩ : ∃ r, rs[i]? = some r ∧ x = V.ref r := by
              rw [List.getElem?_map] at hx
              cases e : rs[i]? with
              | none => rw [e] at hx; cases hx
              | some r => rw [e] at hx; exact ⟨r, rfl, (Option.some.inj hx).symm⟩
            obtain ⟨dt, hdt, hDe⟩ := paired_at j1.ds_ hr1
            rw [drop_at hdt] at hl1
            unfold Fd.levelL at hl1
            cases hi : Fd.innerL (Fd.withLetter ns) dt (Fd.letters ns.length) (fd1, lds1) with
            | none => rw [hi] at hl1; cases hl1
            | some st2 =>
              rw [hi] at hl1
              refine ⟨_, rfl, a, _, rfl, .inr (Same.tu j1.same ha), _, rfl, ?_, ?_, for_range (lo := 0) (n := (ns.map V.int).length) (fun i' σ2 H'' => ∃ (es : List Ent) (fd : Fd.Found) (ls : List Addr) (lds : List Fd.Dd) (v3 v4 : Option V), σ2 = [some (.ref a), some (.int 3000), some (.ref fa), some (.ref la), some (.ref lt), some (.ref r1), v3, v4] ∧ WJ P w K H fa la lt rs (d1 :: ds) H'' es fd ls lds ∧ De K H'' r1 dt ∧ Fd.innerL (Fd.withLetter ns) dt ((Fd.letters ns.length).drop i') (fd, lds) = some st2)
                ⟨es1, fd1, ls1, lds1, u3, u4, rfl, j1, hDe, hi⟩ ?_ ?_⟩
              · show -(2 ^ 62) ≤ (((ns.map V.int).length : Nat) : Int)
                omega
              · show (((ns.map V.int).length : Nat) : Int) < 2 ^ 62
                rw [List.length_map]
                omega
              · rintro i' σ2 H'' hi' ⟨es2, fd2, ls2, lds2, w3, w4, rfl, j2, hDe2, hin⟩
                rw [List.length_map] at hi'
                rw [letters_drop hi'] at hin
                unfold Fd.innerL at hin
                cases hst : Fd.stepL (Fd.withLetter ns) dt (fd2, lds2) ((0 : Int) + (i' : Nat)) with
                | none => rw [hst] at hin; cases hin
                | some st3 =>
                  rw [hst] at hin
                  unfold Fd.stepL at hst
                  by_cases hbig : 3000 ≤ (fd2, lds2).1.length ∨ 3000 ≤ (fd2, lds2).2.length
                  · rw [if_pos hbig] at hst; cases hst
                  rw [if_neg hbig] at hst
                  cases hnx : Fd.withLetter ns dt ((0 : Int) + (i' : Nat)) with
                  | none => rw [hnx] at hst; cases hst
                  | some e =>
                    rw [hnx] at hst
                    simp only at hst
                    refine ⟨_, rfl, _, rfl, _, rfl, a, r1, ns, dt, e, _, rfl, Same.tu j2.same ha, hDe2, by omega, hnx, fun H3 m s5 hm => ?_⟩
                    have j3 := j2.grow s5
                    refine ⟨_, rfl, _, rfl, fa, m, e, es2, rfl, rfl, .inl j3.fnd, j3.ents.keys, hm, _, rfl, ?_⟩
                    cases hlk : Fd.look fd2 e with
                    | some wd =>
                      rw [hlk] at hst
                      cases hst
                      obtain ⟨p', c', hE, _⟩ := j3.ents.some hlk
                      rw [hE]
                      exact iteF ⟨es2, fd2, ls2, lds2, _, _, rfl, j3, hDe2.keep (.same s5), hin⟩
                    | none =>
                      rw [hlk] at hst
                      simp only at hst
                      cases hlt : Fd.look fd2 dt with
                      | none => rw [hlt] at hst; cases hst
                      | some wd =>
                        rw [hlt] at hst
                        simp only at hst
                        by_cases h100 : 100 < wd.length
                        · rw [if_pos h100] at hst; cases hst
                        rw [if_neg h100] at hst
                        cases hst
                        have hEn := j3.ents.none hlk
                        obtain ⟨p', c', hE, hTu⟩ := j3.ents.some hlt
                        rw [hEn]
                        refine iteT ?_
                        refine ⟨_, rfl, _, rfl, fa, r1, dt, es2, p', c', rfl, rfl, .inl j3.fnd, j3.ents.keys, hDe2.keep (.same s5), hE, ?_⟩
                        refine ⟨_, rfl, ?_⟩
                        refine tup_ok (zs := [.int ((0 : Int) + (i' : Nat))]) (by simp) fun H4 p4 s6 e4 => ?_
                        refine cat_ok (Same.tu s6 hTu) (SqT.of e4) (by simp; omega) fun H5 p5 s7 e5 => ?_
                        have j4 := (j3.grow s6).grow s7
                        have e5' : Tu K H5 p5 (wd ++ [(0 : Int) + (i' : Nat)]) := by
                          unfold Tu
                          rw [List.map_append]
                          exact e5
                        have hm' : De K H5 m e := hm.keep (.same (s6.trans s7))
                        refine ⟨_, rfl, _, rfl, fa, m, e, es2, p5, rfl, rfl, rfl, j4.fnd, j4.ents.keys, hm', hEn, ?_, ?_⟩
                        · rw [j4.ents.length]
                          refine small ?_
                          have z : ¬ 3000 ≤ fd2.length := fun q => hbig (.inl q)
                          omega
                        have j5 := j4.store hm' e5'
                        have kk : Keep H5 (upd H5 fa (NdO P w fa (es2 ++ [(e, m, p5)]))) := Keep.at_ (not_rd_ext j4.fnd)
                        refine ⟨_, rfl, .inl ⟨rfl, _, SqL.of j5.later⟩, _, rfl, lt, _, _, rfl, rfl, j5.later, ?_, ?_⟩
                        · rw [List.length_map, j5.lds_.length]
                          refine small ?_
                          have z : ¬ 3000 ≤ lds2.length := fun q => hbig (.inr q)
                          omega
                        have kk2 : Keep (upd H5 fa (NdO P w fa (es2 ++ [(e, m, p5)]))) (upd (upd H5 fa (NdO P w fa (es2 ++ [(e, m, p5)]))) lt (.lst (ls2.map V.ref ++ [.ref m]))) := Keep.at_ (not_rd_lst j5.later)
                        exact ⟨_, _, ls2 ++ [m], lds2 ++ [e], _, _, rfl, j5.append (hm'.keep kk), hDe2.keep ((Keep.same (s5.trans (s6.trans s7))).trans (kk.trans kk2)), hin⟩
              · rintro σ2 H'' ⟨es2, fd2, ls2, lds2, w3, w4, rfl, j2, _, hin⟩
                rw [List.length_map, letters_end] at hin
                have hin' : some (fd2, lds2) = some st2 := hin
                cases hin'
                exact ⟨es2, fd2, ls2, lds2, _, _, _, rfl, j2, hl1⟩
          · rintro σ' H' ⟨es1, fd1, ls1, lds1, u2, u3, u4, rfl, j1, hl1⟩
            have hlen : (rs.map V.ref).length = (d1 :: ds).length := by rw [List.length_map]; exact j1.ds_.length
            rw [hlen, List.drop_length] at hl1
            have hl1' : some (fd1, lds1) = some st' := hl1
            cases hl1'
            refine ⟨_, rfl, fa, es1, rfl, .inl j1.fnd, j1.ents.keys, _, rfl, _, _, rfl, rfl, _, rfl, ?_⟩
            have h3' : ¬ 3000 < fd1.length := h3
            refine (if_neg (by rw [decide_eq_true_eq, j1.ents.length]; omega)).mpr ?_
            exact ⟨_, rfl, lt, ls1, lds1, es1, fd1, _, _, _, _, rfl, j1.same, j1.fnd, j1.ents, nltH, j1.later, j1.lds_, hw⟩

/-! ### the law's own step -/
abbrev sNext : Stmt := top 32
def spNext (K : PySem.W.Frag) : Sp := fun vs H Q _ => ∃ (a b : Addr) (ns : List Int) (d e : Fd.Dd) (l : Int), vs = [.ref a, .ref b, .int l] ∧ Tu K H a ns ∧ De K H b d ∧ 0 ≤ l ∧ Fd.lawNext ns d l = some e ∧ ∀ H' p, Same H H' → De K H' p e → Q (.ref p) H'
theorem sc_next : FnScope ["_law_values_here", "_law_told", "_law_letter", "_law_row", "_law_places", "_law_value", "_law_olds", "_law_place"] ["_law_values_here", "_law_told", "_law_letter"] (defScope sNext) := ⟨rfl, rfl, rfl, by decide +kernel, rfl, by decide +kernel, by decide +kernel⟩
theorem c_next (D : Df K mg "_law_next" sNext) (T : Txt K mg) : Cal P w K mg base 1 "_law_next" (spNext K) := by
  refine df_cal D sc_next (fun _ _ _ _ _ _ us hl => match us, hl with | [_, _, _], _ => rfl) (fun vs H Q E h => ?_) (fun f cdv A outer s H vs Q E hr h => ?_)
  · obtain ⟨a, b, ns, d, e, l, rfl, _⟩ := h
    rfl
  · obtain ⟨a, b, ns, d, e, l, rfl, ha, ⟨pr, pp, hb, hrow, hpl⟩, h0, he, k⟩ := h
    refine ⟨_, pss_cons (ps_asg (pv 1) (pg_tup rfl (pgs_cons (pg_name (i := 3) sc_next.nd rfl (Or.inl rfl)) (pgs_cons (pg_name (i := 4) sc_next.nd rfl (Or.inr rfl)) pgs_nil))))
      (pss_cons (ps_set (i := 5) sc_next.nd rfl (Or.inl rfl) (pe_ix ix_tup (pv 0) (pv 2) (fun _ _ => rfl)))
      (pss_cons (ps_if (pt_cmpR op_le (pv 5) (pe_callB call_len_seq (by rfl) T.len PySem.boot_len (pa_cons (pv 3) pa_nil)) (nomark _))
        (pss_one (ps_ret (pe_tp (pa_cons (pe_op op_catU (pe_op op_catU (pe_tp (pa_cons (pv 2) pa_nil)) (pe_slice sl_tupU (pv 3) po_none (po_some (pe_op op_sub (pv 5) pe_int)))) (pe_slice sl_tupU (pv 3) (po_some (pv 5)) po_none)) (pa_cons (pv 4) pa_nil))))) pss_nil)
      (pss_cons (ps_setLc (i := 6) (own := [("_law_place", 7)]) (g := gName 7) (by rfl) sc_next.nd rfl rfl (sw_true rfl rfl rfl (by decide +kernel)) (pi_range2 (by rfl) T.range (pa_cons pe_int (pa_cons pe_int pa_nil)))
        (blkOk_by (own := [("_law_place", 7)]) (N := ["_law_values_here", "_law_told", "_law_letter", "_law_row", "_law_places", "_law_value", "_law_olds", "_law_place"]) (sc := defScope sNext) (by decide +kernel)) (fun _ _ _ _ _ => pg_name (i := 7) sc_next.nd rfl (Or.inl rfl))
        (fun _ _ _ _ _ => pts_one (pt_cmpR (r := rIn K true) op_notIn_seq (pv 7) (pv 4) (by with_unfolding_all rfl))) (fun _ _ _ _ _ => pv 7))
      (pss_one (ps_ret (pe_tp (pa_cons (pe_op op_catU (pe_tp (pa_cons (pv 2) pa_nil)) (pv 3)) (pa_cons (pe_callTy call_tuple_of (by rfl) T.tuple (by decide +kernel) (pa_cons (pe_callB cr_sortedTu (by rfl) T.sorted (by decide +kernel)
        (pa_cons (pe_op op_catU (pv 4) (pe_tp (pa_cons (pe_ix ix_list (pv 6) (pe_op op_sub (pe_op op_sub (pv 5) (pe_callB call_len_seq (by rfl) T.len PySem.boot_len (pa_cons (pv 3) pa_nil))) pe_int) (fun _ _ => rfl)) pa_nil))) pa_nil)) pa_nil)) pa_nil))))))))
      , ?_⟩
    unfold Fd.lawNext at he
    cases hv : ns[l.toNat]? with
    | none => rw [hv] at he; cases he
    | some v =>
      rw [hv] at he
      simp only at he
      by_cases hbad : 100 < d.1.length ∨ 100 < d.2.length ∨ v < 1
      · rw [if_pos hbad] at he; cases he
      rw [if_neg hbad] at he
      have b1 : d.1.length ≤ 100 := by omega
      have b2 : d.2.length ≤ 100 := by omega
      have b3 : 1 ≤ v := by omega
      refine ⟨_, rfl, b, _, rfl, hb, rfl, _, _, rfl, _, _, rfl, rfl, ?_⟩
      refine ⟨_, rfl, _, rfl, a, _, l, .int v, rfl, rfl, ha, atI_int h0 hv, ?_⟩
      refine ⟨_, rfl, _, rfl, pr, _, rfl, .inr hrow, _, _, rfl, rfl, _, rfl, ?_⟩
      by_cases hle : v ≤ (d.1.length : Int)
      · have hle2 : v ≤ ((d.1.map V.int).length : Int) := by rw [List.length_map]; exact hle
        rw [if_pos hle] at he
        cases he
        refine (if_pos (decide_eq_true hle2)).mpr ?_
        refine ⟨_, rfl, ?_⟩
        refine tup_ok (zs := [.int l]) (by simp) fun H1 p1 s1 e1 => ?_
        refine ⟨_, rfl, _, rfl, _, _, rfl, rfl, _, rfl, ?_⟩
        refine sl_ok (Same.sqt s1 hrow) fun H2 p2 s2 e2 => ?_
        rw [cut_to (by omega), ints_take] at e2
        refine cat_ok (Same.sqt s2 (SqT.of e1)) e2 (by simp; omega) fun H3 p3 s3 e3 => ?_
        refine ⟨_, rfl, _, rfl, _, rfl, ?_⟩
        refine sl_ok (Same.sqt s3 (Same.sqt s2 (Same.sqt s1 hrow))) fun H4 p4 s4 e4 => ?_
        rw [cut_from (by omega), ints_drop] at e4
        refine cat_ok (Same.sqt s4 e3) e4 (by simp; omega) fun H5 p5 s5 e5 => ?_
        refine ⟨_, rfl, ?_⟩
        refine tup_ok (zs := [.ref p5, .ref pp]) (by simp) fun H6 p6 s6 e6 => ?_
        have sA : Same H H5 := s1.trans (s2.trans (s3.trans (s4.trans s5)))
        refine k H6 p6 (sA.trans s6) ⟨p5, pp, SqT.of e6, ?_, Same.tu (sA.trans s6) hpl⟩
        have e7 := Same.sqt s6 e5
        unfold Tu
        have e8 : (.int l :: (d.1.take (v - 1).toNat ++ d.1.drop v.toNat).map V.int : List V) = [V.int l] ++ (d.1.take (v - 1).toNat).map V.int ++ (d.1.drop v.toNat).map V.int := by
          rw [List.map_append, List.append_assoc]
          rfl
        rw [List.map_cons, e8]
        exact e7
      · have hle2 : ¬ v ≤ ((d.1.map V.int).length : Int) := by rw [List.length_map]; exact hle
        rw [if_neg hle] at he
        refine (if_neg (by simp only [decide_eq_true_eq]; exact hle2)).mpr ?_
        cases ho : (Fd.olds13 d.2)[(v - (d.1.length : Int) - 1).toNat]? with
        | none => rw [ho] at he; cases he
        | some o =>
          rw [ho] at he
          cases he
          refine ⟨1, 14, rfl, by decide, fun LD nLD => ?_⟩
          refine lc_range (lo := 1) (n := 13) (fun i H' => Same H H' ∧ H' LD = some (.lst ((((List.range i).map fun i => (1 : Int) + (i : Nat)).filter fun k => !(d.2.any fun y => decide (y = k))).map V.int))) ⟨same_new nLD, upd_same⟩ ?_ ?_
          · rintro i H' hi ⟨z1, z2⟩
            refine ⟨rfl, ?_⟩
            refine ⟨_, rfl, _, rfl, pp, _, rfl, .inr (Same.sqt z1 hpl), rfl, flat_ints _, _, rfl, ?_⟩
            show if (!inV (.int (1 + (i : Nat))) (d.2.map V.int)) = true then _ else _
            rw [in_ints, List.range_succ, List.map_append, List.filter_append]
            cases hc : d.2.any fun y => decide (y = 1 + ((i : Nat) : Int)) with
            | true =>
              refine iteF ⟨z1, ?_⟩
              rw [z2]
              simp [hc]
            | false =>
              refine iteT ?_
              refine ⟨_, rfl, _, z2, ?_, ?_, ?_⟩
              · rw [List.length_map]
                refine small (Nat.le_trans (List.length_filter_le _ _) ?_)
                rw [List.length_map, List.length_range]
                omega
              · intro c u ec
                rw [upd_ne (ne_of_none ec nLD)]
                exact z1 c u ec
              · rw [upd_same]
                simp [hc]
          · rintro H0 ⟨z1, z2⟩
            have e0 : H0 LD = some (.lst ((Fd.olds13 d.2).map V.int)) := z2
            refine ⟨_, rfl, ?_⟩
            refine tup_ok (zs := [.int l]) (by simp) fun H1 p1 s1 e1 => ?_
            refine ⟨_, rfl, ?_⟩
            refine cat_ok (SqT.of e1) (Same.sqt (z1.trans s1) hrow) (by simp; omega) fun H2 p2 s2 e2 => ?_
            refine ⟨_, rfl, _, rfl, _, rfl, _, rfl, pr, _, rfl, .inr (Same.sqt (z1.trans (s1.trans s2)) hrow), _, _, rfl, rfl, _, _, rfl, rfl, LD, _, _, .int o, rfl, rfl, SqL.of (s2 _ _ (s1 _ _ e0)), ?_, ?_⟩
            · rw [List.length_map]
              exact atI_int (by omega) ho
            refine tup_ok (zs := [.int o]) (by simp) fun H3 p3 s3 e3 => ?_
            have sA : Same H H3 := z1.trans (s1.trans (s2.trans s3))
            refine cat_ok (Same.sqt sA hpl) (SqT.of e3) (by simp; omega) fun H4 p4 s4 e4 => ?_
            have e4' : Tu K H4 p4 (d.2 ++ [o]) := by
              unfold Tu
              rw [List.map_append]
              exact e4
            refine ⟨p4, _, rfl, e4', fun p5 n5 => ?_⟩
            refine ⟨p5, _, rfl, .inl ⟨SqL.of upd_same, fun p6 n6 => ?_⟩⟩
            have s6 : Same H4 (upd (upd H4 p5 (.lst ((Fd.isort (d.2 ++ [o])).map V.int))) p6 (.tup ((Fd.isort (d.2 ++ [o])).map V.int))) := (same_new n5).trans (same_new n6)
            refine tup_ok (zs := [.ref p2, .ref p6]) (by simp) fun H7 p7 s7 e7 => ?_
            refine k H7 p7 (sA.trans (s4.trans (s6.trans s7))) ⟨p2, p6, SqT.of e7, ?_, ?_⟩
            · exact Same.sqt (s3.trans (s4.trans (s6.trans s7))) e2
            · exact Same.sqt s7 (SqT.of upd_same)

abbrev sLawWalk : Stmt := top 33
def spLawWalk (P : Program) (w : World) (K : PySem.W.Frag) : Sp := fun vs H Q _ => ∃ (a : Addr) (ns : List Int) (fin : Fd.Found), vs = [.ref a] ∧ Tu K H a ns ∧ ns.length ≤ 5 ∧ Fd.foundLaw ns = some fin ∧
  ∀ H' p es, Same H H' → H p = none → H' p = some (NdO P w p es) → Fnd K H' es fin → Q (.ref p) H'
theorem sc_LawWalk : FnScope ["_law_values_here", "_law_found", "_law_rim", "_law_later", "_law_told", "_law_letter", "_law_more"] ["_law_values_here"] (defScope sLawWalk) := ⟨rfl, rfl, rfl, by decide +kernel, rfl, by decide +kernel, by decide +kernel⟩
theorem c_LawWalk (D : Df K mg "_law_walk" sLawWalk) (T : Txt K mg) (C2 : Cal P w K mg base 1 "_law_next" (spNext K)) : Cal P w K mg base 2 "_law_walk" (spLawWalk P w K) := by
  refine df_cal D sc_LawWalk (fun _ _ _ _ _ _ us hl => match us, hl with | [_], _ => rfl) (fun vs H Q E h => ?_) (fun f cdv A outer s H vs Q E hr h => ?_)
  · obtain ⟨a, ns, fin, rfl, _⟩ := h
    rfl
  · obtain ⟨a, ns, fin, rfl, ha, h5, hf, k⟩ := h
    refine ⟨_, pss_cons (ps_par (i := 1) (j := 2) rfl sc_LawWalk.nd rfl rfl (by decide) rfl rfl (pa_cons (pe_nd1 hr.units (pe_tp (pa_cons (pe_tp pa_nil) (pa_cons (pe_tp pa_nil) pa_nil))) (pe_tp pa_nil)) (pa_cons (pe_ls (pa_cons (pe_tp (pa_cons (pe_tp pa_nil) (pa_cons (pe_tp pa_nil) pa_nil))) pa_nil)) pa_nil)) rfl)
      (pss_cons (ps_while PassesOwn.never (pt_cmpR (op_neD hr.units) (pv 2) (pe_ls pa_nil) (nomark _))
        (pss_cons (ps_set (i := 3) sc_LawWalk.nd rfl (Or.inl rfl) (pe_ls pa_nil))
        (pss_cons (ps_for PassesOwn.never rfl (pi_list (pv 2)) (pg_name (i := 4) sc_LawWalk.nd rfl (Or.inl rfl))
          (pss_one (ps_for PassesOwn.never rfl (pi_range1 (by rfl) T.range (pa_cons (pe_callB call_len_seq (by rfl) T.len PySem.boot_len (pa_cons (pv 0) pa_nil)) pa_nil)) (pg_name (i := 5) sc_LawWalk.nd rfl (Or.inl rfl))
            (pss_cons (ps_set (i := 6) sc_LawWalk.nd rfl (Or.inl rfl) (pe_f C2 hr (by decide) (by rfl) (pa_cons (pv 0) (pa_cons (pv 4) (pa_cons (pv 5) pa_nil)))))
            (pss_one (ps_if (pt_cmpR (op_ndNot hr.units) (pv 6) (pv 1) (by with_unfolding_all rfl))
              (pss_cons (ps_asg (pe_op op_catU (pe_ix (ix_nd hr.units) (pv 1) (pv 4) (fun _ _ => rfl)) (pe_tp (pa_cons (pv 5) pa_nil))) (pg_sub (pv 1) (pv 6) (set_nd hr.units)))
              (pss_one (ps_expr (pe_bm PySem.F.plainAttrs_list PySem.F.slot_list_append PySem.F.type_list_append mt_append (pv 3) (pa_cons (pv 6) pa_nil))))) pss_nil))))))
        (pss_one (ps_set (i := 2) sc_LawWalk.nd rfl (Or.inl rfl) (pv 3))))))
      (pss_one (ps_ret (pv 1)))), ?_⟩
    intro fa nfa
    refine tup_ok (zs := []) (by simp) fun G1 p1 t1 u1 => ?_
    refine tup_ok (zs := []) (by simp) fun G2 p2 t2 u2 => ?_
    refine tup_ok (zs := [.ref p1, .ref p2]) (by simp) fun G3 an t3 u3 => ?_
    refine tup_ok (zs := []) (by simp) fun H1 c t4 e1 => ?_
    have s1 : Same (upd H fa (NdO P w fa [])) H1 := t1.trans (t2.trans (t3.trans t4))
    have dN : De K H1 an Fd.nothing := ⟨p1, p2, Same.sqt t4 (SqT.of u3), Same.sqt (t2.trans (t3.trans t4)) (SqT.of u1), Same.sqt (t3.trans t4) (SqT.of u2)⟩
    refine ⟨s1 _ _ upd_same, an, c, _, rfl, dN, ?_⟩
    refine tup_ok (zs := []) (by simp) fun G5 q1 t5 u5 => ?_
    refine tup_ok (zs := []) (by simp) fun G6 q2 t6 u6 => ?_
    refine tup_ok (zs := [.ref q1, .ref q2]) (by simp) fun G7 bn t7 u7 => ?_
    refine lst_ok (zs := [.ref bn]) (by simp) fun la nla => ?_
    refine ⟨_, _, rfl, ?_⟩
    have t8 : Same (upd H1 fa (NdO P w fa [(Fd.nothing, an, c)])) G7 := t5.trans (t6.trans t7)
    have k0 : Same H (upd G7 la (.lst [.ref bn])) := by
      refine Same.trans (H1 := G7) (Same.trans (H1 := upd H1 fa (NdO P w fa [(Fd.nothing, an, c)])) (fun b o e => ?_) t8) (same_new nla)
      rw [upd_ne (ne_of_none e nfa)]
      refine s1 b o ?_
      rw [upd_ne (ne_of_none e nfa)]
      exact e
    have kc : Keep H1 (upd G7 la (.lst [.ref bn])) := (Keep.at_ (not_rd_ext (s1 _ _ upd_same))).trans ((Keep.same t8).trans (.same (same_new nla)))
    have fa7 : G7 fa = some (NdO P w fa [(Fd.nothing, an, c)]) := t8 _ _ upd_same
    have nfl : fa ≠ la := ne_of_none fa7 nla
    have nlaH : H la = none := by
      cases q : H la with
      | none => rfl
      | some z =>
        have z1 : H1 la = some z := s1 la z (by rw [upd_ne nfl.symm]; exact q)
        rw [t8 la z (by rw [upd_ne nfl.symm]; exact z1)] at nla
        cases nla
    have e0 : (upd G7 la (.lst [.ref bn])) fa = some (NdO P w fa [(Fd.nothing, an, c)]) := by rw [upd_ne nfl]; exact fa7
    have d0 : De K (upd G7 la (.lst [.ref bn])) bn Fd.nothing := De.keep (H := G7) ⟨q1, q2, SqT.of u7, Same.sqt (t6.trans t7) (SqT.of u5), Same.sqt t7 (SqT.of u6)⟩ (.same (same_new nla))
    have f0 : Fnd K (upd G7 la (.lst [.ref bn])) [(Fd.nothing, an, c)] Fd.start0 := .cons ⟨rfl, dN.keep kc, (show Tu K H1 c [] from SqT.of e1).keep kc⟩ .nil
    have r0 : (upd G7 la (.lst [.ref bn])) la = some (.lst ([bn].map V.ref)) := upd_same
    refine ⟨fun m σ H' => ∃ (la : Addr) (rs : List Addr) (ds : List Fd.Dd) (es : List Ent) (fd : Fd.Found) (v1 v2 v3 v4 : Option V), σ = [some (.ref a), some (.ref fa), some (.ref la), v1, v2, v3, v4] ∧ Same H H' ∧ H' fa = some (NdO P w fa es) ∧ Fnd K H' es fd ∧ H la = none ∧ H' la = some (.lst (rs.map V.ref)) ∧ Ds K H' rs ds ∧ Fd.walkN (Fd.lawNext ns) ns.length m fd ds = some fin,
      ⟨12, la, [bn], [Fd.nothing], _, _, none, none, none, none, rfl, k0, e0, f0, nlaH, r0, .cons d0 .nil, hf⟩, ?_⟩
    rintro m σ H2 ⟨la, rs, ds, es, fd, v1, v2, v3, v4, rfl, s2, hfa, hes, nla2, hla, hds, hw⟩
    refine ⟨_, rfl, ?_⟩
    refine lst_ok (zs := []) (by simp) fun le nle => ?_
    have s3 := same_new (o := .lst []) nle
    refine ⟨_, _, .lst (SqL.of (s3 _ _ hla)) (Ds.dp (hds.keep (.same s3))), .lst (SqL.of upd_same) .nil, shaped_dds _, shaped_nil, _, rfl, ?_⟩
    cases ds with
    | nil =>
      cases hds
      rw [List.map_nil, eqv_nn]
      refine iteF ⟨_, rfl, ?_⟩
      have hw' : some fd = some fin := by
        cases m <;> exact hw
      cases hw'
      exact k _ fa es (s2.trans s3) nfa (s3 _ _ hfa) (hes.keep (.same s3))
    | cons d1 ds =>
      rw [List.map_cons, eqv_nil]
      refine iteT ?_
      cases m with
      | zero => cases hw
      | succ m =>
        unfold Fd.walkN at hw
        cases hl : Fd.levelL (Fd.lawNext ns) ns.length (d1 :: ds) (fd, []) with
        | none => rw [hl] at hw; cases hw
        | some st' =>
          rw [hl] at hw
          simp only at hw
          by_cases h3 : 3000 < st'.1.length
          · rw [if_pos h3] at hw; cases hw
          rw [if_neg h3] at hw
          refine ⟨fun σ' H' => ∃ (la : Addr) (rs : List Addr) (ds : List Fd.Dd) (es : List Ent) (fd : Fd.Found) (v1 v2 v3 v4 : Option V), σ' = [some (.ref a), some (.ref fa), some (.ref la), v1, v2, v3, v4] ∧ Same H H' ∧ H' fa = some (NdO P w fa es) ∧ Fnd K H' es fd ∧ H la = none ∧ H' la = some (.lst (rs.map V.ref)) ∧ Ds K H' rs ds ∧ Fd.walkN (Fd.lawNext ns) ns.length m fd ds = some fin,
            fun σ' H' z => ⟨m, Nat.lt_succ_self _, z⟩, ?_⟩
          refine lst_ok (zs := []) (by simp) fun lt nlt => ?_
          have s4 := same_new (o := .lst []) nlt
          have nltH : H lt = none := (s2.trans s3).free nlt
          have j0 : WJ P w K H fa la lt rs (d1 :: ds) (upd (upd H2 le (.lst [])) lt (.lst [])) es fd [] [] :=
            ⟨(s2.trans s3).trans s4, nfa, nltH, ne_of_none (s3 _ _ hla) nlt, s4 _ _ (s3 _ _ hfa), hes.keep (.same (s3.trans s4)), s4 _ _ (s3 _ _ hla), hds.keep (.same (s3.trans s4)), upd_same, .nil⟩
          refine ⟨_, rfl, la, rfl, ⟨_, SqL.of j0.rim⟩, for_list (K := K) (a := la) (xs := rs.map V.ref) (fun i σ' H' => ∃ (es : List Ent) (fd : Fd.Found) (ls : List Addr) (lds : List Fd.Dd) (v2 v3 v4 : Option V), σ' = [some (.ref a), some (.ref fa), some (.ref la), some (.ref lt), v2, v3, v4] ∧ WJ P w K H fa la lt rs (d1 :: ds) H' es fd ls lds ∧ Fd.levelL (Fd.lawNext ns) ns.length ((d1 :: ds).drop i) (fd, lds) = some st')
            ⟨es, fd, [], [], v2, v3, v4, rfl, j0, hl⟩ (fun i σ' H' _ z => by obtain ⟨_, _, _, _, _, _, _, _, z, _⟩ := z; exact SqL.of z.rim) ?_ ?_⟩
          · rintro i x σ' H' hx ⟨es1, fd1, ls1, lds1, u2, u3, u4, rfl, j1, hl1⟩
            obtain ⟨r1, hr1, rfl⟩ : ∃ r, rs[i]? = some r ∧ x = V.ref r := by
              rw [List.getElem?_map] at hx
              cases e : rs[i]? with
              | none => rw [e] at hx; cases hx
              | some r => rw [e] at hx; exact ⟨r, rfl, (Option.some.inj hx).symm⟩
            obtain ⟨dt, hdt, hDe⟩ := paired_at j1.ds_ hr1
            rw [drop_at hdt] at hl1
            unfold Fd.levelL at hl1
            cases hi : Fd.innerL (Fd.lawNext ns) dt (Fd.letters ns.length) (fd1, lds1) with
            | none => rw [hi] at hl1; cases hl1
            | some st2 =>
              rw [hi] at hl1
              refine ⟨_, rfl, a, _, rfl, .inr (Same.tu j1.same ha), _, rfl, ?_, ?_, for_range (lo := 0) (n := (ns.map V.int).length) (fun i' σ2 H'' => ∃ (es : List Ent) (fd : Fd.Found) (ls : List Addr) (lds : List Fd.Dd) (v3 v4 : Option V), σ2 = [some (.ref a), some (.ref fa), some (.ref la), some (.ref lt), some (.ref r1), v3, v4] ∧ WJ P w K H fa la lt rs (d1 :: ds) H'' es fd ls lds ∧ De K H'' r1 dt ∧ Fd.innerL (Fd.lawNext ns) dt ((Fd.letters ns.length).drop i') (fd, lds) = some st2)
                ⟨es1, fd1, ls1, lds1, u3, u4, rfl, j1, hDe, hi⟩ ?_ ?_⟩
              · show -(2 ^ 62) ≤ (((ns.map V.int).length : Nat) : Int)
                omega
              · show (((ns.map V.int).length : Nat) : Int) < 2 ^ 62
                rw [List.length_map]
                omega
              · rintro i' σ2 H'' hi' ⟨es2, fd2, ls2, lds2, w3, w4, rfl, j2, hDe2, hin⟩
                rw [List.length_map] at hi'
                rw [letters_drop hi'] at hin
                unfold Fd.innerL at hin
                cases hst : Fd.stepL (Fd.lawNext ns) dt (fd2, lds2) ((0 : Int) + (i' : Nat)) with
                | none => rw [hst] at hin; cases hin
                | some st3 =>
                  rw [hst] at hin
                  unfold Fd.stepL at hst
                  by_cases hbig : 3000 ≤ (fd2, lds2).1.length ∨ 3000 ≤ (fd2, lds2).2.length
                  · rw [if_pos hbig] at hst; cases hst
                  rw [if_neg hbig] at hst
                  cases hnx : Fd.lawNext ns dt ((0 : Int) + (i' : Nat)) with
                  | none => rw [hnx] at hst; cases hst
                  | some e =>
                    rw [hnx] at hst
                    simp only at hst
                    refine ⟨_, rfl, _, rfl, _, rfl, a, r1, ns, dt, e, _, rfl, Same.tu j2.same ha, hDe2, by omega, hnx, fun H3 m s5 hm => ?_⟩
                    have j3 := j2.grow s5
                    refine ⟨_, rfl, _, rfl, fa, m, e, es2, rfl, rfl, .inl j3.fnd, j3.ents.keys, hm, _, rfl, ?_⟩
                    cases hlk : Fd.look fd2 e with
                    | some wd =>
                      rw [hlk] at hst
                      cases hst
                      obtain ⟨p', c', hE, _⟩ := j3.ents.some hlk
                      rw [hE]
                      exact iteF ⟨es2, fd2, ls2, lds2, _, _, rfl, j3, hDe2.keep (.same s5), hin⟩
                    | none =>
                      rw [hlk] at hst
                      simp only at hst
                      cases hlt : Fd.look fd2 dt with
                      | none => rw [hlt] at hst; cases hst
                      | some wd =>
                        rw [hlt] at hst
                        simp only at hst
                        by_cases h100 : 100 < wd.length
                        · rw [if_pos h100] at hst; cases hst
                        rw [if_neg h100] at hst
                        cases hst
                        have hEn := j3.ents.none hlk
                        obtain ⟨p', c', hE, hTu⟩ := j3.ents.some hlt
                        rw [hEn]
                        refine iteT ?_
                        refine ⟨_, rfl, _, rfl, fa, r1, dt, es2, p', c', rfl, rfl, .inl j3.fnd, j3.ents.keys, hDe2.keep (.same s5), hE, ?_⟩
                        refine ⟨_, rfl, ?_⟩
                        refine tup_ok (zs := [.int ((0 : Int) + (i' : Nat))]) (by simp) fun H4 p4 s6 e4 => ?_
                        refine cat_ok (Same.tu s6 hTu) (SqT.of e4) (by simp; omega) fun H5 p5 s7 e5 => ?_
                        have j4 := (j3.grow s6).grow s7
                        have e5' : Tu K H5 p5 (wd ++ [(0 : Int) + (i' : Nat)]) := by
                          unfold Tu
                          rw [List.map_append]
                          exact e5
                        have hm' : De K H5 m e := hm.keep (.same (s6.trans s7))
                        refine ⟨_, rfl, _, rfl, fa, m, e, es2, p5, rfl, rfl, rfl, j4.fnd, j4.ents.keys, hm', hEn, ?_, ?_⟩
                        · rw [j4.ents.length]
                          refine small ?_
                          have z : ¬ 3000 ≤ fd2.length := fun q => hbig (.inl q)
                          omega
                        have j5 := j4.store hm' e5'
                        have kk : Keep H5 (upd H5 fa (NdO P w fa (es2 ++ [(e, m, p5)]))) := Keep.at_ (not_rd_ext j4.fnd)
                        refine ⟨_, rfl, .inl ⟨rfl, _, SqL.of j5.later⟩, _, rfl, lt, _, _, rfl, rfl, j5.later, ?_, ?_⟩
                        · rw [List.length_map, j5.lds_.length]
                          refine small ?_
                          have z : ¬ 3000 ≤ lds2.length := fun q => hbig (.inr q)
                          omega
                        have kk2 : Keep (upd H5 fa (NdO P w fa (es2 ++ [(e, m, p5)]))) (upd (upd H5 fa (NdO P w fa (es2 ++ [(e, m, p5)]))) lt (.lst (ls2.map V.ref ++ [.ref m]))) := Keep.at_ (not_rd_lst j5.later)
                        exact ⟨_, _, ls2 ++ [m], lds2 ++ [e], _, _, rfl, j5.append (hm'.keep kk), hDe2.keep ((Keep.same (s5.trans (s6.trans s7))).trans (kk.trans kk2)), hin⟩
              · rintro σ2 H'' ⟨es2, fd2, ls2, lds2, w3, w4, rfl, j2, _, hin⟩
                rw [List.length_map, letters_end] at hin
                have hin' : some (fd2, lds2) = some st2 := hin
                cases hin'
                exact ⟨es2, fd2, ls2, lds2, _, _, _, rfl, j2, hl1⟩
          · rintro σ' H' ⟨es1, fd1, ls1, lds1, u2, u3, u4, rfl, j1, hl1⟩
            have hlen : (rs.map V.ref).length = (d1 :: ds).length := by rw [List.length_map]; exact j1.ds_.length
            rw [hlen, List.drop_length] at hl1
            have hl1' : some (fd1, lds1) = some st' := hl1
            cases hl1'
            exact ⟨_, rfl, lt, ls1, lds1, es1, fd1, _, _, _, _, rfl, j1.same, j1.fnd, j1.ents, nltH, j1.later, j1.lds_, hw⟩
end
end Fw
end
section
set_option Elab.async false
set_option linter.all false
set_option maxRecDepth 100000
set_option maxHeartbeats 8000000
/-! Fd10: walk, deeds, least_word, rules_of, rules, next_word. -/
namespace Fw
open PySem PySem.Spec PyProof.Rows L2

theorem walk_nk {P : Program} {w : World} {d : Addr} {o : Obj} {es : List Ent} : Walk (ItN P w d o es) es.length (fun H => H d = some (.frz o (NdO P w d es))) (fun i H x H' => H' = H ∧ ∃ e, es[i]? = some e ∧ x = .ref e.2.1) where
  goes := fun i H hi h => ⟨h, hi⟩
  stops := fun H h => ⟨h, Nat.le_refl _⟩
  yields := fun i H x H' hi h y => y
theorem walk_nv {P : Program} {w : World} {d : Addr} {o : Obj} {es : List Ent} : Walk (ItNv P w d o es) es.length (fun H => H d = some (.frz o (NdO P w d es))) (fun i H x H' => H' = H ∧ ∃ e, es[i]? = some e ∧ x = .ref e.2.2) where
  goes := fun i H hi h => ⟨h, hi⟩
  stops := fun H h => ⟨h, Nat.le_refl _⟩
  yields := fun i H x H' hi h y => y
theorem take_snoc {α : Type} {xs : List α} {i : Nat} {x : α} (h : xs[i]? = some x) : xs.take (i + 1) = xs.take i ++ [x] := by
  rw [List.take_succ, h]
  rfl
/-- values that the program takes -/
structure OkV (ns : List Int) : Prop where
  l1 : 1 ≤ ns.length
  l5 : ns.length ≤ 5
  v : ∀ n ∈ ns, 1 ≤ n ∧ n ≤ 6
theorem okLet_of {n : Nat} {us : List Int} (h : Fd.okLet n us = true) : ∀ u ∈ us, 0 ≤ u ∧ u < (n : Int) := fun u hu => of_decide_eq_true (List.all_eq_true.mp h u hu)
/-- a pair of refs -/
def Pr (K : PySem.W.Frag) (H : Hp) (r : Addr) (A B : Addr → Prop) : Prop := ∃ x y, SqT K H r [.ref x, .ref y] ∧ A x ∧ B y
def DeR (K : PySem.W.Frag) (H : Hp) (r : Addr) (q : Fd.Dd × List Int) : Prop := Pr K H r (fun x => Tu K H x q.2) (fun y => De K H y q.1)
def RuR (K : PySem.W.Frag) (H : Hp) (r : Addr) (q : List Int × List Int) : Prop := Pr K H r (fun x => Tu K H x q.1) (fun y => Tu K H y q.2)
theorem DeR.keep {K : PySem.W.Frag} {H H' : Hp} {r : Addr} {q : Fd.Dd × List Int} (h : DeR K H r q) (k : Keep H H') : DeR K H' r q := let ⟨x, y, a, b, c⟩ := h; ⟨x, y, k.sqt a, b.keep k, c.keep k⟩
theorem RuR.keep {K : PySem.W.Frag} {H H' : Hp} {r : Addr} {q : List Int × List Int} (h : RuR K H r q) (k : Keep H H') : RuR K H' r q := let ⟨x, y, a, b, c⟩ := h; ⟨x, y, k.sqt a, b.keep k, c.keep k⟩

section
variable {P : Program} {w : World} {K : PySem.W.Frag} {mg : Str → Option Value} {base : Heap}
/-! ### walk -/
abbrev sWalk : Stmt := top 22
def spWalk (P : Program) (w : World) (K : PySem.W.Frag) : Sp := fun vs H Q _ => ∃ (a : Addr) (ns : List Int) (fin : Fd.Found), vs = [.ref a] ∧ Tu K H a ns ∧ ns.length ≤ 5 ∧ Fd.foundOf ns = some fin ∧
  ∀ H' p es, Same H H' → H p = none → H' p = some (NdO P w p es) → Fnd K H' es fin → Q (.ref p) H'
theorem sc_walk : FnScope ["values"] ["values"] (defScope sWalk) := ⟨rfl, rfl, rfl, by decide +kernel, rfl, by decide +kernel, by decide +kernel⟩
theorem c_walk (D : Df K mg "walk" sWalk) (T : Txt K mg) (C : Cal P w K mg base 3 "walk_to" (spWalkTo P w K)) : Cal P w K mg base 4 "walk" (spWalk P w K) := by
  refine df_cal D sc_walk (fun _ _ _ _ _ _ us hl => match us, hl with | [_], _ => rfl) (fun vs H Q E h => ?_) (fun f cdv A outer s H vs Q E hr h => ?_)
  · obtain ⟨a, ns, fin, rfl, _⟩ := h
    rfl
  · obtain ⟨a, ns, fin, rfl, ha, h5, hf, k⟩ := h
    refine ⟨_, pss_one (ps_ret (pe_f C hr (by decide) (by rfl) (pa_cons (pv 0) (pa_cons (pe_k (by rfl) T.kD) pa_nil)))), ?_⟩
    exact ⟨_, rfl, a, ns, fin, rfl, ha, h5, hf, k⟩

/-! ### deeds -/
abbrev sDeeds : Stmt := top 24
def spDeeds (K : PySem.W.Frag) : Sp := fun vs H Q _ => ∃ (a : Addr) (ns : List Int) (fin : Fd.Found) (rs : Fd.Rules), vs = [.ref a] ∧ Tu K H a ns ∧ OkV ns ∧ Fd.Facts ns fin rs ∧
  ∀ H' p ps, Same H H' → H p = none → H' p = some (.lst (ps.map V.ref)) → Paired (DeR K H') ps fin → Q (.ref p) H'
theorem sc_deeds : FnScope ["values", "found", "told"] ["values"] (defScope sDeeds) := ⟨rfl, rfl, rfl, by decide +kernel, rfl, by decide +kernel, by decide +kernel⟩
theorem c_deeds (D : Df K mg "deeds" sDeeds) (T : Txt K mg) (CV : Cal P w K mg base 3 "need_values" (spNeedV K)) (C : Cal P w K mg base 4 "walk" (spWalk P w K)) : Cal P w K mg base 5 "deeds" (spDeeds K) := by
  refine df_cal D sc_deeds (fun _ _ _ _ _ _ us hl => match us, hl with | [_], _ => rfl) (fun vs H Q E h => ?_) (fun f cdv A outer s H vs Q E hr h => ?_)
  · obtain ⟨a, ns, fin, rs, rfl, _⟩ := h
    rfl
  · obtain ⟨a, ns, fin, rs, rfl, ha, ov, F, k⟩ := h
    refine ⟨_, pss_cons (ps_expr (pe_f CV hr (by decide) (by rfl) (pa_cons (pv 0) pa_nil))) (pss_cons (ps_set (i := 1) sc_deeds.nd rfl (Or.inr rfl) (pe_f C hr (by decide) (by rfl) (pa_cons (pv 0) pa_nil)))
      (pss_one (ps_ret (pe_lc (own := [("told", 2)]) (g := gName 2) (by rfl) sc_deeds.nd (pi_nk (pv 1)) (blkOk_by (own := [("told", 2)]) (N := ["values", "found", "told"]) (sc := defScope sDeeds) (by decide +kernel))
        (fun _ _ _ _ _ => pg_name (i := 2) sc_deeds.nd rfl (Or.inl rfl)) (fun _ _ _ _ _ => pts_nil) (fun _ _ _ _ _ => pe_tp (pa_cons (pe_ix (r := rNdGet P w K) (ix_nd hr.units) (pv 1) (pv 2) (fun _ _ => rfl)) (pa_cons (pv 2) pa_nil))))))), ?_⟩
    refine ⟨_, rfl, a, ns, rfl, ha, ov.l1, ov.l5, ov.v, fun H1 s1 => ?_⟩
    refine ⟨_, rfl, a, ns, fin, rfl, Same.tu s1 ha, ov.l5, F.walk, fun H2 d es s2 nd hd hE => ?_⟩
    refine ⟨_, rfl, d, es, rfl, hd, fun o => ?_⟩
    have kd : Keep H2 (upd H2 d (.frz o (NdO P w d es))) := Keep.at_ (not_rd_ext hd)
    have ndH : H d = none := s1.free nd
    have s12 : Same H (upd H2 d (.frz o (NdO P w d es))) := fun b u e => by
      rw [upd_ne (ne_of_none e ndH)]
      exact s2 b u (s1 b u e)
    intro L nL
    have nLH : H L = none := s12.free nL
    refine lc_it walk_nk (fun i H' => H' d = some (.frz o (NdO P w d es)) ∧ Same H H' ∧ Fnd K H' es fin ∧ ∃ ps : List Addr, H' L = some (.lst (ps.map V.ref)) ∧ Paired (DeR K H') ps (fin.take i)) ?_ (fun i H' _ z => z.1) ?_ ?_
    · have sL := same_new (o := .lst []) nL
      exact ⟨sL _ _ upd_same, s12.trans sL, hE.keep (kd.trans (.same sL)), [], upd_same, .nil⟩
    · rintro i x H' H'' hi ⟨z1, z2, z3, ps, z4, z5⟩ ⟨rfl, e, he, rfl⟩
      obtain ⟨q, hq, r1, r2, r3⟩ := paired_at z3 he
      have hl := (F.least q (List.mem_of_getElem? hq)).2.1
      obtain ⟨p', c', hl1, hl2⟩ := z3.some hl
      refine ⟨rfl, ?_⟩
      dsimp only [tYes]
      rw [if_pos rfl]
      refine ⟨_, rfl, _, rfl, d, e.2.1, q.1, es, p', c', rfl, rfl, .inr ⟨o, z1⟩, z3.keys, r1 ▸ r2, hl1, ?_⟩
      refine ⟨_, rfl, ?_⟩
      refine tup_ok (zs := [.ref c', .ref e.2.1]) (by simp) fun H3 p3 s3 e3 => ?_
      have kL : Keep H3 (upd H3 L (.lst (ps.map V.ref ++ [.ref p3]))) := Keep.at_ (not_rd_lst (s3 _ _ z4))
      have ndL : d ≠ L := ne_of z1 z4 (fun z => nomatch z)
      refine ⟨_, s3 _ _ z4, ?_, ?_, ?_, (z3.keep (.same s3)).keep kL, ps ++ [p3], ?_, ?_⟩
      · rw [List.length_map, Paired.length z5]
        refine small (Nat.le_trans (List.length_take_le' _ _) ?_)
        have := F.size.1
        omega
      · rw [upd_ne ndL]
        exact s3 _ _ z1
      · intro b u eb
        rw [upd_ne (ne_of_none eb nLH)]
        exact s3 b u (z2 b u eb)
      · rw [upd_same, List.map_append]
        rfl
      · rw [take_snoc hq]
        exact paired_snoc (Paired.mapP z5 fun _ _ x => x.keep ((Keep.same s3).trans kL)) (DeR.keep ⟨c', e.2.1, SqT.of e3, Same.tu s3 hl2, Same.de s3 (r1 ▸ r2)⟩ kL)
    · rintro H' ⟨z1, z2, z3, ps, z4, z5⟩
      rw [z3.length, List.take_length] at z5
      exact k H' L ps z2 nLH z4 z5

/-! ### least_word -/
abbrev sLeast : Stmt := top 25
def spLeast (K : PySem.W.Frag) : Sp := fun vs H Q _ => ∃ (a b : Addr) (ns us lwd : List Int) (fin : Fd.Found) (rs : Fd.Rules), vs = [.ref a, .ref b] ∧ Tu K H a ns ∧ Tu K H b us ∧ OkV ns ∧ Fd.Facts ns fin rs ∧ us.length ≤ 60 ∧ (∀ u ∈ us, 0 ≤ u ∧ u < (ns.length : Int)) ∧
  Fd.lw ns fin us = some lwd ∧ ∀ H' p, Same H H' → Tu K H' p lwd → Q (.ref p) H'
theorem sc_least : FnScope ["values", "word"] ["values", "word"] (defScope sLeast) := ⟨rfl, rfl, rfl, by decide +kernel, rfl, by decide +kernel, by decide +kernel⟩
theorem c_least (D : Df K mg "least_word" sLeast) (T : Txt K mg) (CV : Cal P w K mg base 3 "need_values" (spNeedV K)) (CW : Cal P w K mg base 4 "need_word" (spNeedW K)) (C : Cal P w K mg base 4 "walk" (spWalk P w K)) (CD : Cal P w K mg base 3 "deed_of" (spDeedOf K)) :
    Cal P w K mg base 5 "least_word" (spLeast K) := by
  refine df_cal D sc_least (fun _ _ _ _ _ _ us hl => match us, hl with | [_, _], _ => rfl) (fun vs H Q E h => ?_) (fun f cdv A outer s H vs Q E hr h => ?_)
  · obtain ⟨a, b, ns, us, lwd, fin, rs, rfl, _⟩ := h
    rfl
  · obtain ⟨a, b, ns, us, lwd, fin, rs, rfl, ha, hb, ov, F, h60, hu, hlw, k⟩ := h
    refine ⟨_, pss_cons (ps_expr (pe_f CV hr (by decide) (by rfl) (pa_cons (pv 0) pa_nil))) (pss_cons (ps_expr (pe_f CW hr (by decide) (by rfl) (pa_cons (pv 0) (pa_cons (pv 1) pa_nil))))
      (pss_one (ps_ret (pe_ix (ix_nd hr.units) (pe_f C hr (by decide) (by rfl) (pa_cons (pv 0) pa_nil)) (pe_f CD hr (by decide) (by rfl) (pa_cons (pv 0) (pa_cons (pv 1) pa_nil))) (fun _ _ => rfl))))), ?_⟩
    unfold Fd.lw at hlw
    cases hd : Fd.deedOf ns us with
    | none => rw [hd] at hlw; cases hlw
    | some d =>
      rw [hd] at hlw
      refine ⟨_, rfl, a, ns, rfl, ha, ov.l1, ov.l5, ov.v, fun H1 s1 => ?_⟩
      refine ⟨_, rfl, _, rfl, a, b, ns, us, rfl, Same.tu s1 ha, Same.tu s1 hb, h60, hu, fun H2 s2 => ?_⟩
      have s12 := s1.trans s2
      refine ⟨_, rfl, a, ns, fin, rfl, Same.tu s12 ha, ov.l5, F.walk, fun H3 p es s3 np hp hE => ?_⟩
      have s13 := s12.trans s3
      refine ⟨_, rfl, _, rfl, a, b, ns, us, d, rfl, Same.tu s13 ha, Same.tu s13 hb, fun u z => (hu u z).1, hd, fun H4 q s4 hq => ?_⟩
      obtain ⟨p', c', l1, l2⟩ := (hE.keep (.same s4)).some hlw
      exact ⟨p, q, d, es, p', c', rfl, rfl, .inl (s4 _ _ hp), (hE.keep (.same s4)).keys, hq, l1, k H4 c' (s13.trans s4) l2⟩
end
end Fw
end
section
set_option Elab.async false
set_option linter.all false
set_option maxRecDepth 100000
set_option maxHeartbeats 8000000
/-! Fd11: rules_of, rules, next_word. -/
namespace Fw
open PySem PySem.Spec PyProof.Rows L2

theorem lexB_trans {u v x : List Int} (h1 : Fd.lexB u v = true) (h2 : Fd.lexB v x = true) : Fd.lexB u x = true := by
  rw [lex_lt, decide_eq_true_eq] at *
  exact List.lt_trans h1 h2
theorem ltW_trans {u v x : List Int} (h1 : Fd.ltW u v = true) (h2 : Fd.ltW v x = true) : Fd.ltW u x = true := by
  unfold Fd.ltW at *
  by_cases e1 : u.length = v.length
  · rw [if_pos e1] at h1
    by_cases e2 : v.length = x.length
    · rw [if_pos e2] at h2
      rw [if_pos (e1.trans e2)]
      exact lexB_trans h1 h2
    · rw [if_neg e2] at h2
      have := of_decide_eq_true h2
      rw [if_neg (by omega)]
      exact decide_eq_true (by omega)
  · rw [if_neg e1] at h1
    have q1 := of_decide_eq_true h1
    by_cases e2 : v.length = x.length
    · rw [if_neg (by omega)]
      exact decide_eq_true (by omega)
    · rw [if_neg e2] at h2
      have := of_decide_eq_true h2
      rw [if_neg (by omega)]
      exact decide_eq_true (by omega)
theorem rising : ∀ {l : List (List Int)}, Fd.sortedB l = true → l.Pairwise (fun u v => Fd.ltW u v = true)
  | [], _ => .nil
  | [_], _ => List.pairwise_singleton _ _
  | u :: v :: r, h => by
    have h' : (Fd.ltW u v && Fd.sortedB (v :: r)) = true := h
    obtain ⟨h1, h2⟩ := Fd.and2 h'
    have ih := rising h2
    refine List.pairwise_cons.mpr ⟨fun z hz => ?_, ih⟩
    rcases List.mem_cons.mp hz with rfl | hz
    · exact h1
    · exact ltW_trans h1 ((List.pairwise_cons.mp ih).1 z hz)

section
variable {P : Program} {w : World} {K : PySem.W.Frag} {mg : Str → Option Value} {base : Heap}
/-! ### rules_of -/
abbrev sRulesOf : Stmt := top 26
def spRulesOf (K : PySem.W.Frag) : Sp := fun vs H Q _ => ∃ (a : Addr) (ns : List Int) (fin : Fd.Found) (rs : Fd.Rules), vs = [.ref a] ∧ Tu K H a ns ∧ OkV ns ∧ Fd.Facts ns fin rs ∧
  ∀ H' p ps, Same H H' → H p = none → H' p = some (.lst (ps.map V.ref)) → Paired (RuR K H') ps rs → Q (.ref p) H'
def nRulesOf : List Str := ["values", "found", "rules", "least", "word", "letter", "longer", "goal", "told"]
theorem sc_rulesOf : FnScope ["values", "found", "rules", "least", "word", "letter", "longer", "goal", "told"] ["values"] (defScope sRulesOf) := ⟨rfl, rfl, rfl, by decide +kernel, rfl, by decide +kernel, by decide +kernel⟩
/-- what stands while the rules are gathered -/
structure RJ (P : Program) (w : World) (K : PySem.W.Frag) (H : Hp) (d : Addr) (o : Obj) (es : List Ent) (fin : Fd.Found) (lr : Addr) (ws : List Addr) (lr2 : Addr) (H1 : Hp) (ps : List Addr) (rs : Fd.Rules) : Prop where
  same : Same H H1
  nr : H lr = none
  ne : lr2 ≠ lr
  fnd : H1 d = some (.frz o (NdO P w d es))
  ents : Fnd K H1 es fin
  least : H1 lr2 = some (.lst (ws.map V.ref))
  ws_ : Paired (fun r (q : Fd.Dd × List Int) => Tu K H1 r q.2) ws fin
  rules : H1 lr = some (.lst (ps.map V.ref))
  ps_ : Paired (RuR K H1) ps rs
section
variable {H H1 H2 : Hp} {d lr lr2 m : Addr} {o : Obj} {es : List Ent} {fin : Fd.Found} {ws ps : List Addr} {rs : Fd.Rules} {q : List Int × List Int}
theorem RJ.grow (j : RJ P w K H d o es fin lr ws lr2 H1 ps rs) (s : Same H1 H2) : RJ P w K H d o es fin lr ws lr2 H2 ps rs :=
  ⟨j.same.trans s, j.nr, j.ne, s _ _ j.fnd, j.ents.keep (.same s), s _ _ j.least, Paired.mapP j.ws_ fun _ _ x => x.keep (.same s), s _ _ j.rules, Paired.mapP j.ps_ fun _ _ x => x.keep (.same s)⟩
theorem RJ.append (j : RJ P w K H d o es fin lr ws lr2 H1 ps rs) (h : RuR K H1 m q) : RJ P w K H d o es fin lr ws lr2 (upd H1 lr (.lst (ps.map V.ref ++ [.ref m]))) (ps ++ [m]) (rs ++ [q]) := by
  have k : Keep H1 (upd H1 lr (.lst (ps.map V.ref ++ [.ref m]))) := Keep.at_ (not_rd_lst j.rules)
  have n1 : d ≠ lr := ne_of j.fnd j.rules (fun z => nomatch z)
  refine ⟨fun b u e => ?_, j.nr, j.ne, ?_, j.ents.keep k, ?_, Paired.mapP j.ws_ fun _ _ x => x.keep k, ?_, paired_snoc (Paired.mapP j.ps_ fun _ _ x => x.keep k) (h.keep k)⟩
  · rw [upd_ne (ne_of_none e j.nr)]
    exact j.same b u e
  · rw [upd_ne n1]
    exact j.fnd
  · rw [upd_ne j.ne]
    exact j.least
  · rw [upd_same, List.map_append]
    rfl
end
theorem tail_drop (u : List Int) : u.drop (1 : Int).toNat = u.tail := by cases u <;> rfl
theorem c_rulesOf (D : Df K mg "rules_of" sRulesOf) (T : Txt K mg) (C : Cal P w K mg base 4 "walk" (spWalk P w K)) (CD : Cal P w K mg base 3 "deed_of" (spDeedOf K)) : Cal P w K mg base 5 "rules_of" (spRulesOf K) := by
  refine df_cal D sc_rulesOf (fun _ _ _ _ _ _ us hl => match us, hl with | [_], _ => rfl) (fun vs H Q E h => ?_) (fun f cdv A outer s H vs Q E hr h => ?_)
  · obtain ⟨a, ns, fin, rs, rfl, _⟩ := h
    rfl
  · obtain ⟨a, ns, fin, rs, rfl, ha, ov, F, k⟩ := h
    refine ⟨_, pss_cons (ps_asg (pe_tp (pa_cons (pe_f C hr (by decide) (by rfl) (pa_cons (pv 0) pa_nil)) (pa_cons (pe_ls pa_nil) pa_nil)))
        (pg_tup rfl (pgs_cons (pg_name (i := 1) sc_rulesOf.nd rfl (Or.inr rfl)) (pgs_cons (pg_name (i := 2) sc_rulesOf.nd rfl (Or.inl rfl)) pgs_nil))))
      (pss_cons (ps_setLc (i := 3) (own := [("told", 8)]) (g := gName 8) (by rfl) sc_rulesOf.nd rfl rfl (sw_true rfl rfl rfl (by decide +kernel)) (pi_nk (pv 1)) (blkOk_by (own := [("told", 8)]) (N := nRulesOf) (sc := defScope sRulesOf) (by decide +kernel))
        (fun _ _ _ _ _ => pg_name (i := 8) sc_rulesOf.nd rfl (Or.inl rfl)) (fun _ _ _ _ _ => pts_nil) (fun _ _ _ _ _ => pe_ix (r := rNdGet P w K) (ix_nd hr.units) (pv 1) (pv 8) (fun _ _ => rfl)))
      (pss_cons (ps_for PassesOwn.never rfl (pi_list (pv 3)) (pg_name (i := 4) sc_rulesOf.nd rfl (Or.inl rfl))
        (pss_one (ps_for PassesOwn.never rfl (pi_range1 (by rfl) T.range (pa_cons (pe_callB call_len_seq (by rfl) T.len PySem.boot_len (pa_cons (pv 0) pa_nil)) pa_nil)) (pg_name (i := 5) sc_rulesOf.nd rfl (Or.inl rfl))
          (pss_cons (ps_set (i := 6) sc_rulesOf.nd rfl (Or.inl rfl) (pe_op op_catU (pv 4) (pe_tp (pa_cons (pv 5) pa_nil))))
          (pss_cons (ps_set (i := 7) sc_rulesOf.nd rfl (Or.inl rfl) (pe_ix (ix_nd hr.units) (pv 1) (pe_f CD hr (by decide) (by rfl) (pa_cons (pv 0) (pa_cons (pv 6) pa_nil))) (fun _ _ => rfl)))
          (pss_one (ps_if (pw_and (pt_cmpR (op_neD hr.units) (pv 7) (pv 6) (nomark _)) (pw_and1 (pt_cmpR (op_eqD hr.units) (pe_ix (ix_nd hr.units) (pv 1) (pe_f CD hr (by decide) (by rfl) (pa_cons (pv 0) (pa_cons (pe_slice sl_tupU (pv 6) (po_some pe_int) po_none) pa_nil))) (fun _ _ => rfl))
              (pe_slice sl_tupU (pv 6) (po_some pe_int) po_none) (nomark _)))).pt
            (pss_one (ps_expr (pe_bm PySem.F.plainAttrs_list PySem.F.slot_list_append PySem.F.type_list_append mt_append (pv 2) (pa_cons (pe_tp (pa_cons (pv 6) (pa_cons (pv 7) pa_nil))) pa_nil)))) pss_nil)))))))
      (pss_one (ps_ret (pv 2))))), ?_⟩
    -- found, rules = walk(values), []
    refine ⟨_, rfl, a, ns, fin, rfl, ha, ov.l5, F.walk, fun H1 d es s1 nd hd hE => ?_⟩
    refine lst_ok (zs := []) (by simp) fun lr nlr => ?_
    have s2 := same_new (o := .lst []) nlr
    refine tup_ok (zs := [.ref d, .ref lr]) (by simp) fun H3 pT s3 eT => ?_
    refine ⟨pT, _, rfl, SqT.of eT, rfl, _, _, rfl, _, _, rfl, rfl, ?_⟩
    have nlrH : H lr = none := s1.free nlr
    have hd3 : H3 d = some (NdO P w d es) := s3 _ _ (s2 _ _ hd)
    have hlr3 : H3 lr = some (.lst []) := s3 _ _ upd_same
    -- least
    refine ⟨_, rfl, d, es, rfl, hd3, fun o => ?_⟩
    have kd : Keep H3 (upd H3 d (.frz o (NdO P w d es))) := Keep.at_ (not_rd_ext hd3)
    have ndr : lr ≠ d := ne_of hlr3 hd3 (fun z => nomatch z)
    have sF : Same H (upd H3 d (.frz o (NdO P w d es))) := fun b u e => by
      rw [upd_ne (ne_of_none e nd)]
      exact s3 b u (s2 b u (s1 b u e))
    intro L nL
    have nLH : H L = none := sF.free nL
    have hlrF : (upd H3 d (.frz o (NdO P w d es))) lr = some (.lst []) := by
      rw [upd_ne ndr]
      exact hlr3
    have nLr : L ≠ lr := (ne_of_none hlrF nL).symm
    have hEF : Fnd K (upd H3 d (.frz o (NdO P w d es))) es fin := hE.keep ((Keep.same (s2.trans s3)).trans kd)
    refine lc_it walk_nk (fun i H' => H' d = some (.frz o (NdO P w d es)) ∧ Same H H' ∧ Fnd K H' es fin ∧ H' lr = some (.lst []) ∧ ∃ ps : List Addr, H' L = some (.lst (ps.map V.ref)) ∧ Paired (fun r (q : Fd.Dd × List Int) => Tu K H' r q.2) ps (fin.take i)) ?_ (fun i H' _ z => z.1) ?_ ?_
    · have sL := same_new (o := .lst []) nL
      exact ⟨sL _ _ upd_same, sF.trans sL, hEF.keep (.same sL), sL _ _ hlrF, [], upd_same, .nil⟩
    · rintro i x H' H'' hi ⟨z1, z2, z3, zr, ps, z4, z5⟩ ⟨rfl, e, he, rfl⟩
      obtain ⟨q, hq, r1, r2, r3⟩ := paired_at z3 he
      have hl := (F.least q (List.mem_of_getElem? hq)).2.1
      obtain ⟨p', c', hl1, hl2⟩ := z3.some hl
      refine ⟨rfl, ?_⟩
      dsimp only [tYes]
      rw [if_pos rfl]
      refine ⟨_, rfl, _, rfl, d, e.2.1, q.1, es, p', c', rfl, rfl, .inr ⟨o, z1⟩, z3.keys, r1 ▸ r2, hl1, ?_⟩
      have kL : Keep H'' (upd H'' L (.lst (ps.map V.ref ++ [.ref c']))) := Keep.at_ (not_rd_lst z4)
      have ndL : d ≠ L := ne_of z1 z4 (fun z => nomatch z)
      refine ⟨_, z4, ?_, ?_, ?_, z3.keep kL, ?_, ps ++ [c'], ?_, ?_⟩
      · rw [List.length_map, Paired.length z5]
        refine small (Nat.le_trans (List.length_take_le' _ _) ?_)
        have := F.size.1
        omega
      · rw [upd_ne ndL]
        exact z1
      · intro b u eb
        rw [upd_ne (ne_of_none eb nLH)]
        exact z2 b u eb
      · rw [upd_ne nLr.symm]
        exact zr
      · rw [upd_same, List.map_append]
        rfl
      · rw [take_snoc hq]
        exact paired_snoc (Paired.mapP z5 fun _ _ x => x.keep kL) (hl2.keep kL)
    · rintro H' ⟨z1, z2, z3, zr, ws, z4, z5⟩
      rw [z3.length, List.take_length] at z5
      have j0 : RJ P w K H d o es fin lr ws L H' [] [] := ⟨z2, nlrH, nLr, z1, z3, z4, z5, zr, .nil⟩
      have hgo : Fd.ruleGo ns fin (fin.map (·.2)) [] = some rs := F.rules
      refine ⟨_, rfl, L, rfl, ⟨_, SqL.of z4⟩, for_list (K := K) (a := L) (xs := ws.map V.ref) (fun i σ' H' => ∃ (ps : List Addr) (qs : Fd.Rules) (v4 v5 v6 v7 : Option V), σ' = [some (.ref a), some (.ref d), some (.ref lr), some (.ref L), v4, v5, v6, v7, none] ∧ RJ P w K H d o es fin lr ws L H' ps qs ∧ Fd.ruleGo ns fin ((fin.map (·.2)).drop i) qs = some rs)
        ⟨[], [], none, none, none, none, rfl, j0, hgo⟩ (fun i σ' H' _ z => by obtain ⟨_, _, _, _, _, _, _, z, _⟩ := z; exact SqL.of z.least) ?_ ?_⟩
      · rintro i x σ' H1' hx ⟨ps1, qs1, u4, u5, u6, u7, rfl, j1, hg1⟩
        obtain ⟨r1, hr1, rfl⟩ : ∃ r, ws[i]? = some r ∧ x = V.ref r := by
          rw [List.getElem?_map] at hx
          cases e : ws[i]? with
          | none => rw [e] at hx; cases hx
          | some r => rw [e] at hx; exact ⟨r, rfl, (Option.some.inj hx).symm⟩
        obtain ⟨q, hq, hqT⟩ := paired_at j1.ws_ hr1
        have hq2 : (fin.map (·.2))[i]? = some q.2 := by rw [List.getElem?_map, hq]; rfl
        have fq := F.least q (List.mem_of_getElem? hq)
        have lenq : q.2.length ≤ 6 := fq.2.2.2
        have posq : ∀ u ∈ q.2, 0 ≤ u ∧ u < (ns.length : Int) := okLet_of fq.2.2.1
        rw [drop_at hq2] at hg1
        unfold Fd.ruleGo at hg1
        cases hin : Fd.ruleIn ns fin q.2 (Fd.letters ns.length) qs1 with
        | none => rw [hin] at hg1; cases hg1
        | some qs2 =>
          rw [hin] at hg1
          refine ⟨_, rfl, a, _, rfl, .inr (Same.tu j1.same ha), _, rfl, ?_, ?_, for_range (lo := 0) (n := (ns.map V.int).length) (fun i' σ2 H'' => ∃ (ps : List Addr) (qs : Fd.Rules) (v5 v6 v7 : Option V), σ2 = [some (.ref a), some (.ref d), some (.ref lr), some (.ref L), some (.ref r1), v5, v6, v7, none] ∧ RJ P w K H d o es fin lr ws L H'' ps qs ∧ Tu K H'' r1 q.2 ∧ Fd.ruleIn ns fin q.2 ((Fd.letters ns.length).drop i') qs = some qs2)
            ⟨ps1, qs1, u5, u6, u7, rfl, j1, hqT, hin⟩ ?_ ?_⟩
          · show -(2 ^ 62) ≤ (((ns.map V.int).length : Nat) : Int)
            omega
          · show (((ns.map V.int).length : Nat) : Int) < 2 ^ 62
            rw [List.length_map]
            have := ov.l5
            omega
          · rintro i' σ2 H'' hi' ⟨ps2, qs3, w5, w6, w7, rfl, j2, hqT2, hin2⟩
            rw [List.length_map] at hi'
            rw [letters_drop hi'] at hin2
            unfold Fd.ruleIn at hin2
            cases hst : Fd.ruleStep ns fin q.2 qs3 ((0 : Int) + (i' : Nat)) with
            | none => rw [hst] at hin2; cases hin2
            | some qs4 =>
              rw [hst] at hin2
              simp only at hin2
              unfold Fd.ruleStep at hst
              by_cases hbig : 100 < q.2.length ∨ 3000 ≤ qs3.length
              · rw [if_pos hbig] at hst; cases hst
              rw [if_neg hbig] at hst
              cases hlw : Fd.lw ns fin (q.2 ++ [(0 : Int) + (i' : Nat)]) with
              | none => rw [hlw] at hst; cases hst
              | some g =>
                rw [hlw] at hst
                simp only at hst
                -- longer = word + (letter,)
                refine ⟨_, rfl, _, rfl, ?_⟩
                refine tup_ok (zs := [.int ((0 : Int) + (i' : Nat))]) (by simp) fun H4 p4 s4 e4 => ?_
                refine cat_ok (Same.tu s4 hqT2) (SqT.of e4) (by simp; omega) fun H5 p5 s5 e5 => ?_
                have e5' : Tu K H5 p5 (q.2 ++ [(0 : Int) + (i' : Nat)]) := by
                  unfold Tu
                  rw [List.map_append]
                  exact e5
                have j5 := (j2.grow s4).grow s5
                have pos5 : ∀ u ∈ q.2 ++ [(0 : Int) + (i' : Nat)], 0 ≤ u := fun u hu => by
                  rcases List.mem_append.mp hu with hu | hu
                  · exact (posq u hu).1
                  · have := List.mem_singleton.mp hu
                    omega
                -- goal = found[deed_of(values, longer)]
                have hlw0 := hlw
                unfold Fd.lw at hlw0
                cases hdd : Fd.deedOf ns (q.2 ++ [(0 : Int) + (i' : Nat)]) with
                | none => rw [hdd] at hlw0; cases hlw0
                | some dd =>
                  rw [hdd] at hlw0
                  refine ⟨_, rfl, _, rfl, _, rfl, a, p5, ns, _, dd, rfl, Same.tu j5.same ha, e5', pos5, hdd, fun H6 p6 s6 d6 => ?_⟩
                  have j6 := j5.grow s6
                  obtain ⟨p', c', l1, l2⟩ := j6.ents.some hlw0
                  refine ⟨d, p6, dd, es, p', c', rfl, rfl, .inr ⟨o, j6.fnd⟩, j6.ents.keys, d6, l1, ?_⟩
                  have e6 : Tu K H6 p5 (q.2 ++ [(0 : Int) + (i' : Nat)]) := Same.tu s6 e5'
                  -- goal != longer
                  refine ⟨_, rfl, _, rfl, _, _, l2.dp, e6.dp, shaped_wd _, shaped_wd _, _, rfl, ?_⟩
                  rw [eqv_wd]
                  by_cases hg : g = q.2 ++ [(0 : Int) + (i' : Nat)]
                  · rw [if_pos hg] at hst
                    cases hst
                    rw [decide_eq_true hg]
                    exact iteF (iteF ⟨ps2, qs3, _, _, _, rfl, j6, Same.tu (s4.trans (s5.trans s6)) hqT2, hin2⟩)
                  · rw [if_neg hg] at hst
                    rw [decide_eq_false hg]
                    refine iteT ?_
                    cases hlt : Fd.lw ns fin (q.2 ++ [(0 : Int) + (i' : Nat)]).tail with
                    | none => rw [hlt] at hst; cases hst
                    | some h2 =>
                      rw [hlt] at hst
                      simp only at hst
                      have hlt0 := hlt
                      unfold Fd.lw at hlt0
                      cases hde : Fd.deedOf ns (q.2 ++ [(0 : Int) + (i' : Nat)]).tail with
                      | none => rw [hde] at hlt0; cases hlt0
                      | some de =>
                        rw [hde] at hlt0
                        refine ⟨_, rfl, _, rfl, _, rfl, _, rfl, ?_⟩
                        refine sl_ok e6 fun H7 p7 s7 e7 => ?_
                        rw [cut_from (by decide), ints_drop, tail_drop] at e7
                        have j7 := j6.grow s7
                        refine ⟨a, p7, ns, _, de, rfl, Same.tu j7.same ha, e7, fun u hu => pos5 u (List.mem_of_mem_tail hu), hde, fun H8 p8 s8 d8 => ?_⟩
                        have j8 := j7.grow s8
                        obtain ⟨p'', c'', m1, m2⟩ := j8.ents.some hlt0
                        refine ⟨d, p8, de, es, p'', c'', rfl, rfl, .inr ⟨o, j8.fnd⟩, j8.ents.keys, d8, m1, ?_⟩
                        refine ⟨_, rfl, _, rfl, ?_⟩
                        refine sl_ok (Same.tu (s7.trans s8) e6) fun H9 p9 s9 e9 => ?_
                        rw [cut_from (by decide), ints_drop, tail_drop] at e9
                        have j9 := j8.grow s9
                        refine ⟨_, _, (Same.tu s9 m2).dp, (show Tu K H9 p9 _ from e9).dp, shaped_wd _, shaped_wd _, _, rfl, ?_⟩
                        rw [eqv_wd]
                        have sAll : Same H'' H9 := s4.trans (s5.trans (s6.trans (s7.trans (s8.trans s9))))
                        by_cases hh : h2 = (q.2 ++ [(0 : Int) + (i' : Nat)]).tail
                        · rw [if_pos hh] at hst
                          cases hst
                          rw [decide_eq_true hh]
                          refine iteT ?_
                          refine ⟨_, rfl, .inl ⟨rfl, _, SqL.of j9.rules⟩, _, rfl, _, rfl, ?_⟩
                          refine tup_ok (zs := [.ref p5, .ref c']) (by simp) fun HA pA sA eA => ?_
                          have jA := j9.grow sA
                          refine ⟨lr, _, _, rfl, rfl, jA.rules, ?_, ?_⟩
                          · rw [List.length_map, Paired.length jA.ps_]
                            refine small ?_
                            have z : ¬ 3000 ≤ qs3.length := fun q => hbig (.inr q)
                            omega
                          have sB : Same H6 HA := s7.trans (s8.trans (s9.trans sA))
                          have kk : Keep HA (upd HA lr (.lst (ps2.map V.ref ++ [.ref pA]))) := Keep.at_ (not_rd_lst jA.rules)
                          exact ⟨_, _, _, _, _, rfl, jA.append ⟨p5, c', SqT.of eA, Same.tu sB e6, Same.tu sB l2⟩, (Same.tu (sAll.trans sA) hqT2).keep kk, hin2⟩
                        · rw [if_neg hh] at hst
                          cases hst
                          rw [decide_eq_false hh]
                          exact iteF ⟨ps2, qs3, _, _, _, rfl, j9, Same.tu sAll hqT2, hin2⟩
          · rintro σ2 H'' ⟨ps2, qs3, w5, w6, w7, rfl, j2, _, hin2⟩
            rw [List.length_map, letters_end] at hin2
            have hin' : some qs3 = some qs2 := hin2
            cases hin'
            exact ⟨ps2, _, _, _, _, _, rfl, j2, hg1⟩
      · rintro σ' H1' ⟨ps1, qs1, u4, u5, u6, u7, rfl, j1, hg1⟩
        have hlen : (ws.map V.ref).length = (fin.map (·.2)).length := by rw [List.length_map, List.length_map]; exact Paired.length j1.ws_
        rw [hlen, List.drop_length] at hg1
        have hg1' : some qs1 = some rs := hg1
        cases hg1'
        exact ⟨_, rfl, k H1' lr ps1 j1.same nlrH j1.rules j1.ps_⟩
abbrev sRules : Stmt := top 27
theorem sc_rules : FnScope ["values"] ["values"] (defScope sRules) := ⟨rfl, rfl, rfl, by decide +kernel, rfl, by decide +kernel, by decide +kernel⟩
theorem c_rules (D : Df K mg "rules" sRules) (T : Txt K mg) (CV : Cal P w K mg base 3 "need_values" (spNeedV K)) (C : Cal P w K mg base 5 "rules_of" (spRulesOf K)) : Cal P w K mg base 6 "rules" (spRulesOf K) := by
  refine df_cal D sc_rules (fun _ _ _ _ _ _ us hl => match us, hl with | [_], _ => rfl) (fun vs H Q E h => ?_) (fun f cdv A outer s H vs Q E hr h => ?_)
  · obtain ⟨a, ns, fin, rs, rfl, _⟩ := h
    rfl
  · obtain ⟨a, ns, fin, rs, rfl, ha, ov, F, k⟩ := h
    refine ⟨_, pss_cons (ps_expr (pe_f CV hr (by decide) (by rfl) (pa_cons (pv 0) pa_nil))) (pss_one (ps_ret (pe_f C hr (by decide) (by rfl) (pa_cons (pv 0) pa_nil)))), ?_⟩
    refine ⟨_, rfl, a, ns, rfl, ha, ov.l1, ov.l5, ov.v, fun H1 s1 => ?_⟩
    exact ⟨_, rfl, a, ns, fin, rs, rfl, Same.tu s1 ha, ov, F, fun H' p ps s2 np hp hR => k H' p ps (s1.trans s2) (s1.free np) hp hR⟩
end
end Fw
end
section
set_option Elab.async false
set_option linter.all false
set_option maxRecDepth 100000
set_option maxHeartbeats 8000000
/-! Fd12: next_word, the law's draws. -/
namespace Fw
open PySem PySem.Spec PyProof.Rows L2

def RLen (K : PySem.W.Frag) : List V → Hp → VK → Prop := fun xs H Q => ∃ p ys, xs = [.ref p] ∧ (SqL K H p ys ∨ SqT K H p ys) ∧ Q (.int (ys.length : Nat)) H
theorem call_lenU {X : Cx} : CallR X (.builtin "len") (RLen X.K) := call_len_seq
theorem pairs_bs {K : PySem.W.Frag} {H : Hp} : ∀ {ps : List Addr} {fin : Fd.Found}, Paired (fun r (q : Fd.Dd × List Int) => Pw K H r q.2) ps fin → ∃ bs : List (Addr × List Int), bs.map (fun b => V.ref b.1) = ps.map V.ref ∧ bs.map (·.2) = fin.map (·.2) ∧ ∀ b ∈ bs, Pw K H b.1 b.2
  | _, _, .nil => ⟨[], rfl, rfl, fun _ z => nomatch z⟩
  | r :: ps, q :: fin, .cons h t => by
    obtain ⟨bs, e1, e2, e3⟩ := pairs_bs t
    refine ⟨(r, q.2) :: bs, by rw [List.map_cons, e1]; rfl, by rw [List.map_cons, e2]; rfl, fun b hb => ?_⟩
    rcases List.mem_cons.mp hb with rfl | hb
    · exact h
    · exact e3 b hb
theorem Pw.keep {K : PySem.W.Frag} {H H' : Hp} {r : Addr} {u : List Int} (h : Pw K H r u) (k : Keep H H') : Pw K H' r u := let ⟨x, a, b⟩ := h; ⟨x, k.sqt a, b.keep k⟩

/-! ### the draws' row -/
/-- the script: locked, or written; no store reaches it -/
def Scr (K : PySem.W.Frag) (H : Hp) (l : Addr) (xs : List V) : Prop := (∃ o, H l = some (.frz o (.lst xs))) ∨ ∀ H', SqL K H' l xs
theorem Scr.sql {K : PySem.W.Frag} {H : Hp} {l : Addr} {xs : List V} (h : Scr K H l xs) : SqL K H l xs := by
  rcases h with ⟨o, h⟩ | h
  · exact .inl (.inr ⟨o, h⟩)
  · exact h H
theorem Scr.upd {K : PySem.W.Frag} {H : Hp} {l p : Addr} {xs : List V} {u : HO} (h : Scr K H l xs) (n : ∀ o v, H p ≠ some (.frz o v)) : Scr K (L2.upd H p u) l xs := by
  rcases h with ⟨o, h⟩ | h
  · refine .inl ⟨o, ?_⟩
    rw [upd_ne (fun e => n o _ (e ▸ h))]
    exact h
  · exact .inr h
def Row (K : PySem.W.Frag) (H : Hp) (a : Addr) : Prop := ∃ (l : Addr) (ns : List Int) (i s r : Int), H a = some (.lst [.ref l, .int i, .int s, .int r]) ∧ Scr K H l (ns.map V.int) ∧ 0 ≤ i ∧ 0 ≤ s ∧ s < 2147483647
theorem Row.upd {K : PySem.W.Frag} {H : Hp} {a p : Addr} {u : HO} (h : Row K H a) (n : ∀ o v, H p ≠ some (.frz o v)) (ne : p ≠ a) : Row K (L2.upd H p u) a := by
  obtain ⟨l, ns, i, s, r, h1, h2, h3⟩ := h
  exact ⟨l, ns, i, s, r, by rw [upd_ne ne.symm]; exact h1, h2.upd n, h3⟩
/-- all but a stays -/
def Ch (a : Addr) (H H' : Hp) : Prop := ∀ b o, b ≠ a → H b = some o → H' b = some o
theorem Ch.refl (a : Addr) (H : Hp) : Ch a H H := fun _ _ _ e => e
theorem Ch.trans {a : Addr} {H H1 H2 : Hp} (x : Ch a H H1) (y : Ch a H1 H2) : Ch a H H2 := fun b o n e => y b o n (x b o n e)
theorem Ch.same {a : Addr} {H H' : Hp} (s : Same H H') : Ch a H H' := fun b o _ e => s b o e
theorem Ch.upd {a : Addr} {H : Hp} {o : HO} : Ch a H (upd H a o) := fun b u n e => by
  rw [upd_ne n]
  exact e
theorem Ch.sql {K : PySem.W.Frag} {a l : Addr} {H H' : Hp} {xs : List V} (c : Ch a H H') (h : SqL K H l xs) (n : l ≠ a) : SqL K H' l xs := by
  rcases h with (h | ⟨o, h⟩) | h
  · exact .inl (.inl (c _ _ n h))
  · exact .inl (.inr ⟨o, c _ _ n h⟩)
  · exact .inr h
theorem Ch.keep {a : Addr} {H H' : Hp} (c : Ch a H H') (n : ∀ xs, ¬ Rd H a (.tup xs)) : Keep H H' := fun b xs r => by
  have ne : b ≠ a := fun e => n xs (e ▸ r)
  rcases r with r | ⟨o, r⟩
  · exact .inl (c _ _ ne r)
  · exact .inr ⟨o, c _ _ ne r⟩
theorem Row.notup {K : PySem.W.Frag} {H : Hp} {a : Addr} (h : Row K H a) : ∀ xs, ¬ Rd H a (.tup xs) := by
  obtain ⟨l, ns, i, s, r, h1, _⟩ := h
  exact not_rd_lst h1
theorem Row.same {K : PySem.W.Frag} {H H' : Hp} {a : Addr} (h : Row K H a) (s : Same H H') : Row K H' a := by
  obtain ⟨l, ns, i, z, r, h1, h2, h3⟩ := h
  refine ⟨l, ns, i, z, r, s _ _ h1, ?_, h3⟩
  rcases h2 with ⟨o, h2⟩ | h2
  · exact .inl ⟨o, s _ _ h2⟩
  · exact .inr h2
theorem Row.keep {K : PySem.W.Frag} {H H' : Hp} {a : Addr} (h : Row K H a) (c : Ch a H H') : Keep H H' := c.keep h.notup

section
variable {P : Program} {w : World} {K : PySem.W.Frag} {mg : Str → Option Value} {base : Heap}
/-! ### next_word -/
abbrev sNextW : Stmt := top 28
def spNextW (K : PySem.W.Frag) : Sp := fun vs H Q _ => ∃ (a b : Addr) (ns us : List Int) (fin : Fd.Found) (rs : Fd.Rules), vs = [.ref a, .ref b] ∧ Tu K H a ns ∧ Tu K H b us ∧ OkV ns ∧ Fd.Facts ns fin rs ∧ us.length ≤ 60 ∧ (∀ u ∈ us, 0 ≤ u ∧ u < (ns.length : Int)) ∧
  ∀ H', Same H H' → ((fin.map (·.2)).find? (fun v => Fd.ltW us v) = none → Q .non H') ∧ ∀ v p, (fin.map (·.2)).find? (fun v => Fd.ltW us v) = some v → Tu K H' p v → Q (.ref p) H'
theorem sc_nextW : FnScope ["values", "word", "told", "least"] ["values", "word"] (defScope sNextW) := ⟨rfl, rfl, rfl, by decide +kernel, rfl, by decide +kernel, by decide +kernel⟩
theorem c_nextW (D : Df K mg "next_word" sNextW) (T : Txt K mg) (CV : Cal P w K mg base 3 "need_values" (spNeedV K)) (CW : Cal P w K mg base 4 "need_word" (spNeedW K)) (C : Cal P w K mg base 4 "walk" (spWalk P w K)) : Cal P w K mg base 5 "next_word" (spNextW K) := by
  refine df_cal D sc_nextW (fun _ _ _ _ _ _ us hl => match us, hl with | [_, _], _ => rfl) (fun vs H Q E h => ?_) (fun f cdv A outer s H vs Q E hr h => ?_)
  · obtain ⟨a, b, ns, us, fin, rs, rfl, _⟩ := h
    rfl
  · obtain ⟨a, b, ns, us, fin, rs, rfl, ha, hb, ov, F, h60, hu, k⟩ := h
    refine ⟨_, pss_cons (ps_expr (pe_f CV hr (by decide) (by rfl) (pa_cons (pv 0) pa_nil))) (pss_cons (ps_expr (pe_f CW hr (by decide) (by rfl) (pa_cons (pv 0) (pa_cons (pv 1) pa_nil))))
      (pss_cons (ps_for PassesOwn.never rfl (pi_list (pe_callB (cr_sortedPw hr.units) (by rfl) T.sorted (by decide +kernel) (pa_cons (pe_lc (own := [("least", 3)]) (g := gName 3) (by rfl) sc_nextW.nd
          (pi_nv (pe_f C hr (by decide) (by rfl) (pa_cons (pv 0) pa_nil))) (blkOk_by (own := [("least", 3)]) (N := ["values", "word", "told", "least"]) (sc := defScope sNextW) (by decide +kernel))
          (fun _ _ _ _ _ => pg_name (i := 3) sc_nextW.nd rfl (Or.inl rfl)) (fun _ _ _ _ _ => pts_nil) (fun _ _ _ _ _ => pe_tp (pa_cons (pe_callB (r := RLen K) call_lenU (by rfl) T.len PySem.boot_len (pa_cons (pv 3) pa_nil)) (pa_cons (pv 3) pa_nil)))) pa_nil)))
          (pg_name (i := 2) sc_nextW.nd rfl (Or.inl rfl))
          (pss_one (ps_if (pt_cmpR (op_gtPw hr.units) (pv 2) (pe_tp (pa_cons (pe_callB call_lenU (by rfl) T.len PySem.boot_len (pa_cons (pv 1) pa_nil)) (pa_cons (pv 1) pa_nil))) (nomark _))
            (pss_one (ps_ret (pe_ix ix_tup (pv 2) pe_int (fun _ _ => rfl)))) pss_nil)))
      (pss_one (ps_ret pe_non)))), ?_⟩
    refine ⟨_, rfl, a, ns, rfl, ha, ov.l1, ov.l5, ov.v, fun H1 s1 => ?_⟩
    refine ⟨_, rfl, _, rfl, a, b, ns, us, rfl, Same.tu s1 ha, Same.tu s1 hb, h60, hu, fun H2 s2 => ?_⟩
    refine ⟨_, rfl, a, ns, fin, rfl, Same.tu (s1.trans s2) ha, ov.l5, F.walk, fun H3 d es s3 nd hd hE => ?_⟩
    have s13 := s1.trans (s2.trans s3)
    refine ⟨d, es, rfl, hd, fun o => ?_⟩
    have kd : Keep H3 (upd H3 d (.frz o (NdO P w d es))) := Keep.at_ (not_rd_ext hd)
    have ndH : H d = none := (s1.trans s2).free nd
    have sF : Same H (upd H3 d (.frz o (NdO P w d es))) := fun b u e => by
      rw [upd_ne (ne_of_none e ndH)]
      exact s13 b u e
    intro L nL
    have nLH : H L = none := sF.free nL
    refine lc_it walk_nv (fun i H' => H' d = some (.frz o (NdO P w d es)) ∧ Same H H' ∧ Fnd K H' es fin ∧ ∃ ps : List Addr, H' L = some (.lst (ps.map V.ref)) ∧ Paired (fun r (q : Fd.Dd × List Int) => Pw K H' r q.2) ps (fin.take i)) ?_ (fun i H' _ z => z.1) ?_ ?_
    · have sL := same_new (o := .lst []) nL
      exact ⟨sL _ _ upd_same, sF.trans sL, hE.keep (kd.trans (.same sL)), [], upd_same, .nil⟩
    · rintro i x H' H'' hi ⟨z1, z2, z3, ps, z4, z5⟩ ⟨rfl, e, he, rfl⟩
      obtain ⟨q, hq, r1, r2, r3⟩ := paired_at z3 he
      refine ⟨rfl, ?_⟩
      dsimp only [tYes]
      rw [if_pos rfl]
      refine ⟨_, rfl, e.2.2, _, rfl, .inr r3, _, rfl, ?_⟩
      refine tup_ok (zs := [.int (((q.2.map V.int).length : Nat) : Int), .ref e.2.2]) (by simp) fun H4 p4 s4 e4 => ?_
      rw [List.length_map] at e4
      have kL : Keep H4 (upd H4 L (.lst (ps.map V.ref ++ [.ref p4]))) := Keep.at_ (not_rd_lst (s4 _ _ z4))
      have ndL : d ≠ L := ne_of z1 z4 (fun z => nomatch z)
      refine ⟨_, s4 _ _ z4, ?_, ?_, ?_, (z3.keep (.same s4)).keep kL, ps ++ [p4], ?_, ?_⟩
      · rw [List.length_map, Paired.length z5]
        refine small (Nat.le_trans (List.length_take_le' _ _) ?_)
        have := F.size.1
        omega
      · rw [upd_ne ndL]
        exact s4 _ _ z1
      · intro c u eb
        rw [upd_ne (ne_of_none eb nLH)]
        exact s4 c u (z2 c u eb)
      · rw [upd_same, List.map_append]
        rfl
      · rw [take_snoc hq]
        exact paired_snoc (Paired.mapP z5 fun _ _ x => x.keep ((Keep.same s4).trans kL)) (Pw.keep ⟨e.2.2, SqT.of e4, Same.tu s4 r3⟩ kL)
    · rintro H5 ⟨z1, z2, z3, ps, z4, z5⟩
      rw [z3.length, List.take_length] at z5
      obtain ⟨bs, e1, e2, e3⟩ := pairs_bs z5
      have pw : bs.Pairwise (fun b c => Fd.ltW b.2 c.2 = true) := by
        have q := rising F.order
        rw [← e2, List.pairwise_map] at q
        exact q
      refine ⟨L, bs, rfl, SqL.of (by rw [e1]; exact z4), e3, pw, fun p6 n6 => ?_⟩
      have s6 := same_new (o := .lst (bs.map fun b => V.ref b.1)) n6
      refine ⟨p6, rfl, ⟨_, SqL.of upd_same⟩, for_list (K := K) (a := p6) (xs := bs.map fun b => V.ref b.1) (fun i σ' H' => ∃ v2, σ' = [some (.ref a), some (.ref b), v2, none] ∧ Same (upd H5 p6 (.lst (bs.map fun b => V.ref b.1))) H' ∧ ((bs.map (·.2)).drop i).find? (fun v => Fd.ltW us v) = (fin.map (·.2)).find? (fun v => Fd.ltW us v))
        ⟨none, rfl, Same.refl _, by rw [List.drop_zero, e2]⟩ (fun i σ' H' _ z => by obtain ⟨_, _, z, _⟩ := z; exact SqL.of (z _ _ upd_same)) ?_ ?_⟩
      · rintro i x σ' H' hx ⟨v2, rfl, y1, y2⟩
        obtain ⟨c, hc, rfl⟩ : ∃ c, bs[i]? = some c ∧ x = V.ref c.1 := by
          rw [List.getElem?_map] at hx
          cases e : bs[i]? with
          | none => rw [e] at hx; cases hx
          | some r => rw [e] at hx; exact ⟨r, rfl, (Option.some.inj hx).symm⟩
        have hc2 : (bs.map (·.2))[i]? = some c.2 := by rw [List.getElem?_map, hc]; rfl
        rw [drop_at hc2, List.find?_cons] at y2
        have sA : Same H H' := z2.trans (s6.trans y1)
        have pc : Pw K H' c.1 c.2 := (e3 c (List.mem_of_getElem? hc)).keep (.same (s6.trans y1))
        refine ⟨_, rfl, _, rfl, b, _, rfl, .inr (Same.tu sA hb), _, rfl, ?_⟩
        refine tup_ok (zs := [.int (((us.map V.int).length : Nat) : Int), .ref b]) (by simp) fun H7 p7 s7 e7 => ?_
        rw [List.length_map] at e7
        refine ⟨c.1, p7, c.2, us, rfl, rfl, pc.keep (.same s7), ⟨b, SqT.of e7, Same.tu (sA.trans s7) hb⟩, _, rfl, ?_⟩
        cases hlt : Fd.ltW us c.2 with
        | true =>
          rw [hlt] at y2
          refine iteT ?_
          obtain ⟨pp, t1, t2⟩ := pc.keep (.same s7)
          refine ⟨_, rfl, c.1, _, 1, .ref pp, rfl, rfl, t1, rfl, ?_⟩
          exact (k H7 (sA.trans s7)).2 c.2 pp y2.symm t2
        | false =>
          rw [hlt] at y2
          exact iteF ⟨_, rfl, y1.trans s7, y2⟩
      · rintro σ' H' ⟨v2, rfl, y1, y2⟩
        have hlen : (bs.map fun b => V.ref b.1).length = (bs.map (·.2)).length := by rw [List.length_map, List.length_map]
        rw [hlen, List.drop_length] at y2
        exact (k H' (z2.trans (s6.trans y1))).1 y2.symm

/-! ### _law_taken -/
abbrev sTaken : Stmt := top 30
def spTaken (K : PySem.W.Frag) : Sp := fun vs H Q _ => ∃ (a : Addr) (many : Int), vs = [.ref a, .int many] ∧ Row K H a ∧ 0 < many ∧ many < 1073741824 ∧ ∀ x H', 0 ≤ x → x < many → Ch a H H' → Row K H' a → Q (.int x) H'
theorem sc_taken : FnScope ["_law_row", "_law_many", "_law_found", "_law_cell"] ["_law_row", "_law_many"] (defScope sTaken) := ⟨rfl, rfl, rfl, by decide +kernel, rfl, by decide +kernel, by decide +kernel⟩
theorem c_taken (D : Df K mg "_law_taken" sTaken) (T : Txt K mg) : Cal P w K mg base 1 "_law_taken" (spTaken K) := by
  refine df_cal D sc_taken (fun _ _ _ _ _ _ us hl => match us, hl with | [_, _], _ => rfl) (fun vs H Q E h => ?_) (fun f cdv A outer s H vs Q E hr h => ?_)
  · obtain ⟨a, many, rfl, _⟩ := h
    rfl
  · obtain ⟨a, many, rfl, ⟨l, ns, i, z, r, h1, h2, hi, hz, hz2⟩, hm, hm2, k⟩ := h
    refine ⟨_, pss_cons (ps_if (pt_cmpR op_gt (pe_ix ix_list (pv 0) pe_int (fun _ _ => rfl)) pe_int (nomark _))
        (pss_cons (ps_set (i := 2) sc_taken.nd rfl (Or.inl rfl) (pe_op op_mod (pe_callTy call_int1 (by rfl) T.int (by decide +kernel) (pa_cons (pe_ix ix_list (pv 0) pe_int (fun _ _ => rfl)) pa_nil)) (pv 1)))
        (pss_cons (ps_asg (pe_op op_fdiv (pe_ix ix_list (pv 0) pe_int (fun _ _ => rfl)) (pv 1)) (pg_sub (pv 0) pe_int set_list))
        (pss_one (ps_ret (pv 2))))) pss_nil)
      (pss_cons (ps_asg (pe_op op_add (pe_ix ix_list (pv 0) pe_int (fun _ _ => rfl)) pe_int) (pg_sub (pv 0) pe_int set_list))
      (pss_cons (ps_if (pt_cmpR op_gt (pe_ix ix_list (pv 0) pe_int (fun _ _ => rfl)) (pe_callB call_lenU (by rfl) T.len PySem.boot_len (pa_cons (pe_ix ix_list (pv 0) pe_int (fun _ _ => rfl)) pa_nil)) (nomark _))
        (pss_cons (ps_asg (pe_op op_mod (pe_callTy call_int1 (by rfl) T.int (by decide +kernel) (pa_cons (pe_op op_add (pe_op op_mul (pe_ix ix_list (pv 0) pe_int (fun _ _ => rfl)) pe_int) pe_int) pa_nil)) pe_int) (pg_sub (pv 0) pe_int set_list))
        (pss_one (ps_ret (pe_op op_mod (pe_callTy call_int1 (by rfl) T.int (by decide +kernel) (pa_cons (pe_op op_fdiv (pe_ix ix_list (pv 0) pe_int (fun _ _ => rfl)) pe_int) pa_nil)) (pv 1))))) pss_nil)
      (pss_cons (ps_set (i := 3) sc_taken.nd rfl (Or.inl rfl) (pe_ix ix_list (pe_ix ix_list (pv 0) pe_int (fun _ _ => rfl)) (pe_op op_sub (pe_ix ix_list (pv 0) pe_int (fun _ _ => rfl)) pe_int) (fun _ _ => rfl)))
      (pss_cons (ps_asg (pe_op op_mod (pe_callTy call_int1 (by rfl) T.int (by decide +kernel) (pa_cons (pe_op op_add (pe_op op_add (pe_op op_mul (pe_ix ix_list (pv 0) pe_int (fun _ _ => rfl)) pe_int) (pv 3)) pe_int) pa_nil)) pe_int) (pg_sub (pv 0) pe_int set_list))
      (pss_cons (ps_if (pt_cmpR op_ge (pv 3) (pe_op op_pow pe_int pe_int) (nomark _)) (pss_one (ps_asg (pe_op op_fdiv (pv 3) (pv 1)) (pg_sub (pv 0) pe_int set_list))) pss_nil)
      (pss_one (ps_ret (pe_op op_mod (pe_callTy call_int1 (by rfl) T.int (by decide +kernel) (pa_cons (pv 3) pa_nil)) (pv 1))))))))), ?_⟩
    have L : ∀ {G : Hp} {i z r : Int}, G a = some (.lst [.ref l, .int i, .int z, .int r]) → SqL K G a [.ref l, .int i, .int z, .int r] := fun e => SqL.of e
    have at1 : ∀ (i' z' r' : Int), atI [V.ref l, .int i', .int z', .int r'] 1 = some (.int i') := fun _ _ _ => rfl
    have at2 : ∀ (i' z' r' : Int), atI [V.ref l, .int i', .int z', .int r'] 2 = some (.int z') := fun _ _ _ => rfl
    have at3 : ∀ (i' z' r' : Int), atI [V.ref l, .int i', .int z', .int r'] 3 = some (.int r') := fun _ _ _ => rfl
    have at0 : ∀ (i' z' r' : Int), atI [V.ref l, .int i', .int z', .int r'] 0 = some (.ref l) := fun _ _ _ => rfl
    have nfz : ∀ o v, H a ≠ some (.frz o v) := fun o v e => by rw [h1] at e; cases e
    have keepR : ∀ (i' z' r' : Int), 0 ≤ i' → 0 ≤ z' → z' < 2147483647 → Row K (upd H a (.lst [.ref l, .int i', .int z', .int r'])) a := fun i' z' r' y1 y2 y3 =>
      ⟨l, ns, i', z', r', upd_same, h2.upd nfz, y1, y2, y3⟩
    refine ⟨_, rfl, a, _, 3, _, rfl, rfl, L h1, at3 _ _ _, _, _, rfl, rfl, _, rfl, ?_⟩
    by_cases hr3 : 0 < r
    · refine (if_pos (decide_eq_true hr3)).mpr ?_
      refine ⟨_, rfl, a, _, 3, _, rfl, rfl, L h1, at3 _ _ _, .inl ⟨_, rfl, ?_⟩⟩
      refine ⟨_, rfl, _, _, rfl, rfl, hm, ?_⟩
      refine ⟨_, rfl, a, _, 3, _, rfl, rfl, L h1, at3 _ _ _, _, rfl, _, _, rfl, rfl, ⟨hm, hm2⟩, ?_⟩
      refine ⟨_, rfl, a, _, 3, 3, rfl, rfl, h1, rfl, ?_⟩
      refine ⟨_, rfl, ?_⟩
      exact k _ _ (Int.emod_nonneg _ (by omega)) (Int.emod_lt_of_pos _ hm) Ch.upd (keepR i z _ hi hz hz2)
    · refine (if_neg (by simp only [decide_eq_true_eq]; exact hr3)).mpr ?_
      refine ⟨_, rfl, a, _, 1, _, rfl, rfl, L h1, at1 _ _ _, _, _, rfl, rfl, ?_⟩
      refine ⟨_, rfl, a, _, 1, 1, rfl, rfl, h1, rfl, ?_⟩
      have g1 : (upd H a (.lst ([V.ref l, .int i, .int z, .int r].set 1 (.int (i + 1))))) a = some (.lst [.ref l, .int (i + 1), .int z, .int r]) := upd_same
      have sql1 : SqL K (upd H a (.lst ([V.ref l, .int i, .int z, .int r].set 1 (.int (i + 1))))) l (ns.map V.int) := (h2.upd nfz).sql
      refine ⟨_, rfl, a, _, 1, _, rfl, rfl, L g1, at1 _ _ _, ?_⟩
      refine ⟨_, rfl, a, _, 0, _, rfl, rfl, L g1, at0 _ _ _, l, _, rfl, .inl sql1, _, _, rfl, rfl, _, rfl, ?_⟩
      by_cases hc : (((ns.map V.int).length : Nat) : Int) < i + 1
      · refine (if_pos (decide_eq_true hc)).mpr ?_
        refine ⟨_, rfl, a, _, 2, _, rfl, rfl, L g1, at2 _ _ _, _, _, rfl, rfl, .inr ⟨by decide, by decide⟩, _, _, rfl, rfl, .inl ⟨_, rfl, ?_⟩⟩
        refine ⟨_, _, rfl, rfl, (show (0 : Int) < 2147483647 by decide), ?_⟩
        refine ⟨_, rfl, a, _, 2, 2, rfl, rfl, g1, rfl, ?_⟩
        rw [upd_upd]
        have g2 : (upd H a (.lst ([V.ref l, .int (i + 1), .int z, .int r].set 2 (.int ((z * 48271 + 11) % 2147483647))))) a = some (.lst [.ref l, .int (i + 1), .int ((z * 48271 + 11) % 2147483647), .int r]) := upd_same
        refine ⟨_, rfl, a, _, 2, _, rfl, rfl, L g2, at2 _ _ _, _, _, rfl, rfl, ⟨by decide, by decide⟩, .inl ⟨_, rfl, ?_⟩⟩
        refine ⟨_, rfl, _, _, rfl, rfl, hm, ?_⟩
        exact k _ _ (Int.emod_nonneg _ (by omega)) (Int.emod_lt_of_pos _ hm) Ch.upd (keepR _ _ _ (by omega) (Int.emod_nonneg _ (by decide)) (Int.emod_lt_of_pos _ (by decide)))
      · refine (if_neg (by simp only [decide_eq_true_eq]; exact hc)).mpr ?_
        rw [List.length_map] at hc
        have hlt : i.toNat < ns.length := by omega
        refine ⟨_, rfl, a, _, 0, _, rfl, rfl, L g1, at0 _ _ _, ?_⟩
        refine ⟨_, rfl, a, _, 1, _, rfl, rfl, L g1, at1 _ _ _, _, _, rfl, rfl, ?_⟩
        refine ⟨l, _, _, .int ns[i.toNat], rfl, rfl, sql1, atI_int (by omega) ?_, ?_⟩
        · have e : (i + 1 - 1).toNat = i.toNat := by omega
          rw [e]
          exact List.getElem?_eq_getElem hlt
        refine ⟨_, rfl, a, _, 2, _, rfl, rfl, L g1, at2 _ _ _, _, _, rfl, rfl, .inr ⟨by decide, by decide⟩, _, rfl, _, _, rfl, rfl, _, _, rfl, rfl, .inl ⟨_, rfl, ?_⟩⟩
        refine ⟨_, _, rfl, rfl, (show (0 : Int) < 2147483647 by decide), ?_⟩
        refine ⟨_, rfl, a, _, 2, 2, rfl, rfl, g1, rfl, ?_⟩
        rw [upd_upd]
        have g2 : ∀ y : Int, (upd H a (.lst ([V.ref l, .int (i + 1), .int z, .int r].set 2 (.int y)))) a = some (.lst [.ref l, .int (i + 1), .int y, .int r]) := fun _ => upd_same
        refine ⟨_, rfl, _, _, rfl, rfl, ⟨by decide, by decide, by decide⟩, _, _, rfl, rfl, _, rfl, ?_⟩
        by_cases hbig : ((10 : Int) ^ (18 : Int).toNat) ≤ ns[i.toNat]
        · refine (if_pos (decide_eq_true hbig)).mpr ?_
          refine ⟨_, rfl, _, rfl, _, _, rfl, rfl, ⟨hm, hm2⟩, ?_⟩
          refine ⟨_, rfl, a, _, 3, 3, rfl, rfl, g2 _, rfl, ?_⟩
          rw [upd_upd]
          refine ⟨_, rfl, .inl ⟨_, rfl, ?_⟩⟩
          refine ⟨_, rfl, _, _, rfl, rfl, hm, ?_⟩
          exact k _ _ (Int.emod_nonneg _ (by omega)) (Int.emod_lt_of_pos _ hm) Ch.upd (keepR _ _ _ (by omega) (Int.emod_nonneg _ (by decide)) (Int.emod_lt_of_pos _ (by decide)))
        · refine (if_neg (by simp only [decide_eq_true_eq]; exact hbig)).mpr ?_
          refine ⟨_, rfl, .inl ⟨_, rfl, ?_⟩⟩
          refine ⟨_, rfl, _, _, rfl, rfl, hm, ?_⟩
          exact k _ _ (Int.emod_nonneg _ (by omega)) (Int.emod_lt_of_pos _ hm) Ch.upd (keepR _ _ _ (by omega) (Int.emod_nonneg _ (by decide)) (Int.emod_lt_of_pos _ (by decide)))
end
end Fw
end
section
set_option Elab.async false
set_option linter.all false
set_option maxRecDepth 100000
set_option maxHeartbeats 8000000
/-! Fd13: the law's values, picks, words; alike. -/
namespace Fw
open PySem PySem.Spec PyProof.Rows L2

theorem Ch.free {a b : Addr} {H H' : Hp} (c : Ch a H H') (n : b ≠ a) (h : H' b = none) : H b = none := by
  cases q : H b with
  | none => rfl
  | some o =>
    rw [c b o n q] at h
    cases h
theorem Row.at_ {K : PySem.W.Frag} {H : Hp} {a : Addr} (h : Row K H a) : ∃ xs, H a = some (.lst xs) := let ⟨_, _, _, _, _, h1, _⟩ := h; ⟨_, h1⟩
theorem Row.ne {K : PySem.W.Frag} {H : Hp} {a p : Addr} (h : Row K H a) (n : H p = none) : p ≠ a := by
  obtain ⟨xs, e⟩ := h.at_
  exact (ne_of_none e n).symm
theorem nofrz_none {H : Hp} {p : Addr} (h : H p = none) : ∀ o v, H p ≠ some (.frz o v) := fun o v e => by
  rw [h] at e
  cases e
theorem nofrz_lst {H : Hp} {p : Addr} {xs : List V} (h : H p = some (.lst xs)) : ∀ o v, H p ≠ some (.frz o v) := fun o v e => by
  rw [h] at e
  cases e
/-- ints gathered in a new list at L while the row at a is drawn from -/
structure GJ (K : PySem.W.Frag) (H : Hp) (a L : Addr) (lo hi : Int) (i : Nat) (H1 : Hp) : Prop where
  ch : Ch a H H1
  row : Row K H1 a
  nL : H L = none
  ne : L ≠ a
  lst : ∃ ns : List Int, H1 L = some (.lst (ns.map V.int)) ∧ ns.length = i ∧ ∀ n ∈ ns, lo ≤ n ∧ n ≤ hi
section
variable {K : PySem.W.Frag} {H H0 H1 H2 : Hp} {a L : Addr} {lo hi x : Int} {i : Nat}
theorem GJ.start (c : Ch a H H0) (r : Row K H0 a) (n : H0 L = none) : GJ K H a L lo hi 0 (upd H0 L (.lst [])) :=
  ⟨c.trans (.same (same_new n)), r.same (same_new n), c.free (r.ne n) n, r.ne n, [], upd_same, rfl, fun _ z => nomatch z⟩
theorem GJ.step (j : GJ K H a L lo hi i H1) (c : Ch a H1 H2) (r : Row K H2 a) (h1 : lo ≤ x) (h2 : x ≤ hi) (hi2 : i < 5000) : ∃ acc, H2 L = some (.lst acc) ∧ acc.length < sizeLine ∧ GJ K H a L lo hi (i + 1) (upd H2 L (.lst (acc ++ [.int x]))) := by
  obtain ⟨ns, e1, e2, e3⟩ := j.lst
  have e4 : H2 L = some (.lst (ns.map V.int)) := c _ _ j.ne e1
  refine ⟨_, e4, by rw [List.length_map, e2]; exact small (by omega), fun b o n e => ?_, r.upd (nofrz_lst e4) j.ne, j.nL, j.ne, ns ++ [x], by rw [upd_same, List.map_append]; rfl, by rw [List.length_append, e2]; rfl, fun n hn => ?_⟩
  · rw [upd_ne (ne_of_none e j.nL)]
    exact c _ _ n (j.ch _ _ n e)
  · rcases List.mem_append.mp hn with hn | hn
    · exact e3 n hn
    · have := List.mem_singleton.mp hn
      subst this
      exact ⟨h1, h2⟩
end

section
variable {P : Program} {w : World} {K : PySem.W.Frag} {mg : Str → Option Value} {base : Heap}
/-! ### _law_values -/
abbrev sVals : Stmt := top 31
def spVals (K : PySem.W.Frag) : Sp := fun vs H Q _ => ∃ a : Addr, vs = [.ref a, .int 3, .int 3] ∧ Row K H a ∧ ∀ H' p ns, Ch a H H' → Row K H' a → Fd.okVals ns = true → Tu K H' p ns → Q (.ref p) H'
theorem sc_vals : FnScope ["_law_row", "_law_most", "_law_top", "_law_high", "_law_letter"] ["_law_row", "_law_most", "_law_top"] (defScope sVals) := ⟨rfl, rfl, rfl, by decide +kernel, rfl, by decide +kernel, by decide +kernel⟩
theorem c_vals (D : Df K mg "_law_values" sVals) (T : Txt K mg) (C : Cal P w K mg base 1 "_law_taken" (spTaken K)) : Cal P w K mg base 2 "_law_values" (spVals K) := by
  refine df_cal D sc_vals (fun _ _ _ _ _ _ us hl => match us, hl with | [_, _, _], _ => rfl) (fun vs H Q E h => ?_) (fun f cdv A outer s H vs Q E hr h => ?_)
  · obtain ⟨a, rfl, _⟩ := h
    rfl
  · obtain ⟨a, rfl, hrow, k⟩ := h
    refine ⟨_, pss_cons (ps_set (i := 3) sc_vals.nd rfl (Or.inr rfl) (pe_op op_add pe_int (pe_f C hr (by decide) (by rfl) (pa_cons (pv 0) (pa_cons (pv 2) pa_nil)))))
      (pss_one (ps_ret (pe_callTy call_tuple_of (by rfl) T.tuple (by decide +kernel) (pa_cons (pe_lc (own := [("_law_letter", 4)]) (g := gName 4) (by rfl) sc_vals.nd
        (pi_range1 (by rfl) T.range (pa_cons (pe_op op_add pe_int (pe_f C hr (by decide) (by rfl) (pa_cons (pv 0) (pa_cons (pv 1) pa_nil)))) pa_nil))
        (blkOk_by (own := [("_law_letter", 4)]) (N := ["_law_row", "_law_most", "_law_top", "_law_high", "_law_letter"]) (sc := defScope sVals) (by decide +kernel)) (fun _ _ _ _ _ => pg_name (i := 4) sc_vals.nd rfl (Or.inl rfl)) (fun _ _ _ _ _ => pts_nil)
        (fun _ _ _ _ _ => pe_op op_add pe_int (pe_f C hr (by decide) (by rfl) (pa_cons (pv 0) (pa_cons (pv 3) pa_nil))))) pa_nil)))), ?_⟩
    refine ⟨_, rfl, _, rfl, a, 3, rfl, hrow, by decide, by decide, fun x1 H1 x1a x1b c1 r1 => ?_⟩
    refine ⟨_, _, rfl, rfl, ?_⟩
    refine ⟨_, rfl, _, rfl, a, 3, rfl, r1, by decide, by decide, fun x2 H2 x2a x2b c2 r2 => ?_⟩
    refine ⟨_, _, rfl, rfl, 1 + x2, rfl, by omega, by omega, fun L nL => ?_⟩
    refine lc_range (lo := 0) (n := (1 + x2).toNat) (fun i H' => GJ K H a L 1 (1 + x1) i H') (GJ.start (c1.trans c2) r2 nL) ?_ ?_
    · intro i H' hi j
      refine ⟨rfl, ?_⟩
      dsimp only [tYes]
      rw [if_pos rfl]
      refine ⟨_, rfl, _, rfl, a, 1 + x1, rfl, j.row, by omega, by omega, fun x3 H3 x3a x3b c3 r3 => ?_⟩
      refine ⟨_, _, rfl, rfl, ?_⟩
      exact j.step c3 r3 (by omega) (by omega) (by omega)
    · intro H' j
      obtain ⟨ns, e1, e2, e3⟩ := j.lst
      refine ⟨L, _, rfl, .inl ⟨SqL.of e1, fun p np => ?_⟩⟩
      refine k _ p ns (j.ch.trans (.same (same_new np))) (j.row.same (same_new np)) ?_ (SqT.of upd_same)
      unfold Fd.okVals
      rw [Bool.and_eq_true]
      refine ⟨decide_eq_true (by omega), List.all_eq_true.mpr fun n hn => decide_eq_true ?_⟩
      have := e3 n hn
      omega

/-! ### _law_pick -/
abbrev sPick : Stmt := top 34
def spPick (K : PySem.W.Frag) : Sp := fun vs H Q _ => ∃ (a l : Addr) (xs : List V), vs = [.ref a, .ref l] ∧ Row K H a ∧ SqL K H l xs ∧ l ≠ a ∧ 1 ≤ xs.length ∧ xs.length ≤ 5000 ∧ ∀ (i : Nat) x H', xs[i]? = some x → Ch a H H' → Row K H' a → Q x H'
theorem sc_pick : FnScope ["_law_row", "_law_things"] ["_law_row", "_law_things"] (defScope sPick) := ⟨rfl, rfl, rfl, by decide +kernel, rfl, by decide +kernel, by decide +kernel⟩
theorem c_pick (D : Df K mg "_law_pick" sPick) (T : Txt K mg) (C : Cal P w K mg base 1 "_law_taken" (spTaken K)) : Cal P w K mg base 2 "_law_pick" (spPick K) := by
  refine df_cal D sc_pick (fun _ _ _ _ _ _ us hl => match us, hl with | [_, _], _ => rfl) (fun vs H Q E h => ?_) (fun f cdv A outer s H vs Q E hr h => ?_)
  · obtain ⟨a, l, xs, rfl, _⟩ := h
    rfl
  · obtain ⟨a, l, xs, rfl, hrow, hl, hne, h1, h5, k⟩ := h
    refine ⟨_, pss_one (ps_ret (pe_ix ix_list (pv 1) (pe_f C hr (by decide) (by rfl) (pa_cons (pv 0) (pa_cons (pe_callB call_lenU (by rfl) T.len PySem.boot_len (pa_cons (pv 1) pa_nil)) pa_nil))) (fun _ _ => rfl))), ?_⟩
    refine ⟨_, rfl, _, rfl, _, rfl, l, xs, rfl, .inl hl, a, _, rfl, hrow, by omega, by omega, fun x H1 xa xb c1 r1 => ?_⟩
    have hlt : x.toNat < xs.length := by omega
    refine ⟨l, xs, x, xs[x.toNat], rfl, rfl, c1.sql hl hne, ?_, k x.toNat _ H1 (List.getElem?_eq_getElem hlt) c1 r1⟩
    exact at_of (j := x.toNat) (by omega) (List.getElem?_eq_getElem hlt)

/-! ### _law_word -/
abbrev sWord : Stmt := top 35
def spWord (K : PySem.W.Frag) : Sp := fun vs H Q _ => ∃ (a : Addr) (m most : Int), vs = [.ref a, .int m, .int most] ∧ Row K H a ∧ 1 ≤ m ∧ m ≤ 5 ∧ 0 ≤ most ∧ most ≤ 100 ∧ ∀ H' p us, Ch a H H' → Row K H' a → (us.length : Int) ≤ most → (∀ u ∈ us, 0 ≤ u ∧ u < m) → Tu K H' p us → Q (.ref p) H'
theorem sc_word : FnScope ["_law_row", "_law_many", "_law_most", "_law_index"] ["_law_row", "_law_many", "_law_most"] (defScope sWord) := ⟨rfl, rfl, rfl, by decide +kernel, rfl, by decide +kernel, by decide +kernel⟩
theorem c_word (D : Df K mg "_law_word" sWord) (T : Txt K mg) (C : Cal P w K mg base 1 "_law_taken" (spTaken K)) : Cal P w K mg base 2 "_law_word" (spWord K) := by
  refine df_cal D sc_word (fun _ _ _ _ _ _ us hl => match us, hl with | [_, _, _], _ => rfl) (fun vs H Q E h => ?_) (fun f cdv A outer s H vs Q E hr h => ?_)
  · obtain ⟨a, m, most, rfl, _⟩ := h
    rfl
  · obtain ⟨a, m, most, rfl, hrow, m1, m5, b0, b100, k⟩ := h
    refine ⟨_, pss_one (ps_ret (pe_callTy call_tuple_of (by rfl) T.tuple (by decide +kernel) (pa_cons (pe_lc (own := [("_law_index", 3)]) (g := gName 3) (by rfl) sc_word.nd
        (pi_range1 (by rfl) T.range (pa_cons (pe_f C hr (by decide) (by rfl) (pa_cons (pv 0) (pa_cons (pe_op op_add (pv 2) pe_int) pa_nil))) pa_nil))
        (blkOk_by (own := [("_law_index", 3)]) (N := ["_law_row", "_law_many", "_law_most", "_law_index"]) (sc := defScope sWord) (by decide +kernel)) (fun _ _ _ _ _ => pg_name (i := 3) sc_word.nd rfl (Or.inl rfl)) (fun _ _ _ _ _ => pts_nil)
        (fun _ _ _ _ _ => pe_f C hr (by decide) (by rfl) (pa_cons (pv 0) (pa_cons (pv 1) pa_nil)))) pa_nil))), ?_⟩
    refine ⟨_, rfl, _, rfl, _, _, rfl, rfl, a, most + 1, rfl, hrow, by omega, by omega, fun x1 H1 x1a x1b c1 r1 => ?_⟩
    refine ⟨x1, rfl, by omega, by omega, fun L nL => ?_⟩
    refine lc_range (lo := 0) (n := x1.toNat) (fun i H' => GJ K H a L 0 (m - 1) i H') (GJ.start c1 r1 nL) ?_ ?_
    · intro i H' hi j
      refine ⟨rfl, ?_⟩
      dsimp only [tYes]
      rw [if_pos rfl]
      refine ⟨_, rfl, _, rfl, a, m, rfl, j.row, by omega, by omega, fun x3 H3 x3a x3b c3 r3 => ?_⟩
      exact j.step c3 r3 (by omega) (by omega) (by omega)
    · intro H' j
      obtain ⟨ns, e1, e2, e3⟩ := j.lst
      refine ⟨L, _, rfl, .inl ⟨SqL.of e1, fun p np => ?_⟩⟩
      refine k _ p ns (j.ch.trans (.same (same_new np))) (j.row.same (same_new np)) (by omega) (fun u hu => ?_) (SqT.of upd_same)
      have := e3 u hu
      omega

/-! ### _law_alike -/
abbrev sAlike : Stmt := top 36
def nAlike : List Str := ["_law_found", "_law_due", "_law_k"]
def spAlikeI : Sp := fun vs H Q _ => ∃ i : Int, vs = [.int i, .int i] ∧ ∀ H', Same H H' → Q (.bl true) H'
def spAlike (K : PySem.W.Frag) : Sp := fun vs H Q _ => (vs = [.non, .non] ∨ ∃ p q us, vs = [.ref p, .ref q] ∧ Tu K H p us ∧ Tu K H q us ∧ us.length ≤ 5000) ∧ ∀ H', Same H H' → Q (.bl true) H'
theorem sc_alike : FnScope ["_law_found", "_law_due", "_law_k"] ["_law_found", "_law_due"] (defScope sAlike) := ⟨rfl, rfl, rfl, by decide +kernel, rfl, by decide +kernel, by decide +kernel⟩
end
end Fw
end
section
set_option Elab.async false
set_option linter.all false
set_option maxRecDepth 100000
set_option maxHeartbeats 4000000
/-! Fd14: the plain law. -/
namespace Fd
open Fw (lex_irr ltW_asymm ltW_trans rising)
def OkW (n : Nat) (w : Wd) : Prop := ∀ u ∈ w, 0 ≤ u ∧ u < (n : Int)
theorem OkW.append {n : Nat} {u v : Wd} (h : OkW n u) (g : OkW n v) : OkW n (u ++ v) := fun x hx => (List.mem_append.mp hx).elim (h x) (g x)
theorem OkW.take {n : Nat} {u : Wd} (h : OkW n u) (k : Nat) : OkW n (u.take k) := fun x hx => h x (List.mem_of_mem_take hx)
theorem OkW.drop {n : Nat} {u : Wd} (h : OkW n u) (k : Nat) : OkW n (u.drop k) := fun x hx => h x (List.mem_of_mem_drop hx)
theorem okW_of {n : Nat} {w : Wd} (h : okLet n w = true) : OkW n w := fun u hu => of_decide_eq_true (List.all_eq_true.mp h u hu)
theorem mem_letters {n : Nat} {a : Int} (h : 0 ≤ a ∧ a < (n : Int)) : a ∈ letters n := by
  unfold letters
  refine List.mem_map.mpr ⟨a.toNat, List.mem_range.mpr (by omega), by omega⟩
theorem go_append (vs : Wd) : ∀ (u v : Wd) (d : Dd), deedGo vs d (u ++ v) = (deedGo vs d u).bind fun e => deedGo vs e v
  | [], v, d => rfl
  | a :: u, v, d => by
    have h1 : ∀ x : Wd, deedGo vs d (a :: x) = (match withLetter vs d a with | none => none | some e => deedGo vs e x) := fun x => by first | (rw [deedGo]; done) | (rw [deedGo]; cases withLetter vs d a <;> rfl)
    rw [List.cons_append, h1, h1]
    cases withLetter vs d a with
    | none => rfl
    | some e => exact go_append vs u v e
theorem deed_append (vs u v : Wd) : deedOf vs (u ++ v) = (deedOf vs u).bind fun e => deedGo vs e v := go_append vs u v nothing
theorem look_mem : ∀ {f : Found} {d : Dd} {w : Wd}, look f d = some w → (d, w) ∈ f
  | [], _, _, h => by cases h
  | p :: f, d, w, h => by
    unfold look at h
    by_cases e : p.1 = d
    · rw [if_pos e] at h
      cases h
      rw [← e]
      exact List.mem_cons_self ..
    · rw [if_neg e] at h
      exact List.mem_cons_of_mem _ (look_mem h)
theorem rev_ind {M : Wd → Prop} (h0 : M []) (h1 : ∀ w b, M w → M (w ++ [b])) (w : Wd) : M w := by
  have q : ∀ l : Wd, M l.reverse := by
    intro l
    induction l with
    | nil => exact h0
    | cons a l ih =>
      rw [List.reverse_cons]
      exact h1 _ _ ih
  have z := q w.reverse
  rw [List.reverse_reverse] at z
  exact z
section
variable {vs : Wd} {f : Found} {rs : Rules}
theorem go_ok (F : Facts vs f rs) : ∀ (w : Wd) (d : Dd) (v : Wd), look f d = some v → OkW vs.length w → ∃ e v', deedGo vs d w = some e ∧ look f e = some v'
  | [], d, v, h, _ => ⟨d, v, rfl, h⟩
  | a :: w, d, v, h, o => by
    obtain ⟨e, v', h1, h2⟩ := F.closed _ (look_mem h) a (mem_letters (o a (List.mem_cons_self ..)))
    obtain ⟨e2, v2, h3, h4⟩ := go_ok F w e v' h2 fun x hx => o x (List.mem_cons_of_mem _ hx)
    refine ⟨e2, v2, ?_, h4⟩
    unfold deedGo
    rw [h1]
    exact h3
theorem deed_ok (F : Facts vs f rs) {w : Wd} (o : OkW vs.length w) : ∃ d v, deedOf vs w = some d ∧ look f d = some v := go_ok F w nothing [] F.first o
theorem lw_ok (F : Facts vs f rs) {w : Wd} (o : OkW vs.length w) : ∃ v, lw vs f w = some v := by
  obtain ⟨d, v, h1, h2⟩ := deed_ok F o
  refine ⟨v, ?_⟩
  unfold lw
  rw [h1]
  exact h2
theorem lw_eq {w : Wd} {d : Dd} {v : Wd} (h1 : deedOf vs w = some d) (h2 : look f d = some v) : lw vs f w = some v := by
  unfold lw
  rw [h1]
  exact h2
theorem lw_inv {w v : Wd} (h : lw vs f w = some v) : ∃ d, deedOf vs w = some d ∧ look f d = some v := by
  unfold lw at h
  cases e : deedOf vs w with
  | none => rw [e] at h; cases h
  | some d => rw [e] at h; exact ⟨d, rfl, h⟩
/-- the least word of a least word is it -/
theorem lw_mem (F : Facts vs f rs) {p : Dd × Wd} (h : p ∈ f) : lw vs f p.2 = some p.2 := lw_eq (F.least p h).1 (F.least p h).2.1
theorem lw_least (F : Facts vs f rs) {w v : Wd} (h : lw vs f w = some v) : ∃ d, (d, v) ∈ f ∧ deedOf vs w = some d ∧ deedOf vs v = some d := by
  obtain ⟨d, h1, h2⟩ := lw_inv h
  have m := look_mem h2
  exact ⟨d, m, h1, (F.least _ m).1⟩
theorem lw_congr {u v : Wd} (h : deedOf vs u = deedOf vs v) : lw vs f u = lw vs f v := by
  unfold lw
  rw [h]
theorem left_one (F : Facts vs f rs) (w : Wd) : OkW vs.length w → ∀ a, 0 ≤ a ∧ a < (vs.length : Int) → ∀ v, lw vs f w = some v → deedOf vs (a :: w) = deedOf vs (a :: v) := by
  refine rev_ind (M := fun w => OkW vs.length w → ∀ a, 0 ≤ a ∧ a < (vs.length : Int) → ∀ v, lw vs f w = some v → deedOf vs (a :: w) = deedOf vs (a :: v)) ?_ ?_ w
  · intro _ a _ v h
    have e : lw vs f [] = some [] := F.first
    rw [e] at h
    cases h
    rfl
  · intro w b ih o a ha v h
    have ow : OkW vs.length w := fun x hx => o x (List.mem_append_left _ hx)
    have ob := o b (List.mem_append_right _ (List.mem_singleton.mpr rfl))
    obtain ⟨v', hv'⟩ := lw_ok F ow
    have i1 := ih ow a ha v' hv'
    obtain ⟨d, m, d1, d2⟩ := lw_least F hv'
    obtain ⟨u, u1, u2⟩ := F.left _ m a (mem_letters ha) b (mem_letters ob)
    have e1 : deedOf vs (w ++ [b]) = deedOf vs (v' ++ [b]) := by rw [deed_append, deed_append, d1, d2]
    have e2 : deedOf vs (a :: (w ++ [b])) = deedOf vs (a :: (v' ++ [b])) := by
      rw [← List.cons_append, ← List.cons_append, deed_append, deed_append, i1]
    rw [lw_congr e1, u1] at h
    cases h
    rw [e2]
    exact u2
theorem left_cong (F : Facts vs f rs) {l r : Wd} (ol : OkW vs.length l) (or_ : OkW vs.length r) (h : deedOf vs l = deedOf vs r) : ∀ x : Wd, OkW vs.length x → deedOf vs (x ++ l) = deedOf vs (x ++ r)
  | [], _ => h
  | a :: x, o => by
    have ox : OkW vs.length x := fun y hy => o y (List.mem_cons_of_mem _ hy)
    have ih := left_cong F ol or_ h x ox
    obtain ⟨v, hv⟩ := lw_ok F (ox.append ol)
    have e1 := left_one F _ (ox.append ol) a (o a (List.mem_cons_self ..)) v hv
    have e2 := left_one F _ (ox.append or_) a (o a (List.mem_cons_self ..)) v ((lw_congr ih).symm.trans hv)
    exact e1.trans e2.symm
theorem cong (F : Facts vs f rs) {l r x y : Wd} (ol : OkW vs.length l) (or_ : OkW vs.length r) (ox : OkW vs.length x) (h : deedOf vs l = deedOf vs r) : deedOf vs (x ++ l ++ y) = deedOf vs (x ++ r ++ y) := by
  rw [deed_append, deed_append vs (x ++ r), left_cong F ol or_ h x ox]

/-! ### words that no rule rewrites -/
def Irr (rs : Rules) (w : Wd) : Prop := ∀ r ∈ rs, ∀ i, i + r.1.length ≤ w.length → (w.drop i).take r.1.length ≠ r.1
theorem irr_least (F : Facts vs f rs) : ∀ (n : Nat) (w : Wd), w.length = n → OkW vs.length w → Irr rs w → ∃ d, (d, w) ∈ f := by
  intro n
  induction n using Nat.strongRecOn with
  | ind n ih =>
    intro w hw o irr
    rcases List.eq_nil_or_concat w with e | ⟨u, a, e⟩
    · subst e
      exact ⟨_, look_mem F.first⟩
    · have e' : w = u ++ [a] := by rw [e]; simp
      subst e'
      have lu : (u ++ [a]).length = u.length + 1 := by simp
      have ou : OkW vs.length u := fun x hx => o x (List.mem_append_left _ hx)
      have oa := o a (List.mem_append_right _ (List.mem_singleton.mpr rfl))
      obtain ⟨d, hd⟩ := ih u.length (by omega) u rfl ou fun r hr i hi q => irr r hr i (by omega) (by
        rw [List.drop_append_of_le_length (by omega), List.take_append_of_le_length (by rw [List.length_drop]; omega)]
        exact q)
      have lt : (u ++ [a]).tail.length = u.length := by rw [List.length_tail]; omega
      obtain ⟨d2, hd2⟩ := ih u.length (by omega) (u ++ [a]).tail lt (fun x hx => o x (List.mem_of_mem_tail hx)) fun r hr i hi q => irr r hr (i + 1) (by omega) (by
        rw [← List.drop_tail]
        exact q)
      obtain ⟨g, h, k1, k2, k3⟩ := F.known _ hd a (mem_letters oa)
      rcases k3 with k3 | k3 | k3
      · rw [k3] at k1
        obtain ⟨d3, m, _⟩ := lw_least F k1
        exact ⟨d3, m⟩
      · have z := lw_mem F hd2
        have z' : lw vs f (u ++ [a]).tail = some (u ++ [a]).tail := z
        rw [z'] at k2
        exact absurd (Option.some.inj k2).symm k3
      · exact absurd (by rw [List.drop_zero, List.take_length]) (irr _ k3 0 (by rw [Nat.zero_add]; exact Nat.le_refl _))

/-! ### the measure -/
theorem meas_append (u v : Wd) : meas (u ++ v) = meas u + meas v := by
  unfold meas
  rw [List.length_append, List.sum_append]
  omega
theorem sum_nonneg {n : Nat} : ∀ {w : Wd}, OkW n w → 0 ≤ w.sum
  | [], _ => Int.le_refl _
  | a :: w, o => by
    have h := o a (List.mem_cons_self ..)
    have q := sum_nonneg (w := w) fun x hx => o x (List.mem_cons_of_mem _ hx)
    rw [List.sum_cons]
    omega
theorem sum_le {n : Nat} : ∀ {w : Wd}, OkW n w → n ≤ 3 → w.sum ≤ 2 * (w.length : Int)
  | [], _, _ => Int.le_refl _
  | a :: w, o, hn => by
    have h := o a (List.mem_cons_self ..)
    have q := sum_le (w := w) (fun x hx => o x (List.mem_cons_of_mem _ hx)) hn
    rw [List.sum_cons, List.length_cons]
    omega
theorem meas_zero {n : Nat} {w : Wd} (o : OkW n w) (h : meas w ≤ 0) : w = [] := by
  have q := sum_nonneg o
  unfold meas at h
  exact List.length_eq_zero_iff.mp (by omega)
theorem meas_nonneg {n : Nat} {w : Wd} (o : OkW n w) : 0 ≤ meas w := by
  have q := sum_nonneg o
  unfold meas
  omega
theorem meas_le {n : Nat} {w : Wd} (o : OkW n w) (hn : n ≤ 3) (h : w.length ≤ 9) : meas w ≤ 45 := by
  have q := sum_le o hn
  unfold meas
  omega
/-- one step -/
theorem step_ok (F : Facts vs f rs) {w : Wd} {r : Wd × Wd} {i : Nat} (hr : r ∈ rs) (o : OkW vs.length w) (hi : i + r.1.length ≤ w.length) (hm : (w.drop i).take r.1.length = r.1) :
    OkW vs.length (w.take i ++ r.2 ++ w.drop (i + r.1.length)) ∧ lw vs f (w.take i ++ r.2 ++ w.drop (i + r.1.length)) = lw vs f w ∧ meas (w.take i ++ r.2 ++ w.drop (i + r.1.length)) < meas w ∧ (w.take i ++ r.2 ++ w.drop (i + r.1.length)).length ≤ w.length := by
  obtain ⟨h1, h2, h3, h4, h5, h6, _⟩ := F.falls r hr
  have e : w = w.take i ++ r.1 ++ w.drop (i + r.1.length) := by
    have z : w.drop i = r.1 ++ w.drop (i + r.1.length) := by
      have y := (List.take_append_drop r.1.length (w.drop i)).symm
      rw [hm, List.drop_drop] at y
      exact y
    rw [List.append_assoc, ← z, List.take_append_drop]
  have ot := o.take i
  have od := o.drop (i + r.1.length)
  refine ⟨(ot.append (okW_of h4)).append od, lw_congr ?_, ?_, ?_⟩
  · refine (cong F (okW_of h4) (okW_of h5) ot h1.symm).trans ?_
    rw [← e]
  · have q : meas w = meas (w.take i) + meas r.1 + meas (w.drop (i + r.1.length)) := by
      have y := congrArg meas e
      rw [meas_append, meas_append] at y
      exact y
    rw [meas_append, meas_append, q]
    omega
  · have q := congrArg List.length e
    rw [List.length_append, List.length_append] at q ⊢
    omega

/-! ### parts -/
theorem mem_prefixes : ∀ (w : Wd) (k : Nat), w.take k ∈ prefixes w
  | [], k => by simp [prefixes]
  | x :: w, 0 => by simp [prefixes]
  | x :: w, k + 1 => by
    unfold prefixes
    rw [List.take_succ_cons]
    exact List.mem_cons_of_mem _ (List.mem_map.mpr ⟨_, mem_prefixes w k, rfl⟩)
theorem mem_factors : ∀ (w : Wd) (i k : Nat), (w.drop i).take k ∈ factors w
  | [], i, k => by simp [factors]
  | x :: w, 0, k => by
    unfold factors
    exact List.mem_append_left _ (mem_prefixes (x :: w) k)
  | x :: w, i + 1, k => by
    unfold factors
    exact List.mem_append_right _ (mem_factors w i k)

/-! ### the next one -/
theorem next_find : ∀ {l : List Wd} {i : Nat} {w : Wd}, l.Pairwise (fun u v => ltW u v = true) → l[i]? = some w → l.find? (fun v => ltW w v) = l[i + 1]?
  | [], _, _, _, h => by simp at h
  | x :: r, 0, w, p, h => by
    have e : x = w := by simpa using h
    subst e
    have irr : ltW x x = false := by
      unfold ltW
      rw [if_pos rfl]
      exact lex_irr x
    rw [List.find?_cons, irr]
    cases r with
    | nil => rfl
    | cons y r =>
      have q := (List.pairwise_cons.mp p).1 y (List.mem_cons_self ..)
      rw [List.find?_cons, q]
      rfl
  | x :: r, i + 1, w, p, h => by
    obtain ⟨p1, p2⟩ := List.pairwise_cons.mp p
    have h' : r[i]? = some w := by simpa using h
    have q := ltW_asymm _ _ (p1 w (List.mem_of_getElem? h'))
    rw [List.find?_cons, q]
    rw [next_find p2 h']
    rfl
theorem at_once {l : List Wd} {i j : Nat} {u v : Wd} (p : l.Pairwise (fun u v => ltW u v = true)) (h : i < j) (hi : l[i]? = some u) (hj : l[j]? = some v) : u ≠ v := by
  intro e
  subst e
  have irr : ltW u u = false := by
    unfold ltW
    rw [if_pos rfl]
    exact lex_irr u
  have q := List.pairwise_iff_getElem.mp p i j (List.getElem?_eq_some_iff.mp hi).1 (List.getElem?_eq_some_iff.mp hj).1 h
  rw [(List.getElem?_eq_some_iff.mp hi).2, (List.getElem?_eq_some_iff.mp hj).2, irr] at q
  cases q
end
end Fd
end
section
set_option Elab.async false
set_option linter.all false
set_option maxRecDepth 100000
set_option maxHeartbeats 8000000
/-! Fd15: _law_alike, told of ints (level 1) and of words and None (level 2). -/
namespace Fw
open PySem PySem.Spec PyProof.Rows L2

theorem any_int {K : PySem.W.Frag} : PySem.W.kitAny K (.type "int") [.type "tuple", .type "list"] = some false :=
  kitAny_cons (b := false) (kit_ty (by decide +kernel)) (fun _ => kitAny_cons (b := false) (kit_ty (by decide +kernel)) (fun _ => rfl) (fun z => nomatch z)) (fun z => nomatch z)
theorem any_non {K : PySem.W.Frag} : PySem.W.kitAny K (.type "NoneType") [.type "tuple", .type "list"] = some false :=
  kitAny_cons (b := false) (kit_ty (by decide +kernel)) (fun _ => kitAny_cons (b := false) (kit_ty (by decide +kernel)) (fun _ => rfl) (fun z => nomatch z)) (fun z => nomatch z)
theorem any_tup {K : PySem.W.Frag} : PySem.W.kitAny K (.type "tuple") [.type "tuple", .type "list"] = some true :=
  kitAny_cons (b := true) (kit_ty (by decide +kernel)) (fun z => nomatch z) (fun _ => rfl)
theorem pair_tl : Paired ClsV [V.ty "tuple", V.ty "list"] [Value.type "tuple", Value.type "list"] := .cons (.ty _) (.cons (.ty _) .nil)
section
variable {P : Program} {w : World} {K : PySem.W.Frag} {mg : Str → Option Value} {base : Heap}
theorem c_alikeI (D : Df K mg "_law_alike" sAlike) (T : Txt K mg) : Cal P w K mg base 1 "_law_alike" spAlikeI := by
  refine df_cal D sc_alike (fun _ _ _ _ _ _ us hl => match us, hl with | [_, _], _ => rfl) (fun vs H Q E h => ?_) (fun f cdv A outer s H vs Q E hr h => ?_)
  · obtain ⟨i, rfl, _⟩ := h
    rfl
  · obtain ⟨i, rfl, k⟩ := h
    refine ⟨_, pss_cons (ps_if (pt_val (pe_callB call_isiT (by rfl) T.isi (by decide +kernel) (pa_cons (pv 1) (pa_cons (pe_tp (pa_cons (pe_bltn (v := .ty "tuple") (by rfl) T.tuple (by decide +kernel) rfl) (pa_cons (pe_bltn (v := .ty "list") (by rfl) T.list (by decide +kernel) rfl) pa_nil))) pa_nil))))
        pss_never pss_nil)
      (pss_cons (ps_if (pw_or (pt_cmpR op_isN (pv 1) pe_non (nomark _)) (pw_or1 (pt_val (pe_callB call_isi (by rfl) T.isi (by decide +kernel) (pa_cons (pv 1) (pa_cons (pe_bltn (v := .ty "str") (by rfl) T.str (by decide +kernel) rfl) pa_nil)))))).pt pss_never pss_nil)
      (pss_one (ps_ret (pe_and (pe_callB call_isi (by rfl) T.isi (by decide +kernel) (pa_cons (pv 0) (pa_cons (pe_bltn (v := .ty "int") (by rfl) T.int (by decide +kernel) rfl) pa_nil)))
        (pe_and (pe_cmpR op_eq (pe_callB call_isi (by rfl) T.isi (by decide +kernel) (pa_cons (pv 0) (pa_cons (pe_bltn (v := .ty "bool") (by rfl) T.bool (by decide +kernel) rfl) pa_nil))) (pe_callB call_isi (by rfl) T.isi (by decide +kernel) (pa_cons (pv 1) (pa_cons (pe_bltn (v := .ty "bool") (by rfl) T.bool (by decide +kernel) rfl) pa_nil))) (nomark _))
        (pe_one (pe_cmpR op_eq (pv 0) (pv 1) (nomark _)))))))), ?_⟩
    refine ⟨_, rfl, ?_⟩
    refine tup_ok (zs := [.ty "tuple", .ty "list"]) (by simp) fun H1 p1 s1 e1 => ?_
    refine ⟨_, p1, _, _, _, false, rfl, e1, pair_tl, .base (.int i), any_int, _, rfl, iteF ?_⟩
    refine ⟨_, rfl, rfl, _, rfl, (if_neg (by simp)).mpr ?_⟩
    refine ⟨_, rfl, _, _, _, _, false, rfl, .ty _, .base (.int i), kit_ty (by decide +kernel), _, rfl, iteF ?_⟩
    refine ⟨_, rfl, _, _, _, _, true, rfl, .ty _, .base (.int i), kit_ty (by decide +kernel), _, rfl, iteT ?_⟩
    refine ⟨_, rfl, _, _, _, _, false, rfl, .ty _, .base (.int i), kit_ty (by decide +kernel), _, rfl, _, _, _, _, false, rfl, .ty _, .base (.int i), kit_ty (by decide +kernel), rfl, _, rfl, iteT ?_⟩
    refine ⟨_, rfl, _, rfl, rfl, ?_⟩
    have e : decide (V.int i = V.int i) = true := by simp
    rw [e]
    exact k _ s1

theorem c_alike (D : Df K mg "_law_alike" sAlike) (T : Txt K mg) (C : Cal P w K mg base 1 "_law_alike" spAlikeI) : Cal P w K mg base 2 "_law_alike" (spAlike K) := by
  refine df_cal D sc_alike (fun _ _ _ _ _ _ us hl => match us, hl with | [_, _], _ => rfl) (fun vs H Q E h => ?_) (fun f cdv A outer s H vs Q E hr h => ?_)
  · obtain ⟨rfl | ⟨p, q, us, rfl, _⟩, _⟩ := h
    · rfl
    · rfl
  · obtain ⟨h, k⟩ := h
    refine ⟨_, pss_cons (ps_if (pt_val (pe_callB call_isiT (by rfl) T.isi (by decide +kernel) (pa_cons (pv 1) (pa_cons (pe_tp (pa_cons (pe_bltn (v := .ty "tuple") (by rfl) T.tuple (by decide +kernel) rfl) (pa_cons (pe_bltn (v := .ty "list") (by rfl) T.list (by decide +kernel) rfl) pa_nil))) pa_nil))))
        (pss_cons (ps_if (pw_or (pt_not (pt_val (pe_callB call_isiT (by rfl) T.isi (by decide +kernel) (pa_cons (pv 0) (pa_cons (pe_tp (pa_cons (pe_bltn (v := .ty "tuple") (by rfl) T.tuple (by decide +kernel) rfl) (pa_cons (pe_bltn (v := .ty "list") (by rfl) T.list (by decide +kernel) rfl) pa_nil))) pa_nil)))))
            (pw_or1 (pt_cmpR op_ne (pe_callB call_isi (by rfl) T.isi (by decide +kernel) (pa_cons (pv 0) (pa_cons (pe_bltn (v := .ty "list") (by rfl) T.list (by decide +kernel) rfl) pa_nil))) (pe_callB call_isi (by rfl) T.isi (by decide +kernel) (pa_cons (pv 1) (pa_cons (pe_bltn (v := .ty "list") (by rfl) T.list (by decide +kernel) rfl) pa_nil))) (nomark _)))).pt pss_never pss_nil)
        (pss_cons (ps_if (pt_cmpR op_ne (pe_callB call_lenU (by rfl) T.len PySem.boot_len (pa_cons (pv 0) pa_nil)) (pe_callB call_lenU (by rfl) T.len PySem.boot_len (pa_cons (pv 1) pa_nil)) (nomark _)) pss_never pss_nil)
        (pss_one (ps_ret (pe_cmpR (op_eqD hr.units) (pe_lc (own := [("_law_k", 2)]) (g := gName 2) (by rfl) sc_alike.nd (pi_range1 (by rfl) T.range (pa_cons (pe_callB call_lenU (by rfl) T.len PySem.boot_len (pa_cons (pv 1) pa_nil)) pa_nil))
            (blkOk_by (own := [("_law_k", 2)]) (N := nAlike) (sc := defScope sAlike) (by decide +kernel)) (fun _ _ _ _ _ => pg_name (i := 2) sc_alike.nd rfl (Or.inl rfl))
            (fun _ _ _ _ _ => pts_one (pt_not (pt_val (pe_f C hr (by decide) (by rfl) (pa_cons (pe_ix (r := rIxT K) ix_tup (pv 0) (pv 2) (fun _ _ => rfl)) (pa_cons (pe_ix (r := rIxT K) ix_tup (pv 1) (pv 2) (fun _ _ => rfl)) pa_nil))))))
            (fun _ _ _ _ _ => pv 2)) (pe_ls pa_nil) (nomark _)))))) pss_nil)
      (pss_cons (ps_if (pw_or (pt_cmpR op_isN (pv 1) pe_non (nomark _)) (pw_or1 (pt_val (pe_callB call_isi (by rfl) T.isi (by decide +kernel) (pa_cons (pv 1) (pa_cons (pe_bltn (v := .ty "str") (by rfl) T.str (by decide +kernel) rfl) pa_nil)))))).pt
        (pss_one (ps_ret (pe_and (pe_cmpR op_eq (pv 0) (pv 1) (nomark _)) (pe_one (pe_cmpR op_eq (pe_callB call_isi (by rfl) T.isi (by decide +kernel) (pa_cons (pv 0) (pa_cons (pe_bltn (v := .ty "str") (by rfl) T.str (by decide +kernel) rfl) pa_nil))) (pe_callB call_isi (by rfl) T.isi (by decide +kernel) (pa_cons (pv 1) (pa_cons (pe_bltn (v := .ty "str") (by rfl) T.str (by decide +kernel) rfl) pa_nil))) (nomark _)))))) pss_nil)
      pss_never), ?_⟩
    rcases h with rfl | ⟨p, q, us, rfl, hp, hq, h5⟩
    · refine ⟨_, rfl, ?_⟩
      refine tup_ok (zs := [.ty "tuple", .ty "list"]) (by simp) fun H1 p1 s1 e1 => ?_
      refine ⟨_, p1, _, _, _, false, rfl, e1, pair_tl, .base .non, any_non, _, rfl, iteF ?_⟩
      refine ⟨_, rfl, rfl, _, rfl, (if_pos (by simp)).mpr ?_⟩
      refine iteT ?_
      refine ⟨_, rfl, _, rfl, rfl, _, rfl, (if_pos (by simp)).mpr ?_⟩
      refine ⟨_, rfl, _, _, _, _, false, rfl, .ty _, .base .non, kit_ty (by decide +kernel), _, rfl, _, _, _, _, false, rfl, .ty _, .base .non, kit_ty (by decide +kernel), rfl, ?_⟩
      have e : decide (V.bl false = V.bl false) = true := by simp
      rw [e]
      exact k _ s1
    · refine ⟨_, rfl, ?_⟩
      refine tup_ok (zs := [.ty "tuple", .ty "list"]) (by simp) fun H1 p1 s1 e1 => ?_
      refine ⟨_, p1, _, _, _, true, rfl, e1, pair_tl, ty_tup (Same.tu s1 hq), any_tup, _, rfl, iteT ?_⟩
      refine ⟨_, rfl, ?_⟩
      refine tup_ok (zs := [.ty "tuple", .ty "list"]) (by simp) fun H2 p2 s2 e2 => ?_
      have t2 := s1.trans s2
      refine ⟨_, p2, _, _, _, true, rfl, e2, pair_tl, ty_tup (Same.tu t2 hp), any_tup, _, rfl, iteF ?_⟩
      refine ⟨_, rfl, _, _, _, _, false, rfl, .ty _, ty_tup (Same.tu t2 hp), kit_ty (by decide +kernel), _, rfl, _, _, _, _, false, rfl, .ty _, ty_tup (Same.tu t2 hq), kit_ty (by decide +kernel), rfl, _, rfl, (if_neg (by simp)).mpr ?_⟩
      refine ⟨_, rfl, p, _, rfl, .inr (Same.tu t2 hp), _, rfl, q, _, rfl, .inr (Same.tu t2 hq), rfl, _, rfl, (if_neg (by simp)).mpr ?_⟩
      refine ⟨_, rfl, q, _, rfl, .inr (Same.tu t2 hq), _, rfl, ?_, ?_, fun L nL => ?_⟩
      · show -(2 ^ 62) ≤ (((us.map V.int).length : Nat) : Int)
        omega
      · show (((us.map V.int).length : Nat) : Int) < 2 ^ 62
        rw [List.length_map]
        omega
      refine lc_range (lo := 0) (n := (us.map V.int).length) (fun i H' => Same H H' ∧ H' L = some (.lst [])) ⟨Same.new t2 nL, upd_same⟩ ?_ ?_
      · rintro i H' hi ⟨z1, z2⟩
        rw [List.length_map] at hi
        obtain ⟨u, hu⟩ : ∃ u, us[i]? = some u := ⟨_, List.getElem?_eq_getElem hi⟩
        have hu' : us[((0 : Int) + (i : Nat)).toNat]? = some u := by
          have e : ((0 : Int) + (i : Nat)).toNat = i := by omega
          rw [e]
          exact hu
        refine ⟨rfl, ?_⟩
        refine ⟨_, rfl, _, rfl, p, _, _, .int u, rfl, rfl, Same.tu z1 hp, atI_int (by omega) hu', ?_⟩
        refine ⟨_, rfl, _, rfl, q, _, _, .int u, rfl, rfl, Same.tu z1 hq, atI_int (by omega) hu', ?_⟩
        refine ⟨u, rfl, fun H3 s3 => ?_⟩
        refine ⟨_, rfl, ?_⟩
        show if (!true) = true then _ else _
        exact iteF ⟨z1.trans s3, s3 _ _ z2⟩
      · rintro H' ⟨z1, z2⟩
        refine lst_ok (zs := []) (by simp) fun le nle => ?_
        have s3 := same_new (o := .lst []) nle
        refine ⟨_, _, .lst (SqL.of (s3 _ _ z2)) .nil, .lst (SqL.of upd_same) .nil, shaped_nil, shaped_nil, ?_⟩
        rw [eqv_nn]
        exact k _ (z1.trans s3)
end
end Fw
end
section
set_option Elab.async false
set_option linter.all false
set_option maxRecDepth 100000
set_option maxHeartbeats 8000000
/-! Fd16: what stands while the law runs; helpers of its loops. -/
namespace Fw
open PySem PySem.Spec PyProof.Rows L2

/-- words at addresses, the rules, the least words, the draws' row -/
structure LJ (K : PySem.W.Frag) (a rl ll : Addr) (rps : List Addr) (rs : Fd.Rules) (ws : List Addr) (fin : Fd.Found) (E : List (Addr × List Int)) (H : Hp) : Prop where
  row : Row K H a
  tus : ∀ e ∈ E, Tu K H e.1 e.2
  rsq : SqL K H rl (rps.map V.ref)
  rne : rl ≠ a
  ru : Paired (RuR K H) rps rs
  lsq : SqL K H ll (ws.map V.ref)
  lne : ll ≠ a
  ws_ : Paired (fun r (q : Fd.Dd × List Int) => Tu K H r q.2) ws fin
section
variable {K : PySem.W.Frag} {a rl ll p : Addr} {rps ws : List Addr} {rs : Fd.Rules} {fin : Fd.Found} {E : List (Addr × List Int)} {H H' : Hp} {u : List Int}
theorem LJ.grow (j : LJ K a rl ll rps rs ws fin E H) (c : Ch a H H') (r : Row K H' a) : LJ K a rl ll rps rs ws fin E H' :=
  have k := j.row.keep c
  ⟨r, fun e he => (j.tus e he).keep k, c.sql j.rsq j.rne, j.rne, Paired.mapP j.ru fun _ _ x => x.keep k, c.sql j.lsq j.lne, j.lne, Paired.mapP j.ws_ fun _ _ x => x.keep k⟩
theorem LJ.same (j : LJ K a rl ll rps rs ws fin E H) (s : Same H H') : LJ K a rl ll rps rs ws fin E H' := j.grow (.same s) (j.row.same s)
theorem LJ.add (j : LJ K a rl ll rps rs ws fin E H) (h : Tu K H p u) : LJ K a rl ll rps rs ws fin ((p, u) :: E) H :=
  ⟨j.row, fun e he => (List.mem_cons.mp he).elim (fun q => by rw [q]; exact h) (j.tus e), j.rsq, j.rne, j.ru, j.lsq, j.lne, j.ws_⟩
theorem LJ.sub {E' : List (Addr × List Int)} (j : LJ K a rl ll rps rs ws fin E H) (h : ∀ e ∈ E', e ∈ E) : LJ K a rl ll rps rs ws fin E' H :=
  ⟨j.row, fun e he => j.tus e (h e he), j.rsq, j.rne, j.ru, j.lsq, j.lne, j.ws_⟩
theorem wds_dp : ∀ {ws : List Addr} {fin : Fd.Found}, Paired (fun r (q : Fd.Dd × List Int) => Tu K H r q.2) ws fin → DpAll K H (ws.map V.ref) ((fin.map (·.2)).map wdD)
  | _, _, .nil => .nil
  | _, _, .cons h t => .cons h.dp (wds_dp t)
theorem LJ.dp (j : LJ K a rl ll rps rs ws fin E H) : Dp K H (.ref ll) (.list ((fin.map (·.2)).map wdD)) := .lst j.lsq (wds_dp j.ws_)
theorem any_wd (u : List Int) (l : List (List Int)) : ((l.map wdD).any fun z => PyData.eqv z (wdD u)) = decide (u ∈ l) := by
  induction l with
  | nil => simp
  | cons x l ih =>
    rw [List.map_cons, List.any_cons, ih, eqv_wd, Bool.eq_iff_iff, Bool.or_eq_true, decide_eq_true_eq, decide_eq_true_eq, decide_eq_true_eq, List.mem_cons]
    exact ⟨fun z => z.imp (fun e => e.symm) id, fun z => z.imp (fun e => e.symm) id⟩
theorem get_ref {ws : List Addr} {i : Nat} {x : V} (h : (ws.map V.ref)[i]? = some x) : ∃ r, ws[i]? = some r ∧ x = V.ref r := by
  rw [List.getElem?_map] at h
  cases e : ws[i]? with
  | none => rw [e] at h; cases h
  | some r => rw [e] at h; exact ⟨r, rfl, (Option.some.inj h).symm⟩

/-- a step that may be taken: where, and the rule -/
def Tri (K : PySem.W.Frag) (here : List Int) (rs : Fd.Rules) (H : Hp) (t : Addr) : Prop := ∃ (k : Nat) (x y : Addr) (q : List Int × List Int), SqT K H t [.int (k : Nat), .ref x, .ref y] ∧ q ∈ rs ∧ k + q.1.length ≤ here.length ∧ (here.drop k).take q.1.length = q.1 ∧ Tu K H x q.1 ∧ Tu K H y q.2
theorem Tri.keep {here : List Int} {t : Addr} (h : Tri K here rs H t) (k : Keep H H') : Tri K here rs H' t :=
  let ⟨i, x, y, q, h1, h2, h3, h4, h5, h6⟩ := h; ⟨i, x, y, q, k.sqt h1, h2, h3, h4, h5.keep k, h6.keep k⟩
/-- the steps gathered in a new list -/
structure TJ (K : PySem.W.Frag) (here : List Int) (rs : Fd.Rules) (H : Hp) (L : Addr) (n : Nat) (D : Prop) (H' : Hp) : Prop where
  same : Same H H'
  nL : H L = none
  ts : ∃ ts : List Addr, H' L = some (.lst (ts.map V.ref)) ∧ (∀ t ∈ ts, Tri K here rs H' t) ∧ ts.length ≤ n ∧ (ts = [] → D)
theorem Same.tri {here : List Int} {t : Addr} (s : Same H H') (h : Tri K here rs H t) : Tri K here rs H' t := h.keep (.same s)
end
/-! ### the steps as data -/
def triD (q : Nat × (List Int × List Int)) : PyData := .tuple [.int (q.1 : Nat), wdD q.2.1, wdD q.2.2]
theorem lay_tri (q : Nat × (List Int × List Int)) : (triD q).canLay0 = true := by
  unfold triD
  simp [PyData.canLay0, PyData.canLayAll0, lay_wd]
theorem depth_tri (q : Nat × (List Int × List Int)) : (triD q).depth = 2 := by
  unfold triD
  simp [PyData.depth, PyData.depthAll, depth_wd]
theorem lay_tris : ∀ ds : List (Nat × (List Int × List Int)), PyData.canLayAll0 (ds.map triD) = true
  | [] => by simp [PyData.canLayAll0]
  | d :: ds => by
    rw [List.map_cons, PyData.canLayAll0, lay_tris ds, lay_tri]
    rfl
theorem depth_tris : ∀ ds : List (Nat × (List Int × List Int)), PyData.depthAll (ds.map triD) ≤ 2
  | [] => by simp [PyData.depthAll]
  | d :: ds => by
    have q := depth_tris ds
    rw [List.map_cons, PyData.depthAll, depth_tri]
    omega
theorem shaped_tris (ds : List (Nat × (List Int × List Int))) : SeqAt.shaped (.list (ds.map triD)) = true := by
  unfold SeqAt.shaped
  rw [PyData.canLay0, lay_tris, PyData.depth]
  have q := depth_tris ds
  rw [Bool.true_and, decide_eq_true_eq]
  omega
theorem tri_dp {K : PySem.W.Frag} {H : Hp} {here : List Int} {rs : Fd.Rules} : ∀ {ts : List Addr}, (∀ t ∈ ts, Tri K here rs H t) → ∃ ds : List (Nat × (List Int × List Int)), DpAll K H (ts.map V.ref) (ds.map triD)
  | [], _ => ⟨[], .nil⟩
  | t :: ts, h => by
    obtain ⟨ds, hd⟩ := tri_dp fun x hx => h x (List.mem_cons_of_mem _ hx)
    obtain ⟨k, x, y, q, h1, _, _, _, h5, h6⟩ := h t (List.mem_cons_self ..)
    exact ⟨(k, q) :: ds, .cons (.tup h1 (.cons (.int _) (.cons h5.dp (.cons h6.dp .nil)))) hd⟩
end Fw
end
section
set_option Elab.async false
set_option linter.all false
set_option maxRecDepth 100000
set_option maxHeartbeats 16000000
/-! Fd17: the law. -/
namespace Fw
open PySem PySem.Spec PyProof.Rows L2
section
variable {P : Program} {w : World} {K : PySem.W.Frag} {mg : Str → Option Value} {base : Heap}
abbrev sLaw : Stmt := top 37
def nLaw : List Str := ["_law_script", "_law_row", "_law_values_here", "_law_found", "_law_told", "_law_least", "_law_word_here", "_law_start", "_law_end", "_law_here", "_law_due", "_law_turn", "_law_some", "_law_left", "_law_right", "_law_at"]
theorem sc_law : FnScope nLaw ["_law_script"] (defScope sLaw) := ⟨rfl, rfl, rfl, by decide +kernel, rfl, by decide +kernel, by decide +kernel⟩
def spLaw (K : PySem.W.Frag) : Sp := fun vs H Q _ => ∃ (s : Addr) (ms : List Int), vs = [.ref s] ∧ Scr K H s (ms.map V.int) ∧ ∀ H', Q (.bl true) H'

/-- what follows a loop, told to its turns and to its end -/
theorem for_range_bk {lo : Int} {n : Nat} {g : TG} {tb : TS} {D : Ends} {σ : L2.St} {H : Hp} (Pv : Nat → L2.St → Hp → Prop) (Bk : L2.St → Hp → Prop) (hb : ∀ σ H, Bk σ H → D.nx σ H) (h0 : Pv 0 σ H)
    (hs : (∀ σ H, Bk σ H → D.nx σ H) → ∀ i σ H, i < n → Pv i σ H → g (.int (lo + i)) σ H fun σ2 H2 => tb { D with nx := Pv (i + 1), ct := Pv (i + 1), bk := D.nx } σ2 H2) (hd : ∀ σ H, Pv n σ H → Bk σ H) :
    ∃ W : Nat → Nat → L2.St → Hp → Prop, (∃ m, W 0 m σ H) ∧ ∀ i m σ H, W i m σ H →
      ((Itr lo n).stop i H ∧ D.nx σ H) ∨ ((Itr lo n).go i H ∧ ∃ N : L2.St → Hp → Prop, (∀ σ' H', N σ' H' → ∃ m', m' < m ∧ W (i + 1) m' σ' H') ∧ ∀ x H', (Itr lo n).yld i H x H' → g x σ H' fun σ2 H2 => tb { D with nx := N, ct := N, bk := D.nx } σ2 H2) :=
  for_range Pv h0 (hs hb) (fun σ H z => hb σ H (hd σ H z))

/-- at the loop's turns -/
def MJ (K : PySem.W.Frag) (a rl ll : Addr) (rps : List Addr) (rs : Fd.Rules) (ws : List Addr) (fin : Fd.Found) (E : List (Addr × List Int)) (S : Addr → L2.St → Prop) (ns due : List Int) (i : Nat) (σ : L2.St) (H : Hp) : Prop :=
  ∃ (hp : Addr) (here : List Int), S hp σ ∧ LJ K a rl ll rps rs ws fin E H ∧ Tu K H hp here ∧ Fd.OkW ns.length here ∧ here.length ≤ 9 ∧ Fd.lw ns fin here = some due ∧ Fd.meas here + (i : Nat) ≤ 80
/-- behind the loop -/
def BJ (K : PySem.W.Frag) (a rl ll : Addr) (rps : List Addr) (rs : Fd.Rules) (ws : List Addr) (fin : Fd.Found) (E : List (Addr × List Int)) (S : Addr → L2.St → Prop) (due : List Int) (σ : L2.St) (H : Hp) : Prop :=
  ∃ hp : Addr, S hp σ ∧ LJ K a rl ll rps rs ws fin E H ∧ Tu K H hp due
theorem df_ok {x : Str} {st : Stmt} {N ps : List Str} {k : Nat} {sp : Sp} {f : Addr} {fd : FuncData} (F : FunD K x x (defArgs st) (defBody st) (defScope st) [] [] f fd) (S : FnScope N ps (defScope st))
    (len : ∀ vs H Q E, sp vs H Q E → vs.length = ps.length)
    (hbody : ∀ (cdv : Value) (A : Around) (outer : List Env) (s : Shared) (H : Hp) (vs : List V) (Q : VK) (E : XK), Room k (A.deeper (envOfC x (defScope st) s.heap.objs.size f cdv)) → sp vs H Q E →
      ∃ t, PSs (cxOf CX0 P w K mg base N x (defScope st) f cdv A outer s H E).nox (defBody st) t ∧ t { nx := fun _ H' => Q .non H', rt := Q } (start N vs) H) : FnOk P w K mg base CX0 (k + 1) f fd ps sp :=
  F.ok S len fun cdv A outer s H vs Q E hr h => (hbody cdv A outer s H vs Q E hr h).imp fun t z => ⟨z.1.nox, z.2⟩
theorem ok_law {f : Addr} {fd : FuncData} (FU : FunD K "law" "law" (defArgs sLaw) (defBody sLaw) (defScope sLaw) [] [] f fd) (T : Txt K mg) (CTk : Cal P w K mg base 1 "_law_taken" (spTaken K)) (CVals : Cal P w K mg base 2 "_law_values" (spVals K)) (CLW : Cal P w K mg base 2 "_law_walk" (spLawWalk P w K))
    (CDs : Cal P w K mg base 5 "deeds" (spDeeds K)) (CRs : Cal P w K mg base 6 "rules" (spRulesOf K)) (CPk : Cal P w K mg base 2 "_law_pick" (spPick K)) (CWd : Cal P w K mg base 2 "_law_word" (spWord K))
    (CL : Cal P w K mg base 5 "least_word" (spLeast K)) (CN : Cal P w K mg base 5 "next_word" (spNextW K)) (CA : Cal P w K mg base 2 "_law_alike" (spAlike K)) : FnOk P w K mg base CX0 7 f fd ["_law_script"] (spLaw K) := by
  refine df_ok FU sc_law (fun vs H Q E h => ?_) (fun cdv A outer sh H vs Q E hr h => ?_)
  · obtain ⟨s, ms, rfl, _⟩ := h
    rfl
  · obtain ⟨s, ms, rfl, hsc, k⟩ := h
    have hu65 : (A.deeper (envOfC "law" (defScope sLaw) sh.heap.objs.size f cdv)).units + 65 < cLine := by
      have := hr.un
      omega
    refine ⟨_, pss_cons (ps_set (i := 1) sc_law.nd rfl (Or.inl rfl) (pe_ls (pa_cons (pv 0) (pa_cons pe_int (pa_cons pe_int (pa_cons pe_int pa_nil))))))
      (pss_cons (ps_set (i := 2) sc_law.nd rfl (Or.inl rfl) (pe_f CVals hr (by decide) (by rfl) (pa_cons (pv 1) (pa_cons pe_int (pa_cons pe_int pa_nil)))))
      (pss_cons (ps_if (pt_cmpR op_gt (pe_callB call_ndLen (by rfl) T.len PySem.boot_len (pa_cons (pe_f CLW hr (by decide) (by rfl) (pa_cons (pv 2) pa_nil)) pa_nil)) pe_int (nomark _)) (pss_one (ps_ret pe_bl)) pss_nil)
      (pss_cons (ps_par (i := 3) (j := 4) rfl sc_law.nd rfl rfl (by decide) rfl rfl (pa_cons (pe_f CDs hr (by decide) (by rfl) (pa_cons (pv 2) pa_nil)) (pa_cons (pe_f CRs hr (by decide) (by rfl) (pa_cons (pv 2) pa_nil)) pa_nil)) rfl)
      (pss_cons (ps_setLc (i := 5) (own := [("_law_word_here", 6), ("_law_here", 9)]) (g := gTup K 2 _) (by rfl) sc_law.nd rfl rfl (sw_true rfl rfl rfl (by decide +kernel)) (pi_list (pv 3)) (blkOk_by (own := [("_law_word_here", 6), ("_law_here", 9)]) (N := nLaw) (sc := defScope sLaw) (by decide +kernel))
        (fun _ _ _ _ _ => pg_tup rfl (pgs_cons (pg_name (i := 6) sc_law.nd rfl (Or.inl rfl)) (pgs_cons (pg_name (i := 9) sc_law.nd rfl (Or.inl rfl)) pgs_nil))) (fun _ _ _ _ _ => pts_nil) (fun _ _ _ _ _ => pv 6))
      (pss_cons (ps_set (i := 6) sc_law.nd rfl (Or.inl rfl) (pe_f CPk hr (by decide) (by rfl) (pa_cons (pv 1) (pa_cons (pv 5) pa_nil))))
      (pss_cons (ps_set (i := 7) sc_law.nd rfl (Or.inl rfl) (pe_f CTk hr (by decide) (by rfl) (pa_cons (pv 1) (pa_cons (pe_op op_add (pe_callB call_lenU (by rfl) T.len PySem.boot_len (pa_cons (pv 6) pa_nil)) pe_int) pa_nil))))
      (pss_cons (ps_set (i := 8) sc_law.nd rfl (Or.inl rfl) (pe_op op_add (pv 7) (pe_f CTk hr (by decide) (by rfl) (pa_cons (pv 1) (pa_cons (pe_op op_add (pe_op op_sub (pe_callB call_lenU (by rfl) T.len PySem.boot_len (pa_cons (pv 6) pa_nil)) (pv 7)) pe_int) pa_nil)))))
      (pss_cons (ps_if (pw_or (pt_cmpR (op_notInD hu65) (pe_slice sl_tupU (pv 6) (po_some (pv 7)) (po_some (pv 8))) (pv 5) (by with_unfolding_all rfl))
          (pw_or1 (pt_cmpR (op_neD hr.units) (pe_f CL hr (by decide) (by rfl) (pa_cons (pv 2) (pa_cons (pe_slice sl_tupU (pv 6) (po_some (pv 7)) (po_some (pv 8))) pa_nil))) (pe_slice sl_tupU (pv 6) (po_some (pv 7)) (po_some (pv 8))) (nomark _)))).pt pss_never pss_nil)
      (pss_cons (ps_set (i := 9) sc_law.nd rfl (Or.inr rfl) (pe_f CWd hr (by decide) (by rfl) (pa_cons (pv 1) (pa_cons (pe_callB call_lenU (by rfl) T.len PySem.boot_len (pa_cons (pv 2) pa_nil)) (pa_cons pe_int pa_nil)))))
      (pss_cons (ps_set (i := 10) sc_law.nd rfl (Or.inl rfl) (pe_f CL hr (by decide) (by rfl) (pa_cons (pv 2) (pa_cons (pv 9) pa_nil))))
      (pss_cons (ps_for PassesOwn.never rfl (pi_range1 (by rfl) T.range (pa_cons pe_int pa_nil)) (pg_name (i := 11) sc_law.nd rfl (Or.inl rfl))
        (pss_cons (ps_set (i := 12) sc_law.nd rfl (Or.inl rfl) (pe_ls pa_nil))
        (pss_cons (ps_for PassesOwn.never rfl (pi_list (pv 4)) (pg_tup rfl (pgs_cons (pg_name (i := 13) sc_law.nd rfl (Or.inr rfl)) (pgs_cons (pg_name (i := 14) sc_law.nd rfl (Or.inr rfl)) pgs_nil)))
          (pss_one (ps_set (i := 12) sc_law.nd rfl (Or.inl rfl) (pe_op op_cat (pv 12) (pe_lc (own := [("_law_at", 15)]) (g := gName 15) (by rfl) sc_law.nd
            (pi_range1 (by rfl) T.range (pa_cons (pe_op op_add (pe_op op_sub (pe_callB call_lenU (by rfl) T.len PySem.boot_len (pa_cons (pv 9) pa_nil)) (pe_callB call_lenU (by rfl) T.len PySem.boot_len (pa_cons (pv 13) pa_nil))) pe_int) pa_nil))
            (blkOk_by (own := [("_law_at", 15)]) (N := nLaw) (sc := defScope sLaw) (by decide +kernel)) (fun _ _ _ _ _ => pg_name (i := 15) sc_law.nd rfl (Or.inl rfl))
            (fun _ _ _ _ _ => pts_one (pt_cmpR (r := rEqD K) (op_eqD hr.units) (pe_slice (r := RSl K) sl_tupU (pv 9) (po_some (pv 15)) (po_some (pe_op op_add (pv 15) (pe_callB (r := RLen K) call_lenU (by rfl) T.len PySem.boot_len (pa_cons (pv 13) pa_nil))))) (pv 13) (by with_unfolding_all rfl)))
            (fun _ _ _ _ _ => pe_tp (pa_cons (pv 15) (pa_cons (pv 13) (pa_cons (pv 14) pa_nil)))))))))
        (pss_cons (ps_if (pt_cmpR (op_eqD hr.units) (pv 12) (pe_ls pa_nil) (nomark _)) (pss_one ps_break) pss_nil)
        (pss_cons (ps_asg (pe_f CPk hr (by decide) (by rfl) (pa_cons (pv 1) (pa_cons (pv 12) pa_nil))) (pg_tup rfl (pgs_cons (pg_name (i := 15) sc_law.nd rfl (Or.inl rfl)) (pgs_cons (pg_name (i := 13) sc_law.nd rfl (Or.inr rfl)) (pgs_cons (pg_name (i := 14) sc_law.nd rfl (Or.inr rfl)) pgs_nil)))))
        (pss_cons (ps_if (pt_cmpR (op_gePw hr.units) (pe_tp (pa_cons (pe_callB call_lenU (by rfl) T.len PySem.boot_len (pa_cons (pv 14) pa_nil)) (pa_cons (pv 14) pa_nil))) (pe_tp (pa_cons (pe_callB call_lenU (by rfl) T.len PySem.boot_len (pa_cons (pv 13) pa_nil)) (pa_cons (pv 13) pa_nil))) (nomark _)) pss_never pss_nil)
        (pss_one (ps_set (i := 9) sc_law.nd rfl (Or.inr rfl) (pe_op op_catU (pe_op op_catU (pe_slice sl_tupU (pv 9) po_none (po_some (pv 15))) (pv 14))
          (pe_slice sl_tupU (pv 9) (po_some (pe_op op_add (pv 15) (pe_callB call_lenU (by rfl) T.len PySem.boot_len (pa_cons (pv 13) pa_nil)))) po_none))))))))))
      (pss_cons (ps_set (i := 15) sc_law.nd rfl (Or.inl rfl) (pe_bm PySem.F.plainAttrs_list PySem.F.slot_list_index PySem.F.type_list_index (mt_indexD hu65) (pv 5) (pa_cons (pv 6) pa_nil)))
      (pss_one (ps_ret (pe_and (pe_cmpR (op_eqD hr.units) (pv 9) (pv 10) (nomark _)) (pe_one (pe_f CA hr (by decide) (by rfl) (pa_cons (pe_f CN hr (by decide) (by rfl) (pa_cons (pv 2) (pa_cons (pv 6) pa_nil)))
        (pa_cons (pe_ifExp (pt_cmpR op_lt (pe_op op_add (pv 15) pe_int) (pe_callB call_lenU (by rfl) T.len PySem.boot_len (pa_cons (pv 5) pa_nil)) (nomark _)) (pe_ix ix_list (pv 5) (pe_op op_add (pv 15) pe_int) (fun _ _ => rfl)) pe_non) pa_nil))))))))))))))))))), ?_⟩
    -- the row
    refine ⟨_, rfl, ?_⟩
    refine lst_ok (zs := [.ref s, .int 0, .int 6676, .int 0]) (by simp) fun a na => ?_
    have r0 : Row K (upd H a (.lst [.ref s, .int 0, .int 6676, .int 0])) a := ⟨s, ms, 0, 6676, 0, upd_same, hsc.upd (nofrz_none na), by decide, by decide, by decide⟩
    -- the values
    refine ⟨_, rfl, a, rfl, r0, fun H1 vp ns c1 r1 hok t1 => ?_⟩
    obtain ⟨fin, rs, F⟩ := Fd.facts hok
    obtain ⟨g, hg⟩ := F.law
    unfold Fd.okVals at hok
    rw [Bool.and_eq_true] at hok
    obtain ⟨hok1, hok2⟩ := hok
    have hlen := of_decide_eq_true hok1
    have ov : OkV ns := ⟨hlen.1, by omega, fun n hn => by
      have := of_decide_eq_true (List.all_eq_true.mp hok2 n hn)
      omega⟩
    -- the law's own walk
    refine ⟨_, rfl, vp, ns, g, rfl, t1, ov.l5, hg, fun H2 d es s2 nd hd hE => ?_⟩
    refine ⟨d, es, rfl, .inl hd, hE.keys, _, _, rfl, rfl, _, rfl, ?_⟩
    by_cases hbig : (150 : Int) < (es.length : Nat)
    · exact (if_pos (decide_eq_true hbig)).mpr (k _)
    refine (if_neg (by simp only [decide_eq_true_eq]; exact hbig)).mpr ?_
    -- deeds, rules
    have t2 := Same.tu s2 t1
    refine ⟨_, rfl, vp, ns, fin, rs, rfl, t2, ov, F, fun H3 fl dps s3 nfl hfl hD => ?_⟩
    refine ⟨_, rfl, vp, ns, fin, rs, rfl, Same.tu s3 t2, ov, F, fun H4 rl rps s4 nrl hrl hR => ?_⟩
    refine ⟨_, _, rfl, ?_⟩
    -- the least words
    refine ⟨_, rfl, fl, rfl, ⟨_, SqL.of (s4 _ _ hfl)⟩, fun ll nll => ?_⟩
    refine lc_list (K := K) (a := fl) (xs := dps.map V.ref) (fun i H' => Same H4 H' ∧ ∃ ws : List Addr, H' ll = some (.lst (ws.map V.ref)) ∧ Paired (fun r (q : Fd.Dd × List Int) => Tu K H' r q.2) ws (fin.take i)) ⟨same_new nll, [], upd_same, .nil⟩ (fun i H' _ z => SqL.of (z.1 _ _ (s4 _ _ hfl))) ?_ ?_
    · rintro i x H' hx ⟨z1, ws, z2, z3⟩
      obtain ⟨r, hr1, rfl⟩ := get_ref hx
      obtain ⟨q, hq, hdr⟩ := paired_at hD hr1
      obtain ⟨x1, y1, e1, e2, e3⟩ := hdr.keep (.same (s4.trans z1))
      refine ⟨r, _, rfl, e1, rfl, _, _, rfl, _, _, rfl, rfl, rfl, ?_⟩
      dsimp only [tYes]
      rw [if_pos rfl]
      have kL : Keep H' (upd H' ll (.lst (ws.map V.ref ++ [.ref x1]))) := Keep.at_ (not_rd_lst z2)
      refine ⟨_, rfl, _, z2, ?_, ?_, ws ++ [x1], ?_, ?_⟩
      · rw [List.length_map, Paired.length z3]
        refine small (Nat.le_trans (List.length_take_le' _ _) ?_)
        have := F.size.1
        omega
      · intro b u eb
        rw [upd_ne (ne_of_none eb nll)]
        exact z1 b u eb
      · rw [upd_same, List.map_append]
        rfl
      · rw [take_snoc hq]
        exact paired_snoc (Paired.mapP z3 fun _ _ x => Tu.keep x kL) (Tu.keep e2 kL)
    rintro H5 ⟨z1, ws, z2, z3⟩
    rw [List.length_map, Paired.length hD, List.take_length] at z3
    have s15 : Same H1 H5 := s2.trans (s3.trans (s4.trans z1))
    have r3 : Row K H3 a := r1.same (s2.trans s3)
    have j5 : LJ K a rl ll rps rs ws fin [(vp, ns)] H5 := ⟨r1.same s15, fun e he => by rw [List.mem_singleton.mp he]; exact Same.tu s15 t1, SqL.of (z1 _ _ hrl), r3.ne nrl, Paired.mapP hR fun _ _ x => x.keep (.same z1), SqL.of z2, (r3.same s4).ne nll, z3⟩
    -- a least word
    have hwl : ws.length = fin.length := Paired.length z3
    have hf1 : 1 ≤ fin.length := List.length_pos_of_mem (Fd.look_mem F.first)
    refine ⟨_, rfl, _, rfl, a, ll, _, rfl, j5.row, j5.lsq, j5.lne, by rw [List.length_map]; omega, by rw [List.length_map]; have := F.size.1; omega, fun i0 x0 H6 hx0 c6 r6 => ?_⟩
    obtain ⟨wp, hwp, rfl⟩ := get_ref hx0
    obtain ⟨q0, hq0, tq0⟩ := paired_at j5.ws_ hwp
    have j6 := (j5.add tq0).grow c6 r6
    have tw : ∀ {G : Hp}, LJ K a rl ll rps rs ws fin [(wp, q0.2), (vp, ns)] G → Tu K G wp q0.2 := fun j => j.tus (wp, q0.2) (by simp)
    have tv : ∀ {G : Hp}, LJ K a rl ll rps rs ws fin [(wp, q0.2), (vp, ns)] G → Tu K G vp ns := fun j => j.tus (vp, ns) (by simp)
    have hm0 := List.mem_of_getElem? hq0
    have fq := F.least q0 hm0
    have hl6 : (q0.2.map V.int).length ≤ 6 := by rw [List.length_map]; exact fq.2.2.2
    -- its part
    refine ⟨_, rfl, _, rfl, wp, _, rfl, .inr (tw j6), _, _, rfl, rfl, a, _, rfl, j6.row, by omega, by omega, fun st H7 st0 st1 c7 r7 => ?_⟩
    have j7 := j6.grow c7 r7
    refine ⟨_, rfl, _, rfl, _, rfl, wp, _, rfl, .inr (tw j7), _, rfl, _, _, rfl, rfl, _, _, rfl, rfl, a, _, rfl, j7.row, by omega, by omega, fun en H8 en0 en1 c8 r8 => ?_⟩
    have j8 := j7.grow c8 r8
    refine ⟨_, _, rfl, rfl, ?_⟩
    refine ⟨_, rfl, _, rfl, _, rfl, _, rfl, _, rfl, ?_⟩
    refine sl_ok (tw j8) fun H9 pp s9 e9 => ?_
    rw [cut_mid (by omega) (by omega), ints_drop, ints_take] at e9
    have j9 := j8.same s9
    have hpart := F.parts q0 hm0 _ (Fd.mem_factors q0.2 st.toNat ((st + en).toNat - st.toNat))
    refine ⟨_, rfl, _, _, Tu.dp e9, j9.dp, shaped_wd _, shaped_wds _, _, rfl, ?_⟩
    rw [any_wd, decide_eq_true hpart]
    refine (if_neg (by simp)).mpr ?_
    obtain ⟨qp, hqp, hqe⟩ := List.mem_map.mp hpart
    have lwp := Fd.lw_mem F hqp
    have fp := F.least qp hqp
    rw [hqe] at lwp fp
    refine ⟨_, rfl, _, rfl, _, rfl, _, rfl, _, rfl, _, rfl, ?_⟩
    refine sl_ok (tw j9) fun H10 p10 s10 e10 => ?_
    rw [cut_mid (by omega) (by omega), ints_drop, ints_take] at e10
    have j10 := j9.same s10
    refine ⟨vp, p10, ns, _, _, fin, rs, rfl, tv j10, e10, ov, F, by omega, okLet_of fp.2.2.1, lwp, fun H11 p11 s11 e11 => ?_⟩
    have j11 := j10.same s11
    refine ⟨_, rfl, _, rfl, _, rfl, _, rfl, _, rfl, ?_⟩
    refine sl_ok (tw j11) fun H12 p12 s12 e12 => ?_
    rw [cut_mid (by omega) (by omega), ints_drop, ints_take] at e12
    have j12 := j11.same s12
    refine ⟨_, _, (Same.tu s12 e11).dp, Tu.dp e12, shaped_wd _, shaped_wd _, _, rfl, ?_⟩
    rw [eqv_wd, decide_eq_true rfl]
    refine iteF ?_
    -- the other word
    refine ⟨_, rfl, _, rfl, vp, _, rfl, .inr (tv j12), a, _, 9, rfl, j12.row, by rw [List.length_map]; omega, by rw [List.length_map]; omega, by decide, by decide, fun H13 hp0 us c13 r13 hl0 hu0 th0 => ?_⟩
    rw [List.length_map] at hu0
    have j13 := j12.grow c13 r13
    obtain ⟨due, hdue⟩ := Fd.lw_ok F (w := us) hu0
    refine ⟨_, rfl, _, rfl, vp, hp0, ns, us, due, fin, rs, rfl, tv j13, th0, ov, F, by omega, hu0, hdue, fun H14 dp s14 t14 => ?_⟩
    have j14 := (j13.same s14).add t14
    have tw : ∀ {G : Hp}, LJ K a rl ll rps rs ws fin [(dp, due), (wp, q0.2), (vp, ns)] G → Tu K G wp q0.2 := fun j => j.tus (wp, q0.2) (by simp)
    have tv : ∀ {G : Hp}, LJ K a rl ll rps rs ws fin [(dp, due), (wp, q0.2), (vp, ns)] G → Tu K G vp ns := fun j => j.tus (vp, ns) (by simp)
    have td : ∀ {G : Hp}, LJ K a rl ll rps rs ws fin [(dp, due), (wp, q0.2), (vp, ns)] G → Tu K G dp due := fun j => j.tus (dp, due) (by simp)
    refine ⟨_, rfl, by decide, by decide, for_range_bk (lo := 0) (n := 80)
      (MJ K a rl ll rps rs ws fin [(dp, due), (wp, q0.2), (vp, ns)] (fun hp σ => ∃ v11 v12 v13 v14 v15 : Option V, σ = [some (.ref s), some (.ref a), some (.ref vp), some (.ref fl), some (.ref rl), some (.ref ll), some (.ref wp), some (.int st), some (.int (st + en)), some (.ref hp), some (.ref dp), v11, v12, v13, v14, v15]) ns due)
      (BJ K a rl ll rps rs ws fin [(dp, due), (wp, q0.2), (vp, ns)] (fun hp σ => ∃ v11 v12 v13 v14 v15 : Option V, σ = [some (.ref s), some (.ref a), some (.ref vp), some (.ref fl), some (.ref rl), some (.ref ll), some (.ref wp), some (.int st), some (.int (st + en)), some (.ref hp), some (.ref dp), v11, v12, v13, v14, v15]) due)
      ?_ ?_ ?_ ?_⟩
    · -- behind the loop
      rintro σ' HB ⟨hp, ⟨v11, v12, v13, v14, v15, rfl⟩, jb, thb⟩
      have hq2 : (fin.map (·.2))[i0]? = some q0.2 := by rw [List.getElem?_map, hq0]; rfl
      have asc := rising F.order
      refine ⟨_, rfl, .inl ⟨rfl, _, jb.lsq⟩, _, rfl, ll, .ref wp, wdD q0.2, _, i0, wdD q0.2, rfl, rfl, jb.dp, (tw jb).dp, shaped_wds _, shaped_wd _, by rw [List.getElem?_map, hq2]; rfl, by rw [eqv_wd]; exact decide_eq_true rfl, fun m z' hm hz' => ?_, ?_⟩
      · rw [List.getElem?_map] at hz'
        cases e : (fin.map (·.2))[m]? with
        | none => rw [e] at hz'; cases hz'
        | some u =>
          rw [e] at hz'
          cases hz'
          rw [eqv_wd]
          exact decide_eq_false (Fd.at_once asc hm e hq2)
      refine ⟨_, rfl, _, rfl, _, _, thb.dp, (td jb).dp, shaped_wd _, shaped_wd _, _, rfl, ?_⟩
      rw [eqv_wd, decide_eq_true rfl]
      refine iteT ?_
      have nx := Fd.next_find asc hq2
      refine ⟨_, rfl, _, rfl, vp, wp, ns, q0.2, fin, rs, rfl, tv jb, tw jb, ov, F, by omega, okLet_of fq.2.2.1, fun HC sC => ⟨fun hnone => ?_, fun v p hsome tp => ?_⟩⟩
      · have jc := jb.same sC
        rw [nx] at hnone
        have hno : ¬ ((i0 : Nat) : Int) + 1 < (((ws.map V.ref).length : Nat) : Int) := by
          have := List.getElem?_eq_none_iff.mp hnone
          rw [List.length_map] at this ⊢
          omega
        refine ⟨_, rfl, _, _, rfl, rfl, _, rfl, ll, _, rfl, .inl jc.lsq, _, _, rfl, rfl, _, rfl, ?_⟩
        refine (if_neg (by simp only [decide_eq_true_eq]; exact hno)).mpr ?_
        exact ⟨.inl rfl, fun HD _ => k HD⟩
      · have jc := jb.same sC
        rw [nx] at hsome
        have hlt := lt_of_get hsome
        have hyes : ((i0 : Nat) : Int) + 1 < (((ws.map V.ref).length : Nat) : Int) := by
          rw [List.length_map] at hlt ⊢
          omega
        obtain ⟨r, hr1⟩ : ∃ r, ws[i0 + 1]? = some r := ⟨_, List.getElem?_eq_getElem (by rw [List.length_map] at hlt; omega)⟩
        obtain ⟨q1, hq1, tq1⟩ := paired_at jc.ws_ hr1
        have e1 : q1.2 = v := by
          rw [List.getElem?_map, hq1] at hsome
          exact Option.some.inj hsome
        rw [e1] at tq1
        have hv : v.length ≤ 6 := e1 ▸ (F.least q1 (List.mem_of_getElem? hq1)).2.2.2
        refine ⟨_, rfl, _, _, rfl, rfl, _, rfl, ll, _, rfl, .inl jc.lsq, _, _, rfl, rfl, _, rfl, ?_⟩
        refine (if_pos (decide_eq_true hyes)).mpr ?_
        refine ⟨_, rfl, _, rfl, _, _, rfl, rfl, ll, _, _, .ref r, rfl, rfl, jc.lsq, at_of (j := i0 + 1) (by omega) (by rw [List.getElem?_map, hr1]; rfl), ?_⟩
        exact ⟨.inr ⟨p, r, v, rfl, tp, tq1, by omega⟩, fun HD _ => k HD⟩
    · -- before it
      have h9 : us.length ≤ 9 := by omega
      exact ⟨hp0, us, ⟨none, none, none, none, none, rfl⟩, j14, Same.tu s14 th0, hu0, h9, hdue, by have := Fd.meas_le (n := ns.length) (w := us) hu0 (by omega) h9; omega⟩
    · -- a turn
      rintro hb i σ' H' hi ⟨hp, here, ⟨v11, v12, v13, v14, v15, rfl⟩, j, th, ok, l9, lwh, hms⟩
      refine lst_ok (zs := []) (by simp) fun so0 nso0 => ?_
      have sA := same_new (o := .lst []) nso0
      refine ⟨_, rfl, rl, rfl, ⟨_, (j.same sA).rsq⟩, for_list (K := K) (a := rl) (xs := rps.map V.ref) (fun m σ2 H2 => ∃ (so : Addr) (ts : List Addr) (w13 w14 w15 : Option V),
        σ2 = [some (.ref s), some (.ref a), some (.ref vp), some (.ref fl), some (.ref rl), some (.ref ll), some (.ref wp), some (.int st), some (.int (st + en)), some (.ref hp), some (.ref dp), some (.int ((0 : Int) + (i : Nat))), some (.ref so), w13, w14, w15] ∧
        Same H' H2 ∧ H' so = none ∧ H2 so = some (.lst (ts.map V.ref)) ∧ (∀ t ∈ ts, Tri K here rs H2 t) ∧ ts.length ≤ 10 * m ∧ (ts = [] → ∀ r ∈ rs.take m, ∀ k, k + r.1.length ≤ here.length → (here.drop k).take r.1.length ≠ r.1))
        ⟨so0, [], v13, v14, v15, rfl, sA, nso0, upd_same, fun _ z => (nomatch z), Nat.le_refl _, fun _ r hr => by rw [List.take_zero] at hr; cases hr⟩ (fun m σ2 H2 _ z => by obtain ⟨_, _, _, _, _, _, z, _⟩ := z; exact (j.same z).rsq) ?_ ?_⟩
      · -- a rule
        rintro m x σ2 H2 hx ⟨so, ts, w13, w14, w15, rfl, s2, nso, hso, htri, hlen2, hno⟩
        obtain ⟨rp, hrp, rfl⟩ := get_ref hx
        obtain ⟨q, hq, hru⟩ := paired_at j.ru hrp
        have hmq := List.mem_of_getElem? hq
        have fl6 := F.falls q hmq
        have hmlt : m < rs.length := lt_of_get hq
        have hrs := F.size.2
        obtain ⟨lx, ry, e1, e2, e3⟩ := RuR.keep hru (.same s2)
        refine ⟨rp, _, rfl, e1, rfl, _, _, rfl, _, _, rfl, rfl, ?_⟩
        have hn10 : (((here.map V.int).length : Nat) : Int) - (((q.1.map V.int).length : Nat) : Int) + 1 ≤ 10 := by
          rw [List.length_map, List.length_map]
          omega
        refine ⟨_, rfl, _, rfl, hp, _, rfl, .inr (Same.tu s2 th), _, rfl, lx, _, rfl, .inr e2, _, _, rfl, rfl, _, _, rfl, rfl, _, rfl, ?_, ?_, fun L nL => ?_⟩
        · rw [List.length_map, List.length_map]
          have := fl6
          omega
        · omega
        refine lc_range (lo := 0) (n := ((((here.map V.int).length : Nat) : Int) - (((q.1.map V.int).length : Nat) : Int) + 1).toNat) (fun i' H3 => TJ K here rs H2 L i' (∀ k, k < i' → (here.drop k).take q.1.length ≠ q.1) H3)
          ⟨same_new nL, nL, [], upd_same, fun _ z => (nomatch z), Nat.le_refl _, fun _ k hk => absurd hk (Nat.not_lt_zero _)⟩ ?_ ?_
        · intro i' H3 hi' jt
          rw [List.length_map, List.length_map] at hi'
          have hfit : i' + q.1.length ≤ here.length := by omega
          obtain ⟨ts1, f1, f2, f3, f4⟩ := jt.ts
          refine ⟨rfl, ?_⟩
          refine ⟨_, rfl, _, rfl, _, rfl, _, rfl, _, rfl, lx, _, rfl, .inr (Same.tu jt.same e2), _, _, rfl, rfl, _, rfl, ?_⟩
          refine sl_ok (Same.tu (s2.trans jt.same) th) fun H4 p4 s4 e4 => ?_
          have z1 : ((0 : Int) + (i' : Nat)).toNat = i' := by omega
          have z2 : ((0 : Int) + (i' : Nat) + (((q.1.map V.int).length : Nat) : Int)).toNat - i' = q.1.length := by
            rw [List.length_map]
            omega
          rw [cut_mid (by omega) (by omega), z1, z2, ints_drop, ints_take] at e4
          refine ⟨_, rfl, _, _, Tu.dp e4, (Same.tu (jt.same.trans s4) e2).dp, shaped_wd _, shaped_wd _, _, rfl, ?_⟩
          rw [eqv_wd]
          by_cases hm : (here.drop i').take q.1.length = q.1
          · refine (if_pos (decide_eq_true hm)).mpr ?_
            refine ⟨_, rfl, _, rfl, _, rfl, ?_⟩
            refine tup_ok (zs := [.int ((0 : Int) + (i' : Nat)), .ref lx, .ref ry]) (by simp) fun H5 p5 s5 e5 => ?_
            have s45 := s4.trans s5
            have g1 := s45 _ _ f1
            have kL : Keep H5 (upd H5 L (.lst (ts1.map V.ref ++ [.ref p5]))) := Keep.at_ (not_rd_lst g1)
            refine ⟨_, g1, by rw [List.length_map]; exact small (by omega), ?_⟩
            refine ⟨fun b u eb => ?_, jt.nL, ts1 ++ [p5], by rw [upd_same, List.map_append]; rfl, fun t ht => ?_, by rw [List.length_append]; show ts1.length + 1 ≤ i' + 1; omega, fun e => ?_⟩
            · rw [upd_ne (ne_of_none eb jt.nL)]
              exact s45 b u (jt.same b u eb)
            · rcases List.mem_append.mp ht with ht | ht
              · exact (Same.tri s45 (f2 t ht)).keep kL
              · rw [List.mem_singleton.mp ht]
                refine Tri.keep ⟨i', lx, ry, q, ?_, hmq, hfit, hm, Same.tu (jt.same.trans s45) e2, Same.tu (jt.same.trans s45) e3⟩ kL
                have z3 : ((0 : Int) + (i' : Nat)) = (i' : Nat) := by omega
                rw [z3] at e5
                exact SqT.of e5
            · exact absurd e (by simp)
          · refine (if_neg (by rw [decide_eq_true_eq]; exact hm)).mpr ?_
            refine ⟨jt.same.trans s4, jt.nL, ts1, s4 _ _ f1, fun t ht => Same.tri s4 (f2 t ht), by omega, fun e k hk => ?_⟩
            by_cases hki : k = i'
            · rw [hki]
              exact hm
            · exact f4 e k (by omega)
        · intro H3 jt
          obtain ⟨ts1, f1, f2, f3, f4⟩ := jt.ts
          have hts1 : ts1.length ≤ 10 := by omega
          refine ⟨so, L, _, _, rfl, rfl, jt.same _ _ hso, f1, ?_, fun p np => ?_⟩
          · rw [List.length_map, List.length_map]
            exact Nat.le_of_lt (small (by omega))
          have sp := same_new (o := .lst (ts.map V.ref ++ ts1.map V.ref)) np
          refine ⟨p, ts ++ ts1, some (.ref lx), some (.ref ry), w15, rfl, (s2.trans jt.same).trans sp, (s2.trans jt.same).free np, by rw [upd_same, List.map_append], fun t ht => ?_, by rw [List.length_append]; omega, fun e r hr k hk => ?_⟩
          · rcases List.mem_append.mp ht with ht | ht
            · exact Same.tri (jt.same.trans sp) (htri t ht)
            · exact Same.tri sp (f2 t ht)
          · rw [take_snoc hq] at hr
            obtain ⟨e4, e5⟩ := List.append_eq_nil_iff.mp e
            rcases List.mem_append.mp hr with hr | hr
            · exact hno e4 r hr k hk
            · have := List.mem_singleton.mp hr
              subst this
              refine f4 e5 k ?_
              rw [List.length_map, List.length_map]
              omega
      · -- all rules seen
        rintro σ2 H2 ⟨so, ts, w13, w14, w15, rfl, s2, nso, hso, htri, hlen2, hno⟩
        rw [List.length_map, Paired.length j.ru, List.take_length] at hno
        rw [List.length_map, Paired.length j.ru] at hlen2
        have hrs := F.size.2
        obtain ⟨ds, hds⟩ := tri_dp htri
        refine ⟨_, rfl, ?_⟩
        refine lst_ok (zs := []) (by simp) fun le nle => ?_
        have s3 := same_new (o := .lst []) nle
        have hds2 : ∃ ds : List (Nat × (List Int × List Int)), DpAll K (upd H2 le (.lst [])) (ts.map V.ref) (ds.map triD) := tri_dp fun t ht => Same.tri s3 (htri t ht)
        obtain ⟨ds, hds⟩ := hds2
        refine ⟨_, _, .lst (SqL.of (s3 _ _ hso)) hds, .lst (SqL.of upd_same) .nil, shaped_tris _, shaped_nil, _, rfl, ?_⟩
        have j3 := j.same (s2.trans s3)
        cases ts with
        | nil =>
          cases ds with
          | cons d ds => cases hds
          | nil =>
            rw [List.map_nil, eqv_nn]
            refine iteT ?_
            refine hb _ _ ?_
            obtain ⟨d, hd2⟩ := Fd.irr_least F _ here rfl ok fun r hr k hk => hno rfl r hr k hk
            have e := Fd.lw_mem F hd2
            have e2 : Fd.lw ns fin here = some here := e
            rw [e2] at lwh
            cases lwh
            exact ⟨hp, ⟨_, _, _, _, _, rfl⟩, j3, Same.tu (s2.trans s3) th⟩
        | cons t0 ts =>
          cases ds with
          | nil => cases hds
          | cons d ds =>
            rw [List.map_cons, eqv_nil]
            refine iteF ?_
            have hso3 := s3 _ _ hso
            refine ⟨_, rfl, _, rfl, a, so, _, rfl, j3.row, SqL.of hso3, j.row.ne nso, by simp, by rw [List.length_map]; omega, fun jx x0 H4 hx0 c4 r4 => ?_⟩
            have j4 := j3.grow c4 r4
            have k4 : Keep (upd H2 le (.lst [])) H4 := j3.row.keep c4
            have th4 : Tu K H4 hp here := (Same.tu (s2.trans s3) th).keep k4
            obtain ⟨t, ht, rfl⟩ := get_ref hx0
            obtain ⟨kk, x, y, q, h1, h2, h3, h4, h5, h6⟩ := (Same.tri s3 (htri t (List.mem_of_getElem? ht))).keep k4
            obtain ⟨g1, g2, g3, g4, g5, g6, g7⟩ := F.falls q h2
            obtain ⟨n1, n2, n3, n4⟩ := Fd.step_ok F h2 ok h3 h4
            refine ⟨t, _, rfl, h1, rfl, _, _, rfl, _, _, rfl, _, _, rfl, rfl, ?_⟩
            refine ⟨_, rfl, y, _, rfl, .inr h6, _, rfl, ?_⟩
            refine tup_ok (zs := [.int (((q.2.map V.int).length : Nat) : Int), .ref y]) (by simp) fun H5 p5 s5 e5 => ?_
            refine ⟨_, rfl, x, _, rfl, .inr (Same.tu s5 h5), _, rfl, ?_⟩
            refine tup_ok (zs := [.int (((q.1.map V.int).length : Nat) : Int), .ref x]) (by simp) fun H6 p6 s6 e6 => ?_
            rw [List.length_map] at e5 e6
            refine ⟨p5, p6, q.2, q.1, rfl, rfl, ⟨y, Same.sqt s6 (SqT.of e5), Same.tu (s5.trans s6) h6⟩, ⟨x, SqT.of e6, Same.tu (s5.trans s6) h5⟩, _, rfl, ?_⟩
            rw [g2]
            refine iteF ?_
            have s46 := s5.trans s6
            refine ⟨_, rfl, _, rfl, _, rfl, ?_⟩
            refine sl_ok (Same.tu s46 th4) fun H7 p7 s7 e7 => ?_
            rw [cut_to (by omega), ints_take] at e7
            refine ⟨_, rfl, ?_⟩
            refine cat_ok e7 (Same.tu (s46.trans s7) h6) (by simp; omega) fun H8 p8 s8 e8 => ?_
            have s48 := s46.trans (s7.trans s8)
            refine ⟨_, rfl, _, rfl, _, rfl, x, _, rfl, .inr (Same.tu s48 h5), _, _, rfl, rfl, _, rfl, ?_⟩
            refine sl_ok (Same.tu s48 th4) fun H9 p9 s9 e9 => ?_
            have z2 : ((kk : Int) + (((q.1.map V.int).length : Nat) : Int)).toNat = kk + q.1.length := by
              rw [List.length_map]
              omega
            rw [cut_from (by omega), z2, ints_drop] at e9
            refine cat_ok (Same.sqt s9 e8) e9 (by simp; omega) fun H10 p10 s10 e10 => ?_
            have s4A := s48.trans (s9.trans s10)
            refine ⟨p10, here.take kk ++ q.2 ++ here.drop (kk + q.1.length), ⟨_, _, _, _, _, rfl⟩, j4.same s4A, ?_, n1, by omega, n2.trans lwh, by omega⟩
            unfold Tu
            rw [List.map_append, List.map_append]
            exact e10
    · -- no turn left
      rintro σ' HE ⟨hp, here, ⟨v11, v12, v13, v14, v15, rfl⟩, j, th, ok, l9, lwh, hms⟩
      have e := Fd.meas_zero ok (by omega)
      subst e
      have e2 : Fd.lw ns fin [] = some [] := F.first
      rw [e2] at lwh
      cases lwh
      exact ⟨hp, ⟨v11, v12, v13, v14, v15, rfl⟩, j, th⟩
end
end Fw
end
section
set_option Elab.async false
set_option linter.all false
set_option maxRecDepth 100000
set_option maxHeartbeats 0
/-! Fd18: the head's facts, the run of the top (printed by gen18.py). -/
namespace Fw
open PySem PySem.Spec PyProof.Rows L2

/-! ### the constant NOTHING -/
def emptyB (K : PySem.W.Frag) (p : Addr) : Bool := match K.lookup p with
  | some ⟨.type c, _, .seq its _, _⟩ => decide (c = "tuple") && its.isEmpty
  | _ => false
theorem emptyB_ok {K : PySem.W.Frag} {p : Addr} (h : emptyB K p = true) (H : Hp) : Tu K H p [] := by
  unfold emptyB at h
  cases q : K.lookup p with
  | none =>
    rw [q] at h
    cases h
  | some o =>
    obtain ⟨oc, od, dt, osl⟩ := o
    rw [q] at h
    cases oc with
    | type c =>
      cases dt with
      | seq its n =>
        obtain ⟨h1, h2⟩ := He.ba (show (decide (c = "tuple") && its.isEmpty) = true from h)
        have e : its = #[] := Array.isEmpty_iff.mp h2
        subst e
        exact .inr ⟨_, #[], n, q, congrArg Value.type (of_decide_eq_true h1), rfl, Nat.zero_le _, .nil⟩
      | _ => cases h
    | _ => cases dt <;> cases h
def nothAt (K : PySem.W.Frag) : Addr × Addr := match K.lookup (He.ga K "NOTHING") with
  | some ⟨_, _, .seq its _, _⟩ => (match its.toList with
    | [.ref p, .ref q] => (p, q)
    | _ => (0, 0))
  | _ => (0, 0)
def nothB (K : PySem.W.Frag) : Bool := He.tupB K "NOTHING" [.adr fun K => (nothAt K).1, .adr fun K => (nothAt K).2] && (emptyB K (nothAt K).1 && emptyB K (nothAt K).2)
theorem nothB_ok {K : PySem.W.Frag} (h : nothB K = true) : ∃ p q, K.lookup (He.ga K "NOTHING") ≠ none ∧ (∀ H, SqT K H (He.ga K "NOTHING") [.ref p, .ref q]) ∧ (∀ H, Tu K H p []) ∧ (∀ H, Tu K H q []) := by
  obtain ⟨h1, h2⟩ := He.ba h
  obtain ⟨h3, h4⟩ := He.ba h2
  refine ⟨_, _, fun e => ?_, fun H => He.tupB_ok h1 H, emptyB_ok h3, emptyB_ok h4⟩
  unfold He.tupB at h1
  rw [e] at h1
  cases h1

/-! ### the Hook: facts, defs, one more Bool -/
def obsF (n : Nat) (fa : List He.Fa) (fn : List He.DefD) (ex : PySem.W.Frag → Bool) (g : Addr → Option Obj) : He.AlD × Bool := (He.obsD fa fn (He.frG g (He.asD g n)), ex (He.frG g (He.asD g n)))
def hookF (n : Nat) (fa : List He.Fa) (fn : List He.DefD) (ex : PySem.W.Frag → Bool) : PySem.W.Hook where
  α := He.AlD × Bool
  obs := fun s => obsF n fa fn ex s.heap.get?
  val := fun _ => (He.valD fn, true)
  says := fun _ h => ∃ K : PySem.W.Frag, K.In h ∧ He.SaysD fa fn K ∧ ex K = true
  of := fun _ _ e => ⟨_, He.frG_in, congrArg (fun z : He.AlD × Bool => z.1) e, congrArg (fun z : He.AlD × Bool => z.2) e⟩
  keeps := fun _ _ _ ⟨K, hK, c⟩ k => ⟨K, PySem.W.Frag.In.keeps hK k, c⟩
theorem obsF_eq {n : Nat} {fa : List He.Fa} {fn : List He.DefD} {ex : PySem.W.Frag → Bool} {g : Addr → Option Obj} {s : Shared} (h : ∀ a, g a = s.heap.get? a) : obsF n fa fn ex g = (hookF n fa fn ex).obs s := by
  have e : g = s.heap.get? := funext h
  rw [e] <;> rfl
def d9 : He.DefD := ⟨("whole", none), "whole", "whole", defArgs (top 9), defBody (top 9), defScope (top 9), [], []⟩
def d10 : He.DefD := ⟨("within", none), "within", "within", defArgs (top 10), defBody (top 10), defScope (top 10), [], []⟩
def d11 : He.DefD := ⟨("tuple_of", none), "tuple_of", "tuple_of", defArgs (top 11), defBody (top 11), defScope (top 11), [], []⟩
def d12 : He.DefD := ⟨("need_values", none), "need_values", "need_values", defArgs (top 12), defBody (top 12), defScope (top 12), [], []⟩
def d13 : He.DefD := ⟨("wrong_letter", none), "wrong_letter", "wrong_letter", defArgs (top 13), defBody (top 13), defScope (top 13), [], []⟩
def d14 : He.DefD := ⟨("need_word", none), "need_word", "need_word", defArgs (top 14), defBody (top 14), defScope (top 14), [], []⟩
def d17 : He.DefD := ⟨("old_place_at", none), "old_place_at", "old_place_at", defArgs (top 17), defBody (top 17), defScope (top 17), [], []⟩
def d18 : He.DefD := ⟨("with_letter", none), "with_letter", "with_letter", defArgs (top 18), defBody (top 18), defScope (top 18), [], []⟩
def d19 : He.DefD := ⟨("deed_of", none), "deed_of", "deed_of", defArgs (top 19), defBody (top 19), defScope (top 19), [], []⟩
def d22 : He.DefD := ⟨("walk", none), "walk", "walk", defArgs (top 22), defBody (top 22), defScope (top 22), [], []⟩
def d23 : He.DefD := ⟨("walk_to", none), "walk_to", "walk_to", defArgs (top 23), defBody (top 23), defScope (top 23), [], []⟩
def d24 : He.DefD := ⟨("deeds", none), "deeds", "deeds", defArgs (top 24), defBody (top 24), defScope (top 24), [], []⟩
def d25 : He.DefD := ⟨("least_word", none), "least_word", "least_word", defArgs (top 25), defBody (top 25), defScope (top 25), [], []⟩
def d26 : He.DefD := ⟨("rules_of", none), "rules_of", "rules_of", defArgs (top 26), defBody (top 26), defScope (top 26), [], []⟩
def d27 : He.DefD := ⟨("rules", none), "rules", "rules", defArgs (top 27), defBody (top 27), defScope (top 27), [], []⟩
def d28 : He.DefD := ⟨("next_word", none), "next_word", "next_word", defArgs (top 28), defBody (top 28), defScope (top 28), [], []⟩
def d30 : He.DefD := ⟨("_law_taken", none), "_law_taken", "_law_taken", defArgs (top 30), defBody (top 30), defScope (top 30), [], []⟩
def d31 : He.DefD := ⟨("_law_values", none), "_law_values", "_law_values", defArgs (top 31), defBody (top 31), defScope (top 31), [], []⟩
def d32 : He.DefD := ⟨("_law_next", none), "_law_next", "_law_next", defArgs (top 32), defBody (top 32), defScope (top 32), [], []⟩
def d33 : He.DefD := ⟨("_law_walk", none), "_law_walk", "_law_walk", defArgs (top 33), defBody (top 33), defScope (top 33), [], []⟩
def d34 : He.DefD := ⟨("_law_pick", none), "_law_pick", "_law_pick", defArgs (top 34), defBody (top 34), defScope (top 34), [], []⟩
def d35 : He.DefD := ⟨("_law_word", none), "_law_word", "_law_word", defArgs (top 35), defBody (top 35), defScope (top 35), [], []⟩
def d36 : He.DefD := ⟨("_law_alike", none), "_law_alike", "_law_alike", defArgs (top 36), defBody (top 36), defScope (top 36), [], []⟩
def d37 : He.DefD := ⟨("law", none), "law", "law", defArgs (top 37), defBody (top 37), defScope (top 37), [], []⟩
def fn : List He.DefD := [d9, d10, d11, d12, d13, d14, d17, d18, d19, d22, d23, d24, d25, d26, d27, d28, d30, d31, d32, d33, d34, d35, d36, d37]
def fa : List He.Fa := [.glo "whole", .glo "within", .glo "tuple_of", .glo "need_values", .glo "wrong_letter", .glo "need_word", .glo "old_place_at", .glo "with_letter", .glo "deed_of", .glo "walk", .glo "walk_to", .glo "deeds", .glo "least_word", .glo "rules_of", .glo "rules", .glo "next_word", .glo "_law_taken", .glo "_law_values", .glo "_law_next", .glo "_law_walk", .glo "_law_pick", .glo "_law_word", .glo "_law_alike", .glo "law", .free "len", .free "range", .free "isinstance", .free "int", .free "bool", .free "tuple", .free "list", .free "str", .free "all", .free "sorted", .free "enumerate", .int "MOST_LETTERS" 5, .int "MOST_VALUE" 6, .int "MOST_WORD" 60, .int "MOST_DEEDS" 3000, .glo "NOTHING"]
def looseN : List Str := ["FadeError", "BadValues", "BadWord", "TooMany", "MOST_LETTERS", "MOST_VALUE", "MOST_WORD", "MOST_DEEDS", "NOTHING", "whole", "within", "tuple_of", "need_values", "wrong_letter", "need_word", "old_place_at", "with_letter", "deed_of", "walk", "walk_to", "deeds", "least_word", "rules_of", "rules", "next_word", "_law_taken", "_law_values", "_law_next", "_law_walk", "_law_pick", "_law_word", "_law_alike"]
abbrev R : PySem.W.OpenRow := PySem.W.OpenLaw.row PySem.Challenge.rw_fadewords_k76_whole_parts_of_least_words
abbrev hk : PySem.W.Hook := hookF 4 fa fn nothB
def ob (s : PySem.W.SharedT) : He.AlD × Bool := obsF 4 fa fn nothB (HandSHeadRun.getT s)
theorem ob_eq (s : PySem.W.SharedT) : ob s = hk.obs s.abs := obsF_eq (HandSHeadRun.getT_eq s)
theorem run (w : World) : HandSHeadRun.RunEq R (PySem.W.view R.prog [37]) hk ob 4000 looseN w := by
  intro os
  kernel_rfl
end Fw
end
section
set_option Elab.async false
set_option linter.all false
set_option maxRecDepth 100000
set_option maxHeartbeats 0
/-! Fd19: the facts joined, the end. -/
namespace Fw
open PySem PySem.Spec PyProof.Rows L2
theorem scr_of {K : PySem.W.Frag} {H : Hp} {a : Addr} {xs : List V} (hO : Only H) (h : SqL K H a xs) : Scr K H a xs := by
  rcases h with (h | ⟨o, h⟩) | h
  · rcases hO a with e | ⟨o, ys, e⟩
    · rw [h] at e
      cases e
    · rw [h] at e
      cases e
  · exact .inl ⟨o, h⟩
  · exact .inr fun H' => .inr h
theorem mk_df {K : PySem.W.Frag} {h : Heap} {mg : Str → Option Value} (X : K.In h) (G : h.Ns mainGlobals mg) (c : He.SaysD fa fn K) {x : Str} {j : Nat} (i : Nat)
    (hd : fn[i]? = some ⟨(x, none), x, x, defArgs (top j), defBody (top j), defScope (top j), [], []⟩) (hf : fa[i]? = some (.glo x)) : Df K mg x (top j) := by
  obtain ⟨fd, F⟩ := c.def_ i hd
  exact ⟨⟨_, fd, F, He.glo_ok X G (c.fact i hf)⟩⟩
theorem mk_int {K : PySem.W.Frag} {h : Heap} {mg : Str → Option Value} (X : K.In h) (G : h.Ns mainGlobals mg) (c : He.SaysD fa fn K) {x : Str} {v : Int} (i : Nat) (hf : fa[i]? = some (.int x v)) : ∃ u, mg x = some u ∧ RelV (.int v) u := by
  obtain ⟨t, e⟩ := He.int_ok X G (c.fact i hf)
  exact ⟨_, e, t, rfl⟩
theorem mk_txt {K : PySem.W.Frag} {h : Heap} {mg : Str → Option Value} (X : K.In h) (G : h.Ns mainGlobals mg) (c : He.SaysD fa fn K) (cn : nothB K = true) : Txt K mg where
  len := He.free_ok X G (c.fact 24 (f := .free "len") rfl)
  range := He.free_ok X G (c.fact 25 (f := .free "range") rfl)
  isi := He.free_ok X G (c.fact 26 (f := .free "isinstance") rfl)
  int := He.free_ok X G (c.fact 27 (f := .free "int") rfl)
  bool := He.free_ok X G (c.fact 28 (f := .free "bool") rfl)
  tuple := He.free_ok X G (c.fact 29 (f := .free "tuple") rfl)
  list := He.free_ok X G (c.fact 30 (f := .free "list") rfl)
  str := He.free_ok X G (c.fact 31 (f := .free "str") rfl)
  all := He.free_ok X G (c.fact 32 (f := .free "all") rfl)
  sorted := He.free_ok X G (c.fact 33 (f := .free "sorted") rfl)
  enum := He.free_ok X G (c.fact 34 (f := .free "enumerate") rfl)
  kL := mk_int X G c 35 rfl
  kV := mk_int X G c 36 rfl
  kW := mk_int X G c 37 rfl
  kD := mk_int X G c 38 rfl
  kN := ⟨_, ⟨_, He.glo_ok X G (c.fact 39 (f := .glo "NOTHING") rfl), rfl⟩, nothB_ok cn⟩
theorem facts {P : Program} {w : World} {K : PySem.W.Frag} {h : Heap} {mg : Str → Option Value} {f : Addr} (X : K.In h) (G : h.Ns mainGlobals mg) (hfa : mg ("law" : Str) = some (.ref f)) (c : He.SaysD fa fn K) (cn : nothB K = true) :
    ∃ fd : FuncData, (∀ (s : Shared) (v : Value), BindsTo s fd ⟨[v], []⟩ [("_law_script", v)]) ∧ ∀ base : Heap, K.In base → base.Ns mainGlobals mg → FnOk P w K mg base CX0 7 f fd ["_law_script"] (spLaw K) := by
  have T := mk_txt X G c cn
  have D9 : Df K mg "whole" sWhole := mk_df X G c 0 rfl rfl
  have D10 : Df K mg "within" sWithin := mk_df X G c 1 rfl rfl
  have D11 : Df K mg "tuple_of" sTupleOf := mk_df X G c 2 rfl rfl
  have D12 : Df K mg "need_values" sNeedV := mk_df X G c 3 rfl rfl
  have D13 : Df K mg "wrong_letter" sWrong := mk_df X G c 4 rfl rfl
  have D14 : Df K mg "need_word" sNeedW := mk_df X G c 5 rfl rfl
  have D17 : Df K mg "old_place_at" sOld := mk_df X G c 6 rfl rfl
  have D18 : Df K mg "with_letter" sWith := mk_df X G c 7 rfl rfl
  have D19 : Df K mg "deed_of" sDeedOf := mk_df X G c 8 rfl rfl
  have D22 : Df K mg "walk" sWalk := mk_df X G c 9 rfl rfl
  have D23 : Df K mg "walk_to" sWalkTo := mk_df X G c 10 rfl rfl
  have D24 : Df K mg "deeds" sDeeds := mk_df X G c 11 rfl rfl
  have D25 : Df K mg "least_word" sLeast := mk_df X G c 12 rfl rfl
  have D26 : Df K mg "rules_of" sRulesOf := mk_df X G c 13 rfl rfl
  have D27 : Df K mg "rules" sRules := mk_df X G c 14 rfl rfl
  have D28 : Df K mg "next_word" sNextW := mk_df X G c 15 rfl rfl
  have D30 : Df K mg "_law_taken" sTaken := mk_df X G c 16 rfl rfl
  have D31 : Df K mg "_law_values" sVals := mk_df X G c 17 rfl rfl
  have D32 : Df K mg "_law_next" sNext := mk_df X G c 18 rfl rfl
  have D33 : Df K mg "_law_walk" sLawWalk := mk_df X G c 19 rfl rfl
  have D34 : Df K mg "_law_pick" sPick := mk_df X G c 20 rfl rfl
  have D35 : Df K mg "_law_word" sWord := mk_df X G c 21 rfl rfl
  have D36 : Df K mg "_law_alike" sAlike := mk_df X G c 22 rfl rfl
  obtain ⟨fd, F⟩ := c.def_ 23 (d := d37) rfl
  have e := hfa.symm.trans (He.glo_ok X G (c.fact 23 (f := .glo "law") rfl))
  cases e
  have b := FunD.bindsA (ps := ["_law_script"]) F fun _ _ _ _ _ _ us hl => match us, hl with | [_], _ => rfl
  refine ⟨fd, fun s v => b s [v] rfl, fun base _ _ => ?_⟩
  have c1 : Cal P w K mg base 1 "whole" spWhole := c_whole D9 T
  have c2 := c_within D10 c1
  have c3 : Cal P w K mg base 1 "tuple_of" (spTupleOf K) := c_tupleOf D11 T
  have c4 := c_needV D12 T c3 c2
  have c5 := c_wrong D13 T c2
  have c6 := c_needW D14 T c3 c5
  have c7 : Cal P w K mg base 1 "old_place_at" (spOld K) := c_old D17 T
  have c8 := c_with D18 T c7
  have c9 := c_deedOf D19 T c8
  have c10 := c_WalkTo D23 T c8
  have c11 := c_walk D22 T c10
  have c12 := c_deeds D24 T c4 c11
  have c13 := c_least D25 T c4 c6 c11 c9
  have c14 := c_rulesOf D26 T c11 c9
  have c15 := c_rules D27 T c4 c14
  have c16 := c_nextW D28 T c4 c6 c11
  have c17 : Cal P w K mg base 1 "_law_taken" (spTaken K) := c_taken D30 T
  have c18 := c_vals D31 T c17
  have c19 : Cal P w K mg base 1 "_law_next" (spNext K) := c_next D32 T
  have c20 := c_LawWalk D33 T c19
  have c21 := c_pick D34 T c17
  have c22 := c_word D35 T c17
  have c23 : Cal P w K mg base 1 "_law_alike" spAlikeI := c_alikeI D36 T
  have c24 := c_alike D36 T c23
  exact ok_law F T c17 c18 c20 c12 c15 c21 c22 c13 c16 c24
end Fw
open PySem PySem.W PySem.Calls PyProof.Rows
theorem Fw.holds : PySem.Challenge.rw_fadewords_k76_whole_parts_of_least_words.Holds := by
  w_on; o_law
  refine HandSHeadRun.head_any (r := OpenLaw.row PySem.Challenge.rw_fadewords_k76_whole_parts_of_least_words) (q := view (OpenLaw.row PySem.Challenge.rw_fadewords_k76_whole_parts_of_least_words).prog [37]) (H := Fw.hk) (ob := Fw.ob) (M := 4000) (loose := Fw.looseN) (d := HandSHeadRun.topDef (OpenLaw.row PySem.Challenge.rw_fadewords_k76_whole_parts_of_least_words).prog 37) (kwd := []) Fw.ob_eq
    (by kernel_rfl) (fun s => by kernel_rfl) Fw.run (by kernel_rfl) (by kernel_rfl) (by kernel_rfl) (by rfl) (by first | assumption | decide +kernel) (by decide +kernel) ⟨rfl, rfl, rfl, rfl, rfl, by decide +kernel⟩ ?hw ?hc
  case hw => w_witness2
  case hc =>
    refine L2.walk_ofE (l := PySem.Challenge.rw_fadewords_k76_whole_parts_of_least_words) (n := 63) (k := 7) (x := "_law_script") (CX := L2.CX0) rfl (by decide) (by kernel_rfl) ⟨rfl, by decide, by decide⟩ ?F (fun _ _ _ _ z => z)
    intro w mg fa h Y G hmg0
    obtain ⟨K, KX, c, cn⟩ := Y
    have hmg : mg ("law" : PySem.Str) = some (.ref fa) := by
      have e : (HandSHeadRun.topDef (OpenLaw.row PySem.Challenge.rw_fadewords_k76_whole_parts_of_least_words).prog 37).name = ("law" : PySem.Str) := by kernel_rfl
      rw [← e]
      exact hmg0
    obtain ⟨fd, hb, hF⟩ := Fw.facts (P := (PySem.Challenge.rw_fadewords_k76_whole_parts_of_least_words).prog) (w := w) KX G hmg c cn
    exact ⟨K, fd, Fw.spLaw K, KX, hb, fun H a ns hl hO hS => ⟨a, ns, rfl, Fw.scr_of hO hS, fun _ => rfl⟩, hF⟩
end
theorem PySem.Challenge.cw_fadewords_k76_whole_parts_of_least_words_holds : PySem.Challenge.rw_fadewords_k76_whole_parts_of_least_words.Holds := by
  exact Fw.holds
